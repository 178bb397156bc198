import PyProof.Rows.All
import Wide.All
import OpenK.AllK
import Wide.FinOn
import HandS.ForMost
import HandS.ForExc
import HandS.Defaults
import HandS.Property
import HandS.ClsMeth
import HandS.IsInst
import HandS.Head0
import HandS.Head1
import HandS.Head2
import HandS.HeadEnd
import HandS.HeadHook1
import HandS.HeadHook2
import HandS.HeadHook3
import HandS.HeadNt
import HandS.Wide
import HandS.Flt
import HandS.Flow
import HandS.MakeKwOnly
import HandS.Star
import HandS.Zip
import HandS.Conv
import HandS.Style
import HandS.SlotsOwn
import HandS.NoneIn
import HandS.More
import HandS.RaiseMore
import PyProof.ReprRoads
import HandS.ExcInit
import HandS.ExcField
import HandS.Nested
import KE.KExcSuper
import KE.KSuper
import HandS.ExcIs
import HandS.EndTab
import HandS.NestedK
import KE.KCallOwn
import KE.KOpsOwn
import HandS.TupLe
import KE.GoesMore
import KE.GoesZip
import KE.GoesEnum
import PyProof.Draws
import HandS.Walk
import PyProof.ListRange
import PyProof.LongRange
import HandS.Iter
import PyProof.Rows.ChunkEnd
import HandS.FStrTup
import PyProof.FitsInt
import HandS.TryMany
import HandS.HotCalls
import HandS.Codes
import HandS.Lambda
import PyProof.TwoTypes
import PyProof.StrReplace2
import PySem.Challenge.RW_timerwheels_k01_shares_in_lowest_terms
set_option Elab.async false
set_option linter.all false
set_option maxRecDepth 100000
set_option maxHeartbeats 4000000
/-! Tw: a Hook of our own: facts by names, facts by Bools, defs at any address, tables with text keys -/
namespace Tw
open PySem PySem.Spec PyProof.Rows L2 He PySem.W

/-! ### addresses -/
/-- the getter of a property -/
def pa (K : Frag) (C : Addr) (f : PySem.Str) : Addr := match recIn K (ma K C f) "property" with
  | some (.ref g :: _) => g
  | _ => 0
/-- an item of a written dict -/
def dva (K : Frag) (d : Addr) (x : PySem.Str) : Addr := match nsIn K d x with
  | some (some (.ref a)) => a
  | _ => 0
/-! ### facts by Bools -/
def bProp (x f : PySem.Str) (K : Frag) : Bool := eqO (findIn K (.ref (ga K x)) f) (some (some (.ref (ma K (ga K x) f)))) &&
  (eqO (specialIn K (.ref (ma K (ga K x) f)) "__get__") (some (some (.builtin "property.__get__"))) && (decide (takesIn K (.ref (ma K (ga K x) f)) = some true) &&
    (match recIn K (ma K (ga K x) f) "property" with
      | some (.ref _ :: _) => true
      | _ => false)))
theorem prop_ok {K : Frag} {x f : PySem.Str} (h : bProp x f K = true) : PropOf K (ga K x) f (ma K (ga K x) f) (pa K (ga K x) f) := by
  obtain ⟨h1, h⟩ := ba h
  obtain ⟨h2, h⟩ := ba h
  obtain ⟨h3, h4⟩ := ba h
  refine ⟨eqO_ok h1, eqO_ok h2, of_decide_eq_true h3, ?_⟩
  unfold pa
  split at h4
  · rename_i g r e
    exact ⟨r, by rw [e]⟩
  · cases h4
def bFn (p : Frag → Addr) (K : Frag) : Bool := isFn K (.ref (p K)) && fnIn K (p K)
/-- what isinstance asks of a class -/
def bIsi (x : PySem.Str) (K : Frag) : Bool := eqO (findIn K (.ref (ga K x)) "__class__") (some (some (.builtin "object.__class__"))) &&
  (eqO (specialIn K (.builtin "object.__class__") "__get__") (some (some (.builtin "getset_descriptor.__get__"))) && (decide (takesIn K (.builtin "object.__class__") = some true) && decide (mroIn K (ga K x) (.type "object") = some true)))
structure IsiC (K : Frag) (C : Addr) : Prop where
  ca : findIn K (.ref C) "__class__" = some (some (.builtin "object.__class__"))
  cn : specialIn K (.builtin "object.__class__") "__get__" = some (some (.builtin "getset_descriptor.__get__"))
  ct : takesIn K (.builtin "object.__class__") = some true
  cm : mroIn K C (.type "object") = some true
theorem isi_ok {K : Frag} {x : PySem.Str} (h : bIsi x K = true) : IsiC K (ga K x) := by
  obtain ⟨h1, h⟩ := ba h
  obtain ⟨h2, h⟩ := ba h
  obtain ⟨h3, h4⟩ := ba h
  exact ⟨eqO_ok h1, eqO_ok h2, of_decide_eq_true h3, of_decide_eq_true h4⟩
/-- isinstance(an instance of x, y): what it answers -/
def bKit (t c : Frag → Value) (b : Bool) (K : Frag) : Bool := decide (kitOne K (t K) (c K) = some b)
theorem kit_ok {t c : Frag → Value} {b : Bool} {K : Frag} (h : bKit t c b K = true) : kitOne K (t K) (c K) = some b := of_decide_eq_true h
/-- a classmethod -/
def bCm (x m : PySem.Str) (K : Frag) : Bool := He5.wrapB K (ga K x) "classmethod" "classmethod.__get__" m && fnIn K (He5.wf K (ga K x) "classmethod" m)
theorem cm_ok {K : Frag} {x m : PySem.Str} (h : bCm x m K = true) : ClX.CMet K (ga K x) (.type "type") m (ma K (ga K x) m) (He5.wf K (ga K x) "classmethod" m) := by
  obtain ⟨h1, h2⟩ := ba h
  exact He5.cmet_of h1 h2
def bCread (x : PySem.Str) (K : Frag) : Bool := readsIn K (ga K x) (.type "type") && eqO (specialIn K (.ref (ga K x)) "__getattribute__") (some (some (.builtin "type.__getattribute__")))
theorem cread_ok {K : Frag} {x : PySem.Str} (h : bCread x K = true) : ClX.CRead K (ga K x) (.type "type") := by
  obtain ⟨h1, h2⟩ := ba h
  exact ⟨h1, eqO_ok h2⟩
/-- a tuple of texts, ints .. at an address -/
def bTup (p : Frag → Addr) (vs : List Dv) (K : Frag) : Bool := match K.lookup (p K) with
  | some ⟨.type c, _, .seq its _, _⟩ => decide (c = "tuple") && (decide (its.size ≤ sizeLine) && relAll (vs.map (Dv.v K)) its.toList)
  | _ => false
theorem tup_ok {K : Frag} {p : Frag → Addr} {vs : List Dv} (h : bTup p vs K = true) (H : Hp) : SqT K H (p K) (vs.map (Dv.v K)) := by
  unfold bTup at h
  split at h
  · rename_i c od its n sl q
    obtain ⟨h1, h2⟩ := ba h
    obtain ⟨h3, h4⟩ := ba h2
    exact .inr ⟨_, its, n, q, congrArg Value.type (of_decide_eq_true h1), rfl, of_decide_eq_true h3, relAll_ok h4⟩
  · cases h
/-- the written dict at p has at each of these keys an object -/
def bVal (p : Frag → Addr) (ks : List PySem.Str) (K : Frag) : Bool := ks.all fun x => eqO (nsIn K (p K) x) (some (some (.ref (dva K (p K) x))))
theorem val_ok {K : Frag} {p : Frag → Addr} {ks : List PySem.Str} (h : bVal p ks K = true) {x : PySem.Str} (hx : x ∈ ks) : nsIn K (p K) x = some (some (.ref (dva K (p K) x))) := eqO_ok (List.all_eq_true.mp h x hx)

/-! ### the Hook -/
abbrev AlM : Type := He.AlD × List (Option (List (Option (PySem.Str × Int))))
def obsM (fa : List Fa) (fb : List (Frag → Bool)) (fn : List He5.DefA) (ts : List He.Tab) (K : Frag) : AlM :=
  (((fa.all fun f => f.ok K) && ((fb.all fun f => f K) && fn.all fun d => d.ok K), fn.map fun d => He5.fnA K (d.at_ K)), ts.map fun t => dicW K (t.1 K))
def valM (fn : List He5.DefA) (ts : List He.Tab) (w : World) : AlM := ((true, fn.map He5.DefA.val), ts.map fun t => some (keysIn w.params t.2))
def SaysM (fa : List Fa) (fb : List (Frag → Bool)) (fn : List He5.DefA) (ts : List He.Tab) (w : World) (K : Frag) : Prop := obsM fa fb fn ts K = valM fn ts w
def obsMG (n : Nat) (fa : List Fa) (fb : List (Frag → Bool)) (fn : List He5.DefA) (ts : List He.Tab) (g : Addr → Option Obj) : AlM := obsM fa fb fn ts (frG g (He5.asA g n))
def hookM (n : Nat) (fa : List Fa) (fb : List (Frag → Bool)) (fn : List He5.DefA) (ts : List He.Tab) : Hook where
  α := AlM
  obs := fun s => obsMG n fa fb fn ts s.heap.get?
  val := fun w => valM fn ts w
  says := fun w h => ∃ K : Frag, K.In h ∧ SaysM fa fb fn ts w K
  of := fun _ _ e => ⟨_, frG_in, e⟩
  keeps := fun _ _ _ ⟨K, hK, c⟩ k => ⟨K, Frag.In.keeps hK k, c⟩
theorem obsMG_eq {n : Nat} {fa : List Fa} {fb : List (Frag → Bool)} {fn : List He5.DefA} {ts : List He.Tab} {g : Addr → Option Obj} {s : Shared} (h : ∀ a, g a = s.heap.get? a) : obsMG n fa fb fn ts g = (hookM n fa fb fn ts).obs s := by
  rw [show g = s.heap.get? from funext h]
  rfl
section
variable {fa : List Fa} {fb : List (Frag → Bool)} {fn : List He5.DefA} {ts : List He.Tab} {w : World} {K : Frag}
theorem SaysM.bits (c : SaysM fa fb fn ts w K) : (fa.all fun f => f.ok K) = true ∧ (fb.all fun f => f K) = true ∧ (fn.all fun d => d.ok K) = true := by
  have h : ((fa.all fun f => f.ok K) && ((fb.all fun f => f K) && fn.all fun d => d.ok K)) = true := congrArg (fun z : AlM => z.1.1) c
  obtain ⟨h1, h⟩ := ba h
  obtain ⟨h2, h3⟩ := ba h
  exact ⟨h1, h2, h3⟩
theorem SaysM.fact (c : SaysM fa fb fn ts w K) (i : Nat) {f : Fa} (h : fa[i]? = some f := by rfl) : f.ok K = true := List.all_eq_true.mp c.bits.1 f (List.mem_of_getElem? h)
theorem SaysM.bool (c : SaysM fa fb fn ts w K) (i : Nat) {f : Frag → Bool} (h : fb[i]? = some f := by rfl) : f K = true := List.all_eq_true.mp c.bits.2.1 f (List.mem_of_getElem? h)
theorem SaysM.def_ (c : SaysM fa fb fn ts w K) (i : Nat) {d : He5.DefA} (h : fn[i]? = some d := by rfl) : ∃ fd, FunD K d.name d.qual d.params d.body d.scope (d.dvs K) (d.kws K) (d.at_ K) fd := by
  have e : fn.map (fun d => He5.fnA K (d.at_ K)) = fn.map He5.DefA.val := congrArg (fun z : AlM => z.1.2) c
  have e2 : (fn.map fun d => He5.fnA K (d.at_ K))[i]? = (fn.map He5.DefA.val)[i]? := by rw [e]
  rw [List.getElem?_map, List.getElem?_map, h] at e2
  exact He5.DefA.funD (Option.some.inj e2) (List.all_eq_true.mp c.bits.2.2 d (List.mem_of_getElem? h))
theorem SaysM.tab (c : SaysM fa fb fn ts w K) (i : Nat) {t : He.Tab} (h : ts[i]? = some t := by rfl) : ∃ es n, KDict K w (t.1 K) es n := by
  have e : ts.map (fun t => dicW K (t.1 K)) = ts.map fun t => some (keysIn w.params t.2) := congrArg (fun z : AlM => z.2) c
  have e2 : (ts.map fun t => dicW K (t.1 K))[i]? = (ts.map fun t => some (keysIn w.params t.2))[i]? := by rw [e]
  rw [List.getElem?_map, List.getElem?_map, h] at e2
  exact dicW_ok (Option.some.inj e2)
end
end Tw
/-! Tw: the Hook over written addresses -/
namespace Tw
open PySem PySem.Spec PyProof.Rows L2 He PySem.W
def obsL (as : List Addr) (fa : List Fa) (fb : List (Frag → Bool)) (fn : List He5.DefA) (ts : List He.Tab) (g : Addr → Option Obj) : AlM := obsM fa fb fn ts (frG g as)
def hookL (as : List Addr) (fa : List Fa) (fb : List (Frag → Bool)) (fn : List He5.DefA) (ts : List He.Tab) : Hook where
  α := AlM
  obs := fun s => obsL as fa fb fn ts s.heap.get?
  val := fun w => valM fn ts w
  says := fun w h => ∃ K : Frag, K.In h ∧ SaysM fa fb fn ts w K
  of := fun _ _ e => ⟨_, frG_in, e⟩
  keeps := fun _ _ _ ⟨K, hK, c⟩ k => ⟨K, Frag.In.keeps hK k, c⟩
theorem obsL_eq {as : List Addr} {fa : List Fa} {fb : List (Frag → Bool)} {fn : List He5.DefA} {ts : List He.Tab} {g : Addr → Option Obj} {s : Shared} (h : ∀ a, g a = s.heap.get? a) : obsL as fa fb fn ts g = (hookL as fa fb fn ts).obs s := by
  rw [show g = s.heap.get? from funext h]
  rfl
/-- the written tuple at p has no names of its own -/
def bNod (p : Frag → Addr) (K : Frag) : Bool := match K.lookup (p K) with
  | some ⟨.type c, none, _, _⟩ => decide (c = "tuple")
  | _ => false
theorem nod_ok {K : Frag} {p : Frag → Addr} (h : bNod p K = true) : ∃ o, K.lookup (p K) = some o ∧ o.cls = .type "tuple" ∧ o.dict = none := by
  unfold bNod at h
  split at h
  · rename_i c d sl q
    exact ⟨_, q, congrArg Value.type (of_decide_eq_true h), rfl⟩
  · cases h
end Tw
/-! Tw: rules of our own beside the hand layer's -/
namespace Tw
open PySem PySem.Spec PyProof.Rows L2

theorem Same.new {H : Hp} {p : Addr} {o : HO} (h : H p = none) : Same H (upd H p o) := fun a u e => by
  rw [upd_ne (ne_of_none e h)]
  exact e
theorem Same.tup {K : PySem.W.Frag} {H H' : Hp} {a : Addr} {xs : List V} (e : Same H H') (h : SqT K H a xs) : SqT K H' a xs := by
  rcases h with (h | ⟨o, h⟩) | h
  · exact .inl (.inl (e _ _ h))
  · exact .inl (.inr ⟨o, e _ _ h⟩)
  · exact .inr h

section
variable {P : Program} {w : World} {K : PySem.W.Frag} {mg : Str → Option Value} {base : Heap} {CX : CXT} {k : Nat} {f : Addr} {fd : FuncData} {ps : List Str} {sp : Sp}
theorem fnR_of (F : FnOk P w K mg base CX k f fd ps sp) (b : Binds K fd ps []) : FnR P w K mg base CX k f sp :=
  (F.raw b .nil).imp fun vs H Q E h => by
    show sp (vs ++ []) H Q E
    rw [List.append_nil]
    exact h
end

/-- a def of the module, called: its promise at the arguments -/
def tFn (sp : Sp) (E : XK) (t : TA) : TE := fun σ H Q => t σ H fun vs H1 => sp vs H1 Q E
section
variable {X : Cx} {CX : CXT} {k : Nat} {f C g : Addr} {sp : Sp} {E : XK} {x m : Str} {e o : Expr} {es : List Expr} {ta te : TE} {t : TA} {p pos apos : Pos}
theorem pe_fn (F : FnR X.prog X.w X.K X.mg X.base CX k f sp) (hr : Room k X.A) (hg : Gl X x) (hm : X.mg x = some (.ref f)) (hk : PySem.W.keepIn X.K (.ref f) = true) (hx : Passes CX X E) (ha : PA X (e :: es) t)
    (hdb : (x == ("__debug__" : Str)) = false := by decide) (he : starEach (e :: es) X.env = (false, eval e X.env) :: starEach es X.env := by rfl)
    (hpl : (backTo pos (starEach es X.env)).any (·.1) = false := by rfl) : PE X (.Call (.Name x p) (e :: es) [] pos) (tFn sp E t) := ⟨fun pins s σ H Q I h =>
  wpAny_Call_Name_kw (ld_glob I hg hm (PySem.W.callWith_K (h₀ := X.base) I.ok.mod.kin hk
    (thn (ha.run pos pins s σ H _ I h) fun us s1 ⟨vs, H1, I1, r, q⟩ => ⟨I1.kIn, wpAny_call (run_fnR F hr hx I1 r q)⟩) he hpl) hdb)⟩
theorem pe_fn0 (F : FnR X.prog X.w X.K X.mg X.base CX k f sp) (hr : Room k X.A) (hg : Gl X x) (hm : X.mg x = some (.ref f)) (hk : PySem.W.keepIn X.K (.ref f) = true) (hx : Passes CX X E)
    (hdb : (x == ("__debug__" : Str)) = false := by decide) : PE X (.Call (.Name x p) [] [] pos) (tFn sp E tNil) := ⟨fun pins s σ H Q I h =>
  wpAny_Call_Name_kw (ld_glob I hg hm (PySem.W.callWith_K0 I.kIn hk (wpAny_call (run_fnR (us := []) (vs := []) F hr hx I .nil h))) hdb)⟩

/-- len(o), o of a class with its own __len__ -/
def rLenO (C : Addr) (sp : Sp) (E : XK) : List V → Hp → VK → Prop := fun xs H Q => ∃ a dx fs, xs = [.ref a] ∧ H a = some (.ins C dx fs) ∧
  sp [.ref a] H (fun v H' => ∃ n : Int, v = .int n ∧ 0 ≤ n ∧ n < 2 ^ 63 ∧ Q (.int n) H') E
theorem call_lenO (hs : PySem.W.findIn X.K (.ref C) "__len__" = some (some (.ref g))) (hf : PySem.W.isFn X.K (.ref g) = true) (F : FnR X.prog X.w X.K X.mg X.base CX k g sp) (hr : Room (k + 1) X.A) (hx : Passes CX X E) :
    CallR X (.builtin "len") (rLenO C sp E) := by
  intro pins s σ H xs us Q I r h
  obtain ⟨a, dx, fs, rfl, ea, q⟩ := h
  obtain ⟨u, rfl, ru⟩ := r.one
  cases (show u = Value.ref a from ru)
  obtain ⟨mA, O, _⟩ := ins_get I.hok ea
  obtain ⟨od, J, _⟩ := O.look
  obtain ⟨m, hF⟩ := I.fr
  refine PySem.W.len_K hF I.ok.mod.kin J hs hf (wpAny_mono (wpAny_call (SlX.run_at (us := [.ref a]) (ws := [.ref a]) F hr.in1 I.env0.in1 hx I (.cons rfl .nil) q)) (fun w s' z => ?_) fun _ _ x => x)
  obtain ⟨z', H', I', rz, n, ez, h0, h1, qz⟩ := z
  subst ez
  obtain ⟨t, e⟩ := (show ∃ t, w = Value.int n t from rz)
  subst e
  exact ⟨⟨h0, h1⟩, .int n, H', I'.tok _, ⟨_, rfl⟩, qz⟩

/-- o[i], o of a class with its own __getitem__ -/
def rIxO (C : Addr) (sp : Sp) (E : XK) : R2 := fun x y H Q => ∃ a dx fs, x = .ref a ∧ H a = some (.ins C dx fs) ∧ sp [.ref a, y] H Q E
theorem pe_ixO {a b : Expr} {tb : TE} (hs : PySem.W.findIn X.K (.ref C) "__getitem__" = some (some (.ref g))) (hf : PySem.W.isFn X.K (.ref g) = true) (hn : PySem.W.fnIn X.K g = true) (F : FnR X.prog X.w X.K X.mg X.base CX k g sp) (hr : Room (k + 1) X.A) (hx : Passes CX X E)
    (ha : PE X a ta) (hb : PE X b tb) (hsl : ∀ u v, subscripted b true u v = runValue (.builtin "lifetime.subscript" ⟨[u, v], []⟩) := by intro _ _; with_unfolding_all rfl) : PE X (.Subscript a b pos) (tOp (rIxO C sp E) ta tb) := by
  refine ⟨fun pins s σ H Q I h => ?_⟩
  refine Subscript_ (binT ha hb I h fun v u s2 x y H2 I2 rx ry q => ?_)
  obtain ⟨c, dx, fs, rfl, ec, q⟩ := q
  cases (show v = Value.ref c from rx)
  obtain ⟨mA, O, _⟩ := ins_get I2.hok ec
  obtain ⟨od, J, _⟩ := O.look
  obtain ⟨m, hF⟩ := I2.fr
  refine PySem.W.sub_K hF I2.ok.mod.kin J hs hn hf (wpAny_call (SlX.run_at (us := [.ref c, u]) (ws := [.ref c, y]) F hr.in1 I2.env0.in1 hx I2 (.cons rfl (.cons ry .nil)) q)) (hsl _ _)
/-! tracked sequences, read -/
def rIxLH : R2 := fun x y H Q => ∃ p xs i v, x = .ref p ∧ y = .int i ∧ H p = some (.lst xs) ∧ atI xs i = some v ∧ Q v H
def rIxTH : R2 := fun x y H Q => ∃ p xs i v, x = .ref p ∧ y = .int i ∧ H p = some (.tup xs) ∧ atI xs i = some v ∧ Q v H
theorem ix_lstH : IxR X rIxLH := fun value slice pins s σ H x y v u Q I rx ry ⟨p, xs, i, z, e1, e2, h, e3, q⟩ hs => ix_list value slice pins s σ H x y v u Q I rx ry ⟨p, xs, i, z, e1, e2, SqL.of h, e3, q⟩ hs
theorem ix_tupH : IxR X rIxTH := fun value slice pins s σ H x y v u Q I rx ry ⟨p, xs, i, z, e1, e2, h, e3, q⟩ hs => ix_tup value slice pins s σ H x y v u Q I rx ry ⟨p, xs, i, z, e1, e2, SqT.of h, e3, q⟩ hs
def rLenLH : List V → Hp → VK → Prop := fun xs H Q => ∃ p ys, xs = [.ref p] ∧ H p = some (.lst ys) ∧ Q (.int ys.length) H
def rLenTH : List V → Hp → VK → Prop := fun xs H Q => ∃ p ys, xs = [.ref p] ∧ H p = some (.tup ys) ∧ Q (.int ys.length) H
theorem call_lenL : CallR X (.builtin "len") rLenLH := fun pins s σ H xs us Q I r ⟨p, ys, e, h, q⟩ => call_len_seq pins s σ H xs us Q I r ⟨p, ys, e, .inl (SqL.of h), q⟩
theorem call_lenT : CallR X (.builtin "len") rLenTH := fun pins s σ H xs us Q I r ⟨p, ys, e, h, q⟩ => call_len_seq pins s σ H xs us Q I r ⟨p, ys, e, .inr (SqT.of h), q⟩
/-- what the promise says of its first argument: an instance of C -/
def InsAt (C : Addr) (sp : Sp) : Prop := ∀ vs H Q E, sp vs H Q E → ∃ (a dx : Addr) (fs : List (Str × V)) (r : List V), vs = .ref a :: r ∧ H a = some (.ins C dx fs)
/-- o.f, a property -/
theorem pe_propF {f : Str} {pr : Addr} (he : PE X e ta) (c : Cls X.K C) (hp : PropOf X.K C f pr g) (F : FnR X.prog X.w X.K X.mg X.base CX k g sp) (hr : Room (k + 1) X.A) (hx : Passes CX X.nox E) (hi : InsAt C sp)
    (hab : attributeBase e f X.env (eval e X.env) = eval e X.env := by rfl) : PE X (.Attribute e f pos) (tFn sp E (tCons ta tNil)) := by
  refine ⟨fun pins s σ H Q I h => attr_of hab (thn (he.run pins s σ H _ I h) fun u s1 ⟨x, H1, I1, rx, q⟩ => ?_)⟩
  obtain ⟨a, dx, fs, r, e1, ea⟩ := hi _ _ _ _ q
  cases e1
  cases (show u = Value.ref a from rx)
  obtain ⟨mA, O, _⟩ := ins_get I1.hok ea
  obtain ⟨od, J, _⟩ := O.look
  obtain ⟨rest, hrec⟩ := hp.rec_
  have hc : (PySem.W.clsIn X.K C).isSome = true := by
    obtain ⟨cd, hc, _⟩ := PySem.W.any_some c.hd
    rw [hc]
    rfl
  have I2 := I1.tok (s1.toks + 1)
  refine PySem.W.get_bind I1.kIn J (PySem.W.plainGet_of (c.get f)).1 (PySem.W.findObj_data hc hp.at_ hp.get hp.tak) (PySem.W.plainGet_of (c.get f)).2
    (wpAny_call (PySem.W.prop_get (s := { s1 with toks := s1.toks + 1 }) I2.kIn hrec (codeAny_mono (F X.A.in1 X.stack _ H1 [.ref a] [.ref a] Q E hr.in1 I2.env0.in1 (.cons rfl .nil) q) fun r s' hq => ?_)))
  cases r with
  | error er => exact False.elim (hx pins σ H1 _ er s' (I2.wish _) hq)
  | ok fl =>
    cases fl with
    | ret u =>
      obtain ⟨v, H', I3, rv, q3⟩ := I2.after hq
      show wpAny _ _ (handedOut u) _ _ _
      rw [PySem.W.handedOut_of (handed_of rv)]
      exact wpAny_pure ⟨v, H', I3, rv, q3⟩
    | next => exact False.elim hq
    | brk => exact False.elim hq
    | cont => exact False.elim hq
/-- o[i] -/
theorem pe_ixF {a b : Expr} {tb : TE} (hs : PySem.W.findIn X.K (.ref C) "__getitem__" = some (some (.ref g))) (hf : PySem.W.isFn X.K (.ref g) = true) (hn : PySem.W.fnIn X.K g = true) (F : FnR X.prog X.w X.K X.mg X.base CX k g sp) (hr : Room (k + 1) X.A) (hx : Passes CX X E) (hi : InsAt C sp)
    (ha : PE X a ta) (hb : PE X b tb) (hsl : ∀ u v, subscripted b true u v = runValue (.builtin "lifetime.subscript" ⟨[u, v], []⟩) := by intro _ _; with_unfolding_all rfl) : PE X (.Subscript a b pos) (tFn sp E (tCons ta (tCons tb tNil))) := by
  refine ⟨fun pins s σ H Q I h => Subscript_ (binT ha hb I h fun v u s2 x y H2 I2 rx ry q => ?_)⟩
  obtain ⟨c, dx, fs, r, e1, ec⟩ := hi _ _ _ _ q
  cases e1
  cases (show v = Value.ref c from rx)
  obtain ⟨mA, O, _⟩ := ins_get I2.hok ec
  obtain ⟨od, J, _⟩ := O.look
  obtain ⟨m, hF⟩ := I2.fr
  exact PySem.W.sub_K hF I2.ok.mod.kin J hs hn hf (wpAny_call (SlX.run_at (us := [.ref c, u]) (ws := [.ref c, y]) F hr.in1 I2.env0.in1 hx I2 (.cons rfl (.cons ry .nil)) q)) (hsl _ _)
/-- len(o) -/
def rLenF (sp : Sp) (E : XK) : List V → Hp → VK → Prop := fun xs H Q => sp xs H (fun v H' => ∃ n : Int, v = .int n ∧ 0 ≤ n ∧ n < 2 ^ 63 ∧ Q (.int n) H') E
theorem call_lenF (hs : PySem.W.findIn X.K (.ref C) "__len__" = some (some (.ref g))) (hf : PySem.W.isFn X.K (.ref g) = true) (F : FnR X.prog X.w X.K X.mg X.base CX k g sp) (hr : Room (k + 1) X.A) (hx : Passes CX X E) (hi : InsAt C sp)
    (h1 : ∀ vs H Q E, sp vs H Q E → vs.length = 1) : CallR X (.builtin "len") (rLenF sp E) := by
  intro pins s σ H xs us Q I r h
  obtain ⟨a, dx, fs, r1, e1, ea⟩ := hi _ _ _ _ h
  have hl := h1 _ _ _ _ h
  subst e1
  have er : r1 = [] := List.eq_nil_of_length_eq_zero (Nat.succ.inj hl)
  subst er
  exact call_lenO hs hf F hr hx pins s σ H _ us Q I r ⟨a, dx, fs, rfl, ea, h⟩
end
end Tw
/-! Tw: more rules -/
namespace Tw
open PySem PySem.Spec PyProof.Rows L2 StX
section
variable {X : Cx} {CX : CXT} {k : Nat} {f C : Addr} {sp : Sp} {E : XK} {x : Str} {p pos : Pos}
/-- C(), no arguments -/
theorem pe_makeR0 (M : Mk X.K C f) (F : FnR X.prog X.w X.K X.mg X.base CX k f sp) (hr : Room (k + 1) X.A) (hg : Gl X x) (hm : X.mg x = some (.ref C)) (hx : Passes CX X E)
    (hdb : (x == ("__debug__" : Str)) = false := by decide) : PE X (.Call (.Name x p) [] [] pos) (tMakeR C sp E tNil) := ⟨fun pins s σ H Q I h =>
  wpAny_Call_Name_kw (ld_glob I hg hm (PySem.W.callWith_K0 I.kIn M.kp (run_makeR (us := []) (vs := []) M F hr hx I .nil h)) hdb)⟩
end
end Tw
namespace Tw
open PySem PySem.Spec PyProof.Rows L2
theorem ul {k : Nat} {A : Around} (hr : Room k A) : A.units + 64 < cLine := by have := hr.un; omega
end Tw
/-! Tw: defs of the law itself that call repr: nothing is under way around them -/
namespace Tw
open PySem PySem.Spec PyProof.Rows L2
/-- room, and no repr under way -/
structure RmG (k : Nat) (A : Around) : Prop where
  rm : Room k A
  gd : A.guards = some []
theorem RmG.mono {j k : Nat} {A : Around} (r : RmG k A) (h : j ≤ k) : RmG j A := ⟨r.rm.mono h, r.gd⟩
theorem RmG.deeper {k : Nat} {A : Around} (r : RmG (k + 1) A) (env : Env) : RmG k (A.deeper env) := ⟨r.rm.deeper env, r.gd⟩
/-- a promise that is kept where no repr is under way -/
def FnG (P : Program) (w : World) (K : PySem.W.Frag) (mg : Str → Option Value) (base : Heap) (CX : CXT) (k : Nat) (f : Addr) (sp : Sp) : Prop :=
  ∀ A fs t Hp0 us vs Q E, RmG k A → Env0 P w K mg base A fs t Hp0 → Vals vs us → sp vs Hp0 Q E → codeAny (model P w) A (.call (.ref f) ⟨us, []⟩) (CR CX fs P w Hp0 t Q E) t
section
variable {P : Program} {w : World} {K : PySem.W.Frag} {mg : Str → Option Value} {base : Heap} {CX : CXT} {k : Nat} {f : Addr} {sp : Sp}
theorem FnG.mono {j : Nat} (F : FnG P w K mg base CX j f sp) (h : j ≤ k) : FnG P w K mg base CX k f sp := fun A fs t H us vs Q E r => F A fs t H us vs Q E (r.mono h)
/-- a def by its body, run where no repr is under way -/
theorem fnG_of {x qual : Str} {params : Arguments} {body : List Stmt} {scope : Scope} {kws : List (Str × V)} {fd : FuncData} {N ps : List Str} (F : FunD K x qual params body scope [] kws f fd) (S : FnScope N ps scope) (hb : Binds K fd ps [])
    (hl : ∀ vs H Q E, sp vs H Q E → vs.length = ps.length)
    (hbody : ∀ cdv A fs t H vs Q E, RmG k (A.deeper (envOfC qual scope t.heap.objs.size f cdv)) → sp vs H Q E → ∃ tt, PSs (cxOf CX P w K mg base N qual scope f cdv A fs t H E) body tt ∧ tt { nx := fun _ H' => Q .non H', rt := Q } (L2.start N vs) H) :
    FnG P w K mg base CX (k + 1) f sp := by
  intro A fs t H us vs Q E hr e0 rv h
  obtain ⟨oc, od, dV, kV, doc, pm, an, cdv, ct, osl, efd, lk, hcd, _, _⟩ := F.ex
  have KX : K.In t.heap := e0.mod.kin.keeps fun b o z => (e0.bs b o z).1
  have hlen : us.length = ps.length := rv.length.symm.trans (hl _ _ _ _ h)
  have hbt := hb t us KX (by rw [List.append_nil]; exact hlen)
  rw [List.append_nil] at hbt
  rw [efd] at lk hbt
  refine codeAny_call_function hr.rm.depth (KX _ _ lk) rfl S.co S.gen rfl (PySem.W.codeRec_of KX hcd) (hbt _ _ _ _ ?_)
  refine wpAny_newFunctionEnv_cells S.kind (fun y hy => ?_) fun env he t1 inc => ?_
  · exact (S.par y.1 (List.of_mem_zip hy).1).elim .inl fun z => .inr ⟨z, PySem.W.cellsFrom_some _ _ _ (.inl z)⟩
  · subst he
    obtain ⟨tt, hp, hq⟩ := hbody cdv A fs t H vs Q E (hr.deeper _) h
    have hnl : t.heap.NoLimit := e0.mod.nolimit.keeps fun b o z => (e0.bs b o z).1
    refine ⟨hnl.keeps inc.toInCall.keep, codeAny_func (wpAny_mono (hp.run [] t1 _ _ _ (inv_start S hr.rm.hd e0 (hl _ _ _ _ h) rv inc) hq) (fun fl t2 z => ?_) fun _ _ z => z)⟩
    cases fl with
    | ret u =>
      obtain ⟨v, _, H2, J, r2, q2⟩ := z
      exact ⟨v, H2, J.os, J.bare, J.base, J.hok, r2, q2⟩
    | next =>
      obtain ⟨_, H2, J, q2⟩ := z
      exact ⟨.non, H2, J.os, J.bare, J.base, J.hok, rfl, q2⟩
    | brk => exact z.elim fun _ z => z.elim fun _ z => z.2.elim
    | cont => exact z.elim fun _ z => z.elim fun _ z => z.2.elim
end
section
variable {X : Cx} {CX : CXT} {k : Nat} {f : Addr} {sp : Sp} {E : XK} {x : Str} {e : Expr} {es : List Expr} {t : TA} {p pos : Pos}
theorem call_fnG {pins : List (Addr × Obj)} {σ : L2.St} {H : Hp} {s : Shared} {Q : VK} {us : List Value} {vs : List V} (F : FnG X.prog X.w X.K X.mg X.base CX k f sp) (hr : RmG k X.A) (hx : Passes CX X E) (I : Inv X pins σ H s) (rv : Vals vs us) (h : sp vs H Q E) :
    wpAny (model X.prog X.w) X.A (call (.ref f) us) (EP X pins σ Q) X.xe s :=
  wpAny_call (codeAny_mono (F X.A X.stack s H us vs Q E hr I.env0 rv h) fun r s2 z => match r, z with
    | .error y, z => hx _ _ _ _ y s2 I z
    | .ok (.ret u), z => I.after z
    | .ok .next, z => z.elim
    | .ok .brk, z => z.elim
    | .ok .cont, z => z.elim)
theorem pe_fnG (F : FnG X.prog X.w X.K X.mg X.base CX k f sp) (hr : RmG k X.A) (hg : Gl X x) (hm : X.mg x = some (.ref f)) (hk : PySem.W.keepIn X.K (.ref f) = true) (hx : Passes CX X E) (ha : PA X (e :: es) t)
    (hdb : (x == ("__debug__" : Str)) = false := by decide) (he : starEach (e :: es) X.env = (false, eval e X.env) :: starEach es X.env := by rfl)
    (hpl : (backTo pos (starEach es X.env)).any (·.1) = false := by rfl) : PE X (.Call (.Name x p) (e :: es) [] pos) (tFn sp E t) := ⟨fun pins s σ H Q I h =>
  wpAny_Call_Name_kw (ld_glob I hg hm (PySem.W.callWith_K (h₀ := X.base) I.ok.mod.kin hk
    (thn (ha.run pos pins s σ H _ I h) fun us s1 ⟨vs, H1, I1, r, q⟩ => ⟨I1.kIn, call_fnG F hr hx I1 r q⟩) he hpl) hdb)⟩
/-! ### repr -/
/-- repr(x), x plain data without a dict -/
def rReprG (K : PySem.W.Frag) : List V → Hp → VK → Prop := fun xs H Q => ∃ x d, xs = [x] ∧ Dp K H x d ∧ d.showable = true ∧ d.hasDict = false ∧ d.depth ≤ 16 ∧ d.shown.length ≤ sizeLine ∧ Q (.str d.shown) H
theorem call_reprG (hr : RmG k X.A) : CallR X (.builtin "repr") (rReprG X.K) := by
  intro pins s σ H xs us Q I r h
  obtain ⟨x, d, rfl, hd, h1, h2, h3, h4, q⟩ := h
  obtain ⟨u, rfl, ru⟩ := vals1 r
  obtain ⟨as, hR⟩ := Dp.reads I d x u hd ru
  have hu := hr.rm.units
  cases hR with
  | none => exact PySem.P.repr_of_none ⟨.str _, H, I.tok _, ⟨_, rfl⟩, q⟩
  | bool b => exact PySem.P.repr_of_bool ⟨.str _, H, I.tok _, ⟨_, rfl⟩, q⟩
  | int i t => exact PySem.P.repr_of_int (of_decide_eq_true h1) ⟨.str _, H, I.tok _, ⟨_, rfl⟩, q⟩
  | str y t => exact PySem.P.repr_of_str ⟨.str _, H, I.tok _, ⟨_, rfl⟩, q⟩ h4
  | list a1 a2 a3 a4 => exact repr_of_reads' (.list a1 a2 a3 a4) h1 (fun z => by rw [h2] at z; cases z) hr.gd (by omega) (fun _ _ z => z) (fun h' u tk hk => ⟨.str _, H, I.kept hk, ⟨_, rfl⟩, q⟩) h4
  | tuple a1 a2 a3 a4 => exact repr_of_reads' (.tuple a1 a2 a3 a4) h1 (fun z => by rw [h2] at z; cases z) hr.gd (by omega) (fun _ _ z => z) (fun h' u tk hk => ⟨.str _, H, I.kept hk, ⟨_, rfl⟩, q⟩) h4
  | dict => simp [PyData.hasDict] at h2
end
/-! ### the law's end -/
section
variable {P : Program} {w : World} {K : PySem.W.Frag} {mg mb : Str → Option Value}
/-- what a law's call meets: an abstract heap that tracks the script at most, and the written part -/
theorem entry {s : Shared} {a : Addr} {vs : List Value} {ns : List Int} (KX : K.In s.heap) (hns : s.heap.Ns mainGlobals mg) (hb : s.heap.Ns builtinsNs mb) (hbb : ∀ x : Str, x ≠ "__name__" → mb x = bootBuiltins x) (hlim : s.heap.NoLimit) (hg : s.gens = #[])
    (ha : s.heap.get? a = some { cls := .type "list", data := .seq vs.toArray }) (hi : IntsAre vs ns) (hl : ns.length ≤ sizeLine) :
    ∃ (H : Hp) (base : Heap), K.In base ∧ base.Ns mainGlobals mg ∧ Env0 P w K mg base callerA [] s H ∧ Only H ∧ SqL K H a (ns.map V.int) := by
  have rv := vals_ints hi
  have hlv := hi.length
  have key : ∀ H : Hp, (∀ b, H b ≠ none → b = a) → (H a ≠ none → K.lookup a = none) → HOk P w H s.heap → K.In (hidT s.heap H) ∧ (hidT s.heap H).Ns mainGlobals mg ∧ Env0 P w K mg (hidT s.heap H) callerA [] s H := by
    intro H h1 h2 hok
    have keepD : ∀ {b m}, s.heap.Ns b m → (hidT s.heap H).Ns b m := by
      rintro b m ⟨o, es, ep, z, d, r⟩
      refine ⟨o, es, ep, hidT_get z ?_, d, r⟩
      apply Classical.byContradiction
      intro n
      obtain rfl := h1 b n
      rw [ha] at z
      cases z
      exact nomatch d
    have kin : K.In (hidT s.heap H) := by
      intro b o z
      refine hidT_get (KX b o z) ?_
      apply Classical.byContradiction
      intro n
      obtain rfl := h1 b n
      rw [h2 n] at z
      cases z
    obtain ⟨mc, l1, l2⟩ := hlim
    exact ⟨kin, keepD hns, rfl, ⟨kin, keepD hns, ⟨mb, keepD hb, hbb⟩, ⟨mc, keepD l1, l2⟩⟩, fun b o z => of_hidT z, Nat.le_of_eq (hidT_size _ _), trivial, fun b z => (nomatch z), hok, .of_eq hg⟩
  cases hk : K.lookup a with
  | some o =>
    have z := KX a o hk
    rw [ha] at z
    obtain rfl := (Option.some.inj z).symm
    obtain ⟨k1, k2, k3⟩ := key (fun _ => none) (fun b n => (n rfl).elim) (fun n => (n rfl).elim) fun b u n => nomatch (show (none : Option HO) = some u from n)
    exact ⟨_, _, k1, k2, k3, fun _ => .inl rfl, .inr ⟨_, vs.toArray, _, hk, rfl, rfl, rfl, by rw [List.size_toArray, hlv]; exact hl, by simpa using rv⟩⟩
  | none =>
    have n1 : ∀ b, (if b = a then some (HO.frz { cls := .type "list", data := .seq vs.toArray } (.lst (ns.map V.int))) else none) ≠ none → b = a := fun b n => Classical.byContradiction fun m => n (if_neg m)
    obtain ⟨k1, k2, k3⟩ := key (fun b => if b = a then some (.frz { cls := .type "list", data := .seq vs.toArray } (.lst (ns.map V.int))) else none) n1 (fun _ => hk) fun b u n => by
      have e : b = a := Classical.byContradiction fun m => by
        have n' := (if_neg m).symm.trans n
        cases n'
      subst e
      have m := (if_pos rfl).symm.trans n
      cases m
      exact ⟨ha, by rw [List.length_map]; exact hl, vs, _, rv, ha⟩
    refine ⟨_, _, k1, k2, k3, fun b => ?_, .inl (.inr ⟨_, if_pos rfl⟩)⟩
    by_cases m : b = a
    · exact .inr ⟨_, _, if_pos m⟩
    · exact .inl (if_neg m)
theorem lawG {s : Shared} {CX : CXT} {k : Nat} {fa a : Addr} {sp : Sp} {vs : List Value} {ns : List Int} (KX : K.In s.heap) (hns : s.heap.Ns mainGlobals mg) (hb : s.heap.Ns builtinsNs mb) (hbb : ∀ x : Str, x ≠ "__name__" → mb x = bootBuiltins x) (hlim : s.heap.NoLimit) (hg : s.gens = #[])
    (ha : s.heap.get? a = some { cls := .type "list", data := .seq vs.toArray }) (hi : IntsAre vs ns) (hl : ns.length ≤ sizeLine) (hr : RmG k callerA) (F : ∀ base : Heap, K.In base → base.Ns mainGlobals mg → FnG P w K mg base CX k fa sp)
    (hsp : ∀ H : Hp, SqL K H a (ns.map V.int) → sp [.ref a] H (fun v _ => v = .bl true) fun _ _ _ => False) (hCX : ∀ H e s', CX [] H s (fun _ _ _ => False) e s' → False) :
    codeAny (model P w) callerA (.call (.ref fa) ⟨[.ref a], []⟩) (fun r s' => r = .ok (.ret (.bool true)) ∧ OldK s.heap s'.heap ∧ s'.os = s.os ∧ AllBare s'.gens) s := by
  obtain ⟨H, base, k1, k2, e0, ho, hs⟩ := entry (P := P) (w := w) KX hns hb hbb hlim hg ha hi hl
  refine codeAny_mono (F base k1 k2 callerA [] s H [.ref a] [.ref a] _ _ hr e0 (.cons rfl .nil) (hsp H hs)) fun r s2 z => ?_
  match r, z with
  | .error y, z => exact (hCX H y s2 z).elim
  | .ok .next, z => exact z.elim
  | .ok .brk, z => exact z.elim
  | .ok .cont, z => exact z.elim
  | .ok (.ret u), ⟨v, H2, os, bare, un, hok, rv, q⟩ =>
    obtain rfl : v = .bl true := q
    obtain rfl : u = Value.bool true := rv
    refine ⟨rfl, OldK.of_keep fun b o z => ?_, os, bare⟩
    rcases ho b with n | ⟨o1, xs, n⟩
    · exact un.keep b o z n (fun m => nomatch m) (fun m => nomatch m)
    · obtain ⟨g1, _⟩ := e0.hok b _ n
      obtain ⟨g2, _⟩ := hok b _ (un.frzs b o1 _ n)
      rw [z] at g1
      cases g1
      exact g2
theorem walk_ofG {l : PySem.W.OpenLaw} {n k : Nat} {q : Program} {loose : List Str} {XP : (Str → Option Value) → Heap → Prop} {YP : World → Heap → Prop} {d : DefRec} {CX : CXT} (hn : l.most = some n) (hn2 : n ≤ sizeLine) (hdf : d.params.defaults = []) (hr : RmG k callerA)
    (F : ∀ w mg fa h, YP w h → h.Ns mainGlobals mg → mg d.name = some (.ref fa) → ∃ (K : PySem.W.Frag) (sp : Sp), K.In h ∧ (∀ (H : Hp) (a : Addr) (ns : List Int), ns.length ≤ n → SqL K H a (ns.map V.int) → sp [.ref a] H (fun v _ => v = .bl true) fun _ _ _ => False) ∧
      ∀ base : Heap, K.In base → base.Ns mainGlobals mg → FnG l.prog w K mg base CX k fa sp) (hCX : ∀ H s e s', CX [] H s (fun _ _ _ => False) e s' → False) :
    PySem.W.WalkO q loose XP YP l.row.toRowW d [] (fun f vs => PySem.call f vs) := by
  refine Att.attach_call hn hdf fun w s0 s1 mg mb fa o pm cd doc a vs ns G Y ho hd hcd hmg hobj hints hlen hg => ?_
  obtain ⟨K, sp, KX, h1, h2⟩ := F w mg fa _ Y G.T.g hmg
  exact lawG KX G.T.g G.T.b G.T.builtins G.T.nolimit hg hobj hints (Nat.le_trans hlen hn2) hr h2 (fun H z => h1 H a ns hlen z) fun H e s' => hCX H s1 e s'
end
end Tw
/-! Tw: an own error's __init__ that begins with super().__init__(..) -/
namespace Tw
open PySem PySem.Spec PyProof.Rows L2 PySem.W PySem.Calls NdefX
/-- what the written part says of the class at C, of its __init__ at fI with the cell at cc and the code at cda -/
structure SupF (K : Frag) (P : Program) (C cc cda : Addr) : Prop where
  par : OexC K C
  opq : nsIn K cStatics "thirdparty.any" = some none
  sup : ks_superIn K C C "__init__" = some (some (.builtin "ValueError.__init__"))
  sub : subIn K (.ref C) (.type "ValueError") = some true
  own : mroIn K C (.ref C) = some true
  cell : ∃ cl cld csl, K.lookup cc = some ⟨cl, cld, .cell (some (.ref C)), csl⟩
  code : ∃ ccl cdd vs ccs file tf, K.lookup cda = some ⟨ccl, cdd, .fields vs, ccs⟩ ∧ vs[2]? = some (.str file tf) ∧ ((P.main.file : PySem.Str) == file) = true
  top : (P.main.scope.names.lookup ("super" : PySem.Str)).isSome = false
abbrev erF (name qual : PySem.Str) (params : Arguments) (body : List Stmt) (scope : Scope) (cc cda : Addr) : NF := ⟨name, qual, params, body, scope, [("__class__", cc)], cda⟩
/-- the wrapper of ValueError.__init__ bound to x, called -/
theorem call_mw {prog : Program} {w : World} {A : Around} {E : Value → Shared → Prop} {h : Heap} {g : Array GenState} {d : Drawn} {t : Nat} {os : OsState} {nm q : PySem.Str} {C N : Addr} {bs bm : List Value} {hd : Bool} {sn : List PySem.Str} {sub : List Value} {ab : Bool} {col : Option Bool} {dd : Option Addr}
    {k0 k1 k2 k3 k5 : Option Value} {u x t0 : Addr} {vs : List Value} {Q : Value → Shared → Prop}
    (hC : h.get? C = some (excClassObj nm q C N bs bm hd sn sub ab col dd k0 k1 k2 k3 k5 "ValueError.__new__")) (hx : h.get? x = some (excObj C t0 none .none)) (hu : h.get? u = some (kxs_mw "ValueError.__init__" x)) (hz : vs.length ≤ sizeLine)
    (hq : ∀ h' t1, (∀ b o, b ≠ x → h.get? b = some o → h'.get? b = some o) → h'.get? x = some (excObj C t1 none .none) → Q .none ⟨h', g, d, t, os⟩) :
    wpAny (model prog w) A (call (.ref u) vs) Q E ⟨h, g, d, t, os⟩ := by
  refine wpAny_call (codeAny_of_tree ?_)
  show wpAny _ A.in1 (callAny (.ref u) ⟨vs, []⟩) _ _ _
  simp only [callAny]
  refine wpAny_bind (wpAny_load hu ?_)
  have em : (Value.type "method-wrapper" == Value.type "method" || Value.type "method-wrapper" == Value.type "builtin_function_or_method" || Value.type "method-wrapper" == Value.type "method-wrapper") = true := by decide
  simp only [kxs_mw, em, if_true]
  refine KFB.if_so (by decide) ?_
  refine wpAny_bind (check_bound_init PySem.F.excBase_ValueError.toExcCallFacts hC hx rfl ?_)
  exact wpAny_bind (wpAny_pure (wpAny_pure ⟨plainId_quiet PySem.F.excBase_ValueError.init.plain _, codeAny_builtin PySem.F.excBase_ValueError.initEntry (exc_init_tree (cls := .ref C) (t0 := t0) (dv := none) (c2 := .none) (c3 := .none) (b4 := .bool false) hx hz fun h' k e _ => hq h' _ k e)⟩))
/-- the body: super().__init__(text), and the rest -/
abbrev suB (text : PySem.Str) (j : Nat) (p0 p1 p2 p3 p4 pc : Pos) (rest : List Stmt) : List Stmt := .Expr (.Call (.Attribute (.Call (.Name "super" p0) [] [] p1) "__init__" p2) [.Constant (.str text) j pc] [] p3) p4 :: rest
section
variable {CX : CXT} {P : Program} {w : World} {K : Frag} {mg : PySem.Str → Option Value} {base : Heap} {N ps : List PySem.Str} {k : Nat} {C fI cc cda : Addr} {name qual : PySem.Str} {params : Arguments} {scope : Scope} {rest : List Stmt} {text : PySem.Str} {p0 p1 p2 p3 p4 pc : Pos} {j : Nat}
  {dV kV doc pm ct oc : Value} {an od : Option Addr} {osl : Array (Option Value)} {ar : Arg} {sp : Sp}
theorem ok_er (T : SupF K P C cc cda)
    (lk : K.lookup fI = some ⟨oc, od, .func (fnX name qual params (suB text j p0 p1 p2 p3 p4 pc rest) scope [("__class__", cc)] dV kV doc pm an (.ref cda) ct), osl⟩)
    (hcd : codeIn K (.ref cda) qual = true) (S : NScope N ps ["__class__"] scope) (hpar : (params.posonlyargs ++ params.args).head? = some ar) (hps : ps.head? = some ar.arg)
    (hks : scope.names.lookup ("super" : PySem.Str) = some .globalImplicit) (hms : mg "super" = none)
    (hi : ∀ L, interactive (envF (erF name qual params (suB text j p0 p1 p2 p3 p4 pc rest) scope cc cda) fI L) = false)
    (hsw : ∀ L, swapsWith (.Call (.Attribute (.Call (.Name "super" p0) [] [] p1) "__init__" p2) [.Constant (.str text) j pc] [] p3) none p4.line (envF (erF name qual params (suB text j p0 p1 p2 p3 p4 pc rest) scope cc cda) fI L) = pure false)
    (hev : ∀ L, ∃ pl : Sem Bool, eval (.Call (.Attribute (.Call (.Name "super" p0) [] [] p1) "__init__" p2) [.Constant (.str text) j pc] [] p3) (envF (erF name qual params (suB text j p0 p1 p2 p3 p4 pc rest) scope cc cda) fI L) = (do
      let ov ← attributeBase (.Call (.Name "super" p0) [] [] p1) "__init__" (envF (erF name qual params (suB text j p0 p1 p2 p3 p4 pc rest) scope cc cda) fI L) (eval (.Call (.Name "super" p0) [] [] p1) (envF (erF name qual params (suB text j p0 p1 p2 p3 p4 pc rest) scope cc cda) fI L))
      standAt p2.atName
      let (f, first) ← holding [ov] (getMethod ov "__init__" pl)
      callWith p3 f first (backTo p3 (starEach [.Constant (.str text) j pc] (envF (erF name qual params (suB text j p0 p1 p2 p3 p4 pc rest) scope cc cda) fI L))) []))
    (len : ∀ vs H Q E, sp vs H Q E → vs.length = ps.length)
    (hbody : ∀ (A : Around) (outer : List Env) (s : Shared) (H : Hp) (vs : List V) (Q : VK) (E : XK), Room k (A.deeper (envF (erF name qual params (suB text j p0 p1 p2 p3 p4 pc rest) scope cc cda) fI s.heap.objs.size)) → sp vs H Q E →
      ∃ t, PSs (ncx CX P w K mg base N (erF name qual params (suB text j p0 p1 p2 p3 p4 pc rest) scope cc cda) fI A outer s H E) rest t ∧ ∃ x ws, vs = .ref x :: ws ∧ H x = some (exo x C none) ∧ t { nx := fun _ H' => Q .non H', rt := Q } (startF N vs [none]) H) :
    FnOk P w K mg base CX (k + 1) fI (fnX name qual params (suB text j p0 p1 p2 p3 p4 pc rest) scope [("__class__", cc)] dV kV doc pm an (.ref cda) ct) ps sp := by
  refine ⟨len, fun A outer s H args us vs Q E hr e0 hb r hsp => ?_⟩
  obtain ⟨cl, cld, csl, hcell⟩ := T.cell
  obtain ⟨ccl, cdd, vv, ccs, file, tf, hcode, hvs, hfile⟩ := T.code
  have up0 : ∀ b o, base.get? b = some o → s.heap.get? b = some o := fun b o z => (e0.bs b o z).1
  have KX : K.In s.heap := e0.mod.kin.keeps up0
  have hl := len _ _ _ _ hsp
  have lim : s.heap.NoLimit := e0.mod.nolimit.keeps up0
  have CA : CellsAt (erF name qual params (suB text j p0 p1 p2 p3 p4 pc rest) scope cc cda).cl ["__class__"] [none] s.heap H := by
    have key : ∀ {y c}, List.lookup y [(("__class__" : PySem.Str), cc)] = some c → c = cc := fun {y c} z => by
      have q1 := PySem.mem_of_lookup z
      simp only [List.mem_singleton, Prod.mk.injEq] at q1
      exact q1.2
    refine ⟨rfl, fun y c z => ?_, fun y y' c z z' => ?_, fun i y hi => ?_⟩
    · obtain rfl := key z
      exact ⟨(e0.bs _ _ (e0.mod.kin _ _ hcell)).2, some (.ref C), ⟨_, KX _ _ hcell, rfl⟩⟩
    · have q1 := mem_of_lookup z
      have q2 := mem_of_lookup z'
      simp only [List.mem_singleton, Prod.mk.injEq] at q1 q2
      rw [q1.1, q2.1]
    · cases i with
      | zero =>
        obtain rfl : "__class__" = y := Option.some.inj hi
        exact ⟨cc, rfl, fun v z => by cases z⟩
      | succ i => cases hi
  refine codeAny_call_function hr.depth (KX _ _ lk) rfl S.co S.gen rfl (codeRec_of KX hcd) (hb _ _ _ _ ?_)
  refine wpAny_newFunctionEnv S.nocell (fun ⟨n, _⟩ hy => S.par n (List.of_mem_zip hy).1) (fun h₁ hns hsb => ⟨lim.fresh _ hsb, ?_⟩) S.kind
  have kp : ∀ b o, s.heap.get? b = some o → h₁.get? b = some o := fun b o z => hsb.extBut b o (Nat.ne_of_lt (Heap.lt_size z)) (Heap.get?_push_of_some _ z)
  have lf := KX _ _ lk
  have ki := kp _ _ lf
  have K1 : K.In h₁ := KX.keeps kp
  have I0 := inv_startN (CX := CX) (E := E) (N := N) (F := erF name qual params (suB text j p0 p1 p2 p3 p4 pc rest) scope cc cda) (f := fI) (tk := s.toks + (ps.zip us).length) S hr.hd e0 hl r CA hns kp
  obtain ⟨t, ht, x, ws, rfl, hx, hq⟩ := hbody A outer s H vs Q E (hr.deeper _) hsp
  obtain ⟨nm, qn, NN, bs, bm, sn, sub, ab, col, dd, k0, k1, k2, k3, k5, hC, hbm⟩ := T.par.cls
  have hclC : clsIn K C = some { name := nm, bases := bs, mro := .ref C :: bm, ns := NN, qualname := qn, hasDict := true, slotNames := sn, subclasses := sub, abstract := ab, collection := col, hasDel := false } := by unfold clsIn; rw [hC] <;> rfl
  obtain ⟨t1, hxo⟩ := exo_at e0.hok hx
  show codeAny _ _ (.func (suB text j p0 p1 p2 p3 p4 pc rest) (envF (erF name qual params (suB text j p0 p1 p2 p3 p4 pc rest) scope cc cda) fI s.heap.objs.size)) _ _
  refine ks_codeAny_funcAt (ks_wpAt_execs_cons ?_)
  obtain ⟨pl, hpl⟩ := hev s.heap.objs.size
  have hii := hi s.heap.objs.size
  have hss := hsw s.heap.objs.size
  obtain ⟨env, henv⟩ : ∃ env, envF (erF name qual params (suB text j p0 p1 p2 p3 p4 pc rest) scope cc cda) fI s.heap.objs.size = env := ⟨_, rfl⟩
  rw [henv] at hpl hii hss
  rw [henv]
  refine ks_wpAt_Expr_any (ks_wpAt_MethodCall (he := hpl) ?_) hii hss
  subst henv
  refine ks_wpAt_super_base (f := fI) (cc := cda) hks (S.frk _ (List.mem_singleton.mpr rfl)) rfl rfl ki rfl hpar rfl (K1 _ _ hcode) rfl hvs hfile T.top ?_
  obtain ⟨mb, hb1, hb2⟩ := e0.mod.blt
  have up1 : ∀ b o, base.get? b = some o → h₁.get? b = some o := fun b o z => kp _ _ (up0 _ _ z)
  refine ks_loadName_global S.kind hks (loadGlobal_builtin (e0.mod.glob.keeps up1) hms (hb1.keeps up1) ((hb2 "super" (by decide)).trans (by decide +kernel)) ⟨rfl, ?_⟩)
  refine wpAny_loadName_free S.kind (S.frk _ (List.mem_singleton.mpr rfl)) rfl ⟨_, K1 _ _ hcell, rfl⟩ ?_
  cases r with
  | @cons _ u0 _ us' ra rw' =>
  obtain rfl : u0 = Value.ref x := ra
  have hpn : ps.Nodup := by
    have q := S.nd.sublist (List.take_sublist (ps.length + 1) N)
    have e := S.pre
    rw [show (["__class__"] : List PySem.Str).length = 1 from rfl] at e
    rw [e] at q
    exact (List.nodup_append.mp q).1
  have hp0 : ps[0]? = some ar.arg := by rw [← List.head?_eq_getElem?]; exact hps
  refine wpAny_loadName_local S.kind (S.par _ (List.mem_of_getElem? hp0)) hns (zip_look (i := 0) hpn hp0 rfl) ?_
  have hx1 := kp _ _ hxo
  have hC1 := K1 _ _ hC
  refine ks_wpAny_isType_cls hC1 rfl ⟨rfl, ?_⟩
  have hxC : x ≠ C := fun z => by rw [z, hC1] at hx1; cases hx1
  refine ks_wpAny_call_super hC1 rfl hx1 rfl (fun c z => by cases z) (looks_mroIn K1 T.own) fun h2 e2 k2' => ?_
  have K2 : K.In h2 := K1.keeps k2'
  have hx2 := k2' _ _ hx1
  have hsup := T.sup
  unfold ks_superIn at hsup
  rw [hclC] at hsup
  refine kxs_getMethod kxs_ValueError e2 (looks_opaque K2 T.opq) ((looks_clsIn K2 hclC).andThen .now) rfl K2 hsup (InstAt.type (C := C) (od := none) ⟨hx2, rfl, rfl, trivial⟩ |>.andThen (looks_subIn K2 T.sub)) hxC rfl ?_
  have k3' : ∀ b o, h₁.get? b = some o → (h2.push (kxs_mw "ValueError.__init__" x)).get? b = some o := fun b o z => Heap.get?_push_of_some _ (k2' _ _ z)
  have hu3 : (h2.push (kxs_mw "ValueError.__init__" x)).get? h2.objs.size = some (kxs_mw "ValueError.__init__" x) := Heap.get?_push_at rfl rfl
  generalize h2.push (kxs_mw "ValueError.__init__" x) = h3 at *
  have hx3 := k3' _ _ hx1
  have hC3 := k3' _ _ hC1
  refine kxs_callWith (i := "ValueError.__init__") (x := x) rfl (evalArgs_plain (spliced_more (Calls.Constant_str (spliced_none ⟨hu3, ?_⟩))))
  refine call_mw hC3 hx3 hu3 (by show (1 : Nat) ≤ 16777216; decide) fun h4 t4 k4 hx4 => ?_
  have I4 := (I0.kept (t' := s.toks) (h' := h3) k3').write (t' := s.toks) (x := x) (e := x) (o := exo x C none) (h' := h4) (by rw [hx]; exact True.intro) (.inl rfl) k4 ⟨_, hx4⟩ (exo_ok hx4)
  have eu : upd H x (exo x C none) = H := by
    funext b
    by_cases hb : b = x
    · rw [hb, upd_same, hx]
    · rw [upd_ne hb]
  rw [eu] at I4
  refine wpAt_of_wpAny ?_
  have I5 := I4.tok (s.toks + (ps.zip (Value.ref x :: us')).length + 1 + 1)
  refine wpAny_mono (ht.run [] _ (startF N (.ref x :: ws) [none]) H _ I5 hq) (fun fl s' hs => ?_) fun e s' hs => hs
  have fin : ∀ {σ' : L2.St} {H' : Hp} {v : V} {u : Value}, Inv (ncx CX P w K mg base N (erF name qual params (suB text j p0 p1 p2 p3 p4 pc rest) scope cc cda) fI A outer s H E) [] σ' H' s' → L2.RelV v u → Q v H' → CE outer P w H s Q u s' :=
    fun {σ' H' v u} J rv q => ⟨v, H', J.os, J.bare, J.base, J.hok, rv, q⟩
  cases fl with
  | ret u =>
    obtain ⟨v, σ', H', J, rv, q⟩ := hs
    exact fin J rv q
  | next =>
    obtain ⟨σ', H', J, q⟩ := hs
    exact fin (v := V.non) (u := Value.none) J rfl q
  | brk =>
    obtain ⟨_, _, _, q⟩ := hs
    exact False.elim q
  | cont =>
    obtain ⟨_, _, _, q⟩ := hs
    exact False.elim q
end
end Tw
/-! Tw: own errors over ValueError: facts by Bools, the raise of one -/
namespace Tw
open PySem PySem.Spec PyProof.Rows L2 He PySem.W PySem.Calls NdefX
/-! ### what the written part says -/
def clsE (K : Frag) (C : Addr) : Bool := match K.lookup C with
  | some ⟨.type t, _, .cls cd, sl⟩ => decide (t = "type") && (match cd.mro, sl.toList with
    | .ref D :: bm, [_, _, _, _, some (.builtin n), _] => decide (D = C) && (decide (n = "ValueError.__new__") && (!cd.hasDel && (cd.hasDict && HandSPX.refsVE bm)))
    | _, _ => false)
  | _ => false
theorem clsE_ok {K : Frag} {C : Addr} (h : clsE K C = true) : ∃ nm q N bs bm sn sub ab col dd k0 k1 k2 k3 k5, K.lookup C = some (excClassObj nm q C N bs bm true sn sub ab col dd k0 k1 k2 k3 k5 "ValueError.__new__") ∧ HandSPX.refsVE bm = true := by
  unfold clsE at h
  split at h
  · rename_i t dd cd sl ho
    obtain ⟨h1, h2⟩ := ba h
    obtain rfl := of_decide_eq_true h1
    split at h2
    · rename_i D bm k0 k1 k2 k3 n k5 hm hs
      obtain ⟨a1, h2⟩ := ba h2
      obtain ⟨a2, h2⟩ := ba h2
      obtain ⟨a3, h2⟩ := ba h2
      obtain ⟨a4, a5⟩ := ba h2
      obtain rfl := of_decide_eq_true a1
      obtain rfl := of_decide_eq_true a2
      obtain ⟨nm, bs, mro, ns, qn, hd, sn, sub, ab, col, del⟩ := cd
      dsimp only at hm a3 a4
      subst hm
      subst a4
      have hdel : del = false := by simpa using a3
      subst hdel
      have hsl : sl = #[k0, k1, k2, k3, some (.builtin "ValueError.__new__"), k5] := Array.toList_inj.mp hs
      subst hsl
      exact ⟨nm, qn, ns, bs, bm, sn, sub, ab, col, dd, k0, k1, k2, k3, k5, ho, a5⟩
    · cases h2
  · cases h
/-- the cell and the code of the function at f -/
def celA (K : Frag) (f : Addr) : Addr := match K.lookup f with
  | some ⟨_, _, .func fd, _⟩ => (match fd.closure with
    | [(_, c)] => c
    | _ => 0)
  | _ => 0
def codA (K : Frag) (f : Addr) : Addr := match K.lookup f with
  | some ⟨_, _, .func fd, _⟩ => (match fd.code with
    | .ref c => c
    | _ => 0)
  | _ => 0
/-- the table of codes of the function at f -/
def tbA (K : Frag) (f : Addr) : Addr := match K.lookup (codA K f) with
  | some ⟨_, _, .fields vs, _⟩ => (match (vs[11]? : Option Value) with
    | some (.ref p) => p
    | _ => 0)
  | _ => 0
/-- a function's words, its closure left out -/
def fnC (K : Frag) (a : Addr) : FnW := match K.lookup a with
  | some ⟨_, _, .func fd, _⟩ => some (fd.name, fd.qualname, fd.params, fd.body, fd.scope, fd.globals, [], fd.builtins)
  | _ => none
/-- the function at f of the class at C has the cell of that class, and its code stands in that file -/
def fnE (K : Frag) (C f : Addr) (file qual : PySem.Str) : Bool := keepIn K (.ref f) && match K.lookup f with
  | some ⟨_, _, .func fd, _⟩ => decide (fd.closure = [(("__class__" : PySem.Str), celA K f)]) && (decide (fd.code = .ref (codA K f)) && (codeIn K fd.code qual && (decide (fd.defaults = .none) && ((match K.lookup (celA K f) with
    | some ⟨_, _, .cell (some (.ref D)), _⟩ => decide (D = C)
    | _ => false) && (match K.lookup (codA K f) with
    | some ⟨_, _, .fields vs, _⟩ => (match (vs[2]? : Option Value) with
      | some (.str y _) => file == y
      | _ => false)
    | _ => false)))))
  | _ => false
theorem fnE_ok {K : Frag} {C f : Addr} {file qual name : PySem.Str} {params : Arguments} {body : List Stmt} {scope : Scope} (h : fnE K C f file qual = true) (e : fnC K f = some (name, qual, params, .stmts body, scope, mainGlobals, [], builtinsNs)) :
    (∃ (oc : Value) (od : Option Addr) (kV doc pm ct : Value) (an : Option Addr) (osl : Array (Option Value)), K.lookup f = some ⟨oc, od, .func (fnX name qual params body scope [(("__class__" : PySem.Str), celA K f)] .none kV doc pm an (.ref (codA K f)) ct), osl⟩) ∧
    codeIn K (.ref (codA K f)) qual = true ∧ keepIn K (.ref f) = true ∧ (∃ cl cld csl, K.lookup (celA K f) = some ⟨cl, cld, .cell (some (.ref C)), csl⟩) ∧
    ∃ ccl cdd vs ccs y tf, K.lookup (codA K f) = some ⟨ccl, cdd, .fields vs, ccs⟩ ∧ vs[2]? = some (.str y tf) ∧ (file == y) = true := by
  obtain ⟨kp, h⟩ := ba h
  unfold fnC at e
  cases q : K.lookup f with
  | none =>
    rw [q] at h
    cases h
  | some o =>
    obtain ⟨oc, od, dt, osl⟩ := o
    rw [q] at h e
    cases dt with
    | func fd =>
      dsimp only at h e
      obtain ⟨h1, h⟩ := ba h
      obtain ⟨h2, h⟩ := ba h
      obtain ⟨h3, h⟩ := ba h
      obtain ⟨h4, h⟩ := ba h
      obtain ⟨h5, h6⟩ := ba h
      replace h1 := of_decide_eq_true h1
      replace h2 := of_decide_eq_true h2
      have g4 : fd.defaults = .none := by simpa using h4
      simp only [Option.some.injEq, Prod.mk.injEq] at e
      obtain ⟨e1, e2, e3, e4, e5, e6, _, e8⟩ := e
      obtain ⟨n1, n2, n3, n4, n5, n6, n7, n8, n9, n10, n11, n12, n13, n14, n15⟩ := fd
      dsimp only at h1 h2 h3 g4 e1 e2 e3 e4 e5 e6 e8
      clear h4
      subst e1 e2 e3 e4 e5 e6 e8 g4
      rw [h2] at h3
      rw [h1, h2]
      refine ⟨⟨oc, od, _, _, _, _, _, osl, rfl⟩, h3, kp, ?_, ?_⟩
      · split at h5
        · rename_i a b D d hl
          obtain rfl := of_decide_eq_true h5
          exact ⟨_, _, _, hl⟩
        · cases h5
      · split at h6
        · rename_i a b vs d hl
          split at h6
          · rename_i y tf hv
            exact ⟨_, _, _, _, _, _, hl, hv, h6⟩
          · cases h6
        · cases h6
    | _ => cases h
/-- the class at the global name x, its field fld -/
def bErr (x fld file qual : PySem.Str) (K : Frag) : Bool := clsE K (ga K x) && (fnE K (ga K x) (ma K (ga K x) "__init__") file qual && (eqO (findIn K (.ref (ga K x)) "__init__") (some (some (.ref (ma K (ga K x) "__init__")))) &&
  (eqO (findIn K (.ref (ga K x)) "__setattr__") (some (some (.builtin "object.__setattr__"))) && (eqO (findIn K (.ref (ga K x)) fld) (some none) && (eqO (nsIn K cStatics "thirdparty.any") (some none) &&
  (eqO (ks_superIn K (ga K x) (ga K x) "__init__") (some (some (.builtin "ValueError.__init__"))) && (decide (subIn K (.ref (ga K x)) (.type "ValueError") = some true) && (decide (mroIn K (ga K x) (.ref (ga K x)) = some true) &&
  (decide (subIn K (.ref (ga K x)) (.type "BaseException") = some true) && (decide (typeIn K (.ref (ga K x)) = some (.type "type")) && (keepIn K (.ref (ga K x)) && (decide (typeIn K (.ref (ma K (ga K x) "__init__")) = some (.type "function")) &&
  (eqO (findIn K (.ref (ga K x)) "__getattribute__") (some (some (.builtin "BaseException.__getattribute__"))) && (eqO (findIn K (.ref (ga K x)) "__getattr__") (some none) && hasDictIn K (ga K x)))))))))))))))
structure ErrF (K : Frag) (x fld file qual : PySem.Str) : Prop where
  oex : OexC K (ga K x)
  fn : fnE K (ga K x) (ma K (ga K x) "__init__") file qual = true
  ini : findIn K (.ref (ga K x)) "__init__" = some (some (.ref (ma K (ga K x) "__init__")))
  no : findIn K (.ref (ga K x)) fld = some none
  opq : nsIn K cStatics "thirdparty.any" = some none
  sup : ks_superIn K (ga K x) (ga K x) "__init__" = some (some (.builtin "ValueError.__init__"))
  sub : subIn K (.ref (ga K x)) (.type "ValueError") = some true
  own : mroIn K (ga K x) (.ref (ga K x)) = some true
  tfn : typeIn K (.ref (ma K (ga K x) "__init__")) = some (.type "function")
  xf : XfC K (ga K x)
theorem err_ok {x fld file qual : PySem.Str} {K : Frag} (h : bErr x fld file qual K = true) : ErrF K x fld file qual := by
  obtain ⟨h1, h⟩ := ba h
  obtain ⟨h2, h⟩ := ba h
  obtain ⟨h3, h⟩ := ba h
  obtain ⟨h4, h⟩ := ba h
  obtain ⟨h5, h⟩ := ba h
  obtain ⟨h6, h⟩ := ba h
  obtain ⟨h7, h⟩ := ba h
  obtain ⟨h8, h⟩ := ba h
  obtain ⟨h9, h⟩ := ba h
  obtain ⟨h10, h⟩ := ba h
  obtain ⟨h11, h⟩ := ba h
  obtain ⟨h12, h⟩ := ba h
  obtain ⟨h13, h⟩ := ba h
  obtain ⟨h14, h⟩ := ba h
  obtain ⟨h15, h16⟩ := ba h
  exact ⟨⟨clsE_ok h1, eqO_ok h4, of_decide_eq_true h10, of_decide_eq_true h11, h12⟩, h2, eqO_ok h3, eqO_ok h5, eqO_ok h6, eqO_ok h7, of_decide_eq_true h8, of_decide_eq_true h9, of_decide_eq_true h13,
    ⟨eqO_ok h14, eqO_ok h15, of_decide_eq_true h10, h16⟩⟩
end Tw
/-! Tw: the Hook of a law with own errors and with tables of codes -/
namespace Tw
open PySem PySem.Spec PyProof.Rows L2 He PySem.W
/-- an own error's __init__ -/
structure ErA where
  cls : PySem.Str
  name : PySem.Str
  qual : PySem.Str
  params : Arguments
  body : List Stmt
  scope : Scope
def ErA.val (d : ErA) : FnW := some (d.name, d.qual, d.params, .stmts d.body, d.scope, mainGlobals, [], builtinsNs)
def ErA.got (K : Frag) (d : ErA) : FnW := fnC K (ma K (ga K d.cls) "__init__")
abbrev tab0 : Obj := { cls := .none, data := .fields #[] }
abbrev AlE : Type := AlM × (List FnW × List (Option Obj))
def obsE (as : List Addr) (fa : List Fa) (fb : List (Frag → Bool)) (fn : List He5.DefA) (er : List ErA) (ts : List He.Tab) (tb : List Addr) (g : Addr → Option Obj) : AlE := (obsM fa fb fn ts (frG g as), er.map (ErA.got (frG g as)), tb.map g)
def valE (fn : List He5.DefA) (er : List ErA) (ts : List He.Tab) (tb : List Addr) (w : World) : AlE := (valM fn ts w, er.map ErA.val, tb.map fun _ => some tab0)
structure SaysE (fa : List Fa) (fb : List (Frag → Bool)) (fn : List He5.DefA) (er : List ErA) (ts : List He.Tab) (w : World) (K : Frag) : Prop where
  m : SaysM fa fb fn ts w K
  e : ∀ d ∈ er, d.got K = d.val
def hookE (as : List Addr) (fa : List Fa) (fb : List (Frag → Bool)) (fn : List He5.DefA) (er : List ErA) (ts : List He.Tab) (tb : List Addr) : Hook where
  α := AlE
  obs := fun s => obsE as fa fb fn er ts tb s.heap.get?
  val := fun w => valE fn er ts tb w
  says := fun w h => ∃ K : Frag, K.In h ∧ SaysE fa fb fn er ts w K ∧ ∀ p ∈ tb, h.get? p = some tab0
  of := fun w s e => by
    have h1 : obsM fa fb fn ts (frG s.heap.get? as) = valM fn ts w := congrArg (fun z : AlE => z.1) e
    have h2 : er.map (ErA.got (frG s.heap.get? as)) = er.map ErA.val := congrArg (fun z : AlE => z.2.1) e
    have h3 : tb.map s.heap.get? = tb.map fun _ => some tab0 := congrArg (fun z : AlE => z.2.2) e
    exact ⟨_, frG_in, ⟨h1, fun d hd => List.map_inj_left.mp h2 d hd⟩, fun p hp => List.map_inj_left.mp h3 p hp⟩
  keeps := fun _ _ _ ⟨K, hK, c, t⟩ k => ⟨K, Frag.In.keeps hK k, c, fun p hp => k _ _ (t p hp)⟩
theorem obsE_eq {as : List Addr} {fa : List Fa} {fb : List (Frag → Bool)} {fn : List He5.DefA} {er : List ErA} {ts : List He.Tab} {tb : List Addr} {g : Addr → Option Obj} {s : Shared} (h : ∀ a, g a = s.heap.get? a) : obsE as fa fb fn er ts tb g = (hookE as fa fb fn er ts tb).obs s := by
  rw [show g = s.heap.get? from funext h]
  rfl
section
variable {fa : List Fa} {fb : List (Frag → Bool)} {fn : List He5.DefA} {er : List ErA} {ts : List He.Tab} {w : World} {K : Frag}
theorem SaysE.err (c : SaysE fa fb fn er ts w K) (i : Nat) {d : ErA} (h : er[i]? = some d := by rfl) : fnC K (ma K (ga K d.cls) "__init__") = d.val := c.e d (List.mem_of_getElem? h)
end
/-- no object of the written part stands at p -/
def bOff (p : Addr) (K : Frag) : Bool := (K.lookup p).isNone
theorem off_ok {p : Addr} {K : Frag} (h : bOff p K = true) : K.lookup p = none := by
  unfold bOff at h
  cases e : K.lookup p with
  | none => rfl
  | some o => rw [e] at h; cases h
end Tw
/-! Tw: what the head tells of the own errors' kinds -/
namespace Tw
open PySem PySem.Spec PyProof.Rows L2 He
open PySem.W (Frag)
section
variable {K : Frag} {w : World}
def erN : List PySem.Str := ["InvalidNumber", "InvalidText", "InvalidName", "InvalidLevels", "InvalidSwitch", "InvalidMode", "InvalidMenu", "InvalidPlan", "InvalidCommand", "TooLong", "TooMany", "NothingToUndo"]
def kdN : List PySem.Str := ["number", "text", "name", "levels", "switch", "mode", "menu", "plan", "command", "long", "many", "undo"]
/-- the class at D is the i-th own error -/
structure KnF (K : Frag) (D : Addr) (i : Nat) : Prop where
  exc : ExcC K D
  lt : i < 12
  is : ∀ (j : Nat) (x : PySem.Str), erN[j]? = some x → PySem.W.kitOne K (.ref D) (.ref (ga K x)) = some (decide (j = i))
  wh : PySem.W.kitOne K (.ref D) (.ref (ga K "WheelError")) = some (decide (i < 9))
def bExc (K : Frag) (D : Addr) : Bool := decide (PySem.W.findIn K (.ref D) "__getattribute__" = some (some (.builtin "BaseException.__getattribute__"))) && (decide (PySem.W.findIn K (.ref D) "__getattr__" = some none) && (decide (PySem.W.subIn K (.ref D) (.type "BaseException") = some true) && (PySem.W.hasDictIn K D &&
  (decide (PySem.W.findIn K (.ref D) "__class__" = some (some (.builtin "object.__class__"))) && (decide (PySem.W.specialIn K (.builtin "object.__class__") "__get__" = some (some (.builtin "getset_descriptor.__get__"))) && (decide (PySem.W.takesIn K (.builtin "object.__class__") = some true) && decide (PySem.W.mroIn K D (.type "object") = some true)))))))
theorem exc_ok {K : Frag} {D : Addr} (h : bExc K D = true) : ExcC K D := by
  unfold bExc at h
  simp only [Bool.and_eq_true, decide_eq_true_eq] at h
  obtain ⟨h1, h2, h3, h4, h5, h6, h7, h8⟩ := h
  exact ⟨h1, h2, h3, h4, h5, h6, h7, h8⟩
/-- the class at the global name x is the i-th own error -/
def bKn (x : PySem.Str) (i : Nat) (K : Frag) : Bool := bExc K (ga K x) && (decide (i < 9) && (((List.range 12).all fun j => decide (PySem.W.kitOne K (.ref (ga K x)) (.ref (ga K (erN.getD j ""))) = some (decide (j = i)))) &&
  (decide (PySem.W.kitOne K (.ref (ga K x)) (.ref (ga K "WheelError")) = some true) && decide (PySem.W.exmOne K (.ref (ga K x)) (.ref (ga K "WheelError")) = some true))))
theorem kn_ok {K : Frag} {x : PySem.Str} {i : Nat} (h : bKn x i K = true) : KnF K (ga K x) i ∧ PySem.W.exmOne K (.ref (ga K x)) (.ref (ga K "WheelError")) = some true := by
  unfold bKn at h
  simp only [Bool.and_eq_true, decide_eq_true_eq] at h
  obtain ⟨h1, h2, h3, h4, h5⟩ := h
  refine ⟨⟨exc_ok h1, by omega, fun j y hy => ?_, by rw [decide_eq_true h2]; exact h4⟩, h5⟩
  have hj : j < 12 := (List.getElem?_eq_some_iff.mp hy).1
  have z := List.all_eq_true.mp h3 j (List.mem_range.mpr hj)
  rw [List.getD_eq_getElem?_getD, hy] at z
  exact of_decide_eq_true z
end
def exmN (K : PySem.W.Frag) (D : Addr) (x : PySem.Str) (b : Bool) : Prop := PySem.W.exmOne K (.ref D) (.ref (ga K x)) = some b
def bKnO (x : PySem.Str) (i : Nat) (K : Frag) : Bool := bExc K (ga K x) && (decide (i < 12) && (((List.range 12).all fun j => decide (PySem.W.kitOne K (.ref (ga K x)) (.ref (ga K (erN.getD j ""))) = some (decide (j = i)))) &&
  (decide (PySem.W.kitOne K (.ref (ga K x)) (.ref (ga K "WheelError")) = some (decide (i < 9))) && (decide (PySem.W.exmOne K (.ref (ga K x)) (.ref (ga K "WheelError")) = some false) &&
  (decide (PySem.W.exmOne K (.ref (ga K x)) (.ref (ga K "TooLong")) = some (decide (i = 9))) && decide (PySem.W.exmOne K (.ref (ga K x)) (.ref (ga K "TooMany")) = some (decide (i = 10))))))))
structure KnO (K : Frag) (x : PySem.Str) (i : Nat) : Prop where
  kn : KnF K (ga K x) i
  wh : exmN K (ga K x) "WheelError" false
  lo : exmN K (ga K x) "TooLong" (decide (i = 9))
  ma : exmN K (ga K x) "TooMany" (decide (i = 10))
theorem knO_ok {K : Frag} {x : PySem.Str} {i : Nat} (h : bKnO x i K = true) : KnO K x i := by
  unfold bKnO at h
  simp only [Bool.and_eq_true, decide_eq_true_eq] at h
  obtain ⟨h1, h2, h3, h4, h5, h6, h7⟩ := h
  refine ⟨⟨exc_ok h1, h2, fun j y hy => ?_, h4⟩, h5, h6, h7⟩
  have hj : j < 12 := (List.getElem?_eq_some_iff.mp hy).1
  have z := List.all_eq_true.mp h3 j (List.mem_range.mpr hj)
  rw [List.getD_eq_getElem?_getD, hy] at z
  exact of_decide_eq_true z
end Tw
/-! Tw: the law's end where the law makes lambdas (tables of codes) and no repr is under way -/
namespace Tw
open PySem PySem.Spec PyProof.Rows L2 LamX
section
variable {P : Program} {w : World} {K : PySem.W.Frag} {mg mb : Str → Option Value}
/-- a module's builtins, as a law's call meets them -/
def BuiltM (mg : Str → Option Value) (h : Heap) : Prop := ∃ (bm : Addr) (ob : Obj), mg "__builtins__" = some (.ref bm) ∧ bm ≠ builtinsNs ∧ h.get? bm = some ob ∧ ob.cls = .type "module" ∧ ob.dict = some builtinsNs ∧ ob.data = .plain
theorem entryT {s : Shared} {a : Addr} {vs : List Value} {ns : List Int} {cs : List (Addr × Addr)} (KX : K.In s.heap) (hns : s.heap.Ns mainGlobals mg) (hb : s.heap.Ns builtinsNs mb) (hbb : ∀ x : Str, x ≠ "__name__" → mb x = bootBuiltins x) (hlim : s.heap.NoLimit) (hg : s.gens = #[])
    (hT : ∀ p ∈ cs, s.heap.get? p.2 = some { cls := .none, data := .fields #[] }) (nT : ∀ p ∈ cs, K.lookup p.2 = none) (hC : ∀ p ∈ cs, PySem.W.codeHdIn K p.1 p.2 = true) (hbm : BuiltM mg s.heap)
    (ha : s.heap.get? a = some { cls := .type "list", data := .seq vs.toArray }) (hi : IntsAre vs ns) (hl : ns.length ≤ sizeLine) :
    ∃ (H : Hp) (base : Heap), K.In base ∧ base.Ns mainGlobals mg ∧ Env0 P w K mg base callerA [] s H ∧ (∀ b, H b = none ∨ (∃ p ∈ cs, p.2 = b) ∨ ∃ o xs, H b = some (.frz o (.lst xs))) ∧ SqL K H a (ns.map V.int) ∧ (∀ p ∈ cs, H p.2 = some (.tbl #[])) ∧ ∀ p ∈ cs, TabB base mg p.1 p.2 := by
  classical
  have rv := vals_ints hi
  have hlv := hi.length
  have aT : ∀ p ∈ cs, p.2 ≠ a := fun p hp z => by
    have q := hT p hp
    rw [z, ha] at q
    cases q
  have key : ∀ H : Hp, (∀ b, H b ≠ none → b = a ∨ ∃ p ∈ cs, p.2 = b) → (H a ≠ none → K.lookup a = none) → HOk P w H s.heap → K.In (hidT s.heap H) ∧ (hidT s.heap H).Ns mainGlobals mg ∧ Env0 P w K mg (hidT s.heap H) callerA [] s H ∧ ∀ p ∈ cs, TabB (hidT s.heap H) mg p.1 p.2 := by
    intro H h1 h2 hok
    have free : ∀ {b : Addr} {o : Obj}, s.heap.get? b = some o → (∀ x n, o.data ≠ .seq x n) → o.data ≠ .fields #[] → H b = none := fun {b o} z d1 d2 => Classical.byContradiction fun n => by
      rcases h1 b n with rfl | ⟨p, hp, rfl⟩
      · rw [ha] at z
        cases z
        exact d1 _ _ rfl
      · rw [hT p hp] at z
        cases z
        exact d2 rfl
    have keepD : ∀ {b m}, s.heap.Ns b m → (hidT s.heap H).Ns b m := by
      rintro b m ⟨o, es, ep, z, d, r⟩
      exact ⟨o, es, ep, hidT_get z (free z (fun x n y => by rw [d] at y; cases y) fun y => by rw [d] at y; cases y), d, r⟩
    have kin : K.In (hidT s.heap H) := fun b o z => hidT_get (KX b o z) (Classical.byContradiction fun n => by
      rcases h1 b n with rfl | ⟨p, hp, rfl⟩
      · rw [h2 n] at z
        cases z
      · rw [nT p hp] at z
        cases z)
    obtain ⟨mc, l1, l2⟩ := hlim
    refine ⟨kin, keepD hns, ⟨rfl, ⟨kin, keepD hns, ⟨mb, keepD hb, hbb⟩, ⟨mc, keepD l1, l2⟩⟩, fun b o z => of_hidT z, Nat.le_of_eq (hidT_size _ _), trivial, fun b z => (nomatch z), hok, .of_eq hg⟩, fun p hp => ?_⟩
    have nM : mainGlobals ≠ p.2 := fun z => by
      obtain ⟨o, es, ep, y, d, _⟩ := hns
      rw [z, hT p hp] at y
      cases y
      cases d
    obtain ⟨bm, ob, b1, b2, b3, b4, b5, b6⟩ := hbm
    have nG : bm ≠ mainGlobals := fun z => by
      obtain ⟨o, es, ep, y, d, _⟩ := hns
      rw [z, y] at b3
      cases b3
      rw [d] at b6
      cases b6
    have nP : bm ≠ p.2 := fun z => by
      rw [z, hT p hp] at b3
      cases b3
      cases b6
    exact NdefX.tabB_of_K kin (hC p hp) ⟨bm, ob, b1, b2, nG, nP, hidT_get b3 (free b3 (fun x n y => by rw [b6] at y; cases y) fun y => by rw [b6] at y; cases y), b4, b5, b6⟩ nM
  obtain ⟨L, hL⟩ : ∃ L : Option HO, L = if K.lookup a = none then some (HO.frz { cls := .type "list", data := .seq vs.toArray } (.lst (ns.map V.int))) else none := ⟨_, rfl⟩
  obtain ⟨H, hH⟩ : ∃ H : Hp, H = fun b => if b = a then L else if ∃ p ∈ cs, p.2 = b then some (.tbl #[]) else none := ⟨_, rfl⟩
  have e1 : H a = L := by rw [hH]; exact if_pos rfl
  have e2 : ∀ p ∈ cs, H p.2 = some (.tbl #[]) := fun p hp => by rw [hH]; exact (if_neg (aT p hp)).trans (if_pos ⟨p, hp, rfl⟩)
  have e3 : ∀ b, b ≠ a → (¬ ∃ p ∈ cs, p.2 = b) → H b = none := fun b n1 n2 => by rw [hH]; exact (if_neg n1).trans (if_neg n2)
  have h1 : ∀ b, H b ≠ none → b = a ∨ ∃ p ∈ cs, p.2 = b := fun b n => Classical.byContradiction fun m => n (e3 b (fun z => m (.inl z)) fun z => m (.inr z))
  have hok : HOk P w H s.heap := fun b u z => by
    have nb : H b ≠ none := fun y => by rw [y] at z; cases z
    rcases h1 b nb with rfl | ⟨p, hp, rfl⟩
    · rw [e1, hL] at z
      split at z
      · cases z
        exact ⟨ha, by rw [List.length_map]; exact hl, vs, _, rv, ha⟩
      · cases z
    · rw [e2 p hp] at z
      cases z
      exact hT p hp
  have hKa : H a ≠ none → K.lookup a = none := fun n => Classical.byContradiction fun m => n (by rw [e1, hL]; exact if_neg m)
  obtain ⟨k1, k2, k3, k4⟩ := key H h1 hKa hok
  refine ⟨H, _, k1, k2, k3, fun b => ?_, ?_, e2, k4⟩
  · by_cases hba : b = a
    · rw [hba, e1, hL]
      split
      · exact .inr (.inr ⟨_, _, rfl⟩)
      · exact .inl rfl
    · by_cases hbT : ∃ p ∈ cs, p.2 = b
      · exact .inr (.inl hbT)
      · exact .inl (e3 b hba hbT)
  · cases hk : K.lookup a with
    | none => exact .inl (.inr ⟨{ cls := .type "list", data := .seq vs.toArray }, by rw [e1, hL, if_pos hk]⟩)
    | some o =>
      have z := KX a o hk
      rw [ha] at z
      obtain rfl := (Option.some.inj z).symm
      exact .inr ⟨_, vs.toArray, _, hk, rfl, rfl, rfl, by rw [List.size_toArray, hlv]; exact hl, by simpa using rv⟩
theorem lawGT {s : Shared} {CX : CXT} {k : Nat} {fa a : Addr} {sp : Sp} {vs : List Value} {ns : List Int} {cs : List (Addr × Addr)} (KX : K.In s.heap) (hns : s.heap.Ns mainGlobals mg) (hb : s.heap.Ns builtinsNs mb) (hbb : ∀ x : Str, x ≠ "__name__" → mb x = bootBuiltins x) (hlim : s.heap.NoLimit) (hg : s.gens = #[])
    (hT : ∀ p ∈ cs, s.heap.get? p.2 = some { cls := .none, data := .fields #[] }) (nT : ∀ p ∈ cs, K.lookup p.2 = none) (hC : ∀ p ∈ cs, PySem.W.codeHdIn K p.1 p.2 = true) (hbm : BuiltM mg s.heap)
    (ha : s.heap.get? a = some { cls := .type "list", data := .seq vs.toArray }) (hi : IntsAre vs ns) (hl : ns.length ≤ sizeLine) (hr : RmG k callerA) (F : ∀ base : Heap, K.In base → base.Ns mainGlobals mg → (∀ p ∈ cs, TabB base mg p.1 p.2) → FnG P w K mg base CX k fa sp)
    (hsp : ∀ H : Hp, SqL K H a (ns.map V.int) → (∀ p ∈ cs, H p.2 = some (.tbl #[])) → sp [.ref a] H (fun v _ => v = .bl true) fun _ _ _ => False) (hCX : ∀ H e s', CX [] H s (fun _ _ _ => False) e s' → False) :
    codeAny (model P w) callerA (.call (.ref fa) ⟨[.ref a], []⟩) (fun r s' => r = .ok (.ret (.bool true)) ∧ OldK s.heap s'.heap ∧ s'.os = s.os ∧ AllBare s'.gens) s := by
  classical
  obtain ⟨H, base, k1, k2, e0, ho, hs, htb, hTB⟩ := entryT (P := P) (w := w) KX hns hb hbb hlim hg hT nT hC hbm ha hi hl
  refine codeAny_mono (F base k1 k2 hTB callerA [] s H [.ref a] [.ref a] _ _ hr e0 (.cons rfl .nil) (hsp H hs htb)) fun r s2 z => ?_
  match r, z with
  | .error y, z => exact (hCX H y s2 z).elim
  | .ok .next, z => exact z.elim
  | .ok .brk, z => exact z.elim
  | .ok .cont, z => exact z.elim
  | .ok (.ret u), ⟨v, H2, os, bare, un, hok, rv, q⟩ =>
    obtain rfl : v = .bl true := q
    obtain rfl : u = Value.bool true := rv
    have kept : ∀ b o, (¬ ∃ p ∈ cs, p.2 = b) → s.heap.get? b = some o → s2.heap.get? b = some o := fun b o nb z => by
      rcases ho b with n | n | ⟨o1, xs, n⟩
      · exact un.keep b o z n (fun m => nomatch m) (fun m => nomatch m)
      · exact absurd n nb
      · obtain ⟨g1, _⟩ := e0.hok b _ n
        obtain ⟨g2, _⟩ := hok b _ (un.frzs b o1 _ n)
        rw [z] at g1
        cases g1
        exact g2
    have more : ∀ p ∈ cs, ∃ ps : Array Value, s2.heap.get? p.2 = some { cls := .none, data := .fields ps } := fun p hp => by
      obtain ⟨ps, z⟩ := un.tbls p.2 #[] (htb p hp)
      exact ⟨_, hok p.2 _ z⟩
    refine ⟨rfl, ⟨fun b o z => ?_, fun b o z => ?_⟩, os, bare⟩
    · by_cases hbT : ∃ p ∈ cs, p.2 = b
      · obtain ⟨p, hp, rfl⟩ := hbT
        obtain ⟨ps, hm⟩ := more p hp
        rw [hT p hp] at z
        cases z
        exact .inr (.inl ⟨((PySem.W.codeHd_of_K KX (hC p hp)).tab (hT p hp)).isCodeTable, rfl, #[], ps, rfl, by rw [Array.empty_append]; exact hm⟩)
      · exact .inl (kept b o hbT z)
    · by_cases hbT : ∃ p ∈ cs, p.2 = b
      · obtain ⟨p, hp, rfl⟩ := hbT
        obtain ⟨ps, hm⟩ := more p hp
        exact ⟨_, hm⟩
      · exact ⟨o, kept b o hbT z⟩
theorem walk_ofGT {l : PySem.W.OpenLaw} {n k : Nat} {q : Program} {loose : List Str} {XP : (Str → Option Value) → Heap → Prop} {YP : World → Heap → Prop} {d : DefRec} {CX : CXT} (hn : l.most = some n) (hn2 : n ≤ sizeLine) (hdf : d.params.defaults = []) (hr : RmG k callerA)
    (F : ∀ w mg fa h, YP w h → h.Ns mainGlobals mg → mg d.name = some (.ref fa) → ∃ (K : PySem.W.Frag) (cs : List (Addr × Addr)) (sp : Sp), K.In h ∧ (∀ p ∈ cs, h.get? p.2 = some { cls := .none, data := .fields #[] }) ∧ (∀ p ∈ cs, K.lookup p.2 = none) ∧ (∀ p ∈ cs, PySem.W.codeHdIn K p.1 p.2 = true) ∧
      (∀ (H : Hp) (a : Addr) (ns : List Int), ns.length ≤ n → SqL K H a (ns.map V.int) → (∀ p ∈ cs, H p.2 = some (.tbl #[])) → sp [.ref a] H (fun v _ => v = .bl true) fun _ _ _ => False) ∧
      ∀ base : Heap, K.In base → base.Ns mainGlobals mg → (∀ p ∈ cs, TabB base mg p.1 p.2) → FnG l.prog w K mg base CX k fa sp) (hCX : ∀ H s e s', CX [] H s (fun _ _ _ => False) e s' → False) :
    PySem.W.WalkO q loose XP YP l.row.toRowW d [] (fun f vs => PySem.call f vs) := by
  refine Att.attach_call hn hdf fun w s0 s1 mg mb fa o pm cd doc a vs ns G Y ho hd hcd hmg hobj hints hlen hg => ?_
  obtain ⟨K, cs, sp, KX, hT, nT, hC, h1, h2⟩ := F w mg fa _ Y G.T.g hmg
  exact lawGT KX G.T.g G.T.b G.T.builtins G.T.nolimit hg hT nT hC G.T.bmain hobj hints (Nat.le_trans hlen hn2) hr h2 (fun H z y => h1 H a ns hlen z y) fun H e s' => hCX H s1 e s'
end
end Tw
/-! Hd: the head of this law: facts by names, one run -/
namespace Hd
open PySem PySem.Spec PyProof.Rows L2 He PySem.W Tw
def top (i : Nat) : Stmt := PySem.Challenge.pw_timerwheels_k01_shares_in_lowest_terms.main.body.getD i (.Pass ⟨0, 0, 0, 0⟩)
abbrev file : PySem.Str := PySem.Challenge.pw_timerwheels_k01_shares_in_lowest_terms.main.file
abbrev s_is_integer : Stmt := top 16
def dd_is_integer : He5.DefA := { at_ := fun K => ga K "is_integer", name := "is_integer", qual := "is_integer", params := defArgs s_is_integer, body := defBody s_is_integer, scope := defScope s_is_integer, dfl := [], kwd := [] }
abbrev s_common_divisor : Stmt := top 17
def dd_common_divisor : He5.DefA := { at_ := fun K => ga K "common_divisor", name := "common_divisor", qual := "common_divisor", params := defArgs s_common_divisor, body := defBody s_common_divisor, scope := defScope s_common_divisor, dfl := [], kwd := [] }
abbrev s_is_number : Stmt := top 19
def dd_is_number : He5.DefA := { at_ := fun K => ga K "is_number", name := "is_number", qual := "is_number", params := defArgs s_is_number, body := defBody s_is_number, scope := defScope s_is_number, dfl := [], kwd := [] }
abbrev s_share_of : Stmt := top 20
def dd_share_of : He5.DefA := { at_ := fun K => ga K "share_of", name := "share_of", qual := "share_of", params := defArgs s_share_of, body := defBody s_share_of, scope := defScope s_share_of, dfl := [], kwd := [] }
abbrev s__law_begin : Stmt := top 22
def dd__law_begin : He5.DefA := { at_ := fun K => ga K "_law_begin", name := "_law_begin", qual := "_law_begin", params := defArgs s__law_begin, body := defBody s__law_begin, scope := defScope s__law_begin, dfl := [], kwd := [] }
abbrev s__law_mixed : Stmt := top 23
def dd__law_mixed : He5.DefA := { at_ := fun K => ga K "_law_mixed", name := "_law_mixed", qual := "_law_mixed", params := defArgs s__law_mixed, body := defBody s__law_mixed, scope := defScope s__law_mixed, dfl := [], kwd := [] }
abbrev s__law_draw : Stmt := top 24
def dd__law_draw : He5.DefA := { at_ := fun K => ga K "_law_draw", name := "_law_draw", qual := "_law_draw", params := defArgs s__law_draw, body := defBody s__law_draw, scope := defScope s__law_draw, dfl := [], kwd := [] }
abbrev s__law_kind : Stmt := top 25
def dd__law_kind : He5.DefA := { at_ := fun K => ga K "_law_kind", name := "_law_kind", qual := "_law_kind", params := defArgs s__law_kind, body := defBody s__law_kind, scope := defScope s__law_kind, dfl := [], kwd := [] }
abbrev s__law_caught : Stmt := top 26
def dd__law_caught : He5.DefA := { at_ := fun K => ga K "_law_caught", name := "_law_caught", qual := "_law_caught", params := defArgs s__law_caught, body := defBody s__law_caught, scope := defScope s__law_caught, dfl := [], kwd := [] }
abbrev s__law_integer : Stmt := top 27
def dd__law_integer : He5.DefA := { at_ := fun K => ga K "_law_integer", name := "_law_integer", qual := "_law_integer", params := defArgs s__law_integer, body := defBody s__law_integer, scope := defScope s__law_integer, dfl := [], kwd := [] }
abbrev s__law_lowest : Stmt := top 28
def dd__law_lowest : He5.DefA := { at_ := fun K => ga K "_law_lowest", name := "_law_lowest", qual := "_law_lowest", params := defArgs s__law_lowest, body := defBody s__law_lowest, scope := defScope s__law_lowest, dfl := [], kwd := [] }
abbrev s__law_is_share : Stmt := top 29
def dd__law_is_share : He5.DefA := { at_ := fun K => ga K "_law_is_share", name := "_law_is_share", qual := "_law_is_share", params := defArgs s__law_is_share, body := defBody s__law_is_share, scope := defScope s__law_is_share, dfl := [], kwd := [] }
abbrev s__law_over_nothing : Stmt := top 30
def dd__law_over_nothing : He5.DefA := { at_ := fun K => ga K "_law_over_nothing", name := "_law_over_nothing", qual := "_law_over_nothing", params := defArgs s__law_over_nothing, body := defBody s__law_over_nothing, scope := defScope s__law_over_nothing, dfl := [], kwd := [] }
abbrev s__law_with_integer : Stmt := top 31
def dd__law_with_integer : He5.DefA := { at_ := fun K => ga K "_law_with_integer", name := "_law_with_integer", qual := "_law_with_integer", params := defArgs s__law_with_integer, body := defBody s__law_with_integer, scope := defScope s__law_with_integer, dfl := [], kwd := [] }
abbrev s_law : Stmt := top 32
def dd_law : He5.DefA := { at_ := fun K => ga K "law", name := "law", qual := "law", params := defArgs s_law, body := defBody s_law, scope := defScope s_law, dfl := [], kwd := [] }
abbrev s_InvalidNumber___init__ : Stmt := inClass (top 3) 0
def ee_InvalidNumber : ErA := { cls := "InvalidNumber", name := "__init__", qual := "InvalidNumber.__init__", params := defArgs s_InvalidNumber___init__, body := defBody s_InvalidNumber___init__, scope := defScope s_InvalidNumber___init__ }
abbrev s_Share___init__ : Stmt := inClass (top 18) 0
def dd_Share___init__ : He5.DefA := { at_ := fun K => ma K (ga K "Share") "__init__", name := "__init__", qual := "Share.__init__", params := defArgs s_Share___init__, body := defBody s_Share___init__, scope := defScope s_Share___init__, dfl := [.int 1], kwd := [] }
abbrev s_Share_top : Stmt := inClass (top 18) 1
def dd_Share_top : He5.DefA := { at_ := fun K => pa K (ga K "Share") "top", name := "top", qual := "Share.top", params := defArgs s_Share_top, body := defBody s_Share_top, scope := defScope s_Share_top, dfl := [], kwd := [] }
abbrev s_Share_bottom : Stmt := inClass (top 18) 2
def dd_Share_bottom : He5.DefA := { at_ := fun K => pa K (ga K "Share") "bottom", name := "bottom", qual := "Share.bottom", params := defArgs s_Share_bottom, body := defBody s_Share_bottom, scope := defScope s_Share_bottom, dfl := [], kwd := [] }
abbrev s_Share_text : Stmt := inClass (top 18) 3
def dd_Share_text : He5.DefA := { at_ := fun K => pa K (ga K "Share") "text", name := "text", qual := "Share.text", params := defArgs s_Share_text, body := defBody s_Share_text, scope := defScope s_Share_text, dfl := [], kwd := [] }
abbrev s_Share_over : Stmt := inClass (top 18) 5
def dd_Share_over : He5.DefA := { at_ := fun K => ma K (ga K "Share") "over", name := "over", qual := "Share.over", params := defArgs s_Share_over, body := defBody s_Share_over, scope := defScope s_Share_over, dfl := [], kwd := [] }
abbrev s_Share___add__ : Stmt := inClass (top 18) 6
def dd_Share___add__ : He5.DefA := { at_ := fun K => ma K (ga K "Share") "__add__", name := "__add__", qual := "Share.__add__", params := defArgs s_Share___add__, body := defBody s_Share___add__, scope := defScope s_Share___add__, dfl := [], kwd := [] }
abbrev s_Share___radd__ : Stmt := inClass (top 18) 7
def dd_Share___radd__ : He5.DefA := { at_ := fun K => ma K (ga K "Share") "__radd__", name := "__radd__", qual := "Share.__radd__", params := defArgs s_Share___radd__, body := defBody s_Share___radd__, scope := defScope s_Share___radd__, dfl := [], kwd := [] }
abbrev s_Share___sub__ : Stmt := inClass (top 18) 8
def dd_Share___sub__ : He5.DefA := { at_ := fun K => ma K (ga K "Share") "__sub__", name := "__sub__", qual := "Share.__sub__", params := defArgs s_Share___sub__, body := defBody s_Share___sub__, scope := defScope s_Share___sub__, dfl := [], kwd := [] }
abbrev s_Share___rsub__ : Stmt := inClass (top 18) 9
def dd_Share___rsub__ : He5.DefA := { at_ := fun K => ma K (ga K "Share") "__rsub__", name := "__rsub__", qual := "Share.__rsub__", params := defArgs s_Share___rsub__, body := defBody s_Share___rsub__, scope := defScope s_Share___rsub__, dfl := [], kwd := [] }
abbrev s_Share___mul__ : Stmt := inClass (top 18) 10
def dd_Share___mul__ : He5.DefA := { at_ := fun K => ma K (ga K "Share") "__mul__", name := "__mul__", qual := "Share.__mul__", params := defArgs s_Share___mul__, body := defBody s_Share___mul__, scope := defScope s_Share___mul__, dfl := [], kwd := [] }
abbrev s_Share___rmul__ : Stmt := inClass (top 18) 11
def dd_Share___rmul__ : He5.DefA := { at_ := fun K => ma K (ga K "Share") "__rmul__", name := "__rmul__", qual := "Share.__rmul__", params := defArgs s_Share___rmul__, body := defBody s_Share___rmul__, scope := defScope s_Share___rmul__, dfl := [], kwd := [] }
abbrev s_Share___neg__ : Stmt := inClass (top 18) 12
def dd_Share___neg__ : He5.DefA := { at_ := fun K => ma K (ga K "Share") "__neg__", name := "__neg__", qual := "Share.__neg__", params := defArgs s_Share___neg__, body := defBody s_Share___neg__, scope := defScope s_Share___neg__, dfl := [], kwd := [] }
abbrev s_Share___abs__ : Stmt := inClass (top 18) 13
def dd_Share___abs__ : He5.DefA := { at_ := fun K => ma K (ga K "Share") "__abs__", name := "__abs__", qual := "Share.__abs__", params := defArgs s_Share___abs__, body := defBody s_Share___abs__, scope := defScope s_Share___abs__, dfl := [], kwd := [] }
abbrev s_Share___eq__ : Stmt := inClass (top 18) 15
def dd_Share___eq__ : He5.DefA := { at_ := fun K => ma K (ga K "Share") "__eq__", name := "__eq__", qual := "Share.__eq__", params := defArgs s_Share___eq__, body := defBody s_Share___eq__, scope := defScope s_Share___eq__, dfl := [], kwd := [] }
def fa_0 : List (He.Fa) := [.free "len",
  .free "isinstance",
  .free "zip",
  .free "range",
  .free "enumerate",
  .free "list",
  .free "tuple",
  .free "int",
  .free "str",
  .free "abs",
  .free "max",
  .free "min",
  .free "all",
  .free "repr",
  .free "sorted",
  .free "bool",
  .free "set",
  .free "sum",
  .free "any",
  .free "type",
  .free "super",
  .glo "is_integer",
  .glo "common_divisor",
  .glo "is_number",
  .glo "share_of",
  .glo "_law_begin",
  .glo "_law_mixed",
  .glo "_law_draw",
  .glo "_law_kind",
  .glo "_law_caught"]
def fa_1 : List (He.Fa) := [.glo "_law_integer",
  .glo "_law_lowest",
  .glo "_law_is_share",
  .glo "_law_over_nothing",
  .glo "_law_with_integer",
  .glo "law",
  .glo "WheelError",
  .glo "InvalidNumber",
  .glo "InvalidText",
  .glo "InvalidName",
  .glo "InvalidLevels",
  .glo "InvalidSwitch",
  .glo "InvalidMode",
  .glo "InvalidMenu",
  .glo "InvalidPlan",
  .glo "InvalidCommand",
  .glo "TooLong",
  .glo "TooMany",
  .glo "NothingToUndo",
  .glo "Share",
  .cls "Share",
  .mkr "Share",
  .noat "Share" "kept_bottom",
  .noat "Share" "kept_top",
  .meth "Share" "over",
  .meth "Share" "__add__",
  .meth "Share" "__radd__",
  .meth "Share" "__sub__",
  .meth "Share" "__rsub__",
  .meth "Share" "__mul__"]
def fa_2 : List (He.Fa) := [.meth "Share" "__rmul__",
  .meth "Share" "__neg__",
  .meth "Share" "__abs__",
  .meth "Share" "__eq__"]
def fa : List (He.Fa) := fa_0 ++ fa_1 ++ fa_2
def fb_0 : List (Frag → Bool) := [bErr "InvalidNumber" "value" file "InvalidNumber.__init__",
  bKn "InvalidNumber" 0,
  fun K => codeHdIn K (codA K (ga K "_law_with_integer")) (tbA K (ga K "_law_with_integer")),
  fun K => codeHdIn K (codA K (ga K "law")) (tbA K (ga K "law")),
  bOff 539,
  fun K => decide (tbA K (ga K "_law_with_integer") = 539),
  bOff 546,
  fun K => decide (tbA K (ga K "law") = 546),
  bIsi "Share",
  bKit (fun K => .ref (ga K "Share")) (fun K => .ref (ga K "Share")) true,
  bKit (fun K => .ref (ga K "Share")) (fun _ => .type "int") false,
  bKit (fun _ => .type "int") (fun K => .ref (ga K "Share")) false,
  fun K => decide (PySem.W.kitAny K (.type "int") [.type "int", .ref (ga K "Share")] = some true),
  fun K => PySem.W.notFirst K (ga K "Share") (.type "int"),
  fun K => ((["NoneType", "bool", "str", "tuple", "list", "dict"] : List String).all fun t => decide (PySem.W.kitOne K (.type t) (.ref (ga K "Share")) = some false)),
  fun K => decide (PySem.W.kitAny K (.ref (ga K "Share")) [.type "int", .ref (ga K "Share")] = some true),
  fun K => decide (PySem.W.exmOne K (.ref (ga K "InvalidNumber")) (.ref (ga K "InvalidNumber")) = some true),
  fun K => PySem.W.selfFirst K (ga K "Share"),
  fun K => eqO (findIn K (.type "int") "__add__") (some (some (.builtin "int.__add__"))),
  fun K => eqO (findIn K (.type "int") "__radd__") (some (some (.builtin "int.__radd__"))),
  fun K => eqO (findIn K (.type "int") "__sub__") (some (some (.builtin "int.__sub__"))),
  fun K => eqO (findIn K (.type "int") "__rsub__") (some (some (.builtin "int.__rsub__"))),
  fun K => eqO (findIn K (.type "int") "__mul__") (some (some (.builtin "int.__mul__"))),
  fun K => eqO (findIn K (.type "int") "__rmul__") (some (some (.builtin "int.__rmul__"))),
  fun K => decide (PySem.W.subIn K (.type "int") (.ref (ga K "Share")) = some false),
  fun K => decide (PySem.W.subIn K (.ref (ga K "Share")) (.type "int") = some false),
  bFn fun K => ma K (ga K "Share") "__init__",
  bProp "Share" "top",
  bProp "Share" "bottom",
  bProp "Share" "text"]
def fb_1 : List (Frag → Bool) := [bFn fun K => ma K (ga K "Share") "over",
  bFn fun K => ma K (ga K "Share") "__add__",
  bFn fun K => ma K (ga K "Share") "__radd__",
  bFn fun K => ma K (ga K "Share") "__sub__",
  bFn fun K => ma K (ga K "Share") "__rsub__",
  bFn fun K => ma K (ga K "Share") "__mul__",
  bFn fun K => ma K (ga K "Share") "__rmul__",
  bFn fun K => ma K (ga K "Share") "__neg__",
  bFn fun K => ma K (ga K "Share") "__abs__",
  bFn fun K => ma K (ga K "Share") "__eq__"]
def fb : List (Frag → Bool) := fb_0 ++ fb_1
def fn_0 : List (He5.DefA) := [dd_is_integer,
  dd_common_divisor,
  dd_is_number,
  dd_share_of,
  dd__law_begin,
  dd__law_mixed,
  dd__law_draw,
  dd__law_kind,
  dd__law_caught,
  dd__law_integer,
  dd__law_lowest,
  dd__law_is_share,
  dd__law_over_nothing,
  dd__law_with_integer,
  dd_law,
  dd_Share___init__,
  dd_Share_top,
  dd_Share_bottom,
  dd_Share_text,
  dd_Share_over,
  dd_Share___add__,
  dd_Share___radd__,
  dd_Share___sub__,
  dd_Share___rsub__,
  dd_Share___mul__,
  dd_Share___rmul__,
  dd_Share___neg__,
  dd_Share___abs__,
  dd_Share___eq__]
def fn : List (He5.DefA) := fn_0
def ts_0 : List (He.Tab) := []
def ts : List (He.Tab) := ts_0
def er_0 : List (ErA) := [ee_InvalidNumber]
def er : List (ErA) := er_0
abbrev R : PySem.W.OpenRow := PySem.W.OpenLaw.row PySem.Challenge.rw_timerwheels_k01_shares_in_lowest_terms
def adr : List Addr := [3, 31, 53, 74, 95, 116, 137, 158, 179, 200, 221, 242, 264, 277, 287, 294, 458, 469, 476, 481, 488, 495, 502, 509, 516, 523, 530, 537, 544, 549, 30, 52, 286, 293, 457, 468, 475, 480, 487, 494, 501, 508, 515, 522, 529, 536, 543, 548, 50, 309, 317, 325, 333, 350, 357, 364, 371, 378, 385, 392, 399, 406, 420, 49, 38, 308, 302, 316, 324, 332, 349, 356, 363, 370, 377, 384, 391, 398, 405, 419, 315, 323, 331, 2]
abbrev hk : PySem.W.Hook := hookE adr fa fb fn er ts [539, 546]
def ob (s : PySem.W.SharedT) : AlE := obsE adr fa fb fn er ts [539, 546] (HandSHeadRun.getT s)
theorem ob_eq (s : PySem.W.SharedT) : ob s = hk.obs s.abs := obsE_eq (HandSHeadRun.getT_eq s)
def loose : List PySem.Str := (["_wall", "__name__", "WheelError", "InvalidNumber", "InvalidText", "InvalidName", "InvalidLevels", "InvalidSwitch", "InvalidMode", "InvalidMenu", "InvalidPlan", "InvalidCommand", "TooLong", "TooMany", "NothingToUndo"] : List PySem.Str) ++ (["is_integer", "common_divisor", "Share", "is_number", "share_of", "_law_begin", "_law_mixed", "_law_draw", "_law_kind", "_law_caught", "_law_integer", "_law_lowest", "_law_is_share", "_law_over_nothing", "_law_with_integer"] : List PySem.Str)
theorem run0 (w : World) : HandSHeadRun.RunEq R (PySem.W.view R.prog [32]) hk ob 5415 loose (w.withFollow "special-get-raises" false) := by
  intro os
  kernel_rfl
theorem run1 (w : World) : HandSHeadRun.RunEq R (PySem.W.view R.prog [32]) hk ob 5415 loose (w.withFollow "special-get-raises" true) := by
  intro os
  kernel_rfl
theorem run (w : World) : HandSHeadRun.RunEq R (PySem.W.view R.prog [32]) hk ob 5415 loose w := byRow2 "special-get-raises" (P := fun w => HandSHeadRun.RunEq R (PySem.W.view R.prog [32]) hk ob 5415 loose w) run0 run1 w
structure Tx (K : Frag) (mg : PySem.Str → Option Value) (w : World) : Prop where
  ex : ∃ h : Heap, K.In h ∧ h.Ns mainGlobals mg
  says : SaysM fa fb fn ts w K
  errs : SaysE fa fb fn er ts w K
section
variable {K : Frag} {mg : PySem.Str → Option Value} {w : World}
theorem free_len (T : Tx K mg w) : mg "len" = none := by
  obtain ⟨h, X, G⟩ := T.ex
  exact He.free_ok X G (T.says.fact 0 rfl)
theorem free_isinstance (T : Tx K mg w) : mg "isinstance" = none := by
  obtain ⟨h, X, G⟩ := T.ex
  exact He.free_ok X G (T.says.fact 1 rfl)
theorem free_zip (T : Tx K mg w) : mg "zip" = none := by
  obtain ⟨h, X, G⟩ := T.ex
  exact He.free_ok X G (T.says.fact 2 rfl)
theorem free_range (T : Tx K mg w) : mg "range" = none := by
  obtain ⟨h, X, G⟩ := T.ex
  exact He.free_ok X G (T.says.fact 3 rfl)
theorem free_enumerate (T : Tx K mg w) : mg "enumerate" = none := by
  obtain ⟨h, X, G⟩ := T.ex
  exact He.free_ok X G (T.says.fact 4 rfl)
theorem free_list (T : Tx K mg w) : mg "list" = none := by
  obtain ⟨h, X, G⟩ := T.ex
  exact He.free_ok X G (T.says.fact 5 rfl)
theorem free_tuple (T : Tx K mg w) : mg "tuple" = none := by
  obtain ⟨h, X, G⟩ := T.ex
  exact He.free_ok X G (T.says.fact 6 rfl)
theorem free_int (T : Tx K mg w) : mg "int" = none := by
  obtain ⟨h, X, G⟩ := T.ex
  exact He.free_ok X G (T.says.fact 7 rfl)
theorem free_str (T : Tx K mg w) : mg "str" = none := by
  obtain ⟨h, X, G⟩ := T.ex
  exact He.free_ok X G (T.says.fact 8 rfl)
theorem free_abs (T : Tx K mg w) : mg "abs" = none := by
  obtain ⟨h, X, G⟩ := T.ex
  exact He.free_ok X G (T.says.fact 9 rfl)
theorem free_max (T : Tx K mg w) : mg "max" = none := by
  obtain ⟨h, X, G⟩ := T.ex
  exact He.free_ok X G (T.says.fact 10 rfl)
theorem free_min (T : Tx K mg w) : mg "min" = none := by
  obtain ⟨h, X, G⟩ := T.ex
  exact He.free_ok X G (T.says.fact 11 rfl)
theorem free_all (T : Tx K mg w) : mg "all" = none := by
  obtain ⟨h, X, G⟩ := T.ex
  exact He.free_ok X G (T.says.fact 12 rfl)
theorem free_repr (T : Tx K mg w) : mg "repr" = none := by
  obtain ⟨h, X, G⟩ := T.ex
  exact He.free_ok X G (T.says.fact 13 rfl)
theorem free_sorted (T : Tx K mg w) : mg "sorted" = none := by
  obtain ⟨h, X, G⟩ := T.ex
  exact He.free_ok X G (T.says.fact 14 rfl)
theorem free_bool (T : Tx K mg w) : mg "bool" = none := by
  obtain ⟨h, X, G⟩ := T.ex
  exact He.free_ok X G (T.says.fact 15 rfl)
theorem free_set (T : Tx K mg w) : mg "set" = none := by
  obtain ⟨h, X, G⟩ := T.ex
  exact He.free_ok X G (T.says.fact 16 rfl)
theorem free_sum (T : Tx K mg w) : mg "sum" = none := by
  obtain ⟨h, X, G⟩ := T.ex
  exact He.free_ok X G (T.says.fact 17 rfl)
theorem free_any (T : Tx K mg w) : mg "any" = none := by
  obtain ⟨h, X, G⟩ := T.ex
  exact He.free_ok X G (T.says.fact 18 rfl)
theorem free_type (T : Tx K mg w) : mg "type" = none := by
  obtain ⟨h, X, G⟩ := T.ex
  exact He.free_ok X G (T.says.fact 19 rfl)
theorem free_super (T : Tx K mg w) : mg "super" = none := by
  obtain ⟨h, X, G⟩ := T.ex
  exact He.free_ok X G (T.says.fact 20 rfl)
theorem glo_is_integer (T : Tx K mg w) : mg "is_integer" = some (.ref (ga K "is_integer")) := by
  obtain ⟨h, X, G⟩ := T.ex
  exact He.glo_ok X G (T.says.fact 21 rfl)
theorem d_is_integer (T : Tx K mg w) : ∃ fd, FunD K "is_integer" "is_integer" (defArgs s_is_integer) (defBody s_is_integer) (defScope s_is_integer) [] [] (ga K "is_integer") fd := T.says.def_ 0 (d := dd_is_integer) rfl
theorem glo_common_divisor (T : Tx K mg w) : mg "common_divisor" = some (.ref (ga K "common_divisor")) := by
  obtain ⟨h, X, G⟩ := T.ex
  exact He.glo_ok X G (T.says.fact 22 rfl)
theorem d_common_divisor (T : Tx K mg w) : ∃ fd, FunD K "common_divisor" "common_divisor" (defArgs s_common_divisor) (defBody s_common_divisor) (defScope s_common_divisor) [] [] (ga K "common_divisor") fd := T.says.def_ 1 (d := dd_common_divisor) rfl
theorem glo_is_number (T : Tx K mg w) : mg "is_number" = some (.ref (ga K "is_number")) := by
  obtain ⟨h, X, G⟩ := T.ex
  exact He.glo_ok X G (T.says.fact 23 rfl)
theorem d_is_number (T : Tx K mg w) : ∃ fd, FunD K "is_number" "is_number" (defArgs s_is_number) (defBody s_is_number) (defScope s_is_number) [] [] (ga K "is_number") fd := T.says.def_ 2 (d := dd_is_number) rfl
theorem glo_share_of (T : Tx K mg w) : mg "share_of" = some (.ref (ga K "share_of")) := by
  obtain ⟨h, X, G⟩ := T.ex
  exact He.glo_ok X G (T.says.fact 24 rfl)
theorem d_share_of (T : Tx K mg w) : ∃ fd, FunD K "share_of" "share_of" (defArgs s_share_of) (defBody s_share_of) (defScope s_share_of) [] [] (ga K "share_of") fd := T.says.def_ 3 (d := dd_share_of) rfl
theorem glo__law_begin (T : Tx K mg w) : mg "_law_begin" = some (.ref (ga K "_law_begin")) := by
  obtain ⟨h, X, G⟩ := T.ex
  exact He.glo_ok X G (T.says.fact 25 rfl)
theorem d__law_begin (T : Tx K mg w) : ∃ fd, FunD K "_law_begin" "_law_begin" (defArgs s__law_begin) (defBody s__law_begin) (defScope s__law_begin) [] [] (ga K "_law_begin") fd := T.says.def_ 4 (d := dd__law_begin) rfl
theorem glo__law_mixed (T : Tx K mg w) : mg "_law_mixed" = some (.ref (ga K "_law_mixed")) := by
  obtain ⟨h, X, G⟩ := T.ex
  exact He.glo_ok X G (T.says.fact 26 rfl)
theorem d__law_mixed (T : Tx K mg w) : ∃ fd, FunD K "_law_mixed" "_law_mixed" (defArgs s__law_mixed) (defBody s__law_mixed) (defScope s__law_mixed) [] [] (ga K "_law_mixed") fd := T.says.def_ 5 (d := dd__law_mixed) rfl
theorem glo__law_draw (T : Tx K mg w) : mg "_law_draw" = some (.ref (ga K "_law_draw")) := by
  obtain ⟨h, X, G⟩ := T.ex
  exact He.glo_ok X G (T.says.fact 27 rfl)
theorem d__law_draw (T : Tx K mg w) : ∃ fd, FunD K "_law_draw" "_law_draw" (defArgs s__law_draw) (defBody s__law_draw) (defScope s__law_draw) [] [] (ga K "_law_draw") fd := T.says.def_ 6 (d := dd__law_draw) rfl
theorem glo__law_kind (T : Tx K mg w) : mg "_law_kind" = some (.ref (ga K "_law_kind")) := by
  obtain ⟨h, X, G⟩ := T.ex
  exact He.glo_ok X G (T.says.fact 28 rfl)
theorem d__law_kind (T : Tx K mg w) : ∃ fd, FunD K "_law_kind" "_law_kind" (defArgs s__law_kind) (defBody s__law_kind) (defScope s__law_kind) [] [] (ga K "_law_kind") fd := T.says.def_ 7 (d := dd__law_kind) rfl
theorem glo__law_caught (T : Tx K mg w) : mg "_law_caught" = some (.ref (ga K "_law_caught")) := by
  obtain ⟨h, X, G⟩ := T.ex
  exact He.glo_ok X G (T.says.fact 29 rfl)
theorem d__law_caught (T : Tx K mg w) : ∃ fd, FunD K "_law_caught" "_law_caught" (defArgs s__law_caught) (defBody s__law_caught) (defScope s__law_caught) [] [] (ga K "_law_caught") fd := T.says.def_ 8 (d := dd__law_caught) rfl
theorem glo__law_integer (T : Tx K mg w) : mg "_law_integer" = some (.ref (ga K "_law_integer")) := by
  obtain ⟨h, X, G⟩ := T.ex
  exact He.glo_ok X G (T.says.fact 30 rfl)
theorem d__law_integer (T : Tx K mg w) : ∃ fd, FunD K "_law_integer" "_law_integer" (defArgs s__law_integer) (defBody s__law_integer) (defScope s__law_integer) [] [] (ga K "_law_integer") fd := T.says.def_ 9 (d := dd__law_integer) rfl
theorem glo__law_lowest (T : Tx K mg w) : mg "_law_lowest" = some (.ref (ga K "_law_lowest")) := by
  obtain ⟨h, X, G⟩ := T.ex
  exact He.glo_ok X G (T.says.fact 31 rfl)
theorem d__law_lowest (T : Tx K mg w) : ∃ fd, FunD K "_law_lowest" "_law_lowest" (defArgs s__law_lowest) (defBody s__law_lowest) (defScope s__law_lowest) [] [] (ga K "_law_lowest") fd := T.says.def_ 10 (d := dd__law_lowest) rfl
theorem glo__law_is_share (T : Tx K mg w) : mg "_law_is_share" = some (.ref (ga K "_law_is_share")) := by
  obtain ⟨h, X, G⟩ := T.ex
  exact He.glo_ok X G (T.says.fact 32 rfl)
theorem d__law_is_share (T : Tx K mg w) : ∃ fd, FunD K "_law_is_share" "_law_is_share" (defArgs s__law_is_share) (defBody s__law_is_share) (defScope s__law_is_share) [] [] (ga K "_law_is_share") fd := T.says.def_ 11 (d := dd__law_is_share) rfl
theorem glo__law_over_nothing (T : Tx K mg w) : mg "_law_over_nothing" = some (.ref (ga K "_law_over_nothing")) := by
  obtain ⟨h, X, G⟩ := T.ex
  exact He.glo_ok X G (T.says.fact 33 rfl)
theorem d__law_over_nothing (T : Tx K mg w) : ∃ fd, FunD K "_law_over_nothing" "_law_over_nothing" (defArgs s__law_over_nothing) (defBody s__law_over_nothing) (defScope s__law_over_nothing) [] [] (ga K "_law_over_nothing") fd := T.says.def_ 12 (d := dd__law_over_nothing) rfl
theorem glo__law_with_integer (T : Tx K mg w) : mg "_law_with_integer" = some (.ref (ga K "_law_with_integer")) := by
  obtain ⟨h, X, G⟩ := T.ex
  exact He.glo_ok X G (T.says.fact 34 rfl)
theorem d__law_with_integer (T : Tx K mg w) : ∃ fd, FunD K "_law_with_integer" "_law_with_integer" (defArgs s__law_with_integer) (defBody s__law_with_integer) (defScope s__law_with_integer) [] [] (ga K "_law_with_integer") fd := T.says.def_ 13 (d := dd__law_with_integer) rfl
theorem glo_law (T : Tx K mg w) : mg "law" = some (.ref (ga K "law")) := by
  obtain ⟨h, X, G⟩ := T.ex
  exact He.glo_ok X G (T.says.fact 35 rfl)
theorem d_law (T : Tx K mg w) : ∃ fd, FunD K "law" "law" (defArgs s_law) (defBody s_law) (defScope s_law) [] [] (ga K "law") fd := T.says.def_ 14 (d := dd_law) rfl
theorem glo_WheelError (T : Tx K mg w) : mg "WheelError" = some (.ref (ga K "WheelError")) := by
  obtain ⟨h, X, G⟩ := T.ex
  exact He.glo_ok X G (T.says.fact 36 rfl)
theorem glo_InvalidNumber (T : Tx K mg w) : mg "InvalidNumber" = some (.ref (ga K "InvalidNumber")) := by
  obtain ⟨h, X, G⟩ := T.ex
  exact He.glo_ok X G (T.says.fact 37 rfl)
theorem er_InvalidNumber (T : Tx K mg w) : ErrF K "InvalidNumber" "value" file "InvalidNumber.__init__" := err_ok ((T.says.bool 0 rfl))
theorem kn_InvalidNumber (T : Tx K mg w) : KnF K (ga K "InvalidNumber") 0 ∧ exmOne K (.ref (ga K "InvalidNumber")) (.ref (ga K "WheelError")) = some true := kn_ok ((T.says.bool 1 rfl))
theorem ef_InvalidNumber (T : Tx K mg w) : fnC K (ma K (ga K "InvalidNumber") "__init__") = ee_InvalidNumber.val := T.errs.err 0 (d := ee_InvalidNumber) rfl
theorem glo_InvalidText (T : Tx K mg w) : mg "InvalidText" = some (.ref (ga K "InvalidText")) := by
  obtain ⟨h, X, G⟩ := T.ex
  exact He.glo_ok X G (T.says.fact 38 rfl)
theorem glo_InvalidName (T : Tx K mg w) : mg "InvalidName" = some (.ref (ga K "InvalidName")) := by
  obtain ⟨h, X, G⟩ := T.ex
  exact He.glo_ok X G (T.says.fact 39 rfl)
theorem glo_InvalidLevels (T : Tx K mg w) : mg "InvalidLevels" = some (.ref (ga K "InvalidLevels")) := by
  obtain ⟨h, X, G⟩ := T.ex
  exact He.glo_ok X G (T.says.fact 40 rfl)
theorem glo_InvalidSwitch (T : Tx K mg w) : mg "InvalidSwitch" = some (.ref (ga K "InvalidSwitch")) := by
  obtain ⟨h, X, G⟩ := T.ex
  exact He.glo_ok X G (T.says.fact 41 rfl)
theorem glo_InvalidMode (T : Tx K mg w) : mg "InvalidMode" = some (.ref (ga K "InvalidMode")) := by
  obtain ⟨h, X, G⟩ := T.ex
  exact He.glo_ok X G (T.says.fact 42 rfl)
theorem glo_InvalidMenu (T : Tx K mg w) : mg "InvalidMenu" = some (.ref (ga K "InvalidMenu")) := by
  obtain ⟨h, X, G⟩ := T.ex
  exact He.glo_ok X G (T.says.fact 43 rfl)
theorem glo_InvalidPlan (T : Tx K mg w) : mg "InvalidPlan" = some (.ref (ga K "InvalidPlan")) := by
  obtain ⟨h, X, G⟩ := T.ex
  exact He.glo_ok X G (T.says.fact 44 rfl)
theorem glo_InvalidCommand (T : Tx K mg w) : mg "InvalidCommand" = some (.ref (ga K "InvalidCommand")) := by
  obtain ⟨h, X, G⟩ := T.ex
  exact He.glo_ok X G (T.says.fact 45 rfl)
theorem glo_TooLong (T : Tx K mg w) : mg "TooLong" = some (.ref (ga K "TooLong")) := by
  obtain ⟨h, X, G⟩ := T.ex
  exact He.glo_ok X G (T.says.fact 46 rfl)
theorem glo_TooMany (T : Tx K mg w) : mg "TooMany" = some (.ref (ga K "TooMany")) := by
  obtain ⟨h, X, G⟩ := T.ex
  exact He.glo_ok X G (T.says.fact 47 rfl)
theorem glo_NothingToUndo (T : Tx K mg w) : mg "NothingToUndo" = some (.ref (ga K "NothingToUndo")) := by
  obtain ⟨h, X, G⟩ := T.ex
  exact He.glo_ok X G (T.says.fact 48 rfl)
theorem ch__law_with_integer (T : Tx K mg w) : codeHdIn K (codA K (ga K "_law_with_integer")) (tbA K (ga K "_law_with_integer")) = true := (T.says.bool 2 rfl)
theorem ch_law (T : Tx K mg w) : codeHdIn K (codA K (ga K "law")) (tbA K (ga K "law")) = true := (T.says.bool 3 rfl)
theorem off__law_with_integer (T : Tx K mg w) : K.lookup 539 = none := off_ok ((T.says.bool 4 rfl))
theorem tb__law_with_integer (T : Tx K mg w) : tbA K (ga K "_law_with_integer") = 539 := of_decide_eq_true ((T.says.bool 5 rfl))
theorem off_law (T : Tx K mg w) : K.lookup 546 = none := off_ok ((T.says.bool 6 rfl))
theorem tb_law (T : Tx K mg w) : tbA K (ga K "law") = 546 := of_decide_eq_true ((T.says.bool 7 rfl))
theorem glo_Share (T : Tx K mg w) : mg "Share" = some (.ref (ga K "Share")) := by
  obtain ⟨h, X, G⟩ := T.ex
  exact He.glo_ok X G (T.says.fact 49 rfl)
theorem cls_Share (T : Tx K mg w) : Cls K (ga K "Share") := by
  obtain ⟨h, X, G⟩ := T.ex
  exact He.cls_ok (T.says.fact 50 rfl)
theorem mk_Share (T : Tx K mg w) : Mk K (ga K "Share") (ma K (ga K "Share") "__init__") := by
  obtain ⟨h, X, G⟩ := T.ex
  exact He.mkr_ok (T.says.fact 51 rfl)
theorem isi_Share (T : Tx K mg w) : IsiC K (ga K "Share") := isi_ok ((T.says.bool 8 rfl))
theorem kit_Share (T : Tx K mg w) : kitOne K (.ref (ga K "Share")) (.ref (ga K "Share")) = some true := kit_ok (t := fun K => .ref (ga K "Share")) (c := fun K => .ref (ga K "Share")) ((T.says.bool 9 rfl))
theorem kSi_Share (T : Tx K mg w) : kitOne K (.ref (ga K "Share")) (.type "int") = some false := kit_ok (t := fun K => .ref (ga K "Share")) (c := fun _ => .type "int") ((T.says.bool 10 rfl))
theorem kiS_Share (T : Tx K mg w) : kitOne K (.type "int") (.ref (ga K "Share")) = some false := kit_ok (t := fun _ => .type "int") (c := fun K => .ref (ga K "Share")) ((T.says.bool 11 rfl))
theorem kiT_Share (T : Tx K mg w) : PySem.W.kitAny K (.type "int") [.type "int", .ref (ga K "Share")] = some true := of_decide_eq_true ((T.says.bool 12 rfl))
theorem nf_Share_int (T : Tx K mg w) : PySem.W.notFirst K (ga K "Share") (.type "int") = true := (T.says.bool 13 rfl)
theorem ns_Share (T : Tx K mg w) : ((["NoneType", "bool", "str", "tuple", "list", "dict"] : List String).all fun t => decide (PySem.W.kitOne K (.type t) (.ref (ga K "Share")) = some false)) = true := (T.says.bool 14 rfl)
theorem st_Share (T : Tx K mg w) : PySem.W.kitAny K (.ref (ga K "Share")) [.type "int", .ref (ga K "Share")] = some true := of_decide_eq_true ((T.says.bool 15 rfl))
theorem exs_InvalidNumber (T : Tx K mg w) : PySem.W.exmOne K (.ref (ga K "InvalidNumber")) (.ref (ga K "InvalidNumber")) = some true := of_decide_eq_true ((T.says.bool 16 rfl))
theorem sf_Share (T : Tx K mg w) : PySem.W.selfFirst K (ga K "Share") = true := (T.says.bool 17 rfl)
theorem fi_add (T : Tx K mg w) : findIn K (.type "int") "__add__" = some (some (.builtin "int.__add__")) := eqO_ok ((T.says.bool 18 rfl))
theorem fi_radd (T : Tx K mg w) : findIn K (.type "int") "__radd__" = some (some (.builtin "int.__radd__")) := eqO_ok ((T.says.bool 19 rfl))
theorem fi_sub (T : Tx K mg w) : findIn K (.type "int") "__sub__" = some (some (.builtin "int.__sub__")) := eqO_ok ((T.says.bool 20 rfl))
theorem fi_rsub (T : Tx K mg w) : findIn K (.type "int") "__rsub__" = some (some (.builtin "int.__rsub__")) := eqO_ok ((T.says.bool 21 rfl))
theorem fi_mul (T : Tx K mg w) : findIn K (.type "int") "__mul__" = some (some (.builtin "int.__mul__")) := eqO_ok ((T.says.bool 22 rfl))
theorem fi_rmul (T : Tx K mg w) : findIn K (.type "int") "__rmul__" = some (some (.builtin "int.__rmul__")) := eqO_ok ((T.says.bool 23 rfl))
theorem si_Share (T : Tx K mg w) : PySem.W.subIn K (.type "int") (.ref (ga K "Share")) = some false := of_decide_eq_true ((T.says.bool 24 rfl))
theorem sI_Share (T : Tx K mg w) : PySem.W.subIn K (.ref (ga K "Share")) (.type "int") = some false := of_decide_eq_true ((T.says.bool 25 rfl))
theorem na_Share_kept_bottom (T : Tx K mg w) : NoAttr K (ga K "Share") "kept_bottom" := by
  obtain ⟨h, X, G⟩ := T.ex
  exact He.noat_ok (T.says.fact 52 rfl)
theorem na_Share_kept_top (T : Tx K mg w) : NoAttr K (ga K "Share") "kept_top" := by
  obtain ⟨h, X, G⟩ := T.ex
  exact He.noat_ok (T.says.fact 53 rfl)
theorem fq_Share___init__ (T : Tx K mg w) : isFn K (.ref (ma K (ga K "Share") "__init__")) = true ∧ fnIn K (ma K (ga K "Share") "__init__") = true := He.ba ((T.says.bool 26 rfl))
theorem d_Share___init__ (T : Tx K mg w) : ∃ fd, FunD K "__init__" "Share.__init__" (defArgs s_Share___init__) (defBody s_Share___init__) (defScope s_Share___init__) [V.int 1] [] (ma K (ga K "Share") "__init__") fd := T.says.def_ 15 (d := dd_Share___init__) rfl
theorem pr_Share_top (T : Tx K mg w) : PropOf K (ga K "Share") "top" (ma K (ga K "Share") "top") (pa K (ga K "Share") "top") := prop_ok ((T.says.bool 27 rfl))
theorem d_Share_top (T : Tx K mg w) : ∃ fd, FunD K "top" "Share.top" (defArgs s_Share_top) (defBody s_Share_top) (defScope s_Share_top) [] [] (pa K (ga K "Share") "top") fd := T.says.def_ 16 (d := dd_Share_top) rfl
theorem pr_Share_bottom (T : Tx K mg w) : PropOf K (ga K "Share") "bottom" (ma K (ga K "Share") "bottom") (pa K (ga K "Share") "bottom") := prop_ok ((T.says.bool 28 rfl))
theorem d_Share_bottom (T : Tx K mg w) : ∃ fd, FunD K "bottom" "Share.bottom" (defArgs s_Share_bottom) (defBody s_Share_bottom) (defScope s_Share_bottom) [] [] (pa K (ga K "Share") "bottom") fd := T.says.def_ 17 (d := dd_Share_bottom) rfl
theorem pr_Share_text (T : Tx K mg w) : PropOf K (ga K "Share") "text" (ma K (ga K "Share") "text") (pa K (ga K "Share") "text") := prop_ok ((T.says.bool 29 rfl))
theorem d_Share_text (T : Tx K mg w) : ∃ fd, FunD K "text" "Share.text" (defArgs s_Share_text) (defBody s_Share_text) (defScope s_Share_text) [] [] (pa K (ga K "Share") "text") fd := T.says.def_ 18 (d := dd_Share_text) rfl
theorem me_Share_over (T : Tx K mg w) : Meth K (ga K "Share") "over" (ma K (ga K "Share") "over") := by
  obtain ⟨h, X, G⟩ := T.ex
  exact He.meth_ok (T.says.fact 54 rfl)
theorem fq_Share_over (T : Tx K mg w) : isFn K (.ref (ma K (ga K "Share") "over")) = true ∧ fnIn K (ma K (ga K "Share") "over") = true := He.ba ((T.says.bool 30 rfl))
theorem d_Share_over (T : Tx K mg w) : ∃ fd, FunD K "over" "Share.over" (defArgs s_Share_over) (defBody s_Share_over) (defScope s_Share_over) [] [] (ma K (ga K "Share") "over") fd := T.says.def_ 19 (d := dd_Share_over) rfl
theorem me_Share___add__ (T : Tx K mg w) : Meth K (ga K "Share") "__add__" (ma K (ga K "Share") "__add__") := by
  obtain ⟨h, X, G⟩ := T.ex
  exact He.meth_ok (T.says.fact 55 rfl)
theorem fq_Share___add__ (T : Tx K mg w) : isFn K (.ref (ma K (ga K "Share") "__add__")) = true ∧ fnIn K (ma K (ga K "Share") "__add__") = true := He.ba ((T.says.bool 31 rfl))
theorem d_Share___add__ (T : Tx K mg w) : ∃ fd, FunD K "__add__" "Share.__add__" (defArgs s_Share___add__) (defBody s_Share___add__) (defScope s_Share___add__) [] [] (ma K (ga K "Share") "__add__") fd := T.says.def_ 20 (d := dd_Share___add__) rfl
theorem me_Share___radd__ (T : Tx K mg w) : Meth K (ga K "Share") "__radd__" (ma K (ga K "Share") "__radd__") := by
  obtain ⟨h, X, G⟩ := T.ex
  exact He.meth_ok (T.says.fact 56 rfl)
theorem fq_Share___radd__ (T : Tx K mg w) : isFn K (.ref (ma K (ga K "Share") "__radd__")) = true ∧ fnIn K (ma K (ga K "Share") "__radd__") = true := He.ba ((T.says.bool 32 rfl))
theorem d_Share___radd__ (T : Tx K mg w) : ∃ fd, FunD K "__radd__" "Share.__radd__" (defArgs s_Share___radd__) (defBody s_Share___radd__) (defScope s_Share___radd__) [] [] (ma K (ga K "Share") "__radd__") fd := T.says.def_ 21 (d := dd_Share___radd__) rfl
theorem me_Share___sub__ (T : Tx K mg w) : Meth K (ga K "Share") "__sub__" (ma K (ga K "Share") "__sub__") := by
  obtain ⟨h, X, G⟩ := T.ex
  exact He.meth_ok (T.says.fact 57 rfl)
theorem fq_Share___sub__ (T : Tx K mg w) : isFn K (.ref (ma K (ga K "Share") "__sub__")) = true ∧ fnIn K (ma K (ga K "Share") "__sub__") = true := He.ba ((T.says.bool 33 rfl))
theorem d_Share___sub__ (T : Tx K mg w) : ∃ fd, FunD K "__sub__" "Share.__sub__" (defArgs s_Share___sub__) (defBody s_Share___sub__) (defScope s_Share___sub__) [] [] (ma K (ga K "Share") "__sub__") fd := T.says.def_ 22 (d := dd_Share___sub__) rfl
theorem me_Share___rsub__ (T : Tx K mg w) : Meth K (ga K "Share") "__rsub__" (ma K (ga K "Share") "__rsub__") := by
  obtain ⟨h, X, G⟩ := T.ex
  exact He.meth_ok (T.says.fact 58 rfl)
theorem fq_Share___rsub__ (T : Tx K mg w) : isFn K (.ref (ma K (ga K "Share") "__rsub__")) = true ∧ fnIn K (ma K (ga K "Share") "__rsub__") = true := He.ba ((T.says.bool 34 rfl))
theorem d_Share___rsub__ (T : Tx K mg w) : ∃ fd, FunD K "__rsub__" "Share.__rsub__" (defArgs s_Share___rsub__) (defBody s_Share___rsub__) (defScope s_Share___rsub__) [] [] (ma K (ga K "Share") "__rsub__") fd := T.says.def_ 23 (d := dd_Share___rsub__) rfl
theorem me_Share___mul__ (T : Tx K mg w) : Meth K (ga K "Share") "__mul__" (ma K (ga K "Share") "__mul__") := by
  obtain ⟨h, X, G⟩ := T.ex
  exact He.meth_ok (T.says.fact 59 rfl)
theorem fq_Share___mul__ (T : Tx K mg w) : isFn K (.ref (ma K (ga K "Share") "__mul__")) = true ∧ fnIn K (ma K (ga K "Share") "__mul__") = true := He.ba ((T.says.bool 35 rfl))
theorem d_Share___mul__ (T : Tx K mg w) : ∃ fd, FunD K "__mul__" "Share.__mul__" (defArgs s_Share___mul__) (defBody s_Share___mul__) (defScope s_Share___mul__) [] [] (ma K (ga K "Share") "__mul__") fd := T.says.def_ 24 (d := dd_Share___mul__) rfl
theorem me_Share___rmul__ (T : Tx K mg w) : Meth K (ga K "Share") "__rmul__" (ma K (ga K "Share") "__rmul__") := by
  obtain ⟨h, X, G⟩ := T.ex
  exact He.meth_ok (T.says.fact 60 rfl)
theorem fq_Share___rmul__ (T : Tx K mg w) : isFn K (.ref (ma K (ga K "Share") "__rmul__")) = true ∧ fnIn K (ma K (ga K "Share") "__rmul__") = true := He.ba ((T.says.bool 36 rfl))
theorem d_Share___rmul__ (T : Tx K mg w) : ∃ fd, FunD K "__rmul__" "Share.__rmul__" (defArgs s_Share___rmul__) (defBody s_Share___rmul__) (defScope s_Share___rmul__) [] [] (ma K (ga K "Share") "__rmul__") fd := T.says.def_ 25 (d := dd_Share___rmul__) rfl
theorem me_Share___neg__ (T : Tx K mg w) : Meth K (ga K "Share") "__neg__" (ma K (ga K "Share") "__neg__") := by
  obtain ⟨h, X, G⟩ := T.ex
  exact He.meth_ok (T.says.fact 61 rfl)
theorem fq_Share___neg__ (T : Tx K mg w) : isFn K (.ref (ma K (ga K "Share") "__neg__")) = true ∧ fnIn K (ma K (ga K "Share") "__neg__") = true := He.ba ((T.says.bool 37 rfl))
theorem d_Share___neg__ (T : Tx K mg w) : ∃ fd, FunD K "__neg__" "Share.__neg__" (defArgs s_Share___neg__) (defBody s_Share___neg__) (defScope s_Share___neg__) [] [] (ma K (ga K "Share") "__neg__") fd := T.says.def_ 26 (d := dd_Share___neg__) rfl
theorem me_Share___abs__ (T : Tx K mg w) : Meth K (ga K "Share") "__abs__" (ma K (ga K "Share") "__abs__") := by
  obtain ⟨h, X, G⟩ := T.ex
  exact He.meth_ok (T.says.fact 62 rfl)
theorem fq_Share___abs__ (T : Tx K mg w) : isFn K (.ref (ma K (ga K "Share") "__abs__")) = true ∧ fnIn K (ma K (ga K "Share") "__abs__") = true := He.ba ((T.says.bool 38 rfl))
theorem d_Share___abs__ (T : Tx K mg w) : ∃ fd, FunD K "__abs__" "Share.__abs__" (defArgs s_Share___abs__) (defBody s_Share___abs__) (defScope s_Share___abs__) [] [] (ma K (ga K "Share") "__abs__") fd := T.says.def_ 27 (d := dd_Share___abs__) rfl
theorem me_Share___eq__ (T : Tx K mg w) : Meth K (ga K "Share") "__eq__" (ma K (ga K "Share") "__eq__") := by
  obtain ⟨h, X, G⟩ := T.ex
  exact He.meth_ok (T.says.fact 63 rfl)
theorem fq_Share___eq__ (T : Tx K mg w) : isFn K (.ref (ma K (ga K "Share") "__eq__")) = true ∧ fnIn K (ma K (ga K "Share") "__eq__") = true := He.ba ((T.says.bool 39 rfl))
theorem d_Share___eq__ (T : Tx K mg w) : ∃ fd, FunD K "__eq__" "Share.__eq__" (defArgs s_Share___eq__) (defBody s_Share___eq__) (defScope s_Share___eq__) [] [] (ma K (ga K "Share") "__eq__") fd := T.says.def_ 28 (d := dd_Share___eq__) rfl
end
def spLaw (K : Frag) : Sp := fun vs H Q _ => ∃ (a : Addr) (ns : List Int), vs = [.ref a] ∧ SqL K H a (ns.map V.int) ∧ ns.length ≤ 63 ∧ H (tbA K (ga K "_law_with_integer")) = some (.tbl #[]) ∧ H (tbA K (ga K "law")) = some (.tbl #[]) ∧ ∀ H', Q (.bl true) H'
end Hd
section
open PySem PySem.W PySem.Calls PyProof.Rows
theorem Hd.holds {k : Nat} {CX : L2.CXT} (hCX : ∀ (H : L2.Hp) (s : Shared) (e : Value) (s' : Shared), CX [] H s (fun _ _ _ => False) e s' → False) (hr : Tw.RmG k callerA)
    (F : ∀ (K : Frag) (mg : PySem.Str → Option Value) (w : World) (base : Heap), Hd.Tx K mg w → LamX.TabB base mg (Tw.codA K (He.ga K "_law_with_integer")) (Tw.tbA K (He.ga K "_law_with_integer")) → LamX.TabB base mg (Tw.codA K (He.ga K "law")) (Tw.tbA K (He.ga K "law")) → Tw.FnG (PySem.Challenge.rw_timerwheels_k01_shares_in_lowest_terms).prog w K mg base CX k (He.ga K "law") (Hd.spLaw K)) : PySem.Challenge.rw_timerwheels_k01_shares_in_lowest_terms.Holds := by
  w_on; o_law
  refine HandSHeadRun.head_any (r := OpenLaw.row PySem.Challenge.rw_timerwheels_k01_shares_in_lowest_terms) (q := view (OpenLaw.row PySem.Challenge.rw_timerwheels_k01_shares_in_lowest_terms).prog [32]) (H := Hd.hk) (ob := Hd.ob) (M := 5415) (loose := Hd.loose) (d := HandSHeadRun.topDef (OpenLaw.row PySem.Challenge.rw_timerwheels_k01_shares_in_lowest_terms).prog 32) (kwd := []) Hd.ob_eq
    (by kernel_rfl) (fun s => by kernel_rfl) Hd.run (by kernel_rfl) (by kernel_rfl) (by kernel_rfl) (by rfl) (by first | assumption | decide +kernel) (by decide +kernel) ⟨rfl, rfl, rfl, rfl, rfl, by decide +kernel⟩ ?hw ?hc
  case hw => w_witness2
  case hc =>
    refine Tw.walk_ofGT (l := PySem.Challenge.rw_timerwheels_k01_shares_in_lowest_terms) (n := 63) (k := k) (CX := CX) rfl (by decide) (by kernel_rfl) hr ?F hCX
    intro w mg fa h Y G hmg0
    obtain ⟨K, KX, c, tb⟩ := Y
    have hmg : mg ("law" : PySem.Str) = some (.ref fa) := by
      have e : (HandSHeadRun.topDef (OpenLaw.row PySem.Challenge.rw_timerwheels_k01_shares_in_lowest_terms).prog 32).name = ("law" : PySem.Str) := by kernel_rfl
      rw [← e]
      exact hmg0
    have T : Hd.Tx K mg w := ⟨⟨h, KX, G⟩, c.m, c⟩
    have e := hmg.symm.trans (Hd.glo_law T)
    cases e
    refine ⟨K, [(Tw.codA K (He.ga K "_law_with_integer"), Tw.tbA K (He.ga K "_law_with_integer")), (Tw.codA K (He.ga K "law"), Tw.tbA K (He.ga K "law"))], Hd.spLaw K, KX, ?_, ?_, ?_, fun H a ns hl hS hB => ⟨a, ns, rfl, hS, hl, hB (Tw.codA K (He.ga K "_law_with_integer"), Tw.tbA K (He.ga K "_law_with_integer")) (by simp),hB (Tw.codA K (He.ga K "law"), Tw.tbA K (He.ga K "law")) (by simp), fun _ => rfl⟩, fun base _ _ hB => F K mg w base T (hB (Tw.codA K (He.ga K "_law_with_integer"), Tw.tbA K (He.ga K "_law_with_integer")) (by simp)) (hB (Tw.codA K (He.ga K "law"), Tw.tbA K (He.ga K "law")) (by simp))⟩
    · intro p hp
      simp only [List.mem_cons, List.not_mem_nil, or_false] at hp
      rcases hp with rfl | rfl
      · show h.get? (Tw.tbA K (He.ga K "_law_with_integer")) = _
        rw [Hd.tb__law_with_integer T]
        exact tb _ (by simp)
      · show h.get? (Tw.tbA K (He.ga K "law")) = _
        rw [Hd.tb_law T]
        exact tb _ (by simp)
    · intro p hp
      simp only [List.mem_cons, List.not_mem_nil, or_false] at hp
      rcases hp with rfl | rfl
      · show K.lookup (Tw.tbA K (He.ga K "_law_with_integer")) = none
        rw [Hd.tb__law_with_integer T]
        exact Hd.off__law_with_integer T
      · show K.lookup (Tw.tbA K (He.ga K "law")) = none
        rw [Hd.tb_law T]
        exact Hd.off_law T
    · intro p hp
      simp only [List.mem_cons, List.not_mem_nil, or_false] at hp
      rcases hp with rfl | rfl
      · exact Hd.ch__law_with_integer T
      · exact Hd.ch_law T
end
/-! Tw: comparing instances by their own methods -/
namespace Tw
open PySem PySem.Spec PyProof.Rows L2
section
variable {X : Cx} {CX : CXT} {k : Nat} {C g : Addr} {sp : Sp} {E : XK}
/-- x op y, both of a class with its own method for it -/
def rCmpO (C : Addr) (sp : Sp) (E : XK) : R2 := fun x y H Q => ∃ a dx fs b dy gs, x = .ref a ∧ y = .ref b ∧ H a = some (.ins C dx fs) ∧ H b = some (.ins C dy gs) ∧ sp [.ref a, .ref b] H (fun v H' => ∃ c, v = .bl c ∧ Q (.bl c) H') E
theorem op_cmpO {op : CmpOp} {nm : PySem.Str} (hs : PySem.W.findIn X.K (.ref C) nm = some (some (.ref g))) (hf : PySem.W.isFn X.K (.ref g) = true) (F : FnR X.prog X.w X.K X.mg X.base CX k g sp) (hr : Room (k + 1) X.A) (hx : Passes CX X E)
    (hn : (cmpInfo op).2.1 = nm := by rfl) (hop : ∀ v u, compareOp op v u = richCompare op v u := by intro _ _; rfl) : OpR X (compareOp op) (rCmpO C sp E) := by
  intro pins s σ H x y v u Q I rx ry h
  obtain ⟨a, dx, fs, b, dy, gs, rfl, rfl, ea, eb, q⟩ := h
  cases (show v = Value.ref a from rx)
  cases (show u = Value.ref b from ry)
  rw [hop]
  obtain ⟨mA, O, _⟩ := ins_get I.hok ea
  obtain ⟨od, J, _⟩ := O.look
  obtain ⟨mB, O', _⟩ := ins_get I.hok eb
  obtain ⟨od', J', _⟩ := O'.look
  obtain ⟨m, hF⟩ := I.fr
  refine PySem.W.cmp_K (op := op) (tb := .ref C) hr.units0 hF I.ok.mod.kin J J'.type (by simp [PySem.W.notFirst]) (by rw [hn]; exact hs) hf ?_
  refine wpAny_mono (wpAny_call (SlX.run_at (us := [.ref a, .ref b]) (ws := [.ref a, .ref b]) F (hr.mono (Nat.le_succ _)) I.env0 hx I (.cons rfl (.cons rfl .nil)) q)) (fun w s' z => ?_) fun _ _ x => x
  obtain ⟨z', H', I', rz, c, ez, qz⟩ := z
  subst ez
  cases (show w = Value.bool c from rz)
  exact ⟨.bl c, H', I', rfl, qz⟩
/-- x op= y, x of a class with its own method for it, that returns an object -/
def rIopO (C : Addr) (sp : Sp) (E : XK) : V → V → Hp → VK → Prop := fun x y H Q => ∃ a dx fs, x = .ref a ∧ H a = some (.ins C dx fs) ∧ sp [.ref a, y] H (fun v H' => ∃ c : Addr, v = .ref c ∧ Q (.ref c) H') E
theorem op_iopO {op : Operator} {nm : PySem.Str} (hc : PySem.W.selfFirst X.K C = true) (hs : PySem.W.findIn X.K (.ref C) nm = some (some (.ref g))) (hf : PySem.W.isFn X.K (.ref g) = true) (F : FnR X.prog X.w X.K X.mg X.base CX k g sp) (hr : Room (k + 1) X.A) (hx : Passes CX X E) (hn : dunderI op.info.2 = nm := by decide +kernel) : PIp X op (rIopO C sp E) := by
  intro pins s σ H x y u v Q I rx ry h
  obtain ⟨a, dx, fs, rfl, ea, q⟩ := h
  cases (show u = Value.ref a from rx)
  obtain ⟨mA, O, _⟩ := ins_get I.hok ea
  obtain ⟨od, J, _⟩ := O.look
  obtain ⟨m, hF⟩ := I.fr
  refine PySem.W.ksp_inplace hF I.ok.mod.kin J hc (by rw [hn]; exact hs) hf (wpAny_mono (wpAny_call (SlX.run_at (us := [.ref a, v]) (ws := [.ref a, y]) F (hr.mono (Nat.le_succ _)) I.env0 hx I (.cons rfl (.cons ry .nil)) q)) (fun w s' z => ?_) fun _ _ x => x)
  obtain ⟨z', H', I', rz, c, ez, qz⟩ := z
  subst ez
  cases (show w = Value.ref c from rz)
  exact ⟨.ref c, H', I', rfl, qz⟩
/-- len of a dict -/
def rLenD : List V → Hp → VK → Prop := fun xs H Q => ∃ a kvs, xs = [.ref a] ∧ Rd H a (.dK kvs) ∧ Q (.int kvs.length) H
theorem call_lenD : CallR X (.builtin "len") rLenD := by
  intro pins s σ H xs us Q I r h
  obtain ⟨a, kvs, rfl, e, q⟩ := h
  obtain ⟨u, rfl, ru⟩ := r.one
  cases (show u = Value.ref a from ru)
  exact d_len I e fun t s' I' => ⟨.int _, H, I', ⟨_, rfl⟩, q⟩
/-- x in o, o of a class with its own method for it -/
def rInO (C : Addr) (sp : Sp) (E : XK) : R2 := fun x y H Q => ∃ a dx fs, y = .ref a ∧ H a = some (.ins C dx fs) ∧ sp [.ref a, x] H (fun v H' => ∃ c, v = .bl c ∧ Q (.bl c) H') E
theorem op_inO (hs : PySem.W.findIn X.K (.ref C) "__contains__" = some (some (.ref g))) (hf : PySem.W.isFn X.K (.ref g) = true) (F : FnR X.prog X.w X.K X.mg X.base CX k g sp) (hr : Room (k + 1) X.A) (hx : Passes CX X E) : OpR X (compareOp .In) (rInO C sp E) := by
  intro pins s σ H x y v u Q I rx ry h
  obtain ⟨a, dx, fs, rfl, ea, q⟩ := h
  cases (show u = Value.ref a from ry)
  obtain ⟨mA, O, _⟩ := ins_get I.hok ea
  obtain ⟨od, J, _⟩ := O.look
  obtain ⟨m, hF⟩ := I.fr
  refine PySem.W.in_K hF I.ok.mod.kin J hs hf (wpAny_mono (wpAny_call (SlX.run_at (us := [.ref a, v]) (ws := [.ref a, x]) F (hr.mono (Nat.le_succ _)) I.env0 hx I (.cons rfl (.cons rx .nil)) q)) (fun w s' z => ?_) fun _ _ x => x)
  obtain ⟨z', H', I', rz, c, ez, qz⟩ := z
  subst ez
  cases (show w = Value.bool c from rz)
  wp_walk
  exact ⟨.bl c, H', I', rfl, qz⟩
open PySem.Calls PySem.W in
theorem callWith_ins {M : Model} {A : Around} {E : Value → Shared → Prop} {s : Shared} {K : PySem.W.Frag} {pos : Pos} {x : Addr} {first : List Value} {Q : Value → Shared → Prop} {args : List (Bool × Sem Value)} {keywords : List (Option Str × Sem Value)}
    (hplain : (args.any (·.1) || keywords.any (·.1.isNone)) = false)
    (h : wpAny M A (evalArgs (.ref x) true args keywords) (fun a s₁ => (∃ (C dx : Addr) (od : Option Obj), PySem.W.InstAt s₁.heap x (PySem.W.instObj C dx) C od) ∧ wpAny M A (call (.ref x) (first ++ a.pos) a.kw) Q E s₁) E s) : wpAny M A (callWith pos (.ref x) first args keywords) Q E s := by
  unfold callWith
  refine wpAny_bind (wpAny_holding (wpAny_mono h (fun a s₁ h₁ => wpAny_bind (wpAny_standAt ?_)) fun _ _ y => y))
  obtain ⟨⟨C, dx, od, J⟩, h₂⟩ := h₁
  have L := PySem.W.kco_keeper (M := M) J rfl
  simp only [hplain]
  refine wpAny_bind (L.here ?_)
  have tail : ∀ {t : Sem Value}, wpAny M A t Q E s₁ → wpAny M A (t >>= fun r => holding [r] point >>= fun _ => pure r) Q E s₁ :=
    fun ht => wpAny_bind (wpAny_mono ht (fun r s₂ hr => wpAny_bind (wpAny_holding (wpAny_point (wpAny_pure hr)))) fun _ _ y => y)
  exact tail (wpAny_operateT h₂)
/-- f(e, ..), f a name of an instance of a class with its own __call__ -/
def tCallO (C : Addr) (sp : Sp) (E : XK) (tf : TE) (ta : TA) : TE := fun σ H Q => tf σ H fun x H0 => ∃ a : Addr, x = .ref a ∧ ta σ H0 fun vs H1 => (∃ dx fs, H1 a = some (.ins C dx fs)) ∧ sp (.ref a :: vs) H1 Q E
theorem pe_callO {x : PySem.Str} {p pos : Pos} {e : Expr} {es : List Expr} {tf : TE} {ta : TA} (hs : PySem.W.findIn X.K (.ref C) "__call__" = some (some (.ref g))) (hf : PySem.W.isFn X.K (.ref g) = true) (hfn : PySem.W.fnIn X.K g = true)
    (F : FnR X.prog X.w X.K X.mg X.base CX k g sp) (hr : Room (k + 1) X.A) (hx : Passes CX X E) (hv : PE X (.Name x p) tf) (ha : PA X (e :: es) ta)
    (he : starEach (e :: es) X.env = (false, eval e X.env) :: starEach es X.env := by rfl) (hpl : (backTo pos (starEach es X.env)).any (·.1) = false := by rfl) :
    PE X (.Call (.Name x p) (e :: es) [] pos) (tCallO C sp E tf ta) := by
  refine ⟨fun pins s σ H Q I h => ?_⟩
  refine wpAny_Call_Name_kw (thn (hv.run pins s σ H _ I h) fun u s0 ⟨v, H0, I0, r0, a, ev, q0⟩ => ?_)
  subst ev
  cases (show u = Value.ref a from r0)
  show wpAny _ _ (callWith pos (.ref a) [] (backTo pos (starEach (e :: es) X.env)) []) _ _ _
  rw [he]
  refine callWith_ins (K := X.K) (by show ((false || (backTo pos (starEach es X.env)).any (·.1)) || false) = false; rw [hpl]; rfl) (PySem.Calls.evalArgs_plain ?_)
  have hrun := ha.run pos pins s0 σ H0 _ I0 q0
  rw [he] at hrun
  refine thn hrun fun us s1 ⟨vs, H1, I1, r1, ⟨dx, fs, ea⟩, q1⟩ => ?_
  obtain ⟨mA, O, _⟩ := ins_get I1.hok ea
  obtain ⟨od, J, _⟩ := O.look
  refine ⟨⟨C, dx, _, J⟩, ?_⟩
  show wpAny _ _ (call (.ref a) us) _ _ _
  exact wpAny_call (PySem.W.kco_code (a := ⟨us, []⟩) I1.kIn J rfl hs hf hfn (SlX.run_at (us := .ref a :: us) (ws := .ref a :: vs) F (hr.mono (Nat.le_succ _)) I1.env0 hx I1 (.cons rfl r1) q1))
end
end Tw
/-! Tw: t[::-1] of tuples; (int, tuple) < (int, tuple); x < int for x of a class with its own < -/
namespace HT
open PySem PyProof.Rows
section
variable {prog : Program} {w : World} {A : Around} {E : Value → Shared → Prop} {s : Shared}
theorem sliceApplied_rev {sl : Addr} {vl vu vs : Value} {n : Nat} {Q : Int × Int × Nat → Shared → Prop} (hs : s.heap.IsSliceOf sl vl vu vs) (pl : IsPart vl none) (pu : IsPart vu none) (ps : IsPart vs (some (-1)))
    (h : Q ((n : Int) - 1, -1, n) s) : wpAny (model prog w) A (Builtin.Slice.sliceApplied (.ref sl) (pure (n : Int))) Q E s := by
  obtain ⟨os, hos, hcs, hds⟩ := id hs
  unfold Builtin.Slice.sliceApplied Builtin.Slice.sliceFields
  refine wpAny_bind (wpAny_bind (wpAny_field hos hds (x := vl) rfl (wpAny_bind (wpAny_field hos hds (x := vu) rfl (wpAny_bind (wpAny_field hos hds (x := vs) rfl (wpAny_pure ?_)))))))
  refine wpAny_bind (slicePart_ ps ?_)
  show wpAny _ _ (if ((-1 : Int) == 0) = true then _ else _) _ _ s
  rw [if_neg (by decide)]
  refine wpAny_bind (slicePart_ pl (wpAny_bind (slicePart_ pu (wpAny_bind (wpAny_pure ?_)))))
  show wpAny _ _ (pure ((n : Int) - 1, (-1 : Int), Builtin.Slice.slicePlaces ((n : Int) - 1) (-1) (-1))) _ _ s
  have e : Builtin.Slice.slicePlaces ((n : Int) - 1) (-1) (-1) = n := by
    unfold Builtin.Slice.slicePlaces
    rw [if_neg (by omega)]
    split
    · rw [show -(-1 : Int) = 1 from rfl, Int.ediv_one]; omega
    · omega
  rw [e]
  exact wpAny_pure h
theorem pick_rev (xs : Array Value) : ((List.range xs.size).filterMap fun (m : Nat) => xs[(((xs.size : Int) - 1) + (m : Int) * (-1)).toNat]?).toArray = xs.toList.reverse.toArray := by
  congr 1
  have e : (fun (m : Nat) => xs[(((xs.size : Int) - 1) + (m : Int) * (-1)).toNat]?) = fun m => xs[xs.size - 1 - m]? := by
    funext m
    have : (((xs.size : Int) - 1) + (m : Int) * (-1)).toNat = xs.size - 1 - m := by omega
    rw [this]
  rw [e]
  refine List.ext_getElem? fun i => ?_
  have h : ∀ k, k ≤ xs.size → (List.range k).filterMap (fun m => xs[xs.size - 1 - m]?) = (List.range k).map fun m => xs[xs.size - 1 - m]?.getD .none := by
    intro k
    induction k with
    | zero => intro _; rfl
    | succ k ih =>
      intro hk
      rw [List.range_succ, List.filterMap_append, List.map_append, ih (by omega)]
      congr 1
      have hg := Array.getElem?_eq_getElem (show xs.size - 1 - k < xs.size by omega)
      rw [List.filterMap_cons, List.map_cons, hg]
      rfl
  rw [h _ (Nat.le_refl _), List.getElem?_map]
  rcases Nat.lt_or_ge i xs.size with z | z
  · rw [List.getElem?_range z, List.getElem?_reverse (by simpa using z), Array.length_toList, Array.getElem?_toList]
    have hg := Array.getElem?_eq_getElem (show xs.size - 1 - i < xs.size by omega)
    rw [Option.map_some, hg]
    rfl
  · rw [List.getElem?_eq_none (by simpa using z), List.getElem?_eq_none (by simpa using z)]
    rfl
theorem getItem_tuple_rev {t sl : Addr} {items : Array Value} {vl vu vs : Value} {Q : Value → Shared → Prop} (ht : IsTup s.heap t items) (hs : s.heap.IsSliceOf sl vl vu vs) (pl : IsPart vl none) (pu : IsPart vu none) (ps : IsPart vs (some (-1)))
    (h : Q (.ref s.heap.objs.size) { s with heap := s.heap.push { cls := .type "tuple", data := .seq items.toList.reverse.toArray } })
    (hsz : items.size ≤ sizeLine) : wpAny (model prog w) A (getItem (.ref t) (.ref sl)) Q E s := by
  have htake : sizeOk (.seq items.toList.reverse.toArray) := by
    show items.toList.reverse.toArray.size ≤ sizeLine
    rw [List.size_toArray, List.length_reverse, Array.length_toList]
    omega
  obtain ⟨os, hos, hcs, hds⟩ := id hs
  have hTs : s.TypeIs (.ref sl) "slice" := ⟨os, hos, hcs⟩
  unfold getItem
  try with_reducible refine wpAny_holding ?_
  first | refine wpAny_bind (wpAny_pure ?_) | skip
  refine wpAny_bind (wpAny_sequenceKey ht.typeIs (by decide) ?_)
  refine wpAny_bind (wpAny_callSpecial?_slot (name := Str.ofString "__getitem__") ht.typeIs PyProof.Rows.slot_tuple_getitem
    (wpAny_call_entry PyProof.Rows.slot_tuple_getitem ht.typeIs entry_tuple_getitem ?_ (args_tuple_getitem _ _)))
  show wpAny _ _ (Builtin.Tuple.tupleItemsOf (.ref t) >>= _) _ _ s
  refine wpAny_bind (tupleItemsOf_ ht ?_)
  refine wpAny_bind (wpAny_typeOf hTs ?_)
  rw [if_pos (by decide)]
  refine wpAny_bind (sliceApplied_rev hs pl pu ps ?_)
  have hno : ¬ ((((items.size : Int) - 1) == 0 && (-1 : Int) == 1 && items.size == items.size) = true) := by
    intro q
    rw [Bool.and_eq_true, Bool.and_eq_true] at q
    exact absurd q.1.2 (by decide)
  show wpAny _ _ (if (((items.size : Int) - 1) == 0 && (-1 : Int) == 1 && items.size == items.size) = true then _ else _) _ _ s
  rw [if_neg hno, pick_rev]
  first
    | exact wpAny_bind (m := Builtin.Tuple.tupleExact _) (wpAny_newObj_type (wpAny_pure ⟨_, rfl, wpAny_pure h⟩) htake)
    | exact wpAny_bind (m := Builtin.Tuple.tupleExact _) (wpAny_newObj_type (wpAny_bind (wpAny_pure (wpAny_pure ⟨_, rfl, wpAny_pure h⟩))) htake)
    | exact wpAny_bind (wpAny_bind (m := Builtin.Tuple.tupleExact _) (wpAny_newObj_type (wpAny_pure (wpAny_pure ⟨_, rfl, wpAny_pure h⟩)) htake))
    | exact wpAny_bind (wpAny_bind (m := Builtin.Tuple.tupleExact _) (wpAny_newObj_type (wpAny_pure ⟨_, rfl, wpAny_pure h⟩) htake))
end
end HT
namespace Tw
open PySem PySem.Spec PyProof.Rows L2
/-- t[::-1], t a tuple -/
def tRevT (K : PySem.W.Frag) (te : TE) : TE := fun σ H Q => te σ H fun x H1 => ∃ a xs, x = .ref a ∧ SqT K H1 a xs ∧ ∀ p, H1 p = none → Q (.ref p) (upd H1 p (.tup xs.reverse))
section
variable {X : Cx} {CX : CXT} {k : Nat} {C g : Addr} {sp : Sp} {E : XK}
theorem pe_revT {e : Expr} {te : TE} {k : Nat} {p1 p2 p3 pos : Pos} (he : PE X e te) : PE X (.Subscript e (.Slice none none (some (.UnaryOp .USub (.Constant (.int 1) k p1) p2)) p3) pos) (tRevT X.K te) := by
  refine ⟨fun pins s σ H Q I h => ?_⟩
  refine Subscript_ (thn (he.run pins s σ H _ I h) fun v s1 ⟨x, H1, I1, r1, q1⟩ => ?_)
  obtain ⟨a, xs, ex, hx, q⟩ := q1
  subst ex
  cases r1
  have hst : PO X (some (.UnaryOp .USub (.Constant (.int 1) k p1) p2)) (tPart (tUn (rU fun i => .int (-i)) (tC (.int 1)))) := po_some (pe_un un_neg pe_int)
  refine wpAny_Slice (thn (po_none.run pins s1 σ H1 (fun o H2 => o = none ∧ H2 = H1) I1 ⟨rfl, rfl⟩) fun vl s2 ⟨l, H2, I2, pl, el, e2⟩ => ?_)
  subst el e2
  refine thn (po_none.run pins s2 σ H2 (fun o H3 => o = none ∧ H3 = H2) I2 ⟨rfl, rfl⟩) fun vu s3 ⟨u, H3, I3, pu, eu, e3⟩ => ?_
  subst eu e3
  refine thn (hst.run pins s3 σ H3 (fun o H4 => o = some (-1) ∧ H4 = H3) I3 ⟨1, rfl, -1, rfl, rfl, rfl⟩) fun vs s4 ⟨o, H4, I4, ps, eo, e4⟩ => ?_
  subst eo e4
  have I5 : Inv X pins σ H4 { s4 with heap := s4.heap.push { cls := .type "slice", data := .fields #[vl, vu, vs] } } := I4.kept (t' := s4.toks) fun b ob q => Heap.get?_push_of_some _ q
  obtain ⟨its, r, ht, hz⟩ := I5.tuple hx
  have hlen := r.length
  show wpAny (model X.prog X.w) X.A (subscriptTail e (.Slice none none (some (.UnaryOp .USub (.Constant (.int 1) k p1) p2)) p3) (.ref a) (.ref s4.heap.objs.size)) (EP X pins σ Q) X.xe { s4 with heap := s4.heap.push { cls := .type "slice", data := .fields #[vl, vu, vs] } }
  refine tail_any (ops := [.ref a, .ref s4.heap.objs.size]) ht.typeIs (PyProof.Rows.slot_tuple_getitem.lookup) ?_ (by with_unfolding_all rfl)
  refine HT.getItem_tuple_rev ht (Heap.IsSliceOf.new _ vl vu vs) pl pu ps ?_ (by rw [List.size_toArray]; omega)
  refine ⟨.ref _, _, I5.laid (t' := s4.toks) (o := .tup xs.reverse) (fun b ob q => Heap.get?_push_of_some _ q) (Nat.le_refl _) ?_, rfl, q _ (I5.hok.fresh (Nat.le_refl _))⟩
  exact ⟨by rw [List.length_reverse]; exact hz, _, r.reverse, IsTup.new _ _⟩
/-- x < n, x of a class with its own < -/
def rLtN (C : Addr) (sp : Sp) (E : XK) : R2 := fun x y H Q => ∃ j : Int, y = .int j ∧ ((∃ i : Int, x = .int i ∧ Q (.bl (decide (i < j))) H) ∨ (∃ a dx fs, x = .ref a ∧ H a = some (.ins C dx fs) ∧ sp [.ref a, .int j] H (fun v H' => ∃ c, v = .bl c ∧ Q (.bl c) H') E))
theorem op_ltN (hs : PySem.W.findIn X.K (.ref C) "__lt__" = some (some (.ref g))) (hf : PySem.W.isFn X.K (.ref g) = true) (F : FnR X.prog X.w X.K X.mg X.base CX k g sp) (hr : Room (k + 1) X.A) (hx : Passes CX X E) (hn : PySem.W.notFirst X.K C (.type "int") = true) : OpR X (compareOp .Lt) (rLtN C sp E) := by
  intro pins s σ H x y v u Q I rx ry h
  obtain ⟨j, rfl, ⟨i, rfl, q⟩ | ⟨a, dx, fs, rfl, ea, q⟩⟩ := h
  · obtain ⟨t, rfl⟩ := rx
    obtain ⟨t', rfl⟩ := ry
    exact PyProof.Rows.lt_int ⟨.bl (decide (i < j)), H, I, rfl, q⟩
  · cases (show v = Value.ref a from rx)
    obtain ⟨t', rfl⟩ := ry
    obtain ⟨mA, O, _⟩ := ins_get I.hok ea
    obtain ⟨od, J, _⟩ := O.look
    obtain ⟨m, hF⟩ := I.fr
    show wpAny _ _ (richCompare .Lt _ _) _ _ _
    refine PySem.W.cmp_K (op := .Lt) (tb := .type "int") hr.units0 hF I.ok.mod.kin J ?_ hn hs hf ?_
    · exact PySem.W.Looks.of_pure rfl
    refine wpAny_mono (wpAny_call (SlX.run_at (us := [.ref a, .int j t']) (ws := [.ref a, .int j]) F (hr.mono (Nat.le_succ _)) I.env0 hx I (.cons rfl (.cons ⟨_, rfl⟩ .nil)) q)) (fun w s' z => ?_) fun _ _ x => x
    obtain ⟨z', H', I', rz, c, ez, qz⟩ := z
    subst ez
    cases (show w = Value.bool c from rz)
    exact ⟨.bl c, H', I', rfl, qz⟩
theorem lexLt_irr : ∀ ns : List Int, HT.lexLt ns ns = false
  | [] => rfl
  | n :: ns => by rw [HT.lexLt_cons, if_pos rfl]; exact lexLt_irr ns
/-- (i, t) < (j, u), t and u tuples of ints -/
def rLtP (K : PySem.W.Frag) : R2 := fun x y H Q => ∃ (a b a' b' : Addr) (i j : Int) (ns ms : List Int), x = .ref a ∧ y = .ref b ∧ SqT K H a [.int i, .ref a'] ∧ SqT K H b [.int j, .ref b'] ∧ SqT K H a' (ns.map V.int) ∧ SqT K H b' (ms.map V.int) ∧ Q (.bl (if i = j then HT.lexLt ns ms else decide (i < j))) H
theorem op_ltP (hu : X.A.units + 1 < cLine) : OpR X (compareOp .Lt) (rLtP X.K) := by
  intro pins s σ H x y v u Q I rx ry h
  obtain ⟨a, b, a', b', i, j, ns, ms, rfl, rfl, ha, hb, ha', hb', q⟩ := h
  cases rx
  cases ry
  obtain ⟨its, r1, p1, _⟩ := I.tuple ha
  obtain ⟨its2, r2, p2, _⟩ := I.tuple hb
  obtain ⟨jts, r3, p3, _⟩ := I.tuple ha'
  obtain ⟨jts2, r4, p4, _⟩ := I.tuple hb'
  obtain ⟨u1, u2, rfl, q1, q2⟩ := vals2 r1
  obtain ⟨w1, w2, rfl, q3, q4⟩ := vals2 r2
  obtain ⟨t, rfl⟩ := q1
  obtain ⟨t', rfl⟩ := q3
  cases (show u2 = Value.ref a' from q2)
  cases (show w2 = Value.ref b' from q4)
  have i1 : IntsAre jts ns := Vals.ints r3
  have i2 : IntsAre jts2 ms := Vals.ints r4
  have z1 : jts.toArray.size = ns.length := by rw [List.size_toArray]; exact i1.length
  have z2 : jts2.toArray.size = ms.length := by rw [List.size_toArray]; exact i2.length
  have hin : ∃ e1 : Bool, SeqAt.EqAt X.A.in1 s (.ref a') (.ref b') e1 ∧ (e1 = true → ns = ms) := by
    by_cases hab : a' = b'
    · subst hab
      refine ⟨true, SeqAt.EqAt.same _, fun _ => ?_⟩
      obtain ⟨o1, g1, _, m1, d1⟩ := p3
      obtain ⟨o2, g2, _, m2, d2⟩ := p4
      rw [g1] at g2
      cases g2
      rw [d1] at d2
      have : jts = jts2 := by
        injection d2 with d2
        simpa using d2
      subst this
      rw [← i1.numsOf, ← i2.numsOf]
    · refine ⟨_, SeqAt.EqAt.of_refs hab (SeqAt.RcAt.tuples (e := fun k => (ns.getD k 0 == ms.getD k 0)) p3 p4 hu fun k h1 h2 => ?_), fun hv => ?_⟩
      · obtain ⟨t1, e1⟩ := PyProof.Rows.IntsAre.int_at i1 k (jts.toArray[k]) (by simp at h1; simp [h1])
        obtain ⟨t2, e2⟩ := PyProof.Rows.IntsAre.int_at i2 k (jts2.toArray[k]) (by simp at h2; simp [h2])
        rw [e1, e2]
        exact SeqAt.EqAt.int_int _ _ _ _
      · rw [Bool.and_eq_true] at hv
        have hl : ns.length = ms.length := by
          have := eq_of_beq hv.2
          omega
        refine List.ext_getElem hl fun k h1 h2 => ?_
        have h3 := List.all_eq_true.mp hv.1 k (List.mem_range.mpr (by omega))
        have h4 := eq_of_beq h3
        rw [List.getD_eq_getElem?_getD, List.getD_eq_getElem?_getD, List.getElem?_eq_getElem h1, List.getElem?_eq_getElem h2] at h4
        exact h4
  obtain ⟨e1, hE, hEn⟩ := hin
  have R := Ob.RcOp.tuples_lt (A := X.A) (s := s) (e := fun k => if k = 0 then (i == j) else e1) (r := fun k => if k = 0 then decide (i < j) else HT.lexLt ns ms) p1 p2 (by omega) (fun k h1 h2 => by
    match k, h1, h2 with
    | 0, _, _ => exact SeqAt.EqAt.int_int _ _ _ _
    | 1, _, _ => exact hE
    | k + 2, h1, _ => exact absurd h1 (by simp)) (fun k h1 h2 _ => by
    match k, h1, h2 with
    | 0, _, _ => exact Ob.RcOp.lt_int _ _ _ _
    | 1, _, _ => exact fun prog w E Q h => HT.lt_tupInts p3 p4 (intsAre_of r3) (intsAre_of r4) hu h
    | k + 2, h1, _ => exact absurd h1 (by simp))
  have hval : Ob.lexAt (fun k => if k = 0 then (i == j) else e1) (fun k => if k = 0 then decide (i < j) else HT.lexLt ns ms) (decide (2 < 2)) 0 2 = (if i = j then HT.lexLt ns ms else decide (i < j)) := by
    by_cases hij : i = j
    · rw [if_pos hij]
      subst hij
      have : Ob.lexAt (fun k => if k = 0 then (i == i) else e1) (fun k => if k = 0 then decide (i < i) else HT.lexLt ns ms) (decide (2 < 2)) 0 2 = if e1 = true then false else HT.lexLt ns ms := by
        simp [Ob.lexAt]
      rw [this]
      cases e1 with
      | true => rw [if_pos rfl, hEn rfl, lexLt_irr]
      | false => rfl
    · rw [if_neg hij]
      simp [Ob.lexAt, hij]
  have R : Ob.RcOp .Lt X.A s (.ref a) (.ref b) (if i = j then HT.lexLt ns ms else decide (i < j)) := by
    rw [← hval]
    exact R
  have z : wpAny (model X.prog X.w) X.A (compareOp .Lt (.ref a) (.ref b)) (EP X pins σ Q) X.xe s := R X.prog X.w X.xe (EP X pins σ Q) ⟨.bl _, H, I, rfl, q⟩
  exact z
end
end Tw
/-! Tw: enumerate(tuple); zip(tuple, list) -/
namespace Tw
open PySem PySem.Spec PyProof.Rows L2 PySem.W
open AutoSeq1 (wpAny_loadPart')

theorem enumT_new (t : Addr) (items : Array Value) :
    Meets (Builtin.«enumerate.__new__» ⟨[.type "enumerate", .ref t], []⟩) (fun _ R s => s.heap.IsTuple t items ∧
      R (.ok (.ret (.ref (s.heap.push { cls := .type "tuple_iterator", data := .fields #[.ref t, .int 0 0] }).objs.size)))
        { s with heap := (s.heap.push { cls := .type "tuple_iterator", data := .fields #[.ref t, .int 0 0] }).push { cls := .type "enumerate", data := .fields #[.none, .bool false, .ref s.heap.objs.size, rawInt 0, .none, .none] } }) := by
  refine .of_wp fun prog w A R s h => ?_
  obtain ⟨hp, g, d, tk, os⟩ := s
  obtain ⟨hT, h⟩ := h
  have hT' : Heap.IsTuple (Shared.heap ⟨hp, g, d, tk, os⟩) t items := hT
  obtain ⟨⟨oc, od, odt, osl⟩, ho, hc, n, hd⟩ := id hT
  dsimp only at hc hd
  subst hc hd
  have hsub := sub_enumerate
  wp_walk using wpAny_loadPart' ho
  refine wpAny_stack_any fun st => wpAny_pure ?_
  split
  · rename_i c _ _ _ _ _
    cases (c == Value.type "enumerate") <;> (wp_walk using wpAny_loadPart' ho, wpAny_pyIter_tuple hT'; exact ⟨_, rfl, h⟩)
  · wp_walk using wpAny_loadPart' ho, wpAny_pyIter_tuple hT'
    exact ⟨_, rfl, h⟩

section
variable {prog : Program} {w : World} {A : Around} {E : Value → Shared → Prop} {s : Shared}
theorem enumT_call {t : Addr} {items : Array Value} {Q : Value → Shared → Prop} (hT : s.heap.IsTuple t items)
    (h : ∀ h', IsEnum h' (s.heap.objs.size + 1) s.heap.objs.size 0 .none → h'.IsTupleIter s.heap.objs.size t 0 → (∀ b o, s.heap.get? b = some o → h'.get? b = some o) → Q (.ref (s.heap.objs.size + 1)) { s with heap := h' }) :
    wpAny (model prog w) A (call (.type "enumerate") [.ref t]) Q E s := by
  refine callType_new F.called_enumerate (by decide) (F.typeCall_enumerate_1 _) (F.newCall_enumerate_1 _) (fun obj => F.args_object_init_2 obj _) F.entry_enumerate_new (enumT_new t items) ⟨hT, ?_⟩
  generalize e1 : s.heap.push { cls := .type "tuple_iterator", data := .fields #[.ref t, .int 0 0] } = h1
  have g0 : h1.get? s.heap.objs.size = some { cls := .type "tuple_iterator", data := .fields #[.ref t, .int 0 0] } := by rw [← e1]; exact Heap.get?_push_size _ rfl
  have z1 : h1.objs.size = s.heap.objs.size + 1 := by rw [← e1, Heap.size_push]
  have k1 : ∀ b o, s.heap.get? b = some o → h1.get? b = some o := fun b o e => by rw [← e1]; exact Heap.get?_push_of_some _ e
  show _ ∧ _
  rw [z1]
  have g1 : IsEnum (h1.push { cls := .type "enumerate", data := .fields #[.none, .bool false, .ref s.heap.objs.size, rawInt 0, .none, .none] }) (s.heap.objs.size + 1) s.heap.objs.size 0 .none := by
    rw [← z1]; exact Heap.get?_push_size _ rfl
  exact ⟨⟨_, g1, rfl⟩, h _ g1 ⟨_, Heap.get?_push_of_some _ g0, rfl, by rfl⟩ fun b o e => Heap.get?_push_of_some _ (k1 b o e)⟩
end

/-- the turns of enumerate over the tuple at a -/
def ItEn (K : PySem.W.Frag) (a : Addr) : It where
  go := fun i H => ∃ (xs : List V) (x : V), SqT K H a xs ∧ xs[i]? = some x
  yld := fun i H v H' => ∃ T x, v = .ref T ∧ H T = none ∧ H' = upd H T (.tup [.int (i : Nat), x]) ∧ ∀ xs, SqT K H a xs → xs[i]? = some x
  stop := fun i H => ∃ xs : List V, SqT K H a xs ∧ xs.length ≤ i

theorem two_mem {a b c : Addr} (h : c ∈ [a, b]) : c = a ∨ c = b := by simpa using h
theorem turn_enT {P : Program} {w : World} {K : PySem.W.Frag} {elts : List Expr} {kk : Nat} {tpos : Pos} (a e it : Addr) :
    Turn P w K (.Tuple elts kk tpos) (ItEn K a) [e, it] e (fun i h => (∃ old, IsEnum h e it ((i : Nat) : Int) old) ∧ h.IsTupleIter it a i ∧ e ≠ it ∧ a ≠ it ∧ a ≠ e) := by
  refine ⟨by simp, ?_, ?_, ?_, ?_, ?_⟩
  · intro i h st b hb
    obtain ⟨⟨old, he⟩, ⟨o, ho, hc, hd⟩, _, _⟩ := st
    rcases two_mem hb with z | z
    · subst z
      exact ⟨_, he, fun v q => nomatch q⟩
    · subst z
      exact ⟨o, ho, fun v q => by rw [hd] at q; cases q⟩
  · intro i h h' st k
    obtain ⟨⟨old, he⟩, hi, hne⟩ := st
    exact ⟨⟨old, k e (by simp) _ he⟩, hi.at fun o q => k it (by simp) o q, hne⟩
  · intro X hP hw hK hc i pins s σ H E I hf st hg
    subst hP hw hK
    obtain ⟨⟨old, he⟩, hit, hne, hai, hae⟩ := st
    obtain ⟨xs, x, hq, hx⟩ := hg
    obtain ⟨its, rv, p, hz⟩ := I.tuple hq
    obtain ⟨u, hu, ru⟩ := rv.get hx
    have hel : e < s.heap.objs.size := Heap.lt_size he
    have hil : it < s.heap.objs.size := by obtain ⟨_, q, _⟩ := hit; exact Heap.lt_size q
    have hlt : i < its.toArray.size := by
      have := (List.getElem?_eq_some_iff.mp hu).1
      simpa using this
    have hd0 : X.A.in1.handled = none := I.ok.hd hc
    refine wpAny_pyNext_enum_itemD (Draws.tuple hd0 it a hai its.toArray) he ⟨hit, p⟩ hlt hne (by simp [hne, Ne.symm hae]) fun y h' tk hy ho hst' hT hsz hk => ?_
    have ey : y = u := by
      have e1 : its.toArray[i]? = some y := hy
      have e2 : its.toArray[i]? = some u := by simpa using hu
      rw [e1] at e2
      exact Option.some.inj e2
    subst ey
    refine ⟨_, rfl, wpAny_letOwnedTupleGo_enum (s := { s with heap := h', toks := tk + 1 }) ho fun h'' he' sb => ?_⟩
    have hT2 := (sb.2 _ (Nat.ne_of_gt hel)).trans hT
    have new : ObjOk X.prog X.w (upd H s.heap.objs.size (.tup [.int (i : Nat), x])) h'' s.heap.objs.size (.tup [.int (i : Nat), x]) :=
      ⟨by show 2 ≤ sizeLine; decide, [.int i tk, y], .cons ⟨_, rfl⟩ (.cons ru .nil), ⟨_, hT2, rfl, _, rfl⟩⟩
    have I1 : Inv X pins σ (upd H s.heap.objs.size (.tup [.int (i : Nat), x])) { s with heap := h'', toks := tk + 1 } :=
      I.turnedNew (ch := [e, it]) (fun b ob hb q => (sb.2 b fun z => hb (by simp [z])).trans (hk b ob (fun z => hb (by simp [z])) (fun z => hb (by simp [z])) q)) hf (Nat.le_refl _) new
    refine ⟨.ref s.heap.objs.size, _, I1, rfl, ⟨_, x, rfl, I.hok.fresh (Nat.le_refl _), rfl, fun ys hy => by rw [I.tuple_inj hy hq]; exact hx⟩, ⟨⟨y, ?_⟩, hst'.1.at fun o q => (sb.2 it (Ne.symm hne)).trans q, hne, hai, hae⟩, fun b hb => ?_⟩
    · have e1 : ((i + 1 : Nat) : Int) = (i : Int) + 1 := by omega
      rw [e1]
      exact he'
    · have hb' : b < s.heap.objs.size := by rcases two_mem hb with z | z <;> (rw [z]; assumption)
      rw [upd_ne (Nat.ne_of_lt hb')]
      exact (hf b hb).1
  · intro X hP hw hK hc i pins s σ H E I hf st hg
    subst hP hw hK
    obtain ⟨⟨old, he⟩, hit, hne, hai, hae⟩ := st
    obtain ⟨xs, hq, hx⟩ := hg
    obtain ⟨its, rv, p, hz⟩ := I.tuple hq
    obtain ⟨f0, f1, f2, f3, f4, f5⟩ := hf it (by simp)
    have hl := rv.length
    have hd0 : X.A.in1.handled = none := I.ok.hd hc
    have D : Draws X.prog X.w X.A.in1 it [it, a] i (fun _ _ => False) (fun j h => j = i ∧ h.IsTupleIter it a i ∧ h.IsTuple a its.toArray) := by
      refine ⟨fun _ _ st => let ⟨o, ho, _⟩ := st.2.1; ⟨o, ho⟩, fun _ _ _ st hk => ⟨st.1, st.2.1.at fun o e => hk it (by simp) o e, st.2.2.at fun o e => hk a (by simp) o e⟩, fun j s Q E hj st _ => absurd st.1 (Nat.ne_of_lt hj), fun s Q E st hE => ?_⟩
      exact RZ.nextOf_tuple_end hd0 st.2.1 st.2.2 (Array.getElem?_eq_none (by simp; omega)) hE
    exact wpAny_pyNext_enum_endD D he ⟨rfl, hit, p⟩ fun h' eb => ⟨rfl, I.turned (t' := s.toks) (fun b o hb q => eb b o hb q) f0 f1 f3 f4 f5⟩
  · intro A i s Q E st h
    obtain ⟨⟨_, he⟩, _⟩ := st
    exact wpAny_pyIter_enum he h
def iEnT (K : PySem.W.Frag) (ta : TA) : TI := fun σ H R => ta σ H fun vs H1 => ∃ a xs, vs = [.ref a] ∧ SqT K H1 a xs ∧ R (ItEn K a) H1
/-- for i, x in enumerate(t), t a tuple -/
theorem pi_enT {X : Cx} {e : Expr} {ta : TA} {p pos tpos : Pos} {elts : List Expr} {kk : Nat} (hg : Gl X "enumerate") (hm : X.mg "enumerate" = none) (ha : PA X [e] ta)
    (hs : starEach [e] X.env = [(false, eval e X.env)] := by rfl) : PI X (.Tuple elts kk tpos) (.Call (.Name "enumerate" p) [e] [] pos) (iEnT X.K ta) := by
  refine ⟨fun pins s σ H R I h => Call_ (ld_blt I hg hm boot_enumerate (PyProof.Rows.callWith_type1 (thn (ha.run pos pins s σ H _ I h) fun us s1 ⟨vs, H1, I1, r1, q1⟩ => ?_) hs rfl))⟩
  obtain ⟨a, xs, rfl, hq, q⟩ := q1
  obtain ⟨u, rfl, ru⟩ := r1.one
  cases (show u = Value.ref a from ru)
  obtain ⟨its, rv, p', hz⟩ := I1.tuple hq
  have hal : a < s1.heap.objs.size := by obtain ⟨_, ho, _⟩ := id p'; exact Heap.lt_size ho
  refine enumT_call p' fun h' he hit hk => wpAny_pyIter_enum he ?_
  have I2 : Inv X pins σ H1 { s1 with heap := h' } := I1.kept (t' := s1.toks) hk
  refine ⟨s1.heap.objs.size + 1, [s1.heap.objs.size + 1, s1.heap.objs.size], _, _, H1, rfl, I2, turn_enT a (s1.heap.objs.size + 1) s1.heap.objs.size, ⟨⟨.none, he⟩, hit, Nat.succ_ne_self _, Nat.ne_of_lt hal, Nat.ne_of_lt (Nat.lt_succ_of_lt hal)⟩, fun b hb => ?_, q⟩
  have hle : s1.heap.objs.size ≤ b := by
    rcases two_mem hb with z | z
    · exact z ▸ Nat.le_succ _
    · exact z ▸ Nat.le_refl _
  exact I1.fpOk hle (I1.hok.fresh hle)
/-- the loop over it: the body leaves, or goes to the next turn -/
theorem for_enT {K : PySem.W.Frag} {a : Addr} {xs : List V} {g : TG} {tb : TS} {D : Ends} {σ : L2.St} {H : Hp} (Pv : Nat → L2.St → Hp → Prop) (h0 : Pv 0 σ H) (hq : ∀ i σ H, Pv i σ H → SqT K H a xs)
    (hs : ∀ (i : Nat) (x : V) (T : Addr) (σ : L2.St) (H : Hp), xs[i]? = some x → Pv i σ H → H T = none → g (.ref T) σ (upd H T (.tup [.int (i : Nat), x])) fun σ2 H2 => tb { D with nx := Pv (i + 1), ct := Pv (i + 1), bk := D.nx } σ2 H2)
    (hd : ∀ σ H, Pv xs.length σ H → D.nx σ H) :
    ∃ W : Nat → Nat → L2.St → Hp → Prop, (∃ m, W 0 m σ H) ∧ ∀ i m σ H, W i m σ H →
      ((ItEn K a).stop i H ∧ D.nx σ H) ∨ ((ItEn K a).go i H ∧ ∃ N : L2.St → Hp → Prop, (∀ σ' H', N σ' H' → ∃ m', m' < m ∧ W (i + 1) m' σ' H') ∧ ∀ v H', (ItEn K a).yld i H v H' → g v σ H' fun σ2 H2 => tb { D with nx := N, ct := N, bk := D.nx } σ2 H2) := by
  refine ⟨fun i m σ H => m = xs.length - i ∧ i ≤ xs.length ∧ Pv i σ H, ⟨xs.length, rfl, Nat.zero_le _, h0⟩, ?_⟩
  rintro i m σ H ⟨rfl, hi, p⟩
  have qx := hq i σ H p
  by_cases hlt : i < xs.length
  · have hx : xs[i]? = some xs[i] := List.getElem?_eq_getElem hlt
    refine .inr ⟨⟨xs, _, qx, hx⟩, Pv (i + 1), fun σ' H' p' => ⟨xs.length - (i + 1), by omega, rfl, hlt, p'⟩, fun v H' y => ?_⟩
    obtain ⟨T, x', rfl, hT, rfl, f1⟩ := y
    exact hs i x' T σ H (f1 xs qx) p hT
  · obtain rfl : i = xs.length := by omega
    exact .inl ⟨⟨xs, qx, Nat.le_refl _⟩, hd σ H p⟩

/-! ### zip(tuple, list) -/
def ItZm (K : PySem.W.Frag) (a b : Addr) : It where
  go := fun i H => ∃ (xs ys : List V) (x y : V), SqT K H a xs ∧ SqL K H b ys ∧ xs[i]? = some x ∧ ys[i]? = some y
  yld := fun i H v H' => ∃ T x y, v = .ref T ∧ H T = none ∧ H' = upd H T (.tup [x, y]) ∧ (∀ xs, SqT K H a xs → xs[i]? = some x) ∧ ∀ ys, SqL K H b ys → ys[i]? = some y
  stop := fun i H => ∃ xs ys : List V, SqT K H a xs ∧ SqL K H b ys ∧ i = xs.length ∧ i = ys.length
theorem turn_zm {P : Program} {w : World} {K : PySem.W.Frag} {elts : List Expr} {kk : Nat} {tpos : Pos} {a b z TI TO i1 i2 : Addr} (S : ZipSep2 z TI TO i1 i2 [i1, a] [i2, b]) (ha : a ≠ i1) (hb : b ≠ i2) :
    Turn P w K (.Tuple elts kk tpos) (ItZm K a b) [z, TI, TO, i1, i2] z
      (fun i h => IsZip h z TI TO .none ∧ IsTupOf2 h TI (.ref i1) (.ref i2) ∧ (∃ x y, IsTupOf2 h TO x y) ∧ h.IsTupleIter i1 a i ∧ h.IsListIter i2 b i) := by
  have five : ∀ {c : Addr}, c ∈ [z, TI, TO, i1, i2] → c = z ∨ c = TI ∨ c = TO ∨ c = i1 ∨ c = i2 := fun h => by simpa using h
  refine ⟨by simp, ?_, ?_, ?_, ?_, ?_⟩
  · intro i h st c hc
    obtain ⟨hz, hTI, ⟨x, y, hTO⟩, ⟨o1, e1, _, d1⟩, ⟨o2, e2, _, d2⟩⟩ := st
    rcases five hc with q | q | q | q | q <;> subst q
    · exact ⟨_, hz, fun v q => nomatch q⟩
    · exact ⟨_, hTI, fun v q => nomatch q⟩
    · exact ⟨_, hTO, fun v q => nomatch q⟩
    · exact ⟨o1, e1, fun v q => by rw [d1] at q; cases q⟩
    · exact ⟨o2, e2, fun v q => by rw [d2] at q; cases q⟩
  · intro i h h' st k
    obtain ⟨hz, hTI, ⟨x, y, hTO⟩, h1, h2⟩ := st
    exact ⟨k z (by simp) _ hz, k TI (by simp) _ hTI, ⟨x, y, k TO (by simp) _ hTO⟩, h1.at fun o q => k i1 (by simp) o q, h2.at fun o q => k i2 (by simp) o q⟩
  · intro X hP hw hK hc i pins s σ H E I hf st hg
    subst hP hw hK
    obtain ⟨hz, hTI, ⟨x0, y0, hTO⟩, h1, h2⟩ := st
    obtain ⟨xs, ys, x, y, hqx, hqy, hx, hy⟩ := hg
    obtain ⟨its, rv, p, _⟩ := I.tuple hqx
    obtain ⟨its2, rv2, p2, _⟩ := I.list hqy
    obtain ⟨u, hu, ru⟩ := rv.get hx
    obtain ⟨u2, hu2, ru2⟩ := rv2.get hy
    have hzl : z < s.heap.objs.size := Heap.lt_size hz
    have hd0 : X.A.in1.handled = none := I.ok.hd hc
    have l1 : i < its.toArray.size := by have := (List.getElem?_eq_some_iff.mp hu).1; simpa using this
    have l2 : i < its2.toArray.size := by have := (List.getElem?_eq_some_iff.mp hu2).1; simpa using this
    refine wpAny_pyNext_zipD2_item S (Draws.tuple hd0 i1 a ha its.toArray) (Draws.list hd0 i2 b hb its2.toArray) hz hTI hTO ⟨h1, p⟩ ⟨h2, p2.isList⟩ l1 l2 fun x1 x2 h' tk y1 y2 z' TO' s1' s2' hT hsz hk => ?_
    have ey1 : x1 = u := by
      have e1 : its.toArray[i]? = some x1 := y1
      have e2 : its.toArray[i]? = some u := by simpa using hu
      rw [e1] at e2
      exact Option.some.inj e2
    have ey2 : x2 = u2 := by
      have e1 : its2.toArray[i]? = some x2 := y2
      have e2 : its2.toArray[i]? = some u2 := by simpa using hu2
      rw [e1] at e2
      exact Option.some.inj e2
    subst ey1 ey2
    refine ⟨_, rfl, wpAny_letOwnedTupleGo_zip (s := { s with heap := h', toks := tk }) z' fun h'' z'' sb => ?_⟩
    have hT2 := (sb.2 _ (Nat.ne_of_gt hzl)).trans hT
    have new : ObjOk X.prog X.w (upd H s.heap.objs.size (.tup [x, y])) h'' s.heap.objs.size (.tup [x, y]) :=
      ⟨by show 2 ≤ sizeLine; decide, [x1, x2], .cons ru (.cons ru2 .nil), ⟨_, hT2, rfl, _, rfl⟩⟩
    have I1 : Inv X pins σ (upd H s.heap.objs.size (.tup [x, y])) { s with heap := h'', toks := tk } :=
      I.turnedNew (ch := [z, TI, TO, i1, i2]) (fun c o hb' q => (sb.2 c fun q' => hb' (by simp [q'])).trans (hk c o (fun q' => hb' (by simp [q'])) (fun q' => hb' (by simp [q'])) (fun q' => hb' (by simp [q'])) (fun q' => hb' (by simp [q'])) q)) hf (Nat.le_refl _) new
    refine ⟨.ref s.heap.objs.size, _, I1, rfl, ⟨_, x, y, rfl, I.hok.fresh (Nat.le_refl _), rfl, fun l hl => by rw [I.tuple_inj hl hqx]; exact hx, fun l hl => by rw [I.list_inj hl hqy]; exact hy⟩, ⟨z'', ?_, ⟨x1, x2, ?_⟩, ?_, ?_⟩, fun c hcm => ?_⟩
    · exact (sb.2 _ S.TIz).trans (hk _ _ S.TIz S.TITO S.TIi1 S.TIi2 hTI)
    · exact (sb.2 _ S.TOz).trans TO'
    · exact s1'.1.at fun o q => (sb.2 _ S.zi1.symm).trans q
    · exact s2'.1.at fun o q => (sb.2 _ S.zi2.symm).trans q
    · have hlt : c < s.heap.objs.size := by
        rcases five hcm with q | q | q | q | q <;> subst q
        · exact hzl
        · exact Heap.lt_size hTI
        · exact Heap.lt_size hTO
        · obtain ⟨_, e1, _⟩ := h1; exact Heap.lt_size e1
        · obtain ⟨_, e1, _⟩ := h2; exact Heap.lt_size e1
      rw [upd_ne (Nat.ne_of_lt hlt)]
      exact (hf c hcm).1
  · intro X hP hw hK hc i pins s σ H E I hf st hg
    subst hP hw hK
    obtain ⟨hz, hTI, ⟨x0, y0, hTO⟩, h1, h2⟩ := st
    obtain ⟨xs, ys, hqx, hqy, e1, e2⟩ := hg
    obtain ⟨its, rv, p, _⟩ := I.tuple hqx
    obtain ⟨its2, rv2, p2, _⟩ := I.list hqy
    have l1 := rv.length
    have l2 := rv2.length
    have hd0 : X.A.in1.handled = none := I.ok.hd hc
    refine wpAny_pyNext_zipD2_end S (Draws.tuple hd0 i1 a ha its.toArray) (Draws.list hd0 i2 b hb its2.toArray) hz hTI hTO ⟨h1, p⟩ ⟨h2, p2.isList⟩ (by simp; omega) (by simp; omega) (.inl (by simp; omega)) fun h' tk hk => ⟨rfl, I.turnedL (t' := tk) (ch := [z, TI, TO, i1, i2]) (fun c o hb' q =>
      hk c o (fun q' => hb' (by simp [q'])) (fun q' => hb' (by simp [q'])) (fun q' => hb' (by simp [q'])) (fun q' => hb' (by simp [q'])) q) hf⟩
  · exact fun A i s Q E st h => wpAny_pyIter_zip st.1 h
theorem nmem2 {x p q : Nat} (h1 : x ≠ p) (h2 : x ≠ q) : x ∉ [p, q] := by simp [h1, h2]
theorem zsep (n a b : Nat) (ha : a < n) (hb : b < n) : ZipSep2 (n + 4) (n + 2) (n + 3) n (n + 1) [n, a] [n + 1, b] := by
  have h1 : ∀ k, 0 < k → n + k ≠ n := fun k hk => by omega
  have h2 : ∀ k j, k ≠ j → n + k ≠ n + j := fun k j hk => by omega
  have h3 : ∀ k, n + k ≠ a := fun k => by omega
  have h4 : ∀ k, n + k ≠ b := fun k => by omega
  exact ⟨h2 2 4 (by decide), h2 3 4 (by decide), h2 2 3 (by decide), h1 2 (by decide), by simp, nmem2 (h1 4 (by decide)) (h3 4), nmem2 (h1 3 (by decide)) (h3 3), h2 2 1 (by decide), by simp,
    nmem2 (h2 4 1 (by decide)) (h4 4), nmem2 (h2 3 1 (by decide)) (h4 3), nmem2 (h1 1 (by decide)).symm (h4 0), nmem2 (h1 1 (by decide)) (h3 1)⟩
def iZm (K : PySem.W.Frag) (ta : TA) : TI := fun σ H R => ta σ H fun vs H1 => ∃ a b xs ys, vs = [.ref a, .ref b] ∧ SqT K H1 a xs ∧ SqL K H1 b ys ∧ R (ItZm K a b) H1
/-- for x, y in zip(t, l), t a tuple, l a list -/
theorem pi_zm {X : Cx} {e e2 : Expr} {ta : TA} {p pos tpos : Pos} {elts : List Expr} {kk : Nat} (hg : Gl X "zip") (hm : X.mg "zip" = none) (ha : PA X [e, e2] ta)
    (hs : starEach [e, e2] X.env = (false, eval e X.env) :: starEach [e2] X.env := by rfl) (hpl : (backTo pos (starEach [e2] X.env)).any (·.1) = false := by rfl) :
    PI X (.Tuple elts kk tpos) (.Call (.Name "zip" p) [e, e2] [] pos) (iZm X.K ta) := by
  refine ⟨fun pins s σ H R I h => Call_ (ld_blt I hg hm PyProof.Rows.boot_zip (PyProof.Rows.callWith_type1 (thn (ha.run pos pins s σ H _ I h) fun us s1 ⟨vs, H1, I1, r1, q1⟩ => ?_) hs hpl))⟩
  obtain ⟨a, b, xs, ys, rfl, hqx, hqy, q⟩ := q1
  obtain ⟨u, u2, rfl, ru, ru2⟩ := Vals.two r1
  cases (show u = Value.ref a from ru)
  cases (show u2 = Value.ref b from ru2)
  obtain ⟨its, rv, p1, _⟩ := I1.tuple hqx
  obtain ⟨its2, rv2, p2, _⟩ := I1.list hqy
  have hal : a < s1.heap.objs.size := by obtain ⟨_, ho, _⟩ := id p1; exact Heap.lt_size ho
  have hbl : b < s1.heap.objs.size := p2.lt
  refine zip_begins2 (begins_tuple a its.toArray) (begins_list b its2.toArray) p1 p2.isList fun h' hz hTI hTO g1 g2 hsz hk => wpAny_pyIter_zip hz ?_
  have I2 : Inv X pins σ H1 { s1 with heap := h' } := I1.kept (t' := s1.toks) hk
  have S := zsep s1.heap.objs.size a b hal hbl
  have hab : a ≠ s1.heap.objs.size := Nat.ne_of_lt hal
  have hbb : b ≠ s1.heap.objs.size + 1 := Nat.ne_of_lt (Nat.lt_succ_of_lt hbl)
  refine ⟨s1.heap.objs.size + 4, [s1.heap.objs.size + 4, s1.heap.objs.size + 2, s1.heap.objs.size + 3, s1.heap.objs.size, s1.heap.objs.size + 1], _, _, H1, rfl, I2, turn_zm S hab hbb, ⟨hz, hTI, ⟨_, _, hTO⟩, ⟨_, g1, rfl, rfl⟩, ⟨_, g2, rfl, rfl⟩⟩, fun c hcm => ?_, q⟩
  have hle : s1.heap.objs.size ≤ c := by
    have e' : c = s1.heap.objs.size + 4 ∨ c = s1.heap.objs.size + 2 ∨ c = s1.heap.objs.size + 3 ∨ c = s1.heap.objs.size ∨ c = s1.heap.objs.size + 1 := by simpa using hcm
    rcases e' with e | e | e | e | e <;> (rw [e]; simp)
  exact I1.fpOk hle (I1.hok.fresh hle)
theorem for_zm {K : PySem.W.Frag} {a b : Addr} {xs ys : List V} {g : TG} {tb : TS} {D : Ends} {σ : L2.St} {H : Hp} (hl : xs.length = ys.length) (Pv : Nat → L2.St → Hp → Prop) (h0 : Pv 0 σ H) (hq : ∀ i σ H, Pv i σ H → SqT K H a xs ∧ SqL K H b ys)
    (hs : ∀ (i : Nat) (x y : V) (T : Addr) (σ : L2.St) (H : Hp), xs[i]? = some x → ys[i]? = some y → Pv i σ H → H T = none → g (.ref T) σ (upd H T (.tup [x, y])) fun σ2 H2 => tb { D with nx := Pv (i + 1), ct := Pv (i + 1), bk := D.nx } σ2 H2)
    (hd : ∀ σ H, Pv xs.length σ H → D.nx σ H) :
    ∃ W : Nat → Nat → L2.St → Hp → Prop, (∃ m, W 0 m σ H) ∧ ∀ i m σ H, W i m σ H →
      ((ItZm K a b).stop i H ∧ D.nx σ H) ∨ ((ItZm K a b).go i H ∧ ∃ N : L2.St → Hp → Prop, (∀ σ' H', N σ' H' → ∃ m', m' < m ∧ W (i + 1) m' σ' H') ∧ ∀ v H', (ItZm K a b).yld i H v H' → g v σ H' fun σ2 H2 => tb { D with nx := N, ct := N, bk := D.nx } σ2 H2) := by
  refine ⟨fun i m σ H => m = xs.length - i ∧ i ≤ xs.length ∧ Pv i σ H, ⟨xs.length, rfl, Nat.zero_le _, h0⟩, ?_⟩
  rintro i m σ H ⟨rfl, hi, p⟩
  obtain ⟨qx, qy⟩ := hq i σ H p
  by_cases hlt : i < xs.length
  · have hlt2 : i < ys.length := by omega
    have hx := List.getElem?_eq_getElem hlt
    have hy := List.getElem?_eq_getElem hlt2
    refine .inr ⟨⟨xs, ys, _, _, qx, qy, hx, hy⟩, Pv (i + 1), fun σ' H' p' => ⟨xs.length - (i + 1), by omega, rfl, hlt, p'⟩, fun v H' y => ?_⟩
    obtain ⟨T, x', y', rfl, hT, rfl, f1, f2⟩ := y
    exact hs i x' y' T σ H (f1 xs qx) (f2 ys qy) p hT
  · obtain rfl : i = xs.length := by omega
    exact .inl ⟨⟨xs, ys, qx, qy, rfl, hl⟩, hd σ H p⟩
end Tw
/-! The mirror of the package's timers in plain Lean, and its mathematics. -/
namespace TwM

structure Lv where
  g : Int
  s : Int
  p : Int
  deriving DecidableEq, Inhabited
structure Bk where
  up : Bool
  fire : Bool
  high : Bool
  put : Bool
  zone : Bool
  bey : Nat
  deriving DecidableEq, Inhabited
structure Spot where
  lv : Nat
  pt : Int
  due : Int
  deriving DecidableEq, Inhabited

def lv (W : List Lv) (i : Nat) : Lv := W.getD i default
def reach (W : List Lv) : Int := (lv W (W.length - 1)).p
def rnd (up : Bool) (t g : Int) : Int := if up then -((-t) / g) else t / g
def levelOf : List Lv → Int → Option Nat
  | [], _ => none
  | l :: ls, d => if d < l.p then some 0 else (levelOf ls d).map (· + 1)
def levelIx (W : List Lv) (d : Int) : Nat := (levelOf W d).getD (W.length - 1)
def spotAt (W : List Lv) (B : Bk) (now rest due : Int) : Spot := match levelOf W rest with
  | some i => ⟨i, rnd B.up (now + rest) (lv W i).g, due⟩
  | none => ⟨W.length - 1, rnd B.up (now + reach W - 1) (lv W (W.length - 1)).g, due⟩
def va (l : Lv) (pt now : Int) : Int := (now / l.g + 1 + (pt - now / l.g - 1) % l.s) * l.g
def isVis (l : Lv) (pt before now : Int) : Bool := decide ((pt - before / l.g - 1) % l.s < now / l.g - before / l.g)
def taken (W : List Lv) (B : Bk) (sp : Spot) (tick : Int) : Option Spot :=
  if sp.lv = 0 ∨ B.fire = true then none
  else if tick < sp.due then some (spotAt W B tick (sp.due - tick) sp.due)
  else if B.put = true then some ⟨0, tick, sp.due⟩ else none
def order (W : List Lv) (B : Bk) : List Nat := if B.high = true then (List.range W.length).reverse else List.range W.length
def visGo (W : List Lv) (B : Bk) (before now : Int) : List Nat → Spot → List (Option Spot)
  | [], _ => []
  | i :: is, sp => if sp.lv = i ∧ isVis (lv W i) sp.pt before now = true then
      (match taken W B sp now with
        | none => [none]
        | some s' => some s' :: visGo W B before now is s')
      else visGo W B before now is sp
def visited (W : List Lv) (B : Bk) (sp : Spot) (before now : Int) : List (Option Spot) := visGo W B before now (order W B) sp
def skipped (W : List Lv) (sp : Spot) (tick : Int) (limit : Option Int) : Int × Int :=
  if sp.lv ≠ W.length - 1 ∨ sp.due - tick < reach W then (0, 0)
  else
    let step := va (lv W sp.lv) sp.pt tick - tick
    let many := (sp.due - tick - reach W) / step
    match limit with
    | none => (many, step)
    | some lim => (min many ((lim - tick) / step), step)
def over (limit : Option Int) (t : Int) : Bool := match limit with
  | none => false
  | some l => decide (l < t)
abbrev Res := Option Spot × Int × Int
def fol (W : List Lv) (B : Bk) (limit : Option Int) : Nat → Spot → Int → Int → Option Res
  | 0, _, _, _ => none
  | n + 1, sp, tick, mv =>
    let t := va (lv W sp.lv) sp.pt tick
    if over limit t = true then some (some sp, tick, mv)
    else
      let found := visited W B sp (t - 1) t
      match found.getLast? with
      | none => none
      | some none => some (none, t, mv + found.length - 1)
      | some (some sp') =>
        let k := skipped W sp' t limit
        if 0 < k.1 then fol W B limit n (spotAt W B (t + k.1 * k.2) (sp'.due - (t + k.1 * k.2)) sp'.due) (t + k.1 * k.2) (mv + found.length + k.1)
        else fol W B limit n sp' t (mv + found.length)

structure WOk (W : List Lv) : Prop where
  pos : 0 < W.length
  len : W.length ≤ 5
  all : ∀ i, i < W.length → 1 ≤ (lv W i).g ∧ (lv W i).g ≤ 1000 ∧ 2 ≤ (lv W i).s ∧ (lv W i).s ≤ 100 ∧ 2 ≤ (lv W i).p
  first : (lv W 0).g = 1
  dv : ∀ i, i + 1 < W.length → (lv W i).g ∣ (lv W (i + 1)).g
  asc : ∀ i, i + 1 < W.length → (lv W i).p < (lv W (i + 1)).p

theorem levelOf_lt : ∀ {W : List Lv} {d : Int} {i : Nat}, levelOf W d = some i → i < W.length ∧ d < (lv W i).p
  | [], _, _, h => by simp [levelOf] at h
  | l :: ls, d, i, h => by
    unfold levelOf at h
    split at h
    · cases h
      rename_i hd
      exact ⟨by simp, by simpa [lv] using hd⟩
    · cases q : levelOf ls d with
      | none => rw [q] at h; cases h
      | some j =>
        rw [q] at h
        have e : j + 1 = i := Option.some.inj h
        subst e
        obtain ⟨h1, h2⟩ := levelOf_lt q
        refine ⟨by simpa using h1, ?_⟩
        have : lv (l :: ls) (j + 1) = lv ls j := by simp [lv]
        rw [this]; exact h2
theorem levelOf_none : ∀ {W : List Lv} {d : Int}, levelOf W d = none → ∀ i, i < W.length → (lv W i).p ≤ d
  | [], _, _, i, h => by simp at h
  | l :: ls, d, h, i, hi => by
    unfold levelOf at h
    split at h
    · cases h
    · rename_i hd
      cases q : levelOf ls d with
      | some j => rw [q] at h; cases h
      | none =>
        cases i with
        | zero => simp [lv]; omega
        | succ i =>
          have := levelOf_none q i (by simpa using hi)
          have e : lv (l :: ls) (i + 1) = lv ls i := by simp [lv]
          rw [e]; exact this
theorem levelOf_ge : ∀ {W : List Lv} {d : Int} {i : Nat}, levelOf W d = some i → ∀ j, j < i → (lv W j).p ≤ d
  | [], _, _, h => by simp [levelOf] at h
  | l :: ls, d, i, h => by
    intro j hj
    unfold levelOf at h
    split at h
    · cases h; omega
    · rename_i hd
      cases q : levelOf ls d with
      | none => rw [q] at h; cases h
      | some k =>
        rw [q] at h
        have e : k + 1 = i := Option.some.inj h
        subst e
        cases j with
        | zero => simp [lv]; omega
        | succ j =>
          have := levelOf_ge q j (by omega)
          have e : lv (l :: ls) (j + 1) = lv ls j := by simp [lv]
          rw [e]; exact this
theorem levelOf_is : ∀ {W : List Lv} {d : Int} {i : Nat}, i < W.length → (∀ j, j < i → (lv W j).p ≤ d) → d < (lv W i).p → levelOf W d = some i
  | [], _, _, h, _, _ => by simp at h
  | l :: ls, d, 0, _, _, h => by
    unfold levelOf
    rw [if_pos (by simpa [lv] using h)]
  | l :: ls, d, i + 1, hi, hp, h => by
    have e : ∀ j, lv (l :: ls) (j + 1) = lv ls j := fun j => by simp [lv]
    have h0 := hp 0 (by omega)
    unfold levelOf
    rw [if_neg (by simp [lv] at h0; omega), levelOf_is (by simpa using hi) (fun j hj => by have := hp (j + 1) (by omega); rwa [e] at this) (by rwa [e] at h)]
    rfl
theorem levelOf_isN : ∀ {W : List Lv} {d : Int}, (∀ j, j < W.length → (lv W j).p ≤ d) → levelOf W d = none
  | [], _, _ => rfl
  | l :: ls, d, hp => by
    have e : ∀ j, lv (l :: ls) (j + 1) = lv ls j := fun j => by simp [lv]
    have h0 := hp 0 (by simp)
    unfold levelOf
    rw [if_neg (by simp [lv] at h0; omega), levelOf_isN (fun j hj => by have := hp (j + 1) (by simpa using hj); rwa [e] at this)]
    rfl
theorem spotAt_lt {W : List Lv} (ok : WOk W) (B : Bk) (now rest due : Int) : (spotAt W B now rest due).lv < W.length := by
  unfold spotAt
  split
  · rename_i i h; exact (levelOf_lt h).1
  · have := ok.pos; show W.length - 1 < W.length; omega
theorem spotAt_due (W : List Lv) (B : Bk) (now rest due : Int) : (spotAt W B now rest due).due = due := by
  unfold spotAt
  split <;> rfl

theorem va_gt {l : Lv} (hg : 0 < l.g) (hs : 0 < l.s) (pt now : Int) : now < va l pt now := by
  unfold va
  have h1 : 0 ≤ (pt - now / l.g - 1) % l.s := Int.emod_nonneg _ (by omega)
  have h2 : (now / l.g + 1) * l.g ≤ (now / l.g + 1 + (pt - now / l.g - 1) % l.s) * l.g := Int.mul_le_mul_of_nonneg_right (by omega) (by omega)
  have h3 : now < (now / l.g + 1) * l.g := Int.lt_ediv_add_one_mul_self now hg
  omega
theorem va_vis {l : Lv} (hg : 0 < l.g) (hs : 0 < l.s) (pt now : Int) : isVis l pt (va l pt now - 1) (va l pt now) = true := by
  unfold isVis va
  generalize hq : now / l.g + 1 + (pt - now / l.g - 1) % l.s = q
  have e1 : q * l.g / l.g = q := Int.mul_ediv_cancel _ (by omega)
  have e2 : (q * l.g - 1) / l.g = q - 1 := by
    have h1 : q * l.g - 1 = (l.g - 1) + (q - 1) * l.g := by rw [Int.sub_mul]; omega
    rw [h1, Int.add_mul_ediv_right _ _ (by omega), Int.ediv_eq_zero_of_lt (by omega) (by omega)]
    omega
  rw [e1, e2]
  have e3 : pt - (q - 1) - 1 = pt - q := by omega
  rw [e3]
  have e4 : (pt - q) % l.s = 0 := by
    rw [← hq]
    have : pt - (now / l.g + 1 + (pt - now / l.g - 1) % l.s) = (pt - now / l.g - 1) - (pt - now / l.g - 1) % l.s := by omega
    rw [this, Int.sub_emod, Int.emod_emod_of_dvd _ (Int.dvd_refl _)]
    simp
  rw [e4]
  simp
  omega

/-- every result of a visit: its due tick stays, its level is one of the wheel's; not due: it was placed; due: put to the first level -/
theorem taken_some {W : List Lv} (ok : WOk W) {B : Bk} {sp sp' : Spot} {tick : Int} (h : taken W B sp tick = some sp') :
    sp'.lv < W.length ∧ sp'.due = sp.due ∧ sp.lv ≠ 0 ∧ B.fire = false ∧ (tick < sp.due ∧ sp' = spotAt W B tick (sp.due - tick) sp.due ∨ sp.due ≤ tick ∧ B.put = true ∧ sp' = ⟨0, tick, sp.due⟩) := by
  unfold taken at h
  split at h
  · cases h
  · rename_i hn
    have h1 : sp.lv ≠ 0 := fun e => hn (.inl e)
    have h2 : B.fire = false := by
      cases e : B.fire
      · rfl
      · exact absurd (.inr e) hn
    split at h
    · rename_i hd
      cases h
      exact ⟨spotAt_lt ok _ _ _ _, spotAt_due _ _ _ _ _, h1, h2, .inl ⟨hd, rfl⟩⟩
    · rename_i hd
      split at h
      · rename_i hp
        cases h
        exact ⟨ok.pos, rfl, h1, h2, .inr ⟨by omega, hp, rfl⟩⟩
      · cases h
theorem visGo_last {W : List Lv} (ok : WOk W) {B : Bk} {before now : Int} : ∀ (is : List Nat) {sp sp' : Spot}, (visGo W B before now is sp).getLast? = some (some sp') →
    sp'.lv < W.length ∧ sp'.due = sp.due ∧ B.fire = false ∧ (now < sp.due ∧ sp' = spotAt W B now (sp.due - now) sp.due ∨ sp.due ≤ now ∧ sp' = ⟨0, now, sp.due⟩)
  | [], sp, sp', h => by simp [visGo] at h
  | i :: is, sp, sp', h => by
    unfold visGo at h
    split at h
    · cases q : taken W B sp now with
      | none => rw [q] at h; simp at h
      | some s1 =>
        rw [q] at h
        dsimp only at h
        obtain ⟨a1, a2, a3, a4, a5⟩ := taken_some ok q
        cases hr : visGo W B before now is s1 with
        | nil =>
          rw [hr] at h
          have e : s1 = sp' := by simpa using h
          subst e
          refine ⟨a1, a2, a4, ?_⟩
          rcases a5 with ⟨b1, b2⟩ | ⟨b1, _, b2⟩
          · exact .inl ⟨b1, b2⟩
          · exact .inr ⟨b1, b2⟩
        | cons x xs =>
          rw [hr] at h
          have h' : (visGo W B before now is s1).getLast? = some (some sp') := by
            rw [hr]
            rw [List.getLast?_cons] at h
            cases hx : (x :: xs).getLast? with
            | none => simp at hx
            | some z => rw [hx] at h; simpa using h
          obtain ⟨c1, c2, c3, c4⟩ := visGo_last ok is h'
          refine ⟨c1, c2.trans a2, c3, ?_⟩
          rw [a2] at c4
          exact c4
    · exact visGo_last ok is h
theorem visGo_ne {W : List Lv} {B : Bk} {before now : Int} : ∀ (is : List Nat) {sp : Spot}, sp.lv ∈ is → isVis (lv W sp.lv) sp.pt before now = true → visGo W B before now is sp ≠ []
  | [], sp, h, _ => by simp at h
  | i :: is, sp, h, hv => by
    unfold visGo
    by_cases e : sp.lv = i
    · rw [if_pos ⟨e, by rw [← e]; exact hv⟩]
      cases taken W B sp now <;> simp
    · rw [if_neg (fun z => e z.1)]
      exact visGo_ne is (by rcases List.mem_cons.mp h with q | q; exact absurd q e; exact q) hv
theorem mem_order {W : List Lv} {B : Bk} {i : Nat} : i ∈ order W B ↔ i < W.length := by
  unfold order
  split <;> simp
theorem visited_ne {W : List Lv} (ok : WOk W) {B : Bk} {sp : Spot} (hl : sp.lv < W.length) (tick : Int) :
    visited W B sp (va (lv W sp.lv) sp.pt tick - 1) (va (lv W sp.lv) sp.pt tick) ≠ [] :=
  visGo_ne _ (mem_order.mpr hl) (va_vis (by have := ok.all _ hl; omega) (by have := ok.all _ hl; omega) _ _)

/-- how many turns are enough -/
def mu (sp : Spot) (tick : Int) : Nat := if sp.lv = 0 then 1 else 2 + (sp.due - tick).toNat
theorem visGo_zero {W : List Lv} {B : Bk} {before now : Int} : ∀ (is : List Nat) {sp : Spot}, sp.lv = 0 → ∀ x ∈ visGo W B before now is sp, x = none
  | [], sp, _, x, h => by simp [visGo] at h
  | i :: is, sp, h0, x, h => by
    unfold visGo at h
    split at h
    · have e : taken W B sp now = none := by unfold taken; rw [if_pos (.inl h0)]
      rw [e] at h
      simpa using h
    · exact visGo_zero is h0 x h
theorem skipped_pos {W : List Lv} {sp : Spot} {tick : Int} {limit : Option Int} (h : 0 < (skipped W sp tick limit).1) :
    sp.lv = W.length - 1 ∧ reach W ≤ sp.due - tick ∧ (skipped W sp tick limit).2 = va (lv W sp.lv) sp.pt tick - tick ∧ (skipped W sp tick limit).1 ≤ (sp.due - tick - reach W) / (va (lv W sp.lv) sp.pt tick - tick) := by
  unfold skipped at h ⊢
  split at h
  · simp at h
  · rename_i hn
    have h1 : sp.lv = W.length - 1 := Classical.byContradiction fun e => hn (.inl e)
    have h2 : reach W ≤ sp.due - tick := by
      rcases Int.lt_or_le (sp.due - tick) (reach W) with e | e
      · exact absurd (.inr e) hn
      · exact e
    rw [if_neg hn]
    refine ⟨h1, h2, ?_⟩
    cases limit with
    | none => exact ⟨rfl, Int.le_refl _⟩
    | some l => exact ⟨rfl, Int.min_le_left _ _⟩
theorem fol_ends {W : List Lv} (ok : WOk W) (B : Bk) (limit : Option Int) : ∀ (n : Nat) (sp : Spot) (tick mv : Int), sp.lv < W.length → mu sp tick ≤ n → ∃ r, fol W B limit n sp tick mv = some r
  | 0, sp, tick, mv, _, h => by unfold mu at h; split at h <;> omega
  | n + 1, sp, tick, mv, hl, h => by
    have hall := ok.all _ hl
    have hgt := va_gt (l := lv W sp.lv) (by omega) (by omega) sp.pt tick
    unfold fol
    dsimp only
    split
    · exact ⟨_, rfl⟩
    · have hne := visited_ne ok (B := B) hl tick
      cases hq : (visited W B sp (va (lv W sp.lv) sp.pt tick - 1) (va (lv W sp.lv) sp.pt tick)).getLast? with
      | none => exact absurd (List.getLast?_eq_none_iff.mp hq) hne
      | some o =>
        cases o with
        | none => exact ⟨_, rfl⟩
        | some sp' =>
          have h0 : sp.lv ≠ 0 := fun e => by
            have := visGo_zero (W := W) (B := B) (before := va (lv W sp.lv) sp.pt tick - 1) (now := va (lv W sp.lv) sp.pt tick) (order W B) e (some sp') (List.mem_of_getLast? hq)
            cases this
          obtain ⟨c1, c2, c3, c4⟩ := visGo_last ok _ hq
          have hm : 2 + (sp.due - tick).toNat ≤ n + 1 := by unfold mu at h; rw [if_neg h0] at h; exact h
          have hmu : mu sp' (va (lv W sp.lv) sp.pt tick) ≤ n := by
            unfold mu
            split
            · omega
            · rename_i hz
              rcases c4 with ⟨d1, d2⟩ | ⟨d1, d2⟩
              · rw [c2]; omega
              · exact absurd (by rw [d2]) hz
          dsimp only
          split
          · rename_i hk
            obtain ⟨k1, k2, k3, k4⟩ := skipped_pos hk
            refine fol_ends ok B limit n _ _ _ (spotAt_lt ok _ _ _ _) ?_
            have hs : 0 < va (lv W sp'.lv) sp'.pt (va (lv W sp.lv) sp.pt tick) - va (lv W sp.lv) sp.pt tick := by
              have hall' := ok.all _ c1
              have := va_gt (l := lv W sp'.lv) (by omega) (by omega) sp'.pt (va (lv W sp.lv) sp.pt tick)
              omega
            have hadd : 0 < (skipped W sp' (va (lv W sp.lv) sp.pt tick) limit).1 * (skipped W sp' (va (lv W sp.lv) sp.pt tick) limit).2 := Int.mul_pos hk (by rw [k3]; exact hs)
            have hr := ok.all (W.length - 1) (by have := ok.pos; omega)
            unfold mu
            split
            · omega
            · rw [spotAt_due, c2]
              rw [c2] at k2
              unfold reach at k2
              omega
          · exact fol_ends ok B limit n sp' _ _ c1 hmu
end TwM
/-! Tw: what stands in the heap; the readings' short words -/
namespace Tw
open PySem PySem.Spec PyProof.Rows L2 He TwM
open PySem.W (Frag)

/-! ### operators by short names -/
abbrev oAdd : R2 := rI0 fun i j => .int (i + j)
abbrev oSub : R2 := rI0 fun i j => .int (i - j)
abbrev oMul : R2 := rI CMul fun i j => .int (i * j)
abbrev oDiv : R2 := rI CDiv fun i j => .int (i / j)
abbrev oMod : R2 := rI (fun _ j => 0 < j) fun i j => .int (i % j)
abbrev oPow : R2 := rI CPow fun i j => .int (i ^ j.toNat)
abbrev oDivW : R2 := rI CDivW fun i j => .int (i / j)
abbrev oMulW : R2 := rI CMulW fun i j => .int (i * j)
abbrev oNeg : V → Hp → VK → Prop := rU fun i => .int (-i)
abbrev oLt : R2 := rI0 fun i j => .bl (decide (i < j))
abbrev oLe : R2 := rI0 fun i j => .bl (decide (i ≤ j))
abbrev oGt : R2 := rI0 fun i j => .bl (decide (j < i))
abbrev oGe : R2 := rI0 fun i j => .bl (decide (j ≤ i))
abbrev oAddS : R2 := fun x y H Q => ∃ i j, x = .str i ∧ y = .str j ∧ i.length + j.length ≤ sizeLine ∧ Q (.str (i ++ j)) H
abbrev oIsN : R2 := fun x y H Q => y = .non ∧ Q (.bl (decide (x = .non))) H
abbrev oNotN : R2 := fun x y H Q => y = .non ∧ Q (.bl (!decide (x = .non))) H
abbrev oTru (K : Frag) (ta : TE) : TT := fun σ H Q => ta σ H fun x H' => ∃ k, TruV K x H' k ∧ Q k H'
abbrev oAbs : List V → Hp → VK → Prop := fun xs H Q => ∃ i, xs = [.int i] ∧ Q (.int (if i < 0 then -i else i)) H
abbrev oMax2 : List V → Hp → VK → Prop := fun xs H Q => ∃ i j, xs = [.int i, .int j] ∧ Q (.int (if j > i then j else i)) H
abbrev oMin2 : List V → Hp → VK → Prop := fun xs H Q => ∃ i j, xs = [.int i, .int j] ∧ Q (.int (if j < i then j else i)) H
abbrev oInt1 : List V → Hp → VK → Prop := fun xs H Q => (∃ i, xs = [.int i] ∧ Q (.int i) H) ∨ ∃ k, xs = [.bl k] ∧ Q (.int (if k then 1 else 0)) H
abbrev oBool1 : List V → Hp → VK → Prop := fun xs H Q => (∃ i, xs = [.int i] ∧ Q (.bl (i != 0)) H) ∨ ∃ k, xs = [.bl k] ∧ Q (.bl k) H
abbrev oStrI : List V → Hp → VK → Prop := fun xs H Q => ∃ i, xs = [.int i] ∧ i.natAbs.log2 < 1920 ∧ Q (.str (toString i)) H
abbrev oLen (K : Frag) : List V → Hp → VK → Prop := fun xs H Q => ∃ p ys, xs = [.ref p] ∧ (SqL K H p ys ∨ SqT K H p ys) ∧ Q (.int ys.length) H
abbrev oLenS : List V → Hp → VK → Prop := fun xs H Q => ∃ z, xs = [.str z] ∧ z.length ≤ sizeLine ∧ Q (.int z.length) H
abbrev oTupT (K : Frag) : List V → Hp → VK → Prop := fun xs H Q => ∃ a ys, xs = [.ref a] ∧ SqT K H a ys ∧ Q (.ref a) H
abbrev oTupOf (K : Frag) : List V → Hp → VK → Prop := fun xs H Q => ∃ p ys, xs = [.ref p] ∧ ((SqL K H p ys ∧ ∀ l, H l = none → Q (.ref l) (upd H l (.tup ys))) ∨ (SqT K H p ys ∧ Q (.ref p) H))
abbrev oLstOf (K : Frag) : List V → Hp → VK → Prop := fun xs H Q => ∃ p ys, xs = [.ref p] ∧ (SqL K H p ys ∨ SqT K H p ys) ∧ ∀ l, H l = none → Q (.ref l) (upd H l (.lst ys))
abbrev oSplit : V → List V → Hp → VK → Prop := fun x xs H Q => ∃ a b, x = .str a ∧ xs = [.str b] ∧ (b.length == 0) = false ∧ a.length + 2 ≤ sizeLine ∧ rNewStrs (Txt.split a b) H Q
abbrev oJoin (K : Frag) : V → List V → Hp → VK → Prop := fun x xs H Q => ∃ a p, ∃ ys : List Str, x = .str a ∧ xs = [.ref p] ∧ (SqL K H p (ys.map V.str) ∨ SqT K H p (ys.map V.str)) ∧
  (ys.map (·.length)).sum + ys.length * a.length ≤ 16777216 ∧ Q (.str (Txt.join a ys)) H

theorem sc_ii (i j : Int) : scal (.int i) (.int j) = true := rfl
theorem sc_ss (i j : Str) : scal (.str i) (.str j) = true := rfl
theorem sc_bb (i j : Bool) : scal (.bl i) (.bl j) = true := rfl
theorem sc_ni (j : Int) : scal .non (.int j) = true := rfl
theorem sc_in (j : Int) : scal (.int j) .non = true := rfl
theorem sc_nn : scal .non .non = true := rfl
theorem sc_is (i : Int) (j : Str) : scal (.int i) (.str j) = true := rfl
theorem isi_base {K : Frag} {H : Hp} {Q : VK} {x : V} {t n : String} {b : Bool} (ty : TyX K H x (.type t)) (h : kitB t n = some b) (q : Q (.bl b) H) : rIsi K [x, .ty n] H Q := ⟨x, .ty n, _, _, b, rfl, .ty n, ty, kit_ty h, q⟩
abbrev six : List Str := ["rounding", "action", "order", "due", "zero", "beyond"]
/-- what the readings lean on of the written part -/
structure Klv (K : Frag) (w : World) : Prop where
  cL : Cls K (ga K "Level")
  nLg : NoAttr K (ga K "Level") "kept_grain"
  nLs : NoAttr K (ga K "Level") "kept_slots"
  nLp : NoAttr K (ga K "Level") "kept_span"
  iL : IsiC K (ga K "Level")
  kL : PySem.W.kitOne K (.ref (ga K "Level")) (.ref (ga K "Level")) = some true
structure Kl (K : Frag) (w : World) : Prop extends Klv K w where
  cW : Cls K (ga K "Wheel")
  nWl : NoAttr K (ga K "Wheel") "kept_levels"
structure Kf (K : Frag) (w : World) : Prop extends Kl K w where
  cB : Cls K (ga K "Book")
  nBv : NoAttr K (ga K "Book") "kept_values"
  sw : ∀ H, SqT K H (ga K "SWITCHES") (six.map V.str)
  vd : ∀ x, x ∈ six → KDct K w (ga K "VALUES") x (.ref (dva K (ga K "VALUES") x))
  v0 : ∀ H, SqT K H (dva K (ga K "VALUES") "rounding") [.str "down", .str "up"]
  v1 : ∀ H, SqT K H (dva K (ga K "VALUES") "action") [.str "fire", .str "move"]
  v2 : ∀ H, SqT K H (dva K (ga K "VALUES") "order") [.str "high", .str "low"]
  v3 : ∀ H, SqT K H (dva K (ga K "VALUES") "due") [.str "now", .str "put"]
  v4 : ∀ H, SqT K H (dva K (ga K "VALUES") "zero") [.str "now", .str "one"]
  v5 : ∀ H, SqT K H (dva K (ga K "VALUES") "beyond") [.str "refuse", .str "last", .str "cut"]
/-! ### what stands in the heap -/
structure LOk (l : Lv) : Prop where
  g1 : 1 ≤ l.g
  g2 : l.g ≤ 1000
  s1 : 2 ≤ l.s
  s2 : l.s ≤ 100
def lfs (l : Lv) : List (Str × V) := [("kept_grain", .int l.g), ("kept_slots", .int l.s), ("kept_span", .int l.p)]
structure LvAt (K : Frag) (H : Hp) (a : Addr) (l : Lv) : Prop where
  ok : LOk l
  at_ : ∃ dx, H a = some (.ins (ga K "Level") dx (lfs l))
structure WhAt (K : Frag) (H : Hp) (a : Addr) (W : List Lv) : Prop where
  ok : WOk W
  at_ : ∃ (dx t : Addr) (as : List Addr), H a = some (.ins (ga K "Wheel") dx [("kept_levels", .ref t)]) ∧ H t = some (.tup (as.map V.ref)) ∧ as.length = W.length ∧ ∀ i c, as[i]? = some c → LvAt K H c (lv W i)
def sUp (b : Bool) : Str := if b then "up" else "down"
def sFire (b : Bool) : Str := if b then "fire" else "move"
def sHigh (b : Bool) : Str := if b then "high" else "low"
def sPut (b : Bool) : Str := if b then "put" else "now"
def sZone (b : Bool) : Str := if b then "one" else "now"
def sBey (n : Nat) : Str := match n with | 0 => "refuse" | 1 => "last" | _ => "cut"
def bws (B : Bk) : List Str := [sUp B.up, sFire B.fire, sHigh B.high, sPut B.put, sZone B.zone, sBey B.bey]
structure BkAt (K : Frag) (H : Hp) (a : Addr) (B : Bk) : Prop where
  ok : B.bey < 3
  at_ : ∃ dx t, H a = some (.ins (ga K "Book") dx [("kept_values", .ref t)]) ∧ H t = some (.tup ((bws B).map V.str))
def SpAt (H : Hp) (p : Addr) (sp : Spot) : Prop := H p = some (.tup [.int sp.lv, .int sp.pt, .int sp.due])
def OSp (H : Hp) (v : V) (o : Option Spot) : Prop := match o with
  | none => v = .non
  | some sp => ∃ p, v = .ref p ∧ SpAt H p sp
def OSps (H : Hp) (xs : List V) (os : List (Option Spot)) : Prop := xs.length = os.length ∧ ∀ (i : Nat) (v : V) (o : Option Spot), xs[i]? = some v → os[i]? = some o → OSp H v o
def optI (o : Option Nat) : V := match o with
  | none => .non
  | some i => .int i
def optV (o : Option Int) : V := match o with
  | none => .non
  | some i => .int i
section
variable {K : Frag} {H H' : Hp} {a p : Addr}
theorem LvAt.same {l : Lv} (h : LvAt K H a l) (e : Same H H') : LvAt K H' a l := ⟨h.ok, h.at_.elim fun dx q => ⟨dx, e _ _ q⟩⟩
theorem WhAt.same {W : List Lv} (h : WhAt K H a W) (e : Same H H') : WhAt K H' a W := by
  obtain ⟨ok, dx, t, as, h1, h2, h3, h4⟩ := h
  exact ⟨ok, dx, t, as, e _ _ h1, e _ _ h2, h3, fun i c q => (h4 i c q).same e⟩
theorem BkAt.same {B : Bk} (h : BkAt K H a B) (e : Same H H') : BkAt K H' a B := by
  obtain ⟨ok, dx, t, h1, h2⟩ := h
  exact ⟨ok, dx, t, e _ _ h1, e _ _ h2⟩
theorem SpAt.same {sp : Spot} (h : SpAt H p sp) (e : Same H H') : SpAt H' p sp := e _ _ h
theorem OSp.same {v : V} {o : Option Spot} (h : OSp H v o) (e : Same H H') : OSp H' v o := by
  cases o with
  | none => exact h
  | some sp => exact h.elim fun p q => ⟨p, q.1, q.2.same e⟩
theorem OSps.same {xs : List V} {os : List (Option Spot)} (h : OSps H xs os) (e : Same H H') : OSps H' xs os := ⟨h.1, fun i v o q r => (h.2 i v o q r).same e⟩
theorem OSps.nil : OSps H [] [] := ⟨rfl, fun i v o q => by simp at q⟩
theorem OSps.snoc {xs : List V} {os : List (Option Spot)} {v : V} {o : Option Spot} (h : OSps H xs os) (q : OSp H v o) : OSps H (xs ++ [v]) (os ++ [o]) := by
  refine ⟨by simp [h.1], fun i v' o' e1 e2 => ?_⟩
  rw [List.getElem?_append] at e1 e2
  have hl := h.1
  split at e1
  · rw [if_pos (by omega)] at e2
    exact h.2 i v' o' e1 e2
  · rw [if_neg (by omega)] at e2
    rw [hl] at e1
    cases hk : i - os.length with
    | zero =>
      rw [hk] at e1 e2
      simp at e1 e2
      subst e1 e2
      exact q
    | succ k => rw [hk] at e1; simp at e1
theorem LvAt.inj {l l' : Lv} (h : LvAt K H a l) (h' : LvAt K H a l') : l' = l := by
  obtain ⟨_, dx, h1⟩ := h
  obtain ⟨_, dx', h2⟩ := h'
  rw [h1] at h2
  have h3 := Option.some.inj h2
  injection h3 with _ _ h4
  obtain ⟨g, s, p⟩ := l
  obtain ⟨g', s', p'⟩ := l'
  simp only [lfs, List.cons.injEq, Prod.mk.injEq, V.int.injEq, true_and, and_true] at h4
  obtain ⟨e1, e2, e3⟩ := h4
  rw [e1, e2, e3]
theorem lv_ex {l : Lv} (h : LvAt K H a l) {P : Lv → Prop} : (∃ l', LvAt K H a l' ∧ P l') = P l :=
  propext ⟨fun ⟨l', h', q⟩ => h.inj h' ▸ q, fun q => ⟨l, h, q⟩⟩
theorem lv_ext {W W' : List Lv} (hl : W'.length = W.length) (h : ∀ i, i < W.length → lv W' i = lv W i) : W' = W := by
  refine List.ext_getElem hl fun i h1 h2 => ?_
  have := h i h2
  simpa [lv, List.getD_eq_getElem?_getD, h1, h2] using this
theorem map_inj {α β : Type} {f : α → β} (hf : ∀ a b, f a = f b → a = b) : ∀ {l l' : List α}, l.map f = l'.map f → l = l'
  | [], [], _ => rfl
  | [], _ :: _, h => by simp at h
  | _ :: _, [], h => by simp at h
  | a :: l, b :: l', h => by
    rw [List.map_cons, List.map_cons] at h
    injection h with h1 h2
    rw [hf a b h1, map_inj hf h2]
theorem refs_inj {l l' : List Addr} (h : l.map V.ref = l'.map V.ref) : l = l' := map_inj (fun a b e => V.ref.inj e) h
theorem strs_inj {l l' : List Str} (h : l.map V.str = l'.map V.str) : l = l' := map_inj (fun a b e => V.str.inj e) h
theorem WhAt.inj {W W' : List Lv} (h : WhAt K H a W) (h' : WhAt K H a W') : W' = W := by
  obtain ⟨_, dx, t, as, h1, h2, h3, h4⟩ := h
  obtain ⟨_, dx', t', as', h1', h2', h3', h4'⟩ := h'
  rw [h1] at h1'
  have e1 := Option.some.inj h1'
  injection e1 with _ _ e2
  simp only [List.cons.injEq, Prod.mk.injEq, V.ref.injEq, true_and, and_true] at e2
  subst e2
  rw [h2] at h2'
  have e3 := Option.some.inj h2'
  injection e3 with e4
  have e5 := refs_inj e4
  subst e5
  refine lv_ext (by omega) fun i hi => ?_
  have hi' : i < as.length := by omega
  exact (h4 i _ (List.getElem?_eq_getElem hi')).inj (h4' i _ (List.getElem?_eq_getElem hi'))
theorem wh_ex {W : List Lv} (h : WhAt K H a W) {P : List Lv → Prop} : (∃ W', WhAt K H a W' ∧ P W') = P W :=
  propext ⟨fun ⟨l', h', q⟩ => h.inj h' ▸ q, fun q => ⟨W, h, q⟩⟩
theorem bws_inj {B B' : Bk} (hb : B.bey < 3) (hb' : B'.bey < 3) (h : bws B' = bws B) : B' = B := by
  obtain ⟨u, f, h1, p, z, n⟩ := B
  obtain ⟨u', f', h1', p', z', n'⟩ := B'
  simp only [bws, List.cons.injEq, and_true] at h
  obtain ⟨e1, e2, e3, e4, e5, e6⟩ := h
  have a1 : u' = u := by revert e1; cases u <;> cases u' <;> decide +kernel
  have a2 : f' = f := by revert e2; cases f <;> cases f' <;> decide +kernel
  have a3 : h1' = h1 := by revert e3; cases h1 <;> cases h1' <;> decide +kernel
  have a4 : p' = p := by revert e4; cases p <;> cases p' <;> decide +kernel
  have a5 : z' = z := by revert e5; cases z <;> cases z' <;> decide +kernel
  have a6 : n' = n := by
    dsimp only at hb hb'
    revert e6
    match n, n', hb, hb' with
    | 0, 0, _, _ => decide +kernel
    | 0, 1, _, _ => decide +kernel
    | 0, 2, _, _ => decide +kernel
    | 1, 0, _, _ => decide +kernel
    | 1, 1, _, _ => decide +kernel
    | 1, 2, _, _ => decide +kernel
    | 2, 0, _, _ => decide +kernel
    | 2, 1, _, _ => decide +kernel
    | 2, 2, _, _ => decide +kernel
  rw [a1, a2, a3, a4, a5, a6]
theorem BkAt.inj {B B' : Bk} (h : BkAt K H a B) (h' : BkAt K H a B') : B' = B := by
  obtain ⟨ok, dx, t, h1, h2⟩ := h
  obtain ⟨ok', dx', t', h1', h2'⟩ := h'
  rw [h1] at h1'
  have e1 := Option.some.inj h1'
  injection e1 with _ _ e2
  simp only [List.cons.injEq, Prod.mk.injEq, V.ref.injEq, true_and, and_true] at e2
  subst e2
  rw [h2] at h2'
  have e3 := Option.some.inj h2'
  injection e3 with e4
  exact (bws_inj ok' ok (strs_inj e4)).symm
theorem bk_ex {B : Bk} (h : BkAt K H a B) {P : Bk → Prop} : (∃ B', BkAt K H a B' ∧ P B') = P B :=
  propext ⟨fun ⟨l', h', q⟩ => h.inj h' ▸ q, fun q => ⟨B, h, q⟩⟩
theorem SpAt.inj {s s' : Spot} (h : SpAt H p s) (h' : SpAt H p s') : s' = s := by
  unfold SpAt at h h'
  rw [h] at h'
  have e1 := Option.some.inj h'
  obtain ⟨l, a, b⟩ := s
  obtain ⟨l', a', b'⟩ := s'
  simp only [HO.tup.injEq, List.cons.injEq, V.int.injEq, and_true] at e1
  obtain ⟨e1, e2, e3⟩ := e1
  have e4 : l' = l := by omega
  rw [e4, e2, e3]
theorem sp_ex {s : Spot} (h : SpAt H p s) {P : Spot → Prop} : (∃ s', SpAt H p s' ∧ P s') = P s :=
  propext ⟨fun ⟨l', h', q⟩ => h.inj h' ▸ q, fun q => ⟨s, h, q⟩⟩
theorem sz0 : (0 ≤ sizeLine) = True := eq_true (by decide)
theorem sz1 : (1 ≤ sizeLine) = True := eq_true (by decide)
theorem sz2 : (2 ≤ sizeLine) = True := eq_true (by decide)
theorem sz3 : (3 ≤ sizeLine) = True := eq_true (by decide)
theorem sz4 : (4 ≤ sizeLine) = True := eq_true (by decide)
theorem sz5 : (5 ≤ sizeLine) = True := eq_true (by decide)
theorem sz6 : (6 ≤ sizeLine) = True := eq_true (by decide)
theorem lk1 (x : Str) (v : V) (r : List (Str × V)) : List.lookup x ((x, v) :: r) = some v := by
  rw [List.lookup_cons, show (x == x) = true from beq_self_eq_true x]
theorem lk2 (x y : Str) (v : V) (r : List (Str × V)) (h : (x == y) = false) : List.lookup x ((y, v) :: r) = List.lookup x r := by
  rw [List.lookup_cons, h]
theorem lfs_g (l : Lv) : (lfs l).lookup ("kept_grain" : Str) = some (.int l.g) := lk1 _ _ _
theorem lfs_s (l : Lv) : (lfs l).lookup ("kept_slots" : Str) = some (.int l.s) := by
  unfold lfs
  rw [lk2 _ _ _ _ (by decide +kernel), lk1]
theorem lfs_p (l : Lv) : (lfs l).lookup ("kept_span" : Str) = some (.int l.p) := by
  unfold lfs
  rw [lk2 _ _ _ _ (by decide +kernel), lk2 _ _ _ _ (by decide +kernel), lk1]
theorem sUp_up (b : Bool) : (sUp b = "up") = (b = true) := by cases b <;> decide +kernel
theorem sFire_fire (b : Bool) : (sFire b = "fire") = (b = true) := by cases b <;> decide +kernel
theorem sHigh_high (b : Bool) : (sHigh b = "high") = (b = true) := by cases b <;> decide +kernel
theorem sPut_put (b : Bool) : (sPut b = "put") = (b = true) := by cases b <;> decide +kernel
theorem sZone_now (b : Bool) : (sZone b = "now") = (b = false) := by cases b <;> decide +kernel
theorem sBey_refuse (n : Nat) : (sBey n = "refuse") = (n = 0) := by
  match n with
  | 0 => decide +kernel
  | 1 => decide +kernel
  | n + 2 => exact propext ⟨fun h => absurd h (by show ¬ (("cut" : Str) = "refuse"); decide +kernel), fun h => by omega⟩
theorem sBey_cut (n : Nat) : (sBey n = "cut") = (2 ≤ n) := by
  match n with
  | 0 => exact propext ⟨fun h => absurd h (by decide +kernel), fun h => by omega⟩
  | 1 => exact propext ⟨fun h => absurd h (by decide +kernel), fun h => by omega⟩
  | n + 2 => exact propext ⟨fun h => by omega, fun h => rfl⟩
end
end Tw
/-! Tw: promises and readings of the package's defs -/
namespace Tw
open PySem PySem.Spec PyProof.Rows L2 He TwM
open PySem.W (Frag)
local macro_rules | `(tactic| walk_at "rs") => `(tactic| simp only [and_assoc, tNever, tSeq, tAsg, gName, tVar, tC, tOp, rI, rI0, rU, tUn, oAdd, oSub, oMul, oDiv, oMod, oNeg, oLt, oLe, oGt, oGe, oIsN, oNotN, tFn, tCons, tNil, tIfS, tIf, tTest, tB, tNot, tAnd, tOr, tAndV, tOrV, tNotV,
  tRet, tRetN, tNext, tCB, tDrop, tChain, rEq, rNe, oMax2, oMin2, oInt1, rLenF, L2.start, List.map_cons, List.map_nil, List.length_cons, List.length_nil, List.replicate_succ, List.replicate_zero, List.cons_append, List.nil_append, Nat.reduceAdd, Nat.reduceSub, Nat.zero_add,
  List.set_cons_zero, List.set_cons_succ, List.getElem?_cons_zero, List.getElem?_cons_succ, Option.some.injEq, V.int.injEq, V.ref.injEq, V.str.injEq, V.bl.injEq, exists_eq_left', exists_eq_left, exists_and_left, List.cons.injEq, and_true, true_and, decide_eq_true_eq, sc_ii, sc_ss, sc_bb, sc_ni, sc_in, sc_nn, sc_is, reduceCtorEq,
  Bool.not_eq_true', decide_eq_false_iff_not, if_true, if_false, Bool.false_eq_true, exists_eq', exists_const, false_and, and_false, or_false, false_or, exists_false, Bool.not_not, Bool.not_true, Bool.not_false, sUp_up, sFire_fire, sHigh_high, sPut_put, sZone_now, sBey_refuse, sBey_cut, tTup, tLst, sz0, sz1, sz2, sz3, sz4, sz5, sz6])
section
variable {K : Frag} {w : World}
/-! ### shares -/
def sp_is_integer (K : Frag) : Sp := fun vs H Q _ => ∃ i : Int, vs = [.int i] ∧ Q (.bl true) H
def t_is_integer (K : Frag) (w : World) : TS :=
  (tRet (tAndV (tCB (rIsi K) (tCons (tVar 0) (tCons (tC (.ty "int")) tNil))) (tNotV (tCB (rIsi K) (tCons (tVar 0) (tCons (tC (.ty "bool")) tNil))))))
def n_is_integer : List Str := ["value"]
theorem rd_is_integer (vs : List V) (H : Hp) (Q : VK) (E : XK) (h : sp_is_integer K vs H Q E) : t_is_integer K w { nx := fun _ H' => Q .non H', rt := Q } (start n_is_integer vs) H := by
  obtain ⟨i, rfl, q⟩ := h
  unfold t_is_integer n_is_integer
  walk_at "rs"
  refine isi_base (.base (.int i)) (b := true) (by decide +kernel) ⟨true, rfl, iteT ?_⟩
  exact isi_base (.base (.int i)) (b := false) (by decide +kernel) ⟨false, rfl, q⟩
def sp_is_count (K : Frag) : Sp := fun vs H Q _ => ∃ i : Int, vs = [.int i] ∧ Q (.bl (decide (0 ≤ i))) H
def t_is_count (K : Frag) (w : World) : TS :=
  (tRet (tAndV (tFn (sp_is_integer K) E0 (tCons (tVar 0) tNil)) (tOp oGe (tVar 0) (tC (.int 0)))))
def n_is_count : List Str := ["value"]
theorem rd_is_count (vs : List V) (H : Hp) (Q : VK) (E : XK) (h : sp_is_count K vs H Q E) : t_is_count K w { nx := fun _ H' => Q .non H', rt := Q } (start n_is_count vs) H := by
  obtain ⟨i, rfl, q⟩ := h
  unfold t_is_count n_is_count
  walk_at "rs"
  exact ⟨i, rfl, true, rfl, iteT q⟩
def sp_rounded (K : Frag) : Sp := fun vs H Q _ => ∃ (t g : Int) (u : Bool), vs = [.int t, .int g, .str (sUp u)] ∧ 0 < g ∧ g < 1073741824 ∧ Q (.int (rnd u t g)) H
def t_rounded (K : Frag) (w : World) : TS :=
  (tSeq (tIfS (tTest (tOp rEq (tVar 2) (tC (.str "up")))) (tRet (tUn oNeg (tOp oDiv (tUn oNeg (tVar 0)) (tVar 1)))) tNext)
  (tRet (tOp oDiv (tVar 0) (tVar 1))))
def n_rounded : List Str := ["tick", "grain", "rounding"]
theorem rd_rounded (vs : List V) (H : Hp) (Q : VK) (E : XK) (h : sp_rounded K vs H Q E) : t_rounded K w { nx := fun _ H' => Q .non H', rt := Q } (L2.start n_rounded vs) H := by
  obtain ⟨t, g, u, rfl, h1, h2, q⟩ := h
  unfold t_rounded n_rounded
  walk_at "rs"
  unfold rnd at q
  refine ite2 (fun hu => ?_) fun hu => ?_
  · rw [if_pos hu] at q
    exact ⟨⟨h1, h2⟩, q⟩
  · rw [if_neg hu] at q
    exact ⟨⟨h1, h2⟩, q⟩
def sp_is_within (K : Frag) : Sp := fun vs H Q _ => ∃ (i lo hi : Int), vs = [.int i, .int lo, .int hi] ∧ Q (.bl (decide (lo ≤ i ∧ i ≤ hi))) H
def t_is_within (K : Frag) (w : World) : TS :=
  (tRet (tAndV (tFn (sp_is_integer K) E0 (tCons (tVar 0) tNil)) (tChain oLe oLe (tVar 1) (tVar 0) (tVar 2))))
def n_is_within : List Str := ["value", "low", "high"]
theorem rd_is_within (vs : List V) (H : Hp) (Q : VK) (E : XK) (h : sp_is_within K vs H Q E) : t_is_within K w { nx := fun _ H' => Q .non H', rt := Q } (L2.start n_is_within vs) H := by
  obtain ⟨i, lo, hi, rfl, q⟩ := h
  unfold t_is_within n_is_within
  walk_at "rs"
  refine ⟨i, rfl, true, rfl, iteT ?_⟩
  by_cases h1 : lo ≤ i
  · by_cases h2 : i ≤ hi <;> simpa [h1, h2] using q
  · simpa [h1] using q
local macro_rules | `(tactic| walk_at "rsx") => `(tactic| simp only [*, and_assoc, tNever, List.length_map, tFld, rIxTH, rIxLH, rLenTH, rLenLH, lk1, lfs_g, lfs_s, lfs_p, HO.ins.injEq, HO.tup.injEq, HO.lst.injEq, sp_is_integer, sp_is_count, sp_is_within, sp_rounded, tSeq, tAsg, gName, tVar, tC, tOp, rI, rI0, rU, tUn, oAdd, oSub, oMul, oDiv, oMod, oNeg, oLt, oLe, oGt, oGe, oIsN, oNotN, tFn, tCons, tNil, tIfS, tIf, tTest, tB, tNot, tAnd, tOr, tAndV, tOrV, tNotV,
    tRet, tRetN, tNext, tCB, tDrop, tChain, rEq, rNe, oMax2, oMin2, oInt1, rLenF, L2.start, List.map_cons, List.map_nil, List.length_cons, List.length_nil, List.replicate_succ, List.replicate_zero, List.cons_append, List.nil_append, Nat.reduceAdd, Nat.reduceSub, Nat.zero_add,
    List.set_cons_zero, List.set_cons_succ, List.getElem?_cons_zero, List.getElem?_cons_succ, Option.some.injEq, V.int.injEq, V.ref.injEq, V.str.injEq, V.bl.injEq, exists_eq_left', exists_eq_left, exists_and_left, List.cons.injEq, and_true, true_and, decide_eq_true_eq, sc_ii, sc_ss, sc_bb, sc_ni, sc_in, sc_nn, sc_is, reduceCtorEq,
    Bool.not_eq_true', decide_eq_false_iff_not, if_true, if_false, Bool.false_eq_true, exists_eq', exists_const, false_and, and_false, or_false, false_or, exists_false, Bool.not_not, Bool.not_true, Bool.not_false, sUp_up, sFire_fire, sHigh_high, sPut_put, sZone_now, sBey_refuse, sBey_cut, tTup, tLst, sz0, sz1, sz2, sz3, sz4, sz5, sz6])
/-! ### levels, wheels -/
def sp_Level_grain (K : Frag) : Sp := fun vs H Q _ => ∃ a, vs = [.ref a] ∧ ∃ l, LvAt K H a l ∧ Q (.int l.g) H
def sp_Level_slots (K : Frag) : Sp := fun vs H Q _ => ∃ a, vs = [.ref a] ∧ ∃ l, LvAt K H a l ∧ Q (.int l.s) H
def sp_Level_span (K : Frag) : Sp := fun vs H Q _ => ∃ a, vs = [.ref a] ∧ ∃ l, LvAt K H a l ∧ Q (.int l.p) H
theorem in_Level_grain (K : Frag) : InsAt (ga K "Level") (sp_Level_grain K) := fun vs H Q E ⟨a, e, l, ⟨_, dx, h⟩, _⟩ => ⟨a, dx, _, [], e, h⟩
theorem in_Level_slots (K : Frag) : InsAt (ga K "Level") (sp_Level_slots K) := fun vs H Q E ⟨a, e, l, ⟨_, dx, h⟩, _⟩ => ⟨a, dx, _, [], e, h⟩
theorem in_Level_span (K : Frag) : InsAt (ga K "Level") (sp_Level_span K) := fun vs H Q E ⟨a, e, l, ⟨_, dx, h⟩, _⟩ => ⟨a, dx, _, [], e, h⟩
def t_Level_grain (K : Frag) (w : World) : TS :=
  (tRet (tFld K (tVar 0) "kept_grain"))
def n_Level_grain : List Str := ["self"]
def t_Level_slots (K : Frag) (w : World) : TS :=
  (tRet (tFld K (tVar 0) "kept_slots"))
def n_Level_slots : List Str := ["self"]
def t_Level_span (K : Frag) (w : World) : TS :=
  (tRet (tFld K (tVar 0) "kept_span"))
def n_Level_span : List Str := ["self"]
theorem rd_Level_grain (T : Klv K w) (vs : List V) (H : Hp) (Q : VK) (E : XK) (h : sp_Level_grain K vs H Q E) : t_Level_grain K w { nx := fun _ H' => Q .non H', rt := Q } (L2.start n_Level_grain vs) H := by
  obtain ⟨a, rfl, l, ⟨ok, dx, h⟩, q⟩ := h
  exact ⟨_, rfl, a, _, dx, _, _, rfl, h, T.cL, T.nLg, rfl, q⟩
theorem rd_Level_slots (T : Klv K w) (vs : List V) (H : Hp) (Q : VK) (E : XK) (h : sp_Level_slots K vs H Q E) : t_Level_slots K w { nx := fun _ H' => Q .non H', rt := Q } (L2.start n_Level_slots vs) H := by
  obtain ⟨a, rfl, l, ⟨ok, dx, h⟩, q⟩ := h
  exact ⟨_, rfl, a, _, dx, _, _, rfl, h, T.cL, T.nLs, lfs_s l, q⟩
theorem rd_Level_span (T : Klv K w) (vs : List V) (H : Hp) (Q : VK) (E : XK) (h : sp_Level_span K vs H Q E) : t_Level_span K w { nx := fun _ H' => Q .non H', rt := Q } (L2.start n_Level_span vs) H := by
  obtain ⟨a, rfl, l, ⟨ok, dx, h⟩, q⟩ := h
  exact ⟨_, rfl, a, _, dx, _, _, rfl, h, T.cL, T.nLp, lfs_p l, q⟩

def sp_Wheel_reach (K : Frag) : Sp := fun vs H Q _ => ∃ a, vs = [.ref a] ∧ ∃ W, WhAt K H a W ∧ Q (.int (reach W)) H
theorem in_Wheel_reach (K : Frag) : InsAt (ga K "Wheel") (sp_Wheel_reach K) := fun vs H Q E ⟨a, e, W, ⟨_, dx, _, _, h, _⟩, _⟩ => ⟨a, dx, _, [], e, h⟩
def t_Wheel_reach (K : Frag) (w : World) : TS :=
  (tRet (tFn (sp_Level_span K) E0 (tCons (tOp rIxTH (tFld K (tVar 0) "kept_levels") (tUn oNeg (tC (.int 1)))) tNil)))
def n_Wheel_reach : List Str := ["self"]
theorem rd_Wheel_reach (T : Kl K w) (vs : List V) (H : Hp) (Q : VK) (E : XK) (h : sp_Wheel_reach K vs H Q E) : t_Wheel_reach K w { nx := fun _ H' => Q .non H', rt := Q } (L2.start n_Wheel_reach vs) H := by
  obtain ⟨a, rfl, W, ⟨ok, dx, t, as, h1, h2, h3, h4⟩, q⟩ := h
  have hp := ok.pos
  obtain ⟨c, hc⟩ : ∃ c, as[W.length - 1]? = some c := ⟨as[W.length - 1]'(by omega), List.getElem?_eq_getElem (by omega)⟩
  have hl : atI (as.map V.ref) (-1) = some (.ref c) := by
    unfold atI ixN
    rw [List.length_map, if_neg (by omega), if_pos (by omega), h3]
    show (as.map V.ref)[(-1 + (W.length : Int)).toNat]? = _
    rw [show (-1 + (W.length : Int)).toNat = W.length - 1 by omega, List.getElem?_map, hc]
    rfl
  refine ⟨_, rfl, a, _, dx, _, _, rfl, h1, T.cW, T.nWl, lk1 _ _ _, 1, rfl, t, _, _, _, rfl, rfl, h2, hl, c, rfl, _, h4 _ c hc, q⟩
def sp_Wheel___len__ (K : Frag) : Sp := fun vs H Q _ => ∃ a, vs = [.ref a] ∧ ∃ W, WhAt K H a W ∧ Q (.int W.length) H
theorem in_Wheel___len__ (K : Frag) : InsAt (ga K "Wheel") (sp_Wheel___len__ K) := fun vs H Q E ⟨a, e, W, ⟨_, dx, _, _, h, _⟩, _⟩ => ⟨a, dx, _, [], e, h⟩
theorem ln_Wheel___len__ (K : Frag) : ∀ vs H Q E, sp_Wheel___len__ K vs H Q E → vs.length = 1 := fun vs H Q E ⟨a, e, _⟩ => by rw [e]; rfl
def t_Wheel___len__ (K : Frag) (w : World) : TS :=
  (tRet (tCB rLenTH (tCons (tFld K (tVar 0) "kept_levels") tNil)))
def n_Wheel___len__ : List Str := ["self"]
theorem rd_Wheel___len__ (T : Kl K w) (vs : List V) (H : Hp) (Q : VK) (E : XK) (h : sp_Wheel___len__ K vs H Q E) : t_Wheel___len__ K w { nx := fun _ H' => Q .non H', rt := Q } (L2.start n_Wheel___len__ vs) H := by
  obtain ⟨a, rfl, W, ⟨ok, dx, t, as, h1, h2, h3, h4⟩, q⟩ := h
  have c1 := T.cW
  have c2 := T.nWl
  unfold t_Wheel___len__ n_Wheel___len__
  walk_at "rsx"
local macro_rules | `(tactic| walk_at "rsy") => `(tactic| simp only [*, and_assoc, tNever, List.length_map, tFld, rIxTH, rIxLH, rLenTH, rLenLH, lk1, lfs_g, lfs_s, lfs_p, HO.ins.injEq, HO.tup.injEq, HO.lst.injEq, sp_Level_grain, sp_Level_slots, sp_Level_span, sp_Wheel_reach, sp_Wheel___len__, sp_is_integer, sp_is_count, sp_is_within, sp_rounded, tSeq, tAsg, gName, tVar, tC, tOp, rI, rI0, rU, tUn, oAdd, oSub, oMul, oDiv, oMod, oNeg, oLt, oLe, oGt, oGe, oIsN, oNotN, tFn, tCons, tNil, tIfS, tIf, tTest, tB, tNot, tAnd, tOr, tAndV, tOrV, tNotV,
    tRet, tRetN, tNext, tCB, tDrop, tChain, rEq, rNe, oMax2, oMin2, oInt1, rLenF, L2.start, List.map_cons, List.map_nil, List.length_cons, List.length_nil, List.replicate_succ, List.replicate_zero, List.cons_append, List.nil_append, Nat.reduceAdd, Nat.reduceSub, Nat.zero_add,
    List.set_cons_zero, List.set_cons_succ, List.getElem?_cons_zero, List.getElem?_cons_succ, Option.some.injEq, V.int.injEq, V.ref.injEq, V.str.injEq, V.bl.injEq, exists_eq_left', exists_eq_left, exists_and_left, List.cons.injEq, and_true, true_and, decide_eq_true_eq, sc_ii, sc_ss, sc_bb, sc_ni, sc_in, sc_nn, sc_is, reduceCtorEq,
    Bool.not_eq_true', decide_eq_false_iff_not, if_true, if_false, Bool.false_eq_true, exists_eq', exists_const, false_and, and_false, or_false, false_or, exists_false, Bool.not_not, Bool.not_true, Bool.not_false, sUp_up, sFire_fire, sHigh_high, sPut_put, sZone_now, sBey_refuse, sBey_cut, tTup, tLst, sz0, sz1, sz2, sz3, sz4, sz5, sz6])
def sp_Wheel___getitem__ (K : Frag) : Sp := fun vs H Q _ => ∃ a i, vs = [.ref a, .int i] ∧ ∃ W, WhAt K H a W ∧ 0 ≤ i ∧ i < W.length ∧ ∀ c, LvAt K H c (lv W i.toNat) → Q (.ref c) H
theorem in_Wheel___getitem__ (K : Frag) : InsAt (ga K "Wheel") (sp_Wheel___getitem__ K) := fun vs H Q E ⟨a, i, e, W, ⟨_, dx, _, _, h, _⟩, _⟩ => ⟨a, dx, _, _, e, h⟩
def t_Wheel___getitem__ (K : Frag) (w : World) : TS :=
  (tSeq (tIfS (tNot (tB (tFn (sp_is_within K) E0 (tCons (tVar 1) (tCons (tC (.int 0)) (tCons (tOp oSub (tCB rLenTH (tCons (tFld K (tVar 0) "kept_levels") tNil)) (tC (.int 1))) tNil)))))) tNever tNext)
  (tRet (tOp rIxTH (tFld K (tVar 0) "kept_levels") (tVar 1))))
def n_Wheel___getitem__ : List Str := ["self", "index"]
theorem rd_Wheel___getitem__ (T : Kl K w) (vs : List V) (H : Hp) (Q : VK) (E : XK) (h : sp_Wheel___getitem__ K vs H Q E) : t_Wheel___getitem__ K w { nx := fun _ H' => Q .non H', rt := Q } (L2.start n_Wheel___getitem__ vs) H := by
  obtain ⟨a, i, rfl, W, ⟨ok, dx, t, as, h1, h2, h3, h4⟩, hi0, hi1, q⟩ := h
  have c1 := T.cW
  have c2 := T.nWl
  unfold t_Wheel___getitem__ n_Wheel___getitem__
  walk_at "rsx"
  obtain ⟨j, rfl⟩ : ∃ j : Nat, i = (j : Int) := ⟨i.toNat, by omega⟩
  have hj : j < as.length := by omega
  have hc := List.getElem?_eq_getElem hj
  rw [if_neg (by omega)]
  exact ⟨_, atI_nat (v := V.ref as[j]) (by rw [List.getElem?_map, hc]; rfl), q _ (h4 j _ hc)⟩
def sp_Wheel_level_of (K : Frag) : Sp := fun vs H Q _ => ∃ a d, vs = [.ref a, .int d] ∧ ∃ W, WhAt K H a W ∧ 0 ≤ d ∧ ∀ H', Same H H' → Q (optI (levelOf W d)) H'
def t_Wheel_level_of (K : Frag) (w : World) : TS :=
  (tSeq (tIfS (tNot (tB (tFn (sp_is_count K) E0 (tCons (tVar 1) tNil)))) tNever tNext)
  (tSeq (tFor (iEnT K (tCons (tFld K (tVar 0) "kept_levels") tNil)) (gTup K 2 (gCons (gName 2) (gCons (gName 3) gNil)))
    (tIfS (tTest (tOp oLt (tVar 1) (tFn (sp_Level_span K) E0 (tCons (tVar 3) tNil)))) (tRet (tVar 2)) tNext))
  (tRet (tC .non))))
def n_Wheel_level_of : List Str := ["self", "delay", "index", "level"]
theorem rd_Wheel_level_of (T : Kl K w) (vs : List V) (H : Hp) (Q : VK) (E : XK) (h : sp_Wheel_level_of K vs H Q E) : t_Wheel_level_of K w { nx := fun _ H' => Q .non H', rt := Q } (L2.start n_Wheel_level_of vs) H := by
  obtain ⟨a, d, rfl, W, hW, hd, q⟩ := h
  obtain ⟨ok, dx, t, as, h1, h2, h3, h4⟩ := hW
  have c1 := T.cW
  have c2 := T.nWl
  unfold t_Wheel_level_of n_Wheel_level_of
  walk_at "rsx"
  refine ⟨_, rfl, a, _, _, _, _, rfl, h1, c1, c2, lk1 _ _ _, t, _, rfl, SqT.of h2, for_enT (xs := as.map V.ref)
    (fun i σ H' => ∃ v2 v3, σ = [some (.ref a), some (.int d), v2, v3] ∧ Same H H' ∧ ∀ j, j < i → (lv W j).p ≤ d) ⟨none, none, rfl, Same.refl H, fun j hj => by omega⟩ (fun i σ H' ⟨_, _, _, s, _⟩ => SqT.of (s _ _ h2)) ?_ ?_⟩
  · rintro i x p σ H1 hx ⟨v2, v3, rfl, s, hp⟩ hn
    obtain ⟨c, hc, rfl⟩ : ∃ c, as[i]? = some c ∧ x = V.ref c := by
      rw [List.getElem?_map] at hx
      cases e : as[i]? with
      | none => rw [e] at hx; cases hx
      | some c => rw [e] at hx; exact ⟨c, rfl, (Option.some.inj hx).symm⟩
    have hi : i < W.length := by have := (List.getElem?_eq_some_iff.mp hc).1; omega
    have s' : Same H (upd H1 p (.tup [.int (i : Nat), .ref c])) := s.trans (Same.new hn)
    refine ⟨p, _, rfl, SqT.of upd_same, rfl, _, _, rfl, _, _, rfl, rfl, ?_⟩
    have e := @lv_ex K _ c (lv W i) ((h4 i c hc).same s')
    walk_at "rsy"
    refine ite2 (fun hlt => ?_) fun hge => ?_
    · have : levelOf W d = some i := levelOf_is hi hp hlt
      have q' := q _ s'
      rw [this] at q'
      exact q'
    · refine fun j hj => ?_
      by_cases hji : j = i
      · subst hji; omega
      · exact hp j (by omega)
  · rintro σ H1 ⟨v2, v3, rfl, s, hp⟩
    have : levelOf W d = none := levelOf_isN fun j hj => hp j (by simpa [h3] using hj)
    have q' := q _ s
    rw [this] at q'
    exact q'
def sp_visit_after (K : Frag) : Sp := fun vs H Q _ => ∃ a pt now, vs = [.ref a, .int pt, .int now] ∧ ∃ l, LvAt K H a l ∧ Q (.int (va l pt now)) H
def t_visit_after (K : Frag) (w : World) : TS :=
  (tSeq (tAsg (tOp oDiv (tVar 2) (tFn (sp_Level_grain K) E0 (tCons (tVar 0) tNil))) (gName 3))
  (tRet (tOp oMul (tOp oAdd (tOp oAdd (tVar 3) (tC (.int 1))) (tOp oMod (tOp oSub (tOp oSub (tVar 1) (tVar 3)) (tC (.int 1))) (tFn (sp_Level_slots K) E0 (tCons (tVar 0) tNil)))) (tFn (sp_Level_grain K) E0 (tCons (tVar 0) tNil)))))
def n_visit_after : List Str := ["level", "point", "now", "base"]
theorem rd_visit_after (vs : List V) (H : Hp) (Q : VK) (E : XK) (h : sp_visit_after K vs H Q E) : t_visit_after K w { nx := fun _ H' => Q .non H', rt := Q } (L2.start n_visit_after vs) H := by
  obtain ⟨a, pt, now, rfl, l, hL, q⟩ := h
  obtain ⟨h1, h2, h3, h4⟩ := hL.ok
  have e := @lv_ex K H a l hL
  unfold t_visit_after n_visit_after
  walk_at "rsy"
  exact ⟨⟨by omega, by omega⟩, by omega, .inr ⟨by omega, by omega⟩, q⟩
def sp_is_visited (K : Frag) : Sp := fun vs H Q _ => ∃ a pt before now, vs = [.ref a, .int pt, .int before, .int now] ∧ ∃ l, LvAt K H a l ∧ Q (.bl (isVis l pt before now)) H
def t_is_visited (K : Frag) (w : World) : TS :=
  (tSeq (tAsg (tOp oDiv (tVar 2) (tFn (sp_Level_grain K) E0 (tCons (tVar 0) tNil))) (gName 4))
  (tSeq (tAsg (tOp oSub (tOp oDiv (tVar 3) (tFn (sp_Level_grain K) E0 (tCons (tVar 0) tNil))) (tVar 4)) (gName 5))
  (tRet (tOp oLt (tOp oMod (tOp oSub (tOp oSub (tVar 1) (tVar 4)) (tC (.int 1))) (tFn (sp_Level_slots K) E0 (tCons (tVar 0) tNil))) (tVar 5)))))
def n_is_visited : List Str := ["level", "point", "before", "now", "base", "many"]
theorem rd_is_visited (vs : List V) (H : Hp) (Q : VK) (E : XK) (h : sp_is_visited K vs H Q E) : t_is_visited K w { nx := fun _ H' => Q .non H', rt := Q } (L2.start n_is_visited vs) H := by
  obtain ⟨a, pt, before, now, rfl, l, hL, q⟩ := h
  obtain ⟨h1, h2, h3, h4⟩ := hL.ok
  have e := @lv_ex K H a l hL
  unfold t_is_visited n_is_visited
  walk_at "rsy"
  exact ⟨⟨by omega, by omega⟩, ⟨by omega, by omega⟩, by omega, q⟩
/-! ### books -/
def sp_Book_rounding (K : Frag) : Sp := fun vs H Q _ => ∃ a, vs = [.ref a] ∧ ∃ B, BkAt K H a B ∧ Q (.str (sUp B.up)) H
theorem in_Book_rounding (K : Frag) : InsAt (ga K "Book") (sp_Book_rounding K) := fun vs H Q E ⟨a, e, B, ⟨_, dx, _, h, _⟩, _⟩ => ⟨a, dx, _, [], e, h⟩
def t_Book_rounding (K : Frag) (w : World) : TS :=
  (tRet (tOp rIxTH (tFld K (tVar 0) "kept_values") (tC (.int 0))))
def n_Book_rounding : List Str := ["self"]
theorem rd_Book_rounding (T : Kf K w) (vs : List V) (H : Hp) (Q : VK) (E : XK) (h : sp_Book_rounding K vs H Q E) : t_Book_rounding K w { nx := fun _ H' => Q .non H', rt := Q } (L2.start n_Book_rounding vs) H := by
  obtain ⟨a, rfl, B, ⟨ok, dx, t, h1, h2⟩, q⟩ := h
  have c1 := T.cB
  have c2 := T.nBv
  unfold t_Book_rounding n_Book_rounding
  walk_at "rsx"
  exact ⟨_, rfl, q⟩
def sp_Book_action (K : Frag) : Sp := fun vs H Q _ => ∃ a, vs = [.ref a] ∧ ∃ B, BkAt K H a B ∧ Q (.str (sFire B.fire)) H
theorem in_Book_action (K : Frag) : InsAt (ga K "Book") (sp_Book_action K) := fun vs H Q E ⟨a, e, B, ⟨_, dx, _, h, _⟩, _⟩ => ⟨a, dx, _, [], e, h⟩
def t_Book_action (K : Frag) (w : World) : TS :=
  (tRet (tOp rIxTH (tFld K (tVar 0) "kept_values") (tC (.int 1))))
def n_Book_action : List Str := ["self"]
theorem rd_Book_action (T : Kf K w) (vs : List V) (H : Hp) (Q : VK) (E : XK) (h : sp_Book_action K vs H Q E) : t_Book_action K w { nx := fun _ H' => Q .non H', rt := Q } (L2.start n_Book_action vs) H := by
  obtain ⟨a, rfl, B, ⟨ok, dx, t, h1, h2⟩, q⟩ := h
  have c1 := T.cB
  have c2 := T.nBv
  unfold t_Book_action n_Book_action
  walk_at "rsx"
  exact ⟨_, rfl, q⟩
def sp_Book_order (K : Frag) : Sp := fun vs H Q _ => ∃ a, vs = [.ref a] ∧ ∃ B, BkAt K H a B ∧ Q (.str (sHigh B.high)) H
theorem in_Book_order (K : Frag) : InsAt (ga K "Book") (sp_Book_order K) := fun vs H Q E ⟨a, e, B, ⟨_, dx, _, h, _⟩, _⟩ => ⟨a, dx, _, [], e, h⟩
def t_Book_order (K : Frag) (w : World) : TS :=
  (tRet (tOp rIxTH (tFld K (tVar 0) "kept_values") (tC (.int 2))))
def n_Book_order : List Str := ["self"]
theorem rd_Book_order (T : Kf K w) (vs : List V) (H : Hp) (Q : VK) (E : XK) (h : sp_Book_order K vs H Q E) : t_Book_order K w { nx := fun _ H' => Q .non H', rt := Q } (L2.start n_Book_order vs) H := by
  obtain ⟨a, rfl, B, ⟨ok, dx, t, h1, h2⟩, q⟩ := h
  have c1 := T.cB
  have c2 := T.nBv
  unfold t_Book_order n_Book_order
  walk_at "rsx"
  exact ⟨_, rfl, q⟩
def sp_Book_due (K : Frag) : Sp := fun vs H Q _ => ∃ a, vs = [.ref a] ∧ ∃ B, BkAt K H a B ∧ Q (.str (sPut B.put)) H
theorem in_Book_due (K : Frag) : InsAt (ga K "Book") (sp_Book_due K) := fun vs H Q E ⟨a, e, B, ⟨_, dx, _, h, _⟩, _⟩ => ⟨a, dx, _, [], e, h⟩
def t_Book_due (K : Frag) (w : World) : TS :=
  (tRet (tOp rIxTH (tFld K (tVar 0) "kept_values") (tC (.int 3))))
def n_Book_due : List Str := ["self"]
theorem rd_Book_due (T : Kf K w) (vs : List V) (H : Hp) (Q : VK) (E : XK) (h : sp_Book_due K vs H Q E) : t_Book_due K w { nx := fun _ H' => Q .non H', rt := Q } (L2.start n_Book_due vs) H := by
  obtain ⟨a, rfl, B, ⟨ok, dx, t, h1, h2⟩, q⟩ := h
  have c1 := T.cB
  have c2 := T.nBv
  unfold t_Book_due n_Book_due
  walk_at "rsx"
  exact ⟨_, rfl, q⟩
def sp_Book_zero (K : Frag) : Sp := fun vs H Q _ => ∃ a, vs = [.ref a] ∧ ∃ B, BkAt K H a B ∧ Q (.str (sZone B.zone)) H
theorem in_Book_zero (K : Frag) : InsAt (ga K "Book") (sp_Book_zero K) := fun vs H Q E ⟨a, e, B, ⟨_, dx, _, h, _⟩, _⟩ => ⟨a, dx, _, [], e, h⟩
def t_Book_zero (K : Frag) (w : World) : TS :=
  (tRet (tOp rIxTH (tFld K (tVar 0) "kept_values") (tC (.int 4))))
def n_Book_zero : List Str := ["self"]
theorem rd_Book_zero (T : Kf K w) (vs : List V) (H : Hp) (Q : VK) (E : XK) (h : sp_Book_zero K vs H Q E) : t_Book_zero K w { nx := fun _ H' => Q .non H', rt := Q } (L2.start n_Book_zero vs) H := by
  obtain ⟨a, rfl, B, ⟨ok, dx, t, h1, h2⟩, q⟩ := h
  have c1 := T.cB
  have c2 := T.nBv
  unfold t_Book_zero n_Book_zero
  walk_at "rsx"
  exact ⟨_, rfl, q⟩
def sp_Book_beyond (K : Frag) : Sp := fun vs H Q _ => ∃ a, vs = [.ref a] ∧ ∃ B, BkAt K H a B ∧ Q (.str (sBey B.bey)) H
theorem in_Book_beyond (K : Frag) : InsAt (ga K "Book") (sp_Book_beyond K) := fun vs H Q E ⟨a, e, B, ⟨_, dx, _, h, _⟩, _⟩ => ⟨a, dx, _, [], e, h⟩
def t_Book_beyond (K : Frag) (w : World) : TS :=
  (tRet (tOp rIxTH (tFld K (tVar 0) "kept_values") (tC (.int 5))))
def n_Book_beyond : List Str := ["self"]
theorem rd_Book_beyond (T : Kf K w) (vs : List V) (H : Hp) (Q : VK) (E : XK) (h : sp_Book_beyond K vs H Q E) : t_Book_beyond K w { nx := fun _ H' => Q .non H', rt := Q } (L2.start n_Book_beyond vs) H := by
  obtain ⟨a, rfl, B, ⟨ok, dx, t, h1, h2⟩, q⟩ := h
  have c1 := T.cB
  have c2 := T.nBv
  unfold t_Book_beyond n_Book_beyond
  walk_at "rsx"
  exact ⟨_, rfl, q⟩
local macro_rules | `(tactic| walk_at "rsz") => `(tactic| simp only [*, and_assoc, tNever, List.length_map, tFld, rIxTH, rIxLH, rLenTH, rLenLH, lk1, lfs_g, lfs_s, lfs_p, HO.ins.injEq, HO.tup.injEq, HO.lst.injEq, sp_Book_rounding, sp_Book_action, sp_Book_order, sp_Book_due, sp_Book_zero, sp_Book_beyond, Int.toNat_natCast, sp_visit_after, sp_is_visited, sp_Level_grain, sp_Level_slots, sp_Level_span, sp_Wheel_reach, sp_Wheel___len__, sp_is_integer, sp_is_count, sp_is_within, sp_rounded, tSeq, tAsg, gName, tVar, tC, tOp, rI, rI0, rU, tUn, oAdd, oSub, oMul, oDiv, oMod, oNeg, oLt, oLe, oGt, oGe, oIsN, oNotN, tFn, tCons, tNil, tIfS, tIf, tTest, tB, tNot, tAnd, tOr, tAndV, tOrV, tNotV,
    tRet, tRetN, tNext, tCB, tDrop, tChain, rEq, rNe, oMax2, oMin2, oInt1, rLenF, L2.start, List.map_cons, List.map_nil, List.length_cons, List.length_nil, List.replicate_succ, List.replicate_zero, List.cons_append, List.nil_append, Nat.reduceAdd, Nat.reduceSub, Nat.zero_add,
    List.set_cons_zero, List.set_cons_succ, List.getElem?_cons_zero, List.getElem?_cons_succ, Option.some.injEq, V.int.injEq, V.ref.injEq, V.str.injEq, V.bl.injEq, exists_eq_left', exists_eq_left, exists_and_left, List.cons.injEq, and_true, true_and, decide_eq_true_eq, sc_ii, sc_ss, sc_bb, sc_ni, sc_in, sc_nn, sc_is, reduceCtorEq,
    Bool.not_eq_true', decide_eq_false_iff_not, if_true, if_false, Bool.false_eq_true, exists_eq', exists_const, false_and, and_false, or_false, false_or, exists_false, Bool.not_not, Bool.not_true, Bool.not_false, sUp_up, sFire_fire, sHigh_high, sPut_put, sZone_now, sBey_refuse, sBey_cut, tTup, tLst, sz0, sz1, sz2, sz3, sz4, sz5, sz6])
/-! ### points -/
def sp_spot_at (K : Frag) : Sp := fun vs H Q _ => ∃ (a b : Addr) (now rest due : Int), vs = [.ref a, .ref b, .int now, .int rest, .int due] ∧ ∃ W B, WhAt K H a W ∧ BkAt K H b B ∧ 0 ≤ rest ∧
  ∀ p H', Same H H' → SpAt H' p (spotAt W B now rest due) → Q (.ref p) H'
def t_spot_at (K : Frag) (w : World) : TS :=
  (tSeq (tAsg (tMethR (ga K "Wheel") "level_of" (sp_Wheel_level_of K) E0 (tVar 0) (tCons (tVar 3) tNil)) (gName 5))
  (tSeq (tAsg (tOp oAdd (tVar 2) (tVar 3)) (gName 6))
  (tSeq (tIfS (tTest (tOp oIsN (tVar 5) (tC .non))) (tSeq (tAsg (tOp oSub (tCB (rLenF (sp_Wheel___len__ K) E0) (tCons (tVar 0) tNil)) (tC (.int 1))) (gName 5))
  (tAsg (tOp oSub (tOp oAdd (tVar 2) (tFn (sp_Wheel_reach K) E0 (tCons (tVar 0) tNil))) (tC (.int 1))) (gName 6))) tNext)
  (tRet (tTup (tCons (tVar 5) (tCons (tFn (sp_rounded K) E0 (tCons (tVar 6) (tCons (tFn (sp_Level_grain K) E0 (tCons (tFn (sp_Wheel___getitem__ K) E0 (tCons (tVar 0) (tCons (tVar 5) tNil))) tNil)) (tCons (tFn (sp_Book_rounding K) E0 (tCons (tVar 1) tNil)) tNil)))) (tCons (tVar 4) tNil))))))))
def n_spot_at : List Str := ["wheel", "book", "now", "rest", "due", "index", "end"]
theorem rd_spot_at (vs : List V) (H : Hp) (Q : VK) (E : XK) (h : sp_spot_at K vs H Q E) : t_spot_at K w { nx := fun _ H' => Q .non H', rt := Q } (L2.start n_spot_at vs) H := by
  obtain ⟨a, b, now, rest, due, rfl, W, B, hW, hB, hr, q⟩ := h
  obtain ⟨ok, dx, t, as, h1, h2, h3, h4⟩ := id hW
  unfold t_spot_at n_spot_at
  refine ⟨_, rfl, a, dx, _, rfl, h1, rfl, _, rfl, a, rest, rfl, W, hW, hr, fun H1 s1 => ?_⟩
  have hW1 := hW.same s1
  have eW := @wh_ex K H1 a W hW1
  have eB := @bk_ex K H1 b B (hB.same s1)
  have hlen := ok.pos
  have hl5 := ok.len
  cases hl : levelOf W rest with
  | some i =>
    obtain ⟨hi, hd⟩ := levelOf_lt hl
    have hg := ok.all i hi
    have q' : ∀ p H', Same H H' → SpAt H' p ⟨i, rnd B.up (now + rest) (lv W i).g, due⟩ → Q (.ref p) H' := fun p H' s z => q p H' s (by unfold spotAt; rw [hl]; exact z)
    unfold optI
    walk_at "rsz"
    refine ⟨a, i, rfl, W, hW1, by omega, by omega, fun c hc => ?_⟩
    have eL := @lv_ex K H1 c (lv W i) hc
    walk_at "rsz"
    refine ⟨_, rfl, by omega, by omega, fun p hp => q' p _ (s1.trans (Same.new hp)) upd_same⟩
  | none =>
    have hg := ok.all (W.length - 1) (by omega)
    have ei : ((W.length : Int) - 1) = ((W.length - 1 : Nat) : Int) := by omega
    have q' : ∀ p H', Same H H' → SpAt H' p ⟨W.length - 1, rnd B.up (now + reach W - 1) (lv W (W.length - 1)).g, due⟩ → Q (.ref p) H' := fun p H' s z => q p H' s (by unfold spotAt; rw [hl]; exact z)
    unfold optI
    walk_at "rsz"
    refine ⟨by omega, by omega, a, (W.length - 1 : Nat), rfl, W, hW1, by omega, by omega, fun c hc => ?_⟩
    have eL := @lv_ex K H1 c (lv W (W.length - 1)) hc
    walk_at "rsz"
    exact ⟨_, rfl, by omega, by omega, fun p hp => q' p _ (s1.trans (Same.new hp)) upd_same⟩
end
end Tw
/-! Tw: readings of placing, visiting, following -/
namespace Tw
open PySem PySem.Spec PyProof.Rows L2 He TwM
open PySem.W (Frag)
local macro_rules | `(tactic| walk_at "rsz") => `(tactic| simp only [*, and_assoc, not_true_eq_false, not_false_eq_true, tNever, List.length_map, tFld, rIxTH, rIxLH, rLenTH, rLenLH, lk1, lfs_g, lfs_s, lfs_p, HO.ins.injEq, HO.tup.injEq, HO.lst.injEq, sp_Book_rounding, sp_Book_action, sp_Book_order, sp_Book_due, sp_Book_zero, sp_Book_beyond, Int.toNat_natCast, sp_visit_after, sp_is_visited, sp_Level_grain, sp_Level_slots, sp_Level_span, sp_Wheel_reach, sp_Wheel___len__, sp_is_integer, sp_is_count, sp_is_within, sp_rounded, tSeq, tAsg, gName, tVar, tC, tOp, rI, rI0, rU, tUn, oAdd, oSub, oMul, oDiv, oMod, oNeg, oLt, oLe, oGt, oGe, oIsN, oNotN, tFn, tCons, tNil, tIfS, tIf, tTest, tB, tNot, tAnd, tOr, tAndV, tOrV, tNotV,
    tRet, tRetN, tNext, tCB, tDrop, tChain, rEq, rNe, oMax2, oMin2, oInt1, rLenF, L2.start, List.map_cons, List.map_nil, List.length_cons, List.length_nil, List.replicate_succ, List.replicate_zero, List.cons_append, List.nil_append, Nat.reduceAdd, Nat.reduceSub, Nat.zero_add,
    List.set_cons_zero, List.set_cons_succ, List.getElem?_cons_zero, List.getElem?_cons_succ, Option.some.injEq, V.int.injEq, V.ref.injEq, V.str.injEq, V.bl.injEq, exists_eq_left', exists_eq_left, exists_and_left, List.cons.injEq, and_true, true_and, decide_eq_true_eq, sc_ii, sc_ss, sc_bb, sc_ni, sc_in, sc_nn, sc_is, reduceCtorEq,
    Bool.not_eq_true', decide_eq_false_iff_not, if_true, if_false, Bool.false_eq_true, exists_eq', exists_const, false_and, and_false, or_false, false_or, exists_false, Bool.not_not, Bool.not_true, Bool.not_false, sUp_up, sFire_fire, sHigh_high, sPut_put, sZone_now, sBey_refuse, sBey_cut, tTup, tLst, sz0, sz1, sz2, sz3, sz4, sz5, sz6])
theorem at3_0 (a b c : V) : atI [a, b, c] 0 = some a := rfl
theorem at3_1 (a b c : V) : atI [a, b, c] 1 = some b := rfl
theorem at3_2 (a b c : V) : atI [a, b, c] 2 = some c := rfl
theorem at2_0 (a b : V) : atI [a, b] 0 = some a := rfl
theorem at2_1 (a b : V) : atI [a, b] 1 = some b := rfl
theorem atI_m1 {xs : List V} {v : V} (h : xs.getLast? = some v) : atI xs (-1) = some v := by
  have hne : xs ≠ [] := fun e => by rw [e] at h; simp at h
  have e : xs = xs.dropLast ++ [v] := by
    rw [List.getLast?_eq_some_getLast hne] at h
    rw [← Option.some.inj h]
    exact (List.dropLast_concat_getLast hne).symm
  rw [e]
  exact atI_last _ _
theorem Same.updN {H H1 : Hp} {f : Addr} {o : HO} (s : Same H H1) (hn : H f = none) : Same H (upd H1 f o) := fun a u e => by
  rw [upd_ne (ne_of_none e hn)]
  exact s _ _ e
theorem OSp.updL {H : Hp} {v : V} {o : Option Spot} {f : Addr} {xs : List V} {u : HO} (h : OSp H v o) (hf : H f = some (.lst xs)) : OSp (upd H f u) v o := by
  cases o with
  | none => exact h
  | some sp =>
    obtain ⟨p, e, hp⟩ := h
    refine ⟨p, e, ?_⟩
    unfold SpAt at hp ⊢
    rw [upd_ne (fun e => by rw [e, hf] at hp; cases hp)]
    exact hp
theorem OSps.updL {H : Hp} {vs : List V} {os : List (Option Spot)} {f : Addr} {xs : List V} {u : HO} (h : OSps H vs os) (hf : H f = some (.lst xs)) : OSps (upd H f u) vs os := ⟨h.1, fun i v o q r => (h.2 i v o q r).updL hf⟩
section
variable {K : Frag} {w : World}
def placeM (W : List Lv) (B : Bk) (now delay : Int) : Option Spot :=
  if delay = 0 ∧ B.zone = false then none
  else
    let r0 := if 1 > delay then 1 else delay
    let r := if reach W ≤ r0 ∧ B.bey = 2 then reach W - 1 else r0
    some (spotAt W B now r (now + r))
def sp_place (K : Frag) : Sp := fun vs H Q _ => ∃ (a b : Addr) (now delay : Int), vs = [.ref a, .ref b, .int now, .int delay] ∧ ∃ W B, WhAt K H a W ∧ BkAt K H b B ∧ 0 ≤ now ∧ 0 ≤ delay ∧ (reach W ≤ delay → B.bey ≠ 0) ∧
  ∀ v H', Same H H' → OSp H' v (placeM W B now delay) → Q v H'
def t_place (K : Frag) (w : World) : TS :=
  (tSeq (tIfS (tNot (tB (tFn (sp_is_count K) E0 (tCons (tVar 2) tNil)))) tNever tNext)
  (tSeq (tIfS (tNot (tB (tFn (sp_is_count K) E0 (tCons (tVar 3) tNil)))) tNever tNext)
  (tSeq (tIfS (tAnd (tTest (tOp rEq (tVar 3) (tC (.int 0)))) (tTest (tOp rEq (tFn (sp_Book_zero K) E0 (tCons (tVar 1) tNil)) (tC (.str "now"))))) (tRet (tC .non)) tNext)
  (tSeq (tAsg (tCB oMax2 (tCons (tVar 3) (tCons (tC (.int 1)) tNil))) (gName 4))
  (tSeq (tIfS (tAnd (tTest (tOp oGe (tVar 4) (tFn (sp_Wheel_reach K) E0 (tCons (tVar 0) tNil)))) (tTest (tOp rEq (tFn (sp_Book_beyond K) E0 (tCons (tVar 1) tNil)) (tC (.str "refuse"))))) tNever tNext)
  (tSeq (tIfS (tAnd (tTest (tOp oGe (tVar 4) (tFn (sp_Wheel_reach K) E0 (tCons (tVar 0) tNil)))) (tTest (tOp rEq (tFn (sp_Book_beyond K) E0 (tCons (tVar 1) tNil)) (tC (.str "cut"))))) (tAsg (tOp oSub (tFn (sp_Wheel_reach K) E0 (tCons (tVar 0) tNil)) (tC (.int 1))) (gName 4)) tNext)
  (tRet (tFn (sp_spot_at K) E0 (tCons (tVar 0) (tCons (tVar 1) (tCons (tVar 2) (tCons (tVar 4) (tCons (tOp oAdd (tVar 2) (tVar 4)) tNil)))))))))))))
def n_place : List Str := ["wheel", "book", "now", "delay", "rest"]
theorem rd_place (vs : List V) (H : Hp) (Q : VK) (E : XK) (h : sp_place K vs H Q E) : t_place K w { nx := fun _ H' => Q .non H', rt := Q } (L2.start n_place vs) H := by
  obtain ⟨a, b, now, delay, rfl, W, B, hW, hB, hn, hd, hr, q⟩ := h
  have hre : 2 ≤ reach W := (hW.ok.all (W.length - 1) (by have := hW.ok.pos; omega)).2.2.2.2
  have eW := @wh_ex K H a W hW
  have eB := @bk_ex K H b B hB
  have hb3 := hB.ok
  have key : ∀ r : Int, 0 ≤ r → (∀ v H', Same H H' → OSp H' v (some (spotAt W B now r (now + r))) → Q v H') → sp_spot_at K [.ref a, .ref b, .int now, .int r, .int (now + r)] H Q E0 :=
    fun r hr q => ⟨a, b, now, r, now + r, rfl, W, B, hW, hB, hr, fun p H' s z => q _ _ s ⟨p, rfl, z⟩⟩
  unfold t_place n_place
  walk_at "rsz"
  unfold placeM at q
  generalize hg : (if 1 > delay then 1 else delay) = r0 at q ⊢
  have h1 : 1 ≤ r0 := by rw [← hg]; split <;> omega
  have h2 : reach W ≤ r0 → B.bey ≠ 0 := fun h => hr (by rw [← hg] at h; split at h <;> omega)
  by_cases hz : delay = 0 ∧ B.zone = false
  · rw [if_pos hz] at q
    rw [if_pos hz.1, if_pos hz.2]
    exact q _ _ (Same.refl H) rfl
  · rw [if_neg hz] at q
    dsimp only at q
    by_cases hl : reach W ≤ r0
    · have hb := h2 hl
      by_cases hc : 2 ≤ B.bey
      · have q' := key (reach W - 1) (by omega) (by have := q; rw [if_pos ⟨hl, by omega⟩] at this; exact this)
        repeat' (refine ite2 (fun _ => ?_) fun _ => ?_)
        all_goals first | exact q' | (exact absurd ⟨by assumption, by assumption⟩ hz) | (exfalso; omega)
      · have q' := key r0 (by omega) (by have := q; rw [if_neg (fun z : reach W ≤ r0 ∧ B.bey = 2 => hc (by omega))] at this; exact this)
        repeat' (refine ite2 (fun _ => ?_) fun _ => ?_)
        all_goals first | exact q' | (exact absurd ⟨by assumption, by assumption⟩ hz) | (exfalso; omega)
    · have q' := key r0 (by omega) (by have := q; rw [if_neg (fun z : reach W ≤ r0 ∧ B.bey = 2 => hl z.1)] at this; exact this)
      repeat' (refine ite2 (fun _ => ?_) fun _ => ?_)
      all_goals first | exact q' | (exact absurd ⟨by assumption, by assumption⟩ hz) | (exfalso; omega)
def sp_taken_out (K : Frag) : Sp := fun vs H Q _ => ∃ (a b p : Addr) (tick : Int), vs = [.ref a, .ref b, .ref p, .int tick] ∧ ∃ W B sp, WhAt K H a W ∧ BkAt K H b B ∧ SpAt H p sp ∧ ∀ v H', Same H H' → OSp H' v (taken W B sp tick) → Q v H'
local macro_rules | `(tactic| walk_at "rst") => `(tactic| simp only [*, at3_0, at3_1, at3_2, at2_0, at2_1, and_assoc, not_true_eq_false, not_false_eq_true, tNever, List.length_map, tFld, rIxTH, rIxLH, rLenTH, rLenLH, lk1, lfs_g, lfs_s, lfs_p, HO.ins.injEq, HO.tup.injEq, HO.lst.injEq, sp_Book_rounding, sp_Book_action, sp_Book_order, sp_Book_due, sp_Book_zero, sp_Book_beyond, Int.toNat_natCast, sp_visit_after, sp_is_visited, sp_Level_grain, sp_Level_slots, sp_Level_span, sp_Wheel_reach, sp_Wheel___len__, sp_is_integer, sp_is_count, sp_is_within, sp_rounded, tSeq, tAsg, gName, tVar, tC, tOp, rI, rI0, rU, tUn, oAdd, oSub, oMul, oDiv, oMod, oNeg, oLt, oLe, oGt, oGe, oIsN, oNotN, tFn, tCons, tNil, tIfS, tIf, tTest, tB, tNot, tAnd, tOr, tAndV, tOrV, tNotV,
    tRet, tRetN, tNext, tCB, tDrop, tChain, rEq, rNe, oMax2, oMin2, oInt1, rLenF, L2.start, List.map_cons, List.map_nil, List.length_cons, List.length_nil, List.replicate_succ, List.replicate_zero, List.cons_append, List.nil_append, Nat.reduceAdd, Nat.reduceSub, Nat.zero_add,
    List.set_cons_zero, List.set_cons_succ, List.getElem?_cons_zero, List.getElem?_cons_succ, Option.some.injEq, V.int.injEq, V.ref.injEq, V.str.injEq, V.bl.injEq, exists_eq_left', exists_eq_left, exists_and_left, List.cons.injEq, and_true, true_and, decide_eq_true_eq, sc_ii, sc_ss, sc_bb, sc_ni, sc_in, sc_nn, sc_is, reduceCtorEq,
    Bool.not_eq_true', decide_eq_false_iff_not, if_true, if_false, Bool.false_eq_true, exists_eq', exists_const, false_and, and_false, or_false, false_or, exists_false, Bool.not_not, Bool.not_true, Bool.not_false, sUp_up, sFire_fire, sHigh_high, sPut_put, sZone_now, sBey_refuse, sBey_cut, tTup, tLst, sz0, sz1, sz2, sz3, sz4, sz5, sz6])
def t_taken_out (K : Frag) (w : World) : TS :=
  (tSeq (tIfS (tOr (tTest (tOp rEq (tOp rIxTH (tVar 2) (tC (.int 0))) (tC (.int 0)))) (tTest (tOp rEq (tFn (sp_Book_action K) E0 (tCons (tVar 1) tNil)) (tC (.str "fire"))))) (tRet (tC .non)) tNext)
  (tSeq (tAsg (tOp rIxTH (tVar 2) (tC (.int 2))) (gName 4))
  (tSeq (tIfS (tTest (tOp oGt (tVar 4) (tVar 3))) (tRet (tFn (sp_spot_at K) E0 (tCons (tVar 0) (tCons (tVar 1) (tCons (tVar 3) (tCons (tOp oSub (tVar 4) (tVar 3)) (tCons (tVar 4) tNil))))))) tNext)
  (tSeq (tIfS (tTest (tOp rEq (tFn (sp_Book_due K) E0 (tCons (tVar 1) tNil)) (tC (.str "put")))) (tRet (tTup (tCons (tC (.int 0)) (tCons (tVar 3) (tCons (tVar 4) tNil))))) tNext)
  (tRet (tC .non))))))
def n_taken_out : List Str := ["wheel", "book", "spot", "tick", "due"]
theorem rd_taken_out (vs : List V) (H : Hp) (Q : VK) (E : XK) (h : sp_taken_out K vs H Q E) : t_taken_out K w { nx := fun _ H' => Q .non H', rt := Q } (L2.start n_taken_out vs) H := by
  obtain ⟨a, b, p, tick, rfl, W, B, sp, hW, hB, hS, q⟩ := h
  have eB := @bk_ex K H b B hB
  have hS' := hS
  unfold SpAt at hS'
  unfold t_taken_out n_taken_out
  unfold taken at q
  walk_at "rst"
  by_cases h0 : (sp.lv : Int) = 0
  · rw [if_pos (.inl (by omega))] at q
    rw [if_pos h0]
    exact q _ _ (Same.refl H) rfl
  · rw [if_neg h0]
    by_cases h1 : B.fire = true
    · rw [if_pos (.inr h1)] at q
      rw [if_pos h1]
      exact q _ _ (Same.refl H) rfl
    · rw [if_neg (fun z => z.elim (fun z => h0 (by omega)) h1)] at q
      rw [if_neg h1]
      refine ite2 (fun h2 => ?_) fun h2 => ?_
      · rw [if_pos h2] at q
        exact ⟨a, b, tick, sp.due - tick, sp.due, rfl, W, B, hW, hB, by omega, fun p' H' s z => q _ _ s ⟨p', rfl, z⟩⟩
      · rw [if_neg h2] at q
        refine ite2 (fun h3 => ?_) fun h3 => ?_
        · rw [if_pos h3] at q
          exact fun p' hp => q _ _ (Same.new hp) ⟨p', rfl, upd_same⟩
        · rw [if_neg h3] at q
          exact q _ _ (Same.refl H) rfl
def ordV (W : List Lv) (B : Bk) : List V := (order W B).map fun i => V.int (i : Nat)
def sp_level_order (K : Frag) : Sp := fun vs H Q _ => ∃ (a b : Addr), vs = [.ref a, .ref b] ∧ ∃ W B, WhAt K H a W ∧ BkAt K H b B ∧ ∀ p H', Same H H' → H p = none → H' p = some (.lst (ordV W B)) → Q (.ref p) H'
def t_level_order (K : Frag) (w : World) : TS :=
  (tSeq (tAsg (tLstRg (tRg1 (tCB (rLenF (sp_Wheel___len__ K) E0) (tCons (tVar 0) tNil)))) (gName 2))
  (tSeq (tIfS (tTest (tOp rEq (tFn (sp_Book_order K) E0 (tCons (tVar 1) tNil)) (tC (.str "high")))) (tRet (tRevL K (tVar 2))) tNext)
  (tRet (tVar 2))))
def n_level_order : List Str := ["wheel", "book", "indices"]
theorem rd_level_order (vs : List V) (H : Hp) (Q : VK) (E : XK) (h : sp_level_order K vs H Q E) : t_level_order K w { nx := fun _ H' => Q .non H', rt := Q } (L2.start n_level_order vs) H := by
  obtain ⟨a, b, rfl, W, B, hW, hB, q⟩ := h
  have eW := @wh_ex K H a W hW
  have hl := hW.ok.len
  have e1 : rgV 0 (W.length : Int) = (List.range W.length).map fun i => V.int (i : Nat) := by
    unfold rgV
    rw [show ((W.length : Int) - 0).toNat = W.length by omega]
    refine List.map_congr_left fun i _ => ?_
    rw [Int.zero_add]
  unfold t_level_order n_level_order tLstRg tRg1 tRevL
  walk_at "rst"
  refine ⟨by omega, by omega, RgOk.of_le (by omega) (by omega) (by omega) (by omega), fun p hp => ?_⟩
  have s := Same.new (o := .lst (rgV 0 (W.length : Int))) hp
  have eB := @bk_ex K _ b B (hB.same s)
  unfold ordV order at q
  rw [e1] at eB s
  walk_at "rst"
  refine ite2 (fun h1 => ?_) fun h1 => ?_
  · rw [if_pos h1, List.map_reverse] at q
    exact ⟨_, SqL.of upd_same, fun p' hp' => q p' _ (s.trans (Same.new hp')) (s.free hp') upd_same⟩
  · rw [if_neg h1] at q
    exact q p _ s hp upd_same
def sp_visited (K : Frag) : Sp := fun vs H Q _ => ∃ (a b p : Addr) (before now : Int), vs = [.ref a, .ref b, .ref p, .int before, .int now] ∧ ∃ W B sp, WhAt K H a W ∧ BkAt K H b B ∧ SpAt H p sp ∧
  ∀ f xs H', Same H H' → H f = none → H' f = some (.lst xs) → OSps H' xs (visited W B sp before now) → Q (.ref f) H'
def t_visited (K : Frag) (w : World) : TS :=
  (tSeq (tAsg (tLst tNil) (gName 5))
  (tSeq (tFor (iList K (tFn (sp_level_order K) E0 (tCons (tVar 0) (tCons (tVar 1) tNil)))) (gName 6)
    (tIfS (tAnd (tTest (tOp rEq (tOp rIxTH (tVar 2) (tC (.int 0))) (tVar 6))) (tB (tFn (sp_is_visited K) E0 (tCons (tFn (sp_Wheel___getitem__ K) E0 (tCons (tVar 0) (tCons (tVar 6) tNil))) (tCons (tOp rIxTH (tVar 2) (tC (.int 1))) (tCons (tVar 3) (tCons (tVar 4) tNil))))))) (tSeq (tAsg (tFn (sp_taken_out K) E0 (tCons (tVar 0) (tCons (tVar 1) (tCons (tVar 2) (tCons (tVar 4) tNil))))) (gName 2))
  (tSeq (tDrop (tBM K "list" rAppend (tVar 5) (tCons (tVar 2) tNil)))
  (tIfS (tTest (tOp oIsN (tVar 2) (tC .non))) (tRet (tVar 5)) tNext))) tNext))
  (tRet (tVar 5))))
def n_visited : List Str := ["wheel", "book", "spot", "before", "now", "found", "index"]
def visInv (K : Frag) (W : List Lv) (B : Bk) (sp : Spot) (before now : Int) (a b f qd : Addr) (H : Hp) (i : Nat) (σ : L2.St) (H' : Hp) : Prop :=
  ∃ (p' : Addr) (sp' : Spot) (v6 : Option V) (xs : List V) (os : List (Option Spot)), σ = [some (.ref a), some (.ref b), some (.ref p'), some (.int before), some (.int now), some (.ref f), v6] ∧ Same H H' ∧ H' qd = some (.lst (ordV W B)) ∧
      H' f = some (.lst xs) ∧ xs.length ≤ i ∧ SpAt H' p' sp' ∧ OSps H' xs os ∧ visited W B sp before now = os ++ visGo W B before now ((order W B).drop i) sp'
theorem rd_visited (vs : List V) (H : Hp) (Q : VK) (E : XK) (h : sp_visited K vs H Q E) : t_visited K w { nx := fun _ H' => Q .non H', rt := Q } (L2.start n_visited vs) H := by
  obtain ⟨a, b, p, before, now, rfl, W, B, sp, hW, hB, hS, q⟩ := h
  have hl5 := hW.ok.len
  unfold t_visited n_visited tBM rAppend
  walk_at "rst"
  intro f hf
  have s0 := Same.new (o := .lst []) hf
  refine ⟨_, rfl, _, rfl, a, b, rfl, W, B, hW.same s0, hB.same s0, fun qd H1 s1 hqn hq => ?_⟩
  have hqf : qd ≠ f := fun e => by rw [e, upd_same] at hqn; cases hqn
  refine ⟨qd, rfl, ⟨_, SqL.of hq⟩, for_list (xs := ordV W B) (visInv K W B sp before now a b f qd H)
    ⟨p, sp, none, [], [], rfl, s0.trans s1, hq, s1 _ _ upd_same, Nat.le_refl _, (hS.same s0).same s1, OSps.nil, rfl⟩ (fun i σ H' _ ⟨_, _, _, _, _, _, _, h, _⟩ => SqL.of h) ?_ ?_⟩
  · rintro i x σ H2 hx ⟨p', sp', v6, xs, os, rfl, s2, h1, h2, h3, h4, h5, h6⟩
    obtain ⟨j, hj, rfl⟩ : ∃ j, (order W B)[i]? = some j ∧ x = V.int (j : Nat) := by
      unfold ordV at hx
      rw [List.getElem?_map] at hx
      cases e : (order W B)[i]? with
      | none => rw [e] at hx; cases hx
      | some c => rw [e] at hx; exact ⟨c, rfl, (Option.some.inj hx).symm⟩
    have hi := (List.getElem?_eq_some_iff.mp hj).1
    have hjW : j < W.length := mem_order.mp (List.mem_of_getElem? hj)
    have hol : (order W B).length = W.length := by unfold order; split <;> simp
    have hdr : (order W B).drop i = j :: (order W B).drop (i + 1) := by
      rw [List.drop_eq_getElem_cons hi]
      rw [(List.getElem?_eq_some_iff.mp hj).2]
    rw [hdr] at h6
    unfold visGo at h6
    have hS2 := h4
    unfold SpAt at hS2
    have hW2 := hW.same s2
    walk_at "rst"
    refine ite2 (fun ht => ?_) fun ht => ?_
    · refine ⟨a, j, rfl, W, hW2, by omega, by omega, fun c hc => ?_⟩
      have eL := @lv_ex K H2 c (lv W j) hc
      walk_at "rst"
      refine ite2 (fun hv => ?_) fun hv => ?_
      · rw [if_pos ⟨by omega, hv⟩] at h6
        refine ⟨a, b, p', now, rfl, W, B, sp', hW2, hB.same s2, h4, fun v H3 s3 ho => ?_⟩
        have hf3 := s3 _ _ h2
        refine ⟨.inl ⟨rfl, xs, SqL.of hf3⟩, xs, hf3, by have : sizeLine = 16777216 := rfl; omega, ?_⟩
        have s4 : Same H (upd H3 f (.lst (xs ++ [v]))) := Same.updN (s2.trans s3) hf
        have hx4 : OSps (upd H3 f (.lst (xs ++ [v]))) (xs ++ [v]) (os ++ [taken W B sp' now]) := ((h5.same s3).updL hf3).snoc (ho.updL hf3)
        cases hk : taken W B sp' now with
        | none =>
          rw [hk] at ho h6 hx4
          have ev : v = .non := ho
          subst ev
          walk_at "rst"
          exact q f _ _ s4 hf upd_same (by rw [h6]; exact hx4)
        | some s' =>
          rw [hk] at ho h6 hx4
          obtain ⟨p2, ev, hp2⟩ := id ho
          subst ev
          have hq3 := s3 _ _ h1
          have hfin : visInv K W B sp before now a b f qd H (i + 1) [some (.ref a), some (.ref b), some (.ref p2), some (.int before), some (.int now), some (.ref f), some (.int (j : Nat))] (upd H3 f (.lst (xs ++ [.ref p2]))) :=
            ⟨p2, s', _, _, _, rfl, s4, by rw [upd_ne hqf]; exact hq3, upd_same, by simp; exact h3, (by
              unfold SpAt at hp2 ⊢
              rw [upd_ne (fun e => by rw [e, hf3] at hp2; cases hp2)]
              exact hp2), hx4, by rw [h6, List.append_assoc]; rfl⟩
          walk_at "rst"
      · rw [if_neg (fun z => hv z.2)] at h6
        exact ⟨p', sp', _, xs, os, rfl, s2, h1, h2, by omega, h4, h5, h6⟩
    · rw [if_neg (fun z => ht (by rw [z.1]))] at h6
      exact ⟨p', sp', _, xs, os, rfl, s2, h1, h2, by omega, h4, h5, h6⟩
  · rintro σ H2 ⟨p', sp', v6, xs, os, rfl, s2, h1, h2, h3, h4, h5, h6⟩
    exact ⟨_, rfl, q f xs H2 s2 hf h2 (by
      rw [h6, List.drop_of_length_le (by unfold ordV; simp)]
      simpa [visGo] using h5)⟩
def sp_skipped (K : Frag) : Sp := fun vs H Q _ => ∃ (a p : Addr) (tick : Int) (lim : Option Int), vs = [.ref a, .ref p, .int tick, optV lim] ∧ ∃ W sp, WhAt K H a W ∧ SpAt H p sp ∧ sp.lv < W.length ∧
  ∀ f H', Same H H' → H' f = some (.tup [.int (skipped W sp tick lim).1, .int (skipped W sp tick lim).2]) → Q (.ref f) H'
def t_skipped (K : Frag) (w : World) : TS :=
  (tSeq (tAsg (tOp oSub (tOp rIxTH (tVar 1) (tC (.int 2))) (tVar 2)) (gName 4))
  (tSeq (tIfS (tOr (tTest (tOp rNe (tOp rIxTH (tVar 1) (tC (.int 0))) (tOp oSub (tCB (rLenF (sp_Wheel___len__ K) E0) (tCons (tVar 0) tNil)) (tC (.int 1))))) (tTest (tOp oLt (tVar 4) (tFn (sp_Wheel_reach K) E0 (tCons (tVar 0) tNil))))) (tRet (tTup (tCons (tC (.int 0)) (tCons (tC (.int 0)) tNil)))) tNext)
  (tSeq (tAsg (tOp oSub (tFn (sp_visit_after K) E0 (tCons (tFn (sp_Wheel___getitem__ K) E0 (tCons (tVar 0) (tCons (tOp rIxTH (tVar 1) (tC (.int 0))) tNil))) (tCons (tOp rIxTH (tVar 1) (tC (.int 1))) (tCons (tVar 2) tNil)))) (tVar 2)) (gName 5))
  (tSeq (tAsg (tOp oDiv (tOp oSub (tVar 4) (tFn (sp_Wheel_reach K) E0 (tCons (tVar 0) tNil))) (tVar 5)) (gName 6))
  (tSeq (tIfS (tTest (tOp oNotN (tVar 3) (tC .non))) (tAsg (tCB oMin2 (tCons (tCB oInt1 (tCons (tVar 6) tNil)) (tCons (tCB oInt1 (tCons (tOp oDiv (tOp oSub (tVar 3) (tVar 2)) (tVar 5)) tNil)) tNil))) (gName 6)) tNext)
  (tRet (tTup (tCons (tVar 6) (tCons (tVar 5) tNil)))))))))
def n_skipped : List Str := ["wheel", "spot", "tick", "limit", "rest", "step", "many"]
theorem va_le {l : Lv} (hg : 0 < l.g) (hs : 0 < l.s) (pt now : Int) : va l pt now - now ≤ l.s * l.g := by
  unfold va
  have h1 : (pt - now / l.g - 1) % l.s < l.s := Int.emod_lt_of_pos _ hs
  have h2 : (now / l.g + 1 + (pt - now / l.g - 1) % l.s) * l.g ≤ (now / l.g + l.s) * l.g := Int.mul_le_mul_of_nonneg_right (by omega) (by omega)
  have h3 : now / l.g * l.g ≤ now := Int.ediv_mul_le now (by omega)
  rw [Int.add_mul (now / l.g) l.s l.g] at h2
  omega
theorem va_small {W : List Lv} (ok : WOk W) {i : Nat} (hi : i < W.length) (pt now : Int) : CDiv 0 (va (lv W i) pt now - now) := by
  have ha := ok.all _ hi
  have h1 := va_gt (l := lv W i) (by omega) (by omega) pt now
  have h2 := va_le (l := lv W i) (by omega) (by omega) pt now
  have h3 : (lv W i).s * (lv W i).g ≤ 100 * 1000 := Int.mul_le_mul (by omega) (by omega) (by omega) (by omega)
  exact ⟨by omega, by omega⟩
theorem rd_skipped (vs : List V) (H : Hp) (Q : VK) (E : XK) (h : sp_skipped K vs H Q E) : t_skipped K w { nx := fun _ H' => Q .non H', rt := Q } (L2.start n_skipped vs) H := by
  obtain ⟨a, p, tick, lim, rfl, W, sp, hW, hS, hlv, q⟩ := h
  have hp := hW.ok.pos
  have hl5 := hW.ok.len
  have hS2 := hS
  unfold SpAt at hS2
  have eW := @wh_ex K H a W hW
  have key : ∀ x, CDiv x (va (lv W sp.lv) sp.pt tick - tick) := fun x => va_small hW.ok hlv sp.pt tick
  unfold skipped at q
  unfold t_skipped n_skipped
  walk_at "rst"
  refine ⟨by omega, by omega, ite2 (fun h1 => ?_) fun h1 => ite2 (fun h2 => ?_) fun h2 => ?_⟩
  · rw [if_pos (.inl (by omega))] at q
    exact fun f hf => q f _ (Same.new hf) upd_same
  · rw [if_pos (.inr (by omega))] at q
    exact fun f hf => q f _ (Same.new hf) upd_same
  · rw [if_neg (fun z => z.elim (fun z => h1 fun e => z (by omega)) h2)] at q
    refine ⟨a, sp.lv, rfl, W, hW, by omega, by omega, fun c hc => ?_⟩
    have eL := @lv_ex K H c (lv W sp.lv) hc
    cases lim with
    | none =>
      unfold optV
      walk_at "rst"
      exact fun f hf => q f _ (Same.new hf) upd_same
    | some l =>
      unfold optV
      walk_at "rst"
      intro f hf
      refine q f _ (Same.new hf) ?_
      dsimp only
      rw [upd_same]
      have e : min ((sp.due - tick - reach W) / (va (lv W sp.lv) sp.pt tick - tick)) ((l - tick) / (va (lv W sp.lv) sp.pt tick - tick)) = if (l - tick) / (va (lv W sp.lv) sp.pt tick - tick) < (sp.due - tick - reach W) / (va (lv W sp.lv) sp.pt tick - tick) then (l - tick) / (va (lv W sp.lv) sp.pt tick - tick) else (sp.due - tick - reach W) / (va (lv W sp.lv) sp.pt tick - tick) := by
        split <;> omega
      rw [e]
def sp_shifted (K : Frag) : Sp := fun vs H Q _ => ∃ (a b p : Addr) (tick : Int), vs = [.ref a, .ref b, .ref p, .int tick] ∧ ∃ W B sp, WhAt K H a W ∧ BkAt K H b B ∧ SpAt H p sp ∧ tick ≤ sp.due ∧
  ∀ p' H', Same H H' → SpAt H' p' (spotAt W B tick (sp.due - tick) sp.due) → Q (.ref p') H'
def t_shifted (K : Frag) (w : World) : TS :=
  (tRet (tFn (sp_spot_at K) E0 (tCons (tVar 0) (tCons (tVar 1) (tCons (tVar 3) (tCons (tOp oSub (tOp rIxTH (tVar 2) (tC (.int 2))) (tVar 3)) (tCons (tOp rIxTH (tVar 2) (tC (.int 2))) tNil)))))))
def n_shifted : List Str := ["wheel", "book", "spot", "tick"]
theorem rd_shifted (vs : List V) (H : Hp) (Q : VK) (E : XK) (h : sp_shifted K vs H Q E) : t_shifted K w { nx := fun _ H' => Q .non H', rt := Q } (L2.start n_shifted vs) H := by
  obtain ⟨a, b, p, tick, rfl, W, B, sp, hW, hB, hS, hd, q⟩ := h
  have hS2 := hS
  unfold SpAt at hS2
  unfold t_shifted n_shifted
  walk_at "rst"
  exact ⟨a, b, tick, sp.due - tick, sp.due, rfl, W, B, hW, hB, by omega, q⟩
theorem OSps.last {H : Hp} {xs : List V} {os : List (Option Spot)} {o : Option Spot} (h : OSps H xs os) (e : os.getLast? = some o) : ∃ v, xs.getLast? = some v ∧ OSp H v o := by
  have hne : os ≠ [] := fun z => by rw [z] at e; simp at e
  have hpos : 0 < os.length := List.length_pos_iff.mpr hne
  have hl := h.1
  rw [List.getLast?_eq_getElem?] at e ⊢
  have hx : xs.length - 1 < xs.length := by omega
  refine ⟨xs[xs.length - 1], List.getElem?_eq_getElem hx, h.2 _ _ _ (List.getElem?_eq_getElem hx) (by rw [hl]; exact e)⟩
theorem while_true {tb : TS} {D : Ends} {σ : L2.St} {H : Hp} (M : Nat → L2.St → Hp → Prop) (h0 : ∃ m, M m σ H)
    (hs : ∀ m σ H, M m σ H → ∃ n, m = n + 1 ∧ tb { D with nx := M n, ct := M n, bk := D.nx } σ H) : tWhile (tB (tC (.bl true))) tb D σ H := by
  refine ⟨M, h0, fun m σ H hm => ?_⟩
  obtain ⟨n, rfl, ht⟩ := hs m σ H hm
  refine ⟨true, rfl, ?_⟩
  dsimp only
  rw [if_pos rfl]
  exact ⟨M n, fun σ' H' q => ⟨n, by omega, q⟩, ht⟩
def sp_followed (K : Frag) : Sp := fun vs H Q _ => ∃ (a b p : Addr) (before : Int) (lim : Option Int), vs = [.ref a, .ref b, .ref p, .int before, optV lim] ∧ ∃ W B sp, WhAt K H a W ∧ BkAt K H b B ∧ SpAt H p sp ∧ sp.lv < W.length ∧
  ∀ n r, fol W B lim n sp before 0 = some r → ∀ v f H', Same H H' → OSp H' v r.1 → H' f = some (.tup [v, .int r.2.1, .int r.2.2]) → Q (.ref f) H'
def folInv (W : List Lv) (B : Bk) (lim : Option Int) (a b : Addr) (before : Int) (H : Hp) (r : Res) (m : Nat) (σ : L2.St) (H' : Hp) : Prop :=
  ∃ (p' : Addr) (sp' : Spot) (tick mv : Int) (v7 v8 v9 v10 : Option V), σ = [some (.ref a), some (.ref b), some (.ref p'), some (.int before), some (optV lim), some (.int tick), some (.int mv), v7, v8, v9, v10] ∧ Same H H' ∧ SpAt H' p' sp' ∧ sp'.lv < W.length ∧ fol W B lim m sp' tick mv = some r
theorem limSplit {lim : Option Int} {t : Int} {A C : Prop} (h1 : over lim t = true → A) (h2 : over lim t = false → C) : if ¬optV lim = V.non then ∃ x, optV lim = V.int x ∧ if x < t then A else C else C := by
  cases lim with
  | none => rw [if_neg (fun z => z rfl)]; exact h2 rfl
  | some l =>
    rw [if_pos (by unfold optV; intro e; cases e)]
    refine ⟨l, rfl, ite2 (fun h => h1 (decide_eq_true h)) fun h => h2 (decide_eq_false h)⟩
def t_followed (K : Frag) (w : World) : TS :=
  (tSeq (tAsg (tVar 3) (gName 5))
  (tSeq (tAsg (tC (.int 0)) (gName 6))
  (tWhile (tB (tC (.bl true)))
    (tSeq (tAsg (tFn (sp_visit_after K) E0 (tCons (tFn (sp_Wheel___getitem__ K) E0 (tCons (tVar 0) (tCons (tOp rIxTH (tVar 2) (tC (.int 0))) tNil))) (tCons (tOp rIxTH (tVar 2) (tC (.int 1))) (tCons (tVar 5) tNil)))) (gName 7))
  (tSeq (tIfS (tAnd (tTest (tOp oNotN (tVar 4) (tC .non))) (tTest (tOp oGt (tVar 7) (tVar 4)))) (tRet (tTup (tCons (tVar 2) (tCons (tVar 5) (tCons (tVar 6) tNil))))) tNext)
  (tSeq (tAsg (tFn (sp_visited K) E0 (tCons (tVar 0) (tCons (tVar 1) (tCons (tVar 2) (tCons (tOp oSub (tVar 7) (tC (.int 1))) (tCons (tVar 7) tNil)))))) (gName 8))
  (tSeq (tAsg (tVar 7) (gName 5))
  (tSeq (tIfS (tTest (tOp oIsN (tOp rIxLH (tVar 8) (tUn oNeg (tC (.int 1)))) (tC .non))) (tRet (tTup (tCons (tC .non) (tCons (tVar 5) (tCons (tOp oSub (tOp oAdd (tVar 6) (tCB rLenLH (tCons (tVar 8) tNil))) (tC (.int 1))) tNil))))) tNext)
  (tSeq (tAsg (tOp rIxLH (tVar 8) (tUn oNeg (tC (.int 1)))) (gName 2))
  (tSeq (tAsg (tOp oAdd (tVar 6) (tCB rLenLH (tCons (tVar 8) tNil))) (gName 6))
  (tSeq (tAsg (tFn (sp_skipped K) E0 (tCons (tVar 0) (tCons (tVar 2) (tCons (tVar 5) (tCons (tVar 4) tNil))))) (gTup K 2 (gCons (gName 9) (gCons (gName 10) gNil))))
  (tIfS (tTest (tOp oGt (tVar 9) (tC (.int 0)))) (tSeq (tAsg (tOp oAdd (tVar 5) (tOp oMul (tVar 9) (tVar 10))) (gName 5))
  (tSeq (tAsg (tFn (sp_shifted K) E0 (tCons (tVar 0) (tCons (tVar 1) (tCons (tVar 2) (tCons (tVar 5) tNil))))) (gName 2))
  (tAsg (tOp oAdd (tVar 6) (tVar 9)) (gName 6)))) tNext))))))))))))
def n_followed : List Str := ["wheel", "book", "spot", "before", "limit", "tick", "moves", "at", "found", "many", "step"]
theorem rd_followed (vs : List V) (H : Hp) (Q : VK) (E : XK) (h : sp_followed K vs H Q E) : t_followed K w { nx := fun _ H' => Q .non H', rt := Q } (L2.start n_followed vs) H := by
  obtain ⟨a, b, p, before, lim, rfl, W, B, sp, hW, hB, hS, hlv, q⟩ := h
  obtain ⟨r, hr⟩ := fol_ends hW.ok B lim (mu sp before) sp before 0 hlv (Nat.le_refl _)
  have q := q _ r hr
  refine ⟨_, rfl, ?_⟩
  refine while_true (folInv W B lim a b before H r) ⟨_, p, sp, before, 0, none, none, none, none, rfl, Same.refl H, hS, hlv, hr⟩ ?_
  rintro m σ H1 ⟨p', sp', tick, mv, v7, v8, v9, v10, rfl, s1, hS1, hl1, hf⟩
  cases m with
  | zero => cases hf
  | succ n =>
  refine ⟨n, rfl, ?_⟩
  have hW1 := hW.same s1
  have hB1 := hB.same s1
  have hS2 := hS1
  unfold SpAt at hS2
  unfold fol at hf
  unfold gTup gCons gNil
  walk_at "rst"
  refine ⟨a, sp'.lv, rfl, W, hW1, by omega, by omega, fun c hc => ?_⟩
  have eL := @lv_ex K H1 c (lv W sp'.lv) hc
  walk_at "rst"
  refine limSplit (fun ho => ?_) fun ho => ?_
  · dsimp only at hf
    rw [if_pos ho] at hf
    obtain rfl := Option.some.inj hf
    exact fun f hfn => q _ f _ (s1.trans (Same.new hfn)) ⟨p', rfl, hS1.same (Same.new hfn)⟩ upd_same
  · dsimp only at hf
    rw [if_neg (by rw [ho]; decide)] at hf
    refine ⟨a, b, p', _, _, rfl, W, B, sp', hW1, hB1, hS1, fun f xs H2 s2 hfn hx hos => ?_⟩
    cases hlast : (visited W B sp' (va (lv W sp'.lv) sp'.pt tick - 1) (va (lv W sp'.lv) sp'.pt tick)).getLast? with
    | none => rw [hlast] at hf; cases hf
    | some o =>
      rw [hlast] at hf
      obtain ⟨v, hv, hov⟩ := hos.last hlast
      have hat := atI_m1 hv
      have hlen := hos.1
      have s3 := s1.trans s2
      cases o with
      | none =>
        have ev : v = .non := hov
        subst ev
        have hf2 := Option.some.inj hf
        clear hf
        subst hf2
        walk_at "rst"
        exact fun f2 hf2 => q _ f2 _ (s3.trans (Same.new hf2)) rfl (by rw [upd_same])
      | some sp2 =>
        obtain ⟨p2, ev, hp2⟩ := id hov
        subst ev
        obtain ⟨c1, c2, c3, c4⟩ := visGo_last hW.ok _ hlast
        dsimp only at hf
        walk_at "rst"
        refine ⟨a, p2, _, lim, rfl, W, sp2, hW.same s3, hp2, c1, fun f2 H3 s4 hf2 => ?_⟩
        refine ⟨f2, rfl, _, SqT.of hf2, rfl, ?_⟩
        have hp3 := hp2.same s4
        have s5 := s3.trans s4
        have hsm := va_small hW.ok c1 sp2.pt (va (lv W sp'.lv) sp'.pt tick)
        have hk : CMul (skipped W sp2 (va (lv W sp'.lv) sp'.pt tick) lim).1 (skipped W sp2 (va (lv W sp'.lv) sp'.pt tick) lim).2 := by
          refine .inr ?_
          obtain ⟨z1, z2⟩ := hsm
          unfold skipped
          split
          · exact ⟨by decide, by decide⟩
          · cases lim <;> exact ⟨by dsimp only; omega, by dsimp only; omega⟩
        have hdue : 0 < (skipped W sp2 (va (lv W sp'.lv) sp'.pt tick) lim).1 → va (lv W sp'.lv) sp'.pt tick + (skipped W sp2 (va (lv W sp'.lv) sp'.pt tick) lim).1 * (skipped W sp2 (va (lv W sp'.lv) sp'.pt tick) lim).2 ≤ sp2.due := by
          intro hk0
          obtain ⟨k1, k2, k3, k4⟩ := skipped_pos hk0
          rw [k3]
          have h1 := Int.mul_le_mul_of_nonneg_right (c := va (lv W sp2.lv) sp2.pt (va (lv W sp'.lv) sp'.pt tick) - va (lv W sp'.lv) sp'.pt tick) k4 (by have := hsm.1; omega)
          have h2 := Int.ediv_mul_le (sp2.due - va (lv W sp'.lv) sp'.pt tick - reach W) (b := va (lv W sp2.lv) sp2.pt (va (lv W sp'.lv) sp'.pt tick) - va (lv W sp'.lv) sp'.pt tick) (by have := hsm.1; omega)
          have h3 : 2 ≤ reach W := (hW.ok.all (W.length - 1) (by have := hW.ok.pos; omega)).2.2.2.2
          omega
        generalize hkk : skipped W sp2 (va (lv W sp'.lv) sp'.pt tick) lim = kk at hf hk hdue
        walk_at "rst"
        refine ite2 (fun h0 => ?_) fun h0 => ?_
        · rw [if_pos h0] at hf
          refine ⟨a, b, p2, _, rfl, W, B, sp2, hW.same s5, hB.same s5, hp3, hdue h0, fun p4 H4 s6 hp4 => ?_⟩
          exact ⟨p4, _, _, _, _, _, _, _, rfl, s5.trans s6, hp4, spotAt_lt hW.ok _ _ _ _, hf⟩
        · rw [if_neg h0] at hf
          exact ⟨p2, sp2, _, _, _, _, _, _, rfl, s5, hp3, c1, hf⟩
/-- the tick at which a timer fires, and how often it is moved -/
def fin (W : List Lv) (B : Bk) (start delay : Int) : Int × Int := match placeM W B start delay with
  | none => (start, 0)
  | some sp => match fol W B none (mu sp start) sp start 0 with
    | none => (0, 0)
    | some r => r.2
theorem fin_none {W : List Lv} {B : Bk} {start delay : Int} (h : placeM W B start delay = none) : fin W B start delay = (start, 0) := by
  unfold fin
  rw [h]
theorem fol_mono {W : List Lv} {B : Bk} {lim : Option Int} : ∀ (n : Nat) {sp : Spot} {tick mv : Int} {r : Res}, fol W B lim n sp tick mv = some r → ∀ m, n ≤ m → fol W B lim m sp tick mv = some r
  | 0, _, _, _, _, h, _, _ => by cases h
  | n + 1, sp, tick, mv, r, h, m, hm => by
    obtain ⟨m, rfl⟩ : ∃ k, m = k + 1 := ⟨m - 1, by omega⟩
    unfold fol at h ⊢
    dsimp only at h ⊢
    split at h
    · rename_i h1
      rw [if_pos h1]; exact h
    · rename_i h1
      rw [if_neg h1]
      split at h
      · cases h
      · exact h
      · split at h
        · rename_i h2
          rw [if_pos h2]; exact fol_mono n h m (by omega)
        · rename_i h2
          rw [if_neg h2]; exact fol_mono n h m (by omega)
theorem fin_some {W : List Lv} {B : Bk} {start delay : Int} {sp : Spot} {n : Nat} {r : Res} (h : placeM W B start delay = some sp) (ok : WOk W) (hl : sp.lv < W.length) (hf : fol W B none n sp start 0 = some r) : fin W B start delay = r.2 := by
  unfold fin
  rw [h]
  obtain ⟨r', hr'⟩ := fol_ends ok B none (mu sp start) sp start 0 hl (Nat.le_refl _)
  have e1 := fol_mono _ hr' (max n (mu sp start)) (Nat.le_max_right _ _)
  have e2 := fol_mono _ hf (max n (mu sp start)) (Nat.le_max_left _ _)
  rw [e1] at e2
  obtain rfl := Option.some.inj e2
  dsimp only
  rw [hr']
theorem placeM_lt {W : List Lv} (ok : WOk W) {B : Bk} {now delay : Int} {sp : Spot} (h : placeM W B now delay = some sp) : sp.lv < W.length := by
  unfold placeM at h
  split at h
  · cases h
  · obtain rfl := Option.some.inj h
    exact spotAt_lt ok _ _ _ _
def sp_fire_tick (K : Frag) : Sp := fun vs H Q _ => ∃ (a b : Addr) (now delay : Int), vs = [.ref a, .ref b, .int now, .int delay] ∧ ∃ W B, WhAt K H a W ∧ BkAt K H b B ∧ 0 ≤ now ∧ 0 ≤ delay ∧ (reach W ≤ delay → B.bey ≠ 0) ∧
  ∀ H', Same H H' → Q (.int (fin W B now delay).1) H'
def t_fire_tick (K : Frag) (w : World) : TS :=
  (tSeq (tAsg (tFn (sp_place K) E0 (tCons (tVar 0) (tCons (tVar 1) (tCons (tVar 2) (tCons (tVar 3) tNil))))) (gName 4))
  (tSeq (tIfS (tTest (tOp oIsN (tVar 4) (tC .non))) (tRet (tVar 2)) tNext)
  (tRet (tOp rIxTH (tFn (sp_followed K) E0 (tCons (tVar 0) (tCons (tVar 1) (tCons (tVar 4) (tCons (tVar 2) (tCons (tC .non) tNil)))))) (tC (.int 1))))))
def n_fire_tick : List Str := ["wheel", "book", "start", "delay", "spot"]
theorem rd_fire_tick (vs : List V) (H : Hp) (Q : VK) (E : XK) (h : sp_fire_tick K vs H Q E) : t_fire_tick K w { nx := fun _ H' => Q .non H', rt := Q } (L2.start n_fire_tick vs) H := by
  obtain ⟨a, b, now, delay, rfl, W, B, hW, hB, hn, hd, hr, q⟩ := h
  unfold t_fire_tick n_fire_tick
  walk_at "rst"
  refine ⟨a, b, now, delay, rfl, W, B, hW, hB, hn, hd, hr, fun v H1 s1 ho => ?_⟩
  cases hp : placeM W B now delay with
  | none =>
    rw [hp] at ho
    have ev : v = .non := ho
    subst ev
    rw [fin_none hp] at q
    walk_at "rst"

  | some sp =>
    rw [hp] at ho
    obtain ⟨p, ev, hs⟩ := ho
    subst ev
    walk_at "rst"
    refine ⟨a, b, p, now, none, rfl, W, B, sp, hW.same s1, hB.same s1, hs, placeM_lt hW.ok hp, fun n r hf v f H2 s2 _ h2 => ?_⟩
    rw [fin_some hp hW.ok (placeM_lt hW.ok hp) hf] at q
    walk_at "rst"
    exact q H2 (s1.trans s2)
def sp_moves (K : Frag) : Sp := fun vs H Q _ => ∃ (a b : Addr) (now delay : Int), vs = [.ref a, .ref b, .int now, .int delay] ∧ ∃ W B, WhAt K H a W ∧ BkAt K H b B ∧ 0 ≤ now ∧ 0 ≤ delay ∧ (reach W ≤ delay → B.bey ≠ 0) ∧
  ∀ H', Same H H' → Q (.int (fin W B now delay).2) H'
def t_moves (K : Frag) (w : World) : TS :=
  (tSeq (tAsg (tFn (sp_place K) E0 (tCons (tVar 0) (tCons (tVar 1) (tCons (tVar 2) (tCons (tVar 3) tNil))))) (gName 4))
  (tSeq (tIfS (tTest (tOp oIsN (tVar 4) (tC .non))) (tRet (tC (.int 0))) tNext)
  (tRet (tOp rIxTH (tFn (sp_followed K) E0 (tCons (tVar 0) (tCons (tVar 1) (tCons (tVar 4) (tCons (tVar 2) (tCons (tC .non) tNil)))))) (tC (.int 2))))))
def n_moves : List Str := ["wheel", "book", "start", "delay", "spot"]
theorem rd_moves (vs : List V) (H : Hp) (Q : VK) (E : XK) (h : sp_moves K vs H Q E) : t_moves K w { nx := fun _ H' => Q .non H', rt := Q } (L2.start n_moves vs) H := by
  obtain ⟨a, b, now, delay, rfl, W, B, hW, hB, hn, hd, hr, q⟩ := h
  unfold t_moves n_moves
  walk_at "rst"
  refine ⟨a, b, now, delay, rfl, W, B, hW, hB, hn, hd, hr, fun v H1 s1 ho => ?_⟩
  cases hp : placeM W B now delay with
  | none =>
    rw [hp] at ho
    have ev : v = .non := ho
    subst ev
    rw [fin_none hp] at q
    walk_at "rst"

  | some sp =>
    rw [hp] at ho
    obtain ⟨p, ev, hs⟩ := ho
    subst ev
    walk_at "rst"
    refine ⟨a, b, p, now, none, rfl, W, B, sp, hW.same s1, hB.same s1, hs, placeM_lt hW.ok hp, fun n r hf v f H2 s2 _ h2 => ?_⟩
    rw [fin_some hp hW.ok (placeM_lt hW.ok hp) hf] at q
    walk_at "rst"
    exact q H2 (s1.trans s2)
end
end Tw
namespace Tw
open PySem PySem.Spec PyProof.Rows L2 He TwM
open PySem.W (Frag)
theorem split_bws (B : Bk) (hb : B.bey < 3) : Txt.split (Txt.join " " (bws B)) " " = bws B ∧ (Txt.join " " (bws B)).length ≤ 100 := by
  obtain ⟨u, f, hi, p, z, n⟩ := B
  have key : ∀ (u f hi p z : Bool), ∀ n : Fin 3, Txt.split (Txt.join " " (bws ⟨u, f, hi, p, z, n.val⟩)) " " = bws ⟨u, f, hi, p, z, n.val⟩ ∧ (Txt.join " " (bws ⟨u, f, hi, p, z, n.val⟩)).length ≤ 100 := by decide +kernel
  exact key u f hi p z ⟨n, hb⟩
end Tw
/-! Tw: unpacking what is a list or a tuple -/
namespace Tw
open PySem PySem.Spec PyProof.Rows L2
/-- (a, b, ..) = a list or a tuple of that length -/
def gUnA (K : PySem.W.Frag) (n : Nat) (t : TGs) : TG := fun v σ H Q => ∃ a xs, v = .ref a ∧ (SqL K H a xs ∨ SqT K H a xs) ∧ xs.length = n ∧ t xs σ H Q
theorem pg_or {X : Cx} {e : Expr} {n : Nat} {t : TGs} (h1 : PG X e (gUnl X.K n t)) (h2 : PG X e (gTup X.K n t)) : PG X e (gUnA X.K n t) := by
  refine ⟨fun pins s σ H v u Q I r hw => ?_⟩
  obtain ⟨a, xs, e1, hq | hq, hl, hw⟩ := hw
  · exact h1.run pins s σ H v u Q I r ⟨a, xs, e1, hq, hl, hw⟩
  · exact h2.run pins s σ H v u Q I r ⟨a, xs, e1, hq, hl, hw⟩
end Tw
/-! Tw: readings of what makes books, levels, wheels -/
namespace Tw
open PySem PySem.Spec PyProof.Rows L2 He TwM
open PySem.W (Frag)
local macro_rules | `(tactic| walk_at "rsu") => `(tactic| simp only [*, at3_0, at3_1, at3_2, at2_0, at2_1, and_assoc, not_true_eq_false, not_false_eq_true, tNever, List.length_map, tFld, rIxTH, rIxLH, rLenTH, rLenLH, lk1, lfs_g, lfs_s, lfs_p, HO.ins.injEq, HO.tup.injEq, HO.lst.injEq, sp_Book_rounding, sp_Book_action, sp_Book_order, sp_Book_due, sp_Book_zero, sp_Book_beyond, Int.toNat_natCast, sp_visit_after, sp_is_visited, sp_Level_grain, sp_Level_slots, sp_Level_span, sp_Wheel_reach, sp_Wheel___len__, sp_is_integer, sp_is_count, sp_is_within, sp_rounded, tSeq, tAsg, gName, tVar, tC, tOp, rI, rI0, rU, tUn, oAdd, oSub, oMul, oDiv, oMod, oNeg, oLt, oLe, oGt, oGe, oIsN, oNotN, tFn, tCons, tNil, tIfS, tIf, tTest, tB, tNot, tAnd, tOr, tAndV, tOrV, tNotV,
    tRet, tRetN, tNext, tCB, tDrop, tChain, rEq, rNe, oMax2, oMin2, oInt1, rLenF, L2.start, List.map_cons, List.map_nil, List.length_cons, List.length_nil, List.replicate_succ, List.replicate_zero, List.cons_append, List.nil_append, Nat.reduceAdd, Nat.reduceSub, Nat.zero_add,
    List.set_cons_zero, List.set_cons_succ, List.getElem?_cons_zero, List.getElem?_cons_succ, Option.some.injEq, V.int.injEq, V.ref.injEq, V.str.injEq, V.bl.injEq, exists_eq_left', exists_eq_left, exists_and_left, List.cons.injEq, and_true, true_and, decide_eq_true_eq, sc_ii, sc_ss, sc_bb, sc_ni, sc_in, sc_nn, sc_is, reduceCtorEq,
    Bool.not_eq_true', decide_eq_false_iff_not, if_true, if_false, Bool.false_eq_true, exists_eq', exists_const, false_and, and_false, or_false, false_or, exists_false, Bool.not_not, Bool.not_true, Bool.not_false, sUp_up, sFire_fire, sHigh_high, sPut_put, sZone_now, sBey_refuse, sBey_cut, tTup, tLst, sz0, sz1, sz2, sz3, sz4, sz5, sz6])
section
variable {K : Frag} {w : World}
/-- all but x stays -/
def SameX (x : Addr) (H H' : Hp) : Prop := ∀ b o, b ≠ x → H b = some o → H' b = some o
theorem SameX.refl (x : Addr) (H : Hp) : SameX x H H := fun _ _ _ h => h
theorem SameX.same {x : Addr} {H H1 H2 : Hp} (h : SameX x H H1) (s : Same H1 H2) : SameX x H H2 := fun b o n e => s _ _ (h b o n e)
theorem SameX.upd {x : Addr} {H H1 : Hp} {o : HO} (h : SameX x H H1) : SameX x H (upd H1 x o) := fun b u n e => by
  rw [upd_ne n]; exact h b u n e
theorem Same.toX {x : Addr} {H H1 : Hp} (s : Same H H1) : SameX x H H1 := fun b o _ e => s b o e
/-- after a making: what stood ahead of it stays -/
theorem SameX.made {H2 H' : Hp} {x dx : Addr} {o o' : HO} (hx : H2 x = none) (hd : H2 dx = none) (h : SameX x (L2.upd (L2.upd H2 dx o) x o') H') : Same H2 H' := fun b u e => by
  have n1 : b ≠ x := ne_of_none e hx
  have n2 : b ≠ dx := ne_of_none e hd
  exact h b u n1 (by rw [upd_ne n1, upd_ne n2]; exact e)
theorem bws_len (B : Bk) : (bws B).length = 6 := rfl
theorem iv0 (b : Bool) : inV (.str (sUp b)) [.str "down", .str "up"] = true := by cases b <;> decide +kernel
theorem iv1 (b : Bool) : inV (.str (sFire b)) [.str "fire", .str "move"] = true := by cases b <;> decide +kernel
theorem iv2 (b : Bool) : inV (.str (sHigh b)) [.str "high", .str "low"] = true := by cases b <;> decide +kernel
theorem iv3 (b : Bool) : inV (.str (sPut b)) [.str "now", .str "put"] = true := by cases b <;> decide +kernel
theorem iv4 (b : Bool) : inV (.str (sZone b)) [.str "now", .str "one"] = true := by cases b <;> decide +kernel
theorem iv5 (n : Nat) (h : n < 3) : inV (.str (sBey n)) [.str "refuse", .str "last", .str "cut"] = true := by
  match n, h with
  | 0, _ => decide +kernel
  | 1, _ => decide +kernel
  | 2, _ => decide +kernel
def sp_is_value (K : Frag) : Sp := fun vs H Q _ => ∃ (i : Nat) (B : Bk) (x y : Str), vs = [.str x, .str y] ∧ B.bey < 3 ∧ six[i]? = some x ∧ (bws B)[i]? = some y ∧ Q (.bl true) H
def t_is_value (K : Frag) (w : World) : TS :=
  (tRet (tAndV (tCB (rIsi K) (tCons (tVar 1) (tCons (tC (.ty "str")) tNil))) (tOp (rIn K false) (tVar 1) (tOp (rIxD K w) (tC (.ref (ga K "VALUES"))) (tVar 0)))))
def n_is_value : List Str := ["switch", "value"]
theorem rd_is_value (T : Kf K w) (vs : List V) (H : Hp) (Q : VK) (E : XK) (h : sp_is_value K vs H Q E) : t_is_value K w { nx := fun _ H' => Q .non H', rt := Q } (L2.start n_is_value vs) H := by
  obtain ⟨i, B, x, y, rfl, hb, hx, hy, q⟩ := h
  have key : ∀ xs, SqT K H (dva K (ga K "VALUES") x) xs → xs.all flatV = true → inV (.str y) xs = true → t_is_value K w { nx := fun _ H' => Q .non H', rt := Q } (L2.start n_is_value [.str x, .str y]) H := by
    intro xs h1 h2 h3
    unfold t_is_value n_is_value
    walk_at "rsu"
    refine isi_base (.base (.str y)) (b := true) (by decide +kernel) ⟨true, rfl, iteT ?_⟩
    have hm : x ∈ six := List.mem_of_getElem? hx
    exact ⟨_, x, _, rfl, rfl, T.vd x hm, _, xs, rfl, .inr h1, rfl, h2, by rw [if_neg Bool.false_ne_true, h3]; exact q⟩
  obtain ⟨u, f, hi, p, z, n⟩ := B
  have hn : n < 3 := hb
  match i with
  | 0 =>
    obtain rfl := Option.some.inj hx
    obtain rfl := Option.some.inj hy
    exact key _ (T.v0 H) (by decide +kernel) (iv0 u)
  | 1 =>
    obtain rfl := Option.some.inj hx
    obtain rfl := Option.some.inj hy
    exact key _ (T.v1 H) (by decide +kernel) (iv1 f)
  | 2 =>
    obtain rfl := Option.some.inj hx
    obtain rfl := Option.some.inj hy
    exact key _ (T.v2 H) (by decide +kernel) (iv2 hi)
  | 3 =>
    obtain rfl := Option.some.inj hx
    obtain rfl := Option.some.inj hy
    exact key _ (T.v3 H) (by decide +kernel) (iv3 p)
  | 4 =>
    obtain rfl := Option.some.inj hx
    obtain rfl := Option.some.inj hy
    exact key _ (T.v4 H) (by decide +kernel) (iv4 z)
  | 5 =>
    obtain rfl := Option.some.inj hx
    obtain rfl := Option.some.inj hy
    exact key _ (T.v5 H) (by decide +kernel) (iv5 n hn)
  | i + 6 => cases hx
def sp_Book___init__ (K : Frag) : Sp := fun vs H Q _ => ∃ (x dx : Addr) (B : Bk), vs = .ref x :: (bws B).map V.str ∧ B.bey < 3 ∧ H x = some (.ins (ga K "Book") dx []) ∧ ∀ H', SameX x H H' → BkAt K H' x B → Q .non H'
def t_Book___init__ (K : Frag) (w : World) : TS :=
  (tSeq (tAsg (tTup (tCons (tVar 1) (tCons (tVar 2) (tCons (tVar 3) (tCons (tVar 4) (tCons (tVar 5) (tCons (tVar 6) tNil))))))) (gName 7))
  (tSeq (tFor (RZ.iZipA K (tCons (tC (.ref (ga K "SWITCHES"))) (tCons (tVar 7) tNil))) (gTup K 2 (gCons (gName 8) (gCons (gName 9) gNil)))
    (tIfS (tNot (tB (tFn (sp_is_value K) E0 (tCons (tVar 8) (tCons (tVar 9) tNil))))) tNever tNext))
  (sFld K (tVar 0) (tVar 7) "kept_values")))
def n_Book___init__ : List Str := ["self", "rounding", "action", "order", "due", "zero", "beyond", "given", "switch", "value"]
theorem rd_Book___init__ (T : Kf K w) (vs : List V) (H : Hp) (Q : VK) (E : XK) (h : sp_Book___init__ K vs H Q E) : t_Book___init__ K w { nx := fun _ H' => Q .non H', rt := Q } (L2.start n_Book___init__ vs) H := by
  obtain ⟨x, dx, B, rfl, hb, hx, q⟩ := h
  have c1 := T.cB
  have c2 := T.nBv
  have e0 : (bws B).map V.str = [.str (sUp B.up), .str (sFire B.fire), .str (sHigh B.high), .str (sPut B.put), .str (sZone B.zone), .str (sBey B.bey)] := rfl
  rw [e0]
  unfold t_Book___init__ n_Book___init__ sFld
  walk_at "rsu"
  intro g hg
  have s0 := Same.new (o := .tup ((bws B).map V.str)) hg
  rw [← e0]
  refine ⟨_, rfl, _, _, _, _, rfl, .inr ⟨T.sw _, SqT.of upd_same, RZ.for_zipT (K := K) (a := ga K "SWITCHES") (b := g) (xs := six.map V.str) (ys := (bws B).map V.str) rfl
    (fun i σ H' => ∃ v8 v9, σ = [some (.ref x), some (.str (sUp B.up)), some (.str (sFire B.fire)), some (.str (sHigh B.high)), some (.str (sPut B.put)), some (.str (sZone B.zone)), some (.str (sBey B.bey)), some (.ref g), v8, v9] ∧ Same (upd H g (.tup ((bws B).map V.str))) H')
    ⟨none, none, rfl, Same.refl _⟩ (fun i σ H' ⟨_, _, _, s⟩ => ⟨T.sw H', SqT.of (s _ _ upd_same)⟩) ?_ ?_⟩⟩
  · rintro i a b Tq σ H1 ha hb' ⟨v8, v9, rfl, s⟩ hT
    rw [List.getElem?_map] at ha hb'
    cases ea : six[i]? with
    | none => rw [ea] at ha; cases ha
    | some x1 =>
      cases eb : (bws B)[i]? with
      | none => rw [eb] at hb'; cases hb'
      | some y1 =>
        rw [ea] at ha
        rw [eb] at hb'
        obtain rfl := Option.some.inj ha
        obtain rfl := Option.some.inj hb'
        refine ⟨_, _, rfl, SqT.of upd_same, rfl, _, _, rfl, _, _, rfl, rfl, ?_⟩
        have s' := s.trans (Same.new (o := .tup [.str x1, .str y1]) hT)
        walk_at "rsu"
        exact ⟨i, B, x1, y1, rfl, hb, ea, eb, true, rfl, by rw [if_neg Bool.noConfusion]; exact s'⟩
  · rintro σ H1 ⟨v8, v9, rfl, s⟩
    have hx1 := s _ _ (s0 _ _ hx)
    have ht1 := s _ _ (upd_same (H := H) (a := g) (o := .tup ((bws B).map V.str)))
    have hgx : g ≠ x := fun e => by rw [e, hx] at hg; cases hg
    walk_at "rsu"
    refine ⟨by decide, q _ (SameX.upd (Same.toX (s0.trans s))) ⟨hb, dx, g, ?_, ?_⟩⟩
    · rw [upd_same]; rfl
    · rw [upd_ne hgx]; exact ht1
def gV_Book_rounding_action_order_due_zero_beyond : List V → List V → List V := fun vs zs => vs ++ zs
def gV_Level_span : List V → List V → List V := fun vs zs => vs ++ zs
def sp_book_of (K : Frag) : Sp := fun vs H Q _ => ∃ (l : Addr) (B : Bk), vs = [.ref l] ∧ B.bey < 3 ∧ (H l = some (.lst ((bws B).map V.str)) ∨ H l = some (.tup ((bws B).map V.str))) ∧ ∀ a H', Same H H' → BkAt K H' a B → Q (.ref a) H'
def t_book_of (K : Frag) (w : World) : TS :=
  (tSeq (tAsg (tVar 0) (gUnA K 6 (gCons (gName 1) (gCons (gName 2) (gCons (gName 3) (gCons (gName 4) (gCons (gName 5) (gCons (gName 6) gNil))))))))
  (tRet (tMakeK (ga K "Book") 0 6 (sp_Book___init__ K) gV_Book_rounding_action_order_due_zero_beyond E0 tNil (tCons (tVar 1) (tCons (tVar 2) (tCons (tVar 3) (tCons (tVar 4) (tCons (tVar 5) (tCons (tVar 6) tNil)))))))))
def n_book_of : List Str := ["values", "rounding", "action", "order", "due", "zero", "beyond"]
theorem rd_book_of (vs : List V) (H : Hp) (Q : VK) (E : XK) (h : sp_book_of K vs H Q E) : t_book_of K w { nx := fun _ H' => Q .non H', rt := Q } (L2.start n_book_of vs) H := by
  obtain ⟨l, B, rfl, hb, hl, q⟩ := h
  refine ⟨_, rfl, l, _, rfl, hl.imp SqL.of SqT.of, rfl, _, _, rfl, _, _, rfl, _, _, rfl, _, _, rfl, _, _, rfl, _, _, rfl, rfl, ?_⟩
  refine ⟨_, rfl, _, rfl, _, rfl, _, rfl, _, rfl, _, rfl, rfl, rfl, fun x dx hx hd hn => ?_⟩
  exact ⟨x, dx, B, rfl, hb, upd_same, fun H' s z => ⟨rfl, q x H' (SameX.made hx hd s) z⟩⟩
def sp_Book_from_text (K : Frag) : Sp := fun vs H Q _ => ∃ (B : Bk), vs = [.ref (ga K "Book"), .str (Txt.join " " (bws B))] ∧ B.bey < 3 ∧ ∀ a H', Same H H' → BkAt K H' a B → Q (.ref a) H'
def t_Book_from_text (K : Frag) (w : World) : TS :=
  (tSeq (tIfS (tNot (tB (tCB (rIsi K) (tCons (tVar 1) (tCons (tC (.ty "str")) tNil))))) tNever tNext)
  (tSeq (tAsg (tM1 oSplit (tVar 1) (tC (.str " "))) (gName 2))
  (tSeq (tIfS (tTest (tOp rNe (tCB rLenLH (tCons (tVar 2) tNil)) (tCB (oLen K) (tCons (tC (.ref (ga K "SWITCHES"))) tNil)))) tNever tNext)
  (tSeq (tFor (iZm K (tCons (tC (.ref (ga K "SWITCHES"))) (tCons (tVar 2) tNil))) (gTup K 2 (gCons (gName 3) (gCons (gName 4) gNil)))
    (tIfS (tNot (tB (tFn (sp_is_value K) E0 (tCons (tVar 3) (tCons (tVar 4) tNil))))) tNever tNext))
  (tRet (tFn (sp_book_of K) E0 (tCons (tVar 2) tNil)))))))
def n_Book_from_text : List Str := ["cls", "text", "words", "switch", "word"]
theorem rd_Book_from_text (T : Kf K w) (vs : List V) (H : Hp) (Q : VK) (E : XK) (h : sp_Book_from_text K vs H Q E) : t_Book_from_text K w { nx := fun _ H' => Q .non H', rt := Q } (L2.start n_Book_from_text vs) H := by
  obtain ⟨B, rfl, hb, q⟩ := h
  obtain ⟨e1, e2⟩ := split_bws B hb
  have e6 := bws_len B
  generalize Txt.join " " (bws B) = tx at e1 e2 ⊢
  unfold t_Book_from_text n_Book_from_text tM1 oSplit oLen rNewStrs
  walk_at "rsu"
  refine isi_base (.base (.str tx)) (b := true) (by decide +kernel) ⟨true, rfl, ?_⟩
  rw [if_neg Bool.noConfusion]
  refine ⟨rfl, Nat.le_trans (Nat.add_le_add_right e2 2) (by decide), fun l hl => ⟨_, upd_same, _, .inr (T.sw _), ?_⟩⟩
  have s0 := Same.new (o := .lst ((bws B).map V.str)) hl
  rw [if_neg (fun z => z rfl)]
  refine ⟨_, rfl, _, _, _, _, rfl, T.sw _, SqL.of upd_same, for_zm (K := K) (a := ga K "SWITCHES") (b := l) (xs := six.map V.str) (ys := (bws B).map V.str) rfl
    (fun i σ H' => ∃ v8 v9, σ = [some (.ref (ga K "Book")), some (.str tx), some (.ref l), v8, v9] ∧ Same (upd H l (.lst ((bws B).map V.str))) H')
    ⟨none, none, rfl, Same.refl _⟩ (fun i σ H' ⟨_, _, _, s⟩ => ⟨T.sw H', SqL.of (s _ _ upd_same)⟩) ?_ ?_⟩
  · rintro i a b Tq σ H1 ha hb' ⟨v8, v9, rfl, s⟩ hT
    rw [List.getElem?_map] at ha hb'
    cases ea : six[i]? with
    | none => rw [ea] at ha; cases ha
    | some x1 =>
      cases eb : (bws B)[i]? with
      | none => rw [eb] at hb'; cases hb'
      | some y1 =>
        rw [ea] at ha
        rw [eb] at hb'
        obtain rfl := Option.some.inj ha
        obtain rfl := Option.some.inj hb'
        refine ⟨_, _, rfl, SqT.of upd_same, rfl, _, _, rfl, _, _, rfl, rfl, ?_⟩
        have s' := s.trans (Same.new (o := .tup [.str x1, .str y1]) hT)
        walk_at "rsu"
        exact ⟨i, B, x1, y1, rfl, hb, ea, eb, true, rfl, by rw [if_neg Bool.noConfusion]; exact s'⟩
  · rintro σ H1 ⟨v8, v9, rfl, s⟩
    exact ⟨_, rfl, l, B, rfl, hb, .inl (s _ _ upd_same), fun a H' s' z => q a H' ((s0.trans s).trans s') z⟩
def sp_Level___init__ (K : Frag) : Sp := fun vs H Q _ => ∃ (x dx : Addr) (l : Lv) (v : V), vs = [.ref x, .int l.g, .int l.s, v] ∧ (v = .int l.p ∨ v = .non ∧ l.p = l.s * l.g) ∧ LOk l ∧ 2 ≤ l.p ∧ l.p ≤ 4 * l.s * l.g ∧ H x = some (.ins (ga K "Level") dx []) ∧ ∀ H', SameX x H H' → LvAt K H' x l → Q .non H'
def t_Level___init__ (K : Frag) (w : World) : TS :=
  (tSeq (tIfS (tNot (tB (tFn (sp_is_within K) E0 (tCons (tVar 1) (tCons (tC (.int 1)) (tCons (tC (.int 1000)) tNil)))))) tNever tNext)
  (tSeq (tIfS (tNot (tB (tFn (sp_is_within K) E0 (tCons (tVar 2) (tCons (tC (.int 2)) (tCons (tC (.int 100)) tNil)))))) tNever tNext)
  (tSeq (tIfS (tAnd (tTest (tOp oNotN (tVar 3) (tC .non))) (tNot (tB (tFn (sp_is_within K) E0 (tCons (tVar 3) (tCons (tC (.int 2)) (tCons (tOp oMul (tOp oMul (tC (.int 4)) (tVar 2)) (tVar 1)) tNil))))))) tNever tNext)
  (tSeq (sFld K (tVar 0) (tVar 1) "kept_grain")
  (tSeq (sFld K (tVar 0) (tVar 2) "kept_slots")
  (sFld K (tVar 0) (tIf (tTest (tOp oIsN (tVar 3) (tC .non))) (tOp oMul (tVar 2) (tVar 1)) (tVar 3)) "kept_span"))))))
def n_Level___init__ : List Str := ["self", "grain", "slots", "span"]
theorem rd_Level___init__ (T : Klv K w) (vs : List V) (H : Hp) (Q : VK) (E : XK) (h : sp_Level___init__ K vs H Q E) : t_Level___init__ K w { nx := fun _ H' => Q .non H', rt := Q } (L2.start n_Level___init__ vs) H := by
  obtain ⟨x, dx, l, v, rfl, hv, ok, hp1, hp2, hx, q⟩ := h
  obtain ⟨g1, g2, s1, s2⟩ := id ok
  have c1 := T.cL
  have c2 := T.nLg
  have c3 := T.nLs
  have c4 := T.nLp
  have hpt : putF "kept_span" (.int l.p) (putF "kept_slots" (.int l.s) (putF "kept_grain" (.int l.g) [])) = lfs l := rfl
  have hfin : Q .non (upd (upd (upd H x (.ins (ga K "Level") dx (putF "kept_grain" (.int l.g) []))) x (.ins (ga K "Level") dx (putF "kept_slots" (.int l.s) (putF "kept_grain" (.int l.g) []))))
      x (.ins (ga K "Level") dx (putF "kept_span" (.int l.p) (putF "kept_slots" (.int l.s) (putF "kept_grain" (.int l.g) []))))) :=
    q _ (SameX.upd (SameX.upd (SameX.upd (SameX.refl x H)))) ⟨ok, dx, by rw [upd_same, hpt]⟩
  unfold t_Level___init__ n_Level___init__ sFld
  rcases hv with rfl | ⟨rfl, hpe⟩
  · walk_at "rsu"
    exact ⟨.inr ⟨by omega, by omega⟩, .inr ⟨by omega, by omega⟩, by decide, _, _, _, upd_same, c1, c3, by show 1 < 1000; decide, _, _, _, upd_same, c1, c4, by show 2 < 1000; decide, hfin⟩
  · rw [hpe] at hfin
    walk_at "rsu"
    exact ⟨by decide, _, _, _, upd_same, c1, c3, by show 1 < 1000; decide, .inr ⟨by omega, by omega⟩, _, _, _, upd_same, c1, c4, by show 2 < 1000; decide, hfin⟩
/-- a loop over zip of two tuples of any lengths -/
theorem for_zipN {K : PySem.W.Frag} {a b : Addr} {xs ys : List V} {g : TG} {tb : TS} {D : Ends} {σ : L2.St} {H : Hp} (hl : ys.length ≤ xs.length) (Pv : Nat → L2.St → Hp → Prop) (h0 : Pv 0 σ H) (hq : ∀ i σ H, Pv i σ H → SqT K H a xs ∧ SqT K H b ys)
    (hs : ∀ (i : Nat) (x y : V) (T : Addr) (σ : L2.St) (H : Hp), xs[i]? = some x → ys[i]? = some y → Pv i σ H → H T = none → g (.ref T) σ (upd H T (.tup [x, y])) fun σ2 H2 => tb { D with nx := Pv (i + 1), ct := Pv (i + 1), bk := D.nx } σ2 H2) (hd : ∀ σ H, Pv ys.length σ H → D.nx σ H) :
    ∃ W : Nat → Nat → L2.St → Hp → Prop, (∃ m, W 0 m σ H) ∧ ∀ i m σ H, W i m σ H →
      ((RZ.ItzT K a b).stop i H ∧ D.nx σ H) ∨ ((RZ.ItzT K a b).go i H ∧ ∃ N : L2.St → Hp → Prop, (∀ σ' H', N σ' H' → ∃ m', m' < m ∧ W (i + 1) m' σ' H') ∧ ∀ v H', (RZ.ItzT K a b).yld i H v H' → g v σ H' fun σ2 H2 => tb { D with nx := N, ct := N, bk := D.nx } σ2 H2) := by
  refine ⟨fun i m σ H => m = ys.length - i ∧ i ≤ ys.length ∧ Pv i σ H, ⟨ys.length, rfl, Nat.zero_le _, h0⟩, ?_⟩
  rintro i m σ H ⟨rfl, hi, p⟩
  obtain ⟨qx, qy⟩ := hq i σ H p
  rcases Nat.lt_or_ge i ys.length with hy | hy
  · refine .inr ⟨⟨xs, ys, _, _, qx, qy, List.getElem?_eq_getElem (by omega), List.getElem?_eq_getElem hy⟩, Pv (i + 1), ?_, ?_⟩
    · exact fun σ' H' p' => ⟨ys.length - (i + 1), by omega, rfl, hy, p'⟩
    · rintro v H' ⟨T, x', y', rfl, hT, rfl, f1, f2⟩
      exact hs i x' y' T σ H (f1 xs qx) (f2 ys qy) p hT
  · obtain rfl : i = ys.length := by omega
    exact .inl ⟨⟨xs, ys, qx, qy, .inr hy⟩, hd σ H p⟩
def sp_are_levels (K : Frag) : Sp := fun vs H Q _ => ∃ (t : Addr) (as : List Addr) (W : List Lv), vs = [.ref t] ∧ H t = some (.tup (as.map V.ref)) ∧ as.length = W.length ∧ (∀ i c, as[i]? = some c → LvAt K H c (lv W i)) ∧ WOk W ∧ ∀ H', Same H H' → Q (.bl true) H'
def t_are_levels (K : Frag) (w : World) : TS :=
  (tSeq (tIfS (tOr (tNot (tTest (tChain oLe oLe (tC (.int 1)) (tCB rLenTH (tCons (tVar 0) tNil)) (tC (.int 5))))) (tNot (tB (tCB (rAll K) (tCons (tLc (iTup K (tVar 0)) (gName 1) tYes (tCB (rIsi K) (tCons (tVar 1) (tCons (tC (.ref (ga K "Level"))) tNil))) [1]) tNil))))) (tRet (tC (.bl false))) tNext)
  (tSeq (tIfS (tTest (tOp rNe (tFn (sp_Level_grain K) E0 (tCons (tOp rIxTH (tVar 0) (tC (.int 0))) tNil)) (tC (.int 1)))) (tRet (tC (.bl false))) tNext)
  (tSeq (tFor (RZ.iZipA K (tCons (tVar 0) (tCons (tSl (rSlT K) (tVar 0) (tPart (tC (.int 1))) tNoPart) tNil))) (gTup K 2 (gCons (gName 2) (gCons (gName 3) gNil)))
    (tIfS (tOr (tTest (tOp rNe (tOp oMod (tFn (sp_Level_grain K) E0 (tCons (tVar 3) tNil)) (tFn (sp_Level_grain K) E0 (tCons (tVar 2) tNil))) (tC (.int 0)))) (tTest (tOp oLe (tFn (sp_Level_span K) E0 (tCons (tVar 3) tNil)) (tFn (sp_Level_span K) E0 (tCons (tVar 2) tNil))))) (tRet (tC (.bl false))) tNext))
  (tRet (tC (.bl true))))))
def n_are_levels : List Str := ["levels", "level", "one", "other"]
theorem rd_are_levels (T : Kl K w) (vs : List V) (H : Hp) (Q : VK) (E : XK) (h : sp_are_levels K vs H Q E) : t_are_levels K w { nx := fun _ H' => Q .non H', rt := Q } (L2.start n_are_levels vs) H := by
  obtain ⟨t, as, W, rfl, ht, hl, hc, ok, q⟩ := h
  have hp := ok.pos
  have hl5 := ok.len
  have c1 := T.cL
  have a0 : ∃ c, as[0]? = some c := ⟨as[0]'(by omega), List.getElem?_eq_getElem (by omega)⟩
  obtain ⟨c0, hc0⟩ := a0
  have hat : atI (as.map V.ref) 0 = some (.ref c0) := atI_nat (j := 0) (by rw [List.getElem?_map, hc0]; rfl)
  have hcut : cutV (as.map V.ref) (some 1) none = (as.drop 1).map V.ref := by
    unfold cutV
    have e1 : HT.sIx (as.map V.ref).length 0 (some 1) = 1 := by
      rw [List.length_map]
      show min (1 : Int).toNat as.length = 1
      have : (1 : Int).toNat = 1 := rfl
      omega
    rw [e1]
    show List.take ((as.map V.ref).length - 1) _ = _
    rw [List.take_of_length_le (by simp), List.map_drop]
  unfold t_are_levels n_are_levels
  walk_at "rsu"
  rw [if_pos (by omega), if_neg (by omega)]
  refine ⟨_, rfl, t, rfl, ⟨_, SqT.of ht⟩, fun D hD => lc_tup (K := K) (a := t) (xs := as.map V.ref) (fun i H' => Same H H' ∧ H' D = some (.lst ((List.replicate i true).map V.bl)))
    ⟨Same.new hD, upd_same⟩ (fun i H' _ z => SqT.of (z.1 _ _ ht)) ?_ ?_⟩
  · rintro i x H1 hx ⟨s1, hD1⟩
    obtain ⟨c, hci, rfl⟩ : ∃ c, as[i]? = some c ∧ x = V.ref c := by
      rw [List.getElem?_map] at hx
      cases e : as[i]? with
      | none => rw [e] at hx; cases hx
      | some c => rw [e] at hx; exact ⟨c, rfl, (Option.some.inj hx).symm⟩
    obtain ⟨_, dx, hca⟩ := (hc i c hci).same s1
    have hi : i < as.length := (List.getElem?_eq_some_iff.mp hci).1
    refine ⟨rfl, ?_⟩
    simp only [tYes, if_true]
    refine ⟨_, rfl, .ref c, _, _, _, true, rfl, .own _, .base (.ins hca c1 T.iL.ca T.iL.cn T.iL.ct T.iL.cm), T.kL, _, hD1, ?_, ?_⟩
    · have : sizeLine = 16777216 := rfl
      simp
      omega
    · exact ⟨Same.updN s1 hD, by rw [upd_same, List.replicate_succ', List.map_append]; rfl⟩
  · rintro H1 ⟨s1, hD1⟩
    have ht1 := s1 _ _ ht
    have eL := @lv_ex K H1 c0 (lv W 0) ((hc 0 c0 hc0).same s1)
    have hf := ok.first
    refine ⟨D, _, rfl, SqL.of hD1, ?_⟩
    walk_at "rsu"
    rw [if_neg (by simp)]
    refine ⟨_, rfl, _, rfl, _, rfl, t, _, rfl, SqT.of ht1, ?_, fun p hp => ?_⟩
    · rintro ⟨z, _⟩
      have : (as.map V.ref).length = as.length := List.length_map ..
      revert z
      show min (1 : Int).toNat (as.map V.ref).length ≠ 0
      have : (1 : Int).toNat = 1 := rfl
      omega
    rw [hcut]
    have s2 : Same H1 (upd H1 p (.tup ((as.drop 1).map V.ref))) := Same.new hp
    refine ⟨_, _, _, _, rfl, .inr ⟨SqT.of (s2 _ _ ht1), SqT.of upd_same, for_zipN (K := K) (a := t) (b := p) (xs := as.map V.ref) (ys := (as.drop 1).map V.ref) (by simp)
      (fun i σ H' => ∃ v2 v3, σ = [some (.ref t), none, v2, v3] ∧ Same H H' ∧ H' p = some (.tup ((as.drop 1).map V.ref))) ⟨none, none, rfl, Same.trans s1 s2, upd_same⟩ (fun i σ H' ⟨_, _, _, z, z2⟩ => ⟨SqT.of (z _ _ ht), SqT.of z2⟩) ?_ ?_⟩⟩
    · rintro i x y Tq σ H2 hx hy ⟨v2, v3, rfl, s3, hp2⟩ hT
      obtain ⟨c, hci, rfl⟩ : ∃ c, as[i]? = some c ∧ x = V.ref c := by
        rw [List.getElem?_map] at hx
        cases e : as[i]? with
        | none => rw [e] at hx; cases hx
        | some c => rw [e] at hx; exact ⟨c, rfl, (Option.some.inj hx).symm⟩
      obtain ⟨d, hdi, rfl⟩ : ∃ c, as[i + 1]? = some c ∧ y = V.ref c := by
        rw [List.getElem?_map, List.getElem?_drop, Nat.add_comm] at hy
        cases e : as[i + 1]? with
        | none => rw [e] at hy; cases hy
        | some c => rw [e] at hy; exact ⟨c, rfl, (Option.some.inj hy).symm⟩
      have hi : i + 1 < as.length := (List.getElem?_eq_some_iff.mp hdi).1
      have s4 : Same H2 (upd H2 Tq (.tup [.ref c, .ref d])) := Same.new hT
      have e1 := @lv_ex K _ c (lv W i) (((hc i c hci).same s3).same s4)
      have e2 := @lv_ex K _ d (lv W (i + 1)) (((hc (i + 1) d hdi).same s3).same s4)
      have hdv := ok.dv i (by omega)
      have has := ok.asc i (by omega)
      have hall := ok.all i (by omega)
      have s5 := Same.trans s3 s4
      have hpT := s4 _ _ hp2
      refine ⟨_, _, rfl, SqT.of upd_same, rfl, _, _, rfl, _, _, rfl, rfl, ?_⟩
      walk_at "rsu"
      refine ⟨by omega, ?_⟩
      rw [if_neg (fun z => z (Int.emod_eq_zero_of_dvd hdv)), if_neg (by omega)]
      exact trivial
    · rintro σ H2 ⟨v2, v3, rfl, s3, hp2⟩
      exact q H2 s3
def sq_Wheel___init__ (K : Frag) : Sp := fun vs H Q _ => ∃ (x dx t : Addr) (as : List Addr) (W : List Lv), vs = [.ref x, .ref t] ∧ H x = some (.ins (ga K "Wheel") dx []) ∧ H t = some (.tup (as.map V.ref)) ∧ as.length = W.length ∧ (∀ i c, as[i]? = some c → LvAt K H c (lv W i)) ∧ WOk W ∧
  ∀ H', SameX x H H' → WhAt K H' x W → Q .non H'
def sp_Wheel___init__ (K : Frag) : Sp := fun vs H Q E => ∃ ws rest, vs = ws ++ rest ∧ ws.length = 1 ∧ rest.length ≤ sizeLine ∧ ∀ p, H p = none → sq_Wheel___init__ K (ws ++ [V.ref p]) (upd H p (.tup rest)) Q E
def t_Wheel___init__ (K : Frag) (w : World) : TS :=
  (tSeq (tIfS (tNot (tB (tFn (sp_are_levels K) E0 (tCons (tVar 1) tNil)))) tNever tNext)
  (sFld K (tVar 0) (tCB (oTupT K) (tCons (tVar 1) tNil)) "kept_levels"))
def n_Wheel___init__ : List Str := ["self", "levels"]
theorem rd_Wheel___init__ (T : Kl K w) (vs : List V) (H : Hp) (Q : VK) (E : XK) (h : sq_Wheel___init__ K vs H Q E) : t_Wheel___init__ K w { nx := fun _ H' => Q .non H', rt := Q } (L2.start n_Wheel___init__ vs) H := by
  obtain ⟨x, dx, t, as, W, rfl, hx, ht, hl, hc, ok, q⟩ := h
  refine ⟨_, rfl, t, as, W, rfl, ht, hl, hc, ok, fun H1 s1 => ⟨true, rfl, iteF ?_⟩⟩
  have hx1 := s1 _ _ hx
  have ht1 := s1 _ _ ht
  refine ⟨_, rfl, t, _, rfl, SqT.of ht1, _, rfl, x, _, dx, _, rfl, hx1, T.cW, T.nWl, by decide, ?_⟩
  have hxt : t ≠ x := fun e => by rw [e, hx] at ht; cases ht
  refine q _ (SameX.upd (Same.toX s1)) ⟨ok, dx, t, as, by rw [upd_same]; rfl, by rw [upd_ne hxt]; exact ht1, hl, fun i c hi => ?_⟩
  obtain ⟨ok1, dc, h1⟩ := (hc i c hi).same s1
  refine ⟨ok1, dc, ?_⟩
  rw [upd_ne (fun e => ?_)]
  · exact h1
  · rw [e, hx1] at h1
    have h2 := Option.some.inj h1
    injection h2 with _ _ h3
    unfold lfs at h3
    cases h3
/-- making a wheel of levels -/
theorem wh_make {H : Hp} {Q : VK} {as : List Addr} {W : List Lv} (hl : as.length = W.length) (hc : ∀ i c, as[i]? = some c → LvAt K H c (lv W i)) (ok : WOk W) (q : ∀ a H', Same H H' → WhAt K H' a W → Q (.ref a) H') (x dx : Addr) (hx : H x = none) (hd : H dx = none) (hn : dx ≠ x) :
    sp_Wheel___init__ K (.ref x :: as.map V.ref) (upd (upd H dx (.own x)) x (.ins (ga K "Wheel") dx [])) (fun v H2 => v = .non ∧ Q (.ref x) H2) E0 := by
  refine ⟨[.ref x], as.map V.ref, rfl, rfl, by have := ok.len; have : sizeLine = 16777216 := rfl; simp; omega, fun p hp => ?_⟩
  have n1 : p ≠ x := fun e => by rw [e, upd_same] at hp; cases hp
  have n2 : x ≠ p := fun e => n1 e.symm
  refine ⟨x, dx, p, as, W, rfl, by rw [upd_ne n2, upd_same], upd_same, hl, fun i c hi => ?_, ok, fun H' s z => ⟨rfl, q x H' ?_ z⟩⟩
  · obtain ⟨o, dc, h1⟩ := hc i c hi
    refine ⟨o, dc, ?_⟩
    have m1 : c ≠ x := ne_of_none h1 hx
    have m2 : c ≠ dx := ne_of_none h1 hd
    have h2 : upd (upd H dx (.own x)) x (.ins (ga K "Wheel") dx []) c = some (.ins (ga K "Level") dc (lfs (lv W i))) := by rw [upd_ne m1, upd_ne m2]; exact h1
    rw [upd_ne (ne_of_none h2 hp)]
    exact h2
  · refine SameX.made (o := .own x) (o' := .ins (ga K "Wheel") dx []) hx hd fun b o nb e => s b o nb ?_
    rw [upd_ne (ne_of_none e hp)]
    exact e
/-- making a level -/
theorem lv_make {H : Hp} {Q : VK} {l : Lv} {v : V} (hv : v = .int l.p ∨ v = .non ∧ l.p = l.s * l.g) (ok : LOk l) (h1 : 2 ≤ l.p) (h2 : l.p ≤ 4 * l.s * l.g) (q : ∀ a H', Same H H' → LvAt K H' a l → Q (.ref a) H') (x dx : Addr) (hx : H x = none) (hd : H dx = none) :
    sp_Level___init__ K [.ref x, .int l.g, .int l.s, v] (upd (upd H dx (.own x)) x (.ins (ga K "Level") dx [])) (fun v H2 => v = .non ∧ Q (.ref x) H2) E0 :=
  ⟨x, dx, l, v, rfl, hv, ok, h1, h2, upd_same, fun H' s z => ⟨rfl, q x H' (SameX.made hx hd s) z⟩⟩
end
end Tw
/-! Tw: the laws' own pool of draws -/
namespace Tw
open PySem PySem.Spec PyProof.Rows L2 He TwM
open PySem.W (Frag)
theorem ix5_0 : ixN 5 0 = some 0 := rfl
theorem ix5_1 : ixN 5 1 = some 1 := rfl
theorem ix5_2 : ixN 5 2 = some 2 := rfl
theorem ix5_3 : ixN 5 3 = some 3 := rfl
theorem ix5_4 : ixN 5 4 = some 4 := rfl
theorem at5_0 (a b c d e : V) : atI [a, b, c, d, e] 0 = some a := rfl
theorem at5_1 (a b c d e : V) : atI [a, b, c, d, e] 1 = some b := rfl
theorem at5_2 (a b c d e : V) : atI [a, b, c, d, e] 2 = some c := rfl
theorem at5_3 (a b c d e : V) : atI [a, b, c, d, e] 3 = some d := rfl
theorem at5_4 (a b c d e : V) : atI [a, b, c, d, e] 4 = some e := rfl
theorem upd_two (H : Hp) (a : Addr) (o u : HO) : upd (upd H a o) a u = upd H a u := by
  funext b
  unfold upd
  split <;> rfl
theorem updS (H : Hp) (a : Addr) (o : HO) : upd H a o a = some o := upd_same
theorem updN {H : Hp} {a b : Addr} {o : HO} (h : (b = a) = False) : upd H a o b = H b := upd_ne (fun e => by rw [h] at e; exact e)
local macro_rules | `(tactic| walk_at "rsv") => `(tactic| simp only [*, at3_0, at3_1, at3_2, at2_0, at2_1, ix5_0, ix5_1, ix5_2, ix5_3, ix5_4, at5_0, at5_1, at5_2, at5_3, at5_4, updS, upd_two, gSub, rSetL, updN, and_assoc, not_true_eq_false, not_false_eq_true, tNever, List.length_map, tFld, rIxTH, rIxLH, rLenTH, rLenLH, lk1, lfs_g, lfs_s, lfs_p, HO.ins.injEq, HO.tup.injEq, HO.lst.injEq, sp_Book_rounding, sp_Book_action, sp_Book_order, sp_Book_due, sp_Book_zero, sp_Book_beyond, Int.toNat_natCast, sp_visit_after, sp_is_visited, sp_Level_grain, sp_Level_slots, sp_Level_span, sp_Wheel_reach, sp_Wheel___len__, sp_is_integer, sp_is_count, sp_is_within, sp_rounded, tSeq, tAsg, gName, tVar, tC, tOp, rI, rI0, rU, tUn, oAdd, oSub, oMul, oDiv, oMod, oNeg, oLt, oLe, oGt, oGe, oIsN, oNotN, tFn, tCons, tNil, tIfS, tIf, tTest, tB, tNot, tAnd, tOr, tAndV, tOrV, tNotV,
    tRet, tRetN, tNext, tCB, tDrop, tChain, rEq, rNe, oMax2, oMin2, oInt1, rLenF, L2.start, List.map_cons, List.map_nil, List.length_cons, List.length_nil, List.replicate_succ, List.replicate_zero, List.cons_append, List.nil_append, Nat.reduceAdd, Nat.reduceSub, Nat.zero_add,
    List.set_cons_zero, List.set_cons_succ, List.getElem?_cons_zero, List.getElem?_cons_succ, Option.some.injEq, V.int.injEq, V.ref.injEq, V.str.injEq, V.bl.injEq, exists_eq_left', exists_eq_left, exists_and_left, List.cons.injEq, and_true, true_and, decide_eq_true_eq, sc_ii, sc_ss, sc_bb, sc_ni, sc_in, sc_nn, sc_is, reduceCtorEq,
    Bool.not_eq_true', decide_eq_false_iff_not, if_true, if_false, Bool.false_eq_true, exists_eq', exists_const, false_and, and_false, or_false, false_or, exists_false, Bool.not_not, Bool.not_true, Bool.not_false, sUp_up, sFire_fire, sHigh_high, sPut_put, sZone_now, sBey_refuse, sBey_cut, tTup, tLst, sz0, sz1, sz2, sz3, sz4, sz5, sz6])
section
variable {K : Frag} {w : World}
theorem Same.lst {H H' : Hp} {a : Addr} {xs : List V} (e : Same H H') (h : SqL K H a xs) : SqL K H' a xs := by
  rcases h with (h | ⟨o, h⟩) | h
  · exact .inl (.inl (e _ _ h))
  · exact .inl (.inr ⟨o, e _ _ h⟩)
  · exact .inr h
structure PoolAt (H : Hp) (p l : Addr) : Prop where
  ne : p ≠ l
  at_ : ∃ (cs : List Int) (i1 i2 i3 i4 : Int), H p = some (.lst [.ref l, .int i1, .int i2, .int i3, .int i4]) ∧ H l = some (.lst (cs.map V.int)) ∧ 0 ≤ i1
/-- all but the pool stays -/
def SameP (p l : Addr) (H H' : Hp) : Prop := ∀ b o, b ≠ p → b ≠ l → H b = some o → H' b = some o
theorem SameP.refl (p l : Addr) (H : Hp) : SameP p l H H := fun _ _ _ _ h => h
theorem SameP.trans {p l : Addr} {H H1 H2 : Hp} (h : SameP p l H H1) (s : SameP p l H1 H2) : SameP p l H H2 := fun b o n m e => s _ _ n m (h b o n m e)
theorem Same.toP {p l : Addr} {H H1 : Hp} (s : Same H H1) : SameP p l H H1 := fun b o _ _ e => s b o e
theorem SameP.updp {p l : Addr} {H H1 : Hp} {o : HO} (h : SameP p l H H1) : SameP p l H (upd H1 p o) := fun b u n m e => by
  rw [upd_ne n]; exact h b u n m e
theorem SameP.updl {p l : Addr} {H H1 : Hp} {o : HO} (h : SameP p l H H1) : SameP p l H (upd H1 l o) := fun b u n m e => by
  rw [upd_ne m]; exact h b u n m e
theorem PoolAt.same {p l : Addr} {H H1 : Hp} (h : PoolAt H p l) (s : Same H H1) : PoolAt H1 p l := by
  obtain ⟨n, cs, i1, i2, i3, i4, h1, h2, h3⟩ := h
  exact ⟨n, cs, i1, i2, i3, i4, s _ _ h1, s _ _ h2, h3⟩
theorem PoolAt.ins {p l : Addr} {H H1 : Hp} (h : PoolAt H p l) (s : SameP p l H H1) {a C dx : Addr} {fs : List (Str × V)} (e : H a = some (.ins C dx fs)) : H1 a = some (.ins C dx fs) := by
  obtain ⟨n, cs, i1, i2, i3, i4, h1, h2, h3⟩ := h
  exact s _ _ (fun z => by rw [z, h1] at e; cases e) (fun z => by rw [z, h2] at e; cases e) e
theorem PoolAt.tup {p l : Addr} {H H1 : Hp} (h : PoolAt H p l) (s : SameP p l H H1) {a : Addr} {xs : List V} (e : H a = some (.tup xs)) : H1 a = some (.tup xs) := by
  obtain ⟨n, cs, i1, i2, i3, i4, h1, h2, h3⟩ := h
  exact s _ _ (fun z => by rw [z, h1] at e; cases e) (fun z => by rw [z, h2] at e; cases e) e
theorem LvAt.sameP {p l : Addr} {H H1 : Hp} (h : PoolAt H p l) (s : SameP p l H H1) {a : Addr} {v : Lv} (e : LvAt K H a v) : LvAt K H1 a v := ⟨e.ok, e.at_.elim fun dx q => ⟨dx, h.ins s q⟩⟩
theorem WhAt.sameP {p l : Addr} {H H1 : Hp} (h : PoolAt H p l) (s : SameP p l H H1) {a : Addr} {W : List Lv} (e : WhAt K H a W) : WhAt K H1 a W := by
  obtain ⟨ok, dx, t, as, h1, h2, h3, h4⟩ := e
  exact ⟨ok, dx, t, as, h.ins s h1, h.tup s h2, h3, fun i c q => (h4 i c q).sameP h s⟩
theorem BkAt.sameP {p l : Addr} {H H1 : Hp} (h : PoolAt H p l) (s : SameP p l H H1) {a : Addr} {B : Bk} (e : BkAt K H a B) : BkAt K H1 a B := by
  obtain ⟨ok, dx, t, h1, h2⟩ := e
  exact ⟨ok, dx, t, h.ins s h1, h.tup s h2⟩
/-- what a draw promises -/
def Drawn (H : Hp) (p l : Addr) (many : Int) (Q : VK) : Prop := ∀ (v : Int) (H' : Hp), SameP p l H H' → PoolAt H' p l → 0 ≤ v → v < many → Q (.int v) H'
def sp__law_mixed (K : Frag) : Sp := fun vs H Q _ => ∃ (p l : Addr) (many : Int), vs = [.ref p, .int many] ∧ PoolAt H p l ∧ 0 < many ∧ many.natAbs.log2 < 1920 ∧ Drawn H p l many Q
def t__law_mixed (K : Frag) (w : World) : TS :=
  (tSeq (tAsg (tOp oAdd (tOp rIxLH (tVar 0) (tC (.int 2))) (tC (.int 1))) (gSub (tVar 0) (tC (.int 2)) rSetL))
  (tSeq (tAsg (tOp rIxLH (tVar 0) (tC (.int 3))) (gName 2))
  (tSeq (tFor (iRng1 (tCons (tOp oAdd (tC (.int 1)) (tOp oDiv (tCB oLenS (tCons (tCB oStrI (tCons (tVar 1) tNil)) tNil)) (tC (.int 9)))) tNil)) (gName 3)
    (tSeq (tAsg (tOp oMod (tOp oAdd (tOp oAdd (tOp oMul (tOp rIxLH (tVar 0) (tC (.int 3))) (tC (.int 48271))) (tOp oMul (tOp rIxLH (tVar 0) (tC (.int 2))) (tC (.int 12345)))) (tC (.int 89126))) (tC (.int 2147483647))) (gSub (tVar 0) (tC (.int 3)) rSetL))
  (tAsg (tOp oAdd (tOp oMul (tVar 2) (tC (.int 2147483647))) (tOp oDiv (tOp rIxLH (tVar 0) (tC (.int 3))) (tC (.int 7)))) (gName 2))))
  (tRet (tOp oMod (tVar 2) (tVar 1))))))
def n__law_mixed : List Str := ["_law_pool", "_law_many", "_law_found", "_law_turn"]
theorem rd__law_mixed (vs : List V) (H : Hp) (Q : VK) (E : XK) (h : sp__law_mixed K vs H Q E) : t__law_mixed K w { nx := fun _ H' => Q .non H', rt := Q } (L2.start n__law_mixed vs) H := by
  obtain ⟨p, l, many, rfl, ⟨hne, cs, i1, i2, i3, i4, h1, h2, h3⟩, hm, hlog, q⟩ := h
  have hlp : (l = p) = False := eq_false (fun e => hne e.symm)
  unfold t__law_mixed n__law_mixed
  walk_at "rsv"
  have hz := PySem.int_text_fits hlog
  have hz' : (Str.ofString (toString many)).length < 2 ^ 24 + 1 := Nat.lt_of_le_of_lt hz (by decide)
  have s1 : SameP p l H (upd H p (.lst [.ref l, .int i1, .int (i2 + 1), .int i3, .int i4])) := (SameP.refl p l H).updp
  refine ⟨_, rfl, _, rfl, hlog, _, rfl, hz, _, _, rfl, rfl, ⟨by decide, by decide⟩, _, _, rfl, rfl, _, rfl, by omega, by omega, for_range
    (fun i σ H' => ∃ (f : Int) (v3 : Option V) (j2 j3 : Int), σ = [some (.ref p), some (.int many), some (.int f), v3] ∧ SameP p l H H' ∧ H' p = some (.lst [.ref l, .int i1, .int j2, .int j3, .int i4]) ∧ H' l = some (.lst (cs.map V.int)))
    ⟨i3, none, _, i3, rfl, s1, updS _ _ _, by rw [updN hlp]; exact h2⟩ ?_ ?_⟩
  · rintro i σ H1 hi ⟨f, v3, j2, j3, rfl, s2, k1, k2⟩
    walk_at "rsv"
    exact ⟨.inr ⟨by decide, by decide⟩, .inr ⟨by decide, by decide⟩, by decide, .inr ⟨by decide, by decide⟩, ⟨by decide, by decide⟩, s2.updp⟩
  · rintro σ H1 ⟨f, v3, j2, j3, rfl, s2, k1, k2⟩
    exact ⟨_, rfl, _, rfl, _, _, rfl, rfl, hm, q _ _ s2 ⟨hne, cs, i1, j2, j3, i4, k1, k2, h3⟩ (Int.emod_nonneg _ (by omega)) (Int.emod_lt_of_pos _ hm)⟩
def sp__law_draw (K : Frag) : Sp := fun vs H Q _ => ∃ (p l : Addr) (many : Int), vs = [.ref p, .int many] ∧ PoolAt H p l ∧ 0 < many ∧ many.natAbs.log2 < 1920 ∧ Drawn H p l many Q
def t__law_draw (K : Frag) (w : World) : TS :=
  (tSeq (tIfS (tOr (tTest (tOp oGe (tOp rIxLH (tVar 0) (tC (.int 1))) (tCB rLenLH (tCons (tOp rIxLH (tVar 0) (tC (.int 0))) tNil)))) (tTest (tOp rEq (tVar 1) (tC (.int 1))))) (tRet (tIf (tTest (tOp oGt (tVar 1) (tC (.int 1)))) (tFn (sp__law_mixed K) E0 (tCons (tVar 0) (tCons (tVar 1) tNil))) (tC (.int 0)))) tNext)
  (tSeq (tIfS (tTest (tOp oLt (tOp rIxLH (tOp rIxLH (tVar 0) (tC (.int 0))) (tOp rIxLH (tVar 0) (tC (.int 1)))) (tOp oPow (tC (.int 10)) (tC (.int 18))))) (tSeq (tAsg (tOp oMod (tOp oAdd (tOp oAdd (tOp oAdd (tOp oMul (tOp rIxLH (tVar 0) (tC (.int 3))) (tC (.int 31))) (tOp rIxLH (tOp rIxLH (tVar 0) (tC (.int 0))) (tOp rIxLH (tVar 0) (tC (.int 1))))) (tOp rIxLH (tVar 0) (tC (.int 2)))) (tC (.int 1))) (tC (.int 2147483647))) (gSub (tVar 0) (tC (.int 3)) rSetL))
  (tSeq (tAsg (tOp oAdd (tOp rIxLH (tVar 0) (tC (.int 4))) (tC (.int 1))) (gSub (tVar 0) (tC (.int 4)) rSetL))
  (tSeq (tIfS (tTest (tOp rEq (tOp oMod (tOp rIxLH (tVar 0) (tC (.int 4))) (tC (.int 3))) (tC (.int 0)))) (tAsg (tOp oAdd (tOp rIxLH (tVar 0) (tC (.int 1))) (tC (.int 1))) (gSub (tVar 0) (tC (.int 1)) rSetL)) tNext)
  (tRet (tFn (sp__law_mixed K) E0 (tCons (tVar 0) (tCons (tVar 1) tNil))))))) tNext)
  (tSeq (tAsg (tOp oMod (tOp rIxLH (tOp rIxLH (tVar 0) (tC (.int 0))) (tOp rIxLH (tVar 0) (tC (.int 1)))) (tVar 1)) (gName 2))
  (tSeq (tAsg (tOp oDivW (tOp rIxLH (tOp rIxLH (tVar 0) (tC (.int 0))) (tOp rIxLH (tVar 0) (tC (.int 1)))) (tVar 1)) (gSub (tOp rIxLH (tVar 0) (tC (.int 0))) (tOp rIxLH (tVar 0) (tC (.int 1))) rSetL))
  (tSeq (tIfS (tTest (tOp rEq (tOp rIxLH (tOp rIxLH (tVar 0) (tC (.int 0))) (tOp rIxLH (tVar 0) (tC (.int 1)))) (tC (.int 0)))) (tAsg (tOp oAdd (tOp rIxLH (tVar 0) (tC (.int 1))) (tC (.int 1))) (gSub (tVar 0) (tC (.int 1)) rSetL)) tNext)
  (tRet (tVar 2)))))))
def n__law_draw : List Str := ["_law_pool", "_law_many", "_law_found"]
theorem rd__law_draw (vs : List V) (H : Hp) (Q : VK) (E : XK) (h : sp__law_draw K vs H Q E) : t__law_draw K w { nx := fun _ H' => Q .non H', rt := Q } (L2.start n__law_draw vs) H := by
  obtain ⟨p, l, many, rfl, ⟨hne, cs, i1, i2, i3, i4, h1, h2, h3⟩, hm, hlog, q⟩ := h
  have hlp : (l = p) = False := eq_false (fun e => hne e.symm)
  have hpl : (p = l) = False := eq_false hne
  have hmix : ∀ (H' : Hp), SameP p l H H' → PoolAt H' p l → sp__law_mixed K [.ref p, .int many] H' Q E0 := fun H' s z => ⟨p, l, many, rfl, z, hm, hlog, fun v H2 s2 z2 a b => q v H2 (s.trans s2) z2 a b⟩
  have hpow : (10 : Int) ^ (18 : Int).toNat = 1000000000000000000 := by decide
  have hcp : CPow 10 18 := ⟨by decide, by decide, by decide⟩
  have hq : q = q := rfl
  unfold t__law_draw n__law_draw
  by_cases hlen : (cs.length : Int) ≤ i1
  · by_cases hm1 : 1 < many
    · walk_at "rsv"
      exact hmix H (SameP.refl p l H) ⟨hne, cs, i1, i2, i3, i4, h1, h2, h3⟩
    · have e1 : many = 1 := by omega
      subst e1
      walk_at "rsv"
      exact q 0 H (SameP.refl p l H) ⟨hne, cs, i1, i2, i3, i4, h1, h2, h3⟩ (by decide) (by decide)
  · obtain ⟨j, rfl⟩ : ∃ j : Nat, i1 = (j : Int) := ⟨i1.toNat, by omega⟩
    have hj : j < cs.length := by omega
    obtain ⟨c, hc⟩ : ∃ c, cs[j]? = some c := ⟨cs[j], List.getElem?_eq_getElem hj⟩
    have hat : atI (cs.map V.int) (j : Int) = some (.int c) := atI_nat (by rw [List.getElem?_map, hc]; rfl)
    have hix : ixN cs.length (j : Int) = some j := by
      unfold ixN
      rw [if_pos (by omega), if_pos (by omega)]
      rfl
    have hset : ∀ y : Int, (cs.map V.int).set j (.int y) = (cs.set j y).map V.int := fun y => by rw [List.map_set]
    have hat2 : ∀ y : Int, atI (((cs.set j y)).map V.int) (j : Int) = some (.int y) := fun y => atI_nat (by rw [List.getElem?_map, List.getElem?_set_self hj]; rfl)
    walk_at "rsv"
    have s0 := SameP.refl p l H
    refine ite2 (fun e1 => ?_) fun e1 => ite2 (fun h4 => ?_) fun h4 => ?_
    · rw [if_neg (by omega)]
      exact q 0 H s0 ⟨hne, cs, _, i2, i3, i4, h1, h2, h3⟩ (by omega) (by omega)
    · refine ⟨.inr ⟨by decide, by decide⟩, by decide, by decide, ite2 (fun _ => ?_) fun _ => ?_⟩
      · exact hmix _ s0.updp ⟨hne, cs, _, _, _, _, updS _ _ _, by rw [updN hlp]; exact h2, by omega⟩
      · exact hmix _ s0.updp ⟨hne, cs, _, _, _, _, updS _ _ _, by rw [updN hlp]; exact h2, by omega⟩
    · have q0 := Int.emod_nonneg c (b := many) (by omega)
      have q1 := Int.emod_lt_of_pos c hm
      refine ⟨⟨hm, Nat.lt_trans hlog (by decide)⟩, ite2 (fun _ => ?_) fun _ => ?_⟩
      · exact q _ _ (SameP.updp s0.updl) ⟨hne, cs.set j (c / many), _, _, _, _, updS _ _ _, by rw [updN hlp]; exact updS _ _ _, by omega⟩ q0 q1
      · exact q _ _ s0.updl ⟨hne, cs.set j (c / many), _, _, _, _, by rw [updN hpl]; exact h1, updS _ _ _, by omega⟩ q0 q1
end
end Tw
/-! Tw: more of the laws' own defs -/
namespace Tw
open PySem PySem.Spec PyProof.Rows L2 He TwM
open PySem.W (Frag)
local macro_rules | `(tactic| walk_at "rsw") => `(tactic| simp only [*, at3_0, at3_1, at3_2, at2_0, at2_1, ix5_0, ix5_1, ix5_2, ix5_3, ix5_4, at5_0, at5_1, at5_2, at5_3, at5_4, updS, upd_two, gSub, rSetL, updN, and_assoc, not_true_eq_false, not_false_eq_true, tNever, List.length_map, tFld, rIxTH, rIxLH, rLenTH, rLenLH, lk1, lfs_g, lfs_s, lfs_p, HO.ins.injEq, HO.tup.injEq, HO.lst.injEq, sp_Book_rounding, sp_Book_action, sp_Book_order, sp_Book_due, sp_Book_zero, sp_Book_beyond, Int.toNat_natCast, sp_visit_after, sp_is_visited, sp_Level_grain, sp_Level_slots, sp_Level_span, sp_Wheel_reach, sp_Wheel___len__, sp_is_integer, sp_is_count, sp_is_within, sp_rounded, tSeq, tAsg, gName, tVar, tC, tOp, rI, rI0, rU, tUn, oAdd, oSub, oMul, oDiv, oMod, oNeg, oLt, oLe, oGt, oGe, oIsN, oNotN, tFn, tCons, tNil, tIfS, tIf, tTest, tB, tNot, tAnd, tOr, tAndV, tOrV, tNotV,
    tRet, tRetN, tNext, tCB, tDrop, tChain, rEq, rNe, oMax2, oMin2, oInt1, rLenF, L2.start, List.map_cons, List.map_nil, List.length_cons, List.length_nil, List.replicate_succ, List.replicate_zero, List.cons_append, List.nil_append, Nat.reduceAdd, Nat.reduceSub, Nat.zero_add,
    List.set_cons_zero, List.set_cons_succ, List.getElem?_cons_zero, List.getElem?_cons_succ, Option.some.injEq, V.int.injEq, V.ref.injEq, V.str.injEq, V.bl.injEq, exists_eq_left', exists_eq_left, exists_and_left, List.cons.injEq, and_true, true_and, decide_eq_true_eq, sc_ii, sc_ss, sc_bb, sc_ni, sc_in, sc_nn, sc_is, reduceCtorEq,
    Bool.not_eq_true', decide_eq_false_iff_not, if_true, if_false, Bool.false_eq_true, exists_eq', exists_const, false_and, and_false, or_false, false_or, exists_false, Bool.not_not, Bool.not_true, Bool.not_false, sUp_up, sFire_fire, sHigh_high, sPut_put, sZone_now, sBey_refuse, sBey_cut, tTup, tLst, sz0, sz1, sz2, sz3, sz4, sz5, sz6])
section
variable {K : Frag} {w : World}
def sp__law_begin (K : Frag) : Sp := fun vs H Q _ => ∃ (a : Addr) (ns : List Int), vs = [.ref a] ∧ SqL K H a (ns.map V.int) ∧ ns.length ≤ 63 ∧ ∀ p l H', PoolAt H' p l → Same H H' → Q (.ref p) H'
def t__law_begin (K : Frag) (w : World) : TS :=
  (tSeq (tAsg (tC (.int 7)) (gName 1))
  (tSeq (tFor (iList K (tSl (rSlL K) (tVar 0) tNoPart (tPart (tC (.int 40))))) (gName 2)
    (tAsg (tOp oMod (tOp oAdd (tOp oAdd (tOp oMul (tVar 1) (tC (.int 31))) (tOp oMod (tCB oInt1 (tCons (tVar 2) tNil)) (tC (.int 2147483647)))) (tC (.int 11))) (tC (.int 2147483647))) (gName 1)))
  (tRet (tLst (tCons (tLc (iList K (tVar 0)) (gName 2) tYes (tCB oAbs (tCons (tCB oInt1 (tCons (tVar 2) tNil)) tNil)) [2]) (tCons (tC (.int 0)) (tCons (tC (.int 0)) (tCons (tVar 1) (tCons (tC (.int 0)) tNil)))))))))
def n__law_begin : List Str := ["_law_script", "_law_seed", "_law_cell"]
theorem rd__law_begin (vs : List V) (H : Hp) (Q : VK) (E : XK) (h : sp__law_begin K vs H Q E) : t__law_begin K w { nx := fun _ H' => Q .non H', rt := Q } (L2.start n__law_begin vs) H := by
  obtain ⟨a, ns, rfl, ha, hl, q⟩ := h
  unfold t__law_begin n__law_begin
  walk_at "rsw"
  refine ⟨_, rfl, _, rfl, a, _, rfl, ha, fun p hp => ⟨p, rfl, ⟨_, SqL.of upd_same⟩, for_list (K := K) (a := p) (xs := cutV (ns.map V.int) none (some 40))
    (fun i σ H' => ∃ (s : Int) (v2 : Option V), σ = [some (.ref a), some (.int s), v2] ∧ Same (upd H p (.lst (cutV (ns.map V.int) none (some 40)))) H') ⟨_, none, rfl, Same.refl _⟩ (fun i σ H' _ ⟨_, _, _, z⟩ => SqL.of (z _ _ upd_same)) ?_ ?_⟩⟩
  · rintro i x σ H1 hx ⟨s, v2, rfl, s1⟩
    obtain ⟨c, rfl⟩ : ∃ c : Int, x = .int c := by
      have hm := List.mem_of_getElem? hx
      unfold cutV at hm
      obtain ⟨c, _, e⟩ := List.mem_map.mp (List.mem_of_mem_drop (List.mem_of_mem_take hm))
      exact ⟨c, e.symm⟩
    walk_at "rsw"
    exact ⟨.inr ⟨by decide, by decide⟩, by decide, by decide⟩
  · rintro σ H1 ⟨s, v2, rfl, s1⟩
    have s2 : Same H H1 := Same.trans (Same.new hp) s1
    refine ⟨_, rfl, a, rfl, ⟨_, Same.lst s2 ha⟩, fun D hD => lc_list (K := K) (a := a) (xs := ns.map V.int) (fun i H' => Same H1 H' ∧ H' D = some (.lst ((ns.take i).map fun n => V.int (if n < 0 then -n else n))))
      ⟨Same.new hD, by rw [upd_same]; rfl⟩ (fun i H' _ z => Same.lst z.1 (Same.lst s2 ha)) ?_ ?_⟩
    · rintro i x H2 hx ⟨s3, hD2⟩
      obtain ⟨c, hc, rfl⟩ : ∃ c, ns[i]? = some c ∧ x = V.int c := by
        rw [List.getElem?_map] at hx
        cases e : ns[i]? with
        | none => rw [e] at hx; cases hx
        | some c => rw [e] at hx; exact ⟨c, rfl, (Option.some.inj hx).symm⟩
      have hi : i < ns.length := (List.getElem?_eq_some_iff.mp hc).1
      refine ⟨rfl, ?_⟩
      simp only [tYes, if_true]
      refine ⟨_, rfl, .inl ⟨c, rfl, c, rfl, _, hD2, ?_, Same.updN s3 hD, ?_⟩⟩
      · have : sizeLine = 16777216 := rfl
        rw [List.length_map, List.length_take]
        omega
      · rw [updS, List.take_succ, hc, List.map_append]
        rfl
    · rintro H2 ⟨s3, hD2⟩
      refine ⟨_, rfl, (by show 5 ≤ sizeLine; decide), fun r hr => ?_⟩
      have hDr : D ≠ r := ne_of_none hD2 hr
      refine q r D _ ⟨fun e => hDr e.symm, ns.map fun n => if n < 0 then -n else n, 0, 0, s, 0, updS _ _ _, ?_, by decide⟩ ((s2.trans s3).trans (Same.new hr))
      rw [upd_ne hDr, hD2, List.length_map, List.take_length, List.map_map]
      rfl
/-- the pool's address stays apart from what is laid -/
theorem PoolAt.apart {p l r : Addr} {H : Hp} (h : PoolAt H p l) (hr : H r = none) : r ≠ p ∧ r ≠ l := by
  obtain ⟨n, cs, i1, i2, i3, i4, h1, h2, h3⟩ := h
  exact ⟨fun e => (ne_of_none h1 hr) e.symm, fun e => (ne_of_none h2 hr) e.symm⟩
theorem PoolAt.new {p l r : Addr} {H : Hp} {o : HO} (h : PoolAt H p l) (hr : H r = none) : PoolAt (upd H r o) p l := h.same (Same.new hr)
theorem SameP.step {p l : Addr} {H H1 H2 : Hp} (h : SameP p l H H1) (s : Same H1 H2) : SameP p l H H2 := fun b o n m e => s _ _ (h b o n m e)
/-- a draw at once -/
theorem draw {H : Hp} {p l : Addr} {many : Int} {Q : VK} (h : PoolAt H p l) (hm : 0 < many) (hl : many.natAbs.log2 < 1920) (q : Drawn H p l many Q) : sp__law_draw K [.ref p, .int many] H Q E0 := ⟨p, l, many, rfl, h, hm, hl, q⟩
theorem log_small {x : Int} (h0 : 0 ≤ x) (h : x < 2 ^ 100) : x.natAbs.log2 < 1920 := by
  by_cases hz : x.natAbs = 0
  · rw [hz]; decide
  · have h2 : x.natAbs < 2 ^ 100 := by omega
    exact Nat.lt_trans ((Nat.log2_lt hz).mpr h2) (by decide)
theorem atV {xs : List V} {i : Int} (h0 : 0 ≤ i) (h : i < xs.length) : ∃ v, xs[i.toNat]? = some v ∧ atI xs i = some v := by
  have hi : i.toNat < xs.length := by omega
  refine ⟨xs[i.toNat], List.getElem?_eq_getElem hi, ?_⟩
  have := atI_nat (xs := xs) (j := i.toNat) (List.getElem?_eq_getElem hi)
  rwa [Int.toNat_of_nonneg h0] at this
/-- an item of a list of ints -/
theorem atInts {xs : List Int} {i : Int} (h0 : 0 ≤ i) (h : i < xs.length) : ∃ v, v ∈ xs ∧ atI (xs.map V.int) i = some (.int v) := by
  obtain ⟨v, h1, h2⟩ := atV (xs := xs.map V.int) h0 (by rw [List.length_map]; exact h)
  rw [List.getElem?_map] at h1
  cases e : xs[i.toNat]? with
  | none => rw [e] at h1; cases h1
  | some c => rw [e] at h1; obtain rfl := Option.some.inj h1; exact ⟨c, List.mem_of_getElem? e, h2⟩
def sp__law_span (K : Frag) : Sp := fun vs H Q _ => ∃ (p l : Addr) (g s low : Int), vs = [.ref p, .int g, .int s, .int low] ∧ PoolAt H p l ∧ 1 ≤ g ∧ g ≤ 1000000 ∧ 1 ≤ s ∧ s ≤ 1000 ∧
  ∀ (x : Int) (H' : Hp), SameP p l H H' → PoolAt H' p l → 2 ≤ x → low < x → (low + 1 ≤ 4 * s * g → x ≤ 4 * s * g ∨ x = 2) → Q (.int x) H'
def t__law_span (K : Frag) (w : World) : TS :=
  (tSeq (tAsg (tOp oMul (tVar 2) (tVar 1)) (gName 4))
  (tSeq (tAsg (tLst (tCons (tVar 4) (tCons (tVar 4) (tCons (tOp oAdd (tVar 4) (tC (.int 1))) (tCons (tOp oSub (tVar 4) (tC (.int 1))) (tCons (tOp oAdd (tOp oSub (tVar 4) (tVar 1)) (tC (.int 2))) (tCons (tOp oAdd (tOp oSub (tVar 4) (tVar 1)) (tC (.int 1))) (tCons (tOp oAdd (tOp oSub (tVar 4) (tVar 1)) (tC (.int 3))) (tCons (tOp oMul (tC (.int 2)) (tVar 4)) (tCons (tOp oAdd (tVar 3) (tC (.int 1))) tNil)))))))))) (gName 5))
  (tSeq (tAsg (tOp rCat (tVar 5) (tLst (tCons (tOp oAdd (tVar 3) (tVar 1)) (tCons (tOp oAdd (tOp oAdd (tVar 3) (tC (.int 1))) (tFn (sp__law_draw K) E0 (tCons (tVar 0) (tCons (tOp oMul (tC (.int 3)) (tVar 4)) tNil)))) tNil)))) (gName 5))
  (tSeq (tAsg (tOp rIxLH (tVar 5) (tFn (sp__law_draw K) E0 (tCons (tVar 0) (tCons (tC (.int 11)) tNil)))) (gName 6))
  (tRet (tCB (rNuC3 nuMax3) (tCons (tCB oInt1 (tCons (tOp oAdd (tVar 3) (tC (.int 1))) tNil)) (tCons (tCB oInt1 (tCons (tCB oMin2 (tCons (tCB oInt1 (tCons (tOp oMul (tC (.int 4)) (tVar 4)) tNil)) (tCons (tCB oInt1 (tCons (tVar 6) tNil)) tNil))) tNil)) (tCons (tC (.int 2)) tNil)))))))))
def n__law_span : List Str := ["_law_pool", "_law_grain", "_law_slots", "_law_low", "_law_turn", "_law_some", "_law_found"]
theorem rd__law_span (vs : List V) (H : Hp) (Q : VK) (E : XK) (h : sp__law_span K vs H Q E) : t__law_span K w { nx := fun _ H' => Q .non H', rt := Q } (L2.start n__law_span vs) H := by
  obtain ⟨p, l, g, s, low, rfl, hp, g1, g2, s1, s2, q⟩ := h
  unfold t__law_span n__law_span
  have hsg : s * g ≤ 1000 * 1000000 := Int.mul_le_mul s2 g2 (by omega) (by omega)
  have hsg0 : 1 * 1 ≤ s * g := Int.mul_le_mul s1 g1 (by omega) (by omega)
  have e4 : 4 * s * g = 4 * (s * g) := Int.mul_assoc 4 s g
  rw [e4] at q
  walk_at "rsw"
  refine ⟨.inr ⟨by omega, by omega⟩, .inr ⟨by omega, by omega⟩, by decide, fun r hr => ⟨.inr ⟨by omega, by omega⟩, ?_⟩⟩
  have ap := hp.apart hr
  refine draw (hp.new hr) (by omega) (log_small (by omega) (by omega)) fun v H1 z1 hp1 hv0 hv1 => ⟨v, rfl, fun r2 hr2 => ?_⟩
  have hr1 := z1 r _ ap.1 ap.2 (updS _ _ _)
  have n12 : r ≠ r2 := ne_of_none hr1 hr2
  refine ⟨r, r2, _, _, rfl, rfl, by rw [upd_ne n12]; exact hr1, updS _ _ _, (by show 9 + 2 ≤ sizeLine; decide), fun r3 hr3 => ?_⟩
  have hp2 := hp1.new (o := .lst [.int (low + g), .int (low + 1 + v)]) hr2
  have ap3 := hp2.apart hr3
  refine draw (hp2.new hr3) (by decide) (by decide) fun i H2 z2 hp3 hi0 hi1 => ?_
  have hr4 := z2 r3 _ ap3.1 ap3.2 (updS _ _ _)
  obtain ⟨x, _, hx⟩ := atInts (xs := [s * g, s * g, s * g + 1, s * g - 1, s * g - g + 2, s * g - g + 1, s * g - g + 3, 2 * (s * g), low + 1, low + g, low + 1 + v]) hi0 hi1
  refine ⟨r3, rfl, _, i, rfl, hr4, .int x, hx, .inr ⟨by omega, by omega⟩, .inl ⟨x, rfl, ?_⟩⟩
  have hsp : SameP p l H H2 := ((SameP.step (SameP.trans ((SameP.refl p l H).step (Same.new hr)) z1) (Same.new hr2)).step (Same.new hr3)).trans z2
  generalize hm : (if x < 4 * (s * g) then x else 4 * (s * g)) = m
  have hm1 : m ≤ 4 * (s * g) := by rw [← hm]; split <;> omega
  by_cases ha : low + 1 < m
  · by_cases hb : m < 2
    · refine ⟨_, _, _, .int 2, rfl, ?_, q 2 H2 hsp hp3 (by omega) (by omega) (fun _ => .inr rfl)⟩
      simp [nuMax3, nuMax2, nuLt, nuCB, ha, hb]
    · refine ⟨_, _, _, .int m, rfl, ?_, q m H2 hsp hp3 (by omega) (by omega) (fun _ => .inl hm1)⟩
      simp [nuMax3, nuMax2, nuLt, nuCB, ha, hb]
  · by_cases hb : low + 1 < 2
    · refine ⟨_, _, _, .int 2, rfl, ?_, q 2 H2 hsp hp3 (by omega) (by omega) (fun _ => .inr rfl)⟩
      simp [nuMax3, nuMax2, nuLt, nuCB, ha, hb]
    · refine ⟨_, _, _, .int (low + 1), rfl, ?_, q (low + 1) H2 hsp hp3 (by omega) (by omega) (fun z => .inl z)⟩
      simp [nuMax3, nuMax2, nuLt, nuCB, ha, hb]
end
end Tw
/-! Tw: drawn books, rows and wheels -/
namespace Tw
open PySem PySem.Spec PyProof.Rows L2 He TwM StX
open PySem.W (Frag)
local macro_rules | `(tactic| walk_at "rsx2") => `(tactic| simp only [*, at3_0, at3_1, at3_2, at2_0, at2_1, updS, upd_two, gSub, rSetL, updN, and_assoc, not_true_eq_false, not_false_eq_true, tNever, List.length_map, tFld, rIxTH, rIxLH, rLenTH, rLenLH, lk1, lfs_g, lfs_s, lfs_p, HO.ins.injEq, HO.tup.injEq, HO.lst.injEq, sp_Book_rounding, sp_Book_action, sp_Book_order, sp_Book_due, sp_Book_zero, sp_Book_beyond, Int.toNat_natCast, sp_visit_after, sp_is_visited, sp_Level_grain, sp_Level_slots, sp_Level_span, sp_Wheel_reach, sp_Wheel___len__, sp_is_integer, sp_is_count, sp_is_within, sp_rounded, tSeq, tAsg, gName, tVar, tC, tOp, rI, rI0, rU, tUn, oAdd, oSub, oMul, oDiv, oMod, oNeg, oLt, oLe, oGt, oGe, oIsN, oNotN, tFn, tCons, tNil, tIfS, tIf, tTest, tB, tNot, tAnd, tOr, tAndV, tOrV, tNotV,
    tRet, tRetN, tNext, tCB, tDrop, tChain, rEq, rNe, oMax2, oMin2, oInt1, rLenF, L2.start, List.map_cons, List.map_nil, List.length_cons, List.length_nil, List.replicate_succ, List.replicate_zero, List.cons_append, List.nil_append, Nat.reduceAdd, Nat.reduceSub, Nat.zero_add,
    List.set_cons_zero, List.set_cons_succ, List.getElem?_cons_zero, List.getElem?_cons_succ, Option.some.injEq, V.int.injEq, V.ref.injEq, V.str.injEq, V.bl.injEq, exists_eq_left', exists_eq_left, exists_and_left, List.cons.injEq, and_true, true_and, decide_eq_true_eq, sc_ii, sc_ss, sc_bb, sc_ni, sc_in, sc_nn, sc_is, reduceCtorEq,
    Bool.not_eq_true', decide_eq_false_iff_not, if_true, if_false, Bool.false_eq_true, exists_eq', exists_const, false_and, and_false, or_false, false_or, exists_false, Bool.not_not, Bool.not_true, Bool.not_false, sUp_up, sFire_fire, sHigh_high, sPut_put, sZone_now, sBey_refuse, sBey_cut, tTup, tLst, sz0, sz1, sz2, sz3, sz4, sz5, sz6])
section
variable {K : Frag} {w : World}
theorem pkUp {i : Int} {x : V} (h0 : 0 ≤ i) (h : i < 2) (e : atI [V.str "down", V.str "up"] i = some x) : ∃ b, x = .str (sUp b) := by
  rcases (show i = 0 ∨ i = 1 by omega) with rfl | rfl
  · exact ⟨false, (Option.some.inj e).symm⟩
  · exact ⟨true, (Option.some.inj e).symm⟩
theorem pkFire {i : Int} {x : V} (h0 : 0 ≤ i) (h : i < 3) (e : atI [V.str "move", V.str "fire", V.str "move"] i = some x) : ∃ b, x = .str (sFire b) := by
  rcases (show i = 0 ∨ i = 1 ∨ i = 2 by omega) with rfl | rfl | rfl
  · exact ⟨false, (Option.some.inj e).symm⟩
  · exact ⟨true, (Option.some.inj e).symm⟩
  · exact ⟨false, (Option.some.inj e).symm⟩
theorem pkHigh {i : Int} {x : V} (h0 : 0 ≤ i) (h : i < 2) (e : atI [V.str "high", V.str "low"] i = some x) : ∃ b, x = .str (sHigh b) := by
  rcases (show i = 0 ∨ i = 1 by omega) with rfl | rfl
  · exact ⟨true, (Option.some.inj e).symm⟩
  · exact ⟨false, (Option.some.inj e).symm⟩
theorem pkPut {i : Int} {x : V} (h0 : 0 ≤ i) (h : i < 2) (e : atI [V.str "now", V.str "put"] i = some x) : ∃ b, x = .str (sPut b) := by
  rcases (show i = 0 ∨ i = 1 by omega) with rfl | rfl
  · exact ⟨false, (Option.some.inj e).symm⟩
  · exact ⟨true, (Option.some.inj e).symm⟩
theorem pkZone {i : Int} {x : V} (h0 : 0 ≤ i) (h : i < 2) (e : atI [V.str "now", V.str "one"] i = some x) : ∃ b, x = .str (sZone b) := by
  rcases (show i = 0 ∨ i = 1 by omega) with rfl | rfl
  · exact ⟨false, (Option.some.inj e).symm⟩
  · exact ⟨true, (Option.some.inj e).symm⟩
theorem pkBey {i : Int} {x : V} (h0 : 0 ≤ i) (h : i < 3) (e : atI [V.str "refuse", V.str "last", V.str "cut"] i = some x) : ∃ n, n < 3 ∧ x = .str (sBey n) := by
  rcases (show i = 0 ∨ i = 1 ∨ i = 2 by omega) with rfl | rfl | rfl
  · exact ⟨0, by decide, (Option.some.inj e).symm⟩
  · exact ⟨1, by decide, (Option.some.inj e).symm⟩
  · exact ⟨2, by decide, (Option.some.inj e).symm⟩
/-- an item of a new list at a drawn index -/
theorem drawAt {H : Hp} {p l r : Addr} {n : Int} {xs : List V} {Q : VK} (hp : PoolAt H p l) (hr : H r = none) (hn : 0 < n) (hl : n.natAbs.log2 < 1920) (hx : n = xs.length)
    (q : ∀ i x H', SameP p l H H' → PoolAt H' p l → H' r = some (.lst xs) → 0 ≤ i → i < n → atI xs i = some x → Q x H') :
    sp__law_draw K [.ref p, .int n] (upd H r (.lst xs)) (fun y H2 => ∃ ys i, y = .int i ∧ H2 r = some (.lst ys) ∧ ∃ x, atI ys i = some x ∧ Q x H2) E0 := by
  have ap := hp.apart hr
  refine draw (hp.new hr) hn hl fun i H2 s1 hp1 h0 h1 => ?_
  have e := s1 r _ ap.1 ap.2 (updS _ _ _)
  obtain ⟨x, _, hx'⟩ := atV (xs := xs) h0 (by omega)
  exact ⟨xs, i, rfl, e, x, hx', q i x H2 (SameP.trans ((SameP.refl p l H).step (Same.new hr)) s1) hp1 e h0 h1 hx'⟩
def sp__law_draw_values (K : Frag) : Sp := fun vs H Q _ => ∃ (p l : Addr), vs = [.ref p] ∧ PoolAt H p l ∧
  ∀ (r : Addr) (B : Bk) (H' : Hp), SameP p l H H' → PoolAt H' p l → H r = none → H' r = some (.lst ((bws B).map V.str)) → B.bey < 3 → Q (.ref r) H'
def t__law_draw_values (K : Frag) (w : World) : TS :=
  (tSeq (tAsg (tLst (tCons (tOp rIxLH (tLst (tCons (tC (.str "down")) (tCons (tC (.str "up")) tNil))) (tFn (sp__law_draw K) E0 (tCons (tVar 0) (tCons (tC (.int 2)) tNil)))) (tCons (tOp rIxLH (tLst (tCons (tC (.str "move")) (tCons (tC (.str "fire")) (tCons (tC (.str "move")) tNil)))) (tFn (sp__law_draw K) E0 (tCons (tVar 0) (tCons (tC (.int 3)) tNil)))) tNil))) (gName 1))
  (tSeq (tAsg (tOp rCat (tVar 1) (tLst (tCons (tOp rIxLH (tLst (tCons (tC (.str "high")) (tCons (tC (.str "low")) tNil))) (tFn (sp__law_draw K) E0 (tCons (tVar 0) (tCons (tC (.int 2)) tNil)))) (tCons (tOp rIxLH (tLst (tCons (tC (.str "now")) (tCons (tC (.str "put")) tNil))) (tFn (sp__law_draw K) E0 (tCons (tVar 0) (tCons (tC (.int 2)) tNil)))) tNil)))) (gName 1))
  (tRet (tOp rCat (tVar 1) (tLst (tCons (tOp rIxLH (tLst (tCons (tC (.str "now")) (tCons (tC (.str "one")) tNil))) (tFn (sp__law_draw K) E0 (tCons (tVar 0) (tCons (tC (.int 2)) tNil)))) (tCons (tOp rIxLH (tLst (tCons (tC (.str "refuse")) (tCons (tC (.str "last")) (tCons (tC (.str "cut")) tNil)))) (tFn (sp__law_draw K) E0 (tCons (tVar 0) (tCons (tC (.int 3)) tNil)))) tNil)))))))
def n__law_draw_values : List Str := ["_law_pool", "_law_found"]
theorem rd__law_draw_values (vs : List V) (H : Hp) (Q : VK) (E : XK) (h : sp__law_draw_values K vs H Q E) : t__law_draw_values K w { nx := fun _ H' => Q .non H', rt := Q } (L2.start n__law_draw_values vs) H := by
  obtain ⟨p, l, rfl, hp, q⟩ := h
  unfold t__law_draw_values n__law_draw_values
  walk_at "rsx2"
  intro r1 hr1
  refine drawAt hp hr1 (by decide) (by decide) rfl fun i1 x1 H1 s1 hp1 _ a1 b1 c1 => ?_
  intro r2 hr2
  refine drawAt hp1 hr2 (by decide) (by decide) rfl fun i2 x2 H2 s2 hp2 _ a2 b2 c2 => ?_
  intro r3 hr3
  have hp3 := hp2.new (o := .lst [x1, x2]) hr3
  have ap3 := hp2.apart hr3
  intro r4 hr4
  refine drawAt hp3 hr4 (by decide) (by decide) rfl fun i4 x4 H4 s4 hp4 _ a4 b4 c4 => ?_
  intro r5 hr5
  refine drawAt hp4 hr5 (by decide) (by decide) rfl fun i5 x5 H5 s5 hp5 _ a5 b5 c5 => ?_
  intro r6 hr6
  have k3 := (s4.trans s5) r3 _ ap3.1 ap3.2 (updS _ _ _)
  have n36 : r3 ≠ r6 := ne_of_none k3 hr6
  refine ⟨r3, r6, _, _, rfl, rfl, by rw [upd_ne n36]; exact k3, updS _ _ _, (by show 2 + 2 ≤ sizeLine; decide), fun r7 hr7 => ?_⟩
  have hp6 := hp5.new (o := .lst [x4, x5]) hr6
  have ap7 := hp6.apart hr7
  have hp7 := hp6.new (o := .lst ([x1, x2] ++ [x4, x5])) hr7
  dsimp only
  intro r8 hr8
  refine drawAt hp7 hr8 (by decide) (by decide) rfl fun i8 x8 H8 s8 hp8 _ a8 b8 c8 => ?_
  intro r9 hr9
  refine drawAt hp8 hr9 (by decide) (by decide) rfl fun i9 x9 H9 s9 hp9 _ a9 b9 c9 => ?_
  intro r10 hr10
  have k7 := (s8.trans s9) r7 _ ap7.1 ap7.2 (updS _ _ _)
  have n710 : r7 ≠ r10 := ne_of_none k7 hr10
  refine ⟨r7, r10, _, _, rfl, rfl, by rw [upd_ne n710]; exact k7, updS _ _ _, (by show 4 + 2 ≤ sizeLine; decide), fun r11 hr11 => ?_⟩
  have hp10 := hp9.new (o := .lst [x8, x9]) hr10
  have ap11 := hp10.apart hr11
  obtain ⟨u, rfl⟩ := pkUp a1 b1 c1
  obtain ⟨f, rfl⟩ := pkFire a2 b2 c2
  obtain ⟨g, rfl⟩ := pkHigh a4 b4 c4
  obtain ⟨pu, rfl⟩ := pkPut a5 b5 c5
  obtain ⟨z, rfl⟩ := pkZone a8 b8 c8
  obtain ⟨n, hn, rfl⟩ := pkBey a9 b9 c9
  have t10 := (((((((s1.trans s2).step (Same.new hr3)).trans (s4.trans s5)).step (Same.new hr6)).step (Same.new hr7)).trans (s8.trans s9)).step (Same.new (o := .lst [.str (sZone z), .str (sBey n)]) hr10))
  have tt := t10.step (Same.new (o := .lst ([.str (sUp u), .str (sFire f)] ++ [.str (sHigh g), .str (sPut pu)] ++ [.str (sZone z), .str (sBey n)])) hr11)
  refine q r11 ⟨u, f, g, pu, z, n⟩ _ tt (hp10.new hr11) ?_ (updS _ _ _) hn
  cases e : H r11 with
  | none => rfl
  | some o => exact absurd (t10 r11 o ap11.1 ap11.2 e) (by rw [hr11]; exact fun z => by cases z)
def lvR (l : Lv) : List V := [.int l.g, .int l.s, .int l.p]
structure RowsAt (H : Hp) (r : Addr) (W : List Lv) : Prop where
  at_ : ∃ ts : List Addr, H r = some (.lst (ts.map V.ref)) ∧ ts.length = W.length ∧ ∀ i t, ts[i]? = some t → H t = some (.tup (lvR (lv W i)))
structure ROk (W : List Lv) : Prop where
  ok : WOk W
  sp : ∀ i, i < W.length → (lv W i).p ≤ 4 * (lv W i).s * (lv W i).g
theorem ROk.lok {W : List Lv} (h : ROk W) {i : Nat} (hi : i < W.length) : LOk (lv W i) := by
  have := h.ok.all i hi
  exact ⟨by omega, by omega, by omega, by omega⟩
def sp__law_wheel_of (K : Frag) : Sp := fun vs H Q _ => ∃ (r : Addr) (as : List Addr) (W : List Lv), vs = [.ref r] ∧ H r = some (.lst (as.map V.ref)) ∧ as.length = W.length ∧ (∀ i c, as[i]? = some c → LvAt K H c (lv W i)) ∧ WOk W ∧
  ∀ a H', Same H H' → WhAt K H' a W → Q (.ref a) H'
def t__law_wheel_of (K : Frag) (w : World) : TS :=
  (tSeq (tIfS (tTest (tOp rEq (tCB rLenLH (tCons (tVar 0) tNil)) (tC (.int 1)))) (tRet (tMakeR (ga K "Wheel") (sp_Wheel___init__ K) E0 (tCons (tOp rIxLH (tVar 0) (tC (.int 0))) tNil))) tNext)
  (tSeq (tIfS (tTest (tOp rEq (tCB rLenLH (tCons (tVar 0) tNil)) (tC (.int 2)))) (tRet (tMakeR (ga K "Wheel") (sp_Wheel___init__ K) E0 (tCons (tOp rIxLH (tVar 0) (tC (.int 0))) (tCons (tOp rIxLH (tVar 0) (tC (.int 1))) tNil)))) tNext)
  (tSeq (tIfS (tTest (tOp rEq (tCB rLenLH (tCons (tVar 0) tNil)) (tC (.int 3)))) (tRet (tMakeR (ga K "Wheel") (sp_Wheel___init__ K) E0 (tCons (tOp rIxLH (tVar 0) (tC (.int 0))) (tCons (tOp rIxLH (tVar 0) (tC (.int 1))) (tCons (tOp rIxLH (tVar 0) (tC (.int 2))) tNil))))) tNext)
  (tSeq (tIfS (tTest (tOp rEq (tCB rLenLH (tCons (tVar 0) tNil)) (tC (.int 4)))) (tRet (tMakeR (ga K "Wheel") (sp_Wheel___init__ K) E0 (tCons (tOp rIxLH (tVar 0) (tC (.int 0))) (tCons (tOp rIxLH (tVar 0) (tC (.int 1))) (tCons (tOp rIxLH (tVar 0) (tC (.int 2))) (tCons (tOp rIxLH (tVar 0) (tC (.int 3))) tNil)))))) tNext)
  (tSeq (tIfS (tTest (tOp rEq (tCB rLenLH (tCons (tVar 0) tNil)) (tC (.int 5)))) (tRet (tMakeR (ga K "Wheel") (sp_Wheel___init__ K) E0 (tCons (tOp rIxLH (tVar 0) (tC (.int 0))) (tCons (tOp rIxLH (tVar 0) (tC (.int 1))) (tCons (tOp rIxLH (tVar 0) (tC (.int 2))) (tCons (tOp rIxLH (tVar 0) (tC (.int 3))) (tCons (tOp rIxLH (tVar 0) (tC (.int 4))) tNil))))))) tNext)
  (tRet (tIf (tTest (tOp oGt (tCB rLenLH (tCons (tVar 0) tNil)) (tC (.int 5)))) (tMakeR (ga K "Wheel") (sp_Wheel___init__ K) E0 (tCons (tOp rIxLH (tVar 0) (tC (.int 0))) (tCons (tOp rIxLH (tVar 0) (tC (.int 1))) (tCons (tOp rIxLH (tVar 0) (tC (.int 2))) (tCons (tOp rIxLH (tVar 0) (tC (.int 3))) (tCons (tOp rIxLH (tVar 0) (tC (.int 4))) (tCons (tOp rIxLH (tVar 0) (tC (.int 5))) tNil))))))) (tMakeR (ga K "Wheel") (sp_Wheel___init__ K) E0 tNil))))))))
def n__law_wheel_of : List Str := ["_law_some"]
theorem rd__law_wheel_of (vs : List V) (H : Hp) (Q : VK) (E : XK) (h : sp__law_wheel_of K vs H Q E) : t__law_wheel_of K w { nx := fun _ H' => Q .non H', rt := Q } (L2.start n__law_wheel_of vs) H := by
  obtain ⟨r, as, W, rfl, hr, hl, hc, ok, q⟩ := h
  have hm := wh_make (K := K) hl hc ok q
  have hp := ok.pos
  have hl5 := ok.len
  unfold t__law_wheel_of n__law_wheel_of tMakeR
  walk_at "rsx2"
  rcases as with _ | ⟨a1, _ | ⟨a2, _ | ⟨a3, _ | ⟨a4, _ | ⟨a5, _ | ⟨a6, as⟩⟩⟩⟩⟩⟩
  · have h : 0 = W.length := hl; omega
  · have h : 1 = W.length := hl
    rw [if_pos (by omega)]
    exact ⟨_, rfl, hm⟩
  · have h : 2 = W.length := hl
    rw [if_neg (by omega), if_pos (by omega)]
    exact ⟨_, rfl, _, rfl, hm⟩
  · have h : 3 = W.length := hl
    rw [if_neg (by omega), if_neg (by omega), if_pos (by omega)]
    exact ⟨_, rfl, _, rfl, _, rfl, hm⟩
  · have h : 4 = W.length := hl
    rw [if_neg (by omega), if_neg (by omega), if_neg (by omega), if_pos (by omega)]
    exact ⟨_, rfl, _, rfl, _, rfl, _, rfl, hm⟩
  · have h : 5 = W.length := hl
    rw [if_neg (by omega), if_neg (by omega), if_neg (by omega), if_neg (by omega), if_pos (by omega)]
    exact ⟨_, rfl, _, rfl, _, rfl, _, rfl, _, rfl, hm⟩
  · have h : as.length + 6 = W.length := hl; omega
def sp__law_made_wheel (K : Frag) : Sp := fun vs H Q _ => ∃ (r : Addr) (W : List Lv), vs = [.ref r] ∧ RowsAt H r W ∧ ROk W ∧ ∀ a H', Same H H' → WhAt K H' a W → Q (.ref a) H'
def t__law_made_wheel (K : Frag) (w : World) : TS :=
  (tRet (tFn (sp__law_wheel_of K) E0 (tCons (tLc (iList K (tVar 0)) (gTup K 3 (gCons (gName 1) (gCons (gName 2) (gCons (gName 3) gNil)))) tYes (tMakeK (ga K "Level") 2 1 (sp_Level___init__ K) gV_Level_span E0 (tCons (tVar 1) (tCons (tVar 2) tNil)) (tCons (tVar 3) tNil)) [1, 2, 3]) tNil)))
def n__law_made_wheel : List Str := ["_law_rows", "_law_grain", "_law_slots", "_law_size"]
theorem rd__law_made_wheel (vs : List V) (H : Hp) (Q : VK) (E : XK) (h : sp__law_made_wheel K vs H Q E) : t__law_made_wheel K w { nx := fun _ H' => Q .non H', rt := Q } (L2.start n__law_made_wheel vs) H := by
  obtain ⟨r, W, rfl, ⟨ts, hr, hl, ht⟩, ok, q⟩ := h
  have hl5 := ok.ok.len
  refine ⟨_, rfl, r, rfl, ⟨_, SqL.of hr⟩, fun D hD => lc_list (K := K) (a := r) (xs := ts.map V.ref)
    (fun i H' => Same H H' ∧ ∃ as : List Addr, as.length = i ∧ H' D = some (.lst (as.map V.ref)) ∧ ∀ j c, as[j]? = some c → LvAt K H' c (lv W j)) ⟨Same.new hD, [], rfl, upd_same, fun j c e => by simp at e⟩ (fun i H' _ z => SqL.of (z.1 _ _ hr)) ?_ ?_⟩
  · rintro i x H1 hx ⟨s1, as, ha, hD1, hc⟩
    obtain ⟨t, hti, rfl⟩ : ∃ c, ts[i]? = some c ∧ x = V.ref c := by
      rw [List.getElem?_map] at hx
      cases e : ts[i]? with
      | none => rw [e] at hx; cases hx
      | some c => rw [e] at hx; exact ⟨c, rfl, (Option.some.inj hx).symm⟩
    have hi : i < ts.length := (List.getElem?_eq_some_iff.mp hti).1
    have hall := ok.ok.all i (by omega)
    refine ⟨t, _, rfl, SqT.of (s1 _ _ (ht i t hti)), rfl, _, _, rfl, _, _, rfl, _, _, rfl, rfl, rfl, ?_⟩
    simp only [tYes, if_true]
    refine ⟨_, rfl, _, rfl, _, rfl, rfl, rfl, fun a dx hx hdx hne => ?_⟩
    refine ⟨a, dx, lv W i, _, rfl, .inl rfl, ok.lok (by omega), hall.2.2.2.2, ok.sp i (by omega), upd_same, fun H2 sx hL => ⟨rfl, ?_⟩⟩
    have s2 := SameX.made hx hdx sx
    refine ⟨as.map V.ref, s2 _ _ hD1, ?_, ?_⟩
    · have : sizeLine = 16777216 := rfl
      rw [List.length_map]
      omega
    have s3 : Same H (upd H2 D (.lst (as.map V.ref ++ [.ref a]))) := Same.updN (s1.trans s2) hD
    have hLu : ∀ {c : Addr} {l : Lv}, LvAt K H2 c l → LvAt K (upd H2 D (.lst (as.map V.ref ++ [.ref a]))) c l := fun {c l} h => by
      obtain ⟨o, d, e⟩ := h
      refine ⟨o, d, ?_⟩
      rw [upd_ne (fun z => by rw [z, s2 _ _ hD1] at e; cases e)]
      exact e
    refine ⟨s3, as ++ [a], by simp [ha], by rw [upd_same, List.map_append]; rfl, fun j c e => ?_⟩
    rw [List.getElem?_append] at e
    split at e
    · exact hLu ((hc j c e).same s2)
    · rename_i hj
      have hj' : j = i := by
        have := (List.getElem?_eq_some_iff.mp e).1
        simp at this
        omega
      subst hj'
      rw [ha, Nat.sub_self] at e
      obtain rfl := Option.some.inj e
      exact hLu hL
  · rintro H1 ⟨s1, as, ha, hD1, hc⟩
    exact ⟨D, as, W, rfl, hD1, by rw [ha, List.length_map, hl], hc, ok.ok, fun a H2 s2 hw => q a H2 (s1.trans s2) hw⟩
end
end Tw
/-! Tw: made books, levels of delays, drawn rows -/
namespace Tw
open PySem PySem.Spec PyProof.Rows L2 He TwM StX
open PySem.W (Frag)
local macro_rules | `(tactic| walk_at "rsy2") => `(tactic| simp only [*, at3_0, at3_1, at3_2, at2_0, at2_1, updS, upd_two, gSub, rSetL, updN, and_assoc, not_true_eq_false, not_false_eq_true, tNever, List.length_map, tFld, rIxTH, rIxLH, rLenTH, rLenLH, lk1, lfs_g, lfs_s, lfs_p, HO.ins.injEq, HO.tup.injEq, HO.lst.injEq, sp_Book_rounding, sp_Book_action, sp_Book_order, sp_Book_due, sp_Book_zero, sp_Book_beyond, Int.toNat_natCast, sp_visit_after, sp_is_visited, sp_Level_grain, sp_Level_slots, sp_Level_span, sp_Wheel_reach, sp_Wheel___len__, sp_is_integer, sp_is_count, sp_is_within, sp_rounded, tSeq, tAsg, gName, tVar, tC, tOp, rI, rI0, rU, tUn, oAdd, oSub, oMul, oDiv, oMod, oNeg, oLt, oLe, oGt, oGe, oIsN, oNotN, tFn, tCons, tNil, tIfS, tIf, tTest, tB, tNot, tAnd, tOr, tAndV, tOrV, tNotV,
    tRet, tRetN, tNext, tCB, tDrop, tChain, rEq, rNe, oMax2, oMin2, oInt1, rLenF, L2.start, List.map_cons, List.map_nil, List.length_cons, List.length_nil, List.replicate_succ, List.replicate_zero, List.cons_append, List.nil_append, Nat.reduceAdd, Nat.reduceSub, Nat.zero_add,
    List.set_cons_zero, List.set_cons_succ, List.getElem?_cons_zero, List.getElem?_cons_succ, Option.some.injEq, V.int.injEq, V.ref.injEq, V.str.injEq, V.bl.injEq, exists_eq_left', exists_eq_left, exists_and_left, List.cons.injEq, and_true, true_and, decide_eq_true_eq, sc_ii, sc_ss, sc_bb, sc_ni, sc_in, sc_nn, sc_is, reduceCtorEq,
    Bool.not_eq_true', decide_eq_false_iff_not, if_true, if_false, Bool.false_eq_true, exists_eq', exists_const, false_and, and_false, or_false, false_or, exists_false, Bool.not_not, Bool.not_true, Bool.not_false, sUp_up, sFire_fire, sHigh_high, sPut_put, sZone_now, sBey_refuse, sBey_cut, tTup, tLst, sz0, sz1, sz2, sz3, sz4, sz5, sz6])
section
variable {K : Frag} {w : World}
theorem bws_sum (B : Bk) : ((bws B).map (·.length)).sum + (bws B).length * (" " : Str).length ≤ 16777216 := by
  have key : ∀ (u f hi p z : Bool), ((bws ⟨u, f, hi, p, z, B.bey⟩).map (·.length)).sum ≤ 24 + (sBey B.bey).length := by
    intro u f hi p z
    have h1 : ∀ u, (sUp u).length ≤ 4 := by decide +kernel
    have h2 : ∀ u, (sFire u).length ≤ 4 := by decide +kernel
    have h3 : ∀ u, (sHigh u).length ≤ 4 := by decide +kernel
    have h4 : ∀ u, (sPut u).length ≤ 4 := by decide +kernel
    have h5 : ∀ u, (sZone u).length ≤ 4 := by decide +kernel
    have := h1 u
    have := h2 f
    have := h3 hi
    have := h4 p
    have := h5 z
    show (sUp u).length + ((sFire f).length + ((sHigh hi).length + ((sPut p).length + ((sZone z).length + ((sBey B.bey).length + 0))))) ≤ _
    omega
  have h6 : (sBey B.bey).length ≤ 6 := by
    match B.bey with
    | 0 => decide +kernel
    | 1 => decide +kernel
    | n + 2 => show ("cut" : Str).length ≤ 6; decide +kernel
  have h7 : (bws B).length = 6 := rfl
  have h8 : (" " : Str).length = 1 := by decide +kernel
  have h9 := key B.up B.fire B.high B.put B.zone
  have h10 : (⟨B.up, B.fire, B.high, B.put, B.zone, B.bey⟩ : Bk) = B := rfl
  rw [h10] at h9
  rw [h7, h8]
  omega
def sp__law_made_book (K : Frag) : Sp := fun vs H Q _ => ∃ (r : Addr) (B : Bk), vs = [.ref r] ∧ H r = some (.lst ((bws B).map V.str)) ∧ B.bey < 3 ∧ ∀ a H', Same H H' → BkAt K H' a B → Q (.ref a) H'
def t__law_made_book (K : Frag) (w : World) : TS :=
  (tRet (ClX.tCMeth (ga K "Book") (sp_Book_from_text K) E0 (tC (.ref (ga K "Book"))) (tCons (tM1 (oJoin K) (tC (.str " ")) (tVar 0)) tNil)))
def n__law_made_book : List Str := ["_law_values"]
theorem rd__law_made_book (vs : List V) (H : Hp) (Q : VK) (E : XK) (h : sp__law_made_book K vs H Q E) : t__law_made_book K w { nx := fun _ H' => Q .non H', rt := Q } (L2.start n__law_made_book vs) H := by
  obtain ⟨r, B, rfl, hr, hb, q⟩ := h
  exact ⟨rfl, ⟨_, rfl⟩, _, rfl, _, r, bws B, rfl, rfl, .inl (SqL.of hr), bws_sum B, B, rfl, hb, q⟩
def sp__law_belongs (K : Frag) : Sp := fun vs H Q _ => ∃ (r : Addr) (d : Int) (W : List Lv), vs = [.ref r, .int d] ∧ RowsAt H r W ∧ ∀ H', Same H H' → Q (optI (levelOf W d)) H'
def t__law_belongs (K : Frag) (w : World) : TS :=
  (tSeq (tFor (iEnum K (tCons (tVar 0) tNil)) (gTup K 2 (gCons (gName 2) (gCons (gName 3) gNil)))
    (tIfS (tTest (tOp oLt (tVar 1) (tOp rIxTH (tVar 3) (tC (.int 2))))) (tRet (tVar 2)) tNext))
  (tRet (tC .non)))
def n__law_belongs : List Str := ["_law_rows", "_law_delay", "_law_index", "_law_row"]
theorem rd__law_belongs (vs : List V) (H : Hp) (Q : VK) (E : XK) (h : sp__law_belongs K vs H Q E) : t__law_belongs K w { nx := fun _ H' => Q .non H', rt := Q } (L2.start n__law_belongs vs) H := by
  obtain ⟨r, d, W, rfl, ⟨ts, hr, hl, ht⟩, q⟩ := h
  unfold t__law_belongs n__law_belongs
  walk_at "rsy2"
  refine ⟨_, rfl, r, _, rfl, SqL.of hr, for_it (walk_enum (K := K) (a := r) (xs := ts.map V.ref))
    (fun i σ H' => ∃ v2 v3, σ = [some (.ref r), some (.int d), v2, v3] ∧ Same H H' ∧ ∀ j, j < i → (lv W j).p ≤ d) ⟨none, none, rfl, Same.refl H, fun j hj => by omega⟩ (fun i σ H' _ ⟨_, _, _, s, _⟩ => SqL.of (s _ _ hr)) ?_ ?_⟩
  · rintro i x σ H1 H2 hi ⟨v2, v3, rfl, s, hp⟩ ⟨Tq, x1, y1, rfl, hn, rfl, hx, hy⟩
    dsimp only at hx hy
    obtain rfl := Option.some.inj hx
    obtain ⟨t, hti, rfl⟩ : ∃ c, ts[i]? = some c ∧ y1 = V.ref c := by
      rw [List.getElem?_map] at hy
      cases e : ts[i]? with
      | none => rw [e] at hy; cases hy
      | some c => rw [e] at hy; exact ⟨c, rfl, (Option.some.inj hy).symm⟩
    have hit : i < W.length := by have := (List.getElem?_eq_some_iff.mp hti).1; omega
    have s' : Same H (upd H1 Tq (.tup [.int (i : Nat), .ref t])) := s.trans (Same.new hn)
    have ht' := s' _ _ (ht i t hti)
    refine ⟨Tq, _, rfl, SqT.of upd_same, rfl, _, _, rfl, _, _, rfl, rfl, ?_⟩
    unfold lvR at ht'
    walk_at "rsy2"
    refine ite2 (fun hlt => ?_) fun hge => ?_
    · have q' := q _ s'
      rw [levelOf_is hit hp hlt] at q'
      exact q'
    · refine fun j hj => ?_
      by_cases hji : j = i
      · subst hji; omega
      · exact hp j (by omega)
  · rintro σ H1 ⟨v2, v3, rfl, s, hp⟩
    have q' := q _ s
    rw [levelOf_isN fun j hj => hp j (by simpa [hl] using hj)] at q'
    exact q'
theorem lv_app_lt {W : List Lv} {l : Lv} {i : Nat} (h : i < W.length) : lv (W ++ [l]) i = lv W i := by
  unfold lv
  rw [List.getD_eq_getElem?_getD, List.getD_eq_getElem?_getD, List.getElem?_append_left h]
theorem lv_app_eq {W : List Lv} {l : Lv} : lv (W ++ [l]) W.length = l := by
  unfold lv
  rw [List.getD_eq_getElem?_getD, List.getElem?_append_right (Nat.le_refl _), Nat.sub_self]
  rfl
theorem ROk.snoc {W : List Lv} {g s x : Int} (h : W.length = 0 ∧ g = 1 ∨ ROk W ∧ (lv W (W.length - 1)).g ∣ g ∧ (lv W (W.length - 1)).p < x) (hl : W.length ≤ 4) (g1 : 1 ≤ g) (g2 : g ≤ 1000) (s1 : 2 ≤ s) (s2 : s ≤ 100) (x1 : 2 ≤ x) (x2 : x ≤ 4 * s * g) :
    ROk (W ++ [⟨g, s, x⟩]) := by
  have hlen : (W ++ [(⟨g, s, x⟩ : Lv)]).length = W.length + 1 := by simp
  have hpos : 0 < W.length → ROk W ∧ (lv W (W.length - 1)).g ∣ g ∧ (lv W (W.length - 1)).p < x := fun hp => h.elim (fun z => by omega) id
  refine ⟨⟨by omega, by omega, fun i hi => ?_, ?_, fun i hi => ?_, fun i hi => ?_⟩, fun i hi => ?_⟩
  · rcases Nat.lt_or_ge i W.length with hi' | hi'
    · rw [lv_app_lt hi']; exact (hpos (by omega)).1.ok.all i hi'
    · obtain rfl : i = W.length := by omega
      rw [lv_app_eq]; exact ⟨g1, g2, s1, s2, x1⟩
  · rcases Nat.eq_zero_or_pos W.length with h0 | h0
    · have : lv (W ++ [(⟨g, s, x⟩ : Lv)]) 0 = ⟨g, s, x⟩ := by rw [← h0]; exact lv_app_eq
      rw [this]
      exact h.elim (fun z => z.2) fun z => by have := z.1.ok.pos; omega
    · rw [lv_app_lt h0]; exact (hpos h0).1.ok.first
  · rw [hlen] at hi
    rw [lv_app_lt (by omega)]
    rcases Nat.lt_or_ge (i + 1) W.length with hi' | hi'
    · rw [lv_app_lt hi']; exact (hpos (by omega)).1.ok.dv i hi'
    · have e : i + 1 = W.length := by omega
      rw [e, lv_app_eq]
      have := (hpos (by omega)).2.1
      rwa [← e, Nat.add_sub_cancel] at this
  · rw [hlen] at hi
    rw [lv_app_lt (by omega)]
    rcases Nat.lt_or_ge (i + 1) W.length with hi' | hi'
    · rw [lv_app_lt hi']; exact (hpos (by omega)).1.ok.asc i hi'
    · have e : i + 1 = W.length := by omega
      rw [e, lv_app_eq]
      have := (hpos (by omega)).2.2
      rwa [← e, Nat.add_sub_cancel] at this
  · rcases Nat.lt_or_ge i W.length with hi' | hi'
    · rw [lv_app_lt hi']; exact (hpos (by omega)).1.sp i hi'
    · obtain rfl : i = W.length := by omega
      rw [lv_app_eq]; exact x2
/-- what stands after i turns -/
structure Grown (W : List Lv) (i : Nat) (g low : Int) : Prop where
  len : W.length = i
  z : i = 0 → g = 1 ∧ low = 1
  p : 0 < i → ROk W ∧ g = (lv W (i - 1)).g ∧ low = (lv W (i - 1)).p ∧ g ≤ 200
theorem RowsAt.sameP {p l r : Addr} {H H1 : Hp} {W : List Lv} (hp : PoolAt H p l) (e : RowsAt H r W) (s : SameP p l H H1) (h1 : r ≠ p) (h2 : r ≠ l) : RowsAt H1 r W := by
  obtain ⟨ts, a, b, c⟩ := e
  exact ⟨ts, s _ _ h1 h2 a, b, fun i t q => hp.tup s (c i t q)⟩
theorem RowsAt.same {r : Addr} {H H1 : Hp} {W : List Lv} (e : RowsAt H r W) (s : Same H H1) : RowsAt H1 r W := by
  obtain ⟨ts, a, b, c⟩ := e
  exact ⟨ts, s _ _ a, b, fun i t q => s _ _ (c i t q)⟩
theorem RowsAt.snoc {r t : Addr} {H : Hp} {W : List Lv} {l : Lv} {ts : List Addr} (a : H r = some (.lst (ts.map V.ref))) (b : ts.length = W.length) (c : ∀ i t, ts[i]? = some t → H t = some (.tup (lvR (lv W i)))) (ht : H t = some (.tup (lvR l))) :
    RowsAt (upd H r (.lst (ts.map V.ref ++ [.ref t]))) r (W ++ [l]) := by
  have hne : ∀ {q : Addr} {xs : List V}, H q = some (.tup xs) → q ≠ r := fun {q xs} h e => by rw [e, a] at h; cases h
  refine ⟨ts ++ [t], by rw [upd_same, List.map_append]; rfl, by simp [b], fun i q e => ?_⟩
  rw [List.getElem?_append] at e
  split at e
  · rename_i hi
    have h := c i q e
    rw [upd_ne (hne h), h, lv_app_lt (by omega)]
  · rename_i hi
    have hi' : i = ts.length := by
      have := (List.getElem?_eq_some_iff.mp e).1
      simp at this
      omega
    subst hi'
    rw [Nat.sub_self] at e
    obtain rfl := Option.some.inj e
    rw [upd_ne (hne ht), ht, b, lv_app_eq]
def sp__law_wide (K : Frag) : Sp := fun vs H Q _ => ∃ (p l : Addr), vs = [.ref p] ∧ PoolAt H p l ∧
  ∀ (r : Addr) (W : List Lv) (H' : Hp), SameP p l H H' → PoolAt H' p l → H r = none → RowsAt H' r W → ROk W → Q (.ref r) H'
def wideInv (p l r : Addr) (H : Hp) (i : Nat) (σ : L2.St) (H' : Hp) : Prop :=
  ∃ (W : List Lv) (g low : Int) (v4 v5 : Option V), σ = [some (.ref p), some (.ref r), some (.int g), some (.int low), v4, v5] ∧ SameP p l H H' ∧ PoolAt H' p l ∧ RowsAt H' r W ∧ Grown W i g low
theorem SameP.updf {p l r : Addr} {H H1 : Hp} {o : HO} (h : SameP p l H H1) (hr : H r = none) : SameP p l H (upd H1 r o) := fun b u n m e => by
  rw [upd_ne (ne_of_none e hr)]; exact h b u n m e
theorem PoolAt.updr {p l r : Addr} {H : Hp} {o : HO} (h : PoolAt H p l) (n : r ≠ p ∧ r ≠ l) : PoolAt (upd H r o) p l := by
  obtain ⟨n0, cs, i1, i2, i3, i4, h1, h2, h3⟩ := h
  exact ⟨n0, cs, i1, i2, i3, i4, by rw [upd_ne (fun e => n.1 e.symm)]; exact h1, by rw [upd_ne (fun e => n.2 e.symm)]; exact h2, h3⟩
theorem wide_rest {p l r : Addr} {H Hd : Hp} {Q : VK} {W : List Lv} {G low : Int} {i : Nat} (ap : r ≠ p ∧ r ≠ l) (hr : H r = none) (hpd : PoolAt Hd p l) (sc : SameP p l H Hd) (hrc : RowsAt Hd r W) (hWi : W.length = i) (hi : i ≤ 3) (hG1 : 1 * 1 ≤ G) (hG2 : G ≤ 200 * 60)
    (hGd : W.length = 0 ∧ G = 1 ∧ low = 1 ∨ ROk W ∧ (lv W (W.length - 1)).g ∣ G ∧ low = (lv W (W.length - 1)).p)
    (q : ∀ (r : Addr) (W : List Lv) (H' : Hp), SameP p l H H' → PoolAt H' p l → H r = none → RowsAt H' r W → ROk W → Q (.ref r) H') :
    sp__law_draw K [.ref p, .int 99] Hd (fun y H2 => ∃ x, y = .int x ∧ ∀ (p_1 : Addr), H2 p_1 = none →
      sp__law_draw K [.ref p, .int 3] (upd H2 p_1 (.lst [.int 2, .int 3, .int (2 + x)])) (fun y H2 => ∃ x x_1, y = .int x_1 ∧ H2 p_1 = some (.lst x) ∧ ∃ x_2, atI x x_1 = some x_2 ∧
        if 200 < G then Q (.ref r) H2
        else ∃ x, x_2 = V.int x ∧ CMul 4 x ∧ CMul (4 * x) G ∧
          if 4 * x * G < low + 1 then Q (V.ref r) H2
          else sp__law_span K [V.ref p, V.int G, x_2, V.int low] H2 (fun x H1 => tyV K "list" (V.ref r) H1 ∧ ∀ (p_2 : Addr), H1 p_2 = none →
            ∃ x_3, upd H1 p_2 (HO.tup [V.int G, x_2, x]) r = some (HO.lst x_3) ∧ x_3.length < sizeLine ∧
              wideInv p l r H (i + 1) [some (V.ref p), some (V.ref r), some (V.int G), some x, some (V.int (0 + ↑i)), some x_2] (upd (upd H1 p_2 (HO.tup [V.int G, x_2, x])) r (HO.lst (x_3 ++ [V.ref p_2])))) E0) E0) E0 := by
  refine draw (K := K) hpd (by decide) (by decide) fun j1 He s2 hpe c1 c2 => ⟨j1, rfl, fun r2 hr2 => ?_⟩
  refine drawAt hpe hr2 (by decide) (by decide) rfl fun j2 x2 Hf s3 hpf _ d1 d2 d3 => ?_
  obtain ⟨s, hs, hse⟩ := atInts (xs := [2, 3, 2 + j1]) d1 d2
  obtain rfl : x2 = .int s := by
    have : atI ([2, 3, 2 + j1].map V.int) j2 = some x2 := d3
    rw [hse] at this
    exact (Option.some.inj this).symm
  have hs1 : 2 ≤ s ∧ s ≤ 100 := by
    simp at hs
    omega
  have h8 : 4 * 2 * 1 ≤ 4 * s * G := Int.mul_le_mul (by omega) (by omega) (by omega) (by omega)
  have scf := (sc.trans s2).trans s3
  have hrf := RowsAt.sameP hpe (RowsAt.sameP hpd hrc s2 ap.1 ap.2) s3 ap.1 ap.2
  refine ite2 (fun e => ?_) fun e => ⟨s, rfl, .inr ⟨by omega, by omega⟩, .inr ⟨by omega, by omega⟩, ite2 (fun e2 => ?_) fun e2 => ?_⟩
  · exact q r W Hf scf hpf hr hrf (hGd.elim (fun z => by omega) fun z => z.1)
  · exact q r W Hf scf hpf hr hrf (hGd.elim (fun z => by omega) fun z => z.1)
  · refine ⟨p, l, G, s, low, rfl, hpf, by omega, by omega, by omega, by omega, fun x Hg s4 hpg x1 x2 x3 => ?_⟩
    have hrg := RowsAt.sameP hpf hrf s4 ap.1 ap.2
    obtain ⟨ts, ha, hb, hc⟩ := hrg
    refine ⟨.inl ⟨rfl, _, SqL.of ha⟩, fun t ht => ?_⟩
    have hrt : r ≠ t := ne_of_none ha ht
    have s5 : Same Hg (upd Hg t (.tup [.int G, .int s, .int x])) := Same.new ht
    refine ⟨ts.map V.ref, s5 _ _ ha, ?_, ?_⟩
    · have : sizeLine = 16777216 := rfl
      rw [List.length_map]
      omega
    · have hx : x ≤ 4 * s * G := by
        rcases x3 (by omega) with z | z <;> omega
      have hlow : low < x := x2
      have hW4 : W.length ≤ 4 := by omega
      refine ⟨W ++ [⟨G, s, x⟩], G, x, _, _, rfl, SameP.updf ((scf.trans s4).step s5) hr, (hpg.new ht).updr ap, RowsAt.snoc (s5 _ _ ha) hb (fun i t q => s5 _ _ (hc i t q)) (updS _ _ _), ⟨by simp [hWi], fun z => by omega, fun _ => ?_⟩⟩
      have e1 : lv (W ++ [(⟨G, s, x⟩ : Lv)]) (i + 1 - 1) = ⟨G, s, x⟩ := by rw [Nat.add_sub_cancel, ← hWi]; exact lv_app_eq
      rw [e1]
      refine ⟨ROk.snoc ?_ hW4 (by omega) (by omega) hs1.1 hs1.2 x1 hx, rfl, rfl, by omega⟩
      exact hGd.elim (fun z => .inl ⟨z.1, z.2.1⟩) fun z => .inr ⟨z.1, z.2.1, by have := z.2.2; omega⟩
def t__law_wide (K : Frag) (w : World) : TS :=
  (tSeq (tPar3 1 2 3 (tCons (tLst tNil) (tCons (tC (.int 1)) (tCons (tC (.int 1)) tNil))))
  (tSeq (tFor (iRng1 (tCons (tOp oAdd (tC (.int 1)) (tFn (sp__law_draw K) E0 (tCons (tVar 0) (tCons (tC (.int 4)) tNil)))) tNil)) (gName 4)
    (tSeq (tIfS (tTest (tOp oGt (tVar 4) (tC (.int 0)))) (tAsg (tOp oMul (tVar 2) (tOp rIxLH (tLst (tCons (tC (.int 1)) (tCons (tC (.int 2)) (tCons (tC (.int 3)) (tCons (tC (.int 10)) (tCons (tC (.int 24)) (tCons (tC (.int 60)) tNil))))))) (tFn (sp__law_draw K) E0 (tCons (tVar 0) (tCons (tC (.int 6)) tNil))))) (gName 2)) tNext)
  (tSeq (tAsg (tOp rIxLH (tLst (tCons (tC (.int 2)) (tCons (tC (.int 3)) (tCons (tOp oAdd (tC (.int 2)) (tFn (sp__law_draw K) E0 (tCons (tVar 0) (tCons (tC (.int 99)) tNil)))) tNil)))) (tFn (sp__law_draw K) E0 (tCons (tVar 0) (tCons (tC (.int 3)) tNil)))) (gName 5))
  (tSeq (tIfS (tOr (tTest (tOp oGt (tVar 2) (tC (.int 200)))) (tTest (tOp oGt (tOp oAdd (tVar 3) (tC (.int 1))) (tOp oMul (tOp oMul (tC (.int 4)) (tVar 5)) (tVar 2))))) (tRet (tVar 1)) tNext)
  (tSeq (tAsg (tFn (sp__law_span K) E0 (tCons (tVar 0) (tCons (tVar 2) (tCons (tVar 5) (tCons (tVar 3) tNil))))) (gName 3))
  (tDrop (tBM K "list" rAppend (tVar 1) (tCons (tTup (tCons (tVar 2) (tCons (tVar 5) (tCons (tVar 3) tNil)))) tNil))))))))
  (tRet (tVar 1))))
def n__law_wide : List Str := ["_law_pool", "_law_rows", "_law_grain", "_law_low", "_law_k", "_law_slots"]
theorem rd__law_wide (vs : List V) (H : Hp) (Q : VK) (E : XK) (h : sp__law_wide K vs H Q E) : t__law_wide K w { nx := fun _ H' => Q .non H', rt := Q } (L2.start n__law_wide vs) H := by
  obtain ⟨p, l, rfl, hp, q⟩ := h
  unfold t__law_wide n__law_wide tPar3 tBM rAppend
  walk_at "rsy2"
  intro r hr
  have ap := hp.apart hr
  have hp0 := hp.new (o := .lst []) hr
  refine ⟨_, rfl, draw (K := K) hp0 (by decide) (by decide) fun n0 H0 s0 hp1 n1 n2 => ⟨_, _, rfl, rfl, _, rfl, by omega, by omega, for_range
    (wideInv p l r H)
    ⟨[], 1, 1, none, none, rfl, ((SameP.refl p l H).step (Same.new hr)).trans s0, hp1, ⟨[], s0 _ _ ap.1 ap.2 (updS _ _ _), rfl, fun i t e => by simp at e⟩, ⟨rfl, fun _ => ⟨rfl, rfl⟩, fun z => by omega⟩⟩ ?_ ?_⟩⟩
  · rintro i σ Hc hi ⟨W, g, low, v4, v5, rfl, sc, hpc, hrc, hG⟩
    have hWi := hG.len
    walk_at "rsy2"
    refine ite2 (fun h0 => ?_) fun h0 => ?_
    · obtain ⟨hRk, hg, hlow, hg2⟩ := hG.p (by omega)
      have hall := hRk.ok.all (i - 1) (by omega)
      intro r1 hr1
      refine drawAt hpc hr1 (by decide) (by decide) rfl fun i1 x1 Hd s1 hpd _ a1 b1 c1 => ?_
      have apc := hpc.apart hr1
      obtain ⟨f, hf, hfe⟩ := atInts (xs := [1, 2, 3, 10, 24, 60]) a1 b1
      obtain rfl : x1 = .int f := by
        have : atI ([1, 2, 3, 10, 24, 60].map V.int) i1 = some x1 := c1
        rw [hfe] at this
        exact (Option.some.inj this).symm
      have hf1 : 1 ≤ f ∧ f ≤ 60 := by
        simp at hf
        omega
      have hG1 : 1 * 1 ≤ g * f := Int.mul_le_mul (by omega) hf1.1 (by omega) (by omega)
      have hG2 : g * f ≤ 200 * 60 := Int.mul_le_mul hg2 hf1.2 (by omega) (by omega)
      have hGd : W.length = 0 ∧ g * f = 1 ∧ low = 1 ∨ ROk W ∧ (lv W (W.length - 1)).g ∣ g * f ∧ low = (lv W (W.length - 1)).p := .inr ⟨hRk, by rw [hWi, ← hg]; exact Int.dvd_mul_right _ _, by rw [hWi]; exact hlow⟩
      have sc := sc.trans s1
      have hrc := RowsAt.sameP hpc hrc s1 ap.1 ap.2
      refine ⟨f, rfl, .inr ⟨by omega, by omega⟩, ?_⟩
      generalize g * f = G at hG1 hG2 hGd ⊢
      exact wide_rest ap hr hpd sc hrc hWi (by omega) hG1 hG2 hGd q
    · obtain ⟨hg1, hlow1⟩ := hG.z (by omega)
      exact wide_rest ap hr hpc sc hrc hWi (by omega) (by omega) (by omega) (.inl ⟨by omega, hg1, hlow1⟩) q
  · rintro σ H1 ⟨W, g, low, v4, v5, rfl, sc, hpc, hrc, hG⟩
    exact ⟨_, rfl, q r W H1 sc hpc hr hrc (hG.p (by omega)).1⟩
end
end Tw
/-! Tw: whole starts later by grains -/
namespace Tw
open TwM
theorem levelIx_lt {W : List Lv} (ok : WOk W) (d : Int) : TwM.levelIx W d < W.length := by
  have hp := ok.pos
  unfold TwM.levelIx
  cases h : levelOf W d with
  | none => show W.length - 1 < W.length; omega
  | some i => exact (levelOf_lt h).1
theorem levelIx_mono {W : List Lv} (ok : WOk W) {d d' : Int} (h : d ≤ d') : TwM.levelIx W d ≤ TwM.levelIx W d' := by
  have h1 := levelIx_lt ok d
  unfold TwM.levelIx at h1 ⊢
  cases e' : levelOf W d' with
  | none => rw [show (none : Option Nat).getD (W.length - 1) = W.length - 1 from rfl]; omega
  | some i =>
    obtain ⟨a1, a2⟩ := levelOf_lt e'
    cases e : levelOf W d with
    | none => have := levelOf_none e i a1; omega
    | some j =>
      show j ≤ i
      rcases Nat.lt_or_ge i j with hj | hj
      · have := levelOf_ge e i hj; omega
      · exact hj
theorem spotAt_lv (W : List Lv) (B : Bk) (now rest due : Int) : (spotAt W B now rest due).lv = TwM.levelIx W rest := by
  unfold spotAt TwM.levelIx
  split <;> rename_i h <;> rw [h] <;> rfl
/-- the grains up to the level k divide D -/
def Dv (W : List Lv) (k : Nat) (D : Int) : Prop := ∀ j, j ≤ k → (lv W j).g ∣ D
def sh (W : List Lv) (D : Int) (sp : Spot) : Spot := ⟨sp.lv, sp.pt + D / (lv W sp.lv).g, sp.due + D⟩
theorem rnd_shift {up : Bool} {t g m : Int} (hg : 0 < g) : rnd up (t + g * m) g = rnd up t g + m := by
  unfold rnd
  split
  · rw [show -(t + g * m) = -t + g * (-m) by rw [Int.mul_neg]; omega, Int.add_mul_ediv_left _ _ (by omega)]; omega
  · rw [Int.add_mul_ediv_left _ _ (by omega)]
theorem rnd_shiftD {up : Bool} {t g D : Int} (hg : 0 < g) (hd : g ∣ D) : rnd up (t + D) g = rnd up t g + D / g := by
  obtain ⟨m, rfl⟩ := hd
  rw [rnd_shift hg, Int.mul_ediv_cancel_left _ (by omega)]
theorem div_shift {t g D : Int} (hg : 0 < g) (hd : g ∣ D) : (t + D) / g = t / g + D / g := by
  obtain ⟨m, rfl⟩ := hd
  rw [Int.add_mul_ediv_left _ _ (by omega), Int.mul_ediv_cancel_left _ (by omega)]
theorem va_shift {l : Lv} {pt now D : Int} (hg : 0 < l.g) (hd : l.g ∣ D) : va l (pt + D / l.g) (now + D) = va l pt now + D := by
  unfold va
  rw [div_shift hg hd]
  have e : pt + D / l.g - (now / l.g + D / l.g) - 1 = pt - now / l.g - 1 := by omega
  rw [e]
  have e2 : now / l.g + D / l.g + 1 + (pt - now / l.g - 1) % l.s = (now / l.g + 1 + (pt - now / l.g - 1) % l.s) + D / l.g := by omega
  rw [e2, Int.add_mul, Int.ediv_mul_cancel hd]
theorem isVis_shift {l : Lv} {pt b now D : Int} (hg : 0 < l.g) (hd : l.g ∣ D) : isVis l (pt + D / l.g) (b + D) (now + D) = isVis l pt b now := by
  unfold isVis
  rw [div_shift hg hd, div_shift hg hd]
  have e : pt + D / l.g - (b / l.g + D / l.g) - 1 = pt - b / l.g - 1 := by omega
  have e2 : now / l.g + D / l.g - (b / l.g + D / l.g) = now / l.g - b / l.g := by omega
  rw [e, e2]
section
variable {W : List Lv} {B : Bk} {k : Nat} {D : Int}
theorem spotAt_shift (ok : WOk W) (hD : Dv W k D) {now rest due : Int} (hr : TwM.levelIx W rest ≤ k) : spotAt W B (now + D) rest (due + D) = sh W D (spotAt W B now rest due) := by
  have hp := ok.pos
  unfold TwM.levelIx at hr
  unfold spotAt sh
  cases e : levelOf W rest with
  | none =>
    rw [e] at hr
    have hr' : W.length - 1 ≤ k := hr
    have hg := (ok.all (W.length - 1) (by omega)).1
    dsimp only
    rw [show now + D + reach W - 1 = (now + reach W - 1) + D by omega, rnd_shiftD (by omega) (hD _ hr')]
  | some i =>
    rw [e] at hr
    have hr' : i ≤ k := hr
    have hg := (ok.all i (levelOf_lt e).1).1
    dsimp only
    rw [show now + D + rest = (now + rest) + D by omega, rnd_shiftD (by omega) (hD _ hr')]
theorem taken_shift (ok : WOk W) (hD : Dv W k D) {sp : Spot} {tick : Int} (hr : TwM.levelIx W (sp.due - tick) ≤ k) : taken W B (sh W D sp) (tick + D) = (taken W B sp tick).map (sh W D) := by
  unfold taken
  have e1 : (sh W D sp).lv = sp.lv := rfl
  have e2 : (sh W D sp).due = sp.due + D := rfl
  rw [e1, e2]
  split
  · rfl
  · by_cases h : tick < sp.due
    · rw [if_pos (by omega), if_pos h, show sp.due + D - (tick + D) = sp.due - tick by omega, spotAt_shift ok hD hr]
      rfl
    · rw [if_neg (by omega), if_neg h]
      split
      · show some _ = some _
        unfold sh
        dsimp only
        rw [ok.first, Int.ediv_one]
      · rfl
theorem visGo_shift (ok : WOk W) (hD : Dv W k D) {before now : Int} : ∀ (is : List Nat) {sp : Spot}, sp.lv ≤ k → sp.lv < W.length → TwM.levelIx W (sp.due - now) ≤ k → visGo W B (before + D) (now + D) is (sh W D sp) = (visGo W B before now is sp).map (Option.map (sh W D))
  | [], sp, _, _, _ => rfl
  | i :: is, sp, hk, hl, hr => by
    have hg := (ok.all sp.lv hl).1
    unfold visGo
    have e1 : (sh W D sp).lv = sp.lv := rfl
    have e3 : (sh W D sp).pt = sp.pt + D / (lv W sp.lv).g := rfl
    rw [e1, e3]
    by_cases hc : sp.lv = i ∧ isVis (lv W i) sp.pt before now = true
    · have hc' : sp.lv = i ∧ isVis (lv W i) (sp.pt + D / (lv W sp.lv).g) (before + D) (now + D) = true := ⟨hc.1, by rw [← hc.1, isVis_shift (by omega) (hD _ hk), hc.1]; exact hc.2⟩
      rw [if_pos hc, if_pos hc', taken_shift ok hD hr]
      cases e : taken W B sp now with
      | none => rfl
      | some s' =>
        obtain ⟨a1, a2, a3, a4, a5⟩ := taken_some ok e
        have hk' : s'.lv ≤ k := by
          rcases a5 with ⟨b1, b2⟩ | ⟨b1, b2, b3⟩
          · rw [b2, spotAt_lv]; exact hr
          · rw [b3]; exact Nat.zero_le _
        have ih := visGo_shift ok hD (before := before) (now := now) is (sp := s') hk' a1 (by rw [a2]; exact hr)
        show some (sh W D s') :: visGo W B (before + D) (now + D) is (sh W D s') = _
        rw [ih]
        rfl
    · have hc' : ¬ (sp.lv = i ∧ isVis (lv W i) (sp.pt + D / (lv W sp.lv).g) (before + D) (now + D) = true) := fun z => hc ⟨z.1, by
        have := z.2
        rw [← z.1, isVis_shift (by omega) (hD _ hk), z.1] at this
        exact this⟩
      rw [if_neg hc, if_neg hc']
      exact visGo_shift ok hD is hk hl hr
theorem visited_shift (ok : WOk W) (hD : Dv W k D) {before now : Int} {sp : Spot} (hk : sp.lv ≤ k) (hl : sp.lv < W.length) (hr : TwM.levelIx W (sp.due - now) ≤ k) : visited W B (sh W D sp) (before + D) (now + D) = (visited W B sp before now).map (Option.map (sh W D)) :=
  visGo_shift ok hD _ hk hl hr
theorem skipped_shift (ok : WOk W) (hD : Dv W k D) {tick : Int} {sp : Spot} (hk : sp.lv ≤ k) (hl : sp.lv < W.length) : skipped W (sh W D sp) (tick + D) none = skipped W sp tick none := by
  have hg := (ok.all sp.lv hl).1
  have e1 : (sh W D sp).lv = sp.lv := rfl
  have e2 : (sh W D sp).due = sp.due + D := rfl
  have e3 : (sh W D sp).pt = sp.pt + D / (lv W sp.lv).g := rfl
  unfold skipped
  rw [e1, e2, e3, va_shift (by omega) (hD _ hk), show sp.due + D - (tick + D) = sp.due - tick by omega, show va (lv W sp.lv) sp.pt tick + D - (tick + D) = va (lv W sp.lv) sp.pt tick - tick by omega]
def shR (W : List Lv) (D : Int) (r : Res) : Res := (r.1.map (sh W D), r.2.1 + D, r.2.2)
theorem fol_shift (ok : WOk W) (hD : Dv W k D) : ∀ (n : Nat) {sp : Spot} {tick mv : Int}, sp.lv ≤ k → sp.lv < W.length → TwM.levelIx W (sp.due - tick) ≤ k → fol W B none n (sh W D sp) (tick + D) mv = (fol W B none n sp tick mv).map (shR W D)
  | 0, sp, tick, mv, _, _, _ => rfl
  | n + 1, sp, tick, mv, hk, hl, hr => by
    have hall := ok.all sp.lv hl
    have hgt := va_gt (l := lv W sp.lv) (by omega) (by omega) sp.pt tick
    have e1 : (sh W D sp).lv = sp.lv := rfl
    have e3 : (sh W D sp).pt = sp.pt + D / (lv W sp.lv).g := rfl
    unfold fol
    rw [e1, e3, va_shift (by omega) (hD _ hk)]
    generalize ht : va (lv W sp.lv) sp.pt tick = t at hgt ⊢
    have hr' : TwM.levelIx W (sp.due - t) ≤ k := Nat.le_trans (levelIx_mono ok (by omega)) hr
    dsimp only
    rw [show over none (t + D) = false from rfl, show over none t = false from rfl, if_neg Bool.false_ne_true, if_neg Bool.false_ne_true]
    rw [show t + D - 1 = (t - 1) + D by omega, visited_shift ok hD hk hl hr', List.getLast?_map, List.length_map]
    cases e : (visited W B sp (t - 1) t).getLast? with
    | none => rfl
    | some o =>
      cases o with
      | none => rfl
      | some s' =>
        obtain ⟨c1, c2, c3, c4⟩ := visGo_last ok _ e
        have hk' : s'.lv ≤ k := by
          rcases c4 with ⟨b1, b2⟩ | ⟨b1, b2⟩
          · rw [b2, spotAt_lv]; exact hr'
          · rw [b2]; exact Nat.zero_le _
        show (if 0 < (skipped W (sh W D s') (t + D) none).1 then _ else _) = _
        rw [skipped_shift ok hD hk' c1]
        dsimp only [Option.map]
        by_cases h0 : 0 < (skipped W s' t none).1
        · rw [if_pos h0, if_pos h0]
          have hk2 : 0 < (skipped W s' t none).2 := by
            obtain ⟨_, _, k3, _⟩ := skipped_pos h0
            have hall' := ok.all _ c1
            have := va_gt (l := lv W s'.lv) (by omega) (by omega) s'.pt t
            rw [k3]; omega
          have hpos : 0 < (skipped W s' t none).1 * (skipped W s' t none).2 := Int.mul_pos h0 hk2
          generalize (skipped W s' t none).1 * (skipped W s' t none).2 = j at hpos ⊢
          have hr2 : TwM.levelIx W (s'.due - (t + j)) ≤ k := Nat.le_trans (levelIx_mono ok (by rw [c2]; omega)) hr'
          have e4 : (sh W D s').due = s'.due + D := rfl
          rw [e4, show t + D + j = (t + j) + D by omega, show s'.due + D - (t + j + D) = s'.due - (t + j) by omega, spotAt_shift ok hD hr2]
          exact fol_shift ok hD n (by rw [spotAt_lv]; exact hr2) (spotAt_lt ok _ _ _ _) (by rw [spotAt_due]; exact hr2)
        · rw [if_neg h0, if_neg h0]
          exact fol_shift ok hD n hk' c1 (by rw [c2]; exact hr')
theorem dvd_le (ok : WOk W) : ∀ (n j : Nat), j + n < W.length → (lv W j).g ∣ (lv W (j + n)).g
  | 0, j, _ => Int.dvd_refl _
  | n + 1, j, h => Int.dvd_trans (dvd_le ok n j (by omega)) (ok.dv (j + n) (by omega))
theorem dv_of (ok : WOk W) (hk : k < W.length) (m : Int) : Dv W k ((lv W k).g * m) := fun j hj => by
  have := dvd_le ok (k - j) j (by omega)
  rw [show j + (k - j) = k by omega] at this
  exact Int.dvd_trans this (Int.dvd_mul_right _ _)
theorem asc_le (ok : WOk W) : ∀ (n j : Nat), j + n + 1 < W.length → (lv W j).p < (lv W (j + n + 1)).p
  | 0, j, h => ok.asc j h
  | n + 1, j, h => Int.lt_trans (asc_le ok n j (by omega)) (ok.asc (j + n + 1) (by omega))
/-- where a delay is placed -/
theorem place_form (ok : WOk W) (hb3 : B.bey < 3) {delay : Int} (hd : 1 ≤ delay) (hb : reach W ≤ delay → B.bey ≠ 0) :
    ∃ r, 1 ≤ r ∧ TwM.levelIx W r = TwM.levelIx W delay ∧ ∀ now, placeM W B now delay = some (spotAt W B now r (now + r)) := by
  have hp := ok.pos
  have hre : 2 ≤ reach W := (ok.all (W.length - 1) (by omega)).2.2.2.2
  have e0 : (if 1 > delay then 1 else delay) = delay := by split <;> omega
  by_cases hc : reach W ≤ delay ∧ B.bey = 2
  · refine ⟨reach W - 1, by omega, ?_, fun now => ?_⟩
    · have e1 : levelOf W delay = none := levelOf_isN fun j hj => by
        rcases Nat.lt_or_ge (j + 1) W.length with h | h
        · have := asc_le ok (W.length - 1 - j - 1) j (by omega)
          rw [show j + (W.length - 1 - j - 1) + 1 = W.length - 1 by omega] at this
          have : (lv W j).p < reach W := this
          omega
        · rw [show j = W.length - 1 by omega]
          exact hc.1
      have e2 : TwM.levelIx W delay = W.length - 1 := by unfold TwM.levelIx; rw [e1]; rfl
      rw [e2]
      unfold TwM.levelIx
      cases e : levelOf W (reach W - 1) with
      | none => rfl
      | some i =>
        show i = W.length - 1
        obtain ⟨a1, a2⟩ := levelOf_lt e
        rcases Nat.lt_or_ge i (W.length - 1) with h | h
        · have := asc_le ok (W.length - 1 - i - 1) i (by omega)
          rw [show i + (W.length - 1 - i - 1) + 1 = W.length - 1 by omega] at this
          have : (lv W i).p < reach W := this
          omega
        · omega
    · unfold placeM
      rw [if_neg (fun z => by have := z.1; omega)]
      dsimp only
      rw [e0, if_pos hc]
  · refine ⟨delay, hd, rfl, fun now => ?_⟩
    unfold placeM
    rw [if_neg (fun z => by have := z.1; omega)]
    dsimp only
    rw [e0, if_neg hc]
/-- a whole number of grains later -/
theorem later (ok : WOk W) (hb3 : B.bey < 3) {delay : Int} (hd : 1 ≤ delay) (hb : reach W ≤ delay → B.bey ≠ 0) (start m : Int) :
    ∃ s1 s2, placeM W B start delay = some s1 ∧ placeM W B (start + (lv W (TwM.levelIx W delay)).g * m) delay = some s2 ∧ s1.lv = s2.lv ∧ s2.pt - s1.pt = m ∧ s2.due - s1.due = (lv W (TwM.levelIx W delay)).g * m ∧
      (fin W B (start + (lv W (TwM.levelIx W delay)).g * m) delay).1 = (fin W B start delay).1 + (lv W (TwM.levelIx W delay)).g * m ∧ (fin W B (start + (lv W (TwM.levelIx W delay)).g * m) delay).2 = (fin W B start delay).2 := by
  obtain ⟨r, hr1, hr2, hpl⟩ := place_form ok hb3 hd hb
  have hk := levelIx_lt ok delay
  generalize hkk : TwM.levelIx W delay = k at hk hr2 ⊢
  have hg := (ok.all k hk).1
  have hD := dv_of ok hk m
  have hsh := spotAt_shift (B := B) (now := start) (rest := r) (due := start + r) ok hD (Nat.le_of_eq hr2)
  have hlv : (spotAt W B start r (start + r)).lv = k := by rw [spotAt_lv]; exact hr2
  have e1 := hpl start
  have e2 : placeM W B (start + (lv W k).g * m) delay = some (sh W ((lv W k).g * m) (spotAt W B start r (start + r))) := by
    rw [hpl, ← hsh, show start + (lv W k).g * m + r = start + r + (lv W k).g * m by omega]
  have hl : (spotAt W B start r (start + r)).lv < W.length := by rw [hlv]; exact hk
  obtain ⟨q, hq⟩ := fol_ends ok B none (mu (spotAt W B start r (start + r)) start) _ start 0 hl (Nat.le_refl _)
  have hq2 := fol_shift (B := B) ok hD (mu (spotAt W B start r (start + r)) start) (sp := spotAt W B start r (start + r)) (tick := start) (mv := 0) (by omega) hl (by rw [spotAt_due, show start + r - start = r by omega]; exact Nat.le_of_eq hr2)
  rw [hq] at hq2
  have f1 := fin_some e1 ok hl hq
  have f2 := fin_some e2 ok (by show (spotAt W B start r (start + r)).lv < W.length; exact hl) hq2
  refine ⟨_, _, e1, e2, rfl, ?_, ?_, ?_, ?_⟩
  · show (spotAt W B start r (start + r)).pt + (lv W k).g * m / (lv W (spotAt W B start r (start + r)).lv).g - (spotAt W B start r (start + r)).pt = m
    rw [hlv, Int.mul_ediv_cancel_left _ (by omega)]
    omega
  · show (spotAt W B start r (start + r)).due + (lv W k).g * m - (spotAt W B start r (start + r)).due = (lv W k).g * m
    omega
  · rw [f1, f2]; rfl
  · rw [f1, f2]; rfl
end
end Tw
/-! Tw: common divisors, inverses, first hits -/
namespace Tw
open TwM
/-- g is the greatest common divisor -/
def IsG (a b g : Int) : Prop := 0 < g ∧ ∀ d, (d ∣ a ∧ d ∣ b) ↔ d ∣ g
theorem IsG.eq {a b g g' : Int} (h : IsG a b g) (h' : IsG a b g') : g = g' := by
  have h1 : g ∣ g' := (h'.2 g).mp ((h.2 g).mpr (Int.dvd_refl g))
  have h2 : g' ∣ g := (h.2 g').mp ((h'.2 g').mpr (Int.dvd_refl g'))
  exact Int.dvd_antisymm (Int.le_of_lt h.1) (Int.le_of_lt h'.1) h1 h2
theorem IsG.left {a b g : Int} (h : IsG a b g) : g ∣ a := ((h.2 g).mpr (Int.dvd_refl g)).1
theorem IsG.right {a b g : Int} (h : IsG a b g) : g ∣ b := ((h.2 g).mpr (Int.dvd_refl g)).2
theorem dvd_step (a b d : Int) : (d ∣ b % a ∧ d ∣ a) ↔ (d ∣ a ∧ d ∣ b) := by
  constructor
  · rintro ⟨h1, h2⟩
    refine ⟨h2, ?_⟩
    have := Int.dvd_add (Int.dvd_trans h2 (Int.dvd_mul_right a (b / a))) h1
    rwa [Int.mul_ediv_add_emod] at this
  · rintro ⟨h1, h2⟩
    refine ⟨?_, h1⟩
    have := Int.dvd_sub h2 (Int.dvd_trans h1 (Int.dvd_mul_right a (b / a)))
    rwa [← Int.emod_def] at this
theorem dvd_absI (a d : Int) : d ∣ (if a < 0 then -a else a) ↔ d ∣ a := by
  split
  · exact Int.dvd_neg
  · exact Iff.rfl
/-- what first_hit tells -/
def FH (base length goal modulus : Int) (o : Option Int) : Prop := ∃ g, IsG length modulus g ∧ match o with
  | none => ¬ g ∣ goal - base
  | some k => 1 ≤ k ∧ k ≤ modulus / g ∧ modulus ∣ base + k * length - goal
theorem isG_small {a b g : Int} (h : IsG a b g) : IsG (a / g) (b / g) 1 := by
  have hg := h.1
  obtain ⟨x, hx⟩ := h.left
  obtain ⟨y, hy⟩ := h.right
  have e1 : a / g = x := by rw [hx, Int.mul_ediv_cancel_left _ (by omega)]
  have e2 : b / g = y := by rw [hy, Int.mul_ediv_cancel_left _ (by omega)]
  rw [e1, e2]
  refine ⟨by decide, fun d => ⟨fun ⟨h1, h2⟩ => ?_, fun h1 => ⟨Int.dvd_trans h1 (Int.one_dvd _), Int.dvd_trans h1 (Int.one_dvd _)⟩⟩⟩
  have h3 : g * d ∣ g := (h.2 (g * d)).mp ⟨by rw [hx]; exact Int.mul_dvd_mul_left g h1, by rw [hy]; exact Int.mul_dvd_mul_left g h2⟩
  obtain ⟨z, hz⟩ := h3
  have h4 : g * 1 = g * (d * z) := by rw [Int.mul_one, ← Int.mul_assoc]; exact hz
  exact ⟨z, Int.eq_of_mul_eq_mul_left (by omega) h4⟩
theorem fh_none {base length goal modulus g : Int} (h : IsG length modulus g) (hn : (goal - base) % g ≠ 0) : FH base length goal modulus none :=
  ⟨g, h, fun z => hn (Int.emod_eq_zero_of_dvd z)⟩
theorem fh_some {base length goal modulus g inv : Int} (hm : 0 < modulus) (h : IsG length modulus g) (hn : (goal - base) % g = 0) (hi : modulus / g ∣ inv * (length / g) - 1) :
    FH base length goal modulus (some (if (goal - base) / g * inv % (modulus / g) = 0 then modulus / g else (goal - base) / g * inv % (modulus / g))) := by
  have hg := h.1
  obtain ⟨x, hx⟩ := h.left
  obtain ⟨y, hy⟩ := h.right
  obtain ⟨c, hc⟩ := Int.dvd_of_emod_eq_zero hn
  have e1 : length / g = x := by rw [hx, Int.mul_ediv_cancel_left _ (by omega)]
  have e2 : modulus / g = y := by rw [hy, Int.mul_ediv_cancel_left _ (by omega)]
  have e3 : (goal - base) / g = c := by rw [hc, Int.mul_ediv_cancel_left _ (by omega)]
  rw [e1, e2] at hi
  rw [e2, e3]
  have hy0 : 0 < y := by
    rcases Int.lt_or_le 0 y with z | z
    · exact z
    · have := Int.mul_nonpos_of_nonneg_of_nonpos (Int.le_of_lt hg) z
      omega
  have hd : y ∣ (c * inv % y) * x - c := by
    obtain ⟨z, hz⟩ := hi
    refine ⟨c * z - (c * inv / y) * x, ?_⟩
    have e4 : c * inv % y = c * inv - y * (c * inv / y) := Int.emod_def _ _
    rw [e4, Int.sub_mul]
    have e5 : c * inv * x = c * (y * z + 1) := by rw [← hz, Int.mul_assoc]; congr 1; omega
    rw [e5, Int.mul_add, Int.mul_one, Int.mul_sub, Int.mul_assoc y, ← Int.mul_assoc c y z, Int.mul_comm c y, Int.mul_assoc y c z]
    omega
  have hr0 := Int.emod_nonneg (c * inv) (b := y) (by omega)
  have hr1 := Int.emod_lt_of_pos (c * inv) hy0
  generalize c * inv % y = r at hd hr0 hr1 ⊢
  have fin : ∀ k, y ∣ k * x - c → modulus ∣ base + k * length - goal := by
    rintro k ⟨z, hz⟩
    refine ⟨z, ?_⟩
    have e6 : k * length = g * (k * x) := by rw [hx, ← Int.mul_assoc, Int.mul_comm k g, Int.mul_assoc]
    have e7 : k * x = c + y * z := by omega
    rw [e6, e7, Int.mul_add, hy, ← Int.mul_assoc]
    omega
  refine ⟨g, h, ?_⟩
  dsimp only
  rw [e2]
  by_cases h0 : r = 0
  · rw [if_pos h0]
    subst h0
    refine ⟨by omega, Int.le_refl _, fin y ?_⟩
    obtain ⟨z, hz⟩ := hd
    exact ⟨x + z, by rw [Int.mul_add, ← hz]; omega⟩
  · rw [if_neg h0]
    exact ⟨by omega, by omega, fin r hd⟩
/-- fired at once where a slot is visited -/
theorem visGo_fire {W : List Lv} {B : Bk} (hf : B.fire = true) {before now : Int} : ∀ (is : List Nat) {sp : Spot}, sp.lv ∈ is → isVis (lv W sp.lv) sp.pt before now = true → visGo W B before now is sp = [none]
  | [], sp, h, _ => by simp at h
  | i :: is, sp, h, hv => by
    unfold visGo
    by_cases e : sp.lv = i
    · have et : taken W B sp now = none := by unfold taken; rw [if_pos (.inr hf)]
      rw [if_pos ⟨e, by rw [← e]; exact hv⟩, et]
    · rw [if_neg (fun z => e z.1)]
      exact visGo_fire hf is (by rcases List.mem_cons.mp h with q | q; exact absurd q e; exact q) hv
theorem isVis_at {l : Lv} {pt t : Int} (hg : 0 < l.g) (hs : 0 < l.s) (h : l.g * l.s ∣ t - pt * l.g) : isVis l pt (t - 1) t = true := by
  obtain ⟨j, hj⟩ := h
  have e : t = (pt + l.s * j) * l.g := by rw [Int.add_mul, Int.mul_comm (l.s * j) l.g, ← Int.mul_assoc]; omega
  unfold isVis
  have e1 : t / l.g = pt + l.s * j := by rw [e, Int.mul_ediv_cancel _ (by omega)]
  have e2 : (t - 1) / l.g = pt + l.s * j - 1 := by
    rw [e, show (pt + l.s * j) * l.g - 1 = (l.g - 1) + (pt + l.s * j - 1) * l.g by rw [Int.sub_mul]; omega, Int.add_mul_ediv_right _ _ (by omega), Int.ediv_eq_zero_of_lt (by omega) (by omega)]
    omega
  rw [e1, e2]
  have e3 : pt - (pt + l.s * j - 1) - 1 = -(l.s * j) := by omega
  have e4 : -(l.s * j) % l.s = 0 := Int.emod_eq_zero_of_dvd ⟨-j, by rw [Int.mul_neg]⟩
  rw [e3, e4]
  simp
  omega
end Tw
/-! Tw: readings of common divisors, inverses, first hits, beats -/
namespace Tw
open PySem PySem.Spec PyProof.Rows L2 He TwM StX
open PySem.W (Frag)
local macro_rules | `(tactic| walk_at "rsg") => `(tactic| simp only [*, at3_0, at3_1, at3_2, at2_0, at2_1, updS, upd_two, gSub, rSetL, updN, and_assoc, not_true_eq_false, not_false_eq_true, tNever, List.length_map, tFld, rIxTH, rIxLH, rLenTH, rLenLH, lk1, lfs_g, lfs_s, lfs_p, HO.ins.injEq, HO.tup.injEq, HO.lst.injEq, sp_Book_rounding, sp_Book_action, sp_Book_order, sp_Book_due, sp_Book_zero, sp_Book_beyond, Int.toNat_natCast, sp_visit_after, sp_is_visited, sp_Level_grain, sp_Level_slots, sp_Level_span, sp_Wheel_reach, sp_Wheel___len__, sp_is_integer, sp_is_count, sp_is_within, sp_rounded, tSeq, tAsg, gName, tVar, tC, tOp, rI, rI0, rU, tUn, oAdd, oSub, oMul, oDiv, oMod, oNeg, oLt, oLe, oGt, oGe, oIsN, oNotN, tFn, tCons, tNil, tIfS, tIf, tTest, tB, tNot, tAnd, tOr, tAndV, tOrV, tNotV,
    tRet, tRetN, tNext, tCB, tDrop, tChain, rEq, rNe, oMax2, oMin2, oInt1, rLenF, L2.start, List.map_cons, List.map_nil, List.length_cons, List.length_nil, List.replicate_succ, List.replicate_zero, List.cons_append, List.nil_append, Nat.reduceAdd, Nat.reduceSub, Nat.zero_add,
    List.set_cons_zero, List.set_cons_succ, List.getElem?_cons_zero, List.getElem?_cons_succ, Option.some.injEq, V.int.injEq, V.ref.injEq, V.str.injEq, V.bl.injEq, exists_eq_left', exists_eq_left, exists_and_left, List.cons.injEq, and_true, true_and, decide_eq_true_eq, sc_ii, sc_ss, sc_bb, sc_ni, sc_in, sc_nn, sc_is, reduceCtorEq,
    Bool.not_eq_true', decide_eq_false_iff_not, if_true, if_false, Bool.false_eq_true, exists_eq', exists_const, false_and, and_false, or_false, false_or, exists_false, Bool.not_not, Bool.not_true, Bool.not_false, sUp_up, sFire_fire, sHigh_high, sPut_put, sZone_now, sBey_refuse, sBey_cut, tTup, tLst, sz0, sz1, sz2, sz3, sz4, sz5, sz6])
section
variable {K : Frag} {w : World}
def sp_common_divisor (K : Frag) : Sp := fun vs H Q _ => ∃ (a b : Int), vs = [.int a, .int b] ∧ 0 < b ∧ ∀ g, IsG a b g → Q (.int g) H
def cdInv (a b : Int) (H : Hp) (m : Nat) (σ : L2.St) (H' : Hp) : Prop := ∃ x y : Int, σ = [some (.int a), some (.int b), some (.int x), some (.int y)] ∧ H' = H ∧ x.toNat = m ∧ 0 ≤ x ∧ 0 < y ∧ ∀ d, (d ∣ x ∧ d ∣ y) ↔ (d ∣ a ∧ d ∣ b)
def t_common_divisor (K : Frag) (w : World) : TS :=
  (tSeq (tPar 2 3 (tCons (tCB oAbs (tCons (tVar 0) tNil)) (tCons (tVar 1) tNil)))
  (tSeq (tWhile (tTest (tOp oGt (tVar 2) (tC (.int 0))))
    (tPar 2 3 (tCons (tOp oMod (tVar 3) (tVar 2)) (tCons (tVar 2) tNil))))
  (tRet (tVar 3))))
def n_common_divisor : List Str := ["first", "second", "one", "other"]
theorem rd_common_divisor (vs : List V) (H : Hp) (Q : VK) (E : XK) (h : sp_common_divisor K vs H Q E) : t_common_divisor K w { nx := fun _ H' => Q .non H', rt := Q } (L2.start n_common_divisor vs) H := by
  obtain ⟨a, b, rfl, hb, q⟩ := h
  unfold t_common_divisor n_common_divisor tPar oAbs
  walk_at "rsg"
  refine ⟨cdInv a b H, ⟨_, _, _, rfl, rfl, rfl, by split <;> omega, hb, fun d => by rw [dvd_absI]⟩, ?_⟩
  rintro m σ H1 ⟨x, y, rfl, rfl, rfl, hx, hy, hd⟩
  walk_at "rsg"
  refine ite2 (fun h => ⟨cdInv a b H1 (y % x).toNat, fun σ' H' z => ⟨_, ?_, z⟩, ?_⟩) fun h => q y ⟨hy, fun d => ?_⟩
  · have h1 := Int.emod_nonneg y (b := x) (by omega)
    have h2 := Int.emod_lt_of_pos y h
    omega
  · exact ⟨h, _, _, rfl, rfl, rfl, Int.emod_nonneg y (by omega), h, fun d => (dvd_step x y d).trans (hd d)⟩
  · have h0 : x = 0 := by omega
    subst h0
    exact (hd d).symm.trans ⟨fun z => z.2, fun z => ⟨Int.dvd_zero d, z⟩⟩
def sp__law_common (K : Frag) : Sp := fun vs H Q _ => ∃ (a b : Int), vs = [.int a, .int b] ∧ (0 < a ∨ 0 < b) ∧ 0 ≤ b ∧ ∀ g, IsG a b g → Q (.int g) H
def lcInv (a b : Int) (H : Hp) (m : Nat) (σ : L2.St) (H' : Hp) : Prop := ∃ x y : Int, σ = [some (.int a), some (.int b), some (.int x), some (.int y)] ∧ H' = H ∧ y.toNat = m ∧ (0 < x ∨ 0 < y) ∧ 0 ≤ y ∧ ∀ d, (d ∣ x ∧ d ∣ y) ↔ (d ∣ a ∧ d ∣ b)
def t__law_common (K : Frag) (w : World) : TS :=
  (tSeq (tPar 2 3 (tCons (tVar 0) (tCons (tVar 1) tNil)))
  (tSeq (tWhile (tTest (tOp oGt (tVar 3) (tC (.int 0))))
    (tPar 2 3 (tCons (tVar 3) (tCons (tOp oMod (tCB oInt1 (tCons (tVar 2) tNil)) (tVar 3)) tNil))))
  (tRet (tVar 2))))
def n__law_common : List Str := ["_law_first", "_law_second", "_law_one", "_law_other"]
theorem rd__law_common (vs : List V) (H : Hp) (Q : VK) (E : XK) (h : sp__law_common K vs H Q E) : t__law_common K w { nx := fun _ H' => Q .non H', rt := Q } (L2.start n__law_common vs) H := by
  obtain ⟨a, b, rfl, ha, hb, q⟩ := h
  unfold t__law_common n__law_common tPar
  walk_at "rsg"
  refine ⟨lcInv a b H, ⟨_, _, _, rfl, rfl, rfl, ha, hb, fun d => Iff.rfl⟩, ?_⟩
  rintro m σ H1 ⟨x, y, rfl, rfl, rfl, hx, hy, hd⟩
  walk_at "rsg"
  refine ite2 (fun h => ⟨lcInv a b H1 (x % y).toNat, fun σ' H' z => ⟨_, ?_, z⟩, ?_⟩) fun h => q x ⟨by omega, fun d => ?_⟩
  · have h1 := Int.emod_nonneg x (b := y) (by omega)
    have h2 := Int.emod_lt_of_pos x h
    omega
  · exact ⟨h, _, _, rfl, rfl, rfl, .inl h, Int.emod_nonneg x (by omega), fun d => ⟨fun z => (hd d).mp ((dvd_step y x d).mp ⟨z.2, z.1⟩).symm, fun z => ((dvd_step y x d).mpr ((hd d).mpr z).symm).symm⟩⟩
  · have h0 : y = 0 := by omega
    subst h0
    exact (hd d).symm.trans ⟨fun z => z.1, fun z => ⟨z, Int.dvd_zero d⟩⟩
def sp_is_positive (K : Frag) : Sp := fun vs H Q _ => ∃ i : Int, vs = [.int i] ∧ Q (.bl (decide (1 ≤ i))) H
def t_is_positive (K : Frag) (w : World) : TS :=
  (tRet (tAndV (tFn (sp_is_integer K) E0 (tCons (tVar 0) tNil)) (tOp oGe (tVar 0) (tC (.int 1)))))
def n_is_positive : List Str := ["value"]
theorem rd_is_positive (vs : List V) (H : Hp) (Q : VK) (E : XK) (h : sp_is_positive K vs H Q E) : t_is_positive K w { nx := fun _ H' => Q .non H', rt := Q } (L2.start n_is_positive vs) H := by
  obtain ⟨i, rfl, q⟩ := h
  unfold t_is_positive n_is_positive
  walk_at "rsg"
def sp__law_whole (K : Frag) : Sp := fun vs H Q _ => ∃ i : Int, vs = [.int i] ∧ Q (.bl true) H
def t__law_whole (K : Frag) (w : World) : TS :=
  (tRet (tAndV (tCB (rIsi K) (tCons (tVar 0) (tCons (tC (.ty "int")) tNil))) (tNotV (tCB (rIsi K) (tCons (tVar 0) (tCons (tC (.ty "bool")) tNil))))))
def n__law_whole : List Str := ["_law_thing"]
theorem rd__law_whole (vs : List V) (H : Hp) (Q : VK) (E : XK) (h : sp__law_whole K vs H Q E) : t__law_whole K w { nx := fun _ H' => Q .non H', rt := Q } (L2.start n__law_whole vs) H := by
  obtain ⟨i, rfl, q⟩ := h
  unfold t__law_whole n__law_whole
  walk_at "rsg"
  refine isi_base (.base (.int i)) (b := true) (by decide +kernel) ⟨true, rfl, iteT ?_⟩
  exact isi_base (.base (.int i)) (b := false) (by decide +kernel) ⟨false, rfl, q⟩
def sp_inverse (K : Frag) : Sp := fun vs H Q _ => ∃ (a m : Int), vs = [.int a, .int m] ∧ 0 < m ∧ m < 1073741824 ∧ IsG a m 1 ∧ ∀ x H', Same H H' → 0 ≤ x → x < m → m ∣ x * a - 1 → Q (.int x) H'
def ivInv (a m : Int) (H : Hp) (n : Nat) (σ : L2.St) (H' : Hp) : Prop := ∃ (x y u v : Int) (t : Option V), σ = [some (.int a), some (.int m), some (.int x), some (.int y), some (.int u), some (.int v), t] ∧ H' = H ∧ y.toNat = n ∧ 0 < x ∧ x ≤ m ∧ 0 ≤ y ∧ y ≤ m ∧
  m ∣ u * a - x ∧ m ∣ v * a - y ∧ ∀ d, (d ∣ y ∧ d ∣ x) ↔ (d ∣ a ∧ d ∣ m)
def t_inverse (K : Frag) (w : World) : TS :=
  (tSeq (tPar 2 3 (tCons (tVar 1) (tCons (tOp oMod (tVar 0) (tVar 1)) tNil)))
  (tSeq (tAsg (tTup (tCons (tC (.int 0)) (tCons (tC (.int 1)) tNil))) (gTup K 2 (gCons (gName 4) (gCons (gName 5) gNil))))
  (tSeq (tWhile (tTest (tOp oGt (tVar 3) (tC (.int 0))))
    (tSeq (tAsg (tOp oDiv (tVar 2) (tVar 3)) (gName 6))
  (tSeq (tPar 2 3 (tCons (tVar 3) (tCons (tOp oSub (tVar 2) (tOp oMul (tVar 6) (tVar 3))) tNil)))
  (tPar 4 5 (tCons (tVar 5) (tCons (tOp oSub (tVar 4) (tOp oMul (tVar 6) (tVar 5))) tNil))))))
  (tRet (tOp oMod (tVar 4) (tVar 1))))))
def n_inverse : List Str := ["number", "modulus", "one", "other", "near", "far", "times"]
theorem rd_inverse (vs : List V) (H : Hp) (Q : VK) (E : XK) (h : sp_inverse K vs H Q E) : t_inverse K w { nx := fun _ H' => Q .non H', rt := Q } (L2.start n_inverse vs) H := by
  obtain ⟨a, m, rfl, hm, hm2, hg, q⟩ := h
  unfold t_inverse n_inverse tPar
  walk_at "rsg"
  have r0 := Int.emod_nonneg a (b := m) (by omega)
  have r1 := Int.emod_lt_of_pos a hm
  intro q0 hq0
  have s0 := Same.new (o := .tup [.int 0, .int 1]) hq0
  refine ⟨q0, _, rfl, SqT.of upd_same, rfl, _, _, rfl, _, _, rfl, rfl, ?_⟩
  refine ⟨ivInv a m (upd H q0 (.tup [.int 0, .int 1])), ⟨_, _, _, _, _, _, rfl, rfl, rfl, hm, Int.le_refl _, r0, by omega, ⟨-1, by omega⟩, ⟨a / m, by have := Int.emod_def a m; omega⟩, fun d => (dvd_step m a d).trans ⟨fun z => z.symm, fun z => z.symm⟩⟩, ?_⟩
  rintro n σ H1 ⟨x, y, u, v, t, rfl, rfl, rfl, hx, hxm, hy, hym, hu, hv, hd⟩
  have ht0 : 0 < y → 0 ≤ x / y ∧ x / y ≤ x := fun h => ⟨Int.ediv_nonneg (by omega) (by omega), Int.ediv_le_self _ (by omega)⟩
  walk_at "rsg"
  refine ite2 (fun h => ?_) fun h => ?_
  · have e := Int.emod_def x y
    have s0 := Int.emod_nonneg x (b := y) (by omega)
    have s1 := Int.emod_lt_of_pos x h
    obtain ⟨t0, t1⟩ := ht0 h
    have e2 : x - x / y * y = x % y := by rw [Int.mul_comm]; omega
    refine ⟨ivInv a m (upd H q0 (.tup [.int 0, .int 1])) (x % y).toNat, fun σ' H' z => ⟨_, by omega, z⟩, ⟨h, by omega⟩, .inl ⟨by omega, by omega⟩, .inl ⟨by omega, by omega⟩, ?_⟩
    refine ⟨_, _, _, _, _, rfl, rfl, by rw [e2], h, hym, by omega, by omega, hv, ?_, fun d => ?_⟩
    · have := Int.dvd_sub hu (Int.dvd_trans hv (Int.dvd_mul_left (x / y) (v * a - y)))
      have e3 : u * a - x - x / y * (v * a - y) = (u - x / y * v) * a - (x - x / y * y) := by rw [Int.mul_sub, Int.sub_mul, Int.mul_assoc]; omega
      rwa [e3] at this
    · rw [e2]
      exact (dvd_step y x d).trans (hd d)
  · have h0 : y = 0 := by omega
    subst h0
    have hx1 : x = 1 := by
      have h1 : x ∣ 1 := (hg.2 x).mp ((hd x).mp ⟨Int.dvd_zero x, Int.dvd_refl x⟩)
      have := Int.le_of_dvd (by decide) h1
      omega
    subst hx1
    refine q _ _ s0 (Int.emod_nonneg _ (by omega)) (Int.emod_lt_of_pos _ hm) ?_
    have e := Int.emod_def u m
    rw [e, Int.sub_mul, show u * a - m * (u / m) * a - 1 = (u * a - 1) - m * (u / m * a) by rw [Int.mul_assoc]; omega]
    exact Int.dvd_sub hu (Int.dvd_mul_right _ _)
def sp_first_hit (K : Frag) : Sp := fun vs H Q _ => ∃ (b len goal m : Int), vs = [.int b, .int len, .int goal, .int m] ∧ 0 < m ∧ m < 1073741824 ∧ ∀ o H', Same H H' → FH b len goal m o → Q (optV o) H'
def t_first_hit (K : Frag) (w : World) : TS :=
  (tSeq (tAsg (tFn (sp_common_divisor K) E0 (tCons (tVar 1) (tCons (tVar 3) tNil))) (gName 4))
  (tSeq (tIfS (tTest (tOp rNe (tOp oMod (tOp oSub (tVar 2) (tVar 0)) (tVar 4)) (tC (.int 0)))) (tRet (tC .non)) tNext)
  (tSeq (tAsg (tOp oDiv (tVar 3) (tVar 4)) (gName 5))
  (tSeq (tAsg (tOp oMod (tOp oMul (tOp oDiv (tOp oSub (tVar 2) (tVar 0)) (tVar 4)) (tFn (sp_inverse K) E0 (tCons (tOp oDiv (tVar 1) (tVar 4)) (tCons (tVar 5) tNil)))) (tVar 5)) (gName 6))
  (tSeq (tIfS (tTest (tOp rEq (tVar 6) (tC (.int 0)))) (tRet (tVar 5)) tNext)
  (tRet (tVar 6)))))))
def n_first_hit : List Str := ["base", "length", "goal", "modulus", "divisor", "small", "many"]
theorem rd_first_hit (vs : List V) (H : Hp) (Q : VK) (E : XK) (h : sp_first_hit K vs H Q E) : t_first_hit K w { nx := fun _ H' => Q .non H', rt := Q } (L2.start n_first_hit vs) H := by
  obtain ⟨b, len, goal, m, rfl, hm, hm2, q⟩ := h
  unfold t_first_hit n_first_hit
  walk_at "rsg"
  refine ⟨len, m, rfl, hm, fun g hg => ?_⟩
  have hg0 := hg.1
  have hgm : g ≤ m := Int.le_of_dvd hm hg.right
  have hsm : 0 < m / g := Int.ediv_pos_of_pos_of_dvd hm (by omega) hg.right
  have hsm2 : m / g ≤ m := Int.ediv_le_self _ (by omega)
  walk_at "rsg"
  refine ite2 (fun h => q none _ (Same.refl H) (fh_none hg h)) fun h => ?_
  refine ⟨⟨hg0, by omega⟩, ⟨hg0, by omega⟩, ⟨hg0, by omega⟩, _, _, rfl, hsm, by omega, isG_small hg, fun x H1 s1 hx0 hx1 hx => ⟨x, rfl, ?_⟩⟩
  have hf := fh_some hm hg (Classical.not_not.mp h) hx
  refine ⟨.inr ⟨by omega, by omega⟩, ite2 (fun h0 => ?_) fun h0 => ?_⟩
  · rw [if_pos h0] at hf
    exact q _ H1 s1 hf
  · rw [if_neg h0] at hf
    exact q _ H1 s1 hf
def sp_end_of (K : Frag) : Sp := fun vs H Q _ => ∃ (s len t : Int), vs = [.int s, .int len, .int t] ∧ CDivW (s - t) len ∧ CMul ((s - t) / len) len ∧ Q (.int (s - (s - t) / len * len)) H
def t_end_of (K : Frag) (w : World) : TS :=
  (tRet (tOp oSub (tVar 0) (tOp oMul (tOp oDivW (tOp oSub (tVar 0) (tVar 2)) (tVar 1)) (tVar 1))))
def n_end_of : List Str := ["start", "length", "tick"]
theorem rd_end_of (vs : List V) (H : Hp) (Q : VK) (E : XK) (h : sp_end_of K vs H Q E) : t_end_of K w { nx := fun _ H' => Q .non H', rt := Q } (L2.start n_end_of vs) H := by
  obtain ⟨s, len, t, rfl, h1, h2, q⟩ := h
  unfold t_end_of n_end_of oDivW
  walk_at "rsg"
def sp_next_end (K : Frag) : Sp := fun vs H Q _ => ∃ (c : Addr) (pt tick start len : Int) (mode : Str), vs = [.ref c, .int pt, .int tick, .int start, .int len, .str mode] ∧ ∃ l, LvAt K H c l ∧
  ((mode = "last" ∧ ∀ o H', Same H H' → FH tick len (pt * l.g) (l.g * l.s) o → Q (optV (o.map fun k => tick + k * len)) H') ∨
    (mode ≠ "last" ∧ CDivW (start - va l pt tick) len ∧ CMul ((start - va l pt tick) / len) len ∧ Q (.int (start - (start - va l pt tick) / len * len)) H))
def t_next_end (K : Frag) (w : World) : TS :=
  (tSeq (tIfS (tTest (tOp rEq (tVar 5) (tC (.str "last")))) (tSeq (tAsg (tFn (sp_first_hit K) E0 (tCons (tVar 2) (tCons (tVar 4) (tCons (tOp oMul (tVar 1) (tFn (sp_Level_grain K) E0 (tCons (tVar 0) tNil))) (tCons (tOp oMul (tFn (sp_Level_grain K) E0 (tCons (tVar 0) tNil)) (tFn (sp_Level_slots K) E0 (tCons (tVar 0) tNil))) tNil))))) (gName 6))
  (tSeq (tIfS (tTest (tOp oIsN (tVar 6) (tC .non))) (tRet (tC .non)) tNext)
  (tRet (tOp oAdd (tVar 2) (tOp oMul (tVar 6) (tVar 4)))))) tNext)
  (tRet (tFn (sp_end_of K) E0 (tCons (tVar 3) (tCons (tVar 4) (tCons (tFn (sp_visit_after K) E0 (tCons (tVar 0) (tCons (tVar 1) (tCons (tVar 2) tNil)))) tNil))))))
def n_next_end : List Str := ["level", "point", "tick", "start", "length", "mode", "many"]
theorem rd_next_end (vs : List V) (H : Hp) (Q : VK) (E : XK) (h : sp_next_end K vs H Q E) : t_next_end K w { nx := fun _ H' => Q .non H', rt := Q } (L2.start n_next_end vs) H := by
  obtain ⟨c, pt, tick, start, len, mode, rfl, l, hL, h⟩ := h
  obtain ⟨g1, g2, s1, s2⟩ := hL.ok
  have e := @lv_ex K H c l hL
  have hgs : l.g * l.s ≤ 1000 * 100 := Int.mul_le_mul g2 s2 (by omega) (by omega)
  have hgs0 : 1 * 2 ≤ l.g * l.s := Int.mul_le_mul g1 s1 (by omega) (by omega)
  unfold t_next_end n_next_end
  rcases h with ⟨rfl, q⟩ | ⟨hm, h1, h2, q⟩
  · walk_at "rsg"
    refine ⟨.inr ⟨by omega, by omega⟩, .inr ⟨by omega, by omega⟩, tick, len, pt * l.g, l.g * l.s, rfl, by omega, by omega, fun o H1 s1 ho => ?_⟩
    have q' := q o H1 s1 ho
    cases o with
    | none => walk_at "rsg"; exact q'
    | some k =>
      obtain ⟨g, hg, k1, k2, k3⟩ := id ho
      have hg0 := hg.1
      have k4 : l.g * l.s / g ≤ l.g * l.s := Int.ediv_le_self _ (by omega)
      unfold optV
      walk_at "rsg"
      exact ⟨.inl ⟨by omega, by omega⟩, q'⟩
  · walk_at "rsg"
    exact ⟨start, len, va l pt tick, rfl, h1, h2, q⟩
def sp__law_turned (K : Frag) : Sp := fun vs H Q _ => ∃ (t g : Int) (u : Bool), vs = [.int t, .int g, .str (sUp u)] ∧ 0 < g ∧ g < 1073741824 ∧ Q (.int (rnd u t g)) H
theorem ceil_eq {t g : Int} (hg : 0 < g) : (t + g - 1) / g = -(-t / g) := by
  have h1 := Int.emod_def (-t) g
  have h2 := Int.emod_nonneg (-t) (b := g) (by omega)
  have h3 := Int.emod_lt_of_pos (-t) hg
  generalize -t / g = k at h1 ⊢
  generalize -t % g = r at h1 h2 h3
  have e : t + g - 1 = (g - 1 - r) + (-k) * g := by rw [Int.neg_mul, Int.mul_comm k g]; omega
  rw [e, Int.add_mul_ediv_right _ _ (by omega), Int.ediv_eq_zero_of_lt (by omega) (by omega)]
  omega
def t__law_turned (K : Frag) (w : World) : TS :=
  (tRet (tIf (tTest (tOp rEq (tVar 2) (tC (.str "up")))) (tOp oDiv (tOp oSub (tOp oAdd (tVar 0) (tVar 1)) (tC (.int 1))) (tVar 1)) (tOp oDiv (tVar 0) (tVar 1))))
def n__law_turned : List Str := ["_law_tick", "_law_grain", "_law_way"]
theorem rd__law_turned (vs : List V) (H : Hp) (Q : VK) (E : XK) (h : sp__law_turned K vs H Q E) : t__law_turned K w { nx := fun _ H' => Q .non H', rt := Q } (L2.start n__law_turned vs) H := by
  obtain ⟨t, g, u, rfl, h1, h2, q⟩ := h
  unfold t__law_turned n__law_turned
  walk_at "rsg"
  unfold rnd at q
  refine ite2 (fun hu => ?_) fun hu => ?_
  · rw [if_pos hu] at q
    refine ⟨⟨h1, h2⟩, ?_⟩
    rw [ceil_eq h1]
    exact q
  · rw [if_neg hu] at q
    exact ⟨⟨h1, h2⟩, q⟩
def sp__law_great_rows (K : Frag) : Sp := fun vs H Q _ => ∃ (p l : Addr), vs = [.ref p] ∧ PoolAt H p l ∧
  ∀ (r : Addr) (W : List Lv) (H' : Hp), SameP p l H H' → PoolAt H' p l → H r = none → RowsAt H' r W → ROk W → W.length ≤ 2 → Q (.ref r) H'
def t__law_great_rows (K : Frag) (w : World) : TS :=
  (tSeq (tAsg (tOp oAdd (tC (.int 2)) (tFn (sp__law_draw K) E0 (tCons (tVar 0) (tCons (tC (.int 99)) tNil)))) (gName 1))
  (tSeq (tAsg (tLst (tCons (tTup (tCons (tC (.int 1)) (tCons (tVar 1) (tCons (tOp oAdd (tC (.int 2)) (tFn (sp__law_draw K) E0 (tCons (tVar 0) (tCons (tOp oSub (tOp oMul (tC (.int 4)) (tVar 1)) (tC (.int 1))) tNil)))) tNil)))) tNil)) (gName 2))
  (tSeq (tIfS (tTest (tOp oGt (tFn (sp__law_draw K) E0 (tCons (tVar 0) (tCons (tC (.int 3)) tNil))) (tC (.int 0)))) (tSeq (tPar3 3 1 4 (tCons (tOp oAdd (tC (.int 1)) (tFn (sp__law_draw K) E0 (tCons (tVar 0) (tCons (tC (.int 1000)) tNil)))) (tCons (tOp oAdd (tC (.int 2)) (tFn (sp__law_draw K) E0 (tCons (tVar 0) (tCons (tC (.int 99)) tNil)))) (tCons (tOp rIxTH (tOp rIxLH (tVar 2) (tC (.int 0))) (tC (.int 2))) tNil))))
  (tIfS (tTest (tOp oGt (tOp oMul (tOp oMul (tC (.int 4)) (tVar 3)) (tVar 1)) (tVar 4))) (tDrop (tBM K "list" rAppend (tVar 2) (tCons (tTup (tCons (tVar 3) (tCons (tVar 1) (tCons (tOp oAdd (tOp oAdd (tVar 4) (tC (.int 1))) (tFn (sp__law_draw K) E0 (tCons (tVar 0) (tCons (tOp oSub (tOp oMul (tOp oMul (tC (.int 4)) (tVar 3)) (tVar 1)) (tVar 4)) tNil)))) tNil)))) tNil))) tNext)) tNext)
  (tRet (tVar 2)))))
def n__law_great_rows : List Str := ["_law_pool", "_law_slots", "_law_rows", "_law_grain", "_law_low"]
theorem rd__law_great_rows (vs : List V) (H : Hp) (Q : VK) (E : XK) (h : sp__law_great_rows K vs H Q E) : t__law_great_rows K w { nx := fun _ H' => Q .non H', rt := Q } (L2.start n__law_great_rows vs) H := by
  obtain ⟨p, l, rfl, hp, q⟩ := h
  unfold t__law_great_rows n__law_great_rows tPar3 tBM rAppend
  walk_at "rsg"
  refine draw (K := K) hp (by decide) (by decide) fun x H1 s1 hp1 x0 x1 => ⟨x, rfl, .inl ⟨by omega, by omega⟩, ?_⟩
  refine draw (K := K) hp1 (by omega) (log_small (by omega) (by omega)) fun y H2 s2 hp2 y0 y1 => ⟨y, rfl, fun t ht r hr => ?_⟩
  have hpt := hp2.new (o := .tup [.int 1, .int (2 + x), .int (2 + y)]) ht
  have ap := hpt.apart hr
  have hp3 := hpt.new (o := .lst [.ref t]) hr
  have h12 := (s1.trans s2).step (Same.new (o := .tup [.int 1, .int (2 + x), .int (2 + y)]) ht)
  have hrn : H r = none := by
    cases e : H r with
    | none => rfl
    | some o => exact absurd (h12 r o ap.1 ap.2 e) (by rw [hr]; exact fun z => by cases z)
  have hok : ROk [(⟨1, 2 + x, 2 + y⟩ : Lv)] := ROk.snoc (W := []) (.inl ⟨rfl, rfl⟩) (by decide) (by decide) (by decide) (by omega) (by omega) (by omega) (by omega)
  have hrow : RowsAt (upd (upd H2 t (.tup [.int 1, .int (2 + x), .int (2 + y)])) r (.lst [.ref t])) r [⟨1, 2 + x, 2 + y⟩] := by
    refine ⟨[t], updS _ _ _, rfl, fun i c e => ?_⟩
    cases i with
    | succ i => simp at e
    | zero =>
      obtain rfl := Option.some.inj e
      rw [upd_ne (ne_of_none (updS _ _ _) hr), updS]
      rfl
  have h3 := h12.step (Same.new (o := .lst [.ref t]) hr)
  refine draw (K := K) hp3 (by decide) (by decide) fun i H3 s3 hp4 _ _ => ⟨i, rfl, ite2 (fun _ => ?_) fun _ => ?_⟩
  · have hrow3 := RowsAt.sameP hp3 hrow s3 ap.1 ap.2
    refine draw (K := K) hp4 (by decide) (by decide) fun a H4 s4 hp5 a0 a1 => ⟨a, rfl, ?_⟩
    have hrow4 := RowsAt.sameP hp4 hrow3 s4 ap.1 ap.2
    refine draw (K := K) hp5 (by decide) (by decide) fun b H5 s5 hp6 b0 b1 => ⟨b, rfl, ?_⟩
    have hrow5 := RowsAt.sameP hp5 hrow4 s5 ap.1 ap.2
    have h5 := ((h3.trans s3).trans s4).trans s5
    obtain ⟨ts, ha, hb, hc⟩ := id hrow5
    obtain ⟨t0, rfl⟩ : ∃ t0, ts = [t0] := List.length_eq_one_iff.mp hb
    have ht0 := hc 0 t0 rfl
    refine ⟨_, ha, _, rfl, t0, rfl, _, ht0, _, rfl, .inr ⟨by omega, by omega⟩, .inr ⟨by omega, by omega⟩, _, rfl, ?_⟩
    have e : lv [(⟨1, 2 + x, 2 + y⟩ : Lv)] 0 = ⟨1, 2 + x, 2 + y⟩ := rfl
    rw [e]
    dsimp only
    have hm : 4 * (1 + a) * (2 + b) ≤ 4 * 1001 * 102 := Int.mul_le_mul (by omega) (by omega) (by omega) (by omega)
    have hcm : 4 * (2 + b) * (1 + a) = 4 * (1 + a) * (2 + b) := by rw [Int.mul_assoc, Int.mul_comm (2 + b), ← Int.mul_assoc]
    refine ite2 (fun hlt => ⟨.inl ⟨rfl, _, SqL.of ha⟩, _, rfl, .inr ⟨by omega, by omega⟩, .inr ⟨by omega, by omega⟩, _, rfl, ?_⟩) fun _ => q r _ H5 h5 hp6 hrn hrow5 hok (by show 1 ≤ 2; decide)
    refine draw (K := K) hp6 (by omega) (log_small (by omega) (by omega)) fun z H6 s6 hp7 z0 z1 => ⟨z, rfl, fun c hc' => ?_⟩
    obtain ⟨ts6, ha6, hb6, hc6⟩ := RowsAt.sameP hp6 hrow5 s6 ap.1 ap.2
    have s7 : Same H6 (upd H6 c (.tup [.int (1 + a), .int (2 + b), .int (2 + y + 1 + z)])) := Same.new hc'
    refine ⟨_, s7 _ _ ha6, ?_, ?_⟩
    · have : sizeLine = 16777216 := rfl
      have hb6' : ts6.length = 1 := hb6
      rw [List.length_map]
      omega
    · exact q r ([⟨1, 2 + x, 2 + y⟩] ++ [⟨1 + a, 2 + b, 2 + y + 1 + z⟩]) _ (SameP.updf ((h5.trans s6).step s7) hrn) ((hp7.new hc').updr ap) hrn (RowsAt.snoc (s7 _ _ ha6) hb6 (fun i t q => s7 _ _ (hc6 i t q)) (updS _ _ _))
        (ROk.snoc (W := [⟨1, 2 + x, 2 + y⟩]) (.inr ⟨hok, Int.one_dvd _, by show 2 + y < 2 + y + 1 + z; omega⟩) (by show 1 ≤ 4; decide) (by omega) (by omega) (by omega) (by omega) (by omega) (by omega)) (by show 2 ≤ 2; decide)
  · exact q r _ H3 (h3.trans s3) hp4 hrn (RowsAt.sameP hp3 hrow s3 ap.1 ap.2) hok (by show 1 ≤ 2; decide)
/-- facts of the modes -/
structure Kg (K : Frag) : Prop where
  md : ∀ H, SqT K H (ga K "MODES") [.str "each", .str "last", .str "slots"]
end
end Tw
/-! Tw: small words for the laws' bodies -/
namespace Tw
open PySem PySem.Spec PyProof.Rows L2 He TwM StX
open PySem.W (Frag)
theorem ite_same {c : Prop} [Decidable c] {A B C : Prop} (h1 : c → C → A) (h2 : ¬c → C → B) (h : C) : if c then A else B := ite2 (fun q => h1 q h) fun q => h2 q h
theorem gName1 (i : Nat) (v : V) (σ : L2.St) (H : Hp) (Q : L2.St → Hp → Prop) : gName i v σ H Q = Q (σ.set i (some v)) H := rfl
theorem seq1 (a b : TS) (D : Ends) (σ : L2.St) (H : Hp) : tSeq a b D σ H = a { D with nx := b D } σ H := rfl
theorem ROk.small {W : List Lv} (h : ROk W) {i : Nat} (hi : i < W.length) : (lv W i).p ≤ 400000 := by
  have h1 := h.ok.all i hi
  have h2 := h.sp i hi
  have h3 : 4 * (lv W i).s * (lv W i).g ≤ 400 * 1000 := Int.mul_le_mul (by omega) (by omega) (by omega) (by omega)
  omega
end Tw
/-! Tw: drawn rows with bounds -/
namespace Tw
open PySem PySem.Spec PyProof.Rows L2 He TwM StX
open PySem.W (Frag)
local macro_rules | `(tactic| walk_at "rsl2") => `(tactic| simp only [*, at3_0, at3_1, at3_2, at2_0, at2_1, updS, upd_two, gSub, rSetL, updN, and_assoc, not_true_eq_false, not_false_eq_true, tNever, List.length_map, tFld, rIxTH, rIxLH, rLenTH, rLenLH, lk1, lfs_g, lfs_s, lfs_p, HO.ins.injEq, HO.tup.injEq, HO.lst.injEq, sp_Book_rounding, sp_Book_action, sp_Book_order, sp_Book_due, sp_Book_zero, sp_Book_beyond, Int.toNat_natCast, sp_visit_after, sp_is_visited, sp_Level_grain, sp_Level_slots, sp_Level_span, sp_Wheel_reach, sp_Wheel___len__, sp_is_integer, sp_is_count, sp_is_within, sp_rounded, tSeq, tAsg, gName, tVar, tC, tOp, rI, rI0, rU, tUn, oAdd, oSub, oMul, oDiv, oMod, oNeg, oLt, oLe, oGt, oGe, oIsN, oNotN, tFn, tCons, tNil, tIfS, tIf, tTest, tB, tNot, tAnd, tOr, tAndV, tOrV, tNotV,
    tRet, tRetN, tNext, tCB, tDrop, tChain, rEq, rNe, oMax2, oMin2, oInt1, rLenF, L2.start, List.map_cons, List.map_nil, List.length_cons, List.length_nil, List.replicate_succ, List.replicate_zero, List.cons_append, List.nil_append, Nat.reduceAdd, Nat.reduceSub, Nat.zero_add,
    List.set_cons_zero, List.set_cons_succ, List.getElem?_cons_zero, List.getElem?_cons_succ, Option.some.injEq, V.int.injEq, V.ref.injEq, V.str.injEq, V.bl.injEq, exists_eq_left', exists_eq_left, exists_and_left, List.cons.injEq, and_true, true_and, decide_eq_true_eq, sc_ii, sc_ss, sc_bb, sc_ni, sc_in, sc_nn, sc_is, reduceCtorEq,
    Bool.not_eq_true', decide_eq_false_iff_not, if_true, if_false, Bool.false_eq_true, exists_eq', exists_const, false_and, and_false, or_false, false_or, exists_false, Bool.not_not, Bool.not_true, Bool.not_false, sUp_up, sFire_fire, sHigh_high, sPut_put, sZone_now, sBey_refuse, sBey_cut, tTup, tLst, sz0, sz1, sz2, sz3, sz4, sz5, sz6])
section
variable {K : Frag} {w : World}
structure RBd (W : List Lv) (mg ms : Int) (ml : Nat) : Prop where
  g : ∀ i, i < W.length → (lv W i).g ≤ mg
  s : ∀ i, i < W.length → (lv W i).s ≤ ms
  n : W.length ≤ ml
def sp__law_draw_rows (K : Frag) : Sp := fun vs H Q _ => ∃ (p l : Addr) (mg ms : Int) (ml : Nat), vs = [.ref p, .int mg, .int ms, .int ml] ∧ PoolAt H p l ∧ 1 ≤ mg ∧ mg ≤ 1000 ∧ 2 ≤ ms ∧ ms ≤ 100 ∧ 1 ≤ ml ∧ ml ≤ 5 ∧
  ∀ (r : Addr) (W : List Lv) (H' : Hp), SameP p l H H' → PoolAt H' p l → H r = none → RowsAt H' r W → ROk W → RBd W mg ms ml → Q (.ref r) H'
structure Grown2 (W : List Lv) (i : Nat) (g low mg ms : Int) : Prop where
  len : W.length = i
  z : i = 0 → g = 1 ∧ low = 1
  p : 0 < i → ROk W ∧ g = (lv W (i - 1)).g ∧ low = (lv W (i - 1)).p ∧ g ≤ mg
  bg : ∀ j, j < W.length → (lv W j).g ≤ mg
  bs : ∀ j, j < W.length → (lv W j).s ≤ ms
def drInv (p l r : Addr) (mg ms : Int) (ml : Nat) (H : Hp) (i : Nat) (σ : L2.St) (H' : Hp) : Prop :=
  ∃ (W : List Lv) (g low : Int) (v7 v8 : Option V), σ = [some (.ref p), some (.int mg), some (.int ms), some (.int ml), some (.ref r), some (.int g), some (.int low), v7, v8] ∧ SameP p l H H' ∧ PoolAt H' p l ∧ RowsAt H' r W ∧ Grown2 W i g low mg ms
theorem rows_rest {p l r : Addr} {H Hd : Hp} {Q : VK} {W : List Lv} {G low mg ms : Int} {i ml : Nat} (ap : r ≠ p ∧ r ≠ l) (hr : H r = none) (hpd : PoolAt Hd p l) (sc : SameP p l H Hd) (hrc : RowsAt Hd r W) (hWi : W.length = i) (hi : i ≤ 4) (m1 : 1 ≤ mg) (m2 : mg ≤ 1000) (m3 : 2 ≤ ms) (m4 : ms ≤ 100)
    (hG1 : 1 * 1 ≤ G) (hG2 : G ≤ 1000 * 8)
    (hGd : W.length = 0 ∧ G = 1 ∧ low = 1 ∨ ROk W ∧ (lv W (W.length - 1)).g ∣ G ∧ low = (lv W (W.length - 1)).p) (bg : ∀ j, j < W.length → (lv W j).g ≤ mg) (bs : ∀ j, j < W.length → (lv W j).s ≤ ms) (hml : W.length ≤ ml)
    (q : ∀ (r : Addr) (W : List Lv) (H' : Hp), SameP p l H H' → PoolAt H' p l → H r = none → RowsAt H' r W → ROk W → RBd W mg ms ml → Q (.ref r) H') :
    sp__law_draw K [.ref p, .int (ms - 1)] Hd (fun y H2 => ∃ x, y = .int x ∧
      if mg < G then Q (.ref r) H2
      else CMul 4 (2 + x) ∧ CMul (4 * (2 + x)) G ∧
          if 4 * (2 + x) * G < low + 1 then Q (V.ref r) H2
          else sp__law_span K [V.ref p, V.int G, V.int (2 + x), V.int low] H2 (fun x_4 H1 => tyV K "list" (V.ref r) H1 ∧ ∀ (p_2 : Addr), H1 p_2 = none →
            ∃ x_5, upd H1 p_2 (HO.tup [V.int G, V.int (2 + x), x_4]) r = some (HO.lst x_5) ∧ x_5.length < sizeLine ∧
              drInv p l r mg ms ml H (i + 1) [some (V.ref p), some (V.int mg), some (V.int ms), some (V.int ml), some (V.ref r), some (V.int G), some x_4, some (V.int (0 + ↑i)), some (V.int (2 + x))] (upd (upd H1 p_2 (HO.tup [V.int G, V.int (2 + x), x_4])) r (HO.lst (x_5 ++ [V.ref p_2])))) E0) E0 := by
  refine draw (K := K) hpd (by omega) (log_small (by omega) (by omega)) fun s Hf s3 hpf d1 d2 => ⟨s, rfl, ?_⟩
  have h8 : 4 * 2 * 1 ≤ 4 * (2 + s) * G := Int.mul_le_mul (by omega) (by omega) (by omega) (by omega)
  have scf := sc.trans s3
  have hrf := RowsAt.sameP hpd hrc s3 ap.1 ap.2
  refine ite2 (fun e => ?_) fun e => ⟨.inr ⟨by omega, by omega⟩, .inr ⟨by omega, by omega⟩, ite2 (fun e2 => ?_) fun e2 => ?_⟩
  · exact q r W Hf scf hpf hr hrf (hGd.elim (fun z => by omega) fun z => z.1) ⟨bg, bs, hml⟩
  · exact q r W Hf scf hpf hr hrf (hGd.elim (fun z => by obtain ⟨_, z2, z3⟩ := z; subst z2 z3; omega) fun z => z.1) ⟨bg, bs, hml⟩
  · refine ⟨p, l, G, 2 + s, low, rfl, hpf, by omega, by omega, by omega, by omega, fun x Hg s4 hpg x1 x2 x3 => ?_⟩
    have hrg := RowsAt.sameP hpf hrf s4 ap.1 ap.2
    obtain ⟨ts, ha, hb, hc⟩ := hrg
    refine ⟨.inl ⟨rfl, _, SqL.of ha⟩, fun t ht => ?_⟩
    have s5 : Same Hg (upd Hg t (.tup [.int G, .int (2 + s), .int x])) := Same.new ht
    refine ⟨ts.map V.ref, s5 _ _ ha, ?_, ?_⟩
    · have : sizeLine = 16777216 := rfl
      rw [List.length_map]
      omega
    · have hx : x ≤ 4 * (2 + s) * G := by
        rcases x3 (by omega) with z | z <;> omega
      have hlow : low < x := x2
      have hW4 : W.length ≤ 4 := by omega
      have hlen : (W ++ [(⟨G, 2 + s, x⟩ : Lv)]).length = i + 1 := by simp [hWi]
      refine ⟨W ++ [⟨G, 2 + s, x⟩], G, x, _, _, rfl, SameP.updf ((scf.trans s4).step s5) hr, (hpg.new ht).updr ap, RowsAt.snoc (s5 _ _ ha) hb (fun i t q => s5 _ _ (hc i t q)) (updS _ _ _), ⟨hlen, fun z => by omega, fun _ => ?_, fun j hj => ?_, fun j hj => ?_⟩⟩
      · have e1 : lv (W ++ [(⟨G, 2 + s, x⟩ : Lv)]) (i + 1 - 1) = ⟨G, 2 + s, x⟩ := by rw [Nat.add_sub_cancel, ← hWi]; exact lv_app_eq
        rw [e1]
        refine ⟨ROk.snoc ?_ hW4 (by omega) (by omega) (by omega) (by omega) x1 hx, rfl, rfl, by omega⟩
        exact hGd.elim (fun z => .inl ⟨z.1, z.2.1⟩) fun z => .inr ⟨z.1, z.2.1, by have := z.2.2; omega⟩
      · rcases Nat.lt_or_ge j W.length with h | h
        · rw [lv_app_lt h]; exact bg j h
        · obtain rfl : j = W.length := by omega
          rw [lv_app_eq]; show G ≤ mg; omega
      · rcases Nat.lt_or_ge j W.length with h | h
        · rw [lv_app_lt h]; exact bs j h
        · obtain rfl : j = W.length := by omega
          rw [lv_app_eq]; show 2 + s ≤ ms; omega
def t__law_draw_rows (K : Frag) (w : World) : TS :=
  (tSeq (tPar3 4 5 6 (tCons (tLst tNil) (tCons (tC (.int 1)) (tCons (tC (.int 1)) tNil))))
  (tSeq (tFor (iRng1 (tCons (tOp oAdd (tC (.int 1)) (tFn (sp__law_draw K) E0 (tCons (tVar 0) (tCons (tVar 3) tNil)))) tNil)) (gName 7)
    (tSeq (tIfS (tTest (tOp oGt (tVar 7) (tC (.int 0)))) (tAsg (tOp oMul (tVar 5) (tOp rIxLH (tLst (tCons (tC (.int 2)) (tCons (tC (.int 3)) (tCons (tC (.int 4)) (tCons (tC (.int 2)) (tCons (tC (.int 5)) (tCons (tC (.int 6)) (tCons (tC (.int 1)) (tCons (tC (.int 8)) tNil))))))))) (tFn (sp__law_draw K) E0 (tCons (tVar 0) (tCons (tC (.int 8)) tNil))))) (gName 5)) tNext)
  (tSeq (tAsg (tOp oAdd (tC (.int 2)) (tFn (sp__law_draw K) E0 (tCons (tVar 0) (tCons (tOp oSub (tVar 2) (tC (.int 1))) tNil)))) (gName 8))
  (tSeq (tIfS (tOr (tTest (tOp oGt (tVar 5) (tVar 1))) (tTest (tOp oGt (tOp oAdd (tVar 6) (tC (.int 1))) (tOp oMul (tOp oMul (tC (.int 4)) (tVar 8)) (tVar 5))))) (tRet (tVar 4)) tNext)
  (tSeq (tAsg (tFn (sp__law_span K) E0 (tCons (tVar 0) (tCons (tVar 5) (tCons (tVar 8) (tCons (tVar 6) tNil))))) (gName 6))
  (tDrop (tBM K "list" rAppend (tVar 4) (tCons (tTup (tCons (tVar 5) (tCons (tVar 8) (tCons (tVar 6) tNil)))) tNil))))))))
  (tRet (tVar 4))))
def n__law_draw_rows : List Str := ["_law_pool", "_law_most_grain", "_law_most_slots", "_law_most_levels", "_law_rows", "_law_grain", "_law_low", "_law_k", "_law_slots"]
theorem rd__law_draw_rows (vs : List V) (H : Hp) (Q : VK) (E : XK) (h : sp__law_draw_rows K vs H Q E) : t__law_draw_rows K w { nx := fun _ H' => Q .non H', rt := Q } (L2.start n__law_draw_rows vs) H := by
  obtain ⟨p, l, mg, ms, ml, rfl, hp, m1, m2, m3, m4, m5, m6, q⟩ := h
  unfold t__law_draw_rows n__law_draw_rows tPar3 tBM rAppend
  walk_at "rsl2"
  intro r hr
  have ap := hp.apart hr
  have hp0 := hp.new (o := .lst []) hr
  refine ⟨_, rfl, _, rfl, draw (K := K) hp0 (by omega) (log_small (by omega) (by omega)) fun n0 H0 s0 hp1 n1 n2 => ⟨_, _, rfl, rfl, _, rfl, by omega, by omega, for_range
    (drInv p l r mg ms ml H)
    ⟨[], 1, 1, none, none, rfl, ((SameP.refl p l H).step (Same.new hr)).trans s0, hp1, ⟨[], s0 _ _ ap.1 ap.2 (updS _ _ _), rfl, fun i t e => by simp at e⟩, ⟨rfl, fun _ => ⟨rfl, rfl⟩, fun z => by omega, fun j z => by simp at z, fun j z => by simp at z⟩⟩ ?_ ?_⟩⟩
  · rintro i σ Hc hi ⟨W, g, low, v7, v8, rfl, sc, hpc, hrc, hG⟩
    have hWi := hG.len
    walk_at "rsl2"
    refine ite2 (fun h0 => ⟨by decide, ?_⟩) fun h0 => ?_
    · obtain ⟨hRk, hg, hlow, hg2⟩ := hG.p (by omega)
      have hall := hRk.ok.all (i - 1) (by omega)
      intro r1 hr1
      refine drawAt hpc hr1 (by decide) (by decide) rfl fun i1 x1 Hd s1 hpd _ a1 b1 c1 => ?_
      obtain ⟨f, hf, hfe⟩ := atInts (xs := [2, 3, 4, 2, 5, 6, 1, 8]) a1 b1
      obtain rfl : x1 = .int f := by
        have : atI ([2, 3, 4, 2, 5, 6, 1, 8].map V.int) i1 = some x1 := c1
        rw [hfe] at this
        exact (Option.some.inj this).symm
      have hf1 : 1 ≤ f ∧ f ≤ 8 := by
        simp at hf
        omega
      have hG1 : 1 * 1 ≤ g * f := Int.mul_le_mul (by omega) hf1.1 (by omega) (by omega)
      have hG2 : g * f ≤ 1000 * 8 := Int.mul_le_mul (by omega) hf1.2 (by omega) (by omega)
      have hGd : W.length = 0 ∧ g * f = 1 ∧ low = 1 ∨ ROk W ∧ (lv W (W.length - 1)).g ∣ g * f ∧ low = (lv W (W.length - 1)).p := .inr ⟨hRk, by rw [hWi, ← hg]; exact Int.dvd_mul_right _ _, by rw [hWi]; exact hlow⟩
      have sc := sc.trans s1
      have hrc := RowsAt.sameP hpc hrc s1 ap.1 ap.2
      refine ⟨f, rfl, .inr ⟨by omega, by omega⟩, ?_⟩
      generalize g * f = G at hG1 hG2 hGd ⊢
      exact rows_rest ap hr hpd sc hrc hWi (by omega) m1 m2 m3 m4 hG1 hG2 hGd hG.bg hG.bs (by omega) q
    · obtain ⟨hg1, hlow1⟩ := hG.z (by omega)
      exact rows_rest ap hr hpc sc hrc hWi (by omega) m1 m2 m3 m4 (by omega) (by omega) (.inl ⟨by omega, hg1, hlow1⟩) hG.bg hG.bs (by omega) q
  · rintro σ H1 ⟨W, g, low, v7, v8, rfl, sc, hpc, hrc, hG⟩
    exact ⟨_, rfl, q r W H1 sc hpc hr hrc (hG.p (by omega)).1 ⟨hG.bg, hG.bs, by have := hG.len; omega⟩⟩
end
end Tw
/-! Tw: spots as data -/
namespace Tw
open PySem PySem.Spec PyProof.Rows L2 He TwM
open PySem.W (Frag)
section
variable {K : Frag} {H : Hp}
def dSp : Option Spot → PyData
  | none => .none
  | some sp => .tuple [.int sp.lv, .int sp.pt, .int sp.due]
theorem OSp.dp {v : V} {o : Option Spot} (h : OSp H v o) : Dp K H v (dSp o) := by
  cases o with
  | none =>
    have e : v = .non := h
    subst e
    exact .non
  | some sp =>
    obtain ⟨p, rfl, hp⟩ := h
    exact .tup (SqT.of hp) (.cons (.int _) (.cons (.int _) (.cons (.int _) .nil)))
theorem OSps.dp : ∀ {xs : List V} {os : List (Option Spot)}, OSps H xs os → DpAll K H xs (os.map dSp)
  | [], [], _ => .nil
  | [], _ :: _, h => by have := h.1; simp at this
  | _ :: _, [], h => by have := h.1; simp at this
  | x :: xs, o :: os, h => .cons (h.2 0 x o rfl rfl).dp (OSps.dp (xs := xs) (os := os) ⟨by have := h.1; simpa using this, fun i v q e1 e2 => h.2 (i + 1) v q (by simpa using e1) (by simpa using e2)⟩)
theorem dSp_lay (o : Option Spot) : (dSp o).canLay0 = true := by cases o <;> rfl
theorem dSp_depth (o : Option Spot) : (dSp o).depth ≤ 1 := by
  cases o with
  | none => exact Nat.zero_le _
  | some sp => exact Nat.le_refl _
theorem lay_all : ∀ os : List (Option Spot), PyData.canLayAll0 (os.map dSp) = true
  | [] => rfl
  | o :: os => by
    show ((dSp o).canLay0 && PyData.canLayAll0 (os.map dSp)) = true
    rw [dSp_lay, lay_all os]
    rfl
theorem depth_all : ∀ os : List (Option Spot), PyData.depthAll (os.map dSp) ≤ 1
  | [] => Nat.zero_le _
  | o :: os => by
    show max (dSp o).depth (PyData.depthAll (os.map dSp)) ≤ 1
    have := dSp_depth o
    have := depth_all os
    omega
theorem shaped_list (os : List (Option Spot)) : SeqAt.shaped (.list (os.map dSp)) = true := by
  unfold SeqAt.shaped
  rw [show (PyData.list (os.map dSp)).canLay0 = PyData.canLayAll0 (os.map dSp) from rfl, lay_all]
  have := depth_all os
  exact decide_eq_true (show PyData.depthAll (os.map dSp) + 1 ≤ 64 by omega)
theorem shaped_sp (o : Option Spot) : SeqAt.shaped (dSp o) = true := by
  unfold SeqAt.shaped
  rw [dSp_lay]
  exact decide_eq_true (Nat.le_trans (dSp_depth o) (by decide))
theorem eqv_nil (os : List (Option Spot)) : PyData.eqv (.list (os.map dSp)) (.list []) = os.isEmpty := by
  cases os with
  | nil => rfl
  | cons o os => rfl
end
/-- what a waiting timer is after a lump -/
def passM (W : List Lv) (B : Bk) (sp : Spot) (before now : Int) (mode : Str) : Option Spot :=
  if mode = "each" then
    match fol W B (some now) (mu sp before) sp before 0 with
    | some r => r.1
    | none => none
  else
    match (visited W B sp (if mode = "last" then now - 1 else before) now).getLast? with
    | none => some sp
    | some o => o
end Tw
/-! Tw: walks from visit to visit; lumps of one length -/
namespace Tw
open TwM
section
variable {W : List Lv} {B : Bk}
/-- a timer from visit to visit, until it fires at T -/
inductive Walks (W : List Lv) (B : Bk) : Spot → Int → Int → Prop
  | fired {sp : Spot} {tick : Int} : (visited W B sp (va (lv W sp.lv) sp.pt tick - 1) (va (lv W sp.lv) sp.pt tick)).getLast? = some none → Walks W B sp tick (va (lv W sp.lv) sp.pt tick)
  | on {sp sp' : Spot} {tick T : Int} : (visited W B sp (va (lv W sp.lv) sp.pt tick - 1) (va (lv W sp.lv) sp.pt tick)).getLast? = some (some sp') → Walks W B sp' (va (lv W sp.lv) sp.pt tick) T → Walks W B sp tick T
theorem Walks.eq {sp : Spot} {tick T T' : Int} (h : Walks W B sp tick T) (h' : Walks W B sp tick T') : T = T' := by
  induction h with
  | fired e =>
    cases h' with
    | fired _ => rfl
    | on e' _ => rw [e] at e'; cases e'
  | on e _ ih =>
    cases h' with
    | fired e' => rw [e] at e'; cases e'
    | on e' q => rw [e] at e'; cases e'; exact ih q
theorem skipped_no {sp : Spot} {tick : Int} {lim : Option Int} (h : sp.due - tick < reach W) : skipped W sp tick lim = (0, 0) := by
  unfold skipped
  rw [if_pos (.inr h)]
/-- below the range nothing is leapt over -/
theorem fol_walks (ok : WOk W) : ∀ (n : Nat) {sp : Spot} {tick mv : Int} {r : Res}, fol W B none n sp tick mv = some r → sp.due - tick ≤ reach W → sp.lv < W.length → Walks W B sp tick r.2.1
  | 0, _, _, _, _, h, _, _ => by cases h
  | n + 1, sp, tick, mv, r, h, hr, hl => by
    have hall := ok.all _ hl
    have hgt := va_gt (l := lv W sp.lv) (by omega) (by omega) sp.pt tick
    unfold fol at h
    dsimp only at h
    rw [if_neg (by unfold over; exact Bool.false_ne_true)] at h
    cases hq : (visited W B sp (va (lv W sp.lv) sp.pt tick - 1) (va (lv W sp.lv) sp.pt tick)).getLast? with
    | none => rw [hq] at h; cases h
    | some o =>
      rw [hq] at h
      cases o with
      | none => cases h; exact .fired hq
      | some sp' =>
        dsimp only at h
        obtain ⟨c1, c2, c3, c4⟩ := visGo_last ok _ hq
        rw [skipped_no (by rw [c2]; omega), if_neg (by decide)] at h
        exact .on hq (fol_walks ok n h (by rw [c2]; omega) c1)
theorem va_most {l : Lv} (hg : 0 < l.g) (hs : 0 < l.s) (pt now : Int) : va l pt now ≤ now + l.s * l.g := by
  unfold va
  have h1 := Int.emod_lt_of_pos (pt - now / l.g - 1) hs
  have h2 : (now / l.g + 1 + (pt - now / l.g - 1) % l.s) * l.g ≤ (now / l.g + l.s) * l.g := Int.mul_le_mul_of_nonneg_right (by omega) (by omega)
  have h3 := Int.ediv_mul_le now (b := l.g) (by omega)
  have h4 := Int.add_mul (now / l.g) l.s l.g
  omega
theorem va_step (ok : WOk W) {i : Nat} (hi : i < W.length) (pt now : Int) : now < va (lv W i) pt now ∧ va (lv W i) pt now ≤ now + 100000 := by
  have hall := ok.all _ hi
  refine ⟨va_gt (by omega) (by omega) pt now, ?_⟩
  have h1 := va_most (l := lv W i) (by omega) (by omega) pt now
  have h2 : (lv W i).s * (lv W i).g ≤ 100 * 1000 := Int.mul_le_mul (by omega) (by omega) (by omega) (by omega)
  omega
theorem mu_step {sp sp' : Spot} {tick t bf : Int} (ok : WOk W) (ht : tick < t) (hq : (visited W B sp bf t).getLast? = some (some sp')) : mu sp' t + 1 ≤ mu sp tick ∧ sp'.lv < W.length ∧ sp'.due = sp.due := by
  obtain ⟨c1, c2, c3, c4⟩ := visGo_last ok _ hq
  refine ⟨?_, c1, c2⟩
  have h0 : sp.lv ≠ 0 := fun e => by
    have := visGo_zero (W := W) (B := B) (before := bf) (now := t) (order W B) e (some sp') (List.mem_of_getLast? hq)
    cases this
  unfold mu
  rw [if_neg h0]
  split
  · omega
  · rename_i hz
    rcases c4 with ⟨d1, d2⟩ | ⟨d1, d2⟩
    · rw [c2]; omega
    · exact absurd (by rw [d2]) hz
theorem Walks.bound (ok : WOk W) {sp : Spot} {tick T : Int} (h : Walks W B sp tick T) (hl : sp.lv < W.length) : tick < T ∧ T ≤ tick + 100000 * (mu sp tick : Int) := by
  induction h with
  | @fired sp tick e =>
    have hs := va_step ok hl sp.pt tick
    have : 1 ≤ mu sp tick := by unfold mu; split <;> omega
    omega
  | @on sp sp' tick T e q ih =>
    have hs := va_step ok hl sp.pt tick
    have hm := mu_step ok hs.1 e
    have := ih hm.2.1
    omega
/-- lumps of one length: nx tells the end of the next lump that visits, bf its beginning -/
inductive Beats (W : List Lv) (B : Bk) (nx : Lv → Int → Int → Option Int → Prop) (bf : Int → Int) : Spot → Int → Option Int → Prop
  | lost {sp : Spot} {tick : Int} : nx (lv W sp.lv) sp.pt tick none → Beats W B nx bf sp tick none
  | fired {sp : Spot} {tick t : Int} : nx (lv W sp.lv) sp.pt tick (some t) → (visited W B sp (bf t) t).getLast? = some none → Beats W B nx bf sp tick (some t)
  | on {sp sp' : Spot} {tick t : Int} {o : Option Int} : nx (lv W sp.lv) sp.pt tick (some t) → (visited W B sp (bf t) t).getLast? = some (some sp') → Beats W B nx bf sp' t o → Beats W B nx bf sp tick o
theorem Beats.one {nx : Lv → Int → Int → Option Int → Prop} {bf : Int → Int} (ok : WOk W) (hx : ∀ i pt tick o, i < W.length → nx (lv W i) pt tick o → o = some (va (lv W i) pt tick)) (hb : ∀ t, bf t = t - 1) {sp : Spot} {tick : Int} {o : Option Int}
    (h : Beats W B nx bf sp tick o) (hl : sp.lv < W.length) : ∃ T, o = some T ∧ Walks W B sp tick T := by
  induction h with
  | lost e => have := hx _ _ _ _ hl e; cases this
  | @fired sp tick t e q =>
    obtain rfl := Option.some.inj (hx _ _ _ _ hl e)
    rw [hb] at q
    exact ⟨_, rfl, .fired q⟩
  | @on sp sp' tick t o e q z ih =>
    obtain rfl := Option.some.inj (hx _ _ _ _ hl e)
    rw [hb] at q
    obtain ⟨c1, c2, c3, c4⟩ := visGo_last ok _ q
    obtain ⟨T, rfl, hT⟩ := ih c1
    exact ⟨T, rfl, .on q hT⟩
/-- a lump that reaches beyond a visit visits -/
theorem isVis_in {l : Lv} {pt v bf now : Int} (hg : 0 < l.g) (hs : 0 < l.s) (h : l.g * l.s ∣ v - pt * l.g) (h1 : bf < v) (h2 : v ≤ now) : isVis l pt bf now = true := by
  obtain ⟨j, hj⟩ := h
  have e : v = (pt + l.s * j) * l.g := by rw [Int.add_mul, Int.mul_comm (l.s * j) l.g, ← Int.mul_assoc]; omega
  unfold isVis
  have h3 : bf / l.g < pt + l.s * j := Int.ediv_lt_of_lt_mul hg (by omega)
  have h4 : pt + l.s * j ≤ now / l.g := Int.le_ediv_of_mul_le hg (by omega)
  have h5 : (pt - bf / l.g - 1) % l.s = (pt + l.s * j - bf / l.g - 1) % l.s := by
    rw [show pt + l.s * j - bf / l.g - 1 = (pt - bf / l.g - 1) + l.s * j by omega, Int.add_mul_emod_self_left]
  have h6 : (pt + l.s * j - bf / l.g - 1) % l.s ≤ pt + l.s * j - bf / l.g - 1 := by
    have := Int.emod_def (pt + l.s * j - bf / l.g - 1) l.s
    have h7 : 0 ≤ (pt + l.s * j - bf / l.g - 1) / l.s := Int.ediv_nonneg (by omega) (by omega)
    have h8 : 0 ≤ l.s * ((pt + l.s * j - bf / l.g - 1) / l.s) := Int.mul_nonneg (by omega) h7
    omega
  rw [h5]
  exact decide_eq_true (by omega)
theorem va_dvd {l : Lv} (hs : 0 < l.s) (pt now : Int) : l.g * l.s ∣ va l pt now - pt * l.g := by
  unfold va
  have e := Int.emod_def (pt - now / l.g - 1) l.s
  refine ⟨-((pt - now / l.g - 1) / l.s), ?_⟩
  rw [e, ← Int.sub_mul, Int.mul_neg, Int.mul_assoc, ← Int.mul_neg, Int.mul_comm l.g]
  congr 1
  generalize l.s * ((pt - now / l.g - 1) / l.s) = z
  omega
/-- the first tick of a slot's ticks after a tick -/
theorem va_uniq {l : Lv} (hg : 0 < l.g) (hs : 0 < l.s) {pt tick k : Int} (h1 : 1 ≤ k) (h2 : k ≤ l.g * l.s) (h : l.g * l.s ∣ tick + k - pt * l.g) : tick + k = va l pt tick := by
  have a := va_dvd (l := l) hs pt tick
  have b := va_gt (l := l) hg hs pt tick
  have c := va_most (l := l) hg hs pt tick
  rw [Int.mul_comm l.s] at c
  have d := Int.dvd_sub h a
  rw [show tick + k - pt * l.g - (va l pt tick - pt * l.g) = tick + k - va l pt tick by omega] at d
  generalize l.g * l.s = m at *
  obtain ⟨z, hz⟩ := d
  have hz0 : z = 0 := by
    rcases Int.lt_trichotomy z 0 with q | q | q
    · have : m * z ≤ m * (-1) := Int.mul_le_mul_of_nonneg_left (by omega) (by omega)
      omega
    · exact q
    · have : m * 1 ≤ m * z := Int.mul_le_mul_of_nonneg_left (by omega) (by omega)
      omega
  rw [hz0] at hz
  omega
end
end Tw
/-! Tw: a walk that leaps tells what a walk from visit to visit tells -/
namespace Tw
open TwM
section
variable {W : List Lv} {B : Bk} {lim : Option Int}
/-- from visit to visit, without leaps -/
def wl (W : List Lv) (B : Bk) (lim : Option Int) : Nat → Spot → Int → Int → Option Res
  | 0, _, _, _ => none
  | n + 1, sp, tick, mv =>
    let t := va (lv W sp.lv) sp.pt tick
    if over lim t = true then some (some sp, tick, mv)
    else
      let found := visited W B sp (t - 1) t
      match found.getLast? with
      | none => none
      | some none => some (none, t, mv + found.length - 1)
      | some (some sp') => wl W B lim n sp' t (mv + found.length)
theorem wl_ends (ok : WOk W) (B : Bk) (lim : Option Int) : ∀ (n : Nat) (sp : Spot) (tick mv : Int), sp.lv < W.length → mu sp tick ≤ n → ∃ r, wl W B lim n sp tick mv = some r
  | 0, sp, tick, mv, _, h => by unfold mu at h; split at h <;> omega
  | n + 1, sp, tick, mv, hl, h => by
    have hgt := va_step ok hl sp.pt tick
    unfold wl
    dsimp only
    split
    · exact ⟨_, rfl⟩
    · cases hq : (visited W B sp (va (lv W sp.lv) sp.pt tick - 1) (va (lv W sp.lv) sp.pt tick)).getLast? with
      | none => exact absurd (List.getLast?_eq_none_iff.mp hq) (visited_ne ok hl tick)
      | some o =>
        cases o with
        | none => exact ⟨_, rfl⟩
        | some sp' =>
          obtain ⟨m1, m2, m3⟩ := mu_step ok hgt.1 hq
          exact wl_ends ok B lim n sp' _ _ m2 (by omega)
theorem wl_mono : ∀ (n : Nat) {sp : Spot} {tick mv : Int} {r : Res}, wl W B lim n sp tick mv = some r → ∀ m, n ≤ m → wl W B lim m sp tick mv = some r
  | 0, _, _, _, _, h, _, _ => by cases h
  | n + 1, sp, tick, mv, r, h, m, hm => by
    obtain ⟨m, rfl⟩ : ∃ k, m = k + 1 := ⟨m - 1, by omega⟩
    unfold wl at h ⊢
    dsimp only at h ⊢
    split at h
    · rename_i h1
      rw [if_pos h1]; exact h
    · rename_i h1
      rw [if_neg h1]
      split at h
      · cases h
      · exact h
      · exact wl_mono n h m (by omega)
theorem wl_eq {n m : Nat} {sp : Spot} {tick mv : Int} {r r' : Res} (h : wl W B lim n sp tick mv = some r) (h' : wl W B lim m sp tick mv = some r') : r = r' := by
  have e1 := wl_mono n h (max n m) (Nat.le_max_left _ _)
  have e2 := wl_mono m h' (max n m) (Nat.le_max_right _ _)
  rw [e1] at e2
  exact Option.some.inj e2
/-- a timer beyond the range lies in the last level -/
def Proper (W : List Lv) (sp : Spot) (tick : Int) : Prop := reach W ≤ sp.due - tick → sp.lv = W.length - 1
theorem le_reach (ok : WOk W) {i : Nat} (hi : i < W.length) : (lv W i).p ≤ reach W := by
  unfold reach
  rcases Nat.lt_or_ge i (W.length - 1) with h | h
  · have := asc_le ok (W.length - 1 - i - 1) i (by omega)
    rw [show i + (W.length - 1 - i - 1) + 1 = W.length - 1 by omega] at this
    omega
  · rw [show i = W.length - 1 by omega]; exact Int.le_refl _
theorem spotAt_far (ok : WOk W) {now rest due : Int} (h : reach W ≤ rest) : spotAt W B now rest due = ⟨W.length - 1, rnd B.up (now + reach W - 1) (lv W (W.length - 1)).g, due⟩ := by
  unfold spotAt
  rw [levelOf_isN fun j hj => Int.le_trans (le_reach ok hj) h]
theorem spotAt_proper (ok : WOk W) (now due : Int) : Proper W (spotAt W B now (due - now) due) now := fun h => by
  rw [spotAt_due] at h
  rw [spotAt_far ok h]
theorem visGo_not {b n : Int} : ∀ (is rest : List Nat) {sp : Spot}, sp.lv ∉ is → visGo W B b n (is ++ rest) sp = visGo W B b n rest sp
  | [], _, _, _ => rfl
  | i :: is, rest, sp, h => by
    rw [List.mem_cons, not_or] at h
    rw [List.cons_append]
    show (if _ then _ else _) = _
    rw [if_neg (fun z => h.1 z.1)]
    exact visGo_not is rest h.2
theorem visGo_out {b n : Int} (is : List Nat) {sp : Spot} (h : sp.lv ∉ is) : visGo W B b n is sp = [] := by
  have := visGo_not (W := W) (B := B) (b := b) (n := n) is [] h
  rw [List.append_nil] at this
  rw [this]; rfl
/-- a visit of a timer that stays beyond the range -/
theorem visit_far (ok : WOk W) (hf : B.fire = false) {sp : Spot} (h1 : 1 < W.length) (hl : sp.lv = W.length - 1) {t : Int} (hv : isVis (lv W sp.lv) sp.pt (t - 1) t = true) (hr : reach W ≤ sp.due - t) :
    visited W B sp (t - 1) t = [some (spotAt W B t (sp.due - t) sp.due)] := by
  have hre : 2 ≤ reach W := (ok.all (W.length - 1) (by omega)).2.2.2.2
  have ht : taken W B sp t = some (spotAt W B t (sp.due - t) sp.due) := by
    unfold taken
    rw [if_neg (by rw [hl, hf]; rintro (z | z); omega; cases z), if_pos (by omega)]
  have hs : (spotAt W B t (sp.due - t) sp.due).lv = W.length - 1 := by rw [spotAt_far ok hr]
  obtain ⟨k, hk⟩ : ∃ k, W.length = k + 1 := ⟨W.length - 1, by omega⟩
  have hlk : sp.lv = k := by omega
  have step : ∀ is, k ∉ is → visGo W B (t - 1) t (k :: is) sp = [some (spotAt W B t (sp.due - t) sp.due)] := fun is hi => by
    show (if _ then _ else _) = _
    rw [if_pos ⟨hlk, by rw [← hlk]; exact hv⟩, ht]
    show _ :: visGo W B (t - 1) t is _ = _
    rw [visGo_out is (by rw [hs, show W.length - 1 = k by omega]; exact hi)]
  unfold visited order
  split
  · rw [hk, List.range_succ, List.reverse_append]
    exact step _ (by simp)
  · rw [hk, List.range_succ, visGo_not _ _ (by rw [hlk]; simp)]
    exact step [] (by simp)
/-- so many visits beyond the range -/
theorem wl_far (ok : WOk W) (hf : B.fire = false) (h1 : 1 < W.length) {due step : Int} : ∀ (j : Nat) {t mv : Int} (m : Nat), (lv W (W.length - 1)).g ∣ t → reach W ≤ due - t →
    va (lv W (W.length - 1)) (spotAt W B t (due - t) due).pt t = t + step → j * step ≤ due - t - reach W → (∀ l, lim = some l → t + j * step ≤ l) →
    wl W B lim (m + j) (spotAt W B t (due - t) due) t mv = wl W B lim m (spotAt W B (t + j * step) (due - (t + j * step)) due) (t + j * step) (mv + j)
  | 0, t, mv, m, _, _, _, _, _ => by simp
  | j + 1, t, mv, m, hg, hr, hs, hj, hlim => by
    have hall := ok.all (W.length - 1) (by omega)
    have hgt := va_gt (l := lv W (W.length - 1)) (by omega) (by omega) (spotAt W B t (due - t) due).pt t
    rw [hs] at hgt
    have hs0 : 0 < step := by omega
    have e1 : ((j + 1 : Nat) : Int) * step = j * step + step := by rw [Int.natCast_add, Int.add_mul]; simp
    rw [e1] at hj hlim
    have hj0 : 0 ≤ (j : Int) * step := Int.mul_nonneg (by omega) (by omega)
    have hfar := spotAt_far (B := B) ok (now := t) (due := due) hr
    have hlv : (spotAt W B t (due - t) due).lv = W.length - 1 := by rw [hfar]
    have hdu : (spotAt W B t (due - t) due).due = due := spotAt_due _ _ _ _ _
    have hgs : (lv W (W.length - 1)).g ∣ step := by
      have h2 : (lv W (W.length - 1)).g ∣ t + step := by rw [← hs]; exact Int.dvd_mul_left _ _
      have := Int.dvd_sub h2 hg
      rwa [show t + step - t = step by omega] at this
    have hvis : isVis (lv W (W.length - 1)) (spotAt W B t (due - t) due).pt (t + step - 1) (t + step) = true := by
      rw [← hs]; exact va_vis (by omega) (by omega) _ _
    have hv := visit_far ok hf h1 hlv (t := t + step) (by rw [hlv]; exact hvis) (by rw [hdu]; omega)
    rw [hdu] at hv
    have ho : over lim (t + step) = false := by
      cases hl : lim with
      | none => rfl
      | some l =>
        have := hlim l hl
        exact decide_eq_false (by omega)
    have hfar1 := spotAt_far (B := B) ok (now := t + step) (due := due) (rest := due - (t + step)) (by omega)
    have hs1 : va (lv W (W.length - 1)) (spotAt W B (t + step) (due - (t + step)) due).pt (t + step) = t + step + step := by
      have e2 : (spotAt W B (t + step) (due - (t + step)) due).pt = (spotAt W B t (due - t) due).pt + step / (lv W (W.length - 1)).g := by
        rw [hfar, hfar1]
        show rnd B.up (t + step + reach W - 1) _ = rnd B.up (t + reach W - 1) _ + _
        rw [show t + step + reach W - 1 = (t + reach W - 1) + step by omega]
        exact rnd_shiftD (by omega) hgs
      rw [e2, va_shift (by omega) hgs, hs]
    have ih := wl_far ok hf h1 (due := due) (step := step) j (t := t + step) (mv := mv + 1) m (Int.dvd_add hg hgs) (by omega) hs1 (by omega) (fun l hl => by have := hlim l hl; omega)
    rw [show m + (j + 1) = (m + j) + 1 by omega]
    show (let t0 := va (lv W (spotAt W B t (due - t) due).lv) (spotAt W B t (due - t) due).pt t; if over lim t0 = true then _ else _) = _
    dsimp only
    rw [hlv, hs, ho, if_neg Bool.false_ne_true, hv]
    show wl W B lim (m + j) (spotAt W B (t + step) (due - (t + step)) due) (t + step) (mv + ((1 : Nat) : Int)) = _
    rw [show mv + ((1 : Nat) : Int) = mv + 1 by simp, ih, e1]
    rw [show t + step + j * step = t + (j * step + step) by omega, show mv + 1 + (j : Int) = mv + ((j + 1 : Nat) : Int) by rw [Int.natCast_add]; omega]
theorem fol_wl (ok : WOk W) : ∀ (n : Nat) {sp : Spot} {tick mv : Int} {r : Res}, Proper W sp tick → sp.lv < W.length → fol W B lim n sp tick mv = some r → ∃ m, wl W B lim m sp tick mv = some r
  | 0, _, _, _, _, _, _, h => by cases h
  | n + 1, sp, tick, mv, r, hp, hl, h => by
    have hgt := va_step ok hl sp.pt tick
    have hall := ok.all _ hl
    have htd : (lv W sp.lv).g ∣ va (lv W sp.lv) sp.pt tick := Int.dvd_mul_left _ _
    unfold fol at h
    dsimp only at h
    by_cases ho : over lim (va (lv W sp.lv) sp.pt tick) = true
    · rw [if_pos ho] at h
      exact ⟨1, by unfold wl; dsimp only; rw [if_pos ho]; exact h⟩
    · rw [if_neg ho] at h
      have go : ∀ m sp', (visited W B sp (va (lv W sp.lv) sp.pt tick - 1) (va (lv W sp.lv) sp.pt tick)).getLast? = some (some sp') → wl W B lim m sp' (va (lv W sp.lv) sp.pt tick) (mv + (visited W B sp (va (lv W sp.lv) sp.pt tick - 1) (va (lv W sp.lv) sp.pt tick)).length) = some r →
          ∃ m, wl W B lim m sp tick mv = some r := fun m sp' hq hw => ⟨m + 1, by unfold wl; dsimp only; rw [if_neg ho, hq]; exact hw⟩
      cases hq : (visited W B sp (va (lv W sp.lv) sp.pt tick - 1) (va (lv W sp.lv) sp.pt tick)).getLast? with
      | none => rw [hq] at h; cases h
      | some o =>
        rw [hq] at h
        cases o with
        | none => exact ⟨1, by unfold wl; dsimp only; rw [if_neg ho, hq]; exact h⟩
        | some sp' =>
          dsimp only at h
          obtain ⟨c1, c2, c3, c4⟩ := visGo_last ok _ hq
          have h0 : sp.lv ≠ 0 := fun e => by
            have := visGo_zero (W := W) (B := B) (before := va (lv W sp.lv) sp.pt tick - 1) (now := va (lv W sp.lv) sp.pt tick) (order W B) e (some sp') (List.mem_of_getLast? hq)
            cases this
          have hre : 2 ≤ reach W := (ok.all (W.length - 1) (by omega)).2.2.2.2
          generalize va (lv W sp.lv) sp.pt tick = t at *
          have hp' : Proper W sp' t := fun z => by
            rcases c4 with ⟨d1, d2⟩ | ⟨d1, d2⟩
            · rw [c2] at z
              rw [d2, spotAt_far ok z]
            · omega
          split at h
          · rename_i hk
            obtain ⟨k1, k2, k3, k4⟩ := skipped_pos hk
            have hstep : 0 < (skipped W sp' t lim).2 := by
              have := va_step ok c1 sp'.pt t
              omega
            have hlim : ∀ l, lim = some l → t + (skipped W sp' t lim).1 * (skipped W sp' t lim).2 ≤ l := fun l hl => by
              have e : (skipped W sp' t lim).1 ≤ (l - t) / (skipped W sp' t lim).2 := by
                subst hl
                unfold skipped at hk ⊢
                split
                · rename_i z; rw [if_pos z] at hk; simp at hk
                · exact Int.min_le_right _ _
              have := Int.mul_le_of_le_ediv hstep e
              omega
            have hfit : (skipped W sp' t lim).1 * (skipped W sp' t lim).2 ≤ sp'.due - t - reach W := by
              rw [← k3] at k4
              exact Int.mul_le_of_le_ediv hstep k4
            generalize hK : (skipped W sp' t lim).1 = K at *
            generalize hS : (skipped W sp' t lim).2 = step at *
            obtain ⟨j, rfl⟩ : ∃ j : Nat, K = (j : Int) := ⟨K.toNat, by omega⟩
            have hprop : Proper W (spotAt W B (t + j * step) (sp'.due - (t + j * step)) sp'.due) (t + j * step) := spotAt_proper ok _ _
            obtain ⟨m, hm⟩ := fol_wl ok n hprop (spotAt_lt ok _ _ _ _) h
            have hsl : sp.lv = W.length - 1 := hp (by rw [← c2]; omega)
            have hsp' : sp' = spotAt W B t (sp'.due - t) sp'.due := by
              rcases c4 with ⟨d1, d2⟩ | ⟨d1, d2⟩
              · rw [c2]; exact d2
              · rw [c2] at k2; omega
            have hva : va (lv W (W.length - 1)) (spotAt W B t (sp'.due - t) sp'.due).pt t = t + step := by
              rw [← hsp', ← k1]; omega
            have hw := wl_far (lim := lim) ok c3 (by omega) (due := sp'.due) (step := step) j (t := t) (mv := mv + (visited W B sp (t - 1) t).length) m (by rw [← hsl]; exact htd) k2 hva (by omega) hlim
            refine go (m + j) sp' hq ?_
            rw [← hsp'] at hw
            rw [hw]
            exact hm
          · obtain ⟨m, hm⟩ := fol_wl ok n hp' c1 h
            exact go m sp' hq hm
end
end Tw
/-! Tw: list(range(a, b)) at bounds of any size -/
namespace Tw
open PySem PySem.Spec PyProof.Rows L2
section
variable {prog : Program} {w : World} {A : Around} {E : Value → Shared → Prop} {s : Shared}
/-- the items of a long range go to a list -/
theorem extend_long {R : Result → Shared → Prop} {r S : Addr} {a b : Int} {t u v : Tok} {n c0 : Nat} {res : Value} (hh : A.handled = none) (hr : IsRange s.heap r a b 1 t u v) (hbig : Builtin.Range.small a b 1 = false) (hn : Builtin.Range.rangeSize a b 1 = n) (hlen : n ≤ 2 ^ 24)
    (hS : s.heap.get? S = some { cls := .type "list", data := .seq #[] c0 })
    (hR : ∀ h2 tk acc c2, (∀ x o, x ≠ S → s.heap.get? x = some o → h2.get? x = some o) → h2.get? S = some { cls := .type "list", dict := none, data := .seq acc c2, slots := #[] } → ItemsOf (fun i y => ∃ t, y = .int (a + i * 1) t) acc n → R (.ok (.ret res)) { s with heap := h2, toks := tk }) :
    wpAny (model prog w) A.in1 (Builtin.List.listExtendWith (.ref S) (.ref r) res) (fun fin t => match fin with | .done f => R (.ok f) t | .again q => q.quiet = true ∧ codeAny (model prog w) A q R t) (fun e t => R (.error e) t) s := by
  have nSr : S ≠ r := by
    rintro rfl
    rw [hr] at hS
    simp at hS
  have hlt := Heap.lt_size hS
  have nSI : S ≠ s.heap.objs.size := Nat.ne_of_lt hlt
  have loop : ∀ h c1 tk, IsLongIter h s.heap.objs.size (a + ((0 : Nat) : Int) * 1) ((n : Int) - ((0 : Nat) : Int)) 1 → (∀ x o, x ≠ S → s.heap.get? x = some o → h.get? x = some o) → h.get? S = some { cls := .type "list", data := .seq #[] c1 } →
      codeAny (model prog w) A (.builtin "list.extend.loop" ⟨[.ref S, .ref s.heap.objs.size, res], []⟩) R { s with heap := h, toks := tk } := by
    intro h c1 tk it keep hS1
    refine codeAny_extend_loopS (Walks.longrange (prog := prog) (w := w) (A := A.in1) hh s.heap.objs.size a 1 n).toS (by rw [sizeLine_eq]; omega) S (fun z => nSI (List.mem_singleton.mp z)) res n 0 _ #[] c1 rfl (Nat.zero_le _) it hS1 (ItemsOf.nil _) fun t2 acc c2 mv g1 g2 => ?_
    rw [Moved.eq_with mv]
    refine hR t2.heap t2.toks acc c2 (fun x o nx e => mv.heap x o (fun z => ?_) (keep x o nx e)) g1 g2
    rcases List.mem_cons.mp z with z | z
    · exact nx z
    · have := Heap.lt_size e
      rw [List.mem_singleton.mp z] at this
      exact Nat.lt_irrefl _ this
  unfold Builtin.List.listExtendWith
  refine wpAny_bind (wpAny_typeOf (T := "range") ⟨_, hr, rfl⟩ ?_)
  rw [show Builtin.List.listSameRef (.ref S) (.ref r) = false by simp [Builtin.List.listSameRef, nSr]]
  simp only [show (Value.type "range" == Value.type "list") = false by decide, show (Value.type "range" == Value.type "tuple") = false by decide, Bool.or_false, Bool.false_eq_true, if_false]
  refine wpAny_bind (wpAny_pyIter_longrange hr hbig (wpAny_bind (wpAny_holding (wpAny_hint_range (n := n) (Heap.get?_push_of_some _ hr) hn hlen ?_))))
  have it : IsLongIter (s.heap.push { cls := .type "longrange_iterator", data := .fields #[rawInt a, rawInt (Builtin.Range.rangeSize a b 1), rawInt 1] }) s.heap.objs.size (a + ((0 : Nat) : Int) * 1) ((n : Int) - ((0 : Nat) : Int)) 1 := by
    rw [hn]
    simpa using Heap.get?_push_size _ rfl
  have hS1 := Heap.get?_push_of_some { cls := .type "longrange_iterator", data := .fields #[rawInt a, rawInt (Builtin.Range.rangeSize a b 1), rawInt 1] } hS
  refine wpAny_ite_split (fun _ => wpAny_bind (wpAny_rule ?_)) fun _ => wpAny_pure ⟨plainId_quiet F.plain_extend_loop _, loop _ c0 _ it (fun x o _ e => Heap.get?_push_of_some _ e) hS1⟩
  refine wpAny_bind ?_
  show wpAny _ _ (updateSeq S (·.push .none) >>= fun _ => updateSeq S (·.pop)) _ _ _
  have hS2 := Heap.get?_update_self (Obj.mapSeq (·.push Value.none)) hS1 rfl
  refine wpAny_bind (wpAny_updateSeq hS1 rfl (wpAny_updateSeq (hz := by seq_fits) hS2 rfl (wpAny_pure ⟨plainId_quiet F.plain_extend_loop _, loop _ _ _ ?_ (fun x o nx e => ?_) (Heap.get?_update_self (Obj.mapSeq (·.pop)) hS2 rfl)⟩)))
  · exact (Heap.get?_update_other _ _ nSI).trans ((Heap.get?_update_other _ _ nSI).trans it)
  · exact (Heap.get?_update_other _ _ (Ne.symm nx)).trans ((Heap.get?_update_other _ _ (Ne.symm nx)).trans (Heap.get?_push_of_some _ e))
/-- list(range(a, b)), too long for a plain iterator -/
theorem call_list_long {Q : Value → Shared → Prop} {r : Addr} {a b : Int} {t u v : Tok} {n : Nat} (hh : A.handled = none) (hr : IsRange s.heap r a b 1 t u v) (hbig : Builtin.Range.small a b 1 = false) (hn : Builtin.Range.rangeSize a b 1 = n) (hlen : n ≤ 2 ^ 24)
    (hQ : ∀ h2 tk acc c2, (∀ x o, s.heap.get? x = some o → h2.get? x = some o) → h2.get? s.heap.objs.size = some { cls := .type "list", dict := none, data := .seq acc c2, slots := #[] } → ItemsOf (fun i y => ∃ t, y = .int (a + i * 1) t) acc n → Q (.ref s.heap.objs.size) { s with heap := h2, toks := tk }) :
    wpAny (model prog w) A (call (.type "list") [.ref r]) Q E s := by
  refine callType_codes (Q₁ := fun obj t => obj = .ref s.heap.objs.size ∧ t = { s with heap := s.heap.push { cls := .type "list", data := .seq #[] } }) F.called_list (F.typeCall_list_1 _) F.entry_list_init (code_list_new _ ⟨rfl, rfl⟩) ?_
  rintro obj t1 ⟨rfl, rfl⟩
  have hS : (s.heap.push { cls := .type "list", data := .seq #[] }).get? s.heap.objs.size = some { cls := .type "list", data := .seq #[] } := Heap.get?_push_size _ rfl
  have hr1 : IsRange (s.heap.push { cls := .type "list", data := .seq #[] }) r a b 1 t u v := Heap.get?_push_of_some _ hr
  have nr : r ≠ s.heap.objs.size := Nat.ne_of_lt (Heap.lt_size hr)
  refine ⟨⟨_, hS, rfl⟩, F.args_list_init_2 _ _, ?_⟩
  show wpAny _ _ (do let old ← Builtin.List.listItems (.ref s.heap.objs.size); Builtin.List.listUpdate (.ref s.heap.objs.size) (fun _ => #[]); letGo old.toList.reverse; Builtin.List.listExtendWith (.ref s.heap.objs.size) (.ref r) .none) _ _ _
  refine wpAny_bind ?_
  unfold Builtin.List.listItems
  refine wpAny_bind (wpAny_seqItems hS rfl (wpAny_pure ?_))
  show wpAny _ _ (updateSeq s.heap.objs.size (fun _ => #[]) >>= fun _ => letGo (#[] : Array Value).toList.reverse >>= fun _ => Builtin.List.listExtendWith (.ref s.heap.objs.size) (.ref r) .none) _ _ _
  refine wpAny_bind (wpAny_updateSeq hS rfl (wpAny_bind (wpAny_letGo ?_)))
  refine extend_long (A := A.in1) hh ((Heap.get?_update_other _ _ (Ne.symm nr)).trans hr1) hbig hn hlen (Heap.get?_update_self (Obj.mapSeq (fun _ => (#[] : Array Value))) hS rfl) fun h2 tk acc c2 k g1 g2 => ?_
  refine ⟨rfl, hQ h2 tk acc c2 (fun x o e => ?_) g1 g2⟩
  have nx : x ≠ s.heap.objs.size := Nat.ne_of_lt (Heap.lt_size e)
  exact k x o nx ((Heap.get?_update_other _ _ (Ne.symm nx)).trans (Heap.get?_push_of_some _ e))
end
section
variable {X : Cx} {e : Expr} {te : L2.St → Hp → (Int → Int → Hp → Prop) → Prop}
/-- list(range(a, b)): few items, bounds of any size -/
def tLstRgW (te : L2.St → Hp → (Int → Int → Hp → Prop) → Prop) : TE := fun σ H Q => te σ H fun a b H1 => b - a ≤ 10000000 ∧ ∀ q, H1 q = none → Q (.ref q) (upd H1 q (.lst (rgV a b)))
theorem pe_listRgW {p pos : Pos} (hc : X.calm = true) (hg : Gl X "list") (hm : X.mg "list" = none) (he : PRg X e te) (na : starEach [e] X.env = (false, eval e X.env) :: starEach [] X.env := by rfl) : PE X (.Call (.Name "list" p) [e] [] pos) (tLstRgW te) := by
  refine ⟨fun pins s σ H Q I h => Call_ (ld_blt I hg hm boot_list (PyProof.Rows.callWith_type1 (args_cons (thn (he pins s σ H _ I h) ?_) na) na))⟩
  rintro x s1 ⟨r, a, b, t, u, v, H1, rfl, hr, I1, ok, q⟩
  refine args_nil ?_
  have fin : ∀ h2 tk acc c2, (∀ x o, s1.heap.get? x = some o → h2.get? x = some o) → h2.get? s1.heap.objs.size = some { cls := .type "list", dict := none, data := .seq acc c2, slots := #[] } → ItemsOf (fun i y => ∃ t, y = .int (a + i * 1) t) acc (b - a).toNat →
      EP X pins σ Q (.ref s1.heap.objs.size) { s1 with heap := h2, toks := tk } := fun h2 tk acc c2 k g1 g2 =>
    ⟨.ref s1.heap.objs.size, upd H1 s1.heap.objs.size (.lst (rgV a b)), I1.laid k (Nat.le_refl _) ⟨by rw [rgV_length, sizeLine_eq]; omega, acc.toList, c2, vals_rg g2, by rw [Array.toArray_toList]; exact g1⟩, rfl, q _ (I1.hok.fresh (Nat.le_refl _))⟩
  cases hs : Builtin.Range.small a b 1 with
  | true => exact call_list_range (n := (b - a).toNat) (I1.ok.hd hc) hr hs (rangeSize_nat a b) (by omega) fin
  | false => exact call_list_long (n := (b - a).toNat) (I1.ok.hd hc) hr hs (rangeSize_nat a b) (by omega) fin
end
end Tw
/-! Tw: the laws' own walk -/
namespace Tw
open PySem PySem.Spec PyProof.Rows L2 He TwM StX
open PySem.W (Frag)
local macro_rules | `(tactic| walk_at "rwk") => `(tactic| simp only [*, at3_0, at3_1, at3_2, at2_0, at2_1, updS, upd_two, gSub, rSetL, updN, tPar, and_assoc, not_true_eq_false, not_false_eq_true, tNever, List.length_map, tFld, rIxTH, rIxLH, rLenTH, rLenLH, lk1, lfs_g, lfs_s, lfs_p, HO.ins.injEq, HO.tup.injEq, HO.lst.injEq, sp_Book_rounding, sp_Book_action, sp_Book_order, sp_Book_due, sp_Book_zero, sp_Book_beyond, Int.toNat_natCast, sp_visit_after, sp_is_visited, sp_Level_grain, sp_Level_slots, sp_Level_span, sp_Wheel_reach, sp_Wheel___len__, sp_is_integer, sp_is_count, sp_is_within, sp_rounded, tSeq, tAsg, gName, tVar, tC, tOp, rI, rI0, rU, tUn, oAdd, oSub, oMul, oDiv, oMod, oNeg, oLt, oLe, oGt, oGe, oIsN, oNotN, tFn, tCons, tNil, tIfS, tIf, tTest, tB, tNot, tAnd, tOr, tAndV, tOrV, tNotV,
    tRet, tRetN, tNext, tCB, tDrop, tChain, rEq, rNe, oMax2, oMin2, oInt1, rLenF, L2.start, List.map_cons, List.map_nil, List.length_cons, List.length_nil, List.replicate_succ, List.replicate_zero, List.cons_append, List.nil_append, Nat.reduceAdd, Nat.reduceSub, Nat.zero_add,
    List.set_cons_zero, List.set_cons_succ, List.getElem?_cons_zero, List.getElem?_cons_succ, Option.some.injEq, V.int.injEq, V.ref.injEq, V.str.injEq, V.bl.injEq, exists_eq_left', exists_eq_left, exists_and_left, List.cons.injEq, and_true, true_and, decide_eq_true_eq, sc_ii, sc_ss, sc_bb, sc_ni, sc_in, sc_nn, sc_is, reduceCtorEq,
    Bool.not_eq_true', decide_eq_false_iff_not, if_true, if_false, Bool.false_eq_true, exists_eq', exists_const, false_and, and_false, or_false, false_or, exists_false, Bool.not_not, Bool.not_true, Bool.not_false, sUp_up, sFire_fire, sHigh_high, sPut_put, sZone_now, sBey_refuse, sBey_cut, tTup, tLst, sz0, sz1, sz2, sz3, sz4, sz5, sz6])
section
variable {K : Frag} {w : World}
structure VlAt (H : Hp) (r : Addr) (B : Bk) : Prop where
  at_ : H r = some (.lst ((bws B).map V.str))
  ok : B.bey < 3
theorem VlAt.same {H H1 : Hp} {r : Addr} {B : Bk} (h : VlAt H r B) (s : Same H H1) : VlAt H1 r B := ⟨s _ _ h.at_, h.ok⟩
theorem RowsAt.row {H : Hp} {r : Addr} {W : List Lv} (h : RowsAt H r W) {i : Nat} (hi : i < W.length) : ∃ xs t, H r = some (.lst xs) ∧ xs.length = W.length ∧ atI xs (i : Int) = some (.ref t) ∧ H t = some (.tup [.int (lv W i).g, .int (lv W i).s, .int (lv W i).p]) := by
  obtain ⟨ts, ha, hb, hc⟩ := h
  obtain ⟨t, ht⟩ : ∃ t, ts[i]? = some t := ⟨ts[i]'(by omega), List.getElem?_eq_getElem (by omega)⟩
  exact ⟨_, t, ha, by rw [List.length_map, hb], atI_nat (by rw [List.getElem?_map, ht]; rfl), hc _ _ ht⟩
theorem RowsAt.last {H : Hp} {r : Addr} {W : List Lv} (h : RowsAt H r W) (hp : 0 < W.length) : ∃ xs t, H r = some (.lst xs) ∧ xs.length = W.length ∧ atI xs (-1) = some (.ref t) ∧ H t = some (.tup [.int (lv W (W.length - 1)).g, .int (lv W (W.length - 1)).s, .int (lv W (W.length - 1)).p]) := by
  obtain ⟨ts, ha, hb, hc⟩ := h
  obtain ⟨t, ht⟩ : ∃ t, ts[W.length - 1]? = some t := ⟨ts[W.length - 1]'(by omega), List.getElem?_eq_getElem (by omega)⟩
  exact ⟨_, t, ha, by rw [List.length_map, hb], atI_m1 (by rw [List.getLast?_eq_getElem?, List.length_map, hb, List.getElem?_map, ht]; rfl), hc _ _ ht⟩
theorem at6_0 (a b c d e f : V) : atI [a, b, c, d, e, f] 0 = some a := rfl
theorem at6_1 (a b c d e f : V) : atI [a, b, c, d, e, f] 1 = some b := rfl
theorem at6_2 (a b c d e f : V) : atI [a, b, c, d, e, f] 2 = some c := rfl
theorem at6_3 (a b c d e f : V) : atI [a, b, c, d, e, f] 3 = some d := rfl
theorem at6_4 (a b c d e f : V) : atI [a, b, c, d, e, f] 4 = some e := rfl
theorem at6_5 (a b c d e f : V) : atI [a, b, c, d, e, f] 5 = some f := rfl
theorem VlAt.six {H : Hp} {r : Addr} {B : Bk} (h : VlAt H r B) : H r = some (.lst [.str (sUp B.up), .str (sFire B.fire), .str (sHigh B.high), .str (sPut B.put), .str (sZone B.zone), .str (sBey B.bey)]) := h.at_
local macro_rules | `(tactic| walk_at "rwm") => `(tactic| simp only [*, at3_0, at3_1, at3_2, at2_0, at2_1, updS, upd_two, gSub, rSetL, updN, tPar, gTup, gCons, gNil, and_assoc, not_true_eq_false, not_false_eq_true, tNever, List.length_map, tFld, rIxTH, rIxLH, rLenTH, rLenLH, lk1, lfs_g, lfs_s, lfs_p, HO.ins.injEq, HO.tup.injEq, HO.lst.injEq, sp_Book_rounding, sp_Book_action, sp_Book_order, sp_Book_due, sp_Book_zero, sp_Book_beyond, Int.toNat_natCast, sp_visit_after, sp_is_visited, sp_Level_grain, sp_Level_slots, sp_Level_span, sp_Wheel_reach, sp_Wheel___len__, sp_is_integer, sp_is_count, sp_is_within, sp_rounded, tSeq, tAsg, gName, tVar, tC, tOp, rI, rI0, rU, tUn, oAdd, oSub, oMul, oDiv, oMod, oNeg, oLt, oLe, oGt, oGe, oIsN, oNotN, tFn, tCons, tNil, tIfS, tIf, tTest, tB, tNot, tAnd, tOr, tAndV, tOrV, tNotV,
    tRet, tRetN, tNext, tCB, tDrop, tChain, rEq, rNe, oMax2, oMin2, oInt1, rLenF, L2.start, List.map_cons, List.map_nil, List.length_cons, List.length_nil, List.replicate_succ, List.replicate_zero, List.cons_append, List.nil_append, Nat.reduceAdd, Nat.reduceSub, Nat.zero_add,
    List.set_cons_zero, List.set_cons_succ, List.getElem?_cons_zero, List.getElem?_cons_succ, Option.some.injEq, V.int.injEq, V.ref.injEq, V.str.injEq, V.bl.injEq, exists_eq_left', exists_eq_left, exists_and_left, List.cons.injEq, and_true, true_and, decide_eq_true_eq, sc_ii, sc_ss, sc_bb, sc_ni, sc_in, sc_nn, sc_is, reduceCtorEq,
    Bool.not_eq_true', decide_eq_false_iff_not, if_true, if_false, Bool.false_eq_true, exists_eq', exists_const, false_and, and_false, or_false, false_or, exists_false, Bool.not_not, Bool.not_true, Bool.not_false, sUp_up, sFire_fire, sHigh_high, sPut_put, sZone_now, sBey_refuse, sBey_cut, tTup, tLst, sz0, sz1, sz2, sz3, sz4, sz5, sz6])
local macro_rules | `(tactic| walk_at "rwl") => `(tactic| simp only [*, at3_0, at3_1, at3_2, at2_0, at2_1, updS, upd_two, gSub, rSetL, updN, tPar, at6_0, at6_1, at6_2, at6_3, at6_4, at6_5, and_assoc, not_true_eq_false, not_false_eq_true, tNever, List.length_map, tFld, rIxTH, rIxLH, rLenTH, rLenLH, lk1, lfs_g, lfs_s, lfs_p, HO.ins.injEq, HO.tup.injEq, HO.lst.injEq, sp_Book_rounding, sp_Book_action, sp_Book_order, sp_Book_due, sp_Book_zero, sp_Book_beyond, Int.toNat_natCast, sp_visit_after, sp_is_visited, sp_Level_grain, sp_Level_slots, sp_Level_span, sp_Wheel_reach, sp_Wheel___len__, sp_is_integer, sp_is_count, sp_is_within, sp_rounded, tSeq, tAsg, gName, tVar, tC, tOp, rI, rI0, rU, tUn, oAdd, oSub, oMul, oDiv, oMod, oNeg, oLt, oLe, oGt, oGe, oIsN, oNotN, tFn, tCons, tNil, tIfS, tIf, tTest, tB, tNot, tAnd, tOr, tAndV, tOrV, tNotV,
    tRet, tRetN, tNext, tCB, tDrop, tChain, rEq, rNe, oMax2, oMin2, oInt1, rLenF, L2.start, List.map_cons, List.map_nil, List.length_cons, List.length_nil, List.replicate_succ, List.replicate_zero, List.cons_append, List.nil_append, Nat.reduceAdd, Nat.reduceSub, Nat.zero_add,
    List.set_cons_zero, List.set_cons_succ, List.getElem?_cons_zero, List.getElem?_cons_succ, Option.some.injEq, V.int.injEq, V.ref.injEq, V.str.injEq, V.bl.injEq, exists_eq_left', exists_eq_left, exists_and_left, List.cons.injEq, and_true, true_and, decide_eq_true_eq, sc_ii, sc_ss, sc_bb, sc_ni, sc_in, sc_nn, sc_is, reduceCtorEq,
    Bool.not_eq_true', decide_eq_false_iff_not, if_true, if_false, Bool.false_eq_true, exists_eq', exists_const, false_and, and_false, or_false, false_or, exists_false, Bool.not_not, Bool.not_true, Bool.not_false, sUp_up, sFire_fire, sHigh_high, sPut_put, sZone_now, sBey_refuse, sBey_cut, tTup, tLst, sz0, sz1, sz2, sz3, sz4, sz5, sz6])
def sp__law_spot_at (K : Frag) : Sp := fun vs H Q _ => ∃ (r rv : Addr) (here rest due : Int), vs = [.ref r, .ref rv, .int here, .int rest, .int due] ∧ ∃ W B, RowsAt H r W ∧ ROk W ∧ VlAt H rv B ∧ ∀ p H', Same H H' → SpAt H' p (spotAt W B here rest due) → Q (.ref p) H'
def t__law_spot_at (K : Frag) (w : World) : TS :=
  (tSeq (tAsg (tFn (sp__law_belongs K) E0 (tCons (tVar 0) (tCons (tVar 3) tNil))) (gName 5))
  (tSeq (tAsg (tOp oAdd (tVar 2) (tVar 3)) (gName 6))
  (tSeq (tIfS (tTest (tOp oIsN (tVar 5) (tC .non))) (tPar 5 6 (tCons (tOp oSub (tCB rLenLH (tCons (tVar 0) tNil)) (tC (.int 1))) (tCons (tOp oSub (tOp oAdd (tVar 2) (tOp rIxTH (tOp rIxLH (tVar 0) (tUn oNeg (tC (.int 1)))) (tC (.int 2)))) (tC (.int 1))) tNil))) tNext)
  (tRet (tTup (tCons (tVar 5) (tCons (tFn (sp__law_turned K) E0 (tCons (tVar 6) (tCons (tOp rIxTH (tOp rIxLH (tVar 0) (tVar 5)) (tC (.int 0))) (tCons (tOp rIxLH (tVar 1) (tC (.int 0))) tNil)))) (tCons (tVar 4) tNil))))))))
def n__law_spot_at : List Str := ["_law_rows", "_law_values", "_law_here", "_law_rest", "_law_due", "_law_index", "_law_end"]
theorem rd__law_spot_at (vs : List V) (H : Hp) (Q : VK) (E : XK) (h : sp__law_spot_at K vs H Q E) : t__law_spot_at K w { nx := fun _ H' => Q .non H', rt := Q } (L2.start n__law_spot_at vs) H := by
  obtain ⟨r, rv, here, rest, due, rfl, W, B, hR, hRk, hV, q⟩ := h
  have hpos := hRk.ok.pos
  unfold t__law_spot_at n__law_spot_at
  walk_at "rwl"
  refine ⟨r, rest, W, rfl, hR, fun H1 s1 => ?_⟩
  have hR1 := hR.same s1
  have hV1 := (hV.same s1).six
  obtain ⟨xs, t, e1, e2, e3, e4⟩ := hR1.last hpos
  cases hl : levelOf W rest with
  | none =>
    have hall := hRk.ok.all (W.length - 1) (by omega)
    obtain ⟨xs', t', e1', e2', e3', e4'⟩ := hR1.row (i := W.length - 1) (by omega)
    rw [e1] at e1'
    cases e1'
    have e3'' : atI xs ((W.length : Int) - 1) = some (.ref t') := by rw [show ((W.length : Int) - 1) = ((W.length - 1 : Nat) : Int) by omega]; exact e3'
    unfold optI
    walk_at "rwl"
    refine ⟨_, _, B.up, rfl, by omega, by omega, fun p hp => q p _ (s1.trans (Same.new hp)) ?_⟩
    unfold SpAt spotAt
    rw [hl, updS]
    simp only [HO.tup.injEq, List.cons.injEq, V.int.injEq, Option.some.injEq, and_true]
    refine ⟨by omega, ?_⟩
    rfl
  | some i =>
    have hi := levelOf_lt hl
    have hall := hRk.ok.all i hi.1
    obtain ⟨xs', t', e1', e2', e3', e4'⟩ := hR1.row (i := i) hi.1
    rw [e1] at e1'
    cases e1'
    unfold optI
    walk_at "rwl"
    refine ⟨_, _, B.up, rfl, by omega, by omega, fun p hp => q p _ (s1.trans (Same.new hp)) ?_⟩
    unfold SpAt spotAt
    rw [hl, updS]
def sp__law_put (K : Frag) : Sp := fun vs H Q _ => ∃ (r rv : Addr) (here delay : Int), vs = [.ref r, .ref rv, .int here, .int delay] ∧ ∃ W B, RowsAt H r W ∧ ROk W ∧ VlAt H rv B ∧ 0 ≤ delay ∧ (reach W ≤ delay → B.bey ≠ 0) ∧
  ∀ v H', Same H H' → OSp H' v (placeM W B here delay) → Q v H'
def t__law_put (K : Frag) (w : World) : TS :=
  (tSeq (tIfS (tAnd (tTest (tOp rEq (tVar 3) (tC (.int 0)))) (tTest (tOp rEq (tOp rIxLH (tVar 1) (tC (.int 4))) (tC (.str "now"))))) (tRet (tC .non)) tNext)
  (tSeq (tPar 4 5 (tCons (tCB oMax2 (tCons (tCB oInt1 (tCons (tVar 3) tNil)) (tCons (tC (.int 1)) tNil))) (tCons (tOp rIxTH (tOp rIxLH (tVar 0) (tUn oNeg (tC (.int 1)))) (tC (.int 2))) tNil)))
  (tSeq (tIfS (tAnd (tTest (tOp oGe (tVar 4) (tVar 5))) (tTest (tOp rEq (tOp rIxLH (tVar 1) (tC (.int 5))) (tC (.str "refuse"))))) (tRet (tC (.str "refused"))) tNext)
  (tSeq (tIfS (tAnd (tTest (tOp oGe (tVar 4) (tVar 5))) (tTest (tOp rEq (tOp rIxLH (tVar 1) (tC (.int 5))) (tC (.str "cut"))))) (tAsg (tOp oSub (tVar 5) (tC (.int 1))) (gName 4)) tNext)
  (tRet (tFn (sp__law_spot_at K) E0 (tCons (tVar 0) (tCons (tVar 1) (tCons (tVar 2) (tCons (tVar 4) (tCons (tOp oAdd (tVar 2) (tVar 4)) tNil)))))))))))
def n__law_put : List Str := ["_law_rows", "_law_values", "_law_here", "_law_delay_here", "_law_rest", "_law_reach"]
theorem rd__law_put (vs : List V) (H : Hp) (Q : VK) (E : XK) (h : sp__law_put K vs H Q E) : t__law_put K w { nx := fun _ H' => Q .non H', rt := Q } (L2.start n__law_put vs) H := by
  obtain ⟨r, rv, here, delay, rfl, W, B, hR, hRk, hV, hd, hb, q⟩ := h
  have hpos := hRk.ok.pos
  have hV1 := hV.six
  have hb3 := hV.ok
  obtain ⟨xs, t, e1, e2, e3, e4⟩ := hR.last hpos
  have hre : 2 ≤ reach W := (hRk.ok.all (W.length - 1) (by omega)).2.2.2.2
  have key : ∀ x : Int, (∀ v H', Same H H' → OSp H' v (some (spotAt W B here x (here + x))) → Q v H') → sp__law_spot_at K [.ref r, .ref rv, .int here, .int x, .int (here + x)] H Q E0 :=
    fun x q => ⟨r, rv, here, x, here + x, rfl, W, B, hR, hRk, hV, fun p H' s z => q _ _ s ⟨p, rfl, z⟩⟩
  unfold t__law_put n__law_put
  walk_at "rwl"
  unfold placeM at q
  generalize hg : (if 1 > delay then 1 else delay) = r0 at q ⊢
  have h1 : 1 ≤ r0 := by rw [← hg]; split <;> omega
  have h2 : reach W ≤ r0 → B.bey ≠ 0 := fun h => hb (by rw [← hg] at h; split at h <;> omega)
  have hrd : reach W = (lv W (W.length - 1)).p := rfl
  rw [← hrd]
  by_cases hz : delay = 0 ∧ B.zone = false
  · rw [if_pos hz] at q
    rw [if_pos hz.1, if_pos hz.2]
    exact q _ _ (Same.refl H) rfl
  · rw [if_neg hz] at q
    dsimp only at q
    by_cases hl : reach W ≤ r0
    · have hb := h2 hl
      by_cases hc : 2 ≤ B.bey
      · have q' := key (reach W - 1) (by have := q; rw [if_pos ⟨hl, by omega⟩] at this; exact this)
        repeat' (refine ite2 (fun _ => ?_) fun _ => ?_)
        all_goals first | exact q' | (exact absurd ⟨by assumption, by assumption⟩ hz) | (exfalso; omega)
      · have q' := key r0 (by have := q; rw [if_neg (fun z : reach W ≤ r0 ∧ B.bey = 2 => hc (by omega))] at this; exact this)
        repeat' (refine ite2 (fun _ => ?_) fun _ => ?_)
        all_goals first | exact q' | (exact absurd ⟨by assumption, by assumption⟩ hz) | (exfalso; omega)
    · have q' := key r0 (by have := q; rw [if_neg (fun z : reach W ≤ r0 ∧ B.bey = 2 => hl z.1)] at this; exact this)
      repeat' (refine ite2 (fun _ => ?_) fun _ => ?_)
      all_goals first | exact q' | (exact absurd ⟨by assumption, by assumption⟩ hz) | (exfalso; omega)
def sp__law_out (K : Frag) : Sp := fun vs H Q _ => ∃ (r rv p : Addr) (tick : Int), vs = [.ref r, .ref rv, .ref p, .int tick] ∧ ∃ W B sp, RowsAt H r W ∧ ROk W ∧ VlAt H rv B ∧ SpAt H p sp ∧ ∀ v H', Same H H' → OSp H' v (taken W B sp tick) → Q v H'
def t__law_out (K : Frag) (w : World) : TS :=
  (tSeq (tIfS (tOr (tTest (tOp rEq (tOp rIxTH (tVar 2) (tC (.int 0))) (tC (.int 0)))) (tTest (tOp rEq (tOp rIxLH (tVar 1) (tC (.int 1))) (tC (.str "fire"))))) (tRet (tC .non)) tNext)
  (tSeq (tIfS (tTest (tOp oGt (tOp rIxTH (tVar 2) (tC (.int 2))) (tVar 3))) (tRet (tFn (sp__law_spot_at K) E0 (tCons (tVar 0) (tCons (tVar 1) (tCons (tVar 3) (tCons (tOp oSub (tOp rIxTH (tVar 2) (tC (.int 2))) (tVar 3)) (tCons (tOp rIxTH (tVar 2) (tC (.int 2))) tNil))))))) tNext)
  (tRet (tIf (tTest (tOp rEq (tOp rIxLH (tVar 1) (tC (.int 3))) (tC (.str "put")))) (tTup (tCons (tC (.int 0)) (tCons (tVar 3) (tCons (tOp rIxTH (tVar 2) (tC (.int 2))) tNil)))) (tC .non)))))
def n__law_out : List Str := ["_law_rows", "_law_values", "_law_spot", "_law_tick"]
theorem rd__law_out (vs : List V) (H : Hp) (Q : VK) (E : XK) (h : sp__law_out K vs H Q E) : t__law_out K w { nx := fun _ H' => Q .non H', rt := Q } (L2.start n__law_out vs) H := by
  obtain ⟨r, rv, p, tick, rfl, W, B, sp, hR, hRk, hV, hS, q⟩ := h
  have hV1 := hV.six
  have hS1 := hS
  unfold SpAt at hS1
  unfold t__law_out n__law_out
  walk_at "rwl"
  unfold taken at q
  by_cases h1 : sp.lv = 0
  · rw [if_pos (.inl h1)] at q
    rw [if_pos (by omega)]
    exact q _ _ (Same.refl H) rfl
  · rw [if_neg (by omega)]
    by_cases h2 : B.fire = true
    · rw [if_pos (.inr h2)] at q
      rw [if_pos h2]
      exact q _ _ (Same.refl H) rfl
    · rw [if_neg (fun z => z.elim h1 h2)] at q
      rw [if_neg h2]
      refine ite2 (fun h3 => ?_) fun h3 => ?_
      · rw [if_pos h3] at q
        exact ⟨r, rv, tick, _, _, rfl, W, B, hR, hRk, hV, fun p' H' s z => q _ _ s ⟨p', rfl, z⟩⟩
      · rw [if_neg h3] at q
        refine ite2 (fun h4 => fun p' hp' => ?_) fun h4 => ?_
        · rw [if_pos h4] at q
          exact q _ _ (Same.new hp') ⟨p', rfl, updS _ _ _⟩
        · rw [if_neg h4] at q
          exact q _ _ (Same.refl H) rfl
theorem lcF {i j : Nat} {a : Addr} {xs : List V} {tt : TT} {σ : L2.St} {H : Hp} {Q : VK} (p : V → Bool) (hσ : σ[i]? = some (some (V.ref a))) (hj : j < σ.length) (hl : SqL K H a xs) (hz : xs.length ≤ 1000)
    (ht : ∀ x ∈ xs, ∀ H' R, Same H H' → R (p x) H' → tt ((wipe σ [j]).set j (some x)) H' R) (q : ∀ D H', H D = none → Same H H' → H' D = some (.lst (xs.filter p)) → Q (.ref D) H') : tLc (iList K (tVar i)) (gName j) tt (tVar j) [j] σ H Q := by
  refine ⟨_, hσ, a, rfl, ⟨_, hl⟩, fun D hD => lc_list (K := K) (a := a) (xs := xs) (fun k H' => Same H H' ∧ H' D = some (.lst ((xs.take k).filter p))) ⟨Same.new hD, by rw [upd_same]; rfl⟩ (fun k H' _ z => Same.lst z.1 hl) ?_ ?_⟩
  · rintro k x H1 hx ⟨s1, hD1⟩
    have hk := (List.getElem?_eq_some_iff.mp hx).1
    have hw : wipe ((wipe σ [j]).set j (some x)) [j] = wipe σ [j] := by
      show ((σ.set j none).set j (some x)).set j none = σ.set j none
      rw [List.set_set, List.set_set]
    refine ⟨hw, ht x (List.mem_of_getElem? hx) H1 _ s1 ?_⟩
    have htk : xs.take (k + 1) = xs.take k ++ [x] := by rw [List.take_add_one, hx]; rfl
    rw [htk, List.filter_append]
    cases hp : p x with
    | true =>
      rw [if_pos rfl, List.filter_cons_of_pos hp]
      have hsz : sizeLine = 16777216 := rfl
      have hfl := List.length_filter_le p (xs.take k)
      rw [List.length_take] at hfl
      refine ⟨x, ?_, _, hD1, by omega, Same.updN s1 hD, updS _ _ _⟩
      show ((σ.set j none).set j (some x))[j]? = some (some x)
      rw [List.getElem?_set_self (by rw [List.length_set]; exact hj)]
    | false =>
      rw [if_neg Bool.false_ne_true, List.filter_cons_of_neg (by rw [hp]; exact Bool.false_ne_true), List.filter_nil, List.append_nil]
      exact ⟨s1, hD1⟩
  · rintro H1 ⟨s1, hD1⟩
    rw [List.take_length] at hD1
    exact q D H1 hD s1 hD1
theorem ddInts {H : Hp} : ∀ ks : List Int, DpAll K H (ks.map V.int) (ks.map PyData.int)
  | [] => .nil
  | k :: ks => .cons (.int k) (ddInts ks)
theorem lay_ints : ∀ ks : List Int, PyData.canLayAll0 (ks.map PyData.int) = true
  | [] => rfl
  | k :: ks => by
    show ((PyData.int k).canLay0 && PyData.canLayAll0 (ks.map PyData.int)) = true
    rw [lay_ints ks]
    rfl
theorem depth_ints : ∀ ks : List Int, PyData.depthAll (ks.map PyData.int) = 0
  | [] => rfl
  | k :: ks => by
    show max (PyData.int k).depth (PyData.depthAll (ks.map PyData.int)) = 0
    rw [depth_ints ks]
    rfl
theorem shaped_ints (ks : List Int) : SeqAt.shaped (.list (ks.map PyData.int)) = true := by
  unfold SeqAt.shaped
  rw [show (PyData.list (ks.map PyData.int)).canLay0 = PyData.canLayAll0 (ks.map PyData.int) from rfl, lay_ints]
  have := depth_ints ks
  exact decide_eq_true (show PyData.depthAll (ks.map PyData.int) + 1 ≤ 64 by omega)
theorem eqv_ints (ks : List Int) : PyData.eqv (.list (ks.map PyData.int)) (.list []) = ks.isEmpty := by
  cases ks with
  | nil => rfl
  | cons k ks => rfl
theorem hit_iff {q pt s j : Int} (hs : 0 < s) (h0 : 0 ≤ j) (h1 : j ≤ (pt - q) % s) : (q + j - pt) % s = 0 ↔ j = (pt - q) % s := by
  have e := Int.mul_ediv_add_emod (pt - q) s
  have h2 := Int.emod_lt_of_pos (pt - q) hs
  generalize (pt - q) % s = k at *
  generalize (pt - q) / s = z at *
  have e2 : q + j - pt = (j - k) + s * (-z) := by rw [Int.mul_neg]; omega
  rw [e2, Int.add_mul_emod_self_left]
  constructor
  · intro h
    have h3 : (j - k + s) % s = 0 := by rw [Int.add_emod_right]; exact h
    rcases Int.lt_or_le j k with h4 | h4
    · rw [Int.emod_eq_of_lt (by omega) (by omega)] at h3
      omega
    · omega
  · intro h
    rw [h, Int.sub_self, Int.zero_emod]
theorem cut2 (a b c : V) : cutV [a, b, c] none (some 2) = [a, b] := rfl
theorem part2 (a b c : V) : ¬ (HT.sIx [a, b, c].length 0 none = 0 ∧ HT.sIx [a, b, c].length [a, b, c].length (some 2) = [a, b, c].length) := by
  show ¬ (HT.sIx 3 0 none = 0 ∧ HT.sIx 3 3 (some 2) = 3)
  decide +kernel
def sp__law_visit (K : Frag) : Sp := fun vs H Q _ => ∃ (r p : Addr) (here : Int), vs = [.ref r, .ref p, .int here] ∧ ∃ W sp, RowsAt H r W ∧ ROk W ∧ SpAt H p sp ∧ sp.lv < W.length ∧ ∀ H', Same H H' → Q (.int (va (lv W sp.lv) sp.pt here)) H'
def t__law_visit (K : Frag) (w : World) : TS :=
  (tSeq (tAsg (tSl (rSlT K) (tOp rIxLH (tVar 0) (tOp rIxTH (tVar 1) (tC (.int 0)))) tNoPart (tPart (tC (.int 2)))) (gTup K 2 (gCons (gName 3) (gCons (gName 4) gNil))))
  (tSeq (tAsg (tOp oAdd (tOp oDiv (tVar 2) (tVar 3)) (tC (.int 1))) (gName 5))
  (tSeq (tWhile (tTest (tOp rNe (tOp oMod (tOp oSub (tVar 5) (tOp rIxTH (tVar 1) (tC (.int 1)))) (tVar 4)) (tC (.int 0))))
    (tAsg (tOp oAdd (tVar 5) (tC (.int 1))) (gName 5)))
  (tRet (tOp oMul (tVar 5) (tVar 3))))))
def n__law_visit : List Str := ["_law_rows", "_law_spot", "_law_here", "_law_grain", "_law_slots", "_law_at"]
theorem rd__law_visit (vs : List V) (H : Hp) (Q : VK) (E : XK) (h : sp__law_visit K vs H Q E) : t__law_visit K w { nx := fun _ H' => Q .non H', rt := Q } (L2.start n__law_visit vs) H := by
  obtain ⟨r, p, here, rfl, W, sp, hR, hRk, hS, hl, q⟩ := h
  have hS1 := hS
  unfold SpAt at hS1
  obtain ⟨xs, t, e1, e2, e3, e4⟩ := hR.row hl
  have hall := hRk.ok.all _ hl
  unfold t__law_visit n__law_visit
  rw [seq1]
  refine ⟨_, rfl, _, rfl, _, _, _, _, rfl, rfl, hS1, rfl, _, _, _, _, rfl, rfl, e1, e3, 2, rfl, t, _, rfl, SqT.of e4, part2 _ _ _, fun c hc => ?_⟩
  rw [cut2]
  have s1 := Same.new (o := .tup [V.int (lv W sp.lv).g, .int (lv W sp.lv).s]) hc
  have hS2 := s1 _ _ hS1
  refine ⟨c, _, rfl, SqT.of upd_same, rfl, ?_⟩
  generalize upd H c (.tup [V.int (lv W sp.lv).g, .int (lv W sp.lv).s]) = H1 at *
  have hk0 := Int.emod_nonneg (sp.pt - here / (lv W sp.lv).g - 1) (b := (lv W sp.lv).s) (by omega)
  walk_at "rwm"
  refine ⟨⟨by omega, by omega⟩, fun m σ H' => ∃ j : Int, σ = [some (.ref r), some (.ref p), some (.int here), some (.int (lv W sp.lv).g), some (.int (lv W sp.lv).s), some (.int (here / (lv W sp.lv).g + 1 + j))] ∧ H' = H1 ∧ 0 ≤ j ∧ m = ((sp.pt - here / (lv W sp.lv).g - 1) % (lv W sp.lv).s - j).toNat ∧ j ≤ (sp.pt - here / (lv W sp.lv).g - 1) % (lv W sp.lv).s, ⟨_, 0, by rw [Int.add_zero], rfl, Int.le_refl _, rfl, hk0⟩, ?_⟩
  rintro m σ H2 ⟨j, rfl, rfl, hj0, rfl, hj⟩
  walk_at "rwm"
  have hkk : sp.pt - here / (lv W sp.lv).g - 1 = sp.pt - (here / (lv W sp.lv).g + 1) := by omega
  rw [hkk] at hj ⊢
  have hi := hit_iff (q := here / (lv W sp.lv).g + 1) (pt := sp.pt) (s := (lv W sp.lv).s) (j := j) (by omega) hj0 hj
  refine ⟨by omega, ite2 (fun hn => ?_) fun hn => ?_⟩
  · have hne : j ≠ (sp.pt - (here / (lv W sp.lv).g + 1)) % (lv W sp.lv).s := fun z => hn (hi.mpr z)
    exact ⟨_, fun σ' H' z => ⟨_, by omega, z⟩, j + 1, by rw [Int.add_assoc (here / (lv W sp.lv).g + 1) j 1], rfl, by omega, rfl, by omega⟩
  · have he := hi.mp (Classical.not_not.mp hn)
    refine ⟨.inr ⟨by omega, by omega⟩, ?_⟩
    rw [he]
    have q1 := q H2 s1
    unfold va at q1
    rw [hkk] at q1
    exact q1
local macro_rules | `(tactic| walk_at "rwn") => `(tactic| simp only [*, at3_0, at3_1, at3_2, at2_0, at2_1, updS, upd_two, gSub, rSetL, updN, tPar, at6_0, at6_1, at6_2, at6_3, at6_4, at6_5, gTup, gCons, gNil, and_assoc, not_true_eq_false, not_false_eq_true, tNever, List.length_map, tFld, rIxTH, rIxLH, rLenTH, rLenLH, lk1, lfs_g, lfs_s, lfs_p, HO.ins.injEq, HO.tup.injEq, HO.lst.injEq, sp_Book_rounding, sp_Book_action, sp_Book_order, sp_Book_due, sp_Book_zero, sp_Book_beyond, Int.toNat_natCast, sp_visit_after, sp_is_visited, sp_Level_grain, sp_Level_slots, sp_Level_span, sp_Wheel_reach, sp_Wheel___len__, sp_is_integer, sp_is_count, sp_is_within, sp_rounded, tAsg, gName, tVar, tC, tOp, rI, rI0, rU, tUn, oAdd, oSub, oMul, oDiv, oMod, oNeg, oLt, oLe, oGt, oGe, oIsN, oNotN, tFn, tCons, tNil, tIfS, tIf, tTest, tB, tNot, tAnd, tOr, tAndV, tOrV, tNotV,
    tRet, tRetN, tNext, tCB, tDrop, tChain, rEq, rNe, oMax2, oMin2, oInt1, rLenF, L2.start, List.map_cons, List.map_nil, List.length_cons, List.length_nil, List.replicate_succ, List.replicate_zero, List.cons_append, List.nil_append, Nat.reduceAdd, Nat.reduceSub, Nat.zero_add,
    List.set_cons_zero, List.set_cons_succ, List.getElem?_cons_zero, List.getElem?_cons_succ, Option.some.injEq, V.int.injEq, V.ref.injEq, V.str.injEq, V.bl.injEq, exists_eq_left', exists_eq_left, exists_and_left, List.cons.injEq, and_true, true_and, decide_eq_true_eq, sc_ii, sc_ss, sc_bb, sc_ni, sc_in, sc_nn, sc_is, reduceCtorEq,
    Bool.not_eq_true', decide_eq_false_iff_not, if_true, if_false, Bool.false_eq_true, exists_eq', exists_const, false_and, and_false, or_false, false_or, exists_false, Bool.not_not, Bool.not_true, Bool.not_false, sUp_up, sFire_fire, sHigh_high, sPut_put, sZone_now, sBey_refuse, sBey_cut, tTup, tLst, sz0, sz1, sz2, sz3, sz4, sz5, sz6])
theorem tIf_high {ta tb : TE} {σ : L2.St} {H : Hp} {Q : VK} {rv : Addr} {B : Bk} (hσ : σ[1]? = some (some (V.ref rv))) (hV : VlAt H rv B) (q : if B.high = true then ta σ H Q else tb σ H Q) :
    tIf (tTest (tOp rEq (tOp rIxLH (tVar 1) (tC (V.int 2))) (tC (V.str "high")))) ta tb σ H Q := by
  have hV1 := hV.six
  walk_at "rwn"
theorem for_high {ta tb : TE} {g : TG} {tw : TS} {D : Ends} {σ : L2.St} {H : Hp} {rv : Addr} {B : Bk} (hσ : σ[1]? = some (some (V.ref rv))) (hV : VlAt H rv B) (q : if B.high = true then tFor (iList K ta) g tw D σ H else tFor (iList K tb) g tw D σ H) :
    tFor (iList K (tIf (tTest (tOp rEq (tOp rIxLH (tVar 1) (tC (V.int 2))) (tC (V.str "high")))) ta tb)) g tw D σ H := by
  unfold tFor iList at q ⊢
  exact tIf_high hσ hV q
def sp__law_sweep (K : Frag) : Sp := fun vs H Q _ => ∃ (r rv p : Addr) (before here : Int), vs = [.ref r, .ref rv, .ref p, .int before, .int here] ∧ ∃ W B sp, RowsAt H r W ∧ ROk W ∧ VlAt H rv B ∧ SpAt H p sp ∧
  ∀ f xs H', Same H H' → H f = none → H' f = some (.lst xs) → OSps H' xs (visited W B sp before here) → Q (.ref f) H'
def swInv (K : Frag) (r rv f qd : Addr) (W : List Lv) (B : Bk) (sp0 : Spot) (before here : Int) (H : Hp) (i : Nat) (σ : L2.St) (H' : Hp) : Prop :=
  ∃ (p : Addr) (sp : Spot) (xs : List V) (os : List (Option Spot)) (v6 v7 v8 v9 v10 v11 v12 v13 : Option V), σ = [some (.ref r), some (.ref rv), some (.ref p), some (.int before), some (.int here), some (.ref f), v6, v7, v8, v9, v10, v11, v12, v13] ∧ Same H H' ∧ SpAt H' p sp ∧
    H' f = some (.lst xs) ∧ H' qd = some (.lst (ordV W B)) ∧ xs.length ≤ i ∧ OSps H' xs os ∧ visited W B sp0 before here = os ++ visGo W B before here ((order W B).drop i) sp
def swBody (K : Frag) : TS :=
  (tIfS (tTest (tOp rEq (tOp rIxTH (tVar 2) (tC (.int 0))) (tVar 7))) (tSeq (tAsg (tSl (rSlT K) (tOp rIxLH (tVar 0) (tVar 7)) tNoPart (tPart (tC (.int 2)))) (gTup K 2 (gCons (gName 8) (gCons (gName 9) gNil))))
  (tSeq (tPar 10 11 (tCons (tOp oAdd (tOp oDiv (tVar 3) (tVar 8)) (tC (.int 1))) (tCons (tOp oDiv (tVar 4) (tVar 8)) tNil)))
  (tSeq (tAsg (tLstRgW (tRg2 (tVar 10) (tOp oAdd (tCB oMin2 (tCons (tCB oInt1 (tCons (tVar 11) tNil)) (tCons (tCB oInt1 (tCons (tOp oAdd (tVar 10) (tVar 9)) tNil)) tNil))) (tC (.int 1))))) (gName 12))
  (tIfS (tTest (tOp (rNeD K) (tLc (iList K (tVar 12)) (gName 13) (tTest (tOp rEq (tOp oMod (tOp oSub (tVar 13) (tOp rIxTH (tVar 2) (tC (.int 1)))) (tVar 9)) (tC (.int 0)))) (tVar 13) [13]) (tLst tNil))) (tSeq (tAsg (tFn (sp__law_out K) E0 (tCons (tVar 0) (tCons (tVar 1) (tCons (tVar 2) (tCons (tVar 4) tNil))))) (gName 2))
  (tSeq (tDrop (tBM K "list" rAppend (tVar 5) (tCons (tVar 2) tNil)))
  (tIfS (tTest (tOp oIsN (tVar 2) (tC .non))) (tRet (tVar 5)) tNext))) tNext)))) tNext)
/-- the ticks of a lump at which a slot is visited: some, just if the lump visits -/
theorem sw_hits {g s pt before here : Int} (hg : 0 < g) (hs : 0 < s) : ((rgV (before / g + 1) ((if before / g + 1 + s < here / g then before / g + 1 + s else here / g) + 1)).filter fun x => match x with | .int at_ => decide ((at_ - pt) % s = 0) | _ => false) = [] ↔ ¬ (pt - before / g - 1) % s < here / g - before / g := by
  have e1 : pt - before / g - 1 = pt - (before / g + 1) := by omega
  rw [e1]
  have k0 := Int.emod_nonneg (pt - (before / g + 1)) (b := s) (by omega)
  have k1 := Int.emod_lt_of_pos (pt - (before / g + 1)) hs
  have hi : ∀ j, 0 ≤ j → j ≤ (pt - (before / g + 1)) % s → ((before / g + 1 + j - pt) % s = 0 ↔ j = (pt - (before / g + 1)) % s) := fun j => hit_iff hs
  generalize before / g + 1 = a at *
  generalize (pt - a) % s = k at *
  rw [List.filter_eq_nil_iff]
  unfold rgV
  constructor
  · intro h hlt
    have hm : V.int (a + k) ∈ (List.range ((if a + s < here / g then a + s else here / g) + 1 - a).toNat).map fun i => V.int (a + (i : Nat)) := by
      refine List.mem_map.mpr ⟨k.toNat, List.mem_range.mpr ?_, by rw [Int.toNat_of_nonneg k0]⟩
      split <;> omega
    exact h _ hm (decide_eq_true ((hi k k0 (Int.le_refl _)).mpr rfl))
  · intro h x hx
    obtain ⟨i, hi1, rfl⟩ := List.mem_map.mp hx
    have hr := List.mem_range.mp hi1
    intro hz
    have hz := of_decide_eq_true hz
    have := (hi i (by omega) (by split at hr <;> omega)).mp hz
    split at hr <;> omega
theorem sw_body {r rv f qd : Addr} {W : List Lv} {B : Bk} {sp0 : Spot} {before here : Int} {H : Hp} {Q : VK} {D : Ends} (hR : RowsAt H r W) (hRk : ROk W) (hV : VlAt H rv B) (hf : H f = none) (hqf : qd ≠ f) (hrt : D.rt = Q)
    (q : ∀ f xs H', Same H H' → H f = none → H' f = some (.lst xs) → OSps H' xs (visited W B sp0 before here) → Q (.ref f) H')
    (i : Nat) (x : V) (σ : L2.St) (H1 : Hp) (hx : (ordV W B)[i]? = some x) (hI : swInv K r rv f qd W B sp0 before here H i σ H1) :
    gName 7 x σ H1 fun σ2 H2 => swBody K { D with nx := swInv K r rv f qd W B sp0 before here H (i + 1), ct := swInv K r rv f qd W B sp0 before here H (i + 1), bk := D.nx } σ2 H2 := by
  obtain ⟨p, sp, xs, os, v6, v7, v8, v9, v10, v11, v12, v13, rfl, s1, hS, hfx, hq, hxl, hos, hvis⟩ := hI
  obtain ⟨j, hj, rfl⟩ : ∃ j, (order W B)[i]? = some j ∧ x = V.int (j : Nat) := by
    unfold ordV at hx
    rw [List.getElem?_map] at hx
    cases e : (order W B)[i]? with
    | none => rw [e] at hx; cases hx
    | some c => rw [e] at hx; exact ⟨c, rfl, (Option.some.inj hx).symm⟩
  have hi := (List.getElem?_eq_some_iff.mp hj).1
  have hjW : j < W.length := mem_order.mp (List.mem_of_getElem? hj)
  have hdr : (order W B).drop i = j :: (order W B).drop (i + 1) := by
    rw [List.drop_eq_getElem_cons hi]
    rw [(List.getElem?_eq_some_iff.mp hj).2]
  rw [hdr] at hvis
  unfold visGo at hvis
  have hS2 := hS
  unfold SpAt at hS2
  have hR1 := hR.same s1
  have hV1 := hV.same s1
  obtain ⟨ys, t, g1, g2, g3, g4⟩ := hR1.row hjW
  have hall := hRk.ok.all _ hjW
  rw [gName1]
  unfold swBody
  walk_at "rwn"
  refine ite2 (fun ht => ?_) fun ht => ?_
  · rw [seq1]
    refine ⟨_, rfl, _, rfl, _, _, _, _, rfl, rfl, g1, g3, 2, rfl, t, _, rfl, SqT.of g4, part2 _ _ _, fun c hc => ?_⟩
    rw [cut2]
    refine ⟨c, _, rfl, SqT.of upd_same, rfl, ?_⟩
    have s2 := Same.new (o := .tup [V.int (lv W j).g, .int (lv W j).s]) hc
    have hfx2 := s2 _ _ hfx
    have hq2 := s2 _ _ hq
    have hS3 := s2 _ _ hS2
    have hos2 := hos.same s2
    have hR2 := hR1.same s2
    have hV2 := hV1.same s2
    have hs2 := s1.trans s2
    have hSp2 := hS.same s2
    generalize upd H1 c (.tup [V.int (lv W j).g, .int (lv W j).s]) = H2 at *
    walk_at "rwn"
    rw [seq1]
    walk_at "rwn"
    refine ⟨⟨by omega, by omega⟩, ⟨by omega, by omega⟩, ?_⟩
    rw [seq1]
    have hm2 : (if before / (lv W j).g + 1 + (lv W j).s < here / (lv W j).g then before / (lv W j).g + 1 + (lv W j).s else here / (lv W j).g) + 1 - (before / (lv W j).g + 1) ≤ 200 := by split <;> omega
    have hits := sw_hits (g := (lv W j).g) (s := (lv W j).s) (pt := sp.pt) (before := before) (here := here) (by omega) (by omega)
    unfold tLstRgW tRg2
    walk_at "rwn"
    refine ⟨by omega, fun e he => ?_⟩
    generalize hrg : rgV (before / (lv W j).g + 1) ((if before / (lv W j).g + 1 + (lv W j).s < here / (lv W j).g then before / (lv W j).g + 1 + (lv W j).s else here / (lv W j).g) + 1) = rg at *
    have hrl : rg.length ≤ 1000 := by rw [← hrg, rgV_length]; omega
    have hri : ∀ x ∈ rg, ∃ k : Int, x = .int k := fun x hx => by
      rw [← hrg] at hx
      unfold rgV at hx
      obtain ⟨k, _, rfl⟩ := List.mem_map.mp hx
      exact ⟨_, rfl⟩
    have s3 := Same.new (o := .lst rg) he
    have hS4 := s3 _ _ hS3
    have hrg3 : upd H2 e (.lst rg) e = some (.lst rg) := updS _ _ _
    have hfx3 := s3 _ _ hfx2
    have hq3 := s3 _ _ hq2
    have hos3 := hos2.same s3
    have hR3 := hR2.same s3
    have hV3 := hV2.same s3
    have hs3 := hs2.trans s3
    have hSp3 := hSp2.same s3
    generalize upd H2 e (.lst rg) = H3 at *
    refine lcF (a := e) (xs := rg) (fun x => match x with | .int at_ => decide ((at_ - sp.pt) % (lv W j).s = 0) | _ => false) rfl (show 13 < 14 by decide) (SqL.of hrg3) hrl (fun x hx H' R s' hr => ?_) fun D H4 hD s4 hD4 => ?_
    · obtain ⟨k, rfl⟩ := hri x hx
      have hS5 := s' _ _ hS4
      unfold wipe wipe
      walk_at "rwn"
      omega
    · intro e2 he2
      have s5 := s4.trans (Same.new (o := .lst []) he2)
      have hD5 := Same.new (o := .lst []) he2 _ _ hD4
      have hE5 : upd H4 e2 (.lst []) e2 = some (.lst []) := updS _ _ _
      generalize upd H4 e2 (.lst []) = H5 at *
      obtain ⟨ks, hks⟩ : ∃ ks : List Int, rg.filter (fun x => match x with | .int at_ => decide ((at_ - sp.pt) % (lv W j).s = 0) | _ => false) = ks.map V.int := by
        have : ∀ l : List V, (∀ x ∈ l, ∃ k : Int, x = .int k) → ∃ ks : List Int, l = ks.map V.int := fun l => by
          induction l with
          | nil => exact fun _ => ⟨[], rfl⟩
          | cons x l ih =>
            intro h
            obtain ⟨k, rfl⟩ := h x (List.mem_cons_self ..)
            obtain ⟨ks, rfl⟩ := ih fun y hy => h y (List.mem_cons_of_mem _ hy)
            exact ⟨k :: ks, rfl⟩
        exact this _ fun x hx => hri x (List.mem_filter.mp hx).1
      rw [hks] at hD5 hits
      refine ⟨.list (ks.map PyData.int), .list [], .lst (SqL.of hD5) (ddInts ks), .lst (SqL.of hE5) .nil, shaped_ints ks, by decide, ?_⟩
      rw [eqv_ints]
      refine ⟨_, rfl, ?_⟩
      have hfx5 := s5 _ _ hfx3
      have hq5 := s5 _ _ hq3
      have hos5 := hos3.same s5
      have hs5 := hs3.trans s5
      have hSp5 := hSp3.same s5
      have hvv : isVis (lv W j) sp.pt before here = true ↔ (sp.pt - before / (lv W j).g - 1) % (lv W j).s < here / (lv W j).g - before / (lv W j).g := by unfold isVis; exact decide_eq_true_iff
      have hjl : sp.lv = j := by omega
      by_cases hke : ks = []
      · subst hke
        rw [if_neg (by decide)]
        rw [if_neg (fun z => hits.mp rfl (hvv.mp z.2))] at hvis
        exact ⟨p, sp, xs, os, _, _, _, _, _, _, _, _, rfl, hs5, hSp5, hfx5, hq5, by omega, hos5, hvis⟩
      · have hne : (!ks.isEmpty) = true := by cases ks with
          | nil => exact absurd rfl hke
          | cons a l => rfl
        have hlt : (sp.pt - before / (lv W j).g - 1) % (lv W j).s < here / (lv W j).g - before / (lv W j).g := Classical.byContradiction fun z => hke (by
          have := hits.mpr z
          exact List.map_eq_nil_iff.mp this)
        rw [if_pos hne]
        rw [if_pos ⟨hjl, hvv.mpr hlt⟩] at hvis
        rw [seq1]
        walk_at "rwn"
        refine ⟨r, rv, p, here, rfl, W, B, sp, hR3.same s5, hRk, hV3.same s5, hSp5, fun v H6 s6 ho => ?_⟩
        have hf6 := s6 _ _ hfx5
        unfold tBM rAppend
        dsimp only
        rw [seq1]
        walk_at "rwn"
        have hsz : sizeLine = 16777216 := rfl
        have hol : (order W B).length = W.length := by unfold order; split <;> simp
        have hlen5 := hRk.ok.len
        refine ⟨.inl ⟨rfl, xs, SqL.of hf6⟩, by omega, ?_⟩
        have s7 : Same H (upd H6 f (.lst (xs ++ [v]))) := Same.updN (hs5.trans s6) hf
        have hx7 : OSps (upd H6 f (.lst (xs ++ [v]))) (xs ++ [v]) (os ++ [taken W B sp here]) := ((hos5.same s6).updL hf6).snoc (ho.updL hf6)
        cases hk : taken W B sp here with
        | none =>
          rw [hk] at ho hvis hx7
          obtain rfl : v = .non := ho
          have q7 := q f _ _ s7 hf upd_same (by rw [hvis]; exact hx7)
          walk_at "rwn"
        | some s' =>
          rw [hk] at ho hvis hx7
          obtain ⟨p2, rfl, hp2⟩ := id ho
          have hq6 := s6 _ _ hq5
          have hfin : ∀ v12 v13 : Option V, swInv K r rv f qd W B sp0 before here H (i + 1) [some (.ref r), some (.ref rv), some (.ref p2), some (.int before), some (.int here), some (.ref f), v6, some (.int (j : Nat)), some (.int (lv W j).g), some (.int (lv W j).s), some (.int (before / (lv W j).g + 1)), some (.int (here / (lv W j).g)), v12, v13] (upd H6 f (.lst (xs ++ [.ref p2]))) :=
            fun v12 v13 => ⟨p2, s', _, _, _, _, _, _, _, _, _, _, rfl, s7, by
              unfold SpAt at hp2 ⊢
              rw [upd_ne (fun e => by rw [e, hf6] at hp2; cases hp2)]
              exact hp2, upd_same, by rw [upd_ne hqf]; exact hq6, by simp; omega, hx7, by rw [hvis, List.append_assoc]; rfl⟩
          walk_at "rwn"
          first | exact hfin _ _ | skip
  · rw [if_neg (fun z => ht (by rw [z.1]))] at hvis
    exact ⟨p, sp, xs, os, _, _, _, _, _, _, _, _, rfl, s1, hS, hfx, hq, by omega, hos, hvis⟩
def t__law_sweep (K : Frag) (w : World) : TS :=
  (tSeq (tPar 5 6 (tCons (tLst tNil) (tCons (tLstRg (tRg1 (tCB rLenLH (tCons (tVar 0) tNil)))) tNil)))
  (tSeq (tFor (iList K (tIf (tTest (tOp rEq (tOp rIxLH (tVar 1) (tC (.int 2))) (tC (.str "high")))) (tRevL K (tVar 6)) (tVar 6))) (gName 7)
    (tIfS (tTest (tOp rEq (tOp rIxTH (tVar 2) (tC (.int 0))) (tVar 7))) (tSeq (tAsg (tSl (rSlT K) (tOp rIxLH (tVar 0) (tVar 7)) tNoPart (tPart (tC (.int 2)))) (gTup K 2 (gCons (gName 8) (gCons (gName 9) gNil))))
  (tSeq (tPar 10 11 (tCons (tOp oAdd (tOp oDiv (tVar 3) (tVar 8)) (tC (.int 1))) (tCons (tOp oDiv (tVar 4) (tVar 8)) tNil)))
  (tSeq (tAsg (tLstRgW (tRg2 (tVar 10) (tOp oAdd (tCB oMin2 (tCons (tCB oInt1 (tCons (tVar 11) tNil)) (tCons (tCB oInt1 (tCons (tOp oAdd (tVar 10) (tVar 9)) tNil)) tNil))) (tC (.int 1))))) (gName 12))
  (tIfS (tTest (tOp (rNeD K) (tLc (iList K (tVar 12)) (gName 13) (tTest (tOp rEq (tOp oMod (tOp oSub (tVar 13) (tOp rIxTH (tVar 2) (tC (.int 1)))) (tVar 9)) (tC (.int 0)))) (tVar 13) [13]) (tLst tNil))) (tSeq (tAsg (tFn (sp__law_out K) E0 (tCons (tVar 0) (tCons (tVar 1) (tCons (tVar 2) (tCons (tVar 4) tNil))))) (gName 2))
  (tSeq (tDrop (tBM K "list" rAppend (tVar 5) (tCons (tVar 2) tNil)))
  (tIfS (tTest (tOp oIsN (tVar 2) (tC .non))) (tRet (tVar 5)) tNext))) tNext)))) tNext))
  (tRet (tVar 5))))
def n__law_sweep : List Str := ["_law_rows", "_law_values", "_law_spot", "_law_before", "_law_here", "_law_found", "_law_indices", "_law_index", "_law_grain", "_law_slots", "_law_first", "_law_end", "_law_some", "_law_at"]
theorem rd__law_sweep (vs : List V) (H : Hp) (Q : VK) (E : XK) (h : sp__law_sweep K vs H Q E) : t__law_sweep K w { nx := fun _ H' => Q .non H', rt := Q } (L2.start n__law_sweep vs) H := by
  obtain ⟨r, rv, p, before, here, rfl, W, B, sp, hR, hRk, hV, hS, q⟩ := h
  have hpos := hRk.ok.pos
  have hlen := hRk.ok.len
  have hV1 := hV.six
  obtain ⟨ts, ha, hb, hc⟩ := id hR
  unfold t__law_sweep n__law_sweep
  rw [seq1]
  unfold tLstRg tRg1 tRevL
  walk_at "rwn"
  intro f hf
  have s0 := Same.new (o := .lst []) hf
  have ha0 := s0 _ _ ha
  have e1 : rgV 0 (W.length : Int) = (List.range W.length).map fun i => V.int (i : Nat) := by
    unfold rgV
    rw [show ((W.length : Int) - 0).toNat = W.length by omega]
    refine List.map_congr_left fun i _ => ?_
    rw [Int.zero_add]
  have hf0 : upd H f (.lst []) f = some (.lst []) := updS _ _ _
  generalize upd H f (.lst []) = H0 at *
  walk_at "rwn"
  refine ⟨RgOk.of_le (by omega) (by omega) (by omega) (by omega), fun i6 h6 => ?_⟩
  have s1 := s0.trans (Same.new (o := .lst ((List.range W.length).map fun i => V.int (i : Nat))) h6)
  have hf1 := Same.new (o := .lst ((List.range W.length).map fun i => V.int (i : Nat))) h6 _ _ hf0
  have h61 : upd H0 i6 (.lst ((List.range W.length).map fun i => V.int (i : Nat))) i6 = some (.lst ((List.range W.length).map fun i => V.int (i : Nat))) := updS _ _ _
  have hV1 := s1 _ _ hV1
  have hif : i6 ≠ f := fun e => by rw [e, hf0] at h6; cases h6
  generalize upd H0 i6 (.lst ((List.range W.length).map fun i => V.int (i : Nat))) = H1 at *
  have hb : B.high = true ∨ B.high = false := by cases B.high <;> simp
  rw [seq1]
  have hV2 : VlAt H1 rv B := ⟨hV1, hV.ok⟩
  refine for_high rfl hV2 ?_
  rcases hb with hb | hb
  · rw [if_pos hb]
    refine ⟨_, rfl, i6, rfl, _, SqL.of h61, fun qd hqd => ?_⟩
    have ho : ((List.range W.length).map fun i => V.int (i : Nat)).reverse = ordV W B := by unfold ordV order; rw [if_pos hb, List.map_reverse]
    rw [ho]
    have hf2 := Same.new (o := .lst (ordV W B)) hqd _ _ hf1
    have hq : upd H1 qd (.lst (ordV W B)) qd = some (.lst (ordV W B)) := updS _ _ _
    have s2 := s1.trans (Same.new (o := .lst (ordV W B)) hqd)
    have hqf : qd ≠ f := fun e => by rw [e, hf1] at hqd; cases hqd
    generalize upd H1 qd (.lst (ordV W B)) = H2 at *
    refine ⟨qd, rfl, ⟨_, SqL.of hq⟩, for_list (xs := ordV W B) (swInv K r rv f qd W B sp before here H) ⟨p, sp, [], [], _, _, _, _, _, _, _, _, rfl, s2, hS.same s2, hf2, hq, Nat.le_refl _, OSps.nil, rfl⟩ (fun i σ H' _ ⟨_, _, _, _, _, _, _, _, _, _, _, _, _, _, _, _, z, _⟩ => SqL.of z) (fun i x σ H' hx hI => sw_body hR hRk hV hf hqf rfl q i x σ H' hx hI) ?_⟩
    rintro σ H3 ⟨p', sp', xs, os, v6, v7, v8, v9, v10, v11, v12, v13, rfl, s3, hS3, hf3, hq3, hl3, hos, hvis⟩
    rw [List.drop_of_length_le (by unfold ordV; simp)] at hvis
    exact ⟨_, rfl, q f xs H3 s3 hf hf3 (by rw [hvis]; simpa [visGo] using hos)⟩
  · rw [if_neg (by rw [hb]; decide)]
    have ho : ((List.range W.length).map fun i => V.int (i : Nat)) = ordV W B := by unfold ordV order; rw [if_neg (by rw [hb]; decide)]
    rw [ho] at h61
    refine ⟨_, rfl, i6, rfl, ⟨_, SqL.of h61⟩, for_list (xs := ordV W B) (swInv K r rv f i6 W B sp before here H) ⟨p, sp, [], [], _, _, _, _, _, _, _, _, rfl, s1, hS.same s1, hf1, h61, Nat.le_refl _, OSps.nil, rfl⟩ (fun i σ H' _ ⟨_, _, _, _, _, _, _, _, _, _, _, _, _, _, _, _, z, _⟩ => SqL.of z) (fun i x σ H' hx hI => sw_body hR hRk hV hf hif rfl q i x σ H' hx hI) ?_⟩
    rintro σ H3 ⟨p', sp', xs, os, v6, v7, v8, v9, v10, v11, v12, v13, rfl, s3, hS3, hf3, hq3, hl3, hos, hvis⟩
    rw [List.drop_of_length_le (by unfold ordV; simp)] at hvis
    exact ⟨_, rfl, q f xs H3 s3 hf hf3 (by rw [hvis]; simpa [visGo] using hos)⟩
theorem OSps.count : ∀ {H : Hp} {xs : List V} {os : List (Option Spot)}, OSps H xs os → (xs.filter fun x => !decide (x = V.non)).length = (os.filter (·.isSome)).length
  | _, [], [], _ => rfl
  | _, [], _ :: _, h => by have := h.1; simp at this
  | _, _ :: _, [], h => by have := h.1; simp at this
  | H, x :: xs, o :: os, h => by
    have ih := OSps.count (H := H) (xs := xs) (os := os) ⟨by have := h.1; simpa using this, fun i v q e1 e2 => h.2 (i + 1) v q (by simpa using e1) (by simpa using e2)⟩
    have h0 := h.2 0 x o rfl rfl
    cases o with
    | none =>
      obtain rfl : x = .non := h0
      rw [List.filter_cons_of_neg (by simp), List.filter_cons_of_neg (by simp), ih]
    | some sp =>
      obtain ⟨p, rfl, _⟩ := h0
      rw [List.filter_cons_of_pos (by simp), List.filter_cons_of_pos (by simp), List.length_cons, List.length_cons, ih]
theorem visGo_somes {W : List Lv} {B : Bk} {b n : Int} : ∀ (is : List Nat) (sp : Spot), ((visGo W B b n is sp).getLast? = some none → ((visGo W B b n is sp).filter (·.isSome)).length + 1 = (visGo W B b n is sp).length) ∧
    ((∀ sp', (visGo W B b n is sp).getLast? = some (some sp') → ((visGo W B b n is sp).filter (·.isSome)).length = (visGo W B b n is sp).length))
  | [], sp => ⟨fun h => by simp [visGo] at h, fun sp' h => by simp [visGo] at h⟩
  | i :: is, sp => by
    unfold visGo
    split
    · cases hk : taken W B sp n with
      | none => exact ⟨fun _ => rfl, fun sp' h => by simp at h⟩
      | some s' =>
        obtain ⟨h1, h2⟩ := visGo_somes is s' (W := W) (B := B) (b := b) (n := n)
        dsimp only
        rw [List.filter_cons_of_pos (by simp), List.length_cons, List.length_cons, List.getLast?_cons]
        refine ⟨fun h => ?_, fun sp' h => ?_⟩
        · cases hl : (visGo W B b n is s').getLast? with
          | none => rw [hl] at h; simp at h
          | some o =>
            rw [hl] at h
            obtain rfl : o = none := by simpa using h
            have := h1 hl
            omega
        · cases hl : (visGo W B b n is s').getLast? with
          | none =>
            have := List.getLast?_eq_none_iff.mp hl
            rw [this]
            rfl
          | some o =>
            rw [hl] at h
            obtain rfl : o = some sp' := by simpa using h
            have := h2 sp' hl
            omega
    · exact visGo_somes is sp
def sp__law_run (K : Frag) : Sp := fun vs H Q _ => ∃ (r rv p : Addr) (here : Int) (lim : Option Int), vs = [.ref r, .ref rv, .ref p, .int here, optV lim] ∧ ∃ W B sp, RowsAt H r W ∧ ROk W ∧ VlAt H rv B ∧ SpAt H p sp ∧ sp.lv < W.length ∧
  ∀ n res, wl W B lim n sp here 0 = some res → ∀ v f H', Same H H' → OSp H' v res.1 → H' f = some (.lst [v, .int res.2.1, .int res.2.2]) → Q (.ref f) H'
def runInv (r rv : Addr) (here : Int) (lim : Option Int) (W : List Lv) (B : Bk) (res : Res) (H : Hp) (m : Nat) (σ : L2.St) (H' : Hp) : Prop :=
  (∃ (p : Addr) (sp : Spot) (tick mv : Int) (v7 v8 v9 : Option V), σ = [some (.ref r), some (.ref rv), some (.ref p), some (.int here), some (optV lim), some (.int tick), some (.int mv), v7, v8, v9] ∧ Same H H' ∧ SpAt H' p sp ∧ sp.lv < W.length ∧ wl W B lim m sp tick mv = some res) ∨
  (∃ (tick mv : Int) (v7 v8 v9 : Option V), m = 0 ∧ σ = [some (.ref r), some (.ref rv), some .non, some (.int here), some (optV lim), some (.int tick), some (.int mv), v7, v8, v9] ∧ Same H H' ∧ res = (none, tick, mv))
def t__law_run (K : Frag) (w : World) : TS :=
  (tSeq (tPar 5 6 (tCons (tVar 3) (tCons (tC (.int 0)) tNil)))
  (tSeq (tWhile (tTest (tOp oNotN (tVar 2) (tC .non)))
    (tSeq (tAsg (tFn (sp__law_visit K) E0 (tCons (tVar 0) (tCons (tVar 2) (tCons (tVar 5) tNil)))) (gName 7))
  (tSeq (tIfS (tAnd (tTest (tOp oNotN (tVar 4) (tC .non))) (tTest (tOp oGt (tVar 7) (tVar 4)))) (tRet (tLst (tCons (tVar 2) (tCons (tVar 5) (tCons (tVar 6) tNil))))) tNext)
  (tSeq (tAsg (tFn (sp__law_sweep K) E0 (tCons (tVar 0) (tCons (tVar 1) (tCons (tVar 2) (tCons (tOp oSub (tVar 7) (tC (.int 1))) (tCons (tVar 7) tNil)))))) (gName 8))
  (tSeq (tPar 5 2 (tCons (tVar 7) (tCons (tOp rIxLH (tVar 8) (tUn oNeg (tC (.int 1)))) tNil)))
  (tAsg (tOp oAdd (tVar 6) (tCB rLenLH (tCons (tLc (iList K (tVar 8)) (gName 9) (tTest (tOp oNotN (tVar 9) (tC .non))) (tVar 9) [9]) tNil))) (gName 6)))))))
  (tRet (tLst (tCons (tC .non) (tCons (tVar 5) (tCons (tVar 6) tNil)))))))
def n__law_run : List Str := ["_law_rows", "_law_values", "_law_spot", "_law_here", "_law_limit", "_law_tick", "_law_many", "_law_at", "_law_found", "_law_one"]
theorem rd__law_run (vs : List V) (H : Hp) (Q : VK) (E : XK) (h : sp__law_run K vs H Q E) : t__law_run K w { nx := fun _ H' => Q .non H', rt := Q } (L2.start n__law_run vs) H := by
  obtain ⟨r, rv, p, here, lim, rfl, W, B, sp, hR, hRk, hV, hS, hl, q⟩ := h
  obtain ⟨res, hres⟩ := wl_ends hRk.ok B lim (mu sp here) sp here 0 hl (Nat.le_refl _)
  have q := q _ _ hres
  unfold t__law_run n__law_run
  rw [seq1]
  walk_at "rwn"
  rw [seq1]
  refine ⟨runInv r rv here lim W B res H, ⟨_, .inl ⟨p, sp, here, 0, _, _, _, rfl, Same.refl H, hS, hl, hres⟩⟩, ?_⟩
  rintro m σ H1 (⟨p, sp, tick, mv, v7, v8, v9, rfl, s1, hS, hl, hw⟩ | ⟨tick, mv, v7, v8, v9, rfl, rfl, s1, rfl⟩)
  · walk_at "rwn"
    cases m with
    | zero => cases hw
    | succ m =>
      refine ⟨fun σ' H' => ∃ m', m' < m + 1 ∧ runInv r rv here lim W B res H m' σ' H', fun σ' H' z => z, ?_⟩
      rw [seq1]
      walk_at "rwn"
      refine ⟨r, p, tick, rfl, W, sp, hR.same s1, hRk, hS, hl, fun H2 s2 => ?_⟩
      dsimp only
      rw [seq1]
      have hgt := va_step hRk.ok hl sp.pt tick
      unfold wl at hw
      dsimp only at hw
      walk_at "rwn"
      refine limSplit (fun ho => ?_) fun ho => ?_
      · rw [if_pos ho] at hw
        obtain rfl := Option.some.inj hw
        intro f hf
        exact q (.ref p) f _ ((s1.trans s2).trans (Same.new hf)) ⟨p, rfl, (hS.same s2).same (Same.new hf)⟩ (updS _ _ _)
      · rw [if_neg (by rw [ho]; exact Bool.false_ne_true)] at hw
        rw [seq1]
        walk_at "rwn"
        have s12 := s1.trans s2
        refine ⟨r, rv, p, _, _, rfl, W, B, sp, hR.same s12, hRk, hV.same s12, hS.same s2, fun f xs H3 s3 hfn hf hos => ?_⟩
        dsimp only
        rw [seq1]
        have hne := visited_ne hRk.ok (B := B) hl tick
        obtain ⟨f1, f2⟩ := visGo_somes (W := W) (B := B) (b := va (lv W sp.lv) sp.pt tick - 1) (n := va (lv W sp.lv) sp.pt tick) (order W B) sp
        have hcount := hos.count
        cases hq : (visited W B sp (va (lv W sp.lv) sp.pt tick - 1) (va (lv W sp.lv) sp.pt tick)).getLast? with
        | none => exact absurd (List.getLast?_eq_none_iff.mp hq) hne
        | some o =>
          rw [hq] at hw
          obtain ⟨v, hv1, hov⟩ := hos.last hq
          have hat := atI_m1 hv1
          have s13 := s12.trans s3
          generalize va (lv W sp.lv) sp.pt tick = t at *
          have hxl : xs.length ≤ 1000 := by
            have h1 := hos.1
            have h2 : (visited W B sp (t - 1) t).length ≤ (order W B).length := by
              have : ∀ (is : List Nat) (sp : Spot), (visGo W B (t - 1) t is sp).length ≤ is.length := fun is => by
                induction is with
                | nil => exact fun _ => Nat.le_refl _
                | cons i is ih =>
                  intro sp
                  unfold visGo
                  split
                  · cases taken W B sp t with
                    | none => exact Nat.succ_le_succ (Nat.zero_le _)
                    | some s' => exact Nat.succ_le_succ (ih s')
                  · exact Nat.le_succ_of_le (ih sp)
              exact this _ _
            have h3 : (order W B).length = W.length := by unfold order; split <;> simp
            have := hRk.ok.len
            omega
          cases o with
          | none =>
            obtain rfl := Option.some.inj hw
            obtain rfl : v = .non := hov
            walk_at "rwn"
            refine lcF (a := f) (xs := xs) (fun x => !decide (x = V.non)) rfl (show 9 < 10 by decide) (SqL.of hf) hxl (fun x hx H' R s' hr => ?_) fun D H4 hD s4 hD4 => ⟨D, rfl, _, hD4, 0, by omega, .inr ⟨_, _, _, _, _, rfl, rfl, s13.trans s4, ?_⟩⟩
            · unfold wipe wipe
              walk_at "rwn"
            · rw [hcount]
              have h1 : ((visited W B sp (t - 1) t).filter (·.isSome)).length + 1 = (visited W B sp (t - 1) t).length := f1 hq
              rw [show mv + ((visited W B sp (t - 1) t).length : Int) - 1 = mv + (((visited W B sp (t - 1) t).filter (·.isSome)).length : Int) by omega]
          | some sp' =>
            dsimp only at hw
            obtain ⟨p', rfl, hp'⟩ := hov
            have hmu := mu_step hRk.ok hgt.1 hq
            walk_at "rwn"
            refine lcF (a := f) (xs := xs) (fun x => !decide (x = V.non)) rfl (show 9 < 10 by decide) (SqL.of hf) hxl (fun x hx H' R s' hr => ?_) fun D H4 hD s4 hD4 => ⟨D, rfl, _, hD4, m, by omega, .inl ⟨p', sp', t, _, _, _, _, rfl, s13.trans s4, hp'.same s4, hmu.2.1, ?_⟩⟩
            · unfold wipe wipe
              walk_at "rwn"
            · rw [hcount]
              have h1 : ((visited W B sp (t - 1) t).filter (·.isSome)).length = (visited W B sp (t - 1) t).length := f2 sp' hq
              rw [h1]
              exact hw
  · walk_at "rwn"
    intro f hf
    exact q .non f _ (s1.trans (Same.new hf)) rfl (updS _ _ _)
/-- the law's own tick of firing -/
def wfin (W : List Lv) (B : Bk) (start delay : Int) : Int × Int := match placeM W B start delay with
  | none => (start, 0)
  | some sp => match wl W B none (mu sp start) sp start 0 with
    | none => (0, 0)
    | some r => r.2
theorem placeM_proper {W : List Lv} (ok : WOk W) {B : Bk} {now delay : Int} {sp : Spot} (hd : 0 ≤ delay) (h : placeM W B now delay = some sp) : Proper W sp now := by
  have hre : 2 ≤ reach W := (ok.all (W.length - 1) (by have := ok.pos; omega)).2.2.2.2
  unfold placeM at h
  split at h
  · cases h
  · obtain rfl := Option.some.inj h
    intro z
    rw [spotAt_due] at z
    have hz : reach W ≤ (if reach W ≤ (if 1 > delay then 1 else delay) ∧ B.bey = 2 then reach W - 1 else (if 1 > delay then 1 else delay)) := by
      omega
    rw [spotAt_far ok hz]
/-- it is the package's -/
theorem wfin_fin {W : List Lv} (ok : WOk W) (B : Bk) {start delay : Int} (hd : 0 ≤ delay) : wfin W B start delay = fin W B start delay := by
  unfold wfin fin
  cases h : placeM W B start delay with
  | none => rfl
  | some sp =>
    dsimp only
    obtain ⟨r, hr⟩ := fol_ends ok B none (mu sp start) sp start 0 (placeM_lt ok h) (Nat.le_refl _)
    obtain ⟨r', hr'⟩ := wl_ends ok B none (mu sp start) sp start 0 (placeM_lt ok h) (Nat.le_refl _)
    obtain ⟨m, hm⟩ := fol_wl ok _ (placeM_proper ok hd h) (placeM_lt ok h) hr
    rw [hr, hr', wl_eq hr' hm]
def sp__law_fire (K : Frag) : Sp := fun vs H Q _ => ∃ (r rv : Addr) (start delay : Int), vs = [.ref r, .ref rv, .int start, .int delay] ∧ ∃ W B, RowsAt H r W ∧ ROk W ∧ VlAt H rv B ∧ 0 ≤ delay ∧ (reach W ≤ delay → B.bey ≠ 0) ∧ ∀ H', Same H H' → Q (.int (fin W B start delay).1) H'
def t__law_fire (K : Frag) (w : World) : TS :=
  (tSeq (tAsg (tFn (sp__law_put K) E0 (tCons (tVar 0) (tCons (tVar 1) (tCons (tVar 2) (tCons (tVar 3) tNil))))) (gName 4))
  (tRet (tIf (tTest (tOp oIsN (tVar 4) (tC .non))) (tVar 2) (tOp rIxLH (tFn (sp__law_run K) E0 (tCons (tVar 0) (tCons (tVar 1) (tCons (tVar 4) (tCons (tVar 2) (tCons (tC .non) tNil)))))) (tC (.int 1))))))
def n__law_fire : List Str := ["_law_rows", "_law_values", "_law_start_here", "_law_delay_here", "_law_spot"]
theorem rd__law_fire (vs : List V) (H : Hp) (Q : VK) (E : XK) (h : sp__law_fire K vs H Q E) : t__law_fire K w { nx := fun _ H' => Q .non H', rt := Q } (L2.start n__law_fire vs) H := by
  obtain ⟨r, rv, start, delay, rfl, W, B, hR, hRk, hV, hd, hb, q⟩ := h
  rw [← wfin_fin hRk.ok B hd] at q
  unfold t__law_fire n__law_fire
  walk_at "rwl"
  refine ⟨r, rv, start, delay, rfl, W, B, hR, hRk, hV, hd, hb, fun v H1 s1 ho => ?_⟩
  cases hp : placeM W B start delay with
  | none =>
    rw [hp] at ho
    obtain rfl : v = .non := ho
    unfold wfin at q
    rw [hp] at q
    rw [if_pos rfl]
    exact q _ s1
  | some sp =>
    rw [hp] at ho
    obtain ⟨p, rfl, hsp⟩ := ho
    have hl := placeM_lt hRk.ok hp
    rw [if_neg (by intro z; cases z)]
    refine ⟨r, rv, p, start, none, rfl, W, B, sp, hR.same s1, hRk, hV.same s1, hsp, hl, fun n res hw v f H2 s2 ho2 hf => ?_⟩
    obtain ⟨r', hr'⟩ := wl_ends hRk.ok B none (mu sp start) sp start 0 hl (Nat.le_refl _)
    unfold wfin at q
    rw [hp] at q
    dsimp only at q
    rw [hr', wl_eq hr' hw] at q
    exact ⟨f, rfl, _, hf, _, rfl, q _ (s1.trans s2)⟩
end
end Tw
/-! Tw: lumps -/
namespace Tw
open PySem PySem.Spec PyProof.Rows L2 He TwM StX
open PySem.W (Frag)
local macro_rules | `(tactic| walk_at "rsf") => `(tactic| simp only [*, at3_0, at3_1, at3_2, at2_0, at2_1, updS, upd_two, gSub, rSetL, updN, and_assoc, not_true_eq_false, not_false_eq_true, tNever, List.length_map, tFld, rIxTH, rIxLH, rLenTH, rLenLH, lk1, lfs_g, lfs_s, lfs_p, HO.ins.injEq, HO.tup.injEq, HO.lst.injEq, sp_Book_rounding, sp_Book_action, sp_Book_order, sp_Book_due, sp_Book_zero, sp_Book_beyond, Int.toNat_natCast, sp_visit_after, sp_is_visited, sp_Level_grain, sp_Level_slots, sp_Level_span, sp_Wheel_reach, sp_Wheel___len__, sp_is_integer, sp_is_count, sp_is_within, sp_rounded, tSeq, tAsg, gName, tVar, tC, tOp, rI, rI0, rU, tUn, oAdd, oSub, oMul, oDiv, oMod, oNeg, oLt, oLe, oGt, oGe, oIsN, oNotN, tFn, tCons, tNil, tIfS, tIf, tTest, tB, tNot, tAnd, tOr, tAndV, tOrV, tNotV,
    tRet, tRetN, tNext, tCB, tDrop, tChain, rEq, rNe, oMax2, oMin2, oInt1, rLenF, L2.start, List.map_cons, List.map_nil, List.length_cons, List.length_nil, List.replicate_succ, List.replicate_zero, List.cons_append, List.nil_append, Nat.reduceAdd, Nat.reduceSub, Nat.zero_add,
    List.set_cons_zero, List.set_cons_succ, List.getElem?_cons_zero, List.getElem?_cons_succ, Option.some.injEq, V.int.injEq, V.ref.injEq, V.str.injEq, V.bl.injEq, exists_eq_left', exists_eq_left, exists_and_left, List.cons.injEq, and_true, true_and, decide_eq_true_eq, sc_ii, sc_ss, sc_bb, sc_ni, sc_in, sc_nn, sc_is, reduceCtorEq,
    Bool.not_eq_true', decide_eq_false_iff_not, if_true, if_false, Bool.false_eq_true, exists_eq', exists_const, false_and, and_false, or_false, false_or, exists_false, Bool.not_not, Bool.not_true, Bool.not_false, sUp_up, sFire_fire, sHigh_high, sPut_put, sZone_now, sBey_refuse, sBey_cut, tTup, tLst, sz0, sz1, sz2, sz3, sz4, sz5, sz6])
section
variable {K : Frag} {w : World}
def sp_passed_lump (K : Frag) : Sp := fun vs H Q _ => ∃ (a b p : Addr) (before now : Int) (mode : Str), vs = [.ref a, .ref b, .ref p, .int before, .int now, .str mode] ∧ ∃ W B sp, WhAt K H a W ∧ BkAt K H b B ∧ SpAt H p sp ∧ sp.lv < W.length ∧
  ∀ v H', Same H H' → OSp H' v (passM W B sp before now mode) → Q v H'
theorem pass_rest {H : Hp} {Q : VK} {a b p : Addr} {bf now : Int} {W : List Lv} {B : Bk} {sp : Spot} (hW : WhAt K H a W) (hB : BkAt K H b B) (hS : SpAt H p sp)
    (q : ∀ v H', Same H H' → OSp H' v (match (visited W B sp bf now).getLast? with | none => some sp | some o => o) → Q v H') :
    sp_visited K [V.ref a, V.ref b, V.ref p, V.int bf, V.int now] H (fun x H1 => ∀ (p_1 : Addr), H1 p_1 = none → rEqD K x (V.ref p_1) (upd H1 p_1 (HO.lst [])) fun x_1 H' =>
      ∃ k, x_1 = V.bl k ∧ if k = true then Q (V.ref p) H' else ∃ p, x = V.ref p ∧ ∃ x, H' p = some (HO.lst x) ∧ ∃ x_2, atI x (-1) = some x_2 ∧ Q x_2 H') E0 := by
  refine ⟨a, b, p, _, _, rfl, W, B, sp, hW, hB, hS, fun f xs H1 s1 hfn hf hos r hr => ?_⟩
  have s2 : Same H1 (upd H1 r (.lst [])) := Same.new hr
  have hf2 := s2 _ _ hf
  have hos2 := hos.same s2
  refine ⟨.list ((visited W B sp bf now).map dSp), .list [], .lst (SqL.of hf2) hos2.dp, .lst (SqL.of upd_same) .nil, shaped_list _, by decide, _, rfl, ?_⟩
  rw [eqv_nil]
  cases hv : (visited W B sp bf now).getLast? with
  | none =>
    rw [hv] at q
    have e := List.getLast?_eq_none_iff.mp hv
    rw [e, if_pos (show ([] : List (Option Spot)).isEmpty = true from rfl)]
    exact q _ _ (s1.trans s2) ⟨p, rfl, (hS.same s1).same s2⟩
  | some o =>
    rw [hv] at q
    obtain ⟨v, hv1, hov⟩ := hos2.last hv
    rw [if_neg (fun z => by rw [List.isEmpty_iff.mp z] at hv; cases hv)]
    exact ⟨f, rfl, xs, hf2, v, atI_m1 hv1, q v _ (s1.trans s2) hov⟩
def t_passed_lump (K : Frag) (w : World) : TS :=
  (tSeq (tIfS (tTest (tOp rEq (tVar 5) (tC (.str "each")))) (tRet (tOp rIxTH (tFn (sp_followed K) E0 (tCons (tVar 0) (tCons (tVar 1) (tCons (tVar 2) (tCons (tVar 3) (tCons (tVar 4) tNil)))))) (tC (.int 0)))) tNext)
  (tSeq (tAsg (tFn (sp_visited K) E0 (tCons (tVar 0) (tCons (tVar 1) (tCons (tVar 2) (tCons (tIf (tTest (tOp rEq (tVar 5) (tC (.str "last")))) (tOp oSub (tVar 4) (tC (.int 1))) (tVar 3)) (tCons (tVar 4) tNil)))))) (gName 6))
  (tSeq (tIfS (tTest (tOp (rEqD K) (tVar 6) (tLst tNil))) (tRet (tVar 2)) tNext)
  (tRet (tOp rIxLH (tVar 6) (tUn oNeg (tC (.int 1))))))))
def n_passed_lump : List Str := ["wheel", "book", "spot", "before", "now", "mode", "found"]
theorem rd_passed_lump (vs : List V) (H : Hp) (Q : VK) (E : XK) (h : sp_passed_lump K vs H Q E) : t_passed_lump K w { nx := fun _ H' => Q .non H', rt := Q } (L2.start n_passed_lump vs) H := by
  obtain ⟨a, b, p, before, now, mode, rfl, W, B, sp, hW, hB, hS, hl, q⟩ := h
  unfold t_passed_lump n_passed_lump
  walk_at "rsf"
  unfold passM at q
  refine ite2 (fun h1 => ?_) fun h1 => ?_
  · rw [if_pos h1] at q
    refine ⟨a, b, p, before, some now, rfl, W, B, sp, hW, hB, hS, hl, fun n r hr v f H1 s1 ho hf => ?_⟩
    obtain ⟨r', hr'⟩ := fol_ends hW.ok B (some now) (mu sp before) sp before 0 hl (Nat.le_refl _)
    have e1 := fol_mono _ hr' (max n (mu sp before)) (Nat.le_max_right _ _)
    have e2 := fol_mono _ hr (max n (mu sp before)) (Nat.le_max_left _ _)
    rw [e1] at e2
    obtain rfl := Option.some.inj e2
    rw [hr'] at q
    exact ⟨f, rfl, _, hf, v, rfl, q v H1 s1 ho⟩
  · rw [if_neg h1] at q
    refine ite2 (fun h2 => ?_) fun h2 => ?_
    · rw [if_pos h2] at q
      exact pass_rest hW hB hS q
    · rw [if_neg h2] at q
      exact pass_rest hW hB hS q
def sp_passed (K : Frag) : Sp := fun vs H Q _ => ∃ (a b p : Addr) (before now : Int) (mode : Str), vs = [.ref a, .ref b, .ref p, .int before, .int now, .str mode] ∧ ∃ W B sp, WhAt K H a W ∧ BkAt K H b B ∧ SpAt H p sp ∧ sp.lv < W.length ∧ 0 ≤ before ∧ before < now ∧
  (mode = "each" ∨ mode = "last" ∨ mode = "slots") ∧ ∀ v H', Same H H' → OSp H' v (passM W B sp before now mode) → Q v H'
def t_passed (K : Frag) (w : World) : TS :=
  (tSeq (tIfS (tNot (tB (tFn (sp_is_count K) E0 (tCons (tVar 3) tNil)))) tNever tNext)
  (tSeq (tIfS (tOr (tNot (tB (tFn (sp_is_integer K) E0 (tCons (tVar 4) tNil)))) (tTest (tOp oLe (tVar 4) (tVar 3)))) tNever tNext)
  (tSeq (tIfS (tOr (tNot (tB (tCB (rIsi K) (tCons (tVar 5) (tCons (tC (.ty "str")) tNil))))) (tTest (tOp (rIn K true) (tVar 5) (tC (.ref (ga K "MODES")))))) tNever tNext)
  (tRet (tFn (sp_passed_lump K) E0 (tCons (tVar 0) (tCons (tVar 1) (tCons (tVar 2) (tCons (tVar 3) (tCons (tVar 4) (tCons (tVar 5) tNil)))))))))))
def n_passed : List Str := ["wheel", "book", "spot", "before", "now", "mode"]
theorem rd_passed (T : Kg K) (vs : List V) (H : Hp) (Q : VK) (E : XK) (h : sp_passed K vs H Q E) : t_passed K w { nx := fun _ H' => Q .non H', rt := Q } (L2.start n_passed vs) H := by
  obtain ⟨a, b, p, before, now, mode, rfl, W, B, sp, hW, hB, hS, hl, h0, h1, hm, q⟩ := h
  have hin : (if true = true then !inV (.str mode) [.str "each", .str "last", .str "slots"] else inV (.str mode) [.str "each", .str "last", .str "slots"]) = false := by
    rcases hm with rfl | rfl | rfl <;> decide +kernel
  unfold t_passed n_passed
  walk_at "rsf"
  rw [if_neg (by omega)]
  refine isi_base (.base (.str mode)) (b := true) (by decide +kernel) ⟨_, rfl, ?_⟩
  rw [if_neg Bool.noConfusion]
  refine ⟨_, _, rfl, .inr (T.md _), rfl, by decide +kernel, _, rfl, ?_⟩
  rw [hin, if_neg Bool.false_ne_true]
  exact ⟨a, b, p, before, now, mode, rfl, W, B, sp, hW, hB, hS, hl, q⟩
end
end Tw
/-! Tw: delays of any size -/
namespace Tw
open TwM
section
variable {W : List Lv} {B : Bk} {lim : Option Int}
/-- how far a timer beyond the range goes on -/
def stepM (W : List Lv) (B : Bk) : Int := ((rnd B.up (reach W - 1) (lv W (W.length - 1)).g - 1) % (lv W (W.length - 1)).s + 1) * (lv W (W.length - 1)).g
theorem stepM_va (ok : WOk W) {t : Int} (hg : (lv W (W.length - 1)).g ∣ t) : va (lv W (W.length - 1)) (rnd B.up (t + reach W - 1) (lv W (W.length - 1)).g) t = t + stepM W B := by
  have hall := ok.all (W.length - 1) (by have := ok.pos; omega)
  have e : rnd B.up (t + reach W - 1) (lv W (W.length - 1)).g = rnd B.up (reach W - 1) (lv W (W.length - 1)).g + t / (lv W (W.length - 1)).g := by
    rw [show t + reach W - 1 = (reach W - 1) + t by omega]
    exact rnd_shiftD (by omega) hg
  unfold va stepM
  rw [e]
  generalize rnd B.up (reach W - 1) (lv W (W.length - 1)).g = p
  obtain ⟨z, rfl⟩ := hg
  rw [Int.mul_ediv_cancel_left _ (by omega), show p + z - z - 1 = p - 1 by omega, show z + 1 + (p - 1) % (lv W (W.length - 1)).s = z + ((p - 1) % (lv W (W.length - 1)).s + 1) by omega, Int.add_mul, Int.mul_comm z]
theorem stepM_pos (ok : WOk W) : 1 ≤ stepM W B ∧ stepM W B ≤ 100000 ∧ (lv W (W.length - 1)).g ∣ stepM W B := by
  have hall := ok.all (W.length - 1) (by have := ok.pos; omega)
  unfold stepM
  have h0 := Int.emod_nonneg (rnd B.up (reach W - 1) (lv W (W.length - 1)).g - 1) (b := (lv W (W.length - 1)).s) (by omega)
  have h1 := Int.emod_lt_of_pos (rnd B.up (reach W - 1) (lv W (W.length - 1)).g - 1) (b := (lv W (W.length - 1)).s) (by omega)
  refine ⟨?_, ?_, Int.dvd_mul_left _ _⟩
  · have : 1 * 1 ≤ ((rnd B.up (reach W - 1) (lv W (W.length - 1)).g - 1) % (lv W (W.length - 1)).s + 1) * (lv W (W.length - 1)).g := Int.mul_le_mul (by omega) (by omega) (by omega) (by omega)
    omega
  · have : ((rnd B.up (reach W - 1) (lv W (W.length - 1)).g - 1) % (lv W (W.length - 1)).s + 1) * (lv W (W.length - 1)).g ≤ 100 * 1000 := Int.mul_le_mul (by omega) (by omega) (by omega) (by omega)
    omega
theorem wl_mv : ∀ (n : Nat) {sp : Spot} {tick mv c : Int} {r : Res}, wl W B lim n sp tick mv = some r → wl W B lim n sp tick (mv + c) = some (r.1, r.2.1, r.2.2 + c)
  | 0, _, _, _, _, _, h => by cases h
  | n + 1, sp, tick, mv, c, r, h => by
    unfold wl at h ⊢
    dsimp only at h ⊢
    split at h
    · rename_i ho
      rw [if_pos ho]
      cases h
      rfl
    · rename_i ho
      rw [if_neg ho]
      split at h
      · cases h
      · cases h
        dsimp only
        congr 3
        omega
      · have := wl_mv n (c := c) h
        rw [← this]
        congr 1
        omega
theorem visGo_none {b n : Int} : ∀ (is : List Nat) {sp : Spot}, taken W B sp n = none → sp.lv ∈ is → isVis (lv W sp.lv) sp.pt b n = true → visGo W B b n is sp = [none]
  | [], sp, _, h, _ => by simp at h
  | i :: is, sp, ht, h, hv => by
    unfold visGo
    by_cases e : sp.lv = i
    · rw [if_pos ⟨e, by rw [← e]; exact hv⟩, ht]
    · rw [if_neg (fun z => e z.1)]
      exact visGo_none is ht (by rcases List.mem_cons.mp h with q | q; exact absurd q e; exact q) hv
/-- fired at the first visit -/
theorem fin_first (ok : WOk W) {start delay : Int} {sp : Spot} (hp : placeM W B start delay = some sp) (hk : sp.lv = 0 ∨ B.fire = true) : fin W B start delay = (va (lv W sp.lv) sp.pt start, 0) := by
  have hl := placeM_lt ok hp
  have hall := ok.all _ hl
  have ht : taken W B sp (va (lv W sp.lv) sp.pt start) = none := by unfold taken; rw [if_pos hk]
  have hv : visited W B sp (va (lv W sp.lv) sp.pt start - 1) (va (lv W sp.lv) sp.pt start) = [none] := visGo_none _ ht (mem_order.mpr hl) (va_vis (by omega) (by omega) _ _)
  have hf : fol W B none 1 sp start 0 = some (none, va (lv W sp.lv) sp.pt start, 0) := by
    unfold fol
    dsimp only
    rw [show over none (va (lv W sp.lv) sp.pt start) = false from rfl, if_neg Bool.false_ne_true, hv]
    rfl
  rw [fin_some hp ok hl hf]
theorem placeM_far (ok : WOk W) {start delay : Int} (h : reach W ≤ delay) : placeM W B start delay = if B.bey = 2 then some (spotAt W B start (reach W - 1) (start + (reach W - 1))) else some ⟨W.length - 1, rnd B.up (start + reach W - 1) (lv W (W.length - 1)).g, start + delay⟩ := by
  have hre : 2 ≤ reach W := (ok.all (W.length - 1) (by have := ok.pos; omega)).2.2.2.2
  unfold placeM
  rw [if_neg (fun z => by have := z.1; omega)]
  dsimp only
  rw [if_neg (show ¬ (1 : Int) > delay by omega)]
  by_cases hb : B.bey = 2
  · rw [if_pos ⟨h, hb⟩, if_pos hb]
  · rw [if_neg (fun z => hb z.2), if_neg hb, spotAt_far ok h]
/-- cut, or fired at once: the delay beyond the range does not matter -/
theorem fin_same (ok : WOk W) {start d d' : Int} (h : reach W ≤ d) (h' : reach W ≤ d') (hk : B.bey = 2 ∨ B.fire = true ∨ W.length = 1) : fin W B start d = fin W B start d' := by
  by_cases hb : B.bey = 2
  · unfold fin
    rw [placeM_far ok h, placeM_far ok h', if_pos hb, if_pos hb]
  · have p1 := placeM_far (B := B) ok (start := start) h
    have p2 := placeM_far (B := B) ok (start := start) h'
    rw [if_neg hb] at p1 p2
    have hk' : (W.length - 1 = 0) ∨ B.fire = true := by
      rcases hk with z | z | z
      · exact absurd z hb
      · exact .inr z
      · exact .inl (by omega)
    rw [fin_first ok p1 hk', fin_first ok p2 hk']
/-- moved: so many visits more -/
theorem fin_more (ok : WOk W) {start d : Int} (many : Nat) (hf : B.fire = false) (h1 : 1 < W.length) (hb : B.bey ≠ 2) (hd : reach W + (lv W (W.length - 1)).g * (lv W (W.length - 1)).s ≤ d) :
    fin W B start (d + stepM W B * many) = ((fin W B start d).1 + stepM W B * many, (fin W B start d).2 + many) := by
  have hall := ok.all (W.length - 1) (by omega)
  have hgs0 : 1 * 1 ≤ (lv W (W.length - 1)).g * (lv W (W.length - 1)).s := Int.mul_le_mul (by omega) (by omega) (by omega) (by omega)
  obtain ⟨st1, st2, st3⟩ := stepM_pos (B := B) ok
  have hD0 : 0 ≤ stepM W B * many := Int.mul_nonneg (by omega) (by omega)
  have hre : 2 ≤ reach W := hall.2.2.2.2
  have p1 := placeM_far (B := B) ok (start := start) (delay := d) (by omega)
  have p2 := placeM_far (B := B) ok (start := start) (delay := d + stepM W B * many) (by omega)
  rw [if_neg hb] at p1 p2
  have l1 := placeM_lt ok p1
  have l2 := placeM_lt ok p2
  rw [← wfin_fin ok B (by omega), ← wfin_fin ok B (by omega)]
  have key : ∀ {d' : Int} {sp : Spot}, placeM W B start d' = some sp → ∀ {n r}, wl W B none n sp start 0 = some r → wfin W B start d' = r.2 := fun {d' sp} hp {n r} hw => by
    unfold wfin
    rw [hp]
    obtain ⟨r', hr'⟩ := wl_ends ok B none (mu sp start) sp start 0 (placeM_lt ok hp) (Nat.le_refl _)
    dsimp only
    rw [hr', wl_eq hr' hw]
  -- the first visit
  generalize ht : va (lv W (W.length - 1)) (rnd B.up (start + reach W - 1) (lv W (W.length - 1)).g) start = t
  have hgt : start < t ∧ t ≤ start + (lv W (W.length - 1)).g * (lv W (W.length - 1)).s := by
    rw [← ht, Int.mul_comm (lv W (W.length - 1)).g]
    exact ⟨va_gt (by omega) (by omega) _ _, va_most (by omega) (by omega) _ _⟩
  have hg : (lv W (W.length - 1)).g ∣ t := by rw [← ht]; exact Int.dvd_mul_left _ _
  have first : ∀ {d' : Int} (n : Nat), d ≤ d' → wl W B none (n + 1) ⟨W.length - 1, rnd B.up (start + reach W - 1) (lv W (W.length - 1)).g, start + d'⟩ start 0 = wl W B none n (spotAt W B t (start + d' - t) (start + d')) t 1 := fun {d'} n hd' => by
    have hv := visit_far ok hf (sp := ⟨W.length - 1, rnd B.up (start + reach W - 1) (lv W (W.length - 1)).g, start + d'⟩) h1 rfl (t := t) (by rw [← ht]; exact va_vis (l := lv W (W.length - 1)) (by omega) (by omega) _ _) (by show reach W ≤ start + d' - t; omega)
    conv => lhs; unfold wl
    dsimp only
    rw [ht, show over none t = false from rfl, if_neg Bool.false_ne_true, hv]
    rfl
  -- near, from the first visit on
  have hprop := spotAt_proper (B := B) ok t (start + d)
  have hsl := spotAt_lt ok B t (start + d - t) (start + d)
  obtain ⟨r, hr⟩ := fol_ends ok B none _ (spotAt W B t (start + d - t) (start + d)) t 1 hsl (Nat.le_refl _)
  obtain ⟨m, hm⟩ := fol_wl ok _ hprop hsl hr
  have hnear := key p1 (n := m + 1) (by rw [first m (Int.le_refl _)]; exact hm)
  -- far
  have hDv : Dv W (W.length - 1) (stepM W B * many) := by
    obtain ⟨z, hz⟩ := st3
    rw [hz, Int.mul_assoc]
    exact dv_of ok (by omega) _
  have hix : TwM.levelIx W (start + d - t) ≤ W.length - 1 := by have := levelIx_lt ok (start + d - t); omega
  have hsh := fol_shift (B := B) ok hDv (mu (spotAt W B t (start + d - t) (start + d)) t) (sp := spotAt W B t (start + d - t) (start + d)) (tick := t) (mv := 1) (by rw [spotAt_lv]; exact hix) hsl (by rw [spotAt_due]; exact hix)
  rw [hr, ← spotAt_shift ok hDv hix] at hsh
  have e1 : start + d - t = start + d + stepM W B * many - (t + stepM W B * many) := by omega
  have hprop2 : Proper W (spotAt W B (t + stepM W B * many) (start + d - t) (start + d + stepM W B * many)) (t + stepM W B * many) := by rw [e1]; exact spotAt_proper ok _ _
  obtain ⟨m2, hm2⟩ := fol_wl ok _ hprop2 (spotAt_lt ok _ _ _ _) hsh
  have hva : va (lv W (W.length - 1)) (spotAt W B t (start + (d + stepM W B * many) - t) (start + (d + stepM W B * many))).pt t = t + stepM W B := by
    rw [spotAt_far ok (by omega)]
    exact stepM_va ok hg
  have hcm : (many : Int) * stepM W B = stepM W B * many := Int.mul_comm _ _
  have hfar := wl_far (lim := none) ok hf h1 (due := start + (d + stepM W B * many)) (step := stepM W B) many (t := t) (mv := 1) m2 hg (by omega) hva (by omega) (fun l z => by cases z)
  rw [hcm] at hfar
  have e2 : start + (d + stepM W B * many) - (t + stepM W B * many) = start + d - t := by omega
  have e3 : start + (d + stepM W B * many) = start + d + stepM W B * many := by omega
  have hm3 := wl_mv _ (c := (many : Int)) hm2
  rw [e2] at hfar
  have hfin := key p2 (n := m2 + many + 1) (r := ((shR W (stepM W B * many) r).1, (shR W (stepM W B * many) r).2.1, (shR W (stepM W B * many) r).2.2 + many)) (by
    rw [first _ (by omega), hfar, e3]
    exact hm3)
  rw [hfin, hnear]
  rfl
/-- what waits behind a lump that ends ahead of the range -/
theorem wl_stays (ok : WOk W) (hf : B.fire = false) (h1 : 1 < W.length) {l : Int} : ∀ (n : Nat) {sp : Spot} {tick mv : Int} {r : Res}, sp.lv = W.length - 1 → reach W ≤ sp.due - l → wl W B (some l) n sp tick mv = some r → ∃ sp', r.1 = some sp' ∧ sp'.lv = W.length - 1 ∧ sp'.due = sp.due
  | 0, _, _, _, _, _, _, h => by cases h
  | n + 1, sp, tick, mv, r, hl, hr, h => by
    have hall := ok.all (W.length - 1) (by omega)
    unfold wl at h
    dsimp only at h
    split at h
    · cases h
      exact ⟨sp, rfl, hl, rfl⟩
    · rename_i ho
      have hle : va (lv W sp.lv) sp.pt tick ≤ l := by
        rcases Int.lt_or_le l (va (lv W sp.lv) sp.pt tick) with z | z
        · exact absurd (decide_eq_true z) ho
        · exact z
      have hv := visit_far ok hf h1 hl (t := va (lv W sp.lv) sp.pt tick) (va_vis (by rw [hl]; omega) (by rw [hl]; omega) _ _) (by omega)
      rw [hv] at h
      have := wl_stays ok hf h1 n (sp := spotAt W B (va (lv W sp.lv) sp.pt tick) (sp.due - va (lv W sp.lv) sp.pt tick) sp.due) (by rw [spotAt_far ok (by omega)]) (by rw [spotAt_due]; exact hr) h
      rwa [spotAt_due] at this
end
end Tw
/-! Tw: walks that are cut and go on -/
namespace Tw
open TwM
section
variable {W : List Lv} {B : Bk} {lim : Option Int}
theorem va_keep {l : Lv} (hg : 0 < l.g) (hs : 0 < l.s) {pt a b : Int} (h1 : a ≤ b) (h2 : b < va l pt a) : va l pt b = va l pt a := by
  have d := va_dvd (l := l) hs pt a
  have c := va_most (l := l) hg hs pt a
  have e : b + (va l pt a - b) = va l pt a := by omega
  have := va_uniq (l := l) hg hs (pt := pt) (tick := b) (k := va l pt a - b) (by omega) (by rw [Int.mul_comm l.g]; omega) (by rw [e]; exact d)
  omega
/-- two results of a walk that tell the same -/
def Alike (r r' : Res) : Prop := r.1 = r'.1 ∧ r.2.2 = r'.2.2 ∧ (r.1 = none → r.2.1 = r'.2.1)
theorem Alike.refl (r : Res) : Alike r r := ⟨rfl, rfl, fun _ => rfl⟩
/-- where a walk begins does not matter ahead of the next visit -/
theorem wl_from (ok : WOk W) {n : Nat} {sp : Spot} {a b mv : Int} {r : Res} (hl : sp.lv < W.length) (h1 : a ≤ b) (h2 : b < va (lv W sp.lv) sp.pt a) (h : wl W B lim n sp b mv = some r) : ∃ r', wl W B lim n sp a mv = some r' ∧ Alike r r' := by
  have hall := ok.all _ hl
  cases n with
  | zero => cases h
  | succ n =>
    have e := va_keep (l := lv W sp.lv) (by omega) (by omega) h1 h2
    unfold wl at h ⊢
    dsimp only at h ⊢
    rw [e] at h
    split at h
    · rename_i ho
      rw [if_pos ho]
      cases h
      exact ⟨_, rfl, ⟨rfl, rfl, fun z => by have z : (some sp : Option Spot) = none := z; cases z⟩⟩
    · rename_i ho
      rw [if_neg ho]
      exact ⟨r, h, Alike.refl r⟩
/-- a walk to b, then on -/
theorem wl_cut (ok : WOk W) {b : Int} (hb : ∀ c, lim = some c → b ≤ c) : ∀ (n : Nat) {sp : Spot} {a mv : Int} {r : Res}, sp.lv < W.length → a ≤ b → wl W B (some b) n sp a mv = some r →
    (r.1 = none → wl W B lim n sp a mv = some r) ∧ ∀ sp', r.1 = some sp' → sp'.lv < W.length ∧ ∀ m r2, wl W B lim m sp' b r.2.2 = some r2 → ∃ m' r3, wl W B lim m' sp a mv = some r3 ∧ Alike r2 r3
  | 0, _, _, _, _, _, _, h => by cases h
  | n + 1, sp, a, mv, r, hl, hab, h => by
    have hgt := va_step ok hl sp.pt a
    unfold wl at h
    dsimp only at h
    split at h
    · rename_i ho
      cases h
      refine ⟨fun z => (by cases z), fun sp' z => ?_⟩
      cases z
      refine ⟨hl, fun m r2 h2 => ?_⟩
      obtain ⟨r3, h3, h4⟩ := wl_from ok hl hab (of_decide_eq_true ho) h2
      exact ⟨m, r3, h3, h4⟩
    · rename_i ho
      have hle : va (lv W sp.lv) sp.pt a ≤ b := by
        rcases Int.lt_or_le b (va (lv W sp.lv) sp.pt a) with z | z
        · exact absurd (decide_eq_true z) ho
        · exact z
      have ho2 : over lim (va (lv W sp.lv) sp.pt a) = false := by
        cases hlim : lim with
        | none => rfl
        | some c =>
          have := hb c hlim
          exact decide_eq_false (by omega)
      cases hq : (visited W B sp (va (lv W sp.lv) sp.pt a - 1) (va (lv W sp.lv) sp.pt a)).getLast? with
      | none => rw [hq] at h; cases h
      | some o =>
        rw [hq] at h
        cases o with
        | none =>
          cases h
          refine ⟨fun _ => ?_, fun sp' z => (by cases z)⟩
          unfold wl
          dsimp only
          rw [ho2, if_neg Bool.false_ne_true, hq]
        | some sp1 =>
          dsimp only at h
          obtain ⟨c1, c2⟩ := visGo_last ok _ hq
          obtain ⟨g1, g2⟩ := wl_cut ok hb n c1 hle h
          have step : ∀ {m r3}, wl W B lim m sp1 (va (lv W sp.lv) sp.pt a) (mv + (visited W B sp (va (lv W sp.lv) sp.pt a - 1) (va (lv W sp.lv) sp.pt a)).length) = some r3 → wl W B lim (m + 1) sp a mv = some r3 := fun {m r3} z => by
            unfold wl
            dsimp only
            rw [ho2, if_neg Bool.false_ne_true, hq]
            exact z
          refine ⟨fun z => step (g1 z), fun sp' z => ?_⟩
          obtain ⟨k1, k2⟩ := g2 sp' z
          refine ⟨k1, fun m r2 h2 => ?_⟩
          obtain ⟨m', r3, h3, h4⟩ := k2 m r2 h2
          exact ⟨m' + 1, r3, step h3, h4⟩
/-- what a timer is after ticks in turn, walked without leaps -/
def aft (W : List Lv) (B : Bk) (sp : Spot) (a b : Int) : Option Spot := match wl W B (some b) (mu sp a) sp a 0 with
  | some r => r.1
  | none => none
theorem aft_of (ok : WOk W) {sp : Spot} {a b mv : Int} {n : Nat} {r : Res} (hl : sp.lv < W.length) (h : wl W B (some b) n sp a mv = some r) : aft W B sp a b = r.1 := by
  unfold aft
  obtain ⟨r', h'⟩ := wl_ends ok B (some b) (mu sp a) sp a 0 hl (Nat.le_refl _)
  rw [h']
  have := wl_mv _ (c := mv) h'
  rw [Int.zero_add] at this
  have e := wl_eq this h
  rw [← e]
theorem passM_each (ok : WOk W) {sp : Spot} {a b : Int} (hl : sp.lv < W.length) (hp : Proper W sp a) : passM W B sp a b "each" = aft W B sp a b := by
  unfold passM
  rw [if_pos rfl]
  obtain ⟨r, hr⟩ := fol_ends ok B (some b) (mu sp a) sp a 0 hl (Nat.le_refl _)
  obtain ⟨m, hm⟩ := fol_wl ok _ hp hl hr
  rw [hr, aft_of ok hl hm]
/-- in one lump or in several -/
theorem aft_comp (ok : WOk W) {sp : Spot} {a b c : Int} (hl : sp.lv < W.length) (h1 : a ≤ b) (h2 : b ≤ c) : aft W B sp a c = match aft W B sp a b with
    | none => none
    | some sp' => aft W B sp' b c := by
  obtain ⟨r, hr⟩ := wl_ends ok B (some b) (mu sp a) sp a 0 hl (Nat.le_refl _)
  obtain ⟨g1, g2⟩ := wl_cut (lim := some c) ok (fun c' z => by cases z; exact h2) _ hl h1 hr
  rw [aft_of ok hl hr]
  cases hr1 : r.1 with
  | none => rw [aft_of ok hl (g1 hr1), hr1]
  | some sp' =>
    obtain ⟨k1, k2⟩ := g2 sp' hr1
    obtain ⟨r2, hr2⟩ := wl_ends ok B (some c) (mu sp' b) sp' b r.2.2 k1 (Nat.le_refl _)
    obtain ⟨m', r3, h3, h4⟩ := k2 _ _ hr2
    rw [aft_of ok hl h3, ← h4.1]
    exact (aft_of ok k1 hr2).symm
theorem aft_lt (ok : WOk W) {sp sp' : Spot} {a b : Int} (hl : sp.lv < W.length) (h : aft W B sp a b = some sp') (h1 : a ≤ b) : sp'.lv < W.length := by
  obtain ⟨r, hr⟩ := wl_ends ok B (some b) (mu sp a) sp a 0 hl (Nat.le_refl _)
  obtain ⟨g1, g2⟩ := wl_cut (lim := some b) ok (fun c' z => by cases z; exact Int.le_refl _) _ hl h1 hr
  rw [aft_of ok hl hr] at h
  exact (g2 sp' h).1
/-- fired by a lump just if it ends at or behind the tick of firing -/
theorem aft_fire (ok : WOk W) {sp : Spot} {a b : Int} {n : Nat} {r : Res} (hl : sp.lv < W.length) (h1 : a ≤ b) (h : wl W B none n sp a 0 = some r) : (aft W B sp a b = none ↔ r.2.1 ≤ b) ∧ r.1 = none ∧ a < r.2.1 := by
  have hnone : ∀ (n : Nat) {sp : Spot} {a mv : Int} {r : Res}, sp.lv < W.length → wl W B none n sp a mv = some r → r.1 = none ∧ a < r.2.1 := by
    intro n
    induction n with
    | zero => intro sp a mv r _ h; cases h
    | succ n ih =>
      intro sp a mv r hl h
      have hgt := va_step ok hl sp.pt a
      unfold wl at h
      dsimp only at h
      rw [show over none (va (lv W sp.lv) sp.pt a) = false from rfl, if_neg Bool.false_ne_true] at h
      split at h
      · cases h
      · cases h
        exact ⟨rfl, hgt.1⟩
      · rename_i hq
        obtain ⟨c1, c2⟩ := visGo_last ok _ hq
        have := ih c1 h
        exact ⟨this.1, by omega⟩
  have hbnd : ∀ (n : Nat) {sp : Spot} {a mv : Int} {r : Res}, sp.lv < W.length → a ≤ b → wl W B (some b) n sp a mv = some r → r.2.1 ≤ b := by
    intro n
    induction n with
    | zero => intro sp a mv r _ _ h; cases h
    | succ n ih =>
      intro sp a mv r hl hab h
      unfold wl at h
      dsimp only at h
      split at h
      · cases h; exact hab
      · rename_i ho
        have hle : va (lv W sp.lv) sp.pt a ≤ b := by
          rcases Int.lt_or_le b (va (lv W sp.lv) sp.pt a) with z | z
          · exact absurd (decide_eq_true z) ho
          · exact z
        split at h
        · cases h
        · cases h; exact hle
        · rename_i hq
          obtain ⟨c1, c2⟩ := visGo_last ok _ hq
          exact ih c1 hle h
  obtain ⟨z1, z2⟩ := hnone n hl h
  refine ⟨?_, z1, z2⟩
  obtain ⟨r', hr'⟩ := wl_ends ok B (some b) (mu sp a) sp a 0 hl (Nat.le_refl _)
  obtain ⟨g1, g2⟩ := wl_cut (lim := none) ok (fun c z => by cases z) _ hl h1 hr'
  rw [aft_of ok hl hr']
  cases hr1 : r'.1 with
  | none =>
    have := wl_eq (g1 hr1) h
    rw [← this]
    exact ⟨fun _ => hbnd _ hl h1 hr', fun _ => rfl⟩
  | some sp' =>
    obtain ⟨k1, k2⟩ := g2 sp' hr1
    obtain ⟨r2, hr2⟩ := wl_ends ok B none (mu sp' b) sp' b r'.2.2 k1 (Nat.le_refl _)
    obtain ⟨m', r3, h3, h4⟩ := k2 _ _ hr2
    have e := wl_eq h3 h
    obtain ⟨y1, y2⟩ := hnone _ k1 hr2
    have := h4.2.2 y1
    rw [e] at this
    exact ⟨fun z => (by cases z), fun z => by omega⟩
/-- what a walk with a limit leaves behind, step by step: a property of spots and ticks that every visit hands on -/
theorem aft_ind (ok : WOk W) {b : Int} {P : Spot → Int → Prop} (hv : ∀ sp t sp', P sp t → t ≤ b → (visited W B sp (t - 1) t).getLast? = some (some sp') → P sp' t) (hm : ∀ sp t t', P sp t → t ≤ t' → t' ≤ b → P sp t') :
    ∀ (n : Nat) {sp : Spot} {a mv : Int} {r : Res} {sp' : Spot}, sp.lv < W.length → a ≤ b → P sp a → wl W B (some b) n sp a mv = some r → r.1 = some sp' → P sp' b
  | 0, _, _, _, _, _, _, _, _, h, _ => by cases h
  | n + 1, sp, a, mv, r, sp', hl, hab, hp, h, hr => by
    have hgt := va_step ok hl sp.pt a
    unfold wl at h
    dsimp only at h
    split at h
    · cases h
      cases hr
      exact hm _ _ _ hp hab (Int.le_refl _)
    · rename_i ho
      have hle : va (lv W sp.lv) sp.pt a ≤ b := by
        rcases Int.lt_or_le b (va (lv W sp.lv) sp.pt a) with z | z
        · exact absurd (decide_eq_true z) ho
        · exact z
      split at h
      · cases h
      · cases h; cases hr
      · rename_i hq
        obtain ⟨c1, c2⟩ := visGo_last ok _ hq
        exact aft_ind ok hv hm n c1 hle (hv _ _ _ (hm _ _ _ hp (by omega) hle) hle hq) h hr
theorem aft_P (ok : WOk W) {a b : Int} {P : Spot → Int → Prop} (hv : ∀ sp t sp', P sp t → t ≤ b → (visited W B sp (t - 1) t).getLast? = some (some sp') → P sp' t) (hm : ∀ sp t t', P sp t → t ≤ t' → t' ≤ b → P sp t') {sp sp' : Spot} (hl : sp.lv < W.length) (hab : a ≤ b) (hp : P sp a) (h : aft W B sp a b = some sp') : P sp' b := by
  obtain ⟨r, hr⟩ := wl_ends ok B (some b) (mu sp a) sp a 0 hl (Nat.le_refl _)
  rw [aft_of ok hl hr] at h
  exact aft_ind ok hv hm _ hl hab hp hr h
theorem aft_proper (ok : WOk W) {a b : Int} {sp sp' : Spot} (hl : sp.lv < W.length) (hab : a ≤ b) (hp : Proper W sp a) (h : aft W B sp a b = some sp') : Proper W sp' b := by
  refine aft_P ok (P := Proper W) (fun sp t sp' hp _ hq => ?_) (fun sp t t' hp h1 _ => fun z => hp (by omega)) hl hab hp h
  obtain ⟨c1, c2, c3, c4⟩ := visGo_last ok _ hq
  intro z
  have hre : 2 ≤ reach W := (ok.all (W.length - 1) (by have := ok.pos; omega)).2.2.2.2
  rcases c4 with ⟨d1, d2⟩ | ⟨d1, d2⟩
  · rw [c2] at z
    rw [d2, spotAt_far ok z]
  · omega
/-- bounds of what a spot holds -/
structure SpB (N : Int) (sp : Spot) : Prop where
  p0 : 0 ≤ sp.pt
  p1 : sp.pt ≤ N
  d0 : 0 ≤ sp.due
  d1 : sp.due ≤ N
theorem rnd_bound {up : Bool} {t g : Int} (hg : 1 ≤ g) (ht : 0 ≤ t) : 0 ≤ rnd up t g ∧ rnd up t g ≤ t := by
  unfold rnd
  split
  · have h1 : (-t) / g ≤ 0 := by
      have : (-t) / g < 1 := Int.ediv_lt_of_lt_mul (by omega) (by omega)
      omega
    have h2 : -t ≤ (-t) / g := Int.le_ediv_of_mul_le (by omega) (by
      have : -t * g ≤ -t * 1 := Int.mul_le_mul_of_nonpos_left (by omega) hg
      omega)
    omega
  · exact ⟨Int.ediv_nonneg ht (by omega), Int.ediv_le_self _ ht⟩
theorem spotAt_bound (ok : WOk W) {now due N : Int} (h0 : 0 ≤ now) (h1 : now ≤ due) (h2 : due ≤ N) (h3 : now + reach W ≤ N) : SpB N (spotAt W B now (due - now) due) := by
  have hre : 2 ≤ reach W := (ok.all (W.length - 1) (by have := ok.pos; omega)).2.2.2.2
  unfold spotAt
  cases hl : levelOf W (due - now) with
  | some i =>
    have hi := levelOf_lt hl
    have hall := ok.all i hi.1
    obtain ⟨b1, b2⟩ := rnd_bound (up := B.up) (t := now + (due - now)) (g := (lv W i).g) (by omega) (by omega)
    exact ⟨b1, by show rnd _ _ _ ≤ N; omega, by show 0 ≤ due; omega, h2⟩
  | none =>
    have hall := ok.all (W.length - 1) (by have := ok.pos; omega)
    obtain ⟨b1, b2⟩ := rnd_bound (up := B.up) (t := now + reach W - 1) (g := (lv W (W.length - 1)).g) (by omega) (by omega)
    exact ⟨b1, by show rnd _ _ _ ≤ N; omega, by show 0 ≤ due; omega, h2⟩
theorem vis_bound (ok : WOk W) {sp sp' : Spot} {bf t N : Int} (h0 : 0 ≤ t) (h3 : t + reach W ≤ N) (hb : SpB N sp) (hq : (visited W B sp bf t).getLast? = some (some sp')) : SpB N sp' := by
  obtain ⟨c1, c2, c3, c4⟩ := visGo_last ok _ hq
  have hre : 2 ≤ reach W := (ok.all (W.length - 1) (by have := ok.pos; omega)).2.2.2.2
  rcases c4 with ⟨d1, d2⟩ | ⟨d1, d2⟩
  · rw [d2]
    exact spotAt_bound ok h0 (by omega) hb.d1 h3
  · rw [d2]
    exact ⟨h0, by show t ≤ N; omega, hb.d0, hb.d1⟩
theorem aft_bound (ok : WOk W) {a b N : Int} {sp sp' : Spot} (hl : sp.lv < W.length) (h0 : 0 ≤ a) (hab : a ≤ b) (hN : b + reach W ≤ N) (hb : SpB N sp) (h : aft W B sp a b = some sp') : SpB N sp' :=
  (aft_P ok (P := fun sp t => SpB N sp ∧ 0 ≤ t) (fun sp t sp' hp h1 hq => ⟨vis_bound ok hp.2 (by omega) hp.1 hq, hp.2⟩) (fun sp t t' hp h1 _ => ⟨hp.1, by omega⟩) hl hab ⟨hb, h0⟩ h).1
theorem TwM_vis {W : List Lv} {B : Bk} {b n : Int} : ∀ (is : List Nat) {sp : Spot}, visGo W B b n is sp ≠ [] → isVis (lv W sp.lv) sp.pt b n = true
  | [], sp, h => absurd rfl h
  | i :: is, sp, h => by
    unfold visGo at h
    split at h
    · rename_i hc
      rw [hc.1]; exact hc.2
    · exact TwM_vis is h
/-- no visit between a tick and the first visit behind it -/
theorem TwM_no {l : Lv} (hg : 0 < l.g) (hs : 0 < l.s) (pt : Int) {a b n : Int} (h1 : a ≤ b) (h2 : n < va l pt a) (h : isVis l pt b n = true) : False := by
  unfold isVis at h
  have h := of_decide_eq_true h
  unfold va at h2
  have m1 : a / l.g ≤ b / l.g := Int.ediv_le_ediv hg h1
  have m2 : n / l.g < a / l.g + 1 + (pt - a / l.g - 1) % l.s := Int.ediv_lt_of_lt_mul hg h2
  have k0 := Int.emod_nonneg (pt - b / l.g - 1) (b := l.s) (by omega)
  have k1 := Int.emod_nonneg (pt - a / l.g - 1) (b := l.s) (by omega)
  have i1 := hit_iff (q := a / l.g + 1) (pt := pt) (s := l.s) (j := b / l.g - a / l.g + (pt - b / l.g - 1) % l.s) hs (by omega)
  have e1 : pt - (a / l.g + 1) = pt - a / l.g - 1 := by omega
  rw [e1] at i1
  have e2 : a / l.g + 1 + (b / l.g - a / l.g + (pt - b / l.g - 1) % l.s) - pt = -((pt - b / l.g - 1) - (pt - b / l.g - 1) % l.s) := by omega
  have e3 : (a / l.g + 1 + (b / l.g - a / l.g + (pt - b / l.g - 1) % l.s) - pt) % l.s = 0 := by
    rw [e2]
    have := Int.mul_ediv_add_emod (pt - b / l.g - 1) l.s
    rw [show (pt - b / l.g - 1) - (pt - b / l.g - 1) % l.s = l.s * ((pt - b / l.g - 1) / l.s) by omega, ← Int.mul_neg]
    exact Int.mul_emod_right _ _
  have := (i1 (by omega)).mp e3
  omega
/-- a lump of one tick -/
theorem aft_one (ok : WOk W) {sp : Spot} {t : Int} (hl : sp.lv < W.length) : aft W B sp (t - 1) t = match (visited W B sp (t - 1) t).getLast? with
    | none => some sp
    | some o => o := by
  have hall := ok.all _ hl
  have hgt := va_step ok hl sp.pt (t - 1)
  obtain ⟨r, hr⟩ := wl_ends ok B (some t) (mu sp (t - 1)) sp (t - 1) 0 hl (Nat.le_refl _)
  have h0 := hr
  rw [aft_of ok hl hr]
  have hmu1 : 1 ≤ mu sp (t - 1) := by unfold mu; split <;> omega
  have hmu : ∃ n, mu sp (t - 1) = n + 1 := ⟨mu sp (t - 1) - 1, by omega⟩
  obtain ⟨n, hn⟩ := hmu
  rw [hn] at hr
  unfold wl at hr
  dsimp only at hr
  by_cases he : va (lv W sp.lv) sp.pt (t - 1) = t
  · rw [he] at hr
    rw [if_neg (by unfold over; simp)] at hr
    cases hq : (visited W B sp (t - 1) t).getLast? with
    | none =>
      have := visited_ne ok (B := B) hl (tick := t - 1)
      rw [he] at this
      exact absurd (List.getLast?_eq_none_iff.mp hq) this
    | some o =>
      rw [hq] at hr
      cases o with
      | none => cases hr; rfl
      | some sp' =>
        dsimp only at hr ⊢
        obtain ⟨c1, c2⟩ := visGo_last ok _ hq
        have hg2 := va_step ok c1 sp'.pt t
        cases n with
        | zero => cases hr
        | succ n =>
          unfold wl at hr
          dsimp only at hr
          rw [if_pos (by unfold over; exact decide_eq_true (by omega))] at hr
          cases hr
          rfl
  · rw [if_pos (by unfold over; exact decide_eq_true (by omega))] at hr
    cases hr
    have hnil : visited W B sp (t - 1) t = [] := by
      apply Classical.byContradiction
      intro hne
      have hvis := TwM_vis (W := W) (B := B) (order W B) hne
      exact TwM_no (by omega) (by omega) sp.pt (a := t - 1) (b := t - 1) (n := t) (Int.le_refl _) (by omega) hvis
    rw [hnil]
    rfl
end
end Tw
/-! Tw: least common multiples -/
namespace Tw
def IsL (a b m : Int) : Prop := 0 < m ∧ ∀ d, m ∣ d ↔ (a ∣ d ∧ b ∣ d)
theorem isG_is {a b : Int} (ha : 0 < a) {g : Int} (h : IsG a b g) : g = Int.gcd a b := by
  refine h.eq ⟨?_, fun d => ⟨fun z => Int.dvd_coe_gcd z.1 z.2, fun z => ⟨Int.dvd_trans z (Int.gcd_dvd_left ..), Int.dvd_trans z (Int.gcd_dvd_right ..)⟩⟩⟩
  have := Int.gcd_pos_of_ne_zero_left b (a := a) (by omega)
  omega
theorem isL_of {a b g : Int} (ha : 0 < a) (hb : 0 < b) (h : IsG a b g) : IsL a b (a / g * b) := by
  have hg := h.1
  obtain ⟨x, hx⟩ := h.left
  have e1 : a / g = x := by rw [hx, Int.mul_ediv_cancel_left _ (by omega)]
  have hx0 : 0 < x := by
    rcases Int.lt_or_le 0 x with z | z
    · exact z
    · have := Int.mul_nonpos_of_nonneg_of_nonpos (Int.le_of_lt hg) z
      omega
  have e2 : ((Int.lcm a b : Nat) : Int) = x * b := by
    have k := Int.gcd_mul_lcm a b
    have k2 : ((Int.gcd a b * Int.lcm a b : Nat) : Int) = a * b := by
      rw [k, Int.natCast_mul, Int.natAbs_of_nonneg (Int.le_of_lt ha), Int.natAbs_of_nonneg (Int.le_of_lt hb)]
    rw [Int.natCast_mul, ← isG_is ha h, hx, Int.mul_assoc] at k2
    rw [hx]
    exact Int.eq_of_mul_eq_mul_left (by omega) k2
  rw [e1, ← e2]
  refine ⟨by rw [e2]; exact Int.mul_pos hx0 hb, fun d => ⟨fun z => ⟨Int.dvd_trans (Int.dvd_lcm_left ..) z, Int.dvd_trans (Int.dvd_lcm_right ..) z⟩, fun z => Int.coe_lcm_dvd z.1 z.2⟩⟩
/-- the least common multiple of some numbers -/
def LcmOf (es : List Int) (m : Int) : Prop := 0 < m ∧ ∀ d, m ∣ d ↔ ∀ e ∈ es, e ∣ d
theorem LcmOf.eq {es : List Int} {m m' : Int} (h : LcmOf es m) (h' : LcmOf es m') : m = m' :=
  Int.dvd_antisymm (Int.le_of_lt h.1) (Int.le_of_lt h'.1) ((h.2 m').mpr ((h'.2 m').mp (Int.dvd_refl _))) ((h'.2 m).mpr ((h.2 m).mp (Int.dvd_refl _)))
theorem LcmOf.one : LcmOf [] 1 := ⟨by decide, fun d => ⟨fun _ _ z => by simp at z, fun _ => Int.one_dvd _⟩⟩
theorem LcmOf.single {a : Int} (h : 0 < a) : LcmOf [a] a := ⟨h, fun d => ⟨fun z e he => by rw [List.mem_singleton.mp he]; exact z, fun z => z a (by simp)⟩⟩
theorem LcmOf.snoc {es : List Int} {m b m' : Int} (h : LcmOf es m) (h' : IsL m b m') : LcmOf (es ++ [b]) m' := ⟨h'.1, fun d => by
  rw [h'.2 d, h.2 d]
  constructor
  · rintro ⟨z1, z2⟩ e he
    rcases List.mem_append.mp he with he | he
    · exact z1 e he
    · rw [List.mem_singleton.mp he]; exact z2
  · intro z
    exact ⟨fun e he => z e (by simp [he]), z b (by simp)⟩⟩
theorem LcmOf.cons {es : List Int} {m a m' : Int} (h : LcmOf es m) (h' : IsL a m m') : LcmOf (a :: es) m' := ⟨h'.1, fun d => by
  rw [h'.2 d, h.2 d]
  constructor
  · rintro ⟨z1, z2⟩ e he
    rcases List.mem_cons.mp he with rfl | he
    · exact z1
    · exact z2 e he
  · intro z
    exact ⟨z a (by simp), fun e he => z e (by simp [he])⟩⟩
end Tw
/-! Tw: rings, in plain Lean -/
namespace Tw
open TwM
theorem php : ∀ (g : Nat) (l : List Nat), l.Nodup → (∀ x ∈ l, x < g) → l.length ≤ g
  | 0, l, _, h => by
    cases l with
    | nil => exact Nat.le_refl _
    | cons x l => exact absurd (h x List.mem_cons_self) (Nat.not_lt_zero _)
  | g + 1, l, hn, h => by
    have h1 := php g (l.erase g) (hn.erase g) fun x hx => by
      have h2 := (hn.mem_erase_iff).mp hx
      have := h x h2.2
      have : x ≠ g := h2.1
      omega
    rw [List.length_erase] at h1
    split at h1 <;> omega
/-- n values below g, all unlike -/
theorem php_fn {f : Nat → Int} {g : Int} {n : Nat} (hg : 0 ≤ g) (hr : ∀ i, i < n → 0 ≤ f i ∧ f i < g) (hd : ∀ i j, i < j → j < n → f i ≠ f j) : (n : Int) ≤ g := by
  have hn : ((List.range n).map fun i => (f i).toNat).Nodup := by
    rw [List.Nodup, List.pairwise_map]
    refine (List.pairwise_lt_range (n := n)).imp_of_mem fun {a b} ha hb hlt => ?_
    have h1 := hr a (List.mem_range.mp ha)
    have h2 := hr b (List.mem_range.mp hb)
    have := hd a b hlt (List.mem_range.mp hb)
    omega
  have := php g.toNat _ hn fun x hx => by
    obtain ⟨i, hi, rfl⟩ := List.mem_map.mp hx
    have := hr i (List.mem_range.mp hi)
    omega
  rw [List.length_map, List.length_range] at this
  rcases Nat.eq_zero_or_pos n with z | z
  · subst z
    exact hg
  · have := hr 0 z
    omega
section
variable {W : List Lv} {B : Bk}
/-- the firings of a timer that is set anew -/
def tkR (W : List Lv) (B : Bk) (d start : Int) : Nat → Int
  | 0 => start
  | n + 1 => (fin W B (tkR W B d start n) d).1
/-- lead, length and ticks of a ring -/
structure RingIs (W : List Lv) (B : Bk) (d g start : Int) (N lead : Nat) : Prop where
  dif : ∀ i j, i < j → j < N → tkR W B d start i % g ≠ tkR W B d start j % g
  lt : lead < N
  eq : tkR W B d start lead % g = tkR W B d start N % g
theorem RingIs.uniq {d g start : Int} {N N' lead lead' : Nat} (h : RingIs W B d g start N lead) (h' : RingIs W B d g start N' lead') : N = N' ∧ lead = lead' := by
  have hN : N = N' := by
    rcases Nat.lt_trichotomy N N' with z | z | z
    · exact absurd h.eq (h'.dif lead N h.lt z)
    · exact z
    · exact absurd h'.eq (h.dif lead' N' h'.lt z)
  subst hN
  refine ⟨rfl, ?_⟩
  rcases Nat.lt_trichotomy lead lead' with z | z | z
  · exact absurd (h.eq.trans h'.eq.symm) (h.dif lead lead' z h'.lt)
  · exact z
  · exact absurd (h'.eq.trans h.eq.symm) (h.dif lead' lead z h.lt)
/-- a whole number of grains later -/
theorem tkR_later (ok : WOk W) (hb3 : B.bey < 3) {d : Int} (hd : 1 ≤ d) (hb : reach W ≤ d → B.bey ≠ 0) (start m : Int) : ∀ n, tkR W B d (start + (lv W (TwM.levelIx W d)).g * m) n = tkR W B d start n + (lv W (TwM.levelIx W d)).g * m
  | 0 => rfl
  | n + 1 => by
    show (fin W B (tkR W B d (start + (lv W (TwM.levelIx W d)).g * m) n) d).1 = _
    rw [tkR_later ok hb3 hd hb start m n]
    obtain ⟨_, _, _, _, _, _, _, h, _⟩ := later (B := B) ok hb3 hd hb (tkR W B d start n) m
    exact h
theorem RingIs.later (ok : WOk W) (hb3 : B.bey < 3) {d : Int} (hd : 1 ≤ d) (hb : reach W ≤ d → B.bey ≠ 0) {start : Int} (m : Int) {N lead : Nat} (h : RingIs W B d (lv W (TwM.levelIx W d)).g start N lead) : RingIs W B d (lv W (TwM.levelIx W d)).g (start + (lv W (TwM.levelIx W d)).g * m) N lead := by
  have e : ∀ n, tkR W B d (start + (lv W (TwM.levelIx W d)).g * m) n % (lv W (TwM.levelIx W d)).g = tkR W B d start n % (lv W (TwM.levelIx W d)).g := fun n => by
    rw [tkR_later ok hb3 hd hb, Int.add_mul_emod_self_left]
  refine ⟨fun i j a b => ?_, h.lt, ?_⟩
  · rw [e, e]; exact h.dif i j a b
  · rw [e, e]; exact h.eq
end
end Tw
/-! Tw: how late a timer fires at most -/
namespace Tw
open TwM
/-- fired not much later than due -/
theorem wl_late {W : List Lv} {B : Bk} (ok : WOk W) {M : Int} (hM : ∀ i, i < W.length → (lv W i).s * (lv W i).g ≤ M) : ∀ (n : Nat) {sp : Spot} {a mv : Int} {r : Res}, sp.lv < W.length → wl W B none n sp a mv = some r → r.2.1 ≤ (if sp.lv = 0 then a + M else (if a < sp.due then sp.due else a) + 2 * M)
  | 0, _, _, _, _, _, h => by cases h
  | n + 1, sp, a, mv, r, hl, h => by
    have hall := ok.all _ hl
    have hgt := va_step ok hl sp.pt a
    have hmost := va_most (l := lv W sp.lv) (by omega) (by omega) sp.pt a
    have hm := hM _ hl
    unfold wl at h
    dsimp only at h
    rw [show over none (va (lv W sp.lv) sp.pt a) = false from rfl, if_neg Bool.false_ne_true] at h
    split at h
    · cases h
    · cases h
      dsimp only
      split
      · omega
      · split <;> omega
    · rename_i sp' hq
      obtain ⟨c1, c2, c3, c4⟩ := visGo_last ok _ hq
      have h0 : sp.lv ≠ 0 := fun e => by
        have := visGo_zero (W := W) (B := B) (before := va (lv W sp.lv) sp.pt a - 1) (now := va (lv W sp.lv) sp.pt a) (order W B) e (some sp') (List.mem_of_getLast? hq)
        cases this
      have ih := wl_late ok hM n c1 h
      rw [if_neg h0]
      rcases c4 with ⟨d1, d2⟩ | ⟨d1, d2⟩
      · rw [c2, if_pos d1] at ih
        split at ih <;> split <;> omega
      · have hz : sp'.lv = 0 := by rw [d2]
        rw [if_pos hz] at ih
        split <;> omega
theorem g_dvd {W : List Lv} (ok : WOk W) : ∀ (n : Nat) {i : Nat}, i + n < W.length → (lv W i).g ∣ (lv W (i + n)).g
  | 0, i, _ => Int.dvd_refl _
  | n + 1, i, h => Int.dvd_trans (g_dvd ok n (by omega)) (ok.dv (i + n) (by omega))
theorem placeM_bound {W : List Lv} {B : Bk} (ok : WOk W) {start delay N : Int} {sp : Spot} (h0 : 0 ≤ start) (hd : 0 ≤ delay) (hN : start + delay + reach W + 1 ≤ N) (h : placeM W B start delay = some sp) : SpB N sp ∧ sp.due ≤ start + delay + 1 := by
  have hre : 2 ≤ reach W := (ok.all (W.length - 1) (by have := ok.pos; omega)).2.2.2.2
  unfold placeM at h
  split at h
  · cases h
  · obtain rfl := Option.some.inj h
    rw [spotAt_due]
    generalize hr : (if reach W ≤ (if 1 > delay then 1 else delay) ∧ B.bey = 2 then reach W - 1 else if 1 > delay then 1 else delay) = rr
    have h1 : 1 ≤ rr ∧ rr ≤ delay + 1 := by
      rw [← hr]
      repeat' split
      all_goals omega
    have := spotAt_bound (B := B) ok (now := start) (due := start + rr) (N := N) h0 (by omega) (by omega) (by omega)
    rw [show start + rr - start = rr by omega] at this
    exact ⟨this, by omega⟩
theorem fin_ge {W : List Lv} {B : Bk} (ok : WOk W) {d : Int} (hd : 0 ≤ d) (start : Int) : start ≤ (fin W B start d).1 := by
  cases hpl : placeM W B start d with
  | none => rw [fin_none hpl]; exact Int.le_refl _
  | some sp =>
    have hl := placeM_lt ok hpl
    rw [← wfin_fin ok B hd]
    obtain ⟨rr, hrr'⟩ := wl_ends ok B none (mu sp start) sp start 0 hl (Nat.le_refl _)
    have hgt := (aft_fire ok (b := start) hl (Int.le_refl _) hrr').2.2
    have hw : wfin W B start d = rr.2 := by unfold wfin; rw [hpl]; dsimp only; rw [hrr']
    rw [hw]
    omega
theorem fin_late {W : List Lv} {B : Bk} (ok : WOk W) {M : Int} (hM : ∀ i, i < W.length → (lv W i).s * (lv W i).g ≤ M) {d start : Int} (h0 : 0 ≤ start) (hd : 0 ≤ d) (hM0 : 0 ≤ M) : (fin W B start d).1 ≤ start + d + 1 + 2 * M := by
  cases hpl : placeM W B start d with
  | none => rw [fin_none hpl]; show start ≤ _; omega
  | some sp =>
    have hl := placeM_lt ok hpl
    have hdu := (placeM_bound ok h0 hd (Int.le_refl _) hpl).2
    rw [← wfin_fin ok B hd]
    obtain ⟨rr, hrr'⟩ := wl_ends ok B none (mu sp start) sp start 0 hl (Nat.le_refl _)
    have hlate := wl_late ok hM _ hl hrr'
    have hw : wfin W B start d = rr.2 := by unfold wfin; rw [hpl]; dsimp only; rw [hrr']
    rw [hw]
    split at hlate
    · omega
    · split at hlate <;> omega
theorem tkR_ge {W : List Lv} {B : Bk} (ok : WOk W) {d start : Int} (hd : 0 ≤ d) (h0 : 0 ≤ start) : ∀ n, 0 ≤ tkR W B d start n
  | 0 => h0
  | n + 1 => Int.le_trans (tkR_ge ok hd h0 n) (fin_ge ok hd _)
theorem tkR_mono {W : List Lv} {B : Bk} (ok : WOk W) {d start : Int} (hd : 0 ≤ d) (n : Nat) : ∀ k, tkR W B d start n ≤ tkR W B d start (n + k)
  | 0 => Int.le_refl _
  | k + 1 => Int.le_trans (tkR_mono ok hd n k) (fin_ge ok hd _)
theorem tkR_late {W : List Lv} {B : Bk} (ok : WOk W) {M : Int} (hM : ∀ i, i < W.length → (lv W i).s * (lv W i).g ≤ M) {d start : Int} (h0 : 0 ≤ start) (hd : 0 ≤ d) (hM0 : 0 ≤ M) (n : Nat) : ∀ k : Nat, tkR W B d start (n + k) ≤ tkR W B d start n + k * (d + 1 + 2 * M)
  | 0 => by simp
  | k + 1 => by
    have ih := tkR_late (B := B) ok hM h0 hd hM0 n k
    have h1 := fin_late (B := B) ok hM (start := tkR W B d start (n + k)) (tkR_ge ok hd h0 _) hd hM0
    show (fin W B (tkR W B d start (n + k)) d).1 ≤ _
    rw [show ((k + 1 : Nat) : Int) = (k : Int) + 1 by omega, Int.add_mul]
    omega
end Tw
/-! Tw: two plans, in plain Lean -/
namespace Tw
open TwM
theorem place_in {W : List Lv} (ok : WOk W) {B : Bk} {d : Int} {i : Nat} (hi : levelOf W d = some i) (h1 : 1 ≤ d) (start : Int) : placeM W B start d = some ⟨i, rnd B.up (start + d) (lv W i).g, start + d⟩ := by
  obtain ⟨a1, a2⟩ := levelOf_lt hi
  have hr : d < reach W := by
    have := le_reach ok a1
    omega
  have e0 : (if 1 > d then 1 else d) = d := by split <;> omega
  unfold placeM
  rw [if_neg (fun z => by have := z.1; omega)]
  dsimp only
  rw [e0, if_neg (fun z => by have := z.1; omega)]
  unfold spotAt
  rw [hi]
theorem mod_same {s x m : Int} (hs : 0 < s) (h : x / s = (x + m) / s) : (x + m) % s = x % s + m := by
  have h1 := Int.mul_ediv_add_emod x s
  have h2 := Int.mul_ediv_add_emod (x + m) s
  rw [← h] at h2
  omega
/-- within one turn of the point a timer fires as much later as its delay is longer -/
theorem fin_turn {W : List Lv} (ok : WOk W) {B : Bk} {d start m : Int} {i : Nat} (hi : levelOf W d = some i) (h1 : 1 ≤ d) (hi' : levelOf W (d + (lv W i).g * m) = some i) (h1' : 1 ≤ d + (lv W i).g * m)
    (ht : (rnd B.up (start + d) (lv W i).g - start / (lv W i).g - 1) / (lv W i).s = (rnd B.up (start + d) (lv W i).g - start / (lv W i).g - 1 + m) / (lv W i).s) :
    (fin W B start (d + (lv W i).g * m)).1 = (fin W B start d).1 + (lv W i).g * m := by
  obtain ⟨hl, _⟩ := levelOf_lt hi
  have hall := ok.all i hl
  have e1 := place_in ok (B := B) hi h1 start
  have e2 := place_in ok (B := B) hi' h1' start
  have hix : TwM.levelIx W d = i := by unfold TwM.levelIx; rw [hi]; rfl
  have hD := dv_of ok hl m
  have hsh : (⟨i, rnd B.up (start + (d + (lv W i).g * m)) (lv W i).g, start + (d + (lv W i).g * m)⟩ : Spot) = sh W ((lv W i).g * m) ⟨i, rnd B.up (start + d) (lv W i).g, start + d⟩ := by
    unfold sh
    dsimp only
    rw [show start + (d + (lv W i).g * m) = start + d + (lv W i).g * m by omega, rnd_shift (by omega), Int.mul_ediv_cancel_left _ (by omega)]
  rw [hsh] at e2
  generalize hsp : (⟨i, rnd B.up (start + d) (lv W i).g, start + d⟩ : Spot) = sp at *
  have hspl : sp.lv = i := by rw [← hsp]
  have hspp : sp.pt = rnd B.up (start + d) (lv W i).g := by rw [← hsp]
  have hspd : sp.due = start + d := by rw [← hsp]
  have hlw : sp.lv < W.length := by rw [hspl]; exact hl
  obtain ⟨q, hq⟩ := fol_ends ok B none (mu sp start + 1) sp start 0 hlw (Nat.le_succ _)
  have hq2 := fol_shift (B := B) ok hD (mu sp start + 1) (sp := sp) (tick := start) (mv := 0) (by omega) hlw (by rw [hspd, show start + d - start = d by omega, hix]; exact Nat.le_refl _)
  rw [hq] at hq2
  have hva : va (lv W (sh W ((lv W i).g * m) sp).lv) (sh W ((lv W i).g * m) sp).pt start = va (lv W (sh W ((lv W i).g * m) sp).lv) (sh W ((lv W i).g * m) sp).pt (start + (lv W i).g * m) := by
    show va (lv W sp.lv) (sp.pt + (lv W i).g * m / (lv W sp.lv).g) start = va (lv W sp.lv) (sp.pt + (lv W i).g * m / (lv W sp.lv).g) (start + (lv W i).g * m)
    rw [hspl, va_shift (by omega) (Int.dvd_mul_right _ _), Int.mul_ediv_cancel_left _ (by omega)]
    unfold va
    have k1 := mod_same (s := (lv W i).s) (by omega) ht
    rw [hspp]
    rw [show rnd B.up (start + d) (lv W i).g + m - start / (lv W i).g - 1 = rnd B.up (start + d) (lv W i).g - start / (lv W i).g - 1 + m by omega, k1]
    rw [show start / (lv W i).g + 1 + ((rnd B.up (start + d) (lv W i).g - start / (lv W i).g - 1) % (lv W i).s + m) = (start / (lv W i).g + 1 + (rnd B.up (start + d) (lv W i).g - start / (lv W i).g - 1) % (lv W i).s) + m by omega, Int.add_mul, Int.mul_comm m]
  have hq3 : fol W B none (mu sp start + 1) (sh W ((lv W i).g * m) sp) start 0 = (some q).map (shR W ((lv W i).g * m)) := by
    rw [← hq2]
    unfold fol
    rw [hva]
    dsimp only
    rw [show over none (va (lv W (sh W ((lv W i).g * m) sp).lv) (sh W ((lv W i).g * m) sp).pt (start + (lv W i).g * m)) = false from rfl, if_neg Bool.false_ne_true, if_neg Bool.false_ne_true]
  have f1 := fin_some e1 ok hlw hq
  have f2 := fin_some e2 ok (by show sp.lv < W.length; exact hlw) hq3
  rw [f1, f2]
  rfl
def ttt (up : Bool) (l : Lv) (tot : Int) : Int := ((0 - rnd up tot l.g) % l.s + 1) * l.g
/-- up to the next turn -/
theorem fin_jump {W : List Lv} (ok : WOk W) {B : Bk} {d start k : Int} {i : Nat} (hi : levelOf W d = some i) (h1 : 1 ≤ d) (hi' : levelOf W (d + k) = some i) (hk0 : 0 ≤ k) (hg : (lv W i).g ∣ k) (hk : k < ttt B.up (lv W i) (start % (lv W i).g + d)) :
    (fin W B start (d + k)).1 = (fin W B start d).1 + k := by
  obtain ⟨hl, _⟩ := levelOf_lt hi
  have hall := ok.all i hl
  obtain ⟨m, rfl⟩ := hg
  refine fin_turn ok hi h1 hi' (by omega) ?_
  have e0 : rnd B.up (start + d) (lv W i).g = rnd B.up (start % (lv W i).g + d) (lv W i).g + start / (lv W i).g := by
    rw [← rnd_shift (by omega)]
    congr 1
    have := Int.emod_add_mul_ediv start (lv W i).g
    omega
  rw [e0]
  unfold ttt at hk
  generalize rnd B.up (start % (lv W i).g + d) (lv W i).g = p at *
  rw [show p + start / (lv W i).g - start / (lv W i).g - 1 = p - 1 by omega]
  have hm0 : 0 ≤ m := by
    rcases Int.lt_or_le m 0 with z | z
    · have := Int.mul_neg_of_pos_of_neg (a := (lv W i).g) (by omega) z
      omega
    · exact z
  have hm1 : m < (0 - p) % (lv W i).s + 1 := by
    rw [Int.mul_comm] at hk
    exact Int.lt_of_mul_lt_mul_right hk (by omega)
  have h3 := Int.mul_ediv_add_emod (0 - p) (lv W i).s
  have h4 := Int.emod_nonneg (0 - p) (b := (lv W i).s) (by omega)
  have h5 := Int.emod_lt_of_pos (0 - p) (b := (lv W i).s) (by omega)
  generalize (0 - p) % (lv W i).s = r at *
  have key : ∀ x : Int, 0 ≤ x → x ≤ r → (p - 1 + x) / (lv W i).s = -((0 - p) / (lv W i).s) - 1 := fun x x0 x1 => by
    have := (Int.ediv_emod_unique (a := p - 1 + x) (b := (lv W i).s) (q := -((0 - p) / (lv W i).s) - 1) (r := (lv W i).s - r - 1 + x) (by omega)).mpr ⟨by rw [Int.mul_sub, Int.mul_neg]; omega, by omega, by omega⟩
    exact this.1
  have k0 := key 0 (Int.le_refl _) h4
  rw [Int.add_zero] at k0
  rw [k0, key m hm0 (by omega)]
section
variable (W1 : List Lv) (B1 : Bk) (W2 : List Lv) (B2 : Bk)
def dif (start d : Int) : Int := (fin W1 B1 start d).1 - (fin W2 B2 start d).1
def prd (later : Bool) (z : Int) : Prop := if later = true then 0 < z else z ≠ 0
instance (later : Bool) (z : Int) : Decidable (prd later z) := by unfold prd; infer_instance
/-- the first pair of all -/
def PairIs (later : Bool) (o : Option (Int × Int)) : Prop := match o with
  | none => ∀ d, 0 ≤ d → d < reach W1 → d < reach W2 → ∀ st, 0 ≤ st → ¬ prd later (dif W1 B1 W2 B2 st d)
  | some (st, d) => 0 ≤ d ∧ d < reach W1 ∧ d < reach W2 ∧ 0 ≤ st ∧ prd later (dif W1 B1 W2 B2 st d) ∧ (∀ d', 0 ≤ d' → d' < d → ∀ st', 0 ≤ st' → ¬ prd later (dif W1 B1 W2 B2 st' d')) ∧ ∀ st', 0 ≤ st' → st' < st → ¬ prd later (dif W1 B1 W2 B2 st' d)
end
section
variable {W1 : List Lv} {B1 : Bk} {W2 : List Lv} {B2 : Bk}
theorem PairIs.uniq {later : Bool} {o o' : Option (Int × Int)} (h : PairIs W1 B1 W2 B2 later o) (h' : PairIs W1 B1 W2 B2 later o') : o = o' := by
  cases o with
  | none =>
    cases o' with
    | none => rfl
    | some p' =>
      obtain ⟨a1, a2, a3, a4, a5, _⟩ := h'
      exact absurd a5 (h _ a1 a2 a3 _ a4)
  | some p =>
    cases o' with
    | none =>
      obtain ⟨a1, a2, a3, a4, a5, _⟩ := h
      exact absurd a5 (h' _ a1 a2 a3 _ a4)
    | some p' =>
      obtain ⟨a1, a2, a3, a4, a5, a6, a7⟩ := h
      obtain ⟨b1, b2, b3, b4, b5, b6, b7⟩ := h'
      obtain ⟨st, d⟩ := p
      obtain ⟨st', d'⟩ := p'
      dsimp only at *
      have hd : d = d' := by
        rcases Int.lt_trichotomy d d' with z | z | z
        · exact absurd a5 (b6 d a1 z st a4)
        · exact z
        · exact absurd b5 (a6 d' b1 z st' b4)
      subst hd
      have hs : st = st' := by
        rcases Int.lt_trichotomy st st' with z | z | z
        · exact absurd a5 (b7 st a4 z)
        · exact z
        · exact absurd b5 (a7 st' b4 z)
      rw [hs]
theorem dif_swap (st d : Int) : dif W2 B2 W1 B1 st d = -dif W1 B1 W2 B2 st d := by unfold dif; omega
theorem prd_swap {z : Int} : prd false (-z) ↔ prd false z := by unfold prd; simp
theorem PairIs.swap {o : Option (Int × Int)} (h : PairIs W1 B1 W2 B2 false o) : PairIs W2 B2 W1 B1 false o := by
  cases o with
  | none => exact fun d a b c st e => by rw [dif_swap, prd_swap]; exact h d a c b st e
  | some p =>
    obtain ⟨a1, a2, a3, a4, a5, a6, a7⟩ := h
    refine ⟨a1, a3, a2, a4, by rw [dif_swap, prd_swap]; exact a5, fun d' x y st z => by rw [dif_swap, prd_swap]; exact a6 d' x y st z, fun st' x y => by rw [dif_swap, prd_swap]; exact a7 st' x y⟩
/-- starts count by a common multiple of the grains -/
theorem dif_later (ok1 : WOk W1) (ok2 : WOk W2) (hb1 : B1.bey < 3) (hb2 : B2.bey < 3) {d : Int} (hd : 1 ≤ d) (hr1 : d < reach W1) (hr2 : d < reach W2) {m : Int} (h1 : (lv W1 (TwM.levelIx W1 d)).g ∣ m) (h2 : (lv W2 (TwM.levelIx W2 d)).g ∣ m) (start : Int) :
    dif W1 B1 W2 B2 (start + m) d = dif W1 B1 W2 B2 start d := by
  obtain ⟨a, ha⟩ := h1
  obtain ⟨b, hb⟩ := h2
  obtain ⟨_, _, _, _, _, _, _, e1, _⟩ := later (B := B1) ok1 hb1 hd (fun z => by omega) start a
  obtain ⟨_, _, _, _, _, _, _, e2, _⟩ := later (B := B2) ok2 hb2 hd (fun z => by omega) start b
  unfold dif
  rw [← ha] at e1
  rw [← hb] at e2
  omega
theorem dif_mod (ok1 : WOk W1) (ok2 : WOk W2) (hb1 : B1.bey < 3) (hb2 : B2.bey < 3) {d : Int} (hd : 1 ≤ d) (hr1 : d < reach W1) (hr2 : d < reach W2) {m : Int} (h1 : (lv W1 (TwM.levelIx W1 d)).g ∣ m) (h2 : (lv W2 (TwM.levelIx W2 d)).g ∣ m) (start : Int) :
    dif W1 B1 W2 B2 (start % m) d = dif W1 B1 W2 B2 start d := by
  have := dif_later (B1 := B1) (B2 := B2) ok1 ok2 hb1 hb2 hd hr1 hr2 (m := m * (start / m)) (Int.dvd_trans h1 (Int.dvd_mul_right _ _)) (Int.dvd_trans h2 (Int.dvd_mul_right _ _)) (start % m)
  rw [Int.emod_add_mul_ediv] at this
  exact this.symm
/-- a timer with delay 0 -/
theorem fin_zero {W : List Lv} {B : Bk} (start : Int) : (fin W B start 0).1 = (if B.zone = false then start else (fin W B start 1).1) := by
  unfold fin placeM
  cases B.zone
  · simp
  · simp
theorem dif_zero (ok1 : WOk W1) (ok2 : WOk W2) (hb1 : B1.bey < 3) (hb2 : B2.bey < 3) (st : Int) : dif W1 B1 W2 B2 st 0 = dif W1 B1 W2 B2 0 0 := by
  have one : ∀ {W : List Lv} {B : Bk}, WOk W → B.bey < 3 → (fin W B st 1).1 = (fin W B 0 1).1 + st := fun {W B} ok hb => by
    have hp := ok.pos
    have h2 := (ok.all 0 hp).2.2.2.2
    have hr : 2 ≤ reach W := (ok.all (W.length - 1) (by omega)).2.2.2.2
    have hi : levelOf W 1 = some 0 := levelOf_is hp (fun j hj => absurd hj (Nat.not_lt_zero _)) (by omega)
    have hix : TwM.levelIx W 1 = 0 := by unfold TwM.levelIx; rw [hi]; rfl
    obtain ⟨_, _, _, _, _, _, _, e1, _⟩ := later (B := B) ok hb (delay := 1) (Int.le_refl _) (fun z => by omega) 0 st
    rw [hix, ok.first, Int.one_mul, Int.zero_add] at e1
    exact e1
  unfold dif
  rw [fin_zero, fin_zero (W := W2), fin_zero (W := W1) (start := 0), fin_zero (W := W2) (start := 0), one ok1 hb1, one ok2 hb2]
  split <;> split <;> omega
end
/-! ### delays that two wheels have in common -/
def lowD (W : List Lv) (i : Nat) : Int := if i = 0 then 1 else (lv W (i - 1)).p
structure Part where
  i : Nat
  j : Nat
  lo : Int
  hi : Int
def pLo (W1 W2 : List Lv) (i j : Nat) : Int := if lowD W2 j > lowD W1 i then lowD W2 j else lowD W1 i
def pHi (W1 W2 : List Lv) (i j : Nat) : Int := (if (lv W2 j).p < (lv W1 i).p then (lv W2 j).p else (lv W1 i).p) - 1
def partAt (W1 W2 : List Lv) (i j : Nat) : List Part := if pLo W1 W2 i j ≤ pHi W1 W2 i j then [⟨i, j, pLo W1 W2 i j, pHi W1 W2 i j⟩] else []
def cparts (W1 W2 : List Lv) : List Part := (List.range W1.length).flatMap fun i => (List.range W2.length).flatMap fun j => partAt W1 W2 i j
theorem asc_lt {W : List Lv} (ok : WOk W) {i j : Nat} (h : i < j) (hj : j < W.length) : (lv W i).p < (lv W j).p := by
  have := asc_le ok (j - i - 1) i (by omega)
  rwa [show i + (j - i - 1) + 1 = j by omega] at this
theorem lowD_le {W : List Lv} (ok : WOk W) {i j : Nat} (h : i < j) (hj : j < W.length) : (lv W i).p ≤ lowD W j := by
  unfold lowD
  rw [if_neg (by omega)]
  rcases Nat.lt_or_ge i (j - 1) with z | z
  · have := asc_lt ok z (by omega)
    omega
  · rw [show j - 1 = i by omega]
    exact Int.le_refl _
theorem lowD_pos {W : List Lv} (ok : WOk W) {i : Nat} (hi : i < W.length) : 1 ≤ lowD W i := by
  unfold lowD
  split
  · exact Int.le_refl _
  · have := (ok.all (i - 1) (by omega)).2.2.2.2
    omega
theorem level_in {W : List Lv} (ok : WOk W) {i : Nat} (hi : i < W.length) {d : Int} (h1 : lowD W i ≤ d) (h2 : d < (lv W i).p) : levelOf W d = some i := levelOf_is hi (fun j hj => by
  have := lowD_le ok hj hi
  omega) h2
theorem in_level {W : List Lv} (ok : WOk W) {d : Int} (h1 : 1 ≤ d) (h2 : d < reach W) : ∃ i, i < W.length ∧ lowD W i ≤ d ∧ d < (lv W i).p := by
  have hp := ok.pos
  cases e : levelOf W d with
  | none =>
    have := levelOf_none e (W.length - 1) (by omega)
    have h3 : reach W = (lv W (W.length - 1)).p := rfl
    omega
  | some i =>
    obtain ⟨a, b⟩ := levelOf_lt e
    refine ⟨i, a, ?_, b⟩
    unfold lowD
    split
    · exact h1
    · exact levelOf_ge e (i - 1) (by omega)
theorem mem_cparts {W1 W2 : List Lv} {x : Part} : x ∈ cparts W1 W2 ↔ x.i < W1.length ∧ x.j < W2.length ∧ x.lo = pLo W1 W2 x.i x.j ∧ x.hi = pHi W1 W2 x.i x.j ∧ x.lo ≤ x.hi := by
  unfold cparts partAt
  simp only [List.mem_flatMap, List.mem_range]
  constructor
  · rintro ⟨i, hi, j, hj, h⟩
    split at h
    · obtain rfl := List.mem_singleton.mp h
      exact ⟨hi, hj, rfl, rfl, by assumption⟩
    · cases h
  · rintro ⟨hi, hj, e1, e2, e3⟩
    refine ⟨x.i, hi, x.j, hj, ?_⟩
    rw [if_pos (by omega), ← e1, ← e2]
    exact List.mem_singleton.mpr rfl
theorem part_in {W1 W2 : List Lv} (ok1 : WOk W1) (ok2 : WOk W2) {x : Part} (hx : x ∈ cparts W1 W2) {d : Int} (h1 : x.lo ≤ d) (h2 : d ≤ x.hi) : 1 ≤ d ∧ levelOf W1 d = some x.i ∧ levelOf W2 d = some x.j ∧ d < reach W1 ∧ d < reach W2 := by
  obtain ⟨a, b, e1, e2, _⟩ := mem_cparts.mp hx
  have l1 := lowD_pos ok1 a
  have l2 := lowD_pos ok2 b
  unfold pLo at e1
  unfold pHi at e2
  have hl1 : lowD W1 x.i ≤ d := by split at e1 <;> omega
  have hl2 : lowD W2 x.j ≤ d := by split at e1 <;> omega
  have hp1 : d < (lv W1 x.i).p := by split at e2 <;> omega
  have hp2 : d < (lv W2 x.j).p := by split at e2 <;> omega
  have r1 := le_reach ok1 a
  have r2 := le_reach ok2 b
  exact ⟨by omega, level_in ok1 a hl1 hp1, level_in ok2 b hl2 hp2, by omega, by omega⟩
theorem part_of {W1 W2 : List Lv} (ok1 : WOk W1) (ok2 : WOk W2) {d : Int} (h0 : 1 ≤ d) (h1 : d < reach W1) (h2 : d < reach W2) : ∃ x ∈ cparts W1 W2, x.lo ≤ d ∧ d ≤ x.hi := by
  obtain ⟨i, a1, a2, a3⟩ := in_level ok1 h0 h1
  obtain ⟨j, b1, b2, b3⟩ := in_level ok2 h0 h2
  have c1 : pLo W1 W2 i j ≤ d := by unfold pLo; split <;> omega
  have c2 : d ≤ pHi W1 W2 i j := by unfold pHi; split <;> omega
  exact ⟨⟨i, j, pLo W1 W2 i j, pHi W1 W2 i j⟩, mem_cparts.mpr ⟨a1, b1, rfl, rfl, by show pLo W1 W2 i j ≤ pHi W1 W2 i j; omega⟩, c1, c2⟩
theorem parts_asc {W1 W2 : List Lv} (ok1 : WOk W1) (ok2 : WOk W2) : (cparts W1 W2).Pairwise fun x y => x.hi < y.lo := by
  unfold cparts
  have hm : ∀ {i j : Nat} {x : Part}, x ∈ partAt W1 W2 i j → x.lo = pLo W1 W2 i j ∧ x.hi = pHi W1 W2 i j := fun {i j x} h => by
    unfold partAt at h
    split at h
    · obtain rfl := List.mem_singleton.mp h
      exact ⟨rfl, rfl⟩
    · cases h
  rw [List.pairwise_flatMap]
  refine ⟨fun i hi => ?_, (List.pairwise_lt_range (n := W1.length)).imp_of_mem fun {i i'} hi hi' hlt x hx y hy => ?_⟩
  · rw [List.pairwise_flatMap]
    refine ⟨fun j hj => ?_, (List.pairwise_lt_range (n := W2.length)).imp_of_mem fun {j j'} hj hj' hlt x hx y hy => ?_⟩
    · unfold partAt
      split
      · exact List.pairwise_singleton _ _
      · exact List.Pairwise.nil
    · have := lowD_le ok2 hlt (List.mem_range.mp hj')
      rw [(hm hx).2, (hm hy).1]
      unfold pHi pLo
      split <;> split <;> omega
  · obtain ⟨j, hj, hx⟩ := List.mem_flatMap.mp hx
    obtain ⟨j', hj', hy⟩ := List.mem_flatMap.mp hy
    have := lowD_le ok1 hlt (List.mem_range.mp hi')
    rw [(hm hx).2, (hm hy).1]
    unfold pHi pLo
    split <;> split <;> omega
section
variable {W1 : List Lv} {B1 : Bk} {W2 : List Lv} {B2 : Bk}
/-- the first pair of a part -/
def PartIs (W1 : List Lv) (B1 : Bk) (W2 : List Lv) (B2 : Bk) (later : Bool) (x : Part) (m : Int) (o : Option (Int × Int)) : Prop := match o with
  | none => ∀ d, x.lo ≤ d → d ≤ x.hi → ∀ st, 0 ≤ st → st < m → ¬ prd later (dif W1 B1 W2 B2 st d)
  | some (d, st) => x.lo ≤ d ∧ d ≤ x.hi ∧ 0 ≤ st ∧ st < m ∧ prd later (dif W1 B1 W2 B2 st d) ∧ ∀ d' st', x.lo ≤ d' → d' ≤ x.hi → 0 ≤ st' → st' < m → prd later (dif W1 B1 W2 B2 st' d') → d < d' ∨ d = d' ∧ st ≤ st'
theorem part_mod (ok1 : WOk W1) (ok2 : WOk W2) (hb1 : B1.bey < 3) (hb2 : B2.bey < 3) {x : Part} (hx : x ∈ cparts W1 W2) {m : Int} (hm : IsL (lv W1 x.i).g (lv W2 x.j).g m) {d : Int} (h1 : x.lo ≤ d) (h2 : d ≤ x.hi) (st : Int) : dif W1 B1 W2 B2 (st % m) d = dif W1 B1 W2 B2 st d := by
  obtain ⟨a1, a2, a3, a4, a5⟩ := part_in ok1 ok2 hx h1 h2
  have e1 : TwM.levelIx W1 d = x.i := by unfold TwM.levelIx; rw [a2]; rfl
  have e2 : TwM.levelIx W2 d = x.j := by unfold TwM.levelIx; rw [a3]; rfl
  have := (hm.2 m).mp (Int.dvd_refl _)
  exact dif_mod ok1 ok2 hb1 hb2 a1 a4 a5 (by rw [e1]; exact this.1) (by rw [e2]; exact this.2) st
theorem pair_none (ok1 : WOk W1) (ok2 : WOk W2) (hb1 : B1.bey < 3) (hb2 : B2.bey < 3) {later : Bool} (h0 : ¬ prd later (dif W1 B1 W2 B2 0 0)) (h : ∀ x ∈ cparts W1 W2, ∃ m, IsL (lv W1 x.i).g (lv W2 x.j).g m ∧ PartIs W1 B1 W2 B2 later x m none) : PairIs W1 B1 W2 B2 later none := by
  intro d hd0 hd1 hd2 st hst
  by_cases hz : d = 0
  · rw [hz, dif_zero ok1 ok2 hb1 hb2]
    exact h0
  · obtain ⟨x, hx, a, b⟩ := part_of ok1 ok2 (by omega) hd1 hd2
    obtain ⟨m, hm, hp⟩ := h x hx
    rw [← part_mod ok1 ok2 hb1 hb2 hx hm a b]
    exact hp d a b _ (Int.emod_nonneg _ (by have := hm.1; omega)) (Int.emod_lt_of_pos _ hm.1)
theorem pair_some (ok1 : WOk W1) (ok2 : WOk W2) (hb1 : B1.bey < 3) (hb2 : B2.bey < 3) {later : Bool} (h0 : ¬ prd later (dif W1 B1 W2 B2 0 0)) {k : Nat} {x : Part} (hk : (cparts W1 W2)[k]? = some x) (h : ∀ k' y, k' < k → (cparts W1 W2)[k']? = some y → ∃ m, IsL (lv W1 y.i).g (lv W2 y.j).g m ∧ PartIs W1 B1 W2 B2 later y m none)
    {m : Int} (hm : IsL (lv W1 x.i).g (lv W2 x.j).g m) {d st : Int} (hp : PartIs W1 B1 W2 B2 later x m (some (d, st))) : PairIs W1 B1 W2 B2 later (some (st, d)) := by
  have hx := List.mem_of_getElem? hk
  obtain ⟨p1, p2, p3, p4, p5, p6⟩ := hp
  obtain ⟨a1, a2, a3, a4, a5⟩ := part_in ok1 ok2 hx p1 p2
  have m0 := hm.1
  have inm : ∀ s : Int, 0 ≤ s % m ∧ s % m < m := fun s => ⟨Int.emod_nonneg _ (by omega), Int.emod_lt_of_pos _ m0⟩
  refine ⟨by omega, a4, a5, p3, p5, fun d' hd0 hd1 st' hst hq => ?_, fun st' hst hlt hq => ?_⟩
  · by_cases hz : d' = 0
    · rw [hz, dif_zero ok1 ok2 hb1 hb2] at hq
      exact h0 hq
    · obtain ⟨y, hy, b1, b2⟩ := part_of ok1 ok2 (d := d') (by omega) (by omega) (by omega)
      obtain ⟨k', hk'⟩ := List.getElem?_of_mem hy
      rcases Nat.lt_trichotomy k' k with z | z | z
      · obtain ⟨m', hm', hn⟩ := h k' y z hk'
        rw [← part_mod ok1 ok2 hb1 hb2 hy hm' b1 b2] at hq
        exact hn d' b1 b2 _ (Int.emod_nonneg _ (by have := hm'.1; omega)) (Int.emod_lt_of_pos _ hm'.1) hq
      · subst z
        rw [hk] at hk'
        obtain rfl := Option.some.inj hk'
        rw [← part_mod ok1 ok2 hb1 hb2 hx hm b1 b2] at hq
        rcases p6 d' _ b1 b2 (inm st').1 (inm st').2 hq with c | c <;> omega
      · have := List.pairwise_iff_getElem.mp (parts_asc ok1 ok2) k k' (List.getElem?_eq_some_iff.mp hk).1 (List.getElem?_eq_some_iff.mp hk').1 z
        rw [(List.getElem?_eq_some_iff.mp hk).2, (List.getElem?_eq_some_iff.mp hk').2] at this
        omega
  · rcases p6 d st' p1 p2 hst (by omega) hq with c | c <;> omega
theorem IsL.eq {a b m m' : Int} (h : IsL a b m) (h' : IsL a b m') : m = m' :=
  Int.dvd_antisymm (Int.le_of_lt h.1) (Int.le_of_lt h'.1) ((h.2 m').mpr ((h'.2 m').mp (Int.dvd_refl _))) ((h'.2 m).mpr ((h.2 m).mp (Int.dvd_refl _)))
/-- the first delay, of those a common multiple apart, for one start -/
def FDIs (W1 : List Lv) (B1 : Bk) (W2 : List Lv) (B2 : Bk) (later : Bool) (hi m start low : Int) (o : Option Int) : Prop := match o with
  | none => ∀ d, low ≤ d → d ≤ hi → m ∣ d - low → ¬ prd later (dif W1 B1 W2 B2 start d)
  | some d => low ≤ d ∧ d ≤ hi ∧ m ∣ d - low ∧ prd later (dif W1 B1 W2 B2 start d) ∧ ∀ d', low ≤ d' → d' < d → m ∣ d' - low → ¬ prd later (dif W1 B1 W2 B2 start d')
theorem ttt_pos {up : Bool} {l : Lv} {t : Int} (hg : 1 ≤ l.g) (hs : 1 ≤ l.s) : 1 ≤ ttt up l t := by
  unfold ttt
  have := Int.emod_nonneg (0 - rnd up t l.g) (b := l.s) (by omega)
  have := Int.mul_le_mul (a := 1) (b := 1) (c := (0 - rnd up t l.g) % l.s + 1) (d := l.g) (by omega) hg (by omega) (by omega)
  omega
theorem fd_step (ok1 : WOk W1) (ok2 : WOk W2) {later : Bool} {x : Part} (hx : x ∈ cparts W1 W2) {m : Int} (hm : IsL (lv W1 x.i).g (lv W2 x.j).g m) {start dd n : Int} (h1 : x.lo ≤ dd) (hn : 1 ≤ n) (hq : ¬ prd later (dif W1 B1 W2 B2 start dd))
    (n1 : n ≤ ttt B1.up (lv W1 x.i) (start % (lv W1 x.i).g + dd)) (n2 : n ≤ ttt B2.up (lv W2 x.j) (start % (lv W2 x.j).g + dd)) :
    dd < dd - (0 - n) / m * m ∧ m ∣ dd - (0 - n) / m * m - dd ∧ ∀ d', dd ≤ d' → d' < dd - (0 - n) / m * m → d' ≤ x.hi → m ∣ d' - dd → ¬ prd later (dif W1 B1 W2 B2 start d') := by
  have m0 := hm.1
  have e1 := Int.mul_ediv_add_emod (0 - n) m
  have e2 := Int.emod_nonneg (0 - n) (b := m) (by omega)
  have e3 := Int.emod_lt_of_pos (0 - n) m0
  have e4 : (0 - n) / m * m = m * ((0 - n) / m) := Int.mul_comm ..
  refine ⟨by omega, ⟨-((0 - n) / m), by rw [Int.mul_neg]; omega⟩, fun d' a b c hd => ?_⟩
  obtain ⟨k, hk⟩ := hd
  obtain ⟨a1, a2, a3, a4, a5⟩ := part_in ok1 ok2 hx h1 (by omega)
  obtain ⟨b1, b2, b3, b4, b5⟩ := part_in ok1 ok2 hx (d := d') (by omega) c
  have hk1 : k < -((0 - n) / m) := by
    have : m * k < m * (-((0 - n) / m)) := by rw [Int.mul_neg]; omega
    exact Int.lt_of_mul_lt_mul_left this (by omega)
  have hkn : m * k < n := by
    have : m * k ≤ m * (-((0 - n) / m) - 1) := Int.mul_le_mul_of_nonneg_left (by omega) (by omega)
    rw [Int.mul_sub, Int.mul_neg, Int.mul_one] at this
    omega
  have hmm := (hm.2 m).mp (Int.dvd_refl _)
  have ed : d' = dd + m * k := by omega
  subst ed
  have f1 := fin_jump (B := B1) ok1 (start := start) a2 a1 b2 (by omega) (Int.dvd_trans hmm.1 (Int.dvd_mul_right _ _)) (by omega)
  have f2 := fin_jump (B := B2) ok2 (start := start) a3 a1 b3 (by omega) (Int.dvd_trans hmm.2 (Int.dvd_mul_right _ _)) (by omega)
  have : dif W1 B1 W2 B2 start (dd + m * k) = dif W1 B1 W2 B2 start dd := by unfold dif; omega
  rw [this]
  exact hq
/-- the least of some pairs -/
def BestIs (W1 : List Lv) (B1 : Bk) (W2 : List Lv) (B2 : Bk) (later : Bool) (x : Part) (m : Int) (P : Int → Int → Prop) (o : Option (Int × Int)) : Prop := match o with
  | none => ∀ d st, x.lo ≤ d → d ≤ x.hi → P d st → ¬ prd later (dif W1 B1 W2 B2 st d)
  | some (d, st) => x.lo ≤ d ∧ d ≤ x.hi ∧ 0 ≤ st ∧ st < m ∧ prd later (dif W1 B1 W2 B2 st d) ∧ ∀ d' st', x.lo ≤ d' → d' ≤ x.hi → P d' st' → prd later (dif W1 B1 W2 B2 st' d') → d < d' ∨ d = d' ∧ st ≤ st'
theorem BestIs.imp {later : Bool} {x : Part} {m : Int} {P P' : Int → Int → Prop} {o : Option (Int × Int)} (h : BestIs W1 B1 W2 B2 later x m P o) (hP : ∀ d st, x.lo ≤ d → d ≤ x.hi → P' d st → P d st) : BestIs W1 B1 W2 B2 later x m P' o := by
  cases o with
  | none => exact fun d st a b c => h d st a b (hP d st a b c)
  | some p =>
    obtain ⟨a1, a2, a3, a4, a5, a6⟩ := h
    exact ⟨a1, a2, a3, a4, a5, fun d' st' a b c => a6 d' st' a b (hP d' st' a b c)⟩
theorem BestIs.part {later : Bool} {x : Part} {m : Int} {o : Option (Int × Int)} (h : BestIs W1 B1 W2 B2 later x m (fun _ st => 0 ≤ st ∧ st < m) o) : PartIs W1 B1 W2 B2 later x m o := by
  cases o with
  | none => exact fun d a b st c e => h d st a b ⟨c, e⟩
  | some p =>
    obtain ⟨a1, a2, a3, a4, a5, a6⟩ := h
    exact ⟨a1, a2, a3, a4, a5, fun d' st' a b c e => a6 d' st' a b ⟨c, e⟩⟩
def nextBest (o : Option (Int × Int)) (st : Int) : Option Int → Option (Int × Int)
  | none => o
  | some d => match o with
    | none => some (d, st)
    | some (bd, bs) => if (if d = bd then (if st = bs then False else st < bs) else d < bd) then some (d, st) else some (bd, bs)
theorem BestIs.next {later : Bool} {x : Part} {m : Int} {P : Int → Int → Prop} {o : Option (Int × Int)} (h : BestIs W1 B1 W2 B2 later x m P o) {st low : Int} (hlo : x.lo ≤ low) (h0 : 0 ≤ st) (h1 : st < m) (hlm : low < x.lo + m) {o2 : Option Int} (hf : FDIs W1 B1 W2 B2 later x.hi m st low o2) :
    BestIs W1 B1 W2 B2 later x m (fun d s => P d s ∨ s = st ∧ low ≤ d ∧ m ∣ d - low) (nextBest o st o2) := by
  cases o2 with
  | none =>
    cases o with
    | none =>
      intro d s a b c
      rcases c with c | ⟨rfl, c1, c2⟩
      · exact h d s a b c
      · exact hf d c1 b c2
    | some p =>
      obtain ⟨a1, a2, a3, a4, a5, a6⟩ := h
      refine ⟨a1, a2, a3, a4, a5, fun d' s' a b c hq => ?_⟩
      rcases c with c | ⟨rfl, c1, c2⟩
      · exact a6 d' s' a b c hq
      · exact absurd hq (hf d' c1 b c2)
  | some d0 =>
    obtain ⟨f1, f2, f3, f4, f5⟩ := hf
    have key : ∀ d', x.lo ≤ d' → d' ≤ x.hi → low ≤ d' → m ∣ d' - low → prd later (dif W1 B1 W2 B2 st d') → d0 ≤ d' := fun d' a b c e hq => by
      rcases Int.lt_or_le d' d0 with z | z
      · exact absurd hq (f5 d' c z e)
      · exact z
    cases o with
    | none =>
      refine ⟨by omega, f2, h0, h1, f4, fun d' s' a b c hq => ?_⟩
      rcases c with c | ⟨rfl, c1, c2⟩
      · exact absurd hq (h d' s' a b c)
      · have := key d' a b c1 c2 hq
        omega
    | some p =>
      obtain ⟨bd, bs⟩ := p
      obtain ⟨a1, a2, a3, a4, a5, a6⟩ := h
      show BestIs W1 B1 W2 B2 later x m _ (if (if d0 = bd then (if st = bs then False else st < bs) else d0 < bd) then some (d0, st) else some (bd, bs))
      by_cases hc : (if d0 = bd then (if st = bs then False else st < bs) else d0 < bd)
      · rw [if_pos hc]
        have hc' : d0 < bd ∨ d0 = bd ∧ st < bs := by
          split at hc
          · split at hc
            · exact hc.elim
            · exact .inr ⟨by assumption, hc⟩
          · exact .inl hc
        refine ⟨by omega, f2, h0, h1, f4, fun d' s' a b c hq => ?_⟩
        rcases c with c | ⟨rfl, c1, c2⟩
        · rcases a6 d' s' a b c hq with z | z <;> omega
        · have := key d' a b c1 c2 hq
          omega
      · rw [if_neg hc]
        have hc' : bd < d0 ∨ bd = d0 ∧ bs ≤ st := by
          split at hc
          · split at hc <;> omega
          · omega
        refine ⟨a1, a2, a3, a4, a5, fun d' s' a b c hq => ?_⟩
        rcases c with c | ⟨rfl, c1, c2⟩
        · exact a6 d' s' a b c hq
        · have := key d' a b c1 c2 hq
          omega
end
end Tw
/-! Tw: beats of lumps of one length, all modes -/
namespace Tw
open PySem PySem.Spec PyProof.Rows L2 He TwM StX
open PySem.W (Frag)
local macro_rules | `(tactic| walk_at "rsj") => `(tactic| simp only [*, at3_0, at3_1, at3_2, at2_0, at2_1, updS, upd_two, gSub, rSetL, updN, and_assoc, not_true_eq_false, not_false_eq_true, tNever, List.length_map, tFld, rIxTH, rIxLH, rLenTH, rLenLH, lk1, lfs_g, lfs_s, lfs_p, HO.ins.injEq, HO.tup.injEq, HO.lst.injEq, sp_Book_rounding, sp_Book_action, sp_Book_order, sp_Book_due, sp_Book_zero, sp_Book_beyond, Int.toNat_natCast, sp_visit_after, sp_is_visited, sp_Level_grain, sp_Level_slots, sp_Level_span, sp_Wheel_reach, sp_Wheel___len__, sp_is_integer, sp_is_count, sp_is_within, sp_rounded, tSeq, tAsg, gName, tVar, tC, tOp, rI, rI0, rU, tUn, oAdd, oSub, oMul, oDiv, oMod, oNeg, oLt, oLe, oGt, oGe, oIsN, oNotN, tFn, tCons, tNil, tIfS, tIf, tTest, tB, tNot, tAnd, tOr, tAndV, tOrV, tNotV,
    tRet, tRetN, tNext, tCB, tDrop, tChain, rEq, rNe, oMax2, oMin2, oInt1, rLenF, L2.start, List.map_cons, List.map_nil, List.length_cons, List.length_nil, List.replicate_succ, List.replicate_zero, List.cons_append, List.nil_append, Nat.reduceAdd, Nat.reduceSub, Nat.zero_add,
    List.set_cons_zero, List.set_cons_succ, List.getElem?_cons_zero, List.getElem?_cons_succ, Option.some.injEq, V.int.injEq, V.ref.injEq, V.str.injEq, V.bl.injEq, exists_eq_left', exists_eq_left, exists_and_left, List.cons.injEq, and_true, true_and, decide_eq_true_eq, sc_ii, sc_ss, sc_bb, sc_ni, sc_in, sc_nn, sc_is, reduceCtorEq,
    Bool.not_eq_true', decide_eq_false_iff_not, if_true, if_false, Bool.false_eq_true, exists_eq', exists_const, false_and, and_false, or_false, false_or, exists_false, Bool.not_not, Bool.not_true, Bool.not_false, sUp_up, sFire_fire, sHigh_high, sPut_put, sZone_now, sBey_refuse, sBey_cut, tTup, tLst, sz0, sz1, sz2, sz3, sz4, sz5, sz6])
section
variable {K : Frag} {w : World}
def endOf (start len t : Int) : Int := start - (start - t) / len * len
theorem endOf_is {s len t : Int} (hl : 1 ≤ len) : t ≤ endOf s len t ∧ endOf s len t < t + len ∧ endOf s len t = s + (-((s - t) / len)) * len := by
  unfold endOf
  have h1 := Int.ediv_mul_le (s - t) (b := len) (by omega)
  have h2 := Int.lt_ediv_add_one_mul_self (s - t) (b := len) (by omega)
  rw [Int.add_mul, Int.one_mul] at h2
  rw [Int.neg_mul]
  omega
def nxL (mode : Str) (start len : Int) : Lv → Int → Int → Option Int → Prop := fun l pt tick o =>
  if mode = "last" then ∃ k, FH tick len (pt * l.g) (l.g * l.s) k ∧ o = k.map fun k => tick + k * len else o = some (endOf start len (va l pt tick))
def bfL (mode : Str) (len t : Int) : Int := if mode = "last" then t - 1 else t - len
theorem nx_step {W : List Lv} (ok : WOk W) {i : Nat} (hi : i < W.length) {mode : Str} {now len pt tick j t : Int} (hl : 1 ≤ len) (hj : now + j * len = tick) (h : nxL mode now len (lv W i) pt tick (some t)) :
    ∃ j', t = now + j' * len ∧ j < j' ∧ j' ≤ j + 100001 ∧ isVis (lv W i) pt (bfL mode len t) t = true := by
  have hall := ok.all _ hi
  have hgs : (lv W i).g * (lv W i).s ≤ 1000 * 100 := Int.mul_le_mul (by omega) (by omega) (by omega) (by omega)
  have hgs0 : 1 * 2 ≤ (lv W i).g * (lv W i).s := Int.mul_le_mul (by omega) (by omega) (by omega) (by omega)
  unfold nxL at h
  unfold bfL
  by_cases hm : mode = "last"
  · rw [if_pos hm] at h ⊢
    obtain ⟨k, hk, e⟩ := h
    cases k with
    | none => cases e
    | some k =>
      obtain rfl : t = tick + k * len := Option.some.inj e
      obtain ⟨g, hg, k1, k2, k3⟩ := hk
      have k4 : (lv W i).g * (lv W i).s / g ≤ (lv W i).g * (lv W i).s := Int.ediv_le_self _ (by omega)
      refine ⟨j + k, by rw [← hj, Int.add_mul]; omega, by omega, by omega, ?_⟩
      exact isVis_in (by omega) (by omega) k3 (by omega) (Int.le_refl _)
  · rw [if_neg hm] at h ⊢
    obtain rfl := Option.some.inj h
    have hv := va_step ok hi pt tick
    obtain ⟨e1, e2, e3⟩ := endOf_is (s := now) (t := va (lv W i) pt tick) hl
    refine ⟨_, e3, ?_, ?_, isVis_in (by omega) (by omega) (va_dvd (by omega) pt tick) (by omega) e1⟩
    · generalize -((now - va (lv W i) pt tick) / len) = j' at e3 ⊢
      have : j * len < j' * len := by omega
      exact Int.lt_of_mul_lt_mul_right this (by omega)
    · generalize -((now - va (lv W i) pt tick) / len) = j' at e3 ⊢
      have h1 : 100000 * 1 ≤ 100000 * len := Int.mul_le_mul_of_nonneg_left hl (by omega)
      have h2 : j' * len < (j + 100001) * len := by rw [Int.add_mul]; omega
      have := Int.lt_of_mul_lt_mul_right h2 (by omega)
      omega
theorem beat_vis {W : List Lv} {B : Bk} (ok : WOk W) {sp : Spot} (hl : sp.lv < W.length) {bf t : Int} (hv : isVis (lv W sp.lv) sp.pt bf t = true) : ∃ o, (visited W B sp bf t).getLast? = some o := by
  cases e : (visited W B sp bf t).getLast? with
  | some o => exact ⟨o, rfl⟩
  | none => exact absurd (List.getLast?_eq_none_iff.mp e) (visGo_ne _ (mem_order.mpr hl) hv)
def sp_beat_tick (K : Frag) : Sp := fun vs H Q _ => ∃ (a b : Addr) (now delay len : Int) (mode : Str), vs = [.ref a, .ref b, .int now, .int delay, .int len, .str mode] ∧ ∃ W B, WhAt K H a W ∧ BkAt K H b B ∧ 0 ≤ now ∧ 0 ≤ delay ∧ delay < reach W ∧ reach W ≤ 1073741824 ∧ 1 ≤ len ∧ len < 2 ^ 200 ∧
  (mode = "each" ∨ mode = "last" ∨ mode = "slots") ∧ (placeM W B now delay = none → ∀ H', Same H H' → Q (.int now) H') ∧
  ∀ sp, placeM W B now delay = some sp → (mode = "each" → ∀ H', Same H H' → Q (.int (endOf now len (fin W B now delay).1)) H') ∧ (mode ≠ "each" → ∀ o H', Same H H' → Beats W B (nxL mode now len) (bfL mode len) sp now o → Q (optV o) H')
def btInv (a b : Addr) (now delay len : Int) (mode : Str) (W : List Lv) (B : Bk) (H : Hp) (Q : VK) (m : Nat) (σ : L2.St) (H' : Hp) : Prop :=
  (∃ (p : Addr) (sp : Spot) (tick j : Int) (v8 : Option V), m = mu sp tick + 1 ∧ σ = [some (.ref a), some (.ref b), some (.int now), some (.int delay), some (.int len), some (.str mode), some (.ref p), some (.int tick), v8] ∧ Same H H' ∧ SpAt H' p sp ∧ sp.lv < W.length ∧ now + j * len = tick ∧ 0 ≤ j ∧
    j + 100001 * (mu sp tick : Int) ≤ 1000000000000000 ∧ ∀ o H'', Same H H'' → Beats W B (nxL mode now len) (bfL mode len) sp tick o → Q (optV o) H'') ∨
  (∃ (t : Int) (v8 : Option V), m = 0 ∧ σ = [some (.ref a), some (.ref b), some (.int now), some (.int delay), some (.int len), some (.str mode), some .non, some (.int t), v8] ∧ Same H H' ∧ ∀ H'', Same H H'' → Q (.int t) H'')
theorem bt_tail {a b p : Addr} {now delay len tick j t : Int} {mode : Str} {W : List Lv} {B : Bk} {H H4 : Hp} {Q : VK} {sp : Spot} (hW : WhAt K H a W) (hB : BkAt K H b B) (hl : 1 ≤ len) (hj : now + j * len = tick) (hj0 : 0 ≤ j) (hjm : j + 100001 * (mu sp tick : Int) ≤ 1000000000000000)
    (hx : nxL mode now len (lv W sp.lv) sp.pt tick (some t)) (s4 : Same H H4) (hp : SpAt H4 p sp) (hlv : sp.lv < W.length) (hq : ∀ o H'', Same H H'' → Beats W B (nxL mode now len) (bfL mode len) sp tick o → Q (optV o) H'') :
    sp_visited K [.ref a, .ref b, .ref p, .int (bfL mode len t), .int t] H4 (fun x H5 => ∃ f, x = .ref f ∧ ∃ xs, H5 f = some (.lst xs) ∧ ∃ v, atI xs (-1) = some v ∧
      (∃ m', m' < mu sp tick + 1 ∧ btInv a b now delay len mode W B H Q m' [some (.ref a), some (.ref b), some (.int now), some (.int delay), some (.int len), some (.str mode), some v, some (.int t), some (.int (bfL mode len t))] H5)) E0 := by
  have ok := hW.ok
  obtain ⟨j', e, j1, j2, hv⟩ := nx_step ok hlv hl hj hx
  refine ⟨a, b, p, _, _, rfl, W, B, sp, hW.same s4, hB.same s4, hp, fun f xs H5 s5 hfn hf hos => ⟨f, rfl, xs, hf, ?_⟩⟩
  obtain ⟨o, ho⟩ := beat_vis (B := B) ok hlv hv
  obtain ⟨v, hv1, hov⟩ := hos.last ho
  refine ⟨v, atI_m1 hv1, ?_⟩
  have ht : tick < t := by
    have : j * len < j' * len := Int.mul_lt_mul_of_pos_right j1 (by omega)
    omega
  have hmu : 1 ≤ mu sp tick := by unfold mu; split <;> omega
  cases o with
  | none =>
    obtain rfl : v = .non := hov
    exact ⟨0, by omega, .inr ⟨t, _, rfl, rfl, s4.trans s5, fun H'' s'' => hq (some t) H'' s'' (.fired hx ho)⟩⟩
  | some sp' =>
    obtain ⟨p', rfl, hp'⟩ := hov
    obtain ⟨m1, m2, m3⟩ := mu_step ok ht ho
    refine ⟨mu sp' t + 1, by omega, .inl ⟨p', sp', t, j', _, rfl, rfl, s4.trans s5, hp', m2, e.symm, by omega, by omega, fun o H'' s'' hb => hq o H'' s'' (.on hx ho hb)⟩⟩
theorem fin_bound {W : List Lv} {B : Bk} (ok : WOk W) {now delay : Int} {sp : Spot} (hp : placeM W B now delay = some sp) (hd : 0 ≤ delay) (hr : delay < reach W) : now < (fin W B now delay).1 ∧ (fin W B now delay).1 ≤ now + 100000 * (reach W + 2) ∧ Walks W B sp now (fin W B now delay).1 := by
  have hlt := placeM_lt ok hp
  have hre : 2 ≤ reach W := (ok.all (W.length - 1) (by have := ok.pos; omega)).2.2.2.2
  obtain ⟨r, hr'⟩ := fol_ends ok B none (mu sp now) sp now 0 hlt (Nat.le_refl _)
  have hd' : now + 1 ≤ sp.due ∧ sp.due ≤ now + reach W := by
    unfold placeM at hp
    split at hp
    · cases hp
    · obtain rfl := Option.some.inj hp
      rw [spotAt_due]
      repeat' split
      all_goals omega
  have hw := fol_walks ok _ hr' (by omega) hlt
  rw [fin_some hp ok hlt hr']
  have hb := hw.bound ok hlt
  have hm : mu sp now ≤ 2 + (sp.due - now).toNat := by unfold mu; split <;> omega
  exact ⟨hb.1, by omega, hw⟩
def t_beat_tick (K : Frag) (w : World) : TS :=
  (tSeq (tAsg (tFn (sp_place K) E0 (tCons (tVar 0) (tCons (tVar 1) (tCons (tVar 2) (tCons (tVar 3) tNil))))) (gName 6))
  (tSeq (tIfS (tTest (tOp oIsN (tMethR (ga K "Wheel") "level_of" (sp_Wheel_level_of K) E0 (tVar 0) (tCons (tVar 3) tNil)) (tC .non))) tNever tNext)
  (tSeq (tIfS (tNot (tB (tFn (sp_is_positive K) E0 (tCons (tVar 4) tNil)))) tNever tNext)
  (tSeq (tIfS (tOr (tNot (tB (tCB (rIsi K) (tCons (tVar 5) (tCons (tC (.ty "str")) tNil))))) (tTest (tOp (rIn K true) (tVar 5) (tC (.ref (ga K "MODES")))))) tNever tNext)
  (tSeq (tIfS (tTest (tOp oIsN (tVar 6) (tC .non))) (tRet (tVar 2)) tNext)
  (tSeq (tIfS (tTest (tOp rEq (tVar 5) (tC (.str "each")))) (tRet (tFn (sp_end_of K) E0 (tCons (tVar 2) (tCons (tVar 4) (tCons (tFn (sp_fire_tick K) E0 (tCons (tVar 0) (tCons (tVar 1) (tCons (tVar 2) (tCons (tVar 3) tNil))))) tNil))))) tNext)
  (tSeq (tAsg (tVar 2) (gName 7))
  (tSeq (tWhile (tTest (tOp oNotN (tVar 6) (tC .non)))
    (tSeq (tAsg (tFn (sp_next_end K) E0 (tCons (tFn (sp_Wheel___getitem__ K) E0 (tCons (tVar 0) (tCons (tOp rIxTH (tVar 6) (tC (.int 0))) tNil))) (tCons (tOp rIxTH (tVar 6) (tC (.int 1))) (tCons (tVar 7) (tCons (tVar 2) (tCons (tVar 4) (tCons (tVar 5) tNil))))))) (gName 7))
  (tSeq (tIfS (tTest (tOp oIsN (tVar 7) (tC .non))) (tRet (tC .non)) tNext)
  (tSeq (tAsg (tIf (tTest (tOp rEq (tVar 5) (tC (.str "last")))) (tOp oSub (tVar 7) (tC (.int 1))) (tOp oSub (tVar 7) (tVar 4))) (gName 8))
  (tAsg (tOp rIxLH (tFn (sp_visited K) E0 (tCons (tVar 0) (tCons (tVar 1) (tCons (tVar 6) (tCons (tVar 8) (tCons (tVar 7) tNil)))))) (tUn oNeg (tC (.int 1)))) (gName 6))))))
  (tRet (tVar 7))))))))))
def n_beat_tick : List Str := ["wheel", "book", "start", "delay", "length", "mode", "spot", "tick", "before"]
theorem rd_beat_tick (T : Kg K) (vs : List V) (H : Hp) (Q : VK) (E : XK) (h : sp_beat_tick K vs H Q E) : t_beat_tick K w { nx := fun _ H' => Q .non H', rt := Q } (L2.start n_beat_tick vs) H := by
  obtain ⟨a, b, now, delay, len, mode, rfl, W, B, hW, hB, hn, hd, hr, hr2, hl, hl2, hm, qn, qs⟩ := h
  have hpos := hW.ok.pos
  have hk := levelIx_lt hW.ok delay
  have hlo : ∃ i, levelOf W delay = some i := by
    cases e : levelOf W delay with
    | some i => exact ⟨i, rfl⟩
    | none => have := levelOf_none e (W.length - 1) (by omega); unfold reach at hr; omega
  obtain ⟨i, hi⟩ := hlo
  have hin : (if true = true then !inV (.str mode) [.str "each", .str "last", .str "slots"] else inV (.str mode) [.str "each", .str "last", .str "slots"]) = false := by
    rcases hm with rfl | rfl | rfl <;> decide +kernel
  unfold t_beat_tick n_beat_tick
  walk_at "rsj"
  refine ⟨a, b, now, delay, rfl, W, B, hW, hB, hn, by omega, fun z => by omega, fun v H1 s1 ho => ?_⟩
  have hW1 := hW.same s1
  obtain ⟨ok1, dx, t, as, h1, h2, h3, h4⟩ := id hW1
  refine ⟨_, rfl, a, dx, _, rfl, h1, rfl, _, rfl, a, delay, rfl, W, hW1, by omega, fun H2 s2 => ?_⟩
  rw [hi]
  dsimp only
  rw [if_neg (by unfold optI; intro z; cases z)]
  refine ⟨len, rfl, _, rfl, ?_⟩
  rw [if_neg (by rw [decide_eq_true hl]; exact Bool.noConfusion)]
  refine isi_base (.base (.str mode)) (b := true) (by decide +kernel) ⟨_, rfl, ?_⟩
  rw [if_neg Bool.noConfusion]
  refine ⟨_, _, rfl, .inr (T.md _), rfl, by decide +kernel, _, rfl, ?_⟩
  rw [hin, if_neg Bool.false_ne_true]
  have s12 := s1.trans s2
  cases hp : placeM W B now delay with
  | none =>
    rw [hp] at ho
    obtain rfl : v = .non := ho
    rw [if_pos rfl]
    exact qn hp _ s12
  | some sp =>
    rw [hp] at ho
    obtain ⟨p, rfl, hsp⟩ := ho
    have hlv := placeM_lt hW.ok hp
    obtain ⟨f1, f2, f3⟩ := fin_bound hW.ok hp hd hr
    obtain ⟨q1, q2⟩ := qs sp hp
    rw [if_neg (by intro z; cases z)]
    by_cases he : mode = "each"
    · rw [if_pos he]
      refine ⟨a, b, now, delay, rfl, W, B, hW.same s12, hB.same s12, hn, hd, fun z => by omega, fun H3 s3 => ⟨now, len, _, rfl, ?_, ?_, q1 he H3 (s12.trans s3)⟩⟩
      · exact ⟨by omega, Nat.lt_of_lt_of_le (PySem.Flt.log2_lt_of (k := 200) (by decide) (by omega)) (by decide)⟩
      · have g1 := Int.ediv_le_self (b := len) (a := (fin W B now delay).1 - now) (by omega)
        obtain ⟨e1, e2, e3⟩ := endOf_is (s := now) (t := (fin W B now delay).1) hl
        generalize (fin W B now delay).1 = T at *
        refine .inl ⟨?_, ?_⟩
        · have g2 : (now - T) * len ≤ (now - T) * 1 := Int.mul_le_mul_of_nonpos_left (by omega) hl
          have g3 : now - T ≤ (now - T) / len := Int.le_ediv_of_mul_le (by omega) (by omega)
          omega
        · have : (now - T) / len < 1 := Int.ediv_lt_of_lt_mul (by omega) (by omega)
          omega
    · rw [if_neg he]
      have hq := q2 he
      have hmu : mu sp now ≤ 2 + (reach W).toNat := by
        have hd' : sp.due ≤ now + reach W := by
          unfold placeM at hp
          have hre : 2 ≤ reach W := (hW.ok.all (W.length - 1) (by have := hW.ok.pos; omega)).2.2.2.2
          split at hp
          · cases hp
          · obtain rfl := Option.some.inj hp
            rw [spotAt_due]
            repeat' split
            all_goals omega
        unfold mu; split <;> omega
      refine ⟨btInv a b now delay len mode W B H Q, ⟨_, .inl ⟨p, sp, now, 0, none, rfl, rfl, s12, hsp.same s2, hlv, by omega, Int.le_refl _, by omega, hq⟩⟩, ?_⟩
      rintro m σ H3 (⟨p, sp, tick, j, v8, rfl, rfl, s3, hp3, hlv, hj, hj0, hjm, hq⟩ | ⟨t, v8, rfl, rfl, s3, hq⟩)
      · have hp4 := hp3
        unfold SpAt at hp4
        walk_at "rsj"
        have hW3 := hW.same s3
        refine ⟨fun σ' H' => ∃ m', m' < mu sp tick + 1 ∧ btInv a b now delay len mode W B H Q m' σ' H', fun σ' H' z => z, a, sp.lv, rfl, W, hW3, by omega, by omega, fun c hc => ?_⟩
        have hc' : LvAt K H3 c (lv W sp.lv) := hc
        refine ⟨_, hp4, _, rfl, c, sp.pt, tick, now, len, _, rfl, _, hc', ?_⟩
        by_cases hla : mode = "last"
        · refine .inl ⟨hla, fun o H3' s3' ho => ?_⟩
          have hnx : nxL mode now len (lv W sp.lv) sp.pt tick (o.map fun k => tick + k * len) := by unfold nxL; rw [if_pos hla]; exact ⟨o, ho, rfl⟩
          cases o with
          | none =>
            dsimp only
            rw [if_pos (show optV (Option.map (fun k => tick + k * len) none) = V.non from rfl)]
            exact hq none H3' (s3.trans s3') (.lost hnx)
          | some k =>
            dsimp only
            rw [if_neg (by intro z; cases z)]
            have tl := bt_tail (delay := delay) hW hB hl hj hj0 hjm hnx (s3.trans s3') (hp3.same s3') hlv hq
            unfold bfL at tl
            rw [if_pos hla] at tl ⊢
            exact ⟨_, rfl, tl⟩
        · obtain rfl : mode = "slots" := by
            rcases hm with z | z | z
            · exact absurd z he
            · exact absurd z hla
            · exact z
          have hnx : nxL "slots" now len (lv W sp.lv) sp.pt tick (some (endOf now len (va (lv W sp.lv) sp.pt tick))) := by unfold nxL; rw [if_neg hla]
          have hv := va_step hW.ok hlv sp.pt tick
          refine .inr ⟨hla, ?_, ?_, ?_⟩
          · exact ⟨by omega, Nat.lt_of_lt_of_le (PySem.Flt.log2_lt_of (k := 200) (by decide) (by omega)) (by decide)⟩
          · obtain ⟨j', e, j1, j2, _⟩ := nx_step hW.ok hlv hl hj hnx
            have e3 := (endOf_is (s := now) (t := va (lv W sp.lv) sp.pt tick) hl).2.2
            rw [e3] at e
            have e4 : -((now - va (lv W sp.lv) sp.pt tick) / len) * len = j' * len := by omega
            have e5 := Int.eq_of_mul_eq_mul_right (by omega) e4
            exact .inl ⟨by omega, by omega⟩
          · have tl := bt_tail (delay := delay) hW hB hl hj hj0 hjm hnx s3 hp3 hlv hq
            unfold bfL at tl
            rw [if_neg hla] at tl
            dsimp only
            rw [if_neg (by intro z; cases z), if_neg hla]
            exact ⟨_, rfl, tl⟩
      · walk_at "rsj"
end
end Tw
/-! Tw: draws of starts, delays, lengths -/
namespace Tw
open PySem PySem.Spec PyProof.Rows L2 He TwM StX
open PySem.W (Frag)
local macro_rules | `(tactic| walk_at "rsk") => `(tactic| simp only [*, at3_0, at3_1, at3_2, at2_0, at2_1, updS, upd_two, gSub, rSetL, updN, rCat, tPar, tPar3, and_assoc, not_true_eq_false, not_false_eq_true, tNever, List.length_map, tFld, rIxTH, rIxLH, rLenTH, rLenLH, lk1, lfs_g, lfs_s, lfs_p, HO.ins.injEq, HO.tup.injEq, HO.lst.injEq, sp_Book_rounding, sp_Book_action, sp_Book_order, sp_Book_due, sp_Book_zero, sp_Book_beyond, Int.toNat_natCast, sp_visit_after, sp_is_visited, sp_Level_grain, sp_Level_slots, sp_Level_span, sp_Wheel_reach, sp_Wheel___len__, sp_is_integer, sp_is_count, sp_is_within, sp_rounded, tSeq, tAsg, gName, tVar, tC, tOp, rI, rI0, rU, tUn, oAdd, oSub, oMul, oDiv, oMod, oNeg, oLt, oLe, oGt, oGe, oIsN, oNotN, tFn, tCons, tNil, tIfS, tIf, tTest, tB, tNot, tAnd, tOr, tAndV, tOrV, tNotV,
    tRet, tRetN, tNext, tCB, tDrop, tChain, rEq, rNe, oMax2, oMin2, oInt1, rLenF, L2.start, List.map_cons, List.map_nil, List.length_cons, List.length_nil, List.replicate_succ, List.replicate_zero, List.cons_append, List.nil_append, Nat.reduceAdd, Nat.reduceSub, Nat.zero_add,
    List.set_cons_zero, List.set_cons_succ, List.getElem?_cons_zero, List.getElem?_cons_succ, Option.some.injEq, V.int.injEq, V.ref.injEq, V.str.injEq, V.bl.injEq, exists_eq_left', exists_eq_left, exists_and_left, List.cons.injEq, and_true, true_and, decide_eq_true_eq, sc_ii, sc_ss, sc_bb, sc_ni, sc_in, sc_nn, sc_is, reduceCtorEq,
    Bool.not_eq_true', decide_eq_false_iff_not, if_true, if_false, Bool.false_eq_true, exists_eq', exists_const, false_and, and_false, or_false, false_or, exists_false, Bool.not_not, Bool.not_true, Bool.not_false, sUp_up, sFire_fire, sHigh_high, sPut_put, sZone_now, sBey_refuse, sBey_cut, tTup, tLst, sz0, sz1, sz2, sz3, sz4, sz5, sz6])
local macro_rules | `(tactic| walk_at "rsl") => `(tactic| simp only [*, at3_0, at3_1, at3_2, at2_0, at2_1, updS, upd_two, gSub, rSetL, updN, tPar, tPar3, and_assoc, not_true_eq_false, not_false_eq_true, tNever, List.length_map, tFld, rIxTH, rIxLH, rLenTH, rLenLH, lk1, lfs_g, lfs_s, lfs_p, HO.ins.injEq, HO.tup.injEq, HO.lst.injEq, sp_Book_rounding, sp_Book_action, sp_Book_order, sp_Book_due, sp_Book_zero, sp_Book_beyond, Int.toNat_natCast, sp_visit_after, sp_is_visited, sp_Level_grain, sp_Level_slots, sp_Level_span, sp_Wheel_reach, sp_Wheel___len__, sp_is_integer, sp_is_count, sp_is_within, sp_rounded, tAsg, gName, tVar, tC, tOp, rI, rI0, rU, tUn, oAdd, oSub, oMul, oDiv, oMod, oNeg, oLt, oLe, oGt, oGe, oIsN, oNotN, tFn, tCons, tNil, tIfS, tIf, tTest, tB, tNot, tAnd, tOr, tAndV, tOrV, tNotV,
    tRet, tRetN, tNext, tCB, tDrop, tChain, rEq, rNe, oMax2, oMin2, oInt1, rLenF, L2.start, List.map_cons, List.map_nil, List.length_cons, List.length_nil, List.replicate_succ, List.replicate_zero, List.cons_append, List.nil_append, Nat.reduceAdd, Nat.reduceSub, Nat.zero_add,
    List.set_cons_zero, List.set_cons_succ, List.getElem?_cons_zero, List.getElem?_cons_succ, Option.some.injEq, V.int.injEq, V.ref.injEq, V.str.injEq, V.bl.injEq, exists_eq_left', exists_eq_left, exists_and_left, List.cons.injEq, and_true, true_and, decide_eq_true_eq, sc_ii, sc_ss, sc_bb, sc_ni, sc_in, sc_nn, sc_is, reduceCtorEq,
    Bool.not_eq_true', decide_eq_false_iff_not, if_true, if_false, Bool.false_eq_true, exists_eq', exists_const, false_and, and_false, or_false, false_or, exists_false, Bool.not_not, Bool.not_true, Bool.not_false, sUp_up, sFire_fire, sHigh_high, sPut_put, sZone_now, sBey_refuse, sBey_cut, tTup, tLst, sz0, sz1, sz2, sz3, sz4, sz5, sz6])
local macro_rules | `(tactic| walk_at "st") => `(tactic| ((try dsimp only); rw [seq1]; walk_at "rsl"))
section
variable {K : Frag} {w : World}
theorem RowsAt.ends {H : Hp} {r : Addr} {W : List Lv} (h : RowsAt H r W) (hp : 0 < W.length) : ∃ xs t0 tl, H r = some (.lst xs) ∧ atI xs 0 = some (.ref t0) ∧ atI xs (-1) = some (.ref tl) ∧
    H t0 = some (.tup [.int (lv W 0).g, .int (lv W 0).s, .int (lv W 0).p]) ∧ H tl = some (.tup [.int (lv W (W.length - 1)).g, .int (lv W (W.length - 1)).s, .int (lv W (W.length - 1)).p]) := by
  obtain ⟨ts, ha, hb, hc⟩ := h
  obtain ⟨t0, ht0⟩ : ∃ t, ts[0]? = some t := ⟨ts[0]'(by omega), List.getElem?_eq_getElem (by omega)⟩
  obtain ⟨tl, htl⟩ : ∃ t, ts[W.length - 1]? = some t := ⟨ts[W.length - 1]'(by omega), List.getElem?_eq_getElem (by omega)⟩
  exact ⟨_, t0, tl, ha, atI_nat (j := 0) (by rw [List.getElem?_map, ht0]; rfl), atI_m1 (by rw [List.getLast?_eq_getElem?, List.length_map, hb, List.getElem?_map, htl]; rfl), hc _ _ ht0, hc _ _ htl⟩
theorem drawOf {H : Hp} {p l : Addr} {n : Int} {xs : List Int} {Q : VK} {r : Addr} (hp : PoolAt H p l) (hr : H r = some (.lst (xs.map V.int))) (hn : 0 < n) (hl : n.natAbs.log2 < 1920) (hx : n = xs.length) (h1 : r ≠ p) (h2 : r ≠ l)
    (q : ∀ v H', SameP p l H H' → PoolAt H' p l → v ∈ xs → Q (.int v) H') :
    sp__law_draw K [.ref p, .int n] H (fun y H2 => ∃ x x_3, y = .int x_3 ∧ H2 r = some (.lst x) ∧ ∃ x_4, atI x x_3 = some x_4 ∧ Q x_4 H2) E0 := by
  refine draw hp hn hl fun i H1 s1 hp1 a b => ?_
  obtain ⟨v, hv, e⟩ := atInts (xs := xs) a (by omega)
  exact ⟨_, i, rfl, s1 _ _ h1 h2 hr, _, e, q v H1 s1 hp1 hv⟩
def sp__law_is (K : Frag) : Sp := fun vs H Q _ => ∃ (o o' : Option Int), vs = [optV o, optV o'] ∧ o = o' ∧ Q (.bl true) H
def t__law_is (K : Frag) (w : World) : TS :=
  (tSeq (tIfS (tTest (tOp oIsN (tVar 1) (tC .non))) (tRet (tOp oIsN (tVar 0) (tC .non))) tNext)
  (tRet (tAndV (tFn (sp__law_whole K) E0 (tCons (tVar 0) tNil)) (tOp rEq (tVar 0) (tVar 1)))))
def n__law_is : List Str := ["_law_found", "_law_due"]
theorem rd__law_is (vs : List V) (H : Hp) (Q : VK) (E : XK) (h : sp__law_is K vs H Q E) : t__law_is K w { nx := fun _ H' => Q .non H', rt := Q } (L2.start n__law_is vs) H := by
  obtain ⟨o, o', rfl, rfl, q⟩ := h
  unfold t__law_is n__law_is
  cases o with
  | none =>
    unfold optV
    walk_at "rsk"
    simpa using q
  | some i =>
    unfold optV
    walk_at "rsk"
    exact ⟨i, rfl, true, rfl, q⟩
def sp__law_start (K : Frag) : Sp := fun vs H Q _ => ∃ (p l : Addr), vs = [.ref p] ∧ PoolAt H p l ∧ ∀ (v : Int) (H' : Hp), SameP p l H H' → PoolAt H' p l → 0 ≤ v → v < 2 ^ 200 → Q (.int v) H'
def t__law_start (K : Frag) (w : World) : TS :=
  (tSeq (tAsg (tLst (tCons (tFn (sp__law_draw K) E0 (tCons (tVar 0) (tCons (tC (.int 40)) tNil))) (tCons (tOp oAdd (tOp oPow (tC (.int 10)) (tC (.int 29))) (tFn (sp__law_draw K) E0 (tCons (tVar 0) (tCons (tOp oPow (tC (.int 10)) (tC (.int 30))) tNil)))) tNil))) (gName 1))
  (tRet (tIf (tTest (tOp oGt (tFn (sp__law_draw K) E0 (tCons (tVar 0) (tCons (tC (.int 3)) tNil))) (tC (.int 0)))) (tOp rIxLH (tVar 1) (tC (.int 0))) (tOp rIxLH (tVar 1) (tC (.int 1))))))
def n__law_start : List Str := ["_law_pool", "_law_some"]
theorem rd__law_start (vs : List V) (H : Hp) (Q : VK) (E : XK) (h : sp__law_start K vs H Q E) : t__law_start K w { nx := fun _ H' => Q .non H', rt := Q } (L2.start n__law_start vs) H := by
  obtain ⟨p, l, rfl, hp, q⟩ := h
  have c29 : CPow 10 29 := ⟨by decide, by decide, by decide⟩
  have c30 : CPow 10 30 := ⟨by decide, by decide, by decide⟩
  unfold t__law_start n__law_start
  walk_at "rsk"
  refine draw hp (by decide) (by decide +kernel) fun x H1 s1 hp1 a1 b1 => draw hp1 (by decide) (by decide +kernel) fun y H2 s2 hp2 a2 b2 => ⟨y, rfl, fun r hr => ?_⟩
  have ap := hp2.apart hr
  have s3 := Same.new (o := .lst [.int x, .int (10 ^ Int.toNat 29 + y)]) hr
  refine draw (hp2.same s3) (by decide) (by decide +kernel) fun z H3 s4 hp3 a3 b3 => ⟨z, rfl, ?_⟩
  have h3 := s4 r _ ap.1 ap.2 (updS _ _ _)
  have e29 : (0 : Int) ≤ 10 ^ Int.toNat 29 := by decide
  have e200 : (10 : Int) ^ Int.toNat 29 + 10 ^ Int.toNat 30 < 2 ^ 200 := by decide +kernel
  have e40 : (40 : Int) < 2 ^ 200 := by decide +kernel
  generalize (10 : Int) ^ Int.toNat 29 = t29 at *
  generalize (10 : Int) ^ Int.toNat 30 = t30 at *
  generalize (2 : Int) ^ 200 = u at *
  refine ite2 (fun _ => ⟨_, h3, _, rfl, q x H3 (((s1.trans s2).step s3).trans s4) hp3 a1 (by omega)⟩) fun _ => ⟨_, h3, _, rfl, q _ H3 (((s1.trans s2).step s3).trans s4) hp3 (by omega) (by omega)⟩
def sp__law_length (K : Frag) : Sp := fun vs H Q _ => ∃ (p l : Addr), vs = [.ref p] ∧ PoolAt H p l ∧ ∀ (v : Int) (H' : Hp), SameP p l H H' → PoolAt H' p l → 1 ≤ v → v < 2 ^ 200 → Q (.int v) H'
def t__law_length (K : Frag) (w : World) : TS :=
  (tSeq (tAsg (tLst (tCons (tOp oAdd (tC (.int 1)) (tFn (sp__law_draw K) E0 (tCons (tVar 0) (tCons (tC (.int 12)) tNil)))) (tCons (tOp oAdd (tC (.int 1)) (tFn (sp__law_draw K) E0 (tCons (tVar 0) (tCons (tC (.int 60)) tNil)))) (tCons (tOp oAdd (tC (.int 1)) (tFn (sp__law_draw K) E0 (tCons (tVar 0) (tCons (tOp oPow (tC (.int 10)) (tC (.int 30))) tNil)))) (tCons (tC (.int 1)) tNil))))) (gName 1))
  (tRet (tOp rIxLH (tVar 1) (tFn (sp__law_draw K) E0 (tCons (tVar 0) (tCons (tC (.int 4)) tNil))))))
def n__law_length : List Str := ["_law_pool", "_law_some"]
theorem rd__law_length (vs : List V) (H : Hp) (Q : VK) (E : XK) (h : sp__law_length K vs H Q E) : t__law_length K w { nx := fun _ H' => Q .non H', rt := Q } (L2.start n__law_length vs) H := by
  obtain ⟨p, l, rfl, hp, q⟩ := h
  have c30 : CPow 10 30 := ⟨by decide, by decide, by decide⟩
  unfold t__law_length n__law_length
  walk_at "rsk"
  refine draw hp (by decide) (by decide +kernel) fun x H1 s1 hp1 a1 b1 => ⟨x, rfl, draw hp1 (by decide) (by decide +kernel) fun y H2 s2 hp2 a2 b2 => ⟨y, rfl, draw hp2 (by decide) (by decide +kernel) fun z H3 s3 hp3 a3 b3 => ⟨z, rfl, fun r hr => ?_⟩⟩⟩
  have ap := hp3.apart hr
  have e30 : (10 : Int) ^ Int.toNat 30 < 2 ^ 200 - 1 := by decide +kernel
  have e200 : (1000 : Int) < 2 ^ 200 := by decide +kernel
  refine drawOf (xs := [1 + x, 1 + y, 1 + z, 1]) (hp3.new hr) (updS _ _ _) (by decide) (by decide +kernel) rfl ap.1 ap.2 fun v H4 s4 hp4 hv => ?_
  have sa := (((s1.trans s2).trans s3).step (Same.new hr)).trans s4
  simp only [List.mem_cons, List.not_mem_nil, or_false] at hv
  generalize (10 : Int) ^ Int.toNat 30 = t at *
  generalize (2 : Int) ^ 200 = u at *
  exact q v H4 sa hp4 (by omega) (by omega)
def sp__law_delay (K : Frag) : Sp := fun vs H Q _ => ∃ (p l r : Addr), vs = [.ref p, .ref r] ∧ PoolAt H p l ∧ r ≠ p ∧ r ≠ l ∧ ∃ W, RowsAt H r W ∧ ROk W ∧ ∀ (v : Int) (H' : Hp), SameP p l H H' → PoolAt H' p l → 0 ≤ v → v < reach W → Q (.int v) H'
def t__law_delay (K : Frag) (w : World) : TS :=
  (tSeq (tAsg (tLst (tCons (tC (.int 0)) (tCons (tC (.int 1)) (tCons (tOp rIxTH (tOp rIxLH (tVar 1) (tC (.int 0))) (tC (.int 1))) (tCons (tOp oSub (tOp rIxTH (tOp rIxLH (tVar 1) (tC (.int 0))) (tC (.int 2))) (tC (.int 1))) (tCons (tOp oSub (tOp rIxTH (tOp rIxLH (tVar 1) (tUn oNeg (tC (.int 1)))) (tC (.int 2))) (tC (.int 1))) (tCons (tOp rIxTH (tOp rIxLH (tVar 1) (tUn oNeg (tC (.int 1)))) (tC (.int 0))) (tCons (tFn (sp__law_draw K) E0 (tCons (tVar 0) (tCons (tOp rIxTH (tOp rIxLH (tVar 1) (tUn oNeg (tC (.int 1)))) (tC (.int 2))) tNil))) tNil)))))))) (gName 2))
  (tSeq (tAsg (tOp rCat (tVar 2) (tLst (tCons (tFn (sp__law_draw K) E0 (tCons (tVar 0) (tCons (tOp rIxTH (tOp rIxLH (tVar 1) (tUn oNeg (tC (.int 1)))) (tC (.int 2))) tNil))) tNil))) (gName 2))
  (tRet (tOp oMod (tCB oInt1 (tCons (tOp rIxLH (tVar 2) (tFn (sp__law_draw K) E0 (tCons (tVar 0) (tCons (tC (.int 8)) tNil)))) tNil)) (tOp rIxTH (tOp rIxLH (tVar 1) (tUn oNeg (tC (.int 1)))) (tC (.int 2)))))))
def n__law_delay : List Str := ["_law_pool", "_law_rows", "_law_near"]
theorem rd__law_delay (vs : List V) (H : Hp) (Q : VK) (E : XK) (h : sp__law_delay K vs H Q E) : t__law_delay K w { nx := fun _ H' => Q .non H', rt := Q } (L2.start n__law_delay vs) H := by
  obtain ⟨p, l, r, rfl, hp, r1, r2, W, hR, hRk, q⟩ := h
  have hpos := hRk.ok.pos
  obtain ⟨xs, t0, tl, e1, e2, e3, e4, e5⟩ := hR.ends hpos
  have hall := hRk.ok.all (W.length - 1) (by omega)
  have hsm := hRk.small (i := W.length - 1) (by omega)
  have q : ∀ (v : Int) (H' : Hp), SameP p l H H' → PoolAt H' p l → 0 ≤ v → v < (lv W (W.length - 1)).p → Q (.int v) H' := q
  unfold t__law_delay n__law_delay
  walk_at "rsk"
  refine draw hp (by omega) (log_small (by omega) (by omega)) fun x H1 s1 hp1 a1 b1 => ⟨by decide, fun f hf => ?_⟩
  have hR1 := RowsAt.sameP hp hR s1 r1 r2
  have s2 := Same.new (o := .lst [.int 0, .int 1, .int (lv W 0).s, .int ((lv W 0).p - 1), .int ((lv W (W.length - 1)).p - 1), .int (lv W (W.length - 1)).g, .int x]) hf
  have apf := hp1.apart hf
  have hp2 := hp1.same s2
  have hR2 := hR1.same s2
  have hf2 : upd H1 f (.lst [.int 0, .int 1, .int (lv W 0).s, .int ((lv W 0).p - 1), .int ((lv W (W.length - 1)).p - 1), .int (lv W (W.length - 1)).g, .int x]) f = some (.lst [.int 0, .int 1, .int (lv W 0).s, .int ((lv W 0).p - 1), .int ((lv W (W.length - 1)).p - 1), .int (lv W (W.length - 1)).g, .int x]) := updS _ _ _
  generalize upd H1 f (.lst [.int 0, .int 1, .int (lv W 0).s, .int ((lv W 0).p - 1), .int ((lv W (W.length - 1)).p - 1), .int (lv W (W.length - 1)).g, .int x]) = H2 at *
  obtain ⟨xs1, t01, tl1, e11, e21, e31, e41, e51⟩ := hR2.ends hpos
  refine ⟨_, e11, _, e31, tl1, rfl, _, e51, _, rfl, ?_⟩
  refine draw hp2 (by omega) (log_small (by omega) (by omega)) fun y H3 s3 hp3 a3 b3 f2 hf2' => ?_
  have s4 := Same.new (o := .lst [.int y]) hf2'
  have hf3 := s4 _ _ (s3 f _ apf.1 apf.2 hf2)
  refine ⟨_, hf3, (by show 8 ≤ sizeLine; decide), fun f3 hf3' => ?_⟩
  have hp4 := hp3.same s4
  have ap4 := hp4.apart hf3'
  have hR4 := ((RowsAt.sameP hp2 hR2 s3 r1 r2).same s4).same (Same.new (o := .lst ([.int 0, .int 1, .int (lv W 0).s, .int ((lv W 0).p - 1), .int ((lv W (W.length - 1)).p - 1), .int (lv W (W.length - 1)).g, .int x] ++ [.int y])) hf3')
  refine draw (hp4.new hf3') (by decide) (by decide +kernel) fun i H5 s5 hp5 a5 b5 => ?_
  obtain ⟨v, hv, e⟩ := atInts (xs := [0, 1, (lv W 0).s, (lv W 0).p - 1, (lv W (W.length - 1)).p - 1, (lv W (W.length - 1)).g, x] ++ [y]) a5 b5
  obtain ⟨xs5, t05, tl5, e15, e25, e35, e45, e55⟩ := (RowsAt.sameP (hp4.new hf3') hR4 s5 r1 r2).ends hpos
  have h5 := s5 f3 _ ap4.1 ap4.2 (updS _ _ _)
  refine ⟨_, i, rfl, h5, _, e, .inl ⟨v, rfl, _, e15, _, e35, tl5, rfl, _, e55, _, rfl, _, rfl, by omega, ?_⟩⟩
  exact q _ H5 (((((s1.step s2).trans s3).step s4).step (Same.new hf3')).trans s5) hp5 (Int.emod_nonneg _ (by omega)) (Int.emod_lt_of_pos _ (by omega))
theorem fh_one {tick m goal : Int} {o : Option Int} (h : FH tick 1 goal m o) : ∃ k, o = some k ∧ 1 ≤ k ∧ k ≤ m ∧ m ∣ tick + k - goal := by
  obtain ⟨g, hg, h⟩ := h
  have h1 : g = 1 := by
    have : g ∣ 1 := hg.left
    have := Int.le_of_dvd (by decide) this
    have := hg.1
    omega
  subst h1
  cases o with
  | none => exact absurd (Int.one_dvd _) h
  | some k =>
    obtain ⟨k1, k2, k3⟩ := h
    rw [Int.ediv_one] at k2
    rw [Int.mul_one] at k3
    exact ⟨k, rfl, k1, k2, k3⟩
end
end Tw
/-! Tw: for .. in range(..) at bounds of any size -/
namespace Tw
open PySem PySem.Spec PyProof.Rows L2
theorem turn_long {P : Program} {w : World} {K : PySem.W.Frag} {tg : Expr} (it : Addr) (lo c : Int) (n : Nat) : Turn P w K tg (Itc lo c n) [it] it (fun i h => IsLongIter h it (lo + (i : Nat) * c) ((n : Int) - (i : Nat)) c) where
  mem := List.mem_singleton.mpr rfl
  obj := fun i h st b hb => by
    obtain rfl := List.mem_singleton.mp hb
    exact ⟨_, st, fun v z => nomatch z⟩
  keep := fun i h h2 st k => k it (List.mem_singleton.mpr rfl) _ st
  item := by
    rintro X rfl rfl rfl calm i pins s σ H E I hf st hlt
    obtain ⟨g0, g1, g2, g3, g4, g5⟩ := hf it (List.mem_singleton.mpr rfl)
    refine (Walks.longrange (prog := X.prog) (w := X.w) (I.ok.hd calm) it lo c n).item i s _ _ hlt st ?_
    rintro v h2 tk ⟨t, rfl⟩ st2 kk
    have J : Inv X pins σ H { s with heap := h2, toks := tk } := I.turned (fun b o n e => kk b o (fun z => n (List.mem_singleton.mp z)) e) g0 g1 g3 g4 g5
    exact ⟨_, rfl, go_of (s := { s with heap := h2, toks := tk }) (n := "longrange_iterator") st2 rfl rfl (by decide) ⟨.int (lo + (i : Nat) * c), H, J, ⟨t, rfl⟩, ⟨rfl, rfl⟩, st2, fun b hb => (hf b hb).1⟩⟩
  done := by
    rintro X rfl rfl rfl calm i pins s σ H E I hf st hge
    obtain ⟨g0, g1, g2, g3, g4, g5⟩ := hf it (List.mem_singleton.mpr rfl)
    have hge : n ≤ i := hge
    exact wpAny_pyNext_long_end (I.ok.hd calm) st (by omega) fun h2 eb => ⟨rfl, I.turned (t' := s.toks) (fun b o n e => eb b o n e) g0 g1 g3 g4 g5⟩
  self := fun A i s Q E st h => wpAny_pyIter_longiter st h
/-- range(i, j, c), c positive, n items -/
structure RgW (i j c : Int) (n : Nat) : Prop where
  pos : 0 < c
  wid : c.natAbs.log2 < 9000
  many : Builtin.Range.rangeSize i j c = n
theorem RgW.one (i j : Int) : RgW i j 1 (j - i).toNat := ⟨by decide, by decide +kernel, rangeSize_nat i j⟩
section
variable {X : Cx} {tg : Expr} {ta : TA} {p pos : Pos}
theorem pi_rangeAny {pins : List (Addr × Obj)} {σ : L2.St} {H : Hp} {s : Shared} {R : It → Hp → Prop} {i j c : Int} {n : Nat} {t u v : Tok} {tk : Nat} (I : Inv X pins σ H s) (h : RgW i j c n) (q : R (Itc i c n) H) :
    wpAny (model X.prog X.w) X.A (pyIter (.ref s.heap.objs.size)) (PIE X pins σ tg R) X.xe { s with heap := s.heap.push { cls := .type "range", data := .fields #[.int i t, .int j u, .int c v] }, toks := tk } := by
  have J : Inv X pins σ H { s with heap := s.heap.push { cls := .type "range", data := .fields #[.int i t, .int j u, .int c v] }, toks := tk } := I.kept (t' := tk) fun b o e => Heap.get?_push_of_some _ e
  have a0 : i + ((0 : Nat) : Int) * c = i := by simp
  have b0 : (n : Int) - ((0 : Nat) : Int) = Builtin.Range.rangeSize i j c := by rw [h.many]; simp
  cases hs : Builtin.Range.small i j c with
  | true =>
    refine wpAny_pyIter_range (IsRange.new ..) hs (pi_one (tk := tk) J _ (turn_rangeC _ i c n) ?_ q)
    show IsRangeIter _ _ (i + ((0 : Nat) : Int) * c) ((n : Int) - ((0 : Nat) : Int)) c
    rw [a0, b0]
    exact Heap.get?_push_size _ rfl
  | false =>
    refine wpAny_pyIter_longrange (IsRange.new ..) hs (pi_one (tk := tk) J _ (turn_long _ i c n) ?_ q)
    show IsLongIter _ _ (i + ((0 : Nat) : Int) * c) ((n : Int) - ((0 : Nat) : Int)) c
    rw [a0, b0]
    exact Heap.get?_push_size _ rfl
def iRngW2 (ta : TA) : TI := fun σ H R => ta σ H fun vs H1 => ∃ (i j : Int), vs = [.int i, .int j] ∧ R (Itc i 1 (j - i).toNat) H1
theorem pi_rangeW2 {a b : Expr} (hg : Gl X "range") (hm : X.mg "range" = none) (ha : PA X [a, b] ta) (hs : starEach [a, b] X.env = (false, eval a X.env) :: starEach [b] X.env := by rfl) (hpl : (backTo pos (starEach [b] X.env)).any (·.1) = false := by rfl) :
    PI X tg (.Call (.Name "range" p) [a, b] [] pos) (iRngW2 ta) := by
  refine ⟨fun pins s σ H R I h => Call_ (ld_blt I hg hm boot_range (PyProof.Rows.callWith_type1 (thn (ha.run pos pins s σ H _ I h) ?_) hs hpl))⟩
  rintro us s1 ⟨vs, H1, J, rv, i, j, rfl, q⟩
  match us, rv with
  | [_, _], .cons ⟨t, ht⟩ (.cons ⟨t2, ht2⟩ .nil) =>
    subst ht ht2
    exact call_range_2 (pi_rangeAny J (RgW.one i j) q)
def iRngW3 (ta : TA) : TI := fun σ H R => ta σ H fun vs H1 => ∃ (i j c : Int) (n : Nat), vs = [.int i, .int j, .int c] ∧ RgW i j c n ∧ R (Itc i c n) H1
theorem pi_rangeW3 {a b c : Expr} (hg : Gl X "range") (hm : X.mg "range" = none) (ha : PA X [a, b, c] ta) (hs : starEach [a, b, c] X.env = (false, eval a X.env) :: starEach [b, c] X.env := by rfl) (hpl : (backTo pos (starEach [b, c] X.env)).any (·.1) = false := by rfl) :
    PI X tg (.Call (.Name "range" p) [a, b, c] [] pos) (iRngW3 ta) := by
  refine ⟨fun pins s σ H R I h => Call_ (ld_blt I hg hm boot_range (PyProof.Rows.callWith_type1 (thn (ha.run pos pins s σ H _ I h) ?_) hs hpl))⟩
  rintro us s1 ⟨vs, H1, J, rv, i, j, k, n, rfl, hw, q⟩
  match us, rv with
  | [_, _, _], .cons ⟨t, ht⟩ (.cons ⟨t2, ht2⟩ (.cons ⟨t3, ht3⟩ .nil)) =>
    subst ht ht2 ht3
    exact call_range_3 (by have := hw.pos; omega) (pi_rangeAny J hw q) (.inl (PyProof.noPylong_of_log2 hw.wid))
end
end Tw
/-! Tw: find_lost, whatever it finds -/
namespace Tw
open PySem PySem.Spec PyProof.Rows L2 He TwM StX
open PySem.W (Frag)
local macro_rules | `(tactic| walk_at "rsl") => `(tactic| simp only [*, at3_0, at3_1, at3_2, at2_0, at2_1, updS, upd_two, gSub, rSetL, updN, tPar, tPar3, and_assoc, not_true_eq_false, not_false_eq_true, tNever, List.length_map, tFld, rIxTH, rIxLH, rLenTH, rLenLH, lk1, lfs_g, lfs_s, lfs_p, HO.ins.injEq, HO.tup.injEq, HO.lst.injEq, sp_Book_rounding, sp_Book_action, sp_Book_order, sp_Book_due, sp_Book_zero, sp_Book_beyond, Int.toNat_natCast, sp_visit_after, sp_is_visited, sp_Level_grain, sp_Level_slots, sp_Level_span, sp_Wheel_reach, sp_Wheel___len__, sp_is_integer, sp_is_count, sp_is_within, sp_rounded, tAsg, gName, tVar, tC, tOp, rI, rI0, rU, tUn, oAdd, oSub, oMul, oDiv, oMod, oNeg, oLt, oLe, oGt, oGe, oIsN, oNotN, tFn, tCons, tNil, tIfS, tIf, tTest, tB, tNot, tAnd, tOr, tAndV, tOrV, tNotV,
    tRet, tRetN, tNext, tCB, tDrop, tChain, rEq, rNe, oMax2, oMin2, oInt1, rLenF, L2.start, List.map_cons, List.map_nil, List.length_cons, List.length_nil, List.replicate_succ, List.replicate_zero, List.cons_append, List.nil_append, Nat.reduceAdd, Nat.reduceSub, Nat.zero_add,
    List.set_cons_zero, List.set_cons_succ, List.getElem?_cons_zero, List.getElem?_cons_succ, Option.some.injEq, V.int.injEq, V.ref.injEq, V.str.injEq, V.bl.injEq, exists_eq_left', exists_eq_left, exists_and_left, List.cons.injEq, and_true, true_and, decide_eq_true_eq, sc_ii, sc_ss, sc_bb, sc_ni, sc_in, sc_nn, sc_is, reduceCtorEq,
    Bool.not_eq_true', decide_eq_false_iff_not, if_true, if_false, Bool.false_eq_true, exists_eq', exists_const, false_and, and_false, or_false, false_or, exists_false, Bool.not_not, Bool.not_true, Bool.not_false, sUp_up, sFire_fire, sHigh_high, sPut_put, sZone_now, sBey_refuse, sBey_cut, tTup, tLst, sz0, sz1, sz2, sz3, sz4, sz5, sz6])
local macro_rules | `(tactic| walk_at "st") => `(tactic| ((try dsimp only); rw [seq1]; walk_at "rsl"))
section
variable {K : Frag} {w : World}
def sp_common_multiple (K : Frag) : Sp := fun vs H Q _ => ∃ (a b : Int), vs = [.int a, .int b] ∧ 0 < a ∧ 0 < b ∧ b < 2 ^ 64 ∧ ∀ m, IsL a b m → Q (.int m) H
def t_common_multiple (K : Frag) (w : World) : TS :=
  (tRet (tOp oMul (tOp oDivW (tVar 0) (tFn (sp_common_divisor K) E0 (tCons (tVar 0) (tCons (tVar 1) tNil)))) (tVar 1)))
def n_common_multiple : List Str := ["first", "second"]
theorem rd_common_multiple (vs : List V) (H : Hp) (Q : VK) (E : XK) (h : sp_common_multiple K vs H Q E) : t_common_multiple K w { nx := fun _ H' => Q .non H', rt := Q } (L2.start n_common_multiple vs) H := by
  obtain ⟨a, b, rfl, ha, hb, hb2, q⟩ := h
  unfold t_common_multiple n_common_multiple
  walk_at "rsl"
  refine ⟨a, b, rfl, hb, fun g hg => ?_⟩
  have hg1 := Int.le_of_dvd hb hg.right
  have := hg.1
  exact ⟨g, rfl, ⟨by omega, Nat.lt_trans (log_small (by omega) (by omega)) (by decide)⟩, .inr ⟨by omega, by omega⟩, q _ (isL_of ha hb hg)⟩
def sp__law_multiple (K : Frag) : Sp := fun vs H Q _ => ∃ (a b : Int), vs = [.int a, .int b] ∧ 0 < a ∧ 0 < b ∧ (b < 2 ^ 64 ∨ a < 2 ^ 64) ∧ b < 2 ^ 90 ∧ ∀ m, IsL a b m → Q (.int m) H
def t__law_multiple (K : Frag) (w : World) : TS :=
  (tRet (tOp oMul (tOp oDivW (tVar 0) (tFn (sp__law_common K) E0 (tCons (tVar 0) (tCons (tVar 1) tNil)))) (tVar 1)))
def n__law_multiple : List Str := ["_law_first", "_law_second"]
theorem rd__law_multiple (vs : List V) (H : Hp) (Q : VK) (E : XK) (h : sp__law_multiple K vs H Q E) : t__law_multiple K w { nx := fun _ H' => Q .non H', rt := Q } (L2.start n__law_multiple vs) H := by
  obtain ⟨a, b, rfl, ha, hb, hb2, hb3, q⟩ := h
  unfold t__law_multiple n__law_multiple
  walk_at "rsl"
  refine ⟨a, b, rfl, .inl ha, by omega, fun g hg => ?_⟩
  have hg1 := Int.le_of_dvd hb hg.right
  have := hg.1
  have hd1 : a / g ≤ a := Int.ediv_le_self _ (by omega)
  have hd0 : 0 ≤ a / g := Int.ediv_nonneg (by omega) (by omega)
  exact ⟨g, rfl, ⟨by omega, Nat.lt_trans (log_small (by omega) (by omega)) (by decide)⟩, by
    rcases hb2 with z | z
    · exact .inr ⟨by omega, by omega⟩
    · exact .inl ⟨by omega, by omega⟩, q _ (isL_of ha hb hg)⟩
def sp_Wheel_levels (K : Frag) : Sp := fun vs H Q _ => ∃ (a dx t : Addr), vs = [.ref a] ∧ H a = some (.ins (ga K "Wheel") dx [("kept_levels", .ref t)]) ∧ Q (.ref t) H
theorem in_Wheel_levels (K : Frag) : InsAt (ga K "Wheel") (sp_Wheel_levels K) := fun vs H Q E ⟨a, dx, t, e, h, _⟩ => ⟨a, dx, _, [], e, h⟩
def t_Wheel_levels (K : Frag) (w : World) : TS :=
  (tRet (tFld K (tVar 0) "kept_levels"))
def n_Wheel_levels : List Str := ["self"]
theorem rd_Wheel_levels (T : Kl K w) (vs : List V) (H : Hp) (Q : VK) (E : XK) (h : sp_Wheel_levels K vs H Q E) : t_Wheel_levels K w { nx := fun _ H' => Q .non H', rt := Q } (L2.start n_Wheel_levels vs) H := by
  obtain ⟨a, dx, t, rfl, h1, q⟩ := h
  refine ⟨_, rfl, a, _, dx, _, _, rfl, h1, T.cW, T.nWl, lk1 _ _ _, q⟩
theorem lv_at {W : List Lv} {i : Nat} (h : i < W.length) : W[i]? = some (lv W i) := by
  unfold lv
  rw [List.getD_eq_getElem?_getD, List.getElem?_eq_getElem h]
  rfl
/-- slots times grains of the levels -/
def turns (W : List Lv) : List Int := W.map fun l => l.g * l.s
/-- where a timer's beats lead -/
def BeatTo (W : List Lv) (B : Bk) (len s d : Int) (o : Option Int) : Prop := (placeM W B s d = none ∧ o = some s) ∨ ∃ sp, placeM W B s d = some sp ∧ Beats W B (nxL "last" s len) (bfL "last" len) sp s o
/-- it fires -/
def Fires (W : List Lv) (B : Bk) (len s d : Int) : Prop := ∃ t, BeatTo W B len s d (some t)
def sp_find_lost (K : Frag) : Sp := fun vs H Q _ => ∃ (a b : Addr) (len : Int), vs = [.ref a, .ref b, .int len] ∧ ∃ W B, WhAt K H a W ∧ BkAt K H b B ∧ reach W ≤ 1073741824 ∧ 1 ≤ len ∧ len < 2 ^ 200 ∧ (∀ m, LcmOf (len :: turns W) m → reach W * (m / len) ≤ 20000) ∧
  ∀ m, LcmOf (len :: turns W) m →
    (∀ H', Same H H' → (∀ i j : Nat, (i : Int) < reach W → (j : Int) * len < m → Fires W B len (j * len) i) → Q .non H') ∧
    ∀ (i j : Nat) p H', Same H H' → H' p = some (.tup [.int (j * len), .int i]) → (i : Int) < reach W → (j : Int) * len < m → BeatTo W B len (j * len) i none →
      (∀ i' j' : Nat, (i' : Int) < reach W → (j' : Int) * len < m → i' < i ∨ i' = i ∧ j' < j → Fires W B len (j' * len) i') → Q (.ref p) H'
def flInv (a b : Addr) (len : Int) (W : List Lv) (H : Hp) (i : Nat) (σ : L2.St) (H' : Hp) : Prop :=
  ∃ (m : Int) (v4 v5 v6 : Option V), σ = [some (.ref a), some (.ref b), some (.int len), some (.int m), v4, v5, v6] ∧ Same H H' ∧ LcmOf (len :: (turns W).take i) m
def flInv2 (a b : Addr) (len m : Int) (W : List Lv) (B : Bk) (H : Hp) (i : Nat) (σ : L2.St) (H' : Hp) : Prop :=
  ∃ (v4 v5 v6 : Option V), σ = [some (.ref a), some (.ref b), some (.int len), some (.int m), v4, v5, v6] ∧ Same H H' ∧ ∀ i' j : Nat, i' < i → (j : Int) * len < m → Fires W B len (j * len) i'
def flInv3 (a b : Addr) (len m : Int) (W : List Lv) (B : Bk) (i : Nat) (H : Hp) (n : Nat) (σ : L2.St) (H' : Hp) : Prop :=
  ∃ (x : Int) (v4 v6 : Option V), σ = [some (.ref a), some (.ref b), some (.int len), some (.int m), v4, some (.int x), v6] ∧ x = i ∧ Same H H' ∧ ∀ j : Nat, j < n → Fires W B len (j * len) i
/-- so many multiples of a length lie below a number -/
theorem size_mul {len m : Int} (h1 : 1 ≤ len) (h0 : 0 < m) : ∀ j : Nat, (j : Int) * len < m ↔ j < (Builtin.Range.rangeSize 0 m len).toNat := by
  intro j
  rw [PyProof.Rows.rangeSize_pos h1 (Int.le_of_lt h0)]
  have e : 0 ≤ (m + len - 1) / len := Int.ediv_nonneg (by omega) (by omega)
  constructor
  · intro h
    have : (j : Int) + 1 ≤ (m + len - 1) / len := (Int.le_ediv_iff_mul_le (by omega)).mpr (by rw [Int.add_mul]; omega)
    omega
  · intro h
    have : (j : Int) + 1 ≤ (m + len - 1) / len := by omega
    have := (Int.le_ediv_iff_mul_le (by omega)).mp this
    rw [Int.add_mul] at this
    omega
theorem log200 {x : Int} (h1 : 1 ≤ x) (h2 : x < 2 ^ 200) : x.natAbs.log2 < 9000 := by
  have hx : x.natAbs ≠ 0 := by omega
  have e : (2 : Int) ^ 200 = ((2 ^ 200 : Nat) : Int) := by decide +kernel
  rw [e] at h2
  have h3 : x.natAbs < 2 ^ 200 := by omega
  exact Nat.lt_trans ((Nat.log2_lt hx).mpr h3) (by decide)
def t_find_lost (K : Frag) (w : World) : TS :=
  (tSeq (tIfS (tNot (tB (tFn (sp_is_positive K) E0 (tCons (tVar 2) tNil)))) tNever tNext)
  (tSeq (tAsg (tVar 2) (gName 3))
  (tSeq (tFor (iTup K (tFn (sp_Wheel_levels K) E0 (tCons (tVar 0) tNil))) (gName 4)
    (tAsg (tFn (sp_common_multiple K) E0 (tCons (tVar 3) (tCons (tOp oMul (tFn (sp_Level_grain K) E0 (tCons (tVar 4) tNil)) (tFn (sp_Level_slots K) E0 (tCons (tVar 4) tNil))) tNil))) (gName 3)))
  (tSeq (tIfS (tTest (tOp oGt (tOp oMul (tFn (sp_Wheel_reach K) E0 (tCons (tVar 0) tNil)) (tOp oDivW (tVar 3) (tVar 2))) (tC (.int 20000)))) tNever tNext)
  (tSeq (tFor (iRng1 (tCons (tFn (sp_Wheel_reach K) E0 (tCons (tVar 0) tNil)) tNil)) (gName 5)
    (tFor (iRngW3 (tCons (tC (.int 0)) (tCons (tVar 3) (tCons (tVar 2) tNil)))) (gName 6)
    (tIfS (tTest (tOp oIsN (tFn (sp_beat_tick K) E0 (tCons (tVar 0) (tCons (tVar 1) (tCons (tVar 6) (tCons (tVar 5) (tCons (tVar 2) (tCons (tC (.str "last")) tNil))))))) (tC .non))) (tRet (tTup (tCons (tVar 6) (tCons (tVar 5) tNil)))) tNext)))
  (tRet (tC .non)))))))
def n_find_lost : List Str := ["wheel", "book", "length", "whole", "level", "delay", "start"]
theorem rd_find_lost (vs : List V) (H : Hp) (Q : VK) (E : XK) (h : sp_find_lost K vs H Q E) : t_find_lost K w { nx := fun _ H' => Q .non H', rt := Q } (L2.start n_find_lost vs) H := by
  obtain ⟨a, b, len, rfl, W, B, hW, hB, hre, hl1, hl2, hbig, q⟩ := h
  have hre2 : 2 ≤ reach W := (hW.ok.all (W.length - 1) (by have := hW.ok.pos; omega)).2.2.2.2
  obtain ⟨ok, dx, t, as, g1, g2, g3, g4⟩ := id hW
  unfold t_find_lost n_find_lost
  rw [seq1]
  walk_at "rsl"
  refine ⟨len, rfl, true, by rw [decide_eq_true hl1], ?_⟩
  rw [if_neg Bool.noConfusion]
  walk_at "st"
  rw [seq1]
  have htl : (turns W).length = W.length := by unfold turns; rw [List.length_map]
  refine ⟨_, rfl, ⟨a, dx, t, rfl, g1, t, rfl, ⟨_, SqT.of g2⟩, for_tup (K := K) (a := t) (xs := as.map V.ref) (flInv a b len W H) ⟨len, _, _, _, rfl, Same.refl _, LcmOf.single (by omega)⟩ (fun i σ H' _ ⟨_, _, _, _, _, z, _⟩ => SqT.of (z _ _ g2)) ?_ ?_⟩⟩
  · rintro i x σ H1 hx ⟨m, v4, v5, v6, rfl, s1, hm⟩
    rw [List.getElem?_map] at hx
    cases hai : as[i]? with
    | none => rw [hai] at hx; cases hx
    | some c =>
      rw [hai] at hx
      obtain rfl := Option.some.inj hx
      have hiW : i < W.length := by
        have := (List.getElem?_eq_some_iff.mp hai).1
        omega
      have hall := ok.all i hiW
      have hgs : (lv W i).g * (lv W i).s ≤ 1000 * 100 := Int.mul_le_mul (by omega) (by omega) (by omega) (by omega)
      have hgs0 : 1 * 2 ≤ (lv W i).g * (lv W i).s := Int.mul_le_mul (by omega) (by omega) (by omega) (by omega)
      have hLv := (g4 i c hai).same s1
      rw [gName1]
      walk_at "rsl"
      refine ⟨_, hLv, _, hLv, .inr ⟨by omega, by omega⟩, ?_⟩
      refine ⟨m, _, rfl, hm.1, by omega, by omega, fun m' hm' => ⟨m', _, _, _, rfl, s1, ?_⟩⟩
      have et : (turns W)[i]? = some ((lv W i).g * (lv W i).s) := by
        unfold turns
        rw [List.getElem?_map, lv_at hiW]
        rfl
      rw [List.take_add_one, et]
      exact hm.snoc hm'
  · rintro σ H1 ⟨m, v4, v5, v6, rfl, s1, hm⟩
    rw [List.length_map, g3, ← htl, List.take_length] at hm
    have hW1 := hW.same s1
    have hB1 := hB.same s1
    walk_at "st"
    have hl200 : (2 : Int) ^ 200 < 2 ^ 8000 := by decide +kernel
    refine ⟨W, hW1, ⟨by omega, log200 hl1 hl2⟩, .inl ⟨by omega, by omega⟩, ?_⟩
    rw [if_neg (by have := hbig m hm; omega)]
    rw [seq1]
    obtain ⟨qn, qs⟩ := q m hm
    have hsm := size_mul hl1 hm.1
    refine ⟨_, rfl, ⟨a, rfl, W, hW1, _, rfl, by omega, by omega, for_range (flInv2 a b len m W B H) ⟨_, _, _, rfl, s1, fun i' j h => by omega⟩ ?_ ?_⟩⟩
    · rintro i σ H2 hi ⟨v4, v5, v6, rfl, s2, hf2⟩
      rw [gName1]
      refine ⟨_, rfl, _, rfl, 0, m, len, _, rfl, ⟨by omega, log200 hl1 hl2, rangeSize_toNat _ _ _⟩, for_rangeC (flInv3 a b len m W B i H) ⟨_, _, _, rfl, by omega, s2, fun j h => by omega⟩ ?_ ?_⟩
      · rintro j σ H3 hj ⟨x, v4, v6, rfl, rfl, s3, hf3⟩
        have hW3 := hW.same s3
        have hB3 := hB.same s3
        rw [gName1]
        walk_at "rsl"
        have hj0 : 0 ≤ (j : Int) * len := Int.mul_nonneg (by omega) (by omega)
        rw [show 0 + (j : Int) * len = j * len by omega]
        refine ⟨a, b, (j : Int) * len, (i : Int), len, _, rfl, W, B, hW3, hB3, by omega, by omega, by omega, hre, hl1, hl2, .inr (.inl rfl), fun hp H4 s4 => ?_, fun sp hp => ⟨fun z => absurd z (by decide +kernel), fun _ o H4 s4 hb => ?_⟩⟩
        · dsimp only
          rw [if_neg (fun z => by cases z)]
          refine ⟨_, _, _, rfl, rfl, s3.trans s4, fun j' hj' => ?_⟩
          rcases Nat.lt_or_ge j' j with z | z
          · exact hf3 j' z
          · obtain rfl : j' = j := by omega
            exact ⟨_, .inl ⟨hp, rfl⟩⟩
        · cases o with
          | some t' =>
            refine ite2 (fun z => ?_) fun _ => ⟨_, _, _, rfl, rfl, s3.trans s4, fun j' hj' => ?_⟩
            · exact absurd (show V.int t' = V.non from z) (fun z => by cases z)
            · rcases Nat.lt_or_ge j' j with z | z
              · exact hf3 j' z
              · obtain rfl : j' = j := by omega
                exact ⟨t', .inr ⟨sp, hp, hb⟩⟩
          | none =>
            refine ite2 (fun _ => ?_) fun z => absurd rfl z
            intro p hp4
            have s5 := Same.new (o := .tup [.int ((j : Int) * len), .int (i : Int)]) hp4
            refine qs i j p _ ((s3.trans s4).trans s5) upd_same (by omega) ((hsm j).mpr hj) (.inr ⟨sp, hp, hb⟩) fun i' j' hi' hj' h => ?_
            rcases h with h | ⟨rfl, h⟩
            · exact hf2 i' j' h hj'
            · exact hf3 j' h
      · rintro σ H3 ⟨x, v4, v6, rfl, rfl, s3, hf3⟩
        refine ⟨_, _, _, rfl, s3, fun i' j hi' hj => ?_⟩
        rcases Nat.lt_or_ge i' i with z | z
        · exact hf2 i' j z hj
        · obtain rfl : i' = i := by omega
          exact hf3 j ((hsm j).mp hj)
    · rintro σ H2 ⟨v4, v5, v6, rfl, s2, hf2⟩
      exact qn _ s2 fun i j hi hj => hf2 i j (by omega) hj
end
end Tw
/-! Tw: texts of spots and of tuples of numbers -/
namespace Tw
open PySem PySem.Spec PyProof.Rows L2 He TwM StX
open PySem.W (Frag)
section
variable {K : Frag} {H : Hp}
theorem lg {x : Int} (h0 : 0 ≤ x) (h : x ≤ 2 ^ 250) : x.natAbs.log2 < 251 := PySem.Flt.log2_lt_of (k := 251) (by decide) (by
  have e : (2 : Int) ^ 250 = ((2 ^ 250 : Nat) : Int) := by norm_cast
  have : x.natAbs ≤ 2 ^ 250 := by omega
  exact Nat.lt_of_le_of_lt this (by decide +kernel))
theorem shown_ints_all : ∀ l : List Int, (∀ x ∈ l, x.natAbs.log2 < 1920) → PyData.showableAll (l.map PyData.int) = true
  | [], _ => rfl
  | x :: l, h => by
    rw [List.map_cons]
    show (PyData.showable (.int x) && PyData.showableAll (l.map PyData.int)) = true
    rw [shown_ints_all l fun y hy => h y (List.mem_cons_of_mem _ hy), Bool.and_true]
    exact decide_eq_true (h x (List.mem_cons_self ..))
theorem hasDict_ints : ∀ l : List Int, PyData.hasDictAll (l.map PyData.int) = false
  | [] => rfl
  | x :: l => by
    rw [List.map_cons]
    show (PyData.hasDict (.int x) || PyData.hasDictAll (l.map PyData.int)) = false
    rw [hasDict_ints l]
    rfl
theorem piled_ints : ∀ l : List Int, (∀ x ∈ l, x.natAbs.log2 < 1920) → piled (PyData.shownAll (l.map PyData.int)) ≤ 1923 * l.length
  | [], _ => Nat.le_refl _
  | x :: l, h => by
    have ih := piled_ints l fun y hy => h y (List.mem_cons_of_mem _ hy)
    have h1 := int_text_length_le (k := 1920) (by decide) (h x (List.mem_cons_self ..))
    rw [List.map_cons]
    show piled (Str.ofString (toString x) :: PyData.shownAll (l.map PyData.int)) ≤ _
    rw [piled_cons, PySem.ofString_length, List.length_cons]
    omega
/-- repr of a tuple of ints -/
theorem repr_ints {v : V} {l : List Int} {Q : VK} (hd : Dp K H v (.tuple (l.map PyData.int))) (hl : l.length ≤ 8000) (hb : ∀ x ∈ l, x.natAbs.log2 < 1920) (q : Q (.str (PyData.tuple (l.map PyData.int)).shown) H) : rReprG K [v] H Q := by
  refine ⟨v, _, rfl, hd, shown_ints_all l hb, hasDict_ints l, ?_, ?_, q⟩
  · have := depth_ints l
    show PyData.depthAll (l.map PyData.int) + 1 ≤ 16
    omega
  · have h1 := piled_ints l hb
    have h2 := fmt_text (PyData.shownAll (l.map PyData.int))
    have h3 : sizeLine = 16777216 := rfl
    show (tupleText (PyData.shownAll (l.map PyData.int))).length ≤ sizeLine
    omega
/-- repr of a spot, or of None -/
theorem repr_spot {v : V} {o : Option Spot} {Q : VK} (h : OSp H v o) (hb : ∀ sp, o = some sp → SpB (2 ^ 250) sp ∧ sp.lv < 100) (q : Q (.str (dSp o).shown) H) : rReprG K [v] H Q := by
  cases o with
  | none => exact ⟨v, .none, rfl, h.dp, rfl, rfl, Nat.zero_le _, by decide +kernel, q⟩
  | some sp =>
    obtain ⟨b, hl⟩ := hb sp rfl
    refine repr_ints (l := [(sp.lv : Int), sp.pt, sp.due]) h.dp (show 3 ≤ 8000 by decide) (fun x hx => ?_) q
    have b1 := lg b.p0 b.p1
    have b2 := lg b.d0 b.d1
    have b3 := lg (x := (sp.lv : Int)) (by omega) (by
      have : (100 : Int) ≤ 2 ^ 250 := by decide +kernel
      omega)
    simp only [List.mem_cons, List.not_mem_nil, or_false] at hx
    rcases hx with rfl | rfl | rfl <;> omega
end
end Tw
/-! Tw: the program's plans -/
namespace Tw
open PySem PySem.Spec PyProof.Rows L2 He TwM StX
open PySem.W (Frag)
local macro_rules | `(tactic| walk_at "rsl") => `(tactic| simp only [*, at3_0, at3_1, at3_2, at2_0, at2_1, updS, upd_two, gSub, rSetL, updN, tPar, tPar3, gTup, gCons, gNil, and_assoc, not_true_eq_false, not_false_eq_true, tNever, List.length_map, tFld, rIxTH, rIxLH, rLenTH, rLenLH, lk1, lfs_g, lfs_s, lfs_p, HO.ins.injEq, HO.tup.injEq, HO.lst.injEq, sp_Book_rounding, sp_Book_action, sp_Book_order, sp_Book_due, sp_Book_zero, sp_Book_beyond, Int.toNat_natCast, sp_visit_after, sp_is_visited, sp_Level_grain, sp_Level_slots, sp_Level_span, sp_Wheel_reach, sp_Wheel___len__, sp_is_integer, sp_is_count, sp_is_within, sp_rounded, tAsg, gName, tVar, tC, tOp, rI, rI0, rU, tUn, oAdd, oSub, oMul, oDiv, oMod, oNeg, oLt, oLe, oGt, oGe, oIsN, oNotN, tFn, tCons, tNil, tIfS, tIf, tTest, tB, tNot, tAnd, tOr, tAndV, tOrV, tNotV,
    tRet, tRetN, tNext, tCB, tDrop, tChain, rEq, rNe, oMax2, oMin2, oInt1, rLenF, L2.start, List.map_cons, List.map_nil, List.length_cons, List.length_nil, List.replicate_succ, List.replicate_zero, List.cons_append, List.nil_append, Nat.reduceAdd, Nat.reduceSub, Nat.zero_add,
    List.set_cons_zero, List.set_cons_succ, List.getElem?_cons_zero, List.getElem?_cons_succ, Option.some.injEq, V.int.injEq, V.ref.injEq, V.str.injEq, V.bl.injEq, exists_eq_left', exists_eq_left, exists_and_left, List.cons.injEq, and_true, true_and, decide_eq_true_eq, sc_ii, sc_ss, sc_bb, sc_ni, sc_in, sc_nn, sc_is, reduceCtorEq,
    Bool.not_eq_true', decide_eq_false_iff_not, if_true, if_false, Bool.false_eq_true, exists_eq', exists_const, false_and, and_false, or_false, false_or, exists_false, Bool.not_not, Bool.not_true, Bool.not_false, sUp_up, sFire_fire, sHigh_high, sPut_put, sZone_now, sBey_refuse, sBey_cut, tTup, tLst, sz0, sz1, sz2, sz3, sz4, sz5, sz6])
local macro_rules | `(tactic| walk_at "st") => `(tactic| ((try dsimp only); rw [seq1]; walk_at "rsl"))
/-- what the readings of plans lean on -/
structure Kp (K : Frag) (w : World) : Prop where
  kf : Kf K w
  iW : IsiC K (ga K "Wheel")
  kW : PySem.W.kitOne K (.ref (ga K "Wheel")) (.ref (ga K "Wheel")) = some true
  iB : IsiC K (ga K "Book")
  kB : PySem.W.kitOne K (.ref (ga K "Book")) (.ref (ga K "Book")) = some true
  cP : Cls K (ga K "Plan")
  nPw : NoAttr K (ga K "Plan") "kept_wheel"
  nPb : NoAttr K (ga K "Plan") "kept_book"
  iP : IsiC K (ga K "Plan")
  kP : PySem.W.kitOne K (.ref (ga K "Plan")) (.ref (ga K "Plan")) = some true
/-- a plan -/
structure PlAt (K : Frag) (H : Hp) (a : Addr) (W : List Lv) (B : Bk) : Prop where
  at_ : ∃ dx aw ab, H a = some (.ins (ga K "Plan") dx [("kept_wheel", .ref aw), ("kept_book", .ref ab)]) ∧ WhAt K H aw W ∧ BkAt K H ab B
section
variable {K : Frag} {w : World}
theorem PlAt.same {H H' : Hp} {a : Addr} {W : List Lv} {B : Bk} (h : PlAt K H a W B) (s : Same H H') : PlAt K H' a W B := by
  obtain ⟨dx, aw, ab, h1, h2, h3⟩ := h
  exact ⟨dx, aw, ab, s _ _ h1, h2.same s, h3.same s⟩
theorem PlAt.ok {H : Hp} {a : Addr} {W : List Lv} {B : Bk} (h : PlAt K H a W B) : WOk W ∧ B.bey < 3 := by
  obtain ⟨dx, aw, ab, h1, h2, h3⟩ := h
  exact ⟨h2.ok, h3.ok⟩
theorem off_ne {H : Hp} {x b C dx : Addr} {o : HO} (hx : H x = some (.ins C dx [])) (hb : H b = some o) (h : ∀ C' dx', o ≠ .ins C' dx' []) : b ≠ x := fun z => by
  rw [z, hx] at hb
  exact h _ _ (Option.some.inj hb).symm
theorem LvAt.off {H H' : Hp} {x a C dx : Addr} {l : Lv} (h : LvAt K H a l) (hx : H x = some (.ins C dx [])) (s : SameX x H H') : LvAt K H' a l := by
  obtain ⟨o, d, e⟩ := h
  exact ⟨o, d, s _ _ (off_ne hx e fun C' dx' z => by injection z with _ _ z3; unfold lfs at z3; cases z3) e⟩
theorem WhAt.off {H H' : Hp} {x a C dx : Addr} {W : List Lv} (h : WhAt K H a W) (hx : H x = some (.ins C dx [])) (s : SameX x H H') : WhAt K H' a W := by
  obtain ⟨ok, d, t, as, h1, h2, h3, h4⟩ := h
  exact ⟨ok, d, t, as, s _ _ (off_ne hx h1 fun C' dx' z => by injection z with _ _ z3; cases z3) h1, s _ _ (off_ne hx h2 fun C' dx' z => by cases z) h2, h3, fun i c q => (h4 i c q).off hx s⟩
theorem BkAt.off {H H' : Hp} {x a C dx : Addr} {B : Bk} (h : BkAt K H a B) (hx : H x = some (.ins C dx [])) (s : SameX x H H') : BkAt K H' a B := by
  obtain ⟨ok, d, t, h1, h2⟩ := h
  exact ⟨ok, d, t, s _ _ (off_ne hx h1 fun C' dx' z => by injection z with _ _ z3; cases z3) h1, s _ _ (off_ne hx h2 fun C' dx' z => by cases z) h2⟩
def sp_Plan___init__ (K : Frag) : Sp := fun vs H Q _ => ∃ (x dx aw ab : Addr) (W : List Lv) (B : Bk), vs = [.ref x, .ref aw, .ref ab] ∧ WhAt K H aw W ∧ BkAt K H ab B ∧ H x = some (.ins (ga K "Plan") dx []) ∧ ∀ H', SameX x H H' → PlAt K H' x W B → Q .non H'
def t_Plan___init__ (K : Frag) (w : World) : TS :=
  (tSeq (tIfS (tNot (tB (tCB (rIsi K) (tCons (tVar 1) (tCons (tC (.ref (ga K "Wheel"))) tNil))))) tNever tNext)
  (tSeq (tIfS (tNot (tB (tCB (rIsi K) (tCons (tVar 2) (tCons (tC (.ref (ga K "Book"))) tNil))))) tNever tNext)
  (tSeq (sFld K (tVar 0) (tVar 1) "kept_wheel")
  (sFld K (tVar 0) (tVar 2) "kept_book"))))
def n_Plan___init__ : List Str := ["self", "wheel", "book"]
theorem rd_Plan___init__ (T : Kp K w) (vs : List V) (H : Hp) (Q : VK) (E : XK) (h : sp_Plan___init__ K vs H Q E) : t_Plan___init__ K w { nx := fun _ H' => Q .non H', rt := Q } (L2.start n_Plan___init__ vs) H := by
  obtain ⟨x, dx, aw, ab, W, B, rfl, hW, hB, hx, q⟩ := h
  obtain ⟨_, dw, t, as, w1, w2, w3, w4⟩ := id hW
  obtain ⟨_, db, tb, b1, b2⟩ := id hB
  have c1 := T.kf.cW
  have c2 := T.kf.cB
  have c3 := T.cP
  have n1 := T.nPw
  have n2 := T.nPb
  unfold t_Plan___init__ n_Plan___init__ sFld
  walk_at "st"
  refine ⟨.ref aw, _, _, _, true, rfl, .own _, .base (.ins w1 c1 T.iW.ca T.iW.cn T.iW.ct T.iW.cm), T.kW, true, rfl, ?_⟩
  rw [if_neg (by decide)]
  walk_at "st"
  refine ⟨.ref ab, _, _, _, true, rfl, .own _, .base (.ins b1 c2 T.iB.ca T.iB.cn T.iB.ct T.iB.cm), T.kB, true, rfl, ?_⟩
  rw [if_neg (by decide)]
  have s1 : SameX x H (upd H x (.ins (ga K "Plan") dx [("kept_wheel", .ref aw), ("kept_book", .ref ab)])) := SameX.upd (SameX.refl x H)
  rw [seq1]
  walk_at "rsl"
  exact ⟨show (0 : Nat) < 1000 by decide, show (1 : Nat) < 1000 by decide, q _ s1 ⟨dx, aw, ab, updS _ _ _, hW.off hx s1, hB.off hx s1⟩⟩
def sp_Plan_wheel (K : Frag) : Sp := fun vs H Q _ => ∃ a, vs = [.ref a] ∧ ∃ W B, PlAt K H a W B ∧ ∀ aw, WhAt K H aw W → Q (.ref aw) H
theorem in_Plan_wheel (K : Frag) : InsAt (ga K "Plan") (sp_Plan_wheel K) := fun vs H Q E ⟨a, e, W, B, ⟨dx, aw, ab, h, _⟩, _⟩ => ⟨a, dx, _, [], e, h⟩
def t_Plan_wheel (K : Frag) (w : World) : TS :=
  (tRet (tFld K (tVar 0) "kept_wheel"))
def n_Plan_wheel : List Str := ["self"]
theorem rd_Plan_wheel (T : Kp K w) (vs : List V) (H : Hp) (Q : VK) (E : XK) (h : sp_Plan_wheel K vs H Q E) : t_Plan_wheel K w { nx := fun _ H' => Q .non H', rt := Q } (L2.start n_Plan_wheel vs) H := by
  obtain ⟨a, rfl, W, B, ⟨dx, aw, ab, h1, h2, h3⟩, q⟩ := h
  exact ⟨_, rfl, a, _, dx, _, _, rfl, h1, T.cP, T.nPw, rfl, q aw h2⟩
def sp_Plan_book (K : Frag) : Sp := fun vs H Q _ => ∃ a, vs = [.ref a] ∧ ∃ W B, PlAt K H a W B ∧ ∀ ab, BkAt K H ab B → Q (.ref ab) H
theorem in_Plan_book (K : Frag) : InsAt (ga K "Plan") (sp_Plan_book K) := fun vs H Q E ⟨a, e, W, B, ⟨dx, aw, ab, h, _⟩, _⟩ => ⟨a, dx, _, [], e, h⟩
def t_Plan_book (K : Frag) (w : World) : TS :=
  (tRet (tFld K (tVar 0) "kept_book"))
def n_Plan_book : List Str := ["self"]
theorem rd_Plan_book (T : Kp K w) (vs : List V) (H : Hp) (Q : VK) (E : XK) (h : sp_Plan_book K vs H Q E) : t_Plan_book K w { nx := fun _ H' => Q .non H', rt := Q } (L2.start n_Plan_book vs) H := by
  obtain ⟨a, rfl, W, B, ⟨dx, aw, ab, h1, h2, h3⟩, q⟩ := h
  exact ⟨_, rfl, a, _, dx, _, _, rfl, h1, T.cP, T.nPb, rfl, q ab h3⟩
def sp_low_delay (K : Frag) : Sp := fun vs H Q _ => ∃ (a : Addr) (i : Nat), vs = [.ref a, .int (i : Nat)] ∧ ∃ W, WhAt K H a W ∧ i < W.length ∧ Q (.int (lowD W i)) H
def t_low_delay (K : Frag) (w : World) : TS :=
  (tSeq (tIfS (tTest (tOp rEq (tVar 1) (tC (.int 0)))) (tRet (tC (.int 1))) tNext)
  (tRet (tFn (sp_Level_span K) E0 (tCons (tFn (sp_Wheel___getitem__ K) E0 (tCons (tVar 0) (tCons (tOp oSub (tVar 1) (tC (.int 1))) tNil))) tNil))))
def n_low_delay : List Str := ["wheel", "index"]
theorem rd_low_delay (vs : List V) (H : Hp) (Q : VK) (E : XK) (h : sp_low_delay K vs H Q E) : t_low_delay K w { nx := fun _ H' => Q .non H', rt := Q } (L2.start n_low_delay vs) H := by
  obtain ⟨a, i, rfl, W, hW, hi, q⟩ := h
  unfold lowD at q
  unfold t_low_delay n_low_delay
  rw [seq1]
  walk_at "rsl"
  refine ite2 (fun h0 => ?_) fun h0 => ?_
  · rw [if_pos (by omega)] at q
    exact q
  · rw [if_neg (by omega)] at q
    refine ⟨a, (i : Int) - 1, rfl, W, hW, by omega, by omega, fun c hc => ⟨c, rfl, _, hc, ?_⟩⟩
    rw [show ((i : Int) - 1).toNat = i - 1 by omega]
    exact q
def sp_ticks_to_turn (K : Frag) : Sp := fun vs H Q _ => ∃ (a : Addr) (u : Bool) (tot : Int), vs = [.ref a, .str (sUp u), .int tot] ∧ ∃ l, LvAt K H a l ∧ Q (.int (ttt u l tot)) H
def t_ticks_to_turn (K : Frag) (w : World) : TS :=
  (tSeq (tAsg (tFn (sp_rounded K) E0 (tCons (tVar 2) (tCons (tFn (sp_Level_grain K) E0 (tCons (tVar 0) tNil)) (tCons (tVar 1) tNil)))) (gName 3))
  (tRet (tOp oMul (tOp oAdd (tOp oMod (tOp oSub (tC (.int 0)) (tVar 3)) (tFn (sp_Level_slots K) E0 (tCons (tVar 0) tNil))) (tC (.int 1))) (tFn (sp_Level_grain K) E0 (tCons (tVar 0) tNil)))))
def n_ticks_to_turn : List Str := ["level", "rounding", "total", "point"]
theorem rd_ticks_to_turn (vs : List V) (H : Hp) (Q : VK) (E : XK) (h : sp_ticks_to_turn K vs H Q E) : t_ticks_to_turn K w { nx := fun _ H' => Q .non H', rt := Q } (L2.start n_ticks_to_turn vs) H := by
  obtain ⟨a, u, tot, rfl, l, hl, q⟩ := h
  have ok := hl.ok
  have g1 := ok.g1
  have g2 := ok.g2
  have s1 := ok.s1
  unfold ttt at q
  unfold t_ticks_to_turn n_ticks_to_turn
  rw [seq1]
  walk_at "rsl"
  refine ⟨l, hl, ?_⟩
  exact ⟨u, rfl, by omega, by omega, l, hl, by omega, l, hl, .inr ⟨by omega, by omega⟩, q⟩
theorem prd_t {z : Int} : prd true z ↔ 0 < z := by unfold prd; simp
theorem prd_f {z : Int} : prd false z ↔ z ≠ 0 := by unfold prd; simp
def sp_is_pair (K : Frag) : Sp := fun vs H Q _ => ∃ (a1 a2 : Addr) (st d : Int) (later : Bool), vs = [.ref a1, .ref a2, .int st, .int d, .bl later] ∧ ∃ W1 B1 W2 B2, PlAt K H a1 W1 B1 ∧ PlAt K H a2 W2 B2 ∧ 0 ≤ st ∧ 0 ≤ d ∧ d < reach W1 ∧ d < reach W2 ∧
  ∀ H', Same H H' → Q (.bl (decide (prd later (dif W1 B1 W2 B2 st d)))) H'
def t_is_pair (K : Frag) (w : World) : TS :=
  (tSeq (tAsg (tFn (sp_fire_tick K) E0 (tCons (tFn (sp_Plan_wheel K) E0 (tCons (tVar 0) tNil)) (tCons (tFn (sp_Plan_book K) E0 (tCons (tVar 0) tNil)) (tCons (tVar 2) (tCons (tVar 3) tNil))))) (gName 5))
  (tSeq (tAsg (tFn (sp_fire_tick K) E0 (tCons (tFn (sp_Plan_wheel K) E0 (tCons (tVar 1) tNil)) (tCons (tFn (sp_Plan_book K) E0 (tCons (tVar 1) tNil)) (tCons (tVar 2) (tCons (tVar 3) tNil))))) (gName 6))
  (tSeq (tIfS (tB (tVar 4)) (tRet (tOp oGt (tVar 5) (tVar 6))) tNext)
  (tRet (tOp rNe (tVar 5) (tVar 6))))))
def n_is_pair : List Str := ["first", "second", "start", "delay", "later", "one", "other"]
theorem rd_is_pair (vs : List V) (H : Hp) (Q : VK) (E : XK) (h : sp_is_pair K vs H Q E) : t_is_pair K w { nx := fun _ H' => Q .non H', rt := Q } (L2.start n_is_pair vs) H := by
  obtain ⟨a1, a2, st, d, later, rfl, W1, B1, W2, B2, h1, h2, h0, hd, hr1, hr2, q⟩ := h
  unfold t_is_pair n_is_pair
  walk_at "st"
  refine ⟨a1, rfl, W1, B1, h1, fun aw1 hw1 => ⟨a1, rfl, W1, B1, h1, fun ab1 hb1 => ⟨aw1, ab1, st, d, rfl, W1, B1, hw1, hb1, h0, hd, fun z => by omega, fun H1 s1 => ?_⟩⟩⟩
  walk_at "st"
  refine ⟨a2, rfl, W2, B2, h2.same s1, fun aw2 hw2 => ⟨a2, rfl, W2, B2, h2.same s1, fun ab2 hb2 => ⟨aw2, ab2, st, d, rfl, W2, B2, hw2, hb2, h0, hd, fun z => by omega, fun H2 s2 => ?_⟩⟩⟩
  have q2 := q H2 (s1.trans s2)
  cases later with
  | true =>
    walk_at "st"
    rw [show decide (prd true (dif W1 B1 W2 B2 st d)) = decide ((fin W2 B2 st d).fst < (fin W1 B1 st d).fst) from decide_eq_decide.mpr (by rw [prd_t]; unfold dif; omega)] at q2
    exact q2
  | false =>
    walk_at "st"
    rw [show decide (prd false (dif W1 B1 W2 B2 st d)) = !decide ((fin W1 B1 st d).fst = (fin W2 B2 st d).fst) from by rw [← decide_not]; exact decide_eq_decide.mpr (by rw [prd_f]; unfold dif; omega)] at q2
    exact q2
/-- a part, as it stands -/
def PtAt (K : Frag) (W1 W2 : List Lv) (H : Hp) (t : Addr) (x : Part) : Prop := ∃ c1 c2, H t = some (.tup [.ref c1, .ref c2, .int x.lo, .int x.hi]) ∧ LvAt K H c1 (lv W1 x.i) ∧ LvAt K H c2 (lv W2 x.j)
theorem PtAt.same {W1 W2 : List Lv} {H H' : Hp} {t : Addr} {x : Part} (h : PtAt K W1 W2 H t x) (s : Same H H') : PtAt K W1 W2 H' t x := by
  obtain ⟨c1, c2, h1, h2, h3⟩ := h
  exact ⟨c1, c2, s _ _ h1, h2.same s, h3.same s⟩
def sp_first_delay (K : Frag) : Sp := fun vs H Q _ => ∃ (a1 a2 t : Addr) (st low : Int) (later : Bool), vs = [.ref a1, .ref a2, .ref t, .int st, .int low, .bl later] ∧ ∃ W1 B1 W2 B2 x m, PlAt K H a1 W1 B1 ∧ PlAt K H a2 W2 B2 ∧ x ∈ cparts W1 W2 ∧ PtAt K W1 W2 H t x ∧ IsL (lv W1 x.i).g (lv W2 x.j).g m ∧ 0 ≤ st ∧ x.lo ≤ low ∧
  ∀ o H', Same H H' → FDIs W1 B1 W2 B2 later x.hi m st low o → Q (optV o) H'
def t_first_delay (K : Frag) (w : World) : TS :=
  (tSeq (tAsg (tVar 2) (gTup K 4 (gCons (gName 6) (gCons (gName 7) (gCons (gName 8) (gCons (gName 9) gNil))))))
  (tSeq (tAsg (tFn (sp_common_multiple K) E0 (tCons (tFn (sp_Level_grain K) E0 (tCons (tVar 6) tNil)) (tCons (tFn (sp_Level_grain K) E0 (tCons (tVar 7) tNil)) tNil))) (gName 10))
  (tSeq (tAsg (tVar 4) (gName 11))
  (tSeq (tWhile (tTest (tOp oLe (tVar 11) (tVar 9)))
    (tSeq (tIfS (tB (tFn (sp_is_pair K) E0 (tCons (tVar 0) (tCons (tVar 1) (tCons (tVar 3) (tCons (tVar 11) (tCons (tVar 5) tNil))))))) (tRet (tVar 11)) tNext)
  (tSeq (tAsg (tFn (sp_ticks_to_turn K) E0 (tCons (tVar 6) (tCons (tFn (sp_Book_rounding K) E0 (tCons (tFn (sp_Plan_book K) E0 (tCons (tVar 0) tNil)) tNil)) (tCons (tOp oAdd (tOp oMod (tVar 3) (tFn (sp_Level_grain K) E0 (tCons (tVar 6) tNil))) (tVar 11)) tNil)))) (gName 12))
  (tSeq (tAsg (tFn (sp_ticks_to_turn K) E0 (tCons (tVar 7) (tCons (tFn (sp_Book_rounding K) E0 (tCons (tFn (sp_Plan_book K) E0 (tCons (tVar 1) tNil)) tNil)) (tCons (tOp oAdd (tOp oMod (tVar 3) (tFn (sp_Level_grain K) E0 (tCons (tVar 7) tNil))) (tVar 11)) tNil)))) (gName 13))
  (tSeq (tAsg (tCB oMin2 (tCons (tCB oInt1 (tCons (tVar 12) tNil)) (tCons (tCB oInt1 (tCons (tVar 13) tNil)) tNil))) (gName 14))
  (tAsg (tOp oSub (tVar 11) (tOp oMul (tOp oDiv (tOp oSub (tC (.int 0)) (tVar 14)) (tVar 10)) (tVar 10))) (gName 11)))))))
  (tRet (tC .non))))))
def n_first_delay : List Str := ["first", "second", "part", "start", "low", "later", "one", "other", "floor", "high", "whole", "delay", "ahead", "beside", "nearest"]
def fdI (a1 a2 t c1 c2 : Addr) (st low : Int) (later : Bool) (W1 : List Lv) (B1 : Bk) (W2 : List Lv) (B2 : Bk) (x : Part) (m : Int) (H : Hp) (k : Nat) (σ : L2.St) (H' : Hp) : Prop :=
  ∃ (dd : Int) (v12 v13 v14 : Option V), k = (x.hi + 1 - dd).toNat ∧ σ = [some (.ref a1), some (.ref a2), some (.ref t), some (.int st), some (.int low), some (.bl later), some (.ref c1), some (.ref c2), some (.int x.lo), some (.int x.hi), some (.int m), some (.int dd), v12, v13, v14] ∧ Same H H' ∧ low ≤ dd ∧ m ∣ dd - low ∧
    ∀ d', low ≤ d' → d' < dd → d' ≤ x.hi → m ∣ d' - low → ¬ prd later (dif W1 B1 W2 B2 st d')
theorem rd_first_delay (vs : List V) (H : Hp) (Q : VK) (E : XK) (h : sp_first_delay K vs H Q E) : t_first_delay K w { nx := fun _ H' => Q .non H', rt := Q } (L2.start n_first_delay vs) H := by
  obtain ⟨a1, a2, t, st, low, later, rfl, W1, B1, W2, B2, x, m, h1, h2, hx, ⟨c1, c2, ht, hl1, hl2⟩, hm, h0, hlow, q⟩ := h
  obtain ⟨ok1, hb1⟩ := h1.ok
  obtain ⟨ok2, hb2⟩ := h2.ok
  have m0 := hm.1
  have g1 := hl1.ok.g1
  have g2 := hl2.ok.g1
  have g1' := hl1.ok.g2
  have g2' := hl2.ok.g2
  have s1' := hl1.ok.s1
  have s2' := hl2.ok.s1
  unfold t_first_delay n_first_delay
  walk_at "st"
  refine ⟨_, SqT.of ht, rfl, _, _, rfl, _, _, rfl, _, _, rfl, _, _, rfl, rfl, ?_⟩
  walk_at "st"
  refine ⟨_, hl1, _, hl2, _, _, rfl, by omega, by omega, by omega, fun m' hm' => ?_⟩
  obtain rfl := hm.eq hm'
  have hmb : m ≤ 1000000 := by
    have h1 := Int.le_of_dvd (Int.mul_pos (by omega) (by omega)) ((hm.2 ((lv W1 x.i).g * (lv W2 x.j).g)).mpr ⟨Int.dvd_mul_right _ _, Int.dvd_mul_left _ _⟩)
    have h2 : (lv W1 x.i).g * (lv W2 x.j).g ≤ 1000 * 1000 := Int.mul_le_mul g1' g2' (by omega) (by omega)
    omega
  walk_at "st"
  rw [seq1]
  refine ⟨fdI a1 a2 t c1 c2 st low later W1 B1 W2 B2 x m H, ⟨_, low, none, none, none, rfl, rfl, Same.refl _, Int.le_refl _, by rw [Int.sub_self]; exact Int.dvd_zero _, fun d' a b => by omega⟩, ?_⟩
  rintro k σ H3 ⟨dd, v12, v13, v14, rfl, rfl, s3, hdd, hdv, hno⟩
  have h13 := h1.same s3
  have h23 := h2.same s3
  have hl13 := hl1.same s3
  have hl23 := hl2.same s3
  walk_at "rsl"
  refine ite2 (fun hle => ?_) fun hgt => ?_
  · obtain ⟨p1, p2, p3, p4, p5⟩ := part_in ok1 ok2 hx (d := dd) (by omega) hle
    refine ⟨fun σ' H' => ∃ m', m' < (x.hi + 1 - dd).toNat ∧ fdI a1 a2 t c1 c2 st low later W1 B1 W2 B2 x m H m' σ' H', fun σ' H' z => z, ?_⟩
    walk_at "st"
    refine ⟨a1, a2, st, dd, later, rfl, W1, B1, W2, B2, h13, h23, h0, by omega, p4, p5, fun H4 s4 => ⟨_, rfl, ?_⟩⟩
    refine ite2 (fun hp => ?_) fun hp => ?_
    · exact q (some dd) H4 (s3.trans s4) ⟨hdd, hle, hdv, of_decide_eq_true hp, fun d' a b c => hno d' a b (by omega) c⟩
    · have hp' : ¬ prd later (dif W1 B1 W2 B2 st dd) := fun z => hp (decide_eq_true z)
      have h14 := h13.same s4
      have h24 := h23.same s4
      have hl14 := hl13.same s4
      have hl24 := hl23.same s4
      walk_at "st"
      refine ⟨a1, rfl, W1, B1, h14, fun ab1 hb1' => ⟨ab1, rfl, B1, hb1', _, hl14, by omega, c1, B1.up, _, rfl, _, hl14, ?_⟩⟩
      walk_at "st"
      refine ⟨a2, rfl, W2, B2, h24, fun ab2 hb2' => ⟨ab2, rfl, B2, hb2', _, hl24, by omega, c2, B2.up, _, rfl, _, hl24, ?_⟩⟩
      have t1 := ttt_pos (up := B1.up) (l := lv W1 x.i) (t := st % (lv W1 x.i).g + dd) g1 (by omega)
      have t2 := ttt_pos (up := B2.up) (l := lv W2 x.j) (t := st % (lv W2 x.j).g + dd) g2 (by omega)
      walk_at "st"
      obtain ⟨z1, z2, z3⟩ := fd_step (B1 := B1) (B2 := B2) ok1 ok2 (later := later) hx hm (start := st) (dd := dd) (n := if ttt B2.up (lv W2 x.j) (st % (lv W2 x.j).g + dd) < ttt B1.up (lv W1 x.i) (st % (lv W1 x.i).g + dd) then ttt B2.up (lv W2 x.j) (st % (lv W2 x.j).g + dd) else ttt B1.up (lv W1 x.i) (st % (lv W1 x.i).g + dd)) (by omega) (by split <;> omega) hp' (by split <;> omega) (by split <;> omega)
      generalize (if ttt B2.up (lv W2 x.j) (st % (lv W2 x.j).g + dd) < ttt B1.up (lv W1 x.i) (st % (lv W1 x.i).g + dd) then ttt B2.up (lv W2 x.j) (st % (lv W2 x.j).g + dd) else ttt B1.up (lv W1 x.i) (st % (lv W1 x.i).g + dd)) = nn at *
      refine ⟨⟨m0, by omega⟩, .inr ⟨by omega, by omega⟩, (x.hi + 1 - (dd - (0 - nn) / m * m)).toNat, by omega, _, _, _, _, rfl, rfl, s3.trans s4, by omega, ?_, fun d' a b c e => ?_⟩
      · have := Int.dvd_add z2 hdv
        rw [show dd - (0 - nn) / m * m - low = dd - (0 - nn) / m * m - dd + (dd - low) by omega]
        exact this
      · rcases Int.lt_or_le d' dd with y | y
        · exact hno d' a y c e
        · refine z3 d' y b c ?_
          have := Int.dvd_sub e hdv
          rw [show d' - dd = d' - low - (dd - low) by omega]
          exact this
  · refine q none H3 s3 fun d' a b c => hno d' a (by omega) b c
/-- a pair of numbers, or None -/
def OPr (H : Hp) (v : V) (o : Option (Int × Int)) : Prop := match o with
  | none => v = .non
  | some (a, b) => ∃ p, v = .ref p ∧ H p = some (.tup [.int a, .int b])
theorem OPr.same {H H' : Hp} {v : V} {o : Option (Int × Int)} (h : OPr H v o) (s : Same H H') : OPr H' v o := by
  cases o with
  | none => exact h
  | some p =>
    obtain ⟨q, e, h⟩ := h
    exact ⟨q, e, s _ _ h⟩
def sp_find_in_part (K : Frag) : Sp := fun vs H Q _ => ∃ (a1 a2 t : Addr) (later : Bool), vs = [.ref a1, .ref a2, .ref t, .bl later] ∧ ∃ W1 B1 W2 B2 x m, PlAt K H a1 W1 B1 ∧ PlAt K H a2 W2 B2 ∧ x ∈ cparts W1 W2 ∧ PtAt K W1 W2 H t x ∧ IsL (lv W1 x.i).g (lv W2 x.j).g m ∧
  ∀ o v H', Same H H' → PartIs W1 B1 W2 B2 later x m o → OPr H' v o → Q v H'
def fpI (a1 a2 t c1 c2 : Addr) (later : Bool) (W1 : List Lv) (B1 : Bk) (W2 : List Lv) (B2 : Bk) (x : Part) (m : Int) (H : Hp) (i : Nat) (σ : L2.St) (H' : Hp) : Prop :=
  ∃ (o : Option (Int × Int)) (v : V) (v10 v11 v12 : Option V), σ = [some (.ref a1), some (.ref a2), some (.ref t), some (.bl later), some (.ref c1), some (.ref c2), some (.int x.lo), some (.int x.hi), some (.int m), some v, v10, v11, v12] ∧ Same H H' ∧ OPr H' v o ∧ BestIs W1 B1 W2 B2 later x m (fun _ s => 0 ≤ s ∧ s < i) o
def fpJ (a1 a2 t c1 c2 : Addr) (later : Bool) (W1 : List Lv) (B1 : Bk) (W2 : List Lv) (B2 : Bk) (x : Part) (m : Int) (H : Hp) (i l : Nat) (σ : L2.St) (H' : Hp) : Prop :=
  ∃ (o : Option (Int × Int)) (v : V) (v11 v12 : Option V), σ = [some (.ref a1), some (.ref a2), some (.ref t), some (.bl later), some (.ref c1), some (.ref c2), some (.int x.lo), some (.int x.hi), some (.int m), some v, some (.int (0 + (i : Nat))), v11, v12] ∧ Same H H' ∧ OPr H' v o ∧ BestIs W1 B1 W2 B2 later x m (fun d s => (0 ≤ s ∧ s < i) ∨ s = i ∧ (d - x.lo) % m < l) o
def t_find_in_part (K : Frag) (w : World) : TS :=
  (tSeq (tAsg (tVar 2) (gTup K 4 (gCons (gName 4) (gCons (gName 5) (gCons (gName 6) (gCons (gName 7) gNil))))))
  (tSeq (tAsg (tFn (sp_common_multiple K) E0 (tCons (tFn (sp_Level_grain K) E0 (tCons (tVar 4) tNil)) (tCons (tFn (sp_Level_grain K) E0 (tCons (tVar 5) tNil)) tNil))) (gName 8))
  (tSeq (tAsg (tC .non) (gName 9))
  (tSeq (tFor (iRng1 (tCons (tVar 8) tNil)) (gName 10)
    (tFor (iRngW2 (tCons (tVar 6) (tCons (tCB oMin2 (tCons (tCB oInt1 (tCons (tOp oAdd (tVar 6) (tVar 8)) tNil)) (tCons (tCB oInt1 (tCons (tOp oAdd (tVar 7) (tC (.int 1))) tNil)) tNil))) tNil))) (gName 11)
    (tSeq (tAsg (tFn (sp_first_delay K) E0 (tCons (tVar 0) (tCons (tVar 1) (tCons (tVar 2) (tCons (tVar 10) (tCons (tVar 11) (tCons (tVar 3) tNil))))))) (gName 12))
  (tIfS (tAnd (tTest (tOp oNotN (tVar 12) (tC .non))) (tOr (tTest (tOp oIsN (tVar 9) (tC .non))) (tTest (tOp (rLtT K) (tTup (tCons (tVar 12) (tCons (tVar 10) tNil))) (tVar 9))))) (tAsg (tTup (tCons (tVar 12) (tCons (tVar 10) tNil))) (gName 9)) tNext))))
  (tRet (tVar 9))))))
def n_find_in_part : List Str := ["first", "second", "part", "later", "one", "other", "floor", "high", "whole", "best", "start", "low", "delay"]
theorem rd_find_in_part (vs : List V) (H : Hp) (Q : VK) (E : XK) (h : sp_find_in_part K vs H Q E) : t_find_in_part K w { nx := fun _ H' => Q .non H', rt := Q } (L2.start n_find_in_part vs) H := by
  obtain ⟨a1, a2, t, later, rfl, W1, B1, W2, B2, x, m, h1, h2, hx, ⟨c1, c2, ht, hl1, hl2⟩, hm, q⟩ := h
  have m0 := hm.1
  have g1 := hl1.ok.g1
  have g2 := hl2.ok.g1
  have g1' := hl1.ok.g2
  have g2' := hl2.ok.g2
  have hmb : m ≤ 1000000 := by
    have h1 := Int.le_of_dvd (Int.mul_pos (by omega) (by omega)) ((hm.2 ((lv W1 x.i).g * (lv W2 x.j).g)).mpr ⟨Int.dvd_mul_right _ _, Int.dvd_mul_left _ _⟩)
    have h2 : (lv W1 x.i).g * (lv W2 x.j).g ≤ 1000 * 1000 := Int.mul_le_mul g1' g2' (by omega) (by omega)
    omega
  have xle := (mem_cparts.mp hx).2.2.2.2
  unfold t_find_in_part n_find_in_part
  walk_at "st"
  refine ⟨_, SqT.of ht, rfl, _, _, rfl, _, _, rfl, _, _, rfl, _, _, rfl, rfl, ?_⟩
  walk_at "st"
  refine ⟨_, hl1, _, hl2, _, _, rfl, by omega, by omega, by omega, fun m' hm' => ?_⟩
  obtain rfl := hm.eq hm'
  walk_at "st"
  rw [seq1]
  refine ⟨_, rfl, _, rfl, by omega, by omega, for_range (fpI a1 a2 t c1 c2 later W1 B1 W2 B2 x m H) ⟨none, .non, _, _, _, rfl, Same.refl _, rfl, fun d s a b c => by omega⟩ ?_ ?_⟩
  · rintro i σ H1 hi ⟨o, v, v10, v11, v12, rfl, s1, hv, hbest⟩
    rw [gName1]
    unfold iRngW2
    walk_at "rsl"
    refine ⟨_, rfl, _, rfl, _, rfl, _, rfl, _, rfl, _, rfl, _, rfl, _, rfl, for_rangeC (fpJ a1 a2 t c1 c2 later W1 B1 W2 B2 x m H i) ⟨o, v, _, _, rfl, s1, hv, hbest.imp fun d s z1 z2 z => ?_⟩ ?_ ?_⟩
    · rcases z with z | ⟨z, z'⟩
      · exact z
      · have := Int.emod_nonneg (d - x.lo) (b := m) (by omega)
        omega
    · rintro l σ H2 hl ⟨o, v, v11, v12, rfl, s2, hv, hbest⟩
      rw [Int.mul_one]
      have hl' : (l : Int) < m ∧ x.lo + l ≤ x.hi := by split at hl <;> omega
      rw [gName1]
      walk_at "st"
      refine ⟨a1, a2, t, 0 + (i : Int), x.lo + l, later, rfl, W1, B1, W2, B2, x, m, h1.same s2, h2.same s2, hx, ⟨c1, c2, s2 _ _ ht, hl1.same s2, hl2.same s2⟩, hm, by omega, by omega, fun o2 H3 s3 hf => ?_⟩
      rw [Int.zero_add] at hf
      have hnb := hbest.next (st := (i : Int)) (low := x.lo + l) (by omega) (by omega) (by omega) (by omega) hf
      have hP : ∀ (d s : Int), x.lo ≤ d → d ≤ x.hi → ((0 ≤ s ∧ s < i) ∨ s = i ∧ (d - x.lo) % m < ((l + 1 : Nat) : Int)) → (((0 ≤ s ∧ s < i) ∨ s = i ∧ (d - x.lo) % m < l) ∨ s = (i : Int) ∧ x.lo + l ≤ d ∧ m ∣ d - (x.lo + l)) := fun d s z1 z2 z => by
        rcases z with z | ⟨z, z'⟩
        · exact .inl (.inl z)
        · rcases Int.lt_or_le ((d - x.lo) % m) l with y | y
          · exact .inl (.inr ⟨z, y⟩)
          · have e : (d - x.lo) % m = l := by omega
            have e2 := Int.mul_ediv_add_emod (d - x.lo) m
            have e3 := Int.ediv_nonneg (a := d - x.lo) (b := m) (by omega) (by omega)
            have e4 := Int.mul_nonneg (Int.le_of_lt m0) e3
            exact .inr ⟨z, by omega, ⟨(d - x.lo) / m, by omega⟩⟩
      have hnb' := hnb.imp hP
      have hv3 := hv.same s3
      have s23 := s2.trans s3
      clear hnb hP hbest
      cases o2 with
      | none =>
        unfold optV
        walk_at "rsl"
        exact ⟨o, v, _, _, rfl, s23, hv3, hnb'⟩
      | some d0 =>
        cases o with
        | none =>
          obtain rfl : v = .non := hv3
          unfold optV
          walk_at "rsl"
          exact fun p hp => ⟨some (d0, (i : Int)), .ref p, _, _, rfl, s23.trans (Same.new hp), ⟨p, rfl, by rw [updS, Int.zero_add]⟩, hnb'⟩
        | some bp =>
          obtain ⟨bd, bs⟩ := bp
          obtain ⟨pb, rfl, hpb⟩ := hv3
          unfold optV
          walk_at "rsl"
          intro p hp
          have s4 := Same.new (o := .tup [V.int d0, V.int (0 + (i : Int))]) hp
          refine ⟨p, pb, [d0, 0 + (i : Int)], [bd, bs], rfl, rfl, SqT.of (updS _ _ _), SqT.of (s4 _ _ hpb), _, rfl, ?_⟩
          have hlex : HT.lexLt [d0, 0 + (i : Int)] [bd, bs] = decide (if d0 = bd then (if (i : Int) = bs then False else (i : Int) < bs) else d0 < bd) := by
            show (if d0 = bd then (if 0 + (i : Int) = bs then false else decide (0 + (i : Int) < bs)) else decide (d0 < bd)) = _
            rw [Int.zero_add]
            split
            · split <;> simp
            · simp
          rw [hlex]
          refine ite2 (fun hc => ?_) fun hc => ?_
          · intro p' hp'
            refine ⟨some (d0, (i : Int)), .ref p', _, _, rfl, (s23.trans s4).trans (Same.new hp'), ⟨p', rfl, by rw [updS, Int.zero_add]⟩, ?_⟩
            unfold nextBest at hnb'
            dsimp only at hnb'
            rw [if_pos (of_decide_eq_true hc)] at hnb'
            exact hnb'
          · refine ⟨some (bd, bs), .ref pb, _, _, rfl, s23.trans s4, ⟨pb, rfl, s4 _ _ hpb⟩, ?_⟩
            unfold nextBest at hnb'
            dsimp only at hnb'
            rw [if_neg (fun z => hc (decide_eq_true z))] at hnb'
            exact hnb'
    · rintro σ H2 ⟨o, v, v11, v12, rfl, s2, hv, hbest⟩
      refine ⟨o, v, _, _, _, rfl, s2, hv, hbest.imp fun d s z1 z2 z => ?_⟩
      rcases Int.lt_or_le s i with y | y
      · exact .inl ⟨z.1, y⟩
      · refine .inr ⟨by omega, ?_⟩
        have e1 := Int.emod_lt_of_pos (d - x.lo) m0
        have e2 := Int.emod_nonneg (d - x.lo) (b := m) (by omega)
        have e3 := Int.mul_ediv_add_emod (d - x.lo) m
        have e4 := Int.mul_nonneg (Int.le_of_lt m0) (Int.ediv_nonneg (a := d - x.lo) (b := m) (by omega) (by omega))
        split <;> omega
  · rintro σ H1 ⟨o, v, v10, v11, v12, rfl, s1, hv, hbest⟩
    rw [Int.toNat_of_nonneg (by omega)] at hbest
    exact ⟨v, rfl, q o v H1 s1 hbest.part hv⟩
/-- parts, as they stand -/
def PtsAt (K : Frag) (W1 W2 : List Lv) (H : Hp) (p : Addr) (L : List Part) : Prop := ∃ ts : List Addr, H p = some (.lst (ts.map V.ref)) ∧ ts.length = L.length ∧ ∀ (k : Nat) (t : Addr) (x : Part), ts[k]? = some t → L[k]? = some x → PtAt K W1 W2 H t x
theorem PtsAt.same {W1 W2 : List Lv} {H H' : Hp} {p : Addr} {L : List Part} (h : PtsAt K W1 W2 H p L) (s : Same H H') : PtsAt K W1 W2 H' p L := by
  obtain ⟨ts, h1, h2, h3⟩ := h
  exact ⟨ts, s _ _ h1, h2, fun k t x a b => (h3 k t x a b).same s⟩
theorem PtAt.updL {W1 W2 : List Lv} {H : Hp} {p t : Addr} {x : Part} {l l' : List V} (h : PtAt K W1 W2 H t x) (hp : H p = some (.lst l)) : PtAt K W1 W2 (upd H p (.lst l')) t x := by
  have ne : ∀ {b : Addr} {o : HO}, H b = some o → (∀ l, o ≠ .lst l) → upd H p (.lst l') b = some o := fun {b o} e n => by
    rw [upd_ne (fun z => by rw [z, hp] at e; exact n _ (Option.some.inj e).symm)]
    exact e
  obtain ⟨c1, c2, h1, ⟨o1, d1, h2⟩, ⟨o2, d2, h3⟩⟩ := h
  exact ⟨c1, c2, ne h1 (fun l z => by cases z), ⟨o1, d1, ne h2 (fun l z => by cases z)⟩, ⟨o2, d2, ne h3 (fun l z => by cases z)⟩⟩
theorem PtsAt.snoc {W1 W2 : List Lv} {H1 : Hp} {p t : Addr} {L : List Part} {x : Part} {ts : List Addr} (hp : H1 p = some (.lst (ts.map V.ref))) (hl : ts.length = L.length) (ha : ∀ (k : Nat) (t : Addr) (x : Part), ts[k]? = some t → L[k]? = some x → PtAt K W1 W2 H1 t x) (ht : PtAt K W1 W2 H1 t x) : PtsAt K W1 W2 (upd H1 p (.lst (ts.map V.ref ++ [.ref t]))) p (L ++ [x]) := by
  refine ⟨ts ++ [t], by rw [upd_same, List.map_append]; rfl, by simp [hl], fun k t' x' e1 e2 => ?_⟩
  rw [List.getElem?_append] at e1 e2
  split at e1
  · rw [if_pos (by omega)] at e2
    exact (ha k t' x' e1 e2).updL hp
  · rw [if_neg (by omega)] at e2
    rw [hl] at e1
    cases hk : k - L.length with
    | zero =>
      rw [hk] at e1 e2
      simp at e1 e2
      subst e1 e2
      exact ht.updL hp
    | succ n => rw [hk] at e1; simp at e1
def sp_common_parts (K : Frag) : Sp := fun vs H Q _ => ∃ (aw1 aw2 : Addr), vs = [.ref aw1, .ref aw2] ∧ ∃ W1 W2, WhAt K H aw1 W1 ∧ WhAt K H aw2 W2 ∧ ∀ p H', Same H H' → PtsAt K W1 W2 H' p (cparts W1 W2) → Q (.ref p) H'
def cpI (aw1 aw2 p : Addr) (W1 W2 : List Lv) (H : Hp) (K : Frag) (i : Nat) (σ : L2.St) (H' : Hp) : Prop :=
  ∃ (v3 v4 v5 v6 : Option V), σ = [some (.ref aw1), some (.ref aw2), some (.ref p), v3, v4, v5, v6] ∧ Same H H' ∧ PtsAt K W1 W2 H' p ((List.range i).flatMap fun i => (List.range W2.length).flatMap fun j => partAt W1 W2 i j)
def cpJ (aw1 aw2 p : Addr) (W1 W2 : List Lv) (H : Hp) (K : Frag) (i j : Nat) (σ : L2.St) (H' : Hp) : Prop :=
  ∃ (v4 v5 v6 : Option V), σ = [some (.ref aw1), some (.ref aw2), some (.ref p), some (.int (0 + (i : Nat))), v4, v5, v6] ∧ Same H H' ∧ PtsAt K W1 W2 H' p (((List.range i).flatMap fun i => (List.range W2.length).flatMap fun j => partAt W1 W2 i j) ++ (List.range j).flatMap fun j => partAt W1 W2 i j)
theorem partAt_len (W1 W2 : List Lv) (i j : Nat) : (partAt W1 W2 i j).length ≤ 1 := by
  unfold partAt
  split <;> simp
theorem flat_len {α : Type} {f : α → List Part} {c : Nat} (h : ∀ a, (f a).length ≤ c) : ∀ l : List α, (l.flatMap f).length ≤ l.length * c
  | [] => by simp
  | a :: l => by
    have ih := flat_len h l
    have := h a
    rw [List.flatMap_cons, List.length_append, List.length_cons, Nat.add_mul]
    omega
def t_common_parts (K : Frag) (w : World) : TS :=
  (tSeq (tAsg (tLst tNil) (gName 2))
  (tSeq (tFor (iRng1 (tCons (tCB (rLenF (sp_Wheel___len__ K) E0) (tCons (tVar 0) tNil)) tNil)) (gName 3)
    (tFor (iRng1 (tCons (tCB (rLenF (sp_Wheel___len__ K) E0) (tCons (tVar 1) tNil)) tNil)) (gName 4)
    (tSeq (tAsg (tCB oMax2 (tCons (tCB oInt1 (tCons (tFn (sp_low_delay K) E0 (tCons (tVar 0) (tCons (tVar 3) tNil))) tNil)) (tCons (tCB oInt1 (tCons (tFn (sp_low_delay K) E0 (tCons (tVar 1) (tCons (tVar 4) tNil))) tNil)) tNil))) (gName 5))
  (tSeq (tAsg (tOp oSub (tCB oMin2 (tCons (tCB oInt1 (tCons (tFn (sp_Level_span K) E0 (tCons (tFn (sp_Wheel___getitem__ K) E0 (tCons (tVar 0) (tCons (tVar 3) tNil))) tNil)) tNil)) (tCons (tCB oInt1 (tCons (tFn (sp_Level_span K) E0 (tCons (tFn (sp_Wheel___getitem__ K) E0 (tCons (tVar 1) (tCons (tVar 4) tNil))) tNil)) tNil)) tNil))) (tC (.int 1))) (gName 6))
  (tIfS (tTest (tOp oLe (tVar 5) (tVar 6))) (tDrop (tBM K "list" rAppend (tVar 2) (tCons (tTup (tCons (tFn (sp_Wheel___getitem__ K) E0 (tCons (tVar 0) (tCons (tVar 3) tNil))) (tCons (tFn (sp_Wheel___getitem__ K) E0 (tCons (tVar 1) (tCons (tVar 4) tNil))) (tCons (tVar 5) (tCons (tVar 6) tNil))))) tNil))) tNext)))))
  (tRet (tVar 2))))
def n_common_parts : List Str := ["one", "other", "found", "first", "second", "low", "high"]
theorem rd_common_parts (vs : List V) (H : Hp) (Q : VK) (E : XK) (h : sp_common_parts K vs H Q E) : t_common_parts K w { nx := fun _ H' => Q .non H', rt := Q } (L2.start n_common_parts vs) H := by
  obtain ⟨aw1, aw2, rfl, W1, W2, h1, h2, q⟩ := h
  have l1 := h1.ok.len
  have l2 := h2.ok.len
  unfold t_common_parts n_common_parts
  walk_at "st"
  intro p hp
  rw [seq1]
  unfold iRng1
  walk_at "rsl"
  have s1 := Same.new (o := .lst []) hp
  refine ⟨_, rfl, aw1, rfl, W1, h1.same s1, by omega, by omega, by omega, by omega, for_range (cpI aw1 aw2 p W1 W2 H K) ⟨_, _, _, _, rfl, s1, [], upd_same, rfl, fun k t x a => by simp at a⟩ ?_ ?_⟩
  · rintro i σ H1 hi ⟨v3, v4, v5, v6, rfl, s1, hpt⟩
    rw [gName1]
    unfold tFor
    refine ⟨_, rfl, aw2, rfl, W2, h2.same s1, by omega, by omega, by omega, by omega, for_range (cpJ aw1 aw2 p W1 W2 H K i) ⟨_, _, _, rfl, s1, by rw [List.range_zero, List.flatMap_nil, List.append_nil]; exact hpt⟩ ?_ ?_⟩
    · rintro j σ H2 hj ⟨v4, v5, v6, rfl, s2, hpt⟩
      have h12 := h1.same s2
      have h22 := h2.same s2
      rw [gName1]
      walk_at "st"
      refine ⟨aw1, i, by rw [Int.zero_add], W1, h12, hi, .inl ⟨_, rfl, aw2, j, by rw [Int.zero_add], W2, h22, hj, .inl ⟨_, rfl, ?_⟩⟩⟩
      have eLo : (if lowD W2 j > lowD W1 i then lowD W2 j else lowD W1 i) = pLo W1 W2 i j := rfl
      rw [eLo]
      walk_at "st"
      have eIx : ∀ n : Nat, ((0 : Int) + n).toNat = n := fun n => by omega
      refine ⟨aw1, 0 + (i : Int), rfl, W1, h12, by omega, by omega, fun c1 hc1 => ⟨_, rfl, _, hc1, aw2, 0 + (j : Int), rfl, W2, h22, by omega, by omega, fun c2 hc2 => ⟨_, rfl, _, hc2, ?_⟩⟩⟩
      rw [eIx] at hc1 hc2
      rw [eIx, eIx]
      have eHi : (if (lv W2 j).p < (lv W1 i).p then (lv W2 j).p else (lv W1 i).p) - 1 = pHi W1 W2 i j := rfl
      rw [eHi]
      have hpre : ∀ L : List Part, (((List.range i).flatMap fun i => (List.range W2.length).flatMap fun j => partAt W1 W2 i j) ++ (List.range (j + 1)).flatMap fun j => partAt W1 W2 i j) = (((List.range i).flatMap fun i => (List.range W2.length).flatMap fun j => partAt W1 W2 i j) ++ (List.range j).flatMap fun j => partAt W1 W2 i j) ++ partAt W1 W2 i j := fun _ => by
        rw [List.range_succ, List.flatMap_append, List.flatMap_singleton, List.append_assoc]
      refine ite2 (fun hle => ?_) fun hgt => ?_
      · obtain ⟨ts, e1, e2, e3⟩ := hpt
        unfold tBM rAppend
        walk_at "rsl"
        refine ⟨.inl ⟨rfl, _, SqL.of e1⟩, aw1, 0 + (i : Int), rfl, W1, h12, by omega, by omega, fun c1 hc1 => ⟨aw2, 0 + (j : Int), rfl, W2, h22, by omega, by omega, fun c2 hc2 t ht => ?_⟩⟩
        rw [eIx] at hc1 hc2
        have s3 := Same.new (o := .tup [V.ref c1, V.ref c2, .int (pLo W1 W2 i j), .int (pHi W1 W2 i j)]) ht
        have hpa : partAt W1 W2 i j = [⟨i, j, pLo W1 W2 i j, pHi W1 W2 i j⟩] := by unfold partAt; rw [if_pos hle]
        have hsn := PtsAt.snoc (x := ⟨i, j, pLo W1 W2 i j, pHi W1 W2 i j⟩) (s3 _ _ e1) e2 (fun k t x a b => (e3 k t x a b).same s3) ⟨c1, c2, updS _ _ _, hc1.same s3, hc2.same s3⟩
        have hlen : ts.length ≤ 30 := by
          have f1 := flat_len (f := fun i => (List.range W2.length).flatMap fun j => partAt W1 W2 i j) (c := 5) (fun i => by
            have := flat_len (f := fun j => partAt W1 W2 i j) (c := 1) (fun j => partAt_len W1 W2 i j) (List.range W2.length)
            rw [List.length_range] at this
            omega) (List.range i)
          have f2 := flat_len (f := fun j => partAt W1 W2 i j) (c := 1) (fun j => partAt_len W1 W2 i j) (List.range j)
          rw [List.length_range] at f1 f2
          rw [e2, List.length_append]
          omega
        have hsz : sizeLine = 16777216 := rfl
        refine ⟨_, s3 _ _ e1, by rw [List.length_map]; omega, _, _, _, rfl, Same.updN (s2.trans s3) hp, ?_⟩
        rw [hpre [], hpa]
        exact hsn
      · refine ⟨_, _, _, rfl, s2, ?_⟩
        rw [hpre [], show partAt W1 W2 i j = [] by unfold partAt; rw [if_neg hgt], List.append_nil]
        exact hpt
    · rintro σ H2 ⟨v4, v5, v6, rfl, s2, hpt⟩
      refine ⟨_, _, _, _, rfl, s2, ?_⟩
      rw [List.range_succ, List.flatMap_append, List.flatMap_singleton]
      exact hpt
  · rintro σ H1 ⟨v3, v4, v5, v6, rfl, s1, hpt⟩
    exact ⟨_, rfl, q p H1 s1 hpt⟩
def sp_find_pair (K : Frag) : Sp := fun vs H Q _ => ∃ (a1 a2 : Addr) (later : Bool), vs = [.ref a1, .ref a2, .bl later] ∧ ∃ W1 B1 W2 B2, PlAt K H a1 W1 B1 ∧ PlAt K H a2 W2 B2 ∧ (∀ x ∈ cparts W1 W2, ∀ m, IsL (lv W1 x.i).g (lv W2 x.j).g m → m ≤ 60) ∧
  ∀ o v H', Same H H' → PairIs W1 B1 W2 B2 later o → OPr H' v o → Q v H'
def fqI (a1 a2 p : Addr) (later : Bool) (W1 W2 : List Lv) (H : Hp) (_ : Nat) (σ : L2.St) (H' : Hp) : Prop :=
  ∃ (v4 v5 v6 v7 : Option V), σ = [some (.ref a1), some (.ref a2), some (.bl later), some (.ref p), v4, v5, v6, v7, none, none] ∧ Same H H'
def fqJ (a1 a2 p : Addr) (later : Bool) (W1 : List Lv) (B1 : Bk) (W2 : List Lv) (B2 : Bk) (v4 v5 v6 v7 : Option V) (H : Hp) (k : Nat) (σ : L2.St) (H' : Hp) : Prop :=
  ∃ (v8 v9 : Option V), σ = [some (.ref a1), some (.ref a2), some (.bl later), some (.ref p), v4, v5, v6, v7, v8, v9] ∧ Same H H' ∧ ∀ (k' : Nat) (y : Part), k' < k → (cparts W1 W2)[k']? = some y → ∃ m, IsL (lv W1 y.i).g (lv W2 y.j).g m ∧ PartIs W1 B1 W2 B2 later y m none
theorem isL_ex {a b : Int} (ha : 0 < a) (hb : 0 < b) : ∃ m, IsL a b m := ⟨_, isL_of ha hb (g := Int.gcd a b) ⟨by
  have := Int.gcd_pos_of_ne_zero_left b (a := a) (by omega)
  omega, fun d => ⟨fun z => Int.dvd_coe_gcd z.1 z.2, fun z => ⟨Int.dvd_trans z (Int.gcd_dvd_left ..), Int.dvd_trans z (Int.gcd_dvd_right ..)⟩⟩⟩⟩
def t_find_pair (K : Frag) (w : World) : TS :=
  (tSeq (tAsg (tFn (sp_common_parts K) E0 (tCons (tFn (sp_Plan_wheel K) E0 (tCons (tVar 0) tNil)) (tCons (tFn (sp_Plan_wheel K) E0 (tCons (tVar 1) tNil)) tNil))) (gName 3))
  (tSeq (tFor (iList K (tVar 3)) (gTup K 4 (gCons (gName 4) (gCons (gName 5) (gCons (gName 6) (gCons (gName 7) gNil)))))
    (tIfS (tTest (tOp oGt (tFn (sp_common_multiple K) E0 (tCons (tFn (sp_Level_grain K) E0 (tCons (tVar 4) tNil)) (tCons (tFn (sp_Level_grain K) E0 (tCons (tVar 5) tNil)) tNil))) (tC (.int 60)))) tNever tNext))
  (tSeq (tIfS (tB (tFn (sp_is_pair K) E0 (tCons (tVar 0) (tCons (tVar 1) (tCons (tC (.int 0)) (tCons (tC (.int 0)) (tCons (tVar 2) tNil))))))) (tRet (tTup (tCons (tC (.int 0)) (tCons (tC (.int 0)) tNil)))) tNext)
  (tSeq (tFor (iList K (tVar 3)) (gName 8)
    (tSeq (tAsg (tFn (sp_find_in_part K) E0 (tCons (tVar 0) (tCons (tVar 1) (tCons (tVar 8) (tCons (tVar 2) tNil))))) (gName 9))
  (tIfS (tTest (tOp oNotN (tVar 9) (tC .non))) (tRet (tTup (tCons (tOp rIxTH (tVar 9) (tC (.int 1))) (tCons (tOp rIxTH (tVar 9) (tC (.int 0))) tNil)))) tNext)))
  (tRet (tC .non))))))
def n_find_pair : List Str := ["first", "second", "later", "parts", "one", "other", "low", "high", "part", "found"]
theorem rd_find_pair (vs : List V) (H : Hp) (Q : VK) (E : XK) (h : sp_find_pair K vs H Q E) : t_find_pair K w { nx := fun _ H' => Q .non H', rt := Q } (L2.start n_find_pair vs) H := by
  obtain ⟨a1, a2, later, rfl, W1, B1, W2, B2, h1, h2, h60, q⟩ := h
  obtain ⟨ok1, hb1⟩ := h1.ok
  obtain ⟨ok2, hb2⟩ := h2.ok
  have hr1 : 2 ≤ reach W1 := (ok1.all (W1.length - 1) (by have := ok1.pos; omega)).2.2.2.2
  have hr2 : 2 ≤ reach W2 := (ok2.all (W2.length - 1) (by have := ok2.pos; omega)).2.2.2.2
  have gpos : ∀ x ∈ cparts W1 W2, 1 ≤ (lv W1 x.i).g ∧ 1 ≤ (lv W2 x.j).g ∧ (lv W2 x.j).g ≤ 1000 := fun x hx => by
    obtain ⟨c1, c2, _⟩ := mem_cparts.mp hx
    have z1 := ok1.all _ c1
    have z2 := ok2.all _ c2
    exact ⟨z1.1, z2.1, z2.2.1⟩
  unfold t_find_pair n_find_pair
  walk_at "st"
  refine ⟨a1, rfl, W1, B1, h1, fun aw1 hw1 => ⟨a2, rfl, W2, B2, h2, fun aw2 hw2 => ⟨aw1, aw2, rfl, W1, W2, hw1, hw2, fun p H1 s1 hp => ?_⟩⟩⟩
  obtain ⟨ts, e1, e2, e3⟩ := id hp
  have hmem : ∀ {k : Nat} {v : V}, (ts.map V.ref)[k]? = some v → ∃ t x, v = .ref t ∧ ts[k]? = some t ∧ (cparts W1 W2)[k]? = some x ∧ PtAt K W1 W2 H1 t x := fun {k v} hv => by
    rw [List.getElem?_map] at hv
    cases et : ts[k]? with
    | none => rw [et] at hv; cases hv
    | some t =>
      rw [et] at hv
      obtain rfl := Option.some.inj hv
      have hk : k < (cparts W1 W2).length := by
        have := (List.getElem?_eq_some_iff.mp et).1
        omega
      exact ⟨t, _, rfl, rfl, List.getElem?_eq_getElem hk, e3 k t _ et (List.getElem?_eq_getElem hk)⟩
  try dsimp only
  rw [seq1]
  refine ⟨_, rfl, p, rfl, ⟨_, SqL.of e1⟩, for_list (K := K) (a := p) (xs := ts.map V.ref) (fqI a1 a2 p later W1 W2 H1) ⟨_, _, _, _, rfl, Same.refl _⟩ (fun i σ H' _ ⟨_, _, _, _, _, z⟩ => SqL.of (z _ _ e1)) ?_ ?_⟩
  · rintro k v σ H2 hv ⟨v4, v5, v6, v7, rfl, s2⟩
    obtain ⟨t, x, rfl, et, ex, ⟨c1, c2, ht, hl1, hl2⟩⟩ := hmem hv
    have hx := List.mem_of_getElem? ex
    have hg := gpos x hx
    clear hv
    refine ⟨t, _, rfl, SqT.of (s2 _ _ ht), rfl, ?_⟩
    dsimp only [gCons, gNil]
    walk_at "rsl"
    refine ⟨_, hl1.same s2, _, hl2.same s2, _, _, rfl, by omega, by omega, by omega, fun m hm => ?_⟩
    have := h60 x hx m hm
    refine ⟨m, rfl, ?_⟩
    rw [if_neg (by omega)]
    exact ⟨_, _, _, _, rfl, s2⟩
  · rintro σ H2 ⟨v4, v5, v6, v7, rfl, s2⟩
    have h12 := (h1.same s1).same s2
    have h22 := (h2.same s1).same s2
    try dsimp only
    rw [seq1]
    walk_at "rsl"
    refine ⟨a1, a2, 0, 0, later, rfl, W1, B1, W2, B2, h12, h22, by omega, by omega, by omega, by omega, fun H3 s3 => ⟨_, rfl, ?_⟩⟩
    refine ite2 (fun hp0 => ?_) fun hp0 => ?_
    · exact fun pp hpp => q (some (0, 0)) _ _ ((s1.trans (s2.trans s3)).trans (Same.new hpp)) ⟨by omega, by omega, by omega, by omega, of_decide_eq_true hp0, fun d' a b => by omega, fun s a b => by omega⟩ ⟨pp, rfl, updS _ _ _⟩
    · have h0 : ¬ prd later (dif W1 B1 W2 B2 0 0) := fun z => hp0 (decide_eq_true z)
      have s13 := s2.trans s3
      try dsimp only
      rw [seq1]
      refine ⟨_, rfl, p, rfl, ⟨_, SqL.of (s13 _ _ e1)⟩, for_list (K := K) (a := p) (xs := ts.map V.ref) (fqJ a1 a2 p later W1 B1 W2 B2 v4 v5 v6 v7 H1) ⟨_, _, rfl, s13, fun k' y z => absurd z (Nat.not_lt_zero _)⟩ (fun i σ H' _ ⟨_, _, _, z, _⟩ => SqL.of (z _ _ e1)) ?_ ?_⟩
      · rintro k v σ H4 hv ⟨v8, v9, rfl, s4, hall⟩
        obtain ⟨t, x, rfl, et, ex, hpt⟩ := hmem hv
        have hx := List.mem_of_getElem? ex
        have hg := gpos x hx
        clear hv
        obtain ⟨m, hm⟩ := isL_ex (a := (lv W1 x.i).g) (b := (lv W2 x.j).g) (by omega) (by omega)
        rw [gName1]
        walk_at "st"
        refine ⟨a1, a2, t, later, rfl, W1, B1, W2, B2, x, m, (h1.same s1).same s4, (h2.same s1).same s4, hx, hpt.same s4, hm, fun o v H5 s5 hpi hv5 => ?_⟩
        cases o with
        | none =>
          obtain rfl : v = .non := hv5
          rw [if_neg (fun z => z rfl)]
          refine ⟨_, _, rfl, s4.trans s5, fun k' y z hy => ?_⟩
          rcases Nat.lt_or_ge k' k with c | c
          · exact hall k' y c hy
          · obtain rfl : k' = k := by omega
            rw [ex] at hy
            obtain rfl := Option.some.inj hy
            exact ⟨m, hm, hpi⟩
        | some ds =>
          obtain ⟨d, st⟩ := ds
          obtain ⟨pp, rfl, hpp⟩ := hv5
          rw [if_pos (by intro z; cases z)]
          exact ⟨pp, rfl, _, hpp, _, rfl, pp, rfl, _, hpp, _, rfl, fun p' hp' => q (some (st, d)) _ _ ((s1.trans (s4.trans s5)).trans (Same.new hp')) (pair_some ok1 ok2 hb1 hb2 h0 ex hall hm hpi) ⟨p', rfl, updS _ _ _⟩⟩
      · rintro σ H4 ⟨v8, v9, rfl, s4, hall⟩
        refine q none .non H4 (s1.trans s4) (pair_none ok1 ok2 hb1 hb2 h0 fun x hx => ?_) rfl
        obtain ⟨k, hk⟩ := List.getElem?_of_mem hx
        exact hall k x (by rw [List.length_map, e2]; exact (List.getElem?_eq_some_iff.mp hk).1) hk
def sp_parted (K : Frag) : Sp := fun vs H Q _ => ∃ (a1 a2 : Addr), vs = [.ref a1, .ref a2] ∧ ∃ W1 B1 W2 B2, PlAt K H a1 W1 B1 ∧ PlAt K H a2 W2 B2 ∧ (∀ x ∈ cparts W1 W2, ∀ m, IsL (lv W1 x.i).g (lv W2 x.j).g m → m ≤ 60) ∧
  ∀ o v H', Same H H' → PairIs W1 B1 W2 B2 false o → OPr H' v o → Q v H'
def t_parted (K : Frag) (w : World) : TS :=
  (tRet (tFn (sp_find_pair K) E0 (tCons (tVar 0) (tCons (tVar 1) (tCons (tC (.bl false)) tNil)))))
def n_parted : List Str := ["first", "second"]
theorem rd_parted (vs : List V) (H : Hp) (Q : VK) (E : XK) (h : sp_parted K vs H Q E) : t_parted K w { nx := fun _ H' => Q .non H', rt := Q } (L2.start n_parted vs) H := by
  obtain ⟨a1, a2, rfl, h⟩ := h
  exact ⟨_, rfl, _, rfl, a1, a2, false, rfl, h⟩
end
end Tw
/-! Tw: shares as they stand in the heap -/
namespace Tw
open PySem PySem.Spec PyProof.Rows L2 He TwM StX
open PySem.W (Frag)
local macro_rules | `(tactic| walk_at "rsl") => `(tactic| simp only [*, at3_0, at3_1, at3_2, at2_0, at2_1, updS, upd_two, gSub, rSetL, updN, tPar, tPar3, gTup, gCons, gNil, and_assoc, not_true_eq_false, not_false_eq_true, tNever, List.length_map, tFld, rIxTH, rIxLH, rLenTH, rLenLH, lk1, lfs_g, lfs_s, lfs_p, HO.ins.injEq, HO.tup.injEq, HO.lst.injEq, sp_Book_rounding, sp_Book_action, sp_Book_order, sp_Book_due, sp_Book_zero, sp_Book_beyond, Int.toNat_natCast, sp_visit_after, sp_is_visited, sp_Level_grain, sp_Level_slots, sp_Level_span, sp_Wheel_reach, sp_Wheel___len__, sp_is_integer, sp_is_count, sp_is_within, sp_rounded, tAsg, gName, tVar, tC, tOp, rI, rI0, rU, tUn, oAdd, oSub, oMul, oDiv, oMod, oNeg, oLt, oLe, oGt, oGe, oIsN, oNotN, tFn, tCons, tNil, tIfS, tIf, tTest, tB, tNot, tAnd, tOr, tAndV, tOrV, tNotV,
    tRet, tRetN, tNext, tCB, tDrop, tChain, rEq, rNe, oMax2, oMin2, oInt1, rLenF, L2.start, List.map_cons, List.map_nil, List.length_cons, List.length_nil, List.replicate_succ, List.replicate_zero, List.cons_append, List.nil_append, Nat.reduceAdd, Nat.reduceSub, Nat.zero_add,
    List.set_cons_zero, List.set_cons_succ, List.getElem?_cons_zero, List.getElem?_cons_succ, Option.some.injEq, V.int.injEq, V.ref.injEq, V.str.injEq, V.bl.injEq, exists_eq_left', exists_eq_left, exists_and_left, List.cons.injEq, and_true, true_and, decide_eq_true_eq, sc_ii, sc_ss, sc_bb, sc_ni, sc_in, sc_nn, sc_is, reduceCtorEq,
    Bool.not_eq_true', decide_eq_false_iff_not, if_true, if_false, Bool.false_eq_true, exists_eq', exists_const, false_and, and_false, or_false, false_or, exists_false, Bool.not_not, Bool.not_true, Bool.not_false, sUp_up, sFire_fire, sHigh_high, sPut_put, sZone_now, sBey_refuse, sBey_cut, tTup, tLst, sz0, sz1, sz2, sz3, sz4, sz5, sz6])
local macro_rules | `(tactic| walk_at "st") => `(tactic| ((try dsimp only); rw [seq1]; walk_at "rsl"))
/-- what the readings of shares lean on -/
structure Ks (K : Frag) (w : World) : Prop where
  cS : Cls K (ga K "Share")
  nSt : NoAttr K (ga K "Share") "kept_top"
  nSb : NoAttr K (ga K "Share") "kept_bottom"
  iS : IsiC K (ga K "Share")
  kSS : PySem.W.kitOne K (.ref (ga K "Share")) (.ref (ga K "Share")) = some true
  kSi : PySem.W.kitOne K (.ref (ga K "Share")) (.type "int") = some false
  kiS : PySem.W.kitOne K (.type "int") (.ref (ga K "Share")) = some false
  kiT : PySem.W.kitAny K (.type "int") [.type "int", .ref (ga K "Share")] = some true
def ShAt (K : Frag) (H : Hp) (a : Addr) (u lo : Int) : Prop := ∃ dx, H a = some (.ins (ga K "Share") dx [("kept_top", .int u), ("kept_bottom", .int lo)])
def PartAt (K : Frag) (H : Hp) (v : V) (u lo : Int) : Prop := (lo = 1 ∧ v = .int u) ∨ ∃ s, v = .ref s ∧ ShAt K H s u lo
section
variable {K : Frag} {w : World}
theorem ShAt.same {H H' : Hp} {a : Addr} {u lo : Int} (h : ShAt K H a u lo) (s : Same H H') : ShAt K H' a u lo := h.elim fun dx e => ⟨dx, s _ _ e⟩
theorem PartAt.same {H H' : Hp} {v : V} {u lo : Int} (h : PartAt K H v u lo) (s : Same H H') : PartAt K H' v u lo := by
  rcases h with h | ⟨a, e, h⟩
  · exact .inl h
  · exact .inr ⟨a, e, h.same s⟩
theorem isi_share {H : Hp} {a dx : Addr} {fs : List (Str × V)} {Q : VK} (T : Ks K w) (h : H a = some (.ins (ga K "Share") dx fs)) (q : Q (.bl true) H) : rIsi K [.ref a, .ref (ga K "Share")] H Q :=
  ⟨.ref a, _, _, _, true, rfl, .own _, .base (.ins h T.cS T.iS.ca T.iS.cn T.iS.ct T.iS.cm), T.kSS, q⟩
theorem isi_share_int {H : Hp} {a dx : Addr} {fs : List (Str × V)} {Q : VK} (T : Ks K w) (h : H a = some (.ins (ga K "Share") dx fs)) (q : Q (.bl false) H) : rIsi K [.ref a, .ty "int"] H Q :=
  ⟨.ref a, _, _, _, false, rfl, .ty _, .base (.ins h T.cS T.iS.ca T.iS.cn T.iS.ct T.iS.cm), T.kSi, q⟩
theorem isi_int_share {H : Hp} {i : Int} {Q : VK} (T : Ks K w) (q : Q (.bl false) H) : rIsi K [.int i, .ref (ga K "Share")] H Q :=
  ⟨.int i, _, _, _, false, rfl, .own _, .base (.int i), T.kiS, q⟩
/-- is_integer of a number -/
def sp_is_integerS (K : Frag) : Sp := fun vs H Q _ => ∃ v, vs = [v] ∧ ((∃ i : Int, v = .int i ∧ Q (.bl true) H) ∨ (∃ a dx fs, v = .ref a ∧ H a = some (.ins (ga K "Share") dx fs) ∧ Q (.bl false) H))
theorem rd_is_integerS (T : Ks K w) (vs : List V) (H : Hp) (Q : VK) (E : XK) (h : sp_is_integerS K vs H Q E) : t_is_integer K w { nx := fun _ H' => Q .non H', rt := Q } (L2.start n_is_integer vs) H := by
  obtain ⟨v, rfl, ⟨i, rfl, q⟩ | ⟨a, dx, fs, rfl, h, q⟩⟩ := h
  · exact rd_is_integer _ _ _ E ⟨i, rfl, q⟩
  · unfold t_is_integer n_is_integer
    walk_at "rsl"
    exact isi_share_int T h ⟨false, rfl, q⟩
def sp_is_number (K : Frag) : Sp := fun vs H Q _ => ∃ v u lo, vs = [v] ∧ PartAt K H v u lo ∧ Q (.bl true) H
def t_is_number (K : Frag) (w : World) : TS :=
  (tRet (tOrV (tFn (sp_is_integerS K) E0 (tCons (tVar 0) tNil)) (tCB (rIsi K) (tCons (tVar 0) (tCons (tC (.ref (ga K "Share"))) tNil)))))
def n_is_number : List Str := ["value"]
theorem rd_is_number (T : Ks K w) (vs : List V) (H : Hp) (Q : VK) (E : XK) (h : sp_is_number K vs H Q E) : t_is_number K w { nx := fun _ H' => Q .non H', rt := Q } (L2.start n_is_number vs) H := by
  obtain ⟨v, u, lo, rfl, h, q⟩ := h
  unfold t_is_number n_is_number
  walk_at "rsl"
  rcases h with ⟨_, rfl⟩ | ⟨a, rfl, dx, h⟩
  · exact ⟨_, rfl, .inl ⟨u, rfl, true, rfl, q⟩⟩
  · exact ⟨_, rfl, .inr ⟨a, dx, _, rfl, h, false, rfl, isi_share T h q⟩⟩
def sp_Share_top (K : Frag) : Sp := fun vs H Q _ => ∃ a u lo, vs = [.ref a] ∧ ShAt K H a u lo ∧ Q (.int u) H
theorem in_Share_top (K : Frag) : InsAt (ga K "Share") (sp_Share_top K) := fun vs H Q E ⟨a, u, lo, e, ⟨dx, h⟩, _⟩ => ⟨a, dx, _, [], e, h⟩
def t_Share_top (K : Frag) (w : World) : TS :=
  (tRet (tFld K (tVar 0) "kept_top"))
def n_Share_top : List Str := ["self"]
theorem rd_Share_top (T : Ks K w) (vs : List V) (H : Hp) (Q : VK) (E : XK) (h : sp_Share_top K vs H Q E) : t_Share_top K w { nx := fun _ H' => Q .non H', rt := Q } (L2.start n_Share_top vs) H := by
  obtain ⟨a, u, lo, rfl, ⟨dx, h⟩, q⟩ := h
  exact ⟨_, rfl, a, _, dx, _, _, rfl, h, T.cS, T.nSt, lk1 _ _ _, q⟩
def sp_Share_bottom (K : Frag) : Sp := fun vs H Q _ => ∃ a u lo, vs = [.ref a] ∧ ShAt K H a u lo ∧ Q (.int lo) H
theorem in_Share_bottom (K : Frag) : InsAt (ga K "Share") (sp_Share_bottom K) := fun vs H Q E ⟨a, u, lo, e, ⟨dx, h⟩, _⟩ => ⟨a, dx, _, [], e, h⟩
theorem sh_bot (u lo : V) : ([("kept_top", u), ("kept_bottom", lo)] : List (Str × V)).lookup ("kept_bottom" : Str) = some lo := by
  rw [lk2 _ _ _ _ (by decide +kernel), lk1]
def t_Share_bottom (K : Frag) (w : World) : TS :=
  (tRet (tFld K (tVar 0) "kept_bottom"))
def n_Share_bottom : List Str := ["self"]
theorem rd_Share_bottom (T : Ks K w) (vs : List V) (H : Hp) (Q : VK) (E : XK) (h : sp_Share_bottom K vs H Q E) : t_Share_bottom K w { nx := fun _ H' => Q .non H', rt := Q } (L2.start n_Share_bottom vs) H := by
  obtain ⟨a, u, lo, rfl, ⟨dx, h⟩, q⟩ := h
  exact ⟨_, rfl, a, _, dx, _, _, rfl, h, T.cS, T.nSb, sh_bot .., q⟩
end
end Tw
/-! Tw: fractions in lowest terms -/
namespace Tw
open TwM
theorem isG_gcd {u lo g : Int} (h : IsG u lo g) : g = (lo.gcd u : Int) := by
  obtain ⟨h1, h2⟩ := h
  have a1 : g ∣ (lo.gcd u : Int) := Int.dvd_coe_gcd ((h2 g).mpr (Int.dvd_refl g)).2 ((h2 g).mpr (Int.dvd_refl g)).1
  have a2 : (lo.gcd u : Int) ∣ g := (h2 _).mp ⟨Int.gcd_dvd_right _ _, Int.gcd_dvd_left _ _⟩
  exact Int.dvd_antisymm (by omega) (by omega) a1 a2
theorem sgn_cases {lo : Int} (h : lo ≠ 0) : (0 < lo ∧ lo.sign = 1) ∨ (lo < 0 ∧ lo.sign = -1) := by
  rcases Int.lt_or_gt_of_ne h with z | z
  · exact .inr ⟨z, Int.sign_eq_neg_one_of_neg z⟩
  · exact .inl ⟨z, Int.sign_eq_one_of_pos z⟩
theorem fdiv_neg_exact {g x : Int} (h : 0 < g) : (g * x).fdiv (-g) = -x := by
  rw [show g * x = -g * (-x) by rw [Int.neg_mul_neg]]
  exact Int.mul_fdiv_cancel_left _ (by omega)
theorem dv_rat {u lo g : Int} (h0 : lo ≠ 0) (hg : IsG u lo g) : ∃ u' l' : Int, u = g * u' ∧ lo = g * l' ∧ 0 < g ∧ (Rat.divInt u lo).num = lo.sign * u' ∧ ((Rat.divInt u lo).den : Int) = lo.sign * l' := by
  have e := isG_gcd hg
  obtain ⟨u', hu⟩ := ((hg.2 g).mpr (Int.dvd_refl g)).1
  obtain ⟨l', hl⟩ := ((hg.2 g).mpr (Int.dvd_refl g)).2
  refine ⟨u', l', hu, hl, hg.1, ?_, ?_⟩
  · rw [Rat.num_divInt, ← e, hu, Int.mul_left_comm, Int.mul_ediv_cancel_left _ (by have := hg.1; omega)]
  · rw [Rat.den_divInt, if_neg h0, Int.natCast_ediv, ← e]
    have hs : (lo.natAbs : Int) = g * (lo.sign * l') := by
      rcases sgn_cases h0 with ⟨z, s⟩ | ⟨z, s⟩
      · rw [s, Int.one_mul, ← hl]; omega
      · rw [s, Int.neg_one_mul, Int.mul_neg, ← hl]; omega
    rw [hs, Int.mul_ediv_cancel_left _ (by have := hg.1; omega)]
theorem top_at {u lo g : Int} (h0 : lo ≠ 0) (hg : IsG u lo g) : u.fdiv (if lo < 0 then -g else g) = (Rat.divInt u lo).num ∧ lo.fdiv (if lo < 0 then -g else g) = ((Rat.divInt u lo).den : Int) := by
  obtain ⟨u', l', hu, hl, g0, e1, e2⟩ := dv_rat h0 hg
  rw [e1, e2]
  rcases sgn_cases h0 with ⟨z, s⟩ | ⟨z, s⟩
  · rw [if_neg (by omega), s, Int.one_mul, Int.one_mul, hu]
    refine ⟨Int.mul_fdiv_cancel_left _ (by omega), ?_⟩
    conv => lhs; rw [hl]
    exact Int.mul_fdiv_cancel_left _ (by omega)
  · rw [if_pos z, s, Int.neg_one_mul, Int.neg_one_mul, hu, fdiv_neg_exact g0]
    refine ⟨rfl, ?_⟩
    conv => lhs; rw [hl]
    exact fdiv_neg_exact g0
theorem low_at {u lo g : Int} (h0 : lo ≠ 0) (hg : IsG u lo g) : ((if 0 < lo then (1 : Int) else -1) * u).fdiv g = (Rat.divInt u lo).num ∧ ((if 0 < lo then (1 : Int) else -1) * lo).fdiv g = ((Rat.divInt u lo).den : Int) := by
  obtain ⟨u', l', hu, hl, g0, e1, e2⟩ := dv_rat h0 hg
  rw [e1, e2]
  have hs : (if 0 < lo then (1 : Int) else -1) = lo.sign := by
    rcases sgn_cases h0 with ⟨z, s⟩ | ⟨z, s⟩
    · rw [if_pos z, s]
    · rw [if_neg (by omega), s]
  rw [hs]
  constructor
  · rw [hu, Int.mul_left_comm]
    exact Int.mul_fdiv_cancel_left _ (by omega)
  · conv => lhs; arg 1; rw [hl, Int.mul_left_comm]
    rw [← hl]
    exact Int.mul_fdiv_cancel_left _ (by omega)
/-! sizes -/
def Bd (k : Nat) (q : Rat) : Prop := q.num.natAbs < 2 ^ k ∧ q.den < 2 ^ k
theorem bd_div {k : Nat} {u lo : Int} (h0 : lo ≠ 0) (hu : u.natAbs < 2 ^ k) (hl : lo.natAbs < 2 ^ k) : Bd k (Rat.divInt u lo) := by
  constructor
  · have hg : IsG u lo (lo.gcd u : Int) := by
      refine ⟨?_, fun d => ⟨fun z => Int.dvd_coe_gcd z.2 z.1, fun z => ⟨Int.dvd_trans z (Int.gcd_dvd_right _ _), Int.dvd_trans z (Int.gcd_dvd_left _ _)⟩⟩⟩
      have := Int.gcd_pos_of_ne_zero_left u h0
      omega
    obtain ⟨u', l', hu', hl', g0, e1, e2⟩ := dv_rat h0 hg
    rw [e1, Int.natAbs_mul, Int.natAbs_sign_of_ne_zero h0, Nat.one_mul]
    refine Nat.lt_of_le_of_lt ?_ hu
    conv => rhs; rw [hu', Int.natAbs_mul]
    exact Nat.le_mul_of_pos_left _ (by omega)
  · rw [Rat.den_divInt, if_neg h0]
    exact Nat.lt_of_le_of_lt (Nat.div_le_self _ _) hl
theorem den_ne (q : Rat) : (q.den : Int) ≠ 0 := by have := q.den_pos; omega
theorem rat_add {q r : Rat} : Rat.divInt (q.num * r.den + r.num * q.den) (q.den * r.den) = q + r := by
  have := Rat.divInt_add_divInt q.num r.num (den_ne q) (den_ne r)
  rw [Rat.num_divInt_den, Rat.num_divInt_den] at this
  exact this.symm
theorem rat_sub {q r : Rat} : Rat.divInt (q.num * r.den - r.num * q.den) (q.den * r.den) = q - r := by
  have := Rat.divInt_sub_divInt q.num r.num (den_ne q) (den_ne r)
  rw [Rat.num_divInt_den, Rat.num_divInt_den] at this
  exact this.symm
theorem rat_mul {q r : Rat} : Rat.divInt (q.num * r.num) (q.den * r.den) = q * r := by
  have := @Rat.divInt_mul_divInt q.num r.num q.den r.den
  rw [Rat.num_divInt_den, Rat.num_divInt_den] at this
  exact this.symm
theorem rat_div {q r : Rat} : Rat.divInt (q.num * r.den) (q.den * r.num) = q / r := by
  have := @Rat.divInt_mul_divInt q.num r.den q.den r.num
  rw [Rat.num_divInt_den, ← Rat.inv_divInt, Rat.num_divInt_den] at this
  rw [Rat.div_def]
  exact this.symm
theorem rat_int (n : Int) : Rat.divInt n 1 = (n : Rat) := by
  have := Rat.num_divInt_den (n : Rat)
  rw [Rat.num_intCast, Rat.den_intCast] at this
  exact this
theorem rat_addI {q : Rat} {n : Int} : Rat.divInt (q.num + n * q.den) q.den = q + (n : Rat) := by
  have := @rat_add q (n : Rat)
  rw [Rat.num_intCast, Rat.den_intCast] at this
  rw [← this]
  congr 1
  · omega
  · omega
theorem rat_Isub {q : Rat} {n : Int} : Rat.divInt (n * q.den - q.num) q.den = (n : Rat) - q := by
  have := @rat_sub (n : Rat) q
  rw [Rat.num_intCast, Rat.den_intCast] at this
  rw [← this]
  congr 1
  · omega
  · omega
theorem rat_mulI {q : Rat} {n : Int} : Rat.divInt (q.num * n) q.den = q * (n : Rat) := by
  have := @rat_mul q (n : Rat)
  rw [Rat.num_intCast, Rat.den_intCast] at this
  rw [← this]
  congr 1
  omega
theorem rat_neg {q : Rat} : Rat.divInt (-q.num) q.den = -q := by
  rw [← Rat.neg_divInt, Rat.num_divInt_den]
def rabs (q : Rat) : Rat := Rat.divInt (if q.num < 0 then -q.num else q.num) q.den
/-! of a / b -/
theorem dv_scale {a b k : Int} (hk : k ≠ 0) : Rat.divInt (a * k) (b * k) = Rat.divInt a b := Rat.divInt_mul_right hk
theorem dv_addI {a b n : Int} (hb : b ≠ 0) : Rat.divInt a b + (n : Rat) = Rat.divInt (a + n * b) b := by
  rw [← rat_int, Rat.divInt_add_divInt _ _ hb (by decide), Int.mul_one, Int.mul_one]
theorem dv_subI {a b n : Int} (hb : b ≠ 0) : Rat.divInt a b - (n : Rat) = Rat.divInt (a - n * b) b := by
  rw [← rat_int, Rat.divInt_sub_divInt _ _ hb (by decide), Int.mul_one, Int.mul_one]
theorem dv_Isub {a b n : Int} (hb : b ≠ 0) : (n : Rat) - Rat.divInt a b = Rat.divInt (n * b - a) b := by
  rw [← rat_int, Rat.divInt_sub_divInt _ _ (by decide) hb, Int.mul_one, Int.one_mul]
theorem dv_mulI {a b n : Int} : Rat.divInt a b * (n : Rat) = Rat.divInt (a * n) b := by
  rw [← rat_int, Rat.divInt_mul_divInt, Int.mul_one]
theorem dv_divI {a b n : Int} : Rat.divInt a b / (n : Rat) = Rat.divInt a (b * n) := by
  rw [← rat_int, Rat.div_def, Rat.inv_divInt, Rat.divInt_mul_divInt, Int.mul_one]
theorem dv_div {a b c d : Int} : Rat.divInt a b / Rat.divInt c d = Rat.divInt (a * d) (b * c) := by
  rw [Rat.div_def, Rat.inv_divInt, Rat.divInt_mul_divInt]
theorem dv_neg {a b : Int} : -Rat.divInt a b = Rat.divInt (0 - a) b := by
  rw [Rat.neg_divInt, Int.zero_sub]
theorem dv_abs {a b : Int} (hb : b ≠ 0) : rabs (Rat.divInt a b) = Rat.divInt (if a < 0 then -a else a) (if b < 0 then -b else b) := by
  have e : Rat.divInt (Rat.divInt a b).num (Rat.divInt a b).den = Rat.divInt a b := Rat.num_divInt_den _
  have h := (Rat.divInt_eq_divInt_iff (den_ne _) hb).mp e
  have hd := (Rat.divInt a b).den_pos
  unfold rabs
  generalize (Rat.divInt a b).num = u at *
  generalize (Rat.divInt a b).den = l at *
  rw [Rat.divInt_eq_divInt_iff (by omega) (by split <;> omega)]
  have h2 : (u * b).natAbs = (a * l).natAbs := by rw [h]
  rw [Int.natAbs_mul, Int.natAbs_mul] at h2
  have e1 : (if u < 0 then -u else u) = (u.natAbs : Int) := by split <;> omega
  have e2 : (if a < 0 then -a else a) = (a.natAbs : Int) := by split <;> omega
  have e3 : (if b < 0 then -b else b) = (b.natAbs : Int) := by split <;> omega
  rw [e1, e2, e3, ← Int.natCast_mul, h2]
  rw [Int.natAbs_natCast, Int.natCast_mul]
theorem dv_zero {a b : Int} (hb : b ≠ 0) : (Rat.divInt a b).num = 0 ↔ a = 0 := by
  rw [Rat.num_eq_zero]
  constructor
  · intro h
    have e : Rat.divInt a b = Rat.divInt 0 1 := by rw [h]; rfl
    have := (Rat.divInt_eq_divInt_iff hb (by decide)).mp e
    omega
  · rintro rfl
    exact Rat.zero_divInt b
theorem nat_mul_lt {x y : Int} {a b : Nat} (hx : x.natAbs < 2 ^ a) (hy : y.natAbs < 2 ^ b) : (x * y).natAbs < 2 ^ (a + b) := by
  rw [Int.natAbs_mul, Nat.pow_add]
  exact Nat.mul_lt_mul'' hx hy
theorem nat_add_lt {x y : Int} {a : Nat} (hx : x.natAbs < 2 ^ a) (hy : y.natAbs < 2 ^ a) : (x + y).natAbs < 2 ^ (a + 1) := by
  rw [Nat.pow_succ]
  omega
theorem nat_sub_lt {x y : Int} {a : Nat} (hx : x.natAbs < 2 ^ a) (hy : y.natAbs < 2 ^ a) : (x - y).natAbs < 2 ^ (a + 1) := by
  rw [Nat.pow_succ]
  omega
theorem nat_mono {x : Int} {a b : Nat} (hx : x.natAbs < 2 ^ a) (h : a ≤ b) : x.natAbs < 2 ^ b := Nat.lt_of_lt_of_le hx (Nat.pow_le_pow_right (by decide) h)
theorem Bd.mono {q : Rat} {a b : Nat} (h : Bd a q) (hab : a ≤ b) : Bd b q := ⟨nat_mono h.1 hab, Nat.lt_of_lt_of_le h.2 (Nat.pow_le_pow_right (by decide) hab)⟩
theorem Bd.den {q : Rat} {a : Nat} (h : Bd a q) : (q.den : Int).natAbs < 2 ^ a := by rw [Int.natAbs_natCast]; exact h.2
theorem bd_int {n : Int} {a : Nat} (h : n.natAbs < 2 ^ a) (ha : 0 < a) : Bd a (n : Rat) := by
  refine ⟨by rw [Rat.num_intCast]; exact h, ?_⟩
  rw [Rat.den_intCast]
  exact Nat.one_lt_two_pow (by omega)
end Tw
/-! Tw: try with several clauses 'except C as n' -/
namespace Tw
open PySem PySem.Spec PyProof.Rows L2
abbrev Cl : Type := Value × Nat × (Addr → Value → Option Addr → TS)
/-- what the clauses wish, one behind the other: (class, slot of the name, suite) -/
def wAll (K : PySem.W.Frag) (n : Nat) (Wout : WX) (D : Ends) : List Cl → WX
  | [] => Wout
  | q :: r => fun cls d σ H => ∃ b, PySem.W.exmOne K cls q.1 = some b ∧ (b = true → σ.length = n → ∀ a, H a = none → q.2.2 a cls d { nx := fun σ2 H2 => D.nx (σ2.set q.2.1 none) H2, rt := D.rt, bk := fun σ2 H2 => D.bk (σ2.set q.2.1 none) H2, ct := fun σ2 H2 => D.ct (σ2.set q.2.1 none) H2 } (σ.set q.2.1 (some (.ref a))) H) ∧
      (b = false → wAll K n Wout D r cls d σ H)
inductive ClsOk (X : Cx) : List ExceptHandler → List Cl → Prop
  | nil : ClsOk X [] []
  | cons {x n : Str} {c : Value} {i : Nat} {ts : Addr → Value → Option Addr → TS} {b : Stmt} {bs : List Stmt} {p q : Pos} {hs : List ExceptHandler} {l : List Cl} (hi : X.N[i]? = some n) (hn : X.env.kindOf n = some .local) (hc : Names X x c)
      (hb : ∀ (a : Addr) (oe : Obj) (cls : Value) (d : Option Addr) (pn : List (Addr × Obj)), Zc cls d oe → (∃ vs, oe.data = .fields vs) → PSs (X.suite a ((a, oe) :: pn)) (b :: bs) (ts a cls d)) (r : ClsOk X hs l) :
      ClsOk X (.ExceptHandler (some (.Name x p)) (some n) (b :: bs) q :: hs) ((c, i, ts) :: l)
/-- an exception of the body has come to this frame -/
structure Cau (X : Cx) (pins : List (Addr × Obj)) (σ : L2.St) (H : Hp) (cls : Value) (d : Option Addr) (a : Addr) (B : Heap) (sI s : Shared) (h : Heap) : Prop where
  inv : Inv X pins σ H sI
  old : ∀ b o, sI.heap.get? b = some o → b ∉ frs X.stack → B.get? b = some o
  up : sI.heap.UpToSlots h
  new : H a = none
  os : s.os = sI.os
  bare : AllBare s.gens
  fly : HandSPX.FlyingZ B (X.env :: X.outer) a (Zc cls d) h
section
variable {X : Cx} {pins : List (Addr × Obj)} {σ : L2.St} {H : Hp} {cls : Value} {d : Option Addr} {a : Addr} {B : Heap} {sI s : Shared} {h : Heap}
theorem Cau.here (c : Cau X pins σ H cls d a B sI s h) : Inv X pins σ H { s with heap := h } := c.inv.landed c.old c.fly.1 c.up c.os c.bare
theorem Cau.apart (c : Cau X pins σ H cls d a B sI s h) (hf : X.env.frame = some X.env.locals) : ∃ oe vs, h.get? a = some oe ∧ Zc cls d oe ∧ oe.data = .fields vs ∧ a ≠ X.env.locals ∧ a ∉ X.fs := by
  obtain ⟨oe, vs, e, z, k⟩ := c.fly.there
  have nf : a ∉ frs (X.env :: X.outer) := fun m => by
    obtain ⟨_, o2, e2, n2⟩ := c.fly.2.2.1.mem m
    rw [e] at e2
    cases e2
    exact n2 _ k
  refine ⟨oe, vs, e, z, k, fun y => nf (List.mem_filterMap.mpr ⟨X.env, List.mem_cons_self, by rw [hf, y]⟩), fun y => ?_⟩
  obtain ⟨e1, m1, g1⟩ := List.mem_filterMap.mp y
  exact nf (List.mem_filterMap.mpr ⟨e1, List.mem_cons_of_mem _ m1, g1⟩)
/-- no clause took it: it leaves -/
theorem Cau.pass {Wout : WX} {D : Ends} (c : Cau X pins σ H cls d a B sI s h) (hs : X.stack = X.env :: X.outer) (hf : X.env.frame = some X.env.locals) (tk : Takes X Wout) (w : Wout cls d σ H) :
    wpAny (model X.prog X.w) X.A (handleBy (.ref a) X.env []) (SP X pins D) X.xe { s with heap := h } := by
  refine wpAny_handleBy_nil ?_
  obtain ⟨_, _, _, oe, vs, T, oT, ts, e, _, k, h1, _⟩ := id c.fly
  unfold PySem.passOn
  refine wpAny_bind (wpAny_field e k h1 ?_)
  have ne : ¬ ((Value.ref T == Value.none) = true) := by simp
  rw [if_neg ne]
  have out : wpAny (model X.prog X.w) X.A (setFlight (.ref a) X.env.frame) (fun _ s4 => wpAny (model X.prog X.w) X.A (throw (.ref a) : Sem Flow) (SP X pins D) X.xe s4) X.xe { s with heap := h } := by
    rw [hf]
    exact HandSPX.setFlight_upZ c.fly fun h4 k4 u4 => wpAny_throw (tk _ _ ⟨a, B, sI, pins, σ, H, cls, d, rfl, c.inv, c.old, c.up.trans u4, .inr (.inr (by rw [hs]; exact k4)), c.new, c.os, c.bare, w⟩)
  first
    | exact wpAny_bind (wpAny_pure (wpAny_bind out))
    | exact wpAny_bind out
theorem Cau.look (c : Cau X pins σ H cls d a B sI s h) (hs : X.stack = X.env :: X.outer) (hf : X.env.frame = some X.env.locals) (hN : X.N.Nodup) {Wout : WX} {D : Ends} (tk : Takes X Wout) :
    ∀ {hds : List ExceptHandler} {l : List Cl}, ClsOk X hds l → wAll X.K X.N.length Wout D l cls d σ H → wpAny (model X.prog X.w) X.A (handleBy (.ref a) X.env hds) (SP X pins D) X.xe { s with heap := h } := by
  intro hds l ok
  have okX := c.inv.ok
  have hfr : X.A.frames = some (X.env :: X.outer) := by rw [okX.frames, hs]
  induction ok with
  | nil => exact fun w => c.pass hs hf tk w
  | @cons x n cc i ts b bs p q hs2 l2 hi hn hc hb r ih =>
    rintro ⟨v, e1, yes, no⟩
    refine wpAny_handleBy_cons (codeAny_handlers_test ?_) (by intro z; cases z)
    obtain ⟨oe, vs, e, z, k, nL, nF⟩ := c.apart hf
    have lt : PySem.W.Looks (model X.prog X.w) h (typeOf (.ref a)) cls := fun A Q E s2 k2 q2 => wpAny_typeOf_ref (k2 _ _ e) (by rw [z.1]; exact q2)
    have lm := PySem.W.exm_one (M := model X.prog X.w) c.here.kIn lt e1
    have inS := c.here.suite e k c.new nL nF
    have ask : ∀ {Q : Value → Shared → Prop} {E : Value → Shared → Prop}, Q cc { s with heap := h } → wpAny (model X.prog X.w) (X.A.mark (some (.ref a))) (eval (.Name x p) X.env) Q E { s with heap := h } := fun {Q E} q2 => by
      obtain ⟨g, nd, m | ⟨m, bo, nn⟩⟩ := hc
      · exact ld_glob (X := X.suite a ((a, oe) :: (X.pn ++ pins))) inS g m q2 nd
      · exact ld_blt (X := X.suite a ((a, oe) :: (X.pn ++ pins))) inS g m bo q2 nn nd
    refine ask (lm.here ?_)
    cases v with
    | false =>
      show wpAny _ X.A (handleBy (.ref a) X.env hs2) _ _ _
      exact ih (no rfl)
    | true =>
      refine codeAny_handlers_suite_as (HandSPX.lands_againZ c.fly fun h4 f4 u4 => ?_)
      have c4 : Cau X pins σ H cls d a B sI s h4 := ⟨c.inv, c.old, c.up.trans u4, c.new, c.os, c.bare, f4⟩
      obtain ⟨o4, w4, e4, z4, k4, nL4, nF4⟩ := c4.apart hf
      have S4 := c4.here.suite e4 k4 c4.new nL4 nF4
      refine store_ok (X := X.suite a ((a, o4) :: (X.pn ++ pins))) (v := .ref a) S4 hN hi (.inl hn) rfl (fun s5 S5 => ?_) (.inr hn)
      refine wpAny_mono ((hb a o4 cls d (X.pn ++ pins) z4 ⟨_, k4⟩).run [] s5 _ H _ S5 (yes rfl c.inv.len a c.new)) (fun f s6 g6 => ?_) (fun _ _ z => False.elim z)
      have bye : ∀ {σ6 : L2.St} {H6 : Hp} {Q : Shared → Prop}, Inv (X.suite a ((a, o4) :: (X.pn ++ pins))) [] σ6 H6 s6 → (∀ s7, Inv X pins (σ6.set i none) H6 s7 → Q s7) → wpAny (model X.prog X.w) X.A (do bindName X.env n .none; unbindBehindTheSuite X.env n q) (fun _ s7 => Q s7) X.xe s6 :=
        fun {σ6 H6 Q} S6 w6 => gone_ok (S6.unsuite okX) hN hi hn w6
      cases f with
      | ret u =>
        obtain ⟨v6, σ6, H6, S6, r6, w6⟩ := g6
        exact bye S6 fun s7 J7 => ⟨v6, _, _, J7, r6, w6⟩
      | next =>
        obtain ⟨σ6, H6, S6, w6⟩ := g6
        exact bye S6 fun s7 J7 => ⟨_, _, J7, w6⟩
      | brk =>
        obtain ⟨σ6, H6, S6, w6⟩ := g6
        exact bye S6 fun s7 J7 => ⟨_, _, J7, w6⟩
      | cont =>
        obtain ⟨σ6, H6, S6, w6⟩ := g6
        exact bye S6 fun s7 J7 => ⟨_, _, J7, w6⟩
end
section
variable {X : Cx} {body : List Stmt} {h0 : ExceptHandler} {hds : List ExceptHandler} {l : List Cl} {pos : Pos} {tb : WX → TS} {Wout : WX}
theorem ps_try_all (hs : X.stack = X.env :: X.outer) (hf : X.env.frame = some X.env.locals) (hN : X.N.Nodup) (tk : Takes X Wout)
    (hb : ∀ (W : WX) (pn : List (Addr × Obj)) (xe : Value → Shared → Prop), Takes (X.tr pn xe) W → PassesOwn (model X.prog X.w) X.A X.env xe → PSs (X.tr pn xe) body (tb W)) (hh : ClsOk X (h0 :: hds) l) :
    PS X (.Try body (h0 :: hds) [] [] pos) (fun D σ H => tb (wAll X.K X.N.length Wout D l) D σ H) := by
  refine ⟨fun pins s σ H D I h => ?_⟩
  have okX := I.ok
  have hfr : X.A.frames = some (X.env :: X.outer) := by rw [okX.frames, hs]
  refine wpAny_Try_except (wpAny_mono ((hb (wAll X.K X.N.length Wout D l) (X.pn ++ pins) (fun e s1 => wpAny (model X.prog X.w) X.A (noteFrame e X.env) (fun _ s2 => wpAny (model X.prog X.w) X.A (setFlight e none) (fun _ s3 => wpAny (model X.prog X.w) X.A (handleBy e X.env (h0 :: hds)) (SP X pins D) X.xe s3) X.xe s2) X.xe s1) (fun u s1 z => ?_) PassesOwn.looking).run [] s σ H D (I.toTry _) h) (fun f s1 q => ?_) fun e s1 z => z)
  · obtain ⟨a, B, sI, pn2, σ2, H2, cls, d, rfl, J2, nb, up, sky, na, os, ag, w⟩ := z
    have J : Inv X pins σ2 H2 sI := J2.ofTry okX
    have sk : Sky B (X.env :: X.outer) a (Zc cls d) X.env.locals s1.heap := by rw [← hs]; exact sky
    show wpAny (model X.prog X.w) X.A (noteFrame (.ref a) X.env) _ _ _
    exact Sky.land Zc.steady hfr hf sk fun h3 f3 u3 => (show Cau X pins σ2 H2 cls d a B sI s1 h3 from ⟨J, nb, up.trans u3, na, os, ag, f3⟩).look hs hf hN tk hh w
  · cases f with
    | next =>
      obtain ⟨σ2, H2, J2, w⟩ := q
      exact wpAny_execs_nil ⟨σ2, H2, J2.ofTry okX, w⟩
    | ret u =>
      obtain ⟨v, σ2, H2, J2, r, w⟩ := q
      exact ⟨v, σ2, H2, J2.ofTry okX, r, w⟩
    | brk =>
      obtain ⟨σ2, H2, J2, w⟩ := q
      exact ⟨σ2, H2, J2.ofTry okX, w⟩
    | cont =>
      obtain ⟨σ2, H2, J2, w⟩ := q
      exact ⟨σ2, H2, J2.ofTry okX, w⟩
end
end Tw
/-! Tw: defs that are called in an except suite and raise nothing; what they promise may speak of the caught error -/
namespace Tw
open PySem PySem.Spec PyProof.Rows L2
open L2H (RoomH PinOk cxH inv_startH)
/-- the promise: p the caught error -/
def FnP (P : Program) (w : World) (K : PySem.W.Frag) (mg : Str → Option Value) (base : Heap) (k : Nat) (f : Addr) (sp : Addr × Obj → Sp) : Prop :=
  ∀ A fs t Hp0 us vs Q p, RoomH k A → PinOk fs Hp0 t p → Env0 P w K mg base A fs t Hp0 → Vals vs us → sp p vs Hp0 Q C8.E0 → codeAny (model P w) A (.call (.ref f) ⟨us, []⟩) (CR C8.CX0 fs P w Hp0 t Q C8.E0) t
section
variable {P : Program} {w : World} {K : PySem.W.Frag} {mg : Str → Option Value} {base : Heap} {k : Nat} {f : Addr} {sp : Addr × Obj → Sp}
theorem FnP.mono {j : Nat} (F : FnP P w K mg base j f sp) (h : j ≤ k) : FnP P w K mg base k f sp := fun A fs t H us vs Q p r => F A fs t H us vs Q p (r.mono h)
theorem fnP_of {x qual : Str} {params : Arguments} {body : List Stmt} {scope : Scope} {kws : List (Str × V)} {fd : FuncData} {N ps : List Str} (F : FunD K x qual params body scope [] kws f fd) (S : FnScope N ps scope) (hb : Binds K fd ps [])
    (hl : ∀ p vs H Q E, sp p vs H Q E → vs.length = ps.length)
    (hbody : ∀ cdv A fs t H vs Q p, RoomH k (A.deeper (envOfC qual scope t.heap.objs.size f cdv)) → PinOk fs H t p → sp p vs H Q C8.E0 → ∃ tt, PSs (cxH C8.CX0 P w K mg base N qual scope f cdv A fs t H C8.E0 p) body tt ∧ tt { nx := fun _ H' => Q .non H', rt := Q } (L2.start N vs) H) :
    FnP P w K mg base (k + 1) f sp := by
  intro A fs t H us vs Q p hr hp e0 rv h
  obtain ⟨oc, od, dV, kV, doc, pm, an, cdv, ct, osl, efd, lk, hcd, _, _⟩ := F.ex
  have KX : K.In t.heap := e0.mod.kin.keeps fun b o z => (e0.bs b o z).1
  have hlen : us.length = ps.length := rv.length.symm.trans (hl _ _ _ _ _ h)
  have hbt := hb t us KX (by rw [List.append_nil]; exact hlen)
  rw [List.append_nil] at hbt
  rw [efd] at lk hbt
  refine codeAny_call_function hr.depth (KX _ _ lk) rfl S.co S.gen rfl (PySem.W.codeRec_of KX hcd) (hbt _ _ _ _ ?_)
  refine wpAny_newFunctionEnv_cells S.kind (fun y hy => ?_) fun env he t1 inc => ?_
  · exact (S.par y.1 (List.of_mem_zip hy).1).elim .inl fun z => .inr ⟨z, PySem.W.cellsFrom_some _ _ _ (.inl z)⟩
  · subst he
    obtain ⟨tt, hps, hq⟩ := hbody cdv A fs t H vs Q p (hr.deeper _) hp h
    have hnl : t.heap.NoLimit := e0.mod.nolimit.keeps fun b o z => (e0.bs b o z).1
    refine ⟨hnl.keeps inc.toInCall.keep, codeAny_func (wpAny_mono (hps.run [] t1 _ _ _ (inv_startH S hp e0 (hl _ _ _ _ _ h) rv inc) hq) (fun fl t2 z => ?_) fun _ _ z => z)⟩
    cases fl with
    | ret u =>
      obtain ⟨v, _, H2, J, r2, q2⟩ := z
      exact ⟨v, H2, J.os, J.bare, J.base, J.hok, r2, q2⟩
    | next =>
      obtain ⟨_, H2, J, q2⟩ := z
      exact ⟨.non, H2, J.os, J.bare, J.base, J.hok, rfl, q2⟩
    | brk => exact z.elim fun _ z => z.elim fun _ z => z.2.elim
    | cont => exact z.elim fun _ z => z.elim fun _ z => z.2.elim
end
section
variable {X : Cx} {k : Nat} {f : Addr} {sp : Addr × Obj → Sp} {x : Str} {e : Expr} {es : List Expr} {t : TA} {p pos : Pos} {q : Addr × Obj}
theorem call_fnP {pins : List (Addr × Obj)} {σ : L2.St} {H : Hp} {s : Shared} {Q : VK} {us : List Value} {vs : List V} (F : FnP X.prog X.w X.K X.mg X.base k f sp) (hr : RoomH k X.A) (hq : q ∈ X.pn) (I : Inv X pins σ H s) (rv : Vals vs us) (h : sp q vs H Q C8.E0) :
    wpAny (model X.prog X.w) X.A (call (.ref f) us) (EP X pins σ Q) X.xe s := by
  have g := I.pin q (List.mem_append_left _ hq)
  have hp : PinOk X.stack H s q := ⟨g.1, g.2.1, fun m => (List.mem_cons.mp (I.stkSub q.1 m)).elim g.2.2.1 g.2.2.2.1, g.2.2.2.2⟩
  exact wpAny_call (codeAny_mono (F X.A X.stack s H us vs Q q hr hp I.env0 rv h) fun r s2 z => match r, z with
    | .error y, z => (show False from z).elim
    | .ok (.ret u), z => I.after z
    | .ok .next, z => z.elim
    | .ok .brk, z => z.elim
    | .ok .cont, z => z.elim)
theorem pe_fnP (F : FnP X.prog X.w X.K X.mg X.base k f sp) (hr : RoomH k X.A) (hq : q ∈ X.pn) (hg : Gl X x) (hm : X.mg x = some (.ref f)) (hk : PySem.W.keepIn X.K (.ref f) = true) (ha : PA X (e :: es) t)
    (hdb : (x == ("__debug__" : Str)) = false := by decide) (he : starEach (e :: es) X.env = (false, eval e X.env) :: starEach es X.env := by rfl)
    (hpl : (backTo pos (starEach es X.env)).any (·.1) = false := by rfl) : PE X (.Call (.Name x p) (e :: es) [] pos) (tFn (sp q) C8.E0 t) := ⟨fun pins s σ H Q I h =>
  wpAny_Call_Name_kw (ld_glob I hg hm (PySem.W.callWith_K (h₀ := X.base) I.ok.mod.kin hk
    (thn (ha.run pos pins s σ H _ I h) fun us s1 ⟨vs, H1, I1, r, z⟩ => ⟨I1.kIn, call_fnP F hr hq I1 r z⟩) he hpl) hdb)⟩
/-- repr where some error is handled -/
structure RmS (A : Around) : Prop where
  un : A.units + 40 < cLine
  gd : A.guards = some []
end
end Tw
/-! Tw: isinstance of a caught error that has its dict -/
namespace Tw
open PySem PySem.Spec PySem.Calls PyProof.Rows L2 PySem.W
section
variable {prog : Program} {w : World} {A : Around} {E : Value → Shared → Prop} {s : Shared} {K : Frag} {x D : Addr} {ox : Obj} {od : Option Obj}
theorem find_cls (T : ExcC K D) : findObj K D od "__class__" = some (.bind (.builtin "getset_descriptor.__get__") (.builtin "object.__class__")) := by
  obtain ⟨cd, hc, _⟩ := any_some T.hd
  unfold findObj
  rw [hc, Option.bind_some, T.ha, Option.bind_some]
  simp [T.hn, T.ht]
/-- e.__class__, as isinstance asks it -/
theorem cls_of (T : ExcC K D) {Q : Option Value → Shared → Prop} (X : K.In s.heap) (I : InstAt s.heap x ox D od) (h : Q (some (.ref D)) { s with toks := s.toks + 1 }) : wpAny (model prog w) A (getAttr? (.ref x) "__class__") Q E s := by
  obtain ⟨hp, g, d, t, os⟩ := s
  have la := I.type (M := model prog w)
  have lb := looks_findIn (M := model prog w) X T.hg
  have lc := looks_findIn (M := model prog w) X T.hk
  have ld := looks_find (M := model prog w) X I (find_cls T)
  have isb : Looks (model prog w) hp (isInstance (.ref x) (.type "BaseException")) true := la.andThen (looks_subIn X T.hs)
  have f0 : (false && onTheHeap (Value.builtin "BaseException.__getattribute__")) = false := rfl
  have f1 : (Value.builtin "BaseException.__getattribute__" == Value.builtin "object.__getattribute__") = false := by decide +kernel
  have f2 : (onTheHeap (Value.ref D) && Value.builtin "BaseException.__getattribute__" == Value.builtin "object.__getattribute__") = false := by rw [f1]; rfl
  have f3 : onTheHeap (Value.ref D) = true := rfl
  unfold getAttr? getAttrBy? getAttrBy
  refine wpAny_bind (wpAny_mkText (wpAny_bind (wpAny_attempt (wpAny_holding (wpAny_bind (la.at (wpAny_bind (lb.at ?_))))))))
  show wpAny _ _ (if (onTheHeap (Value.ref D) && Value.builtin "BaseException.__getattribute__" == Value.builtin "object.__getattribute__") = true then _ else _) _ _ _
  rw [f2, if_neg Bool.false_ne_true]
  unfold getAttrByItsOwn hookBefore
  refine wpAny_bind ?_
  rw [if_pos f3]
  refine lc.at (wpAny_bind (wpAny_attempt (wpAny_holding ?_)))
  unfold callGetattribute
  rw [f0, if_neg Bool.false_ne_true]
  unfold boundAndCalled
  rw [PySem.F.excAttr_ValueError.ga.bind (.ref x)]
  refine wpAny_bind (wpAny_pure ?_)
  show wpAny _ _ (call (.builtin "BaseException.__getattribute__") [.ref x, .str "__class__" t]) _ _ _
  refine wpAny_call (codeAny_call_builtin PySem.F.excAttr_ValueError.ga.plain PySem.F.entry_bexc_ga (@check_slot (model prog w) _ _ ⟨hp, g, d, t + 1, os⟩ "BaseException.__getattribute__" "BaseException" "__getattribute__" (.ref x) [.str "__class__" t] [] _ (by decide +kernel) (by decide +kernel) isb (PySem.F.args_bexc_ga (.ref x) (.str "__class__" t)) ?_))
  unfold Builtin.«object.__getattribute__»
  refine wpAny_bind (wpAny_of_eq (a := ((Value.ref x : Value), [Value.str "__class__" t])) (by first | rfl | (simp only [slotArgs]; rfl)) ?_)
  refine wpAny_bind (wpAny_pure (wpAny_bind (la.at (wpAny_bind (ld.at ?_)))))
  show wpAny _ _ (holding [Value.builtin "object.__class__"] (call (.builtin "getset_descriptor.__get__") [.builtin "object.__class__", .ref x, .ref D]) >>= ret) _ _ _
  refine wpAny_bind (wpAny_holding (wpAny_call (class_get (s := ⟨hp, g, d, t + 1, os⟩) (ox := ox) (od := od) X I T.hm ?_)))
  refine wpAny_pure ?_
  show wpAny _ _ (handedOut (.ref D)) _ _ _
  rw [handedOut_of (v := .ref D) rfl]
  first
    | exact wpAny_pure (wpAny_pure h)
    | exact wpAny_pure h
    | exact wpAny_pure (wpAny_bind (wpAny_pure (wpAny_pure h)))
theorem kit_err (T : ExcC K D) : KitX K (.ref x) (.ref D) (fun h => InstAt h x ox D od) where
  ty := fun _ _ _ I => I.type
  it := fun _ _ X _ => by
    obtain ⟨cdD, hcD, _⟩ := any_some T.hd
    unfold clsIn at hcD
    split at hcD
    · rename_i c1 d1 cd1 sl1 ho
      intro A1 Q1 E1 s1 k1 q1
      unfold isType loadHead
      exact wpAny_bind (wpAny_loadPart (k1 _ _ (X _ _ ho)) (wpAny_pure q1))
    · cases hcD
  ne := fun h tp dd its n sl X htp => by
    obtain ⟨cdD, hcD, _⟩ := any_some T.hd
    refine Bool.eq_false_iff.mpr fun q => ?_
    obtain rfl : D = tp := Value.ref.inj (beq_iff_eq.mp q)
    unfold clsIn at hcD
    split at hcD
    · rename_i c1 d1 cd1 sl1 ho
      have z := (X _ _ ho).symm.trans htp
      cases z
    · cases hcD
  ca := fun X I k => cls_of T X I k
end
/-- isinstance(e, c), e the caught error p of the class D with the dict dd -/
def rIsP (K : Frag) (p : Addr × Obj) : List V → Hp → VK → Prop := fun xs H Q => ∃ (D : Addr) (c : V) (cv : Value) (b : Bool) (dd : Addr) (fs : List (PySem.Str × V)), ExcC K D ∧ xs = [.ref p.1, c] ∧ Zc (.ref D) (some dd) p.2 ∧ (∃ vs, p.2.data = .fields vs) ∧ H dd = some (.xd fs) ∧ (∀ u, RelV c u → u = cv) ∧ kitOne K (.ref D) cv = some b ∧ Q (.bl b) H
theorem call_isP {X : Cx} {p : Addr × Obj} (hp : p ∈ X.pn) : CallR X (.builtin "isinstance") (rIsP X.K p) := by
  intro pins s σ H xs us Q I r h
  obtain ⟨D, c, cv, b, dd, fs, T, rfl, hz, ⟨vs, hv⟩, hdd, hcv, e, q⟩ := h
  cases r with
  | cons rx rr =>
    cases rr with
    | cons rt rr =>
      cases rr
      cases rx
      have ec := hcv _ rt
      subst ec
      obtain ⟨hget, _⟩ := I.pin p (List.mem_append_left _ hp)
      have hx : ObjOk X.prog X.w H s.heap dd (.xd fs) := I.hok dd _ hdd
      obtain ⟨mA, hns, _⟩ := hx
      obtain ⟨oD, ho, _⟩ := lookIn_ns hns
      have J : InstAt s.heap p.1 p.2 D (some oD) := ⟨hget, hz.1, by unfold notCls; rw [hv] <;> rfl, by rw [hz.2]; exact ho⟩
      exact kia_one (kit_err T) I.kIn J e (fun z => nomatch z) fun tk => ⟨.bl b, H, I.kept (t' := tk) fun _ _ z => z, rfl, q⟩
end Tw
/-! Tw: list.count of flat items -/
namespace Tw
open PySem PySem.Spec PyProof.Rows L2
section
variable {X : Cx}
def rCntF (K : PySem.W.Frag) : V → List V → Hp → VK → Prop := fun x xs H Q => ∃ (a : Addr) (ys : List V) (y : V), x = .ref a ∧ xs = [y] ∧ SqL K H a ys ∧ flatV y = true ∧ ys.all flatV = true ∧ Q (.int ((ys.countP fun z => eqV z y : Nat) : Int)) H
theorem count_eqU {y : V} : ∀ {ys : List V} {us : List Value}, Vals ys us → ys.all flatV = true → us.countP (eqU y) = ys.countP fun z => eqV z y
  | _, _, .nil, _ => rfl
  | z :: ys, u :: us, .cons r rs, h => by
    have h2 : flatV z = true ∧ ys.all flatV = true := by simpa using h
    rw [List.countP_cons, List.countP_cons, count_eqU rs h2.2, eqU_of r h2.1]
theorem mt_countF : MtR X "list.count" (rCntF X.K) := by
  intro pins s σ H x xs v us Q I rx rxs h
  obtain ⟨a, ys, y, rfl, rfl, hs, fy, fys, q⟩ := h
  cases rx
  obtain ⟨uy, rfl, ry⟩ := rxs.one
  obtain ⟨its, rv, ⟨⟨cls, dd, data, sl⟩, n, ho, hc, hdn, hd⟩, hlen⟩ := I.list hs
  simp only at hc hd
  subst hc hd
  refine call_meets PySem.F.slot_list_count ⟨_, ho, rfl⟩ PySem.F.entry_list_count (PySem.F.args_list_count_2 _ _)
    (SeqAt.list_countAt a its.toArray n dd sl uy (eqU y)) ⟨ho, fun u2 h2 => mem_eqAt ry fy rv fys u2 (by simpa using h2), ?_⟩
  have ec : its.toArray.toList.countP (eqU y) = ys.countP fun z => eqV z y := count_eqU rv fys
  refine ⟨.int ((ys.countP fun z => eqV z y : Nat) : Int), H, I.tok _, ⟨s.toks, ?_⟩, q⟩
  show Value.int ((its.toArray.toList.countP (eqU y) : Nat) : Int) s.toks = _
  rw [ec]
end
end Tw
/-! Tw: the law's name of a caught error -/
namespace Tw
open PySem PySem.Spec PyProof.Rows L2 He TwM StX
open PySem.W (Frag)
local macro_rules | `(tactic| walk_at "rsl") => `(tactic| simp only [*, at3_0, at3_1, at3_2, at2_0, at2_1, updS, upd_two, gSub, rSetL, updN, tPar, tPar3, gTup, gCons, gNil, and_assoc, not_true_eq_false, not_false_eq_true, tNever, List.length_map, tFld, rIxTH, rIxLH, rLenTH, rLenLH, lk1, lfs_g, lfs_s, lfs_p, HO.ins.injEq, HO.tup.injEq, HO.lst.injEq, sp_Book_rounding, sp_Book_action, sp_Book_order, sp_Book_due, sp_Book_zero, sp_Book_beyond, Int.toNat_natCast, sp_visit_after, sp_is_visited, sp_Level_grain, sp_Level_slots, sp_Level_span, sp_Wheel_reach, sp_Wheel___len__, sp_is_integer, sp_is_count, sp_is_within, sp_rounded, tAsg, gName, tVar, tC, tOp, rI, rI0, rU, tUn, oAdd, oSub, oMul, oDiv, oMod, oNeg, oLt, oLe, oGt, oGe, oIsN, oNotN, tFn, tCons, tNil, tIfS, tIf, tTest, tB, tNot, tAnd, tOr, tAndV, tOrV, tNotV,
    tRet, tRetN, tNext, tCB, tDrop, tChain, rEq, rNe, oMax2, oMin2, oInt1, rLenF, L2.start, List.map_cons, List.map_nil, List.length_cons, List.length_nil, List.replicate_succ, List.replicate_zero, List.cons_append, List.nil_append, Nat.reduceAdd, Nat.reduceSub, Nat.zero_add,
    List.set_cons_zero, List.set_cons_succ, List.getElem?_cons_zero, List.getElem?_cons_succ, Option.some.injEq, V.int.injEq, V.ref.injEq, V.str.injEq, V.bl.injEq, exists_eq_left', exists_eq_left, exists_and_left, List.cons.injEq, and_true, true_and, decide_eq_true_eq, sc_ii, sc_ss, sc_bb, sc_ni, sc_in, sc_nn, sc_is, reduceCtorEq,
    Bool.not_eq_true', decide_eq_false_iff_not, if_true, if_false, Bool.false_eq_true, exists_eq', exists_const, false_and, and_false, or_false, false_or, exists_false, Bool.not_not, Bool.not_true, Bool.not_false, sUp_up, sFire_fire, sHigh_high, sPut_put, sZone_now, sBey_refuse, sBey_cut, tTup, tLst, sz0, sz1, sz2, sz3, sz4, sz5, sz6])
local macro_rules | `(tactic| walk_at "st") => `(tactic| ((try dsimp only); rw [seq1]; walk_at "rsl"))
section
variable {K : Frag} {w : World}
def sp__law_kind (K : Frag) (p : Addr × Obj) : Sp := fun vs H Q _ => ∃ (D dd : Addr) (fs : List (PySem.Str × V)) (i : Nat), vs = [.ref p.1] ∧ KnF K D i ∧ Zc (.ref D) (some dd) p.2 ∧ (∃ vs, p.2.data = .fields vs) ∧ H dd = some (.xd fs) ∧ ∀ H', Same H H' → Q (.str (kdN.getD i "")) H'
def n__law_kind : List PySem.Str := ["_law_error", "_law_kinds", "_law_names"]
def t__law_kind (K : Frag) (p : Addr × Obj) : TS :=
  (tSeq (tAsg (tLst (tCons (tCB (rIsP K p) (tCons (tVar 0) (tCons (tC (.ref (ga K "InvalidNumber"))) tNil))) (tCons (tCB (rIsP K p) (tCons (tVar 0) (tCons (tC (.ref (ga K "InvalidText"))) tNil))) (tCons (tCB (rIsP K p) (tCons (tVar 0) (tCons (tC (.ref (ga K "InvalidName"))) tNil))) tNil)))) (gName 1))
  (tSeq (tAsg (tOp rCat (tVar 1) (tLst (tCons (tCB (rIsP K p) (tCons (tVar 0) (tCons (tC (.ref (ga K "InvalidLevels"))) tNil))) (tCons (tCB (rIsP K p) (tCons (tVar 0) (tCons (tC (.ref (ga K "InvalidSwitch"))) tNil))) tNil)))) (gName 1))
  (tSeq (tAsg (tOp rCat (tVar 1) (tLst (tCons (tCB (rIsP K p) (tCons (tVar 0) (tCons (tC (.ref (ga K "InvalidMode"))) tNil))) (tCons (tCB (rIsP K p) (tCons (tVar 0) (tCons (tC (.ref (ga K "InvalidMenu"))) tNil))) (tCons (tCB (rIsP K p) (tCons (tVar 0) (tCons (tC (.ref (ga K "InvalidPlan"))) tNil))) tNil))))) (gName 1))
  (tSeq (tAsg (tOp rCat (tVar 1) (tLst (tCons (tCB (rIsP K p) (tCons (tVar 0) (tCons (tC (.ref (ga K "InvalidCommand"))) tNil))) (tCons (tCB (rIsP K p) (tCons (tVar 0) (tCons (tC (.ref (ga K "TooLong"))) tNil))) (tCons (tCB (rIsP K p) (tCons (tVar 0) (tCons (tC (.ref (ga K "TooMany"))) tNil))) tNil))))) (gName 1))
  (tSeq (tAsg (tOp rCat (tVar 1) (tLst (tCons (tCB (rIsP K p) (tCons (tVar 0) (tCons (tC (.ref (ga K "NothingToUndo"))) tNil))) tNil))) (gName 1))
  (tSeq (tIfS (tOr (tTest (tOp rNe (tBM K "list" (rCntF K) (tVar 1) (tCons (tC (.bl true)) tNil)) (tC (.int 1)))) (tTest (tOp rNe (tCB (rIsP K p) (tCons (tVar 0) (tCons (tC (.ref (ga K "WheelError"))) tNil))) (tOp oLt (tBM K "list" (rIndex K) (tVar 1) (tCons (tC (.bl true)) tNil)) (tC (.int 9)))))) (tRet (tC (.str "odd"))) tNext)
  (tSeq (tAsg (tLst (tCons (tC (.str "number")) (tCons (tC (.str "text")) (tCons (tC (.str "name")) (tCons (tC (.str "levels")) (tCons (tC (.str "switch")) (tCons (tC (.str "mode")) (tCons (tC (.str "menu")) (tCons (tC (.str "plan")) (tCons (tC (.str "command")) (tCons (tC (.str "long")) (tCons (tC (.str "many")) (tCons (tC (.str "undo")) tNil))))))))))))) (gName 2))
  (tRet (tOp rIxLH (tVar 2) (tBM K "list" (rIndex K) (tVar 1) (tCons (tC (.bl true)) tNil)))))))))))
theorem rd__law_kind {p : Addr × Obj} (vs : List V) (H : Hp) (Q : VK) (E : XK) (h : sp__law_kind K p vs H Q E) : t__law_kind K p { nx := fun _ H' => Q .non H', rt := Q } (L2.start n__law_kind vs) H := by
  obtain ⟨D, dd, fs, i, rfl, F, hz, hv, hd, q⟩ := h
  have isP : ∀ (j : Nat) {x : PySem.Str} {H' : Hp} {Q' : VK}, Same H H' → erN[j]? = some x → Q' (.bl (decide (j = i))) H' → rIsP K p [.ref p.1, .ref (ga K x)] H' Q' := fun j {x H' Q'} s e q' => ⟨D, _, _, _, dd, fs, F.exc, rfl, hz, hv, s _ _ hd, fun u r => r, F.is j x e, q'⟩
  have isW : ∀ {H' : Hp} {Q' : VK}, Same H H' → Q' (.bl (decide (i < 9))) H' → rIsP K p [.ref p.1, .ref (ga K "WheelError")] H' Q' := fun {H' Q'} s q' => ⟨D, _, _, _, dd, fs, F.exc, rfl, hz, hv, s _ _ hd, fun u r => r, F.wh, q'⟩
  unfold t__law_kind n__law_kind
  rw [seq1]
  walk_at "rsl"
  refine isP 0 (Same.refl _) rfl (isP 1 (Same.refl _) rfl (isP 2 (Same.refl _) rfl fun A hA => ?_))
  have s1 := Same.new (o := .lst [V.bl (decide (0 = i)), V.bl (decide (1 = i)), V.bl (decide (2 = i))]) hA
  have A1 := updS H A (.lst [V.bl (decide (0 = i)), V.bl (decide (1 = i)), V.bl (decide (2 = i))])
  generalize upd H A (.lst [V.bl (decide (0 = i)), V.bl (decide (1 = i)), V.bl (decide (2 = i))]) = H1 at *
  walk_at "st"
  refine isP 3 s1 rfl (isP 4 s1 rfl (fun B hB => ?_))
  refine ⟨A, B, _, _, rfl, rfl, Same.new hB _ _ A1, updS _ _ _, (show 5 ≤ 16777216 by decide), fun C hC => ?_⟩
  have s2 := s1.trans ((Same.new (o := .lst [V.bl (decide (3 = i)), V.bl (decide (4 = i))]) hB).trans (Same.new (o := .lst ([V.bl (decide (0 = i)), V.bl (decide (1 = i)), V.bl (decide (2 = i))] ++ [V.bl (decide (3 = i)), V.bl (decide (4 = i))])) hC))
  have C1 := updS (upd H1 B (.lst [V.bl (decide (3 = i)), V.bl (decide (4 = i))])) C (.lst ([V.bl (decide (0 = i)), V.bl (decide (1 = i)), V.bl (decide (2 = i))] ++ [V.bl (decide (3 = i)), V.bl (decide (4 = i))]))
  generalize upd (upd H1 B (.lst [V.bl (decide (3 = i)), V.bl (decide (4 = i))])) C (.lst ([V.bl (decide (0 = i)), V.bl (decide (1 = i)), V.bl (decide (2 = i))] ++ [V.bl (decide (3 = i)), V.bl (decide (4 = i))])) = H2 at *
  simp only [List.cons_append, List.nil_append] at C1
  walk_at "st"
  refine isP 5 s2 rfl (isP 6 s2 rfl (isP 7 s2 rfl (fun B2 hB2 => ?_)))
  refine ⟨C, B2, _, _, rfl, rfl, Same.new hB2 _ _ C1, updS _ _ _, (show 8 ≤ 16777216 by decide), fun C2 hC2 => ?_⟩
  have s3 := s2.trans ((Same.new (o := .lst [V.bl (decide (5 = i)), V.bl (decide (6 = i)), V.bl (decide (7 = i))]) hB2).trans (Same.new (o := .lst ([V.bl (decide (0 = i)), V.bl (decide (1 = i)), V.bl (decide (2 = i)), V.bl (decide (3 = i)), V.bl (decide (4 = i))] ++ [V.bl (decide (5 = i)), V.bl (decide (6 = i)), V.bl (decide (7 = i))])) hC2))
  have C21 := updS (upd H2 B2 (.lst [V.bl (decide (5 = i)), V.bl (decide (6 = i)), V.bl (decide (7 = i))])) C2 (.lst ([V.bl (decide (0 = i)), V.bl (decide (1 = i)), V.bl (decide (2 = i)), V.bl (decide (3 = i)), V.bl (decide (4 = i))] ++ [V.bl (decide (5 = i)), V.bl (decide (6 = i)), V.bl (decide (7 = i))]))
  generalize upd (upd H2 B2 (.lst [V.bl (decide (5 = i)), V.bl (decide (6 = i)), V.bl (decide (7 = i))])) C2 (.lst ([V.bl (decide (0 = i)), V.bl (decide (1 = i)), V.bl (decide (2 = i)), V.bl (decide (3 = i)), V.bl (decide (4 = i))] ++ [V.bl (decide (5 = i)), V.bl (decide (6 = i)), V.bl (decide (7 = i))])) = H3 at *
  simp only [List.cons_append, List.nil_append] at C21
  walk_at "st"
  refine isP 8 s3 rfl (isP 9 s3 rfl (isP 10 s3 rfl (fun B3 hB3 => ?_)))
  refine ⟨C2, B3, _, _, rfl, rfl, Same.new hB3 _ _ C21, updS _ _ _, (show 11 ≤ 16777216 by decide), fun C3 hC3 => ?_⟩
  have s4 := s3.trans ((Same.new (o := .lst [V.bl (decide (8 = i)), V.bl (decide (9 = i)), V.bl (decide (10 = i))]) hB3).trans (Same.new (o := .lst ([V.bl (decide (0 = i)), V.bl (decide (1 = i)), V.bl (decide (2 = i)), V.bl (decide (3 = i)), V.bl (decide (4 = i)), V.bl (decide (5 = i)), V.bl (decide (6 = i)), V.bl (decide (7 = i))] ++ [V.bl (decide (8 = i)), V.bl (decide (9 = i)), V.bl (decide (10 = i))])) hC3))
  have C31 := updS (upd H3 B3 (.lst [V.bl (decide (8 = i)), V.bl (decide (9 = i)), V.bl (decide (10 = i))])) C3 (.lst ([V.bl (decide (0 = i)), V.bl (decide (1 = i)), V.bl (decide (2 = i)), V.bl (decide (3 = i)), V.bl (decide (4 = i)), V.bl (decide (5 = i)), V.bl (decide (6 = i)), V.bl (decide (7 = i))] ++ [V.bl (decide (8 = i)), V.bl (decide (9 = i)), V.bl (decide (10 = i))]))
  generalize upd (upd H3 B3 (.lst [V.bl (decide (8 = i)), V.bl (decide (9 = i)), V.bl (decide (10 = i))])) C3 (.lst ([V.bl (decide (0 = i)), V.bl (decide (1 = i)), V.bl (decide (2 = i)), V.bl (decide (3 = i)), V.bl (decide (4 = i)), V.bl (decide (5 = i)), V.bl (decide (6 = i)), V.bl (decide (7 = i))] ++ [V.bl (decide (8 = i)), V.bl (decide (9 = i)), V.bl (decide (10 = i))])) = H4 at *
  simp only [List.cons_append, List.nil_append] at C31
  walk_at "st"
  refine isP 11 s4 rfl (fun B4 hB4 => ?_)
  refine ⟨C3, B4, _, _, rfl, rfl, Same.new hB4 _ _ C31, updS _ _ _, (show 12 ≤ 16777216 by decide), fun C4 hC4 => ?_⟩
  have s5 := s4.trans ((Same.new (o := .lst [V.bl (decide (11 = i))]) hB4).trans (Same.new (o := .lst ([V.bl (decide (0 = i)), V.bl (decide (1 = i)), V.bl (decide (2 = i)), V.bl (decide (3 = i)), V.bl (decide (4 = i)), V.bl (decide (5 = i)), V.bl (decide (6 = i)), V.bl (decide (7 = i)), V.bl (decide (8 = i)), V.bl (decide (9 = i)), V.bl (decide (10 = i))] ++ [V.bl (decide (11 = i))])) hC4))
  have C41 := updS (upd H4 B4 (.lst [V.bl (decide (11 = i))])) C4 (.lst ([V.bl (decide (0 = i)), V.bl (decide (1 = i)), V.bl (decide (2 = i)), V.bl (decide (3 = i)), V.bl (decide (4 = i)), V.bl (decide (5 = i)), V.bl (decide (6 = i)), V.bl (decide (7 = i)), V.bl (decide (8 = i)), V.bl (decide (9 = i)), V.bl (decide (10 = i))] ++ [V.bl (decide (11 = i))]))
  generalize upd (upd H4 B4 (.lst [V.bl (decide (11 = i))])) C4 (.lst ([V.bl (decide (0 = i)), V.bl (decide (1 = i)), V.bl (decide (2 = i)), V.bl (decide (3 = i)), V.bl (decide (4 = i)), V.bl (decide (5 = i)), V.bl (decide (6 = i)), V.bl (decide (7 = i)), V.bl (decide (8 = i)), V.bl (decide (9 = i)), V.bl (decide (10 = i))] ++ [V.bl (decide (11 = i))])) = H5 at *
  simp only [List.cons_append, List.nil_append] at C41
  have hi := F.lt
  have hi : i = 0 ∨ i = 1 ∨ i = 2 ∨ i = 3 ∨ i = 4 ∨ i = 5 ∨ i = 6 ∨ i = 7 ∨ i = 8 ∨ i = 9 ∨ i = 10 ∨ i = 11 := by omega
  have ix : ∀ {H' : Hp} {Q' : VK}, Same H5 H' → Q' (.int (i : Nat)) H' → rIndex K (.ref C4) [.bl true] H' Q' := fun {H' Q'} s q' => by
    refine ⟨C4, _, .bl true, i, .bl true, rfl, rfl, SqL.of (s _ _ C41), rfl, rfl, ?_, rfl, fun m z hm hz => ?_, q'⟩
    · rcases hi with rfl | rfl | rfl | rfl | rfl | rfl | rfl | rfl | rfl | rfl | rfl | rfl <;> rfl
    · have hb : z = .bl (decide (m = i)) := by
        have hm9 : m = 0 ∨ m = 1 ∨ m = 2 ∨ m = 3 ∨ m = 4 ∨ m = 5 ∨ m = 6 ∨ m = 7 ∨ m = 8 ∨ m = 9 ∨ m = 10 := by omega
        rcases hm9 with rfl | rfl | rfl | rfl | rfl | rfl | rfl | rfl | rfl | rfl | rfl <;> exact (Option.some.inj hz).symm
      rw [hb, decide_eq_false (by omega)]
      rfl
  have ct : ∀ {Q' : VK}, Q' (.int 1) H5 → rCntF K (.ref C4) [.bl true] H5 Q' := fun {Q'} q' => by
    refine ⟨C4, _, .bl true, rfl, rfl, SqL.of C41, rfl, rfl, ?_⟩
    have e : ([V.bl (decide (0 = i)), V.bl (decide (1 = i)), V.bl (decide (2 = i)), V.bl (decide (3 = i)), V.bl (decide (4 = i)), V.bl (decide (5 = i)), V.bl (decide (6 = i)), V.bl (decide (7 = i)), V.bl (decide (8 = i)), V.bl (decide (9 = i)), V.bl (decide (10 = i)), V.bl (decide (11 = i))] : List V).countP (fun z => eqV z (.bl true)) = 1 := by
      rcases hi with rfl | rfl | rfl | rfl | rfl | rfl | rfl | rfl | rfl | rfl | rfl | rfl <;> decide
    rw [e]
    exact q'
  have nm : kdN[i]? = some (kdN.getD i "") := by
    rcases hi with rfl | rfl | rfl | rfl | rfl | rfl | rfl | rfl | rfl | rfl | rfl | rfl <;> rfl
  unfold tBM
  walk_at "st"
  refine ⟨.inl ⟨rfl, _, SqL.of C41⟩, ct ⟨rfl, ?_⟩⟩
  rw [if_neg (fun z => z rfl)]
  refine isW s5 ⟨.inl ⟨rfl, _, SqL.of C41⟩, ix (Same.refl _) ⟨_, rfl, rfl, ?_⟩⟩
  have hlt : decide (((i : Nat) : Int) < 9) = decide (i < 9) := by
    by_cases h9 : i < 9
    · rw [decide_eq_true h9, decide_eq_true (show ((i : Nat) : Int) < 9 by omega)]
    · rw [decide_eq_false h9, decide_eq_false (show ¬ ((i : Nat) : Int) < 9 by omega)]
  rw [hlt, if_neg (fun z => z rfl)]
  walk_at "st"
  have h12 : (12 : Nat) ≤ sizeLine := by decide
  refine ⟨h12, fun L hL => ?_⟩
  have x6 := Same.new (o := .lst [V.str (Str.ofString "number"), V.str (Str.ofString "text"), V.str (Str.ofString "name"), V.str (Str.ofString "levels"), V.str (Str.ofString "switch"), V.str (Str.ofString "mode"), V.str (Str.ofString "menu"), V.str (Str.ofString "plan"), V.str (Str.ofString "command"), V.str (Str.ofString "long"), V.str (Str.ofString "many"), V.str (Str.ofString "undo")]) hL
  refine ⟨.inl ⟨rfl, _, SqL.of (x6 _ _ C41)⟩, ix x6 ⟨_, _, rfl, updS _ _ _, _, ?_, q _ (s5.trans x6)⟩⟩
  rcases hi with rfl | rfl | rfl | rfl | rfl | rfl | rfl | rfl | rfl | rfl | rfl | rfl <;> rfl
end
end Tw
/-! Tw: a lambda is called, an error that comes out is named and shown -/
namespace Tw
open PySem PySem.Spec PyProof.Rows L2 LamX He
open L2H (RoomH)
/-- repr where an error is handled: as rReprG -/
theorem call_reprU {X : Cx} (gd : X.A.guards = some []) (hu : X.A.units + 40 < cLine) : CallR X (.builtin "repr") (rReprG X.K) := by
  intro pins s σ H xs us Q I r h
  obtain ⟨x, d, rfl, hd, h1, h2, h3, h4, q⟩ := h
  obtain ⟨u, rfl, ru⟩ := vals1 r
  obtain ⟨as, hR⟩ := Dp.reads I d x u hd ru
  cases hR with
  | none => exact PySem.P.repr_of_none ⟨.str _, H, I.tok _, ⟨_, rfl⟩, q⟩
  | bool b => exact PySem.P.repr_of_bool ⟨.str _, H, I.tok _, ⟨_, rfl⟩, q⟩
  | int i t => exact PySem.P.repr_of_int (of_decide_eq_true h1) ⟨.str _, H, I.tok _, ⟨_, rfl⟩, q⟩
  | str y t => exact PySem.P.repr_of_str ⟨.str _, H, I.tok _, ⟨_, rfl⟩, q⟩ h4
  | list a1 a2 a3 a4 => exact repr_of_reads' (.list a1 a2 a3 a4) h1 (fun z => by rw [h2] at z; cases z) gd (by omega) (fun _ _ z => z) (fun h' u tk hk => ⟨.str _, H, I.kept hk, ⟨_, rfl⟩, q⟩) h4
  | tuple a1 a2 a3 a4 => exact repr_of_reads' (.tuple a1 a2 a3 a4) h1 (fun z => by rw [h2] at z; cases z) gd (by omega) (fun _ _ z => z) (fun h' u tk hk => ⟨.str _, H, I.kept hk, ⟨_, rfl⟩, q⟩) h4
  | dict => simp [PyData.hasDict] at h2
/-- repr({}) -/
def rReprD0 : List V → Hp → VK → Prop := fun xs H Q => ∃ a, xs = [.ref a] ∧ H a = some (.dK []) ∧ Q (.str (PyData.dict []).shown) H
theorem call_reprD0 {X : Cx} (gd : X.A.guards = some []) (hu : X.A.units + 40 < cLine) : CallR X (.builtin "repr") rReprD0 := by
  intro pins s σ H xs us Q I r h
  obtain ⟨a, rfl, ha, q⟩ := h
  rw [Vals.ref1 r]
  have hx : ObjOk X.prog X.w H s.heap a (.dK []) := I.hok a _ ha
  obtain ⟨_, hn, vs, hkv, ho⟩ := hx
  cases hkv
  obtain ⟨o, es, ep, ho, hex, hd, _, hp, _⟩ := ho
  have hes : es = #[] := by
    cases h0 : es.toList with
    | nil => exact Array.toList_inj.mp h0
    | cons x l => rw [h0] at hp; cases hp
  subst hes
  have hr : Reads s.heap (.ref a) (.dict []) (a :: [] ++ []) := .dict (kvs := []) ho hex.1 hd .nil .nil
  have hdp : (PyData.dict []).depth ≤ 8 := by decide
  exact repr_of_reads' hr rfl (fun _ m => by
    have e : sysModules = a := by simpa using m
    rw [← e] at hn
    simp at hn) gd (by omega) (fun _ _ z => z) (fun h' u tk hk => ⟨.str _, H, I.kept hk, ⟨_, rfl⟩, q⟩) (by decide)
/-- repr({i: j}) -/
def rReprD1 : List V → Hp → VK → Prop := fun xs H Q => ∃ a i j, xs = [.ref a] ∧ H a = some (.dK [(Sum.inl i, .int j)]) ∧ i.natAbs.log2 < 1920 ∧ j.natAbs.log2 < 1920 ∧ (PyData.dict [(.int i, .int j)]).shown.length ≤ sizeLine ∧ Q (.str (PyData.dict [(.int i, .int j)]).shown) H
theorem call_reprD1 {X : Cx} (gd : X.A.guards = some []) (hu : X.A.units + 40 < cLine) : CallR X (.builtin "repr") rReprD1 := by
  intro pins s σ H xs us Q I r h
  obtain ⟨a, i, j, rfl, ha, hi, hj, hz, q⟩ := h
  rw [Vals.ref1 r]
  have hx : ObjOk X.prog X.w H s.heap a (.dK [(Sum.inl i, .int j)]) := I.hok a _ ha
  obtain ⟨hlen, hn, vs, hkv, ho⟩ := hx
  cases hkv with
  | cons h1 h2 =>
    cases h2
    obtain ⟨o, es, ep, ho, hex, hd, hko, hp, hnd⟩ := ho
    generalize hes : es.toList = el at hp
    cases hp with
    | cons k1 v1 r1 =>
      rename_i b e el2
      cases r1
      obtain ⟨bk, bv⟩ := b
      obtain ⟨e1, rv⟩ := h1
      have e1 : (Sum.inl i : Key) = bk := e1
      subst e1
      obtain ⟨t, ek⟩ : ∃ t, e.key = .int i t := by
        have k1 : keyIs (Sum.inl i) e.key = true := k1
        rcases keyIs_shape k1 with ⟨i', t, e1, e2⟩ | ⟨x, t, e1, e2⟩
        · cases e1
          exact ⟨t, e2⟩
        · cases e1
      obtain ⟨t2, ev⟩ : ∃ t, bv = .int j t := rv
      have ev2 : e.val = .int j t2 := v1.trans ev
      have hr : Reads s.heap (.ref a) (.dict [(.int i, .int j)]) (a :: ([] ++ []) ++ ([] ++ [])) := .dict (kvs := [(.int i, .int j)]) ho hex.1 hd (by rw [hes]; show ReadsAll _ [e.key] _ _; rw [ek]; exact .cons (.int i t) .nil) (by rw [hes]; show ReadsAll _ [e.val] _ _; rw [ev2]; exact .cons (.int j t2) .nil)
      have hs : (PyData.dict [(.int i, .int j)]).showable = true := by
        show (decide (i.natAbs.log2 < 1920) && decide (j.natAbs.log2 < 1920) && true) = true
        rw [decide_eq_true hi, decide_eq_true hj]
        rfl
      have hdp : (PyData.dict [(.int i, .int j)]).depth ≤ 8 := by
        show max 0 (max (max 0 0) 0) + 1 ≤ 8
        decide
      exact repr_of_reads' hr hs (fun _ m => by
        have e : sysModules = a := by simpa using m
        rw [← e] at hn
        simp at hn) gd (by omega) (fun _ _ z => z) (fun h' u tk hk => ⟨.str _, H, I.kept hk, ⟨_, rfl⟩, q⟩) hz
/-- repr(x), x plain data without a dict, or an empty dict, or a dict of one int -/
def rReprE (K : PySem.W.Frag) : List V → Hp → VK → Prop := fun xs H Q => rReprG K xs H Q ∨ rReprD0 xs H Q ∨ rReprD1 xs H Q
theorem call_reprE {X : Cx} (gd : X.A.guards = some []) (hu : X.A.units + 40 < cLine) : CallR X (.builtin "repr") (rReprE X.K) := fun pins s σ H xs us Q I r h => h.elim (fun z => call_reprU gd hu pins s σ H xs us Q I r z) fun z => z.elim (fun z => call_reprD0 gd hu pins s σ H xs us Q I r z) fun z => call_reprD1 gd hu pins s σ H xs us Q I r z
theorem rReprE.mono {K : PySem.W.Frag} {xs : List V} {H : Hp} {Q Q' : VK} (h : rReprE K xs H Q) (i : ∀ v, Q v H → Q' v H) : rReprE K xs H Q' := by
  rcases h with ⟨y, dat, e1, e2, e3, e4, e5, e6, e7⟩ | ⟨a, e1, e2, e3⟩ | ⟨a, k, j, e1, e2, e3, e4, e5, e6⟩
  · exact .inl ⟨y, dat, e1, e2, e3, e4, e5, e6, i _ e7⟩
  · exact .inr (.inl ⟨a, e1, e2, i _ e3⟩)
  · exact .inr (.inr ⟨a, k, j, e1, e2, e3, e4, e5, i _ e6⟩)
/-- e.f of the caught error, whatever its class -/
def tXfA (K : PySem.W.Frag) (a : Addr) (cls : Value) (d : Option Addr) (n : PySem.Str) (te : TE) : TE := fun σ H Q => te σ H fun x H1 => x = .ref a ∧ ∃ (C dd : Addr) (fs : List (PySem.Str × V)) (v : V), cls = .ref C ∧ XfC K C ∧ PySem.W.findIn K (.ref C) n = some none ∧ d = some dd ∧ H1 dd = some (.xd fs) ∧ fs.lookup n = some v ∧ Q v H1
theorem pe_xfA {X : Cx} {a : Addr} {oe : Obj} {cls : Value} {d : Option Addr} {pn : List (Addr × Obj)} {e : Expr} {te : TE} {pos : Pos} {n : PySem.Str} (hz : Zc cls d oe) (hf : ∃ vs, oe.data = .fields vs) (he : PE (X.suite a ((a, oe) :: pn)) e te)
    (hb : attributeBase e n X.env (eval e X.env) = eval e X.env := by rfl) : PE (X.suite a ((a, oe) :: pn)) (.Attribute e n pos) (tXfA X.K a cls d n te) := by
  refine ⟨fun pins s σ H Q I h => attr_of hb (thn (he.run pins s σ H _ I h) fun u s1 g => ?_)⟩
  obtain ⟨x, H1, I1, rx, rfl, C, dd, fs, v, rfl, T, hno, rfl, ea, l, q⟩ := g
  obtain rfl : u = Value.ref a := rx
  obtain ⟨vs, hd⟩ := hf
  have ha := (I1.pin (a, oe) (List.mem_append_left _ List.mem_cons_self)).1
  have hx : ObjOk X.prog X.w H1 s1.heap dd (.xd fs) := I1.hok dd _ ea
  obtain ⟨mA, hns, hr⟩ := hx
  obtain ⟨od, ho, hl⟩ := lookIn_ns hns
  obtain ⟨u, hu, ru⟩ := RelO.some_of (v := v) (o := mA n) (by rw [← l]; exact hr n)
  have J : PySem.W.InstAt s1.heap a oe C (some od) := ⟨ha, hz.1, by unfold PySem.W.notCls; rw [hd] <;> rfl, by rw [hz.2]; exact ho⟩
  exact HandSPX.exc_get I1.kIn J T.ga T.gg T.exC (PySem.W.findObj_own T.hdC hno rfl (by rw [hl, hu])) (handed_of ru) ⟨v, H1, I1.tok _, ru, q⟩
/-- the kind of the caught error -/
def spK (K : PySem.W.Frag) (a : Addr) (cls : Value) (d : Option Addr) : Sp := fun vs H Q _ => ∃ (D dd : Addr) (fs : List (PySem.Str × V)) (i : Nat), vs = [.ref a] ∧ cls = .ref D ∧ d = some dd ∧ KnF K D i ∧ H dd = some (.xd fs) ∧ ∀ H', Same H H' → Q (.str (kdN.getD i "")) H'
theorem pe_kind {X : Cx} {a fk : Addr} {oe : Obj} {cls : Value} {d : Option Addr} {pn : List (Addr × Obj)} {x : PySem.Str} {e : Expr} {t : TA} {k : Nat} {p pos : Pos} (F : FnP X.prog X.w X.K X.mg X.base k fk (sp__law_kind X.K)) (hr : RoomH k (X.suite a ((a, oe) :: pn)).A) (hz : Zc cls d oe) (hf : ∃ vs, oe.data = .fields vs)
    (hg : Gl X x) (hm : X.mg x = some (.ref fk)) (hk : PySem.W.keepIn X.K (.ref fk) = true) (ha : PA (X.suite a ((a, oe) :: pn)) [e] t) (hdb : (x == ("__debug__" : PySem.Str)) = false := by decide) (he : starEach [e] X.env = (false, eval e X.env) :: starEach [] X.env := by rfl) :
    PE (X.suite a ((a, oe) :: pn)) (.Call (.Name x p) [e] [] pos) (tFn (spK X.K a cls d) C8.E0 t) := ⟨fun pins s σ H Q I h =>
  wpAny_Call_Name_kw (ld_glob (X := X.suite a ((a, oe) :: pn)) I hg hm (PySem.W.callWith_K (h₀ := X.base) I.ok.mod.kin hk
    (thn (ha.run pos pins s σ H _ I h) fun us s1 ⟨vs, H1, I1, r, z⟩ => ⟨I1.kIn, call_fnP (X := X.suite a ((a, oe) :: pn)) (q := (a, oe)) F hr List.mem_cons_self I1 r (by
      obtain ⟨D, dd, fs, i, e1, rfl, rfl, e2, e3, e4⟩ := z
      exact ⟨D, dd, fs, i, e1, e2, hz, hf, e3, e4⟩)⟩) he rfl) hdb)⟩
/-- what the error clause makes of an error: its kind and the text of its value -/
def tsF (K : PySem.W.Frag) (fld : PySem.Str) (a : Addr) (cls : Value) (d : Option Addr) : TS := tRet (tLst (tCons (tFn (spK K a cls d) C8.E0 (tCons (tVar 1) tNil)) (tCons (tCB (rReprE K) (tCons (tXfA K a cls d fld (tVar 1)) tNil)) tNil)))
/-- no wish: the clause is never looked at -/
def tsN : Addr → Value → Option Addr → TS := fun _ _ _ _ _ _ => False
theorem pss_off {X : Cx} {b : List Stmt} {a : Addr} {cls : Value} {d : Option Addr} : PSs X b (tsN a cls d) := ⟨fun _ _ _ _ _ _ h => h.elim⟩
def clK (K : PySem.W.Frag) : List Cl := [(.ref (ga K "WheelError"), 1, tsF K "value"), (.ref (ga K "TooLong"), 1, tsF K "delay"), (.ref (ga K "TooMany"), 1, tsF K "limit"), (.ref (ga K "NothingToUndo"), 1, tsN)]
/-- the clause tells the error's field fld -/
def ErFld (K : PySem.W.Frag) (fld : PySem.Str) (D : Addr) (fs : List (PySem.Str × V)) (i : Nat) (H' : Hp) (Q : VK) : Prop := ∃ v : V, XfC K D ∧ PySem.W.findIn K (.ref D) fld = some none ∧ fs.lookup fld = some v ∧
  ∀ H2, Same H' H2 → rReprE K [v] H2 fun x H3 => ∀ R, H3 R = none → Q (.ref R) (upd H3 R (.lst [.str (kdN.getD i ""), x]))
def ErOut (K : PySem.W.Frag) (Q : VK) : XK := fun cls d H' => ∃ (D dd : Addr) (fs : List (PySem.Str × V)) (i : Nat), cls = .ref D ∧ d = some dd ∧ KnF K D i ∧ H' dd = some (.xd fs) ∧
  ((exmN K D "WheelError" true ∧ ErFld K "value" D fs i H' Q) ∨ (exmN K D "WheelError" false ∧ exmN K D "TooLong" true ∧ ErFld K "delay" D fs i H' Q) ∨
    (exmN K D "WheelError" false ∧ exmN K D "TooLong" false ∧ exmN K D "TooMany" true ∧ ErFld K "limit" D fs i H' Q))
def TCg (K : PySem.W.Frag) : (XK → Hp → VK → Prop) → Hp → VK → Prop := fun tl H Q => tl (ErOut K Q) H fun _ H' => Q .non H'
theorem caught_gives {X : Cx} {Ng : List PySem.Str} {x a q : PySem.Str} {sg : Scope} {g : Addr} {cdg : Value} {h1 : ExceptHandler} {hs : List ExceptHandler} {st : List Stmt} {p1 p2 p3 p8 : Pos} (hNd : Ng.Nodup) (hN : Ng.length = 2)
    (hcl : ∀ (s : Shared) (H : Hp), ClsOk (cxOf C8.CX0 X.prog X.w X.K X.mg X.base Ng x sg g cdg X.A X.stack s H C8.E0).nox (h1 :: hs) (clK X.K)) (hst : ∀ (s : Shared) (H : Hp), PSs (cxOf C8.CX0 X.prog X.w X.K X.mg X.base Ng x sg g cdg X.A X.stack s H C8.E0).nox st (tRet (tC .non)))
    (h0 : ∀ f : Addr, (L2.start Ng [V.ref f])[0]? = some (some (V.ref f))) :
    GivesTo X Ng x sg g cdg (.Try [.Expr (.Call (.Name a p1) [] [] p2) p3] (h1 :: hs) [] [] p8 :: st) a q (TCg X.K) := by
  intro f c' s H Q tl act hc h
  refine ⟨_, pss_cons (ps_try_all (X := (cxOf C8.CX0 X.prog X.w X.K X.mg X.base Ng x sg g cdg X.A X.stack s H C8.E0).nox)
      (tb := fun W D σ H => ∃ Ech : XK, (∀ cls d σ' H', Ech cls d H' → W cls d σ' H') ∧ σ[0]? = some (some (.ref f)) ∧ H c' = some (CodeO c' q) ∧ tl Ech H fun _ H' => D.nx σ H') rfl rfl hNd L2.takes0 (fun W pn xe tk _ => ?_) (hcl s H)) (hst s H), ?_⟩
  · refine ⟨fun pins s' σ H' D I h' => ?_⟩
    obtain ⟨Ech, hW, e1, e2, e3⟩ := h'
    exact (pss_one (ps_expr (pos := p3) (act W pn xe Ech p1 p2 tk hW))).run pins s' σ H' D I ⟨e1, e2, e3⟩
  · refine ⟨ErOut X.K Q, fun cls d σ' H' hE => ?_, h0 f, hc, h⟩
    obtain ⟨D, dd, fs, i, rfl, rfl, F, hdd, hE⟩ := hE
    have say : ∀ (fld : PySem.Str), ErFld X.K fld D fs i H' Q → σ'.length = Ng.length → ∀ (e : Addr) (DD : Ends), DD.rt = Q → tsF X.K fld e (.ref D) (some dd) DD (σ'.set 1 (some (V.ref e))) H' := fun fld hF hlen e DD hrt => by
      obtain ⟨v, T, hno, hl, hr⟩ := hF
      have hv : (σ'.set 1 (some (V.ref e)))[1]? = some (some (V.ref e)) := by rw [List.getElem?_set_self (by rw [hlen]; omega)]
      refine ⟨_, hv, D, dd, fs, i, rfl, rfl, rfl, F, hdd, fun H2 s2 => ⟨_, hv, rfl, D, dd, fs, v, rfl, T, hno, rfl, s2 _ _ hdd, hl, ?_⟩⟩
      exact (hr H2 s2).mono fun x hx => ⟨(show 2 ≤ 16777216 by decide), fun R hR => by rw [hrt]; exact hx R hR⟩
    rcases hE with ⟨w1, hF⟩ | ⟨w1, w2, hF⟩ | ⟨w1, w2, w3, hF⟩
    · exact ⟨true, w1, fun _ hlen e he => say _ hF hlen e _ rfl, fun z => by cases z⟩
    · exact ⟨false, w1, fun z => (by cases z), fun _ => ⟨true, w2, fun _ hlen e he => say _ hF hlen e _ rfl, fun z => by cases z⟩⟩
    · exact ⟨false, w1, fun z => (by cases z), fun _ => ⟨false, w2, fun z => (by cases z), fun _ => ⟨true, w3, fun _ hlen e he => say _ hF hlen e _ rfl, fun z => by cases z⟩⟩⟩
end Tw
/-! Tw: a call in a try whose errors are told with the slots as they stand -/
namespace Tw
open PySem PySem.Spec PyProof.Rows L2
section
variable {X : Cx} {k : Nat} {f : Addr} {sp : Sp} {W : WX} {x : PySem.Str} {e : Expr} {es : List Expr} {t : TA} {p pos : Pos}
def tFnW (sp : Sp) (W : WX) (t : TA) : TE := fun σ H Q => t σ H fun vs H1 => ∃ E : XK, sp vs H1 Q E ∧ ∀ cls d H', E cls d H' → W cls d σ H'
theorem pe_fnW (tk : Takes X W) (F : FnR X.prog X.w X.K X.mg X.base (L2.CX X.prog X.w) k f sp) (hr : Room k X.A) (hg : Gl X x) (hm : X.mg x = some (.ref f)) (hk : PySem.W.keepIn X.K (.ref f) = true) (ha : PA X (e :: es) t)
    (hdb : (x == ("__debug__" : PySem.Str)) = false := by decide) (he : starEach (e :: es) X.env = (false, eval e X.env) :: starEach es X.env := by rfl)
    (hpl : (backTo pos (starEach es X.env)).any (·.1) = false := by rfl) : PE X (.Call (.Name x p) (e :: es) [] pos) (tFnW sp W t) := ⟨fun pins s σ H Q I h =>
  wpAny_Call_Name_kw (ld_glob I hg hm (PySem.W.callWith_K (h₀ := X.base) I.ok.mod.kin hk
    (thn (ha.run pos pins s σ H _ I h) fun us s1 ⟨vs, H1, I1, r, E, q, hW⟩ => ⟨I1.kIn, wpAny_call (by
      refine codeAny_mono (F X.A X.stack s1 H1 us vs Q E hr I1.env0 r q) fun r s' hq => ?_
      cases r with
      | error e => exact tk e s' (XE.of_call I1 (fun cls d H' h => hW cls d H' h) hq)
      | ok fl =>
        cases fl with
        | ret u => exact I1.after hq
        | next => exact False.elim hq
        | brk => exact False.elim hq
        | cont => exact False.elim hq)⟩) he hpl) hdb)⟩
/-- try: f(..), except C as n: suite -/
def tTryF (K : PySem.W.Frag) (n : Nat) (sp : Sp) (t : TA) (l : List Cl) : TS := fun D σ H => tDrop (tFnW sp (wAll K n (fun _ _ _ _ => False) D l) t) D σ H
end
end Tw
/-! Tw: own methods for + - * - and abs -/
namespace GB
open PySem PySem.Calls PyProof.Rows PySem.W
section
variable {prog : Program} {w : World} {M : Model} {A : Around} {E : Value → Shared → Prop} {s : Shared} {K : Frag} {x y C L f : Addr} {h₀ : Heap} {m : Str → Option Value} {ox oy : Obj} {od oe : Option Obj}
/-- x op y, both of the class C -/
theorem binS {op : Operator} {Q : Value → Shared → Prop} (F : Fr h₀ L s.heap m) (X₀ : K.In h₀) (I : InstAt s.heap x ox C od) (J : InstAt s.heap y oy C oe) (hc : selfFirst K C = true)
    (hs : findIn K (.ref C) (PySem.dunder op.info.2) = some (some (.ref f))) (hf : isFn K (.ref f) = true)
    (h : wpAny (model prog w) A (call (.ref f) [.ref x, .ref y]) (PySem.W.CmpBack Q) E s) : wpAny (model prog w) A (binaryOp op (.ref x) (.ref y)) Q E s := by
  have X := X₀.keeps F.keep
  obtain ⟨cd, rest, hcd, hm⟩ := ksp_first hc
  rcases hi : op.info with ⟨sym, nm'⟩
  rw [hi] at hs
  dsimp only at hs
  have one := ksp_try X I hs hf h
  obtain ⟨hh, g, d, tt, os⟩ := s
  have L1 : Looks (model prog w) hh (typeOf (.ref x)) (.ref C) := I.type
  have L2 : Looks (model prog w) hh (typeOf (.ref y)) (.ref C) := J.type
  have L3 : Looks (model prog w) hh (fillsNumberSlot (.ref C) nm') true := fills_K X hcd hm hs
  have hne : (Value.ref C == Value.ref C) = true := beq_iff_eq.mpr rfl
  simp only [binaryOp, hi]
  refine wpAny_holding (wpAny_bind ?_)
  unfold binaryOp1
  refine wpAny_bind (L1.at (wpAny_bind (L2.at (wpAny_bind (L3.at ?_)))))
  simp only [hne, if_true]
  ksp_lk
  refine wpAny_mono one (fun r s' hr' => ?_) fun _ _ e => e
  obtain ⟨v, rfl, hq⟩ := hr'
  ksp_lk
  exact hq
/-- n op x: int has none for it, the class C its own -/
theorem binIO {op : Operator} {id : String} {B : Builtin} {i : Int} {t : Tok} {f2 : Addr} {Q : Value → Shared → Prop} (F : Fr h₀ L s.heap m) (X₀ : K.In h₀) (J : InstAt s.heap y oy C oe) (hc : selfFirst K C = true)
    (hs2 : findIn K (.ref C) (PySem.dunder op.info.2) = some (some (.ref f2))) (hs : findIn K (.ref C) (dunderR op.info.2) = some (some (.ref f))) (hf : isFn K (.ref f) = true) (hsub : subIn K (.ref C) (.type "int") = some false)
    (fills : fillsNumberSlot (.type "int") op.info.2 = pure true) (slot : Slot "int" (PySem.dunder op.info.2) id) (entry : entryFor table id = some B) (args : argsOk id ⟨[.int i t, .ref y], []⟩)
    (g : GivesAt (fun s => s.heap.get? y = some oy) (B ⟨[.int i t, .ref y], []⟩) (.val .notImplemented))
    (h : wpAny (model prog w) A (call (.ref f) [.ref y, .int i t]) (PySem.W.CmpBack Q) E s) : wpAny (model prog w) A (binaryOp op (.int i t) (.ref y)) Q E s := by
  have X := X₀.keeps F.keep
  obtain ⟨cd, rest, hcd, hm⟩ := ksp_first hc
  rcases hi : op.info with ⟨sym, nm'⟩
  rw [hi] at hs hs2 fills slot
  dsimp only at hs hs2 fills slot
  have one := ksp_try X J hs hf h
  have hT : s.TypeIs (.int i t) "int" := typeIs_int s i t
  have two : ∀ {Q' : Option Value → Shared → Prop}, Q' none s → wpAny (model prog w) A (tryMethod (.int i t) (PySem.dunder nm') (.ref y)) Q' E s := fun q =>
    wpAny_tryMethod_declines hT slot (call_givesAt slot hT entry args g J.at_ ⟨rfl, q⟩)
  obtain ⟨hh, g, d, tt, os⟩ := s
  have L1 : Looks (model prog w) hh (typeOf (.int i t)) (.type "int") := Looks.of_pure rfl
  have L2 : Looks (model prog w) hh (typeOf (.ref y)) (.ref C) := J.type
  have L3 : Looks (model prog w) hh (fillsNumberSlot (.ref C) nm') true := fills_K X hcd hm hs2
  have L4 : Looks (model prog w) hh (fillsNumberSlot (.type "int") nm') true := Looks.of_pure fills
  have L5 : Looks (model prog w) hh (isSubtype (.ref C) (.type "int")) false := looks_subIn X hsub
  have L7 : Looks (model prog w) hh (numberSlotInPython (.type "int") nm') false := Looks.of_pure rfl
  have hne : (Value.type "int" == Value.ref C) = false := Bool.eq_false_iff.mpr fun q => by cases beq_iff_eq.mp q
  simp only [binaryOp, hi]
  refine wpAny_holding (wpAny_bind ?_)
  unfold binaryOp1
  refine wpAny_bind (L1.at (wpAny_bind (L2.at (wpAny_bind (L4.at ?_)))))
  simp only [hne, Bool.false_eq_true, if_false]
  refine wpAny_bind (L3.at ?_)
  simp only [Bool.and_self, if_true]
  refine wpAny_bind (L5.at ?_)
  simp only [Bool.false_eq_true, if_false, pure_bind, Bool.not_false, Bool.and_self, if_true]
  refine wpAny_bind (L7.at ?_)
  simp only [Bool.false_eq_true, if_false, pure_bind, Bool.not_false, Bool.and_self, if_true]
  refine wpAny_bind (two ?_)
  simp only [Bool.false_eq_true, if_false, pure_bind, Bool.not_false, Bool.and_self, if_true]
  refine wpAny_bind (wpAny_mono one (fun r s' hr' => ?_) fun _ _ e => e)
  obtain ⟨v, rfl, hq⟩ := hr'
  ksp_lk
  exact hq
theorem g_add {i : Int} {t : Tok} {dx : Addr} : GivesAt (fun s => s.heap.get? y = some (instObj C dx)) (Builtin.«int.__add__» ⟨[.int i t, .ref y], []⟩) (.val .notImplemented) := by
  intro prog w A R s hP h
  obtain ⟨hp, g, d, tk, os⟩ := s
  wp_walk
  exact h
theorem g_sub {i : Int} {t : Tok} {dx : Addr} : GivesAt (fun s => s.heap.get? y = some (instObj C dx)) (Builtin.«int.__sub__» ⟨[.int i t, .ref y], []⟩) (.val .notImplemented) := by
  intro prog w A R s hP h
  obtain ⟨hp, g, d, tk, os⟩ := s
  wp_walk
  exact h
theorem g_mul {i : Int} {t : Tok} {dx : Addr} : GivesAt (fun s => s.heap.get? y = some (instObj C dx)) (Builtin.«int.__mul__» ⟨[.int i t, .ref y], []⟩) (.val .notImplemented) := by
  intro prog w A R s hP h
  obtain ⟨hp, g, d, tk, os⟩ := s
  wp_walk
  exact h
theorem args_add (a b : Value) : argsOk "int.__add__" ⟨[a, b], []⟩ := by unfold argsOk; kernel_rfl
theorem args_sub (a b : Value) : argsOk "int.__sub__" ⟨[a, b], []⟩ := by unfold argsOk; kernel_rfl
theorem args_mul (a b : Value) : argsOk "int.__mul__" ⟨[a, b], []⟩ := by unfold argsOk; kernel_rfl
/-- abs(x) by an own method -/
theorem absO {Q : Value → Shared → Prop} (F : Fr h₀ L s.heap m) (X₀ : K.In h₀) (I : InstAt s.heap x ox C od) (hs : findIn K (.ref C) "__abs__" = some (some (.ref f))) (hf : isFn K (.ref f) = true)
    (h : wpAny (model prog w) A.in1 (call (.ref f) [.ref x]) Q E s) : wpAny (model prog w) A (call (.builtin "abs") [.ref x]) Q E s := by
  have X := X₀.keeps F.keep
  refine call_function_entry PyProof.Rows.kind_abs PyProof.Rows.plain_abs PyProof.Rows.entry_abs (PyProof.Rows.args_abs _) ?_
  unfold Builtin.«abs»
  refine wpAny_bind (m := oneArg "abs" _) (wpAny_pure ?_)
  refine wpAny_bind (m := callSpecial? (.ref x) (Str.ofString "__abs__")) (special_fn (args := []) X I hs (beq_iff_eq.mp hf) (wpAny_mono h (fun v s' hv => ?_) fun _ _ z => z))
  exact wpAny_pure ⟨_, rfl, hv⟩
end
end GB
namespace Tw
open PySem PySem.Spec PyProof.Rows L2
section
variable {X : Cx} {CX : CXT} {k : Nat} {C g : Addr} {sp : Sp} {E : XK}
/-- x op y, both of a class with its own method for it -/
def rBinS (C : Addr) (sp : Sp) (E : XK) : R2 := fun x y H Q => ∃ a b dx fs dy gs, x = .ref a ∧ y = .ref b ∧ H a = some (.ins C dx fs) ∧ H b = some (.ins C dy gs) ∧ sp [.ref a, .ref b] H (fun v H' => ∃ c, v = .ref c ∧ Q (.ref c) H') E
theorem op_binS {op : Operator} {nm : PySem.Str} (hc : PySem.W.selfFirst X.K C = true) (hs : PySem.W.findIn X.K (.ref C) nm = some (some (.ref g))) (hf : PySem.W.isFn X.K (.ref g) = true) (F : FnR X.prog X.w X.K X.mg X.base CX k g sp) (hr : Room (k + 1) X.A) (hx : Passes CX X E) (hn : PySem.dunder op.info.2 = nm := by decide +kernel) : OpR X (binaryOp op) (rBinS C sp E) := by
  intro pins s σ H x y v u Q I rx ry h
  obtain ⟨a, b, dx, fs, dy, gs, rfl, rfl, ea, eb, q⟩ := h
  cases (show v = Value.ref a from rx)
  cases (show u = Value.ref b from ry)
  obtain ⟨mA, O, _⟩ := ins_get I.hok ea
  obtain ⟨od, J, _⟩ := O.look
  obtain ⟨mB, O', _⟩ := ins_get I.hok eb
  obtain ⟨od', J', _⟩ := O'.look
  obtain ⟨m, hF⟩ := I.fr
  refine GB.binS hF I.ok.mod.kin J J' hc (by rw [hn]; exact hs) hf (wpAny_mono (wpAny_call (SlX.run_at (us := [.ref a, .ref b]) (ws := [.ref a, .ref b]) F (hr.mono (Nat.le_succ _)) I.env0 hx I (.cons rfl (.cons rfl .nil)) q)) (fun w s' z => ?_) fun _ _ x => x)
  obtain ⟨z', H', I', rz, c, ez, qz⟩ := z
  subst ez
  cases (show w = Value.ref c from rz)
  exact ⟨.ref c, H', I', rfl, qz⟩
/-- x op n -/
def rBinI (C : Addr) (sp : Sp) (E : XK) : R2 := fun x y H Q => ∃ a dx fs i, x = .ref a ∧ y = .int i ∧ H a = some (.ins C dx fs) ∧ sp [.ref a, .int i] H (fun v H' => ∃ c, v = .ref c ∧ Q (.ref c) H') E
theorem op_binI {op : Operator} {nm nr : PySem.Str} {fo ro rc : Option Value} (hc : PySem.W.selfFirst X.K C = true) (hs : PySem.W.findIn X.K (.ref C) nm = some (some (.ref g))) (hf : PySem.W.isFn X.K (.ref g) = true) (hR : PySem.W.findIn X.K (.ref C) nr = some rc) (hp : rc = none ∨ ∃ g : Addr, rc = some (.ref g))
    (h1 : PySem.W.findIn X.K (.type "int") nm = some fo) (h2 : PySem.W.findIn X.K (.type "int") nr = some ro) (hsub : PySem.W.subIn X.K (.type "int") (.ref C) = some false)
    (F : FnR X.prog X.w X.K X.mg X.base CX k g sp) (hr : Room (k + 1) X.A) (hx : Passes CX X E) (hn : PySem.dunder op.info.2 = nm := by decide +kernel) (hn2 : dunderR op.info.2 = nr := by decide +kernel) : OpR X (binaryOp op) (rBinI C sp E) := by
  intro pins s σ H x y v u Q I rx ry h
  obtain ⟨a, dx, fs, i, rfl, rfl, ea, q⟩ := h
  cases (show v = Value.ref a from rx)
  obtain ⟨t, rfl⟩ := ry
  obtain ⟨mA, O, _⟩ := ins_get I.hok ea
  obtain ⟨od, J, _⟩ := O.look
  obtain ⟨m, hF⟩ := I.fr
  refine PySem.W.ksp_binT hF I.ok.mod.kin J rfl hc (by rw [hn]; exact hs) hf (by rw [hn2]; exact hR) hp (by rw [hn]; exact h1) (by rw [hn2]; exact h2) hsub (wpAny_mono (wpAny_call (SlX.run_at (us := [.ref a, .int i t]) (ws := [.ref a, .int i]) F (hr.mono (Nat.le_succ _)) I.env0 hx I (.cons rfl (.cons ⟨t, rfl⟩ .nil)) q)) (fun w s' z => ?_) fun _ _ x => x)
  obtain ⟨z', H', I', rz, c, ez, qz⟩ := z
  subst ez
  cases (show w = Value.ref c from rz)
  exact ⟨.ref c, H', I', rfl, qz⟩
/-- n op x -/
def rBinR (C : Addr) (sp : Sp) (E : XK) : R2 := fun x y H Q => ∃ a dx fs i, x = .int i ∧ y = .ref a ∧ H a = some (.ins C dx fs) ∧ sp [.ref a, .int i] H (fun v H' => ∃ c, v = .ref c ∧ Q (.ref c) H') E
theorem op_binR {op : Operator} {nm nr : PySem.Str} {id : String} {B : Builtin} {f2 : Addr} (hc : PySem.W.selfFirst X.K C = true) (hs2 : PySem.W.findIn X.K (.ref C) nm = some (some (.ref f2))) (hs : PySem.W.findIn X.K (.ref C) nr = some (some (.ref g))) (hf : PySem.W.isFn X.K (.ref g) = true) (hsub : PySem.W.subIn X.K (.ref C) (.type "int") = some false)
    (fills : fillsNumberSlot (.type "int") op.info.2 = pure true) (slot : Slot "int" (PySem.dunder op.info.2) id) (entry : entryFor table id = some B) (args : ∀ a b, argsOk id ⟨[a, b], []⟩) (gv : ∀ (i : Int) (t : Tok) (y C dx : Addr), GivesAt (fun s => s.heap.get? y = some (PySem.W.instObj C dx)) (B ⟨[.int i t, .ref y], []⟩) (.val .notImplemented))
    (F : FnR X.prog X.w X.K X.mg X.base CX k g sp) (hr : Room (k + 1) X.A) (hx : Passes CX X E) (hn : PySem.dunder op.info.2 = nm := by decide +kernel) (hn2 : dunderR op.info.2 = nr := by decide +kernel) : OpR X (binaryOp op) (rBinR C sp E) := by
  intro pins s σ H x y v u Q I rx ry h
  obtain ⟨a, dx, fs, i, rfl, rfl, ea, q⟩ := h
  cases (show u = Value.ref a from ry)
  obtain ⟨t, rfl⟩ := rx
  obtain ⟨mA, O, _⟩ := ins_get I.hok ea
  obtain ⟨od, J, _⟩ := O.look
  obtain ⟨m, hF⟩ := I.fr
  refine GB.binIO hF I.ok.mod.kin J hc (by rw [hn]; exact hs2) (by rw [hn2]; exact hs) hf hsub fills slot entry (args _ _) (gv i t a C dx) (wpAny_mono (wpAny_call (SlX.run_at (us := [.ref a, .int i t]) (ws := [.ref a, .int i]) F (hr.mono (Nat.le_succ _)) I.env0 hx I (.cons rfl (.cons ⟨t, rfl⟩ .nil)) q)) (fun w s' z => ?_) fun _ _ x => x)
  obtain ⟨z', H', I', rz, c, ez, qz⟩ := z
  subst ez
  cases (show w = Value.ref c from rz)
  exact ⟨.ref c, H', I', rfl, qz⟩
/-- -x -/
def rNegO (C : Addr) (sp : Sp) (E : XK) : V → Hp → VK → Prop := fun x H Q => ∃ a dx fs, x = .ref a ∧ H a = some (.ins C dx fs) ∧ sp [.ref a] H (fun v H' => ∃ c, v = .ref c ∧ Q (.ref c) H') E
theorem un_negO (hs : PySem.W.findIn X.K (.ref C) "__neg__" = some (some (.ref g))) (hf : PySem.W.isFn X.K (.ref g) = true) (F : FnR X.prog X.w X.K X.mg X.base CX k g sp) (hr : Room (k + 1) X.A) (hx : Passes CX X E) : UnR X (unaryOp .USub) (rNegO C sp E) := by
  intro pins s σ H x v Q I rx h
  obtain ⟨a, dx, fs, rfl, ea, q⟩ := h
  cases (show v = Value.ref a from rx)
  obtain ⟨mA, O, _⟩ := ins_get I.hok ea
  obtain ⟨od, J, _⟩ := O.look
  obtain ⟨m, hF⟩ := I.fr
  refine PySem.W.ksp_neg hF I.ok.mod.kin J hs hf (wpAny_mono (wpAny_call (SlX.run_at (us := [.ref a]) (ws := [.ref a]) F (hr.mono (Nat.le_succ _)) I.env0 hx I (.cons rfl .nil) q)) (fun w s' z => ?_) fun _ _ x => x)
  obtain ⟨z', H', I', rz, c, ez, qz⟩ := z
  subst ez
  cases (show w = Value.ref c from rz)
  exact ⟨.ref c, H', I', rfl, qz⟩
/-- abs(x) -/
def rAbsO (C : Addr) (sp : Sp) (E : XK) : List V → Hp → VK → Prop := fun xs H Q => ∃ a dx fs, xs = [.ref a] ∧ H a = some (.ins C dx fs) ∧ sp [.ref a] H (fun v H' => ∃ c, v = .ref c ∧ Q (.ref c) H') E
theorem call_absO (hs : PySem.W.findIn X.K (.ref C) "__abs__" = some (some (.ref g))) (hf : PySem.W.isFn X.K (.ref g) = true) (F : FnR X.prog X.w X.K X.mg X.base CX k g sp) (hr : Room (k + 1) X.A) (hx : Passes CX X E) : CallR X (.builtin "abs") (rAbsO C sp E) := by
  intro pins s σ H xs us Q I r h
  obtain ⟨a, dx, fs, rfl, ea, q⟩ := h
  obtain ⟨u, rfl, ru⟩ := r.one
  cases (show u = Value.ref a from ru)
  obtain ⟨mA, O, _⟩ := ins_get I.hok ea
  obtain ⟨od, J, _⟩ := O.look
  obtain ⟨m, hF⟩ := I.fr
  refine GB.absO hF I.ok.mod.kin J hs hf (wpAny_mono (wpAny_call (SlX.run_at (us := [.ref a]) (ws := [.ref a]) F hr.in1 I.env0.in1 hx I (.cons rfl .nil) q)) (fun w s' z => ?_) fun _ _ x => x)
  obtain ⟨z', H', I', rz, c, ez, qz⟩ := z
  subst ez
  cases (show w = Value.ref c from rz)
  exact ⟨.ref c, H', I', rfl, qz⟩
end
end Tw
/-! Tw: a method called in a try, x or n of ints, floor division by wide numbers of either sign -/
namespace Tw
open PySem PySem.Spec PyProof.Rows L2
section
variable {X : Cx} {k : Nat} {C f : Addr} {sp : Sp} {W : WX} {m : PySem.Str} {o e : Expr} {es : List Expr} {ta : TE} {t : TA} {apos pos : Pos} {pl : Sem Bool}
def tMethW (C : Addr) (m : PySem.Str) (sp : Sp) (W : WX) (ta : TE) (t : TA) : TE := fun σ H Q => ta σ H fun x H1 => ∃ a dx fs, x = .ref a ∧ H1 a = some (.ins C dx fs) ∧ fs.lookup m = none ∧ t σ H1 fun vs H2 => ∃ E : XK, sp (x :: vs) H2 Q E ∧ ∀ cls d H', E cls d H' → W cls d σ H'
theorem pe_methW (tk : Takes X W) (he : PE X o ta) (c : Cls X.K C) (hm : Meth X.K C m f) (F : FnR X.prog X.w X.K X.mg X.base (L2.CX X.prog X.w) k f sp) (hr : Room k X.A) (ha : PA X (e :: es) t)
    (hst : starEach (e :: es) X.env = (false, eval e X.env) :: starEach es X.env := by rfl) (hpl : (backTo pos (starEach es X.env)).any (·.1) = false := by rfl)
    (ht : eval (.Call (.Attribute o m apos) (e :: es) [] pos) X.env = (do
      let ov ← eval o X.env
      standAt apos.atName
      let (f, first) ← holding [ov] (getMethod ov m pl)
      callWith pos f first (backTo pos (starEach (e :: es) X.env)) (backToKw pos (keywordEach [] X.env))) := by rfl) :
    PE X (.Call (.Attribute o m apos) (e :: es) [] pos) (tMethW C m sp W ta t) := by
  refine ⟨fun pins s σ H Q I h => ?_⟩
  refine PySem.W.methodCall_KW (pl := pl) (thn (he.run pins s σ H _ I h) fun u s1 ⟨x, H1, I1, rx, a, dx, fs, ex, ea, l, q⟩ => ?_) ht
  subst ex
  obtain rfl : u = Value.ref a := rx
  refine getmeth_ok I1 ea c hm l ?_
  refine PySem.W.callWith_K (first := [.ref a]) (h₀ := X.base) I.ok.mod.kin hm.kp (thn (ha.run pos pins s1 σ H1 _ I1 q) fun us s2 ⟨vs, H2, I2, r, E, q2, hW⟩ => ⟨I2.kIn, ?_⟩) hst hpl
  refine wpAny_call ?_
  refine codeAny_mono (F X.A X.stack s2 H2 (.ref a :: us) (.ref a :: vs) Q E hr I2.env0 (.cons rfl r) q2) fun r s' hq => ?_
  cases r with
  | error e => exact tk e s' (XE.of_call I2 (fun cls d H' h => hW cls d H' h) hq)
  | ok fl =>
    cases fl with
    | ret u => exact I2.after hq
    | next => exact False.elim hq
    | brk => exact False.elim hq
    | cont => exact False.elim hq
/-- try: o.m(..), except C as n: suite -/
def tTryMt (K : PySem.W.Frag) (n : Nat) (C : Addr) (m : PySem.Str) (sp : Sp) (ta : TE) (t : TA) (l : List Cl) : TS := fun D σ H => tDrop (tMethW C m sp (wAll K n (fun _ _ _ _ => False) D l) ta t) D σ H
/-- x or n, of ints -/
def tOrI (ta tb : TE) : TE := fun σ H Q => ta σ H fun x H1 => ∃ i, x = .int i ∧ if i = 0 then tb σ H1 Q else Q (.int i) H1
theorem pe_orI {pos : Pos} {a b : Expr} {rest : List Expr} {tb : TE} (ha : PE X a ta) (hb : PE X (.BoolOp .Or (b :: rest) pos) tb) : PE X (.BoolOp .Or (a :: b :: rest) pos) (tOrI ta tb) := by
  refine ⟨fun pins s σ H Q I h => ?_⟩
  refine BoolOp_or (thn (ha.run pins s σ H _ I h) fun v s1 ⟨x, H1, I1, r1, i, ex, q1⟩ => ?_)
  subst ex
  obtain ⟨t, rfl⟩ := r1
  refine truthy_int ?_
  by_cases hi : i = 0
  · rw [if_pos hi] at q1
    rw [if_neg (by rw [hi]; decide)]
    exact hb.run pins s1 σ H1 Q I1 q1
  · rw [if_neg hi] at q1
    rw [if_pos (by simpa using hi)]
    exact ⟨.int i, H1, I1, ⟨t, rfl⟩, q1⟩
/-- // by a number of either sign -/
abbrev oDivA : R2 := rI (fun _ j => j ≠ 0 ∧ j.natAbs.log2 < 9000) fun i j => .int (i.fdiv j)
theorem op_fdivA : OpR X (binaryOp .FloorDiv) oDivA := opI fun i j _ _ _ _ _ hc q => floordiv_int hc.1 q (.inl (PyProof.noPylong_of_log2 hc.2))
/-- x op y in an except suite -/
theorem op_cmpP {op : CmpOp} {nm : PySem.Str} {g : Addr} {q : Addr × Obj} {sq : Sp} (hs : PySem.W.findIn X.K (.ref C) nm = some (some (.ref g))) (hf : PySem.W.isFn X.K (.ref g) = true) (F : FnP X.prog X.w X.K X.mg X.base k g (fun _ => sq)) (hr : L2H.RoomH k X.A) (hq : q ∈ X.pn)
    (hn : (cmpInfo op).2.1 = nm := by rfl) (hop : ∀ v u, compareOp op v u = richCompare op v u := by intro _ _; rfl) : OpR X (compareOp op) (rCmpO C sq C8.E0) := by
  intro pins s σ H x y v u Q I rx ry h
  obtain ⟨a, dx, fs, b, dy, gs, rfl, rfl, ea, eb, qq⟩ := h
  cases (show v = Value.ref a from rx)
  cases (show u = Value.ref b from ry)
  rw [hop]
  obtain ⟨mA, O, _⟩ := ins_get I.hok ea
  obtain ⟨od, J, _⟩ := O.look
  obtain ⟨mB, O', _⟩ := ins_get I.hok eb
  obtain ⟨od', J', _⟩ := O'.look
  obtain ⟨m, hF⟩ := I.fr
  refine PySem.W.cmp_K (op := op) (tb := .ref C) (by have := hr.un; omega) hF I.ok.mod.kin J J'.type (by simp [PySem.W.notFirst]) (by rw [hn]; exact hs) hf ?_
  refine wpAny_mono (call_fnP (us := [.ref a, .ref b]) (vs := [.ref a, .ref b]) F hr hq I (.cons rfl (.cons rfl .nil)) qq) (fun w s' z => ?_) fun _ _ x => x
  obtain ⟨z', H', I', rz, c, ez, qz⟩ := z
  subst ez
  cases (show w = Value.bool c from rz)
  exact ⟨.bl c, H', I', rfl, qz⟩
theorem pe_fnPc {q : Addr × Obj} {x : PySem.Str} {p pos : Pos} {sq : Sp} {f : Addr} (F : FnP X.prog X.w X.K X.mg X.base k f (fun _ => sq)) (hr : L2H.RoomH k X.A) (hq : q ∈ X.pn) (hg : Gl X x) (hm : X.mg x = some (.ref f)) (hk : PySem.W.keepIn X.K (.ref f) = true) (ha : PA X (e :: es) t)
    (hdb : (x == ("__debug__" : PySem.Str)) = false := by decide) (he : starEach (e :: es) X.env = (false, eval e X.env) :: starEach es X.env := by rfl)
    (hpl : (backTo pos (starEach es X.env)).any (·.1) = false := by rfl) : PE X (.Call (.Name x p) (e :: es) [] pos) (tFn sq C8.E0 t) := pe_fnP (sp := fun _ => sq) F hr hq hg hm hk ha hdb he hpl
theorem roomH_mark {A : Around} {v : Option Value} (hr : Room k A) : L2H.RoomH k (A.mark v) := ⟨hr.dp, hr.un⟩
end
end Tw
/-! Tw: a def of the law that makes lambdas; _law_caught called with one -/
namespace Tw
open PySem PySem.Spec PyProof.Rows L2 LamX
section
variable {P : Program} {w : World} {K : PySem.W.Frag} {mg : Str → Option Value} {base : Heap} {CX : CXT} {k : Nat} {f : Addr} {sp : Sp}
/-- as fnG_of; the code of the def that runs is known -/
theorem fnG_ofC {x qual : Str} {params : Arguments} {body : List Stmt} {scope : Scope} {kws : List (Str × V)} {fd : FuncData} {N ps : List Str} (F : FunD K x qual params body scope [] kws f fd) (S : FnScope N ps scope) (hb : Binds K fd ps [])
    (hl : ∀ vs H Q E, sp vs H Q E → vs.length = ps.length)
    (hbody : ∀ cdv A fs t H vs Q E, cdv = .ref (codA K f) → RmG k (A.deeper (envOfC qual scope t.heap.objs.size f cdv)) → sp vs H Q E → ∃ tt, PSs (cxOf CX P w K mg base N qual scope f cdv A fs t H E) body tt ∧ tt { nx := fun _ H' => Q .non H', rt := Q } (L2.start N vs) H) :
    FnG P w K mg base CX (k + 1) f sp := by
  intro A fs t H us vs Q E hr e0 rv h
  obtain ⟨oc, od, dV, kV, doc, pm, an, cdv, ct, osl, efd, lk, hcd, _, _⟩ := F.ex
  have hcv : cdv = .ref (codA K f) := by
    unfold codA
    rw [lk, efd]
    cases cdv with
    | ref c => rfl
    | _ => cases hcd
  have KX : K.In t.heap := e0.mod.kin.keeps fun b o z => (e0.bs b o z).1
  have hlen : us.length = ps.length := rv.length.symm.trans (hl _ _ _ _ h)
  have hbt := hb t us KX (by rw [List.append_nil]; exact hlen)
  rw [List.append_nil] at hbt
  rw [efd] at lk hbt
  refine codeAny_call_function hr.rm.depth (KX _ _ lk) rfl S.co S.gen rfl (PySem.W.codeRec_of KX hcd) (hbt _ _ _ _ ?_)
  refine wpAny_newFunctionEnv_cells S.kind (fun y hy => ?_) fun env he t1 inc => ?_
  · exact (S.par y.1 (List.of_mem_zip hy).1).elim .inl fun z => .inr ⟨z, PySem.W.cellsFrom_some _ _ _ (.inl z)⟩
  · subst he
    obtain ⟨tt, hp, hq⟩ := hbody cdv A fs t H vs Q E hcv (hr.deeper _) h
    have hnl : t.heap.NoLimit := e0.mod.nolimit.keeps fun b o z => (e0.bs b o z).1
    refine ⟨hnl.keeps inc.toInCall.keep, codeAny_func (wpAny_mono (hp.run [] t1 _ _ _ (inv_start S hr.rm.hd e0 (hl _ _ _ _ h) rv inc) hq) (fun fl t2 z => ?_) fun _ _ z => z)⟩
    cases fl with
    | ret u =>
      obtain ⟨v, _, H2, J, r2, q2⟩ := z
      exact ⟨v, H2, J.os, J.bare, J.base, J.hok, r2, q2⟩
    | next =>
      obtain ⟨_, H2, J, q2⟩ := z
      exact ⟨.non, H2, J.os, J.bare, J.base, J.hok, rfl, q2⟩
    | brk => exact z.elim fun _ z => z.elim fun _ z => z.2.elim
    | cont => exact z.elim fun _ z => z.elim fun _ z => z.2.elim
end
section
variable {X : Cx}
theorem pe_caught {TT : (XK → Hp → VK → Prop) → Hp → VK → Prop} {x a : Str} {g c P : Addr} {k : Nat} {pg : Arguments} {bg : List Stmt} {sg : Scope} {kws : List (Str × V)} {fd : FuncData} {Ng : List Str} {params : Arguments} {body : Expr} {scope : Scope} {t : XK → TE} {p lpos pos : Pos}
    (F : FunD X.K x x pg bg sg [] kws g fd) (hb : ∀ (kV doc pm : Value) (an : Option Addr) (cdv ct : Value) (us : List Value), us.length = 1 → bindArgs (PySem.W.fnOf x x pg bg sg .none kV doc pm an cdv ct) ⟨us, []⟩ = pure ([a].zip us)) (Sg : FnScope Ng [a] sg) (hNg : Ng[0]? = some a) (hva : Vis sg a)
    (hg : Gl X x) (hm : X.mg x = some (.ref g)) (hG : ∀ cdg, GivesTo X Ng x sg g cdg bg a (X.env.qual ++ "<lambda>") TT) (TB : TabB X.base X.mg c P) (hcode : X.env.code = .ref c) (hr : Room (k + 2) X.A) (L : LamS X.env.scope scope) (hdef : defaultsOf params X.env = ([], []))
    (hbind : ∀ (q : Str) (cl : List (Str × Addr)) (pm cv ctv : Value), bindArgs (PySem.W.kla_fn "<lambda>" q params body scope cl pm cv ctv) ⟨[], []⟩ = pure [])
    (hbody : ∀ (A : Around) (outer : List Env) (s : Shared) (H : Hp) (E : XK) (f c' : Addr), Room k (A.deeper (lamEnv X scope s.heap.objs.size f c')) → PE (lamCx X A outer s H E scope f c') body (t E))
    (hdb : (x == ("__debug__" : Str)) = false := by decide) (hd : (a == ("__debug__" : Str)) = false := by decide) (hcd : (a == ("__classdict__" : Str)) = false := by decide) :
    PE X (.Call (.Name x p) [.Lambda params body scope lpos] [] pos) (tLam [(P, X.env.qual ++ "<lambda>")] TT t) := by
  have hbn := F.bindsN (ps := [a]) hb
  have kp := F.kp
  obtain ⟨oc, od, dV, kV, doc, pm, an, cdv, ct, osl, rfl, lk, hcg, _, _⟩ := F.ex
  exact pe_lamcall (T := [(P, X.env.qual ++ "<lambda>")]) hg hm kp lk hcg hbn Sg hNg hva (hG cdv) TB hcode (by simp) (fun q hq _ => by rw [List.mem_singleton.mp hq]) hr L hdef hbind hbody hdb hd hcd
/-- as pe_caught; T: the tables of all defs that make lambdas -/
theorem pe_caughtT {T : List (Addr × Str)} {TT : (XK → Hp → VK → Prop) → Hp → VK → Prop} {x a : Str} {g c P : Addr} {k : Nat} {pg : Arguments} {bg : List Stmt} {sg : Scope} {kws : List (Str × V)} {fd : FuncData} {Ng : List Str} {params : Arguments} {body : Expr} {scope : Scope} {t : XK → TE} {p lpos pos : Pos}
    (F : FunD X.K x x pg bg sg [] kws g fd) (hb : ∀ (kV doc pm : Value) (an : Option Addr) (cdv ct : Value) (us : List Value), us.length = 1 → bindArgs (PySem.W.fnOf x x pg bg sg .none kV doc pm an cdv ct) ⟨us, []⟩ = pure ([a].zip us)) (Sg : FnScope Ng [a] sg) (hNg : Ng[0]? = some a) (hva : Vis sg a)
    (hg : Gl X x) (hm : X.mg x = some (.ref g)) (hG : ∀ cdg, GivesTo X Ng x sg g cdg bg a (X.env.qual ++ "<lambda>") TT) (TB : TabB X.base X.mg c P) (hmT : (P, X.env.qual ++ "<lambda>") ∈ T) (hu : ∀ p ∈ T, p.1 = P → p.2 = X.env.qual ++ "<lambda>") (hcode : X.env.code = .ref c) (hr : Room (k + 2) X.A) (L : LamS X.env.scope scope) (hdef : defaultsOf params X.env = ([], []))
    (hbind : ∀ (q : Str) (cl : List (Str × Addr)) (pm cv ctv : Value), bindArgs (PySem.W.kla_fn "<lambda>" q params body scope cl pm cv ctv) ⟨[], []⟩ = pure [])
    (hbody : ∀ (A : Around) (outer : List Env) (s : Shared) (H : Hp) (E : XK) (f c' : Addr), Room k (A.deeper (lamEnv X scope s.heap.objs.size f c')) → PE (lamCx X A outer s H E scope f c') body (t E))
    (hdb : (x == ("__debug__" : Str)) = false := by decide) (hd : (a == ("__debug__" : Str)) = false := by decide) (hcd : (a == ("__classdict__" : Str)) = false := by decide) :
    PE X (.Call (.Name x p) [.Lambda params body scope lpos] [] pos) (tLam T TT t) := by
  have hbn := F.bindsN (ps := [a]) hb
  have kp := F.kp
  obtain ⟨oc, od, dV, kV, doc, pm, an, cdv, ct, osl, rfl, lk, hcg, _, _⟩ := F.ex
  exact pe_lamcall (T := T) hg hm kp lk hcg hbn Sg hNg hva (hG cdv) TB hcode hmT hu hr L hdef hbind hbody hdb hd hcd
end
end Tw
/-! Tw: values of other kinds: whether they are integers -/
namespace Tw
open PySem PySem.Spec PyProof.Rows L2 He TwM StX
open PySem.W (Frag)
local macro_rules | `(tactic| walk_at "rsl") => `(tactic| simp only [*, at3_0, at3_1, at3_2, at2_0, at2_1, updS, upd_two, gSub, rSetL, updN, tPar, tPar3, gTup, gCons, gNil, and_assoc, not_true_eq_false, not_false_eq_true, tNever, List.length_map, tFld, rIxTH, rIxLH, rLenTH, rLenLH, lk1, lfs_g, lfs_s, lfs_p, HO.ins.injEq, HO.tup.injEq, HO.lst.injEq, sp_Book_rounding, sp_Book_action, sp_Book_order, sp_Book_due, sp_Book_zero, sp_Book_beyond, Int.toNat_natCast, sp_visit_after, sp_is_visited, sp_Level_grain, sp_Level_slots, sp_Level_span, sp_Wheel_reach, sp_Wheel___len__, sp_is_integer, sp_is_count, sp_is_within, sp_rounded, tAsg, gName, tVar, tC, tOp, rI, rI0, rU, tUn, oAdd, oSub, oMul, oDiv, oMod, oNeg, oLt, oLe, oGt, oGe, oIsN, oNotN, tFn, tCons, tNil, tIfS, tIf, tTest, tB, tNot, tAnd, tOr, tAndV, tOrV, tNotV,
    tRet, tRetN, tNext, tCB, tDrop, tChain, rEq, rNe, oMax2, oMin2, oInt1, rLenF, L2.start, List.map_cons, List.map_nil, List.length_cons, List.length_nil, List.replicate_succ, List.replicate_zero, List.cons_append, List.nil_append, Nat.reduceAdd, Nat.reduceSub, Nat.zero_add,
    List.set_cons_zero, List.set_cons_succ, List.getElem?_cons_zero, List.getElem?_cons_succ, Option.some.injEq, V.int.injEq, V.ref.injEq, V.str.injEq, V.bl.injEq, exists_eq_left', exists_eq_left, exists_and_left, List.cons.injEq, and_true, true_and, decide_eq_true_eq, sc_ii, sc_ss, sc_bb, sc_ni, sc_in, sc_nn, sc_is, reduceCtorEq,
    Bool.not_eq_true', decide_eq_false_iff_not, if_true, if_false, Bool.false_eq_true, exists_eq', exists_const, false_and, and_false, or_false, false_or, exists_false, Bool.not_not, Bool.not_true, Bool.not_false, sUp_up, sFire_fire, sHigh_high, sPut_put, sZone_now, sBey_refuse, sBey_cut, tTup, tLst, sz0, sz1, sz2, sz3, sz4, sz5, sz6])
local macro_rules | `(tactic| walk_at "st") => `(tactic| ((try dsimp only); rw [seq1]; walk_at "rsl"))
/-- x is not y, both True or False -/
def rIsNB : R2 := fun x y H Q => ∃ a b, x = .bl a ∧ y = .bl b ∧ Q (.bl (!decide (a = b))) H
section
variable {K : Frag} {w : World}
/-- whether a value is an int and no truth value, from H on -/
def IsIntV (K : Frag) (H : Hp) (x : V) (b : Bool) : Prop := ∃ b1 b2 : Bool, (∀ (H' : Hp) (Q : VK), Same H H' → Q (.bl b1) H' → rIsi K [x, .ty "int"] H' Q) ∧ (b1 = true → ∀ (H' : Hp) (Q : VK), Same H H' → Q (.bl b2) H' → rIsi K [x, .ty "bool"] H' Q) ∧ b = (b1 && !b2)
theorem IsIntV.same {H H' : Hp} {x : V} {b : Bool} (h : IsIntV K H x b) (s : Same H H') : IsIntV K H' x b := by
  obtain ⟨b1, b2, h1, h2, e⟩ := h
  exact ⟨b1, b2, fun H2 Q s2 => h1 H2 Q (s.trans s2), fun z H2 Q s2 => h2 z H2 Q (s.trans s2), e⟩
theorem isInt_int {H : Hp} (i : Int) : IsIntV K H (.int i) true := ⟨true, false, fun _ _ _ q => isi_base (.base (.int i)) (by decide +kernel) q, fun _ _ _ _ q => isi_base (.base (.int i)) (by decide +kernel) q, rfl⟩
theorem isInt_bl {H : Hp} (b : Bool) : IsIntV K H (.bl b) false := ⟨true, true, fun _ _ _ q => isi_base (.base (.bl b)) (by decide +kernel) q, fun _ _ _ _ q => isi_base (.base (.bl b)) (by decide +kernel) q, rfl⟩
theorem isInt_non {H : Hp} : IsIntV K H .non false := ⟨false, false, fun _ _ _ q => isi_base (.base .non) (by decide +kernel) q, fun z => (by cases z), rfl⟩
theorem isInt_str {H : Hp} (x : Str) : IsIntV K H (.str x) false := ⟨false, false, fun _ _ _ q => isi_base (.base (.str x)) (by decide +kernel) q, fun z => (by cases z), rfl⟩
theorem isInt_tup {H : Hp} {a : Addr} {xs : List V} (h : H a = some (.tup xs)) : IsIntV K H (.ref a) false := ⟨false, false, fun _ _ s q => isi_base (.base (.tup (s _ _ h))) (by decide +kernel) q, fun z => (by cases z), rfl⟩
theorem isInt_lst {H : Hp} {a : Addr} {xs : List V} (h : H a = some (.lst xs)) : IsIntV K H (.ref a) false := ⟨false, false, fun _ _ s q => isi_base (.base (.lst (s _ _ h))) (by decide +kernel) q, fun z => (by cases z), rfl⟩
def sp_is_integerA (K : Frag) : Sp := fun vs H Q _ => ∃ x b, vs = [x] ∧ IsIntV K H x b ∧ Q (.bl b) H
def t_is_integerA (K : Frag) (w : World) : TS :=
  (tRet (tAndV (tCB (rIsi K) (tCons (tVar 0) (tCons (tC (.ty "int")) tNil))) (tNotV (tCB (rIsi K) (tCons (tVar 0) (tCons (tC (.ty "bool")) tNil))))))
def n_is_integerA : List Str := ["value"]
theorem rd_is_integerA (vs : List V) (H : Hp) (Q : VK) (E : XK) (h : sp_is_integerA K vs H Q E) : t_is_integerA K w { nx := fun _ H' => Q .non H', rt := Q } (L2.start n_is_integerA vs) H := by
  obtain ⟨x, b, rfl, ⟨b1, b2, h1, h2, rfl⟩, q⟩ := h
  unfold t_is_integerA n_is_integerA
  walk_at "rsl"
  refine h1 H _ (Same.refl _) ⟨b1, rfl, ?_⟩
  cases b1 with
  | false => exact q
  | true =>
    walk_at "rsl"
    exact h2 rfl H _ (Same.refl _) ⟨b2, rfl, q⟩
def cntB (x : V) : Bool := match x with
  | .int i => decide (0 ≤ i)
  | _ => false
def sp_is_countA (K : Frag) : Sp := fun vs H Q _ => ∃ x b, vs = [x] ∧ IsIntV K H x b ∧ (b = true → ∃ i, x = .int i) ∧ Q (.bl (b && cntB x)) H
def t_is_countA (K : Frag) (w : World) : TS :=
  (tRet (tAndV (tFn (sp_is_integerA K) E0 (tCons (tVar 0) tNil)) (tOp oGe (tVar 0) (tC (.int 0)))))
def n_is_countA : List Str := ["value"]
theorem rd_is_countA (vs : List V) (H : Hp) (Q : VK) (E : XK) (h : sp_is_countA K vs H Q E) : t_is_countA K w { nx := fun _ H' => Q .non H', rt := Q } (L2.start n_is_countA vs) H := by
  obtain ⟨x, b, rfl, h1, h2, q⟩ := h
  unfold t_is_countA n_is_countA
  refine ⟨_, rfl, x, b, rfl, h1, b, rfl, ?_⟩
  cases b with
  | false => exact q
  | true =>
    obtain ⟨i, rfl⟩ := h2 rfl
    exact ⟨_, rfl, i, 0, rfl, rfl, q⟩
end
end Tw
/-! Tw: values of any kind that a law hands in, as data; an error caught, compared with its name and the text of its value -/
namespace Tw
open PySem PySem.Spec PyProof.Rows L2 He TwM StX LamX
open PySem.W (Frag)
/-- what is left of a for over a list when its list is there -/
def ForL (K : Frag) (a : Addr) (g : TG) (tb : TS) (D : Ends) (σ : L2.St) (H : Hp) : Prop := tFor (fun σ H R => R (Itl K a) H) g tb D σ H
theorem forl_eq {K : Frag} {tl : TE} {g : TG} {tb : TS} {D : Ends} {σ : L2.St} {H : Hp} : tFor (iList K tl) g tb D σ H = tl σ H (fun x H1 => ∃ a, x = .ref a ∧ (∃ xs, SqL K H1 a xs) ∧ ForL K a g tb D σ H1) := rfl
theorem forL {K : Frag} {a : Addr} {g : TG} {tb : TS} {D : Ends} {σ : L2.St} {H : Hp} {xs : List V} (Pv : Nat → L2.St → Hp → Prop) (h0 : Pv 0 σ H) (hl : ∀ i σ H, Pv i σ H → SqL K H a xs)
    (hs : ∀ i x σ H, xs[i]? = some x → Pv i σ H → g x σ H fun σ2 H2 => tb { D with nx := Pv (i + 1), ct := Pv (i + 1), bk := D.nx } σ2 H2) (hd : ∀ σ H, Pv xs.length σ H → D.nx σ H) : ForL K a g tb D σ H := for_list Pv h0 (fun i σ H _ z => hl i σ H z) hs hd
theorem passE {X : Cx} : Passes (L2.CX X.prog X.w) X C8.E0 := fun _ _ _ _ _ _ _ h => by
  obtain ⟨_, _, _, _, _, _, _, _, _, _, _, _, z⟩ := h
  exact False.elim z
/-- a value that is no reference, as data -/
def flD : V → Option PyData
  | .non => some .none
  | .bl b => some (.bool b)
  | .int i => some (.int i)
  | .str x => some (.str x)
  | _ => none
/-- x stands for d: plain, a flat tuple, a flat list or an empty dict -/
inductive Ov (H : Hp) : V → PyData → Prop
  | at_ {x : V} {d : PyData} (h : flD x = some d) : Ov H x d
  | tup {a : Addr} {xs : List V} {ds : List PyData} (h : H a = some (.tup xs)) (f : xs.map flD = ds.map some) : Ov H (.ref a) (.tuple ds)
  | lst {a : Addr} {xs : List V} {ds : List PyData} (h : H a = some (.lst xs)) (f : xs.map flD = ds.map some) : Ov H (.ref a) (.list ds)
  | dict {a : Addr} (h : H a = some (.dK [])) : Ov H (.ref a) (.dict [])
def intD : PyData → Bool
  | .int _ => true
  | _ => false
def strD : PyData → Bool
  | .str _ => true
  | _ => false
/-- all that is no table and not the pool stays -/
def ExtP (p l : Addr) (H H' : Hp) : Prop := ∀ b o, b ≠ p → b ≠ l → H b = some o → (∀ ps, o ≠ .tbl ps) → H' b = some o
theorem ExtP.refl (p l : Addr) (H : Hp) : ExtP p l H H := fun _ _ _ _ h _ => h
theorem ExtP.trans {p l : Addr} {H H1 H2 : Hp} (a : ExtP p l H H1) (b : ExtP p l H1 H2) : ExtP p l H H2 := fun c o n m h z => b c o n m (a c o n m h z) z
theorem ExtP.ofN {p l : Addr} {H H1 : Hp} (a : ExtN H H1) : ExtP p l H H1 := fun c o _ _ h z => a c o h z
theorem ExtP.ofP {p l : Addr} {H H1 : Hp} (a : SameP p l H H1) : ExtP p l H H1 := fun c o n m h _ => a c o n m h
theorem ExtP.ofS {p l : Addr} {H H1 : Hp} (a : Same H H1) : ExtP p l H H1 := fun c o _ _ h _ => a c o h
theorem Same.toN {H H1 : Hp} (a : Same H H1) : ExtN H H1 := fun c o h _ => a c o h
section
variable {K : Frag} {H H' : Hp} {x : V} {d : PyData} {p l : Addr}
theorem Ov.ext (h : Ov H x d) (e : ∀ b o, (∃ xs, o = HO.tup xs) ∨ (∃ xs, o = HO.lst xs ∧ ∃ ds : List PyData, xs.map flD = ds.map some) ∨ o = .dK [] → H b = some o → H' b = some o) : Ov H' x d := by
  cases h with
  | at_ h => exact .at_ h
  | tup h f => exact .tup (e _ _ (.inl ⟨_, rfl⟩) h) f
  | lst h f => exact .lst (e _ _ (.inr (.inl ⟨_, rfl, _, f⟩)) h) f
  | dict h => exact .dict (e _ _ (.inr (.inr rfl)) h)
theorem Ov.extN (h : Ov H x d) (e : ExtN H H') : Ov H' x d := h.ext fun b o z q => e b o q fun ps w => by
  subst w
  rcases z with ⟨_, z⟩ | ⟨_, z, _⟩ | z <;> cases z
theorem Ov.same (h : Ov H x d) (e : Same H H') : Ov H' x d := h.extN (Same.toN e)
/-- what the pool's changes leave -/
theorem PoolAt.off (hp : PoolAt H p l) {b : Addr} {o : HO} (h : H b = some o) (z : (∃ xs, o = HO.tup xs) ∨ (∃ a C fs, o = HO.ins a C fs) ∨ o = .dK [] ∨ (∃ ps, o = .tbl ps) ∨ (∃ e, o = .ext e)) : b ≠ p ∧ b ≠ l := by
  obtain ⟨n, cs, i1, i2, i3, i4, h1, h2, h3⟩ := hp
  have ne : ∀ xs, o ≠ .lst xs := fun xs w => by
    subst w
    rcases z with ⟨_, z⟩ | ⟨_, _, _, z⟩ | z | ⟨_, z⟩ | ⟨_, z⟩ <;> cases z
  exact ⟨fun w => by rw [w, h1] at h; exact ne _ (Option.some.inj h).symm, fun w => by rw [w, h2] at h; exact ne _ (Option.some.inj h).symm⟩
theorem TabS.sameP {P : Addr} {q : PySem.Str} (hp : PoolAt H p l) (s : SameP p l H H') (t : TabS H P q) : TabS H' P q := by
  obtain ⟨ps, h1, h2, h3⟩ := t
  obtain ⟨n1, n2⟩ := hp.off h1 (.inr (.inr (.inr (.inl ⟨_, rfl⟩))))
  refine ⟨ps, s _ _ n1 n2 h1, h2, fun pos cv hc => ?_⟩
  obtain ⟨c, e1, e2⟩ := h3 pos cv hc
  obtain ⟨n1, n2⟩ := hp.off e2 (.inr (.inr (.inr (.inr ⟨_, rfl⟩))))
  exact ⟨c, e1, s _ _ n1 n2 e2⟩
theorem Tabs.sameP {T : List (Addr × PySem.Str)} (hp : PoolAt H p l) (s : SameP p l H H') (t : Tabs T H) : Tabs T H' := fun q hq => TabS.sameP hp s (t q hq)
theorem PoolAt.extN (hp : PoolAt H p l) (s : ExtN H H') : PoolAt H' p l := by
  obtain ⟨n, cs, i1, i2, i3, i4, h1, h2, h3⟩ := hp
  exact ⟨n, cs, i1, i2, i3, i4, s _ _ h1 (fun ps z => by cases z), s _ _ h2 (fun ps z => by cases z), h3⟩
theorem LvAt.extN {a : Addr} {v : Lv} (h : LvAt K H a v) (s : ExtN H H') : LvAt K H' a v := ⟨h.ok, h.at_.elim fun dx q => ⟨dx, s _ _ q fun ps z => by cases z⟩⟩
theorem WhAt.extN {a : Addr} {W : List Lv} (h : WhAt K H a W) (s : ExtN H H') : WhAt K H' a W := by
  obtain ⟨ok, dx, t, as, h1, h2, h3, h4⟩ := h
  exact ⟨ok, dx, t, as, s _ _ h1 fun ps z => (by cases z), s _ _ h2 fun ps z => (by cases z), h3, fun i c q => (h4 i c q).extN s⟩
theorem BkAt.extN {a : Addr} {B : Bk} (h : BkAt K H a B) (s : ExtN H H') : BkAt K H' a B := by
  obtain ⟨ok, dx, t, h1, h2⟩ := h
  exact ⟨ok, dx, t, s _ _ h1 fun ps z => (by cases z), s _ _ h2 fun ps z => (by cases z)⟩
theorem SpAt.extN {a : Addr} {sp : Spot} (h : SpAt H a sp) (s : ExtN H H') : SpAt H' a sp := s _ _ h fun ps z => by cases z
theorem Ov.isI (h : Ov H x d) : IsIntV K H x (intD d) := by
  cases h with
  | at_ h =>
    cases x with
    | non => cases h; exact isInt_non
    | bl b => cases h; exact isInt_bl b
    | int i => cases h; exact isInt_int i
    | str y => cases h; exact isInt_str y
    | _ => cases h
  | tup h f => exact isInt_tup h
  | lst h f => exact isInt_lst h
  | dict h => exact ⟨false, false, fun H' Q s q => isi_base (.base (.dK (s _ _ h))) (by decide +kernel) q, fun z => (Bool.noConfusion z), rfl⟩
theorem Ov.int (h : Ov H x d) (z : intD d = true) : ∃ i, x = .int i ∧ d = .int i := by
  cases h with
  | at_ h =>
    cases x with
    | int i => cases h; exact ⟨i, rfl, rfl⟩
    | non => cases h; cases z
    | bl b => cases h; cases z
    | str y => cases h; cases z
    | _ => cases h
  | _ => cases z
theorem Ov.str (h : Ov H x d) (z : strD d = true) : ∃ i, x = .str i ∧ d = .str i := by
  cases h with
  | at_ h =>
    cases x with
    | str i => cases h; exact ⟨i, rfl, rfl⟩
    | non => cases h; cases z
    | bl b => cases h; cases z
    | int y => cases h; cases z
    | _ => cases h
  | _ => cases z
/-! ### its repr -/
def OkD (d : PyData) : Prop := (d = .dict [] ∨ (d.showable = true ∧ d.hasDict = false ∧ d.depth ≤ 16 ∧ d.shown.length ≤ sizeLine)) ∧ PySem.PyData.strOk d.shown = true
theorem flD_dp : ∀ {xs : List V} {ds : List PyData}, xs.map flD = ds.map some → DpAll K H xs ds
  | [], [], _ => .nil
  | [], _ :: _, h => by cases h
  | _ :: _, [], h => by cases h
  | x :: xs, d :: ds, h => by
    rw [List.map_cons, List.map_cons] at h
    injection h with h1 h2
    refine .cons ?_ (flD_dp h2)
    cases x with
    | non => cases h1; exact .non
    | bl b => cases h1; exact .bl b
    | int i => cases h1; exact .int i
    | str y => cases h1; exact .str y
    | _ => cases h1
theorem Ov.repr {Q : VK} (h : Ov H x d) (k : OkD d) (q : Q (.str d.shown) H) : rReprE K [x] H Q := by
  obtain ⟨k, _⟩ := k
  cases h with
  | at_ h =>
    have z : d.showable = true ∧ d.hasDict = false ∧ d.depth ≤ 16 ∧ d.shown.length ≤ sizeLine := k.elim (fun e => by subst e; cases x <;> cases h) id
    obtain ⟨z1, z2, z3, z4⟩ := z
    have hd : Dp K H x d := by
      cases x with
      | non => cases h; exact .non
      | bl b => cases h; exact .bl b
      | int i => cases h; exact .int i
      | str y => cases h; exact .str y
      | _ => cases h
    exact .inl ⟨x, d, rfl, hd, z1, z2, z3, z4, q⟩
  | tup h f =>
    obtain ⟨z1, z2, z3, z4⟩ := k.elim (fun e => by cases e) id
    exact .inl ⟨_, _, rfl, .tup (SqT.of h) (flD_dp f), z1, z2, z3, z4, q⟩
  | lst h f =>
    obtain ⟨z1, z2, z3, z4⟩ := k.elim (fun e => by cases e) id
    exact .inl ⟨_, _, rfl, .lst (.inl (.inl h)) (flD_dp f), z1, z2, z3, z4, q⟩
  | dict h => exact .inr (.inl ⟨_, rfl, h, q⟩)
theorem strOk_of (s : String) : PySem.PyData.strOk (Str.ofString s) = true := by
  rw [Str.ofString_eq_toList]
  unfold PySem.PyData.strOk
  rw [Array.all_eq_true]
  intro i hi
  simp only [List.size_toArray, List.length_map] at hi
  simp only [List.getElem_toArray, List.getElem_map, decide_eq_true_eq]
  have hv := (s.toList[i]).valid
  have e : (s.toList[i]).toNat = (s.toList[i]).val.toNat := rfl
  rw [e]
  rcases hv with h | ⟨_, h⟩
  · exact Nat.lt_trans h (by decide)
  · exact h
theorem okD_int {i : Int} (h : i.natAbs.log2 < 1920) : OkD (.int i) := by
  refine ⟨.inr ⟨decide_eq_true h, rfl, (show 0 ≤ 16 by decide), ?_⟩, strOk_of _⟩
  have h3 := int_text_length_le (k := 1920) (by decide) h
  show (Str.ofString (toString i)).length ≤ sizeLine
  rw [PySem.ofString_length]
  have h6 : sizeLine = 16777216 := rfl
  omega
theorem okD_i {i : Int} (h0 : -(2 ^ 100) < i) (h1 : i < 2 ^ 100) : OkD (.int i) := okD_int (by
  by_cases hz : i.natAbs = 0
  · rw [hz]; decide
  · have h2 : i.natAbs < 2 ^ 100 := by omega
    exact Nat.lt_trans ((Nat.log2_lt hz).mpr h2) (by decide))
def okB (d : PyData) : Bool := (d.showable && (!d.hasDict && (decide (d.depth ≤ 16) && decide (d.shown.length ≤ 16777216)))) && PySem.PyData.strOk d.shown
theorem okD_of (h : okB d = true) : OkD d := by
  unfold okB at h
  simp only [Bool.and_eq_true, decide_eq_true_eq, Bool.not_eq_true'] at h
  exact ⟨.inr ⟨h.1.1, h.1.2.1, h.1.2.2.1, h.1.2.2.2⟩, h.2⟩
theorem okD_dict : OkD (.dict []) := ⟨.inl rfl, by decide +kernel⟩
/-- a value that the pool is not a part of -/
def OvP (p l : Addr) (H : Hp) (x : V) (d : PyData) : Prop := Ov H x d ∧ ∀ a, x = .ref a → a ≠ p ∧ a ≠ l
theorem OvP.extP (h : OvP p l H x d) (s : ExtP p l H H') : OvP p l H' x d := by
  obtain ⟨h, n⟩ := h
  refine ⟨?_, n⟩
  cases h with
  | at_ h => exact .at_ h
  | tup h f => exact .tup (s _ _ (n _ rfl).1 (n _ rfl).2 h fun ps z => by cases z) f
  | lst h f => exact .lst (s _ _ (n _ rfl).1 (n _ rfl).2 h fun ps z => by cases z) f
  | dict h => exact .dict (s _ _ (n _ rfl).1 (n _ rfl).2 h fun ps z => by cases z)
theorem OvP.sameP (h : OvP p l H x d) (s : SameP p l H H') : OvP p l H' x d := h.extP (.ofP s)
theorem OvP.at_ (h : flD x = some d) : OvP p l H x d := ⟨.at_ h, fun a e => by subst e; cases h⟩
/-- one of the values of a list, drawn -/
theorem drawOv {Pr : V → PyData → Prop} {L : Addr} {n : Int} {xs : List V} {Q : VK} (hp : PoolAt H p l) (hL : H L = some (.lst xs)) (n1 : L ≠ p) (n2 : L ≠ l) (hn : 0 < n) (hl : n.natAbs.log2 < 1920) (hx : n = xs.length) (hall : ∀ x ∈ xs, ∃ d, OvP p l H x d ∧ Pr x d)
    (q : ∀ x d H', SameP p l H H' → PoolAt H' p l → OvP p l H' x d → Pr x d → Q x H') :
    sp__law_draw K [.ref p, .int n] H (fun y H2 => ∃ x x_3, y = .int x_3 ∧ H2 L = some (.lst x) ∧ ∃ x_4, atI x x_3 = some x_4 ∧ Q x_4 H2) E0 := by
  refine draw hp hn hl fun i H1 s1 hp1 a b => ?_
  obtain ⟨v, hv, e⟩ := atV (xs := xs) a (by omega)
  obtain ⟨d, hd, hP⟩ := hall v (List.mem_of_getElem? hv)
  exact ⟨_, i, rfl, s1 _ _ n1 n2 hL, _, e, q v d H1 s1 hp1 (hd.sameP s1) hP⟩
/-! ### an error caught -/
/-- the class c is an own error, known by the word nm -/
structure KeC (K : Frag) (c nm : PySem.Str) : Prop where
  kn : ∃ i, KnF K (ga K c) i ∧ kdN.getD i "" = nm
  xf : XfC K (ga K c)
  no : PySem.W.findIn K (.ref (ga K c)) "value" = some none
  ex : PySem.W.exmOne K (.ref (ga K c)) (.ref (ga K "WheelError")) = some true
theorem kec_of {c nm file qual : PySem.Str} {i : Nat} (e : ErrF K c "value" file qual) (k : KnF K (ga K c) i ∧ PySem.W.exmOne K (.ref (ga K c)) (.ref (ga K "WheelError")) = some true) (h : kdN.getD i "" = nm) : KeC K c nm := ⟨⟨i, k.1, h⟩, e.xf, e.no, k.2⟩
def Ke (K : Frag) (cs : List (PySem.Str × PySem.Str)) : Prop := ∀ q ∈ cs, KeC K q.1 q.2
/-- the class c is an own error, known by the word nm, that tells its field fld -/
structure KeG (K : Frag) (c nm fld : PySem.Str) : Prop where
  kn : ∃ i, KnF K (ga K c) i ∧ kdN.getD i "" = nm
  xf : XfC K (ga K c)
  no : PySem.W.findIn K (.ref (ga K c)) fld = some none
  cl : (fld = "value" ∧ exmN K (ga K c) "WheelError" true) ∨ (fld = "delay" ∧ exmN K (ga K c) "WheelError" false ∧ exmN K (ga K c) "TooLong" true) ∨
    (fld = "limit" ∧ exmN K (ga K c) "WheelError" false ∧ exmN K (ga K c) "TooLong" false ∧ exmN K (ga K c) "TooMany" true)
theorem KeC.g {c nm : PySem.Str} (k : KeC K c nm) : KeG K c nm "value" := ⟨k.kn, k.xf, k.no, .inl ⟨rfl, k.ex⟩⟩
theorem KeG.out {c nm fld : PySem.Str} (k : KeG K c nm fld) {dd : Addr} (hd : H dd = none) (hv : Ov H x d) (ok : OkD d) {Q : VK} (q : ∀ (H2 : Hp) (R : Addr), Same H H2 → H2 R = none → Q (.ref R) (upd H2 R (.lst [.str nm, .str d.shown]))) :
    ErOut K Q (.ref (ga K c)) (some dd) (upd H dd (.xd [(fld, x)])) := by
  obtain ⟨⟨i, k1, k2⟩, k3, k4, k5⟩ := k
  have sn : Same H (upd H dd (.xd [(fld, x)])) := Same.new hd
  have hlk : ([(fld, x)] : List (PySem.Str × V)).lookup fld = some x := by simp [List.lookup]
  have hF : ErFld K fld (ga K c) [(fld, x)] i (upd H dd (.xd [(fld, x)])) Q := by
    refine ⟨x, k3, k4, hlk, fun H2 s2 => ?_⟩
    rw [k2]
    exact (hv.same (sn.trans s2)).repr ok fun R hR => q H2 R (sn.trans s2) hR
  refine ⟨_, _, [(fld, x)], i, rfl, rfl, k1, upd_same, ?_⟩
  rcases k5 with ⟨rfl, w1⟩ | ⟨rfl, w1, w2⟩ | ⟨rfl, w1, w2, w3⟩
  · exact .inl ⟨w1, hF⟩
  · exact .inr (.inl ⟨w1, w2, hF⟩)
  · exact .inr (.inr ⟨w1, w2, w3, hF⟩)
theorem KeC.out {c nm : PySem.Str} (k : KeC K c nm) {dd : Addr} (hd : H dd = none) (hv : Ov H x d) (ok : OkD d) {Q : VK} (q : ∀ (H2 : Hp) (R : Addr), Same H H2 → H2 R = none → Q (.ref R) (upd H2 R (.lst [.str nm, .str d.shown]))) :
    ErOut K Q (.ref (ga K c)) (some dd) (upd H dd (.xd [("value", x)])) := k.g.out hd hv ok q
theorem pair_shaped {nm t : PySem.Str} (h1 : PySem.PyData.strOk nm = true) (h2 : PySem.PyData.strOk t = true) : SeqAt.shaped (.list [.str nm, .str t]) = true := by
  have e : PyData.canLay0 (.list [.str nm, .str t]) = true := by
    show (PySem.PyData.strOk nm && (PySem.PyData.strOk t && true)) = true
    rw [h1, h2]; rfl
  unfold SeqAt.shaped
  rw [e]
  rfl
theorem pair_eqv {nm t : PySem.Str} : PyData.eqv (.list [.str nm, .str t]) (.list [.str nm, .str t]) = true := by
  show ((nm == nm) && ((t == t) && true)) = true
  simp
theorem dp_pair {a : Addr} {nm t : PySem.Str} (h : H a = some (.lst [.str nm, .str t])) : Dp K H (.ref a) (.list [.str nm, .str t]) := .lst (.inl (.inl h)) (.cons (.str _) (.cons (.str _) .nil))
/-- _law_caught(lambda: ..), where an error comes out, of a heap that has grown -/
theorem lam_errG {fld : PySem.Str} {T : List (Addr × PySem.Str)} {te : XK → TE} {σ : L2.St} {Q : VK} {c nm : PySem.Str} (k : KeG K c nm fld) (hT : Tabs T H) (ok : OkD d) (hov : Ov H x d)
    (hcall : ∀ (H1 : Hp) (E : XK) (Q : VK), ExtN H H1 → (∀ H2 dd, Same H1 H2 → H2 dd = none → E (.ref (ga K c)) (some dd) (upd H2 dd (.xd [(fld, x)]))) → te E σ H1 Q)
    (q : ∀ (R : Addr) (H' : Hp), H' R = some (.lst [.str nm, .str d.shown]) → ExtN H H' → Tabs T H' → Q (.ref R) H') : tLam T (TCg K) te σ H Q := by
  refine ⟨hT, fun H1 e1 T1 => hcall H1 _ _ e1 fun H1' dd s1 hd => k.out hd (hov.extN (e1.trans (Same.toN s1))) ok fun H2 R s2 hR => ?_⟩
  have s3 := (s1.trans s2).trans (Same.new (o := .lst [.str nm, .str d.shown]) hR)
  exact q R _ (updS H2 R _) (e1.trans (Same.toN s3)) (T1.ext fun b o z => s3 _ _ z)
/-- an error over WheelError -/
theorem lam_errS {T : List (Addr × PySem.Str)} {te : XK → TE} {σ : L2.St} {Q : VK} {c nm : PySem.Str} (k : KeC K c nm) (hT : Tabs T H) (ok : OkD d) (hov : Ov H x d)
    (hcall : ∀ (H1 : Hp) (E : XK) (Q : VK), ExtN H H1 → (∀ H2 dd, Same H1 H2 → H2 dd = none → E (.ref (ga K c)) (some dd) (upd H2 dd (.xd [("value", x)]))) → te E σ H1 Q)
    (q : ∀ (R : Addr) (H' : Hp), H' R = some (.lst [.str nm, .str d.shown]) → ExtN H H' → Tabs T H' → Q (.ref R) H') : tLam T (TCg K) te σ H Q := lam_errG k.g hT ok hov hcall q
/-- the same, of the heap as it stands -/
theorem lam_err {T : List (Addr × PySem.Str)} {te : XK → TE} {σ : L2.St} {Q : VK} {c nm : PySem.Str} (k : KeC K c nm) (hT : Tabs T H) (ok : OkD d) (hov : Ov H x d)
    (hcall : ∀ (H1 : Hp) (E : XK) (Q : VK), ExtN H H1 → (∀ dd, H1 dd = none → E (.ref (ga K c)) (some dd) (upd H1 dd (.xd [("value", x)]))) → te E σ H1 Q)
    (q : ∀ (R : Addr) (H' : Hp), H' R = some (.lst [.str nm, .str d.shown]) → ExtN H H' → Tabs T H' → Q (.ref R) H') : tLam T (TCg K) te σ H Q := lam_errS k hT ok hov (fun H1 E Q e hE => hcall H1 E Q e fun dd hd => hE H1 dd (Same.refl _) hd) q
/-- and where none comes out -/
theorem lam_ok {T : List (Addr × PySem.Str)} {te : XK → TE} {σ : L2.St} {Q : VK} (hT : Tabs T H)
    (hcall : ∀ (H1 : Hp) (E : XK) (Q : VK), ExtN H H1 → (∀ v H', Same H1 H' → Q v H') → te E σ H1 Q)
    (q : ∀ (H' : Hp), ExtN H H' → Tabs T H' → Q .non H') : tLam T (TCg K) te σ H Q :=
  ⟨hT, fun H1 e1 T1 => hcall H1 _ _ e1 fun v H' s => q H' (e1.trans (Same.toN s)) (T1.ext fun b o z => s _ _ z)⟩
/-- two such lists are the same -/
theorem pair_same {R R' : Addr} {nm t : PySem.Str} {Q : VK} (h1 : PySem.PyData.strOk nm = true) (h2 : PySem.PyData.strOk t = true) (a : H R = some (.lst [.str nm, .str t])) (b : H R' = some (.lst [.str nm, .str t])) (q : Q (.bl false) H) : rNeD K (.ref R) (.ref R') H Q :=
  ⟨_, _, dp_pair a, dp_pair b, pair_shaped h1 h2, pair_shaped h1 h2, by rw [pair_eqv]; exact q⟩
theorem pair_sameE {R R' : Addr} {nm t : PySem.Str} {Q : VK} (h1 : PySem.PyData.strOk nm = true) (h2 : PySem.PyData.strOk t = true) (a : H R = some (.lst [.str nm, .str t])) (b : H R' = some (.lst [.str nm, .str t])) (q : Q (.bl true) H) : rEqD K (.ref R) (.ref R') H Q :=
  ⟨_, _, dp_pair a, dp_pair b, pair_shaped h1 h2, pair_shaped h1 h2, by rw [pair_eqv]; exact q⟩
/-- an error is due: the test finds it -/
theorem caught_is {T : List (Addr × PySem.Str)} {te : XK → TE} {tb : TE} {σ : L2.St} {D : Ends} {c nm : PySem.Str} (k : KeC K c nm) (hn : PySem.PyData.strOk nm = true) (hT : Tabs T H) (ok : OkD d) (hov : Ov H x d)
    (hcall : ∀ (H1 : Hp) (E : XK) (Q : VK), ExtN H H1 → (∀ dd, H1 dd = none → E (.ref (ga K c)) (some dd) (upd H1 dd (.xd [("value", x)]))) → te E σ H1 Q)
    (htb : ∀ (H1 : Hp) (Q : VK), ExtN H H1 → (∀ (R : Addr) (H2 : Hp), Same H1 H2 → H2 R = none → Q (.ref R) (upd H2 R (.lst [.str nm, .str d.shown]))) → tb σ H1 Q)
    (hnx : ∀ H', ExtN H H' → Tabs T H' → D.nx σ H') :
    tIfS (tTest (tOp (rNeD K) (tLam T (TCg K) te) tb)) (tRet (tC (.bl false))) tNext D σ H := by
  refine lam_err k hT ok hov hcall fun R H3 a1 e3 T3 => htb H3 _ e3 fun R2 H4 s4 hR2 => ?_
  have s5 := s4.trans (Same.new (o := .lst [.str nm, .str d.shown]) hR2)
  exact pair_same hn ok.2 (s5 _ _ a1) (updS H4 R2 _) ⟨false, rfl, hnx _ (e3.trans (Same.toN s5)) (T3.ext fun b o z => s5 _ _ z)⟩
theorem none_same {Q : VK} (q : Q (.bl false) H) : rNeD K .non .non H Q := ⟨.none, .none, .non, .non, by decide, by decide, q⟩
theorem caught_isG {fld : PySem.Str} {T : List (Addr × PySem.Str)} {te : XK → TE} {tb : TE} {σ : L2.St} {D : Ends} {c nm : PySem.Str} (k : KeG K c nm fld) (hn : PySem.PyData.strOk nm = true) (hT : Tabs T H) (ok : OkD d) (hov : Ov H x d)
    (hcall : ∀ (H1 : Hp) (E : XK) (Q : VK), ExtN H H1 → (∀ H2 dd, Same H1 H2 → H2 dd = none → E (.ref (ga K c)) (some dd) (upd H2 dd (.xd [(fld, x)]))) → te E σ H1 Q)
    (htb : ∀ (H1 : Hp) (Q : VK), ExtN H H1 → (∀ (R : Addr) (H2 : Hp), Same H1 H2 → H2 R = none → Q (.ref R) (upd H2 R (.lst [.str nm, .str d.shown]))) → tb σ H1 Q)
    (hnx : ∀ H', ExtN H H' → Tabs T H' → D.nx σ H') :
    tIfS (tTest (tOp (rNeD K) (tLam T (TCg K) te) tb)) (tRet (tC (.bl false))) tNext D σ H := by
  refine lam_errG k hT ok hov hcall fun R H3 a1 e3 T3 => htb H3 _ e3 fun R2 H4 s4 hR2 => ?_
  have s5 := s4.trans (Same.new (o := .lst [.str nm, .str d.shown]) hR2)
  exact pair_same hn ok.2 (s5 _ _ a1) (updS H4 R2 _) ⟨false, rfl, hnx _ (e3.trans (Same.toN s5)) (T3.ext fun b o z => s5 _ _ z)⟩
/-- [name, repr(x)] -/
theorem lit_repr {i : Nat} {σ : L2.St} {nm : PySem.Str} {Q : VK} (h : σ[i]? = some (some x)) (hv : Ov H x d) (ok : OkD d) (q : ∀ (R : Addr) (H2 : Hp), Same H H2 → H2 R = none → Q (.ref R) (upd H2 R (.lst [.str nm, .str d.shown]))) :
    tLst (tCons (tC (.str nm)) (tCons (tCB (rReprE K) (tCons (tVar i) tNil)) tNil)) σ H Q := ⟨x, h, hv.repr ok ⟨(show 2 ≤ 16777216 by decide), fun R hR => q R H (Same.refl _) hR⟩⟩
end
end Tw
/-! Tw: shares of any size, and their arithmetic -/
namespace Tw
open PySem PySem.Spec PyProof.Rows L2 He TwM StX LamX
open PySem.W (Frag)
local macro_rules | `(tactic| walk_at "rsl") => `(tactic| simp only [*, at3_0, at3_1, at3_2, at2_0, at2_1, updS, upd_two, gSub, rSetL, updN, tPar, tPar3, gTup, gCons, gNil, and_assoc, not_true_eq_false, not_false_eq_true, tNever, List.length_map, tFld, rIxTH, rIxLH, rLenTH, rLenLH, lk1, lfs_g, lfs_s, lfs_p, HO.ins.injEq, HO.tup.injEq, HO.lst.injEq, sp_Book_rounding, sp_Book_action, sp_Book_order, sp_Book_due, sp_Book_zero, sp_Book_beyond, Int.toNat_natCast, sp_visit_after, sp_is_visited, sp_Level_grain, sp_Level_slots, sp_Level_span, sp_Wheel_reach, sp_Wheel___len__, sp_is_integer, sp_is_count, sp_is_within, sp_rounded, tAsg, gName, tVar, tC, tOp, rI, rI0, rU, tUn, oAdd, oSub, oMul, oDiv, oMod, oNeg, oLt, oLe, oGt, oGe, oIsN, oNotN, tFn, tCons, tNil, tIfS, tIf, tTest, tB, tNot, tAnd, tOr, tAndV, tOrV, tNotV,
    tRet, tRetN, tNext, tCB, tDrop, tChain, rEq, rNe, oMax2, oMin2, oInt1, rLenF, L2.start, List.map_cons, List.map_nil, List.length_cons, List.length_nil, List.replicate_succ, List.replicate_zero, List.cons_append, List.nil_append, Nat.reduceAdd, Nat.reduceSub, Nat.zero_add,
    List.set_cons_zero, List.set_cons_succ, List.getElem?_cons_zero, List.getElem?_cons_succ, Option.some.injEq, V.int.injEq, V.ref.injEq, V.str.injEq, V.bl.injEq, exists_eq_left', exists_eq_left, exists_and_left, List.cons.injEq, and_true, true_and, decide_eq_true_eq, sc_ii, sc_ss, sc_bb, sc_ni, sc_in, sc_nn, sc_is, reduceCtorEq,
    Bool.not_eq_true', decide_eq_false_iff_not, if_true, if_false, Bool.false_eq_true, exists_eq', exists_const, false_and, and_false, or_false, false_or, exists_false, Bool.not_not, Bool.not_true, Bool.not_false, sUp_up, sFire_fire, sHigh_high, sPut_put, sZone_now, sBey_refuse, sBey_cut, tTup, tLst, sz0, sz1, sz2, sz3, sz4, sz5, sz6])
local macro_rules | `(tactic| walk_at "st") => `(tactic| ((try dsimp only); rw [seq1]; walk_at "rsl"))
/-- what the readings lean on beside shares -/
structure Kx (K : Frag) (w : World) : Prop where
  ks : Ks K w
  ns : ((["NoneType", "bool", "str", "tuple", "list", "dict"] : List String).all fun t => decide (PySem.W.kitOne K (.type t) (.ref (ga K "Share")) = some false)) = true
  st : PySem.W.kitAny K (.ref (ga K "Share")) [.type "int", .ref (ga K "Share")] = some true
  ex : PySem.W.exmOne K (.ref (ga K "InvalidNumber")) (.ref (ga K "InvalidNumber")) = some true
def ShQ (K : Frag) (H : Hp) (a : Addr) (q : Rat) : Prop := ShAt K H a q.num q.den
def PartQ (K : Frag) (H : Hp) (v : V) (q : Rat) : Prop := (∃ n : Int, v = .int n ∧ q = (n : Rat)) ∨ ∃ s, v = .ref s ∧ ShQ K H s q
section
variable {K : Frag} {w : World}
theorem Kx.no (T : Kx K w) {t : String} (h : t ∈ (["NoneType", "bool", "str", "tuple", "list", "dict"] : List String)) : PySem.W.kitOne K (.type t) (.ref (ga K "Share")) = some false := of_decide_eq_true (List.all_eq_true.mp T.ns t h)
theorem ShQ.same {H H' : Hp} {a : Addr} {q : Rat} (h : ShQ K H a q) (s : Same H H') : ShQ K H' a q := ShAt.same h s
theorem ShQ.extN {H H' : Hp} {a : Addr} {q : Rat} (h : ShQ K H a q) (s : ExtN H H') : ShQ K H' a q := h.elim fun dx e => ⟨dx, s _ _ e fun ps z => by cases z⟩
theorem ShQ.sameP {p l : Addr} {H H' : Hp} {a : Addr} {q : Rat} (hp : PoolAt H p l) (h : ShQ K H a q) (s : SameP p l H H') : ShQ K H' a q := h.elim fun dx e => ⟨dx, hp.ins s e⟩
theorem PartQ.same {H H' : Hp} {v : V} {q : Rat} (h : PartQ K H v q) (s : Same H H') : PartQ K H' v q := h.imp id fun z => z.imp fun a y => ⟨y.1, y.2.same s⟩
theorem log_of {x : Int} {k : Nat} (h : x.natAbs < 2 ^ k) (hk : 0 < k) : x.natAbs.log2 < k := by
  by_cases hz : x.natAbs = 0
  · rw [hz]; exact hk
  · exact (Nat.log2_lt hz).mpr h
theorem seq_mid01 {a b : TS} {D : Ends} {σ : L2.St} {H : Hp} (I : L2.St → Hp → Prop) (h1 : ∀ R : L2.St → Hp → Prop, (∀ σ' H', I σ' H' → R σ' H') → a { D with nx := R } σ H) (h2 : ∀ σ' H', I σ' H' → b D σ' H') : tSeq a b D σ H := h1 _ h2
def sp_Share___init__ (K : Frag) : Sp := fun vs H Q _ => ∃ (x dx : Addr) (u lo : Int), vs = [.ref x, .int u, .int lo] ∧ lo ≠ 0 ∧ u.natAbs < 2 ^ 900 ∧ lo.natAbs < 2 ^ 900 ∧ H x = some (.ins (ga K "Share") dx []) ∧ ∀ H', SameX x H H' → ShQ K H' x (Rat.divInt u lo) → Q .non H'
def t_Share___init__ (K : Frag) (w : World) : TS :=
  (tSeq (tIfS (tNot (tB (tFn (sp_is_integer K) E0 (tCons (tVar 1) tNil)))) tNever tNext)
  (tSeq (tIfS (tOr (tNot (tB (tFn (sp_is_integer K) E0 (tCons (tVar 2) tNil)))) (tTest (tOp rEq (tVar 2) (tC (.int 0))))) tNever tNext)
  (tSeq (tAsg (tFn (sp_common_divisor K) E0 (tCons (tVar 1) (tCons (tCB oAbs (tCons (tVar 2) tNil)) tNil))) (gName 3))
  (tSeq (tIfS (tTest (tOp oLt (tVar 2) (tC (.int 0)))) (tAsg (tUn oNeg (tVar 3)) (gName 3)) tNext)
  (tSeq (sFld K (tVar 0) (tOp oDivA (tVar 1) (tVar 3)) "kept_top")
  (sFld K (tVar 0) (tOp oDivA (tVar 2) (tVar 3)) "kept_bottom"))))))
def n_Share___init__ : List Str := ["self", "top", "bottom", "divisor"]
theorem rd_Share___init__ (T : Ks K w) (vs : List V) (H : Hp) (Q : VK) (E : XK) (h : sp_Share___init__ K vs H Q E) : t_Share___init__ K w { nx := fun _ H' => Q .non H', rt := Q } (L2.start n_Share___init__ vs) H := by
  obtain ⟨x, dx, u, lo, rfl, hl, hub, hlb, hx, q⟩ := h
  have c3 := T.cS
  have n1 := T.nSt
  have n2 := T.nSb
  unfold t_Share___init__ n_Share___init__ sFld
  rw [seq1]
  walk_at "rsl"
  walk_at "st"
  walk_at "st"
  refine ⟨lo, rfl, u, _, rfl, by split <;> omega, fun g hgg => ?_⟩
  have hg : IsG u lo g := ⟨hgg.1, fun d => by
    rw [← hgg.2 d]
    split
    · rw [Int.dvd_neg]
    · exact Iff.rfl⟩
  have ht := top_at hl hg
  have hgb : g.natAbs.log2 < 900 := by
    have h1 := Nat.le_of_dvd (by omega) (Int.natAbs_dvd_natAbs.mpr ((hg.2 g).mpr (Int.dvd_refl g)).2)
    exact log_of (Nat.lt_of_le_of_lt h1 hlb) (by decide)
  have hg0 := hgg.1
  clear hgg
  try dsimp only
  refine seq_mid01 (fun σ H' => σ = [some (.ref x), some (.int u), some (.int lo), some (.int (if lo < 0 then -g else g))] ∧ H' = H) (fun R hR => ?_) ?_
  · refine ⟨_, rfl, lo, 0, rfl, rfl, _, rfl, ?_⟩
    try dsimp only
    by_cases hn : lo < 0
    · rw [if_pos (decide_eq_true hn)]
      refine ⟨_, rfl, g, rfl, hR _ _ ⟨?_, rfl⟩⟩
      rw [if_pos hn]
      rfl
    · rw [if_neg (by rw [decide_eq_false hn]; decide)]
      exact hR _ _ ⟨by rw [if_neg hn], rfl⟩
  rintro σ H' ⟨rfl, rfl⟩
  have hD : (if lo < 0 then -g else g) ≠ 0 ∧ (if lo < 0 then -g else g).natAbs.log2 < 9000 := by
    split
    · rw [Int.natAbs_neg]; omega
    · omega
  generalize (if lo < 0 then -g else g) = D at *
  rw [seq1]
  refine ⟨_, rfl, _, rfl, u, rfl, D, rfl, hD.1, hD.2, _, rfl, x, rfl, _, dx, _, hx, T.cS, T.nSt, (show (0 : Nat) < 1000 by decide), ?_⟩
  rw [ht.1]
  rw [show putF "kept_top" (V.int (Rat.divInt u lo).num) ([] : List (Str × V)) = ([("kept_top", .int (Rat.divInt u lo).num)] : List (Str × V)) by rfl]
  refine ⟨_, rfl, _, rfl, lo, rfl, D, rfl, hD.1, hD.2, _, rfl, x, rfl, _, dx, _, updS _ _ _, T.cS, T.nSb, (show (1 : Nat) < 1000 by decide), ?_⟩
  rw [ht.2, show putF "kept_bottom" (V.int (Rat.divInt u lo).den) ([("kept_top", .int (Rat.divInt u lo).num)] : List (Str × V)) = ([("kept_top", .int (Rat.divInt u lo).num), ("kept_bottom", .int (Rat.divInt u lo).den)] : List (Str × V)) by
    simp only [putF]
    rw [if_neg (by decide +kernel)], upd_two]
  exact q _ (fun b o n e => by rw [upd_ne n]; exact e) ⟨dx, updS _ _ _⟩
/-- a share made -/
theorem sh_make {H : Hp} {Q : VK} {u lo : Int} (h0 : lo ≠ 0) (hu : u.natAbs < 2 ^ 900) (hl : lo.natAbs < 2 ^ 900) (q : ∀ a H', Same H H' → ShQ K H' a (Rat.divInt u lo) → Q (.ref a) H') (x dx : Addr) (hx : H x = none) (hd : H dx = none) :
    sp_Share___init__ K [.ref x, .int u, .int lo] (upd (upd H dx (.own x)) x (.ins (ga K "Share") dx [])) (fun v H2 => v = .non ∧ Q (.ref x) H2) E0 :=
  ⟨x, dx, u, lo, rfl, h0, hu, hl, upd_same, fun H' s z => ⟨rfl, q x H' (SameX.made hx hd s) z⟩⟩
theorem mk_sh {ta tb : TE} {σ : L2.St} {H : Hp} {Q : VK} {u lo : Int} (ha : ∀ Q : VK, Q (.int u) H → ta σ H Q) (hb : ∀ Q : VK, Q (.int lo) H → tb σ H Q) (h0 : lo ≠ 0) (hu : u.natAbs < 2 ^ 900) (hl : lo.natAbs < 2 ^ 900) (q : ∀ a H', Same H H' → ShQ K H' a (Rat.divInt u lo) → Q (.ref a) H') :
    tMakeR (ga K "Share") (sp_Share___init__ K) E0 (tCons ta (tCons tb tNil)) σ H Q := ha _ (hb _ fun x dx hx hdx _ => sh_make h0 hu hl q x dx hx hdx)
theorem fld_top {i : Nat} {a : Addr} {q : Rat} {σ : L2.St} {H : Hp} {Q : VK} (T : Ks K w) (hi : σ[i]? = some (some (.ref a))) (h : ShQ K H a q) (k : Q (.int q.num) H) : tFld K (tVar i) "kept_top" σ H Q := by
  obtain ⟨dx, h⟩ := h
  exact ⟨_, hi, a, _, dx, _, _, rfl, h, T.cS, T.nSt, lk1 _ _ _, k⟩
theorem fld_bot {i : Nat} {a : Addr} {q : Rat} {σ : L2.St} {H : Hp} {Q : VK} (T : Ks K w) (hi : σ[i]? = some (some (.ref a))) (h : ShQ K H a q) (k : Q (.int q.den) H) : tFld K (tVar i) "kept_bottom" σ H Q := by
  obtain ⟨dx, h⟩ := h
  exact ⟨_, hi, a, _, dx, _, _, rfl, h, T.cS, T.nSb, sh_bot .., k⟩
theorem if_top {i : Nat} {a : Addr} {q : Rat} {c : Int} {tA tB : TS} {D : Ends} {σ : L2.St} {H : Hp} (T : Ks K w) (hi : σ[i]? = some (some (.ref a))) (h : ShQ K H a q) (h1 : q.num = c → tA D σ H) (h2 : q.num ≠ c → tB D σ H) : tIfS (tTest (tOp rEq (tFld K (tVar i) "kept_top") (tC (.int c)))) tA tB D σ H := by
  obtain ⟨dx, h⟩ := h
  refine ⟨_, hi, a, _, dx, _, _, rfl, h, T.cS, T.nSt, lk1 _ _ _, sc_ii _ _, _, rfl, ?_⟩
  dsimp only
  by_cases e : q.num = c
  · rw [if_pos (decide_eq_true (by rw [e]))]
    exact h1 e
  · rw [if_neg (by rw [decide_eq_false (fun z => e (V.int.inj z))]; decide)]
    exact h2 e
def sp_share_of (K : Frag) : Sp := fun vs H Q _ => ∃ v q, vs = [v] ∧ PartQ K H v q ∧ Bd 800 q ∧ ∀ s H', Same H H' → ShQ K H' s q → Q (.ref s) H'
def t_share_of (K : Frag) (w : World) : TS :=
  (tSeq (tIfS (tB (tCB (rIsi K) (tCons (tVar 0) (tCons (tC (.ref (ga K "Share"))) tNil)))) (tRet (tVar 0)) tNext)
  (tRet (tMake (ga K "Share") (sp_Share___init__ K) [.int 1] E0 (tCons (tVar 0) tNil))))
def n_share_of : List Str := ["number"]
theorem rd_share_of (T : Ks K w) (vs : List V) (H : Hp) (Q : VK) (E : XK) (h : sp_share_of K vs H Q E) : t_share_of K w { nx := fun _ H' => Q .non H', rt := Q } (L2.start n_share_of vs) H := by
  obtain ⟨v, r, rfl, h, hb, q⟩ := h
  unfold t_share_of n_share_of
  rw [seq1]
  walk_at "rsl"
  rcases h with ⟨n, rfl, rfl⟩ | ⟨a, rfl, h⟩
  · refine isi_int_share T ?_
    refine ⟨false, rfl, ?_⟩
    rw [if_neg (by simp)]
    refine ⟨_, rfl, fun x dx hx hdx hne => ?_⟩
    have hn : n.natAbs < 2 ^ 900 := nat_mono (by have := hb.1; rwa [Rat.num_intCast] at this) (by decide)
    exact sh_make (Q := Q) (by decide) hn (by decide) (fun a H' s z => q a H' s (by rw [← rat_int]; exact z)) x dx hx hdx
  · obtain ⟨dx, h1⟩ := id h
    refine isi_share T h1 ?_
    refine ⟨true, rfl, ?_⟩
    rw [if_pos rfl]
    exact q a H (Same.refl _) h
/-- isinstance(x, (int, Share)) -/
theorem isT_part {i : Nat} {v : V} {r : Rat} {σ : L2.St} {H : Hp} {Q : VK} (T : Kx K w) (hi : σ[i]? = some (some v)) (h : PartQ K H v r) (k : ∀ H', Same H H' → Q (.bl true) H') : tCB (rIsiT K) (tCons (tVar i) (tCons (tTup (tCons (tC (.ty "int")) (tCons (tC (.ref (ga K "Share"))) tNil))) tNil)) σ H Q := by
  refine ⟨v, hi, (show 2 ≤ 16777216 by decide), fun g hg => ?_⟩
  have s1 := Same.new (o := .tup [.ty "int", .ref (ga K "Share")]) hg
  rcases h with ⟨n, rfl, rfl⟩ | ⟨a, rfl, dx, h⟩
  · exact ⟨.int n, g, _, _, _, true, rfl, updS _ _ _, .cons (.ty _) (.cons (.own _) .nil), .base (.int n), T.ks.kiT, k _ s1⟩
  · exact ⟨.ref a, g, _, _, _, true, rfl, updS _ _ _, .cons (.ty _) (.cons (.own _) .nil), .base (.ins (s1 _ _ h) T.ks.cS T.ks.iS.ca T.ks.iS.cn T.ks.iS.ct T.ks.iS.cm), T.st, k _ s1⟩
theorem mulW {ta tb : TE} {σ : L2.St} {H : Hp} {Q : VK} {i j : Int} (ha : ∀ Q : VK, Q (.int i) H → ta σ H Q) (hb : ∀ Q : VK, Q (.int j) H → tb σ H Q) (hi : i.natAbs < 2 ^ 800) (hj : j.natAbs < 2 ^ 800) (q : Q (.int (i * j)) H) : tOp oMulW ta tb σ H Q :=
  ha _ (hb _ ⟨i, j, rfl, rfl, wide_mul hi hj (by decide) (by decide) (by decide), q⟩)
def sp_Share___add__ (K : Frag) : Sp := fun vs H Q _ => ∃ (a : Addr) (v : V) (q r : Rat), vs = [.ref a, v] ∧ ShQ K H a q ∧ PartQ K H v r ∧ Bd 200 q ∧ Bd 200 r ∧ ∀ s H', Same H H' → ShQ K H' s (q + r) → Q (.ref s) H'
def t_Share___add__ (K : Frag) (w : World) : TS :=
  (tSeq (tIfS (tNot (tB (tCB (rIsiT K) (tCons (tVar 1) (tCons (tTup (tCons (tC (.ty "int")) (tCons (tC (.ref (ga K "Share"))) tNil))) tNil))))) tNever tNext)
  (tSeq (tAsg (tFn (sp_share_of K) E0 (tCons (tVar 1) tNil)) (gName 2))
  (tSeq (tAsg (tOp oAdd (tOp oMulW (tFld K (tVar 0) "kept_top") (tFld K (tVar 2) "kept_bottom")) (tOp oMulW (tFld K (tVar 2) "kept_top") (tFld K (tVar 0) "kept_bottom"))) (gName 3))
  (tRet (tMakeR (ga K "Share") (sp_Share___init__ K) E0 (tCons (tVar 3) (tCons (tOp oMulW (tFld K (tVar 0) "kept_bottom") (tFld K (tVar 2) "kept_bottom")) tNil)))))))
def n_Share___add__ : List Str := ["self", "other", "value", "top"]
theorem rd_Share___add__ (T : Kx K w) (vs : List V) (H : Hp) (Q : VK) (E : XK) (h : sp_Share___add__ K vs H Q E) : t_Share___add__ K w { nx := fun _ H' => Q .non H', rt := Q } (L2.start n_Share___add__ vs) H := by
  obtain ⟨a, v, q, r, rfl, ha, hv, b1, b2, k⟩ := h
  have c1 := nat_mul_lt b1.1 b2.den
  have c2 := nat_mul_lt b2.1 b1.den
  have c3 := nat_mul_lt b1.den b2.den
  have c4 := nat_add_lt c1 c2
  unfold t_Share___add__ n_Share___add__
  rw [seq1]
  refine isT_part T rfl hv fun H1 s1 => ⟨true, rfl, ?_⟩
  try dsimp only
  rw [if_neg (by decide)]
  change tSeq _ _ _ _ _
  rw [seq1]
  refine ⟨_, rfl, v, r, rfl, hv.same s1, b2.mono (by decide), fun s H2 s2 hs => ?_⟩
  try dsimp only
  rw [gName1]
  try dsimp only [List.set_cons_succ, List.set_cons_zero]
  have ha2 := (ha.same s1).same s2
  rw [seq1]
  refine mulW (i := q.num) (j := r.den) (fun _ => fld_top T.ks (by rfl) ha2) (fun _ => fld_bot T.ks (by rfl) hs) (nat_mono b1.1 (by decide)) (nat_mono b2.den (by decide)) ?_
  refine mulW (i := r.num) (j := q.den) (fun _ => fld_top T.ks (by rfl) hs) (fun _ => fld_bot T.ks (by rfl) ha2) (nat_mono b2.1 (by decide)) (nat_mono b1.den (by decide)) ⟨_, _, rfl, rfl, ?_⟩
  try dsimp only
  rw [gName1]
  try dsimp only [List.set_cons_succ, List.set_cons_zero]
  refine mk_sh (u := q.num * r.den + r.num * q.den) (lo := q.den * r.den) (fun _ z => ⟨_, rfl, z⟩) (fun _ => mulW (i := q.den) (j := r.den) (fun _ => fld_bot T.ks (by rfl) ha2) (fun _ => fld_bot T.ks (by rfl) hs) (nat_mono b1.den (by decide)) (nat_mono b2.den (by decide))) (Int.mul_ne_zero (den_ne q) (den_ne r)) (nat_mono c4 (by decide)) (nat_mono c3 (by decide)) fun s3 H3 s3' h3 => ?_
  rw [rat_add] at h3
  exact k s3 H3 ((s1.trans s2).trans s3') h3
def sp_Share___sub__ (K : Frag) : Sp := fun vs H Q _ => ∃ (a : Addr) (v : V) (q r : Rat), vs = [.ref a, v] ∧ ShQ K H a q ∧ PartQ K H v r ∧ Bd 200 q ∧ Bd 200 r ∧ ∀ s H', Same H H' → ShQ K H' s (q - r) → Q (.ref s) H'
def t_Share___sub__ (K : Frag) (w : World) : TS :=
  (tSeq (tIfS (tNot (tB (tCB (rIsiT K) (tCons (tVar 1) (tCons (tTup (tCons (tC (.ty "int")) (tCons (tC (.ref (ga K "Share"))) tNil))) tNil))))) tNever tNext)
  (tSeq (tAsg (tFn (sp_share_of K) E0 (tCons (tVar 1) tNil)) (gName 2))
  (tSeq (tAsg (tOp oSub (tOp oMulW (tFld K (tVar 0) "kept_top") (tFld K (tVar 2) "kept_bottom")) (tOp oMulW (tFld K (tVar 2) "kept_top") (tFld K (tVar 0) "kept_bottom"))) (gName 3))
  (tRet (tMakeR (ga K "Share") (sp_Share___init__ K) E0 (tCons (tVar 3) (tCons (tOp oMulW (tFld K (tVar 0) "kept_bottom") (tFld K (tVar 2) "kept_bottom")) tNil)))))))
def n_Share___sub__ : List Str := ["self", "other", "value", "top"]
theorem rd_Share___sub__ (T : Kx K w) (vs : List V) (H : Hp) (Q : VK) (E : XK) (h : sp_Share___sub__ K vs H Q E) : t_Share___sub__ K w { nx := fun _ H' => Q .non H', rt := Q } (L2.start n_Share___sub__ vs) H := by
  obtain ⟨a, v, q, r, rfl, ha, hv, b1, b2, k⟩ := h
  have c1 := nat_mul_lt b1.1 b2.den
  have c2 := nat_mul_lt b2.1 b1.den
  have c3 := nat_mul_lt b1.den b2.den
  have c4 := nat_sub_lt c1 c2
  unfold t_Share___sub__ n_Share___sub__
  rw [seq1]
  refine isT_part T rfl hv fun H1 s1 => ⟨true, rfl, ?_⟩
  try dsimp only
  rw [if_neg (by decide)]
  change tSeq _ _ _ _ _
  rw [seq1]
  refine ⟨_, rfl, v, r, rfl, hv.same s1, b2.mono (by decide), fun s H2 s2 hs => ?_⟩
  try dsimp only
  rw [gName1]
  try dsimp only [List.set_cons_succ, List.set_cons_zero]
  have ha2 := (ha.same s1).same s2
  rw [seq1]
  refine mulW (i := q.num) (j := r.den) (fun _ => fld_top T.ks (by rfl) ha2) (fun _ => fld_bot T.ks (by rfl) hs) (nat_mono b1.1 (by decide)) (nat_mono b2.den (by decide)) ?_
  refine mulW (i := r.num) (j := q.den) (fun _ => fld_top T.ks (by rfl) hs) (fun _ => fld_bot T.ks (by rfl) ha2) (nat_mono b2.1 (by decide)) (nat_mono b1.den (by decide)) ⟨_, _, rfl, rfl, ?_⟩
  try dsimp only
  rw [gName1]
  try dsimp only [List.set_cons_succ, List.set_cons_zero]
  refine mk_sh (u := q.num * r.den - r.num * q.den) (lo := q.den * r.den) (fun _ z => ⟨_, rfl, z⟩) (fun _ => mulW (i := q.den) (j := r.den) (fun _ => fld_bot T.ks (by rfl) ha2) (fun _ => fld_bot T.ks (by rfl) hs) (nat_mono b1.den (by decide)) (nat_mono b2.den (by decide))) (Int.mul_ne_zero (den_ne q) (den_ne r)) (nat_mono c4 (by decide)) (nat_mono c3 (by decide)) fun s3 H3 s3' h3 => ?_
  rw [rat_sub] at h3
  exact k s3 H3 ((s1.trans s2).trans s3') h3
def sp_Share___mul__ (K : Frag) : Sp := fun vs H Q _ => ∃ (a : Addr) (v : V) (q r : Rat), vs = [.ref a, v] ∧ ShQ K H a q ∧ PartQ K H v r ∧ Bd 200 q ∧ Bd 200 r ∧ ∀ s H', Same H H' → ShQ K H' s (q * r) → Q (.ref s) H'
def t_Share___mul__ (K : Frag) (w : World) : TS :=
  (tSeq (tIfS (tNot (tB (tCB (rIsiT K) (tCons (tVar 1) (tCons (tTup (tCons (tC (.ty "int")) (tCons (tC (.ref (ga K "Share"))) tNil))) tNil))))) tNever tNext)
  (tSeq (tAsg (tFn (sp_share_of K) E0 (tCons (tVar 1) tNil)) (gName 2))
  (tRet (tMakeR (ga K "Share") (sp_Share___init__ K) E0 (tCons (tOp oMulW (tFld K (tVar 0) "kept_top") (tFld K (tVar 2) "kept_top")) (tCons (tOp oMulW (tFld K (tVar 0) "kept_bottom") (tFld K (tVar 2) "kept_bottom")) tNil))))))
def n_Share___mul__ : List Str := ["self", "other", "value"]
theorem rd_Share___mul__ (T : Kx K w) (vs : List V) (H : Hp) (Q : VK) (E : XK) (h : sp_Share___mul__ K vs H Q E) : t_Share___mul__ K w { nx := fun _ H' => Q .non H', rt := Q } (L2.start n_Share___mul__ vs) H := by
  obtain ⟨a, v, q, r, rfl, ha, hv, b1, b2, k⟩ := h
  have c1 := nat_mul_lt b1.1 b2.1
  have c3 := nat_mul_lt b1.den b2.den
  unfold t_Share___mul__ n_Share___mul__
  rw [seq1]
  refine isT_part T rfl hv fun H1 s1 => ⟨true, rfl, ?_⟩
  try dsimp only
  rw [if_neg (by decide)]
  change tSeq _ _ _ _ _
  rw [seq1]
  refine ⟨_, rfl, v, r, rfl, hv.same s1, b2.mono (by decide), fun s H2 s2 hs => ?_⟩
  try dsimp only
  rw [gName1]
  try dsimp only [List.set_cons_succ, List.set_cons_zero]
  have ha2 := (ha.same s1).same s2
  refine mk_sh (u := q.num * r.num) (lo := q.den * r.den) (fun _ => mulW (i := q.num) (j := r.num) (fun _ => fld_top T.ks (by rfl) ha2) (fun _ => fld_top T.ks (by rfl) hs) (nat_mono b1.1 (by decide)) (nat_mono b2.1 (by decide))) (fun _ => mulW (i := q.den) (j := r.den) (fun _ => fld_bot T.ks (by rfl) ha2) (fun _ => fld_bot T.ks (by rfl) hs) (nat_mono b1.den (by decide)) (nat_mono b2.den (by decide))) (Int.mul_ne_zero (den_ne q) (den_ne r)) (nat_mono c1 (by decide)) (nat_mono c3 (by decide)) fun s3 H3 s3' h3 => ?_
  rw [rat_mul] at h3
  exact k s3 H3 ((s1.trans s2).trans s3') h3
def sp_Share_over (K : Frag) : Sp := fun vs H Q _ => ∃ (a : Addr) (v : V) (q r : Rat), vs = [.ref a, v] ∧ ShQ K H a q ∧ PartQ K H v r ∧ r.num ≠ 0 ∧ Bd 200 q ∧ Bd 200 r ∧ ∀ s H', Same H H' → ShQ K H' s (q / r) → Q (.ref s) H'
theorem PartQ.at_ {H : Hp} {v : V} {r : Rat} (h : PartQ K H v r) : PartAt K H v r.num r.den := by
  rcases h with ⟨n, rfl, rfl⟩ | ⟨s, rfl, h⟩
  · exact .inl ⟨by rw [Rat.den_intCast]; rfl, by rw [Rat.num_intCast]⟩
  · exact .inr ⟨s, rfl, h⟩
def t_Share_over (K : Frag) (w : World) : TS :=
  (tSeq (tIfS (tNot (tB (tFn (sp_is_number K) E0 (tCons (tVar 1) tNil)))) tNever tNext)
  (tSeq (tAsg (tFn (sp_share_of K) E0 (tCons (tVar 1) tNil)) (gName 2))
  (tSeq (tIfS (tTest (tOp rEq (tFld K (tVar 2) "kept_top") (tC (.int 0)))) tNever tNext)
  (tRet (tMakeR (ga K "Share") (sp_Share___init__ K) E0 (tCons (tOp oMulW (tFld K (tVar 0) "kept_top") (tFld K (tVar 2) "kept_bottom")) (tCons (tOp oMulW (tFld K (tVar 0) "kept_bottom") (tFld K (tVar 2) "kept_top")) tNil)))))))
def n_Share_over : List Str := ["self", "other", "value"]
theorem rd_Share_over (T : Kx K w) (vs : List V) (H : Hp) (Q : VK) (E : XK) (h : sp_Share_over K vs H Q E) : t_Share_over K w { nx := fun _ H' => Q .non H', rt := Q } (L2.start n_Share_over vs) H := by
  obtain ⟨a, v, q, r, rfl, ha, hv, hz, b1, b2, k⟩ := h
  have c1 := nat_mul_lt b1.1 b2.den
  have c3 := nat_mul_lt b1.den b2.1
  unfold t_Share_over n_Share_over
  rw [seq1]
  refine ⟨_, rfl, v, _, _, rfl, hv.at_, true, rfl, ?_⟩
  try dsimp only
  rw [if_neg (by decide)]
  change tSeq _ _ _ _ _
  rw [seq1]
  refine ⟨_, rfl, v, r, rfl, hv, b2.mono (by decide), fun s H2 s2 hs => ?_⟩
  try dsimp only
  rw [gName1]
  try dsimp only [List.set_cons_succ, List.set_cons_zero]
  have ha2 := ha.same s2
  rw [seq1]
  refine if_top T.ks (by rfl) hs (fun z => absurd z hz) fun _ => ?_
  unfold tNext
  dsimp only
  refine mk_sh (u := q.num * r.den) (lo := q.den * r.num) (fun _ => mulW (i := q.num) (j := r.den) (fun _ => fld_top T.ks (by rfl) ha2) (fun _ => fld_bot T.ks (by rfl) hs) (nat_mono b1.1 (by decide)) (nat_mono b2.den (by decide))) (fun _ => mulW (i := q.den) (j := r.num) (fun _ => fld_bot T.ks (by rfl) ha2) (fun _ => fld_top T.ks (by rfl) hs) (nat_mono b1.den (by decide)) (nat_mono b2.1 (by decide))) (Int.mul_ne_zero (den_ne q) hz) (nat_mono c1 (by decide)) (nat_mono c3 (by decide)) fun s3 H3 s3' h3 => ?_
  rw [rat_div] at h3
  exact k s3 H3 (s2.trans s3') h3
theorem isi_int {i : Nat} {n : Int} {σ : L2.St} {H : Hp} {Q : VK} (hi : σ[i]? = some (some (.int n))) (k : Q (.bl true) H) : tCB (rIsi K) (tCons (tVar i) (tCons (tC (.ty "int")) tNil)) σ H Q := ⟨_, hi, isi_base (.base (.int n)) rfl k⟩
def sp_Share___radd__ (K : Frag) : Sp := fun vs H Q _ => ∃ (a : Addr) (n : Int) (q : Rat), vs = [.ref a, .int n] ∧ ShQ K H a q ∧ Bd 200 q ∧ n.natAbs < 2 ^ 200 ∧ ∀ s H', Same H H' → ShQ K H' s (q + (n : Rat)) → Q (.ref s) H'
def t_Share___radd__ (K : Frag) (w : World) : TS :=
  (tSeq (tIfS (tNot (tB (tCB (rIsi K) (tCons (tVar 1) (tCons (tC (.ty "int")) tNil))))) tNever tNext)
  (tRet (tMakeR (ga K "Share") (sp_Share___init__ K) E0 (tCons (tOp oAdd (tFld K (tVar 0) "kept_top") (tOp oMulW (tVar 1) (tFld K (tVar 0) "kept_bottom"))) (tCons (tFld K (tVar 0) "kept_bottom") tNil)))))
def n_Share___radd__ : List Str := ["self", "other"]
theorem rd_Share___radd__ (T : Kx K w) (vs : List V) (H : Hp) (Q : VK) (E : XK) (h : sp_Share___radd__ K vs H Q E) : t_Share___radd__ K w { nx := fun _ H' => Q .non H', rt := Q } (L2.start n_Share___radd__ vs) H := by
  obtain ⟨a, n, q, rfl, ha, b1, b2, k⟩ := h
  unfold t_Share___radd__ n_Share___radd__
  rw [seq1]
  refine isi_int rfl ⟨true, rfl, ?_⟩
  try dsimp only
  rw [if_neg (by decide)]
  unfold tNext
  dsimp only
  have c1 := nat_mul_lt b2 b1.den
  have hu := nat_add_lt (nat_mono b1.1 (show 200 ≤ 400 by decide)) c1
  refine mk_sh (u := q.num + n * q.den) (lo := q.den) (fun _ z => ?_) (fun _ => fld_bot T.ks (by rfl) ha) (den_ne q) (nat_mono hu (by decide)) (nat_mono b1.den (by decide)) fun s3 H3 s3' h3 => ?_
  · exact fld_top T.ks (by rfl) ha (mulW (i := n) (j := q.den) (fun _ z => ⟨_, rfl, z⟩) (fun _ => fld_bot T.ks (by rfl) ha) (nat_mono b2 (by decide)) (nat_mono b1.den (by decide)) ⟨_, _, rfl, rfl, z⟩)
  · rw [rat_addI] at h3
    exact k s3 H3 s3' h3
def sp_Share___rsub__ (K : Frag) : Sp := fun vs H Q _ => ∃ (a : Addr) (n : Int) (q : Rat), vs = [.ref a, .int n] ∧ ShQ K H a q ∧ Bd 200 q ∧ n.natAbs < 2 ^ 200 ∧ ∀ s H', Same H H' → ShQ K H' s ((n : Rat) - q) → Q (.ref s) H'
def t_Share___rsub__ (K : Frag) (w : World) : TS :=
  (tSeq (tIfS (tNot (tB (tCB (rIsi K) (tCons (tVar 1) (tCons (tC (.ty "int")) tNil))))) tNever tNext)
  (tRet (tMakeR (ga K "Share") (sp_Share___init__ K) E0 (tCons (tOp oSub (tOp oMulW (tVar 1) (tFld K (tVar 0) "kept_bottom")) (tFld K (tVar 0) "kept_top")) (tCons (tFld K (tVar 0) "kept_bottom") tNil)))))
def n_Share___rsub__ : List Str := ["self", "other"]
theorem rd_Share___rsub__ (T : Kx K w) (vs : List V) (H : Hp) (Q : VK) (E : XK) (h : sp_Share___rsub__ K vs H Q E) : t_Share___rsub__ K w { nx := fun _ H' => Q .non H', rt := Q } (L2.start n_Share___rsub__ vs) H := by
  obtain ⟨a, n, q, rfl, ha, b1, b2, k⟩ := h
  unfold t_Share___rsub__ n_Share___rsub__
  rw [seq1]
  refine isi_int rfl ⟨true, rfl, ?_⟩
  try dsimp only
  rw [if_neg (by decide)]
  unfold tNext
  dsimp only
  have c1 := nat_mul_lt b2 b1.den
  have hu := nat_sub_lt c1 (nat_mono b1.1 (show 200 ≤ 400 by decide))
  refine mk_sh (u := n * q.den - q.num) (lo := q.den) (fun _ z => ?_) (fun _ => fld_bot T.ks (by rfl) ha) (den_ne q) (nat_mono hu (by decide)) (nat_mono b1.den (by decide)) fun s3 H3 s3' h3 => ?_
  · exact mulW (i := n) (j := q.den) (fun _ z => ⟨_, rfl, z⟩) (fun _ => fld_bot T.ks (by rfl) ha) (nat_mono b2 (by decide)) (nat_mono b1.den (by decide)) (fld_top T.ks (by rfl) ha ⟨_, _, rfl, rfl, z⟩)
  · rw [rat_Isub] at h3
    exact k s3 H3 s3' h3
def sp_Share___rmul__ (K : Frag) : Sp := fun vs H Q _ => ∃ (a : Addr) (n : Int) (q : Rat), vs = [.ref a, .int n] ∧ ShQ K H a q ∧ Bd 200 q ∧ n.natAbs < 2 ^ 200 ∧ ∀ s H', Same H H' → ShQ K H' s (q * (n : Rat)) → Q (.ref s) H'
def t_Share___rmul__ (K : Frag) (w : World) : TS :=
  (tSeq (tIfS (tNot (tB (tCB (rIsi K) (tCons (tVar 1) (tCons (tC (.ty "int")) tNil))))) tNever tNext)
  (tRet (tMakeR (ga K "Share") (sp_Share___init__ K) E0 (tCons (tOp oMulW (tFld K (tVar 0) "kept_top") (tVar 1)) (tCons (tFld K (tVar 0) "kept_bottom") tNil)))))
def n_Share___rmul__ : List Str := ["self", "other"]
theorem rd_Share___rmul__ (T : Kx K w) (vs : List V) (H : Hp) (Q : VK) (E : XK) (h : sp_Share___rmul__ K vs H Q E) : t_Share___rmul__ K w { nx := fun _ H' => Q .non H', rt := Q } (L2.start n_Share___rmul__ vs) H := by
  obtain ⟨a, n, q, rfl, ha, b1, b2, k⟩ := h
  unfold t_Share___rmul__ n_Share___rmul__
  rw [seq1]
  refine isi_int rfl ⟨true, rfl, ?_⟩
  try dsimp only
  rw [if_neg (by decide)]
  unfold tNext
  dsimp only
  have hu := nat_mul_lt b1.1 b2
  refine mk_sh (u := q.num * n) (lo := q.den) (fun _ z => ?_) (fun _ => fld_bot T.ks (by rfl) ha) (den_ne q) (nat_mono hu (by decide)) (nat_mono b1.den (by decide)) fun s3 H3 s3' h3 => ?_
  · exact mulW (i := q.num) (j := n) (fun _ => fld_top T.ks (by rfl) ha) (fun _ z => ⟨_, rfl, z⟩) (nat_mono b1.1 (by decide)) (nat_mono b2 (by decide)) z
  · rw [rat_mulI] at h3
    exact k s3 H3 s3' h3
def sp_Share___neg__ (K : Frag) : Sp := fun vs H Q _ => ∃ (a : Addr) (q : Rat), vs = [.ref a] ∧ ShQ K H a q ∧ Bd 200 q ∧ ∀ s H', Same H H' → ShQ K H' s (-q) → Q (.ref s) H'
def t_Share___neg__ (K : Frag) (w : World) : TS :=
  (tRet (tMakeR (ga K "Share") (sp_Share___init__ K) E0 (tCons (tUn oNeg (tFld K (tVar 0) "kept_top")) (tCons (tFld K (tVar 0) "kept_bottom") tNil))))
def n_Share___neg__ : List Str := ["self"]
theorem rd_Share___neg__ (T : Kx K w) (vs : List V) (H : Hp) (Q : VK) (E : XK) (h : sp_Share___neg__ K vs H Q E) : t_Share___neg__ K w { nx := fun _ H' => Q .non H', rt := Q } (L2.start n_Share___neg__ vs) H := by
  obtain ⟨a, q, rfl, ha, b1, k⟩ := h
  unfold t_Share___neg__ n_Share___neg__
  refine mk_sh (u := -q.num) (lo := q.den) (fun _ z => fld_top T.ks (by rfl) ha ⟨_, rfl, z⟩) (fun _ => fld_bot T.ks (by rfl) ha) (den_ne q) (by rw [Int.natAbs_neg]; exact nat_mono b1.1 (by decide)) (nat_mono b1.den (by decide)) fun s3 H3 s3' h3 => ?_
  rw [rat_neg] at h3
  exact k s3 H3 s3' h3
def sp_Share___abs__ (K : Frag) : Sp := fun vs H Q _ => ∃ (a : Addr) (q : Rat), vs = [.ref a] ∧ ShQ K H a q ∧ Bd 200 q ∧ ∀ s H', Same H H' → ShQ K H' s (rabs q) → Q (.ref s) H'
def t_Share___abs__ (K : Frag) (w : World) : TS :=
  (tRet (tMakeR (ga K "Share") (sp_Share___init__ K) E0 (tCons (tCB oAbs (tCons (tFld K (tVar 0) "kept_top") tNil)) (tCons (tFld K (tVar 0) "kept_bottom") tNil))))
def n_Share___abs__ : List Str := ["self"]
theorem rd_Share___abs__ (T : Kx K w) (vs : List V) (H : Hp) (Q : VK) (E : XK) (h : sp_Share___abs__ K vs H Q E) : t_Share___abs__ K w { nx := fun _ H' => Q .non H', rt := Q } (L2.start n_Share___abs__ vs) H := by
  obtain ⟨a, q, rfl, ha, b1, k⟩ := h
  unfold t_Share___abs__ n_Share___abs__
  refine mk_sh (u := if q.num < 0 then -q.num else q.num) (lo := q.den) (fun _ z => fld_top T.ks (by rfl) ha ⟨_, rfl, z⟩) (fun _ => fld_bot T.ks (by rfl) ha) (den_ne q) (by split <;> (try rw [Int.natAbs_neg]) <;> exact nat_mono b1.1 (by decide)) (nat_mono b1.den (by decide)) fun s3 H3 s3' h3 => ?_
  exact k s3 H3 s3' h3
end
end Tw
/-! Tw: own errors over ValueError: their making and their raise -/
namespace Tw
open PySem PySem.Spec PyProof.Rows L2 He PySem.W PySem.Calls NdefX
/-- what __init__ promises -/
def sp_er (K : Frag) (C : Addr) (fld : PySem.Str) : Sp := fun vs H Q _ => ∃ (x : Addr) (y : V), vs = [.ref x, y] ∧ H x = some (exo x C none) ∧ ∀ dx, H dx = none → dx ≠ x → Q .non (upd (upd H dx (exd dx [(fld, y)])) x (exo x C (some dx)))
/-- the whole body -/
abbrev erB (text : PySem.Str) (j : Nat) (p0 p1 p2 p3 p4 pc q1 q2 q3 q4 : Pos) (fld par : PySem.Str) : List Stmt := suB text j p0 p1 p2 p3 p4 pc [.Assign [.Attribute (.Name "self" q1) fld q2] (.Name par q3) q4]
section
variable {CX : CXT} {P : Program} {w : World} {K : Frag} {mg : PySem.Str → Option Value} {base : Heap} {x fld par file qual name text : PySem.Str} {j : Nat} {p0 p1 p2 p3 p4 pc q1 q2 q3 q4 : Pos} {params : Arguments} {scope : Scope} {ar : Arg}
theorem ok_err (F : ErrF K x fld file qual) (hf : (P.main.file : PySem.Str) = file) (htop : (P.main.scope.names.lookup ("super" : PySem.Str)).isSome = false)
    (e : fnC K (ma K (ga K x) "__init__") = some (name, qual, params, .stmts (erB text j p0 p1 p2 p3 p4 pc q1 q2 q3 q4 fld par), scope, mainGlobals, [], builtinsNs))
    (S : NScope ["self", par, "__class__"] ["self", par] ["__class__"] scope) (hpar : (params.posonlyargs ++ params.args).head? = some ar) (har : ar.arg = "self")
    (hks : scope.names.lookup ("super" : PySem.Str) = some .globalImplicit) (hms : mg "super" = none)
    (hd1 : (par == ("__debug__" : PySem.Str)) = false) (hd2 : (par == ("__classdict__" : PySem.Str)) = false)
    (hi : ∀ cc cda fI L, interactive (envF (erF name qual params (erB text j p0 p1 p2 p3 p4 pc q1 q2 q3 q4 fld par) scope cc cda) fI L) = false)
    (hsw : ∀ cc cda fI L, swapsWith (.Call (.Attribute (.Call (.Name "super" p0) [] [] p1) "__init__" p2) [.Constant (.str text) j pc] [] p3) none p4.line (envF (erF name qual params (erB text j p0 p1 p2 p3 p4 pc q1 q2 q3 q4 fld par) scope cc cda) fI L) = pure false)
    (hsw2 : ∀ cc cda fI L, swapsWith (.Name par q3) (some (.Attribute (.Name "self" q1) fld q2)) q4.line (envF (erF name qual params (erB text j p0 p1 p2 p3 p4 pc q1 q2 q3 q4 fld par) scope cc cda) fI L) = pure false)
    (hev : ∀ cc cda fI L, ∃ pl : Sem Bool, eval (.Call (.Attribute (.Call (.Name "super" p0) [] [] p1) "__init__" p2) [.Constant (.str text) j pc] [] p3) (envF (erF name qual params (erB text j p0 p1 p2 p3 p4 pc q1 q2 q3 q4 fld par) scope cc cda) fI L) = (do
      let ov ← attributeBase (.Call (.Name "super" p0) [] [] p1) "__init__" (envF (erF name qual params (erB text j p0 p1 p2 p3 p4 pc q1 q2 q3 q4 fld par) scope cc cda) fI L) (eval (.Call (.Name "super" p0) [] [] p1) (envF (erF name qual params (erB text j p0 p1 p2 p3 p4 pc q1 q2 q3 q4 fld par) scope cc cda) fI L))
      standAt p2.atName
      let (f, first) ← holding [ov] (getMethod ov "__init__" pl)
      callWith p3 f first (backTo p3 (starEach [.Constant (.str text) j pc] (envF (erF name qual params (erB text j p0 p1 p2 p3 p4 pc q1 q2 q3 q4 fld par) scope cc cda) fI L))) []))
    (hb : ∀ (kV doc pm : Value) (an : Option Addr) (cl : List (PySem.Str × Addr)) (cdv ct : Value) (us : List Value), us.length = 2 → bindArgs (fnX name qual params (erB text j p0 p1 p2 p3 p4 pc q1 q2 q3 q4 fld par) scope cl .none kV doc pm an cdv ct) ⟨us, []⟩ = pure ((["self", par] : List PySem.Str).zip us)) :
    ∃ fd, FnOk P w K mg base CX 1 (ma K (ga K x) "__init__") fd ["self", par] (sp_er K (ga K x) fld) ∧ Binds K fd ["self", par] [] := by
  obtain ⟨⟨oc, od, kV, doc, pm, ct, an, osl, lk⟩, hcd, kp, hcell, ccl, cdd, vs, ccs, y, tf, hc1, hc2, hc3⟩ := fnE_ok F.fn e
  refine ⟨_, ok_er (k := 0) ⟨F.oex, F.opq, F.sup, F.sub, F.own, hcell, ⟨_, _, _, _, _, _, hc1, hc2, by rw [hf]; exact hc3⟩, htop⟩ lk hcd S hpar (by rw [har]; rfl) hks hms (hi _ _ _) (hsw _ _ _) (hev _ _ _) (fun vs H Q E h => ?_) (fun A outer s H vs Q E hr h => ?_), .all (hb kV doc pm an _ _ ct)⟩
  · obtain ⟨_, _, rfl, _⟩ := h
    rfl
  · obtain ⟨x', y', rfl, hx, q⟩ := h
    refine ⟨_, pss_one (ps_ost (pe_var (i := 0) rfl (.inl (S.par _ (by simp)))) (pe_var (i := 1) rfl (.inl (S.par _ (by simp))) hd1 hd2) (hsw2 _ _ _ _)), x', [y'], rfl, hx, ?_⟩
    exact ⟨_, rfl, _, rfl, x', ga K x, rfl, F.oex, F.no, .inl ⟨hx, fun dx h1 h2 => q dx h1 h2⟩⟩
end
/-- C(e): an error, on its way -/
def tErr (C : Addr) (fld : PySem.Str) (te : TE) : L2.St → Hp → XK → Prop := fun σ H Q => te σ H fun y H1 => ∀ d, H1 d = none → Q (.ref C) (some d) (upd H1 d (.xd [(fld, y)]))
/-- raise C(e), in a def that promises E of what it lets out -/
def tRz (E : XK) (C : Addr) (f : PySem.Str) (te : TE) : TS := fun _ σ H => tErr C f te σ H fun cls d H' => E cls d H'
theorem mk_er {K : Frag} {C : Addr} {fld : PySem.Str} {y : V} {H1 : Hp} {Q : XK} (h : ∀ d, H1 d = none → Q (.ref C) (some d) (upd H1 d (.xd [(fld, y)]))) :
    [y].length ≤ 1000 ∧ ∀ a, H1 a = none → sp_er K C fld (.ref a :: ([y] ++ [])) (upd H1 a (exo a C none)) (fun v H2 => v = .non ∧ ∃ (d : Addr) (fs : List (PySem.Str × V)), H2 a = some (exo a C (some d)) ∧ H2 d = some (exd d fs) ∧ H1 d = none ∧ Q (.ref C) (some d) (upd (del H2 a) d (.xd fs))) (fun _ _ _ => False) := by
  refine ⟨(show 1 ≤ 1000 by decide), fun a ha => ⟨a, y, rfl, upd_same, fun d hd hne => ⟨rfl, d, [(fld, y)], upd_same, ?_, ?_, ?_⟩⟩⟩
  · rw [upd_ne hne, upd_same]
  · rw [upd_ne hne] at hd
    exact hd
  · rw [upd_ne hne] at hd
    have e : upd (del (upd (upd (upd H1 a (exo a C none)) d (exd d [(fld, y)])) a (exo a C (some d))) a) d (.xd [(fld, y)]) = upd H1 d (.xd [(fld, y)]) := by
      funext b
      by_cases hb : b = d
      · rw [hb, upd_same, upd_same]
      · rw [upd_ne hb, upd_ne hb]
        by_cases hba : b = a
        · rw [hba, del_same, ha]
        · rw [del_ne hba, upd_ne hba, upd_ne hb, upd_ne hba]
    rw [e]
    exact h d hd
section
variable {X : Cx} {CX : CXT} {cx fld : PySem.Str} {C fI : Addr} {k : Nat} {fd : FuncData} {ps : List PySem.Str} {e : Expr} {te : TE} {p pos : Pos}
theorem PMk.imp {t t' : L2.St → Hp → XK → Prop} (h : PMk X e t) (i : ∀ σ H Q, t' σ H Q → t σ H Q) : PMk X e t' := fun pins s σ H Q I q => h pins s σ H Q I (i _ _ _ q)
/-- a reading may promise less -/
theorem pe_mono (he : PE X e te) : PE X e (fun σ H k => ∃ Q0 : VK, te σ H Q0 ∧ ∀ y H1, Q0 y H1 → k y H1) := ⟨fun pins s σ H Q I ⟨Q0, h, i⟩ => thn (he.run pins s σ H Q0 I h) fun v s1 ⟨y, H1, I1, r1, q1⟩ => ⟨y, H1, I1, r1, i _ _ q1⟩⟩
theorem pmk_err (he : PE X e te) (T : OexC X.K C) (iC : findIn X.K (.ref C) "__init__" = some (some (.ref fI))) (tI : typeIn X.K (.ref fI) = some (.type "function"))
    (F1 : FnOk X.prog X.w X.K X.mg X.base CX k fI fd ps (sp_er X.K C fld)) (hr : Room (k + 1) X.A) (hb : Binds X.K fd ps []) (hx : Passes CX X (fun _ _ _ => False)) (hg : Gl X cx) (hm : X.mg cx = some (.ref C))
    (hdb : (cx == ("__debug__" : PySem.Str)) = false := by decide) (hs : starEach [e] X.env = (false, eval e X.env) :: starEach [] X.env := by rfl) :
    PMk X (.Call (.Name cx p) [e] [] pos) (tErr C fld te) :=
  PMk.imp (pmk_oex T iC tI F1 hr hb .nil hx hg hm (pa_cons (pe_mono he) pa_nil hs) hdb hs) fun σ H Q h => ⟨_, h, fun y H1 q => mk_er q⟩
end
end Tw
/-! Tw: the law of shares in lowest terms -/
namespace Tw
open PySem PySem.Spec PyProof.Rows L2 He TwM StX LamX
open PySem.W (Frag)
local macro_rules | `(tactic| walk_at "rsl") => `(tactic| simp only [*, at3_0, at3_1, at3_2, at2_0, at2_1, updS, upd_two, gSub, rSetL, updN, tPar, tPar3, gTup, gCons, gNil, and_assoc, not_true_eq_false, not_false_eq_true, tNever, List.length_map, tFld, rIxTH, rIxLH, rLenTH, rLenLH, lk1, lfs_g, lfs_s, lfs_p, HO.ins.injEq, HO.tup.injEq, HO.lst.injEq, sp_Book_rounding, sp_Book_action, sp_Book_order, sp_Book_due, sp_Book_zero, sp_Book_beyond, Int.toNat_natCast, sp_visit_after, sp_is_visited, sp_Level_grain, sp_Level_slots, sp_Level_span, sp_Wheel_reach, sp_Wheel___len__, sp_is_integer, sp_is_count, sp_is_within, sp_rounded, tAsg, gName, tVar, tC, tOp, rI, rI0, rU, tUn, oAdd, oSub, oMul, oDiv, oMod, oNeg, oLt, oLe, oGt, oGe, oIsN, oNotN, tFn, tCons, tNil, tIfS, tIf, tTest, tB, tNot, tAnd, tOr, tAndV, tOrV, tNotV,
    tRet, tRetN, tNext, tCB, tDrop, tChain, rEq, rNe, oMax2, oMin2, oInt1, rLenF, L2.start, List.map_cons, List.map_nil, List.length_cons, List.length_nil, List.replicate_succ, List.replicate_zero, List.cons_append, List.nil_append, Nat.reduceAdd, Nat.reduceSub, Nat.zero_add,
    List.set_cons_zero, List.set_cons_succ, List.getElem?_cons_zero, List.getElem?_cons_succ, Option.some.injEq, V.int.injEq, V.ref.injEq, V.str.injEq, V.bl.injEq, exists_eq_left', exists_eq_left, exists_and_left, List.cons.injEq, and_true, true_and, decide_eq_true_eq, sc_ii, sc_ss, sc_bb, sc_ni, sc_in, sc_nn, sc_is, reduceCtorEq,
    Bool.not_eq_true', decide_eq_false_iff_not, if_true, if_false, Bool.false_eq_true, exists_eq', exists_const, false_and, and_false, or_false, false_or, exists_false, Bool.not_not, Bool.not_true, Bool.not_false, sUp_up, sFire_fire, sHigh_high, sPut_put, sZone_now, sBey_refuse, sBey_cut, tTup, tLst, sz0, sz1, sz2, sz3, sz4, sz5, sz6])
local macro_rules | `(tactic| walk_at "st") => `(tactic| ((try dsimp only); rw [seq1]; walk_at "rsl"))
section
variable {K : Frag} {w : World}
abbrev TL (K : Frag) : List (Addr × Str) := [(tbA K (ga K "_law_with_integer"), (("_law_with_integer" : Str) ++ ".<locals>." ++ "<lambda>")), (tbA K (ga K "law"), (("law" : Str) ++ ".<locals>." ++ "<lambda>"))]
theorem okNum : PySem.PyData.strOk "number" = true := by decide +kernel
def txtQ (q : Rat) : Str := if (q.den : Int) = 1 then Str.ofString (toString q.num) else Str.ofString (toString q.num) ++ "/" ++ Str.ofString (toString (q.den : Int))
theorem len_int {i : Int} (h : i.natAbs.log2 < 1920) : (Str.ofString (toString i)).length ≤ 2000 := by
  have h3 := int_text_length_le (k := 1920) (by decide) h
  rw [PySem.ofString_length]
  omega
def sp_Share_text (K : Frag) : Sp := fun vs H Q _ => ∃ (a : Addr) (q : Rat), vs = [.ref a] ∧ ShQ K H a q ∧ Bd 900 q ∧ Q (.str (txtQ q)) H
theorem in_Share_text (K : Frag) : InsAt (ga K "Share") (sp_Share_text K) := fun vs H Q E ⟨a, q, e, ⟨dx, h⟩, _⟩ => ⟨a, dx, _, [], e, h⟩
theorem txt_le {q : Rat} (b : Bd 900 q) : q.num.natAbs.log2 < 1920 ∧ (q.den : Int).natAbs.log2 < 1920 := ⟨Nat.lt_trans (log_of b.1 (by decide)) (by decide), Nat.lt_trans (log_of b.den (by decide)) (by decide)⟩
def t_Share_text (K : Frag) (w : World) : TS :=
  (tSeq (tIfS (tTest (tOp rEq (tFld K (tVar 0) "kept_bottom") (tC (.int 1)))) (tRet (tCB oStrI (tCons (tFld K (tVar 0) "kept_top") tNil))) tNext)
  (tRet (tOp oAddS (tOp oAddS (tCB oStrI (tCons (tFld K (tVar 0) "kept_top") tNil)) (tC (.str "/"))) (tCB oStrI (tCons (tFld K (tVar 0) "kept_bottom") tNil)))))
def n_Share_text : List Str := ["self"]
theorem rd_Share_text (T : Ks K w) (vs : List V) (H : Hp) (Q : VK) (E : XK) (h : sp_Share_text K vs H Q E) : t_Share_text K w { nx := fun _ H' => Q .non H', rt := Q } (L2.start n_Share_text vs) H := by
  obtain ⟨a, q, rfl, ⟨dx, h⟩, hb, k⟩ := h
  obtain ⟨l1, l2⟩ := txt_le hb
  have m1 := len_int l1
  have m2 := len_int l2
  have hsz : sizeLine = 16777216 := rfl
  unfold t_Share_text n_Share_text
  rw [seq1]
  refine ⟨_, rfl, a, _, dx, _, _, rfl, h, T.cS, T.nSb, sh_bot .., sc_ii _ _, _, rfl, ?_⟩
  dsimp only
  unfold txtQ at k
  by_cases e : (q.den : Int) = 1
  · rw [if_pos (decide_eq_true (by rw [e]))]
    rw [if_pos e] at k
    exact ⟨_, rfl, a, _, dx, _, _, rfl, h, T.cS, T.nSt, lk1 _ _ _, _, rfl, l1, k⟩
  · rw [if_neg (by rw [decide_eq_false (fun z => e (V.int.inj z))]; decide)]
    rw [if_neg e] at k
    refine ⟨_, rfl, a, _, dx, _, _, rfl, h, T.cS, T.nSt, lk1 _ _ _, _, rfl, l1, _, _, rfl, rfl, ?_, _, rfl, a, _, dx, _, _, rfl, h, T.cS, T.nSb, sh_bot .., _, rfl, l2, _, _, rfl, rfl, ?_, k⟩
    · show (Str.ofString (toString q.num)).length + 1 ≤ sizeLine
      omega
    · rw [Str.length_append]
      show (Str.ofString (toString q.num)).length + 1 + _ ≤ sizeLine
      omega
/-! lowest terms, as the law has them -/
def loInv (t b : Int) (H : Hp) (m : Nat) (σ : L2.St) (H' : Hp) : Prop := ∃ x y : Int, σ = [some (.int t), some (.int b), some (.int x), some (.int y), none] ∧ H' = H ∧ y.toNat = m ∧ (0 < x ∨ 0 < y) ∧ 0 ≤ y ∧ ∀ d, (d ∣ x ∧ d ∣ y) ↔ (d ∣ t ∧ d ∣ b)
def sp__law_lowest (K : Frag) : Sp := fun vs H Q _ => ∃ (t b : Int), vs = [.int t, .int b] ∧ b ≠ 0 ∧ t.natAbs < 2 ^ 800 ∧ b.natAbs < 2 ^ 800 ∧ ∀ T H', Same H H' → H' T = some (.tup [.int (Rat.divInt t b).num, .int (Rat.divInt t b).den]) → Q (.ref T) H'
def t__law_lowest (K : Frag) (w : World) : TS :=
  (tSeq (tPar 2 3 (tCons (tCB oAbs (tCons (tVar 0) tNil)) (tCons (tCB oAbs (tCons (tVar 1) tNil)) tNil)))
  (tSeq (tWhile (tTest (tOp oGt (tVar 3) (tC (.int 0))))
    (tPar 2 3 (tCons (tVar 3) (tCons (tOp oMod (tVar 2) (tVar 3)) tNil))))
  (tSeq (tAsg (tIf (tTest (tOp oGt (tVar 1) (tC (.int 0)))) (tC (.int 1)) (tUn oNeg (tC (.int 1)))) (gName 4))
  (tRet (tTup (tCons (tOp oDivA (tOp oMul (tVar 4) (tVar 0)) (tVar 2)) (tCons (tOp oDivA (tOp oMul (tVar 4) (tVar 1)) (tVar 2)) tNil)))))))
def n__law_lowest : List Str := ["_law_top", "_law_bottom", "_law_one", "_law_other", "_law_sign"]
theorem rd__law_lowest (vs : List V) (H : Hp) (Q : VK) (E : XK) (h : sp__law_lowest K vs H Q E) : t__law_lowest K w { nx := fun _ H' => Q .non H', rt := Q } (L2.start n__law_lowest vs) H := by
  obtain ⟨t, b, rfl, hb, ht2, hb2, q⟩ := h
  unfold t__law_lowest n__law_lowest tPar oAbs
  walk_at "rsl"
  refine ⟨_, rfl, t, rfl, _, rfl, b, rfl, ?_⟩
  try dsimp only
  rw [seq1]
  refine ⟨loInv t b H, ⟨_, _, _, rfl, rfl, rfl, .inr (by split <;> omega), by split <;> omega, fun d => by rw [dvd_absI, dvd_absI]⟩, ?_⟩
  rintro m σ H1 ⟨x, y, rfl, rfl, rfl, hx, hy, hd⟩
  refine ⟨_, rfl, _, _, rfl, rfl, _, rfl, ?_⟩
  dsimp only
  by_cases h : 0 < y
  · rw [if_pos (decide_eq_true h)]
    have h1 := Int.emod_nonneg x (b := y) (by omega)
    have h2 := Int.emod_lt_of_pos x h
    refine ⟨loInv t b H1 (x % y).toNat, fun σ' H' z => ⟨_, ?_, z⟩, _, rfl, _, rfl, _, rfl, _, rfl, _, rfl, h, ?_⟩
    · omega
    · exact ⟨_, _, rfl, rfl, rfl, .inl h, h1, fun d => ⟨fun z => (hd d).mp ((dvd_step y x d).mp ⟨z.2, z.1⟩).symm, fun z => ((dvd_step y x d).mpr ((hd d).mpr z).symm).symm⟩⟩
  · rw [if_neg (by rw [decide_eq_false h]; decide)]
    have h0 : y = 0 := by omega
    subst h0
    have hg : IsG t b x := ⟨by omega, fun d => (hd d).symm.trans ⟨fun z => z.1, fun z => ⟨z, Int.dvd_zero d⟩⟩⟩
    have hl := low_at hb hg
    have hxb : x.natAbs.log2 < 9000 := by
      have h1 := Nat.le_of_dvd (by omega) (Int.natAbs_dvd_natAbs.mpr ((hg.2 x).mpr (Int.dvd_refl x)).2)
      exact Nat.lt_trans (log_of (Nat.lt_of_le_of_lt h1 hb2) (by decide)) (by decide)
    rw [seq1]
    refine ⟨_, rfl, b, 0, rfl, rfl, _, rfl, ?_⟩
    try dsimp only
    have fin : ∀ s : Int, s = (if 0 < b then (1 : Int) else -1) → gName 4 (V.int s) [some (V.int t), some (V.int b), some (V.int x), some (V.int 0), none] H1 (tRet (tTup (tCons (tOp oDivA (tOp oMul (tVar 4) (tVar 0)) (tVar 2)) (tCons (tOp oDivA (tOp oMul (tVar 4) (tVar 1)) (tVar 2)) tNil))) { nx := fun x H' => Q V.non H', rt := Q }) := fun s hs => by
      have hs1 : s = 1 ∨ s = -1 := by rw [hs]; split <;> omega
      refine ⟨_, rfl, _, rfl, s, t, rfl, rfl, .inl ⟨by omega, by omega⟩, _, rfl, _, x, rfl, rfl, ⟨by omega, hxb⟩, _, rfl, _, rfl, s, b, rfl, rfl, .inl ⟨by omega, by omega⟩, _, rfl, _, x, rfl, rfl, ⟨by omega, hxb⟩, (show 2 ≤ 16777216 by decide), fun T hT => ?_⟩
      dsimp only
      rw [hs, hl.1, hl.2]
      exact q T _ (Same.new hT) (updS _ _ _)
    by_cases hp : 0 < b
    · rw [if_pos (decide_eq_true hp)]
      exact fin 1 (by rw [if_pos hp])
    · rw [if_neg (by rw [decide_eq_false hp]; decide)]
      exact ⟨1, rfl, fin (-1) (by rw [if_neg hp])⟩
theorem isi_shV {i : Nat} {a : Addr} {q : Rat} {σ : L2.St} {H : Hp} {Q : VK} (T : Ks K w) (hi : σ[i]? = some (some (.ref a))) (h : ShQ K H a q) (k : Q (.bl true) H) : tCB (rIsi K) (tCons (tVar i) (tCons (tC (.ref (ga K "Share"))) tNil)) σ H Q := ⟨_, hi, isi_share T h.choose_spec k⟩
def sp__law_is_share (K : Frag) : Sp := fun vs H Q _ => ∃ (a : Addr) (t b : Int), vs = [.ref a, .int t, .int b] ∧ ShQ K H a (Rat.divInt t b) ∧ b ≠ 0 ∧ t.natAbs < 2 ^ 800 ∧ b.natAbs < 2 ^ 800 ∧ ∀ H', Same H H' → Q (.bl true) H'
theorem dp_two {H : Hp} {T : Addr} {x y : Int} (h : H T = some (.tup [.int x, .int y])) : Dp K H (.ref T) (.tuple ([x, y].map PyData.int)) := .tup (SqT.of h) (.cons (.int x) (.cons (.int y) .nil))
def t__law_is_share (K : Frag) (w : World) : TS :=
  (tSeq (tAsg (tFn (sp__law_lowest K) E0 (tCons (tVar 1) (tCons (tVar 2) tNil))) (gName 3))
  (tSeq (tIfS (tOr (tNot (tB (tCB (rIsi K) (tCons (tVar 0) (tCons (tC (.ref (ga K "Share"))) tNil))))) (tTest (tOp rNe (tCB (rReprG K) (tCons (tTup (tCons (tFn (sp_Share_top K) E0 (tCons (tVar 0) tNil)) (tCons (tFn (sp_Share_bottom K) E0 (tCons (tVar 0) tNil)) tNil))) tNil)) (tCB (rReprG K) (tCons (tVar 3) tNil))))) (tRet (tC (.bl false))) tNext)
  (tRet (tOp rEq (tFn (sp_Share_text K) E0 (tCons (tVar 0) tNil)) (tIf (tTest (tOp rEq (tOp rIxTH (tVar 3) (tC (.int 1))) (tC (.int 1)))) (tCB oStrI (tCons (tOp rIxTH (tVar 3) (tC (.int 0))) tNil)) (tOp oAddS (tOp oAddS (tCB oStrI (tCons (tOp rIxTH (tVar 3) (tC (.int 0))) tNil)) (tC (.str "/"))) (tCB oStrI (tCons (tOp rIxTH (tVar 3) (tC (.int 1))) tNil))))))))
def n__law_is_share : List Str := ["_law_found", "_law_top", "_law_bottom", "_law_due"]
theorem rd__law_is_share (T : Ks K w) (vs : List V) (H : Hp) (Q : VK) (E : XK) (h : sp__law_is_share K vs H Q E) : t__law_is_share K w { nx := fun _ H' => Q .non H', rt := Q } (L2.start n__law_is_share vs) H := by
  obtain ⟨a, t, b, rfl, ha, hb, h1, h2, q⟩ := h
  have hB : Bd 900 (Rat.divInt t b) := bd_div hb (nat_mono h1 (by decide)) (nat_mono h2 (by decide))
  obtain ⟨l1, l2⟩ := txt_le hB
  unfold t__law_is_share n__law_is_share
  rw [seq1]
  refine ⟨_, rfl, _, rfl, t, b, rfl, hb, h1, h2, fun D H1 s1 hD => ?_⟩
  try dsimp only
  rw [gName1]
  try dsimp only [List.set_cons_succ, List.set_cons_zero]
  generalize Rat.divInt t b = r at *
  have ha1 := ha.same s1
  obtain ⟨dx, e1⟩ := id ha1
  have hl : ∀ x ∈ [r.num, (r.den : Int)], x.natAbs.log2 < 1920 := fun x hx => by
    simp only [List.mem_cons, List.not_mem_nil, or_false] at hx
    rcases hx with rfl | rfl
    · exact l1
    · exact l2
  rw [seq1]
  refine isi_shV T rfl ha1 ⟨true, rfl, ?_⟩
  try dsimp only
  rw [if_neg (by decide)]
  refine ⟨_, rfl, a, _, _, rfl, ha1, _, rfl, a, _, _, rfl, ha1, (show 2 ≤ 16777216 by decide), fun F hF => ?_⟩
  have s2 := Same.new (o := .tup [.int r.num, .int r.den]) hF
  dsimp only [tNil]
  refine repr_ints (l := [r.num, (r.den : Int)]) (dp_two (updS _ _ _)) (show 2 ≤ 8000 by decide) hl ?_
  refine ⟨_, rfl, ?_⟩
  dsimp only [tNil]
  refine repr_ints (l := [r.num, (r.den : Int)]) (dp_two (s2 _ _ hD)) (show 2 ≤ 8000 by decide) hl ?_
  refine ⟨sc_ss _ _, false, by rw [decide_eq_true rfl]; rfl, ?_⟩
  try dsimp only
  rw [if_neg (by decide)]
  have ha2 := ha1.same s2
  have hD2 := s2 _ _ hD
  generalize upd H1 F (.tup [V.int r.num, .int r.den]) = H2 at *
  unfold tNext
  try dsimp only
  refine ⟨_, rfl, a, r, rfl, ha2, hB, ?_⟩
  obtain ⟨l1, l2⟩ := txt_le hB
  have m1 := len_int l1
  have m2 := len_int l2
  have hsz : sizeLine = 16777216 := rfl
  have fin : ∀ y : Str, y = txtQ r → rEq (.str (txtQ r)) (.str y) H2 Q := fun y hy => by
    subst hy
    refine ⟨sc_ss _ _, ?_⟩
    rw [decide_eq_true rfl]
    exact q _ (s1.trans s2)
  refine ⟨_, rfl, D, _, 1, _, rfl, rfl, hD2, at2_1 .., sc_ii _ _, _, rfl, ?_⟩
  dsimp only
  by_cases e : (r.den : Int) = 1
  · rw [if_pos (decide_eq_true (by rw [e]))]
    refine ⟨_, rfl, D, _, 0, _, rfl, rfl, hD2, at2_0 .., _, rfl, l1, fin _ ?_⟩
    unfold txtQ
    rw [if_pos e]
  · rw [if_neg (by rw [decide_eq_false (fun z => e (V.int.inj z))]; decide)]
    refine ⟨_, rfl, D, _, 0, _, rfl, rfl, hD2, at2_0 .., _, rfl, l1, _, _, rfl, rfl, ?_, _, rfl, D, _, 1, _, rfl, rfl, hD2, at2_1 .., _, rfl, l2, _, _, rfl, rfl, ?_, fin _ ?_⟩
    · show (Str.ofString (toString r.num)).length + 1 ≤ sizeLine
      omega
    · rw [Str.length_append]
      show (Str.ofString (toString r.num)).length + 1 + _ ≤ sizeLine
      omega
    · unfold txtQ
      rw [if_neg e]
def sp__law_integer (K : Frag) : Sp := fun vs H Q _ => ∃ (p l : Addr), vs = [.ref p] ∧ PoolAt H p l ∧ ∀ (i : Int) H', SameP p l H H' → PoolAt H' p l → i.natAbs < 2 ^ 100 → Q (.int i) H'
def t__law_integer (K : Frag) (w : World) : TS :=
  (tSeq (tAsg (tOp rIxLH (tLst (tCons (tFn (sp__law_draw K) E0 (tCons (tVar 0) (tCons (tC (.int 7)) tNil))) (tCons (tFn (sp__law_draw K) E0 (tCons (tVar 0) (tCons (tC (.int 60)) tNil))) (tCons (tFn (sp__law_draw K) E0 (tCons (tVar 0) (tCons (tOp oPow (tC (.int 10)) (tC (.int 30))) tNil))) tNil)))) (tFn (sp__law_draw K) E0 (tCons (tVar 0) (tCons (tC (.int 3)) tNil)))) (gName 1))
  (tRet (tOp rIxLH (tLst (tCons (tVar 1) (tCons (tOp oSub (tC (.int 0)) (tVar 1)) tNil))) (tFn (sp__law_draw K) E0 (tCons (tVar 0) (tCons (tC (.int 2)) tNil))))))
def n__law_integer : List Str := ["_law_pool", "_law_number"]
theorem rd__law_integer (vs : List V) (H : Hp) (Q : VK) (E : XK) (h : sp__law_integer K vs H Q E) : t__law_integer K w { nx := fun _ H' => Q .non H', rt := Q } (L2.start n__law_integer vs) H := by
  obtain ⟨p, l, rfl, hp, q⟩ := h
  have e30 : (10 : Int) ^ (30 : Int).toNat = 1000000000000000000000000000000 := by decide +kernel
  unfold t__law_integer n__law_integer
  rw [seq1]
  refine ⟨_, rfl, draw (K := K) hp (by decide) (by decide) fun i1 H1 s1 hp1 a0 a1 => ⟨_, rfl, draw (K := K) hp1 (by decide) (by decide) fun i2 H2 s2 hp2 b0 b1 => ⟨_, rfl, 10, 30, rfl, rfl, ⟨by decide, by decide, by decide⟩, draw (K := K) hp2 (by decide +kernel) (by decide +kernel) fun i3 H3 s3 hp3 c0 c1 => ⟨(show 3 ≤ 16777216 by decide), fun L hL => ?_⟩⟩⟩⟩
  rw [e30] at c1
  have s13 := (s1.trans s2).trans s3
  have s4 := Same.new (o := .lst [V.int i1, .int i2, .int i3]) hL
  have g4 := updS H3 L (.lst [V.int i1, .int i2, .int i3])
  have ap := hp3.apart hL
  have hp4 := hp3.same s4
  generalize upd H3 L (.lst [V.int i1, .int i2, .int i3]) = H4 at *
  refine ⟨_, rfl, draw (K := K) hp4 (by decide) (by decide) fun x H5 s5 hp5 x0 x1 => ?_⟩
  obtain ⟨y, hy, e⟩ := atV (xs := [V.int i1, .int i2, .int i3]) x0 (by simpa using x1)
  refine ⟨L, _, x, y, rfl, rfl, s5 _ _ ap.1 ap.2 g4, e, ?_⟩
  obtain ⟨n, rfl, hn⟩ : ∃ n : Int, y = .int n ∧ 0 ≤ n ∧ n < 1000000000000000000000000000000 := by
    have hy := List.mem_of_getElem? hy
    simp only [List.mem_cons, List.not_mem_nil, or_false] at hy
    rcases hy with rfl | rfl | rfl
    · exact ⟨_, rfl, by omega, by omega⟩
    · exact ⟨_, rfl, by omega, by omega⟩
    · exact ⟨_, rfl, by omega, by omega⟩
  have s15 := (s13.step s4).trans s5
  clear hy e g4 s4 s13 hp4 hp3 hp2 hp1
  try dsimp only
  rw [gName1]
  try dsimp only [List.set_cons_succ, List.set_cons_zero]
  refine ⟨_, rfl, _, rfl, 0, n, rfl, rfl, (show 2 ≤ 16777216 by decide), fun M hM => ?_⟩
  have apM := hp5.apart hM
  have s6 := Same.new (o := .lst [V.int n, .int (0 - n)]) hM
  have g6 := updS H5 M (.lst [V.int n, .int (0 - n)])
  have hp6 := hp5.same s6
  generalize upd H5 M (.lst [V.int n, .int (0 - n)]) = H6 at *
  refine ⟨_, rfl, draw (K := K) hp6 (by decide) (by decide) fun x H7 s7 hp7 x0 x1 => ?_⟩
  obtain ⟨y, hy, e⟩ := atV (xs := [V.int n, .int (0 - n)]) x0 (by simpa using x1)
  refine ⟨M, _, x, y, rfl, rfl, s7 _ _ apM.1 apM.2 g6, e, ?_⟩
  have hy := List.mem_of_getElem? hy
  simp only [List.mem_cons, List.not_mem_nil, or_false] at hy
  rcases hy with rfl | rfl
  · exact q n H7 ((s15.step s6).trans s7) hp7 (by omega)
  · exact q (0 - n) H7 ((s15.step s6).trans s7) hp7 (by omega)
/-! what is refused -/
def ErV (K : Frag) (H : Hp) (v : V) (E : XK) : Prop := ∀ H', Same H H' → ∀ d, H' d = none → E (.ref (ga K "InvalidNumber")) (some d) (upd H' d (.xd [("value", v)]))
def NoN (H : Hp) (v : V) : Prop := ∃ d, Ov H v d ∧ intD d = false
theorem NoN.isS {H : Hp} {v : V} {Q : VK} (T : Kx K w) (h : NoN H v) (q : Q (.bl false) H) : rIsi K [v, .ref (ga K "Share")] H Q := by
  obtain ⟨d, h, hd⟩ := h
  cases h with
  | at_ h =>
    cases v with
    | non => exact ⟨.non, _, _, _, false, rfl, .own _, .base .non, T.no (t := "NoneType") (by simp), q⟩
    | bl b => exact ⟨.bl b, _, _, _, false, rfl, .own _, .base (.bl b), T.no (t := "bool") (by simp), q⟩
    | str s => exact ⟨.str s, _, _, _, false, rfl, .own _, .base (.str s), T.no (t := "str") (by simp), q⟩
    | int i => cases h; cases hd
    | _ => cases h
  | tup h f => exact ⟨_, _, _, _, false, rfl, .own _, .base (.tup h), T.no (t := "tuple") (by simp), q⟩
  | lst h f => exact ⟨_, _, _, _, false, rfl, .own _, .base (.lst h), T.no (t := "list") (by simp), q⟩
  | dict h => exact ⟨_, _, _, _, false, rfl, .own _, .base (.dK h), T.no (t := "dict") (by simp), q⟩
def sp_is_numberR (K : Frag) : Sp := fun vs H Q _ => ∃ v b, vs = [v] ∧ ((b = true ∧ ∃ q, PartQ K H v q) ∨ (b = false ∧ NoN H v)) ∧ Q (.bl b) H
def t_is_numberR (K : Frag) (w : World) : TS :=
  (tRet (tOrV (tFn (sp_is_integerA K) E0 (tCons (tVar 0) tNil)) (tCB (rIsi K) (tCons (tVar 0) (tCons (tC (.ref (ga K "Share"))) tNil)))))
def n_is_numberR : List Str := ["value"]
theorem rd_is_numberR (T : Kx K w) (vs : List V) (H : Hp) (Q : VK) (E : XK) (h : sp_is_numberR K vs H Q E) : t_is_numberR K w { nx := fun _ H' => Q .non H', rt := Q } (L2.start n_is_numberR vs) H := by
  obtain ⟨v, b, rfl, h, q⟩ := h
  unfold t_is_numberR n_is_numberR
  rcases h with ⟨rfl, r, ⟨n, rfl, rfl⟩ | ⟨a, rfl, dx, h⟩⟩ | ⟨rfl, d, h, hd⟩
  · exact ⟨_, rfl, _, true, rfl, (Ov.at_ (H := H) (x := .int n) rfl).isI, true, rfl, q⟩
  · exact ⟨_, rfl, _, false, rfl, ⟨false, false, fun _ _ s q => isi_share_int T.ks (s _ _ h) q, fun z => (by cases z), rfl⟩, false, rfl, _, rfl, isi_share T.ks h q⟩
  · refine ⟨_, rfl, _, false, rfl, hd ▸ h.isI, false, rfl, _, rfl, ?_⟩
    exact NoN.isS T ⟨d, h, hd⟩ q
theorem bd_share {q : Rat} (h : Bd 200 q) : Bd 800 q := h.mono (by decide)
def sp_Share___init__R (K : Frag) : Sp := fun vs H _ E => ∃ (x : Addr) (t b : V), vs = [.ref x, t, b] ∧ ((NoN H t ∧ ErV K H t E) ∨ ((∃ n : Int, t = .int n) ∧ (NoN H b ∨ b = .int 0) ∧ ErV K H b E))
def t_Share___init__R (K : Frag) (w : World) (E : XK) : TS :=
  (tSeq (tIfS (tNot (tB (tFn (sp_is_integerA K) E0 (tCons (tVar 1) tNil)))) (tRz E (ga K "InvalidNumber") "value" (tVar 1)) tNext)
  (tSeq (tIfS (tOr (tNot (tB (tFn (sp_is_integerA K) E0 (tCons (tVar 2) tNil)))) (tTest (tOp rEq (tVar 2) (tC (.int 0))))) (tRz E (ga K "InvalidNumber") "value" (tVar 2)) tNext)
  (tSeq (tAsg (tFn (sp_common_divisor K) E0 (tCons (tVar 1) (tCons (tCB oAbs (tCons (tVar 2) tNil)) tNil))) (gName 3))
  (tSeq (tIfS (tTest (tOp oLt (tVar 2) (tC (.int 0)))) (tAsg (tUn oNeg (tVar 3)) (gName 3)) tNext)
  (tSeq (sFld K (tVar 0) (tOp oDiv (tVar 1) (tVar 3)) "kept_top")
  (sFld K (tVar 0) (tOp oDiv (tVar 2) (tVar 3)) "kept_bottom"))))))
def n_Share___init__R : List Str := ["self", "top", "bottom", "divisor"]
theorem rd_Share___init__R (vs : List V) (H : Hp) (Q : VK) (E : XK) (h : sp_Share___init__R K vs H Q E) : t_Share___init__R K w E { nx := fun _ H' => Q .non H', rt := Q } (L2.start n_Share___init__R vs) H := by
  obtain ⟨x, t, b, rfl, h⟩ := h
  unfold t_Share___init__R n_Share___init__R
  rw [seq1]
  rcases h with ⟨⟨d, h, hd⟩, hE⟩ | ⟨⟨n, rfl⟩, h, hE⟩
  · refine ⟨_, rfl, t, false, rfl, hd ▸ h.isI, false, rfl, ?_⟩
    try dsimp only
    rw [if_pos (by decide)]
    exact ⟨_, rfl, fun d hd => hE H (Same.refl _) d hd⟩
  · refine ⟨_, rfl, _, true, rfl, (Ov.at_ (H := H) (x := .int n) rfl).isI, true, rfl, ?_⟩
    try dsimp only
    rw [if_neg (by decide)]
    change tSeq _ _ _ _ _
    rw [seq1]
    rcases h with ⟨d, h, hd⟩ | rfl
    · refine ⟨_, rfl, b, false, rfl, hd ▸ h.isI, false, rfl, ?_⟩
      try dsimp only
      rw [if_pos (by decide)]
      try dsimp only
      rw [if_pos rfl]
      exact ⟨_, rfl, fun d hd => hE H (Same.refl _) d hd⟩
    · refine ⟨_, rfl, _, true, rfl, (Ov.at_ (H := H) (x := .int 0) rfl).isI, true, rfl, ?_⟩
      try dsimp only
      rw [if_neg (by decide)]
      refine ⟨_, rfl, sc_ii _ _, true, rfl, ?_⟩
      dsimp only
      rw [if_pos rfl]
      exact ⟨_, rfl, fun d hd => hE H (Same.refl _) d hd⟩
def sp_Share_overR (K : Frag) : Sp := fun vs H _ E => ∃ (a : Addr) (v : V), vs = [.ref a, v] ∧ (∃ q, ShQ K H a q) ∧ (NoN H v ∨ ∃ r : Rat, PartQ K H v r ∧ r.num = 0 ∧ Bd 800 r) ∧ ErV K H v E
theorem in_Share_overR (K : Frag) : InsAt (ga K "Share") (sp_Share_overR K) := fun vs H Q E ⟨a, v, e, ⟨q, dx, h⟩, _⟩ => ⟨a, dx, _, _, e, h⟩
def t_Share_overR (K : Frag) (w : World) (E : XK) : TS :=
  (tSeq (tIfS (tNot (tB (tFn (sp_is_numberR K) E0 (tCons (tVar 1) tNil)))) (tRz E (ga K "InvalidNumber") "value" (tVar 1)) tNext)
  (tSeq (tAsg (tFn (sp_share_of K) E0 (tCons (tVar 1) tNil)) (gName 2))
  (tSeq (tIfS (tTest (tOp rEq (tFld K (tVar 2) "kept_top") (tC (.int 0)))) (tRz E (ga K "InvalidNumber") "value" (tVar 1)) tNext)
  (tRet (tMakeR (ga K "Share") (sp_Share___init__R K) E (tCons (tOp oMul (tFld K (tVar 0) "kept_top") (tFld K (tVar 2) "kept_bottom")) (tCons (tOp oMul (tFld K (tVar 0) "kept_bottom") (tFld K (tVar 2) "kept_top")) tNil)))))))
def n_Share_overR : List Str := ["self", "other", "value"]
theorem rd_Share_overR (T : Kx K w) (vs : List V) (H : Hp) (Q : VK) (E : XK) (h : sp_Share_overR K vs H Q E) : t_Share_overR K w E { nx := fun _ H' => Q .non H', rt := Q } (L2.start n_Share_overR vs) H := by
  obtain ⟨a, v, rfl, ha, h, hE⟩ := h
  unfold t_Share_overR n_Share_overR
  rw [seq1]
  rcases h with h | ⟨r, hr, h0, hb⟩
  · refine ⟨_, rfl, v, false, rfl, .inr ⟨rfl, h⟩, false, rfl, ?_⟩
    try dsimp only
    rw [if_pos (by decide)]
    exact ⟨_, rfl, fun d hd => hE H (Same.refl _) d hd⟩
  · refine ⟨_, rfl, v, true, rfl, .inl ⟨rfl, r, hr⟩, true, rfl, ?_⟩
    try dsimp only
    rw [if_neg (by decide)]
    change tSeq _ _ _ _ _
    rw [seq1]
    refine ⟨_, rfl, v, r, rfl, hr, hb, fun s H2 s2 hs => ?_⟩
    try dsimp only
    rw [gName1]
    try dsimp only [List.set_cons_succ, List.set_cons_zero]
    rw [seq1]
    exact if_top T.ks (by rfl) hs (fun _ => ⟨_, rfl, fun d hd => hE H2 s2 d hd⟩) fun z => absurd h0 z
def sp_Share___eq__ (K : Frag) : Sp := fun vs H Q _ => ∃ (a b : Addr) (q : Rat), vs = [.ref a, .ref b] ∧ ShQ K H a q ∧ ShQ K H b q ∧ Bd 800 q ∧ ∀ H', Same H H' → Q (.bl true) H'
def t_Share___eq__ (K : Frag) (w : World) : TS :=
  (tSeq (tIfS (tNot (tB (tFn (sp_is_number K) E0 (tCons (tVar 1) tNil)))) (tRet (tC (.bl false))) tNext)
  (tSeq (tAsg (tFn (sp_share_of K) E0 (tCons (tVar 1) tNil)) (gName 2))
  (tRet (tAndV (tOp rEq (tFld K (tVar 0) "kept_top") (tFld K (tVar 2) "kept_top")) (tOp rEq (tFld K (tVar 0) "kept_bottom") (tFld K (tVar 2) "kept_bottom"))))))
def n_Share___eq__ : List Str := ["self", "other", "value"]
theorem rd_Share___eq__ (T : Ks K w) (vs : List V) (H : Hp) (Q : VK) (E : XK) (h : sp_Share___eq__ K vs H Q E) : t_Share___eq__ K w { nx := fun _ H' => Q .non H', rt := Q } (L2.start n_Share___eq__ vs) H := by
  obtain ⟨a, b, q, rfl, ha, hb, hB, k⟩ := h
  unfold t_Share___eq__ n_Share___eq__
  rw [seq1]
  refine ⟨_, rfl, .ref b, _, _, rfl, .inr ⟨b, rfl, hb⟩, true, rfl, ?_⟩
  try dsimp only
  rw [if_neg (by decide)]
  change tSeq _ _ _ _ _
  rw [seq1]
  refine ⟨_, rfl, .ref b, q, rfl, .inr ⟨b, rfl, hb⟩, hB, fun s H2 s2 hs => ?_⟩
  try dsimp only
  rw [gName1]
  try dsimp only [List.set_cons_succ, List.set_cons_zero]
  obtain ⟨dx, e1⟩ := ha.same s2
  obtain ⟨dy, e2⟩ := hs
  refine ⟨_, rfl, a, _, dx, _, _, rfl, e1, T.cS, T.nSt, lk1 _ _ _, _, rfl, s, _, dy, _, _, rfl, e2, T.cS, T.nSt, lk1 _ _ _, sc_ii _ _, _, rfl, ?_⟩
  rw [if_pos (decide_eq_true rfl)]
  refine ⟨_, rfl, a, _, dx, _, _, rfl, e1, T.cS, T.nSb, sh_bot .., _, rfl, s, _, dy, _, _, rfl, e2, T.cS, T.nSb, sh_bot .., sc_ii _ _, ?_⟩
  rw [decide_eq_true rfl]
  exact k H2 s2
/-! within an except suite -/
def sp_share_ofP (K : Frag) : Sp := fun vs H Q _ => ∃ (a : Addr) (q : Rat), vs = [.ref a] ∧ ShQ K H a q ∧ Q (.ref a) H
def tOff : TS := fun _ _ _ => False
theorem pss_offP {X : Cx} {b : List PySem.Stmt} : PSs X b tOff := ⟨fun _ _ _ _ _ _ h => h.elim⟩
def t_share_ofP (K : Frag) (w : World) : TS := (tSeq (tIfS (tB (tCB (rIsi K) (tCons (tVar 0) (tCons (tC (.ref (ga K "Share"))) tNil)))) (tRet (tVar 0)) tNext) tOff)
theorem rd_share_ofP (T : Ks K w) (vs : List V) (H : Hp) (Q : VK) (E : XK) (h : sp_share_ofP K vs H Q E) : t_share_ofP K w { nx := fun _ H' => Q .non H', rt := Q } (L2.start n_share_of vs) H := by
  obtain ⟨a, r, rfl, h, q⟩ := h
  unfold t_share_ofP n_share_of
  rw [seq1]
  refine isi_shV T rfl h ⟨true, rfl, ?_⟩
  try dsimp only
  rw [if_pos rfl]
  exact ⟨_, rfl, q⟩
def sp_Share___eq__P (K : Frag) : Sp := fun vs H Q _ => ∃ (a b : Addr) (q : Rat), vs = [.ref a, .ref b] ∧ ShQ K H a q ∧ ShQ K H b q ∧ Q (.bl true) H
def t_Share___eq__P (K : Frag) (w : World) : TS := (tSeq (tIfS (tNot (tB (tFn (sp_is_number K) E0 (tCons (tVar 1) tNil)))) (tRet (tC (.bl false))) tNext)
  (tSeq (tAsg (tFn (sp_share_ofP K) E0 (tCons (tVar 1) tNil)) (gName 2))
  (tRet (tAndV (tOp rEq (tFld K (tVar 0) "kept_top") (tFld K (tVar 2) "kept_top")) (tOp rEq (tFld K (tVar 0) "kept_bottom") (tFld K (tVar 2) "kept_bottom"))))))
theorem rd_Share___eq__P (T : Ks K w) (vs : List V) (H : Hp) (Q : VK) (E : XK) (h : sp_Share___eq__P K vs H Q E) : t_Share___eq__P K w { nx := fun _ H' => Q .non H', rt := Q } (L2.start n_Share___eq__ vs) H := by
  obtain ⟨a, b, q, rfl, ha, hb, k⟩ := h
  unfold t_Share___eq__P n_Share___eq__
  rw [seq1]
  refine ⟨_, rfl, .ref b, _, _, rfl, .inr ⟨b, rfl, hb⟩, true, rfl, ?_⟩
  try dsimp only
  rw [if_neg (by decide)]
  change tSeq _ _ _ _ _
  rw [seq1]
  refine ⟨_, rfl, b, q, rfl, hb, ?_⟩
  try dsimp only
  rw [gName1]
  try dsimp only [List.set_cons_succ, List.set_cons_zero]
  obtain ⟨dx, e1⟩ := ha
  obtain ⟨dy, e2⟩ := hb
  refine ⟨_, rfl, a, _, dx, _, _, rfl, e1, T.cS, T.nSt, lk1 _ _ _, _, rfl, b, _, dy, _, _, rfl, e2, T.cS, T.nSt, lk1 _ _ _, sc_ii _ _, _, rfl, ?_⟩
  rw [if_pos (decide_eq_true rfl)]
  refine ⟨_, rfl, a, _, dx, _, _, rfl, e1, T.cS, T.nSb, sh_bot .., _, rfl, b, _, dy, _, _, rfl, e2, T.cS, T.nSb, sh_bot .., sc_ii _ _, ?_⟩
  rw [decide_eq_true rfl]
  exact k
def sp__law_over_nothing (K : Frag) : Sp := fun vs H Q _ => ∃ (a b : Addr) (r : Rat), vs = [.ref a, .ref b] ∧ (∃ q, ShQ K H a q) ∧ ShQ K H b r ∧ r.num = 0 ∧ Bd 800 r ∧ ∀ H', Same H H' → Q (.bl true) H'
def t__law_over_nothing (K : Frag) (w : World) : TS :=
  (tSeq (tTryMt K 3 (ga K "Share") "over" (sp_Share_overR K) (tVar 0) (tCons (tVar 1) tNil) [(.ref (ga K "InvalidNumber"), 2, fun a cls d => tRet (tAndV (tCB (rIsi K) (tCons (tXfA K a cls d "value" (tVar 2)) (tCons (tC (.ref (ga K "Share"))) tNil))) (tOp (rCmpO (ga K "Share") (sp_Share___eq__P K) E0) (tXfA K a cls d "value" (tVar 2)) (tVar 1))))])
  (tRet (tC (.bl false))))
def n__law_over_nothing : List Str := ["_law_share", "_law_other", "e"]
theorem rd__law_over_nothing (T : Kx K w) (TE : Ke K [("InvalidNumber", "number")]) (vs : List V) (H : Hp) (Q : VK) (E : XK) (h : sp__law_over_nothing K vs H Q E) : t__law_over_nothing K w { nx := fun _ H' => Q .non H', rt := Q } (L2.start n__law_over_nothing vs) H := by
  have kP : KeC K "InvalidNumber" "number" := TE ("InvalidNumber", "number") (by simp)
  obtain ⟨a, b, r, rfl, ha, hb, h0, hB, q⟩ := h
  obtain ⟨q1, dx, e1⟩ := id ha
  unfold t__law_over_nothing n__law_over_nothing
  rw [seq1]
  unfold tTryMt tDrop tMethW
  refine ⟨_, rfl, a, dx, _, rfl, e1, rfl, _, rfl, fun cls d H' => wAll K 3 _ _ _ cls d _ H', ⟨a, .ref b, rfl, ha, .inr ⟨r, .inr ⟨b, rfl, hb⟩, h0, hB⟩, fun H2 s2 d hd => ?_⟩, fun cls d H' h => h⟩
  have sd := Same.new (o := .xd [("value", V.ref b)]) hd
  refine ⟨true, T.ex, fun _ _ e he => ?_, fun z => by cases z⟩
  have s02 := s2.trans sd
  have hb3 := hb.same s02
  have hX := updS H2 d (.xd [("value", V.ref b)])
  generalize upd H2 d (.xd [("value", V.ref b)]) = H3 at *
  obtain ⟨dy, e2⟩ := id hb3
  refine ⟨_, rfl, rfl, _, d, [("value", V.ref b)], .ref b, rfl, kP.xf, kP.no, rfl, hX, by simp [List.lookup], ?_⟩
  dsimp only [tCons, tC, tNil]
  refine isi_share T.ks e2 ⟨true, rfl, ?_⟩
  rw [if_pos rfl]
  refine ⟨_, rfl, rfl, _, d, [("value", V.ref b)], .ref b, rfl, kP.xf, kP.no, rfl, hX, by simp [List.lookup], _, rfl, b, dy, _, b, dy, _, rfl, rfl, e2, e2, b, b, r, rfl, hb3, hb3, _, rfl, q _ s02⟩
/-! tests that find nothing -/
def NoT (t : TT) (σ : L2.St) (H : Hp) : Prop := ∀ Q : Bool → Hp → Prop, (∀ H1, Same H H1 → Q false H1) → t σ H Q
theorem NoT.or {σ : L2.St} {H : Hp} {t u : TT} (h1 : NoT t σ H) (h2 : ∀ H1, Same H H1 → NoT u σ H1) : NoT (tOr t u) σ H := fun Q q => h1 _ fun H1 s1 => by
  rw [if_neg (by decide)]
  exact h2 H1 s1 _ fun H2 s2 => q H2 (s1.trans s2)
theorem NoT.ifs {σ : L2.St} {H : Hp} {t : TT} {D : Ends} (h : NoT t σ H) (q : ∀ H1, Same H H1 → D.nx σ H1) : tIfS t (tRet (tC (.bl false))) tNext D σ H := h _ fun H1 s1 => by
  rw [if_neg (by decide)]
  exact q H1 s1
theorem NoT.ifsE {σ : L2.St} {H : Hp} {t u : TT} {D : Ends} (R : Hp → Prop) (h1 : NoT t σ H) (h2 : ∀ (H1 : Hp) (Q : Bool → Hp → Prop), Same H H1 → (∀ H2, R H2 → Q false H2) → u σ H1 Q) (q : ∀ H2, R H2 → D.nx σ H2) : tIfS (tOr t u) (tRet (tC (.bl false))) tNext D σ H := h1 _ fun H1 s1 => by
  rw [if_neg (by decide)]
  refine h2 H1 _ s1 fun H2 r2 => ?_
  rw [if_neg (by decide)]
  exact q H2 r2
theorem no_andNe {i : Nat} {v c : Int} {u : TT} {σ : L2.St} {H : Hp} (h : σ[i]? = some (some (.int v))) (hu : v ≠ c → NoT u σ H) : NoT (tAnd (tTest (tOp rNe (tVar i) (tC (.int c)))) u) σ H := fun Q q => by
  refine ⟨_, h, sc_ii _ _, _, rfl, ?_⟩
  dsimp only
  by_cases e : v = c
  · rw [if_neg (by rw [decide_eq_true (by rw [e])]; decide)]
    exact q H (Same.refl _)
  · rw [if_pos (by rw [decide_eq_false (fun z => e (V.int.inj z))]; rfl)]
    exact hu e Q q
theorem no_andEq {i : Nat} {v c : Int} {u : TT} {σ : L2.St} {H : Hp} (h : σ[i]? = some (some (.int v))) (hu : v = c → NoT u σ H) : NoT (tAnd (tTest (tOp rEq (tVar i) (tC (.int c)))) u) σ H := fun Q q => by
  refine ⟨_, h, sc_ii _ _, _, rfl, ?_⟩
  dsimp only
  by_cases e : v = c
  · rw [if_pos (decide_eq_true (by rw [e]))]
    exact hu e Q q
  · rw [if_neg (by rw [decide_eq_false (fun z => e (V.int.inj z))]; decide)]
    exact q H (Same.refl _)
section
variable {σ : L2.St} {H : Hp} {X tT tU : TE}
def MkX (K : Frag) (X : TE) (σ : L2.St) (H : Hp) (r : Rat) : Prop := ∀ Q : VK, (∀ s H1, Same H H1 → ShQ K H1 s r → Q (.ref s) H1) → X σ H Q
def IsX (X : TE) (σ : L2.St) (H : Hp) (t : Int) : Prop := ∀ (H1 : Hp) (Q : VK), Same H H1 → Q (.int t) H1 → X σ H1 Q
theorem is_no {t b : Int} {r : Rat} (hX : MkX K X σ H r) (hT : IsX tT σ H t) (hU : IsX tU σ H b) (hr : r = Rat.divInt t b) (hb : b ≠ 0) (h1 : t.natAbs < 2 ^ 800) (h2 : b.natAbs < 2 ^ 800) :
    NoT (tNot (tB (tFn (sp__law_is_share K) E0 (tCons X (tCons tT (tCons tU tNil)))))) σ H := fun Q q => hX _ fun s H1 s1 hs => hT H1 _ s1 (hU H1 _ s1 ⟨s, t, b, rfl, hr ▸ hs, hb, h1, h2, fun H2 s2 => ⟨true, rfl, q H2 (s1.trans s2)⟩⟩)
theorem isX_var {i : Nat} {t : Int} (h : σ[i]? = some (some (.int t))) : IsX (tVar i) σ H t := fun _ _ _ q => ⟨_, h, q⟩
theorem isX_c {t : Int} : IsX (tC (.int t)) σ H t := fun _ _ _ q => q
theorem isX_mul {i j : Nat} {t u : Int} (h : σ[i]? = some (some (.int t))) (k : σ[j]? = some (some (.int u))) (h1 : t.natAbs < 2 ^ 800) (h2 : u.natAbs < 2 ^ 800) : IsX (tOp oMulW (tVar i) (tVar j)) σ H (t * u) := fun _ _ _ q => ⟨_, h, _, k, t, u, rfl, rfl, wide_mul h1 h2 (by decide) (by decide) (by decide), q⟩
theorem isX_add {t u : Int} (h : IsX tT σ H t) (k : IsX tU σ H u) : IsX (tOp oAdd tT tU) σ H (t + u) := fun H1 _ s q => h H1 _ s (k H1 _ s ⟨_, _, rfl, rfl, q⟩)
theorem isX_sub {t u : Int} (h : IsX tT σ H t) (k : IsX tU σ H u) : IsX (tOp oSub tT tU) σ H (t - u) := fun H1 _ s q => h H1 _ s (k H1 _ s ⟨_, _, rfl, rfl, q⟩)
theorem isX_abs {i : Nat} {t : Int} (h : σ[i]? = some (some (.int t))) : IsX (tCB oAbs (tCons (tVar i) tNil)) σ H (if t < 0 then -t else t) := fun _ _ _ q => ⟨_, h, _, rfl, q⟩
section
variable {i j : Nat} {a b : Addr} {q r : Rat} {n : Int}
theorem mkX_var (h : σ[i]? = some (some (.ref a))) (ha : ShQ K H a q) : MkX K (tVar i) σ H q := fun _ k => ⟨_, h, k a H (Same.refl _) ha⟩
theorem mkX_addS (h : σ[i]? = some (some (.ref a))) (g : σ[j]? = some (some (.ref b))) (ha : ShQ K H a q) (hb : ShQ K H b r) (b1 : Bd 200 q) (b2 : Bd 200 r) : MkX K (tOp (rBinS (ga K "Share") (sp_Share___add__ K) E0) (tVar i) (tVar j)) σ H (q + r) := fun Q k => by
  obtain ⟨dx, e1⟩ := id ha
  obtain ⟨dy, e2⟩ := id hb
  exact ⟨_, h, _, g, a, b, dx, _, dy, _, rfl, rfl, e1, e2, a, .ref b, q, r, rfl, ha, .inr ⟨b, rfl, hb⟩, b1, b2, fun s H1 s1 hs => ⟨s, rfl, k s H1 s1 hs⟩⟩
theorem mkX_subS (h : σ[i]? = some (some (.ref a))) (g : σ[j]? = some (some (.ref b))) (ha : ShQ K H a q) (hb : ShQ K H b r) (b1 : Bd 200 q) (b2 : Bd 200 r) : MkX K (tOp (rBinS (ga K "Share") (sp_Share___sub__ K) E0) (tVar i) (tVar j)) σ H (q - r) := fun Q k => by
  obtain ⟨dx, e1⟩ := id ha
  obtain ⟨dy, e2⟩ := id hb
  exact ⟨_, h, _, g, a, b, dx, _, dy, _, rfl, rfl, e1, e2, a, .ref b, q, r, rfl, ha, .inr ⟨b, rfl, hb⟩, b1, b2, fun s H1 s1 hs => ⟨s, rfl, k s H1 s1 hs⟩⟩
theorem mkX_mulS (h : σ[i]? = some (some (.ref a))) (g : σ[j]? = some (some (.ref b))) (ha : ShQ K H a q) (hb : ShQ K H b r) (b1 : Bd 200 q) (b2 : Bd 200 r) : MkX K (tOp (rBinS (ga K "Share") (sp_Share___mul__ K) E0) (tVar i) (tVar j)) σ H (q * r) := fun Q k => by
  obtain ⟨dx, e1⟩ := id ha
  obtain ⟨dy, e2⟩ := id hb
  exact ⟨_, h, _, g, a, b, dx, _, dy, _, rfl, rfl, e1, e2, a, .ref b, q, r, rfl, ha, .inr ⟨b, rfl, hb⟩, b1, b2, fun s H1 s1 hs => ⟨s, rfl, k s H1 s1 hs⟩⟩
theorem mkX_addI (h : σ[i]? = some (some (.ref a))) (g : σ[j]? = some (some (.int n))) (ha : ShQ K H a q) (b1 : Bd 200 q) (b2 : n.natAbs < 2 ^ 200) : MkX K (tOp (rBinI (ga K "Share") (sp_Share___add__ K) E0) (tVar i) (tVar j)) σ H (q + (n : Rat)) := fun Q k => by
  obtain ⟨dx, e1⟩ := id ha
  exact ⟨_, h, _, g, a, dx, _, n, rfl, rfl, e1, a, .int n, q, n, rfl, ha, .inl ⟨n, rfl, rfl⟩, b1, bd_int b2 (by decide), fun s H1 s1 hs => ⟨s, rfl, k s H1 s1 hs⟩⟩
theorem mkX_subI (h : σ[i]? = some (some (.ref a))) (g : σ[j]? = some (some (.int n))) (ha : ShQ K H a q) (b1 : Bd 200 q) (b2 : n.natAbs < 2 ^ 200) : MkX K (tOp (rBinI (ga K "Share") (sp_Share___sub__ K) E0) (tVar i) (tVar j)) σ H (q - (n : Rat)) := fun Q k => by
  obtain ⟨dx, e1⟩ := id ha
  exact ⟨_, h, _, g, a, dx, _, n, rfl, rfl, e1, a, .int n, q, n, rfl, ha, .inl ⟨n, rfl, rfl⟩, b1, bd_int b2 (by decide), fun s H1 s1 hs => ⟨s, rfl, k s H1 s1 hs⟩⟩
theorem mkX_mulI (h : σ[i]? = some (some (.ref a))) (g : σ[j]? = some (some (.int n))) (ha : ShQ K H a q) (b1 : Bd 200 q) (b2 : n.natAbs < 2 ^ 200) : MkX K (tOp (rBinI (ga K "Share") (sp_Share___mul__ K) E0) (tVar i) (tVar j)) σ H (q * (n : Rat)) := fun Q k => by
  obtain ⟨dx, e1⟩ := id ha
  exact ⟨_, h, _, g, a, dx, _, n, rfl, rfl, e1, a, .int n, q, n, rfl, ha, .inl ⟨n, rfl, rfl⟩, b1, bd_int b2 (by decide), fun s H1 s1 hs => ⟨s, rfl, k s H1 s1 hs⟩⟩
theorem mkX_radd (h : σ[i]? = some (some (.ref a))) (g : σ[j]? = some (some (.int n))) (ha : ShQ K H a q) (b1 : Bd 200 q) (b2 : n.natAbs < 2 ^ 200) : MkX K (tOp (rBinR (ga K "Share") (sp_Share___radd__ K) E0) (tVar j) (tVar i)) σ H (q + (n : Rat)) := fun Q k => by
  obtain ⟨dx, e1⟩ := id ha
  exact ⟨_, g, _, h, a, dx, _, n, rfl, rfl, e1, a, n, q, rfl, ha, b1, b2, fun s H1 s1 hs => ⟨s, rfl, k s H1 s1 hs⟩⟩
theorem mkX_rsub (h : σ[i]? = some (some (.ref a))) (g : σ[j]? = some (some (.int n))) (ha : ShQ K H a q) (b1 : Bd 200 q) (b2 : n.natAbs < 2 ^ 200) : MkX K (tOp (rBinR (ga K "Share") (sp_Share___rsub__ K) E0) (tVar j) (tVar i)) σ H ((n : Rat) - q) := fun Q k => by
  obtain ⟨dx, e1⟩ := id ha
  exact ⟨_, g, _, h, a, dx, _, n, rfl, rfl, e1, a, n, q, rfl, ha, b1, b2, fun s H1 s1 hs => ⟨s, rfl, k s H1 s1 hs⟩⟩
theorem mkX_rmul (h : σ[i]? = some (some (.ref a))) (g : σ[j]? = some (some (.int n))) (ha : ShQ K H a q) (b1 : Bd 200 q) (b2 : n.natAbs < 2 ^ 200) : MkX K (tOp (rBinR (ga K "Share") (sp_Share___rmul__ K) E0) (tVar j) (tVar i)) σ H (q * (n : Rat)) := fun Q k => by
  obtain ⟨dx, e1⟩ := id ha
  exact ⟨_, g, _, h, a, dx, _, n, rfl, rfl, e1, a, n, q, rfl, ha, b1, b2, fun s H1 s1 hs => ⟨s, rfl, k s H1 s1 hs⟩⟩
theorem mkX_over {v : V} (h : σ[i]? = some (some (.ref a))) (g : σ[j]? = some (some v)) (ha : ShQ K H a q) (hv : PartQ K H v r) (h0 : r.num ≠ 0) (b1 : Bd 200 q) (b2 : Bd 200 r) : MkX K (tMethR (ga K "Share") "over" (sp_Share_over K) E0 (tVar i) (tCons (tVar j) tNil)) σ H (q / r) := fun Q k => by
  obtain ⟨dx, e1⟩ := id ha
  exact ⟨_, h, a, dx, _, rfl, e1, rfl, _, g, a, v, q, r, rfl, ha, hv, h0, b1, b2, k⟩
theorem mkX_neg (h : σ[i]? = some (some (.ref a))) (ha : ShQ K H a q) (b1 : Bd 200 q) : MkX K (tUn (rNegO (ga K "Share") (sp_Share___neg__ K) E0) (tVar i)) σ H (-q) := fun Q k => by
  obtain ⟨dx, e1⟩ := id ha
  exact ⟨_, h, a, dx, _, rfl, e1, a, q, rfl, ha, b1, fun s H1 s1 hs => ⟨s, rfl, k s H1 s1 hs⟩⟩
theorem mkX_abs (h : σ[i]? = some (some (.ref a))) (ha : ShQ K H a q) (b1 : Bd 200 q) : MkX K (tCB (rAbsO (ga K "Share") (sp_Share___abs__ K) E0) (tCons (tVar i) tNil)) σ H (rabs q) := fun Q k => by
  obtain ⟨dx, e1⟩ := id ha
  exact ⟨_, h, a, dx, _, rfl, e1, a, q, rfl, ha, b1, fun s H1 s1 hs => ⟨s, rfl, k s H1 s1 hs⟩⟩
end
end
theorem ifEq01 {i : Nat} {v c : Int} {tA tB : TS} {D : Ends} {σ : L2.St} {H : Hp} (h : σ[i]? = some (some (.int v))) (h1 : v = c → tA D σ H) (h2 : v ≠ c → tB D σ H) : tIfS (tTest (tOp rEq (tVar i) (tC (.int c)))) tA tB D σ H := by
  refine ⟨_, h, sc_ii _ _, _, rfl, ?_⟩
  dsimp only
  by_cases e : v = c
  · rw [if_pos (decide_eq_true (by rw [e]))]
    exact h1 e
  · rw [if_neg (by rw [decide_eq_false (fun z => e (V.int.inj z))]; decide)]
    exact h2 e
def sp__law_with_integer (K : Frag) : Sp := fun vs H Q _ => ∃ (s : Addr) (a b n : Int), vs = [.int a, .int b, .ref s, .int n] ∧ ShQ K H s (Rat.divInt a b) ∧ b ≠ 0 ∧ a.natAbs < 2 ^ 104 ∧ b.natAbs < 2 ^ 104 ∧ n.natAbs < 2 ^ 104 ∧ Tabs (TL K) H ∧ ∀ H', ExtN H H' → Tabs (TL K) H' → Q (.bl true) H'
def t__law_with_integer (K : Frag) (w : World) : TS :=
  (tSeq (tIfS (tOr (tNot (tB (tFn (sp__law_is_share K) E0 (tCons (tOp (rBinI (ga K "Share") (sp_Share___add__ K) E0) (tVar 2) (tVar 3)) (tCons (tOp oAdd (tVar 0) (tOp oMulW (tVar 3) (tVar 1))) (tCons (tVar 1) tNil)))))) (tNot (tB (tFn (sp__law_is_share K) E0 (tCons (tOp (rBinR (ga K "Share") (sp_Share___radd__ K) E0) (tVar 3) (tVar 2)) (tCons (tOp oAdd (tVar 0) (tOp oMulW (tVar 3) (tVar 1))) (tCons (tVar 1) tNil))))))) (tRet (tC (.bl false))) tNext)
  (tSeq (tIfS (tOr (tNot (tB (tFn (sp__law_is_share K) E0 (tCons (tOp (rBinI (ga K "Share") (sp_Share___sub__ K) E0) (tVar 2) (tVar 3)) (tCons (tOp oSub (tVar 0) (tOp oMulW (tVar 3) (tVar 1))) (tCons (tVar 1) tNil)))))) (tNot (tB (tFn (sp__law_is_share K) E0 (tCons (tOp (rBinR (ga K "Share") (sp_Share___rsub__ K) E0) (tVar 3) (tVar 2)) (tCons (tOp oSub (tOp oMulW (tVar 3) (tVar 1)) (tVar 0)) (tCons (tVar 1) tNil))))))) (tRet (tC (.bl false))) tNext)
  (tSeq (tIfS (tOr (tNot (tB (tFn (sp__law_is_share K) E0 (tCons (tOp (rBinI (ga K "Share") (sp_Share___mul__ K) E0) (tVar 2) (tVar 3)) (tCons (tOp oMulW (tVar 0) (tVar 3)) (tCons (tVar 1) tNil)))))) (tNot (tB (tFn (sp__law_is_share K) E0 (tCons (tOp (rBinR (ga K "Share") (sp_Share___rmul__ K) E0) (tVar 3) (tVar 2)) (tCons (tOp oMulW (tVar 0) (tVar 3)) (tCons (tVar 1) tNil))))))) (tRet (tC (.bl false))) tNext)
  (tSeq (tIfS (tTest (tOp rEq (tVar 3) (tC (.int 0)))) (tRet (tOp (rEqD K) (LamX.tLam [(tbA K (ga K "_law_with_integer"), (("_law_with_integer" : PySem.Str) ++ ".<locals>." ++ "<lambda>")), (tbA K (ga K "law"), (("law" : PySem.Str) ++ ".<locals>." ++ "<lambda>"))] (TCg K) (fun E => (tMethR (ga K "Share") "over" (sp_Share_overR K) E (tVar 2) (tCons (tVar 3) tNil)))) (tLst (tCons (tC (.str "number")) (tCons (tC (.str "0")) tNil))))) tNext)
  (tRet (tFn (sp__law_is_share K) E0 (tCons (tMethR (ga K "Share") "over" (sp_Share_over K) E0 (tVar 2) (tCons (tVar 3) tNil)) (tCons (tVar 0) (tCons (tOp oMulW (tVar 1) (tVar 3)) tNil)))))))))
def n__law_with_integer : List Str := ["_law_a", "_law_b", "_law_share", "_law_number"]
theorem rd__law_with_integer (TE : Ke K [("InvalidNumber", "number")]) (vs : List V) (H : Hp) (Q : VK) (E : XK) (h : sp__law_with_integer K vs H Q E) : t__law_with_integer K w { nx := fun _ H' => Q .non H', rt := Q } (L2.start n__law_with_integer vs) H := by
  have kN : KeC K "InvalidNumber" "number" := TE ("InvalidNumber", "number") (by simp)
  obtain ⟨s, a, b, n, rfl, hs, hb, ab, bb, nb, hT, q⟩ := h
  have hB : Bd 200 (Rat.divInt a b) := (bd_div hb ab bb).mono (by decide)
  have c1 := nat_mul_lt nb bb
  have c2 := nat_mul_lt ab nb
  have c3 := nat_mul_lt bb nb
  have c4 := nat_add_lt (nat_mono ab (show 104 ≤ 208 by decide)) c1
  have c5 := nat_sub_lt (nat_mono ab (show 104 ≤ 208 by decide)) c1
  have c6 := nat_sub_lt c1 (nat_mono ab (show 104 ≤ 208 by decide))
  have m1 : 208 ≤ 800 := by decide
  have m2 : 208 + 1 ≤ 800 := by decide
  have m3 : 104 ≤ 800 := by decide
  unfold t__law_with_integer n__law_with_integer
  rw [seq1]
  refine (NoT.or (is_no (mkX_addI rfl rfl hs hB (nat_mono nb (by decide))) (isX_add (isX_var rfl) (isX_mul rfl rfl (nat_mono nb m3) (nat_mono bb m3))) (isX_var rfl) (dv_addI hb) hb (nat_mono c4 m2) (nat_mono bb m3)) fun H1 s1 => is_no (mkX_radd rfl rfl (hs.same s1) hB (nat_mono nb (by decide))) (isX_add (isX_var rfl) (isX_mul rfl rfl (nat_mono nb m3) (nat_mono bb m3))) (isX_var rfl) (dv_addI hb) hb (nat_mono c4 m2) (nat_mono bb m3)).ifs fun H1 s1 => ?_
  have hs1 := hs.same s1
  try dsimp only
  rw [seq1]
  refine (NoT.or (is_no (mkX_subI rfl rfl hs1 hB (nat_mono nb (by decide))) (isX_sub (isX_var rfl) (isX_mul rfl rfl (nat_mono nb m3) (nat_mono bb m3))) (isX_var rfl) (dv_subI hb) hb (nat_mono c5 m2) (nat_mono bb m3)) fun H2 s2 => is_no (mkX_rsub rfl rfl (hs1.same s2) hB (nat_mono nb (by decide))) (isX_sub (isX_mul rfl rfl (nat_mono nb m3) (nat_mono bb m3)) (isX_var rfl)) (isX_var rfl) (dv_Isub hb) hb (nat_mono c6 m2) (nat_mono bb m3)).ifs fun H2 s2 => ?_
  have hs2 := hs1.same s2
  try dsimp only
  rw [seq1]
  refine (NoT.or (is_no (mkX_mulI rfl rfl hs2 hB (nat_mono nb (by decide))) (isX_mul rfl rfl (nat_mono ab m3) (nat_mono nb m3)) (isX_var rfl) dv_mulI hb (nat_mono c2 m1) (nat_mono bb m3)) fun H3 s3 => is_no (mkX_rmul rfl rfl (hs2.same s3) hB (nat_mono nb (by decide))) (isX_mul rfl rfl (nat_mono ab m3) (nat_mono nb m3)) (isX_var rfl) dv_mulI hb (nat_mono c2 m1) (nat_mono bb m3)).ifs fun H3 s3 => ?_
  have hs3 := hs2.same s3
  have s03 := (s1.trans s2).trans s3
  have hT3 := Tabs.ext hT s03
  try dsimp only
  rw [seq1]
  refine ifEq01 rfl (fun h0 => ?_) fun h0 => ?_
  · subst h0
    refine lam_errS (x := .int 0) (d := .int 0) kN hT3 (okD_i (by decide) (by decide)) (.at_ rfl) (fun H4 E Q e4 hE => ?_) fun R H4 hR e4 T4 => ?_
    · have hs4 := hs3.extN e4
      obtain ⟨dx, e1⟩ := id hs4
      exact ⟨_, rfl, s, dx, _, rfl, e1, rfl, _, rfl, s, .int 0, rfl, ⟨_, hs4⟩, .inr ⟨(0 : Int), .inl ⟨0, rfl, rfl⟩, Rat.num_intCast 0, bd_int (by decide) (by decide)⟩, fun H5 s5 d hd => hE H5 d s5 hd⟩
    · refine ⟨(show 2 ≤ 16777216 by decide), fun R2 hR2 => ?_⟩
      have s5 := Same.new (o := .lst [.str "number", .str "0"]) hR2
      exact pair_sameE okNum (by decide +kernel) (s5 _ _ hR) (updS _ _ _) (q _ ((Same.toN s03).trans (e4.trans (Same.toN s5))) (Tabs.ext T4 s5))
  · unfold tNext
    try dsimp only
    refine mkX_over (v := .int n) (r := (n : Rat)) rfl rfl hs3 (.inl ⟨n, rfl, rfl⟩) (by rw [Rat.num_intCast]; exact h0) hB (bd_int (nat_mono nb (by decide)) (by decide)) _ fun r H4 s4 hr => ?_
    rw [dv_divI] at hr
    exact ⟨_, rfl, _, rfl, _, rfl, b, n, rfl, rfl, wide_mul (nat_mono bb m3) (nat_mono nb m3) (by decide) (by decide) (by decide), r, a, b * n, rfl, hr, Int.mul_ne_zero hb h0, nat_mono ab m3, nat_mono c3 m1, fun H5 s5 => q _ (Same.toN (s03.trans (s4.trans s5))) (Tabs.ext hT3 (s4.trans s5))⟩
/-! the law -/
structure Fix01 (K : Frag) (p l sh ot : Addr) (a b c d n : Int) (H : Hp) : Prop where
  hp : PoolAt H p l
  hT : Tabs (TL K) H
  hs : ShQ K H sh (Rat.divInt a b)
  ho : ShQ K H ot (Rat.divInt c d)
structure Num01 (a b c d n : Int) : Prop where
  b0 : b ≠ 0
  d0 : d ≠ 0
  a1 : a.natAbs < 2 ^ 100
  b1 : b.natAbs < 2 ^ 100
  c1 : c.natAbs < 2 ^ 100
  d1 : d.natAbs < 2 ^ 100
  n1 : n.natAbs < 2 ^ 100
section
variable {p l sh ot : Addr} {a b c d n : Int} {H H' : Hp}
theorem Fix01.same (h : Fix01 K p l sh ot a b c d n H) (s : Same H H') : Fix01 K p l sh ot a b c d n H' := ⟨h.hp.same s, Tabs.ext h.hT s, h.hs.same s, h.ho.same s⟩
theorem Fix01.extN (h : Fix01 K p l sh ot a b c d n H) (s : ExtN H H') (hT : Tabs (TL K) H') : Fix01 K p l sh ot a b c d n H' := ⟨h.hp.extN s, hT, h.hs.extN s, h.ho.extN s⟩
theorem Num01.bs (h : Num01 a b c d n) : Bd 200 (Rat.divInt a b) := (bd_div h.b0 h.a1 h.b1).mono (by decide)
theorem Num01.bo (h : Num01 a b c d n) : Bd 200 (Rat.divInt c d) := (bd_div h.d0 h.c1 h.d1).mono (by decide)
end
/-- [_law_integer(pool) for k in range(3)] -/
theorem lc_three {p l : Addr} {x0 x2 x3 x4 x5 x6 x7 x8 x9 x10 x11 x12 : Option V} {H : Hp} {Q : VK} (hp : PoolAt H p l) (hT : Tabs (TL K) H) (q : ∀ D i j k H', PoolAt H' p l → Tabs (TL K) H' → H' D = some (.lst [.int i, .int j, .int k]) → i.natAbs < 2 ^ 100 → j.natAbs < 2 ^ 100 → k.natAbs < 2 ^ 100 → Q (.ref D) H') :
    tLc (iRng1 (tCons (tC (.int 3)) tNil)) (gName 3) tYes (tFn (sp__law_integer K) E0 (tCons (tVar 1) tNil)) [3] [x0, some (.ref p), x2, x3, x4, x5, x6, x7, x8, x9, x10, x11, x12] H Q := by
  refine ⟨3, rfl, by decide, by decide, fun D hD => ?_⟩
  have ap := hp.apart hD
  refine lc_range (fun i H' => SameP p l H H' ∧ PoolAt H' p l ∧ ∃ is : List Int, is.length = i ∧ H' D = some (.lst (is.map V.int)) ∧ ∀ x ∈ is, x.natAbs < 2 ^ 100) ⟨Same.toP (Same.new hD), hp.new hD, [], rfl, upd_same, fun x hx => by cases hx⟩ ?_ ?_
  · rintro i H1 hi ⟨s1, hp1, is, hl, hD1, hall⟩
    refine ⟨rfl, ?_⟩
    simp only [tYes, if_true]
    refine ⟨_, rfl, p, l, rfl, hp1, fun x H2 s2 hp2 hx => ⟨_, s2 _ _ ap.1 ap.2 hD1, ?_, SameP.updf (s1.trans s2) hD, PoolAt.updr hp2 ap, is ++ [x], by simp [hl], by rw [upd_same, List.map_append]; rfl, fun y hy => ?_⟩⟩
    · have : sizeLine = 16777216 := rfl
      rw [List.length_map, hl]
      have : i < 3 := hi
      omega
    · rcases List.mem_append.mp hy with h | h
      · exact hall y h
      · rw [List.mem_singleton.mp h]; exact hx
  · rintro H1 ⟨s1, hp1, is, hl, hD1, hall⟩
    have hl : is.length = 3 := hl
    obtain ⟨i, j, k, rfl⟩ : ∃ i j k, is = [i, j, k] := by
      rcases is with _ | ⟨i, _ | ⟨j, _ | ⟨k, _ | ⟨m, is⟩⟩⟩⟩
      · cases hl
      · cases hl
      · cases hl
      · exact ⟨i, j, k, rfl⟩
      · simp at hl
    exact q D i j k H1 hp1 (Tabs.sameP hp s1 hT) hD1 (hall i (by simp)) (hall j (by simp)) (hall k (by simp))
theorem or_int {p l : Addr} {tb : TE} {σ : L2.St} {H : Hp} {Q : VK} {m : Int} (hp : PoolAt H p l) (h1 : σ[1]? = some (some (.ref p))) (hm : m ≠ 0) (hb : m.natAbs < 2 ^ 100) (htb : ∀ (H : Hp) (Q : VK), Q (.int m) H → tb σ H Q) (q : ∀ (i : Int) H', SameP p l H H' → PoolAt H' p l → i ≠ 0 → i.natAbs < 2 ^ 100 → Q (.int i) H') :
    tOrI (tFn (sp__law_integer K) E0 (tCons (tVar 1) tNil)) tb σ H Q := by
  refine ⟨_, h1, p, l, rfl, hp, fun i H1 s1 hp1 hi => ⟨i, rfl, ?_⟩⟩
  by_cases h : i = 0
  · rw [if_pos h]
    exact htb _ _ (q m H1 s1 hp1 hm hb)
  · rw [if_neg h]
    exact q i H1 s1 hp1 h hi
theorem two_sh {p l : Addr} {x0 x2 x3 x10 x11 x12 : Option V} {a b c d n m : Int} {D : Ends} {H : Hp} (hp : PoolAt H p l) (hT : Tabs (TL K) H) (N : Num01 a b c d n) (hm : 1 ≤ m ∧ m ≤ 6) (q : ∀ sh ot H', Fix01 K p l sh ot a b c d n H' → D.nx [x0, some (.ref p), x2, x3, some (.int a), some (.int c), some (.int n), some (.int m), some (.int b), some (.int d), some (.ref sh), some (.ref ot), x12] H') :
    tAsg (tTup (tCons (tMakeR (ga K "Share") (sp_Share___init__ K) E0 (tCons (tOp oMul (tVar 4) (tVar 7)) (tCons (tOp oMul (tVar 8) (tVar 7)) tNil))) (tCons (tMakeR (ga K "Share") (sp_Share___init__ K) E0 (tCons (tVar 5) (tCons (tVar 9) tNil))) tNil))) (gTup K 2 (gCons (gName 10) (gCons (gName 11) gNil))) D [x0, some (.ref p), x2, x3, some (.int a), some (.int c), some (.int n), some (.int m), some (.int b), some (.int d), x10, x11, x12] H := by
  have m8 : m.natAbs < 2 ^ 3 := by omega
  have k1 := nat_mul_lt N.a1 m8
  have k2 := nat_mul_lt N.b1 m8
  have h1 := N.b0
  unfold tAsg tTup
  dsimp only [tCons, tNil]
  refine mk_sh (K := K) (ta := tOp oMul (tVar 4) (tVar 7)) (tb := tOp oMul (tVar 8) (tVar 7)) (u := a * m) (lo := b * m) (fun _ z => ⟨_, rfl, _, rfl, a, m, rfl, rfl, .inr ⟨by omega, by omega⟩, z⟩) (fun _ z => ⟨_, rfl, _, rfl, b, m, rfl, rfl, .inr ⟨by omega, by omega⟩, z⟩) (Int.mul_ne_zero N.b0 (by omega)) (nat_mono k1 (by decide)) (nat_mono k2 (by decide)) fun sh H7 s7 hs7 => ?_
  rw [dv_scale (by omega)] at hs7
  refine mk_sh (K := K) (ta := tVar 5) (tb := tVar 9) (u := c) (lo := d) (fun _ z => ⟨_, rfl, z⟩) (fun _ z => ⟨_, rfl, z⟩) N.d0 (nat_mono N.c1 (by decide)) (nat_mono N.d1 (by decide)) fun ot H8 s8 ho8 => ⟨(show 2 ≤ 16777216 by decide), fun F hF => ⟨F, _, rfl, SqT.of (updS _ _ _), rfl, _, _, rfl, _, _, rfl, rfl, ?_⟩⟩
  have s9 := Same.new (o := .tup [V.ref sh, .ref ot]) hF
  have s79 := (s7.trans s8).trans s9
  exact q sh ot _ ⟨hp.same s79, Tabs.ext hT s79, hs7.same (s8.trans s9), ho8.same s9⟩
def OddN (H : Hp) (x : V) : Prop := ∃ d, Ov H x d ∧ OkD d ∧ intD d = false
theorem OddN.extN {H H' : Hp} {x : V} (h : OddN H x) (s : ExtN H H') : OddN H' x := h.imp fun d z => ⟨z.1.extN s, z.2⟩
theorem lst_odd {σ : L2.St} {H : Hp} {Q : VK} (q : ∀ L xs H', Same H H' → H' L = some (.lst xs) → (∀ x ∈ xs, OddN H' x) → Q (.ref L) H') :
    tLst (tCons (tC .non) (tCons (tC (.bl true)) (tCons (tC (.bl false)) (tCons (tC (.str "1")) (tCons (tTup (tCons (tC (.int 1)) (tCons (tC (.int 2)) tNil))) (tCons (tLst tNil) (tCons tDNewK tNil))))))) σ H Q := by
  unfold tDNewK
  refine ⟨(show 2 ≤ 16777216 by decide), fun T hT => ⟨(show 0 ≤ 16777216 by decide), fun B hB D hD => ⟨(show 7 ≤ 16777216 by decide), fun L hL => ?_⟩⟩⟩
  have z1 := Same.new (o := .tup [V.int 1, .int 2]) hT
  have T1 := updS H T (.tup [V.int 1, .int 2])
  generalize upd H T (.tup [V.int 1, .int 2]) = H1 at *
  have z2 := Same.new (o := .lst []) hB
  have B2 := updS H1 B (.lst [])
  generalize upd H1 B (.lst []) = H2 at *
  have z3 := Same.new (o := .dK []) hD
  have D3 := updS H2 D (.dK [])
  generalize upd H2 D (.dK []) = H3 at *
  have z4 := Same.new (o := .lst [.non, .bl true, .bl false, .str "1", .ref T, .ref B, .ref D]) hL
  refine q L _ _ (((z1.trans z2).trans z3).trans z4) (updS _ _ _) fun x hx => ?_
  simp only [List.mem_cons, List.not_mem_nil, or_false] at hx
  rcases hx with rfl | rfl | rfl | rfl | rfl | rfl | rfl
  · exact ⟨_, .at_ rfl, okD_of (by decide +kernel), rfl⟩
  · exact ⟨_, .at_ rfl, okD_of (by decide +kernel), rfl⟩
  · exact ⟨_, .at_ rfl, okD_of (by decide +kernel), rfl⟩
  · exact ⟨_, .at_ rfl, okD_of (by decide +kernel), rfl⟩
  · exact ⟨.tuple [.int 1, .int 2], .tup (z4 _ _ (z3 _ _ (z2 _ _ T1))) rfl, okD_of (by decide +kernel), rfl⟩
  · exact ⟨.list [], .lst (z4 _ _ (z3 _ _ B2)) rfl, okD_of (by decide +kernel), rfl⟩
  · exact ⟨_, .dict (z4 _ _ D3), okD_dict, rfl⟩
theorem init_bad {H : Hp} {Q : VK} {E : XK} {t b : V} (h : (NoN H t ∧ ErV K H t E) ∨ ((∃ n : Int, t = .int n) ∧ (NoN H b ∨ b = .int 0) ∧ ErV K H b E)) (x dx : Addr) (hx : H x = none) (hdx : H dx = none) :
    sp_Share___init__R K [.ref x, t, b] (upd (upd H dx (.own x)) x (.ins (ga K "Share") dx [])) (fun v H2 => v = .non ∧ Q (.ref x) H2) E := by
  have sm : Same H (upd (upd H dx (.own x)) x (.ins (ga K "Share") dx [])) := SameX.made hx hdx (SameX.refl _ _)
  refine ⟨x, t, b, rfl, h.imp (fun z => ⟨z.1.imp fun d y => ⟨y.1.same sm, y.2⟩, fun H' s => z.2 H' (sm.trans s)⟩) fun z => ⟨z.1, z.2.1.imp (fun y => y.imp fun d u => ⟨u.1.same sm, u.2⟩) id, fun H' s => z.2.2 H' (sm.trans s)⟩⟩
def sp_law (K : Frag) : Sp := fun vs H Q _ => ∃ (a : Addr) (ns : List Int), vs = [.ref a] ∧ SqL K H a (ns.map V.int) ∧ ns.length ≤ 63 ∧ H (tbA K (ga K "_law_with_integer")) = some (.tbl #[]) ∧ H (tbA K (ga K "law")) = some (.tbl #[]) ∧ ∀ H', Q (.bl true) H'
def lawInv (K : Frag) (a p l : Addr) (i : Nat) (σ : L2.St) (H' : Hp) : Prop :=
  ∃ (v2 v3 v4 v5 v6 v7 v8 v9 v10 v11 v12 : Option V), σ = [some (.ref a), some (.ref p), v2, v3, v4, v5, v6, v7, v8, v9, v10, v11, v12] ∧ PoolAt H' p l ∧ Tabs (TL K) H'
def t_law (K : Frag) (w : World) : TS :=
  (tSeq (tAsg (tFn (sp__law_begin K) E0 (tCons (tVar 0) tNil)) (gName 1))
  (tSeq (tFor (iRng1 (tCons (tC (.int 8)) tNil)) (gName 2)
    (tSeq (tAsg (tLc (iRng1 (tCons (tC (.int 3)) tNil)) (gName 3) tYes (tFn (sp__law_integer K) E0 (tCons (tVar 1) tNil)) [3]) (gUnl K 3 (gCons (gName 4) (gCons (gName 5) (gCons (gName 6) gNil)))))
  (tSeq (tAsg (tOp rIxLH (tLst (tCons (tC (.int 1)) (tCons (tC (.int 2)) (tCons (tC (.int 6)) tNil)))) (tFn (sp__law_draw K) E0 (tCons (tVar 1) (tCons (tC (.int 3)) tNil)))) (gName 7))
  (tSeq (tPar 8 9 (tCons (tOrI (tFn (sp__law_integer K) E0 (tCons (tVar 1) tNil)) (tC (.int 1))) (tCons (tOrI (tFn (sp__law_integer K) E0 (tCons (tVar 1) tNil)) (tUn oNeg (tC (.int 3)))) tNil)))
  (tSeq (tAsg (tTup (tCons (tMakeR (ga K "Share") (sp_Share___init__ K) E0 (tCons (tOp oMul (tVar 4) (tVar 7)) (tCons (tOp oMul (tVar 8) (tVar 7)) tNil))) (tCons (tMakeR (ga K "Share") (sp_Share___init__ K) E0 (tCons (tVar 5) (tCons (tVar 9) tNil))) tNil))) (gTup K 2 (gCons (gName 10) (gCons (gName 11) gNil))))
  (tSeq (tIfS (tOr (tNot (tB (tFn (sp__law_is_share K) E0 (tCons (tVar 10) (tCons (tVar 4) (tCons (tVar 8) tNil)))))) (tNot (tB (tFn (sp__law_is_share K) E0 (tCons (tMake (ga K "Share") (sp_Share___init__ K) [.int 1] E0 (tCons (tVar 5) tNil)) (tCons (tVar 5) (tCons (tC (.int 1)) tNil))))))) (tRet (tC (.bl false))) tNext)
  (tSeq (tIfS (tOr (tNot (tB (tFn (sp__law_is_share K) E0 (tCons (tOp (rBinS (ga K "Share") (sp_Share___add__ K) E0) (tVar 10) (tVar 11)) (tCons (tOp oAdd (tOp oMulW (tVar 4) (tVar 9)) (tOp oMulW (tVar 5) (tVar 8))) (tCons (tOp oMulW (tVar 8) (tVar 9)) tNil)))))) (tNot (tB (tFn (sp__law_is_share K) E0 (tCons (tOp (rBinS (ga K "Share") (sp_Share___mul__ K) E0) (tVar 10) (tVar 11)) (tCons (tOp oMulW (tVar 4) (tVar 5)) (tCons (tOp oMulW (tVar 8) (tVar 9)) tNil))))))) (tRet (tC (.bl false))) tNext)
  (tSeq (tIfS (tOr (tNot (tB (tFn (sp__law_is_share K) E0 (tCons (tOp (rBinS (ga K "Share") (sp_Share___sub__ K) E0) (tVar 10) (tVar 11)) (tCons (tOp oSub (tOp oMulW (tVar 4) (tVar 9)) (tOp oMulW (tVar 5) (tVar 8))) (tCons (tOp oMulW (tVar 8) (tVar 9)) tNil)))))) (tNot (tB (tFn (sp__law_with_integer K) E0 (tCons (tVar 4) (tCons (tVar 8) (tCons (tVar 10) (tCons (tVar 6) tNil)))))))) (tRet (tC (.bl false))) tNext)
  (tSeq (tIfS (tOr (tNot (tB (tFn (sp__law_is_share K) E0 (tCons (tUn (rNegO (ga K "Share") (sp_Share___neg__ K) E0) (tVar 10)) (tCons (tOp oSub (tC (.int 0)) (tVar 4)) (tCons (tVar 8) tNil)))))) (tNot (tB (tFn (sp__law_is_share K) E0 (tCons (tCB (rAbsO (ga K "Share") (sp_Share___abs__ K) E0) (tCons (tVar 10) tNil)) (tCons (tCB oAbs (tCons (tVar 4) tNil)) (tCons (tCB oAbs (tCons (tVar 8) tNil)) tNil))))))) (tRet (tC (.bl false))) tNext)
  (tSeq (tIfS (tAnd (tTest (tOp rNe (tVar 5) (tC (.int 0)))) (tNot (tB (tFn (sp__law_is_share K) E0 (tCons (tMethR (ga K "Share") "over" (sp_Share_over K) E0 (tVar 10) (tCons (tVar 11) tNil)) (tCons (tOp oMulW (tVar 4) (tVar 9)) (tCons (tOp oMulW (tVar 8) (tVar 5)) tNil))))))) (tRet (tC (.bl false))) tNext)
  (tSeq (tIfS (tAnd (tTest (tOp rEq (tVar 5) (tC (.int 0)))) (tNot (tB (tFn (sp__law_over_nothing K) E0 (tCons (tVar 10) (tCons (tVar 11) tNil)))))) (tRet (tC (.bl false))) tNext)
  (tSeq (tIfS (tNot (tB (tFn (sp__law_over_nothing K) E0 (tCons (tVar 10) (tCons (tMakeR (ga K "Share") (sp_Share___init__ K) E0 (tCons (tC (.int 0)) (tCons (tVar 8) tNil))) tNil))))) (tRet (tC (.bl false))) tNext)
  (tFor (iList K (tLst (tCons (tC .non) (tCons (tC (.bl true)) (tCons (tC (.bl false)) (tCons (tC (.str "1")) (tCons (tTup (tCons (tC (.int 1)) (tCons (tC (.int 2)) tNil))) (tCons (tLst tNil) (tCons tDNewK tNil))))))))) (gName 12)
    (tSeq (tIfS (tTest (tOp (rNeD K) (LamX.tLam [(tbA K (ga K "_law_with_integer"), (("_law_with_integer" : PySem.Str) ++ ".<locals>." ++ "<lambda>")), (tbA K (ga K "law"), (("law" : PySem.Str) ++ ".<locals>." ++ "<lambda>"))] (TCg K) (fun E => (tMakeR (ga K "Share") (sp_Share___init__R K) E (tCons (tVar 12) (tCons (tC (.int 0)) tNil))))) (tLst (tCons (tC (.str "number")) (tCons (tCB (rReprE K) (tCons (tVar 12) tNil)) tNil))))) (tRet (tC (.bl false))) tNext)
  (tSeq (tIfS (tTest (tOp (rNeD K) (LamX.tLam [(tbA K (ga K "_law_with_integer"), (("_law_with_integer" : PySem.Str) ++ ".<locals>." ++ "<lambda>")), (tbA K (ga K "law"), (("law" : PySem.Str) ++ ".<locals>." ++ "<lambda>"))] (TCg K) (fun E => (tMakeR (ga K "Share") (sp_Share___init__R K) E (tCons (tVar 4) (tCons (tVar 12) tNil))))) (tLst (tCons (tC (.str "number")) (tCons (tCB (rReprE K) (tCons (tVar 12) tNil)) tNil))))) (tRet (tC (.bl false))) tNext)
  (tIfS (tTest (tOp (rNeD K) (LamX.tLam [(tbA K (ga K "_law_with_integer"), (("_law_with_integer" : PySem.Str) ++ ".<locals>." ++ "<lambda>")), (tbA K (ga K "law"), (("law" : PySem.Str) ++ ".<locals>." ++ "<lambda>"))] (TCg K) (fun E => (tMethR (ga K "Share") "over" (sp_Share_overR K) E (tVar 10) (tCons (tVar 12) tNil)))) (tLst (tCons (tC (.str "number")) (tCons (tCB (rReprE K) (tCons (tVar 12) tNil)) tNil))))) (tRet (tC (.bl false))) tNext))))))))))))))))
  (tRet (tOp (rEqD K) (LamX.tLam [(tbA K (ga K "_law_with_integer"), (("_law_with_integer" : PySem.Str) ++ ".<locals>." ++ "<lambda>")), (tbA K (ga K "law"), (("law" : PySem.Str) ++ ".<locals>." ++ "<lambda>"))] (TCg K) (fun E => (tMakeR (ga K "Share") (sp_Share___init__R K) E (tCons (tC (.int 1)) (tCons (tC (.int 0)) tNil))))) (tLst (tCons (tC (.str "number")) (tCons (tC (.str "0")) tNil)))))))
def n_law : List Str := ["_law_script", "_law_pool", "_law_turn", "_law_k", "_law_a", "_law_c", "_law_number", "_law_by", "_law_b", "_law_d", "_law_share", "_law_other", "_law_odd"]
theorem rd_law (T : Kx K w) (TE : Ke K [("InvalidNumber", "number")]) (vs : List V) (H : Hp) (Q : VK) (E : XK) (h : sp_law K vs H Q E) : t_law K w { nx := fun _ H' => Q .non H', rt := Q } (L2.start n_law vs) H := by
  have kN : KeC K "InvalidNumber" "number" := TE ("InvalidNumber", "number") (by simp)
  obtain ⟨a0, ns, rfl, ha, hl, hB1, hB2, q⟩ := h
  unfold t_law n_law
  rw [seq1]
  walk_at "rsl"
  refine ⟨a0, ns, rfl, ha, hl, fun p l H0 hp0 s0 => ?_⟩
  have hT0 : Tabs (TL K) H0 := fun q hq => by
    simp only [TL, List.mem_cons, List.not_mem_nil, or_false] at hq
    rcases hq with rfl | rfl
    · exact TabS.nil (s0 _ _ hB1)
    · exact TabS.nil (s0 _ _ hB2)
  try dsimp only
  rw [seq1]
  refine ⟨_, rfl, by decide, by decide, for_range (lawInv K a0 p l) ⟨_, _, _, _, _, _, _, _, _, _, _, rfl, hp0, hT0⟩ ?_ (fun σ H' hI => ?_)⟩
  · rintro i σ H1 hi ⟨v2, v3, v4, v5, v6, v7, v8, v9, v10, v11, v12, rfl, hp1, hT1⟩
    rw [gName1]
    rw [seq1]
    refine lc_three hp1 hT1 fun D a c n H2 hp2 hT2 hD2 ha1 hc1 hn1 => ?_
    refine ⟨D, _, rfl, SqL.of hD2, rfl, _, _, rfl, _, _, rfl, _, _, rfl, rfl, ?_⟩
    try dsimp only [List.set_cons_succ, List.set_cons_zero]
    try dsimp only
    rw [seq1]
    refine ⟨(show 3 ≤ 16777216 by decide), fun L hL => ?_⟩
    have z1 := Same.new (o := .lst [V.int 1, .int 2, .int 6]) hL
    have g1 := updS H2 L (.lst [V.int 1, .int 2, .int 6])
    have ap := hp2.apart hL
    have hp3 := hp2.same z1
    have hT3 := Tabs.ext hT2 z1
    generalize upd H2 L (.lst [V.int 1, .int 2, .int 6]) = H3 at *
    refine ⟨_, rfl, draw (K := K) hp3 (by decide) (by decide) fun x H4 s4 hp4 x0 x1 => ?_⟩
    obtain ⟨y, hy, e⟩ := atV (xs := [V.int 1, .int 2, .int 6]) x0 (by simpa using x1)
    refine ⟨L, _, x, y, rfl, rfl, s4 _ _ ap.1 ap.2 g1, e, ?_⟩
    obtain ⟨m, rfl, hm⟩ : ∃ m : Int, y = .int m ∧ 1 ≤ m ∧ m ≤ 6 := by
      have hy := List.mem_of_getElem? hy
      simp only [List.mem_cons, List.not_mem_nil, or_false] at hy
      rcases hy with rfl | rfl | rfl
      · exact ⟨1, rfl, by decide, by decide⟩
      · exact ⟨2, rfl, by decide, by decide⟩
      · exact ⟨6, rfl, by decide, by decide⟩
    have hT4 := Tabs.sameP hp3 s4 hT3
    clear hy e g1 z1 ap hL s4 hp3 hT3 hp2 hT2 hD2 hp1 hT1
    try dsimp only
    rw [gName1]
    try dsimp only [List.set_cons_succ, List.set_cons_zero]
    rw [seq1]
    unfold tPar
    refine or_int hp4 rfl (by decide) (by decide) (fun _ _ z => z) fun b H5 s5 hp5 hb0 hb1 => ?_
    refine or_int hp5 rfl (m := -3) (by decide) (by decide) (fun _ _ z => ⟨3, rfl, z⟩) fun d H6 s6 hp6 hd0 hd1 => ⟨_, _, rfl, ?_⟩
    have hT6 := Tabs.sameP hp5 s6 (Tabs.sameP hp4 s5 hT4)
    clear hp4 hT4 s5 s6 hp5
    try dsimp only [List.set_cons_succ, List.set_cons_zero]
    have N : Num01 a b c d n := ⟨hb0, hd0, ha1, hb1, hc1, hd1, hn1⟩
    try dsimp only
    rw [seq1]
    refine two_sh hp6 hT6 N hm fun sh ot H7 F7 => ?_
    clear hp6 hT6
    obtain ⟨g1, g2, g3, g4, g5, g6, g7⟩ := id N
    have hbs := N.bs
    have hbo := N.bo
    have c1 := nat_mul_lt ha1 hd1
    have c2 := nat_mul_lt hc1 hb1
    have c3 := nat_mul_lt hb1 hd1
    have c4 := nat_mul_lt ha1 hc1
    have c5 := nat_mul_lt hb1 hc1
    have c6 := nat_add_lt c1 c2
    have c7 := nat_sub_lt c1 c2
    have m1 : 200 ≤ 800 := by decide
    have m2 : 201 ≤ 800 := by decide
    have m3 : 100 ≤ 800 := by decide
    try dsimp only
    rw [seq1]
    refine (NoT.or (is_no (mkX_var rfl F7.hs) (isX_var rfl) (isX_var rfl) rfl hb0 (nat_mono ha1 m3) (nat_mono hb1 m3)) fun H8 s8 => is_no (r := Rat.divInt c 1) (t := c) (b := 1) (fun Q k => ?_) (isX_var rfl) isX_c rfl (by decide) (nat_mono hc1 m3) (by decide)).ifs fun H8 s8 => ?_
    · exact ⟨_, rfl, fun x dx hx hdx _ => sh_make (by decide) (nat_mono hc1 (by decide)) (by decide) (fun a H' s z => k a H' s z) x dx hx hdx⟩
    have F8 := F7.same s8
    try dsimp only
    rw [seq1]
    refine (NoT.or (is_no (mkX_addS rfl rfl F8.hs F8.ho hbs hbo) (isX_add (isX_mul rfl rfl (nat_mono ha1 m3) (nat_mono hd1 m3)) (isX_mul rfl rfl (nat_mono hc1 m3) (nat_mono hb1 m3))) (isX_mul rfl rfl (nat_mono hb1 m3) (nat_mono hd1 m3)) (Rat.divInt_add_divInt _ _ hb0 hd0) (Int.mul_ne_zero hb0 hd0) (nat_mono c6 m2) (nat_mono c3 m1)) fun H9 s9 => is_no (mkX_mulS rfl rfl (F8.same s9).hs (F8.same s9).ho hbs hbo) (isX_mul rfl rfl (nat_mono ha1 m3) (nat_mono hc1 m3)) (isX_mul rfl rfl (nat_mono hb1 m3) (nat_mono hd1 m3)) (Rat.divInt_mul_divInt _ _) (Int.mul_ne_zero hb0 hd0) (nat_mono c4 m1) (nat_mono c3 m1)).ifs fun H9 s9 => ?_
    have F9 := F8.same s9
    try dsimp only
    rw [seq1]
    refine NoT.ifsE (Fix01 K p l sh ot a b c d n) (is_no (mkX_subS rfl rfl F9.hs F9.ho hbs hbo) (isX_sub (isX_mul rfl rfl (nat_mono ha1 m3) (nat_mono hd1 m3)) (isX_mul rfl rfl (nat_mono hc1 m3) (nat_mono hb1 m3))) (isX_mul rfl rfl (nat_mono hb1 m3) (nat_mono hd1 m3)) (Rat.divInt_sub_divInt _ _ hb0 hd0) (Int.mul_ne_zero hb0 hd0) (nat_mono c7 m2) (nat_mono c3 m1)) (fun HA Q sA k => ⟨_, rfl, _, rfl, _, rfl, _, rfl, sh, a, b, n, rfl, (F9.same sA).hs, hb0, nat_mono ha1 (by decide), nat_mono hb1 (by decide), nat_mono hn1 (by decide), (F9.same sA).hT, fun HB eB TB => ⟨true, rfl, k HB ((F9.same sA).extN eB TB)⟩⟩) fun HA FA => ?_
    clear F9 F8 F7
    try dsimp only
    rw [seq1]
    refine (NoT.or (is_no (mkX_neg rfl FA.hs hbs) (isX_sub isX_c (isX_var rfl)) (isX_var rfl) dv_neg hb0 (by rw [Int.zero_sub, Int.natAbs_neg]; exact nat_mono ha1 m3) (nat_mono hb1 m3)) fun HB sB => is_no (mkX_abs rfl (FA.same sB).hs hbs) (isX_abs rfl) (isX_abs rfl) (dv_abs hb0) (by split <;> omega) (by split <;> (try rw [Int.natAbs_neg]) <;> exact nat_mono ha1 m3) (by split <;> (try rw [Int.natAbs_neg]) <;> exact nat_mono hb1 m3)).ifs fun HB sB => ?_
    have FB := FA.same sB
    try dsimp only
    rw [seq1]
    refine (no_andNe rfl fun hc0 => is_no (mkX_over (v := .ref ot) (r := Rat.divInt c d) rfl rfl FB.hs (.inr ⟨ot, rfl, FB.ho⟩) (fun z => hc0 ((dv_zero hd0).mp z)) hbs hbo) (isX_mul rfl rfl (nat_mono ha1 m3) (nat_mono hd1 m3)) (isX_mul rfl rfl (nat_mono hb1 m3) (nat_mono hc1 m3)) dv_div (Int.mul_ne_zero hb0 hc0) (nat_mono c1 m1) (nat_mono c5 m1)).ifs fun HC sC => ?_
    have FC := FB.same sC
    try dsimp only
    rw [seq1]
    refine (no_andEq rfl fun hc0 => fun Q k => ⟨_, rfl, _, rfl, sh, ot, _, rfl, ⟨_, FC.hs⟩, FC.ho, (dv_zero hd0).mpr hc0, hbo.mono (by decide), fun H' s => ⟨true, rfl, k H' s⟩⟩).ifs fun HD sD => ?_
    have FD := FC.same sD
    clear FA FB FC
    try dsimp only
    rw [seq1]
    refine NoT.ifs (t := tNot _) (fun Q k => ⟨_, rfl, ?_⟩) fun HE sE => ?_
    · dsimp only [tCons, tNil]
      refine mk_sh (K := K) (ta := tC (.int 0)) (tb := tVar 8) (u := 0) (lo := b) (fun _ z => z) (fun _ z => ⟨_, rfl, z⟩) hb0 (by decide) (nat_mono hb1 (by decide)) fun z H1 s1 hz => ?_
      exact ⟨sh, z, _, rfl, ⟨_, (FD.same s1).hs⟩, hz, (dv_zero hb0).mpr rfl, (bd_div hb0 (by decide) hb1).mono (by decide), fun H' s => ⟨true, rfl, k H' (s1.trans s)⟩⟩
    have FE := FD.same sE
    clear FD
    try dsimp only
    rw [forl_eq]
    refine lst_odd fun L xs HF sF hL hx => ⟨L, rfl, ⟨_, SqL.of hL⟩, forL (xs := xs) (fun j σ H' => (∃ v, σ = [some (.ref a0), some (.ref p), some (.int (0 + ↑i)), v3, some (.int a), some (.int c), some (.int n), some (.int m), some (.int b), some (.int d), some (.ref sh), some (.ref ot), v]) ∧ ExtN HF H' ∧ Fix01 K p l sh ot a b c d n H') ⟨⟨_, rfl⟩, ExtN.refl _, FE.same sF⟩ (fun j σ H' z => SqL.of (z.2.1 _ _ hL fun ps z => by cases z)) ?_ ?_⟩
    · rintro j x σ H2 hxj ⟨⟨v, rfl⟩, s2, F2⟩
      obtain ⟨dd, h1, h2, h3⟩ := (hx x (List.mem_of_getElem? hxj)).extN s2
      rw [gName1]
      try dsimp only [List.set_cons_succ, List.set_cons_zero]
      rw [seq1]
      refine caught_isG kN.g okNum F2.hT h2 h1 (fun H3 E Q e3 hE => ?_) (fun H3 Q e3 q3 => lit_repr rfl (h1.extN e3) h2 q3) fun H3 e3 T3 => ?_
      · exact ⟨_, rfl, fun y dy hy hdy _ => init_bad (.inl ⟨⟨dd, h1.extN e3, h3⟩, fun H' s d hd => hE H' d s hd⟩) y dy hy hdy⟩
      have F3 := F2.extN e3 T3
      have g1 := h1.extN e3
      try dsimp only
      rw [seq1]
      refine caught_isG kN.g okNum F3.hT h2 g1 (fun H4 E Q e4 hE => ?_) (fun H4 Q e4 q4 => lit_repr rfl (g1.extN e4) h2 q4) fun H4 e4 T4 => ?_
      · exact ⟨_, rfl, _, rfl, fun y dy hy hdy _ => init_bad (.inr ⟨⟨a, rfl⟩, .inl ⟨dd, g1.extN e4, h3⟩, fun H' s d hd => hE H' d s hd⟩) y dy hy hdy⟩
      have F4 := F3.extN e4 T4
      have g2 := g1.extN e4
      try dsimp only
      refine caught_isG kN.g okNum F4.hT h2 g2 (fun H5 E Q e5 hE => ?_) (fun H5 Q e5 q5 => lit_repr rfl (g2.extN e5) h2 q5) fun H5 e5 T5 => ⟨⟨_, rfl⟩, s2.trans (e3.trans (e4.trans e5)), F4.extN e5 T5⟩
      have hs5 := F4.hs.extN e5
      obtain ⟨dx, e1⟩ := id hs5
      exact ⟨_, rfl, sh, dx, _, rfl, e1, rfl, _, rfl, sh, x, rfl, ⟨_, hs5⟩, .inl ⟨dd, g2.extN e5, h3⟩, fun H6 s6 d hd => hE H6 d s6 hd⟩
    · rintro σ H2 ⟨⟨v, rfl⟩, s2, F2⟩
      exact ⟨_, _, _, _, _, _, _, _, _, _, _, rfl, F2.hp, F2.hT⟩
  · obtain ⟨v2, v3, v4, v5, v6, v7, v8, v9, v10, v11, v12, rfl, hp1, hT1⟩ := hI
    refine lam_errS (x := .int 0) (d := .int 0) kN hT1 (okD_i (by decide) (by decide)) (.at_ rfl) (fun H2 E Q e2 hE => ?_) fun R H2 hR e2 T2 => ?_
    · exact fun y dy hy hdy _ => init_bad (.inr ⟨⟨1, rfl⟩, .inr rfl, fun H' s d hd => hE H' d s hd⟩) y dy hy hdy
    · refine ⟨(show 2 ≤ 16777216 by decide), fun R2 hR2 => ?_⟩
      have s3 := Same.new (o := .lst [.str "number", .str "0"]) hR2
      exact pair_sameE okNum (by decide +kernel) (s3 _ _ hR) (updS _ _ _) (q _)
end
end Tw
/-! the defs as they stand -/
namespace Tw
open PySem PySem.Spec PyProof.Rows L2 He TwM Hd PySem.W LamX
section
variable {K : Frag} {w : World} {mg : PySem.Str → Option Value} {base : Heap}
theorem ks (T : Tx K mg w) : Ks K w := ⟨cls_Share T, na_Share_kept_top T, na_Share_kept_bottom T, isi_Share T, kit_Share T, kSi_Share T, kiS_Share T, kiT_Share T⟩
theorem kx (T : Tx K mg w) : Kx K w := ⟨ks T, ns_Share T, st_Share T, exs_InvalidNumber T⟩
theorem okE_InvalidNumber {CX : CXT} (T : Tx K mg w) : ∃ fd, FnOk (PySem.Challenge.rw_timerwheels_k01_shares_in_lowest_terms).prog w K mg base CX 1 (ma K (ga K "InvalidNumber") "__init__") fd ["self", "value"] (sp_er K (ga K "InvalidNumber") "value") ∧ Binds K fd ["self", "value"] [] :=
  ok_err (er_InvalidNumber T) rfl (by decide +kernel) (ef_InvalidNumber T) (NdefX.nscope_by (by decide +kernel)) rfl rfl (by decide +kernel) (free_super T) (by decide +kernel) (by decide +kernel) (fun _ _ _ _ => rfl) (fun _ _ _ _ => rfl) (fun _ _ _ _ => rfl) (fun _ _ _ _ => ⟨_, rfl⟩)
    (fun _ _ _ _ _ _ _ us hl => match us, hl with | [_, _], _ => rfl)
def n__law_caught : List PySem.Str := ["_law_call", "e"]
theorem sc__law_caught : FnScope n__law_caught ["_law_call"] (defScope s__law_caught) := ⟨rfl, rfl, rfl, by decide +kernel, rfl, by decide +kernel, by decide +kernel⟩
theorem sc__law_kind : FnScope n__law_kind ["_law_error"] (defScope s__law_kind) := ⟨rfl, rfl, rfl, by decide +kernel, rfl, by decide +kernel, by decide +kernel⟩
theorem ln0__law_kind (p : Addr × Obj) (vs : List V) (H : Hp) (Q : VK) (E : XK) (h : sp__law_kind K p vs H Q E) : vs.length = 1 := by
  obtain ⟨_, _, _, _, rfl, _⟩ := h
  rfl
theorem okP__law_kind (T : Tx K mg w) : FnP (PySem.Challenge.rw_timerwheels_k01_shares_in_lowest_terms).prog w K mg base 3 (ga K "_law_kind") (sp__law_kind K) := by
  obtain ⟨fd, F⟩ := d__law_kind T
  exact fnP_of (k := 2) (N := n__law_kind) F sc__law_kind (F.bindsN fun _ _ _ _ _ _ us hl => match us, hl with | [_], _ => rfl) ln0__law_kind fun cdv A fs t H vs Q p hr _ h => by
    have hp : p ∈ [p] := List.mem_singleton.mpr rfl
    exact ⟨t__law_kind K p, (pss_cons (ps_set (i := 1) sc__law_kind.nd rfl (Or.inl rfl) (pe_lst (pa_cons (pe_callB (call_isP hp) (by rfl) (free_isinstance T) (by decide +kernel) (pa_cons (pv 0) (pa_cons (pe_glob rfl (glo_InvalidNumber T) rfl) pa_nil))) (pa_cons (pe_callB (call_isP hp) (by rfl) (free_isinstance T) (by decide +kernel) (pa_cons (pv 0) (pa_cons (pe_glob rfl (glo_InvalidText T) rfl) pa_nil))) (pa_cons (pe_callB (call_isP hp) (by rfl) (free_isinstance T) (by decide +kernel) (pa_cons (pv 0) (pa_cons (pe_glob rfl (glo_InvalidName T) rfl) pa_nil))) pa_nil)))))
  (pss_cons (ps_set (i := 1) sc__law_kind.nd rfl (Or.inl rfl) (pe_op op_cat (pv 1) (pe_lst (pa_cons (pe_callB (call_isP hp) (by rfl) (free_isinstance T) (by decide +kernel) (pa_cons (pv 0) (pa_cons (pe_glob rfl (glo_InvalidLevels T) rfl) pa_nil))) (pa_cons (pe_callB (call_isP hp) (by rfl) (free_isinstance T) (by decide +kernel) (pa_cons (pv 0) (pa_cons (pe_glob rfl (glo_InvalidSwitch T) rfl) pa_nil))) pa_nil)))))
  (pss_cons (ps_set (i := 1) sc__law_kind.nd rfl (Or.inl rfl) (pe_op op_cat (pv 1) (pe_lst (pa_cons (pe_callB (call_isP hp) (by rfl) (free_isinstance T) (by decide +kernel) (pa_cons (pv 0) (pa_cons (pe_glob rfl (glo_InvalidMode T) rfl) pa_nil))) (pa_cons (pe_callB (call_isP hp) (by rfl) (free_isinstance T) (by decide +kernel) (pa_cons (pv 0) (pa_cons (pe_glob rfl (glo_InvalidMenu T) rfl) pa_nil))) (pa_cons (pe_callB (call_isP hp) (by rfl) (free_isinstance T) (by decide +kernel) (pa_cons (pv 0) (pa_cons (pe_glob rfl (glo_InvalidPlan T) rfl) pa_nil))) pa_nil))))))
  (pss_cons (ps_set (i := 1) sc__law_kind.nd rfl (Or.inl rfl) (pe_op op_cat (pv 1) (pe_lst (pa_cons (pe_callB (call_isP hp) (by rfl) (free_isinstance T) (by decide +kernel) (pa_cons (pv 0) (pa_cons (pe_glob rfl (glo_InvalidCommand T) rfl) pa_nil))) (pa_cons (pe_callB (call_isP hp) (by rfl) (free_isinstance T) (by decide +kernel) (pa_cons (pv 0) (pa_cons (pe_glob rfl (glo_TooLong T) rfl) pa_nil))) (pa_cons (pe_callB (call_isP hp) (by rfl) (free_isinstance T) (by decide +kernel) (pa_cons (pv 0) (pa_cons (pe_glob rfl (glo_TooMany T) rfl) pa_nil))) pa_nil))))))
  (pss_cons (ps_set (i := 1) sc__law_kind.nd rfl (Or.inl rfl) (pe_op op_cat (pv 1) (pe_lst (pa_cons (pe_callB (call_isP hp) (by rfl) (free_isinstance T) (by decide +kernel) (pa_cons (pv 0) (pa_cons (pe_glob rfl (glo_NothingToUndo T) rfl) pa_nil))) pa_nil))))
  (pss_cons (ps_if (PW.pt (pw_or (pt_cmpR op_ne (pe_bm PySem.F.plainAttrs_list PySem.F.slot_list_count PySem.F.type_list_count mt_countF (pv 1) (pa_cons pe_bl pa_nil)) pe_int (nomark _)) (pw_or1 (pt_cmpR op_ne (pe_callB (call_isP hp) (by rfl) (free_isinstance T) (by decide +kernel) (pa_cons (pv 0) (pa_cons (pe_glob rfl (glo_WheelError T) rfl) pa_nil))) (pe_cmpR op_lt (pe_bm PySem.F.plainAttrs_list PySem.F.slot_list_index PySem.F.type_list_index mt_index (pv 1) (pa_cons pe_bl pa_nil)) pe_int (nomark _)) (nomark _))))) (pss_one (ps_ret pe_str)) pss_nil)
  (pss_cons (ps_set (i := 2) sc__law_kind.nd rfl (Or.inl rfl) (pe_lst (pa_cons pe_str (pa_cons pe_str (pa_cons pe_str (pa_cons pe_str (pa_cons pe_str (pa_cons pe_str (pa_cons pe_str (pa_cons pe_str (pa_cons pe_str (pa_cons pe_str (pa_cons pe_str (pa_cons pe_str pa_nil))))))))))))))
  (pss_one (ps_ret (pe_ix ix_lstH (pv 2) (pe_bm PySem.F.plainAttrs_list PySem.F.slot_list_index PySem.F.type_list_index mt_index (pv 1) (pa_cons pe_bl pa_nil)) (fun _ _ => rfl))))))))))), rd__law_kind vs H Q C8.E0 h⟩
theorem cg (T : Tx K mg w) {N : List PySem.Str} {qual : PySem.Str} {sc : Scope} {f : Addr} {cdv : Value} {A : Around} {fs : List Env} {t : Shared} {H : Hp} {E : XK}
    (hr : RmG 8 (cxOf C8.CX0 (PySem.Challenge.rw_timerwheels_k01_shares_in_lowest_terms).prog w K mg base N qual sc f cdv A fs t H E).nox.A) (q : PySem.Str) (cdg : Value) :
    GivesTo (cxOf C8.CX0 (PySem.Challenge.rw_timerwheels_k01_shares_in_lowest_terms).prog w K mg base N qual sc f cdv A fs t H E).nox n__law_caught "_law_caught" (defScope s__law_caught) (ga K "_law_caught") cdg (defBody s__law_caught) "_law_call" q (TCg K) :=
  caught_gives sc__law_caught.nd rfl (fun s H => .cons rfl rfl ⟨rfl, rfl, .inl (glo_WheelError T)⟩ (fun a oe cls d pn hz hf => pss_one (ps_ret (pe_lst (pa_cons (pe_kind (okP__law_kind T) ⟨by have := hr.rm.dp; show _ + 1 + 3 * 3 + 5 < _; omega, by have := hr.rm.un; show _ + 3 + 16 * 3 + 200 < _; omega⟩ hz hf rfl (glo__law_kind T) (d__law_kind T).choose_spec.kp (pa_cons (pe_var (i := 1) rfl (Or.inl rfl)) pa_nil))
      (pa_cons (pe_callB (call_reprE hr.gd (by have := hr.rm.un; show _ + 3 + 40 < _; omega)) (by rfl) (free_repr T) (by decide +kernel) (pa_cons (pe_xfA hz hf (pe_var (i := 1) rfl (Or.inl rfl))) pa_nil)) pa_nil)))))
    (.cons rfl rfl ⟨rfl, rfl, .inl (glo_TooLong T)⟩ (fun a oe cls d pn hz hf => pss_one (ps_ret (pe_lst (pa_cons (pe_kind (okP__law_kind T) ⟨by have := hr.rm.dp; show _ + 1 + 3 * 3 + 5 < _; omega, by have := hr.rm.un; show _ + 3 + 16 * 3 + 200 < _; omega⟩ hz hf rfl (glo__law_kind T) (d__law_kind T).choose_spec.kp (pa_cons (pe_var (i := 1) rfl (Or.inl rfl)) pa_nil))
      (pa_cons (pe_callB (call_reprE hr.gd (by have := hr.rm.un; show _ + 3 + 40 < _; omega)) (by rfl) (free_repr T) (by decide +kernel) (pa_cons (pe_xfA hz hf (pe_var (i := 1) rfl (Or.inl rfl))) pa_nil)) pa_nil))))) (.cons rfl rfl ⟨rfl, rfl, .inl (glo_TooMany T)⟩ (fun a oe cls d pn hz hf => pss_one (ps_ret (pe_lst (pa_cons (pe_kind (okP__law_kind T) ⟨by have := hr.rm.dp; show _ + 1 + 3 * 3 + 5 < _; omega, by have := hr.rm.un; show _ + 3 + 16 * 3 + 200 < _; omega⟩ hz hf rfl (glo__law_kind T) (d__law_kind T).choose_spec.kp (pa_cons (pe_var (i := 1) rfl (Or.inl rfl)) pa_nil))
      (pa_cons (pe_callB (call_reprE hr.gd (by have := hr.rm.un; show _ + 3 + 40 < _; omega)) (by rfl) (free_repr T) (by decide +kernel) (pa_cons (pe_xfA hz hf (pe_var (i := 1) rfl (Or.inl rfl))) pa_nil)) pa_nil))))) (.cons rfl rfl ⟨rfl, rfl, .inl (glo_NothingToUndo T)⟩ (fun _ _ _ _ _ _ _ => pss_off) .nil))))
    (fun s H => pss_one (ps_ret pe_non)) (fun f => rfl)
theorem kec_InvalidNumber (T : Tx K mg w) : KeC K "InvalidNumber" "number" := kec_of (er_InvalidNumber T) (kn_InvalidNumber T) (by decide +kernel)
structure TBs (K : Frag) (mg : PySem.Str → Option Value) (base : Heap) : Prop where
  _law_with_integer : TabB base mg (codA K (ga K "_law_with_integer")) (tbA K (ga K "_law_with_integer"))
  law : TabB base mg (codA K (ga K "law")) (tbA K (ga K "law"))
abbrev TBs.L (K : Frag) : List (Addr × PySem.Str) := [(tbA K (ga K "_law_with_integer"), (("_law_with_integer" : PySem.Str) ++ ".<locals>." ++ "<lambda>")), (tbA K (ga K "law"), (("law" : PySem.Str) ++ ".<locals>." ++ "<lambda>"))]
theorem TBs.mem__law_with_integer (T : Tx K mg w) : (tbA K (ga K "_law_with_integer"), ((("_law_with_integer" : PySem.Str) ++ ".<locals>.") ++ "<lambda>")) ∈ TBs.L K := by simp
theorem TBs.one__law_with_integer (T : Tx K mg w) : ∀ p ∈ TBs.L K, p.1 = tbA K (ga K "_law_with_integer") → p.2 = ((("_law_with_integer" : PySem.Str) ++ ".<locals>.") ++ "<lambda>") := by
  intro p hp e
  simp only [List.mem_cons, List.not_mem_nil, or_false] at hp
  rcases hp with rfl | rfl
  · rfl
  · dsimp only at e
    rw [tb_law T, tb__law_with_integer T] at e
    exact absurd e (by decide)
theorem TBs.mem_law (T : Tx K mg w) : (tbA K (ga K "law"), ((("law" : PySem.Str) ++ ".<locals>.") ++ "<lambda>")) ∈ TBs.L K := by simp
theorem TBs.one_law (T : Tx K mg w) : ∀ p ∈ TBs.L K, p.1 = tbA K (ga K "law") → p.2 = ((("law" : PySem.Str) ++ ".<locals>.") ++ "<lambda>") := by
  intro p hp e
  simp only [List.mem_cons, List.not_mem_nil, or_false] at hp
  rcases hp with rfl | rfl
  · dsimp only at e
    rw [tb__law_with_integer T, tb_law T] at e
    exact absurd e (by decide)
  · rfl
theorem sc__law_begin : FnScope n__law_begin ["_law_script"] (defScope s__law_begin) := ⟨rfl, rfl, rfl, by decide +kernel, rfl, by decide +kernel, by decide +kernel⟩
theorem ln0__law_begin (vs : List V) (H : Hp) (Q : VK) (E : XK) (h : sp__law_begin K vs H Q E) : vs.length = 1 := by
  unfold sp__law_begin at h
  repeat (first | (exact (congrArg List.length h.1).trans rfl) | (obtain ⟨_, h⟩ := h))
theorem okk__law_begin (T : Tx K mg w) : FnOk (PySem.Challenge.rw_timerwheels_k01_shares_in_lowest_terms).prog w K mg base CX0 2 (ga K "_law_begin") (d__law_begin T).choose ["_law_script"] (sp__law_begin K) :=
  FunD.ok (k := 1) (N := n__law_begin) (d__law_begin T).choose_spec sc__law_begin ln0__law_begin fun cdv A outer s H vs Q E hr h => ⟨t__law_begin K w, PSs.nox (pss_cons (ps_set (i := 1) sc__law_begin.nd rfl (Or.inl rfl) pe_int)
  (pss_cons (ps_for PassesOwn.never rfl (pi_list (pe_slice sl_list (pv 0) po_none (po_some pe_int))) (pg_name (i := 2) sc__law_begin.nd rfl (Or.inl rfl))
    (pss_one (ps_set (i := 1) sc__law_begin.nd rfl (Or.inl rfl) (pe_op op_mod (pe_op op_add (pe_op op_add (pe_op op_mul (pv 1) pe_int) (pe_op op_mod (pe_callTy call_int1 (by rfl) (free_int T) (by decide +kernel) (pa_cons (pv 2) pa_nil)) pe_int)) pe_int) pe_int))))
  (pss_one (ps_ret (pe_lst (pa_cons (pe_lc (own := [("_law_cell", 2)]) (g := (gName 2)) (tt := tYes) rfl sc__law_begin.nd (pi_list (pv 0)) (blkOk_by (own := [("_law_cell", 2)]) (N := ["_law_script", "_law_seed", "_law_cell"]) (sc := defScope s__law_begin) (by decide +kernel)) (fun _ _ _ _ _ => (pg_name (i := 2) sc__law_begin.nd rfl (Or.inl rfl))) (fun _ _ _ _ _ => pts_nil) (fun _ _ _ _ _ => (pe_callB call_abs (by rfl) (free_abs T) (by decide +kernel) (pa_cons (pe_callTy call_int1 (by rfl) (free_int T) (by decide +kernel) (pa_cons (pv 2) pa_nil)) pa_nil)))) (pa_cons pe_int (pa_cons pe_int (pa_cons (pv 1) (pa_cons pe_int pa_nil)))))))))), rd__law_begin vs H Q E h⟩
theorem ok__law_begin (T : Tx K mg w) : FnR (PySem.Challenge.rw_timerwheels_k01_shares_in_lowest_terms).prog w K mg base CX0 2 (ga K "_law_begin") (sp__law_begin K) :=
  fnR_of (okk__law_begin T) ((d__law_begin T).choose_spec.bindsN fun _ _ _ _ _ _ us hl => match us, hl with | [_], _ => rfl)
theorem kp__law_begin (T : Tx K mg w) : keepIn K (.ref (ga K "_law_begin")) = true := (d__law_begin T).choose_spec.kp
theorem sc__law_mixed : FnScope n__law_mixed ["_law_pool", "_law_many"] (defScope s__law_mixed) := ⟨rfl, rfl, rfl, by decide +kernel, rfl, by decide +kernel, by decide +kernel⟩
theorem ln0__law_mixed (vs : List V) (H : Hp) (Q : VK) (E : XK) (h : sp__law_mixed K vs H Q E) : vs.length = 2 := by
  unfold sp__law_mixed at h
  repeat (first | (exact (congrArg List.length h.1).trans rfl) | (obtain ⟨_, h⟩ := h))
theorem okk__law_mixed (T : Tx K mg w) : FnOk (PySem.Challenge.rw_timerwheels_k01_shares_in_lowest_terms).prog w K mg base CX0 2 (ga K "_law_mixed") (d__law_mixed T).choose ["_law_pool", "_law_many"] (sp__law_mixed K) :=
  FunD.ok (k := 1) (N := n__law_mixed) (d__law_mixed T).choose_spec sc__law_mixed ln0__law_mixed fun cdv A outer s H vs Q E hr h => ⟨t__law_mixed K w, PSs.nox (pss_cons (ps_asg (pe_op op_add (pe_ix ix_lstH (pv 0) pe_int (fun _ _ => rfl)) pe_int) (pg_sub (pv 0) pe_int set_list))
  (pss_cons (ps_set (i := 2) sc__law_mixed.nd rfl (Or.inl rfl) (pe_ix ix_lstH (pv 0) pe_int (fun _ _ => rfl)))
  (pss_cons (ps_for PassesOwn.never rfl (pi_range1 rfl (free_range T) (pa_cons (pe_op op_add pe_int (pe_op op_fdiv (pe_callB call_len_str (by rfl) (free_len T) (by decide +kernel) (pa_cons (pe_callTy call_str_int (by rfl) (free_str T) (by decide +kernel) (pa_cons (pv 1) pa_nil)) pa_nil)) pe_int)) pa_nil)) (pg_name (i := 3) sc__law_mixed.nd rfl (Or.inl rfl))
    (pss_cons (ps_asg (pe_op op_mod (pe_op op_add (pe_op op_add (pe_op op_mul (pe_ix ix_lstH (pv 0) pe_int (fun _ _ => rfl)) pe_int) (pe_op op_mul (pe_ix ix_lstH (pv 0) pe_int (fun _ _ => rfl)) pe_int)) pe_int) pe_int) (pg_sub (pv 0) pe_int set_list))
  (pss_one (ps_set (i := 2) sc__law_mixed.nd rfl (Or.inl rfl) (pe_op op_add (pe_op op_mul (pv 2) pe_int) (pe_op op_fdiv (pe_ix ix_lstH (pv 0) pe_int (fun _ _ => rfl)) pe_int))))))
  (pss_one (ps_ret (pe_op op_mod (pv 2) (pv 1))))))), rd__law_mixed vs H Q E h⟩
theorem ok__law_mixed (T : Tx K mg w) : FnR (PySem.Challenge.rw_timerwheels_k01_shares_in_lowest_terms).prog w K mg base CX0 2 (ga K "_law_mixed") (sp__law_mixed K) :=
  fnR_of (okk__law_mixed T) ((d__law_mixed T).choose_spec.bindsN fun _ _ _ _ _ _ us hl => match us, hl with | [_, _], _ => rfl)
theorem kp__law_mixed (T : Tx K mg w) : keepIn K (.ref (ga K "_law_mixed")) = true := (d__law_mixed T).choose_spec.kp
theorem sc__law_draw : FnScope n__law_draw ["_law_pool", "_law_many"] (defScope s__law_draw) := ⟨rfl, rfl, rfl, by decide +kernel, rfl, by decide +kernel, by decide +kernel⟩
theorem ln0__law_draw (vs : List V) (H : Hp) (Q : VK) (E : XK) (h : sp__law_draw K vs H Q E) : vs.length = 2 := by
  unfold sp__law_draw at h
  repeat (first | (exact (congrArg List.length h.1).trans rfl) | (obtain ⟨_, h⟩ := h))
theorem okk__law_draw (T : Tx K mg w) : FnOk (PySem.Challenge.rw_timerwheels_k01_shares_in_lowest_terms).prog w K mg base CX0 4 (ga K "_law_draw") (d__law_draw T).choose ["_law_pool", "_law_many"] (sp__law_draw K) :=
  FunD.ok (k := 3) (N := n__law_draw) (d__law_draw T).choose_spec sc__law_draw ln0__law_draw fun cdv A outer s H vs Q E hr h => ⟨t__law_draw K w, PSs.nox (pss_cons (ps_if (PW.pt (pw_or (pt_cmpR op_ge (pe_ix ix_lstH (pv 0) pe_int (fun _ _ => rfl)) (pe_callB call_lenL (by rfl) (free_len T) (by decide +kernel) (pa_cons (pe_ix ix_lstH (pv 0) pe_int (fun _ _ => rfl)) pa_nil)) (nomark _)) (pw_or1 (pt_cmpR op_eq (pv 1) pe_int (nomark _))))) (pss_one (ps_ret (pe_ifExp (pt_cmpR op_gt (pv 1) pe_int (nomark _)) (pe_fn (ok__law_mixed T) (hr.mono (by decide)) rfl (glo__law_mixed T) (kp__law_mixed T) pass0 (pa_cons (pv 0) (pa_cons (pv 1) pa_nil))) pe_int))) pss_nil)
  (pss_cons (ps_if (pt_cmpR op_lt (pe_ix ix_lstH (pe_ix ix_lstH (pv 0) pe_int (fun _ _ => rfl)) (pe_ix ix_lstH (pv 0) pe_int (fun _ _ => rfl)) (fun _ _ => rfl)) (pe_op op_pow pe_int pe_int) (nomark _)) (pss_cons (ps_asg (pe_op op_mod (pe_op op_add (pe_op op_add (pe_op op_add (pe_op op_mul (pe_ix ix_lstH (pv 0) pe_int (fun _ _ => rfl)) pe_int) (pe_ix ix_lstH (pe_ix ix_lstH (pv 0) pe_int (fun _ _ => rfl)) (pe_ix ix_lstH (pv 0) pe_int (fun _ _ => rfl)) (fun _ _ => rfl))) (pe_ix ix_lstH (pv 0) pe_int (fun _ _ => rfl))) pe_int) pe_int) (pg_sub (pv 0) pe_int set_list))
  (pss_cons (ps_asg (pe_op op_add (pe_ix ix_lstH (pv 0) pe_int (fun _ _ => rfl)) pe_int) (pg_sub (pv 0) pe_int set_list))
  (pss_cons (ps_if (pt_cmpR op_eq (pe_op op_mod (pe_ix ix_lstH (pv 0) pe_int (fun _ _ => rfl)) pe_int) pe_int (nomark _)) (pss_one (ps_asg (pe_op op_add (pe_ix ix_lstH (pv 0) pe_int (fun _ _ => rfl)) pe_int) (pg_sub (pv 0) pe_int set_list))) pss_nil)
  (pss_one (ps_ret (pe_fn (ok__law_mixed T) (hr.mono (by decide)) rfl (glo__law_mixed T) (kp__law_mixed T) pass0 (pa_cons (pv 0) (pa_cons (pv 1) pa_nil)))))))) pss_nil)
  (pss_cons (ps_set (i := 2) sc__law_draw.nd rfl (Or.inl rfl) (pe_op op_mod (pe_ix ix_lstH (pe_ix ix_lstH (pv 0) pe_int (fun _ _ => rfl)) (pe_ix ix_lstH (pv 0) pe_int (fun _ _ => rfl)) (fun _ _ => rfl)) (pv 1)))
  (pss_cons (ps_asg (pe_op op_fdivW (pe_ix ix_lstH (pe_ix ix_lstH (pv 0) pe_int (fun _ _ => rfl)) (pe_ix ix_lstH (pv 0) pe_int (fun _ _ => rfl)) (fun _ _ => rfl)) (pv 1)) (pg_sub (pe_ix ix_lstH (pv 0) pe_int (fun _ _ => rfl)) (pe_ix ix_lstH (pv 0) pe_int (fun _ _ => rfl)) set_list))
  (pss_cons (ps_if (pt_cmpR op_eq (pe_ix ix_lstH (pe_ix ix_lstH (pv 0) pe_int (fun _ _ => rfl)) (pe_ix ix_lstH (pv 0) pe_int (fun _ _ => rfl)) (fun _ _ => rfl)) pe_int (nomark _)) (pss_one (ps_asg (pe_op op_add (pe_ix ix_lstH (pv 0) pe_int (fun _ _ => rfl)) pe_int) (pg_sub (pv 0) pe_int set_list))) pss_nil)
  (pss_one (ps_ret (pv 2)))))))), rd__law_draw vs H Q E h⟩
theorem ok__law_draw (T : Tx K mg w) : FnR (PySem.Challenge.rw_timerwheels_k01_shares_in_lowest_terms).prog w K mg base CX0 4 (ga K "_law_draw") (sp__law_draw K) :=
  fnR_of (okk__law_draw T) ((d__law_draw T).choose_spec.bindsN fun _ _ _ _ _ _ us hl => match us, hl with | [_, _], _ => rfl)
theorem kp__law_draw (T : Tx K mg w) : keepIn K (.ref (ga K "_law_draw")) = true := (d__law_draw T).choose_spec.kp
theorem sc__law_integer : FnScope n__law_integer ["_law_pool"] (defScope s__law_integer) := ⟨rfl, rfl, rfl, by decide +kernel, rfl, by decide +kernel, by decide +kernel⟩
theorem ln0__law_integer (vs : List V) (H : Hp) (Q : VK) (E : XK) (h : sp__law_integer K vs H Q E) : vs.length = 1 := by
  unfold sp__law_integer at h
  repeat (first | (exact (congrArg List.length h.1).trans rfl) | (obtain ⟨_, h⟩ := h))
theorem okk__law_integer (T : Tx K mg w) : FnOk (PySem.Challenge.rw_timerwheels_k01_shares_in_lowest_terms).prog w K mg base CX0 6 (ga K "_law_integer") (d__law_integer T).choose ["_law_pool"] (sp__law_integer K) :=
  FunD.ok (k := 5) (N := n__law_integer) (d__law_integer T).choose_spec sc__law_integer ln0__law_integer fun cdv A outer s H vs Q E hr h => ⟨t__law_integer K w, PSs.nox (pss_cons (ps_set (i := 1) sc__law_integer.nd rfl (Or.inl rfl) (pe_ix ix_lstH (pe_lst (pa_cons (pe_fn (ok__law_draw T) (hr.mono (by decide)) rfl (glo__law_draw T) (kp__law_draw T) pass0 (pa_cons (pv 0) (pa_cons pe_int pa_nil))) (pa_cons (pe_fn (ok__law_draw T) (hr.mono (by decide)) rfl (glo__law_draw T) (kp__law_draw T) pass0 (pa_cons (pv 0) (pa_cons pe_int pa_nil))) (pa_cons (pe_fn (ok__law_draw T) (hr.mono (by decide)) rfl (glo__law_draw T) (kp__law_draw T) pass0 (pa_cons (pv 0) (pa_cons (pe_op op_pow pe_int pe_int) pa_nil))) pa_nil)))) (pe_fn (ok__law_draw T) (hr.mono (by decide)) rfl (glo__law_draw T) (kp__law_draw T) pass0 (pa_cons (pv 0) (pa_cons pe_int pa_nil))) (fun _ _ => rfl)))
  (pss_one (ps_ret (pe_ix ix_lstH (pe_lst (pa_cons (pv 1) (pa_cons (pe_op op_sub pe_int (pv 1)) pa_nil))) (pe_fn (ok__law_draw T) (hr.mono (by decide)) rfl (glo__law_draw T) (kp__law_draw T) pass0 (pa_cons (pv 0) (pa_cons pe_int pa_nil))) (fun _ _ => rfl))))), rd__law_integer vs H Q E h⟩
theorem ok__law_integer (T : Tx K mg w) : FnR (PySem.Challenge.rw_timerwheels_k01_shares_in_lowest_terms).prog w K mg base CX0 6 (ga K "_law_integer") (sp__law_integer K) :=
  fnR_of (okk__law_integer T) ((d__law_integer T).choose_spec.bindsN fun _ _ _ _ _ _ us hl => match us, hl with | [_], _ => rfl)
theorem kp__law_integer (T : Tx K mg w) : keepIn K (.ref (ga K "_law_integer")) = true := (d__law_integer T).choose_spec.kp
theorem sc_is_integer : FnScope n_is_integer ["value"] (defScope s_is_integer) := ⟨rfl, rfl, rfl, by decide +kernel, rfl, by decide +kernel, by decide +kernel⟩
theorem ln0_is_integer (vs : List V) (H : Hp) (Q : VK) (E : XK) (h : sp_is_integer K vs H Q E) : vs.length = 1 := by
  unfold sp_is_integer at h
  repeat (first | (exact (congrArg List.length h.1).trans rfl) | (obtain ⟨_, h⟩ := h))
theorem okk_is_integer (T : Tx K mg w) : FnOk (PySem.Challenge.rw_timerwheels_k01_shares_in_lowest_terms).prog w K mg base CX0 2 (ga K "is_integer") (d_is_integer T).choose ["value"] (sp_is_integer K) :=
  FunD.ok (k := 1) (N := n_is_integer) (d_is_integer T).choose_spec sc_is_integer ln0_is_integer fun cdv A outer s H vs Q E hr h => ⟨t_is_integer K w, PSs.nox (pss_one (ps_ret (pe_and (pe_callB call_isi (by rfl) (free_isinstance T) (by decide +kernel) (pa_cons (pv 0) (pa_cons (pe_bltn (v := .ty "int") (by rfl) (free_int T) (by decide +kernel) rfl) pa_nil))) (pe_one (pe_not (pe_callB call_isi (by rfl) (free_isinstance T) (by decide +kernel) (pa_cons (pv 0) (pa_cons (pe_bltn (v := .ty "bool") (by rfl) (free_bool T) (by decide +kernel) rfl) pa_nil)))))))), rd_is_integer vs H Q E h⟩
theorem ok_is_integer (T : Tx K mg w) : FnR (PySem.Challenge.rw_timerwheels_k01_shares_in_lowest_terms).prog w K mg base CX0 2 (ga K "is_integer") (sp_is_integer K) :=
  fnR_of (okk_is_integer T) ((d_is_integer T).choose_spec.bindsN fun _ _ _ _ _ _ us hl => match us, hl with | [_], _ => rfl)
theorem kp_is_integer (T : Tx K mg w) : keepIn K (.ref (ga K "is_integer")) = true := (d_is_integer T).choose_spec.kp
theorem ln0_is_integerS (vs : List V) (H : Hp) (Q : VK) (E : XK) (h : sp_is_integerS K vs H Q E) : vs.length = 1 := by
  unfold sp_is_integerS at h
  repeat (first | (exact (congrArg List.length h.1).trans rfl) | (obtain ⟨_, h⟩ := h))
theorem ok_is_integerS (T : Tx K mg w) : FnR (PySem.Challenge.rw_timerwheels_k01_shares_in_lowest_terms).prog w K mg base CX0 2 (ga K "is_integer") (sp_is_integerS K) :=
  fnR_of (FunD.ok (k := 1) (N := n_is_integer) (d_is_integer T).choose_spec sc_is_integer ln0_is_integerS fun cdv A outer s H vs Q E hr h => ⟨t_is_integer K w, PSs.nox (pss_one (ps_ret (pe_and (pe_callB call_isi (by rfl) (free_isinstance T) (by decide +kernel) (pa_cons (pv 0) (pa_cons (pe_bltn (v := .ty "int") (by rfl) (free_int T) (by decide +kernel) rfl) pa_nil))) (pe_one (pe_not (pe_callB call_isi (by rfl) (free_isinstance T) (by decide +kernel) (pa_cons (pv 0) (pa_cons (pe_bltn (v := .ty "bool") (by rfl) (free_bool T) (by decide +kernel) rfl) pa_nil)))))))), rd_is_integerS (ks T) vs H Q E h⟩) ((d_is_integer T).choose_spec.bindsN fun _ _ _ _ _ _ us hl => match us, hl with | [_], _ => rfl)
theorem sc_common_divisor : FnScope n_common_divisor ["first", "second"] (defScope s_common_divisor) := ⟨rfl, rfl, rfl, by decide +kernel, rfl, by decide +kernel, by decide +kernel⟩
theorem ln0_common_divisor (vs : List V) (H : Hp) (Q : VK) (E : XK) (h : sp_common_divisor K vs H Q E) : vs.length = 2 := by
  unfold sp_common_divisor at h
  repeat (first | (exact (congrArg List.length h.1).trans rfl) | (obtain ⟨_, h⟩ := h))
theorem okk_common_divisor (T : Tx K mg w) : FnOk (PySem.Challenge.rw_timerwheels_k01_shares_in_lowest_terms).prog w K mg base CX0 2 (ga K "common_divisor") (d_common_divisor T).choose ["first", "second"] (sp_common_divisor K) :=
  FunD.ok (k := 1) (N := n_common_divisor) (d_common_divisor T).choose_spec sc_common_divisor ln0_common_divisor fun cdv A outer s H vs Q E hr h => ⟨t_common_divisor K w, PSs.nox (pss_cons (ps_par (i := 2) (j := 3) (by rfl) sc_common_divisor.nd rfl rfl (by decide) rfl rfl (pa_cons (pe_callB call_abs (by rfl) (free_abs T) (by decide +kernel) (pa_cons (pv 0) pa_nil)) (pa_cons (pv 1) pa_nil)) (by rfl))
  (pss_cons (ps_while PassesOwn.never (pt_cmpR op_gt (pv 2) pe_int (nomark _))
    (pss_one (ps_par (i := 2) (j := 3) (by rfl) sc_common_divisor.nd rfl rfl (by decide) rfl rfl (pa_cons (pe_op op_mod (pv 3) (pv 2)) (pa_cons (pv 2) pa_nil)) (by rfl))))
  (pss_one (ps_ret (pv 3))))), rd_common_divisor vs H Q E h⟩
theorem ok_common_divisor (T : Tx K mg w) : FnR (PySem.Challenge.rw_timerwheels_k01_shares_in_lowest_terms).prog w K mg base CX0 2 (ga K "common_divisor") (sp_common_divisor K) :=
  fnR_of (okk_common_divisor T) ((d_common_divisor T).choose_spec.bindsN fun _ _ _ _ _ _ us hl => match us, hl with | [_, _], _ => rfl)
theorem kp_common_divisor (T : Tx K mg w) : keepIn K (.ref (ga K "common_divisor")) = true := (d_common_divisor T).choose_spec.kp
theorem sc_Share___init__ : FnScope n_Share___init__ ["self", "top", "bottom"] (defScope s_Share___init__) := ⟨rfl, rfl, rfl, by decide +kernel, rfl, by decide +kernel, by decide +kernel⟩
theorem ln0_Share___init__ (vs : List V) (H : Hp) (Q : VK) (E : XK) (h : sp_Share___init__ K vs H Q E) : vs.length = 3 := by
  unfold sp_Share___init__ at h
  repeat (first | (exact (congrArg List.length h.1).trans rfl) | (obtain ⟨_, h⟩ := h))
theorem okk_Share___init__ (T : Tx K mg w) : FnOk (PySem.Challenge.rw_timerwheels_k01_shares_in_lowest_terms).prog w K mg base CX0 4 (ma K (ga K "Share") "__init__") (d_Share___init__ T).choose ["self", "top", "bottom"] (sp_Share___init__ K) :=
  FunD.ok (k := 3) (N := n_Share___init__) (d_Share___init__ T).choose_spec sc_Share___init__ ln0_Share___init__ fun cdv A outer s H vs Q E hr h => ⟨t_Share___init__ K w, PSs.nox (pss_cons (ps_if (pt_not (pt_val (pe_fn (ok_is_integer T) (hr.mono (by decide)) rfl (glo_is_integer T) (kp_is_integer T) pass0 (pa_cons (pv 1) pa_nil)))) (pss_one ps_never) pss_nil)
  (pss_cons (ps_if (PW.pt (pw_or (pt_not (pt_val (pe_fn (ok_is_integer T) (hr.mono (by decide)) rfl (glo_is_integer T) (kp_is_integer T) pass0 (pa_cons (pv 2) pa_nil)))) (pw_or1 (pt_cmpR op_eq (pv 2) pe_int (nomark _))))) (pss_one ps_never) pss_nil)
  (pss_cons (ps_set (i := 3) sc_Share___init__.nd rfl (Or.inl rfl) (pe_fn (ok_common_divisor T) (hr.mono (by decide)) rfl (glo_common_divisor T) (kp_common_divisor T) pass0 (pa_cons (pv 1) (pa_cons (pe_callB call_abs (by rfl) (free_abs T) (by decide +kernel) (pa_cons (pv 2) pa_nil)) pa_nil))))
  (pss_cons (ps_if (pt_cmpR op_lt (pv 2) pe_int (nomark _)) (pss_one (ps_set (i := 3) sc_Share___init__.nd rfl (Or.inl rfl) (pe_un un_neg (pv 3)))) pss_nil)
  (pss_cons (ps_fld (pv 0) (pe_op op_fdivA (pv 1) (pv 3)) rfl)
  (pss_one (ps_fld (pv 0) (pe_op op_fdivA (pv 2) (pv 3)) rfl))))))), rd_Share___init__ (ks T) vs H Q E h⟩
theorem bi_Share_1 (T : Tx K mg w) : ∃ ds, Vals [V.int 1] ds ∧ Binds K (d_Share___init__ T).choose ["self", "top", "bottom"] ds :=
  FunD.binds1 (ps := ["self", "top", "bottom"]) (d_Share___init__ T).choose_spec 2 0 (fun z => by cases z) rfl fun T kV doc pm an cdv ct us its l1 l2 => match us, l1, its, l2 with | [_, _], _, [_], _ => ⟨_, rfl, rfl⟩
theorem ok_Share___init__ (T : Tx K mg w) : FnR (PySem.Challenge.rw_timerwheels_k01_shares_in_lowest_terms).prog w K mg base CX0 4 (ma K (ga K "Share") "__init__") (sp_Share___init__ K) := by
  obtain ⟨ds, hv, hb⟩ := FunD.binds1 (ps := ["self", "top", "bottom"]) (d_Share___init__ T).choose_spec 3 1 (fun z => by cases z) rfl fun T kV doc pm an cdv ct us its l1 l2 => match us, l1, its, l2 with | [_, _, _], _, [_], _ => ⟨_, rfl, rfl⟩
  cases hv
  exact fnR_of (okk_Share___init__ T) hb
theorem sc__law_lowest : FnScope n__law_lowest ["_law_top", "_law_bottom"] (defScope s__law_lowest) := ⟨rfl, rfl, rfl, by decide +kernel, rfl, by decide +kernel, by decide +kernel⟩
theorem ln0__law_lowest (vs : List V) (H : Hp) (Q : VK) (E : XK) (h : sp__law_lowest K vs H Q E) : vs.length = 2 := by
  unfold sp__law_lowest at h
  repeat (first | (exact (congrArg List.length h.1).trans rfl) | (obtain ⟨_, h⟩ := h))
theorem okk__law_lowest (T : Tx K mg w) : FnOk (PySem.Challenge.rw_timerwheels_k01_shares_in_lowest_terms).prog w K mg base CX0 2 (ga K "_law_lowest") (d__law_lowest T).choose ["_law_top", "_law_bottom"] (sp__law_lowest K) :=
  FunD.ok (k := 1) (N := n__law_lowest) (d__law_lowest T).choose_spec sc__law_lowest ln0__law_lowest fun cdv A outer s H vs Q E hr h => ⟨t__law_lowest K w, PSs.nox (pss_cons (ps_par (i := 2) (j := 3) (by rfl) sc__law_lowest.nd rfl rfl (by decide) rfl rfl (pa_cons (pe_callB call_abs (by rfl) (free_abs T) (by decide +kernel) (pa_cons (pv 0) pa_nil)) (pa_cons (pe_callB call_abs (by rfl) (free_abs T) (by decide +kernel) (pa_cons (pv 1) pa_nil)) pa_nil)) (by rfl))
  (pss_cons (ps_while PassesOwn.never (pt_cmpR op_gt (pv 3) pe_int (nomark _))
    (pss_one (ps_par (i := 2) (j := 3) (by rfl) sc__law_lowest.nd rfl rfl (by decide) rfl rfl (pa_cons (pv 3) (pa_cons (pe_op op_mod (pv 2) (pv 3)) pa_nil)) (by rfl))))
  (pss_cons (ps_set (i := 4) sc__law_lowest.nd rfl (Or.inl rfl) (pe_ifExp (pt_cmpR op_gt (pv 1) pe_int (nomark _)) pe_int (pe_un un_neg pe_int)))
  (pss_one (ps_ret (pe_tup (pa_cons (pe_op op_fdivA (pe_op op_mul (pv 4) (pv 0)) (pv 2)) (pa_cons (pe_op op_fdivA (pe_op op_mul (pv 4) (pv 1)) (pv 2)) pa_nil)))))))), rd__law_lowest vs H Q E h⟩
theorem ok__law_lowest (T : Tx K mg w) : FnR (PySem.Challenge.rw_timerwheels_k01_shares_in_lowest_terms).prog w K mg base CX0 2 (ga K "_law_lowest") (sp__law_lowest K) :=
  fnR_of (okk__law_lowest T) ((d__law_lowest T).choose_spec.bindsN fun _ _ _ _ _ _ us hl => match us, hl with | [_, _], _ => rfl)
theorem kp__law_lowest (T : Tx K mg w) : keepIn K (.ref (ga K "_law_lowest")) = true := (d__law_lowest T).choose_spec.kp
theorem sc_Share_top : FnScope n_Share_top ["self"] (defScope s_Share_top) := ⟨rfl, rfl, rfl, by decide +kernel, rfl, by decide +kernel, by decide +kernel⟩
theorem ln0_Share_top (vs : List V) (H : Hp) (Q : VK) (E : XK) (h : sp_Share_top K vs H Q E) : vs.length = 1 := by
  unfold sp_Share_top at h
  repeat (first | (exact (congrArg List.length h.1).trans rfl) | (obtain ⟨_, h⟩ := h))
theorem okk_Share_top (T : Tx K mg w) : FnOk (PySem.Challenge.rw_timerwheels_k01_shares_in_lowest_terms).prog w K mg base CX0 2 (pa K (ga K "Share") "top") (d_Share_top T).choose ["self"] (sp_Share_top K) :=
  FunD.ok (k := 1) (N := n_Share_top) (d_Share_top T).choose_spec sc_Share_top ln0_Share_top fun cdv A outer s H vs Q E hr h => ⟨t_Share_top K w, PSs.nox (pss_one (ps_ret (pe_fld (pv 0) rfl))), rd_Share_top (ks T) vs H Q E h⟩
theorem ok_Share_top (T : Tx K mg w) : FnR (PySem.Challenge.rw_timerwheels_k01_shares_in_lowest_terms).prog w K mg base CX0 2 (pa K (ga K "Share") "top") (sp_Share_top K) :=
  fnR_of (okk_Share_top T) ((d_Share_top T).choose_spec.bindsN fun _ _ _ _ _ _ us hl => match us, hl with | [_], _ => rfl)
theorem sc_Share_bottom : FnScope n_Share_bottom ["self"] (defScope s_Share_bottom) := ⟨rfl, rfl, rfl, by decide +kernel, rfl, by decide +kernel, by decide +kernel⟩
theorem ln0_Share_bottom (vs : List V) (H : Hp) (Q : VK) (E : XK) (h : sp_Share_bottom K vs H Q E) : vs.length = 1 := by
  unfold sp_Share_bottom at h
  repeat (first | (exact (congrArg List.length h.1).trans rfl) | (obtain ⟨_, h⟩ := h))
theorem okk_Share_bottom (T : Tx K mg w) : FnOk (PySem.Challenge.rw_timerwheels_k01_shares_in_lowest_terms).prog w K mg base CX0 2 (pa K (ga K "Share") "bottom") (d_Share_bottom T).choose ["self"] (sp_Share_bottom K) :=
  FunD.ok (k := 1) (N := n_Share_bottom) (d_Share_bottom T).choose_spec sc_Share_bottom ln0_Share_bottom fun cdv A outer s H vs Q E hr h => ⟨t_Share_bottom K w, PSs.nox (pss_one (ps_ret (pe_fld (pv 0) rfl))), rd_Share_bottom (ks T) vs H Q E h⟩
theorem ok_Share_bottom (T : Tx K mg w) : FnR (PySem.Challenge.rw_timerwheels_k01_shares_in_lowest_terms).prog w K mg base CX0 2 (pa K (ga K "Share") "bottom") (sp_Share_bottom K) :=
  fnR_of (okk_Share_bottom T) ((d_Share_bottom T).choose_spec.bindsN fun _ _ _ _ _ _ us hl => match us, hl with | [_], _ => rfl)
theorem sc_Share_text : FnScope n_Share_text ["self"] (defScope s_Share_text) := ⟨rfl, rfl, rfl, by decide +kernel, rfl, by decide +kernel, by decide +kernel⟩
theorem ln0_Share_text (vs : List V) (H : Hp) (Q : VK) (E : XK) (h : sp_Share_text K vs H Q E) : vs.length = 1 := by
  unfold sp_Share_text at h
  repeat (first | (exact (congrArg List.length h.1).trans rfl) | (obtain ⟨_, h⟩ := h))
theorem okk_Share_text (T : Tx K mg w) : FnOk (PySem.Challenge.rw_timerwheels_k01_shares_in_lowest_terms).prog w K mg base CX0 2 (pa K (ga K "Share") "text") (d_Share_text T).choose ["self"] (sp_Share_text K) :=
  FunD.ok (k := 1) (N := n_Share_text) (d_Share_text T).choose_spec sc_Share_text ln0_Share_text fun cdv A outer s H vs Q E hr h => ⟨t_Share_text K w, PSs.nox (pss_cons (ps_if (pt_cmpR op_eq (pe_fld (pv 0) rfl) pe_int (nomark _)) (pss_one (ps_ret (pe_callTy call_str_int (by rfl) (free_str T) (by decide +kernel) (pa_cons (pe_fld (pv 0) rfl) pa_nil)))) pss_nil)
  (pss_one (ps_ret (pe_op op_add_str (pe_op op_add_str (pe_callTy call_str_int (by rfl) (free_str T) (by decide +kernel) (pa_cons (pe_fld (pv 0) rfl) pa_nil)) pe_str) (pe_callTy call_str_int (by rfl) (free_str T) (by decide +kernel) (pa_cons (pe_fld (pv 0) rfl) pa_nil)))))), rd_Share_text (ks T) vs H Q E h⟩
theorem ok_Share_text (T : Tx K mg w) : FnR (PySem.Challenge.rw_timerwheels_k01_shares_in_lowest_terms).prog w K mg base CX0 2 (pa K (ga K "Share") "text") (sp_Share_text K) :=
  fnR_of (okk_Share_text T) ((d_Share_text T).choose_spec.bindsN fun _ _ _ _ _ _ us hl => match us, hl with | [_], _ => rfl)
theorem sc__law_is_share : FnScope n__law_is_share ["_law_found", "_law_top", "_law_bottom"] (defScope s__law_is_share) := ⟨rfl, rfl, rfl, by decide +kernel, rfl, by decide +kernel, by decide +kernel⟩
theorem ln0__law_is_share (vs : List V) (H : Hp) (Q : VK) (E : XK) (h : sp__law_is_share K vs H Q E) : vs.length = 3 := by
  unfold sp__law_is_share at h
  repeat (first | (exact (congrArg List.length h.1).trans rfl) | (obtain ⟨_, h⟩ := h))
theorem okG__law_is_share (T : Tx K mg w) : FnG (PySem.Challenge.rw_timerwheels_k01_shares_in_lowest_terms).prog w K mg base CX0 4 (ga K "_law_is_share") (sp__law_is_share K) := by
  obtain ⟨fd, F⟩ := d__law_is_share T
  exact fnG_of (k := 3) (N := n__law_is_share) F sc__law_is_share (F.bindsN fun _ _ _ _ _ _ us hl => match us, hl with | [_, _, _], _ => rfl) ln0__law_is_share fun cdv A outer s H vs Q E hr h => ⟨t__law_is_share K w, PSs.nox (pss_cons (ps_set (i := 3) sc__law_is_share.nd rfl (Or.inl rfl) (pe_fn (ok__law_lowest T) (hr.rm.mono (by decide)) rfl (glo__law_lowest T) (kp__law_lowest T) pass0 (pa_cons (pv 1) (pa_cons (pv 2) pa_nil))))
  (pss_cons (ps_if (PW.pt (pw_or (pt_not (pt_val (pe_callB call_isi (by rfl) (free_isinstance T) (by decide +kernel) (pa_cons (pv 0) (pa_cons (pe_glob rfl (glo_Share T) rfl) pa_nil))))) (pw_or1 (pt_cmpR op_ne (pe_callB (call_reprG hr) (by rfl) (free_repr T) (by decide +kernel) (pa_cons (pe_tup (pa_cons (pe_propF (pv 0) (cls_Share T) (pr_Share_top T) (ok_Share_top T) (hr.rm.mono (by decide)) pass0 (in_Share_top K)) (pa_cons (pe_propF (pv 0) (cls_Share T) (pr_Share_bottom T) (ok_Share_bottom T) (hr.rm.mono (by decide)) pass0 (in_Share_bottom K)) pa_nil))) pa_nil)) (pe_callB (call_reprG hr) (by rfl) (free_repr T) (by decide +kernel) (pa_cons (pv 3) pa_nil)) (nomark _))))) (pss_one (ps_ret pe_bl)) pss_nil)
  (pss_one (ps_ret (pe_cmpR op_eq (pe_propF (pv 0) (cls_Share T) (pr_Share_text T) (ok_Share_text T) (hr.rm.mono (by decide)) pass0 (in_Share_text K)) (pe_ifExp (pt_cmpR op_eq (pe_ix ix_tupH (pv 3) pe_int (fun _ _ => rfl)) pe_int (nomark _)) (pe_callTy call_str_int (by rfl) (free_str T) (by decide +kernel) (pa_cons (pe_ix ix_tupH (pv 3) pe_int (fun _ _ => rfl)) pa_nil)) (pe_op op_add_str (pe_op op_add_str (pe_callTy call_str_int (by rfl) (free_str T) (by decide +kernel) (pa_cons (pe_ix ix_tupH (pv 3) pe_int (fun _ _ => rfl)) pa_nil)) pe_str) (pe_callTy call_str_int (by rfl) (free_str T) (by decide +kernel) (pa_cons (pe_ix ix_tupH (pv 3) pe_int (fun _ _ => rfl)) pa_nil)))) (nomark _)))))), rd__law_is_share (ks T) vs H Q E h⟩
theorem kp__law_is_share (T : Tx K mg w) : keepIn K (.ref (ga K "_law_is_share")) = true := (d__law_is_share T).choose_spec.kp
theorem sc_share_of : FnScope n_share_of ["number"] (defScope s_share_of) := ⟨rfl, rfl, rfl, by decide +kernel, rfl, by decide +kernel, by decide +kernel⟩
theorem ln0_share_of (vs : List V) (H : Hp) (Q : VK) (E : XK) (h : sp_share_of K vs H Q E) : vs.length = 1 := by
  unfold sp_share_of at h
  repeat (first | (exact (congrArg List.length h.1).trans rfl) | (obtain ⟨_, h⟩ := h))
theorem okk_share_of (T : Tx K mg w) : FnOk (PySem.Challenge.rw_timerwheels_k01_shares_in_lowest_terms).prog w K mg base CX0 6 (ga K "share_of") (d_share_of T).choose ["number"] (sp_share_of K) :=
  FunD.ok (k := 5) (N := n_share_of) (d_share_of T).choose_spec sc_share_of ln0_share_of fun cdv A outer s H vs Q E hr h => ⟨t_share_of K w, PSs.nox (pss_cons (ps_if (pt_val (pe_callB call_isi (by rfl) (free_isinstance T) (by decide +kernel) (pa_cons (pv 0) (pa_cons (pe_glob rfl (glo_Share T) rfl) pa_nil)))) (pss_one (ps_ret (pv 0))) pss_nil)
  (pss_one (ps_ret (pe_make (mk_Share T) (okk_Share___init__ T) (hr.mono (by decide)) rfl (glo_Share T) (bi_Share_1 T).choose_spec.2 (bi_Share_1 T).choose_spec.1 pass0 (pa_cons (pv 0) pa_nil))))), rd_share_of (ks T) vs H Q E h⟩
theorem ok_share_of (T : Tx K mg w) : FnR (PySem.Challenge.rw_timerwheels_k01_shares_in_lowest_terms).prog w K mg base CX0 6 (ga K "share_of") (sp_share_of K) :=
  fnR_of (okk_share_of T) ((d_share_of T).choose_spec.bindsN fun _ _ _ _ _ _ us hl => match us, hl with | [_], _ => rfl)
theorem kp_share_of (T : Tx K mg w) : keepIn K (.ref (ga K "share_of")) = true := (d_share_of T).choose_spec.kp
theorem sc_Share___add__ : FnScope n_Share___add__ ["self", "other"] (defScope s_Share___add__) := ⟨rfl, rfl, rfl, by decide +kernel, rfl, by decide +kernel, by decide +kernel⟩
theorem ln0_Share___add__ (vs : List V) (H : Hp) (Q : VK) (E : XK) (h : sp_Share___add__ K vs H Q E) : vs.length = 2 := by
  unfold sp_Share___add__ at h
  repeat (first | (exact (congrArg List.length h.1).trans rfl) | (obtain ⟨_, h⟩ := h))
theorem okk_Share___add__ (T : Tx K mg w) : FnOk (PySem.Challenge.rw_timerwheels_k01_shares_in_lowest_terms).prog w K mg base CX0 8 (ma K (ga K "Share") "__add__") (d_Share___add__ T).choose ["self", "other"] (sp_Share___add__ K) :=
  FunD.ok (k := 7) (N := n_Share___add__) (d_Share___add__ T).choose_spec sc_Share___add__ ln0_Share___add__ fun cdv A outer s H vs Q E hr h => ⟨t_Share___add__ K w, PSs.nox (pss_cons (ps_if (pt_not (pt_val (pe_callB call_isiT (by rfl) (free_isinstance T) (by decide +kernel) (pa_cons (pv 1) (pa_cons (pe_tup (pa_cons (pe_bltn (v := .ty "int") (by rfl) (free_int T) (by decide +kernel) rfl) (pa_cons (pe_glob rfl (glo_Share T) rfl) pa_nil))) pa_nil))))) (pss_one ps_never) pss_nil)
  (pss_cons (ps_set (i := 2) sc_Share___add__.nd rfl (Or.inl rfl) (pe_fn (ok_share_of T) (hr.mono (by decide)) rfl (glo_share_of T) (kp_share_of T) pass0 (pa_cons (pv 1) pa_nil)))
  (pss_cons (ps_set (i := 3) sc_Share___add__.nd rfl (Or.inl rfl) (pe_op op_add (pe_op op_mulW (pe_fld (pv 0) rfl) (pe_fld (pv 2) rfl)) (pe_op op_mulW (pe_fld (pv 2) rfl) (pe_fld (pv 0) rfl))))
  (pss_one (ps_ret (StX.pe_makeR (mk_Share T) (ok_Share___init__ T) (hr.mono (by decide)) rfl (glo_Share T) pass0 (pa_cons (pv 3) (pa_cons (pe_op op_mulW (pe_fld (pv 0) rfl) (pe_fld (pv 2) rfl)) pa_nil)))))))), rd_Share___add__ (kx T) vs H Q E h⟩
theorem ok_Share___add__ (T : Tx K mg w) : FnR (PySem.Challenge.rw_timerwheels_k01_shares_in_lowest_terms).prog w K mg base CX0 8 (ma K (ga K "Share") "__add__") (sp_Share___add__ K) :=
  fnR_of (okk_Share___add__ T) ((d_Share___add__ T).choose_spec.bindsN fun _ _ _ _ _ _ us hl => match us, hl with | [_, _], _ => rfl)
theorem sc_Share___mul__ : FnScope n_Share___mul__ ["self", "other"] (defScope s_Share___mul__) := ⟨rfl, rfl, rfl, by decide +kernel, rfl, by decide +kernel, by decide +kernel⟩
theorem ln0_Share___mul__ (vs : List V) (H : Hp) (Q : VK) (E : XK) (h : sp_Share___mul__ K vs H Q E) : vs.length = 2 := by
  unfold sp_Share___mul__ at h
  repeat (first | (exact (congrArg List.length h.1).trans rfl) | (obtain ⟨_, h⟩ := h))
theorem okk_Share___mul__ (T : Tx K mg w) : FnOk (PySem.Challenge.rw_timerwheels_k01_shares_in_lowest_terms).prog w K mg base CX0 8 (ma K (ga K "Share") "__mul__") (d_Share___mul__ T).choose ["self", "other"] (sp_Share___mul__ K) :=
  FunD.ok (k := 7) (N := n_Share___mul__) (d_Share___mul__ T).choose_spec sc_Share___mul__ ln0_Share___mul__ fun cdv A outer s H vs Q E hr h => ⟨t_Share___mul__ K w, PSs.nox (pss_cons (ps_if (pt_not (pt_val (pe_callB call_isiT (by rfl) (free_isinstance T) (by decide +kernel) (pa_cons (pv 1) (pa_cons (pe_tup (pa_cons (pe_bltn (v := .ty "int") (by rfl) (free_int T) (by decide +kernel) rfl) (pa_cons (pe_glob rfl (glo_Share T) rfl) pa_nil))) pa_nil))))) (pss_one ps_never) pss_nil)
  (pss_cons (ps_set (i := 2) sc_Share___mul__.nd rfl (Or.inl rfl) (pe_fn (ok_share_of T) (hr.mono (by decide)) rfl (glo_share_of T) (kp_share_of T) pass0 (pa_cons (pv 1) pa_nil)))
  (pss_one (ps_ret (StX.pe_makeR (mk_Share T) (ok_Share___init__ T) (hr.mono (by decide)) rfl (glo_Share T) pass0 (pa_cons (pe_op op_mulW (pe_fld (pv 0) rfl) (pe_fld (pv 2) rfl)) (pa_cons (pe_op op_mulW (pe_fld (pv 0) rfl) (pe_fld (pv 2) rfl)) pa_nil))))))), rd_Share___mul__ (kx T) vs H Q E h⟩
theorem ok_Share___mul__ (T : Tx K mg w) : FnR (PySem.Challenge.rw_timerwheels_k01_shares_in_lowest_terms).prog w K mg base CX0 8 (ma K (ga K "Share") "__mul__") (sp_Share___mul__ K) :=
  fnR_of (okk_Share___mul__ T) ((d_Share___mul__ T).choose_spec.bindsN fun _ _ _ _ _ _ us hl => match us, hl with | [_, _], _ => rfl)
theorem sc_Share___sub__ : FnScope n_Share___sub__ ["self", "other"] (defScope s_Share___sub__) := ⟨rfl, rfl, rfl, by decide +kernel, rfl, by decide +kernel, by decide +kernel⟩
theorem ln0_Share___sub__ (vs : List V) (H : Hp) (Q : VK) (E : XK) (h : sp_Share___sub__ K vs H Q E) : vs.length = 2 := by
  unfold sp_Share___sub__ at h
  repeat (first | (exact (congrArg List.length h.1).trans rfl) | (obtain ⟨_, h⟩ := h))
theorem okk_Share___sub__ (T : Tx K mg w) : FnOk (PySem.Challenge.rw_timerwheels_k01_shares_in_lowest_terms).prog w K mg base CX0 8 (ma K (ga K "Share") "__sub__") (d_Share___sub__ T).choose ["self", "other"] (sp_Share___sub__ K) :=
  FunD.ok (k := 7) (N := n_Share___sub__) (d_Share___sub__ T).choose_spec sc_Share___sub__ ln0_Share___sub__ fun cdv A outer s H vs Q E hr h => ⟨t_Share___sub__ K w, PSs.nox (pss_cons (ps_if (pt_not (pt_val (pe_callB call_isiT (by rfl) (free_isinstance T) (by decide +kernel) (pa_cons (pv 1) (pa_cons (pe_tup (pa_cons (pe_bltn (v := .ty "int") (by rfl) (free_int T) (by decide +kernel) rfl) (pa_cons (pe_glob rfl (glo_Share T) rfl) pa_nil))) pa_nil))))) (pss_one ps_never) pss_nil)
  (pss_cons (ps_set (i := 2) sc_Share___sub__.nd rfl (Or.inl rfl) (pe_fn (ok_share_of T) (hr.mono (by decide)) rfl (glo_share_of T) (kp_share_of T) pass0 (pa_cons (pv 1) pa_nil)))
  (pss_cons (ps_set (i := 3) sc_Share___sub__.nd rfl (Or.inl rfl) (pe_op op_sub (pe_op op_mulW (pe_fld (pv 0) rfl) (pe_fld (pv 2) rfl)) (pe_op op_mulW (pe_fld (pv 2) rfl) (pe_fld (pv 0) rfl))))
  (pss_one (ps_ret (StX.pe_makeR (mk_Share T) (ok_Share___init__ T) (hr.mono (by decide)) rfl (glo_Share T) pass0 (pa_cons (pv 3) (pa_cons (pe_op op_mulW (pe_fld (pv 0) rfl) (pe_fld (pv 2) rfl)) pa_nil)))))))), rd_Share___sub__ (kx T) vs H Q E h⟩
theorem ok_Share___sub__ (T : Tx K mg w) : FnR (PySem.Challenge.rw_timerwheels_k01_shares_in_lowest_terms).prog w K mg base CX0 8 (ma K (ga K "Share") "__sub__") (sp_Share___sub__ K) :=
  fnR_of (okk_Share___sub__ T) ((d_Share___sub__ T).choose_spec.bindsN fun _ _ _ _ _ _ us hl => match us, hl with | [_, _], _ => rfl)
theorem sc_Share___radd__ : FnScope n_Share___radd__ ["self", "other"] (defScope s_Share___radd__) := ⟨rfl, rfl, rfl, by decide +kernel, rfl, by decide +kernel, by decide +kernel⟩
theorem ln0_Share___radd__ (vs : List V) (H : Hp) (Q : VK) (E : XK) (h : sp_Share___radd__ K vs H Q E) : vs.length = 2 := by
  unfold sp_Share___radd__ at h
  repeat (first | (exact (congrArg List.length h.1).trans rfl) | (obtain ⟨_, h⟩ := h))
theorem okk_Share___radd__ (T : Tx K mg w) : FnOk (PySem.Challenge.rw_timerwheels_k01_shares_in_lowest_terms).prog w K mg base CX0 6 (ma K (ga K "Share") "__radd__") (d_Share___radd__ T).choose ["self", "other"] (sp_Share___radd__ K) :=
  FunD.ok (k := 5) (N := n_Share___radd__) (d_Share___radd__ T).choose_spec sc_Share___radd__ ln0_Share___radd__ fun cdv A outer s H vs Q E hr h => ⟨t_Share___radd__ K w, PSs.nox (pss_cons (ps_if (pt_not (pt_val (pe_callB call_isi (by rfl) (free_isinstance T) (by decide +kernel) (pa_cons (pv 1) (pa_cons (pe_bltn (v := .ty "int") (by rfl) (free_int T) (by decide +kernel) rfl) pa_nil))))) (pss_one ps_never) pss_nil)
  (pss_one (ps_ret (StX.pe_makeR (mk_Share T) (ok_Share___init__ T) (hr.mono (by decide)) rfl (glo_Share T) pass0 (pa_cons (pe_op op_add (pe_fld (pv 0) rfl) (pe_op op_mulW (pv 1) (pe_fld (pv 0) rfl))) (pa_cons (pe_fld (pv 0) rfl) pa_nil)))))), rd_Share___radd__ (kx T) vs H Q E h⟩
theorem ok_Share___radd__ (T : Tx K mg w) : FnR (PySem.Challenge.rw_timerwheels_k01_shares_in_lowest_terms).prog w K mg base CX0 6 (ma K (ga K "Share") "__radd__") (sp_Share___radd__ K) :=
  fnR_of (okk_Share___radd__ T) ((d_Share___radd__ T).choose_spec.bindsN fun _ _ _ _ _ _ us hl => match us, hl with | [_, _], _ => rfl)
theorem sc_Share___rsub__ : FnScope n_Share___rsub__ ["self", "other"] (defScope s_Share___rsub__) := ⟨rfl, rfl, rfl, by decide +kernel, rfl, by decide +kernel, by decide +kernel⟩
theorem ln0_Share___rsub__ (vs : List V) (H : Hp) (Q : VK) (E : XK) (h : sp_Share___rsub__ K vs H Q E) : vs.length = 2 := by
  unfold sp_Share___rsub__ at h
  repeat (first | (exact (congrArg List.length h.1).trans rfl) | (obtain ⟨_, h⟩ := h))
theorem okk_Share___rsub__ (T : Tx K mg w) : FnOk (PySem.Challenge.rw_timerwheels_k01_shares_in_lowest_terms).prog w K mg base CX0 6 (ma K (ga K "Share") "__rsub__") (d_Share___rsub__ T).choose ["self", "other"] (sp_Share___rsub__ K) :=
  FunD.ok (k := 5) (N := n_Share___rsub__) (d_Share___rsub__ T).choose_spec sc_Share___rsub__ ln0_Share___rsub__ fun cdv A outer s H vs Q E hr h => ⟨t_Share___rsub__ K w, PSs.nox (pss_cons (ps_if (pt_not (pt_val (pe_callB call_isi (by rfl) (free_isinstance T) (by decide +kernel) (pa_cons (pv 1) (pa_cons (pe_bltn (v := .ty "int") (by rfl) (free_int T) (by decide +kernel) rfl) pa_nil))))) (pss_one ps_never) pss_nil)
  (pss_one (ps_ret (StX.pe_makeR (mk_Share T) (ok_Share___init__ T) (hr.mono (by decide)) rfl (glo_Share T) pass0 (pa_cons (pe_op op_sub (pe_op op_mulW (pv 1) (pe_fld (pv 0) rfl)) (pe_fld (pv 0) rfl)) (pa_cons (pe_fld (pv 0) rfl) pa_nil)))))), rd_Share___rsub__ (kx T) vs H Q E h⟩
theorem ok_Share___rsub__ (T : Tx K mg w) : FnR (PySem.Challenge.rw_timerwheels_k01_shares_in_lowest_terms).prog w K mg base CX0 6 (ma K (ga K "Share") "__rsub__") (sp_Share___rsub__ K) :=
  fnR_of (okk_Share___rsub__ T) ((d_Share___rsub__ T).choose_spec.bindsN fun _ _ _ _ _ _ us hl => match us, hl with | [_, _], _ => rfl)
theorem sc_Share___rmul__ : FnScope n_Share___rmul__ ["self", "other"] (defScope s_Share___rmul__) := ⟨rfl, rfl, rfl, by decide +kernel, rfl, by decide +kernel, by decide +kernel⟩
theorem ln0_Share___rmul__ (vs : List V) (H : Hp) (Q : VK) (E : XK) (h : sp_Share___rmul__ K vs H Q E) : vs.length = 2 := by
  unfold sp_Share___rmul__ at h
  repeat (first | (exact (congrArg List.length h.1).trans rfl) | (obtain ⟨_, h⟩ := h))
theorem okk_Share___rmul__ (T : Tx K mg w) : FnOk (PySem.Challenge.rw_timerwheels_k01_shares_in_lowest_terms).prog w K mg base CX0 6 (ma K (ga K "Share") "__rmul__") (d_Share___rmul__ T).choose ["self", "other"] (sp_Share___rmul__ K) :=
  FunD.ok (k := 5) (N := n_Share___rmul__) (d_Share___rmul__ T).choose_spec sc_Share___rmul__ ln0_Share___rmul__ fun cdv A outer s H vs Q E hr h => ⟨t_Share___rmul__ K w, PSs.nox (pss_cons (ps_if (pt_not (pt_val (pe_callB call_isi (by rfl) (free_isinstance T) (by decide +kernel) (pa_cons (pv 1) (pa_cons (pe_bltn (v := .ty "int") (by rfl) (free_int T) (by decide +kernel) rfl) pa_nil))))) (pss_one ps_never) pss_nil)
  (pss_one (ps_ret (StX.pe_makeR (mk_Share T) (ok_Share___init__ T) (hr.mono (by decide)) rfl (glo_Share T) pass0 (pa_cons (pe_op op_mulW (pe_fld (pv 0) rfl) (pv 1)) (pa_cons (pe_fld (pv 0) rfl) pa_nil)))))), rd_Share___rmul__ (kx T) vs H Q E h⟩
theorem ok_Share___rmul__ (T : Tx K mg w) : FnR (PySem.Challenge.rw_timerwheels_k01_shares_in_lowest_terms).prog w K mg base CX0 6 (ma K (ga K "Share") "__rmul__") (sp_Share___rmul__ K) :=
  fnR_of (okk_Share___rmul__ T) ((d_Share___rmul__ T).choose_spec.bindsN fun _ _ _ _ _ _ us hl => match us, hl with | [_, _], _ => rfl)
theorem sc_is_integerA : FnScope n_is_integerA ["value"] (defScope s_is_integer) := ⟨rfl, rfl, rfl, by decide +kernel, rfl, by decide +kernel, by decide +kernel⟩
theorem ln0_is_integerA (vs : List V) (H : Hp) (Q : VK) (E : XK) (h : sp_is_integerA K vs H Q E) : vs.length = 1 := by
  unfold sp_is_integerA at h
  repeat (first | (exact (congrArg List.length h.1).trans rfl) | (obtain ⟨_, h⟩ := h))
theorem okk_is_integerA (T : Tx K mg w) : FnOk (PySem.Challenge.rw_timerwheels_k01_shares_in_lowest_terms).prog w K mg base CX0 2 (ga K "is_integer") (d_is_integer T).choose ["value"] (sp_is_integerA K) :=
  FunD.ok (k := 1) (N := n_is_integerA) (d_is_integer T).choose_spec sc_is_integerA ln0_is_integerA fun cdv A outer s H vs Q E hr h => ⟨t_is_integerA K w, PSs.nox (pss_one (ps_ret (pe_and (pe_callB call_isi (by rfl) (free_isinstance T) (by decide +kernel) (pa_cons (pv 0) (pa_cons (pe_bltn (v := .ty "int") (by rfl) (free_int T) (by decide +kernel) rfl) pa_nil))) (pe_one (pe_not (pe_callB call_isi (by rfl) (free_isinstance T) (by decide +kernel) (pa_cons (pv 0) (pa_cons (pe_bltn (v := .ty "bool") (by rfl) (free_bool T) (by decide +kernel) rfl) pa_nil)))))))), rd_is_integerA vs H Q E h⟩
theorem ok_is_integerA (T : Tx K mg w) : FnR (PySem.Challenge.rw_timerwheels_k01_shares_in_lowest_terms).prog w K mg base CX0 2 (ga K "is_integer") (sp_is_integerA K) :=
  fnR_of (okk_is_integerA T) ((d_is_integer T).choose_spec.bindsN fun _ _ _ _ _ _ us hl => match us, hl with | [_], _ => rfl)
theorem sc_is_numberR : FnScope n_is_numberR ["value"] (defScope s_is_number) := ⟨rfl, rfl, rfl, by decide +kernel, rfl, by decide +kernel, by decide +kernel⟩
theorem ln0_is_numberR (vs : List V) (H : Hp) (Q : VK) (E : XK) (h : sp_is_numberR K vs H Q E) : vs.length = 1 := by
  unfold sp_is_numberR at h
  repeat (first | (exact (congrArg List.length h.1).trans rfl) | (obtain ⟨_, h⟩ := h))
theorem okk_is_numberR (T : Tx K mg w) : FnOk (PySem.Challenge.rw_timerwheels_k01_shares_in_lowest_terms).prog w K mg base CX0 4 (ga K "is_number") (d_is_number T).choose ["value"] (sp_is_numberR K) :=
  FunD.ok (k := 3) (N := n_is_numberR) (d_is_number T).choose_spec sc_is_numberR ln0_is_numberR fun cdv A outer s H vs Q E hr h => ⟨t_is_numberR K w, PSs.nox (pss_one (ps_ret (pe_or (pe_fn (ok_is_integerA T) (hr.mono (by decide)) rfl (glo_is_integer T) (kp_is_integer T) pass0 (pa_cons (pv 0) pa_nil)) (pe_one (pe_callB call_isi (by rfl) (free_isinstance T) (by decide +kernel) (pa_cons (pv 0) (pa_cons (pe_glob rfl (glo_Share T) rfl) pa_nil))))))), rd_is_numberR (kx T) vs H Q E h⟩
theorem ok_is_numberR (T : Tx K mg w) : FnR (PySem.Challenge.rw_timerwheels_k01_shares_in_lowest_terms).prog w K mg base CX0 4 (ga K "is_number") (sp_is_numberR K) :=
  fnR_of (okk_is_numberR T) ((d_is_number T).choose_spec.bindsN fun _ _ _ _ _ _ us hl => match us, hl with | [_], _ => rfl)
theorem kp_is_number (T : Tx K mg w) : keepIn K (.ref (ga K "is_number")) = true := (d_is_number T).choose_spec.kp
theorem sc_Share___init__R : FnScope n_Share___init__R ["self", "top", "bottom"] (defScope s_Share___init__) := ⟨rfl, rfl, rfl, by decide +kernel, rfl, by decide +kernel, by decide +kernel⟩
theorem ln0_Share___init__R (vs : List V) (H : Hp) (Q : VK) (E : XK) (h : sp_Share___init__R K vs H Q E) : vs.length = 3 := by
  unfold sp_Share___init__R at h
  repeat (first | (exact (congrArg List.length h.1).trans rfl) | (obtain ⟨_, h⟩ := h))
theorem okk_Share___init__R (T : Tx K mg w) : FnOk (PySem.Challenge.rw_timerwheels_k01_shares_in_lowest_terms).prog w K mg base (L2.CX (PySem.Challenge.rw_timerwheels_k01_shares_in_lowest_terms).prog w) 5 (ma K (ga K "Share") "__init__") (d_Share___init__ T).choose ["self", "top", "bottom"] (sp_Share___init__R K) :=
  FunD.ok (k := 4) (N := n_Share___init__R) (d_Share___init__ T).choose_spec sc_Share___init__R ln0_Share___init__R fun cdv A outer s H vs Q E hr h => ⟨t_Share___init__R K w E, (pss_cons (ps_if (pt_not (pt_val (pe_fn (ok_is_integerA T) (hr.mono (by decide)) rfl (glo_is_integer T) (kp_is_integer T) pass0 (pa_cons (pv 1) pa_nil)))) (pss_one (ps_raise rfl (takes_of rfl rfl rfl rfl) (pmk_err (pv 1) (er_InvalidNumber T).oex (er_InvalidNumber T).ini (er_InvalidNumber T).tfn (okE_InvalidNumber (CX := C8.CX0) T).choose_spec.1 (hr.mono (by decide)) (okE_InvalidNumber (CX := C8.CX0) T).choose_spec.2 (fun _ _ _ _ _ _ _ z => z.elim) rfl (glo_InvalidNumber T)))) pss_nil)
  (pss_cons (ps_if (PW.pt (pw_or (pt_not (pt_val (pe_fn (ok_is_integerA T) (hr.mono (by decide)) rfl (glo_is_integer T) (kp_is_integer T) pass0 (pa_cons (pv 2) pa_nil)))) (pw_or1 (pt_cmpR op_eq (pv 2) pe_int (nomark _))))) (pss_one (ps_raise rfl (takes_of rfl rfl rfl rfl) (pmk_err (pv 2) (er_InvalidNumber T).oex (er_InvalidNumber T).ini (er_InvalidNumber T).tfn (okE_InvalidNumber (CX := C8.CX0) T).choose_spec.1 (hr.mono (by decide)) (okE_InvalidNumber (CX := C8.CX0) T).choose_spec.2 (fun _ _ _ _ _ _ _ z => z.elim) rfl (glo_InvalidNumber T)))) pss_nil)
  (pss_cons (ps_set (i := 3) sc_Share___init__R.nd rfl (Or.inl rfl) (pe_fn (ok_common_divisor T) (hr.mono (by decide)) rfl (glo_common_divisor T) (kp_common_divisor T) pass0 (pa_cons (pv 1) (pa_cons (pe_callB call_abs (by rfl) (free_abs T) (by decide +kernel) (pa_cons (pv 2) pa_nil)) pa_nil))))
  (pss_cons (ps_if (pt_cmpR op_lt (pv 2) pe_int (nomark _)) (pss_one (ps_set (i := 3) sc_Share___init__R.nd rfl (Or.inl rfl) (pe_un un_neg (pv 3)))) pss_nil)
  (pss_cons (ps_fld (pv 0) (pe_op op_fdiv (pv 1) (pv 3)) rfl)
  (pss_one (ps_fld (pv 0) (pe_op op_fdiv (pv 2) (pv 3)) rfl))))))), rd_Share___init__R vs H Q E h⟩
theorem ok_Share___init__R (T : Tx K mg w) : FnR (PySem.Challenge.rw_timerwheels_k01_shares_in_lowest_terms).prog w K mg base (L2.CX (PySem.Challenge.rw_timerwheels_k01_shares_in_lowest_terms).prog w) 5 (ma K (ga K "Share") "__init__") (sp_Share___init__R K) := by
  obtain ⟨ds, hv, hb⟩ := FunD.binds1 (ps := ["self", "top", "bottom"]) (d_Share___init__ T).choose_spec 3 1 (fun z => by cases z) rfl fun T kV doc pm an cdv ct us its l1 l2 => match us, l1, its, l2 with | [_, _, _], _, [_], _ => ⟨_, rfl, rfl⟩
  cases hv
  exact fnR_of (okk_Share___init__R T) hb
theorem sc_Share_overR : FnScope n_Share_overR ["self", "other"] (defScope s_Share_over) := ⟨rfl, rfl, rfl, by decide +kernel, rfl, by decide +kernel, by decide +kernel⟩
theorem ln0_Share_overR (vs : List V) (H : Hp) (Q : VK) (E : XK) (h : sp_Share_overR K vs H Q E) : vs.length = 2 := by
  unfold sp_Share_overR at h
  repeat (first | (exact (congrArg List.length h.1).trans rfl) | (obtain ⟨_, h⟩ := h))
theorem okk_Share_overR (T : Tx K mg w) : FnOk (PySem.Challenge.rw_timerwheels_k01_shares_in_lowest_terms).prog w K mg base (L2.CX (PySem.Challenge.rw_timerwheels_k01_shares_in_lowest_terms).prog w) 8 (ma K (ga K "Share") "over") (d_Share_over T).choose ["self", "other"] (sp_Share_overR K) :=
  FunD.ok (k := 7) (N := n_Share_overR) (d_Share_over T).choose_spec sc_Share_overR ln0_Share_overR fun cdv A outer s H vs Q E hr h => ⟨t_Share_overR K w E, (pss_cons (ps_if (pt_not (pt_val (pe_fn (ok_is_numberR T) (hr.mono (by decide)) rfl (glo_is_number T) (kp_is_number T) pass0 (pa_cons (pv 1) pa_nil)))) (pss_one (ps_raise rfl (takes_of rfl rfl rfl rfl) (pmk_err (pv 1) (er_InvalidNumber T).oex (er_InvalidNumber T).ini (er_InvalidNumber T).tfn (okE_InvalidNumber (CX := C8.CX0) T).choose_spec.1 (hr.mono (by decide)) (okE_InvalidNumber (CX := C8.CX0) T).choose_spec.2 (fun _ _ _ _ _ _ _ z => z.elim) rfl (glo_InvalidNumber T)))) pss_nil)
  (pss_cons (ps_set (i := 2) sc_Share_overR.nd rfl (Or.inl rfl) (pe_fn (ok_share_of T) (hr.mono (by decide)) rfl (glo_share_of T) (kp_share_of T) pass0 (pa_cons (pv 1) pa_nil)))
  (pss_cons (ps_if (pt_cmpR op_eq (pe_fld (pv 2) rfl) pe_int (nomark _)) (pss_one (ps_raise rfl (takes_of rfl rfl rfl rfl) (pmk_err (pv 1) (er_InvalidNumber T).oex (er_InvalidNumber T).ini (er_InvalidNumber T).tfn (okE_InvalidNumber (CX := C8.CX0) T).choose_spec.1 (hr.mono (by decide)) (okE_InvalidNumber (CX := C8.CX0) T).choose_spec.2 (fun _ _ _ _ _ _ _ z => z.elim) rfl (glo_InvalidNumber T)))) pss_nil)
  (pss_one (ps_ret (StX.pe_makeR (mk_Share T) (ok_Share___init__R T) (hr.mono (by decide)) rfl (glo_Share T) (passes_call (takes_of rfl rfl rfl rfl) fun _ _ _ _ z => z) (pa_cons (pe_op op_mul (pe_fld (pv 0) rfl) (pe_fld (pv 2) rfl)) (pa_cons (pe_op op_mul (pe_fld (pv 0) rfl) (pe_fld (pv 2) rfl)) pa_nil)))))))), rd_Share_overR (kx T) vs H Q E h⟩
theorem ok_Share_overR (T : Tx K mg w) : FnR (PySem.Challenge.rw_timerwheels_k01_shares_in_lowest_terms).prog w K mg base (L2.CX (PySem.Challenge.rw_timerwheels_k01_shares_in_lowest_terms).prog w) 8 (ma K (ga K "Share") "over") (sp_Share_overR K) :=
  fnR_of (okk_Share_overR T) ((d_Share_over T).choose_spec.bindsN fun _ _ _ _ _ _ us hl => match us, hl with | [_, _], _ => rfl)
theorem sc_is_number : FnScope n_is_number ["value"] (defScope s_is_number) := ⟨rfl, rfl, rfl, by decide +kernel, rfl, by decide +kernel, by decide +kernel⟩
theorem ln0_is_number (vs : List V) (H : Hp) (Q : VK) (E : XK) (h : sp_is_number K vs H Q E) : vs.length = 1 := by
  unfold sp_is_number at h
  repeat (first | (exact (congrArg List.length h.1).trans rfl) | (obtain ⟨_, h⟩ := h))
theorem okk_is_number (T : Tx K mg w) : FnOk (PySem.Challenge.rw_timerwheels_k01_shares_in_lowest_terms).prog w K mg base CX0 4 (ga K "is_number") (d_is_number T).choose ["value"] (sp_is_number K) :=
  FunD.ok (k := 3) (N := n_is_number) (d_is_number T).choose_spec sc_is_number ln0_is_number fun cdv A outer s H vs Q E hr h => ⟨t_is_number K w, PSs.nox (pss_one (ps_ret (pe_or (pe_fn (ok_is_integerS T) (hr.mono (by decide)) rfl (glo_is_integer T) (kp_is_integer T) pass0 (pa_cons (pv 0) pa_nil)) (pe_one (pe_callB call_isi (by rfl) (free_isinstance T) (by decide +kernel) (pa_cons (pv 0) (pa_cons (pe_glob rfl (glo_Share T) rfl) pa_nil))))))), rd_is_number (ks T) vs H Q E h⟩
theorem ok_is_number (T : Tx K mg w) : FnR (PySem.Challenge.rw_timerwheels_k01_shares_in_lowest_terms).prog w K mg base CX0 4 (ga K "is_number") (sp_is_number K) :=
  fnR_of (okk_is_number T) ((d_is_number T).choose_spec.bindsN fun _ _ _ _ _ _ us hl => match us, hl with | [_], _ => rfl)
theorem sc_Share_over : FnScope n_Share_over ["self", "other"] (defScope s_Share_over) := ⟨rfl, rfl, rfl, by decide +kernel, rfl, by decide +kernel, by decide +kernel⟩
theorem ln0_Share_over (vs : List V) (H : Hp) (Q : VK) (E : XK) (h : sp_Share_over K vs H Q E) : vs.length = 2 := by
  unfold sp_Share_over at h
  repeat (first | (exact (congrArg List.length h.1).trans rfl) | (obtain ⟨_, h⟩ := h))
theorem okk_Share_over (T : Tx K mg w) : FnOk (PySem.Challenge.rw_timerwheels_k01_shares_in_lowest_terms).prog w K mg base CX0 8 (ma K (ga K "Share") "over") (d_Share_over T).choose ["self", "other"] (sp_Share_over K) :=
  FunD.ok (k := 7) (N := n_Share_over) (d_Share_over T).choose_spec sc_Share_over ln0_Share_over fun cdv A outer s H vs Q E hr h => ⟨t_Share_over K w, PSs.nox (pss_cons (ps_if (pt_not (pt_val (pe_fn (ok_is_number T) (hr.mono (by decide)) rfl (glo_is_number T) (kp_is_number T) pass0 (pa_cons (pv 1) pa_nil)))) (pss_one ps_never) pss_nil)
  (pss_cons (ps_set (i := 2) sc_Share_over.nd rfl (Or.inl rfl) (pe_fn (ok_share_of T) (hr.mono (by decide)) rfl (glo_share_of T) (kp_share_of T) pass0 (pa_cons (pv 1) pa_nil)))
  (pss_cons (ps_if (pt_cmpR op_eq (pe_fld (pv 2) rfl) pe_int (nomark _)) (pss_one ps_never) pss_nil)
  (pss_one (ps_ret (StX.pe_makeR (mk_Share T) (ok_Share___init__ T) (hr.mono (by decide)) rfl (glo_Share T) pass0 (pa_cons (pe_op op_mulW (pe_fld (pv 0) rfl) (pe_fld (pv 2) rfl)) (pa_cons (pe_op op_mulW (pe_fld (pv 0) rfl) (pe_fld (pv 2) rfl)) pa_nil)))))))), rd_Share_over (kx T) vs H Q E h⟩
theorem ok_Share_over (T : Tx K mg w) : FnR (PySem.Challenge.rw_timerwheels_k01_shares_in_lowest_terms).prog w K mg base CX0 8 (ma K (ga K "Share") "over") (sp_Share_over K) :=
  fnR_of (okk_Share_over T) ((d_Share_over T).choose_spec.bindsN fun _ _ _ _ _ _ us hl => match us, hl with | [_, _], _ => rfl)
theorem sc__law_with_integer : FnScope n__law_with_integer ["_law_a", "_law_b", "_law_share", "_law_number"] (defScope s__law_with_integer) := ⟨rfl, rfl, rfl, by decide +kernel, rfl, by decide +kernel, by decide +kernel⟩
theorem ln0__law_with_integer (vs : List V) (H : Hp) (Q : VK) (E : XK) (h : sp__law_with_integer K vs H Q E) : vs.length = 4 := by
  unfold sp__law_with_integer at h
  repeat (first | (exact (congrArg List.length h.1).trans rfl) | (obtain ⟨_, h⟩ := h))
theorem okG__law_with_integer (T : Tx K mg w) (tb : TBs K mg base) : FnG (PySem.Challenge.rw_timerwheels_k01_shares_in_lowest_terms).prog w K mg base CX0 14 (ga K "_law_with_integer") (sp__law_with_integer K) := by
  obtain ⟨fd, F⟩ := d__law_with_integer T
  exact fnG_ofC (k := 13) (N := n__law_with_integer) F sc__law_with_integer (F.bindsN fun _ _ _ _ _ _ us hl => match us, hl with | [_, _, _, _], _ => rfl) ln0__law_with_integer fun cdv A outer s H vs Q E hcv hr h => by
    subst hcv
    exact ⟨t__law_with_integer K w, PSs.nox (pss_cons (ps_if (PW.pt (pw_or (pt_not (pt_val (pe_fnG (okG__law_is_share T) (hr.mono (by decide)) rfl (glo__law_is_share T) (kp__law_is_share T) pass0 (pa_cons (pe_op (op_binI (sf_Share T) (me_Share___add__ T).at_ (fq_Share___add__ T).1 (me_Share___radd__ T).at_ (.inr ⟨_, rfl⟩) (fi_add T) (fi_radd T) (si_Share T) (ok_Share___add__ T) (hr.rm.mono (by decide)) pass0) (pv 2) (pv 3)) (pa_cons (pe_op op_add (pv 0) (pe_op op_mulW (pv 3) (pv 1))) (pa_cons (pv 1) pa_nil)))))) (pw_or1 (pt_not (pt_val (pe_fnG (okG__law_is_share T) (hr.mono (by decide)) rfl (glo__law_is_share T) (kp__law_is_share T) pass0 (pa_cons (pe_op (op_binR (sf_Share T) (me_Share___add__ T).at_ (me_Share___radd__ T).at_ (fq_Share___radd__ T).1 (sI_Share T) PySem.F.fills_int_add PySem.F.slot_int_add PySem.F.entry_int_add GB.args_add (fun _ _ _ _ _ => GB.g_add) (ok_Share___radd__ T) (hr.rm.mono (by decide)) pass0) (pv 3) (pv 2)) (pa_cons (pe_op op_add (pv 0) (pe_op op_mulW (pv 3) (pv 1))) (pa_cons (pv 1) pa_nil))))))))) (pss_one (ps_ret pe_bl)) pss_nil)
  (pss_cons (ps_if (PW.pt (pw_or (pt_not (pt_val (pe_fnG (okG__law_is_share T) (hr.mono (by decide)) rfl (glo__law_is_share T) (kp__law_is_share T) pass0 (pa_cons (pe_op (op_binI (sf_Share T) (me_Share___sub__ T).at_ (fq_Share___sub__ T).1 (me_Share___rsub__ T).at_ (.inr ⟨_, rfl⟩) (fi_sub T) (fi_rsub T) (si_Share T) (ok_Share___sub__ T) (hr.rm.mono (by decide)) pass0) (pv 2) (pv 3)) (pa_cons (pe_op op_sub (pv 0) (pe_op op_mulW (pv 3) (pv 1))) (pa_cons (pv 1) pa_nil)))))) (pw_or1 (pt_not (pt_val (pe_fnG (okG__law_is_share T) (hr.mono (by decide)) rfl (glo__law_is_share T) (kp__law_is_share T) pass0 (pa_cons (pe_op (op_binR (sf_Share T) (me_Share___sub__ T).at_ (me_Share___rsub__ T).at_ (fq_Share___rsub__ T).1 (sI_Share T) PySem.F.fills_int_sub PySem.F.slot_int_sub PySem.F.entry_int_sub GB.args_sub (fun _ _ _ _ _ => GB.g_sub) (ok_Share___rsub__ T) (hr.rm.mono (by decide)) pass0) (pv 3) (pv 2)) (pa_cons (pe_op op_sub (pe_op op_mulW (pv 3) (pv 1)) (pv 0)) (pa_cons (pv 1) pa_nil))))))))) (pss_one (ps_ret pe_bl)) pss_nil)
  (pss_cons (ps_if (PW.pt (pw_or (pt_not (pt_val (pe_fnG (okG__law_is_share T) (hr.mono (by decide)) rfl (glo__law_is_share T) (kp__law_is_share T) pass0 (pa_cons (pe_op (op_binI (sf_Share T) (me_Share___mul__ T).at_ (fq_Share___mul__ T).1 (me_Share___rmul__ T).at_ (.inr ⟨_, rfl⟩) (fi_mul T) (fi_rmul T) (si_Share T) (ok_Share___mul__ T) (hr.rm.mono (by decide)) pass0) (pv 2) (pv 3)) (pa_cons (pe_op op_mulW (pv 0) (pv 3)) (pa_cons (pv 1) pa_nil)))))) (pw_or1 (pt_not (pt_val (pe_fnG (okG__law_is_share T) (hr.mono (by decide)) rfl (glo__law_is_share T) (kp__law_is_share T) pass0 (pa_cons (pe_op (op_binR (sf_Share T) (me_Share___mul__ T).at_ (me_Share___rmul__ T).at_ (fq_Share___rmul__ T).1 (sI_Share T) PySem.F.fills_int_mul PySem.F.slot_int_mul PySem.F.entry_int_mul GB.args_mul (fun _ _ _ _ _ => GB.g_mul) (ok_Share___rmul__ T) (hr.rm.mono (by decide)) pass0) (pv 3) (pv 2)) (pa_cons (pe_op op_mulW (pv 0) (pv 3)) (pa_cons (pv 1) pa_nil))))))))) (pss_one (ps_ret pe_bl)) pss_nil)
  (pss_cons (ps_if (pt_cmpR op_eq (pv 3) pe_int (nomark _)) (pss_one (ps_ret (pe_cmpR (op_eqD (ul hr.rm)) (pe_caughtT (TT := TCg K) (t := fun E => (tMethR (ga K "Share") "over" (sp_Share_overR K) E (tVar 2) (tCons (tVar 3) tNil))) (k := 10) (d__law_caught T).choose_spec (fun _ _ _ _ _ _ us hl => match us, hl with | [_], _ => rfl) sc__law_caught rfl (Or.inl rfl) rfl (glo__law_caught T) (fun cdg => cg T (hr.mono (by decide)) _ cdg) tb._law_with_integer (TBs.mem__law_with_integer T) (TBs.one__law_with_integer T) rfl (hr.rm.mono (by decide)) (lamS_by (sc := defScope s__law_with_integer) (by decide +kernel)) rfl (fun _ _ _ _ _ => rfl) (fun A outer s H E f c2 hrl => (pe_methR (pe_var (i := 2) rfl (Or.inr (Or.inr rfl))) (cls_Share T) (me_Share_over T) (ok_Share_overR T) (hrl.mono (by decide)) (passes_call (takes_of rfl rfl rfl rfl) fun _ _ _ _ z => z) (pa_cons (pe_var (i := 3) rfl (Or.inr (Or.inr rfl))) pa_nil)))) (pe_lst (pa_cons pe_str (pa_cons pe_str pa_nil))) (nomark _)))) pss_nil)
  (pss_one (ps_ret (pe_fnG (okG__law_is_share T) (hr.mono (by decide)) rfl (glo__law_is_share T) (kp__law_is_share T) pass0 (pa_cons (pe_methR (pv 2) (cls_Share T) (me_Share_over T) (ok_Share_over T) (hr.rm.mono (by decide)) pass0 (pa_cons (pv 3) pa_nil)) (pa_cons (pv 0) (pa_cons (pe_op op_mulW (pv 1) (pv 3)) pa_nil)))))))))), rd__law_with_integer (by intro q hq; simp only [List.mem_cons, List.not_mem_nil, or_false] at hq; rcases hq with rfl; exact kec_InvalidNumber T) vs H Q E h⟩
theorem kp__law_with_integer (T : Tx K mg w) : keepIn K (.ref (ga K "_law_with_integer")) = true := (d__law_with_integer T).choose_spec.kp
theorem sc_Share___neg__ : FnScope n_Share___neg__ ["self"] (defScope s_Share___neg__) := ⟨rfl, rfl, rfl, by decide +kernel, rfl, by decide +kernel, by decide +kernel⟩
theorem ln0_Share___neg__ (vs : List V) (H : Hp) (Q : VK) (E : XK) (h : sp_Share___neg__ K vs H Q E) : vs.length = 1 := by
  unfold sp_Share___neg__ at h
  repeat (first | (exact (congrArg List.length h.1).trans rfl) | (obtain ⟨_, h⟩ := h))
theorem okk_Share___neg__ (T : Tx K mg w) : FnOk (PySem.Challenge.rw_timerwheels_k01_shares_in_lowest_terms).prog w K mg base CX0 6 (ma K (ga K "Share") "__neg__") (d_Share___neg__ T).choose ["self"] (sp_Share___neg__ K) :=
  FunD.ok (k := 5) (N := n_Share___neg__) (d_Share___neg__ T).choose_spec sc_Share___neg__ ln0_Share___neg__ fun cdv A outer s H vs Q E hr h => ⟨t_Share___neg__ K w, PSs.nox (pss_one (ps_ret (StX.pe_makeR (mk_Share T) (ok_Share___init__ T) (hr.mono (by decide)) rfl (glo_Share T) pass0 (pa_cons (pe_un un_neg (pe_fld (pv 0) rfl)) (pa_cons (pe_fld (pv 0) rfl) pa_nil))))), rd_Share___neg__ (kx T) vs H Q E h⟩
theorem ok_Share___neg__ (T : Tx K mg w) : FnR (PySem.Challenge.rw_timerwheels_k01_shares_in_lowest_terms).prog w K mg base CX0 6 (ma K (ga K "Share") "__neg__") (sp_Share___neg__ K) :=
  fnR_of (okk_Share___neg__ T) ((d_Share___neg__ T).choose_spec.bindsN fun _ _ _ _ _ _ us hl => match us, hl with | [_], _ => rfl)
theorem sc_Share___abs__ : FnScope n_Share___abs__ ["self"] (defScope s_Share___abs__) := ⟨rfl, rfl, rfl, by decide +kernel, rfl, by decide +kernel, by decide +kernel⟩
theorem ln0_Share___abs__ (vs : List V) (H : Hp) (Q : VK) (E : XK) (h : sp_Share___abs__ K vs H Q E) : vs.length = 1 := by
  unfold sp_Share___abs__ at h
  repeat (first | (exact (congrArg List.length h.1).trans rfl) | (obtain ⟨_, h⟩ := h))
theorem okk_Share___abs__ (T : Tx K mg w) : FnOk (PySem.Challenge.rw_timerwheels_k01_shares_in_lowest_terms).prog w K mg base CX0 6 (ma K (ga K "Share") "__abs__") (d_Share___abs__ T).choose ["self"] (sp_Share___abs__ K) :=
  FunD.ok (k := 5) (N := n_Share___abs__) (d_Share___abs__ T).choose_spec sc_Share___abs__ ln0_Share___abs__ fun cdv A outer s H vs Q E hr h => ⟨t_Share___abs__ K w, PSs.nox (pss_one (ps_ret (StX.pe_makeR (mk_Share T) (ok_Share___init__ T) (hr.mono (by decide)) rfl (glo_Share T) pass0 (pa_cons (pe_callB call_abs (by rfl) (free_abs T) (by decide +kernel) (pa_cons (pe_fld (pv 0) rfl) pa_nil)) (pa_cons (pe_fld (pv 0) rfl) pa_nil))))), rd_Share___abs__ (kx T) vs H Q E h⟩
theorem ok_Share___abs__ (T : Tx K mg w) : FnR (PySem.Challenge.rw_timerwheels_k01_shares_in_lowest_terms).prog w K mg base CX0 6 (ma K (ga K "Share") "__abs__") (sp_Share___abs__ K) :=
  fnR_of (okk_Share___abs__ T) ((d_Share___abs__ T).choose_spec.bindsN fun _ _ _ _ _ _ us hl => match us, hl with | [_], _ => rfl)
theorem sc_Share___eq__ : FnScope n_Share___eq__ ["self", "other"] (defScope s_Share___eq__) := ⟨rfl, rfl, rfl, by decide +kernel, rfl, by decide +kernel, by decide +kernel⟩
theorem ln0_Share___eq__ (vs : List V) (H : Hp) (Q : VK) (E : XK) (h : sp_Share___eq__ K vs H Q E) : vs.length = 2 := by
  unfold sp_Share___eq__ at h
  repeat (first | (exact (congrArg List.length h.1).trans rfl) | (obtain ⟨_, h⟩ := h))
theorem okk_Share___eq__ (T : Tx K mg w) : FnOk (PySem.Challenge.rw_timerwheels_k01_shares_in_lowest_terms).prog w K mg base CX0 8 (ma K (ga K "Share") "__eq__") (d_Share___eq__ T).choose ["self", "other"] (sp_Share___eq__ K) :=
  FunD.ok (k := 7) (N := n_Share___eq__) (d_Share___eq__ T).choose_spec sc_Share___eq__ ln0_Share___eq__ fun cdv A outer s H vs Q E hr h => ⟨t_Share___eq__ K w, PSs.nox (pss_cons (ps_if (pt_not (pt_val (pe_fn (ok_is_number T) (hr.mono (by decide)) rfl (glo_is_number T) (kp_is_number T) pass0 (pa_cons (pv 1) pa_nil)))) (pss_one (ps_ret pe_bl)) pss_nil)
  (pss_cons (ps_set (i := 2) sc_Share___eq__.nd rfl (Or.inl rfl) (pe_fn (ok_share_of T) (hr.mono (by decide)) rfl (glo_share_of T) (kp_share_of T) pass0 (pa_cons (pv 1) pa_nil)))
  (pss_one (ps_ret (pe_and (pe_cmpR op_eq (pe_fld (pv 0) rfl) (pe_fld (pv 2) rfl) (nomark _)) (pe_one (pe_cmpR op_eq (pe_fld (pv 0) rfl) (pe_fld (pv 2) rfl) (nomark _)))))))), rd_Share___eq__ (ks T) vs H Q E h⟩
theorem ok_Share___eq__ (T : Tx K mg w) : FnR (PySem.Challenge.rw_timerwheels_k01_shares_in_lowest_terms).prog w K mg base CX0 8 (ma K (ga K "Share") "__eq__") (sp_Share___eq__ K) :=
  fnR_of (okk_Share___eq__ T) ((d_Share___eq__ T).choose_spec.bindsN fun _ _ _ _ _ _ us hl => match us, hl with | [_, _], _ => rfl)
theorem okP_is_integerS (T : Tx K mg w) : FnP (PySem.Challenge.rw_timerwheels_k01_shares_in_lowest_terms).prog w K mg base 2 (ga K "is_integer") (fun _ => sp_is_integerS K) := by
  obtain ⟨fd, F⟩ := d_is_integer T
  exact fnP_of (k := 1) (N := n_is_integer) F sc_is_integer (F.bindsN fun _ _ _ _ _ _ us hl => match us, hl with | [_], _ => rfl) (fun _ => ln0_is_integerS) fun cdv A fs t H vs Q p hr hp h => by
    have hp : p ∈ [p] := List.mem_singleton.mpr rfl
    exact ⟨t_is_integer K w, (pss_one (ps_ret (pe_and (pe_callB call_isi (by rfl) (free_isinstance T) (by decide +kernel) (pa_cons (pv 0) (pa_cons (pe_bltn (v := .ty "int") (by rfl) (free_int T) (by decide +kernel) rfl) pa_nil))) (pe_one (pe_not (pe_callB call_isi (by rfl) (free_isinstance T) (by decide +kernel) (pa_cons (pv 0) (pa_cons (pe_bltn (v := .ty "bool") (by rfl) (free_bool T) (by decide +kernel) rfl) pa_nil)))))))), rd_is_integerS (ks T) vs H Q C8.E0 h⟩
theorem okP_is_number (T : Tx K mg w) : FnP (PySem.Challenge.rw_timerwheels_k01_shares_in_lowest_terms).prog w K mg base 4 (ga K "is_number") (fun _ => sp_is_number K) := by
  obtain ⟨fd, F⟩ := d_is_number T
  exact fnP_of (k := 3) (N := n_is_number) F sc_is_number (F.bindsN fun _ _ _ _ _ _ us hl => match us, hl with | [_], _ => rfl) (fun _ => ln0_is_number) fun cdv A fs t H vs Q p hr hp h => by
    have hp : p ∈ [p] := List.mem_singleton.mpr rfl
    exact ⟨t_is_number K w, (pss_one (ps_ret (pe_or (pe_fnPc (okP_is_integerS T) (hr.mono (by decide)) hp rfl (glo_is_integer T) (kp_is_integer T) (pa_cons (pv 0) pa_nil)) (pe_one (pe_callB call_isi (by rfl) (free_isinstance T) (by decide +kernel) (pa_cons (pv 0) (pa_cons (pe_glob rfl (glo_Share T) rfl) pa_nil))))))), rd_is_number (ks T) vs H Q C8.E0 h⟩
theorem ln0_share_ofP (vs : List V) (H : Hp) (Q : VK) (E : XK) (h : sp_share_ofP K vs H Q E) : vs.length = 1 := by
  obtain ⟨_, _, rfl, _⟩ := h
  rfl
theorem ln0_Share___eq__P (vs : List V) (H : Hp) (Q : VK) (E : XK) (h : sp_Share___eq__P K vs H Q E) : vs.length = 2 := by
  obtain ⟨_, _, _, rfl, _⟩ := h
  rfl
theorem okP_share_of (T : Tx K mg w) : FnP (PySem.Challenge.rw_timerwheels_k01_shares_in_lowest_terms).prog w K mg base 2 (ga K "share_of") (fun _ => sp_share_ofP K) := by
  obtain ⟨fd, F⟩ := d_share_of T
  exact fnP_of (k := 1) (N := n_share_of) F sc_share_of (F.bindsN fun _ _ _ _ _ _ us hl => match us, hl with | [_], _ => rfl) (fun _ => ln0_share_ofP) fun cdv A fs t H vs Q p hr hp h => by
    have hp : p ∈ [p] := List.mem_singleton.mpr rfl
    exact ⟨t_share_ofP K w, (pss_cons (ps_if (pt_val (pe_callB call_isi (by rfl) (free_isinstance T) (by decide +kernel) (pa_cons (pv 0) (pa_cons (pe_glob rfl (glo_Share T) rfl) pa_nil)))) (pss_one (ps_ret (pv 0))) pss_nil) pss_offP), rd_share_ofP (ks T) vs H Q C8.E0 h⟩
theorem okP_Share___eq__ (T : Tx K mg w) : FnP (PySem.Challenge.rw_timerwheels_k01_shares_in_lowest_terms).prog w K mg base 6 (ma K (ga K "Share") "__eq__") (fun _ => sp_Share___eq__P K) := by
  obtain ⟨fd, F⟩ := d_Share___eq__ T
  exact fnP_of (k := 5) (N := n_Share___eq__) F sc_Share___eq__ (F.bindsN fun _ _ _ _ _ _ us hl => match us, hl with | [_, _], _ => rfl) (fun _ => ln0_Share___eq__P) fun cdv A fs t H vs Q p hr hp h => by
    have hp : p ∈ [p] := List.mem_singleton.mpr rfl
    exact ⟨t_Share___eq__P K w, (pss_cons (ps_if (pt_not (pt_val (pe_fnPc (okP_is_number T) (hr.mono (by decide)) hp rfl (glo_is_number T) (kp_is_number T) (pa_cons (pv 1) pa_nil)))) (pss_one (ps_ret pe_bl)) pss_nil)
  (pss_cons (ps_set (i := 2) sc_Share___eq__.nd rfl (Or.inl rfl) (pe_fnPc (okP_share_of T) (hr.mono (by decide)) hp rfl (glo_share_of T) (kp_share_of T) (pa_cons (pv 1) pa_nil)))
  (pss_one (ps_ret (pe_and (pe_cmpR op_eq (pe_fld (pv 0) rfl) (pe_fld (pv 2) rfl) (nomark _)) (pe_one (pe_cmpR op_eq (pe_fld (pv 0) rfl) (pe_fld (pv 2) rfl) (nomark _)))))))), rd_Share___eq__P (ks T) vs H Q C8.E0 h⟩
theorem sc__law_over_nothing : FnScope n__law_over_nothing ["_law_share", "_law_other"] (defScope s__law_over_nothing) := ⟨rfl, rfl, rfl, by decide +kernel, rfl, by decide +kernel, by decide +kernel⟩
theorem ln0__law_over_nothing (vs : List V) (H : Hp) (Q : VK) (E : XK) (h : sp__law_over_nothing K vs H Q E) : vs.length = 2 := by
  unfold sp__law_over_nothing at h
  repeat (first | (exact (congrArg List.length h.1).trans rfl) | (obtain ⟨_, h⟩ := h))
theorem okk__law_over_nothing (T : Tx K mg w) : FnOk (PySem.Challenge.rw_timerwheels_k01_shares_in_lowest_terms).prog w K mg base CX0 10 (ga K "_law_over_nothing") (d__law_over_nothing T).choose ["_law_share", "_law_other"] (sp__law_over_nothing K) :=
  FunD.ok (k := 9) (N := n__law_over_nothing) (d__law_over_nothing T).choose_spec sc__law_over_nothing ln0__law_over_nothing fun cdv A outer s H vs Q E hr h => ⟨t__law_over_nothing K w, PSs.nox (pss_cons (ps_try_all rfl rfl sc__law_over_nothing.nd L2.takes0 (tb := fun W => tDrop (tMethW (ga K "Share") "over" (sp_Share_overR K) W (tVar 0) (tCons (tVar 1) tNil))) (fun W pn xe tk _ => pss_one (ps_expr (pe_methW tk (pv 0) (cls_Share T) (me_Share_over T) (ok_Share_overR T) (hr.mono (by decide)) (pa_cons (pv 1) pa_nil)))) (.cons rfl rfl ⟨rfl, rfl, .inl (glo_InvalidNumber T)⟩ (fun a oe cls d pn hz hf => pss_one (ps_ret (pe_and (pe_callB call_isi (by rfl) (free_isinstance T) (by decide +kernel) (pa_cons (pe_xfA hz hf (pv 2)) (pa_cons (pe_glob rfl (glo_Share T) rfl) pa_nil))) (pe_one (pe_cmpR (op_cmpP (q := (a, oe)) (me_Share___eq__ T).at_ (fq_Share___eq__ T).1 (okP_Share___eq__ T) (roomH_mark (hr.mono (by decide))) (by exact List.mem_cons_self)) (pe_xfA hz hf (pv 2)) (pv 1) (nomark _)))))) .nil))
  (pss_one (ps_ret pe_bl))), rd__law_over_nothing (kx T) (by intro q hq; simp only [List.mem_cons, List.not_mem_nil, or_false] at hq; rcases hq with rfl; exact kec_InvalidNumber T) vs H Q E h⟩
theorem ok__law_over_nothing (T : Tx K mg w) : FnR (PySem.Challenge.rw_timerwheels_k01_shares_in_lowest_terms).prog w K mg base CX0 10 (ga K "_law_over_nothing") (sp__law_over_nothing K) :=
  fnR_of (okk__law_over_nothing T) ((d__law_over_nothing T).choose_spec.bindsN fun _ _ _ _ _ _ us hl => match us, hl with | [_, _], _ => rfl)
theorem kp__law_over_nothing (T : Tx K mg w) : keepIn K (.ref (ga K "_law_over_nothing")) = true := (d__law_over_nothing T).choose_spec.kp
theorem sc_law : FnScope n_law ["_law_script"] (defScope s_law) := ⟨rfl, rfl, rfl, by decide +kernel, rfl, by decide +kernel, by decide +kernel⟩
theorem ln0_law (vs : List V) (H : Hp) (Q : VK) (E : XK) (h : sp_law K vs H Q E) : vs.length = 1 := by
  unfold sp_law at h
  repeat (first | (exact (congrArg List.length h.1).trans rfl) | (obtain ⟨_, h⟩ := h))
theorem okG_law (T : Tx K mg w) (tb : TBs K mg base) : FnG (PySem.Challenge.rw_timerwheels_k01_shares_in_lowest_terms).prog w K mg base CX0 20 (ga K "law") (sp_law K) := by
  obtain ⟨fd, F⟩ := d_law T
  exact fnG_ofC (k := 19) (N := n_law) F sc_law (F.bindsN fun _ _ _ _ _ _ us hl => match us, hl with | [_], _ => rfl) ln0_law fun cdv A outer s H vs Q E hcv hr h => by
    subst hcv
    exact ⟨t_law K w, PSs.nox (pss_cons (ps_set (i := 1) sc_law.nd rfl (Or.inr rfl) (pe_fn (ok__law_begin T) (hr.rm.mono (by decide)) rfl (glo__law_begin T) (kp__law_begin T) pass0 (pa_cons (pv 0) pa_nil)))
  (pss_cons (ps_for PassesOwn.never rfl (pi_range1 rfl (free_range T) (pa_cons pe_int pa_nil)) (pg_name (i := 2) sc_law.nd rfl (Or.inl rfl))
    (pss_cons (ps_asg (pe_lc (own := [("_law_k", 3)]) (g := (gName 3)) (tt := tYes) rfl sc_law.nd (pi_range1 rfl (free_range T) (pa_cons pe_int pa_nil)) (blkOk_by (own := [("_law_k", 3)]) (N := ["_law_script", "_law_pool", "_law_turn", "_law_k", "_law_a", "_law_c", "_law_number", "_law_by", "_law_b", "_law_d", "_law_share", "_law_other", "_law_odd"]) (sc := defScope s_law) (by decide +kernel)) (fun _ _ _ _ _ => (pg_name (i := 3) sc_law.nd rfl (Or.inl rfl))) (fun _ _ _ _ _ => pts_nil) (fun _ _ _ _ _ => (pe_fn (ok__law_integer T) (hr.rm.mono (by decide)) rfl (glo__law_integer T) (kp__law_integer T) pass0 (pa_cons (pv 1) pa_nil)))) (pg_unl rfl (pgs_cons (pg_name (i := 4) sc_law.nd rfl (Or.inr rfl)) (pgs_cons (pg_name (i := 5) sc_law.nd rfl (Or.inl rfl)) (pgs_cons (pg_name (i := 6) sc_law.nd rfl (Or.inl rfl)) pgs_nil)))))
  (pss_cons (ps_set (i := 7) sc_law.nd rfl (Or.inl rfl) (pe_ix ix_lstH (pe_lst (pa_cons pe_int (pa_cons pe_int (pa_cons pe_int pa_nil)))) (pe_fn (ok__law_draw T) (hr.rm.mono (by decide)) rfl (glo__law_draw T) (kp__law_draw T) pass0 (pa_cons (pv 1) (pa_cons pe_int pa_nil))) (fun _ _ => rfl)))
  (pss_cons (ps_par (i := 8) (j := 9) (by rfl) sc_law.nd rfl rfl (by decide) rfl rfl (pa_cons (pe_orI (pe_fn (ok__law_integer T) (hr.rm.mono (by decide)) rfl (glo__law_integer T) (kp__law_integer T) pass0 (pa_cons (pv 1) pa_nil)) (pe_one pe_int)) (pa_cons (pe_orI (pe_fn (ok__law_integer T) (hr.rm.mono (by decide)) rfl (glo__law_integer T) (kp__law_integer T) pass0 (pa_cons (pv 1) pa_nil)) (pe_one (pe_un un_neg pe_int))) pa_nil)) (by rfl))
  (pss_cons (ps_asg (pe_tup (pa_cons (StX.pe_makeR (mk_Share T) (ok_Share___init__ T) (hr.rm.mono (by decide)) rfl (glo_Share T) pass0 (pa_cons (pe_op op_mul (pv 4) (pv 7)) (pa_cons (pe_op op_mul (pv 8) (pv 7)) pa_nil))) (pa_cons (StX.pe_makeR (mk_Share T) (ok_Share___init__ T) (hr.rm.mono (by decide)) rfl (glo_Share T) pass0 (pa_cons (pv 5) (pa_cons (pv 9) pa_nil))) pa_nil))) (pg_tup rfl (pgs_cons (pg_name (i := 10) sc_law.nd rfl (Or.inr rfl)) (pgs_cons (pg_name (i := 11) sc_law.nd rfl (Or.inl rfl)) pgs_nil))))
  (pss_cons (ps_if (PW.pt (pw_or (pt_not (pt_val (pe_fnG (okG__law_is_share T) (hr.mono (by decide)) rfl (glo__law_is_share T) (kp__law_is_share T) pass0 (pa_cons (pv 10) (pa_cons (pv 4) (pa_cons (pv 8) pa_nil)))))) (pw_or1 (pt_not (pt_val (pe_fnG (okG__law_is_share T) (hr.mono (by decide)) rfl (glo__law_is_share T) (kp__law_is_share T) pass0 (pa_cons (pe_make (mk_Share T) (okk_Share___init__ T) (hr.rm.mono (by decide)) rfl (glo_Share T) (bi_Share_1 T).choose_spec.2 (bi_Share_1 T).choose_spec.1 pass0 (pa_cons (pv 5) pa_nil)) (pa_cons (pv 5) (pa_cons pe_int pa_nil))))))))) (pss_one (ps_ret pe_bl)) pss_nil)
  (pss_cons (ps_if (PW.pt (pw_or (pt_not (pt_val (pe_fnG (okG__law_is_share T) (hr.mono (by decide)) rfl (glo__law_is_share T) (kp__law_is_share T) pass0 (pa_cons (pe_op (op_binS (sf_Share T) (me_Share___add__ T).at_ (fq_Share___add__ T).1 (ok_Share___add__ T) (hr.rm.mono (by decide)) pass0) (pv 10) (pv 11)) (pa_cons (pe_op op_add (pe_op op_mulW (pv 4) (pv 9)) (pe_op op_mulW (pv 5) (pv 8))) (pa_cons (pe_op op_mulW (pv 8) (pv 9)) pa_nil)))))) (pw_or1 (pt_not (pt_val (pe_fnG (okG__law_is_share T) (hr.mono (by decide)) rfl (glo__law_is_share T) (kp__law_is_share T) pass0 (pa_cons (pe_op (op_binS (sf_Share T) (me_Share___mul__ T).at_ (fq_Share___mul__ T).1 (ok_Share___mul__ T) (hr.rm.mono (by decide)) pass0) (pv 10) (pv 11)) (pa_cons (pe_op op_mulW (pv 4) (pv 5)) (pa_cons (pe_op op_mulW (pv 8) (pv 9)) pa_nil))))))))) (pss_one (ps_ret pe_bl)) pss_nil)
  (pss_cons (ps_if (PW.pt (pw_or (pt_not (pt_val (pe_fnG (okG__law_is_share T) (hr.mono (by decide)) rfl (glo__law_is_share T) (kp__law_is_share T) pass0 (pa_cons (pe_op (op_binS (sf_Share T) (me_Share___sub__ T).at_ (fq_Share___sub__ T).1 (ok_Share___sub__ T) (hr.rm.mono (by decide)) pass0) (pv 10) (pv 11)) (pa_cons (pe_op op_sub (pe_op op_mulW (pv 4) (pv 9)) (pe_op op_mulW (pv 5) (pv 8))) (pa_cons (pe_op op_mulW (pv 8) (pv 9)) pa_nil)))))) (pw_or1 (pt_not (pt_val (pe_fnG (okG__law_with_integer T tb) (hr.mono (by decide)) rfl (glo__law_with_integer T) (kp__law_with_integer T) pass0 (pa_cons (pv 4) (pa_cons (pv 8) (pa_cons (pv 10) (pa_cons (pv 6) pa_nil)))))))))) (pss_one (ps_ret pe_bl)) pss_nil)
  (pss_cons (ps_if (PW.pt (pw_or (pt_not (pt_val (pe_fnG (okG__law_is_share T) (hr.mono (by decide)) rfl (glo__law_is_share T) (kp__law_is_share T) pass0 (pa_cons (pe_un (un_negO (me_Share___neg__ T).at_ (fq_Share___neg__ T).1 (ok_Share___neg__ T) (hr.rm.mono (by decide)) pass0) (pv 10)) (pa_cons (pe_op op_sub pe_int (pv 4)) (pa_cons (pv 8) pa_nil)))))) (pw_or1 (pt_not (pt_val (pe_fnG (okG__law_is_share T) (hr.mono (by decide)) rfl (glo__law_is_share T) (kp__law_is_share T) pass0 (pa_cons (pe_callB (call_absO (me_Share___abs__ T).at_ (fq_Share___abs__ T).1 (ok_Share___abs__ T) (hr.rm.mono (by decide)) pass0) (by rfl) (free_abs T) (by decide +kernel) (pa_cons (pv 10) pa_nil)) (pa_cons (pe_callB call_abs (by rfl) (free_abs T) (by decide +kernel) (pa_cons (pv 4) pa_nil)) (pa_cons (pe_callB call_abs (by rfl) (free_abs T) (by decide +kernel) (pa_cons (pv 8) pa_nil)) pa_nil))))))))) (pss_one (ps_ret pe_bl)) pss_nil)
  (pss_cons (ps_if (PW.pt (pw_and (pt_cmpR op_ne (pv 5) pe_int (nomark _)) (pw_and1 (pt_not (pt_val (pe_fnG (okG__law_is_share T) (hr.mono (by decide)) rfl (glo__law_is_share T) (kp__law_is_share T) pass0 (pa_cons (pe_methR (pv 10) (cls_Share T) (me_Share_over T) (ok_Share_over T) (hr.rm.mono (by decide)) pass0 (pa_cons (pv 11) pa_nil)) (pa_cons (pe_op op_mulW (pv 4) (pv 9)) (pa_cons (pe_op op_mulW (pv 8) (pv 5)) pa_nil))))))))) (pss_one (ps_ret pe_bl)) pss_nil)
  (pss_cons (ps_if (PW.pt (pw_and (pt_cmpR op_eq (pv 5) pe_int (nomark _)) (pw_and1 (pt_not (pt_val (pe_fn (ok__law_over_nothing T) (hr.rm.mono (by decide)) rfl (glo__law_over_nothing T) (kp__law_over_nothing T) pass0 (pa_cons (pv 10) (pa_cons (pv 11) pa_nil)))))))) (pss_one (ps_ret pe_bl)) pss_nil)
  (pss_cons (ps_if (pt_not (pt_val (pe_fn (ok__law_over_nothing T) (hr.rm.mono (by decide)) rfl (glo__law_over_nothing T) (kp__law_over_nothing T) pass0 (pa_cons (pv 10) (pa_cons (StX.pe_makeR (mk_Share T) (ok_Share___init__ T) (hr.rm.mono (by decide)) rfl (glo_Share T) pass0 (pa_cons pe_int (pa_cons (pv 8) pa_nil))) pa_nil))))) (pss_one (ps_ret pe_bl)) pss_nil)
  (pss_one (ps_for PassesOwn.never rfl (pi_list (pe_lst (pa_cons pe_non (pa_cons pe_bl (pa_cons pe_bl (pa_cons pe_str (pa_cons (pe_tup (pa_cons pe_int (pa_cons pe_int pa_nil))) (pa_cons (pe_lst pa_nil) (pa_cons pe_dnewK pa_nil))))))))) (pg_name (i := 12) sc_law.nd rfl (Or.inr rfl))
    (pss_cons (ps_if (pt_cmpR (op_neD (ul hr.rm)) (pe_caughtT (TT := TCg K) (t := fun E => (StX.tMakeR (ga K "Share") (sp_Share___init__R K) E (tCons (tVar 12) (tCons (tC (.int 0)) tNil)))) (k := 16) (d__law_caught T).choose_spec (fun _ _ _ _ _ _ us hl => match us, hl with | [_], _ => rfl) sc__law_caught rfl (Or.inl rfl) rfl (glo__law_caught T) (fun cdg => cg T (hr.mono (by decide)) _ cdg) tb.law (TBs.mem_law T) (TBs.one_law T) rfl (hr.rm.mono (by decide)) (lamS_by (sc := defScope s_law) (by decide +kernel)) rfl (fun _ _ _ _ _ => rfl) (fun A outer s H E f c2 hrl => (StX.pe_makeR (mk_Share T) (ok_Share___init__R T) (hrl.mono (by decide)) rfl (glo_Share T) (passes_call (takes_of rfl rfl rfl rfl) fun _ _ _ _ z => z) (pa_cons (pe_var (i := 12) rfl (Or.inr (Or.inr rfl))) (pa_cons pe_int pa_nil))))) (pe_lst (pa_cons pe_str (pa_cons (pe_callB (call_reprE hr.gd (Nat.lt_of_le_of_lt (Nat.add_le_add_left (show 40 ≤ 64 by decide) _) (ul hr.rm))) (by rfl) (free_repr T) (by decide +kernel) (pa_cons (pv 12) pa_nil)) pa_nil))) (nomark _)) (pss_one (ps_ret pe_bl)) pss_nil)
  (pss_cons (ps_if (pt_cmpR (op_neD (ul hr.rm)) (pe_caughtT (TT := TCg K) (t := fun E => (StX.tMakeR (ga K "Share") (sp_Share___init__R K) E (tCons (tVar 4) (tCons (tVar 12) tNil)))) (k := 16) (d__law_caught T).choose_spec (fun _ _ _ _ _ _ us hl => match us, hl with | [_], _ => rfl) sc__law_caught rfl (Or.inl rfl) rfl (glo__law_caught T) (fun cdg => cg T (hr.mono (by decide)) _ cdg) tb.law (TBs.mem_law T) (TBs.one_law T) rfl (hr.rm.mono (by decide)) (lamS_by (sc := defScope s_law) (by decide +kernel)) rfl (fun _ _ _ _ _ => rfl) (fun A outer s H E f c2 hrl => (StX.pe_makeR (mk_Share T) (ok_Share___init__R T) (hrl.mono (by decide)) rfl (glo_Share T) (passes_call (takes_of rfl rfl rfl rfl) fun _ _ _ _ z => z) (pa_cons (pe_var (i := 4) rfl (Or.inr (Or.inr rfl))) (pa_cons (pe_var (i := 12) rfl (Or.inr (Or.inr rfl))) pa_nil))))) (pe_lst (pa_cons pe_str (pa_cons (pe_callB (call_reprE hr.gd (Nat.lt_of_le_of_lt (Nat.add_le_add_left (show 40 ≤ 64 by decide) _) (ul hr.rm))) (by rfl) (free_repr T) (by decide +kernel) (pa_cons (pv 12) pa_nil)) pa_nil))) (nomark _)) (pss_one (ps_ret pe_bl)) pss_nil)
  (pss_one (ps_if (pt_cmpR (op_neD (ul hr.rm)) (pe_caughtT (TT := TCg K) (t := fun E => (tMethR (ga K "Share") "over" (sp_Share_overR K) E (tVar 10) (tCons (tVar 12) tNil))) (k := 16) (d__law_caught T).choose_spec (fun _ _ _ _ _ _ us hl => match us, hl with | [_], _ => rfl) sc__law_caught rfl (Or.inl rfl) rfl (glo__law_caught T) (fun cdg => cg T (hr.mono (by decide)) _ cdg) tb.law (TBs.mem_law T) (TBs.one_law T) rfl (hr.rm.mono (by decide)) (lamS_by (sc := defScope s_law) (by decide +kernel)) rfl (fun _ _ _ _ _ => rfl) (fun A outer s H E f c2 hrl => (pe_methR (pe_var (i := 10) rfl (Or.inr (Or.inr rfl))) (cls_Share T) (me_Share_over T) (ok_Share_overR T) (hrl.mono (by decide)) (passes_call (takes_of rfl rfl rfl rfl) fun _ _ _ _ z => z) (pa_cons (pe_var (i := 12) rfl (Or.inr (Or.inr rfl))) pa_nil)))) (pe_lst (pa_cons pe_str (pa_cons (pe_callB (call_reprE hr.gd (Nat.lt_of_le_of_lt (Nat.add_le_add_left (show 40 ≤ 64 by decide) _) (ul hr.rm))) (by rfl) (free_repr T) (by decide +kernel) (pa_cons (pv 12) pa_nil)) pa_nil))) (nomark _)) (pss_one (ps_ret pe_bl)) pss_nil))))))))))))))))))
  (pss_one (ps_ret (pe_cmpR (op_eqD (ul hr.rm)) (pe_caughtT (TT := TCg K) (t := fun E => (StX.tMakeR (ga K "Share") (sp_Share___init__R K) E (tCons (tC (.int 1)) (tCons (tC (.int 0)) tNil)))) (k := 16) (d__law_caught T).choose_spec (fun _ _ _ _ _ _ us hl => match us, hl with | [_], _ => rfl) sc__law_caught rfl (Or.inl rfl) rfl (glo__law_caught T) (fun cdg => cg T (hr.mono (by decide)) _ cdg) tb.law (TBs.mem_law T) (TBs.one_law T) rfl (hr.rm.mono (by decide)) (lamS_by (sc := defScope s_law) (by decide +kernel)) rfl (fun _ _ _ _ _ => rfl) (fun A outer s H E f c2 hrl => (StX.pe_makeR (mk_Share T) (ok_Share___init__R T) (hrl.mono (by decide)) rfl (glo_Share T) (passes_call (takes_of rfl rfl rfl rfl) fun _ _ _ _ z => z) (pa_cons pe_int (pa_cons pe_int pa_nil))))) (pe_lst (pa_cons pe_str (pa_cons pe_str pa_nil))) (nomark _)))))), rd_law (kx T) (by intro q hq; simp only [List.mem_cons, List.not_mem_nil, or_false] at hq; rcases hq with rfl; exact kec_InvalidNumber T) vs H Q E h⟩
theorem kp_law (T : Tx K mg w) : keepIn K (.ref (ga K "law")) = true := (d_law T).choose_spec.kp
end
end Tw
theorem PySem.Challenge.cw_timerwheels_k01_shares_in_lowest_terms_holds : PySem.Challenge.rw_timerwheels_k01_shares_in_lowest_terms.Holds := by
  exact Hd.holds (k := 20) (CX := L2.CX0) (fun _ _ _ _ z => z) ⟨⟨rfl, by decide, by decide⟩, rfl⟩ fun K mg w base T t0 t1 => Tw.okG_law T ⟨t0, t1⟩
