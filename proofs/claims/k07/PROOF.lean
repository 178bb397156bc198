import PyProof.Rows.All
import Wide.All
import OpenK.AllK
import Wide.FinOn
import HandS.ForMost
import HandS.ForExc
import HandS.Defaults
import HandS.Property
import HandS.ClsMeth
import HandS.IsInst
import HandS.Head0
import HandS.Head1
import HandS.Head2
import HandS.HeadEnd
import HandS.HeadHook1
import HandS.HeadHook2
import HandS.HeadHook3
import HandS.HeadNt
import HandS.Wide
import HandS.Flt
import HandS.Flow
import HandS.MakeKwOnly
import HandS.Star
import HandS.Zip
import HandS.Conv
import HandS.Style
import HandS.SlotsOwn
import HandS.NoneIn
import HandS.More
import HandS.RaiseMore
import PyProof.ReprRoads
import HandS.ExcInit
import HandS.ExcField
import HandS.Nested
import KE.KExcSuper
import KE.KSuper
import HandS.ExcIs
import HandS.EndTab
import HandS.NestedK
import HandS.TryMany
import HandS.HotCalls
import HandS.Codes
import HandS.Lambda
import KE.GoesMore
import KE.GoesZip
import KE.GoesEnum
import PyProof.Draws
import HandS.Walk
import PyProof.ListRange
import PyProof.LongRange
import HandS.FStrTup
import PyProof.FitsInt
import HandS.TupLe
import KE.KCallOwn
import KE.KOpsOwn
import HandS.OwnEq
import KE.KEqNest
import PyProof.InstEq
import HandS.GenOver
import PyProof.GenQ
import HandS.GenList
import HandS.ForList
import HandS.Call
import HandS.Iter
import HandS.Comp
import HandS.SetFor
import HandS.Strs
import HandS.TupAny
import PyProof.StrLawsRepr
import PyProof.FitsReplace
import PyProof.Rows.StrMeet
import HandS.Text
import PyProof.ReprLen
import PyProof.EqKinds
import PyProof.FactsAll.dict_1
import PySem.Challenge.RW_timerwheels_k07_books_refused
set_option Elab.async false
set_option linter.all false
set_option maxRecDepth 100000
set_option maxHeartbeats 4000000
/-! Tw: a Hook of our own: facts by names, facts by Bools, defs at any address, tables with text keys -/
namespace Tw
open PySem PySem.Spec PyProof.Rows L2 He PySem.W
/-! ### addresses -/
def pa (K : Frag) (C : Addr) (f : PySem.Str) : Addr := match recIn K (ma K C f) "property" with
  | some (.ref g :: _) => g
  | _ => 0
def dva (K : Frag) (d : Addr) (x : PySem.Str) : Addr := match nsIn K d x with
  | some (some (.ref a)) => a
  | _ => 0
/-! ### facts by Bools -/
def bProp (x f : PySem.Str) (K : Frag) : Bool := eqO (findIn K (.ref (ga K x)) f) (some (some (.ref (ma K (ga K x) f)))) &&
  (eqO (specialIn K (.ref (ma K (ga K x) f)) "__get__") (some (some (.builtin "property.__get__"))) && (decide (takesIn K (.ref (ma K (ga K x) f)) = some true) &&
    (match recIn K (ma K (ga K x) f) "property" with
      | some (.ref _ :: _) => true
      | _ => false)))
theorem prop_ok {K : Frag} {x f : PySem.Str} (h : bProp x f K = true) : PropOf K (ga K x) f (ma K (ga K x) f) (pa K (ga K x) f) := by
  obtain ⟨h1, h⟩ := ba h
  obtain ⟨h2, h⟩ := ba h
  obtain ⟨h3, h4⟩ := ba h
  refine ⟨eqO_ok h1, eqO_ok h2, of_decide_eq_true h3, ?_⟩
  unfold pa
  split at h4
  · rename_i g r e
    exact ⟨r, by rw [e]⟩
  · cases h4
def bFn (p : Frag → Addr) (K : Frag) : Bool := isFn K (.ref (p K)) && fnIn K (p K)
def bIsi (x : PySem.Str) (K : Frag) : Bool := eqO (findIn K (.ref (ga K x)) "__class__") (some (some (.builtin "object.__class__"))) &&
  (eqO (specialIn K (.builtin "object.__class__") "__get__") (some (some (.builtin "getset_descriptor.__get__"))) && (decide (takesIn K (.builtin "object.__class__") = some true) && decide (mroIn K (ga K x) (.type "object") = some true)))
structure IsiC (K : Frag) (C : Addr) : Prop where
  ca : findIn K (.ref C) "__class__" = some (some (.builtin "object.__class__"))
  cn : specialIn K (.builtin "object.__class__") "__get__" = some (some (.builtin "getset_descriptor.__get__"))
  ct : takesIn K (.builtin "object.__class__") = some true
  cm : mroIn K C (.type "object") = some true
theorem isi_ok {K : Frag} {x : PySem.Str} (h : bIsi x K = true) : IsiC K (ga K x) := by
  obtain ⟨h1, h⟩ := ba h
  obtain ⟨h2, h⟩ := ba h
  obtain ⟨h3, h4⟩ := ba h
  exact ⟨eqO_ok h1, eqO_ok h2, of_decide_eq_true h3, of_decide_eq_true h4⟩
def bKit (t c : Frag → Value) (b : Bool) (K : Frag) : Bool := decide (kitOne K (t K) (c K) = some b)
theorem kit_ok {t c : Frag → Value} {b : Bool} {K : Frag} (h : bKit t c b K = true) : kitOne K (t K) (c K) = some b := of_decide_eq_true h
def bCm (x m : PySem.Str) (K : Frag) : Bool := He5.wrapB K (ga K x) "classmethod" "classmethod.__get__" m && fnIn K (He5.wf K (ga K x) "classmethod" m)
theorem cm_ok {K : Frag} {x m : PySem.Str} (h : bCm x m K = true) : ClX.CMet K (ga K x) (.type "type") m (ma K (ga K x) m) (He5.wf K (ga K x) "classmethod" m) := by
  obtain ⟨h1, h2⟩ := ba h
  exact He5.cmet_of h1 h2
def bCread (x : PySem.Str) (K : Frag) : Bool := readsIn K (ga K x) (.type "type") && eqO (specialIn K (.ref (ga K x)) "__getattribute__") (some (some (.builtin "type.__getattribute__")))
theorem cread_ok {K : Frag} {x : PySem.Str} (h : bCread x K = true) : ClX.CRead K (ga K x) (.type "type") := by
  obtain ⟨h1, h2⟩ := ba h
  exact ⟨h1, eqO_ok h2⟩
def bTup (p : Frag → Addr) (vs : List Dv) (K : Frag) : Bool := match K.lookup (p K) with
  | some ⟨.type c, _, .seq its _, _⟩ => decide (c = "tuple") && (decide (its.size ≤ sizeLine) && relAll (vs.map (Dv.v K)) its.toList)
  | _ => false
theorem tup_ok {K : Frag} {p : Frag → Addr} {vs : List Dv} (h : bTup p vs K = true) (H : Hp) : SqT K H (p K) (vs.map (Dv.v K)) := by
  unfold bTup at h
  split at h
  · rename_i c od its n sl q
    obtain ⟨h1, h2⟩ := ba h
    obtain ⟨h3, h4⟩ := ba h2
    exact .inr ⟨_, its, n, q, congrArg Value.type (of_decide_eq_true h1), rfl, of_decide_eq_true h3, relAll_ok h4⟩
  · cases h
def bVal (p : Frag → Addr) (ks : List PySem.Str) (K : Frag) : Bool := ks.all fun x => eqO (nsIn K (p K) x) (some (some (.ref (dva K (p K) x))))
theorem val_ok {K : Frag} {p : Frag → Addr} {ks : List PySem.Str} (h : bVal p ks K = true) {x : PySem.Str} (hx : x ∈ ks) : nsIn K (p K) x = some (some (.ref (dva K (p K) x))) := eqO_ok (List.all_eq_true.mp h x hx)
/-! ### the Hook -/
abbrev AlM : Type := He.AlD × List (Option (List (Option (PySem.Str × Int))))
def obsM (fa : List Fa) (fb : List (Frag → Bool)) (fn : List He5.DefA) (ts : List He.Tab) (K : Frag) : AlM :=
  (((fa.all fun f => f.ok K) && ((fb.all fun f => f K) && fn.all fun d => d.ok K), fn.map fun d => He5.fnA K (d.at_ K)), ts.map fun t => dicW K (t.1 K))
def valM (fn : List He5.DefA) (ts : List He.Tab) (w : World) : AlM := ((true, fn.map He5.DefA.val), ts.map fun t => some (keysIn w.params t.2))
def SaysM (fa : List Fa) (fb : List (Frag → Bool)) (fn : List He5.DefA) (ts : List He.Tab) (w : World) (K : Frag) : Prop := obsM fa fb fn ts K = valM fn ts w
section
variable {fa : List Fa} {fb : List (Frag → Bool)} {fn : List He5.DefA} {ts : List He.Tab} {w : World} {K : Frag}
theorem SaysM.bits (c : SaysM fa fb fn ts w K) : (fa.all fun f => f.ok K) = true ∧ (fb.all fun f => f K) = true ∧ (fn.all fun d => d.ok K) = true := by
  have h : ((fa.all fun f => f.ok K) && ((fb.all fun f => f K) && fn.all fun d => d.ok K)) = true := congrArg (fun z : AlM => z.1.1) c
  obtain ⟨h1, h⟩ := ba h
  obtain ⟨h2, h3⟩ := ba h
  exact ⟨h1, h2, h3⟩
theorem SaysM.fact (c : SaysM fa fb fn ts w K) (i : Nat) {f : Fa} (h : fa[i]? = some f := by rfl) : f.ok K = true := List.all_eq_true.mp c.bits.1 f (List.mem_of_getElem? h)
theorem SaysM.bool (c : SaysM fa fb fn ts w K) (i : Nat) {f : Frag → Bool} (h : fb[i]? = some f := by rfl) : f K = true := List.all_eq_true.mp c.bits.2.1 f (List.mem_of_getElem? h)
theorem SaysM.def_ (c : SaysM fa fb fn ts w K) (i : Nat) {d : He5.DefA} (h : fn[i]? = some d := by rfl) : ∃ fd, FunD K d.name d.qual d.params d.body d.scope (d.dvs K) (d.kws K) (d.at_ K) fd := by
  have e : fn.map (fun d => He5.fnA K (d.at_ K)) = fn.map He5.DefA.val := congrArg (fun z : AlM => z.1.2) c
  have e2 : (fn.map fun d => He5.fnA K (d.at_ K))[i]? = (fn.map He5.DefA.val)[i]? := by rw [e]
  rw [List.getElem?_map, List.getElem?_map, h] at e2
  exact He5.DefA.funD (Option.some.inj e2) (List.all_eq_true.mp c.bits.2.2 d (List.mem_of_getElem? h))
theorem SaysM.tab (c : SaysM fa fb fn ts w K) (i : Nat) {t : He.Tab} (h : ts[i]? = some t := by rfl) : ∃ es n, KDict K w (t.1 K) es n := by
  have e : ts.map (fun t => dicW K (t.1 K)) = ts.map fun t => some (keysIn w.params t.2) := congrArg (fun z : AlM => z.2) c
  have e2 : (ts.map fun t => dicW K (t.1 K))[i]? = (ts.map fun t => some (keysIn w.params t.2))[i]? := by rw [e]
  rw [List.getElem?_map, List.getElem?_map, h] at e2
  exact dicW_ok (Option.some.inj e2)
end
end Tw
/-! Tw: the Hook over written addresses -/
namespace Tw
open PySem PySem.Spec PyProof.Rows L2 He PySem.W
def bNod (p : Frag → Addr) (K : Frag) : Bool := match K.lookup (p K) with
  | some ⟨.type c, none, _, _⟩ => decide (c = "tuple")
  | _ => false
theorem nod_ok {K : Frag} {p : Frag → Addr} (h : bNod p K = true) : ∃ o, K.lookup (p K) = some o ∧ o.cls = .type "tuple" ∧ o.dict = none := by
  unfold bNod at h
  split at h
  · rename_i c d sl q
    exact ⟨_, q, congrArg Value.type (of_decide_eq_true h), rfl⟩
  · cases h
end Tw
/-! Tw: rules of our own beside the hand layer's -/
namespace Tw
open PySem PySem.Spec PyProof.Rows L2
theorem Same.new {H : Hp} {p : Addr} {o : HO} (h : H p = none) : Same H (upd H p o) := fun a u e => by
  rw [upd_ne (ne_of_none e h)]
  exact e
theorem Same.tup {K : PySem.W.Frag} {H H' : Hp} {a : Addr} {xs : List V} (e : Same H H') (h : SqT K H a xs) : SqT K H' a xs := by
  rcases h with (h | ⟨o, h⟩) | h
  · exact .inl (.inl (e _ _ h))
  · exact .inl (.inr ⟨o, e _ _ h⟩)
  · exact .inr h
section
variable {P : Program} {w : World} {K : PySem.W.Frag} {mg : Str → Option Value} {base : Heap} {CX : CXT} {k : Nat} {f : Addr} {fd : FuncData} {ps : List Str} {sp : Sp}
theorem fnR_of (F : FnOk P w K mg base CX k f fd ps sp) (b : Binds K fd ps []) : FnR P w K mg base CX k f sp :=
  (F.raw b .nil).imp fun vs H Q E h => by
    show sp (vs ++ []) H Q E
    rw [List.append_nil]
    exact h
end
def tFn (sp : Sp) (E : XK) (t : TA) : TE := fun σ H Q => t σ H fun vs H1 => sp vs H1 Q E
section
variable {X : Cx} {CX : CXT} {k : Nat} {f C g : Addr} {sp : Sp} {E : XK} {x m : Str} {e o : Expr} {es : List Expr} {ta te : TE} {t : TA} {p pos apos : Pos}
theorem pe_fn (F : FnR X.prog X.w X.K X.mg X.base CX k f sp) (hr : Room k X.A) (hg : Gl X x) (hm : X.mg x = some (.ref f)) (hk : PySem.W.keepIn X.K (.ref f) = true) (hx : Passes CX X E) (ha : PA X (e :: es) t)
    (hdb : (x == ("__debug__" : Str)) = false := by decide) (he : starEach (e :: es) X.env = (false, eval e X.env) :: starEach es X.env := by rfl)
    (hpl : (backTo pos (starEach es X.env)).any (·.1) = false := by rfl) : PE X (.Call (.Name x p) (e :: es) [] pos) (tFn sp E t) := ⟨fun pins s σ H Q I h =>
  wpAny_Call_Name_kw (ld_glob I hg hm (PySem.W.callWith_K (h₀ := X.base) I.ok.mod.kin hk
    (thn (ha.run pos pins s σ H _ I h) fun us s1 ⟨vs, H1, I1, r, q⟩ => ⟨I1.kIn, wpAny_call (run_fnR F hr hx I1 r q)⟩) he hpl) hdb)⟩
def rLenO (C : Addr) (sp : Sp) (E : XK) : List V → Hp → VK → Prop := fun xs H Q => ∃ a dx fs, xs = [.ref a] ∧ H a = some (.ins C dx fs) ∧
  sp [.ref a] H (fun v H' => ∃ n : Int, v = .int n ∧ 0 ≤ n ∧ n < 2 ^ 63 ∧ Q (.int n) H') E
def rIxO (C : Addr) (sp : Sp) (E : XK) : R2 := fun x y H Q => ∃ a dx fs, x = .ref a ∧ H a = some (.ins C dx fs) ∧ sp [.ref a, y] H Q E
/-! tracked sequences, read -/
def rIxLH : R2 := fun x y H Q => ∃ p xs i v, x = .ref p ∧ y = .int i ∧ H p = some (.lst xs) ∧ atI xs i = some v ∧ Q v H
def rIxTH : R2 := fun x y H Q => ∃ p xs i v, x = .ref p ∧ y = .int i ∧ H p = some (.tup xs) ∧ atI xs i = some v ∧ Q v H
theorem ix_lstH : IxR X rIxLH := fun value slice pins s σ H x y v u Q I rx ry ⟨p, xs, i, z, e1, e2, h, e3, q⟩ hs => ix_list value slice pins s σ H x y v u Q I rx ry ⟨p, xs, i, z, e1, e2, SqL.of h, e3, q⟩ hs
theorem ix_tupH : IxR X rIxTH := fun value slice pins s σ H x y v u Q I rx ry ⟨p, xs, i, z, e1, e2, h, e3, q⟩ hs => ix_tup value slice pins s σ H x y v u Q I rx ry ⟨p, xs, i, z, e1, e2, SqT.of h, e3, q⟩ hs
def rLenLH : List V → Hp → VK → Prop := fun xs H Q => ∃ p ys, xs = [.ref p] ∧ H p = some (.lst ys) ∧ Q (.int ys.length) H
def rLenTH : List V → Hp → VK → Prop := fun xs H Q => ∃ p ys, xs = [.ref p] ∧ H p = some (.tup ys) ∧ Q (.int ys.length) H
theorem call_lenL : CallR X (.builtin "len") rLenLH := fun pins s σ H xs us Q I r ⟨p, ys, e, h, q⟩ => call_len_seq pins s σ H xs us Q I r ⟨p, ys, e, .inl (SqL.of h), q⟩
def InsAt (C : Addr) (sp : Sp) : Prop := ∀ vs H Q E, sp vs H Q E → ∃ (a dx : Addr) (fs : List (Str × V)) (r : List V), vs = .ref a :: r ∧ H a = some (.ins C dx fs)
theorem pe_propF {f : Str} {pr : Addr} (he : PE X e ta) (c : Cls X.K C) (hp : PropOf X.K C f pr g) (F : FnR X.prog X.w X.K X.mg X.base CX k g sp) (hr : Room (k + 1) X.A) (hx : Passes CX X.nox E) (hi : InsAt C sp)
    (hab : attributeBase e f X.env (eval e X.env) = eval e X.env := by rfl) : PE X (.Attribute e f pos) (tFn sp E (tCons ta tNil)) := by
  refine ⟨fun pins s σ H Q I h => attr_of hab (thn (he.run pins s σ H _ I h) fun u s1 ⟨x, H1, I1, rx, q⟩ => ?_)⟩
  obtain ⟨a, dx, fs, r, e1, ea⟩ := hi _ _ _ _ q
  cases e1
  cases (show u = Value.ref a from rx)
  obtain ⟨mA, O, _⟩ := ins_get I1.hok ea
  obtain ⟨od, J, _⟩ := O.look
  obtain ⟨rest, hrec⟩ := hp.rec_
  have hc : (PySem.W.clsIn X.K C).isSome = true := by
    obtain ⟨cd, hc, _⟩ := PySem.W.any_some c.hd
    rw [hc]
    rfl
  have I2 := I1.tok (s1.toks + 1)
  refine PySem.W.get_bind I1.kIn J (PySem.W.plainGet_of (c.get f)).1 (PySem.W.findObj_data hc hp.at_ hp.get hp.tak) (PySem.W.plainGet_of (c.get f)).2
    (wpAny_call (PySem.W.prop_get (s := { s1 with toks := s1.toks + 1 }) I2.kIn hrec (codeAny_mono (F X.A.in1 X.stack _ H1 [.ref a] [.ref a] Q E hr.in1 I2.env0.in1 (.cons rfl .nil) q) fun r s' hq => ?_)))
  cases r with
  | error er => exact False.elim (hx pins σ H1 _ er s' (I2.wish _) hq)
  | ok fl =>
    cases fl with
    | ret u =>
      obtain ⟨v, H', I3, rv, q3⟩ := I2.after hq
      show wpAny _ _ (handedOut u) _ _ _
      rw [PySem.W.handedOut_of (handed_of rv)]
      exact wpAny_pure ⟨v, H', I3, rv, q3⟩
    | next => exact False.elim hq
    | brk => exact False.elim hq
    | cont => exact False.elim hq
theorem pe_ixF {a b : Expr} {tb : TE} (hs : PySem.W.findIn X.K (.ref C) "__getitem__" = some (some (.ref g))) (hf : PySem.W.isFn X.K (.ref g) = true) (hn : PySem.W.fnIn X.K g = true) (F : FnR X.prog X.w X.K X.mg X.base CX k g sp) (hr : Room (k + 1) X.A) (hx : Passes CX X E) (hi : InsAt C sp)
    (ha : PE X a ta) (hb : PE X b tb) (hsl : ∀ u v, subscripted b true u v = runValue (.builtin "lifetime.subscript" ⟨[u, v], []⟩) := by intro _ _; with_unfolding_all rfl) : PE X (.Subscript a b pos) (tFn sp E (tCons ta (tCons tb tNil))) := by
  refine ⟨fun pins s σ H Q I h => Subscript_ (binT ha hb I h fun v u s2 x y H2 I2 rx ry q => ?_)⟩
  obtain ⟨c, dx, fs, r, e1, ec⟩ := hi _ _ _ _ q
  cases e1
  cases (show v = Value.ref c from rx)
  obtain ⟨mA, O, _⟩ := ins_get I2.hok ec
  obtain ⟨od, J, _⟩ := O.look
  obtain ⟨m, hF⟩ := I2.fr
  exact PySem.W.sub_K hF I2.ok.mod.kin J hs hn hf (wpAny_call (SlX.run_at (us := [.ref c, u]) (ws := [.ref c, y]) F hr.in1 I2.env0.in1 hx I2 (.cons rfl (.cons ry .nil)) q)) (hsl _ _)
def rLenF (sp : Sp) (E : XK) : List V → Hp → VK → Prop := fun xs H Q => sp xs H (fun v H' => ∃ n : Int, v = .int n ∧ 0 ≤ n ∧ n < 2 ^ 63 ∧ Q (.int n) H') E
end
end Tw
/-! Tw: more rules -/
namespace Tw
open PySem PySem.Spec PyProof.Rows L2 StX
section
variable {X : Cx} {CX : CXT} {k : Nat} {f C : Addr} {sp : Sp} {E : XK} {x : Str} {p pos : Pos}
theorem pe_makeR0 (M : Mk X.K C f) (F : FnR X.prog X.w X.K X.mg X.base CX k f sp) (hr : Room (k + 1) X.A) (hg : Gl X x) (hm : X.mg x = some (.ref C)) (hx : Passes CX X E)
    (hdb : (x == ("__debug__" : Str)) = false := by decide) : PE X (.Call (.Name x p) [] [] pos) (tMakeR C sp E tNil) := ⟨fun pins s σ H Q I h =>
  wpAny_Call_Name_kw (ld_glob I hg hm (PySem.W.callWith_K0 I.kIn M.kp (run_makeR (us := []) (vs := []) M F hr hx I .nil h)) hdb)⟩
end
end Tw
namespace Tw
open PySem PySem.Spec PyProof.Rows L2
theorem ul {k : Nat} {A : Around} (hr : Room k A) : A.units + 64 < cLine := by have := hr.un; omega
end Tw
/-! Tw: defs of the law itself that call repr: nothing is under way around them -/
namespace Tw
open PySem PySem.Spec PyProof.Rows L2
structure RmG (k : Nat) (A : Around) : Prop where
  rm : Room k A
  gd : A.guards = some []
theorem RmG.mono {j k : Nat} {A : Around} (r : RmG k A) (h : j ≤ k) : RmG j A := ⟨r.rm.mono h, r.gd⟩
theorem RmG.deeper {k : Nat} {A : Around} (r : RmG (k + 1) A) (env : Env) : RmG k (A.deeper env) := ⟨r.rm.deeper env, r.gd⟩
def FnG (P : Program) (w : World) (K : PySem.W.Frag) (mg : Str → Option Value) (base : Heap) (CX : CXT) (k : Nat) (f : Addr) (sp : Sp) : Prop :=
  ∀ A fs t Hp0 us vs Q E, RmG k A → Env0 P w K mg base A fs t Hp0 → Vals vs us → sp vs Hp0 Q E → codeAny (model P w) A (.call (.ref f) ⟨us, []⟩) (CR CX fs P w Hp0 t Q E) t
section
variable {P : Program} {w : World} {K : PySem.W.Frag} {mg : Str → Option Value} {base : Heap} {CX : CXT} {k : Nat} {f : Addr} {sp : Sp}
theorem FnG.mono {j : Nat} (F : FnG P w K mg base CX j f sp) (h : j ≤ k) : FnG P w K mg base CX k f sp := fun A fs t H us vs Q E r => F A fs t H us vs Q E (r.mono h)
theorem fnG_of {x qual : Str} {params : Arguments} {body : List Stmt} {scope : Scope} {kws : List (Str × V)} {fd : FuncData} {N ps : List Str} (F : FunD K x qual params body scope [] kws f fd) (S : FnScope N ps scope) (hb : Binds K fd ps [])
    (hl : ∀ vs H Q E, sp vs H Q E → vs.length = ps.length)
    (hbody : ∀ cdv A fs t H vs Q E, RmG k (A.deeper (envOfC qual scope t.heap.objs.size f cdv)) → sp vs H Q E → ∃ tt, PSs (cxOf CX P w K mg base N qual scope f cdv A fs t H E) body tt ∧ tt { nx := fun _ H' => Q .non H', rt := Q } (L2.start N vs) H) :
    FnG P w K mg base CX (k + 1) f sp := by
  intro A fs t H us vs Q E hr e0 rv h
  obtain ⟨oc, od, dV, kV, doc, pm, an, cdv, ct, osl, efd, lk, hcd, _, _⟩ := F.ex
  have KX : K.In t.heap := e0.mod.kin.keeps fun b o z => (e0.bs b o z).1
  have hlen : us.length = ps.length := rv.length.symm.trans (hl _ _ _ _ h)
  have hbt := hb t us KX (by rw [List.append_nil]; exact hlen)
  rw [List.append_nil] at hbt
  rw [efd] at lk hbt
  refine codeAny_call_function hr.rm.depth (KX _ _ lk) rfl S.co S.gen rfl (PySem.W.codeRec_of KX hcd) (hbt _ _ _ _ ?_)
  refine wpAny_newFunctionEnv_cells S.kind (fun y hy => ?_) fun env he t1 inc => ?_
  · exact (S.par y.1 (List.of_mem_zip hy).1).elim .inl fun z => .inr ⟨z, PySem.W.cellsFrom_some _ _ _ (.inl z)⟩
  · subst he
    obtain ⟨tt, hp, hq⟩ := hbody cdv A fs t H vs Q E (hr.deeper _) h
    have hnl : t.heap.NoLimit := e0.mod.nolimit.keeps fun b o z => (e0.bs b o z).1
    refine ⟨hnl.keeps inc.toInCall.keep, codeAny_func (wpAny_mono (hp.run [] t1 _ _ _ (inv_start S hr.rm.hd e0 (hl _ _ _ _ h) rv inc) hq) (fun fl t2 z => ?_) fun _ _ z => z)⟩
    cases fl with
    | ret u =>
      obtain ⟨v, _, H2, J, r2, q2⟩ := z
      exact ⟨v, H2, J.os, J.bare, J.base, J.hok, r2, q2⟩
    | next =>
      obtain ⟨_, H2, J, q2⟩ := z
      exact ⟨.non, H2, J.os, J.bare, J.base, J.hok, rfl, q2⟩
    | brk => exact z.elim fun _ z => z.elim fun _ z => z.2.elim
    | cont => exact z.elim fun _ z => z.elim fun _ z => z.2.elim
end
section
variable {X : Cx} {CX : CXT} {k : Nat} {f : Addr} {sp : Sp} {E : XK} {x : Str} {e : Expr} {es : List Expr} {t : TA} {p pos : Pos}
theorem call_fnG {pins : List (Addr × Obj)} {σ : L2.St} {H : Hp} {s : Shared} {Q : VK} {us : List Value} {vs : List V} (F : FnG X.prog X.w X.K X.mg X.base CX k f sp) (hr : RmG k X.A) (hx : Passes CX X E) (I : Inv X pins σ H s) (rv : Vals vs us) (h : sp vs H Q E) :
    wpAny (model X.prog X.w) X.A (call (.ref f) us) (EP X pins σ Q) X.xe s :=
  wpAny_call (codeAny_mono (F X.A X.stack s H us vs Q E hr I.env0 rv h) fun r s2 z => match r, z with
    | .error y, z => hx _ _ _ _ y s2 I z
    | .ok (.ret u), z => I.after z
    | .ok .next, z => z.elim
    | .ok .brk, z => z.elim
    | .ok .cont, z => z.elim)
theorem pe_fnG (F : FnG X.prog X.w X.K X.mg X.base CX k f sp) (hr : RmG k X.A) (hg : Gl X x) (hm : X.mg x = some (.ref f)) (hk : PySem.W.keepIn X.K (.ref f) = true) (hx : Passes CX X E) (ha : PA X (e :: es) t)
    (hdb : (x == ("__debug__" : Str)) = false := by decide) (he : starEach (e :: es) X.env = (false, eval e X.env) :: starEach es X.env := by rfl)
    (hpl : (backTo pos (starEach es X.env)).any (·.1) = false := by rfl) : PE X (.Call (.Name x p) (e :: es) [] pos) (tFn sp E t) := ⟨fun pins s σ H Q I h =>
  wpAny_Call_Name_kw (ld_glob I hg hm (PySem.W.callWith_K (h₀ := X.base) I.ok.mod.kin hk
    (thn (ha.run pos pins s σ H _ I h) fun us s1 ⟨vs, H1, I1, r, q⟩ => ⟨I1.kIn, call_fnG F hr hx I1 r q⟩) he hpl) hdb)⟩
/-! ### repr -/
def rReprG (K : PySem.W.Frag) : List V → Hp → VK → Prop := fun xs H Q => ∃ x d, xs = [x] ∧ Dp K H x d ∧ d.showable = true ∧ d.hasDict = false ∧ d.depth ≤ 16 ∧ d.shown.length ≤ sizeLine ∧ Q (.str d.shown) H
theorem call_reprG (hr : RmG k X.A) : CallR X (.builtin "repr") (rReprG X.K) := by
  intro pins s σ H xs us Q I r h
  obtain ⟨x, d, rfl, hd, h1, h2, h3, h4, q⟩ := h
  obtain ⟨u, rfl, ru⟩ := vals1 r
  obtain ⟨as, hR⟩ := Dp.reads I d x u hd ru
  have hu := hr.rm.units
  cases hR with
  | none => exact PySem.P.repr_of_none ⟨.str _, H, I.tok _, ⟨_, rfl⟩, q⟩
  | bool b => exact PySem.P.repr_of_bool ⟨.str _, H, I.tok _, ⟨_, rfl⟩, q⟩
  | int i t => exact PySem.P.repr_of_int (of_decide_eq_true h1) ⟨.str _, H, I.tok _, ⟨_, rfl⟩, q⟩
  | str y t => exact PySem.P.repr_of_str ⟨.str _, H, I.tok _, ⟨_, rfl⟩, q⟩ h4
  | list a1 a2 a3 a4 => exact repr_of_reads' (.list a1 a2 a3 a4) h1 (fun z => by rw [h2] at z; cases z) hr.gd (by omega) (fun _ _ z => z) (fun h' u tk hk => ⟨.str _, H, I.kept hk, ⟨_, rfl⟩, q⟩) h4
  | tuple a1 a2 a3 a4 => exact repr_of_reads' (.tuple a1 a2 a3 a4) h1 (fun z => by rw [h2] at z; cases z) hr.gd (by omega) (fun _ _ z => z) (fun h' u tk hk => ⟨.str _, H, I.kept hk, ⟨_, rfl⟩, q⟩) h4
  | dict => simp [PyData.hasDict] at h2
end
/-! ### the law's end -/
section
variable {P : Program} {w : World} {K : PySem.W.Frag} {mg mb : Str → Option Value}
theorem entry {s : Shared} {a : Addr} {vs : List Value} {ns : List Int} (KX : K.In s.heap) (hns : s.heap.Ns mainGlobals mg) (hb : s.heap.Ns builtinsNs mb) (hbb : ∀ x : Str, x ≠ "__name__" → mb x = bootBuiltins x) (hlim : s.heap.NoLimit) (hg : s.gens = #[])
    (ha : s.heap.get? a = some { cls := .type "list", data := .seq vs.toArray }) (hi : IntsAre vs ns) (hl : ns.length ≤ sizeLine) :
    ∃ (H : Hp) (base : Heap), K.In base ∧ base.Ns mainGlobals mg ∧ Env0 P w K mg base callerA [] s H ∧ Only H ∧ SqL K H a (ns.map V.int) := by
  have rv := vals_ints hi
  have hlv := hi.length
  have key : ∀ H : Hp, (∀ b, H b ≠ none → b = a) → (H a ≠ none → K.lookup a = none) → HOk P w H s.heap → K.In (hidT s.heap H) ∧ (hidT s.heap H).Ns mainGlobals mg ∧ Env0 P w K mg (hidT s.heap H) callerA [] s H := by
    intro H h1 h2 hok
    have keepD : ∀ {b m}, s.heap.Ns b m → (hidT s.heap H).Ns b m := by
      rintro b m ⟨o, es, ep, z, d, r⟩
      refine ⟨o, es, ep, hidT_get z ?_, d, r⟩
      apply Classical.byContradiction
      intro n
      obtain rfl := h1 b n
      rw [ha] at z
      cases z
      exact nomatch d
    have kin : K.In (hidT s.heap H) := by
      intro b o z
      refine hidT_get (KX b o z) ?_
      apply Classical.byContradiction
      intro n
      obtain rfl := h1 b n
      rw [h2 n] at z
      cases z
    obtain ⟨mc, l1, l2⟩ := hlim
    exact ⟨kin, keepD hns, rfl, ⟨kin, keepD hns, ⟨mb, keepD hb, hbb⟩, ⟨mc, keepD l1, l2⟩⟩, fun b o z => of_hidT z, Nat.le_of_eq (hidT_size _ _), trivial, fun b z => (nomatch z), hok, .of_eq hg⟩
  cases hk : K.lookup a with
  | some o =>
    have z := KX a o hk
    rw [ha] at z
    obtain rfl := (Option.some.inj z).symm
    obtain ⟨k1, k2, k3⟩ := key (fun _ => none) (fun b n => (n rfl).elim) (fun n => (n rfl).elim) fun b u n => nomatch (show (none : Option HO) = some u from n)
    exact ⟨_, _, k1, k2, k3, fun _ => .inl rfl, .inr ⟨_, vs.toArray, _, hk, rfl, rfl, rfl, by rw [List.size_toArray, hlv]; exact hl, by simpa using rv⟩⟩
  | none =>
    have n1 : ∀ b, (if b = a then some (HO.frz { cls := .type "list", data := .seq vs.toArray } (.lst (ns.map V.int))) else none) ≠ none → b = a := fun b n => Classical.byContradiction fun m => n (if_neg m)
    obtain ⟨k1, k2, k3⟩ := key (fun b => if b = a then some (.frz { cls := .type "list", data := .seq vs.toArray } (.lst (ns.map V.int))) else none) n1 (fun _ => hk) fun b u n => by
      have e : b = a := Classical.byContradiction fun m => by
        have n' := (if_neg m).symm.trans n
        cases n'
      subst e
      have m := (if_pos rfl).symm.trans n
      cases m
      exact ⟨ha, by rw [List.length_map]; exact hl, vs, _, rv, ha⟩
    refine ⟨_, _, k1, k2, k3, fun b => ?_, .inl (.inr ⟨_, if_pos rfl⟩)⟩
    by_cases m : b = a
    · exact .inr ⟨_, _, if_pos m⟩
    · exact .inl (if_neg m)
end
end Tw
/-! Tw: an own error's __init__ that begins with super().__init__(..) -/
namespace Tw
open PySem PySem.Spec PyProof.Rows L2 PySem.W PySem.Calls NdefX
structure SupF (K : Frag) (P : Program) (C cc cda : Addr) : Prop where
  par : OexC K C
  opq : nsIn K cStatics "thirdparty.any" = some none
  sup : ks_superIn K C C "__init__" = some (some (.builtin "ValueError.__init__"))
  sub : subIn K (.ref C) (.type "ValueError") = some true
  own : mroIn K C (.ref C) = some true
  cell : ∃ cl cld csl, K.lookup cc = some ⟨cl, cld, .cell (some (.ref C)), csl⟩
  code : ∃ ccl cdd vs ccs file tf, K.lookup cda = some ⟨ccl, cdd, .fields vs, ccs⟩ ∧ vs[2]? = some (.str file tf) ∧ ((P.main.file : PySem.Str) == file) = true
  top : (P.main.scope.names.lookup ("super" : PySem.Str)).isSome = false
abbrev erF (name qual : PySem.Str) (params : Arguments) (body : List Stmt) (scope : Scope) (cc cda : Addr) : NF := ⟨name, qual, params, body, scope, [("__class__", cc)], cda⟩
theorem call_mw {prog : Program} {w : World} {A : Around} {E : Value → Shared → Prop} {h : Heap} {g : Array GenState} {d : PySem.Drawn} {t : Nat} {os : OsState} {nm q : PySem.Str} {C N : Addr} {bs bm : List Value} {hd : Bool} {sn : List PySem.Str} {sub : List Value} {ab : Bool} {col : Option Bool} {dd : Option Addr}
    {k0 k1 k2 k3 k5 : Option Value} {u x t0 : Addr} {vs : List Value} {Q : Value → Shared → Prop}
    (hC : h.get? C = some (excClassObj nm q C N bs bm hd sn sub ab col dd k0 k1 k2 k3 k5 "ValueError.__new__")) (hx : h.get? x = some (excObj C t0 none .none)) (hu : h.get? u = some (kxs_mw "ValueError.__init__" x)) (hz : vs.length ≤ sizeLine)
    (hq : ∀ h' t1, (∀ b o, b ≠ x → h.get? b = some o → h'.get? b = some o) → h'.get? x = some (excObj C t1 none .none) → Q .none ⟨h', g, d, t, os⟩) :
    wpAny (model prog w) A (call (.ref u) vs) Q E ⟨h, g, d, t, os⟩ := by
  refine wpAny_call (codeAny_of_tree ?_)
  show wpAny _ A.in1 (callAny (.ref u) ⟨vs, []⟩) _ _ _
  simp only [callAny]
  refine wpAny_bind (wpAny_load hu ?_)
  have em : (Value.type "method-wrapper" == Value.type "method" || Value.type "method-wrapper" == Value.type "builtin_function_or_method" || Value.type "method-wrapper" == Value.type "method-wrapper") = true := by decide
  simp only [kxs_mw, em, if_true]
  refine KFB.if_so (by decide) ?_
  refine wpAny_bind (check_bound_init PySem.F.excBase_ValueError.toExcCallFacts hC hx rfl ?_)
  exact wpAny_bind (wpAny_pure (wpAny_pure ⟨plainId_quiet PySem.F.excBase_ValueError.init.plain _, codeAny_builtin PySem.F.excBase_ValueError.initEntry (exc_init_tree (cls := .ref C) (t0 := t0) (dv := none) (c2 := .none) (c3 := .none) (b4 := .bool false) hx hz fun h' k e _ => hq h' _ k e)⟩))
abbrev suB (text : PySem.Str) (j : Nat) (p0 p1 p2 p3 p4 pc : Pos) (rest : List Stmt) : List Stmt := .Expr (.Call (.Attribute (.Call (.Name "super" p0) [] [] p1) "__init__" p2) [.Constant (.str text) j pc] [] p3) p4 :: rest
section
variable {CX : CXT} {P : Program} {w : World} {K : Frag} {mg : PySem.Str → Option Value} {base : Heap} {N ps : List PySem.Str} {k : Nat} {C fI cc cda : Addr} {name qual : PySem.Str} {params : Arguments} {scope : Scope} {rest : List Stmt} {text : PySem.Str} {p0 p1 p2 p3 p4 pc : Pos} {j : Nat}
  {dV kV doc pm ct oc : Value} {an od : Option Addr} {osl : Array (Option Value)} {ar : Arg} {sp : Sp}
theorem ok_er (T : SupF K P C cc cda)
    (lk : K.lookup fI = some ⟨oc, od, .func (fnX name qual params (suB text j p0 p1 p2 p3 p4 pc rest) scope [("__class__", cc)] dV kV doc pm an (.ref cda) ct), osl⟩)
    (hcd : codeIn K (.ref cda) qual = true) (S : NScope N ps ["__class__"] scope) (hpar : (params.posonlyargs ++ params.args).head? = some ar) (hps : ps.head? = some ar.arg)
    (hks : scope.names.lookup ("super" : PySem.Str) = some .globalImplicit) (hms : mg "super" = none)
    (hi : ∀ L, interactive (envF (erF name qual params (suB text j p0 p1 p2 p3 p4 pc rest) scope cc cda) fI L) = false)
    (hsw : ∀ L, swapsWith (.Call (.Attribute (.Call (.Name "super" p0) [] [] p1) "__init__" p2) [.Constant (.str text) j pc] [] p3) none p4.line (envF (erF name qual params (suB text j p0 p1 p2 p3 p4 pc rest) scope cc cda) fI L) = pure false)
    (hev : ∀ L, ∃ pl : Sem Bool, eval (.Call (.Attribute (.Call (.Name "super" p0) [] [] p1) "__init__" p2) [.Constant (.str text) j pc] [] p3) (envF (erF name qual params (suB text j p0 p1 p2 p3 p4 pc rest) scope cc cda) fI L) = (do
      let ov ← attributeBase (.Call (.Name "super" p0) [] [] p1) "__init__" (envF (erF name qual params (suB text j p0 p1 p2 p3 p4 pc rest) scope cc cda) fI L) (eval (.Call (.Name "super" p0) [] [] p1) (envF (erF name qual params (suB text j p0 p1 p2 p3 p4 pc rest) scope cc cda) fI L))
      standAt p2.atName
      let (f, first) ← holding [ov] (getMethod ov "__init__" pl)
      callWith p3 f first (backTo p3 (starEach [.Constant (.str text) j pc] (envF (erF name qual params (suB text j p0 p1 p2 p3 p4 pc rest) scope cc cda) fI L))) []))
    (len : ∀ vs H Q E, sp vs H Q E → vs.length = ps.length)
    (hbody : ∀ (A : Around) (outer : List Env) (s : Shared) (H : Hp) (vs : List V) (Q : VK) (E : XK), Room k (A.deeper (envF (erF name qual params (suB text j p0 p1 p2 p3 p4 pc rest) scope cc cda) fI s.heap.objs.size)) → sp vs H Q E →
      ∃ t, PSs (ncx CX P w K mg base N (erF name qual params (suB text j p0 p1 p2 p3 p4 pc rest) scope cc cda) fI A outer s H E) rest t ∧ ∃ x ws, vs = .ref x :: ws ∧ H x = some (exo x C none) ∧ t { nx := fun _ H' => Q .non H', rt := Q } (startF N vs [none]) H) :
    FnOk P w K mg base CX (k + 1) fI (fnX name qual params (suB text j p0 p1 p2 p3 p4 pc rest) scope [("__class__", cc)] dV kV doc pm an (.ref cda) ct) ps sp := by
  refine ⟨len, fun A outer s H args us vs Q E hr e0 hb r hsp => ?_⟩
  obtain ⟨cl, cld, csl, hcell⟩ := T.cell
  obtain ⟨ccl, cdd, vv, ccs, file, tf, hcode, hvs, hfile⟩ := T.code
  have up0 : ∀ b o, base.get? b = some o → s.heap.get? b = some o := fun b o z => (e0.bs b o z).1
  have KX : K.In s.heap := e0.mod.kin.keeps up0
  have hl := len _ _ _ _ hsp
  have lim : s.heap.NoLimit := e0.mod.nolimit.keeps up0
  have CA : CellsAt (erF name qual params (suB text j p0 p1 p2 p3 p4 pc rest) scope cc cda).cl ["__class__"] [none] s.heap H := by
    have key : ∀ {y c}, List.lookup y [(("__class__" : PySem.Str), cc)] = some c → c = cc := fun {y c} z => by
      have q1 := PySem.mem_of_lookup z
      simp only [List.mem_singleton, Prod.mk.injEq] at q1
      exact q1.2
    refine ⟨rfl, fun y c z => ?_, fun y y' c z z' => ?_, fun i y hi => ?_⟩
    · obtain rfl := key z
      exact ⟨(e0.bs _ _ (e0.mod.kin _ _ hcell)).2, some (.ref C), ⟨_, KX _ _ hcell, rfl⟩⟩
    · have q1 := mem_of_lookup z
      have q2 := mem_of_lookup z'
      simp only [List.mem_singleton, Prod.mk.injEq] at q1 q2
      rw [q1.1, q2.1]
    · cases i with
      | zero =>
        obtain rfl : "__class__" = y := Option.some.inj hi
        exact ⟨cc, rfl, fun v z => by cases z⟩
      | succ i => cases hi
  refine codeAny_call_function hr.depth (KX _ _ lk) rfl S.co S.gen rfl (codeRec_of KX hcd) (hb _ _ _ _ ?_)
  refine wpAny_newFunctionEnv S.nocell (fun ⟨n, _⟩ hy => S.par n (List.of_mem_zip hy).1) (fun h₁ hns hsb => ⟨lim.fresh _ hsb, ?_⟩) S.kind
  have kp : ∀ b o, s.heap.get? b = some o → h₁.get? b = some o := fun b o z => hsb.extBut b o (Nat.ne_of_lt (Heap.lt_size z)) (Heap.get?_push_of_some _ z)
  have lf := KX _ _ lk
  have ki := kp _ _ lf
  have K1 : K.In h₁ := KX.keeps kp
  have I0 := inv_startN (CX := CX) (E := E) (N := N) (F := erF name qual params (suB text j p0 p1 p2 p3 p4 pc rest) scope cc cda) (f := fI) (tk := s.toks + (ps.zip us).length) S hr.hd e0 hl r CA hns kp
  obtain ⟨t, ht, x, ws, rfl, hx, hq⟩ := hbody A outer s H vs Q E (hr.deeper _) hsp
  obtain ⟨nm, qn, NN, bs, bm, sn, sub, ab, col, dd, k0, k1, k2, k3, k5, hC, hbm⟩ := T.par.cls
  have hclC : clsIn K C = some { name := nm, bases := bs, mro := .ref C :: bm, ns := NN, qualname := qn, hasDict := true, slotNames := sn, subclasses := sub, abstract := ab, collection := col, hasDel := false } := by unfold clsIn; rw [hC] <;> rfl
  obtain ⟨t1, hxo⟩ := exo_at e0.hok hx
  show codeAny _ _ (.func (suB text j p0 p1 p2 p3 p4 pc rest) (envF (erF name qual params (suB text j p0 p1 p2 p3 p4 pc rest) scope cc cda) fI s.heap.objs.size)) _ _
  refine ks_codeAny_funcAt (ks_wpAt_execs_cons ?_)
  obtain ⟨pl, hpl⟩ := hev s.heap.objs.size
  have hii := hi s.heap.objs.size
  have hss := hsw s.heap.objs.size
  obtain ⟨env, henv⟩ : ∃ env, envF (erF name qual params (suB text j p0 p1 p2 p3 p4 pc rest) scope cc cda) fI s.heap.objs.size = env := ⟨_, rfl⟩
  rw [henv] at hpl hii hss
  rw [henv]
  refine ks_wpAt_Expr_any (ks_wpAt_MethodCall (he := hpl) ?_) hii hss
  subst henv
  refine ks_wpAt_super_base (f := fI) (cc := cda) hks (S.frk _ (List.mem_singleton.mpr rfl)) rfl rfl ki rfl hpar rfl (K1 _ _ hcode) rfl hvs hfile T.top ?_
  obtain ⟨mb, hb1, hb2⟩ := e0.mod.blt
  have up1 : ∀ b o, base.get? b = some o → h₁.get? b = some o := fun b o z => kp _ _ (up0 _ _ z)
  refine ks_loadName_global S.kind hks (loadGlobal_builtin (e0.mod.glob.keeps up1) hms (hb1.keeps up1) ((hb2 "super" (by decide)).trans (by decide +kernel)) ⟨rfl, ?_⟩)
  refine wpAny_loadName_free S.kind (S.frk _ (List.mem_singleton.mpr rfl)) rfl ⟨_, K1 _ _ hcell, rfl⟩ ?_
  cases r with
  | @cons _ u0 _ us' ra rw' =>
  obtain rfl : u0 = Value.ref x := ra
  have hpn : ps.Nodup := by
    have q := S.nd.sublist (List.take_sublist (ps.length + 1) N)
    have e := S.pre
    rw [show (["__class__"] : List PySem.Str).length = 1 from rfl] at e
    rw [e] at q
    exact (List.nodup_append.mp q).1
  have hp0 : ps[0]? = some ar.arg := by rw [← List.head?_eq_getElem?]; exact hps
  refine wpAny_loadName_local S.kind (S.par _ (List.mem_of_getElem? hp0)) hns (zip_look (i := 0) hpn hp0 rfl) ?_
  have hx1 := kp _ _ hxo
  have hC1 := K1 _ _ hC
  refine ks_wpAny_isType_cls hC1 rfl ⟨rfl, ?_⟩
  have hxC : x ≠ C := fun z => by rw [z, hC1] at hx1; cases hx1
  refine ks_wpAny_call_super hC1 rfl hx1 rfl (fun c z => by cases z) (looks_mroIn K1 T.own) fun h2 e2 k2' => ?_
  have K2 : K.In h2 := K1.keeps k2'
  have hx2 := k2' _ _ hx1
  have hsup := T.sup
  unfold ks_superIn at hsup
  rw [hclC] at hsup
  refine kxs_getMethod kxs_ValueError e2 (looks_opaque K2 T.opq) ((looks_clsIn K2 hclC).andThen .now) rfl K2 hsup (InstAt.type (C := C) (od := none) ⟨hx2, rfl, rfl, trivial⟩ |>.andThen (looks_subIn K2 T.sub)) hxC rfl ?_
  have k3' : ∀ b o, h₁.get? b = some o → (h2.push (kxs_mw "ValueError.__init__" x)).get? b = some o := fun b o z => Heap.get?_push_of_some _ (k2' _ _ z)
  have hu3 : (h2.push (kxs_mw "ValueError.__init__" x)).get? h2.objs.size = some (kxs_mw "ValueError.__init__" x) := Heap.get?_push_at rfl rfl
  generalize h2.push (kxs_mw "ValueError.__init__" x) = h3 at *
  have hx3 := k3' _ _ hx1
  have hC3 := k3' _ _ hC1
  refine kxs_callWith (i := "ValueError.__init__") (x := x) rfl (evalArgs_plain (spliced_more (Calls.Constant_str (spliced_none ⟨hu3, ?_⟩))))
  refine call_mw hC3 hx3 hu3 (by show (1 : Nat) ≤ 16777216; decide) fun h4 t4 k4 hx4 => ?_
  have I4 := (I0.kept (t' := s.toks) (h' := h3) k3').write (t' := s.toks) (x := x) (e := x) (o := exo x C none) (h' := h4) (by rw [hx]; exact True.intro) (.inl rfl) k4 ⟨_, hx4⟩ (exo_ok hx4)
  have eu : upd H x (exo x C none) = H := by
    funext b
    by_cases hb : b = x
    · rw [hb, upd_same, hx]
    · rw [upd_ne hb]
  rw [eu] at I4
  refine wpAt_of_wpAny ?_
  have I5 := I4.tok (s.toks + (ps.zip (Value.ref x :: us')).length + 1 + 1)
  refine wpAny_mono (ht.run [] _ (startF N (.ref x :: ws) [none]) H _ I5 hq) (fun fl s' hs => ?_) fun e s' hs => hs
  have fin : ∀ {σ' : L2.St} {H' : Hp} {v : V} {u : Value}, Inv (ncx CX P w K mg base N (erF name qual params (suB text j p0 p1 p2 p3 p4 pc rest) scope cc cda) fI A outer s H E) [] σ' H' s' → L2.RelV v u → Q v H' → CE outer P w H s Q u s' :=
    fun {σ' H' v u} J rv q => ⟨v, H', J.os, J.bare, J.base, J.hok, rv, q⟩
  cases fl with
  | ret u =>
    obtain ⟨v, σ', H', J, rv, q⟩ := hs
    exact fin J rv q
  | next =>
    obtain ⟨σ', H', J, q⟩ := hs
    exact fin (v := V.non) (u := Value.none) J rfl q
  | brk =>
    obtain ⟨_, _, _, q⟩ := hs
    exact False.elim q
  | cont =>
    obtain ⟨_, _, _, q⟩ := hs
    exact False.elim q
end
end Tw
/-! Tw: own errors over ValueError: facts by Bools, the raise of one -/
namespace Tw
open PySem PySem.Spec PyProof.Rows L2 He PySem.W PySem.Calls NdefX
/-! ### what the written part says -/
def clsE (K : Frag) (C : Addr) : Bool := match K.lookup C with
  | some ⟨.type t, _, .cls cd, sl⟩ => decide (t = "type") && (match cd.mro, sl.toList with
    | .ref D :: bm, [_, _, _, _, some (.builtin n), _] => decide (D = C) && (decide (n = "ValueError.__new__") && (!cd.hasDel && (cd.hasDict && HandSPX.refsVE bm)))
    | _, _ => false)
  | _ => false
theorem clsE_ok {K : Frag} {C : Addr} (h : clsE K C = true) : ∃ nm q N bs bm sn sub ab col dd k0 k1 k2 k3 k5, K.lookup C = some (excClassObj nm q C N bs bm true sn sub ab col dd k0 k1 k2 k3 k5 "ValueError.__new__") ∧ HandSPX.refsVE bm = true := by
  unfold clsE at h
  split at h
  · rename_i t dd cd sl ho
    obtain ⟨h1, h2⟩ := ba h
    obtain rfl := of_decide_eq_true h1
    split at h2
    · rename_i D bm k0 k1 k2 k3 n k5 hm hs
      obtain ⟨a1, h2⟩ := ba h2
      obtain ⟨a2, h2⟩ := ba h2
      obtain ⟨a3, h2⟩ := ba h2
      obtain ⟨a4, a5⟩ := ba h2
      obtain rfl := of_decide_eq_true a1
      obtain rfl := of_decide_eq_true a2
      obtain ⟨nm, bs, mro, ns, qn, hd, sn, sub, ab, col, del⟩ := cd
      dsimp only at hm a3 a4
      subst hm
      subst a4
      have hdel : del = false := by simpa using a3
      subst hdel
      have hsl : sl = #[k0, k1, k2, k3, some (.builtin "ValueError.__new__"), k5] := Array.toList_inj.mp hs
      subst hsl
      exact ⟨nm, qn, ns, bs, bm, sn, sub, ab, col, dd, k0, k1, k2, k3, k5, ho, a5⟩
    · cases h2
  · cases h
def celA (K : Frag) (f : Addr) : Addr := match K.lookup f with
  | some ⟨_, _, .func fd, _⟩ => (match fd.closure with
    | [(_, c)] => c
    | _ => 0)
  | _ => 0
def codA (K : Frag) (f : Addr) : Addr := match K.lookup f with
  | some ⟨_, _, .func fd, _⟩ => (match fd.code with
    | .ref c => c
    | _ => 0)
  | _ => 0
def tbA (K : Frag) (f : Addr) : Addr := match K.lookup (codA K f) with
  | some ⟨_, _, .fields vs, _⟩ => (match (vs[11]? : Option Value) with
    | some (.ref p) => p
    | _ => 0)
  | _ => 0
def fnC (K : Frag) (a : Addr) : FnW := match K.lookup a with
  | some ⟨_, _, .func fd, _⟩ => some (fd.name, fd.qualname, fd.params, fd.body, fd.scope, fd.globals, [], fd.builtins)
  | _ => none
def fnE (K : Frag) (C f : Addr) (file qual : PySem.Str) : Bool := keepIn K (.ref f) && match K.lookup f with
  | some ⟨_, _, .func fd, _⟩ => decide (fd.closure = [(("__class__" : PySem.Str), celA K f)]) && (decide (fd.code = .ref (codA K f)) && (codeIn K fd.code qual && (decide (fd.defaults = .none) && ((match K.lookup (celA K f) with
    | some ⟨_, _, .cell (some (.ref D)), _⟩ => decide (D = C)
    | _ => false) && (match K.lookup (codA K f) with
    | some ⟨_, _, .fields vs, _⟩ => (match (vs[2]? : Option Value) with
      | some (.str y _) => file == y
      | _ => false)
    | _ => false)))))
  | _ => false
theorem fnE_ok {K : Frag} {C f : Addr} {file qual name : PySem.Str} {params : Arguments} {body : List Stmt} {scope : Scope} (h : fnE K C f file qual = true) (e : fnC K f = some (name, qual, params, .stmts body, scope, mainGlobals, [], builtinsNs)) :
    (∃ (oc : Value) (od : Option Addr) (kV doc pm ct : Value) (an : Option Addr) (osl : Array (Option Value)), K.lookup f = some ⟨oc, od, .func (fnX name qual params body scope [(("__class__" : PySem.Str), celA K f)] .none kV doc pm an (.ref (codA K f)) ct), osl⟩) ∧
    codeIn K (.ref (codA K f)) qual = true ∧ keepIn K (.ref f) = true ∧ (∃ cl cld csl, K.lookup (celA K f) = some ⟨cl, cld, .cell (some (.ref C)), csl⟩) ∧
    ∃ ccl cdd vs ccs y tf, K.lookup (codA K f) = some ⟨ccl, cdd, .fields vs, ccs⟩ ∧ vs[2]? = some (.str y tf) ∧ (file == y) = true := by
  obtain ⟨kp, h⟩ := ba h
  unfold fnC at e
  cases q : K.lookup f with
  | none =>
    rw [q] at h
    cases h
  | some o =>
    obtain ⟨oc, od, dt, osl⟩ := o
    rw [q] at h e
    cases dt with
    | func fd =>
      dsimp only at h e
      obtain ⟨h1, h⟩ := ba h
      obtain ⟨h2, h⟩ := ba h
      obtain ⟨h3, h⟩ := ba h
      obtain ⟨h4, h⟩ := ba h
      obtain ⟨h5, h6⟩ := ba h
      replace h1 := of_decide_eq_true h1
      replace h2 := of_decide_eq_true h2
      have g4 : fd.defaults = .none := by simpa using h4
      simp only [Option.some.injEq, Prod.mk.injEq] at e
      obtain ⟨e1, e2, e3, e4, e5, e6, _, e8⟩ := e
      obtain ⟨n1, n2, n3, n4, n5, n6, n7, n8, n9, n10, n11, n12, n13, n14, n15⟩ := fd
      dsimp only at h1 h2 h3 g4 e1 e2 e3 e4 e5 e6 e8
      clear h4
      subst e1 e2 e3 e4 e5 e6 e8 g4
      rw [h2] at h3
      rw [h1, h2]
      refine ⟨⟨oc, od, _, _, _, _, _, osl, rfl⟩, h3, kp, ?_, ?_⟩
      · split at h5
        · rename_i a b D d hl
          obtain rfl := of_decide_eq_true h5
          exact ⟨_, _, _, hl⟩
        · cases h5
      · split at h6
        · rename_i a b vs d hl
          split at h6
          · rename_i y tf hv
            exact ⟨_, _, _, _, _, _, hl, hv, h6⟩
          · cases h6
        · cases h6
    | _ => cases h
def bErr (x fld file qual : PySem.Str) (K : Frag) : Bool := clsE K (ga K x) && (fnE K (ga K x) (ma K (ga K x) "__init__") file qual && (eqO (findIn K (.ref (ga K x)) "__init__") (some (some (.ref (ma K (ga K x) "__init__")))) &&
  (eqO (findIn K (.ref (ga K x)) "__setattr__") (some (some (.builtin "object.__setattr__"))) && (eqO (findIn K (.ref (ga K x)) fld) (some none) && (eqO (nsIn K cStatics "thirdparty.any") (some none) &&
  (eqO (ks_superIn K (ga K x) (ga K x) "__init__") (some (some (.builtin "ValueError.__init__"))) && (decide (subIn K (.ref (ga K x)) (.type "ValueError") = some true) && (decide (mroIn K (ga K x) (.ref (ga K x)) = some true) &&
  (decide (subIn K (.ref (ga K x)) (.type "BaseException") = some true) && (decide (typeIn K (.ref (ga K x)) = some (.type "type")) && (keepIn K (.ref (ga K x)) && (decide (typeIn K (.ref (ma K (ga K x) "__init__")) = some (.type "function")) &&
  (eqO (findIn K (.ref (ga K x)) "__getattribute__") (some (some (.builtin "BaseException.__getattribute__"))) && (eqO (findIn K (.ref (ga K x)) "__getattr__") (some none) && hasDictIn K (ga K x)))))))))))))))
structure ErrF (K : Frag) (x fld file qual : PySem.Str) : Prop where
  oex : OexC K (ga K x)
  fn : fnE K (ga K x) (ma K (ga K x) "__init__") file qual = true
  ini : findIn K (.ref (ga K x)) "__init__" = some (some (.ref (ma K (ga K x) "__init__")))
  no : findIn K (.ref (ga K x)) fld = some none
  opq : nsIn K cStatics "thirdparty.any" = some none
  sup : ks_superIn K (ga K x) (ga K x) "__init__" = some (some (.builtin "ValueError.__init__"))
  sub : subIn K (.ref (ga K x)) (.type "ValueError") = some true
  own : mroIn K (ga K x) (.ref (ga K x)) = some true
  tfn : typeIn K (.ref (ma K (ga K x) "__init__")) = some (.type "function")
  xf : XfC K (ga K x)
theorem err_ok {x fld file qual : PySem.Str} {K : Frag} (h : bErr x fld file qual K = true) : ErrF K x fld file qual := by
  obtain ⟨h1, h⟩ := ba h
  obtain ⟨h2, h⟩ := ba h
  obtain ⟨h3, h⟩ := ba h
  obtain ⟨h4, h⟩ := ba h
  obtain ⟨h5, h⟩ := ba h
  obtain ⟨h6, h⟩ := ba h
  obtain ⟨h7, h⟩ := ba h
  obtain ⟨h8, h⟩ := ba h
  obtain ⟨h9, h⟩ := ba h
  obtain ⟨h10, h⟩ := ba h
  obtain ⟨h11, h⟩ := ba h
  obtain ⟨h12, h⟩ := ba h
  obtain ⟨h13, h⟩ := ba h
  obtain ⟨h14, h⟩ := ba h
  obtain ⟨h15, h16⟩ := ba h
  exact ⟨⟨clsE_ok h1, eqO_ok h4, of_decide_eq_true h10, of_decide_eq_true h11, h12⟩, h2, eqO_ok h3, eqO_ok h5, eqO_ok h6, eqO_ok h7, of_decide_eq_true h8, of_decide_eq_true h9, of_decide_eq_true h13,
    ⟨eqO_ok h14, eqO_ok h15, of_decide_eq_true h10, h16⟩⟩
end Tw
/-! Tw: the Hook of a law with own errors and with tables of codes -/
namespace Tw
open PySem PySem.Spec PyProof.Rows L2 He PySem.W
structure ErA where
  cls : PySem.Str
  name : PySem.Str
  qual : PySem.Str
  params : Arguments
  body : List Stmt
  scope : Scope
def ErA.val (d : ErA) : FnW := some (d.name, d.qual, d.params, .stmts d.body, d.scope, mainGlobals, [], builtinsNs)
def ErA.got (K : Frag) (d : ErA) : FnW := fnC K (ma K (ga K d.cls) "__init__")
abbrev tab0 : Obj := { cls := .none, data := .fields #[] }
abbrev AlE : Type := AlM × (List FnW × List (Option Obj))
def obsE (as : List Addr) (fa : List Fa) (fb : List (Frag → Bool)) (fn : List He5.DefA) (er : List ErA) (ts : List He.Tab) (tb : List Addr) (g : Addr → Option Obj) : AlE := (obsM fa fb fn ts (frG g as), er.map (ErA.got (frG g as)), tb.map g)
def valE (fn : List He5.DefA) (er : List ErA) (ts : List He.Tab) (tb : List Addr) (w : World) : AlE := (valM fn ts w, er.map ErA.val, tb.map fun _ => some tab0)
structure SaysE (fa : List Fa) (fb : List (Frag → Bool)) (fn : List He5.DefA) (er : List ErA) (ts : List He.Tab) (w : World) (K : Frag) : Prop where
  m : SaysM fa fb fn ts w K
  e : ∀ d ∈ er, d.got K = d.val
def hookE (as : List Addr) (fa : List Fa) (fb : List (Frag → Bool)) (fn : List He5.DefA) (er : List ErA) (ts : List He.Tab) (tb : List Addr) : Hook where
  α := AlE
  obs := fun s => obsE as fa fb fn er ts tb s.heap.get?
  val := fun w => valE fn er ts tb w
  says := fun w h => ∃ K : Frag, K.In h ∧ SaysE fa fb fn er ts w K ∧ ∀ p ∈ tb, h.get? p = some tab0
  of := fun w s e => by
    have h1 : obsM fa fb fn ts (frG s.heap.get? as) = valM fn ts w := congrArg (fun z : AlE => z.1) e
    have h2 : er.map (ErA.got (frG s.heap.get? as)) = er.map ErA.val := congrArg (fun z : AlE => z.2.1) e
    have h3 : tb.map s.heap.get? = tb.map fun _ => some tab0 := congrArg (fun z : AlE => z.2.2) e
    exact ⟨_, frG_in, ⟨h1, fun d hd => List.map_inj_left.mp h2 d hd⟩, fun p hp => List.map_inj_left.mp h3 p hp⟩
  keeps := fun _ _ _ ⟨K, hK, c, t⟩ k => ⟨K, Frag.In.keeps hK k, c, fun p hp => k _ _ (t p hp)⟩
theorem obsE_eq {as : List Addr} {fa : List Fa} {fb : List (Frag → Bool)} {fn : List He5.DefA} {er : List ErA} {ts : List He.Tab} {tb : List Addr} {g : Addr → Option Obj} {s : Shared} (h : ∀ a, g a = s.heap.get? a) : obsE as fa fb fn er ts tb g = (hookE as fa fb fn er ts tb).obs s := by
  rw [show g = s.heap.get? from funext h]
  rfl
section
variable {fa : List Fa} {fb : List (Frag → Bool)} {fn : List He5.DefA} {er : List ErA} {ts : List He.Tab} {w : World} {K : Frag}
theorem SaysE.err (c : SaysE fa fb fn er ts w K) (i : Nat) {d : ErA} (h : er[i]? = some d := by rfl) : fnC K (ma K (ga K d.cls) "__init__") = d.val := c.e d (List.mem_of_getElem? h)
end
def bOff (p : Addr) (K : Frag) : Bool := (K.lookup p).isNone
theorem off_ok {p : Addr} {K : Frag} (h : bOff p K = true) : K.lookup p = none := by
  unfold bOff at h
  cases e : K.lookup p with
  | none => rfl
  | some o => rw [e] at h; cases h
end Tw
/-! Tw: what the head tells of the own errors' kinds -/
namespace Tw
open PySem PySem.Spec PyProof.Rows L2 He
open PySem.W (Frag)
section
variable {K : Frag} {w : World}
def erN : List PySem.Str := ["InvalidNumber", "InvalidText", "InvalidName", "InvalidLevels", "InvalidSwitch", "InvalidMode", "InvalidMenu", "InvalidPlan", "InvalidCommand", "TooLong", "TooMany", "NothingToUndo"]
def kdN : List PySem.Str := ["number", "text", "name", "levels", "switch", "mode", "menu", "plan", "command", "long", "many", "undo"]
structure KnF (K : Frag) (D : Addr) (i : Nat) : Prop where
  exc : ExcC K D
  lt : i < 12
  is : ∀ (j : Nat) (x : PySem.Str), erN[j]? = some x → PySem.W.kitOne K (.ref D) (.ref (ga K x)) = some (decide (j = i))
  wh : PySem.W.kitOne K (.ref D) (.ref (ga K "WheelError")) = some (decide (i < 9))
def bExc (K : Frag) (D : Addr) : Bool := decide (PySem.W.findIn K (.ref D) "__getattribute__" = some (some (.builtin "BaseException.__getattribute__"))) && (decide (PySem.W.findIn K (.ref D) "__getattr__" = some none) && (decide (PySem.W.subIn K (.ref D) (.type "BaseException") = some true) && (PySem.W.hasDictIn K D &&
  (decide (PySem.W.findIn K (.ref D) "__class__" = some (some (.builtin "object.__class__"))) && (decide (PySem.W.specialIn K (.builtin "object.__class__") "__get__" = some (some (.builtin "getset_descriptor.__get__"))) && (decide (PySem.W.takesIn K (.builtin "object.__class__") = some true) && decide (PySem.W.mroIn K D (.type "object") = some true)))))))
theorem exc_ok {K : Frag} {D : Addr} (h : bExc K D = true) : ExcC K D := by
  unfold bExc at h
  simp only [Bool.and_eq_true, decide_eq_true_eq] at h
  obtain ⟨h1, h2, h3, h4, h5, h6, h7, h8⟩ := h
  exact ⟨h1, h2, h3, h4, h5, h6, h7, h8⟩
def bKn (x : PySem.Str) (i : Nat) (K : Frag) : Bool := bExc K (ga K x) && (decide (i < 9) && (((List.range 12).all fun j => decide (PySem.W.kitOne K (.ref (ga K x)) (.ref (ga K (erN.getD j ""))) = some (decide (j = i)))) &&
  (decide (PySem.W.kitOne K (.ref (ga K x)) (.ref (ga K "WheelError")) = some true) && decide (PySem.W.exmOne K (.ref (ga K x)) (.ref (ga K "WheelError")) = some true))))
theorem kn_ok {K : Frag} {x : PySem.Str} {i : Nat} (h : bKn x i K = true) : KnF K (ga K x) i ∧ PySem.W.exmOne K (.ref (ga K x)) (.ref (ga K "WheelError")) = some true := by
  unfold bKn at h
  simp only [Bool.and_eq_true, decide_eq_true_eq] at h
  obtain ⟨h1, h2, h3, h4, h5⟩ := h
  refine ⟨⟨exc_ok h1, by omega, fun j y hy => ?_, by rw [decide_eq_true h2]; exact h4⟩, h5⟩
  have hj : j < 12 := (List.getElem?_eq_some_iff.mp hy).1
  have z := List.all_eq_true.mp h3 j (List.mem_range.mpr hj)
  rw [List.getD_eq_getElem?_getD, hy] at z
  exact of_decide_eq_true z
end
def exmN (K : PySem.W.Frag) (D : Addr) (x : PySem.Str) (b : Bool) : Prop := PySem.W.exmOne K (.ref D) (.ref (ga K x)) = some b
end Tw
/-! Tw: the law's end where the law makes lambdas (tables of codes) and no repr is under way -/
namespace Tw
open PySem PySem.Spec PyProof.Rows L2 LamX
section
variable {P : Program} {w : World} {K : PySem.W.Frag} {mg mb : Str → Option Value}
def BuiltM (mg : Str → Option Value) (h : Heap) : Prop := ∃ (bm : Addr) (ob : Obj), mg "__builtins__" = some (.ref bm) ∧ bm ≠ builtinsNs ∧ h.get? bm = some ob ∧ ob.cls = .type "module" ∧ ob.dict = some builtinsNs ∧ ob.data = .plain
theorem entryT {s : Shared} {a : Addr} {vs : List Value} {ns : List Int} {cs : List (Addr × Addr)} (KX : K.In s.heap) (hns : s.heap.Ns mainGlobals mg) (hb : s.heap.Ns builtinsNs mb) (hbb : ∀ x : Str, x ≠ "__name__" → mb x = bootBuiltins x) (hlim : s.heap.NoLimit) (hg : s.gens = #[])
    (hT : ∀ p ∈ cs, s.heap.get? p.2 = some { cls := .none, data := .fields #[] }) (nT : ∀ p ∈ cs, K.lookup p.2 = none) (hC : ∀ p ∈ cs, PySem.W.codeHdIn K p.1 p.2 = true) (hbm : BuiltM mg s.heap)
    (ha : s.heap.get? a = some { cls := .type "list", data := .seq vs.toArray }) (hi : IntsAre vs ns) (hl : ns.length ≤ sizeLine) :
    ∃ (H : Hp) (base : Heap), K.In base ∧ base.Ns mainGlobals mg ∧ Env0 P w K mg base callerA [] s H ∧ (∀ b, H b = none ∨ (∃ p ∈ cs, p.2 = b) ∨ ∃ o xs, H b = some (.frz o (.lst xs))) ∧ SqL K H a (ns.map V.int) ∧ (∀ p ∈ cs, H p.2 = some (.tbl #[])) ∧ ∀ p ∈ cs, TabB base mg p.1 p.2 := by
  classical
  have rv := vals_ints hi
  have hlv := hi.length
  have aT : ∀ p ∈ cs, p.2 ≠ a := fun p hp z => by
    have q := hT p hp
    rw [z, ha] at q
    cases q
  have key : ∀ H : Hp, (∀ b, H b ≠ none → b = a ∨ ∃ p ∈ cs, p.2 = b) → (H a ≠ none → K.lookup a = none) → HOk P w H s.heap → K.In (hidT s.heap H) ∧ (hidT s.heap H).Ns mainGlobals mg ∧ Env0 P w K mg (hidT s.heap H) callerA [] s H ∧ ∀ p ∈ cs, TabB (hidT s.heap H) mg p.1 p.2 := by
    intro H h1 h2 hok
    have free : ∀ {b : Addr} {o : Obj}, s.heap.get? b = some o → (∀ x n, o.data ≠ .seq x n) → o.data ≠ .fields #[] → H b = none := fun {b o} z d1 d2 => Classical.byContradiction fun n => by
      rcases h1 b n with rfl | ⟨p, hp, rfl⟩
      · rw [ha] at z
        cases z
        exact d1 _ _ rfl
      · rw [hT p hp] at z
        cases z
        exact d2 rfl
    have keepD : ∀ {b m}, s.heap.Ns b m → (hidT s.heap H).Ns b m := by
      rintro b m ⟨o, es, ep, z, d, r⟩
      exact ⟨o, es, ep, hidT_get z (free z (fun x n y => by rw [d] at y; cases y) fun y => by rw [d] at y; cases y), d, r⟩
    have kin : K.In (hidT s.heap H) := fun b o z => hidT_get (KX b o z) (Classical.byContradiction fun n => by
      rcases h1 b n with rfl | ⟨p, hp, rfl⟩
      · rw [h2 n] at z
        cases z
      · rw [nT p hp] at z
        cases z)
    obtain ⟨mc, l1, l2⟩ := hlim
    refine ⟨kin, keepD hns, ⟨rfl, ⟨kin, keepD hns, ⟨mb, keepD hb, hbb⟩, ⟨mc, keepD l1, l2⟩⟩, fun b o z => of_hidT z, Nat.le_of_eq (hidT_size _ _), trivial, fun b z => (nomatch z), hok, .of_eq hg⟩, fun p hp => ?_⟩
    have nM : mainGlobals ≠ p.2 := fun z => by
      obtain ⟨o, es, ep, y, d, _⟩ := hns
      rw [z, hT p hp] at y
      cases y
      cases d
    obtain ⟨bm, ob, b1, b2, b3, b4, b5, b6⟩ := hbm
    have nG : bm ≠ mainGlobals := fun z => by
      obtain ⟨o, es, ep, y, d, _⟩ := hns
      rw [z, y] at b3
      cases b3
      rw [d] at b6
      cases b6
    have nP : bm ≠ p.2 := fun z => by
      rw [z, hT p hp] at b3
      cases b3
      cases b6
    exact NdefX.tabB_of_K kin (hC p hp) ⟨bm, ob, b1, b2, nG, nP, hidT_get b3 (free b3 (fun x n y => by rw [b6] at y; cases y) fun y => by rw [b6] at y; cases y), b4, b5, b6⟩ nM
  obtain ⟨L, hL⟩ : ∃ L : Option HO, L = if K.lookup a = none then some (HO.frz { cls := .type "list", data := .seq vs.toArray } (.lst (ns.map V.int))) else none := ⟨_, rfl⟩
  obtain ⟨H, hH⟩ : ∃ H : Hp, H = fun b => if b = a then L else if ∃ p ∈ cs, p.2 = b then some (.tbl #[]) else none := ⟨_, rfl⟩
  have e1 : H a = L := by rw [hH]; exact if_pos rfl
  have e2 : ∀ p ∈ cs, H p.2 = some (.tbl #[]) := fun p hp => by rw [hH]; exact (if_neg (aT p hp)).trans (if_pos ⟨p, hp, rfl⟩)
  have e3 : ∀ b, b ≠ a → (¬ ∃ p ∈ cs, p.2 = b) → H b = none := fun b n1 n2 => by rw [hH]; exact (if_neg n1).trans (if_neg n2)
  have h1 : ∀ b, H b ≠ none → b = a ∨ ∃ p ∈ cs, p.2 = b := fun b n => Classical.byContradiction fun m => n (e3 b (fun z => m (.inl z)) fun z => m (.inr z))
  have hok : HOk P w H s.heap := fun b u z => by
    have nb : H b ≠ none := fun y => by rw [y] at z; cases z
    rcases h1 b nb with rfl | ⟨p, hp, rfl⟩
    · rw [e1, hL] at z
      split at z
      · cases z
        exact ⟨ha, by rw [List.length_map]; exact hl, vs, _, rv, ha⟩
      · cases z
    · rw [e2 p hp] at z
      cases z
      exact hT p hp
  have hKa : H a ≠ none → K.lookup a = none := fun n => Classical.byContradiction fun m => n (by rw [e1, hL]; exact if_neg m)
  obtain ⟨k1, k2, k3, k4⟩ := key H h1 hKa hok
  refine ⟨H, _, k1, k2, k3, fun b => ?_, ?_, e2, k4⟩
  · by_cases hba : b = a
    · rw [hba, e1, hL]
      split
      · exact .inr (.inr ⟨_, _, rfl⟩)
      · exact .inl rfl
    · by_cases hbT : ∃ p ∈ cs, p.2 = b
      · exact .inr (.inl hbT)
      · exact .inl (e3 b hba hbT)
  · cases hk : K.lookup a with
    | none => exact .inl (.inr ⟨{ cls := .type "list", data := .seq vs.toArray }, by rw [e1, hL, if_pos hk]⟩)
    | some o =>
      have z := KX a o hk
      rw [ha] at z
      obtain rfl := (Option.some.inj z).symm
      exact .inr ⟨_, vs.toArray, _, hk, rfl, rfl, rfl, by rw [List.size_toArray, hlv]; exact hl, by simpa using rv⟩
theorem lawGT {s : Shared} {CX : CXT} {k : Nat} {fa a : Addr} {sp : Sp} {vs : List Value} {ns : List Int} {cs : List (Addr × Addr)} (KX : K.In s.heap) (hns : s.heap.Ns mainGlobals mg) (hb : s.heap.Ns builtinsNs mb) (hbb : ∀ x : Str, x ≠ "__name__" → mb x = bootBuiltins x) (hlim : s.heap.NoLimit) (hg : s.gens = #[])
    (hT : ∀ p ∈ cs, s.heap.get? p.2 = some { cls := .none, data := .fields #[] }) (nT : ∀ p ∈ cs, K.lookup p.2 = none) (hC : ∀ p ∈ cs, PySem.W.codeHdIn K p.1 p.2 = true) (hbm : BuiltM mg s.heap)
    (ha : s.heap.get? a = some { cls := .type "list", data := .seq vs.toArray }) (hi : IntsAre vs ns) (hl : ns.length ≤ sizeLine) (hr : RmG k callerA) (F : ∀ base : Heap, K.In base → base.Ns mainGlobals mg → (∀ p ∈ cs, TabB base mg p.1 p.2) → FnG P w K mg base CX k fa sp)
    (hsp : ∀ H : Hp, SqL K H a (ns.map V.int) → (∀ p ∈ cs, H p.2 = some (.tbl #[])) → sp [.ref a] H (fun v _ => v = .bl true) fun _ _ _ => False) (hCX : ∀ H e s', CX [] H s (fun _ _ _ => False) e s' → False) :
    codeAny (model P w) callerA (.call (.ref fa) ⟨[.ref a], []⟩) (fun r s' => r = .ok (.ret (.bool true)) ∧ OldK s.heap s'.heap ∧ s'.os = s.os ∧ AllBare s'.gens) s := by
  classical
  obtain ⟨H, base, k1, k2, e0, ho, hs, htb, hTB⟩ := entryT (P := P) (w := w) KX hns hb hbb hlim hg hT nT hC hbm ha hi hl
  refine codeAny_mono (F base k1 k2 hTB callerA [] s H [.ref a] [.ref a] _ _ hr e0 (.cons rfl .nil) (hsp H hs htb)) fun r s2 z => ?_
  match r, z with
  | .error y, z => exact (hCX H y s2 z).elim
  | .ok .next, z => exact z.elim
  | .ok .brk, z => exact z.elim
  | .ok .cont, z => exact z.elim
  | .ok (.ret u), ⟨v, H2, os, bare, un, hok, rv, q⟩ =>
    obtain rfl : v = .bl true := q
    obtain rfl : u = Value.bool true := rv
    have kept : ∀ b o, (¬ ∃ p ∈ cs, p.2 = b) → s.heap.get? b = some o → s2.heap.get? b = some o := fun b o nb z => by
      rcases ho b with n | n | ⟨o1, xs, n⟩
      · exact un.keep b o z n (fun m => nomatch m) (fun m => nomatch m)
      · exact absurd n nb
      · obtain ⟨g1, _⟩ := e0.hok b _ n
        obtain ⟨g2, _⟩ := hok b _ (un.frzs b o1 _ n)
        rw [z] at g1
        cases g1
        exact g2
    have more : ∀ p ∈ cs, ∃ ps : Array Value, s2.heap.get? p.2 = some { cls := .none, data := .fields ps } := fun p hp => by
      obtain ⟨ps, z⟩ := un.tbls p.2 #[] (htb p hp)
      exact ⟨_, hok p.2 _ z⟩
    refine ⟨rfl, ⟨fun b o z => ?_, fun b o z => ?_⟩, os, bare⟩
    · by_cases hbT : ∃ p ∈ cs, p.2 = b
      · obtain ⟨p, hp, rfl⟩ := hbT
        obtain ⟨ps, hm⟩ := more p hp
        rw [hT p hp] at z
        cases z
        exact .inr (.inl ⟨((PySem.W.codeHd_of_K KX (hC p hp)).tab (hT p hp)).isCodeTable, rfl, #[], ps, rfl, by rw [Array.empty_append]; exact hm⟩)
      · exact .inl (kept b o hbT z)
    · by_cases hbT : ∃ p ∈ cs, p.2 = b
      · obtain ⟨p, hp, rfl⟩ := hbT
        obtain ⟨ps, hm⟩ := more p hp
        exact ⟨_, hm⟩
      · exact ⟨o, kept b o hbT z⟩
theorem walk_ofGT {l : PySem.W.OpenLaw} {n k : Nat} {q : Program} {loose : List Str} {XP : (Str → Option Value) → Heap → Prop} {YP : World → Heap → Prop} {d : DefRec} {CX : CXT} (hn : l.most = some n) (hn2 : n ≤ sizeLine) (hdf : d.params.defaults = []) (hr : RmG k callerA)
    (F : ∀ w mg fa h, YP w h → h.Ns mainGlobals mg → mg d.name = some (.ref fa) → ∃ (K : PySem.W.Frag) (cs : List (Addr × Addr)) (sp : Sp), K.In h ∧ (∀ p ∈ cs, h.get? p.2 = some { cls := .none, data := .fields #[] }) ∧ (∀ p ∈ cs, K.lookup p.2 = none) ∧ (∀ p ∈ cs, PySem.W.codeHdIn K p.1 p.2 = true) ∧
      (∀ (H : Hp) (a : Addr) (ns : List Int), ns.length ≤ n → SqL K H a (ns.map V.int) → (∀ p ∈ cs, H p.2 = some (.tbl #[])) → sp [.ref a] H (fun v _ => v = .bl true) fun _ _ _ => False) ∧
      ∀ base : Heap, K.In base → base.Ns mainGlobals mg → (∀ p ∈ cs, TabB base mg p.1 p.2) → FnG l.prog w K mg base CX k fa sp) (hCX : ∀ H s e s', CX [] H s (fun _ _ _ => False) e s' → False) :
    PySem.W.WalkO q loose XP YP l.row.toRowW d [] (fun f vs => PySem.call f vs) := by
  refine Att.attach_call hn hdf fun w s0 s1 mg mb fa o pm cd doc a vs ns G Y ho hd hcd hmg hobj hints hlen hg => ?_
  obtain ⟨K, cs, sp, KX, hT, nT, hC, h1, h2⟩ := F w mg fa _ Y G.T.g hmg
  exact lawGT KX G.T.g G.T.b G.T.builtins G.T.nolimit hg hT nT hC G.T.bmain hobj hints (Nat.le_trans hlen hn2) hr h2 (fun H z y => h1 H a ns hlen z y) fun H e s' => hCX H s1 e s'
end
end Tw
/-! Hd: the head of this law: facts by names, one run -/
namespace Hd
open PySem PySem.Spec PyProof.Rows L2 He PySem.W Tw
def top (i : Nat) : Stmt := PySem.Challenge.pw_timerwheels_k07_books_refused.main.body.getD i (.Pass ⟨0, 0, 0, 0⟩)
abbrev file : PySem.Str := PySem.Challenge.pw_timerwheels_k07_books_refused.main.file
abbrev s_is_switch : Stmt := top 17
def dd_is_switch : He5.DefA := { at_ := fun K => ga K "is_switch", name := "is_switch", qual := "is_switch", params := defArgs s_is_switch, body := defBody s_is_switch, scope := defScope s_is_switch, dfl := [], kwd := [] }
abbrev s_is_value : Stmt := top 18
def dd_is_value : He5.DefA := { at_ := fun K => ga K "is_value", name := "is_value", qual := "is_value", params := defArgs s_is_value, body := defBody s_is_value, scope := defScope s_is_value, dfl := [], kwd := [] }
abbrev s_book_of : Stmt := top 20
def dd_book_of : He5.DefA := { at_ := fun K => ga K "book_of", name := "book_of", qual := "book_of", params := defArgs s_book_of, body := defBody s_book_of, scope := defScope s_book_of, dfl := [], kwd := [] }
abbrev s__law_begin : Stmt := top 22
def dd__law_begin : He5.DefA := { at_ := fun K => ga K "_law_begin", name := "_law_begin", qual := "_law_begin", params := defArgs s__law_begin, body := defBody s__law_begin, scope := defScope s__law_begin, dfl := [], kwd := [] }
abbrev s__law_mixed : Stmt := top 23
def dd__law_mixed : He5.DefA := { at_ := fun K => ga K "_law_mixed", name := "_law_mixed", qual := "_law_mixed", params := defArgs s__law_mixed, body := defBody s__law_mixed, scope := defScope s__law_mixed, dfl := [], kwd := [] }
abbrev s__law_draw : Stmt := top 24
def dd__law_draw : He5.DefA := { at_ := fun K => ga K "_law_draw", name := "_law_draw", qual := "_law_draw", params := defArgs s__law_draw, body := defBody s__law_draw, scope := defScope s__law_draw, dfl := [], kwd := [] }
abbrev s__law_draw_values : Stmt := top 25
def dd__law_draw_values : He5.DefA := { at_ := fun K => ga K "_law_draw_values", name := "_law_draw_values", qual := "_law_draw_values", params := defArgs s__law_draw_values, body := defBody s__law_draw_values, scope := defScope s__law_draw_values, dfl := [], kwd := [] }
abbrev s__law_made_book : Stmt := top 26
def dd__law_made_book : He5.DefA := { at_ := fun K => ga K "_law_made_book", name := "_law_made_book", qual := "_law_made_book", params := defArgs s__law_made_book, body := defBody s__law_made_book, scope := defScope s__law_made_book, dfl := [], kwd := [] }
abbrev s__law_kind : Stmt := top 27
def dd__law_kind : He5.DefA := { at_ := fun K => ga K "_law_kind", name := "_law_kind", qual := "_law_kind", params := defArgs s__law_kind, body := defBody s__law_kind, scope := defScope s__law_kind, dfl := [], kwd := [] }
abbrev s__law_caught : Stmt := top 28
def dd__law_caught : He5.DefA := { at_ := fun K => ga K "_law_caught", name := "_law_caught", qual := "_law_caught", params := defArgs s__law_caught, body := defBody s__law_caught, scope := defScope s__law_caught, dfl := [], kwd := [] }
abbrev s__law_values_of : Stmt := top 29
def dd__law_values_of : He5.DefA := { at_ := fun K => ga K "_law_values_of", name := "_law_values_of", qual := "_law_values_of", params := defArgs s__law_values_of, body := defBody s__law_values_of, scope := defScope s__law_values_of, dfl := [], kwd := [] }
abbrev s__law_odd : Stmt := top 30
def dd__law_odd : He5.DefA := { at_ := fun K => ga K "_law_odd", name := "_law_odd", qual := "_law_odd", params := defArgs s__law_odd, body := defBody s__law_odd, scope := defScope s__law_odd, dfl := [], kwd := [] }
abbrev s__law_made : Stmt := top 31
def dd__law_made : He5.DefA := { at_ := fun K => ga K "_law_made", name := "_law_made", qual := "_law_made", params := defArgs s__law_made, body := defBody s__law_made, scope := defScope s__law_made, dfl := [], kwd := [] }
abbrev s__law_first_wrong : Stmt := top 32
def dd__law_first_wrong : He5.DefA := { at_ := fun K => ga K "_law_first_wrong", name := "_law_first_wrong", qual := "_law_first_wrong", params := defArgs s__law_first_wrong, body := defBody s__law_first_wrong, scope := defScope s__law_first_wrong, dfl := [], kwd := [] }
abbrev s__law_text_right : Stmt := top 33
def dd__law_text_right : He5.DefA := { at_ := fun K => ga K "_law_text_right", name := "_law_text_right", qual := "_law_text_right", params := defArgs s__law_text_right, body := defBody s__law_text_right, scope := defScope s__law_text_right, dfl := [], kwd := [] }
abbrev s__law_changes_right : Stmt := top 34
def dd__law_changes_right : He5.DefA := { at_ := fun K => ga K "_law_changes_right", name := "_law_changes_right", qual := "_law_changes_right", params := defArgs s__law_changes_right, body := defBody s__law_changes_right, scope := defScope s__law_changes_right, dfl := [], kwd := [] }
abbrev s_law : Stmt := top 35
def dd_law : He5.DefA := { at_ := fun K => ga K "law", name := "law", qual := "law", params := defArgs s_law, body := defBody s_law, scope := defScope s_law, dfl := [], kwd := [] }
abbrev s_InvalidText___init__ : Stmt := inClass (top 3) 0
def ee_InvalidText : ErA := { cls := "InvalidText", name := "__init__", qual := "InvalidText.__init__", params := defArgs s_InvalidText___init__, body := defBody s_InvalidText___init__, scope := defScope s_InvalidText___init__ }
abbrev s_InvalidSwitch___init__ : Stmt := inClass (top 6) 0
def ee_InvalidSwitch : ErA := { cls := "InvalidSwitch", name := "__init__", qual := "InvalidSwitch.__init__", params := defArgs s_InvalidSwitch___init__, body := defBody s_InvalidSwitch___init__, scope := defScope s_InvalidSwitch___init__ }
abbrev s_Book___init__ : Stmt := inClass (top 19) 0
def dd_Book___init__ : He5.DefA := { at_ := fun K => ma K (ga K "Book") "__init__", name := "__init__", qual := "Book.__init__", params := defArgs s_Book___init__, body := defBody s_Book___init__, scope := defScope s_Book___init__, dfl := [], kwd := [("rounding", .str "down"), ("action", .str "move"), ("order", .str "high"), ("due", .str "now"), ("zero", .str "one"), ("beyond", .str "refuse")] }
abbrev s_Book_text : Stmt := inClass (top 19) 7
def dd_Book_text : He5.DefA := { at_ := fun K => pa K (ga K "Book") "text", name := "text", qual := "Book.text", params := defArgs s_Book_text, body := defBody s_Book_text, scope := defScope s_Book_text, dfl := [], kwd := [] }
abbrev s_Book___eq__ : Stmt := inClass (top 19) 8
def dd_Book___eq__ : He5.DefA := { at_ := fun K => ma K (ga K "Book") "__eq__", name := "__eq__", qual := "Book.__eq__", params := defArgs s_Book___eq__, body := defBody s_Book___eq__, scope := defScope s_Book___eq__, dfl := [], kwd := [] }
abbrev s_Book___getitem__ : Stmt := inClass (top 19) 9
def dd_Book___getitem__ : He5.DefA := { at_ := fun K => ma K (ga K "Book") "__getitem__", name := "__getitem__", qual := "Book.__getitem__", params := defArgs s_Book___getitem__, body := defBody s_Book___getitem__, scope := defScope s_Book___getitem__, dfl := [], kwd := [] }
abbrev s_Book_changed : Stmt := inClass (top 19) 12
def dd_Book_changed : He5.DefA := { at_ := fun K => ma K (ga K "Book") "changed", name := "changed", qual := "Book.changed", params := defArgs s_Book_changed, body := defBody s_Book_changed, scope := defScope s_Book_changed, dfl := [], kwd := [] }
abbrev s_Book_from_text : Stmt := inClass (top 19) 13
def dd_Book_from_text : He5.DefA := { at_ := fun K => He5.wf K (ga K "Book") "classmethod" "from_text", name := "from_text", qual := "Book.from_text", params := defArgs s_Book_from_text, body := defBody s_Book_from_text, scope := defScope s_Book_from_text, dfl := [], kwd := [] }
def fa_0 : List (He.Fa) := [.free "len",
  .free "isinstance",
  .free "zip",
  .free "range",
  .free "enumerate",
  .free "list",
  .free "tuple",
  .free "int",
  .free "str",
  .free "abs",
  .free "max",
  .free "min",
  .free "all",
  .free "repr",
  .free "sorted",
  .free "bool",
  .free "set",
  .free "sum",
  .free "any",
  .free "type",
  .free "super",
  .glo "SWITCHES",
  .glo "VALUES",
  .glo "is_switch",
  .glo "is_value",
  .glo "book_of",
  .glo "_law_begin",
  .glo "_law_mixed",
  .glo "_law_draw",
  .glo "_law_draw_values"]
def fa_1 : List (He.Fa) := [.glo "_law_made_book",
  .glo "_law_kind",
  .glo "_law_caught",
  .glo "_law_values_of",
  .glo "_law_odd",
  .glo "_law_made",
  .glo "_law_first_wrong",
  .glo "_law_text_right",
  .glo "_law_changes_right",
  .glo "law",
  .glo "WheelError",
  .glo "InvalidNumber",
  .glo "InvalidText",
  .glo "InvalidName",
  .glo "InvalidLevels",
  .glo "InvalidSwitch",
  .glo "InvalidMode",
  .glo "InvalidMenu",
  .glo "InvalidPlan",
  .glo "InvalidCommand",
  .glo "TooLong",
  .glo "TooMany",
  .glo "NothingToUndo",
  .glo "Book",
  .cls "Book",
  .mkr "Book",
  .noat "Book" "kept_values",
  .meth "Book" "__eq__",
  .meth "Book" "__getitem__",
  .meth "Book" "changed"]
def fa : List (He.Fa) := fa_0 ++ fa_1
def fb_0 : List (Frag → Bool) := [bTup (fun K => ga K "SWITCHES") [.str "rounding", .str "action", .str "order", .str "due", .str "zero", .str "beyond"],
  bNod (fun K => ga K "SWITCHES"),
  bVal (fun K => ga K "VALUES") ["rounding", "action", "order", "due", "zero", "beyond"],
  bTup (fun K => dva K (ga K "VALUES") "rounding") [.str "down", .str "up"],
  bTup (fun K => dva K (ga K "VALUES") "action") [.str "fire", .str "move"],
  bTup (fun K => dva K (ga K "VALUES") "order") [.str "high", .str "low"],
  bTup (fun K => dva K (ga K "VALUES") "due") [.str "now", .str "put"],
  bTup (fun K => dva K (ga K "VALUES") "zero") [.str "now", .str "one"],
  bTup (fun K => dva K (ga K "VALUES") "beyond") [.str "refuse", .str "last", .str "cut"],
  bErr "InvalidText" "value" file "InvalidText.__init__",
  bKn "InvalidText" 1,
  bErr "InvalidSwitch" "value" file "InvalidSwitch.__init__",
  bKn "InvalidSwitch" 4,
  fun K => codeHdIn K (codA K (ga K "_law_text_right")) (tbA K (ga K "_law_text_right")),
  fun K => codeHdIn K (codA K (ga K "_law_changes_right")) (tbA K (ga K "_law_changes_right")),
  fun K => codeHdIn K (codA K (ga K "law")) (tbA K (ga K "law")),
  bOff 502,
  fun K => decide (tbA K (ga K "_law_text_right") = 502),
  bOff 509,
  fun K => decide (tbA K (ga K "_law_changes_right") = 509),
  bOff 516,
  fun K => decide (tbA K (ga K "law") = 516),
  bIsi "Book",
  bKit (fun K => .ref (ga K "Book")) (fun K => .ref (ga K "Book")) true,
  fun K => eqO (findIn K (.ref (ga K "Book")) "__ne__") (some (some (.builtin "object.__ne__"))),
  fun K => decide (PySem.W.subIn K (.ref (ga K "Book")) (.type "object") = some true),
  bFn fun K => ma K (ga K "Book") "__init__",
  bProp "Book" "text",
  bFn fun K => ma K (ga K "Book") "__eq__",
  bFn fun K => ma K (ga K "Book") "__getitem__"]
def fb_1 : List (Frag → Bool) := [bFn fun K => ma K (ga K "Book") "changed",
  bCm "Book" "from_text",
  bCread "Book"]
def fb : List (Frag → Bool) := fb_0 ++ fb_1
def fn_0 : List (He5.DefA) := [dd_is_switch,
  dd_is_value,
  dd_book_of,
  dd__law_begin,
  dd__law_mixed,
  dd__law_draw,
  dd__law_draw_values,
  dd__law_made_book,
  dd__law_kind,
  dd__law_caught,
  dd__law_values_of,
  dd__law_odd,
  dd__law_made,
  dd__law_first_wrong,
  dd__law_text_right,
  dd__law_changes_right,
  dd_law,
  dd_Book___init__,
  dd_Book_text,
  dd_Book___eq__,
  dd_Book___getitem__,
  dd_Book_changed,
  dd_Book_from_text]
def fnA : List (He5.DefA) := fn_0
def fnB : List (He5.DefA) := []
def fn : List (He5.DefA) := fnA ++ fnB
def ts_0 : List (He.Tab) := [((fun K => ga K "VALUES"), ["rounding", "action", "order", "due", "zero", "beyond"])]
def ts : List (He.Tab) := ts_0
def er_0 : List (ErA) := [ee_InvalidText,
  ee_InvalidSwitch]
def er : List (ErA) := er_0
abbrev R : PySem.W.OpenRow := PySem.W.OpenLaw.row PySem.Challenge.rw_timerwheels_k07_books_refused
def adr : List Addr := [3, 24, 46, 67, 88, 109, 130, 151, 172, 193, 214, 235, 257, 270, 274, 275, 288, 295, 414, 425, 430, 437, 444, 451, 458, 465, 472, 479, 486, 493, 500, 507, 514, 519, 23, 66, 129, 276, 277, 278, 279, 280, 281, 287, 294, 413, 424, 429, 436, 443, 450, 457, 464, 471, 478, 485, 492, 499, 506, 513, 518, 64, 127, 310, 366, 373, 380, 401, 410, 63, 52, 126, 115, 309, 303, 365, 372, 379, 400, 408, 364, 407, 2]
abbrev hk : PySem.W.Hook := hookE adr fa fb fn er ts [502, 509, 516]
def ob (s : PySem.W.SharedT) : AlE := obsE adr fa fb fn er ts [502, 509, 516] (HandSHeadRun.getT s)
theorem ob_eq (s : PySem.W.SharedT) : ob s = hk.obs s.abs := obsE_eq (HandSHeadRun.getT_eq s)
def loose : List PySem.Str := (["__name__", "WheelError", "InvalidNumber", "InvalidText", "InvalidName", "InvalidLevels", "InvalidSwitch", "InvalidMode", "InvalidMenu", "InvalidPlan", "InvalidCommand", "TooLong", "TooMany", "NothingToUndo", "SWITCHES"] : List PySem.Str) ++ (["VALUES", "is_switch", "is_value", "Book", "book_of", "_law_begin", "_law_mixed", "_law_draw", "_law_draw_values", "_law_made_book", "_law_kind", "_law_caught", "_law_values_of", "_law_odd", "_law_made"] : List PySem.Str) ++ (["_law_first_wrong", "_law_text_right", "_law_changes_right"] : List PySem.Str)
theorem run0 (w : World) : HandSHeadRun.RunEq R (PySem.W.view R.prog [35]) hk ob 5618 loose (w.withFollow "special-get-raises" false) := by
  intro os
  kernel_rfl
theorem run1 (w : World) : HandSHeadRun.RunEq R (PySem.W.view R.prog [35]) hk ob 5618 loose (w.withFollow "special-get-raises" true) := by
  intro os
  kernel_rfl
theorem run (w : World) : HandSHeadRun.RunEq R (PySem.W.view R.prog [35]) hk ob 5618 loose w := byRow2 "special-get-raises" (P := fun w => HandSHeadRun.RunEq R (PySem.W.view R.prog [35]) hk ob 5618 loose w) run0 run1 w
structure Tx (K : Frag) (mg : PySem.Str → Option Value) (w : World) : Prop where
  ex : ∃ h : Heap, K.In h ∧ h.Ns mainGlobals mg
  says : SaysM fa fb fn ts w K
  errs : SaysE fa fb fn er ts w K
section
variable {K : Frag} {mg : PySem.Str → Option Value} {w : World}
theorem free_len (T : Tx K mg w) : mg "len" = none := by
  obtain ⟨h, X, G⟩ := T.ex
  exact He.free_ok X G (T.says.fact 0 rfl)
theorem free_isinstance (T : Tx K mg w) : mg "isinstance" = none := by
  obtain ⟨h, X, G⟩ := T.ex
  exact He.free_ok X G (T.says.fact 1 rfl)
theorem free_zip (T : Tx K mg w) : mg "zip" = none := by
  obtain ⟨h, X, G⟩ := T.ex
  exact He.free_ok X G (T.says.fact 2 rfl)
theorem free_range (T : Tx K mg w) : mg "range" = none := by
  obtain ⟨h, X, G⟩ := T.ex
  exact He.free_ok X G (T.says.fact 3 rfl)
theorem free_list (T : Tx K mg w) : mg "list" = none := by
  obtain ⟨h, X, G⟩ := T.ex
  exact He.free_ok X G (T.says.fact 5 rfl)
theorem free_int (T : Tx K mg w) : mg "int" = none := by
  obtain ⟨h, X, G⟩ := T.ex
  exact He.free_ok X G (T.says.fact 7 rfl)
theorem free_str (T : Tx K mg w) : mg "str" = none := by
  obtain ⟨h, X, G⟩ := T.ex
  exact He.free_ok X G (T.says.fact 8 rfl)
theorem free_abs (T : Tx K mg w) : mg "abs" = none := by
  obtain ⟨h, X, G⟩ := T.ex
  exact He.free_ok X G (T.says.fact 9 rfl)
theorem free_repr (T : Tx K mg w) : mg "repr" = none := by
  obtain ⟨h, X, G⟩ := T.ex
  exact He.free_ok X G (T.says.fact 13 rfl)
theorem free_super (T : Tx K mg w) : mg "super" = none := by
  obtain ⟨h, X, G⟩ := T.ex
  exact He.free_ok X G (T.says.fact 20 rfl)
theorem glo_SWITCHES (T : Tx K mg w) : mg "SWITCHES" = some (.ref (ga K "SWITCHES")) := by
  obtain ⟨h, X, G⟩ := T.ex
  exact He.glo_ok X G (T.says.fact 21 rfl)
theorem tup_SWITCHES (T : Tx K mg w) : ∀ H, SqT K H (ga K "SWITCHES") [V.str "rounding", V.str "action", V.str "order", V.str "due", V.str "zero", V.str "beyond"] := fun H => tup_ok (p := fun K => ga K "SWITCHES") (vs := [.str "rounding", .str "action", .str "order", .str "due", .str "zero", .str "beyond"]) ((T.says.bool 0 rfl)) H
theorem nod_SWITCHES (T : Tx K mg w) : ∃ o, K.lookup (ga K "SWITCHES") = some o ∧ o.cls = .type "tuple" ∧ o.dict = none := nod_ok (p := fun K => ga K "SWITCHES") ((T.says.bool 1 rfl))
theorem glo_VALUES (T : Tx K mg w) : mg "VALUES" = some (.ref (ga K "VALUES")) := by
  obtain ⟨h, X, G⟩ := T.ex
  exact He.glo_ok X G (T.says.fact 22 rfl)
theorem val_VALUES (T : Tx K mg w) : ∀ x, x ∈ (["rounding", "action", "order", "due", "zero", "beyond"] : List PySem.Str) → nsIn K (ga K "VALUES") x = some (some (.ref (dva K (ga K "VALUES") x))) := fun x hx => val_ok (p := fun K => ga K "VALUES") (ks := ["rounding", "action", "order", "due", "zero", "beyond"]) ((T.says.bool 2 rfl)) hx
theorem tup_VALUES_rounding (T : Tx K mg w) : ∀ H, SqT K H (dva K (ga K "VALUES") "rounding") [V.str "down", V.str "up"] := fun H => tup_ok (p := fun K => dva K (ga K "VALUES") "rounding") (vs := [.str "down", .str "up"]) ((T.says.bool 3 rfl)) H
theorem tup_VALUES_action (T : Tx K mg w) : ∀ H, SqT K H (dva K (ga K "VALUES") "action") [V.str "fire", V.str "move"] := fun H => tup_ok (p := fun K => dva K (ga K "VALUES") "action") (vs := [.str "fire", .str "move"]) ((T.says.bool 4 rfl)) H
theorem tup_VALUES_order (T : Tx K mg w) : ∀ H, SqT K H (dva K (ga K "VALUES") "order") [V.str "high", V.str "low"] := fun H => tup_ok (p := fun K => dva K (ga K "VALUES") "order") (vs := [.str "high", .str "low"]) ((T.says.bool 5 rfl)) H
theorem tup_VALUES_due (T : Tx K mg w) : ∀ H, SqT K H (dva K (ga K "VALUES") "due") [V.str "now", V.str "put"] := fun H => tup_ok (p := fun K => dva K (ga K "VALUES") "due") (vs := [.str "now", .str "put"]) ((T.says.bool 6 rfl)) H
theorem tup_VALUES_zero (T : Tx K mg w) : ∀ H, SqT K H (dva K (ga K "VALUES") "zero") [V.str "now", V.str "one"] := fun H => tup_ok (p := fun K => dva K (ga K "VALUES") "zero") (vs := [.str "now", .str "one"]) ((T.says.bool 7 rfl)) H
theorem tup_VALUES_beyond (T : Tx K mg w) : ∀ H, SqT K H (dva K (ga K "VALUES") "beyond") [V.str "refuse", V.str "last", V.str "cut"] := fun H => tup_ok (p := fun K => dva K (ga K "VALUES") "beyond") (vs := [.str "refuse", .str "last", .str "cut"]) ((T.says.bool 8 rfl)) H
theorem glo_is_switch (T : Tx K mg w) : mg "is_switch" = some (.ref (ga K "is_switch")) := by
  obtain ⟨h, X, G⟩ := T.ex
  exact He.glo_ok X G (T.says.fact 23 rfl)
theorem d_is_switch (T : Tx K mg w) : ∃ fd, FunD K "is_switch" "is_switch" (defArgs s_is_switch) (defBody s_is_switch) (defScope s_is_switch) [] [] (ga K "is_switch") fd := T.says.def_ 0 (d := dd_is_switch) rfl
theorem glo_is_value (T : Tx K mg w) : mg "is_value" = some (.ref (ga K "is_value")) := by
  obtain ⟨h, X, G⟩ := T.ex
  exact He.glo_ok X G (T.says.fact 24 rfl)
theorem d_is_value (T : Tx K mg w) : ∃ fd, FunD K "is_value" "is_value" (defArgs s_is_value) (defBody s_is_value) (defScope s_is_value) [] [] (ga K "is_value") fd := T.says.def_ 1 (d := dd_is_value) rfl
theorem glo_book_of (T : Tx K mg w) : mg "book_of" = some (.ref (ga K "book_of")) := by
  obtain ⟨h, X, G⟩ := T.ex
  exact He.glo_ok X G (T.says.fact 25 rfl)
theorem d_book_of (T : Tx K mg w) : ∃ fd, FunD K "book_of" "book_of" (defArgs s_book_of) (defBody s_book_of) (defScope s_book_of) [] [] (ga K "book_of") fd := T.says.def_ 2 (d := dd_book_of) rfl
theorem glo__law_begin (T : Tx K mg w) : mg "_law_begin" = some (.ref (ga K "_law_begin")) := by
  obtain ⟨h, X, G⟩ := T.ex
  exact He.glo_ok X G (T.says.fact 26 rfl)
theorem d__law_begin (T : Tx K mg w) : ∃ fd, FunD K "_law_begin" "_law_begin" (defArgs s__law_begin) (defBody s__law_begin) (defScope s__law_begin) [] [] (ga K "_law_begin") fd := T.says.def_ 3 (d := dd__law_begin) rfl
theorem glo__law_mixed (T : Tx K mg w) : mg "_law_mixed" = some (.ref (ga K "_law_mixed")) := by
  obtain ⟨h, X, G⟩ := T.ex
  exact He.glo_ok X G (T.says.fact 27 rfl)
theorem d__law_mixed (T : Tx K mg w) : ∃ fd, FunD K "_law_mixed" "_law_mixed" (defArgs s__law_mixed) (defBody s__law_mixed) (defScope s__law_mixed) [] [] (ga K "_law_mixed") fd := T.says.def_ 4 (d := dd__law_mixed) rfl
theorem glo__law_draw (T : Tx K mg w) : mg "_law_draw" = some (.ref (ga K "_law_draw")) := by
  obtain ⟨h, X, G⟩ := T.ex
  exact He.glo_ok X G (T.says.fact 28 rfl)
theorem d__law_draw (T : Tx K mg w) : ∃ fd, FunD K "_law_draw" "_law_draw" (defArgs s__law_draw) (defBody s__law_draw) (defScope s__law_draw) [] [] (ga K "_law_draw") fd := T.says.def_ 5 (d := dd__law_draw) rfl
theorem glo__law_draw_values (T : Tx K mg w) : mg "_law_draw_values" = some (.ref (ga K "_law_draw_values")) := by
  obtain ⟨h, X, G⟩ := T.ex
  exact He.glo_ok X G (T.says.fact 29 rfl)
theorem d__law_draw_values (T : Tx K mg w) : ∃ fd, FunD K "_law_draw_values" "_law_draw_values" (defArgs s__law_draw_values) (defBody s__law_draw_values) (defScope s__law_draw_values) [] [] (ga K "_law_draw_values") fd := T.says.def_ 6 (d := dd__law_draw_values) rfl
theorem glo__law_made_book (T : Tx K mg w) : mg "_law_made_book" = some (.ref (ga K "_law_made_book")) := by
  obtain ⟨h, X, G⟩ := T.ex
  exact He.glo_ok X G (T.says.fact 30 rfl)
theorem d__law_made_book (T : Tx K mg w) : ∃ fd, FunD K "_law_made_book" "_law_made_book" (defArgs s__law_made_book) (defBody s__law_made_book) (defScope s__law_made_book) [] [] (ga K "_law_made_book") fd := T.says.def_ 7 (d := dd__law_made_book) rfl
theorem glo__law_kind (T : Tx K mg w) : mg "_law_kind" = some (.ref (ga K "_law_kind")) := by
  obtain ⟨h, X, G⟩ := T.ex
  exact He.glo_ok X G (T.says.fact 31 rfl)
theorem d__law_kind (T : Tx K mg w) : ∃ fd, FunD K "_law_kind" "_law_kind" (defArgs s__law_kind) (defBody s__law_kind) (defScope s__law_kind) [] [] (ga K "_law_kind") fd := T.says.def_ 8 (d := dd__law_kind) rfl
theorem glo__law_caught (T : Tx K mg w) : mg "_law_caught" = some (.ref (ga K "_law_caught")) := by
  obtain ⟨h, X, G⟩ := T.ex
  exact He.glo_ok X G (T.says.fact 32 rfl)
theorem d__law_caught (T : Tx K mg w) : ∃ fd, FunD K "_law_caught" "_law_caught" (defArgs s__law_caught) (defBody s__law_caught) (defScope s__law_caught) [] [] (ga K "_law_caught") fd := T.says.def_ 9 (d := dd__law_caught) rfl
theorem glo__law_values_of (T : Tx K mg w) : mg "_law_values_of" = some (.ref (ga K "_law_values_of")) := by
  obtain ⟨h, X, G⟩ := T.ex
  exact He.glo_ok X G (T.says.fact 33 rfl)
theorem d__law_values_of (T : Tx K mg w) : ∃ fd, FunD K "_law_values_of" "_law_values_of" (defArgs s__law_values_of) (defBody s__law_values_of) (defScope s__law_values_of) [] [] (ga K "_law_values_of") fd := T.says.def_ 10 (d := dd__law_values_of) rfl
theorem glo__law_odd (T : Tx K mg w) : mg "_law_odd" = some (.ref (ga K "_law_odd")) := by
  obtain ⟨h, X, G⟩ := T.ex
  exact He.glo_ok X G (T.says.fact 34 rfl)
theorem d__law_odd (T : Tx K mg w) : ∃ fd, FunD K "_law_odd" "_law_odd" (defArgs s__law_odd) (defBody s__law_odd) (defScope s__law_odd) [] [] (ga K "_law_odd") fd := T.says.def_ 11 (d := dd__law_odd) rfl
theorem glo__law_made (T : Tx K mg w) : mg "_law_made" = some (.ref (ga K "_law_made")) := by
  obtain ⟨h, X, G⟩ := T.ex
  exact He.glo_ok X G (T.says.fact 35 rfl)
theorem d__law_made (T : Tx K mg w) : ∃ fd, FunD K "_law_made" "_law_made" (defArgs s__law_made) (defBody s__law_made) (defScope s__law_made) [] [] (ga K "_law_made") fd := T.says.def_ 12 (d := dd__law_made) rfl
theorem glo__law_first_wrong (T : Tx K mg w) : mg "_law_first_wrong" = some (.ref (ga K "_law_first_wrong")) := by
  obtain ⟨h, X, G⟩ := T.ex
  exact He.glo_ok X G (T.says.fact 36 rfl)
theorem d__law_first_wrong (T : Tx K mg w) : ∃ fd, FunD K "_law_first_wrong" "_law_first_wrong" (defArgs s__law_first_wrong) (defBody s__law_first_wrong) (defScope s__law_first_wrong) [] [] (ga K "_law_first_wrong") fd := T.says.def_ 13 (d := dd__law_first_wrong) rfl
theorem glo__law_text_right (T : Tx K mg w) : mg "_law_text_right" = some (.ref (ga K "_law_text_right")) := by
  obtain ⟨h, X, G⟩ := T.ex
  exact He.glo_ok X G (T.says.fact 37 rfl)
theorem d__law_text_right (T : Tx K mg w) : ∃ fd, FunD K "_law_text_right" "_law_text_right" (defArgs s__law_text_right) (defBody s__law_text_right) (defScope s__law_text_right) [] [] (ga K "_law_text_right") fd := T.says.def_ 14 (d := dd__law_text_right) rfl
theorem glo__law_changes_right (T : Tx K mg w) : mg "_law_changes_right" = some (.ref (ga K "_law_changes_right")) := by
  obtain ⟨h, X, G⟩ := T.ex
  exact He.glo_ok X G (T.says.fact 38 rfl)
theorem d__law_changes_right (T : Tx K mg w) : ∃ fd, FunD K "_law_changes_right" "_law_changes_right" (defArgs s__law_changes_right) (defBody s__law_changes_right) (defScope s__law_changes_right) [] [] (ga K "_law_changes_right") fd := T.says.def_ 15 (d := dd__law_changes_right) rfl
theorem glo_law (T : Tx K mg w) : mg "law" = some (.ref (ga K "law")) := by
  obtain ⟨h, X, G⟩ := T.ex
  exact He.glo_ok X G (T.says.fact 39 rfl)
theorem d_law (T : Tx K mg w) : ∃ fd, FunD K "law" "law" (defArgs s_law) (defBody s_law) (defScope s_law) [] [] (ga K "law") fd := T.says.def_ 16 (d := dd_law) rfl
theorem glo_WheelError (T : Tx K mg w) : mg "WheelError" = some (.ref (ga K "WheelError")) := by
  obtain ⟨h, X, G⟩ := T.ex
  exact He.glo_ok X G (T.says.fact 40 rfl)
theorem glo_InvalidNumber (T : Tx K mg w) : mg "InvalidNumber" = some (.ref (ga K "InvalidNumber")) := by
  obtain ⟨h, X, G⟩ := T.ex
  exact He.glo_ok X G (T.says.fact 41 rfl)
theorem glo_InvalidText (T : Tx K mg w) : mg "InvalidText" = some (.ref (ga K "InvalidText")) := by
  obtain ⟨h, X, G⟩ := T.ex
  exact He.glo_ok X G (T.says.fact 42 rfl)
theorem er_InvalidText (T : Tx K mg w) : ErrF K "InvalidText" "value" file "InvalidText.__init__" := err_ok ((T.says.bool 9 rfl))
theorem kn_InvalidText (T : Tx K mg w) : KnF K (ga K "InvalidText") 1 ∧ exmOne K (.ref (ga K "InvalidText")) (.ref (ga K "WheelError")) = some true := kn_ok ((T.says.bool 10 rfl))
theorem ef_InvalidText (T : Tx K mg w) : fnC K (ma K (ga K "InvalidText") "__init__") = ee_InvalidText.val := T.errs.err 0 (d := ee_InvalidText) rfl
theorem glo_InvalidName (T : Tx K mg w) : mg "InvalidName" = some (.ref (ga K "InvalidName")) := by
  obtain ⟨h, X, G⟩ := T.ex
  exact He.glo_ok X G (T.says.fact 43 rfl)
theorem glo_InvalidLevels (T : Tx K mg w) : mg "InvalidLevels" = some (.ref (ga K "InvalidLevels")) := by
  obtain ⟨h, X, G⟩ := T.ex
  exact He.glo_ok X G (T.says.fact 44 rfl)
theorem glo_InvalidSwitch (T : Tx K mg w) : mg "InvalidSwitch" = some (.ref (ga K "InvalidSwitch")) := by
  obtain ⟨h, X, G⟩ := T.ex
  exact He.glo_ok X G (T.says.fact 45 rfl)
theorem er_InvalidSwitch (T : Tx K mg w) : ErrF K "InvalidSwitch" "value" file "InvalidSwitch.__init__" := err_ok ((T.says.bool 11 rfl))
theorem kn_InvalidSwitch (T : Tx K mg w) : KnF K (ga K "InvalidSwitch") 4 ∧ exmOne K (.ref (ga K "InvalidSwitch")) (.ref (ga K "WheelError")) = some true := kn_ok ((T.says.bool 12 rfl))
theorem ef_InvalidSwitch (T : Tx K mg w) : fnC K (ma K (ga K "InvalidSwitch") "__init__") = ee_InvalidSwitch.val := T.errs.err 1 (d := ee_InvalidSwitch) rfl
theorem glo_InvalidMode (T : Tx K mg w) : mg "InvalidMode" = some (.ref (ga K "InvalidMode")) := by
  obtain ⟨h, X, G⟩ := T.ex
  exact He.glo_ok X G (T.says.fact 46 rfl)
theorem glo_InvalidMenu (T : Tx K mg w) : mg "InvalidMenu" = some (.ref (ga K "InvalidMenu")) := by
  obtain ⟨h, X, G⟩ := T.ex
  exact He.glo_ok X G (T.says.fact 47 rfl)
theorem glo_InvalidPlan (T : Tx K mg w) : mg "InvalidPlan" = some (.ref (ga K "InvalidPlan")) := by
  obtain ⟨h, X, G⟩ := T.ex
  exact He.glo_ok X G (T.says.fact 48 rfl)
theorem glo_InvalidCommand (T : Tx K mg w) : mg "InvalidCommand" = some (.ref (ga K "InvalidCommand")) := by
  obtain ⟨h, X, G⟩ := T.ex
  exact He.glo_ok X G (T.says.fact 49 rfl)
theorem glo_TooLong (T : Tx K mg w) : mg "TooLong" = some (.ref (ga K "TooLong")) := by
  obtain ⟨h, X, G⟩ := T.ex
  exact He.glo_ok X G (T.says.fact 50 rfl)
theorem glo_TooMany (T : Tx K mg w) : mg "TooMany" = some (.ref (ga K "TooMany")) := by
  obtain ⟨h, X, G⟩ := T.ex
  exact He.glo_ok X G (T.says.fact 51 rfl)
theorem glo_NothingToUndo (T : Tx K mg w) : mg "NothingToUndo" = some (.ref (ga K "NothingToUndo")) := by
  obtain ⟨h, X, G⟩ := T.ex
  exact He.glo_ok X G (T.says.fact 52 rfl)
theorem ch__law_text_right (T : Tx K mg w) : codeHdIn K (codA K (ga K "_law_text_right")) (tbA K (ga K "_law_text_right")) = true := (T.says.bool 13 rfl)
theorem ch__law_changes_right (T : Tx K mg w) : codeHdIn K (codA K (ga K "_law_changes_right")) (tbA K (ga K "_law_changes_right")) = true := (T.says.bool 14 rfl)
theorem ch_law (T : Tx K mg w) : codeHdIn K (codA K (ga K "law")) (tbA K (ga K "law")) = true := (T.says.bool 15 rfl)
theorem off__law_text_right (T : Tx K mg w) : K.lookup 502 = none := off_ok ((T.says.bool 16 rfl))
theorem tb__law_text_right (T : Tx K mg w) : tbA K (ga K "_law_text_right") = 502 := of_decide_eq_true ((T.says.bool 17 rfl))
theorem off__law_changes_right (T : Tx K mg w) : K.lookup 509 = none := off_ok ((T.says.bool 18 rfl))
theorem tb__law_changes_right (T : Tx K mg w) : tbA K (ga K "_law_changes_right") = 509 := of_decide_eq_true ((T.says.bool 19 rfl))
theorem off_law (T : Tx K mg w) : K.lookup 516 = none := off_ok ((T.says.bool 20 rfl))
theorem tb_law (T : Tx K mg w) : tbA K (ga K "law") = 516 := of_decide_eq_true ((T.says.bool 21 rfl))
theorem glo_Book (T : Tx K mg w) : mg "Book" = some (.ref (ga K "Book")) := by
  obtain ⟨h, X, G⟩ := T.ex
  exact He.glo_ok X G (T.says.fact 53 rfl)
theorem cls_Book (T : Tx K mg w) : Cls K (ga K "Book") := by
  obtain ⟨h, X, G⟩ := T.ex
  exact He.cls_ok (T.says.fact 54 rfl)
theorem mk_Book (T : Tx K mg w) : Mk K (ga K "Book") (ma K (ga K "Book") "__init__") := by
  obtain ⟨h, X, G⟩ := T.ex
  exact He.mkr_ok (T.says.fact 55 rfl)
theorem isi_Book (T : Tx K mg w) : IsiC K (ga K "Book") := isi_ok ((T.says.bool 22 rfl))
theorem kit_Book (T : Tx K mg w) : kitOne K (.ref (ga K "Book")) (.ref (ga K "Book")) = some true := kit_ok (t := fun K => .ref (ga K "Book")) (c := fun K => .ref (ga K "Book")) ((T.says.bool 23 rfl))
theorem ne_Book (T : Tx K mg w) : findIn K (.ref (ga K "Book")) "__ne__" = some (some (.builtin "object.__ne__")) := eqO_ok ((T.says.bool 24 rfl))
theorem ob_Book (T : Tx K mg w) : PySem.W.subIn K (.ref (ga K "Book")) (.type "object") = some true := of_decide_eq_true ((T.says.bool 25 rfl))
theorem na_Book_kept_values (T : Tx K mg w) : NoAttr K (ga K "Book") "kept_values" := by
  obtain ⟨h, X, G⟩ := T.ex
  exact He.noat_ok (T.says.fact 56 rfl)
theorem d_Book___init__ (T : Tx K mg w) : ∃ fd, FunD K "__init__" "Book.__init__" (defArgs s_Book___init__) (defBody s_Book___init__) (defScope s_Book___init__) [] [("rounding", V.str "down"), ("action", V.str "move"), ("order", V.str "high"), ("due", V.str "now"), ("zero", V.str "one"), ("beyond", V.str "refuse")] (ma K (ga K "Book") "__init__") fd := T.says.def_ 17 (d := dd_Book___init__) rfl
theorem pr_Book_text (T : Tx K mg w) : PropOf K (ga K "Book") "text" (ma K (ga K "Book") "text") (pa K (ga K "Book") "text") := prop_ok ((T.says.bool 27 rfl))
theorem d_Book_text (T : Tx K mg w) : ∃ fd, FunD K "text" "Book.text" (defArgs s_Book_text) (defBody s_Book_text) (defScope s_Book_text) [] [] (pa K (ga K "Book") "text") fd := T.says.def_ 18 (d := dd_Book_text) rfl
theorem me_Book___eq__ (T : Tx K mg w) : Meth K (ga K "Book") "__eq__" (ma K (ga K "Book") "__eq__") := by
  obtain ⟨h, X, G⟩ := T.ex
  exact He.meth_ok (T.says.fact 57 rfl)
theorem fq_Book___eq__ (T : Tx K mg w) : isFn K (.ref (ma K (ga K "Book") "__eq__")) = true ∧ fnIn K (ma K (ga K "Book") "__eq__") = true := He.ba ((T.says.bool 28 rfl))
theorem d_Book___eq__ (T : Tx K mg w) : ∃ fd, FunD K "__eq__" "Book.__eq__" (defArgs s_Book___eq__) (defBody s_Book___eq__) (defScope s_Book___eq__) [] [] (ma K (ga K "Book") "__eq__") fd := T.says.def_ 19 (d := dd_Book___eq__) rfl
theorem me_Book___getitem__ (T : Tx K mg w) : Meth K (ga K "Book") "__getitem__" (ma K (ga K "Book") "__getitem__") := by
  obtain ⟨h, X, G⟩ := T.ex
  exact He.meth_ok (T.says.fact 58 rfl)
theorem fq_Book___getitem__ (T : Tx K mg w) : isFn K (.ref (ma K (ga K "Book") "__getitem__")) = true ∧ fnIn K (ma K (ga K "Book") "__getitem__") = true := He.ba ((T.says.bool 29 rfl))
theorem d_Book___getitem__ (T : Tx K mg w) : ∃ fd, FunD K "__getitem__" "Book.__getitem__" (defArgs s_Book___getitem__) (defBody s_Book___getitem__) (defScope s_Book___getitem__) [] [] (ma K (ga K "Book") "__getitem__") fd := T.says.def_ 20 (d := dd_Book___getitem__) rfl
theorem me_Book_changed (T : Tx K mg w) : Meth K (ga K "Book") "changed" (ma K (ga K "Book") "changed") := by
  obtain ⟨h, X, G⟩ := T.ex
  exact He.meth_ok (T.says.fact 59 rfl)
theorem d_Book_changed (T : Tx K mg w) : ∃ fd, FunD K "changed" "Book.changed" (defArgs s_Book_changed) (defBody s_Book_changed) (defScope s_Book_changed) [] [] (ma K (ga K "Book") "changed") fd := T.says.def_ 21 (d := dd_Book_changed) rfl
theorem cm_Book_from_text (T : Tx K mg w) : ClX.CMet K (ga K "Book") (.type "type") "from_text" (ma K (ga K "Book") "from_text") (He5.wf K (ga K "Book") "classmethod" "from_text") := cm_ok ((T.says.bool 31 rfl))
theorem cr_Book (T : Tx K mg w) : ClX.CRead K (ga K "Book") (.type "type") := cread_ok ((T.says.bool 32 rfl))
theorem d_Book_from_text (T : Tx K mg w) : ∃ fd, FunD K "from_text" "Book.from_text" (defArgs s_Book_from_text) (defBody s_Book_from_text) (defScope s_Book_from_text) [] [] (He5.wf K (ga K "Book") "classmethod" "from_text") fd := T.says.def_ 22 (d := dd_Book_from_text) rfl
end
def spLaw (K : Frag) : Sp := fun vs H Q _ => ∃ (a : Addr) (ns : List Int), vs = [.ref a] ∧ SqL K H a (ns.map V.int) ∧ ns.length ≤ 63 ∧ H (tbA K (ga K "_law_text_right")) = some (.tbl #[]) ∧ H (tbA K (ga K "_law_changes_right")) = some (.tbl #[]) ∧ H (tbA K (ga K "law")) = some (.tbl #[]) ∧ ∀ H', Q (.bl true) H'
end Hd
section
open PySem PySem.W PySem.Calls PyProof.Rows
theorem Hd.holds {k : Nat} {CX : L2.CXT} (hCX : ∀ (H : L2.Hp) (s : Shared) (e : Value) (s' : Shared), CX [] H s (fun _ _ _ => False) e s' → False) (hr : Tw.RmG k callerA)
    (F : ∀ (K : Frag) (mg : PySem.Str → Option Value) (w : World) (base : Heap), Hd.Tx K mg w → LamX.TabB base mg (Tw.codA K (He.ga K "_law_text_right")) (Tw.tbA K (He.ga K "_law_text_right")) → LamX.TabB base mg (Tw.codA K (He.ga K "_law_changes_right")) (Tw.tbA K (He.ga K "_law_changes_right")) → LamX.TabB base mg (Tw.codA K (He.ga K "law")) (Tw.tbA K (He.ga K "law")) → Tw.FnG (PySem.Challenge.rw_timerwheels_k07_books_refused).prog w K mg base CX k (He.ga K "law") (Hd.spLaw K)) : PySem.Challenge.rw_timerwheels_k07_books_refused.Holds := by
  w_on; o_law
  refine HandSHeadRun.head_any (r := OpenLaw.row PySem.Challenge.rw_timerwheels_k07_books_refused) (q := view (OpenLaw.row PySem.Challenge.rw_timerwheels_k07_books_refused).prog [35]) (H := Hd.hk) (ob := Hd.ob) (M := 5618) (loose := Hd.loose) (d := HandSHeadRun.topDef (OpenLaw.row PySem.Challenge.rw_timerwheels_k07_books_refused).prog 35) (kwd := []) Hd.ob_eq
    (by kernel_rfl) (fun s => by kernel_rfl) Hd.run (by kernel_rfl) (by kernel_rfl) (by kernel_rfl) (by rfl) (by first | assumption | decide +kernel) (by decide +kernel) ⟨rfl, rfl, rfl, rfl, rfl, by decide +kernel⟩ ?hw ?hc
  case hw => w_witness2
  case hc =>
    refine Tw.walk_ofGT (l := PySem.Challenge.rw_timerwheels_k07_books_refused) (n := 63) (k := k) (CX := CX) rfl (by decide) (by kernel_rfl) hr ?F hCX
    intro w mg fa h Y G hmg0
    obtain ⟨K, KX, c, tb⟩ := Y
    have hmg : mg ("law" : PySem.Str) = some (.ref fa) := by
      have e : (HandSHeadRun.topDef (OpenLaw.row PySem.Challenge.rw_timerwheels_k07_books_refused).prog 35).name = ("law" : PySem.Str) := by kernel_rfl
      rw [← e]
      exact hmg0
    have T : Hd.Tx K mg w := ⟨⟨h, KX, G⟩, c.m, c⟩
    have e := hmg.symm.trans (Hd.glo_law T)
    cases e
    refine ⟨K, [(Tw.codA K (He.ga K "_law_text_right"), Tw.tbA K (He.ga K "_law_text_right")), (Tw.codA K (He.ga K "_law_changes_right"), Tw.tbA K (He.ga K "_law_changes_right")), (Tw.codA K (He.ga K "law"), Tw.tbA K (He.ga K "law"))], Hd.spLaw K, KX, ?_, ?_, ?_, fun H a ns hl hS hB => ⟨a, ns, rfl, hS, hl, hB (Tw.codA K (He.ga K "_law_text_right"), Tw.tbA K (He.ga K "_law_text_right")) (by simp),hB (Tw.codA K (He.ga K "_law_changes_right"), Tw.tbA K (He.ga K "_law_changes_right")) (by simp),hB (Tw.codA K (He.ga K "law"), Tw.tbA K (He.ga K "law")) (by simp), fun _ => rfl⟩, fun base _ _ hB => F K mg w base T (hB (Tw.codA K (He.ga K "_law_text_right"), Tw.tbA K (He.ga K "_law_text_right")) (by simp)) (hB (Tw.codA K (He.ga K "_law_changes_right"), Tw.tbA K (He.ga K "_law_changes_right")) (by simp)) (hB (Tw.codA K (He.ga K "law"), Tw.tbA K (He.ga K "law")) (by simp))⟩
    · intro p hp
      simp only [List.mem_cons, List.not_mem_nil, or_false] at hp
      rcases hp with rfl | rfl | rfl
      · show h.get? (Tw.tbA K (He.ga K "_law_text_right")) = _
        rw [Hd.tb__law_text_right T]
        exact tb _ (by simp)
      · show h.get? (Tw.tbA K (He.ga K "_law_changes_right")) = _
        rw [Hd.tb__law_changes_right T]
        exact tb _ (by simp)
      · show h.get? (Tw.tbA K (He.ga K "law")) = _
        rw [Hd.tb_law T]
        exact tb _ (by simp)
    · intro p hp
      simp only [List.mem_cons, List.not_mem_nil, or_false] at hp
      rcases hp with rfl | rfl | rfl
      · show K.lookup (Tw.tbA K (He.ga K "_law_text_right")) = none
        rw [Hd.tb__law_text_right T]
        exact Hd.off__law_text_right T
      · show K.lookup (Tw.tbA K (He.ga K "_law_changes_right")) = none
        rw [Hd.tb__law_changes_right T]
        exact Hd.off__law_changes_right T
      · show K.lookup (Tw.tbA K (He.ga K "law")) = none
        rw [Hd.tb_law T]
        exact Hd.off_law T
    · intro p hp
      simp only [List.mem_cons, List.not_mem_nil, or_false] at hp
      rcases hp with rfl | rfl | rfl
      · exact Hd.ch__law_text_right T
      · exact Hd.ch__law_changes_right T
      · exact Hd.ch_law T
end
/-! Tw: try with several clauses 'except C as n' -/
namespace Tw
open PySem PySem.Spec PyProof.Rows L2
abbrev Cl : Type := Value × Nat × (Addr → Value → Option Addr → TS)
def wAll (K : PySem.W.Frag) (n : Nat) (Wout : WX) (D : Ends) : List Cl → WX
  | [] => Wout
  | q :: r => fun cls d σ H => ∃ b, PySem.W.exmOne K cls q.1 = some b ∧ (b = true → σ.length = n → ∀ a, H a = none → q.2.2 a cls d { nx := fun σ2 H2 => D.nx (σ2.set q.2.1 none) H2, rt := D.rt, bk := fun σ2 H2 => D.bk (σ2.set q.2.1 none) H2, ct := fun σ2 H2 => D.ct (σ2.set q.2.1 none) H2 } (σ.set q.2.1 (some (.ref a))) H) ∧
      (b = false → wAll K n Wout D r cls d σ H)
inductive ClsOk (X : Cx) : List ExceptHandler → List Cl → Prop
  | nil : ClsOk X [] []
  | cons {x n : Str} {c : Value} {i : Nat} {ts : Addr → Value → Option Addr → TS} {b : Stmt} {bs : List Stmt} {p q : Pos} {hs : List ExceptHandler} {l : List Cl} (hi : X.N[i]? = some n) (hn : X.env.kindOf n = some .local) (hc : Names X x c)
      (hb : ∀ (a : Addr) (oe : Obj) (cls : Value) (d : Option Addr) (pn : List (Addr × Obj)), Zc cls d oe → (∃ vs, oe.data = .fields vs) → PSs (X.suite a ((a, oe) :: pn)) (b :: bs) (ts a cls d)) (r : ClsOk X hs l) :
      ClsOk X (.ExceptHandler (some (.Name x p)) (some n) (b :: bs) q :: hs) ((c, i, ts) :: l)
structure Cau (X : Cx) (pins : List (Addr × Obj)) (σ : L2.St) (H : Hp) (cls : Value) (d : Option Addr) (a : Addr) (B : Heap) (sI s : Shared) (h : Heap) : Prop where
  inv : Inv X pins σ H sI
  old : ∀ b o, sI.heap.get? b = some o → b ∉ frs X.stack → B.get? b = some o
  up : sI.heap.UpToSlots h
  new : H a = none
  os : s.os = sI.os
  bare : AllBare s.gens
  fly : HandSPX.FlyingZ B (X.env :: X.outer) a (Zc cls d) h
section
variable {X : Cx} {pins : List (Addr × Obj)} {σ : L2.St} {H : Hp} {cls : Value} {d : Option Addr} {a : Addr} {B : Heap} {sI s : Shared} {h : Heap}
theorem Cau.here (c : Cau X pins σ H cls d a B sI s h) : Inv X pins σ H { s with heap := h } := c.inv.landed c.old c.fly.1 c.up c.os c.bare
theorem Cau.apart (c : Cau X pins σ H cls d a B sI s h) (hf : X.env.frame = some X.env.locals) : ∃ oe vs, h.get? a = some oe ∧ Zc cls d oe ∧ oe.data = .fields vs ∧ a ≠ X.env.locals ∧ a ∉ X.fs := by
  obtain ⟨oe, vs, e, z, k⟩ := c.fly.there
  have nf : a ∉ frs (X.env :: X.outer) := fun m => by
    obtain ⟨_, o2, e2, n2⟩ := c.fly.2.2.1.mem m
    rw [e] at e2
    cases e2
    exact n2 _ k
  refine ⟨oe, vs, e, z, k, fun y => nf (List.mem_filterMap.mpr ⟨X.env, List.mem_cons_self, by rw [hf, y]⟩), fun y => ?_⟩
  obtain ⟨e1, m1, g1⟩ := List.mem_filterMap.mp y
  exact nf (List.mem_filterMap.mpr ⟨e1, List.mem_cons_of_mem _ m1, g1⟩)
theorem Cau.pass {Wout : WX} {D : Ends} (c : Cau X pins σ H cls d a B sI s h) (hs : X.stack = X.env :: X.outer) (hf : X.env.frame = some X.env.locals) (tk : Takes X Wout) (w : Wout cls d σ H) :
    wpAny (model X.prog X.w) X.A (handleBy (.ref a) X.env []) (SP X pins D) X.xe { s with heap := h } := by
  refine wpAny_handleBy_nil ?_
  obtain ⟨_, _, _, oe, vs, T, oT, ts, e, _, k, h1, _⟩ := id c.fly
  unfold PySem.passOn
  refine wpAny_bind (wpAny_field e k h1 ?_)
  have ne : ¬ ((Value.ref T == Value.none) = true) := by simp
  rw [if_neg ne]
  have out : wpAny (model X.prog X.w) X.A (setFlight (.ref a) X.env.frame) (fun _ s4 => wpAny (model X.prog X.w) X.A (throw (.ref a) : Sem Flow) (SP X pins D) X.xe s4) X.xe { s with heap := h } := by
    rw [hf]
    exact HandSPX.setFlight_upZ c.fly fun h4 k4 u4 => wpAny_throw (tk _ _ ⟨a, B, sI, pins, σ, H, cls, d, rfl, c.inv, c.old, c.up.trans u4, .inr (.inr (by rw [hs]; exact k4)), c.new, c.os, c.bare, w⟩)
  first
    | exact wpAny_bind (wpAny_pure (wpAny_bind out))
    | exact wpAny_bind out
theorem Cau.look (c : Cau X pins σ H cls d a B sI s h) (hs : X.stack = X.env :: X.outer) (hf : X.env.frame = some X.env.locals) (hN : X.N.Nodup) {Wout : WX} {D : Ends} (tk : Takes X Wout) :
    ∀ {hds : List ExceptHandler} {l : List Cl}, ClsOk X hds l → wAll X.K X.N.length Wout D l cls d σ H → wpAny (model X.prog X.w) X.A (handleBy (.ref a) X.env hds) (SP X pins D) X.xe { s with heap := h } := by
  intro hds l ok
  have okX := c.inv.ok
  have hfr : X.A.frames = some (X.env :: X.outer) := by rw [okX.frames, hs]
  induction ok with
  | nil => exact fun w => c.pass hs hf tk w
  | @cons x n cc i ts b bs p q hs2 l2 hi hn hc hb r ih =>
    rintro ⟨v, e1, yes, no⟩
    refine wpAny_handleBy_cons (codeAny_handlers_test ?_) (by intro z; cases z)
    obtain ⟨oe, vs, e, z, k, nL, nF⟩ := c.apart hf
    have lt : PySem.W.Looks (model X.prog X.w) h (typeOf (.ref a)) cls := fun A Q E s2 k2 q2 => wpAny_typeOf_ref (k2 _ _ e) (by rw [z.1]; exact q2)
    have lm := PySem.W.exm_one (M := model X.prog X.w) c.here.kIn lt e1
    have inS := c.here.suite e k c.new nL nF
    have ask : ∀ {Q : Value → Shared → Prop} {E : Value → Shared → Prop}, Q cc { s with heap := h } → wpAny (model X.prog X.w) (X.A.mark (some (.ref a))) (eval (.Name x p) X.env) Q E { s with heap := h } := fun {Q E} q2 => by
      obtain ⟨g, nd, m | ⟨m, bo, nn⟩⟩ := hc
      · exact ld_glob (X := X.suite a ((a, oe) :: (X.pn ++ pins))) inS g m q2 nd
      · exact ld_blt (X := X.suite a ((a, oe) :: (X.pn ++ pins))) inS g m bo q2 nn nd
    refine ask (lm.here ?_)
    cases v with
    | false =>
      show wpAny _ X.A (handleBy (.ref a) X.env hs2) _ _ _
      exact ih (no rfl)
    | true =>
      refine codeAny_handlers_suite_as (HandSPX.lands_againZ c.fly fun h4 f4 u4 => ?_)
      have c4 : Cau X pins σ H cls d a B sI s h4 := ⟨c.inv, c.old, c.up.trans u4, c.new, c.os, c.bare, f4⟩
      obtain ⟨o4, w4, e4, z4, k4, nL4, nF4⟩ := c4.apart hf
      have S4 := c4.here.suite e4 k4 c4.new nL4 nF4
      refine store_ok (X := X.suite a ((a, o4) :: (X.pn ++ pins))) (v := .ref a) S4 hN hi (.inl hn) rfl (fun s5 S5 => ?_) (.inr hn)
      refine wpAny_mono ((hb a o4 cls d (X.pn ++ pins) z4 ⟨_, k4⟩).run [] s5 _ H _ S5 (yes rfl c.inv.len a c.new)) (fun f s6 g6 => ?_) (fun _ _ z => False.elim z)
      have bye : ∀ {σ6 : L2.St} {H6 : Hp} {Q : Shared → Prop}, Inv (X.suite a ((a, o4) :: (X.pn ++ pins))) [] σ6 H6 s6 → (∀ s7, Inv X pins (σ6.set i none) H6 s7 → Q s7) → wpAny (model X.prog X.w) X.A (do bindName X.env n .none; unbindBehindTheSuite X.env n q) (fun _ s7 => Q s7) X.xe s6 :=
        fun {σ6 H6 Q} S6 w6 => gone_ok (S6.unsuite okX) hN hi hn w6
      cases f with
      | ret u =>
        obtain ⟨v6, σ6, H6, S6, r6, w6⟩ := g6
        exact bye S6 fun s7 J7 => ⟨v6, _, _, J7, r6, w6⟩
      | next =>
        obtain ⟨σ6, H6, S6, w6⟩ := g6
        exact bye S6 fun s7 J7 => ⟨_, _, J7, w6⟩
      | brk =>
        obtain ⟨σ6, H6, S6, w6⟩ := g6
        exact bye S6 fun s7 J7 => ⟨_, _, J7, w6⟩
      | cont =>
        obtain ⟨σ6, H6, S6, w6⟩ := g6
        exact bye S6 fun s7 J7 => ⟨_, _, J7, w6⟩
end
section
variable {X : Cx} {body : List Stmt} {h0 : ExceptHandler} {hds : List ExceptHandler} {l : List Cl} {pos : Pos} {tb : WX → TS} {Wout : WX}
theorem ps_try_all (hs : X.stack = X.env :: X.outer) (hf : X.env.frame = some X.env.locals) (hN : X.N.Nodup) (tk : Takes X Wout)
    (hb : ∀ (W : WX) (pn : List (Addr × Obj)) (xe : Value → Shared → Prop), Takes (X.tr pn xe) W → PassesOwn (model X.prog X.w) X.A X.env xe → PSs (X.tr pn xe) body (tb W)) (hh : ClsOk X (h0 :: hds) l) :
    PS X (.Try body (h0 :: hds) [] [] pos) (fun D σ H => tb (wAll X.K X.N.length Wout D l) D σ H) := by
  refine ⟨fun pins s σ H D I h => ?_⟩
  have okX := I.ok
  have hfr : X.A.frames = some (X.env :: X.outer) := by rw [okX.frames, hs]
  refine wpAny_Try_except (wpAny_mono ((hb (wAll X.K X.N.length Wout D l) (X.pn ++ pins) (fun e s1 => wpAny (model X.prog X.w) X.A (noteFrame e X.env) (fun _ s2 => wpAny (model X.prog X.w) X.A (setFlight e none) (fun _ s3 => wpAny (model X.prog X.w) X.A (handleBy e X.env (h0 :: hds)) (SP X pins D) X.xe s3) X.xe s2) X.xe s1) (fun u s1 z => ?_) PassesOwn.looking).run [] s σ H D (I.toTry _) h) (fun f s1 q => ?_) fun e s1 z => z)
  · obtain ⟨a, B, sI, pn2, σ2, H2, cls, d, rfl, J2, nb, up, sky, na, os, ag, w⟩ := z
    have J : Inv X pins σ2 H2 sI := J2.ofTry okX
    have sk : Sky B (X.env :: X.outer) a (Zc cls d) X.env.locals s1.heap := by rw [← hs]; exact sky
    show wpAny (model X.prog X.w) X.A (noteFrame (.ref a) X.env) _ _ _
    exact Sky.land Zc.steady hfr hf sk fun h3 f3 u3 => (show Cau X pins σ2 H2 cls d a B sI s1 h3 from ⟨J, nb, up.trans u3, na, os, ag, f3⟩).look hs hf hN tk hh w
  · cases f with
    | next =>
      obtain ⟨σ2, H2, J2, w⟩ := q
      exact wpAny_execs_nil ⟨σ2, H2, J2.ofTry okX, w⟩
    | ret u =>
      obtain ⟨v, σ2, H2, J2, r, w⟩ := q
      exact ⟨v, σ2, H2, J2.ofTry okX, r, w⟩
    | brk =>
      obtain ⟨σ2, H2, J2, w⟩ := q
      exact ⟨σ2, H2, J2.ofTry okX, w⟩
    | cont =>
      obtain ⟨σ2, H2, J2, w⟩ := q
      exact ⟨σ2, H2, J2.ofTry okX, w⟩
end
end Tw
/-! Tw: defs that are called in an except suite and raise nothing; what they promise may speak of the caught error -/
namespace Tw
open PySem PySem.Spec PyProof.Rows L2
open L2H (RoomH PinOk cxH inv_startH)
def FnP (P : Program) (w : World) (K : PySem.W.Frag) (mg : Str → Option Value) (base : Heap) (k : Nat) (f : Addr) (sp : Addr × Obj → Sp) : Prop :=
  ∀ A fs t Hp0 us vs Q p, RoomH k A → PinOk fs Hp0 t p → Env0 P w K mg base A fs t Hp0 → Vals vs us → sp p vs Hp0 Q C8.E0 → codeAny (model P w) A (.call (.ref f) ⟨us, []⟩) (CR C8.CX0 fs P w Hp0 t Q C8.E0) t
section
variable {P : Program} {w : World} {K : PySem.W.Frag} {mg : Str → Option Value} {base : Heap} {k : Nat} {f : Addr} {sp : Addr × Obj → Sp}
theorem FnP.mono {j : Nat} (F : FnP P w K mg base j f sp) (h : j ≤ k) : FnP P w K mg base k f sp := fun A fs t H us vs Q p r => F A fs t H us vs Q p (r.mono h)
theorem fnP_of {x qual : Str} {params : Arguments} {body : List Stmt} {scope : Scope} {kws : List (Str × V)} {fd : FuncData} {N ps : List Str} (F : FunD K x qual params body scope [] kws f fd) (S : FnScope N ps scope) (hb : Binds K fd ps [])
    (hl : ∀ p vs H Q E, sp p vs H Q E → vs.length = ps.length)
    (hbody : ∀ cdv A fs t H vs Q p, RoomH k (A.deeper (envOfC qual scope t.heap.objs.size f cdv)) → PinOk fs H t p → sp p vs H Q C8.E0 → ∃ tt, PSs (cxH C8.CX0 P w K mg base N qual scope f cdv A fs t H C8.E0 p) body tt ∧ tt { nx := fun _ H' => Q .non H', rt := Q } (L2.start N vs) H) :
    FnP P w K mg base (k + 1) f sp := by
  intro A fs t H us vs Q p hr hp e0 rv h
  obtain ⟨oc, od, dV, kV, doc, pm, an, cdv, ct, osl, efd, lk, hcd, _, _⟩ := F.ex
  have KX : K.In t.heap := e0.mod.kin.keeps fun b o z => (e0.bs b o z).1
  have hlen : us.length = ps.length := rv.length.symm.trans (hl _ _ _ _ _ h)
  have hbt := hb t us KX (by rw [List.append_nil]; exact hlen)
  rw [List.append_nil] at hbt
  rw [efd] at lk hbt
  refine codeAny_call_function hr.depth (KX _ _ lk) rfl S.co S.gen rfl (PySem.W.codeRec_of KX hcd) (hbt _ _ _ _ ?_)
  refine wpAny_newFunctionEnv_cells S.kind (fun y hy => ?_) fun env he t1 inc => ?_
  · exact (S.par y.1 (List.of_mem_zip hy).1).elim .inl fun z => .inr ⟨z, PySem.W.cellsFrom_some _ _ _ (.inl z)⟩
  · subst he
    obtain ⟨tt, hps, hq⟩ := hbody cdv A fs t H vs Q p (hr.deeper _) hp h
    have hnl : t.heap.NoLimit := e0.mod.nolimit.keeps fun b o z => (e0.bs b o z).1
    refine ⟨hnl.keeps inc.toInCall.keep, codeAny_func (wpAny_mono (hps.run [] t1 _ _ _ (inv_startH S hp e0 (hl _ _ _ _ _ h) rv inc) hq) (fun fl t2 z => ?_) fun _ _ z => z)⟩
    cases fl with
    | ret u =>
      obtain ⟨v, _, H2, J, r2, q2⟩ := z
      exact ⟨v, H2, J.os, J.bare, J.base, J.hok, r2, q2⟩
    | next =>
      obtain ⟨_, H2, J, q2⟩ := z
      exact ⟨.non, H2, J.os, J.bare, J.base, J.hok, rfl, q2⟩
    | brk => exact z.elim fun _ z => z.elim fun _ z => z.2.elim
    | cont => exact z.elim fun _ z => z.elim fun _ z => z.2.elim
end
section
variable {X : Cx} {k : Nat} {f : Addr} {sp : Addr × Obj → Sp} {x : Str} {e : Expr} {es : List Expr} {t : TA} {p pos : Pos} {q : Addr × Obj}
theorem call_fnP {pins : List (Addr × Obj)} {σ : L2.St} {H : Hp} {s : Shared} {Q : VK} {us : List Value} {vs : List V} (F : FnP X.prog X.w X.K X.mg X.base k f sp) (hr : RoomH k X.A) (hq : q ∈ X.pn) (I : Inv X pins σ H s) (rv : Vals vs us) (h : sp q vs H Q C8.E0) :
    wpAny (model X.prog X.w) X.A (call (.ref f) us) (EP X pins σ Q) X.xe s := by
  have g := I.pin q (List.mem_append_left _ hq)
  have hp : PinOk X.stack H s q := ⟨g.1, g.2.1, fun m => (List.mem_cons.mp (I.stkSub q.1 m)).elim g.2.2.1 g.2.2.2.1, g.2.2.2.2⟩
  exact wpAny_call (codeAny_mono (F X.A X.stack s H us vs Q q hr hp I.env0 rv h) fun r s2 z => match r, z with
    | .error y, z => (show False from z).elim
    | .ok (.ret u), z => I.after z
    | .ok .next, z => z.elim
    | .ok .brk, z => z.elim
    | .ok .cont, z => z.elim)
structure RmS (A : Around) : Prop where
  un : A.units + 40 < cLine
  gd : A.guards = some []
end
end Tw
/-! Tw: isinstance of a caught error that has its dict -/
namespace Tw
open PySem PySem.Spec PySem.Calls PyProof.Rows L2 PySem.W
section
variable {prog : Program} {w : World} {A : Around} {E : Value → Shared → Prop} {s : Shared} {K : Frag} {x D : Addr} {ox : Obj} {od : Option Obj}
theorem find_cls (T : ExcC K D) : findObj K D od "__class__" = some (.bind (.builtin "getset_descriptor.__get__") (.builtin "object.__class__")) := by
  obtain ⟨cd, hc, _⟩ := any_some T.hd
  unfold findObj
  rw [hc, Option.bind_some, T.ha, Option.bind_some]
  simp [T.hn, T.ht]
theorem cls_of (T : ExcC K D) {Q : Option Value → Shared → Prop} (X : K.In s.heap) (I : InstAt s.heap x ox D od) (h : Q (some (.ref D)) { s with toks := s.toks + 1 }) : wpAny (model prog w) A (getAttr? (.ref x) "__class__") Q E s := by
  obtain ⟨hp, g, d, t, os⟩ := s
  have la := I.type (M := model prog w)
  have lb := looks_findIn (M := model prog w) X T.hg
  have lc := looks_findIn (M := model prog w) X T.hk
  have ld := looks_find (M := model prog w) X I (find_cls T)
  have isb : Looks (model prog w) hp (isInstance (.ref x) (.type "BaseException")) true := la.andThen (looks_subIn X T.hs)
  have f0 : (false && onTheHeap (Value.builtin "BaseException.__getattribute__")) = false := rfl
  have f1 : (Value.builtin "BaseException.__getattribute__" == Value.builtin "object.__getattribute__") = false := by decide +kernel
  have f2 : (onTheHeap (Value.ref D) && Value.builtin "BaseException.__getattribute__" == Value.builtin "object.__getattribute__") = false := by rw [f1]; rfl
  have f3 : onTheHeap (Value.ref D) = true := rfl
  unfold getAttr? getAttrBy? getAttrBy
  refine wpAny_bind (wpAny_mkText (wpAny_bind (wpAny_attempt (wpAny_holding (wpAny_bind (la.at (wpAny_bind (lb.at ?_))))))))
  show wpAny _ _ (if (onTheHeap (Value.ref D) && Value.builtin "BaseException.__getattribute__" == Value.builtin "object.__getattribute__") = true then _ else _) _ _ _
  rw [f2, if_neg Bool.false_ne_true]
  unfold getAttrByItsOwn hookBefore
  refine wpAny_bind ?_
  rw [if_pos f3]
  refine lc.at (wpAny_bind (wpAny_attempt (wpAny_holding ?_)))
  unfold callGetattribute
  rw [f0, if_neg Bool.false_ne_true]
  unfold boundAndCalled
  rw [PySem.F.excAttr_ValueError.ga.bind (.ref x)]
  refine wpAny_bind (wpAny_pure ?_)
  show wpAny _ _ (call (.builtin "BaseException.__getattribute__") [.ref x, .str "__class__" t]) _ _ _
  refine wpAny_call (codeAny_call_builtin PySem.F.excAttr_ValueError.ga.plain PySem.F.entry_bexc_ga (@check_slot (model prog w) _ _ ⟨hp, g, d, t + 1, os⟩ "BaseException.__getattribute__" "BaseException" "__getattribute__" (.ref x) [.str "__class__" t] [] _ (by decide +kernel) (by decide +kernel) isb (PySem.F.args_bexc_ga (.ref x) (.str "__class__" t)) ?_))
  unfold Builtin.«object.__getattribute__»
  refine wpAny_bind (wpAny_of_eq (a := ((Value.ref x : Value), [Value.str "__class__" t])) (by first | rfl | (simp only [slotArgs]; rfl)) ?_)
  refine wpAny_bind (wpAny_pure (wpAny_bind (la.at (wpAny_bind (ld.at ?_)))))
  show wpAny _ _ (holding [Value.builtin "object.__class__"] (call (.builtin "getset_descriptor.__get__") [.builtin "object.__class__", .ref x, .ref D]) >>= ret) _ _ _
  refine wpAny_bind (wpAny_holding (wpAny_call (class_get (s := ⟨hp, g, d, t + 1, os⟩) (ox := ox) (od := od) X I T.hm ?_)))
  refine wpAny_pure ?_
  show wpAny _ _ (handedOut (.ref D)) _ _ _
  rw [handedOut_of (v := .ref D) rfl]
  first
    | exact wpAny_pure (wpAny_pure h)
    | exact wpAny_pure h
    | exact wpAny_pure (wpAny_bind (wpAny_pure (wpAny_pure h)))
theorem kit_err (T : ExcC K D) : KitX K (.ref x) (.ref D) (fun h => InstAt h x ox D od) where
  ty := fun _ _ _ I => I.type
  it := fun _ _ X _ => by
    obtain ⟨cdD, hcD, _⟩ := any_some T.hd
    unfold clsIn at hcD
    split at hcD
    · rename_i c1 d1 cd1 sl1 ho
      intro A1 Q1 E1 s1 k1 q1
      unfold isType loadHead
      exact wpAny_bind (wpAny_loadPart (k1 _ _ (X _ _ ho)) (wpAny_pure q1))
    · cases hcD
  ne := fun h tp dd its n sl X htp => by
    obtain ⟨cdD, hcD, _⟩ := any_some T.hd
    refine Bool.eq_false_iff.mpr fun q => ?_
    obtain rfl : D = tp := Value.ref.inj (beq_iff_eq.mp q)
    unfold clsIn at hcD
    split at hcD
    · rename_i c1 d1 cd1 sl1 ho
      have z := (X _ _ ho).symm.trans htp
      cases z
    · cases hcD
  ca := fun X I k => cls_of T X I k
end
def DicO (H : Hp) (d : Option Addr) : Prop := ∀ dd, d = some dd → ∃ fs : List (PySem.Str × V), H dd = some (.xd fs)
theorem DicO.same {H H' : Hp} {d : Option Addr} (h : DicO H d) (s : ∀ b o, H b = some o → H' b = some o) : DicO H' d := fun dd e => (h dd e).elim fun fs z => ⟨fs, s _ _ z⟩
theorem dicO_some {H : Hp} {dd : Addr} {fs : List (PySem.Str × V)} (h : H dd = some (.xd fs)) : DicO H (some dd) := fun x e => by
  cases e
  exact ⟨fs, h⟩
theorem dicO_none {H : Hp} : DicO H none := fun x e => by cases e
def rIsP (K : Frag) (p : Addr × Obj) : List V → Hp → VK → Prop := fun xs H Q => ∃ (D : Addr) (c : V) (cv : Value) (b : Bool) (d : Option Addr), ExcC K D ∧ xs = [.ref p.1, c] ∧ Zc (.ref D) d p.2 ∧ (∃ vs, p.2.data = .fields vs) ∧ DicO H d ∧ (∀ u, RelV c u → u = cv) ∧ kitOne K (.ref D) cv = some b ∧ Q (.bl b) H
theorem call_isP {X : Cx} {p : Addr × Obj} (hp : p ∈ X.pn) : CallR X (.builtin "isinstance") (rIsP X.K p) := by
  intro pins s σ H xs us Q I r h
  obtain ⟨D, c, cv, b, d, T, rfl, hz, ⟨vs, hv⟩, hdd, hcv, e, q⟩ := h
  cases r with
  | cons rx rr =>
    cases rr with
    | cons rt rr =>
      cases rr
      cases rx
      have ec := hcv _ rt
      subst ec
      obtain ⟨hget, _⟩ := I.pin p (List.mem_append_left _ hp)
      obtain ⟨oD, J⟩ : ∃ oD, InstAt s.heap p.1 p.2 D oD := by
        cases d with
        | none => exact ⟨none, hget, hz.1, by unfold notCls; rw [hv] <;> rfl, by rw [hz.2]; trivial⟩
        | some dd =>
          obtain ⟨fs, hdd⟩ := hdd dd rfl
          have hx : ObjOk X.prog X.w H s.heap dd (.xd fs) := I.hok dd _ hdd
          obtain ⟨mA, hns, _⟩ := hx
          obtain ⟨oD, ho, _⟩ := lookIn_ns hns
          exact ⟨some oD, hget, hz.1, by unfold notCls; rw [hv] <;> rfl, by rw [hz.2]; exact ho⟩
      exact kia_one (kit_err T) I.kIn J e (fun z => nomatch z) fun tk => ⟨.bl b, H, I.kept (t' := tk) fun _ _ z => z, rfl, q⟩
end Tw
/-! Tw: list.count of flat items -/
namespace Tw
open PySem PySem.Spec PyProof.Rows L2
section
variable {X : Cx}
def rCntF (K : PySem.W.Frag) : V → List V → Hp → VK → Prop := fun x xs H Q => ∃ (a : Addr) (ys : List V) (y : V), x = .ref a ∧ xs = [y] ∧ SqL K H a ys ∧ flatV y = true ∧ ys.all flatV = true ∧ Q (.int ((ys.countP fun z => eqV z y : Nat) : Int)) H
theorem count_eqU {y : V} : ∀ {ys : List V} {us : List Value}, Vals ys us → ys.all flatV = true → us.countP (eqU y) = ys.countP fun z => eqV z y
  | _, _, .nil, _ => rfl
  | z :: ys, u :: us, .cons r rs, h => by
    have h2 : flatV z = true ∧ ys.all flatV = true := by simpa using h
    rw [List.countP_cons, List.countP_cons, count_eqU rs h2.2, eqU_of r h2.1]
theorem mt_countF : MtR X "list.count" (rCntF X.K) := by
  intro pins s σ H x xs v us Q I rx rxs h
  obtain ⟨a, ys, y, rfl, rfl, hs, fy, fys, q⟩ := h
  cases rx
  obtain ⟨uy, rfl, ry⟩ := rxs.one
  obtain ⟨its, rv, ⟨⟨cls, dd, data, sl⟩, n, ho, hc, hdn, hd⟩, hlen⟩ := I.list hs
  simp only at hc hd
  subst hc hd
  refine call_meets PySem.F.slot_list_count ⟨_, ho, rfl⟩ PySem.F.entry_list_count (PySem.F.args_list_count_2 _ _)
    (SeqAt.list_countAt a its.toArray n dd sl uy (eqU y)) ⟨ho, fun u2 h2 => mem_eqAt ry fy rv fys u2 (by simpa using h2), ?_⟩
  have ec : its.toArray.toList.countP (eqU y) = ys.countP fun z => eqV z y := count_eqU rv fys
  refine ⟨.int ((ys.countP fun z => eqV z y : Nat) : Int), H, I.tok _, ⟨s.toks, ?_⟩, q⟩
  show Value.int ((its.toArray.toList.countP (eqU y) : Nat) : Int) s.toks = _
  rw [ec]
end
end Tw
/-! Tw: enumerate(tuple); zip(tuple, list) -/
namespace Tw
open PySem PySem.Spec PyProof.Rows L2 PySem.W
open AutoSeq1 (wpAny_loadPart')
theorem enumT_new (t : Addr) (items : Array Value) :
    Meets (Builtin.«enumerate.__new__» ⟨[.type "enumerate", .ref t], []⟩) (fun _ R s => s.heap.IsTuple t items ∧
      R (.ok (.ret (.ref (s.heap.push { cls := .type "tuple_iterator", data := .fields #[.ref t, .int 0 0] }).objs.size)))
        { s with heap := (s.heap.push { cls := .type "tuple_iterator", data := .fields #[.ref t, .int 0 0] }).push { cls := .type "enumerate", data := .fields #[.none, .bool false, .ref s.heap.objs.size, rawInt 0, .none, .none] } }) := by
  refine .of_wp fun prog w A R s h => ?_
  obtain ⟨hp, g, d, tk, os⟩ := s
  obtain ⟨hT, h⟩ := h
  have hT' : Heap.IsTuple (Shared.heap ⟨hp, g, d, tk, os⟩) t items := hT
  obtain ⟨⟨oc, od, odt, osl⟩, ho, hc, n, hd⟩ := id hT
  dsimp only at hc hd
  subst hc hd
  have hsub := sub_enumerate
  wp_walk using wpAny_loadPart' ho
  refine wpAny_stack_any fun st => wpAny_pure ?_
  split
  · rename_i c _ _ _ _ _
    cases (c == Value.type "enumerate") <;> (wp_walk using wpAny_loadPart' ho, wpAny_pyIter_tuple hT'; exact ⟨_, rfl, h⟩)
  · wp_walk using wpAny_loadPart' ho, wpAny_pyIter_tuple hT'
    exact ⟨_, rfl, h⟩
section
variable {prog : Program} {w : World} {A : Around} {E : Value → Shared → Prop} {s : Shared}
theorem enumT_call {t : Addr} {items : Array Value} {Q : Value → Shared → Prop} (hT : s.heap.IsTuple t items)
    (h : ∀ h', IsEnum h' (s.heap.objs.size + 1) s.heap.objs.size 0 .none → h'.IsTupleIter s.heap.objs.size t 0 → (∀ b o, s.heap.get? b = some o → h'.get? b = some o) → Q (.ref (s.heap.objs.size + 1)) { s with heap := h' }) :
    wpAny (model prog w) A (call (.type "enumerate") [.ref t]) Q E s := by
  refine callType_new F.called_enumerate (by decide) (F.typeCall_enumerate_1 _) (F.newCall_enumerate_1 _) (fun obj => F.args_object_init_2 obj _) F.entry_enumerate_new (enumT_new t items) ⟨hT, ?_⟩
  generalize e1 : s.heap.push { cls := .type "tuple_iterator", data := .fields #[.ref t, .int 0 0] } = h1
  have g0 : h1.get? s.heap.objs.size = some { cls := .type "tuple_iterator", data := .fields #[.ref t, .int 0 0] } := by rw [← e1]; exact Heap.get?_push_size _ rfl
  have z1 : h1.objs.size = s.heap.objs.size + 1 := by rw [← e1, Heap.size_push]
  have k1 : ∀ b o, s.heap.get? b = some o → h1.get? b = some o := fun b o e => by rw [← e1]; exact Heap.get?_push_of_some _ e
  show _ ∧ _
  rw [z1]
  have g1 : IsEnum (h1.push { cls := .type "enumerate", data := .fields #[.none, .bool false, .ref s.heap.objs.size, rawInt 0, .none, .none] }) (s.heap.objs.size + 1) s.heap.objs.size 0 .none := by
    rw [← z1]; exact Heap.get?_push_size _ rfl
  exact ⟨⟨_, g1, rfl⟩, h _ g1 ⟨_, Heap.get?_push_of_some _ g0, rfl, by rfl⟩ fun b o e => Heap.get?_push_of_some _ (k1 b o e)⟩
end
def ItEn (K : PySem.W.Frag) (a : Addr) : It where
  go := fun i H => ∃ (xs : List V) (x : V), SqT K H a xs ∧ xs[i]? = some x
  yld := fun i H v H' => ∃ T x, v = .ref T ∧ H T = none ∧ H' = upd H T (.tup [.int (i : Nat), x]) ∧ ∀ xs, SqT K H a xs → xs[i]? = some x
  stop := fun i H => ∃ xs : List V, SqT K H a xs ∧ xs.length ≤ i
theorem two_mem {a b c : Addr} (h : c ∈ [a, b]) : c = a ∨ c = b := by simpa using h
theorem turn_enT {P : Program} {w : World} {K : PySem.W.Frag} {elts : List Expr} {kk : Nat} {tpos : Pos} (a e it : Addr) :
    Turn P w K (.Tuple elts kk tpos) (ItEn K a) [e, it] e (fun i h => (∃ old, IsEnum h e it ((i : Nat) : Int) old) ∧ h.IsTupleIter it a i ∧ e ≠ it ∧ a ≠ it ∧ a ≠ e) := by
  refine ⟨by simp, ?_, ?_, ?_, ?_, ?_⟩
  · intro i h st b hb
    obtain ⟨⟨old, he⟩, ⟨o, ho, hc, hd⟩, _, _⟩ := st
    rcases two_mem hb with z | z
    · subst z
      exact ⟨_, he, fun v q => nomatch q⟩
    · subst z
      exact ⟨o, ho, fun v q => by rw [hd] at q; cases q⟩
  · intro i h h' st k
    obtain ⟨⟨old, he⟩, hi, hne⟩ := st
    exact ⟨⟨old, k e (by simp) _ he⟩, hi.at fun o q => k it (by simp) o q, hne⟩
  · intro X hP hw hK hc i pins s σ H E I hf st hg
    subst hP hw hK
    obtain ⟨⟨old, he⟩, hit, hne, hai, hae⟩ := st
    obtain ⟨xs, x, hq, hx⟩ := hg
    obtain ⟨its, rv, p, hz⟩ := I.tuple hq
    obtain ⟨u, hu, ru⟩ := rv.get hx
    have hel : e < s.heap.objs.size := Heap.lt_size he
    have hil : it < s.heap.objs.size := by obtain ⟨_, q, _⟩ := hit; exact Heap.lt_size q
    have hlt : i < its.toArray.size := by
      have := (List.getElem?_eq_some_iff.mp hu).1
      simpa using this
    have hd0 : X.A.in1.handled = none := I.ok.hd hc
    refine wpAny_pyNext_enum_itemD (Draws.tuple hd0 it a hai its.toArray) he ⟨hit, p⟩ hlt hne (by simp [hne, Ne.symm hae]) fun y h' tk hy ho hst' hT hsz hk => ?_
    have ey : y = u := by
      have e1 : its.toArray[i]? = some y := hy
      have e2 : its.toArray[i]? = some u := by simpa using hu
      rw [e1] at e2
      exact Option.some.inj e2
    subst ey
    refine ⟨_, rfl, wpAny_letOwnedTupleGo_enum (s := { s with heap := h', toks := tk + 1 }) ho fun h'' he' sb => ?_⟩
    have hT2 := (sb.2 _ (Nat.ne_of_gt hel)).trans hT
    have new : ObjOk X.prog X.w (upd H s.heap.objs.size (.tup [.int (i : Nat), x])) h'' s.heap.objs.size (.tup [.int (i : Nat), x]) :=
      ⟨by show 2 ≤ sizeLine; decide, [.int i tk, y], .cons ⟨_, rfl⟩ (.cons ru .nil), ⟨_, hT2, rfl, _, rfl⟩⟩
    have I1 : Inv X pins σ (upd H s.heap.objs.size (.tup [.int (i : Nat), x])) { s with heap := h'', toks := tk + 1 } :=
      I.turnedNew (ch := [e, it]) (fun b ob hb q => (sb.2 b fun z => hb (by simp [z])).trans (hk b ob (fun z => hb (by simp [z])) (fun z => hb (by simp [z])) q)) hf (Nat.le_refl _) new
    refine ⟨.ref s.heap.objs.size, _, I1, rfl, ⟨_, x, rfl, I.hok.fresh (Nat.le_refl _), rfl, fun ys hy => by rw [I.tuple_inj hy hq]; exact hx⟩, ⟨⟨y, ?_⟩, hst'.1.at fun o q => (sb.2 it (Ne.symm hne)).trans q, hne, hai, hae⟩, fun b hb => ?_⟩
    · have e1 : ((i + 1 : Nat) : Int) = (i : Int) + 1 := by omega
      rw [e1]
      exact he'
    · have hb' : b < s.heap.objs.size := by rcases two_mem hb with z | z <;> (rw [z]; assumption)
      rw [upd_ne (Nat.ne_of_lt hb')]
      exact (hf b hb).1
  · intro X hP hw hK hc i pins s σ H E I hf st hg
    subst hP hw hK
    obtain ⟨⟨old, he⟩, hit, hne, hai, hae⟩ := st
    obtain ⟨xs, hq, hx⟩ := hg
    obtain ⟨its, rv, p, hz⟩ := I.tuple hq
    obtain ⟨f0, f1, f2, f3, f4, f5⟩ := hf it (by simp)
    have hl := rv.length
    have hd0 : X.A.in1.handled = none := I.ok.hd hc
    have D : Draws X.prog X.w X.A.in1 it [it, a] i (fun _ _ => False) (fun j h => j = i ∧ h.IsTupleIter it a i ∧ h.IsTuple a its.toArray) := by
      refine ⟨fun _ _ st => let ⟨o, ho, _⟩ := st.2.1; ⟨o, ho⟩, fun _ _ _ st hk => ⟨st.1, st.2.1.at fun o e => hk it (by simp) o e, st.2.2.at fun o e => hk a (by simp) o e⟩, fun j s Q E hj st _ => absurd st.1 (Nat.ne_of_lt hj), fun s Q E st hE => ?_⟩
      exact RZ.nextOf_tuple_end hd0 st.2.1 st.2.2 (Array.getElem?_eq_none (by simp; omega)) hE
    exact wpAny_pyNext_enum_endD D he ⟨rfl, hit, p⟩ fun h' eb => ⟨rfl, I.turned (t' := s.toks) (fun b o hb q => eb b o hb q) f0 f1 f3 f4 f5⟩
  · intro A i s Q E st h
    obtain ⟨⟨_, he⟩, _⟩ := st
    exact wpAny_pyIter_enum he h
def iEnT (K : PySem.W.Frag) (ta : TA) : TI := fun σ H R => ta σ H fun vs H1 => ∃ a xs, vs = [.ref a] ∧ SqT K H1 a xs ∧ R (ItEn K a) H1
theorem pi_enT {X : Cx} {e : Expr} {ta : TA} {p pos tpos : Pos} {elts : List Expr} {kk : Nat} (hg : Gl X "enumerate") (hm : X.mg "enumerate" = none) (ha : PA X [e] ta)
    (hs : starEach [e] X.env = [(false, eval e X.env)] := by rfl) : PI X (.Tuple elts kk tpos) (.Call (.Name "enumerate" p) [e] [] pos) (iEnT X.K ta) := by
  refine ⟨fun pins s σ H R I h => Call_ (ld_blt I hg hm boot_enumerate (PyProof.Rows.callWith_type1 (thn (ha.run pos pins s σ H _ I h) fun us s1 ⟨vs, H1, I1, r1, q1⟩ => ?_) hs rfl))⟩
  obtain ⟨a, xs, rfl, hq, q⟩ := q1
  obtain ⟨u, rfl, ru⟩ := r1.one
  cases (show u = Value.ref a from ru)
  obtain ⟨its, rv, p', hz⟩ := I1.tuple hq
  have hal : a < s1.heap.objs.size := by obtain ⟨_, ho, _⟩ := id p'; exact Heap.lt_size ho
  refine enumT_call p' fun h' he hit hk => wpAny_pyIter_enum he ?_
  have I2 : Inv X pins σ H1 { s1 with heap := h' } := I1.kept (t' := s1.toks) hk
  refine ⟨s1.heap.objs.size + 1, [s1.heap.objs.size + 1, s1.heap.objs.size], _, _, H1, rfl, I2, turn_enT a (s1.heap.objs.size + 1) s1.heap.objs.size, ⟨⟨.none, he⟩, hit, Nat.succ_ne_self _, Nat.ne_of_lt hal, Nat.ne_of_lt (Nat.lt_succ_of_lt hal)⟩, fun b hb => ?_, q⟩
  have hle : s1.heap.objs.size ≤ b := by
    rcases two_mem hb with z | z
    · exact z ▸ Nat.le_succ _
    · exact z ▸ Nat.le_refl _
  exact I1.fpOk hle (I1.hok.fresh hle)
theorem for_enT {K : PySem.W.Frag} {a : Addr} {xs : List V} {g : TG} {tb : TS} {D : Ends} {σ : L2.St} {H : Hp} (Pv : Nat → L2.St → Hp → Prop) (h0 : Pv 0 σ H) (hq : ∀ i σ H, Pv i σ H → SqT K H a xs)
    (hs : ∀ (i : Nat) (x : V) (T : Addr) (σ : L2.St) (H : Hp), xs[i]? = some x → Pv i σ H → H T = none → g (.ref T) σ (upd H T (.tup [.int (i : Nat), x])) fun σ2 H2 => tb { D with nx := Pv (i + 1), ct := Pv (i + 1), bk := D.nx } σ2 H2)
    (hd : ∀ σ H, Pv xs.length σ H → D.nx σ H) :
    ∃ W : Nat → Nat → L2.St → Hp → Prop, (∃ m, W 0 m σ H) ∧ ∀ i m σ H, W i m σ H →
      ((ItEn K a).stop i H ∧ D.nx σ H) ∨ ((ItEn K a).go i H ∧ ∃ N : L2.St → Hp → Prop, (∀ σ' H', N σ' H' → ∃ m', m' < m ∧ W (i + 1) m' σ' H') ∧ ∀ v H', (ItEn K a).yld i H v H' → g v σ H' fun σ2 H2 => tb { D with nx := N, ct := N, bk := D.nx } σ2 H2) := by
  refine ⟨fun i m σ H => m = xs.length - i ∧ i ≤ xs.length ∧ Pv i σ H, ⟨xs.length, rfl, Nat.zero_le _, h0⟩, ?_⟩
  rintro i m σ H ⟨rfl, hi, p⟩
  have qx := hq i σ H p
  by_cases hlt : i < xs.length
  · have hx : xs[i]? = some xs[i] := List.getElem?_eq_getElem hlt
    refine .inr ⟨⟨xs, _, qx, hx⟩, Pv (i + 1), fun σ' H' p' => ⟨xs.length - (i + 1), by omega, rfl, hlt, p'⟩, fun v H' y => ?_⟩
    obtain ⟨T, x', rfl, hT, rfl, f1⟩ := y
    exact hs i x' T σ H (f1 xs qx) p hT
  · obtain rfl : i = xs.length := by omega
    exact .inl ⟨⟨xs, qx, Nat.le_refl _⟩, hd σ H p⟩
/-! ### zip(tuple, list) -/
def ItZm (K : PySem.W.Frag) (a b : Addr) : It where
  go := fun i H => ∃ (xs ys : List V) (x y : V), SqT K H a xs ∧ SqL K H b ys ∧ xs[i]? = some x ∧ ys[i]? = some y
  yld := fun i H v H' => ∃ T x y, v = .ref T ∧ H T = none ∧ H' = upd H T (.tup [x, y]) ∧ (∀ xs, SqT K H a xs → xs[i]? = some x) ∧ ∀ ys, SqL K H b ys → ys[i]? = some y
  stop := fun i H => ∃ xs ys : List V, SqT K H a xs ∧ SqL K H b ys ∧ i = xs.length ∧ i = ys.length
theorem turn_zm {P : Program} {w : World} {K : PySem.W.Frag} {elts : List Expr} {kk : Nat} {tpos : Pos} {a b z TI TO i1 i2 : Addr} (S : ZipSep2 z TI TO i1 i2 [i1, a] [i2, b]) (ha : a ≠ i1) (hb : b ≠ i2) :
    Turn P w K (.Tuple elts kk tpos) (ItZm K a b) [z, TI, TO, i1, i2] z
      (fun i h => IsZip h z TI TO .none ∧ IsTupOf2 h TI (.ref i1) (.ref i2) ∧ (∃ x y, IsTupOf2 h TO x y) ∧ h.IsTupleIter i1 a i ∧ h.IsListIter i2 b i) := by
  have five : ∀ {c : Addr}, c ∈ [z, TI, TO, i1, i2] → c = z ∨ c = TI ∨ c = TO ∨ c = i1 ∨ c = i2 := fun h => by simpa using h
  refine ⟨by simp, ?_, ?_, ?_, ?_, ?_⟩
  · intro i h st c hc
    obtain ⟨hz, hTI, ⟨x, y, hTO⟩, ⟨o1, e1, _, d1⟩, ⟨o2, e2, _, d2⟩⟩ := st
    rcases five hc with q | q | q | q | q <;> subst q
    · exact ⟨_, hz, fun v q => nomatch q⟩
    · exact ⟨_, hTI, fun v q => nomatch q⟩
    · exact ⟨_, hTO, fun v q => nomatch q⟩
    · exact ⟨o1, e1, fun v q => by rw [d1] at q; cases q⟩
    · exact ⟨o2, e2, fun v q => by rw [d2] at q; cases q⟩
  · intro i h h' st k
    obtain ⟨hz, hTI, ⟨x, y, hTO⟩, h1, h2⟩ := st
    exact ⟨k z (by simp) _ hz, k TI (by simp) _ hTI, ⟨x, y, k TO (by simp) _ hTO⟩, h1.at fun o q => k i1 (by simp) o q, h2.at fun o q => k i2 (by simp) o q⟩
  · intro X hP hw hK hc i pins s σ H E I hf st hg
    subst hP hw hK
    obtain ⟨hz, hTI, ⟨x0, y0, hTO⟩, h1, h2⟩ := st
    obtain ⟨xs, ys, x, y, hqx, hqy, hx, hy⟩ := hg
    obtain ⟨its, rv, p, _⟩ := I.tuple hqx
    obtain ⟨its2, rv2, p2, _⟩ := I.list hqy
    obtain ⟨u, hu, ru⟩ := rv.get hx
    obtain ⟨u2, hu2, ru2⟩ := rv2.get hy
    have hzl : z < s.heap.objs.size := Heap.lt_size hz
    have hd0 : X.A.in1.handled = none := I.ok.hd hc
    have l1 : i < its.toArray.size := by have := (List.getElem?_eq_some_iff.mp hu).1; simpa using this
    have l2 : i < its2.toArray.size := by have := (List.getElem?_eq_some_iff.mp hu2).1; simpa using this
    refine wpAny_pyNext_zipD2_item S (Draws.tuple hd0 i1 a ha its.toArray) (Draws.list hd0 i2 b hb its2.toArray) hz hTI hTO ⟨h1, p⟩ ⟨h2, p2.isList⟩ l1 l2 fun x1 x2 h' tk y1 y2 z' TO' s1' s2' hT hsz hk => ?_
    have ey1 : x1 = u := by
      have e1 : its.toArray[i]? = some x1 := y1
      have e2 : its.toArray[i]? = some u := by simpa using hu
      rw [e1] at e2
      exact Option.some.inj e2
    have ey2 : x2 = u2 := by
      have e1 : its2.toArray[i]? = some x2 := y2
      have e2 : its2.toArray[i]? = some u2 := by simpa using hu2
      rw [e1] at e2
      exact Option.some.inj e2
    subst ey1 ey2
    refine ⟨_, rfl, wpAny_letOwnedTupleGo_zip (s := { s with heap := h', toks := tk }) z' fun h'' z'' sb => ?_⟩
    have hT2 := (sb.2 _ (Nat.ne_of_gt hzl)).trans hT
    have new : ObjOk X.prog X.w (upd H s.heap.objs.size (.tup [x, y])) h'' s.heap.objs.size (.tup [x, y]) :=
      ⟨by show 2 ≤ sizeLine; decide, [x1, x2], .cons ru (.cons ru2 .nil), ⟨_, hT2, rfl, _, rfl⟩⟩
    have I1 : Inv X pins σ (upd H s.heap.objs.size (.tup [x, y])) { s with heap := h'', toks := tk } :=
      I.turnedNew (ch := [z, TI, TO, i1, i2]) (fun c o hb' q => (sb.2 c fun q' => hb' (by simp [q'])).trans (hk c o (fun q' => hb' (by simp [q'])) (fun q' => hb' (by simp [q'])) (fun q' => hb' (by simp [q'])) (fun q' => hb' (by simp [q'])) q)) hf (Nat.le_refl _) new
    refine ⟨.ref s.heap.objs.size, _, I1, rfl, ⟨_, x, y, rfl, I.hok.fresh (Nat.le_refl _), rfl, fun l hl => by rw [I.tuple_inj hl hqx]; exact hx, fun l hl => by rw [I.list_inj hl hqy]; exact hy⟩, ⟨z'', ?_, ⟨x1, x2, ?_⟩, ?_, ?_⟩, fun c hcm => ?_⟩
    · exact (sb.2 _ S.TIz).trans (hk _ _ S.TIz S.TITO S.TIi1 S.TIi2 hTI)
    · exact (sb.2 _ S.TOz).trans TO'
    · exact s1'.1.at fun o q => (sb.2 _ S.zi1.symm).trans q
    · exact s2'.1.at fun o q => (sb.2 _ S.zi2.symm).trans q
    · have hlt : c < s.heap.objs.size := by
        rcases five hcm with q | q | q | q | q <;> subst q
        · exact hzl
        · exact Heap.lt_size hTI
        · exact Heap.lt_size hTO
        · obtain ⟨_, e1, _⟩ := h1; exact Heap.lt_size e1
        · obtain ⟨_, e1, _⟩ := h2; exact Heap.lt_size e1
      rw [upd_ne (Nat.ne_of_lt hlt)]
      exact (hf c hcm).1
  · intro X hP hw hK hc i pins s σ H E I hf st hg
    subst hP hw hK
    obtain ⟨hz, hTI, ⟨x0, y0, hTO⟩, h1, h2⟩ := st
    obtain ⟨xs, ys, hqx, hqy, e1, e2⟩ := hg
    obtain ⟨its, rv, p, _⟩ := I.tuple hqx
    obtain ⟨its2, rv2, p2, _⟩ := I.list hqy
    have l1 := rv.length
    have l2 := rv2.length
    have hd0 : X.A.in1.handled = none := I.ok.hd hc
    refine wpAny_pyNext_zipD2_end S (Draws.tuple hd0 i1 a ha its.toArray) (Draws.list hd0 i2 b hb its2.toArray) hz hTI hTO ⟨h1, p⟩ ⟨h2, p2.isList⟩ (by simp; omega) (by simp; omega) (.inl (by simp; omega)) fun h' tk hk => ⟨rfl, I.turnedL (t' := tk) (ch := [z, TI, TO, i1, i2]) (fun c o hb' q =>
      hk c o (fun q' => hb' (by simp [q'])) (fun q' => hb' (by simp [q'])) (fun q' => hb' (by simp [q'])) (fun q' => hb' (by simp [q'])) q) hf⟩
  · exact fun A i s Q E st h => wpAny_pyIter_zip st.1 h
theorem nmem2 {x p q : Nat} (h1 : x ≠ p) (h2 : x ≠ q) : x ∉ [p, q] := by simp [h1, h2]
theorem zsep (n a b : Nat) (ha : a < n) (hb : b < n) : ZipSep2 (n + 4) (n + 2) (n + 3) n (n + 1) [n, a] [n + 1, b] := by
  have h1 : ∀ k, 0 < k → n + k ≠ n := fun k hk => by omega
  have h2 : ∀ k j, k ≠ j → n + k ≠ n + j := fun k j hk => by omega
  have h3 : ∀ k, n + k ≠ a := fun k => by omega
  have h4 : ∀ k, n + k ≠ b := fun k => by omega
  exact ⟨h2 2 4 (by decide), h2 3 4 (by decide), h2 2 3 (by decide), h1 2 (by decide), by simp, nmem2 (h1 4 (by decide)) (h3 4), nmem2 (h1 3 (by decide)) (h3 3), h2 2 1 (by decide), by simp,
    nmem2 (h2 4 1 (by decide)) (h4 4), nmem2 (h2 3 1 (by decide)) (h4 3), nmem2 (h1 1 (by decide)).symm (h4 0), nmem2 (h1 1 (by decide)) (h3 1)⟩
def iZm (K : PySem.W.Frag) (ta : TA) : TI := fun σ H R => ta σ H fun vs H1 => ∃ a b xs ys, vs = [.ref a, .ref b] ∧ SqT K H1 a xs ∧ SqL K H1 b ys ∧ R (ItZm K a b) H1
theorem pi_zm {X : Cx} {e e2 : Expr} {ta : TA} {p pos tpos : Pos} {elts : List Expr} {kk : Nat} (hg : Gl X "zip") (hm : X.mg "zip" = none) (ha : PA X [e, e2] ta)
    (hs : starEach [e, e2] X.env = (false, eval e X.env) :: starEach [e2] X.env := by rfl) (hpl : (backTo pos (starEach [e2] X.env)).any (·.1) = false := by rfl) :
    PI X (.Tuple elts kk tpos) (.Call (.Name "zip" p) [e, e2] [] pos) (iZm X.K ta) := by
  refine ⟨fun pins s σ H R I h => Call_ (ld_blt I hg hm PyProof.Rows.boot_zip (PyProof.Rows.callWith_type1 (thn (ha.run pos pins s σ H _ I h) fun us s1 ⟨vs, H1, I1, r1, q1⟩ => ?_) hs hpl))⟩
  obtain ⟨a, b, xs, ys, rfl, hqx, hqy, q⟩ := q1
  obtain ⟨u, u2, rfl, ru, ru2⟩ := Vals.two r1
  cases (show u = Value.ref a from ru)
  cases (show u2 = Value.ref b from ru2)
  obtain ⟨its, rv, p1, _⟩ := I1.tuple hqx
  obtain ⟨its2, rv2, p2, _⟩ := I1.list hqy
  have hal : a < s1.heap.objs.size := by obtain ⟨_, ho, _⟩ := id p1; exact Heap.lt_size ho
  have hbl : b < s1.heap.objs.size := p2.lt
  refine zip_begins2 (begins_tuple a its.toArray) (begins_list b its2.toArray) p1 p2.isList fun h' hz hTI hTO g1 g2 hsz hk => wpAny_pyIter_zip hz ?_
  have I2 : Inv X pins σ H1 { s1 with heap := h' } := I1.kept (t' := s1.toks) hk
  have S := zsep s1.heap.objs.size a b hal hbl
  have hab : a ≠ s1.heap.objs.size := Nat.ne_of_lt hal
  have hbb : b ≠ s1.heap.objs.size + 1 := Nat.ne_of_lt (Nat.lt_succ_of_lt hbl)
  refine ⟨s1.heap.objs.size + 4, [s1.heap.objs.size + 4, s1.heap.objs.size + 2, s1.heap.objs.size + 3, s1.heap.objs.size, s1.heap.objs.size + 1], _, _, H1, rfl, I2, turn_zm S hab hbb, ⟨hz, hTI, ⟨_, _, hTO⟩, ⟨_, g1, rfl, rfl⟩, ⟨_, g2, rfl, rfl⟩⟩, fun c hcm => ?_, q⟩
  have hle : s1.heap.objs.size ≤ c := by
    have e' : c = s1.heap.objs.size + 4 ∨ c = s1.heap.objs.size + 2 ∨ c = s1.heap.objs.size + 3 ∨ c = s1.heap.objs.size ∨ c = s1.heap.objs.size + 1 := by simpa using hcm
    rcases e' with e | e | e | e | e <;> (rw [e]; simp)
  exact I1.fpOk hle (I1.hok.fresh hle)
theorem for_zm {K : PySem.W.Frag} {a b : Addr} {xs ys : List V} {g : TG} {tb : TS} {D : Ends} {σ : L2.St} {H : Hp} (hl : xs.length = ys.length) (Pv : Nat → L2.St → Hp → Prop) (h0 : Pv 0 σ H) (hq : ∀ i σ H, Pv i σ H → SqT K H a xs ∧ SqL K H b ys)
    (hs : ∀ (i : Nat) (x y : V) (T : Addr) (σ : L2.St) (H : Hp), xs[i]? = some x → ys[i]? = some y → Pv i σ H → H T = none → g (.ref T) σ (upd H T (.tup [x, y])) fun σ2 H2 => tb { D with nx := Pv (i + 1), ct := Pv (i + 1), bk := D.nx } σ2 H2)
    (hd : ∀ σ H, Pv xs.length σ H → D.nx σ H) :
    ∃ W : Nat → Nat → L2.St → Hp → Prop, (∃ m, W 0 m σ H) ∧ ∀ i m σ H, W i m σ H →
      ((ItZm K a b).stop i H ∧ D.nx σ H) ∨ ((ItZm K a b).go i H ∧ ∃ N : L2.St → Hp → Prop, (∀ σ' H', N σ' H' → ∃ m', m' < m ∧ W (i + 1) m' σ' H') ∧ ∀ v H', (ItZm K a b).yld i H v H' → g v σ H' fun σ2 H2 => tb { D with nx := N, ct := N, bk := D.nx } σ2 H2) := by
  refine ⟨fun i m σ H => m = xs.length - i ∧ i ≤ xs.length ∧ Pv i σ H, ⟨xs.length, rfl, Nat.zero_le _, h0⟩, ?_⟩
  rintro i m σ H ⟨rfl, hi, p⟩
  obtain ⟨qx, qy⟩ := hq i σ H p
  by_cases hlt : i < xs.length
  · have hlt2 : i < ys.length := by omega
    have hx := List.getElem?_eq_getElem hlt
    have hy := List.getElem?_eq_getElem hlt2
    refine .inr ⟨⟨xs, ys, _, _, qx, qy, hx, hy⟩, Pv (i + 1), fun σ' H' p' => ⟨xs.length - (i + 1), by omega, rfl, hlt, p'⟩, fun v H' y => ?_⟩
    obtain ⟨T, x', y', rfl, hT, rfl, f1, f2⟩ := y
    exact hs i x' y' T σ H (f1 xs qx) (f2 ys qy) p hT
  · obtain rfl : i = xs.length := by omega
    exact .inl ⟨⟨xs, ys, qx, qy, rfl, hl⟩, hd σ H p⟩
end Tw
/-! The mirror of the package's timers in plain Lean, and its mathematics. -/
namespace TwM
structure Lv where
  g : Int
  s : Int
  p : Int
  deriving DecidableEq, Inhabited
structure Bk where
  up : Bool
  fire : Bool
  high : Bool
  put : Bool
  zone : Bool
  bey : Nat
  deriving DecidableEq, Inhabited
structure Spot where
  lv : Nat
  pt : Int
  due : Int
  deriving DecidableEq, Inhabited
def lv (W : List Lv) (i : Nat) : Lv := W.getD i default
def reach (W : List Lv) : Int := (lv W (W.length - 1)).p
def rnd (up : Bool) (t g : Int) : Int := if up then -((-t) / g) else t / g
def levelOf : List Lv → Int → Option Nat
  | [], _ => none
  | l :: ls, d => if d < l.p then some 0 else (levelOf ls d).map (· + 1)
def levelIx (W : List Lv) (d : Int) : Nat := (levelOf W d).getD (W.length - 1)
def spotAt (W : List Lv) (B : Bk) (now rest due : Int) : Spot := match levelOf W rest with
  | some i => ⟨i, rnd B.up (now + rest) (lv W i).g, due⟩
  | none => ⟨W.length - 1, rnd B.up (now + reach W - 1) (lv W (W.length - 1)).g, due⟩
def va (l : Lv) (pt now : Int) : Int := (now / l.g + 1 + (pt - now / l.g - 1) % l.s) * l.g
def isVis (l : Lv) (pt before now : Int) : Bool := decide ((pt - before / l.g - 1) % l.s < now / l.g - before / l.g)
def taken (W : List Lv) (B : Bk) (sp : Spot) (tick : Int) : Option Spot :=
  if sp.lv = 0 ∨ B.fire = true then none
  else if tick < sp.due then some (spotAt W B tick (sp.due - tick) sp.due)
  else if B.put = true then some ⟨0, tick, sp.due⟩ else none
def order (W : List Lv) (B : Bk) : List Nat := if B.high = true then (List.range W.length).reverse else List.range W.length
def visGo (W : List Lv) (B : Bk) (before now : Int) : List Nat → Spot → List (Option Spot)
  | [], _ => []
  | i :: is, sp => if sp.lv = i ∧ isVis (lv W i) sp.pt before now = true then
      (match taken W B sp now with
        | none => [none]
        | some s' => some s' :: visGo W B before now is s')
      else visGo W B before now is sp
def visited (W : List Lv) (B : Bk) (sp : Spot) (before now : Int) : List (Option Spot) := visGo W B before now (order W B) sp
def skipped (W : List Lv) (sp : Spot) (tick : Int) (limit : Option Int) : Int × Int :=
  if sp.lv ≠ W.length - 1 ∨ sp.due - tick < reach W then (0, 0)
  else
    let step := va (lv W sp.lv) sp.pt tick - tick
    let many := (sp.due - tick - reach W) / step
    match limit with
    | none => (many, step)
    | some lim => (min many ((lim - tick) / step), step)
def over (limit : Option Int) (t : Int) : Bool := match limit with
  | none => false
  | some l => decide (l < t)
abbrev Res := Option Spot × Int × Int
def fol (W : List Lv) (B : Bk) (limit : Option Int) : Nat → Spot → Int → Int → Option Res
  | 0, _, _, _ => none
  | n + 1, sp, tick, mv =>
    let t := va (lv W sp.lv) sp.pt tick
    if over limit t = true then some (some sp, tick, mv)
    else
      let found := visited W B sp (t - 1) t
      match found.getLast? with
      | none => none
      | some none => some (none, t, mv + found.length - 1)
      | some (some sp') =>
        let k := skipped W sp' t limit
        if 0 < k.1 then fol W B limit n (spotAt W B (t + k.1 * k.2) (sp'.due - (t + k.1 * k.2)) sp'.due) (t + k.1 * k.2) (mv + found.length + k.1)
        else fol W B limit n sp' t (mv + found.length)
structure WOk (W : List Lv) : Prop where
  pos : 0 < W.length
  len : W.length ≤ 5
  all : ∀ i, i < W.length → 1 ≤ (lv W i).g ∧ (lv W i).g ≤ 1000 ∧ 2 ≤ (lv W i).s ∧ (lv W i).s ≤ 100 ∧ 2 ≤ (lv W i).p
  first : (lv W 0).g = 1
  dv : ∀ i, i + 1 < W.length → (lv W i).g ∣ (lv W (i + 1)).g
  asc : ∀ i, i + 1 < W.length → (lv W i).p < (lv W (i + 1)).p
theorem levelOf_lt : ∀ {W : List Lv} {d : Int} {i : Nat}, levelOf W d = some i → i < W.length ∧ d < (lv W i).p
  | [], _, _, h => by simp [levelOf] at h
  | l :: ls, d, i, h => by
    unfold levelOf at h
    split at h
    · cases h
      rename_i hd
      exact ⟨by simp, by simpa [lv] using hd⟩
    · cases q : levelOf ls d with
      | none => rw [q] at h; cases h
      | some j =>
        rw [q] at h
        have e : j + 1 = i := Option.some.inj h
        subst e
        obtain ⟨h1, h2⟩ := levelOf_lt q
        refine ⟨by simpa using h1, ?_⟩
        have : lv (l :: ls) (j + 1) = lv ls j := by simp [lv]
        rw [this]; exact h2
theorem levelOf_none : ∀ {W : List Lv} {d : Int}, levelOf W d = none → ∀ i, i < W.length → (lv W i).p ≤ d
  | [], _, _, i, h => by simp at h
  | l :: ls, d, h, i, hi => by
    unfold levelOf at h
    split at h
    · cases h
    · rename_i hd
      cases q : levelOf ls d with
      | some j => rw [q] at h; cases h
      | none =>
        cases i with
        | zero => simp [lv]; omega
        | succ i =>
          have := levelOf_none q i (by simpa using hi)
          have e : lv (l :: ls) (i + 1) = lv ls i := by simp [lv]
          rw [e]; exact this
theorem levelOf_ge : ∀ {W : List Lv} {d : Int} {i : Nat}, levelOf W d = some i → ∀ j, j < i → (lv W j).p ≤ d
  | [], _, _, h => by simp [levelOf] at h
  | l :: ls, d, i, h => by
    intro j hj
    unfold levelOf at h
    split at h
    · cases h; omega
    · rename_i hd
      cases q : levelOf ls d with
      | none => rw [q] at h; cases h
      | some k =>
        rw [q] at h
        have e : k + 1 = i := Option.some.inj h
        subst e
        cases j with
        | zero => simp [lv]; omega
        | succ j =>
          have := levelOf_ge q j (by omega)
          have e : lv (l :: ls) (j + 1) = lv ls j := by simp [lv]
          rw [e]; exact this
theorem levelOf_is : ∀ {W : List Lv} {d : Int} {i : Nat}, i < W.length → (∀ j, j < i → (lv W j).p ≤ d) → d < (lv W i).p → levelOf W d = some i
  | [], _, _, h, _, _ => by simp at h
  | l :: ls, d, 0, _, _, h => by
    unfold levelOf
    rw [if_pos (by simpa [lv] using h)]
  | l :: ls, d, i + 1, hi, hp, h => by
    have e : ∀ j, lv (l :: ls) (j + 1) = lv ls j := fun j => by simp [lv]
    have h0 := hp 0 (by omega)
    unfold levelOf
    rw [if_neg (by simp [lv] at h0; omega), levelOf_is (by simpa using hi) (fun j hj => by have := hp (j + 1) (by omega); rwa [e] at this) (by rwa [e] at h)]
    rfl
theorem levelOf_isN : ∀ {W : List Lv} {d : Int}, (∀ j, j < W.length → (lv W j).p ≤ d) → levelOf W d = none
  | [], _, _ => rfl
  | l :: ls, d, hp => by
    have e : ∀ j, lv (l :: ls) (j + 1) = lv ls j := fun j => by simp [lv]
    have h0 := hp 0 (by simp)
    unfold levelOf
    rw [if_neg (by simp [lv] at h0; omega), levelOf_isN (fun j hj => by have := hp (j + 1) (by simpa using hj); rwa [e] at this)]
    rfl
theorem spotAt_lt {W : List Lv} (ok : WOk W) (B : Bk) (now rest due : Int) : (spotAt W B now rest due).lv < W.length := by
  unfold spotAt
  split
  · rename_i i h; exact (levelOf_lt h).1
  · have := ok.pos; show W.length - 1 < W.length; omega
theorem spotAt_due (W : List Lv) (B : Bk) (now rest due : Int) : (spotAt W B now rest due).due = due := by
  unfold spotAt
  split <;> rfl
theorem va_gt {l : Lv} (hg : 0 < l.g) (hs : 0 < l.s) (pt now : Int) : now < va l pt now := by
  unfold va
  have h1 : 0 ≤ (pt - now / l.g - 1) % l.s := Int.emod_nonneg _ (by omega)
  have h2 : (now / l.g + 1) * l.g ≤ (now / l.g + 1 + (pt - now / l.g - 1) % l.s) * l.g := Int.mul_le_mul_of_nonneg_right (by omega) (by omega)
  have h3 : now < (now / l.g + 1) * l.g := Int.lt_ediv_add_one_mul_self now hg
  omega
theorem va_vis {l : Lv} (hg : 0 < l.g) (hs : 0 < l.s) (pt now : Int) : isVis l pt (va l pt now - 1) (va l pt now) = true := by
  unfold isVis va
  generalize hq : now / l.g + 1 + (pt - now / l.g - 1) % l.s = q
  have e1 : q * l.g / l.g = q := Int.mul_ediv_cancel _ (by omega)
  have e2 : (q * l.g - 1) / l.g = q - 1 := by
    have h1 : q * l.g - 1 = (l.g - 1) + (q - 1) * l.g := by rw [Int.sub_mul]; omega
    rw [h1, Int.add_mul_ediv_right _ _ (by omega), Int.ediv_eq_zero_of_lt (by omega) (by omega)]
    omega
  rw [e1, e2]
  have e3 : pt - (q - 1) - 1 = pt - q := by omega
  rw [e3]
  have e4 : (pt - q) % l.s = 0 := by
    rw [← hq]
    have : pt - (now / l.g + 1 + (pt - now / l.g - 1) % l.s) = (pt - now / l.g - 1) - (pt - now / l.g - 1) % l.s := by omega
    rw [this, Int.sub_emod, Int.emod_emod_of_dvd _ (Int.dvd_refl _)]
    simp
  rw [e4]
  simp
  omega
theorem taken_some {W : List Lv} (ok : WOk W) {B : Bk} {sp sp' : Spot} {tick : Int} (h : taken W B sp tick = some sp') :
    sp'.lv < W.length ∧ sp'.due = sp.due ∧ sp.lv ≠ 0 ∧ B.fire = false ∧ (tick < sp.due ∧ sp' = spotAt W B tick (sp.due - tick) sp.due ∨ sp.due ≤ tick ∧ B.put = true ∧ sp' = ⟨0, tick, sp.due⟩) := by
  unfold taken at h
  split at h
  · cases h
  · rename_i hn
    have h1 : sp.lv ≠ 0 := fun e => hn (.inl e)
    have h2 : B.fire = false := by
      cases e : B.fire
      · rfl
      · exact absurd (.inr e) hn
    split at h
    · rename_i hd
      cases h
      exact ⟨spotAt_lt ok _ _ _ _, spotAt_due _ _ _ _ _, h1, h2, .inl ⟨hd, rfl⟩⟩
    · rename_i hd
      split at h
      · rename_i hp
        cases h
        exact ⟨ok.pos, rfl, h1, h2, .inr ⟨by omega, hp, rfl⟩⟩
      · cases h
theorem visGo_last {W : List Lv} (ok : WOk W) {B : Bk} {before now : Int} : ∀ (is : List Nat) {sp sp' : Spot}, (visGo W B before now is sp).getLast? = some (some sp') →
    sp'.lv < W.length ∧ sp'.due = sp.due ∧ B.fire = false ∧ (now < sp.due ∧ sp' = spotAt W B now (sp.due - now) sp.due ∨ sp.due ≤ now ∧ sp' = ⟨0, now, sp.due⟩)
  | [], sp, sp', h => by simp [visGo] at h
  | i :: is, sp, sp', h => by
    unfold visGo at h
    split at h
    · cases q : taken W B sp now with
      | none => rw [q] at h; simp at h
      | some s1 =>
        rw [q] at h
        dsimp only at h
        obtain ⟨a1, a2, a3, a4, a5⟩ := taken_some ok q
        cases hr : visGo W B before now is s1 with
        | nil =>
          rw [hr] at h
          have e : s1 = sp' := by simpa using h
          subst e
          refine ⟨a1, a2, a4, ?_⟩
          rcases a5 with ⟨b1, b2⟩ | ⟨b1, _, b2⟩
          · exact .inl ⟨b1, b2⟩
          · exact .inr ⟨b1, b2⟩
        | cons x xs =>
          rw [hr] at h
          have h' : (visGo W B before now is s1).getLast? = some (some sp') := by
            rw [hr]
            rw [List.getLast?_cons] at h
            cases hx : (x :: xs).getLast? with
            | none => simp at hx
            | some z => rw [hx] at h; simpa using h
          obtain ⟨c1, c2, c3, c4⟩ := visGo_last ok is h'
          refine ⟨c1, c2.trans a2, c3, ?_⟩
          rw [a2] at c4
          exact c4
    · exact visGo_last ok is h
theorem visGo_ne {W : List Lv} {B : Bk} {before now : Int} : ∀ (is : List Nat) {sp : Spot}, sp.lv ∈ is → isVis (lv W sp.lv) sp.pt before now = true → visGo W B before now is sp ≠ []
  | [], sp, h, _ => by simp at h
  | i :: is, sp, h, hv => by
    unfold visGo
    by_cases e : sp.lv = i
    · rw [if_pos ⟨e, by rw [← e]; exact hv⟩]
      cases taken W B sp now <;> simp
    · rw [if_neg (fun z => e z.1)]
      exact visGo_ne is (by rcases List.mem_cons.mp h with q | q; exact absurd q e; exact q) hv
theorem mem_order {W : List Lv} {B : Bk} {i : Nat} : i ∈ order W B ↔ i < W.length := by
  unfold order
  split <;> simp
theorem visited_ne {W : List Lv} (ok : WOk W) {B : Bk} {sp : Spot} (hl : sp.lv < W.length) (tick : Int) :
    visited W B sp (va (lv W sp.lv) sp.pt tick - 1) (va (lv W sp.lv) sp.pt tick) ≠ [] :=
  visGo_ne _ (mem_order.mpr hl) (va_vis (by have := ok.all _ hl; omega) (by have := ok.all _ hl; omega) _ _)
def mu (sp : Spot) (tick : Int) : Nat := if sp.lv = 0 then 1 else 2 + (sp.due - tick).toNat
theorem visGo_zero {W : List Lv} {B : Bk} {before now : Int} : ∀ (is : List Nat) {sp : Spot}, sp.lv = 0 → ∀ x ∈ visGo W B before now is sp, x = none
  | [], sp, _, x, h => by simp [visGo] at h
  | i :: is, sp, h0, x, h => by
    unfold visGo at h
    split at h
    · have e : taken W B sp now = none := by unfold taken; rw [if_pos (.inl h0)]
      rw [e] at h
      simpa using h
    · exact visGo_zero is h0 x h
theorem skipped_pos {W : List Lv} {sp : Spot} {tick : Int} {limit : Option Int} (h : 0 < (skipped W sp tick limit).1) :
    sp.lv = W.length - 1 ∧ reach W ≤ sp.due - tick ∧ (skipped W sp tick limit).2 = va (lv W sp.lv) sp.pt tick - tick ∧ (skipped W sp tick limit).1 ≤ (sp.due - tick - reach W) / (va (lv W sp.lv) sp.pt tick - tick) := by
  unfold skipped at h ⊢
  split at h
  · simp at h
  · rename_i hn
    have h1 : sp.lv = W.length - 1 := Classical.byContradiction fun e => hn (.inl e)
    have h2 : reach W ≤ sp.due - tick := by
      rcases Int.lt_or_le (sp.due - tick) (reach W) with e | e
      · exact absurd (.inr e) hn
      · exact e
    rw [if_neg hn]
    refine ⟨h1, h2, ?_⟩
    cases limit with
    | none => exact ⟨rfl, Int.le_refl _⟩
    | some l => exact ⟨rfl, Int.min_le_left _ _⟩
theorem fol_ends {W : List Lv} (ok : WOk W) (B : Bk) (limit : Option Int) : ∀ (n : Nat) (sp : Spot) (tick mv : Int), sp.lv < W.length → mu sp tick ≤ n → ∃ r, fol W B limit n sp tick mv = some r
  | 0, sp, tick, mv, _, h => by unfold mu at h; split at h <;> omega
  | n + 1, sp, tick, mv, hl, h => by
    have hall := ok.all _ hl
    have hgt := va_gt (l := lv W sp.lv) (by omega) (by omega) sp.pt tick
    unfold fol
    dsimp only
    split
    · exact ⟨_, rfl⟩
    · have hne := visited_ne ok (B := B) hl tick
      cases hq : (visited W B sp (va (lv W sp.lv) sp.pt tick - 1) (va (lv W sp.lv) sp.pt tick)).getLast? with
      | none => exact absurd (List.getLast?_eq_none_iff.mp hq) hne
      | some o =>
        cases o with
        | none => exact ⟨_, rfl⟩
        | some sp' =>
          have h0 : sp.lv ≠ 0 := fun e => by
            have := visGo_zero (W := W) (B := B) (before := va (lv W sp.lv) sp.pt tick - 1) (now := va (lv W sp.lv) sp.pt tick) (order W B) e (some sp') (List.mem_of_getLast? hq)
            cases this
          obtain ⟨c1, c2, c3, c4⟩ := visGo_last ok _ hq
          have hm : 2 + (sp.due - tick).toNat ≤ n + 1 := by unfold mu at h; rw [if_neg h0] at h; exact h
          have hmu : mu sp' (va (lv W sp.lv) sp.pt tick) ≤ n := by
            unfold mu
            split
            · omega
            · rename_i hz
              rcases c4 with ⟨d1, d2⟩ | ⟨d1, d2⟩
              · rw [c2]; omega
              · exact absurd (by rw [d2]) hz
          dsimp only
          split
          · rename_i hk
            obtain ⟨k1, k2, k3, k4⟩ := skipped_pos hk
            refine fol_ends ok B limit n _ _ _ (spotAt_lt ok _ _ _ _) ?_
            have hs : 0 < va (lv W sp'.lv) sp'.pt (va (lv W sp.lv) sp.pt tick) - va (lv W sp.lv) sp.pt tick := by
              have hall' := ok.all _ c1
              have := va_gt (l := lv W sp'.lv) (by omega) (by omega) sp'.pt (va (lv W sp.lv) sp.pt tick)
              omega
            have hadd : 0 < (skipped W sp' (va (lv W sp.lv) sp.pt tick) limit).1 * (skipped W sp' (va (lv W sp.lv) sp.pt tick) limit).2 := Int.mul_pos hk (by rw [k3]; exact hs)
            have hr := ok.all (W.length - 1) (by have := ok.pos; omega)
            unfold mu
            split
            · omega
            · rw [spotAt_due, c2]
              rw [c2] at k2
              unfold reach at k2
              omega
          · exact fol_ends ok B limit n sp' _ _ c1 hmu
end TwM
/-! Tw: what stands in the heap; the readings' short words -/
namespace Tw
open PySem PySem.Spec PyProof.Rows L2 He TwM
open PySem.W (Frag)
/-! ### operators by short names -/
abbrev oAdd : R2 := rI0 fun i j => .int (i + j)
abbrev oSub : R2 := rI0 fun i j => .int (i - j)
abbrev oMul : R2 := rI CMul fun i j => .int (i * j)
abbrev oDiv : R2 := rI CDiv fun i j => .int (i / j)
abbrev oMod : R2 := rI (fun _ j => 0 < j) fun i j => .int (i % j)
abbrev oPow : R2 := rI CPow fun i j => .int (i ^ j.toNat)
abbrev oDivW : R2 := rI CDivW fun i j => .int (i / j)
abbrev oNeg : V → Hp → VK → Prop := rU fun i => .int (-i)
abbrev oLt : R2 := rI0 fun i j => .bl (decide (i < j))
abbrev oLe : R2 := rI0 fun i j => .bl (decide (i ≤ j))
abbrev oGt : R2 := rI0 fun i j => .bl (decide (j < i))
abbrev oGe : R2 := rI0 fun i j => .bl (decide (j ≤ i))
abbrev oAddS : R2 := fun x y H Q => ∃ i j, x = .str i ∧ y = .str j ∧ i.length + j.length ≤ sizeLine ∧ Q (.str (i ++ j)) H
abbrev oIsN : R2 := fun x y H Q => y = .non ∧ Q (.bl (decide (x = .non))) H
abbrev oNotN : R2 := fun x y H Q => y = .non ∧ Q (.bl (!decide (x = .non))) H
abbrev oAbs : List V → Hp → VK → Prop := fun xs H Q => ∃ i, xs = [.int i] ∧ Q (.int (if i < 0 then -i else i)) H
abbrev oMax2 : List V → Hp → VK → Prop := fun xs H Q => ∃ i j, xs = [.int i, .int j] ∧ Q (.int (if j > i then j else i)) H
abbrev oMin2 : List V → Hp → VK → Prop := fun xs H Q => ∃ i j, xs = [.int i, .int j] ∧ Q (.int (if j < i then j else i)) H
abbrev oInt1 : List V → Hp → VK → Prop := fun xs H Q => (∃ i, xs = [.int i] ∧ Q (.int i) H) ∨ ∃ k, xs = [.bl k] ∧ Q (.int (if k then 1 else 0)) H
abbrev oStrI : List V → Hp → VK → Prop := fun xs H Q => ∃ i, xs = [.int i] ∧ i.natAbs.log2 < 1920 ∧ Q (.str (toString i)) H
abbrev oLen (K : Frag) : List V → Hp → VK → Prop := fun xs H Q => ∃ p ys, xs = [.ref p] ∧ (SqL K H p ys ∨ SqT K H p ys) ∧ Q (.int ys.length) H
abbrev oLenS : List V → Hp → VK → Prop := fun xs H Q => ∃ z, xs = [.str z] ∧ z.length ≤ sizeLine ∧ Q (.int z.length) H
abbrev oLstOf (K : Frag) : List V → Hp → VK → Prop := fun xs H Q => ∃ p ys, xs = [.ref p] ∧ (SqL K H p ys ∨ SqT K H p ys) ∧ ∀ l, H l = none → Q (.ref l) (upd H l (.lst ys))
abbrev oSplit : V → List V → Hp → VK → Prop := fun x xs H Q => ∃ a b, x = .str a ∧ xs = [.str b] ∧ (b.length == 0) = false ∧ a.length + 2 ≤ sizeLine ∧ rNewStrs (Txt.split a b) H Q
abbrev oJoin (K : Frag) : V → List V → Hp → VK → Prop := fun x xs H Q => ∃ a p, ∃ ys : List Str, x = .str a ∧ xs = [.ref p] ∧ (SqL K H p (ys.map V.str) ∨ SqT K H p (ys.map V.str)) ∧
  (ys.map (·.length)).sum + ys.length * a.length ≤ 16777216 ∧ Q (.str (Txt.join a ys)) H
theorem sc_ii (i j : Int) : scal (.int i) (.int j) = true := rfl
theorem sc_ss (i j : Str) : scal (.str i) (.str j) = true := rfl
theorem sc_bb (i j : Bool) : scal (.bl i) (.bl j) = true := rfl
theorem sc_ni (j : Int) : scal .non (.int j) = true := rfl
theorem sc_in (j : Int) : scal (.int j) .non = true := rfl
theorem sc_nn : scal .non .non = true := rfl
theorem sc_is (i : Int) (j : Str) : scal (.int i) (.str j) = true := rfl
theorem isi_base {K : Frag} {H : Hp} {Q : VK} {x : V} {t n : String} {b : Bool} (ty : TyX K H x (.type t)) (h : kitB t n = some b) (q : Q (.bl b) H) : rIsi K [x, .ty n] H Q := ⟨x, .ty n, _, _, b, rfl, .ty n, ty, kit_ty h, q⟩
abbrev six : List Str := ["rounding", "action", "order", "due", "zero", "beyond"]
structure Klv (K : Frag) (w : World) : Prop where
  cL : Cls K (ga K "Level")
  nLg : NoAttr K (ga K "Level") "kept_grain"
  nLs : NoAttr K (ga K "Level") "kept_slots"
  nLp : NoAttr K (ga K "Level") "kept_span"
  iL : IsiC K (ga K "Level")
  kL : PySem.W.kitOne K (.ref (ga K "Level")) (.ref (ga K "Level")) = some true
structure Kfb (K : Frag) (w : World) : Prop where
  cB : Cls K (ga K "Book")
  nBv : NoAttr K (ga K "Book") "kept_values"
  sw : ∀ H, SqT K H (ga K "SWITCHES") (six.map V.str)
  vd : ∀ x, x ∈ six → KDct K w (ga K "VALUES") x (.ref (dva K (ga K "VALUES") x))
  v0 : ∀ H, SqT K H (dva K (ga K "VALUES") "rounding") [.str "down", .str "up"]
  v1 : ∀ H, SqT K H (dva K (ga K "VALUES") "action") [.str "fire", .str "move"]
  v2 : ∀ H, SqT K H (dva K (ga K "VALUES") "order") [.str "high", .str "low"]
  v3 : ∀ H, SqT K H (dva K (ga K "VALUES") "due") [.str "now", .str "put"]
  v4 : ∀ H, SqT K H (dva K (ga K "VALUES") "zero") [.str "now", .str "one"]
  v5 : ∀ H, SqT K H (dva K (ga K "VALUES") "beyond") [.str "refuse", .str "last", .str "cut"]
/-! ### what stands in the heap -/
structure LOk (l : Lv) : Prop where
  g1 : 1 ≤ l.g
  g2 : l.g ≤ 1000
  s1 : 2 ≤ l.s
  s2 : l.s ≤ 100
def lfs (l : Lv) : List (Str × V) := [("kept_grain", .int l.g), ("kept_slots", .int l.s), ("kept_span", .int l.p)]
structure LvAt (K : Frag) (H : Hp) (a : Addr) (l : Lv) : Prop where
  ok : LOk l
  at_ : ∃ dx, H a = some (.ins (ga K "Level") dx (lfs l))
structure WhAt (K : Frag) (H : Hp) (a : Addr) (W : List Lv) : Prop where
  ok : WOk W
  at_ : ∃ (dx t : Addr) (as : List Addr), H a = some (.ins (ga K "Wheel") dx [("kept_levels", .ref t)]) ∧ H t = some (.tup (as.map V.ref)) ∧ as.length = W.length ∧ ∀ i c, as[i]? = some c → LvAt K H c (lv W i)
def sUp (b : Bool) : Str := if b then "up" else "down"
def sFire (b : Bool) : Str := if b then "fire" else "move"
def sHigh (b : Bool) : Str := if b then "high" else "low"
def sPut (b : Bool) : Str := if b then "put" else "now"
def sZone (b : Bool) : Str := if b then "one" else "now"
def sBey (n : Nat) : Str := match n with | 0 => "refuse" | 1 => "last" | _ => "cut"
def bws (B : Bk) : List Str := [sUp B.up, sFire B.fire, sHigh B.high, sPut B.put, sZone B.zone, sBey B.bey]
structure BkAt (K : Frag) (H : Hp) (a : Addr) (B : Bk) : Prop where
  ok : B.bey < 3
  at_ : ∃ dx t, H a = some (.ins (ga K "Book") dx [("kept_values", .ref t)]) ∧ H t = some (.tup ((bws B).map V.str))
def SpAt (H : Hp) (p : Addr) (sp : Spot) : Prop := H p = some (.tup [.int sp.lv, .int sp.pt, .int sp.due])
def OSp (H : Hp) (v : V) (o : Option Spot) : Prop := match o with
  | none => v = .non
  | some sp => ∃ p, v = .ref p ∧ SpAt H p sp
def OSps (H : Hp) (xs : List V) (os : List (Option Spot)) : Prop := xs.length = os.length ∧ ∀ (i : Nat) (v : V) (o : Option Spot), xs[i]? = some v → os[i]? = some o → OSp H v o
section
variable {K : Frag} {H H' : Hp} {a p : Addr}
theorem LvAt.same {l : Lv} (h : LvAt K H a l) (e : Same H H') : LvAt K H' a l := ⟨h.ok, h.at_.elim fun dx q => ⟨dx, e _ _ q⟩⟩
theorem WhAt.same {W : List Lv} (h : WhAt K H a W) (e : Same H H') : WhAt K H' a W := by
  obtain ⟨ok, dx, t, as, h1, h2, h3, h4⟩ := h
  exact ⟨ok, dx, t, as, e _ _ h1, e _ _ h2, h3, fun i c q => (h4 i c q).same e⟩
theorem BkAt.same {B : Bk} (h : BkAt K H a B) (e : Same H H') : BkAt K H' a B := by
  obtain ⟨ok, dx, t, h1, h2⟩ := h
  exact ⟨ok, dx, t, e _ _ h1, e _ _ h2⟩
theorem SpAt.same {sp : Spot} (h : SpAt H p sp) (e : Same H H') : SpAt H' p sp := e _ _ h
theorem OSp.same {v : V} {o : Option Spot} (h : OSp H v o) (e : Same H H') : OSp H' v o := by
  cases o with
  | none => exact h
  | some sp => exact h.elim fun p q => ⟨p, q.1, q.2.same e⟩
theorem OSps.same {xs : List V} {os : List (Option Spot)} (h : OSps H xs os) (e : Same H H') : OSps H' xs os := ⟨h.1, fun i v o q r => (h.2 i v o q r).same e⟩
theorem OSps.nil : OSps H [] [] := ⟨rfl, fun i v o q => by simp at q⟩
theorem LvAt.inj {l l' : Lv} (h : LvAt K H a l) (h' : LvAt K H a l') : l' = l := by
  obtain ⟨_, dx, h1⟩ := h
  obtain ⟨_, dx', h2⟩ := h'
  rw [h1] at h2
  have h3 := Option.some.inj h2
  injection h3 with _ _ h4
  obtain ⟨g, s, p⟩ := l
  obtain ⟨g', s', p'⟩ := l'
  simp only [lfs, List.cons.injEq, Prod.mk.injEq, V.int.injEq, true_and, and_true] at h4
  obtain ⟨e1, e2, e3⟩ := h4
  rw [e1, e2, e3]
theorem lv_ext {W W' : List Lv} (hl : W'.length = W.length) (h : ∀ i, i < W.length → lv W' i = lv W i) : W' = W := by
  refine List.ext_getElem hl fun i h1 h2 => ?_
  have := h i h2
  simpa [lv, List.getD_eq_getElem?_getD, h1, h2] using this
theorem map_inj {α β : Type} {f : α → β} (hf : ∀ a b, f a = f b → a = b) : ∀ {l l' : List α}, l.map f = l'.map f → l = l'
  | [], [], _ => rfl
  | [], _ :: _, h => by simp at h
  | _ :: _, [], h => by simp at h
  | a :: l, b :: l', h => by
    rw [List.map_cons, List.map_cons] at h
    injection h with h1 h2
    rw [hf a b h1, map_inj hf h2]
theorem refs_inj {l l' : List Addr} (h : l.map V.ref = l'.map V.ref) : l = l' := map_inj (fun a b e => V.ref.inj e) h
theorem strs_inj {l l' : List Str} (h : l.map V.str = l'.map V.str) : l = l' := map_inj (fun a b e => V.str.inj e) h
theorem WhAt.inj {W W' : List Lv} (h : WhAt K H a W) (h' : WhAt K H a W') : W' = W := by
  obtain ⟨_, dx, t, as, h1, h2, h3, h4⟩ := h
  obtain ⟨_, dx', t', as', h1', h2', h3', h4'⟩ := h'
  rw [h1] at h1'
  have e1 := Option.some.inj h1'
  injection e1 with _ _ e2
  simp only [List.cons.injEq, Prod.mk.injEq, V.ref.injEq, true_and, and_true] at e2
  subst e2
  rw [h2] at h2'
  have e3 := Option.some.inj h2'
  injection e3 with e4
  have e5 := refs_inj e4
  subst e5
  refine lv_ext (by omega) fun i hi => ?_
  have hi' : i < as.length := by omega
  exact (h4 i _ (List.getElem?_eq_getElem hi')).inj (h4' i _ (List.getElem?_eq_getElem hi'))
theorem bws_inj {B B' : Bk} (hb : B.bey < 3) (hb' : B'.bey < 3) (h : bws B' = bws B) : B' = B := by
  obtain ⟨u, f, h1, p, z, n⟩ := B
  obtain ⟨u', f', h1', p', z', n'⟩ := B'
  simp only [bws, List.cons.injEq, and_true] at h
  obtain ⟨e1, e2, e3, e4, e5, e6⟩ := h
  have a1 : u' = u := by revert e1; cases u <;> cases u' <;> decide +kernel
  have a2 : f' = f := by revert e2; cases f <;> cases f' <;> decide +kernel
  have a3 : h1' = h1 := by revert e3; cases h1 <;> cases h1' <;> decide +kernel
  have a4 : p' = p := by revert e4; cases p <;> cases p' <;> decide +kernel
  have a5 : z' = z := by revert e5; cases z <;> cases z' <;> decide +kernel
  have a6 : n' = n := by
    dsimp only at hb hb'
    revert e6
    match n, n', hb, hb' with
    | 0, 0, _, _ => decide +kernel
    | 0, 1, _, _ => decide +kernel
    | 0, 2, _, _ => decide +kernel
    | 1, 0, _, _ => decide +kernel
    | 1, 1, _, _ => decide +kernel
    | 1, 2, _, _ => decide +kernel
    | 2, 0, _, _ => decide +kernel
    | 2, 1, _, _ => decide +kernel
    | 2, 2, _, _ => decide +kernel
  rw [a1, a2, a3, a4, a5, a6]
theorem BkAt.inj {B B' : Bk} (h : BkAt K H a B) (h' : BkAt K H a B') : B' = B := by
  obtain ⟨ok, dx, t, h1, h2⟩ := h
  obtain ⟨ok', dx', t', h1', h2'⟩ := h'
  rw [h1] at h1'
  have e1 := Option.some.inj h1'
  injection e1 with _ _ e2
  simp only [List.cons.injEq, Prod.mk.injEq, V.ref.injEq, true_and, and_true] at e2
  subst e2
  rw [h2] at h2'
  have e3 := Option.some.inj h2'
  injection e3 with e4
  exact (bws_inj ok' ok (strs_inj e4)).symm
theorem SpAt.inj {s s' : Spot} (h : SpAt H p s) (h' : SpAt H p s') : s' = s := by
  unfold SpAt at h h'
  rw [h] at h'
  have e1 := Option.some.inj h'
  obtain ⟨l, a, b⟩ := s
  obtain ⟨l', a', b'⟩ := s'
  simp only [HO.tup.injEq, List.cons.injEq, V.int.injEq, and_true] at e1
  obtain ⟨e1, e2, e3⟩ := e1
  have e4 : l' = l := by omega
  rw [e4, e2, e3]
theorem sz0 : (0 ≤ sizeLine) = True := eq_true (by decide)
theorem sz1 : (1 ≤ sizeLine) = True := eq_true (by decide)
theorem sz2 : (2 ≤ sizeLine) = True := eq_true (by decide)
theorem sz3 : (3 ≤ sizeLine) = True := eq_true (by decide)
theorem sz4 : (4 ≤ sizeLine) = True := eq_true (by decide)
theorem sz5 : (5 ≤ sizeLine) = True := eq_true (by decide)
theorem sz6 : (6 ≤ sizeLine) = True := eq_true (by decide)
theorem lk1 (x : Str) (v : V) (r : List (Str × V)) : List.lookup x ((x, v) :: r) = some v := by
  rw [List.lookup_cons, show (x == x) = true from beq_self_eq_true x]
theorem lk2 (x y : Str) (v : V) (r : List (Str × V)) (h : (x == y) = false) : List.lookup x ((y, v) :: r) = List.lookup x r := by
  rw [List.lookup_cons, h]
theorem lfs_g (l : Lv) : (lfs l).lookup ("kept_grain" : Str) = some (.int l.g) := lk1 _ _ _
theorem lfs_s (l : Lv) : (lfs l).lookup ("kept_slots" : Str) = some (.int l.s) := by
  unfold lfs
  rw [lk2 _ _ _ _ (by decide +kernel), lk1]
theorem lfs_p (l : Lv) : (lfs l).lookup ("kept_span" : Str) = some (.int l.p) := by
  unfold lfs
  rw [lk2 _ _ _ _ (by decide +kernel), lk2 _ _ _ _ (by decide +kernel), lk1]
theorem sUp_up (b : Bool) : (sUp b = "up") = (b = true) := by cases b <;> decide +kernel
theorem sFire_fire (b : Bool) : (sFire b = "fire") = (b = true) := by cases b <;> decide +kernel
theorem sHigh_high (b : Bool) : (sHigh b = "high") = (b = true) := by cases b <;> decide +kernel
theorem sPut_put (b : Bool) : (sPut b = "put") = (b = true) := by cases b <;> decide +kernel
theorem sZone_now (b : Bool) : (sZone b = "now") = (b = false) := by cases b <;> decide +kernel
theorem sBey_refuse (n : Nat) : (sBey n = "refuse") = (n = 0) := by
  match n with
  | 0 => decide +kernel
  | 1 => decide +kernel
  | n + 2 => exact propext ⟨fun h => absurd h (by show ¬ (("cut" : Str) = "refuse"); decide +kernel), fun h => by omega⟩
theorem sBey_cut (n : Nat) : (sBey n = "cut") = (2 ≤ n) := by
  match n with
  | 0 => exact propext ⟨fun h => absurd h (by decide +kernel), fun h => by omega⟩
  | 1 => exact propext ⟨fun h => absurd h (by decide +kernel), fun h => by omega⟩
  | n + 2 => exact propext ⟨fun h => by omega, fun h => rfl⟩
end
end Tw
/-! Tw: promises and readings of the package's defs -/
namespace Tw
open PySem PySem.Spec PyProof.Rows L2 He TwM
open PySem.W (Frag)
local macro_rules | `(tactic| walk_at "rs") => `(tactic| simp only [and_assoc, tNever, tSeq, tAsg, gName, tVar, tC, tOp, rI, rI0, rU, tUn, oAdd, oSub, oMul, oDiv, oMod, oNeg, oLt, oLe, oGt, oGe, oIsN, oNotN, tFn, tCons, tNil, tIfS, tIf, tTest, tB, tNot, tAnd, tOr, tAndV, tOrV, tNotV,
  tRet, tRetN, tNext, tCB, tDrop, tChain, rEq, rNe, oMax2, oMin2, oInt1, rLenF, L2.start, List.map_cons, List.map_nil, List.length_cons, List.length_nil, List.replicate_succ, List.replicate_zero, List.cons_append, List.nil_append, Nat.reduceAdd, Nat.reduceSub, Nat.zero_add,
  List.set_cons_zero, List.set_cons_succ, List.getElem?_cons_zero, List.getElem?_cons_succ, Option.some.injEq, V.int.injEq, V.ref.injEq, V.str.injEq, V.bl.injEq, exists_eq_left', exists_eq_left, exists_and_left, List.cons.injEq, and_true, true_and, decide_eq_true_eq, sc_ii, sc_ss, sc_bb, sc_ni, sc_in, sc_nn, sc_is, reduceCtorEq,
  Bool.not_eq_true', decide_eq_false_iff_not, if_true, if_false, Bool.false_eq_true, exists_eq', exists_const, false_and, and_false, or_false, false_or, exists_false, Bool.not_not, Bool.not_true, Bool.not_false, sUp_up, sFire_fire, sHigh_high, sPut_put, sZone_now, sBey_refuse, sBey_cut, tTup, tLst, sz0, sz1, sz2, sz3, sz4, sz5, sz6])
section
variable {K : Frag} {w : World}
/-! ### shares -/
def sp_is_integer (K : Frag) : Sp := fun vs H Q _ => ∃ i : Int, vs = [.int i] ∧ Q (.bl true) H
def sp_is_count (K : Frag) : Sp := fun vs H Q _ => ∃ i : Int, vs = [.int i] ∧ Q (.bl (decide (0 ≤ i))) H
def sp_rounded (K : Frag) : Sp := fun vs H Q _ => ∃ (t g : Int) (u : Bool), vs = [.int t, .int g, .str (sUp u)] ∧ 0 < g ∧ g < 1073741824 ∧ Q (.int (rnd u t g)) H
def sp_is_within (K : Frag) : Sp := fun vs H Q _ => ∃ (i lo hi : Int), vs = [.int i, .int lo, .int hi] ∧ Q (.bl (decide (lo ≤ i ∧ i ≤ hi))) H
local macro_rules | `(tactic| walk_at "rsx") => `(tactic| simp only [*, and_assoc, tNever, List.length_map, tFld, rIxTH, rIxLH, rLenTH, rLenLH, lk1, lfs_g, lfs_s, lfs_p, HO.ins.injEq, HO.tup.injEq, HO.lst.injEq, sp_is_integer, sp_is_count, sp_is_within, sp_rounded, tSeq, tAsg, gName, tVar, tC, tOp, rI, rI0, rU, tUn, oAdd, oSub, oMul, oDiv, oMod, oNeg, oLt, oLe, oGt, oGe, oIsN, oNotN, tFn, tCons, tNil, tIfS, tIf, tTest, tB, tNot, tAnd, tOr, tAndV, tOrV, tNotV,
    tRet, tRetN, tNext, tCB, tDrop, tChain, rEq, rNe, oMax2, oMin2, oInt1, rLenF, L2.start, List.map_cons, List.map_nil, List.length_cons, List.length_nil, List.replicate_succ, List.replicate_zero, List.cons_append, List.nil_append, Nat.reduceAdd, Nat.reduceSub, Nat.zero_add,
    List.set_cons_zero, List.set_cons_succ, List.getElem?_cons_zero, List.getElem?_cons_succ, Option.some.injEq, V.int.injEq, V.ref.injEq, V.str.injEq, V.bl.injEq, exists_eq_left', exists_eq_left, exists_and_left, List.cons.injEq, and_true, true_and, decide_eq_true_eq, sc_ii, sc_ss, sc_bb, sc_ni, sc_in, sc_nn, sc_is, reduceCtorEq,
    Bool.not_eq_true', decide_eq_false_iff_not, if_true, if_false, Bool.false_eq_true, exists_eq', exists_const, false_and, and_false, or_false, false_or, exists_false, Bool.not_not, Bool.not_true, Bool.not_false, sUp_up, sFire_fire, sHigh_high, sPut_put, sZone_now, sBey_refuse, sBey_cut, tTup, tLst, sz0, sz1, sz2, sz3, sz4, sz5, sz6])
/-! ### levels, wheels -/
def sp_Level_grain (K : Frag) : Sp := fun vs H Q _ => ∃ a, vs = [.ref a] ∧ ∃ l, LvAt K H a l ∧ Q (.int l.g) H
def sp_Level_slots (K : Frag) : Sp := fun vs H Q _ => ∃ a, vs = [.ref a] ∧ ∃ l, LvAt K H a l ∧ Q (.int l.s) H
def sp_Level_span (K : Frag) : Sp := fun vs H Q _ => ∃ a, vs = [.ref a] ∧ ∃ l, LvAt K H a l ∧ Q (.int l.p) H
def sp_Wheel_reach (K : Frag) : Sp := fun vs H Q _ => ∃ a, vs = [.ref a] ∧ ∃ W, WhAt K H a W ∧ Q (.int (reach W)) H
def sp_Wheel___len__ (K : Frag) : Sp := fun vs H Q _ => ∃ a, vs = [.ref a] ∧ ∃ W, WhAt K H a W ∧ Q (.int W.length) H
local macro_rules | `(tactic| walk_at "rsy") => `(tactic| simp only [*, and_assoc, tNever, List.length_map, tFld, rIxTH, rIxLH, rLenTH, rLenLH, lk1, lfs_g, lfs_s, lfs_p, HO.ins.injEq, HO.tup.injEq, HO.lst.injEq, sp_Level_grain, sp_Level_slots, sp_Level_span, sp_Wheel_reach, sp_Wheel___len__, sp_is_integer, sp_is_count, sp_is_within, sp_rounded, tSeq, tAsg, gName, tVar, tC, tOp, rI, rI0, rU, tUn, oAdd, oSub, oMul, oDiv, oMod, oNeg, oLt, oLe, oGt, oGe, oIsN, oNotN, tFn, tCons, tNil, tIfS, tIf, tTest, tB, tNot, tAnd, tOr, tAndV, tOrV, tNotV,
    tRet, tRetN, tNext, tCB, tDrop, tChain, rEq, rNe, oMax2, oMin2, oInt1, rLenF, L2.start, List.map_cons, List.map_nil, List.length_cons, List.length_nil, List.replicate_succ, List.replicate_zero, List.cons_append, List.nil_append, Nat.reduceAdd, Nat.reduceSub, Nat.zero_add,
    List.set_cons_zero, List.set_cons_succ, List.getElem?_cons_zero, List.getElem?_cons_succ, Option.some.injEq, V.int.injEq, V.ref.injEq, V.str.injEq, V.bl.injEq, exists_eq_left', exists_eq_left, exists_and_left, List.cons.injEq, and_true, true_and, decide_eq_true_eq, sc_ii, sc_ss, sc_bb, sc_ni, sc_in, sc_nn, sc_is, reduceCtorEq,
    Bool.not_eq_true', decide_eq_false_iff_not, if_true, if_false, Bool.false_eq_true, exists_eq', exists_const, false_and, and_false, or_false, false_or, exists_false, Bool.not_not, Bool.not_true, Bool.not_false, sUp_up, sFire_fire, sHigh_high, sPut_put, sZone_now, sBey_refuse, sBey_cut, tTup, tLst, sz0, sz1, sz2, sz3, sz4, sz5, sz6])
def sp_visit_after (K : Frag) : Sp := fun vs H Q _ => ∃ a pt now, vs = [.ref a, .int pt, .int now] ∧ ∃ l, LvAt K H a l ∧ Q (.int (va l pt now)) H
def sp_is_visited (K : Frag) : Sp := fun vs H Q _ => ∃ a pt before now, vs = [.ref a, .int pt, .int before, .int now] ∧ ∃ l, LvAt K H a l ∧ Q (.bl (isVis l pt before now)) H
/-! ### books -/
def sp_Book_rounding (K : Frag) : Sp := fun vs H Q _ => ∃ a, vs = [.ref a] ∧ ∃ B, BkAt K H a B ∧ Q (.str (sUp B.up)) H
def sp_Book_action (K : Frag) : Sp := fun vs H Q _ => ∃ a, vs = [.ref a] ∧ ∃ B, BkAt K H a B ∧ Q (.str (sFire B.fire)) H
def sp_Book_order (K : Frag) : Sp := fun vs H Q _ => ∃ a, vs = [.ref a] ∧ ∃ B, BkAt K H a B ∧ Q (.str (sHigh B.high)) H
def sp_Book_due (K : Frag) : Sp := fun vs H Q _ => ∃ a, vs = [.ref a] ∧ ∃ B, BkAt K H a B ∧ Q (.str (sPut B.put)) H
def sp_Book_zero (K : Frag) : Sp := fun vs H Q _ => ∃ a, vs = [.ref a] ∧ ∃ B, BkAt K H a B ∧ Q (.str (sZone B.zone)) H
def sp_Book_beyond (K : Frag) : Sp := fun vs H Q _ => ∃ a, vs = [.ref a] ∧ ∃ B, BkAt K H a B ∧ Q (.str (sBey B.bey)) H
local macro_rules | `(tactic| walk_at "rsz") => `(tactic| simp only [*, and_assoc, tNever, List.length_map, tFld, rIxTH, rIxLH, rLenTH, rLenLH, lk1, lfs_g, lfs_s, lfs_p, HO.ins.injEq, HO.tup.injEq, HO.lst.injEq, sp_Book_rounding, sp_Book_action, sp_Book_order, sp_Book_due, sp_Book_zero, sp_Book_beyond, Int.toNat_natCast, sp_visit_after, sp_is_visited, sp_Level_grain, sp_Level_slots, sp_Level_span, sp_Wheel_reach, sp_Wheel___len__, sp_is_integer, sp_is_count, sp_is_within, sp_rounded, tSeq, tAsg, gName, tVar, tC, tOp, rI, rI0, rU, tUn, oAdd, oSub, oMul, oDiv, oMod, oNeg, oLt, oLe, oGt, oGe, oIsN, oNotN, tFn, tCons, tNil, tIfS, tIf, tTest, tB, tNot, tAnd, tOr, tAndV, tOrV, tNotV,
    tRet, tRetN, tNext, tCB, tDrop, tChain, rEq, rNe, oMax2, oMin2, oInt1, rLenF, L2.start, List.map_cons, List.map_nil, List.length_cons, List.length_nil, List.replicate_succ, List.replicate_zero, List.cons_append, List.nil_append, Nat.reduceAdd, Nat.reduceSub, Nat.zero_add,
    List.set_cons_zero, List.set_cons_succ, List.getElem?_cons_zero, List.getElem?_cons_succ, Option.some.injEq, V.int.injEq, V.ref.injEq, V.str.injEq, V.bl.injEq, exists_eq_left', exists_eq_left, exists_and_left, List.cons.injEq, and_true, true_and, decide_eq_true_eq, sc_ii, sc_ss, sc_bb, sc_ni, sc_in, sc_nn, sc_is, reduceCtorEq,
    Bool.not_eq_true', decide_eq_false_iff_not, if_true, if_false, Bool.false_eq_true, exists_eq', exists_const, false_and, and_false, or_false, false_or, exists_false, Bool.not_not, Bool.not_true, Bool.not_false, sUp_up, sFire_fire, sHigh_high, sPut_put, sZone_now, sBey_refuse, sBey_cut, tTup, tLst, sz0, sz1, sz2, sz3, sz4, sz5, sz6])
/-! ### points -/
end
end Tw
/-! Tw: readings of placing, visiting, following -/
namespace Tw
open PySem PySem.Spec PyProof.Rows L2 He TwM
open PySem.W (Frag)
local macro_rules | `(tactic| walk_at "rsz") => `(tactic| simp only [*, and_assoc, not_true_eq_false, not_false_eq_true, tNever, List.length_map, tFld, rIxTH, rIxLH, rLenTH, rLenLH, lk1, lfs_g, lfs_s, lfs_p, HO.ins.injEq, HO.tup.injEq, HO.lst.injEq, sp_Book_rounding, sp_Book_action, sp_Book_order, sp_Book_due, sp_Book_zero, sp_Book_beyond, Int.toNat_natCast, sp_visit_after, sp_is_visited, sp_Level_grain, sp_Level_slots, sp_Level_span, sp_Wheel_reach, sp_Wheel___len__, sp_is_integer, sp_is_count, sp_is_within, sp_rounded, tSeq, tAsg, gName, tVar, tC, tOp, rI, rI0, rU, tUn, oAdd, oSub, oMul, oDiv, oMod, oNeg, oLt, oLe, oGt, oGe, oIsN, oNotN, tFn, tCons, tNil, tIfS, tIf, tTest, tB, tNot, tAnd, tOr, tAndV, tOrV, tNotV,
    tRet, tRetN, tNext, tCB, tDrop, tChain, rEq, rNe, oMax2, oMin2, oInt1, rLenF, L2.start, List.map_cons, List.map_nil, List.length_cons, List.length_nil, List.replicate_succ, List.replicate_zero, List.cons_append, List.nil_append, Nat.reduceAdd, Nat.reduceSub, Nat.zero_add,
    List.set_cons_zero, List.set_cons_succ, List.getElem?_cons_zero, List.getElem?_cons_succ, Option.some.injEq, V.int.injEq, V.ref.injEq, V.str.injEq, V.bl.injEq, exists_eq_left', exists_eq_left, exists_and_left, List.cons.injEq, and_true, true_and, decide_eq_true_eq, sc_ii, sc_ss, sc_bb, sc_ni, sc_in, sc_nn, sc_is, reduceCtorEq,
    Bool.not_eq_true', decide_eq_false_iff_not, if_true, if_false, Bool.false_eq_true, exists_eq', exists_const, false_and, and_false, or_false, false_or, exists_false, Bool.not_not, Bool.not_true, Bool.not_false, sUp_up, sFire_fire, sHigh_high, sPut_put, sZone_now, sBey_refuse, sBey_cut, tTup, tLst, sz0, sz1, sz2, sz3, sz4, sz5, sz6])
theorem at3_0 (a b c : V) : atI [a, b, c] 0 = some a := rfl
theorem at3_1 (a b c : V) : atI [a, b, c] 1 = some b := rfl
theorem at3_2 (a b c : V) : atI [a, b, c] 2 = some c := rfl
theorem at2_0 (a b : V) : atI [a, b] 0 = some a := rfl
theorem at2_1 (a b : V) : atI [a, b] 1 = some b := rfl
theorem atI_m1 {xs : List V} {v : V} (h : xs.getLast? = some v) : atI xs (-1) = some v := by
  have hne : xs ≠ [] := fun e => by rw [e] at h; simp at h
  have e : xs = xs.dropLast ++ [v] := by
    rw [List.getLast?_eq_some_getLast hne] at h
    rw [← Option.some.inj h]
    exact (List.dropLast_concat_getLast hne).symm
  rw [e]
  exact atI_last _ _
theorem Same.updN {H H1 : Hp} {f : Addr} {o : HO} (s : Same H H1) (hn : H f = none) : Same H (upd H1 f o) := fun a u e => by
  rw [upd_ne (ne_of_none e hn)]
  exact s _ _ e
section
variable {K : Frag} {w : World}
def placeM (W : List Lv) (B : Bk) (now delay : Int) : Option Spot :=
  if delay = 0 ∧ B.zone = false then none
  else
    let r0 := if 1 > delay then 1 else delay
    let r := if reach W ≤ r0 ∧ B.bey = 2 then reach W - 1 else r0
    some (spotAt W B now r (now + r))
local macro_rules | `(tactic| walk_at "rst") => `(tactic| simp only [*, at3_0, at3_1, at3_2, at2_0, at2_1, and_assoc, not_true_eq_false, not_false_eq_true, tNever, List.length_map, tFld, rIxTH, rIxLH, rLenTH, rLenLH, lk1, lfs_g, lfs_s, lfs_p, HO.ins.injEq, HO.tup.injEq, HO.lst.injEq, sp_Book_rounding, sp_Book_action, sp_Book_order, sp_Book_due, sp_Book_zero, sp_Book_beyond, Int.toNat_natCast, sp_visit_after, sp_is_visited, sp_Level_grain, sp_Level_slots, sp_Level_span, sp_Wheel_reach, sp_Wheel___len__, sp_is_integer, sp_is_count, sp_is_within, sp_rounded, tSeq, tAsg, gName, tVar, tC, tOp, rI, rI0, rU, tUn, oAdd, oSub, oMul, oDiv, oMod, oNeg, oLt, oLe, oGt, oGe, oIsN, oNotN, tFn, tCons, tNil, tIfS, tIf, tTest, tB, tNot, tAnd, tOr, tAndV, tOrV, tNotV,
    tRet, tRetN, tNext, tCB, tDrop, tChain, rEq, rNe, oMax2, oMin2, oInt1, rLenF, L2.start, List.map_cons, List.map_nil, List.length_cons, List.length_nil, List.replicate_succ, List.replicate_zero, List.cons_append, List.nil_append, Nat.reduceAdd, Nat.reduceSub, Nat.zero_add,
    List.set_cons_zero, List.set_cons_succ, List.getElem?_cons_zero, List.getElem?_cons_succ, Option.some.injEq, V.int.injEq, V.ref.injEq, V.str.injEq, V.bl.injEq, exists_eq_left', exists_eq_left, exists_and_left, List.cons.injEq, and_true, true_and, decide_eq_true_eq, sc_ii, sc_ss, sc_bb, sc_ni, sc_in, sc_nn, sc_is, reduceCtorEq,
    Bool.not_eq_true', decide_eq_false_iff_not, if_true, if_false, Bool.false_eq_true, exists_eq', exists_const, false_and, and_false, or_false, false_or, exists_false, Bool.not_not, Bool.not_true, Bool.not_false, sUp_up, sFire_fire, sHigh_high, sPut_put, sZone_now, sBey_refuse, sBey_cut, tTup, tLst, sz0, sz1, sz2, sz3, sz4, sz5, sz6])
theorem OSps.last {H : Hp} {xs : List V} {os : List (Option Spot)} {o : Option Spot} (h : OSps H xs os) (e : os.getLast? = some o) : ∃ v, xs.getLast? = some v ∧ OSp H v o := by
  have hne : os ≠ [] := fun z => by rw [z] at e; simp at e
  have hpos : 0 < os.length := List.length_pos_iff.mpr hne
  have hl := h.1
  rw [List.getLast?_eq_getElem?] at e ⊢
  have hx : xs.length - 1 < xs.length := by omega
  refine ⟨xs[xs.length - 1], List.getElem?_eq_getElem hx, h.2 _ _ _ (List.getElem?_eq_getElem hx) (by rw [hl]; exact e)⟩
def fin (W : List Lv) (B : Bk) (start delay : Int) : Int × Int := match placeM W B start delay with
  | none => (start, 0)
  | some sp => match fol W B none (mu sp start) sp start 0 with
    | none => (0, 0)
    | some r => r.2
theorem fol_mono {W : List Lv} {B : Bk} {lim : Option Int} : ∀ (n : Nat) {sp : Spot} {tick mv : Int} {r : Res}, fol W B lim n sp tick mv = some r → ∀ m, n ≤ m → fol W B lim m sp tick mv = some r
  | 0, _, _, _, _, h, _, _ => by cases h
  | n + 1, sp, tick, mv, r, h, m, hm => by
    obtain ⟨m, rfl⟩ : ∃ k, m = k + 1 := ⟨m - 1, by omega⟩
    unfold fol at h ⊢
    dsimp only at h ⊢
    split at h
    · rename_i h1
      rw [if_pos h1]; exact h
    · rename_i h1
      rw [if_neg h1]
      split at h
      · cases h
      · exact h
      · split at h
        · rename_i h2
          rw [if_pos h2]; exact fol_mono n h m (by omega)
        · rename_i h2
          rw [if_neg h2]; exact fol_mono n h m (by omega)
theorem fin_some {W : List Lv} {B : Bk} {start delay : Int} {sp : Spot} {n : Nat} {r : Res} (h : placeM W B start delay = some sp) (ok : WOk W) (hl : sp.lv < W.length) (hf : fol W B none n sp start 0 = some r) : fin W B start delay = r.2 := by
  unfold fin
  rw [h]
  obtain ⟨r', hr'⟩ := fol_ends ok B none (mu sp start) sp start 0 hl (Nat.le_refl _)
  have e1 := fol_mono _ hr' (max n (mu sp start)) (Nat.le_max_right _ _)
  have e2 := fol_mono _ hf (max n (mu sp start)) (Nat.le_max_left _ _)
  rw [e1] at e2
  obtain rfl := Option.some.inj e2
  dsimp only
  rw [hr']
theorem placeM_lt {W : List Lv} (ok : WOk W) {B : Bk} {now delay : Int} {sp : Spot} (h : placeM W B now delay = some sp) : sp.lv < W.length := by
  unfold placeM at h
  split at h
  · cases h
  · obtain rfl := Option.some.inj h
    exact spotAt_lt ok _ _ _ _
end
end Tw
namespace Tw
open PySem PySem.Spec PyProof.Rows L2 He TwM
open PySem.W (Frag)
theorem split_bws (B : Bk) (hb : B.bey < 3) : Txt.split (Txt.join " " (bws B)) " " = bws B ∧ (Txt.join " " (bws B)).length ≤ 100 := by
  obtain ⟨u, f, hi, p, z, n⟩ := B
  have key : ∀ (u f hi p z : Bool), ∀ n : Fin 3, Txt.split (Txt.join " " (bws ⟨u, f, hi, p, z, n.val⟩)) " " = bws ⟨u, f, hi, p, z, n.val⟩ ∧ (Txt.join " " (bws ⟨u, f, hi, p, z, n.val⟩)).length ≤ 100 := by decide +kernel
  exact key u f hi p z ⟨n, hb⟩
end Tw
/-! Tw: unpacking what is a list or a tuple -/
namespace Tw
open PySem PySem.Spec PyProof.Rows L2
def gUnA (K : PySem.W.Frag) (n : Nat) (t : TGs) : TG := fun v σ H Q => ∃ a xs, v = .ref a ∧ (SqL K H a xs ∨ SqT K H a xs) ∧ xs.length = n ∧ t xs σ H Q
theorem pg_or {X : Cx} {e : Expr} {n : Nat} {t : TGs} (h1 : PG X e (gUnl X.K n t)) (h2 : PG X e (gTup X.K n t)) : PG X e (gUnA X.K n t) := by
  refine ⟨fun pins s σ H v u Q I r hw => ?_⟩
  obtain ⟨a, xs, e1, hq | hq, hl, hw⟩ := hw
  · exact h1.run pins s σ H v u Q I r ⟨a, xs, e1, hq, hl, hw⟩
  · exact h2.run pins s σ H v u Q I r ⟨a, xs, e1, hq, hl, hw⟩
end Tw
/-! Tw: readings of what makes books, levels, wheels -/
namespace Tw
open PySem PySem.Spec PyProof.Rows L2 He TwM
open PySem.W (Frag)
local macro_rules | `(tactic| walk_at "rsu") => `(tactic| simp only [*, at3_0, at3_1, at3_2, at2_0, at2_1, and_assoc, not_true_eq_false, not_false_eq_true, tNever, List.length_map, tFld, rIxTH, rIxLH, rLenTH, rLenLH, lk1, lfs_g, lfs_s, lfs_p, HO.ins.injEq, HO.tup.injEq, HO.lst.injEq, sp_Book_rounding, sp_Book_action, sp_Book_order, sp_Book_due, sp_Book_zero, sp_Book_beyond, Int.toNat_natCast, sp_visit_after, sp_is_visited, sp_Level_grain, sp_Level_slots, sp_Level_span, sp_Wheel_reach, sp_Wheel___len__, sp_is_integer, sp_is_count, sp_is_within, sp_rounded, tSeq, tAsg, gName, tVar, tC, tOp, rI, rI0, rU, tUn, oAdd, oSub, oMul, oDiv, oMod, oNeg, oLt, oLe, oGt, oGe, oIsN, oNotN, tFn, tCons, tNil, tIfS, tIf, tTest, tB, tNot, tAnd, tOr, tAndV, tOrV, tNotV,
    tRet, tRetN, tNext, tCB, tDrop, tChain, rEq, rNe, oMax2, oMin2, oInt1, rLenF, L2.start, List.map_cons, List.map_nil, List.length_cons, List.length_nil, List.replicate_succ, List.replicate_zero, List.cons_append, List.nil_append, Nat.reduceAdd, Nat.reduceSub, Nat.zero_add,
    List.set_cons_zero, List.set_cons_succ, List.getElem?_cons_zero, List.getElem?_cons_succ, Option.some.injEq, V.int.injEq, V.ref.injEq, V.str.injEq, V.bl.injEq, exists_eq_left', exists_eq_left, exists_and_left, List.cons.injEq, and_true, true_and, decide_eq_true_eq, sc_ii, sc_ss, sc_bb, sc_ni, sc_in, sc_nn, sc_is, reduceCtorEq,
    Bool.not_eq_true', decide_eq_false_iff_not, if_true, if_false, Bool.false_eq_true, exists_eq', exists_const, false_and, and_false, or_false, false_or, exists_false, Bool.not_not, Bool.not_true, Bool.not_false, sUp_up, sFire_fire, sHigh_high, sPut_put, sZone_now, sBey_refuse, sBey_cut, tTup, tLst, sz0, sz1, sz2, sz3, sz4, sz5, sz6])
section
variable {K : Frag} {w : World}
def SameX (x : Addr) (H H' : Hp) : Prop := ∀ b o, b ≠ x → H b = some o → H' b = some o
theorem SameX.refl (x : Addr) (H : Hp) : SameX x H H := fun _ _ _ h => h
theorem SameX.same {x : Addr} {H H1 H2 : Hp} (h : SameX x H H1) (s : Same H1 H2) : SameX x H H2 := fun b o n e => s _ _ (h b o n e)
theorem SameX.upd {x : Addr} {H H1 : Hp} {o : HO} (h : SameX x H H1) : SameX x H (upd H1 x o) := fun b u n e => by
  rw [upd_ne n]; exact h b u n e
theorem Same.toX {x : Addr} {H H1 : Hp} (s : Same H H1) : SameX x H H1 := fun b o _ e => s b o e
theorem SameX.made {H2 H' : Hp} {x dx : Addr} {o o' : HO} (hx : H2 x = none) (hd : H2 dx = none) (h : SameX x (L2.upd (L2.upd H2 dx o) x o') H') : Same H2 H' := fun b u e => by
  have n1 : b ≠ x := ne_of_none e hx
  have n2 : b ≠ dx := ne_of_none e hd
  exact h b u n1 (by rw [upd_ne n1, upd_ne n2]; exact e)
theorem bws_len (B : Bk) : (bws B).length = 6 := rfl
theorem iv0 (b : Bool) : inV (.str (sUp b)) [.str "down", .str "up"] = true := by cases b <;> decide +kernel
theorem iv1 (b : Bool) : inV (.str (sFire b)) [.str "fire", .str "move"] = true := by cases b <;> decide +kernel
theorem iv2 (b : Bool) : inV (.str (sHigh b)) [.str "high", .str "low"] = true := by cases b <;> decide +kernel
theorem iv3 (b : Bool) : inV (.str (sPut b)) [.str "now", .str "put"] = true := by cases b <;> decide +kernel
theorem iv4 (b : Bool) : inV (.str (sZone b)) [.str "now", .str "one"] = true := by cases b <;> decide +kernel
theorem iv5 (n : Nat) (h : n < 3) : inV (.str (sBey n)) [.str "refuse", .str "last", .str "cut"] = true := by
  match n, h with
  | 0, _ => decide +kernel
  | 1, _ => decide +kernel
  | 2, _ => decide +kernel
def sp_is_value (K : Frag) : Sp := fun vs H Q _ => ∃ (i : Nat) (B : Bk) (x y : Str), vs = [.str x, .str y] ∧ B.bey < 3 ∧ six[i]? = some x ∧ (bws B)[i]? = some y ∧ Q (.bl true) H
def t_is_value (K : Frag) (w : World) : TS :=
  (tRet (tAndV (tCB (rIsi K) (tCons (tVar 1) (tCons (tC (.ty "str")) tNil))) (tOp (rIn K false) (tVar 1) (tOp (rIxD K w) (tC (.ref (ga K "VALUES"))) (tVar 0)))))
def n_is_value : List Str := ["switch", "value"]
theorem rd_is_value (T : Kfb K w) (vs : List V) (H : Hp) (Q : VK) (E : XK) (h : sp_is_value K vs H Q E) : t_is_value K w { nx := fun _ H' => Q .non H', rt := Q } (L2.start n_is_value vs) H := by
  obtain ⟨i, B, x, y, rfl, hb, hx, hy, q⟩ := h
  have key : ∀ xs, SqT K H (dva K (ga K "VALUES") x) xs → xs.all flatV = true → inV (.str y) xs = true → t_is_value K w { nx := fun _ H' => Q .non H', rt := Q } (L2.start n_is_value [.str x, .str y]) H := by
    intro xs h1 h2 h3
    unfold t_is_value n_is_value
    walk_at "rsu"
    refine isi_base (.base (.str y)) (b := true) (by decide +kernel) ⟨true, rfl, iteT ?_⟩
    have hm : x ∈ six := List.mem_of_getElem? hx
    exact ⟨_, x, _, rfl, rfl, T.vd x hm, _, xs, rfl, .inr h1, rfl, h2, by rw [if_neg Bool.false_ne_true, h3]; exact q⟩
  obtain ⟨u, f, hi, p, z, n⟩ := B
  have hn : n < 3 := hb
  match i with
  | 0 =>
    obtain rfl := Option.some.inj hx
    obtain rfl := Option.some.inj hy
    exact key _ (T.v0 H) (by decide +kernel) (iv0 u)
  | 1 =>
    obtain rfl := Option.some.inj hx
    obtain rfl := Option.some.inj hy
    exact key _ (T.v1 H) (by decide +kernel) (iv1 f)
  | 2 =>
    obtain rfl := Option.some.inj hx
    obtain rfl := Option.some.inj hy
    exact key _ (T.v2 H) (by decide +kernel) (iv2 hi)
  | 3 =>
    obtain rfl := Option.some.inj hx
    obtain rfl := Option.some.inj hy
    exact key _ (T.v3 H) (by decide +kernel) (iv3 p)
  | 4 =>
    obtain rfl := Option.some.inj hx
    obtain rfl := Option.some.inj hy
    exact key _ (T.v4 H) (by decide +kernel) (iv4 z)
  | 5 =>
    obtain rfl := Option.some.inj hx
    obtain rfl := Option.some.inj hy
    exact key _ (T.v5 H) (by decide +kernel) (iv5 n hn)
  | i + 6 => cases hx
def sp_Book___init__ (K : Frag) : Sp := fun vs H Q _ => ∃ (x dx : Addr) (B : Bk), vs = .ref x :: (bws B).map V.str ∧ B.bey < 3 ∧ H x = some (.ins (ga K "Book") dx []) ∧ ∀ H', SameX x H H' → BkAt K H' x B → Q .non H'
def t_Book___init__ (K : Frag) (w : World) : TS :=
  (tSeq (tAsg (tTup (tCons (tVar 1) (tCons (tVar 2) (tCons (tVar 3) (tCons (tVar 4) (tCons (tVar 5) (tCons (tVar 6) tNil))))))) (gName 7))
  (tSeq (tFor (RZ.iZipA K (tCons (tC (.ref (ga K "SWITCHES"))) (tCons (tVar 7) tNil))) (gTup K 2 (gCons (gName 8) (gCons (gName 9) gNil)))
    (tIfS (tNot (tB (tFn (sp_is_value K) E0 (tCons (tVar 8) (tCons (tVar 9) tNil))))) tNever tNext))
  (sFld K (tVar 0) (tVar 7) "kept_values")))
def n_Book___init__ : List Str := ["self", "rounding", "action", "order", "due", "zero", "beyond", "given", "switch", "value"]
theorem rd_Book___init__ (T : Kfb K w) (vs : List V) (H : Hp) (Q : VK) (E : XK) (h : sp_Book___init__ K vs H Q E) : t_Book___init__ K w { nx := fun _ H' => Q .non H', rt := Q } (L2.start n_Book___init__ vs) H := by
  obtain ⟨x, dx, B, rfl, hb, hx, q⟩ := h
  have c1 := T.cB
  have c2 := T.nBv
  have e0 : (bws B).map V.str = [.str (sUp B.up), .str (sFire B.fire), .str (sHigh B.high), .str (sPut B.put), .str (sZone B.zone), .str (sBey B.bey)] := rfl
  rw [e0]
  unfold t_Book___init__ n_Book___init__ sFld
  walk_at "rsu"
  intro g hg
  have s0 := Same.new (o := .tup ((bws B).map V.str)) hg
  rw [← e0]
  refine ⟨_, rfl, _, _, _, _, rfl, .inr ⟨T.sw _, SqT.of upd_same, RZ.for_zipT (K := K) (a := ga K "SWITCHES") (b := g) (xs := six.map V.str) (ys := (bws B).map V.str) rfl
    (fun i σ H' => ∃ v8 v9, σ = [some (.ref x), some (.str (sUp B.up)), some (.str (sFire B.fire)), some (.str (sHigh B.high)), some (.str (sPut B.put)), some (.str (sZone B.zone)), some (.str (sBey B.bey)), some (.ref g), v8, v9] ∧ Same (upd H g (.tup ((bws B).map V.str))) H')
    ⟨none, none, rfl, Same.refl _⟩ (fun i σ H' ⟨_, _, _, s⟩ => ⟨T.sw H', SqT.of (s _ _ upd_same)⟩) ?_ ?_⟩⟩
  · rintro i a b Tq σ H1 ha hb' ⟨v8, v9, rfl, s⟩ hT
    rw [List.getElem?_map] at ha hb'
    cases ea : six[i]? with
    | none => rw [ea] at ha; cases ha
    | some x1 =>
      cases eb : (bws B)[i]? with
      | none => rw [eb] at hb'; cases hb'
      | some y1 =>
        rw [ea] at ha
        rw [eb] at hb'
        obtain rfl := Option.some.inj ha
        obtain rfl := Option.some.inj hb'
        refine ⟨_, _, rfl, SqT.of upd_same, rfl, _, _, rfl, _, _, rfl, rfl, ?_⟩
        have s' := s.trans (Same.new (o := .tup [.str x1, .str y1]) hT)
        walk_at "rsu"
        exact ⟨i, B, x1, y1, rfl, hb, ea, eb, true, rfl, by rw [if_neg Bool.noConfusion]; exact s'⟩
  · rintro σ H1 ⟨v8, v9, rfl, s⟩
    have hx1 := s _ _ (s0 _ _ hx)
    have ht1 := s _ _ (upd_same (H := H) (a := g) (o := .tup ((bws B).map V.str)))
    have hgx : g ≠ x := fun e => by rw [e, hx] at hg; cases hg
    walk_at "rsu"
    refine ⟨by decide, q _ (SameX.upd (Same.toX (s0.trans s))) ⟨hb, dx, g, ?_, ?_⟩⟩
    · rw [upd_same]; rfl
    · rw [upd_ne hgx]; exact ht1
def gV_Book_rounding_action_order_due_zero_beyond : List V → List V → List V := fun vs zs => vs ++ zs
def sp_book_of (K : Frag) : Sp := fun vs H Q _ => ∃ (l : Addr) (B : Bk), vs = [.ref l] ∧ B.bey < 3 ∧ (H l = some (.lst ((bws B).map V.str)) ∨ H l = some (.tup ((bws B).map V.str))) ∧ ∀ a H', Same H H' → BkAt K H' a B → Q (.ref a) H'
def t_book_of (K : Frag) (w : World) : TS :=
  (tSeq (tAsg (tVar 0) (gUnA K 6 (gCons (gName 1) (gCons (gName 2) (gCons (gName 3) (gCons (gName 4) (gCons (gName 5) (gCons (gName 6) gNil))))))))
  (tRet (tMakeK (ga K "Book") 0 6 (sp_Book___init__ K) gV_Book_rounding_action_order_due_zero_beyond E0 tNil (tCons (tVar 1) (tCons (tVar 2) (tCons (tVar 3) (tCons (tVar 4) (tCons (tVar 5) (tCons (tVar 6) tNil)))))))))
def n_book_of : List Str := ["values", "rounding", "action", "order", "due", "zero", "beyond"]
theorem rd_book_of (vs : List V) (H : Hp) (Q : VK) (E : XK) (h : sp_book_of K vs H Q E) : t_book_of K w { nx := fun _ H' => Q .non H', rt := Q } (L2.start n_book_of vs) H := by
  obtain ⟨l, B, rfl, hb, hl, q⟩ := h
  refine ⟨_, rfl, l, _, rfl, hl.imp SqL.of SqT.of, rfl, _, _, rfl, _, _, rfl, _, _, rfl, _, _, rfl, _, _, rfl, _, _, rfl, rfl, ?_⟩
  refine ⟨_, rfl, _, rfl, _, rfl, _, rfl, _, rfl, _, rfl, rfl, rfl, fun x dx hx hd hn => ?_⟩
  exact ⟨x, dx, B, rfl, hb, upd_same, fun H' s z => ⟨rfl, q x H' (SameX.made hx hd s) z⟩⟩
def sp_Book_from_text (K : Frag) : Sp := fun vs H Q _ => ∃ (B : Bk), vs = [.ref (ga K "Book"), .str (Txt.join " " (bws B))] ∧ B.bey < 3 ∧ ∀ a H', Same H H' → BkAt K H' a B → Q (.ref a) H'
def t_Book_from_text (K : Frag) (w : World) : TS :=
  (tSeq (tIfS (tNot (tB (tCB (rIsi K) (tCons (tVar 1) (tCons (tC (.ty "str")) tNil))))) tNever tNext)
  (tSeq (tAsg (tM1 oSplit (tVar 1) (tC (.str " "))) (gName 2))
  (tSeq (tIfS (tTest (tOp rNe (tCB rLenLH (tCons (tVar 2) tNil)) (tCB (oLen K) (tCons (tC (.ref (ga K "SWITCHES"))) tNil)))) tNever tNext)
  (tSeq (tFor (iZm K (tCons (tC (.ref (ga K "SWITCHES"))) (tCons (tVar 2) tNil))) (gTup K 2 (gCons (gName 3) (gCons (gName 4) gNil)))
    (tIfS (tNot (tB (tFn (sp_is_value K) E0 (tCons (tVar 3) (tCons (tVar 4) tNil))))) tNever tNext))
  (tRet (tFn (sp_book_of K) E0 (tCons (tVar 2) tNil)))))))
def n_Book_from_text : List Str := ["cls", "text", "words", "switch", "word"]
theorem rd_Book_from_text (T : Kfb K w) (vs : List V) (H : Hp) (Q : VK) (E : XK) (h : sp_Book_from_text K vs H Q E) : t_Book_from_text K w { nx := fun _ H' => Q .non H', rt := Q } (L2.start n_Book_from_text vs) H := by
  obtain ⟨B, rfl, hb, q⟩ := h
  obtain ⟨e1, e2⟩ := split_bws B hb
  have e6 := bws_len B
  generalize Txt.join " " (bws B) = tx at e1 e2 ⊢
  unfold t_Book_from_text n_Book_from_text tM1 oSplit oLen rNewStrs
  walk_at "rsu"
  refine isi_base (.base (.str tx)) (b := true) (by decide +kernel) ⟨true, rfl, ?_⟩
  rw [if_neg Bool.noConfusion]
  refine ⟨rfl, Nat.le_trans (Nat.add_le_add_right e2 2) (by decide), fun l hl => ⟨_, upd_same, _, .inr (T.sw _), ?_⟩⟩
  have s0 := Same.new (o := .lst ((bws B).map V.str)) hl
  rw [if_neg (fun z => z rfl)]
  refine ⟨_, rfl, _, _, _, _, rfl, T.sw _, SqL.of upd_same, for_zm (K := K) (a := ga K "SWITCHES") (b := l) (xs := six.map V.str) (ys := (bws B).map V.str) rfl
    (fun i σ H' => ∃ v8 v9, σ = [some (.ref (ga K "Book")), some (.str tx), some (.ref l), v8, v9] ∧ Same (upd H l (.lst ((bws B).map V.str))) H')
    ⟨none, none, rfl, Same.refl _⟩ (fun i σ H' ⟨_, _, _, s⟩ => ⟨T.sw H', SqL.of (s _ _ upd_same)⟩) ?_ ?_⟩
  · rintro i a b Tq σ H1 ha hb' ⟨v8, v9, rfl, s⟩ hT
    rw [List.getElem?_map] at ha hb'
    cases ea : six[i]? with
    | none => rw [ea] at ha; cases ha
    | some x1 =>
      cases eb : (bws B)[i]? with
      | none => rw [eb] at hb'; cases hb'
      | some y1 =>
        rw [ea] at ha
        rw [eb] at hb'
        obtain rfl := Option.some.inj ha
        obtain rfl := Option.some.inj hb'
        refine ⟨_, _, rfl, SqT.of upd_same, rfl, _, _, rfl, _, _, rfl, rfl, ?_⟩
        have s' := s.trans (Same.new (o := .tup [.str x1, .str y1]) hT)
        walk_at "rsu"
        exact ⟨i, B, x1, y1, rfl, hb, ea, eb, true, rfl, by rw [if_neg Bool.noConfusion]; exact s'⟩
  · rintro σ H1 ⟨v8, v9, rfl, s⟩
    exact ⟨_, rfl, l, B, rfl, hb, .inl (s _ _ upd_same), fun a H' s' z => q a H' ((s0.trans s).trans s') z⟩
def sp_Level___init__ (K : Frag) : Sp := fun vs H Q _ => ∃ (x dx : Addr) (l : Lv) (v : V), vs = [.ref x, .int l.g, .int l.s, v] ∧ (v = .int l.p ∨ v = .non ∧ l.p = l.s * l.g) ∧ LOk l ∧ 2 ≤ l.p ∧ l.p ≤ 4 * l.s * l.g ∧ H x = some (.ins (ga K "Level") dx []) ∧ ∀ H', SameX x H H' → LvAt K H' x l → Q .non H'
theorem for_zipN {K : PySem.W.Frag} {a b : Addr} {xs ys : List V} {g : TG} {tb : TS} {D : Ends} {σ : L2.St} {H : Hp} (hl : ys.length ≤ xs.length) (Pv : Nat → L2.St → Hp → Prop) (h0 : Pv 0 σ H) (hq : ∀ i σ H, Pv i σ H → SqT K H a xs ∧ SqT K H b ys)
    (hs : ∀ (i : Nat) (x y : V) (T : Addr) (σ : L2.St) (H : Hp), xs[i]? = some x → ys[i]? = some y → Pv i σ H → H T = none → g (.ref T) σ (upd H T (.tup [x, y])) fun σ2 H2 => tb { D with nx := Pv (i + 1), ct := Pv (i + 1), bk := D.nx } σ2 H2) (hd : ∀ σ H, Pv ys.length σ H → D.nx σ H) :
    ∃ W : Nat → Nat → L2.St → Hp → Prop, (∃ m, W 0 m σ H) ∧ ∀ i m σ H, W i m σ H →
      ((RZ.ItzT K a b).stop i H ∧ D.nx σ H) ∨ ((RZ.ItzT K a b).go i H ∧ ∃ N : L2.St → Hp → Prop, (∀ σ' H', N σ' H' → ∃ m', m' < m ∧ W (i + 1) m' σ' H') ∧ ∀ v H', (RZ.ItzT K a b).yld i H v H' → g v σ H' fun σ2 H2 => tb { D with nx := N, ct := N, bk := D.nx } σ2 H2) := by
  refine ⟨fun i m σ H => m = ys.length - i ∧ i ≤ ys.length ∧ Pv i σ H, ⟨ys.length, rfl, Nat.zero_le _, h0⟩, ?_⟩
  rintro i m σ H ⟨rfl, hi, p⟩
  obtain ⟨qx, qy⟩ := hq i σ H p
  rcases Nat.lt_or_ge i ys.length with hy | hy
  · refine .inr ⟨⟨xs, ys, _, _, qx, qy, List.getElem?_eq_getElem (by omega), List.getElem?_eq_getElem hy⟩, Pv (i + 1), ?_, ?_⟩
    · exact fun σ' H' p' => ⟨ys.length - (i + 1), by omega, rfl, hy, p'⟩
    · rintro v H' ⟨T, x', y', rfl, hT, rfl, f1, f2⟩
      exact hs i x' y' T σ H (f1 xs qx) (f2 ys qy) p hT
  · obtain rfl : i = ys.length := by omega
    exact .inl ⟨⟨xs, ys, qx, qy, .inr hy⟩, hd σ H p⟩
def sq_Wheel___init__ (K : Frag) : Sp := fun vs H Q _ => ∃ (x dx t : Addr) (as : List Addr) (W : List Lv), vs = [.ref x, .ref t] ∧ H x = some (.ins (ga K "Wheel") dx []) ∧ H t = some (.tup (as.map V.ref)) ∧ as.length = W.length ∧ (∀ i c, as[i]? = some c → LvAt K H c (lv W i)) ∧ WOk W ∧
  ∀ H', SameX x H H' → WhAt K H' x W → Q .non H'
def sp_Wheel___init__ (K : Frag) : Sp := fun vs H Q E => ∃ ws rest, vs = ws ++ rest ∧ ws.length = 1 ∧ rest.length ≤ sizeLine ∧ ∀ p, H p = none → sq_Wheel___init__ K (ws ++ [V.ref p]) (upd H p (.tup rest)) Q E
theorem wh_make {H : Hp} {Q : VK} {as : List Addr} {W : List Lv} (hl : as.length = W.length) (hc : ∀ i c, as[i]? = some c → LvAt K H c (lv W i)) (ok : WOk W) (q : ∀ a H', Same H H' → WhAt K H' a W → Q (.ref a) H') (x dx : Addr) (hx : H x = none) (hd : H dx = none) (hn : dx ≠ x) :
    sp_Wheel___init__ K (.ref x :: as.map V.ref) (upd (upd H dx (.own x)) x (.ins (ga K "Wheel") dx [])) (fun v H2 => v = .non ∧ Q (.ref x) H2) E0 := by
  refine ⟨[.ref x], as.map V.ref, rfl, rfl, by have := ok.len; have : sizeLine = 16777216 := rfl; simp; omega, fun p hp => ?_⟩
  have n1 : p ≠ x := fun e => by rw [e, upd_same] at hp; cases hp
  have n2 : x ≠ p := fun e => n1 e.symm
  refine ⟨x, dx, p, as, W, rfl, by rw [upd_ne n2, upd_same], upd_same, hl, fun i c hi => ?_, ok, fun H' s z => ⟨rfl, q x H' ?_ z⟩⟩
  · obtain ⟨o, dc, h1⟩ := hc i c hi
    refine ⟨o, dc, ?_⟩
    have m1 : c ≠ x := ne_of_none h1 hx
    have m2 : c ≠ dx := ne_of_none h1 hd
    have h2 : upd (upd H dx (.own x)) x (.ins (ga K "Wheel") dx []) c = some (.ins (ga K "Level") dc (lfs (lv W i))) := by rw [upd_ne m1, upd_ne m2]; exact h1
    rw [upd_ne (ne_of_none h2 hp)]
    exact h2
  · refine SameX.made (o := .own x) (o' := .ins (ga K "Wheel") dx []) hx hd fun b o nb e => s b o nb ?_
    rw [upd_ne (ne_of_none e hp)]
    exact e
theorem lv_make {H : Hp} {Q : VK} {l : Lv} {v : V} (hv : v = .int l.p ∨ v = .non ∧ l.p = l.s * l.g) (ok : LOk l) (h1 : 2 ≤ l.p) (h2 : l.p ≤ 4 * l.s * l.g) (q : ∀ a H', Same H H' → LvAt K H' a l → Q (.ref a) H') (x dx : Addr) (hx : H x = none) (hd : H dx = none) :
    sp_Level___init__ K [.ref x, .int l.g, .int l.s, v] (upd (upd H dx (.own x)) x (.ins (ga K "Level") dx [])) (fun v H2 => v = .non ∧ Q (.ref x) H2) E0 :=
  ⟨x, dx, l, v, rfl, hv, ok, h1, h2, upd_same, fun H' s z => ⟨rfl, q x H' (SameX.made hx hd s) z⟩⟩
end
end Tw
/-! Tw: the laws' own pool of draws -/
namespace Tw
open PySem PySem.Spec PyProof.Rows L2 He TwM
open PySem.W (Frag)
theorem ix5_0 : ixN 5 0 = some 0 := rfl
theorem ix5_1 : ixN 5 1 = some 1 := rfl
theorem ix5_2 : ixN 5 2 = some 2 := rfl
theorem ix5_3 : ixN 5 3 = some 3 := rfl
theorem ix5_4 : ixN 5 4 = some 4 := rfl
theorem at5_0 (a b c d e : V) : atI [a, b, c, d, e] 0 = some a := rfl
theorem at5_1 (a b c d e : V) : atI [a, b, c, d, e] 1 = some b := rfl
theorem at5_2 (a b c d e : V) : atI [a, b, c, d, e] 2 = some c := rfl
theorem at5_3 (a b c d e : V) : atI [a, b, c, d, e] 3 = some d := rfl
theorem at5_4 (a b c d e : V) : atI [a, b, c, d, e] 4 = some e := rfl
theorem upd_two (H : Hp) (a : Addr) (o u : HO) : upd (upd H a o) a u = upd H a u := by
  funext b
  unfold upd
  split <;> rfl
theorem updS (H : Hp) (a : Addr) (o : HO) : upd H a o a = some o := upd_same
theorem updN {H : Hp} {a b : Addr} {o : HO} (h : (b = a) = False) : upd H a o b = H b := upd_ne (fun e => by rw [h] at e; exact e)
local macro_rules | `(tactic| walk_at "rsv") => `(tactic| simp only [*, at3_0, at3_1, at3_2, at2_0, at2_1, ix5_0, ix5_1, ix5_2, ix5_3, ix5_4, at5_0, at5_1, at5_2, at5_3, at5_4, updS, upd_two, gSub, rSetL, updN, and_assoc, not_true_eq_false, not_false_eq_true, tNever, List.length_map, tFld, rIxTH, rIxLH, rLenTH, rLenLH, lk1, lfs_g, lfs_s, lfs_p, HO.ins.injEq, HO.tup.injEq, HO.lst.injEq, sp_Book_rounding, sp_Book_action, sp_Book_order, sp_Book_due, sp_Book_zero, sp_Book_beyond, Int.toNat_natCast, sp_visit_after, sp_is_visited, sp_Level_grain, sp_Level_slots, sp_Level_span, sp_Wheel_reach, sp_Wheel___len__, sp_is_integer, sp_is_count, sp_is_within, sp_rounded, tSeq, tAsg, gName, tVar, tC, tOp, rI, rI0, rU, tUn, oAdd, oSub, oMul, oDiv, oMod, oNeg, oLt, oLe, oGt, oGe, oIsN, oNotN, tFn, tCons, tNil, tIfS, tIf, tTest, tB, tNot, tAnd, tOr, tAndV, tOrV, tNotV,
    tRet, tRetN, tNext, tCB, tDrop, tChain, rEq, rNe, oMax2, oMin2, oInt1, rLenF, L2.start, List.map_cons, List.map_nil, List.length_cons, List.length_nil, List.replicate_succ, List.replicate_zero, List.cons_append, List.nil_append, Nat.reduceAdd, Nat.reduceSub, Nat.zero_add,
    List.set_cons_zero, List.set_cons_succ, List.getElem?_cons_zero, List.getElem?_cons_succ, Option.some.injEq, V.int.injEq, V.ref.injEq, V.str.injEq, V.bl.injEq, exists_eq_left', exists_eq_left, exists_and_left, List.cons.injEq, and_true, true_and, decide_eq_true_eq, sc_ii, sc_ss, sc_bb, sc_ni, sc_in, sc_nn, sc_is, reduceCtorEq,
    Bool.not_eq_true', decide_eq_false_iff_not, if_true, if_false, Bool.false_eq_true, exists_eq', exists_const, false_and, and_false, or_false, false_or, exists_false, Bool.not_not, Bool.not_true, Bool.not_false, sUp_up, sFire_fire, sHigh_high, sPut_put, sZone_now, sBey_refuse, sBey_cut, tTup, tLst, sz0, sz1, sz2, sz3, sz4, sz5, sz6])
section
variable {K : Frag} {w : World}
theorem Same.lst {H H' : Hp} {a : Addr} {xs : List V} (e : Same H H') (h : SqL K H a xs) : SqL K H' a xs := by
  rcases h with (h | ⟨o, h⟩) | h
  · exact .inl (.inl (e _ _ h))
  · exact .inl (.inr ⟨o, e _ _ h⟩)
  · exact .inr h
structure PoolAt (H : Hp) (p l : Addr) : Prop where
  ne : p ≠ l
  at_ : ∃ (cs : List Int) (i1 i2 i3 i4 : Int), H p = some (.lst [.ref l, .int i1, .int i2, .int i3, .int i4]) ∧ H l = some (.lst (cs.map V.int)) ∧ 0 ≤ i1
def SameP (p l : Addr) (H H' : Hp) : Prop := ∀ b o, b ≠ p → b ≠ l → H b = some o → H' b = some o
theorem SameP.refl (p l : Addr) (H : Hp) : SameP p l H H := fun _ _ _ _ h => h
theorem SameP.trans {p l : Addr} {H H1 H2 : Hp} (h : SameP p l H H1) (s : SameP p l H1 H2) : SameP p l H H2 := fun b o n m e => s _ _ n m (h b o n m e)
theorem Same.toP {p l : Addr} {H H1 : Hp} (s : Same H H1) : SameP p l H H1 := fun b o _ _ e => s b o e
theorem SameP.updp {p l : Addr} {H H1 : Hp} {o : HO} (h : SameP p l H H1) : SameP p l H (upd H1 p o) := fun b u n m e => by
  rw [upd_ne n]; exact h b u n m e
theorem SameP.updl {p l : Addr} {H H1 : Hp} {o : HO} (h : SameP p l H H1) : SameP p l H (upd H1 l o) := fun b u n m e => by
  rw [upd_ne m]; exact h b u n m e
theorem PoolAt.same {p l : Addr} {H H1 : Hp} (h : PoolAt H p l) (s : Same H H1) : PoolAt H1 p l := by
  obtain ⟨n, cs, i1, i2, i3, i4, h1, h2, h3⟩ := h
  exact ⟨n, cs, i1, i2, i3, i4, s _ _ h1, s _ _ h2, h3⟩
theorem PoolAt.ins {p l : Addr} {H H1 : Hp} (h : PoolAt H p l) (s : SameP p l H H1) {a C dx : Addr} {fs : List (Str × V)} (e : H a = some (.ins C dx fs)) : H1 a = some (.ins C dx fs) := by
  obtain ⟨n, cs, i1, i2, i3, i4, h1, h2, h3⟩ := h
  exact s _ _ (fun z => by rw [z, h1] at e; cases e) (fun z => by rw [z, h2] at e; cases e) e
theorem PoolAt.tup {p l : Addr} {H H1 : Hp} (h : PoolAt H p l) (s : SameP p l H H1) {a : Addr} {xs : List V} (e : H a = some (.tup xs)) : H1 a = some (.tup xs) := by
  obtain ⟨n, cs, i1, i2, i3, i4, h1, h2, h3⟩ := h
  exact s _ _ (fun z => by rw [z, h1] at e; cases e) (fun z => by rw [z, h2] at e; cases e) e
theorem LvAt.sameP {p l : Addr} {H H1 : Hp} (h : PoolAt H p l) (s : SameP p l H H1) {a : Addr} {v : Lv} (e : LvAt K H a v) : LvAt K H1 a v := ⟨e.ok, e.at_.elim fun dx q => ⟨dx, h.ins s q⟩⟩
theorem WhAt.sameP {p l : Addr} {H H1 : Hp} (h : PoolAt H p l) (s : SameP p l H H1) {a : Addr} {W : List Lv} (e : WhAt K H a W) : WhAt K H1 a W := by
  obtain ⟨ok, dx, t, as, h1, h2, h3, h4⟩ := e
  exact ⟨ok, dx, t, as, h.ins s h1, h.tup s h2, h3, fun i c q => (h4 i c q).sameP h s⟩
theorem BkAt.sameP {p l : Addr} {H H1 : Hp} (h : PoolAt H p l) (s : SameP p l H H1) {a : Addr} {B : Bk} (e : BkAt K H a B) : BkAt K H1 a B := by
  obtain ⟨ok, dx, t, h1, h2⟩ := e
  exact ⟨ok, dx, t, h.ins s h1, h.tup s h2⟩
def Drawn (H : Hp) (p l : Addr) (many : Int) (Q : VK) : Prop := ∀ (v : Int) (H' : Hp), SameP p l H H' → PoolAt H' p l → 0 ≤ v → v < many → Q (.int v) H'
def sp__law_mixed (K : Frag) : Sp := fun vs H Q _ => ∃ (p l : Addr) (many : Int), vs = [.ref p, .int many] ∧ PoolAt H p l ∧ 0 < many ∧ many.natAbs.log2 < 1920 ∧ Drawn H p l many Q
def t__law_mixed (K : Frag) (w : World) : TS :=
  (tSeq (tAsg (tOp oAdd (tOp rIxLH (tVar 0) (tC (.int 2))) (tC (.int 1))) (gSub (tVar 0) (tC (.int 2)) L2.rSetL))
  (tSeq (tAsg (tOp rIxLH (tVar 0) (tC (.int 3))) (gName 2))
  (tSeq (tFor (iRng1 (tCons (tOp oAdd (tC (.int 1)) (tOp oDiv (tCB oLenS (tCons (tCB oStrI (tCons (tVar 1) tNil)) tNil)) (tC (.int 9)))) tNil)) (gName 3)
    (tSeq (tAsg (tOp oMod (tOp oAdd (tOp oAdd (tOp oMul (tOp rIxLH (tVar 0) (tC (.int 3))) (tC (.int 48271))) (tOp oMul (tOp rIxLH (tVar 0) (tC (.int 2))) (tC (.int 12345)))) (tC (.int 89126))) (tC (.int 2147483647))) (gSub (tVar 0) (tC (.int 3)) L2.rSetL))
  (tAsg (tOp oAdd (tOp oMul (tVar 2) (tC (.int 2147483647))) (tOp oDiv (tOp rIxLH (tVar 0) (tC (.int 3))) (tC (.int 7)))) (gName 2))))
  (tRet (tOp oMod (tVar 2) (tVar 1))))))
def n__law_mixed : List Str := ["_law_pool", "_law_many", "_law_found", "_law_turn"]
theorem rd__law_mixed (vs : List V) (H : Hp) (Q : VK) (E : XK) (h : sp__law_mixed K vs H Q E) : t__law_mixed K w { nx := fun _ H' => Q .non H', rt := Q } (L2.start n__law_mixed vs) H := by
  obtain ⟨p, l, many, rfl, ⟨hne, cs, i1, i2, i3, i4, h1, h2, h3⟩, hm, hlog, q⟩ := h
  have hlp : (l = p) = False := eq_false (fun e => hne e.symm)
  unfold t__law_mixed n__law_mixed
  walk_at "rsv"
  have hz := PySem.int_text_fits hlog
  have hz' : (Str.ofString (toString many)).length < 2 ^ 24 + 1 := Nat.lt_of_le_of_lt hz (by decide)
  have s1 : SameP p l H (upd H p (.lst [.ref l, .int i1, .int (i2 + 1), .int i3, .int i4])) := (SameP.refl p l H).updp
  refine ⟨_, rfl, _, rfl, hlog, _, rfl, hz, _, _, rfl, rfl, ⟨by decide, by decide⟩, _, _, rfl, rfl, _, rfl, by omega, by omega, for_range
    (fun i σ H' => ∃ (f : Int) (v3 : Option V) (j2 j3 : Int), σ = [some (.ref p), some (.int many), some (.int f), v3] ∧ SameP p l H H' ∧ H' p = some (.lst [.ref l, .int i1, .int j2, .int j3, .int i4]) ∧ H' l = some (.lst (cs.map V.int)))
    ⟨i3, none, _, i3, rfl, s1, updS _ _ _, by rw [updN hlp]; exact h2⟩ ?_ ?_⟩
  · rintro i σ H1 hi ⟨f, v3, j2, j3, rfl, s2, k1, k2⟩
    walk_at "rsv"
    exact ⟨.inr ⟨by decide, by decide⟩, .inr ⟨by decide, by decide⟩, by decide, .inr ⟨by decide, by decide⟩, ⟨by decide, by decide⟩, s2.updp⟩
  · rintro σ H1 ⟨f, v3, j2, j3, rfl, s2, k1, k2⟩
    exact ⟨_, rfl, _, rfl, _, _, rfl, rfl, hm, q _ _ s2 ⟨hne, cs, i1, j2, j3, i4, k1, k2, h3⟩ (Int.emod_nonneg _ (by omega)) (Int.emod_lt_of_pos _ hm)⟩
def sp__law_draw (K : Frag) : Sp := fun vs H Q _ => ∃ (p l : Addr) (many : Int), vs = [.ref p, .int many] ∧ PoolAt H p l ∧ 0 < many ∧ many.natAbs.log2 < 1920 ∧ Drawn H p l many Q
def t__law_draw (K : Frag) (w : World) : TS :=
  (tSeq (tIfS (tOr (tTest (tOp oGe (tOp rIxLH (tVar 0) (tC (.int 1))) (tCB rLenLH (tCons (tOp rIxLH (tVar 0) (tC (.int 0))) tNil)))) (tTest (tOp rEq (tVar 1) (tC (.int 1))))) (tRet (tIf (tTest (tOp oGt (tVar 1) (tC (.int 1)))) (tFn (sp__law_mixed K) E0 (tCons (tVar 0) (tCons (tVar 1) tNil))) (tC (.int 0)))) tNext)
  (tSeq (tIfS (tTest (tOp oLt (tOp rIxLH (tOp rIxLH (tVar 0) (tC (.int 0))) (tOp rIxLH (tVar 0) (tC (.int 1)))) (tOp oPow (tC (.int 10)) (tC (.int 18))))) (tSeq (tAsg (tOp oMod (tOp oAdd (tOp oAdd (tOp oAdd (tOp oMul (tOp rIxLH (tVar 0) (tC (.int 3))) (tC (.int 31))) (tOp rIxLH (tOp rIxLH (tVar 0) (tC (.int 0))) (tOp rIxLH (tVar 0) (tC (.int 1))))) (tOp rIxLH (tVar 0) (tC (.int 2)))) (tC (.int 1))) (tC (.int 2147483647))) (gSub (tVar 0) (tC (.int 3)) L2.rSetL))
  (tSeq (tAsg (tOp oAdd (tOp rIxLH (tVar 0) (tC (.int 4))) (tC (.int 1))) (gSub (tVar 0) (tC (.int 4)) L2.rSetL))
  (tSeq (tIfS (tTest (tOp rEq (tOp oMod (tOp rIxLH (tVar 0) (tC (.int 4))) (tC (.int 3))) (tC (.int 0)))) (tAsg (tOp oAdd (tOp rIxLH (tVar 0) (tC (.int 1))) (tC (.int 1))) (gSub (tVar 0) (tC (.int 1)) L2.rSetL)) tNext)
  (tRet (tFn (sp__law_mixed K) E0 (tCons (tVar 0) (tCons (tVar 1) tNil))))))) tNext)
  (tSeq (tAsg (tOp oMod (tOp rIxLH (tOp rIxLH (tVar 0) (tC (.int 0))) (tOp rIxLH (tVar 0) (tC (.int 1)))) (tVar 1)) (gName 2))
  (tSeq (tAsg (tOp oDivW (tOp rIxLH (tOp rIxLH (tVar 0) (tC (.int 0))) (tOp rIxLH (tVar 0) (tC (.int 1)))) (tVar 1)) (gSub (tOp rIxLH (tVar 0) (tC (.int 0))) (tOp rIxLH (tVar 0) (tC (.int 1))) L2.rSetL))
  (tSeq (tIfS (tTest (tOp rEq (tOp rIxLH (tOp rIxLH (tVar 0) (tC (.int 0))) (tOp rIxLH (tVar 0) (tC (.int 1)))) (tC (.int 0)))) (tAsg (tOp oAdd (tOp rIxLH (tVar 0) (tC (.int 1))) (tC (.int 1))) (gSub (tVar 0) (tC (.int 1)) L2.rSetL)) tNext)
  (tRet (tVar 2)))))))
def n__law_draw : List Str := ["_law_pool", "_law_many", "_law_found"]
theorem rd__law_draw (vs : List V) (H : Hp) (Q : VK) (E : XK) (h : sp__law_draw K vs H Q E) : t__law_draw K w { nx := fun _ H' => Q .non H', rt := Q } (L2.start n__law_draw vs) H := by
  obtain ⟨p, l, many, rfl, ⟨hne, cs, i1, i2, i3, i4, h1, h2, h3⟩, hm, hlog, q⟩ := h
  have hlp : (l = p) = False := eq_false (fun e => hne e.symm)
  have hpl : (p = l) = False := eq_false hne
  have hmix : ∀ (H' : Hp), SameP p l H H' → PoolAt H' p l → sp__law_mixed K [.ref p, .int many] H' Q E0 := fun H' s z => ⟨p, l, many, rfl, z, hm, hlog, fun v H2 s2 z2 a b => q v H2 (s.trans s2) z2 a b⟩
  have hpow : (10 : Int) ^ (18 : Int).toNat = 1000000000000000000 := by decide
  have hcp : CPow 10 18 := ⟨by decide, by decide, by decide⟩
  have hq : q = q := rfl
  unfold t__law_draw n__law_draw
  by_cases hlen : (cs.length : Int) ≤ i1
  · by_cases hm1 : 1 < many
    · walk_at "rsv"
      exact hmix H (SameP.refl p l H) ⟨hne, cs, i1, i2, i3, i4, h1, h2, h3⟩
    · have e1 : many = 1 := by omega
      subst e1
      walk_at "rsv"
      exact q 0 H (SameP.refl p l H) ⟨hne, cs, i1, i2, i3, i4, h1, h2, h3⟩ (by decide) (by decide)
  · obtain ⟨j, rfl⟩ : ∃ j : Nat, i1 = (j : Int) := ⟨i1.toNat, by omega⟩
    have hj : j < cs.length := by omega
    obtain ⟨c, hc⟩ : ∃ c, cs[j]? = some c := ⟨cs[j], List.getElem?_eq_getElem hj⟩
    have hat : atI (cs.map V.int) (j : Int) = some (.int c) := atI_nat (by rw [List.getElem?_map, hc]; rfl)
    have hix : ixN cs.length (j : Int) = some j := by
      unfold ixN
      rw [if_pos (by omega), if_pos (by omega)]
      rfl
    have hset : ∀ y : Int, (cs.map V.int).set j (.int y) = (cs.set j y).map V.int := fun y => by rw [List.map_set]
    have hat2 : ∀ y : Int, atI (((cs.set j y)).map V.int) (j : Int) = some (.int y) := fun y => atI_nat (by rw [List.getElem?_map, List.getElem?_set_self hj]; rfl)
    walk_at "rsv"
    have s0 := SameP.refl p l H
    refine ite2 (fun e1 => ?_) fun e1 => ite2 (fun h4 => ?_) fun h4 => ?_
    · rw [if_neg (by omega)]
      exact q 0 H s0 ⟨hne, cs, _, i2, i3, i4, h1, h2, h3⟩ (by omega) (by omega)
    · refine ⟨.inr ⟨by decide, by decide⟩, by decide, by decide, ite2 (fun _ => ?_) fun _ => ?_⟩
      · exact hmix _ s0.updp ⟨hne, cs, _, _, _, _, updS _ _ _, by rw [updN hlp]; exact h2, by omega⟩
      · exact hmix _ s0.updp ⟨hne, cs, _, _, _, _, updS _ _ _, by rw [updN hlp]; exact h2, by omega⟩
    · have q0 := Int.emod_nonneg c (b := many) (by omega)
      have q1 := Int.emod_lt_of_pos c hm
      refine ⟨⟨hm, Nat.lt_trans hlog (by decide)⟩, ite2 (fun _ => ?_) fun _ => ?_⟩
      · exact q _ _ (SameP.updp s0.updl) ⟨hne, cs.set j (c / many), _, _, _, _, updS _ _ _, by rw [updN hlp]; exact updS _ _ _, by omega⟩ q0 q1
      · exact q _ _ s0.updl ⟨hne, cs.set j (c / many), _, _, _, _, by rw [updN hpl]; exact h1, updS _ _ _, by omega⟩ q0 q1
end
end Tw
/-! Tw: more of the laws' own defs -/
namespace Tw
open PySem PySem.Spec PyProof.Rows L2 He TwM
open PySem.W (Frag)
local macro_rules | `(tactic| walk_at "rsw") => `(tactic| simp only [*, at3_0, at3_1, at3_2, at2_0, at2_1, ix5_0, ix5_1, ix5_2, ix5_3, ix5_4, at5_0, at5_1, at5_2, at5_3, at5_4, updS, upd_two, gSub, rSetL, updN, and_assoc, not_true_eq_false, not_false_eq_true, tNever, List.length_map, tFld, rIxTH, rIxLH, rLenTH, rLenLH, lk1, lfs_g, lfs_s, lfs_p, HO.ins.injEq, HO.tup.injEq, HO.lst.injEq, sp_Book_rounding, sp_Book_action, sp_Book_order, sp_Book_due, sp_Book_zero, sp_Book_beyond, Int.toNat_natCast, sp_visit_after, sp_is_visited, sp_Level_grain, sp_Level_slots, sp_Level_span, sp_Wheel_reach, sp_Wheel___len__, sp_is_integer, sp_is_count, sp_is_within, sp_rounded, tSeq, tAsg, gName, tVar, tC, tOp, rI, rI0, rU, tUn, oAdd, oSub, oMul, oDiv, oMod, oNeg, oLt, oLe, oGt, oGe, oIsN, oNotN, tFn, tCons, tNil, tIfS, tIf, tTest, tB, tNot, tAnd, tOr, tAndV, tOrV, tNotV,
    tRet, tRetN, tNext, tCB, tDrop, tChain, rEq, rNe, oMax2, oMin2, oInt1, rLenF, L2.start, List.map_cons, List.map_nil, List.length_cons, List.length_nil, List.replicate_succ, List.replicate_zero, List.cons_append, List.nil_append, Nat.reduceAdd, Nat.reduceSub, Nat.zero_add,
    List.set_cons_zero, List.set_cons_succ, List.getElem?_cons_zero, List.getElem?_cons_succ, Option.some.injEq, V.int.injEq, V.ref.injEq, V.str.injEq, V.bl.injEq, exists_eq_left', exists_eq_left, exists_and_left, List.cons.injEq, and_true, true_and, decide_eq_true_eq, sc_ii, sc_ss, sc_bb, sc_ni, sc_in, sc_nn, sc_is, reduceCtorEq,
    Bool.not_eq_true', decide_eq_false_iff_not, if_true, if_false, Bool.false_eq_true, exists_eq', exists_const, false_and, and_false, or_false, false_or, exists_false, Bool.not_not, Bool.not_true, Bool.not_false, sUp_up, sFire_fire, sHigh_high, sPut_put, sZone_now, sBey_refuse, sBey_cut, tTup, tLst, sz0, sz1, sz2, sz3, sz4, sz5, sz6])
section
variable {K : Frag} {w : World}
def sp__law_begin (K : Frag) : Sp := fun vs H Q _ => ∃ (a : Addr) (ns : List Int), vs = [.ref a] ∧ SqL K H a (ns.map V.int) ∧ ns.length ≤ 63 ∧ ∀ p l H', PoolAt H' p l → Same H H' → Q (.ref p) H'
def t__law_begin (K : Frag) (w : World) : TS :=
  (tSeq (tAsg (tC (.int 7)) (gName 1))
  (tSeq (tFor (iList K (tSl (rSlL K) (tVar 0) tNoPart (tPart (tC (.int 40))))) (gName 2)
    (tAsg (tOp oMod (tOp oAdd (tOp oAdd (tOp oMul (tVar 1) (tC (.int 31))) (tOp oMod (tCB oInt1 (tCons (tVar 2) tNil)) (tC (.int 2147483647)))) (tC (.int 11))) (tC (.int 2147483647))) (gName 1)))
  (tRet (tLst (tCons (tLc (iList K (tVar 0)) (gName 2) tYes (tCB oAbs (tCons (tCB oInt1 (tCons (tVar 2) tNil)) tNil)) [2]) (tCons (tC (.int 0)) (tCons (tC (.int 0)) (tCons (tVar 1) (tCons (tC (.int 0)) tNil)))))))))
def n__law_begin : List Str := ["_law_script", "_law_seed", "_law_cell"]
theorem rd__law_begin (vs : List V) (H : Hp) (Q : VK) (E : XK) (h : sp__law_begin K vs H Q E) : t__law_begin K w { nx := fun _ H' => Q .non H', rt := Q } (L2.start n__law_begin vs) H := by
  obtain ⟨a, ns, rfl, ha, hl, q⟩ := h
  unfold t__law_begin n__law_begin
  walk_at "rsw"
  refine ⟨_, rfl, _, rfl, a, _, rfl, ha, fun p hp => ⟨p, rfl, ⟨_, SqL.of upd_same⟩, for_list (K := K) (a := p) (xs := cutV (ns.map V.int) none (some 40))
    (fun i σ H' => ∃ (s : Int) (v2 : Option V), σ = [some (.ref a), some (.int s), v2] ∧ Same (upd H p (.lst (cutV (ns.map V.int) none (some 40)))) H') ⟨_, none, rfl, Same.refl _⟩ (fun i σ H' _ ⟨_, _, _, z⟩ => SqL.of (z _ _ upd_same)) ?_ ?_⟩⟩
  · rintro i x σ H1 hx ⟨s, v2, rfl, s1⟩
    obtain ⟨c, rfl⟩ : ∃ c : Int, x = .int c := by
      have hm := List.mem_of_getElem? hx
      unfold cutV at hm
      obtain ⟨c, _, e⟩ := List.mem_map.mp (List.mem_of_mem_drop (List.mem_of_mem_take hm))
      exact ⟨c, e.symm⟩
    walk_at "rsw"
    exact ⟨.inr ⟨by decide, by decide⟩, by decide, by decide⟩
  · rintro σ H1 ⟨s, v2, rfl, s1⟩
    have s2 : Same H H1 := Same.trans (Same.new hp) s1
    refine ⟨_, rfl, a, rfl, ⟨_, Same.lst s2 ha⟩, fun D hD => lc_list (K := K) (a := a) (xs := ns.map V.int) (fun i H' => Same H1 H' ∧ H' D = some (.lst ((ns.take i).map fun n => V.int (if n < 0 then -n else n))))
      ⟨Same.new hD, by rw [upd_same]; rfl⟩ (fun i H' _ z => Same.lst z.1 (Same.lst s2 ha)) ?_ ?_⟩
    · rintro i x H2 hx ⟨s3, hD2⟩
      obtain ⟨c, hc, rfl⟩ : ∃ c, ns[i]? = some c ∧ x = V.int c := by
        rw [List.getElem?_map] at hx
        cases e : ns[i]? with
        | none => rw [e] at hx; cases hx
        | some c => rw [e] at hx; exact ⟨c, rfl, (Option.some.inj hx).symm⟩
      have hi : i < ns.length := (List.getElem?_eq_some_iff.mp hc).1
      refine ⟨rfl, ?_⟩
      simp only [tYes, if_true]
      refine ⟨_, rfl, .inl ⟨c, rfl, c, rfl, _, hD2, ?_, Same.updN s3 hD, ?_⟩⟩
      · have : sizeLine = 16777216 := rfl
        rw [List.length_map, List.length_take]
        omega
      · rw [updS, List.take_succ, hc, List.map_append]
        rfl
    · rintro H2 ⟨s3, hD2⟩
      refine ⟨_, rfl, (by show 5 ≤ sizeLine; decide), fun r hr => ?_⟩
      have hDr : D ≠ r := ne_of_none hD2 hr
      refine q r D _ ⟨fun e => hDr e.symm, ns.map fun n => if n < 0 then -n else n, 0, 0, s, 0, updS _ _ _, ?_, by decide⟩ ((s2.trans s3).trans (Same.new hr))
      rw [upd_ne hDr, hD2, List.length_map, List.take_length, List.map_map]
      rfl
theorem PoolAt.apart {p l r : Addr} {H : Hp} (h : PoolAt H p l) (hr : H r = none) : r ≠ p ∧ r ≠ l := by
  obtain ⟨n, cs, i1, i2, i3, i4, h1, h2, h3⟩ := h
  exact ⟨fun e => (ne_of_none h1 hr) e.symm, fun e => (ne_of_none h2 hr) e.symm⟩
theorem PoolAt.new {p l r : Addr} {H : Hp} {o : HO} (h : PoolAt H p l) (hr : H r = none) : PoolAt (upd H r o) p l := h.same (Same.new hr)
theorem SameP.step {p l : Addr} {H H1 H2 : Hp} (h : SameP p l H H1) (s : Same H1 H2) : SameP p l H H2 := fun b o n m e => s _ _ (h b o n m e)
theorem draw {H : Hp} {p l : Addr} {many : Int} {Q : VK} (h : PoolAt H p l) (hm : 0 < many) (hl : many.natAbs.log2 < 1920) (q : Drawn H p l many Q) : sp__law_draw K [.ref p, .int many] H Q E0 := ⟨p, l, many, rfl, h, hm, hl, q⟩
theorem log_small {x : Int} (h0 : 0 ≤ x) (h : x < 2 ^ 100) : x.natAbs.log2 < 1920 := by
  by_cases hz : x.natAbs = 0
  · rw [hz]; decide
  · have h2 : x.natAbs < 2 ^ 100 := by omega
    exact Nat.lt_trans ((Nat.log2_lt hz).mpr h2) (by decide)
theorem atV {xs : List V} {i : Int} (h0 : 0 ≤ i) (h : i < xs.length) : ∃ v, xs[i.toNat]? = some v ∧ atI xs i = some v := by
  have hi : i.toNat < xs.length := by omega
  refine ⟨xs[i.toNat], List.getElem?_eq_getElem hi, ?_⟩
  have := atI_nat (xs := xs) (j := i.toNat) (List.getElem?_eq_getElem hi)
  rwa [Int.toNat_of_nonneg h0] at this
theorem atInts {xs : List Int} {i : Int} (h0 : 0 ≤ i) (h : i < xs.length) : ∃ v, v ∈ xs ∧ atI (xs.map V.int) i = some (.int v) := by
  obtain ⟨v, h1, h2⟩ := atV (xs := xs.map V.int) h0 (by rw [List.length_map]; exact h)
  rw [List.getElem?_map] at h1
  cases e : xs[i.toNat]? with
  | none => rw [e] at h1; cases h1
  | some c => rw [e] at h1; obtain rfl := Option.some.inj h1; exact ⟨c, List.mem_of_getElem? e, h2⟩
end
end Tw
/-! Tw: drawn books, rows and wheels -/
namespace Tw
open PySem PySem.Spec PyProof.Rows L2 He TwM StX
open PySem.W (Frag)
local macro_rules | `(tactic| walk_at "rsx2") => `(tactic| simp only [*, at3_0, at3_1, at3_2, at2_0, at2_1, updS, upd_two, gSub, rSetL, updN, and_assoc, not_true_eq_false, not_false_eq_true, tNever, List.length_map, tFld, rIxTH, rIxLH, rLenTH, rLenLH, lk1, lfs_g, lfs_s, lfs_p, HO.ins.injEq, HO.tup.injEq, HO.lst.injEq, sp_Book_rounding, sp_Book_action, sp_Book_order, sp_Book_due, sp_Book_zero, sp_Book_beyond, Int.toNat_natCast, sp_visit_after, sp_is_visited, sp_Level_grain, sp_Level_slots, sp_Level_span, sp_Wheel_reach, sp_Wheel___len__, sp_is_integer, sp_is_count, sp_is_within, sp_rounded, tSeq, tAsg, gName, tVar, tC, tOp, rI, rI0, rU, tUn, oAdd, oSub, oMul, oDiv, oMod, oNeg, oLt, oLe, oGt, oGe, oIsN, oNotN, tFn, tCons, tNil, tIfS, tIf, tTest, tB, tNot, tAnd, tOr, tAndV, tOrV, tNotV,
    tRet, tRetN, tNext, tCB, tDrop, tChain, rEq, rNe, oMax2, oMin2, oInt1, rLenF, L2.start, List.map_cons, List.map_nil, List.length_cons, List.length_nil, List.replicate_succ, List.replicate_zero, List.cons_append, List.nil_append, Nat.reduceAdd, Nat.reduceSub, Nat.zero_add,
    List.set_cons_zero, List.set_cons_succ, List.getElem?_cons_zero, List.getElem?_cons_succ, Option.some.injEq, V.int.injEq, V.ref.injEq, V.str.injEq, V.bl.injEq, exists_eq_left', exists_eq_left, exists_and_left, List.cons.injEq, and_true, true_and, decide_eq_true_eq, sc_ii, sc_ss, sc_bb, sc_ni, sc_in, sc_nn, sc_is, reduceCtorEq,
    Bool.not_eq_true', decide_eq_false_iff_not, if_true, if_false, Bool.false_eq_true, exists_eq', exists_const, false_and, and_false, or_false, false_or, exists_false, Bool.not_not, Bool.not_true, Bool.not_false, sUp_up, sFire_fire, sHigh_high, sPut_put, sZone_now, sBey_refuse, sBey_cut, tTup, tLst, sz0, sz1, sz2, sz3, sz4, sz5, sz6])
section
variable {K : Frag} {w : World}
theorem pkUp {i : Int} {x : V} (h0 : 0 ≤ i) (h : i < 2) (e : atI [V.str "down", V.str "up"] i = some x) : ∃ b, x = .str (sUp b) := by
  rcases (show i = 0 ∨ i = 1 by omega) with rfl | rfl
  · exact ⟨false, (Option.some.inj e).symm⟩
  · exact ⟨true, (Option.some.inj e).symm⟩
theorem pkFire {i : Int} {x : V} (h0 : 0 ≤ i) (h : i < 3) (e : atI [V.str "move", V.str "fire", V.str "move"] i = some x) : ∃ b, x = .str (sFire b) := by
  rcases (show i = 0 ∨ i = 1 ∨ i = 2 by omega) with rfl | rfl | rfl
  · exact ⟨false, (Option.some.inj e).symm⟩
  · exact ⟨true, (Option.some.inj e).symm⟩
  · exact ⟨false, (Option.some.inj e).symm⟩
theorem pkHigh {i : Int} {x : V} (h0 : 0 ≤ i) (h : i < 2) (e : atI [V.str "high", V.str "low"] i = some x) : ∃ b, x = .str (sHigh b) := by
  rcases (show i = 0 ∨ i = 1 by omega) with rfl | rfl
  · exact ⟨true, (Option.some.inj e).symm⟩
  · exact ⟨false, (Option.some.inj e).symm⟩
theorem pkPut {i : Int} {x : V} (h0 : 0 ≤ i) (h : i < 2) (e : atI [V.str "now", V.str "put"] i = some x) : ∃ b, x = .str (sPut b) := by
  rcases (show i = 0 ∨ i = 1 by omega) with rfl | rfl
  · exact ⟨false, (Option.some.inj e).symm⟩
  · exact ⟨true, (Option.some.inj e).symm⟩
theorem pkZone {i : Int} {x : V} (h0 : 0 ≤ i) (h : i < 2) (e : atI [V.str "now", V.str "one"] i = some x) : ∃ b, x = .str (sZone b) := by
  rcases (show i = 0 ∨ i = 1 by omega) with rfl | rfl
  · exact ⟨false, (Option.some.inj e).symm⟩
  · exact ⟨true, (Option.some.inj e).symm⟩
theorem pkBey {i : Int} {x : V} (h0 : 0 ≤ i) (h : i < 3) (e : atI [V.str "refuse", V.str "last", V.str "cut"] i = some x) : ∃ n, n < 3 ∧ x = .str (sBey n) := by
  rcases (show i = 0 ∨ i = 1 ∨ i = 2 by omega) with rfl | rfl | rfl
  · exact ⟨0, by decide, (Option.some.inj e).symm⟩
  · exact ⟨1, by decide, (Option.some.inj e).symm⟩
  · exact ⟨2, by decide, (Option.some.inj e).symm⟩
theorem drawAt {H : Hp} {p l r : Addr} {n : Int} {xs : List V} {Q : VK} (hp : PoolAt H p l) (hr : H r = none) (hn : 0 < n) (hl : n.natAbs.log2 < 1920) (hx : n = xs.length)
    (q : ∀ i x H', SameP p l H H' → PoolAt H' p l → H' r = some (.lst xs) → 0 ≤ i → i < n → atI xs i = some x → Q x H') :
    sp__law_draw K [.ref p, .int n] (upd H r (.lst xs)) (fun y H2 => ∃ ys i, y = .int i ∧ H2 r = some (.lst ys) ∧ ∃ x, atI ys i = some x ∧ Q x H2) E0 := by
  have ap := hp.apart hr
  refine draw (hp.new hr) hn hl fun i H2 s1 hp1 h0 h1 => ?_
  have e := s1 r _ ap.1 ap.2 (updS _ _ _)
  obtain ⟨x, _, hx'⟩ := atV (xs := xs) h0 (by omega)
  exact ⟨xs, i, rfl, e, x, hx', q i x H2 (SameP.trans ((SameP.refl p l H).step (Same.new hr)) s1) hp1 e h0 h1 hx'⟩
def sp__law_draw_values (K : Frag) : Sp := fun vs H Q _ => ∃ (p l : Addr), vs = [.ref p] ∧ PoolAt H p l ∧
  ∀ (r : Addr) (B : Bk) (H' : Hp), SameP p l H H' → PoolAt H' p l → H r = none → H' r = some (.lst ((bws B).map V.str)) → B.bey < 3 → Q (.ref r) H'
def t__law_draw_values (K : Frag) (w : World) : TS :=
  (tSeq (tAsg (tLst (tCons (tOp rIxLH (tLst (tCons (tC (.str "down")) (tCons (tC (.str "up")) tNil))) (tFn (sp__law_draw K) E0 (tCons (tVar 0) (tCons (tC (.int 2)) tNil)))) (tCons (tOp rIxLH (tLst (tCons (tC (.str "move")) (tCons (tC (.str "fire")) (tCons (tC (.str "move")) tNil)))) (tFn (sp__law_draw K) E0 (tCons (tVar 0) (tCons (tC (.int 3)) tNil)))) tNil))) (gName 1))
  (tSeq (tAsg (tOp rCat (tVar 1) (tLst (tCons (tOp rIxLH (tLst (tCons (tC (.str "high")) (tCons (tC (.str "low")) tNil))) (tFn (sp__law_draw K) E0 (tCons (tVar 0) (tCons (tC (.int 2)) tNil)))) (tCons (tOp rIxLH (tLst (tCons (tC (.str "now")) (tCons (tC (.str "put")) tNil))) (tFn (sp__law_draw K) E0 (tCons (tVar 0) (tCons (tC (.int 2)) tNil)))) tNil)))) (gName 1))
  (tRet (tOp rCat (tVar 1) (tLst (tCons (tOp rIxLH (tLst (tCons (tC (.str "now")) (tCons (tC (.str "one")) tNil))) (tFn (sp__law_draw K) E0 (tCons (tVar 0) (tCons (tC (.int 2)) tNil)))) (tCons (tOp rIxLH (tLst (tCons (tC (.str "refuse")) (tCons (tC (.str "last")) (tCons (tC (.str "cut")) tNil)))) (tFn (sp__law_draw K) E0 (tCons (tVar 0) (tCons (tC (.int 3)) tNil)))) tNil)))))))
def n__law_draw_values : List Str := ["_law_pool", "_law_found"]
theorem rd__law_draw_values (vs : List V) (H : Hp) (Q : VK) (E : XK) (h : sp__law_draw_values K vs H Q E) : t__law_draw_values K w { nx := fun _ H' => Q .non H', rt := Q } (L2.start n__law_draw_values vs) H := by
  obtain ⟨p, l, rfl, hp, q⟩ := h
  unfold t__law_draw_values n__law_draw_values
  walk_at "rsx2"
  intro r1 hr1
  refine drawAt hp hr1 (by decide) (by decide) rfl fun i1 x1 H1 s1 hp1 _ a1 b1 c1 => ?_
  intro r2 hr2
  refine drawAt hp1 hr2 (by decide) (by decide) rfl fun i2 x2 H2 s2 hp2 _ a2 b2 c2 => ?_
  intro r3 hr3
  have hp3 := hp2.new (o := .lst [x1, x2]) hr3
  have ap3 := hp2.apart hr3
  intro r4 hr4
  refine drawAt hp3 hr4 (by decide) (by decide) rfl fun i4 x4 H4 s4 hp4 _ a4 b4 c4 => ?_
  intro r5 hr5
  refine drawAt hp4 hr5 (by decide) (by decide) rfl fun i5 x5 H5 s5 hp5 _ a5 b5 c5 => ?_
  intro r6 hr6
  have k3 := (s4.trans s5) r3 _ ap3.1 ap3.2 (updS _ _ _)
  have n36 : r3 ≠ r6 := ne_of_none k3 hr6
  refine ⟨r3, r6, _, _, rfl, rfl, by rw [upd_ne n36]; exact k3, updS _ _ _, (by show 2 + 2 ≤ sizeLine; decide), fun r7 hr7 => ?_⟩
  have hp6 := hp5.new (o := .lst [x4, x5]) hr6
  have ap7 := hp6.apart hr7
  have hp7 := hp6.new (o := .lst ([x1, x2] ++ [x4, x5])) hr7
  dsimp only
  intro r8 hr8
  refine drawAt hp7 hr8 (by decide) (by decide) rfl fun i8 x8 H8 s8 hp8 _ a8 b8 c8 => ?_
  intro r9 hr9
  refine drawAt hp8 hr9 (by decide) (by decide) rfl fun i9 x9 H9 s9 hp9 _ a9 b9 c9 => ?_
  intro r10 hr10
  have k7 := (s8.trans s9) r7 _ ap7.1 ap7.2 (updS _ _ _)
  have n710 : r7 ≠ r10 := ne_of_none k7 hr10
  refine ⟨r7, r10, _, _, rfl, rfl, by rw [upd_ne n710]; exact k7, updS _ _ _, (by show 4 + 2 ≤ sizeLine; decide), fun r11 hr11 => ?_⟩
  have hp10 := hp9.new (o := .lst [x8, x9]) hr10
  have ap11 := hp10.apart hr11
  obtain ⟨u, rfl⟩ := pkUp a1 b1 c1
  obtain ⟨f, rfl⟩ := pkFire a2 b2 c2
  obtain ⟨g, rfl⟩ := pkHigh a4 b4 c4
  obtain ⟨pu, rfl⟩ := pkPut a5 b5 c5
  obtain ⟨z, rfl⟩ := pkZone a8 b8 c8
  obtain ⟨n, hn, rfl⟩ := pkBey a9 b9 c9
  have t10 := (((((((s1.trans s2).step (Same.new hr3)).trans (s4.trans s5)).step (Same.new hr6)).step (Same.new hr7)).trans (s8.trans s9)).step (Same.new (o := .lst [.str (sZone z), .str (sBey n)]) hr10))
  have tt := t10.step (Same.new (o := .lst ([.str (sUp u), .str (sFire f)] ++ [.str (sHigh g), .str (sPut pu)] ++ [.str (sZone z), .str (sBey n)])) hr11)
  refine q r11 ⟨u, f, g, pu, z, n⟩ _ tt (hp10.new hr11) ?_ (updS _ _ _) hn
  cases e : H r11 with
  | none => rfl
  | some o => exact absurd (t10 r11 o ap11.1 ap11.2 e) (by rw [hr11]; exact fun z => by cases z)
def lvR (l : Lv) : List V := [.int l.g, .int l.s, .int l.p]
structure RowsAt (H : Hp) (r : Addr) (W : List Lv) : Prop where
  at_ : ∃ ts : List Addr, H r = some (.lst (ts.map V.ref)) ∧ ts.length = W.length ∧ ∀ i t, ts[i]? = some t → H t = some (.tup (lvR (lv W i)))
structure ROk (W : List Lv) : Prop where
  ok : WOk W
  sp : ∀ i, i < W.length → (lv W i).p ≤ 4 * (lv W i).s * (lv W i).g
end
end Tw
/-! Tw: made books, levels of delays, drawn rows -/
namespace Tw
open PySem PySem.Spec PyProof.Rows L2 He TwM StX
open PySem.W (Frag)
local macro_rules | `(tactic| walk_at "rsy2") => `(tactic| simp only [*, at3_0, at3_1, at3_2, at2_0, at2_1, updS, upd_two, gSub, rSetL, updN, and_assoc, not_true_eq_false, not_false_eq_true, tNever, List.length_map, tFld, rIxTH, rIxLH, rLenTH, rLenLH, lk1, lfs_g, lfs_s, lfs_p, HO.ins.injEq, HO.tup.injEq, HO.lst.injEq, sp_Book_rounding, sp_Book_action, sp_Book_order, sp_Book_due, sp_Book_zero, sp_Book_beyond, Int.toNat_natCast, sp_visit_after, sp_is_visited, sp_Level_grain, sp_Level_slots, sp_Level_span, sp_Wheel_reach, sp_Wheel___len__, sp_is_integer, sp_is_count, sp_is_within, sp_rounded, tSeq, tAsg, gName, tVar, tC, tOp, rI, rI0, rU, tUn, oAdd, oSub, oMul, oDiv, oMod, oNeg, oLt, oLe, oGt, oGe, oIsN, oNotN, tFn, tCons, tNil, tIfS, tIf, tTest, tB, tNot, tAnd, tOr, tAndV, tOrV, tNotV,
    tRet, tRetN, tNext, tCB, tDrop, tChain, rEq, rNe, oMax2, oMin2, oInt1, rLenF, L2.start, List.map_cons, List.map_nil, List.length_cons, List.length_nil, List.replicate_succ, List.replicate_zero, List.cons_append, List.nil_append, Nat.reduceAdd, Nat.reduceSub, Nat.zero_add,
    List.set_cons_zero, List.set_cons_succ, List.getElem?_cons_zero, List.getElem?_cons_succ, Option.some.injEq, V.int.injEq, V.ref.injEq, V.str.injEq, V.bl.injEq, exists_eq_left', exists_eq_left, exists_and_left, List.cons.injEq, and_true, true_and, decide_eq_true_eq, sc_ii, sc_ss, sc_bb, sc_ni, sc_in, sc_nn, sc_is, reduceCtorEq,
    Bool.not_eq_true', decide_eq_false_iff_not, if_true, if_false, Bool.false_eq_true, exists_eq', exists_const, false_and, and_false, or_false, false_or, exists_false, Bool.not_not, Bool.not_true, Bool.not_false, sUp_up, sFire_fire, sHigh_high, sPut_put, sZone_now, sBey_refuse, sBey_cut, tTup, tLst, sz0, sz1, sz2, sz3, sz4, sz5, sz6])
section
variable {K : Frag} {w : World}
theorem bws_sum (B : Bk) : ((bws B).map (·.length)).sum + (bws B).length * (" " : Str).length ≤ 16777216 := by
  have key : ∀ (u f hi p z : Bool), ((bws ⟨u, f, hi, p, z, B.bey⟩).map (·.length)).sum ≤ 24 + (sBey B.bey).length := by
    intro u f hi p z
    have h1 : ∀ u, (sUp u).length ≤ 4 := by decide +kernel
    have h2 : ∀ u, (sFire u).length ≤ 4 := by decide +kernel
    have h3 : ∀ u, (sHigh u).length ≤ 4 := by decide +kernel
    have h4 : ∀ u, (sPut u).length ≤ 4 := by decide +kernel
    have h5 : ∀ u, (sZone u).length ≤ 4 := by decide +kernel
    have := h1 u
    have := h2 f
    have := h3 hi
    have := h4 p
    have := h5 z
    show (sUp u).length + ((sFire f).length + ((sHigh hi).length + ((sPut p).length + ((sZone z).length + ((sBey B.bey).length + 0))))) ≤ _
    omega
  have h6 : (sBey B.bey).length ≤ 6 := by
    match B.bey with
    | 0 => decide +kernel
    | 1 => decide +kernel
    | n + 2 => show ("cut" : Str).length ≤ 6; decide +kernel
  have h7 : (bws B).length = 6 := rfl
  have h8 : (" " : Str).length = 1 := by decide +kernel
  have h9 := key B.up B.fire B.high B.put B.zone
  have h10 : (⟨B.up, B.fire, B.high, B.put, B.zone, B.bey⟩ : Bk) = B := rfl
  rw [h10] at h9
  rw [h7, h8]
  omega
def sp__law_made_book (K : Frag) : Sp := fun vs H Q _ => ∃ (r : Addr) (B : Bk), vs = [.ref r] ∧ H r = some (.lst ((bws B).map V.str)) ∧ B.bey < 3 ∧ ∀ a H', Same H H' → BkAt K H' a B → Q (.ref a) H'
def t__law_made_book (K : Frag) (w : World) : TS :=
  (tRet (ClX.tCMeth (ga K "Book") (sp_Book_from_text K) E0 (tC (.ref (ga K "Book"))) (tCons (tM1 (oJoin K) (tC (.str " ")) (tVar 0)) tNil)))
def n__law_made_book : List Str := ["_law_values"]
theorem rd__law_made_book (vs : List V) (H : Hp) (Q : VK) (E : XK) (h : sp__law_made_book K vs H Q E) : t__law_made_book K w { nx := fun _ H' => Q .non H', rt := Q } (L2.start n__law_made_book vs) H := by
  obtain ⟨r, B, rfl, hr, hb, q⟩ := h
  exact ⟨rfl, ⟨_, rfl⟩, _, rfl, _, r, bws B, rfl, rfl, .inl (SqL.of hr), bws_sum B, B, rfl, hb, q⟩
structure Grown (W : List Lv) (i : Nat) (g low : Int) : Prop where
  len : W.length = i
  z : i = 0 → g = 1 ∧ low = 1
  p : 0 < i → ROk W ∧ g = (lv W (i - 1)).g ∧ low = (lv W (i - 1)).p ∧ g ≤ 200
theorem RowsAt.sameP {p l r : Addr} {H H1 : Hp} {W : List Lv} (hp : PoolAt H p l) (e : RowsAt H r W) (s : SameP p l H H1) (h1 : r ≠ p) (h2 : r ≠ l) : RowsAt H1 r W := by
  obtain ⟨ts, a, b, c⟩ := e
  exact ⟨ts, s _ _ h1 h2 a, b, fun i t q => hp.tup s (c i t q)⟩
theorem RowsAt.same {r : Addr} {H H1 : Hp} {W : List Lv} (e : RowsAt H r W) (s : Same H H1) : RowsAt H1 r W := by
  obtain ⟨ts, a, b, c⟩ := e
  exact ⟨ts, s _ _ a, b, fun i t q => s _ _ (c i t q)⟩
end
end Tw
/-! Tw: small words for the laws' bodies -/
namespace Tw
open PySem PySem.Spec PyProof.Rows L2 He TwM StX
open PySem.W (Frag)
theorem gName1 (i : Nat) (v : V) (σ : L2.St) (H : Hp) (Q : L2.St → Hp → Prop) : gName i v σ H Q = Q (σ.set i (some v)) H := rfl
theorem seq1 (a b : TS) (D : Ends) (σ : L2.St) (H : Hp) : tSeq a b D σ H = a { D with nx := b D } σ H := rfl
theorem ROk.small {W : List Lv} (h : ROk W) {i : Nat} (hi : i < W.length) : (lv W i).p ≤ 400000 := by
  have h1 := h.ok.all i hi
  have h2 := h.sp i hi
  have h3 : 4 * (lv W i).s * (lv W i).g ≤ 400 * 1000 := Int.mul_le_mul (by omega) (by omega) (by omega) (by omega)
  omega
end Tw
/-! Tw: spots as data -/
namespace Tw
open PySem PySem.Spec PyProof.Rows L2 He TwM
open PySem.W (Frag)
section
variable {K : Frag} {H : Hp}
def dSp : Option Spot → PyData
  | none => .none
  | some sp => .tuple [.int sp.lv, .int sp.pt, .int sp.due]
theorem OSp.dp {v : V} {o : Option Spot} (h : OSp H v o) : Dp K H v (dSp o) := by
  cases o with
  | none =>
    have e : v = .non := h
    subst e
    exact .non
  | some sp =>
    obtain ⟨p, rfl, hp⟩ := h
    exact .tup (SqT.of hp) (.cons (.int _) (.cons (.int _) (.cons (.int _) .nil)))
theorem OSps.dp : ∀ {xs : List V} {os : List (Option Spot)}, OSps H xs os → DpAll K H xs (os.map dSp)
  | [], [], _ => .nil
  | [], _ :: _, h => by have := h.1; simp at this
  | _ :: _, [], h => by have := h.1; simp at this
  | x :: xs, o :: os, h => .cons (h.2 0 x o rfl rfl).dp (OSps.dp (xs := xs) (os := os) ⟨by have := h.1; simpa using this, fun i v q e1 e2 => h.2 (i + 1) v q (by simpa using e1) (by simpa using e2)⟩)
end
def passM (W : List Lv) (B : Bk) (sp : Spot) (before now : Int) (mode : Str) : Option Spot :=
  if mode = "each" then
    match fol W B (some now) (mu sp before) sp before 0 with
    | some r => r.1
    | none => none
  else
    match (visited W B sp (if mode = "last" then now - 1 else before) now).getLast? with
    | none => some sp
    | some o => o
end Tw
/-! Tw: whole starts later by grains -/
namespace Tw
open TwM
theorem levelIx_lt {W : List Lv} (ok : WOk W) (d : Int) : TwM.levelIx W d < W.length := by
  have hp := ok.pos
  unfold TwM.levelIx
  cases h : levelOf W d with
  | none => show W.length - 1 < W.length; omega
  | some i => exact (levelOf_lt h).1
theorem levelIx_mono {W : List Lv} (ok : WOk W) {d d' : Int} (h : d ≤ d') : TwM.levelIx W d ≤ TwM.levelIx W d' := by
  have h1 := levelIx_lt ok d
  unfold TwM.levelIx at h1 ⊢
  cases e' : levelOf W d' with
  | none => rw [show (none : Option Nat).getD (W.length - 1) = W.length - 1 from rfl]; omega
  | some i =>
    obtain ⟨a1, a2⟩ := levelOf_lt e'
    cases e : levelOf W d with
    | none => have := levelOf_none e i a1; omega
    | some j =>
      show j ≤ i
      rcases Nat.lt_or_ge i j with hj | hj
      · have := levelOf_ge e i hj; omega
      · exact hj
theorem spotAt_lv (W : List Lv) (B : Bk) (now rest due : Int) : (spotAt W B now rest due).lv = TwM.levelIx W rest := by
  unfold spotAt TwM.levelIx
  split <;> rename_i h <;> rw [h] <;> rfl
def Dv (W : List Lv) (k : Nat) (D : Int) : Prop := ∀ j, j ≤ k → (lv W j).g ∣ D
def sh (W : List Lv) (D : Int) (sp : Spot) : Spot := ⟨sp.lv, sp.pt + D / (lv W sp.lv).g, sp.due + D⟩
theorem rnd_shift {up : Bool} {t g m : Int} (hg : 0 < g) : rnd up (t + g * m) g = rnd up t g + m := by
  unfold rnd
  split
  · rw [show -(t + g * m) = -t + g * (-m) by rw [Int.mul_neg]; omega, Int.add_mul_ediv_left _ _ (by omega)]; omega
  · rw [Int.add_mul_ediv_left _ _ (by omega)]
theorem rnd_shiftD {up : Bool} {t g D : Int} (hg : 0 < g) (hd : g ∣ D) : rnd up (t + D) g = rnd up t g + D / g := by
  obtain ⟨m, rfl⟩ := hd
  rw [rnd_shift hg, Int.mul_ediv_cancel_left _ (by omega)]
theorem div_shift {t g D : Int} (hg : 0 < g) (hd : g ∣ D) : (t + D) / g = t / g + D / g := by
  obtain ⟨m, rfl⟩ := hd
  rw [Int.add_mul_ediv_left _ _ (by omega), Int.mul_ediv_cancel_left _ (by omega)]
theorem va_shift {l : Lv} {pt now D : Int} (hg : 0 < l.g) (hd : l.g ∣ D) : va l (pt + D / l.g) (now + D) = va l pt now + D := by
  unfold va
  rw [div_shift hg hd]
  have e : pt + D / l.g - (now / l.g + D / l.g) - 1 = pt - now / l.g - 1 := by omega
  rw [e]
  have e2 : now / l.g + D / l.g + 1 + (pt - now / l.g - 1) % l.s = (now / l.g + 1 + (pt - now / l.g - 1) % l.s) + D / l.g := by omega
  rw [e2, Int.add_mul, Int.ediv_mul_cancel hd]
theorem isVis_shift {l : Lv} {pt b now D : Int} (hg : 0 < l.g) (hd : l.g ∣ D) : isVis l (pt + D / l.g) (b + D) (now + D) = isVis l pt b now := by
  unfold isVis
  rw [div_shift hg hd, div_shift hg hd]
  have e : pt + D / l.g - (b / l.g + D / l.g) - 1 = pt - b / l.g - 1 := by omega
  have e2 : now / l.g + D / l.g - (b / l.g + D / l.g) = now / l.g - b / l.g := by omega
  rw [e, e2]
section
variable {W : List Lv} {B : Bk} {k : Nat} {D : Int}
theorem spotAt_shift (ok : WOk W) (hD : Dv W k D) {now rest due : Int} (hr : TwM.levelIx W rest ≤ k) : spotAt W B (now + D) rest (due + D) = sh W D (spotAt W B now rest due) := by
  have hp := ok.pos
  unfold TwM.levelIx at hr
  unfold spotAt sh
  cases e : levelOf W rest with
  | none =>
    rw [e] at hr
    have hr' : W.length - 1 ≤ k := hr
    have hg := (ok.all (W.length - 1) (by omega)).1
    dsimp only
    rw [show now + D + reach W - 1 = (now + reach W - 1) + D by omega, rnd_shiftD (by omega) (hD _ hr')]
  | some i =>
    rw [e] at hr
    have hr' : i ≤ k := hr
    have hg := (ok.all i (levelOf_lt e).1).1
    dsimp only
    rw [show now + D + rest = (now + rest) + D by omega, rnd_shiftD (by omega) (hD _ hr')]
theorem taken_shift (ok : WOk W) (hD : Dv W k D) {sp : Spot} {tick : Int} (hr : TwM.levelIx W (sp.due - tick) ≤ k) : taken W B (sh W D sp) (tick + D) = (taken W B sp tick).map (sh W D) := by
  unfold taken
  have e1 : (sh W D sp).lv = sp.lv := rfl
  have e2 : (sh W D sp).due = sp.due + D := rfl
  rw [e1, e2]
  split
  · rfl
  · by_cases h : tick < sp.due
    · rw [if_pos (by omega), if_pos h, show sp.due + D - (tick + D) = sp.due - tick by omega, spotAt_shift ok hD hr]
      rfl
    · rw [if_neg (by omega), if_neg h]
      split
      · show some _ = some _
        unfold sh
        dsimp only
        rw [ok.first, Int.ediv_one]
      · rfl
theorem visGo_shift (ok : WOk W) (hD : Dv W k D) {before now : Int} : ∀ (is : List Nat) {sp : Spot}, sp.lv ≤ k → sp.lv < W.length → TwM.levelIx W (sp.due - now) ≤ k → visGo W B (before + D) (now + D) is (sh W D sp) = (visGo W B before now is sp).map (Option.map (sh W D))
  | [], sp, _, _, _ => rfl
  | i :: is, sp, hk, hl, hr => by
    have hg := (ok.all sp.lv hl).1
    unfold visGo
    have e1 : (sh W D sp).lv = sp.lv := rfl
    have e3 : (sh W D sp).pt = sp.pt + D / (lv W sp.lv).g := rfl
    rw [e1, e3]
    by_cases hc : sp.lv = i ∧ isVis (lv W i) sp.pt before now = true
    · have hc' : sp.lv = i ∧ isVis (lv W i) (sp.pt + D / (lv W sp.lv).g) (before + D) (now + D) = true := ⟨hc.1, by rw [← hc.1, isVis_shift (by omega) (hD _ hk), hc.1]; exact hc.2⟩
      rw [if_pos hc, if_pos hc', taken_shift ok hD hr]
      cases e : taken W B sp now with
      | none => rfl
      | some s' =>
        obtain ⟨a1, a2, a3, a4, a5⟩ := taken_some ok e
        have hk' : s'.lv ≤ k := by
          rcases a5 with ⟨b1, b2⟩ | ⟨b1, b2, b3⟩
          · rw [b2, spotAt_lv]; exact hr
          · rw [b3]; exact Nat.zero_le _
        have ih := visGo_shift ok hD (before := before) (now := now) is (sp := s') hk' a1 (by rw [a2]; exact hr)
        show some (sh W D s') :: visGo W B (before + D) (now + D) is (sh W D s') = _
        rw [ih]
        rfl
    · have hc' : ¬ (sp.lv = i ∧ isVis (lv W i) (sp.pt + D / (lv W sp.lv).g) (before + D) (now + D) = true) := fun z => hc ⟨z.1, by
        have := z.2
        rw [← z.1, isVis_shift (by omega) (hD _ hk), z.1] at this
        exact this⟩
      rw [if_neg hc, if_neg hc']
      exact visGo_shift ok hD is hk hl hr
theorem visited_shift (ok : WOk W) (hD : Dv W k D) {before now : Int} {sp : Spot} (hk : sp.lv ≤ k) (hl : sp.lv < W.length) (hr : TwM.levelIx W (sp.due - now) ≤ k) : visited W B (sh W D sp) (before + D) (now + D) = (visited W B sp before now).map (Option.map (sh W D)) :=
  visGo_shift ok hD _ hk hl hr
theorem skipped_shift (ok : WOk W) (hD : Dv W k D) {tick : Int} {sp : Spot} (hk : sp.lv ≤ k) (hl : sp.lv < W.length) : skipped W (sh W D sp) (tick + D) none = skipped W sp tick none := by
  have hg := (ok.all sp.lv hl).1
  have e1 : (sh W D sp).lv = sp.lv := rfl
  have e2 : (sh W D sp).due = sp.due + D := rfl
  have e3 : (sh W D sp).pt = sp.pt + D / (lv W sp.lv).g := rfl
  unfold skipped
  rw [e1, e2, e3, va_shift (by omega) (hD _ hk), show sp.due + D - (tick + D) = sp.due - tick by omega, show va (lv W sp.lv) sp.pt tick + D - (tick + D) = va (lv W sp.lv) sp.pt tick - tick by omega]
def shR (W : List Lv) (D : Int) (r : Res) : Res := (r.1.map (sh W D), r.2.1 + D, r.2.2)
theorem fol_shift (ok : WOk W) (hD : Dv W k D) : ∀ (n : Nat) {sp : Spot} {tick mv : Int}, sp.lv ≤ k → sp.lv < W.length → TwM.levelIx W (sp.due - tick) ≤ k → fol W B none n (sh W D sp) (tick + D) mv = (fol W B none n sp tick mv).map (shR W D)
  | 0, sp, tick, mv, _, _, _ => rfl
  | n + 1, sp, tick, mv, hk, hl, hr => by
    have hall := ok.all sp.lv hl
    have hgt := va_gt (l := lv W sp.lv) (by omega) (by omega) sp.pt tick
    have e1 : (sh W D sp).lv = sp.lv := rfl
    have e3 : (sh W D sp).pt = sp.pt + D / (lv W sp.lv).g := rfl
    unfold fol
    rw [e1, e3, va_shift (by omega) (hD _ hk)]
    generalize ht : va (lv W sp.lv) sp.pt tick = t at hgt ⊢
    have hr' : TwM.levelIx W (sp.due - t) ≤ k := Nat.le_trans (levelIx_mono ok (by omega)) hr
    dsimp only
    rw [show over none (t + D) = false from rfl, show over none t = false from rfl, if_neg Bool.false_ne_true, if_neg Bool.false_ne_true]
    rw [show t + D - 1 = (t - 1) + D by omega, visited_shift ok hD hk hl hr', List.getLast?_map, List.length_map]
    cases e : (visited W B sp (t - 1) t).getLast? with
    | none => rfl
    | some o =>
      cases o with
      | none => rfl
      | some s' =>
        obtain ⟨c1, c2, c3, c4⟩ := visGo_last ok _ e
        have hk' : s'.lv ≤ k := by
          rcases c4 with ⟨b1, b2⟩ | ⟨b1, b2⟩
          · rw [b2, spotAt_lv]; exact hr'
          · rw [b2]; exact Nat.zero_le _
        show (if 0 < (skipped W (sh W D s') (t + D) none).1 then _ else _) = _
        rw [skipped_shift ok hD hk' c1]
        dsimp only [Option.map]
        by_cases h0 : 0 < (skipped W s' t none).1
        · rw [if_pos h0, if_pos h0]
          have hk2 : 0 < (skipped W s' t none).2 := by
            obtain ⟨_, _, k3, _⟩ := skipped_pos h0
            have hall' := ok.all _ c1
            have := va_gt (l := lv W s'.lv) (by omega) (by omega) s'.pt t
            rw [k3]; omega
          have hpos : 0 < (skipped W s' t none).1 * (skipped W s' t none).2 := Int.mul_pos h0 hk2
          generalize (skipped W s' t none).1 * (skipped W s' t none).2 = j at hpos ⊢
          have hr2 : TwM.levelIx W (s'.due - (t + j)) ≤ k := Nat.le_trans (levelIx_mono ok (by rw [c2]; omega)) hr'
          have e4 : (sh W D s').due = s'.due + D := rfl
          rw [e4, show t + D + j = (t + j) + D by omega, show s'.due + D - (t + j + D) = s'.due - (t + j) by omega, spotAt_shift ok hD hr2]
          exact fol_shift ok hD n (by rw [spotAt_lv]; exact hr2) (spotAt_lt ok _ _ _ _) (by rw [spotAt_due]; exact hr2)
        · rw [if_neg h0, if_neg h0]
          exact fol_shift ok hD n hk' c1 (by rw [c2]; exact hr')
theorem dvd_le (ok : WOk W) : ∀ (n j : Nat), j + n < W.length → (lv W j).g ∣ (lv W (j + n)).g
  | 0, j, _ => Int.dvd_refl _
  | n + 1, j, h => Int.dvd_trans (dvd_le ok n j (by omega)) (ok.dv (j + n) (by omega))
theorem dv_of (ok : WOk W) (hk : k < W.length) (m : Int) : Dv W k ((lv W k).g * m) := fun j hj => by
  have := dvd_le ok (k - j) j (by omega)
  rw [show j + (k - j) = k by omega] at this
  exact Int.dvd_trans this (Int.dvd_mul_right _ _)
theorem asc_le (ok : WOk W) : ∀ (n j : Nat), j + n + 1 < W.length → (lv W j).p < (lv W (j + n + 1)).p
  | 0, j, h => ok.asc j h
  | n + 1, j, h => Int.lt_trans (asc_le ok n j (by omega)) (ok.asc (j + n + 1) (by omega))
theorem place_form (ok : WOk W) (hb3 : B.bey < 3) {delay : Int} (hd : 1 ≤ delay) (hb : reach W ≤ delay → B.bey ≠ 0) :
    ∃ r, 1 ≤ r ∧ TwM.levelIx W r = TwM.levelIx W delay ∧ ∀ now, placeM W B now delay = some (spotAt W B now r (now + r)) := by
  have hp := ok.pos
  have hre : 2 ≤ reach W := (ok.all (W.length - 1) (by omega)).2.2.2.2
  have e0 : (if 1 > delay then 1 else delay) = delay := by split <;> omega
  by_cases hc : reach W ≤ delay ∧ B.bey = 2
  · refine ⟨reach W - 1, by omega, ?_, fun now => ?_⟩
    · have e1 : levelOf W delay = none := levelOf_isN fun j hj => by
        rcases Nat.lt_or_ge (j + 1) W.length with h | h
        · have := asc_le ok (W.length - 1 - j - 1) j (by omega)
          rw [show j + (W.length - 1 - j - 1) + 1 = W.length - 1 by omega] at this
          have : (lv W j).p < reach W := this
          omega
        · rw [show j = W.length - 1 by omega]
          exact hc.1
      have e2 : TwM.levelIx W delay = W.length - 1 := by unfold TwM.levelIx; rw [e1]; rfl
      rw [e2]
      unfold TwM.levelIx
      cases e : levelOf W (reach W - 1) with
      | none => rfl
      | some i =>
        show i = W.length - 1
        obtain ⟨a1, a2⟩ := levelOf_lt e
        rcases Nat.lt_or_ge i (W.length - 1) with h | h
        · have := asc_le ok (W.length - 1 - i - 1) i (by omega)
          rw [show i + (W.length - 1 - i - 1) + 1 = W.length - 1 by omega] at this
          have : (lv W i).p < reach W := this
          omega
        · omega
    · unfold placeM
      rw [if_neg (fun z => by have := z.1; omega)]
      dsimp only
      rw [e0, if_pos hc]
  · refine ⟨delay, hd, rfl, fun now => ?_⟩
    unfold placeM
    rw [if_neg (fun z => by have := z.1; omega)]
    dsimp only
    rw [e0, if_neg hc]
theorem later (ok : WOk W) (hb3 : B.bey < 3) {delay : Int} (hd : 1 ≤ delay) (hb : reach W ≤ delay → B.bey ≠ 0) (start m : Int) :
    ∃ s1 s2, placeM W B start delay = some s1 ∧ placeM W B (start + (lv W (TwM.levelIx W delay)).g * m) delay = some s2 ∧ s1.lv = s2.lv ∧ s2.pt - s1.pt = m ∧ s2.due - s1.due = (lv W (TwM.levelIx W delay)).g * m ∧
      (fin W B (start + (lv W (TwM.levelIx W delay)).g * m) delay).1 = (fin W B start delay).1 + (lv W (TwM.levelIx W delay)).g * m ∧ (fin W B (start + (lv W (TwM.levelIx W delay)).g * m) delay).2 = (fin W B start delay).2 := by
  obtain ⟨r, hr1, hr2, hpl⟩ := place_form ok hb3 hd hb
  have hk := levelIx_lt ok delay
  generalize hkk : TwM.levelIx W delay = k at hk hr2 ⊢
  have hg := (ok.all k hk).1
  have hD := dv_of ok hk m
  have hsh := spotAt_shift (B := B) (now := start) (rest := r) (due := start + r) ok hD (Nat.le_of_eq hr2)
  have hlv : (spotAt W B start r (start + r)).lv = k := by rw [spotAt_lv]; exact hr2
  have e1 := hpl start
  have e2 : placeM W B (start + (lv W k).g * m) delay = some (sh W ((lv W k).g * m) (spotAt W B start r (start + r))) := by
    rw [hpl, ← hsh, show start + (lv W k).g * m + r = start + r + (lv W k).g * m by omega]
  have hl : (spotAt W B start r (start + r)).lv < W.length := by rw [hlv]; exact hk
  obtain ⟨q, hq⟩ := fol_ends ok B none (mu (spotAt W B start r (start + r)) start) _ start 0 hl (Nat.le_refl _)
  have hq2 := fol_shift (B := B) ok hD (mu (spotAt W B start r (start + r)) start) (sp := spotAt W B start r (start + r)) (tick := start) (mv := 0) (by omega) hl (by rw [spotAt_due, show start + r - start = r by omega]; exact Nat.le_of_eq hr2)
  rw [hq] at hq2
  have f1 := fin_some e1 ok hl hq
  have f2 := fin_some e2 ok (by show (spotAt W B start r (start + r)).lv < W.length; exact hl) hq2
  refine ⟨_, _, e1, e2, rfl, ?_, ?_, ?_, ?_⟩
  · show (spotAt W B start r (start + r)).pt + (lv W k).g * m / (lv W (spotAt W B start r (start + r)).lv).g - (spotAt W B start r (start + r)).pt = m
    rw [hlv, Int.mul_ediv_cancel_left _ (by omega)]
    omega
  · show (spotAt W B start r (start + r)).due + (lv W k).g * m - (spotAt W B start r (start + r)).due = (lv W k).g * m
    omega
  · rw [f1, f2]; rfl
  · rw [f1, f2]; rfl
end
end Tw
/-! Tw: common divisors, inverses, first hits -/
namespace Tw
open TwM
def IsG (a b g : Int) : Prop := 0 < g ∧ ∀ d, (d ∣ a ∧ d ∣ b) ↔ d ∣ g
theorem IsG.eq {a b g g' : Int} (h : IsG a b g) (h' : IsG a b g') : g = g' := by
  have h1 : g ∣ g' := (h'.2 g).mp ((h.2 g).mpr (Int.dvd_refl g))
  have h2 : g' ∣ g := (h.2 g').mp ((h'.2 g').mpr (Int.dvd_refl g'))
  exact Int.dvd_antisymm (Int.le_of_lt h.1) (Int.le_of_lt h'.1) h1 h2
theorem IsG.right {a b g : Int} (h : IsG a b g) : g ∣ b := ((h.2 g).mpr (Int.dvd_refl g)).2
def FH (base length goal modulus : Int) (o : Option Int) : Prop := ∃ g, IsG length modulus g ∧ match o with
  | none => ¬ g ∣ goal - base
  | some k => 1 ≤ k ∧ k ≤ modulus / g ∧ modulus ∣ base + k * length - goal
theorem visGo_fire {W : List Lv} {B : Bk} (hf : B.fire = true) {before now : Int} : ∀ (is : List Nat) {sp : Spot}, sp.lv ∈ is → isVis (lv W sp.lv) sp.pt before now = true → visGo W B before now is sp = [none]
  | [], sp, h, _ => by simp at h
  | i :: is, sp, h, hv => by
    unfold visGo
    by_cases e : sp.lv = i
    · have et : taken W B sp now = none := by unfold taken; rw [if_pos (.inr hf)]
      rw [if_pos ⟨e, by rw [← e]; exact hv⟩, et]
    · rw [if_neg (fun z => e z.1)]
      exact visGo_fire hf is (by rcases List.mem_cons.mp h with q | q; exact absurd q e; exact q) hv
end Tw
/-! Tw: readings of common divisors, inverses, first hits, beats -/
namespace Tw
open PySem PySem.Spec PyProof.Rows L2 He TwM StX
open PySem.W (Frag)
local macro_rules | `(tactic| walk_at "rsg") => `(tactic| simp only [*, at3_0, at3_1, at3_2, at2_0, at2_1, updS, upd_two, gSub, rSetL, updN, and_assoc, not_true_eq_false, not_false_eq_true, tNever, List.length_map, tFld, rIxTH, rIxLH, rLenTH, rLenLH, lk1, lfs_g, lfs_s, lfs_p, HO.ins.injEq, HO.tup.injEq, HO.lst.injEq, sp_Book_rounding, sp_Book_action, sp_Book_order, sp_Book_due, sp_Book_zero, sp_Book_beyond, Int.toNat_natCast, sp_visit_after, sp_is_visited, sp_Level_grain, sp_Level_slots, sp_Level_span, sp_Wheel_reach, sp_Wheel___len__, sp_is_integer, sp_is_count, sp_is_within, sp_rounded, tSeq, tAsg, gName, tVar, tC, tOp, rI, rI0, rU, tUn, oAdd, oSub, oMul, oDiv, oMod, oNeg, oLt, oLe, oGt, oGe, oIsN, oNotN, tFn, tCons, tNil, tIfS, tIf, tTest, tB, tNot, tAnd, tOr, tAndV, tOrV, tNotV,
    tRet, tRetN, tNext, tCB, tDrop, tChain, rEq, rNe, oMax2, oMin2, oInt1, rLenF, L2.start, List.map_cons, List.map_nil, List.length_cons, List.length_nil, List.replicate_succ, List.replicate_zero, List.cons_append, List.nil_append, Nat.reduceAdd, Nat.reduceSub, Nat.zero_add,
    List.set_cons_zero, List.set_cons_succ, List.getElem?_cons_zero, List.getElem?_cons_succ, Option.some.injEq, V.int.injEq, V.ref.injEq, V.str.injEq, V.bl.injEq, exists_eq_left', exists_eq_left, exists_and_left, List.cons.injEq, and_true, true_and, decide_eq_true_eq, sc_ii, sc_ss, sc_bb, sc_ni, sc_in, sc_nn, sc_is, reduceCtorEq,
    Bool.not_eq_true', decide_eq_false_iff_not, if_true, if_false, Bool.false_eq_true, exists_eq', exists_const, false_and, and_false, or_false, false_or, exists_false, Bool.not_not, Bool.not_true, Bool.not_false, sUp_up, sFire_fire, sHigh_high, sPut_put, sZone_now, sBey_refuse, sBey_cut, tTup, tLst, sz0, sz1, sz2, sz3, sz4, sz5, sz6])
section
variable {K : Frag} {w : World}
structure Kg (K : Frag) : Prop where
  md : ∀ H, SqT K H (ga K "MODES") [.str "each", .str "last", .str "slots"]
end
end Tw
/-! Tw: drawn rows with bounds -/
namespace Tw
open PySem PySem.Spec PyProof.Rows L2 He TwM StX
open PySem.W (Frag)
local macro_rules | `(tactic| walk_at "rsl2") => `(tactic| simp only [*, at3_0, at3_1, at3_2, at2_0, at2_1, updS, upd_two, gSub, rSetL, updN, and_assoc, not_true_eq_false, not_false_eq_true, tNever, List.length_map, tFld, rIxTH, rIxLH, rLenTH, rLenLH, lk1, lfs_g, lfs_s, lfs_p, HO.ins.injEq, HO.tup.injEq, HO.lst.injEq, sp_Book_rounding, sp_Book_action, sp_Book_order, sp_Book_due, sp_Book_zero, sp_Book_beyond, Int.toNat_natCast, sp_visit_after, sp_is_visited, sp_Level_grain, sp_Level_slots, sp_Level_span, sp_Wheel_reach, sp_Wheel___len__, sp_is_integer, sp_is_count, sp_is_within, sp_rounded, tSeq, tAsg, gName, tVar, tC, tOp, rI, rI0, rU, tUn, oAdd, oSub, oMul, oDiv, oMod, oNeg, oLt, oLe, oGt, oGe, oIsN, oNotN, tFn, tCons, tNil, tIfS, tIf, tTest, tB, tNot, tAnd, tOr, tAndV, tOrV, tNotV,
    tRet, tRetN, tNext, tCB, tDrop, tChain, rEq, rNe, oMax2, oMin2, oInt1, rLenF, L2.start, List.map_cons, List.map_nil, List.length_cons, List.length_nil, List.replicate_succ, List.replicate_zero, List.cons_append, List.nil_append, Nat.reduceAdd, Nat.reduceSub, Nat.zero_add,
    List.set_cons_zero, List.set_cons_succ, List.getElem?_cons_zero, List.getElem?_cons_succ, Option.some.injEq, V.int.injEq, V.ref.injEq, V.str.injEq, V.bl.injEq, exists_eq_left', exists_eq_left, exists_and_left, List.cons.injEq, and_true, true_and, decide_eq_true_eq, sc_ii, sc_ss, sc_bb, sc_ni, sc_in, sc_nn, sc_is, reduceCtorEq,
    Bool.not_eq_true', decide_eq_false_iff_not, if_true, if_false, Bool.false_eq_true, exists_eq', exists_const, false_and, and_false, or_false, false_or, exists_false, Bool.not_not, Bool.not_true, Bool.not_false, sUp_up, sFire_fire, sHigh_high, sPut_put, sZone_now, sBey_refuse, sBey_cut, tTup, tLst, sz0, sz1, sz2, sz3, sz4, sz5, sz6])
section
variable {K : Frag} {w : World}
end
end Tw
/-! Tw: walks from visit to visit; lumps of one length -/
namespace Tw
open TwM
section
variable {W : List Lv} {B : Bk}
inductive Walks (W : List Lv) (B : Bk) : Spot → Int → Int → Prop
  | fired {sp : Spot} {tick : Int} : (visited W B sp (va (lv W sp.lv) sp.pt tick - 1) (va (lv W sp.lv) sp.pt tick)).getLast? = some none → Walks W B sp tick (va (lv W sp.lv) sp.pt tick)
  | on {sp sp' : Spot} {tick T : Int} : (visited W B sp (va (lv W sp.lv) sp.pt tick - 1) (va (lv W sp.lv) sp.pt tick)).getLast? = some (some sp') → Walks W B sp' (va (lv W sp.lv) sp.pt tick) T → Walks W B sp tick T
theorem Walks.eq {sp : Spot} {tick T T' : Int} (h : Walks W B sp tick T) (h' : Walks W B sp tick T') : T = T' := by
  induction h with
  | fired e =>
    cases h' with
    | fired _ => rfl
    | on e' _ => rw [e] at e'; cases e'
  | on e _ ih =>
    cases h' with
    | fired e' => rw [e] at e'; cases e'
    | on e' q => rw [e] at e'; cases e'; exact ih q
theorem skipped_no {sp : Spot} {tick : Int} {lim : Option Int} (h : sp.due - tick < reach W) : skipped W sp tick lim = (0, 0) := by
  unfold skipped
  rw [if_pos (.inr h)]
theorem fol_walks (ok : WOk W) : ∀ (n : Nat) {sp : Spot} {tick mv : Int} {r : Res}, fol W B none n sp tick mv = some r → sp.due - tick ≤ reach W → sp.lv < W.length → Walks W B sp tick r.2.1
  | 0, _, _, _, _, h, _, _ => by cases h
  | n + 1, sp, tick, mv, r, h, hr, hl => by
    have hall := ok.all _ hl
    have hgt := va_gt (l := lv W sp.lv) (by omega) (by omega) sp.pt tick
    unfold fol at h
    dsimp only at h
    rw [if_neg (by unfold over; exact Bool.false_ne_true)] at h
    cases hq : (visited W B sp (va (lv W sp.lv) sp.pt tick - 1) (va (lv W sp.lv) sp.pt tick)).getLast? with
    | none => rw [hq] at h; cases h
    | some o =>
      rw [hq] at h
      cases o with
      | none => cases h; exact .fired hq
      | some sp' =>
        dsimp only at h
        obtain ⟨c1, c2, c3, c4⟩ := visGo_last ok _ hq
        rw [skipped_no (by rw [c2]; omega), if_neg (by decide)] at h
        exact .on hq (fol_walks ok n h (by rw [c2]; omega) c1)
theorem va_most {l : Lv} (hg : 0 < l.g) (hs : 0 < l.s) (pt now : Int) : va l pt now ≤ now + l.s * l.g := by
  unfold va
  have h1 := Int.emod_lt_of_pos (pt - now / l.g - 1) hs
  have h2 : (now / l.g + 1 + (pt - now / l.g - 1) % l.s) * l.g ≤ (now / l.g + l.s) * l.g := Int.mul_le_mul_of_nonneg_right (by omega) (by omega)
  have h3 := Int.ediv_mul_le now (b := l.g) (by omega)
  have h4 := Int.add_mul (now / l.g) l.s l.g
  omega
theorem va_step (ok : WOk W) {i : Nat} (hi : i < W.length) (pt now : Int) : now < va (lv W i) pt now ∧ va (lv W i) pt now ≤ now + 100000 := by
  have hall := ok.all _ hi
  refine ⟨va_gt (by omega) (by omega) pt now, ?_⟩
  have h1 := va_most (l := lv W i) (by omega) (by omega) pt now
  have h2 : (lv W i).s * (lv W i).g ≤ 100 * 1000 := Int.mul_le_mul (by omega) (by omega) (by omega) (by omega)
  omega
theorem mu_step {sp sp' : Spot} {tick t bf : Int} (ok : WOk W) (ht : tick < t) (hq : (visited W B sp bf t).getLast? = some (some sp')) : mu sp' t + 1 ≤ mu sp tick ∧ sp'.lv < W.length ∧ sp'.due = sp.due := by
  obtain ⟨c1, c2, c3, c4⟩ := visGo_last ok _ hq
  refine ⟨?_, c1, c2⟩
  have h0 : sp.lv ≠ 0 := fun e => by
    have := visGo_zero (W := W) (B := B) (before := bf) (now := t) (order W B) e (some sp') (List.mem_of_getLast? hq)
    cases this
  unfold mu
  rw [if_neg h0]
  split
  · omega
  · rename_i hz
    rcases c4 with ⟨d1, d2⟩ | ⟨d1, d2⟩
    · rw [c2]; omega
    · exact absurd (by rw [d2]) hz
inductive Beats (W : List Lv) (B : Bk) (nx : Lv → Int → Int → Option Int → Prop) (bf : Int → Int) : Spot → Int → Option Int → Prop
  | lost {sp : Spot} {tick : Int} : nx (lv W sp.lv) sp.pt tick none → Beats W B nx bf sp tick none
  | fired {sp : Spot} {tick t : Int} : nx (lv W sp.lv) sp.pt tick (some t) → (visited W B sp (bf t) t).getLast? = some none → Beats W B nx bf sp tick (some t)
  | on {sp sp' : Spot} {tick t : Int} {o : Option Int} : nx (lv W sp.lv) sp.pt tick (some t) → (visited W B sp (bf t) t).getLast? = some (some sp') → Beats W B nx bf sp' t o → Beats W B nx bf sp tick o
theorem Beats.one {nx : Lv → Int → Int → Option Int → Prop} {bf : Int → Int} (ok : WOk W) (hx : ∀ i pt tick o, i < W.length → nx (lv W i) pt tick o → o = some (va (lv W i) pt tick)) (hb : ∀ t, bf t = t - 1) {sp : Spot} {tick : Int} {o : Option Int}
    (h : Beats W B nx bf sp tick o) (hl : sp.lv < W.length) : ∃ T, o = some T ∧ Walks W B sp tick T := by
  induction h with
  | lost e => have := hx _ _ _ _ hl e; cases this
  | @fired sp tick t e q =>
    obtain rfl := Option.some.inj (hx _ _ _ _ hl e)
    rw [hb] at q
    exact ⟨_, rfl, .fired q⟩
  | @on sp sp' tick t o e q z ih =>
    obtain rfl := Option.some.inj (hx _ _ _ _ hl e)
    rw [hb] at q
    obtain ⟨c1, c2, c3, c4⟩ := visGo_last ok _ q
    obtain ⟨T, rfl, hT⟩ := ih c1
    exact ⟨T, rfl, .on q hT⟩
theorem isVis_in {l : Lv} {pt v bf now : Int} (hg : 0 < l.g) (hs : 0 < l.s) (h : l.g * l.s ∣ v - pt * l.g) (h1 : bf < v) (h2 : v ≤ now) : isVis l pt bf now = true := by
  obtain ⟨j, hj⟩ := h
  have e : v = (pt + l.s * j) * l.g := by rw [Int.add_mul, Int.mul_comm (l.s * j) l.g, ← Int.mul_assoc]; omega
  unfold isVis
  have h3 : bf / l.g < pt + l.s * j := Int.ediv_lt_of_lt_mul hg (by omega)
  have h4 : pt + l.s * j ≤ now / l.g := Int.le_ediv_of_mul_le hg (by omega)
  have h5 : (pt - bf / l.g - 1) % l.s = (pt + l.s * j - bf / l.g - 1) % l.s := by
    rw [show pt + l.s * j - bf / l.g - 1 = (pt - bf / l.g - 1) + l.s * j by omega, Int.add_mul_emod_self_left]
  have h6 : (pt + l.s * j - bf / l.g - 1) % l.s ≤ pt + l.s * j - bf / l.g - 1 := by
    have := Int.emod_def (pt + l.s * j - bf / l.g - 1) l.s
    have h7 : 0 ≤ (pt + l.s * j - bf / l.g - 1) / l.s := Int.ediv_nonneg (by omega) (by omega)
    have h8 : 0 ≤ l.s * ((pt + l.s * j - bf / l.g - 1) / l.s) := Int.mul_nonneg (by omega) h7
    omega
  rw [h5]
  exact decide_eq_true (by omega)
theorem va_dvd {l : Lv} (hs : 0 < l.s) (pt now : Int) : l.g * l.s ∣ va l pt now - pt * l.g := by
  unfold va
  have e := Int.emod_def (pt - now / l.g - 1) l.s
  refine ⟨-((pt - now / l.g - 1) / l.s), ?_⟩
  rw [e, ← Int.sub_mul, Int.mul_neg, Int.mul_assoc, ← Int.mul_neg, Int.mul_comm l.g]
  congr 1
  generalize l.s * ((pt - now / l.g - 1) / l.s) = z
  omega
theorem va_uniq {l : Lv} (hg : 0 < l.g) (hs : 0 < l.s) {pt tick k : Int} (h1 : 1 ≤ k) (h2 : k ≤ l.g * l.s) (h : l.g * l.s ∣ tick + k - pt * l.g) : tick + k = va l pt tick := by
  have a := va_dvd (l := l) hs pt tick
  have b := va_gt (l := l) hg hs pt tick
  have c := va_most (l := l) hg hs pt tick
  rw [Int.mul_comm l.s] at c
  have d := Int.dvd_sub h a
  rw [show tick + k - pt * l.g - (va l pt tick - pt * l.g) = tick + k - va l pt tick by omega] at d
  generalize l.g * l.s = m at *
  obtain ⟨z, hz⟩ := d
  have hz0 : z = 0 := by
    rcases Int.lt_trichotomy z 0 with q | q | q
    · have : m * z ≤ m * (-1) := Int.mul_le_mul_of_nonneg_left (by omega) (by omega)
      omega
    · exact q
    · have : m * 1 ≤ m * z := Int.mul_le_mul_of_nonneg_left (by omega) (by omega)
      omega
  rw [hz0] at hz
  omega
end
end Tw
/-! Tw: a walk that leaps tells what a walk from visit to visit tells -/
namespace Tw
open TwM
section
variable {W : List Lv} {B : Bk} {lim : Option Int}
def wl (W : List Lv) (B : Bk) (lim : Option Int) : Nat → Spot → Int → Int → Option Res
  | 0, _, _, _ => none
  | n + 1, sp, tick, mv =>
    let t := va (lv W sp.lv) sp.pt tick
    if over lim t = true then some (some sp, tick, mv)
    else
      let found := visited W B sp (t - 1) t
      match found.getLast? with
      | none => none
      | some none => some (none, t, mv + found.length - 1)
      | some (some sp') => wl W B lim n sp' t (mv + found.length)
theorem wl_ends (ok : WOk W) (B : Bk) (lim : Option Int) : ∀ (n : Nat) (sp : Spot) (tick mv : Int), sp.lv < W.length → mu sp tick ≤ n → ∃ r, wl W B lim n sp tick mv = some r
  | 0, sp, tick, mv, _, h => by unfold mu at h; split at h <;> omega
  | n + 1, sp, tick, mv, hl, h => by
    have hgt := va_step ok hl sp.pt tick
    unfold wl
    dsimp only
    split
    · exact ⟨_, rfl⟩
    · cases hq : (visited W B sp (va (lv W sp.lv) sp.pt tick - 1) (va (lv W sp.lv) sp.pt tick)).getLast? with
      | none => exact absurd (List.getLast?_eq_none_iff.mp hq) (visited_ne ok hl tick)
      | some o =>
        cases o with
        | none => exact ⟨_, rfl⟩
        | some sp' =>
          obtain ⟨m1, m2, m3⟩ := mu_step ok hgt.1 hq
          exact wl_ends ok B lim n sp' _ _ m2 (by omega)
theorem wl_mono : ∀ (n : Nat) {sp : Spot} {tick mv : Int} {r : Res}, wl W B lim n sp tick mv = some r → ∀ m, n ≤ m → wl W B lim m sp tick mv = some r
  | 0, _, _, _, _, h, _, _ => by cases h
  | n + 1, sp, tick, mv, r, h, m, hm => by
    obtain ⟨m, rfl⟩ : ∃ k, m = k + 1 := ⟨m - 1, by omega⟩
    unfold wl at h ⊢
    dsimp only at h ⊢
    split at h
    · rename_i h1
      rw [if_pos h1]; exact h
    · rename_i h1
      rw [if_neg h1]
      split at h
      · cases h
      · exact h
      · exact wl_mono n h m (by omega)
theorem wl_eq {n m : Nat} {sp : Spot} {tick mv : Int} {r r' : Res} (h : wl W B lim n sp tick mv = some r) (h' : wl W B lim m sp tick mv = some r') : r = r' := by
  have e1 := wl_mono n h (max n m) (Nat.le_max_left _ _)
  have e2 := wl_mono m h' (max n m) (Nat.le_max_right _ _)
  rw [e1] at e2
  exact Option.some.inj e2
def Proper (W : List Lv) (sp : Spot) (tick : Int) : Prop := reach W ≤ sp.due - tick → sp.lv = W.length - 1
theorem le_reach (ok : WOk W) {i : Nat} (hi : i < W.length) : (lv W i).p ≤ reach W := by
  unfold reach
  rcases Nat.lt_or_ge i (W.length - 1) with h | h
  · have := asc_le ok (W.length - 1 - i - 1) i (by omega)
    rw [show i + (W.length - 1 - i - 1) + 1 = W.length - 1 by omega] at this
    omega
  · rw [show i = W.length - 1 by omega]; exact Int.le_refl _
theorem spotAt_far (ok : WOk W) {now rest due : Int} (h : reach W ≤ rest) : spotAt W B now rest due = ⟨W.length - 1, rnd B.up (now + reach W - 1) (lv W (W.length - 1)).g, due⟩ := by
  unfold spotAt
  rw [levelOf_isN fun j hj => Int.le_trans (le_reach ok hj) h]
theorem spotAt_proper (ok : WOk W) (now due : Int) : Proper W (spotAt W B now (due - now) due) now := fun h => by
  rw [spotAt_due] at h
  rw [spotAt_far ok h]
theorem visGo_not {b n : Int} : ∀ (is rest : List Nat) {sp : Spot}, sp.lv ∉ is → visGo W B b n (is ++ rest) sp = visGo W B b n rest sp
  | [], _, _, _ => rfl
  | i :: is, rest, sp, h => by
    rw [List.mem_cons, not_or] at h
    rw [List.cons_append]
    show (if _ then _ else _) = _
    rw [if_neg (fun z => h.1 z.1)]
    exact visGo_not is rest h.2
theorem visGo_out {b n : Int} (is : List Nat) {sp : Spot} (h : sp.lv ∉ is) : visGo W B b n is sp = [] := by
  have := visGo_not (W := W) (B := B) (b := b) (n := n) is [] h
  rw [List.append_nil] at this
  rw [this]; rfl
theorem visit_far (ok : WOk W) (hf : B.fire = false) {sp : Spot} (h1 : 1 < W.length) (hl : sp.lv = W.length - 1) {t : Int} (hv : isVis (lv W sp.lv) sp.pt (t - 1) t = true) (hr : reach W ≤ sp.due - t) :
    visited W B sp (t - 1) t = [some (spotAt W B t (sp.due - t) sp.due)] := by
  have hre : 2 ≤ reach W := (ok.all (W.length - 1) (by omega)).2.2.2.2
  have ht : taken W B sp t = some (spotAt W B t (sp.due - t) sp.due) := by
    unfold taken
    rw [if_neg (by rw [hl, hf]; rintro (z | z); omega; cases z), if_pos (by omega)]
  have hs : (spotAt W B t (sp.due - t) sp.due).lv = W.length - 1 := by rw [spotAt_far ok hr]
  obtain ⟨k, hk⟩ : ∃ k, W.length = k + 1 := ⟨W.length - 1, by omega⟩
  have hlk : sp.lv = k := by omega
  have step : ∀ is, k ∉ is → visGo W B (t - 1) t (k :: is) sp = [some (spotAt W B t (sp.due - t) sp.due)] := fun is hi => by
    show (if _ then _ else _) = _
    rw [if_pos ⟨hlk, by rw [← hlk]; exact hv⟩, ht]
    show _ :: visGo W B (t - 1) t is _ = _
    rw [visGo_out is (by rw [hs, show W.length - 1 = k by omega]; exact hi)]
  unfold visited order
  split
  · rw [hk, List.range_succ, List.reverse_append]
    exact step _ (by simp)
  · rw [hk, List.range_succ, visGo_not _ _ (by rw [hlk]; simp)]
    exact step [] (by simp)
theorem wl_far (ok : WOk W) (hf : B.fire = false) (h1 : 1 < W.length) {due step : Int} : ∀ (j : Nat) {t mv : Int} (m : Nat), (lv W (W.length - 1)).g ∣ t → reach W ≤ due - t →
    va (lv W (W.length - 1)) (spotAt W B t (due - t) due).pt t = t + step → j * step ≤ due - t - reach W → (∀ l, lim = some l → t + j * step ≤ l) →
    wl W B lim (m + j) (spotAt W B t (due - t) due) t mv = wl W B lim m (spotAt W B (t + j * step) (due - (t + j * step)) due) (t + j * step) (mv + j)
  | 0, t, mv, m, _, _, _, _, _ => by simp
  | j + 1, t, mv, m, hg, hr, hs, hj, hlim => by
    have hall := ok.all (W.length - 1) (by omega)
    have hgt := va_gt (l := lv W (W.length - 1)) (by omega) (by omega) (spotAt W B t (due - t) due).pt t
    rw [hs] at hgt
    have hs0 : 0 < step := by omega
    have e1 : ((j + 1 : Nat) : Int) * step = j * step + step := by rw [Int.natCast_add, Int.add_mul]; simp
    rw [e1] at hj hlim
    have hj0 : 0 ≤ (j : Int) * step := Int.mul_nonneg (by omega) (by omega)
    have hfar := spotAt_far (B := B) ok (now := t) (due := due) hr
    have hlv : (spotAt W B t (due - t) due).lv = W.length - 1 := by rw [hfar]
    have hdu : (spotAt W B t (due - t) due).due = due := spotAt_due _ _ _ _ _
    have hgs : (lv W (W.length - 1)).g ∣ step := by
      have h2 : (lv W (W.length - 1)).g ∣ t + step := by rw [← hs]; exact Int.dvd_mul_left _ _
      have := Int.dvd_sub h2 hg
      rwa [show t + step - t = step by omega] at this
    have hvis : isVis (lv W (W.length - 1)) (spotAt W B t (due - t) due).pt (t + step - 1) (t + step) = true := by
      rw [← hs]; exact va_vis (by omega) (by omega) _ _
    have hv := visit_far ok hf h1 hlv (t := t + step) (by rw [hlv]; exact hvis) (by rw [hdu]; omega)
    rw [hdu] at hv
    have ho : over lim (t + step) = false := by
      cases hl : lim with
      | none => rfl
      | some l =>
        have := hlim l hl
        exact decide_eq_false (by omega)
    have hfar1 := spotAt_far (B := B) ok (now := t + step) (due := due) (rest := due - (t + step)) (by omega)
    have hs1 : va (lv W (W.length - 1)) (spotAt W B (t + step) (due - (t + step)) due).pt (t + step) = t + step + step := by
      have e2 : (spotAt W B (t + step) (due - (t + step)) due).pt = (spotAt W B t (due - t) due).pt + step / (lv W (W.length - 1)).g := by
        rw [hfar, hfar1]
        show rnd B.up (t + step + reach W - 1) _ = rnd B.up (t + reach W - 1) _ + _
        rw [show t + step + reach W - 1 = (t + reach W - 1) + step by omega]
        exact rnd_shiftD (by omega) hgs
      rw [e2, va_shift (by omega) hgs, hs]
    have ih := wl_far ok hf h1 (due := due) (step := step) j (t := t + step) (mv := mv + 1) m (Int.dvd_add hg hgs) (by omega) hs1 (by omega) (fun l hl => by have := hlim l hl; omega)
    rw [show m + (j + 1) = (m + j) + 1 by omega]
    show (let t0 := va (lv W (spotAt W B t (due - t) due).lv) (spotAt W B t (due - t) due).pt t; if over lim t0 = true then _ else _) = _
    dsimp only
    rw [hlv, hs, ho, if_neg Bool.false_ne_true, hv]
    show wl W B lim (m + j) (spotAt W B (t + step) (due - (t + step)) due) (t + step) (mv + ((1 : Nat) : Int)) = _
    rw [show mv + ((1 : Nat) : Int) = mv + 1 by simp, ih, e1]
    rw [show t + step + j * step = t + (j * step + step) by omega, show mv + 1 + (j : Int) = mv + ((j + 1 : Nat) : Int) by rw [Int.natCast_add]; omega]
theorem fol_wl (ok : WOk W) : ∀ (n : Nat) {sp : Spot} {tick mv : Int} {r : Res}, Proper W sp tick → sp.lv < W.length → fol W B lim n sp tick mv = some r → ∃ m, wl W B lim m sp tick mv = some r
  | 0, _, _, _, _, _, _, h => by cases h
  | n + 1, sp, tick, mv, r, hp, hl, h => by
    have hgt := va_step ok hl sp.pt tick
    have hall := ok.all _ hl
    have htd : (lv W sp.lv).g ∣ va (lv W sp.lv) sp.pt tick := Int.dvd_mul_left _ _
    unfold fol at h
    dsimp only at h
    by_cases ho : over lim (va (lv W sp.lv) sp.pt tick) = true
    · rw [if_pos ho] at h
      exact ⟨1, by unfold wl; dsimp only; rw [if_pos ho]; exact h⟩
    · rw [if_neg ho] at h
      have go : ∀ m sp', (visited W B sp (va (lv W sp.lv) sp.pt tick - 1) (va (lv W sp.lv) sp.pt tick)).getLast? = some (some sp') → wl W B lim m sp' (va (lv W sp.lv) sp.pt tick) (mv + (visited W B sp (va (lv W sp.lv) sp.pt tick - 1) (va (lv W sp.lv) sp.pt tick)).length) = some r →
          ∃ m, wl W B lim m sp tick mv = some r := fun m sp' hq hw => ⟨m + 1, by unfold wl; dsimp only; rw [if_neg ho, hq]; exact hw⟩
      cases hq : (visited W B sp (va (lv W sp.lv) sp.pt tick - 1) (va (lv W sp.lv) sp.pt tick)).getLast? with
      | none => rw [hq] at h; cases h
      | some o =>
        rw [hq] at h
        cases o with
        | none => exact ⟨1, by unfold wl; dsimp only; rw [if_neg ho, hq]; exact h⟩
        | some sp' =>
          dsimp only at h
          obtain ⟨c1, c2, c3, c4⟩ := visGo_last ok _ hq
          have h0 : sp.lv ≠ 0 := fun e => by
            have := visGo_zero (W := W) (B := B) (before := va (lv W sp.lv) sp.pt tick - 1) (now := va (lv W sp.lv) sp.pt tick) (order W B) e (some sp') (List.mem_of_getLast? hq)
            cases this
          have hre : 2 ≤ reach W := (ok.all (W.length - 1) (by omega)).2.2.2.2
          generalize va (lv W sp.lv) sp.pt tick = t at *
          have hp' : Proper W sp' t := fun z => by
            rcases c4 with ⟨d1, d2⟩ | ⟨d1, d2⟩
            · rw [c2] at z
              rw [d2, spotAt_far ok z]
            · omega
          split at h
          · rename_i hk
            obtain ⟨k1, k2, k3, k4⟩ := skipped_pos hk
            have hstep : 0 < (skipped W sp' t lim).2 := by
              have := va_step ok c1 sp'.pt t
              omega
            have hlim : ∀ l, lim = some l → t + (skipped W sp' t lim).1 * (skipped W sp' t lim).2 ≤ l := fun l hl => by
              have e : (skipped W sp' t lim).1 ≤ (l - t) / (skipped W sp' t lim).2 := by
                subst hl
                unfold skipped at hk ⊢
                split
                · rename_i z; rw [if_pos z] at hk; simp at hk
                · exact Int.min_le_right _ _
              have := Int.mul_le_of_le_ediv hstep e
              omega
            have hfit : (skipped W sp' t lim).1 * (skipped W sp' t lim).2 ≤ sp'.due - t - reach W := by
              rw [← k3] at k4
              exact Int.mul_le_of_le_ediv hstep k4
            generalize hK : (skipped W sp' t lim).1 = K at *
            generalize hS : (skipped W sp' t lim).2 = step at *
            obtain ⟨j, rfl⟩ : ∃ j : Nat, K = (j : Int) := ⟨K.toNat, by omega⟩
            have hprop : Proper W (spotAt W B (t + j * step) (sp'.due - (t + j * step)) sp'.due) (t + j * step) := spotAt_proper ok _ _
            obtain ⟨m, hm⟩ := fol_wl ok n hprop (spotAt_lt ok _ _ _ _) h
            have hsl : sp.lv = W.length - 1 := hp (by rw [← c2]; omega)
            have hsp' : sp' = spotAt W B t (sp'.due - t) sp'.due := by
              rcases c4 with ⟨d1, d2⟩ | ⟨d1, d2⟩
              · rw [c2]; exact d2
              · rw [c2] at k2; omega
            have hva : va (lv W (W.length - 1)) (spotAt W B t (sp'.due - t) sp'.due).pt t = t + step := by
              rw [← hsp', ← k1]; omega
            have hw := wl_far (lim := lim) ok c3 (by omega) (due := sp'.due) (step := step) j (t := t) (mv := mv + (visited W B sp (t - 1) t).length) m (by rw [← hsl]; exact htd) k2 hva (by omega) hlim
            refine go (m + j) sp' hq ?_
            rw [← hsp'] at hw
            rw [hw]
            exact hm
          · obtain ⟨m, hm⟩ := fol_wl ok n hp' c1 h
            exact go m sp' hq hm
end
end Tw
/-! Tw: list(range(a, b)) at bounds of any size -/
namespace Tw
open PySem PySem.Spec PyProof.Rows L2
section
variable {prog : Program} {w : World} {A : Around} {E : Value → Shared → Prop} {s : Shared}
theorem extend_long {R : Result → Shared → Prop} {r S : Addr} {a b : Int} {t u v : Tok} {n c0 : Nat} {res : Value} (hh : A.handled = none) (hr : IsRange s.heap r a b 1 t u v) (hbig : Builtin.Range.small a b 1 = false) (hn : Builtin.Range.rangeSize a b 1 = n) (hlen : n ≤ 2 ^ 24)
    (hS : s.heap.get? S = some { cls := .type "list", data := .seq #[] c0 })
    (hR : ∀ h2 tk acc c2, (∀ x o, x ≠ S → s.heap.get? x = some o → h2.get? x = some o) → h2.get? S = some { cls := .type "list", dict := none, data := .seq acc c2, slots := #[] } → ItemsOf (fun i y => ∃ t, y = .int (a + i * 1) t) acc n → R (.ok (.ret res)) { s with heap := h2, toks := tk }) :
    wpAny (model prog w) A.in1 (Builtin.List.listExtendWith (.ref S) (.ref r) res) (fun fin t => match fin with | .done f => R (.ok f) t | .again q => q.quiet = true ∧ codeAny (model prog w) A q R t) (fun e t => R (.error e) t) s := by
  have nSr : S ≠ r := by
    rintro rfl
    rw [hr] at hS
    simp at hS
  have hlt := Heap.lt_size hS
  have nSI : S ≠ s.heap.objs.size := Nat.ne_of_lt hlt
  have loop : ∀ h c1 tk, IsLongIter h s.heap.objs.size (a + ((0 : Nat) : Int) * 1) ((n : Int) - ((0 : Nat) : Int)) 1 → (∀ x o, x ≠ S → s.heap.get? x = some o → h.get? x = some o) → h.get? S = some { cls := .type "list", data := .seq #[] c1 } →
      codeAny (model prog w) A (.builtin "list.extend.loop" ⟨[.ref S, .ref s.heap.objs.size, res], []⟩) R { s with heap := h, toks := tk } := by
    intro h c1 tk it keep hS1
    refine codeAny_extend_loopS (Walks.longrange (prog := prog) (w := w) (A := A.in1) hh s.heap.objs.size a 1 n).toS (by rw [sizeLine_eq]; omega) S (fun z => nSI (List.mem_singleton.mp z)) res n 0 _ #[] c1 rfl (Nat.zero_le _) it hS1 (ItemsOf.nil _) fun t2 acc c2 mv g1 g2 => ?_
    rw [Moved.eq_with mv]
    refine hR t2.heap t2.toks acc c2 (fun x o nx e => mv.heap x o (fun z => ?_) (keep x o nx e)) g1 g2
    rcases List.mem_cons.mp z with z | z
    · exact nx z
    · have := Heap.lt_size e
      rw [List.mem_singleton.mp z] at this
      exact Nat.lt_irrefl _ this
  unfold Builtin.List.listExtendWith
  refine wpAny_bind (wpAny_typeOf (T := "range") ⟨_, hr, rfl⟩ ?_)
  rw [show Builtin.List.listSameRef (.ref S) (.ref r) = false by simp [Builtin.List.listSameRef, nSr]]
  simp only [show (Value.type "range" == Value.type "list") = false by decide, show (Value.type "range" == Value.type "tuple") = false by decide, Bool.or_false, Bool.false_eq_true, if_false]
  refine wpAny_bind (wpAny_pyIter_longrange hr hbig (wpAny_bind (wpAny_holding (wpAny_hint_range (n := n) (Heap.get?_push_of_some _ hr) hn hlen ?_))))
  have it : IsLongIter (s.heap.push { cls := .type "longrange_iterator", data := .fields #[rawInt a, rawInt (Builtin.Range.rangeSize a b 1), rawInt 1] }) s.heap.objs.size (a + ((0 : Nat) : Int) * 1) ((n : Int) - ((0 : Nat) : Int)) 1 := by
    rw [hn]
    simpa using Heap.get?_push_size _ rfl
  have hS1 := Heap.get?_push_of_some { cls := .type "longrange_iterator", data := .fields #[rawInt a, rawInt (Builtin.Range.rangeSize a b 1), rawInt 1] } hS
  refine wpAny_ite_split (fun _ => wpAny_bind (wpAny_rule ?_)) fun _ => wpAny_pure ⟨plainId_quiet F.plain_extend_loop _, loop _ c0 _ it (fun x o _ e => Heap.get?_push_of_some _ e) hS1⟩
  refine wpAny_bind ?_
  show wpAny _ _ (updateSeq S (·.push .none) >>= fun _ => updateSeq S (·.pop)) _ _ _
  have hS2 := Heap.get?_update_self (Obj.mapSeq (·.push Value.none)) hS1 rfl
  refine wpAny_bind (wpAny_updateSeq hS1 rfl (wpAny_updateSeq (hz := by seq_fits) hS2 rfl (wpAny_pure ⟨plainId_quiet F.plain_extend_loop _, loop _ _ _ ?_ (fun x o nx e => ?_) (Heap.get?_update_self (Obj.mapSeq (·.pop)) hS2 rfl)⟩)))
  · exact (Heap.get?_update_other _ _ nSI).trans ((Heap.get?_update_other _ _ nSI).trans it)
  · exact (Heap.get?_update_other _ _ (Ne.symm nx)).trans ((Heap.get?_update_other _ _ (Ne.symm nx)).trans (Heap.get?_push_of_some _ e))
theorem call_list_long {Q : Value → Shared → Prop} {r : Addr} {a b : Int} {t u v : Tok} {n : Nat} (hh : A.handled = none) (hr : IsRange s.heap r a b 1 t u v) (hbig : Builtin.Range.small a b 1 = false) (hn : Builtin.Range.rangeSize a b 1 = n) (hlen : n ≤ 2 ^ 24)
    (hQ : ∀ h2 tk acc c2, (∀ x o, s.heap.get? x = some o → h2.get? x = some o) → h2.get? s.heap.objs.size = some { cls := .type "list", dict := none, data := .seq acc c2, slots := #[] } → ItemsOf (fun i y => ∃ t, y = .int (a + i * 1) t) acc n → Q (.ref s.heap.objs.size) { s with heap := h2, toks := tk }) :
    wpAny (model prog w) A (call (.type "list") [.ref r]) Q E s := by
  refine callType_codes (Q₁ := fun obj t => obj = .ref s.heap.objs.size ∧ t = { s with heap := s.heap.push { cls := .type "list", data := .seq #[] } }) F.called_list (F.typeCall_list_1 _) F.entry_list_init (code_list_new _ ⟨rfl, rfl⟩) ?_
  rintro obj t1 ⟨rfl, rfl⟩
  have hS : (s.heap.push { cls := .type "list", data := .seq #[] }).get? s.heap.objs.size = some { cls := .type "list", data := .seq #[] } := Heap.get?_push_size _ rfl
  have hr1 : IsRange (s.heap.push { cls := .type "list", data := .seq #[] }) r a b 1 t u v := Heap.get?_push_of_some _ hr
  have nr : r ≠ s.heap.objs.size := Nat.ne_of_lt (Heap.lt_size hr)
  refine ⟨⟨_, hS, rfl⟩, F.args_list_init_2 _ _, ?_⟩
  show wpAny _ _ (do let old ← Builtin.List.listItems (.ref s.heap.objs.size); Builtin.List.listUpdate (.ref s.heap.objs.size) (fun _ => #[]); letGo old.toList.reverse; Builtin.List.listExtendWith (.ref s.heap.objs.size) (.ref r) .none) _ _ _
  refine wpAny_bind ?_
  unfold Builtin.List.listItems
  refine wpAny_bind (wpAny_seqItems hS rfl (wpAny_pure ?_))
  show wpAny _ _ (updateSeq s.heap.objs.size (fun _ => #[]) >>= fun _ => letGo (#[] : Array Value).toList.reverse >>= fun _ => Builtin.List.listExtendWith (.ref s.heap.objs.size) (.ref r) .none) _ _ _
  refine wpAny_bind (wpAny_updateSeq hS rfl (wpAny_bind (wpAny_letGo ?_)))
  refine extend_long (A := A.in1) hh ((Heap.get?_update_other _ _ (Ne.symm nr)).trans hr1) hbig hn hlen (Heap.get?_update_self (Obj.mapSeq (fun _ => (#[] : Array Value))) hS rfl) fun h2 tk acc c2 k g1 g2 => ?_
  refine ⟨rfl, hQ h2 tk acc c2 (fun x o e => ?_) g1 g2⟩
  have nx : x ≠ s.heap.objs.size := Nat.ne_of_lt (Heap.lt_size e)
  exact k x o nx ((Heap.get?_update_other _ _ (Ne.symm nx)).trans (Heap.get?_push_of_some _ e))
end
section
variable {X : Cx} {e : Expr} {te : L2.St → Hp → (Int → Int → Hp → Prop) → Prop}
def tLstRgW (te : L2.St → Hp → (Int → Int → Hp → Prop) → Prop) : TE := fun σ H Q => te σ H fun a b H1 => b - a ≤ 10000000 ∧ ∀ q, H1 q = none → Q (.ref q) (upd H1 q (.lst (rgV a b)))
end
end Tw
/-! Tw: the laws' own walk -/
namespace Tw
open PySem PySem.Spec PyProof.Rows L2 He TwM StX
open PySem.W (Frag)
local macro_rules | `(tactic| walk_at "rwk") => `(tactic| simp only [*, at3_0, at3_1, at3_2, at2_0, at2_1, updS, upd_two, gSub, rSetL, updN, tPar, and_assoc, not_true_eq_false, not_false_eq_true, tNever, List.length_map, tFld, rIxTH, rIxLH, rLenTH, rLenLH, lk1, lfs_g, lfs_s, lfs_p, HO.ins.injEq, HO.tup.injEq, HO.lst.injEq, sp_Book_rounding, sp_Book_action, sp_Book_order, sp_Book_due, sp_Book_zero, sp_Book_beyond, Int.toNat_natCast, sp_visit_after, sp_is_visited, sp_Level_grain, sp_Level_slots, sp_Level_span, sp_Wheel_reach, sp_Wheel___len__, sp_is_integer, sp_is_count, sp_is_within, sp_rounded, tSeq, tAsg, gName, tVar, tC, tOp, rI, rI0, rU, tUn, oAdd, oSub, oMul, oDiv, oMod, oNeg, oLt, oLe, oGt, oGe, oIsN, oNotN, tFn, tCons, tNil, tIfS, tIf, tTest, tB, tNot, tAnd, tOr, tAndV, tOrV, tNotV,
    tRet, tRetN, tNext, tCB, tDrop, tChain, rEq, rNe, oMax2, oMin2, oInt1, rLenF, L2.start, List.map_cons, List.map_nil, List.length_cons, List.length_nil, List.replicate_succ, List.replicate_zero, List.cons_append, List.nil_append, Nat.reduceAdd, Nat.reduceSub, Nat.zero_add,
    List.set_cons_zero, List.set_cons_succ, List.getElem?_cons_zero, List.getElem?_cons_succ, Option.some.injEq, V.int.injEq, V.ref.injEq, V.str.injEq, V.bl.injEq, exists_eq_left', exists_eq_left, exists_and_left, List.cons.injEq, and_true, true_and, decide_eq_true_eq, sc_ii, sc_ss, sc_bb, sc_ni, sc_in, sc_nn, sc_is, reduceCtorEq,
    Bool.not_eq_true', decide_eq_false_iff_not, if_true, if_false, Bool.false_eq_true, exists_eq', exists_const, false_and, and_false, or_false, false_or, exists_false, Bool.not_not, Bool.not_true, Bool.not_false, sUp_up, sFire_fire, sHigh_high, sPut_put, sZone_now, sBey_refuse, sBey_cut, tTup, tLst, sz0, sz1, sz2, sz3, sz4, sz5, sz6])
section
variable {K : Frag} {w : World}
structure VlAt (H : Hp) (r : Addr) (B : Bk) : Prop where
  at_ : H r = some (.lst ((bws B).map V.str))
  ok : B.bey < 3
theorem VlAt.same {H H1 : Hp} {r : Addr} {B : Bk} (h : VlAt H r B) (s : Same H H1) : VlAt H1 r B := ⟨s _ _ h.at_, h.ok⟩
theorem RowsAt.row {H : Hp} {r : Addr} {W : List Lv} (h : RowsAt H r W) {i : Nat} (hi : i < W.length) : ∃ xs t, H r = some (.lst xs) ∧ xs.length = W.length ∧ atI xs (i : Int) = some (.ref t) ∧ H t = some (.tup [.int (lv W i).g, .int (lv W i).s, .int (lv W i).p]) := by
  obtain ⟨ts, ha, hb, hc⟩ := h
  obtain ⟨t, ht⟩ : ∃ t, ts[i]? = some t := ⟨ts[i]'(by omega), List.getElem?_eq_getElem (by omega)⟩
  exact ⟨_, t, ha, by rw [List.length_map, hb], atI_nat (by rw [List.getElem?_map, ht]; rfl), hc _ _ ht⟩
theorem RowsAt.last {H : Hp} {r : Addr} {W : List Lv} (h : RowsAt H r W) (hp : 0 < W.length) : ∃ xs t, H r = some (.lst xs) ∧ xs.length = W.length ∧ atI xs (-1) = some (.ref t) ∧ H t = some (.tup [.int (lv W (W.length - 1)).g, .int (lv W (W.length - 1)).s, .int (lv W (W.length - 1)).p]) := by
  obtain ⟨ts, ha, hb, hc⟩ := h
  obtain ⟨t, ht⟩ : ∃ t, ts[W.length - 1]? = some t := ⟨ts[W.length - 1]'(by omega), List.getElem?_eq_getElem (by omega)⟩
  exact ⟨_, t, ha, by rw [List.length_map, hb], atI_m1 (by rw [List.getLast?_eq_getElem?, List.length_map, hb, List.getElem?_map, ht]; rfl), hc _ _ ht⟩
theorem at6_0 (a b c d e f : V) : atI [a, b, c, d, e, f] 0 = some a := rfl
theorem at6_1 (a b c d e f : V) : atI [a, b, c, d, e, f] 1 = some b := rfl
theorem at6_2 (a b c d e f : V) : atI [a, b, c, d, e, f] 2 = some c := rfl
theorem at6_3 (a b c d e f : V) : atI [a, b, c, d, e, f] 3 = some d := rfl
theorem at6_4 (a b c d e f : V) : atI [a, b, c, d, e, f] 4 = some e := rfl
theorem at6_5 (a b c d e f : V) : atI [a, b, c, d, e, f] 5 = some f := rfl
theorem VlAt.six {H : Hp} {r : Addr} {B : Bk} (h : VlAt H r B) : H r = some (.lst [.str (sUp B.up), .str (sFire B.fire), .str (sHigh B.high), .str (sPut B.put), .str (sZone B.zone), .str (sBey B.bey)]) := h.at_
local macro_rules | `(tactic| walk_at "rwm") => `(tactic| simp only [*, at3_0, at3_1, at3_2, at2_0, at2_1, updS, upd_two, gSub, rSetL, updN, tPar, gTup, gCons, gNil, and_assoc, not_true_eq_false, not_false_eq_true, tNever, List.length_map, tFld, rIxTH, rIxLH, rLenTH, rLenLH, lk1, lfs_g, lfs_s, lfs_p, HO.ins.injEq, HO.tup.injEq, HO.lst.injEq, sp_Book_rounding, sp_Book_action, sp_Book_order, sp_Book_due, sp_Book_zero, sp_Book_beyond, Int.toNat_natCast, sp_visit_after, sp_is_visited, sp_Level_grain, sp_Level_slots, sp_Level_span, sp_Wheel_reach, sp_Wheel___len__, sp_is_integer, sp_is_count, sp_is_within, sp_rounded, tSeq, tAsg, gName, tVar, tC, tOp, rI, rI0, rU, tUn, oAdd, oSub, oMul, oDiv, oMod, oNeg, oLt, oLe, oGt, oGe, oIsN, oNotN, tFn, tCons, tNil, tIfS, tIf, tTest, tB, tNot, tAnd, tOr, tAndV, tOrV, tNotV,
    tRet, tRetN, tNext, tCB, tDrop, tChain, rEq, rNe, oMax2, oMin2, oInt1, rLenF, L2.start, List.map_cons, List.map_nil, List.length_cons, List.length_nil, List.replicate_succ, List.replicate_zero, List.cons_append, List.nil_append, Nat.reduceAdd, Nat.reduceSub, Nat.zero_add,
    List.set_cons_zero, List.set_cons_succ, List.getElem?_cons_zero, List.getElem?_cons_succ, Option.some.injEq, V.int.injEq, V.ref.injEq, V.str.injEq, V.bl.injEq, exists_eq_left', exists_eq_left, exists_and_left, List.cons.injEq, and_true, true_and, decide_eq_true_eq, sc_ii, sc_ss, sc_bb, sc_ni, sc_in, sc_nn, sc_is, reduceCtorEq,
    Bool.not_eq_true', decide_eq_false_iff_not, if_true, if_false, Bool.false_eq_true, exists_eq', exists_const, false_and, and_false, or_false, false_or, exists_false, Bool.not_not, Bool.not_true, Bool.not_false, sUp_up, sFire_fire, sHigh_high, sPut_put, sZone_now, sBey_refuse, sBey_cut, tTup, tLst, sz0, sz1, sz2, sz3, sz4, sz5, sz6])
local macro_rules | `(tactic| walk_at "rwl") => `(tactic| simp only [*, at3_0, at3_1, at3_2, at2_0, at2_1, updS, upd_two, gSub, rSetL, updN, tPar, at6_0, at6_1, at6_2, at6_3, at6_4, at6_5, and_assoc, not_true_eq_false, not_false_eq_true, tNever, List.length_map, tFld, rIxTH, rIxLH, rLenTH, rLenLH, lk1, lfs_g, lfs_s, lfs_p, HO.ins.injEq, HO.tup.injEq, HO.lst.injEq, sp_Book_rounding, sp_Book_action, sp_Book_order, sp_Book_due, sp_Book_zero, sp_Book_beyond, Int.toNat_natCast, sp_visit_after, sp_is_visited, sp_Level_grain, sp_Level_slots, sp_Level_span, sp_Wheel_reach, sp_Wheel___len__, sp_is_integer, sp_is_count, sp_is_within, sp_rounded, tSeq, tAsg, gName, tVar, tC, tOp, rI, rI0, rU, tUn, oAdd, oSub, oMul, oDiv, oMod, oNeg, oLt, oLe, oGt, oGe, oIsN, oNotN, tFn, tCons, tNil, tIfS, tIf, tTest, tB, tNot, tAnd, tOr, tAndV, tOrV, tNotV,
    tRet, tRetN, tNext, tCB, tDrop, tChain, rEq, rNe, oMax2, oMin2, oInt1, rLenF, L2.start, List.map_cons, List.map_nil, List.length_cons, List.length_nil, List.replicate_succ, List.replicate_zero, List.cons_append, List.nil_append, Nat.reduceAdd, Nat.reduceSub, Nat.zero_add,
    List.set_cons_zero, List.set_cons_succ, List.getElem?_cons_zero, List.getElem?_cons_succ, Option.some.injEq, V.int.injEq, V.ref.injEq, V.str.injEq, V.bl.injEq, exists_eq_left', exists_eq_left, exists_and_left, List.cons.injEq, and_true, true_and, decide_eq_true_eq, sc_ii, sc_ss, sc_bb, sc_ni, sc_in, sc_nn, sc_is, reduceCtorEq,
    Bool.not_eq_true', decide_eq_false_iff_not, if_true, if_false, Bool.false_eq_true, exists_eq', exists_const, false_and, and_false, or_false, false_or, exists_false, Bool.not_not, Bool.not_true, Bool.not_false, sUp_up, sFire_fire, sHigh_high, sPut_put, sZone_now, sBey_refuse, sBey_cut, tTup, tLst, sz0, sz1, sz2, sz3, sz4, sz5, sz6])
structure RWk (W : List Lv) : Prop where
  ok : WOk W
instance rwk_of {W : List Lv} : Coe (ROk W) (RWk W) := ⟨fun h => ⟨h.ok⟩⟩
theorem depth_ints : ∀ ks : List Int, PyData.depthAll (ks.map PyData.int) = 0
  | [] => rfl
  | k :: ks => by
    show max (PyData.int k).depth (PyData.depthAll (ks.map PyData.int)) = 0
    rw [depth_ints ks]
    rfl
theorem hit_iff {q pt s j : Int} (hs : 0 < s) (h0 : 0 ≤ j) (h1 : j ≤ (pt - q) % s) : (q + j - pt) % s = 0 ↔ j = (pt - q) % s := by
  have e := Int.mul_ediv_add_emod (pt - q) s
  have h2 := Int.emod_lt_of_pos (pt - q) hs
  generalize (pt - q) % s = k at *
  generalize (pt - q) / s = z at *
  have e2 : q + j - pt = (j - k) + s * (-z) := by rw [Int.mul_neg]; omega
  rw [e2, Int.add_mul_emod_self_left]
  constructor
  · intro h
    have h3 : (j - k + s) % s = 0 := by rw [Int.add_emod_right]; exact h
    rcases Int.lt_or_le j k with h4 | h4
    · rw [Int.emod_eq_of_lt (by omega) (by omega)] at h3
      omega
    · omega
  · intro h
    rw [h, Int.sub_self, Int.zero_emod]
local macro_rules | `(tactic| walk_at "rwn") => `(tactic| simp only [*, at3_0, at3_1, at3_2, at2_0, at2_1, updS, upd_two, gSub, rSetL, updN, tPar, at6_0, at6_1, at6_2, at6_3, at6_4, at6_5, gTup, gCons, gNil, and_assoc, not_true_eq_false, not_false_eq_true, tNever, List.length_map, tFld, rIxTH, rIxLH, rLenTH, rLenLH, lk1, lfs_g, lfs_s, lfs_p, HO.ins.injEq, HO.tup.injEq, HO.lst.injEq, sp_Book_rounding, sp_Book_action, sp_Book_order, sp_Book_due, sp_Book_zero, sp_Book_beyond, Int.toNat_natCast, sp_visit_after, sp_is_visited, sp_Level_grain, sp_Level_slots, sp_Level_span, sp_Wheel_reach, sp_Wheel___len__, sp_is_integer, sp_is_count, sp_is_within, sp_rounded, tAsg, gName, tVar, tC, tOp, rI, rI0, rU, tUn, oAdd, oSub, oMul, oDiv, oMod, oNeg, oLt, oLe, oGt, oGe, oIsN, oNotN, tFn, tCons, tNil, tIfS, tIf, tTest, tB, tNot, tAnd, tOr, tAndV, tOrV, tNotV,
    tRet, tRetN, tNext, tCB, tDrop, tChain, rEq, rNe, oMax2, oMin2, oInt1, rLenF, L2.start, List.map_cons, List.map_nil, List.length_cons, List.length_nil, List.replicate_succ, List.replicate_zero, List.cons_append, List.nil_append, Nat.reduceAdd, Nat.reduceSub, Nat.zero_add,
    List.set_cons_zero, List.set_cons_succ, List.getElem?_cons_zero, List.getElem?_cons_succ, Option.some.injEq, V.int.injEq, V.ref.injEq, V.str.injEq, V.bl.injEq, exists_eq_left', exists_eq_left, exists_and_left, List.cons.injEq, and_true, true_and, decide_eq_true_eq, sc_ii, sc_ss, sc_bb, sc_ni, sc_in, sc_nn, sc_is, reduceCtorEq,
    Bool.not_eq_true', decide_eq_false_iff_not, if_true, if_false, Bool.false_eq_true, exists_eq', exists_const, false_and, and_false, or_false, false_or, exists_false, Bool.not_not, Bool.not_true, Bool.not_false, sUp_up, sFire_fire, sHigh_high, sPut_put, sZone_now, sBey_refuse, sBey_cut, tTup, tLst, sz0, sz1, sz2, sz3, sz4, sz5, sz6])
theorem sw_hits {g s pt before here : Int} (hg : 0 < g) (hs : 0 < s) : ((rgV (before / g + 1) ((if before / g + 1 + s < here / g then before / g + 1 + s else here / g) + 1)).filter fun x => match x with | .int at_ => decide ((at_ - pt) % s = 0) | _ => false) = [] ↔ ¬ (pt - before / g - 1) % s < here / g - before / g := by
  have e1 : pt - before / g - 1 = pt - (before / g + 1) := by omega
  rw [e1]
  have k0 := Int.emod_nonneg (pt - (before / g + 1)) (b := s) (by omega)
  have k1 := Int.emod_lt_of_pos (pt - (before / g + 1)) hs
  have hi : ∀ j, 0 ≤ j → j ≤ (pt - (before / g + 1)) % s → ((before / g + 1 + j - pt) % s = 0 ↔ j = (pt - (before / g + 1)) % s) := fun j => hit_iff hs
  generalize before / g + 1 = a at *
  generalize (pt - a) % s = k at *
  rw [List.filter_eq_nil_iff]
  unfold rgV
  constructor
  · intro h hlt
    have hm : V.int (a + k) ∈ (List.range ((if a + s < here / g then a + s else here / g) + 1 - a).toNat).map fun i => V.int (a + (i : Nat)) := by
      refine List.mem_map.mpr ⟨k.toNat, List.mem_range.mpr ?_, by rw [Int.toNat_of_nonneg k0]⟩
      split <;> omega
    exact h _ hm (decide_eq_true ((hi k k0 (Int.le_refl _)).mpr rfl))
  · intro h x hx
    obtain ⟨i, hi1, rfl⟩ := List.mem_map.mp hx
    have hr := List.mem_range.mp hi1
    intro hz
    have hz := of_decide_eq_true hz
    have := (hi i (by omega) (by split at hr <;> omega)).mp hz
    split at hr <;> omega
theorem OSps.count : ∀ {H : Hp} {xs : List V} {os : List (Option Spot)}, OSps H xs os → (xs.filter fun x => !decide (x = V.non)).length = (os.filter (·.isSome)).length
  | _, [], [], _ => rfl
  | _, [], _ :: _, h => by have := h.1; simp at this
  | _, _ :: _, [], h => by have := h.1; simp at this
  | H, x :: xs, o :: os, h => by
    have ih := OSps.count (H := H) (xs := xs) (os := os) ⟨by have := h.1; simpa using this, fun i v q e1 e2 => h.2 (i + 1) v q (by simpa using e1) (by simpa using e2)⟩
    have h0 := h.2 0 x o rfl rfl
    cases o with
    | none =>
      obtain rfl : x = .non := h0
      rw [List.filter_cons_of_neg (by simp), List.filter_cons_of_neg (by simp), ih]
    | some sp =>
      obtain ⟨p, rfl, _⟩ := h0
      rw [List.filter_cons_of_pos (by simp), List.filter_cons_of_pos (by simp), List.length_cons, List.length_cons, ih]
def wfin (W : List Lv) (B : Bk) (start delay : Int) : Int × Int := match placeM W B start delay with
  | none => (start, 0)
  | some sp => match wl W B none (mu sp start) sp start 0 with
    | none => (0, 0)
    | some r => r.2
theorem placeM_proper {W : List Lv} (ok : WOk W) {B : Bk} {now delay : Int} {sp : Spot} (hd : 0 ≤ delay) (h : placeM W B now delay = some sp) : Proper W sp now := by
  have hre : 2 ≤ reach W := (ok.all (W.length - 1) (by have := ok.pos; omega)).2.2.2.2
  unfold placeM at h
  split at h
  · cases h
  · obtain rfl := Option.some.inj h
    intro z
    rw [spotAt_due] at z
    have hz : reach W ≤ (if reach W ≤ (if 1 > delay then 1 else delay) ∧ B.bey = 2 then reach W - 1 else (if 1 > delay then 1 else delay)) := by
      omega
    rw [spotAt_far ok hz]
theorem wfin_fin {W : List Lv} (ok : WOk W) (B : Bk) {start delay : Int} (hd : 0 ≤ delay) : wfin W B start delay = fin W B start delay := by
  unfold wfin fin
  cases h : placeM W B start delay with
  | none => rfl
  | some sp =>
    dsimp only
    obtain ⟨r, hr⟩ := fol_ends ok B none (mu sp start) sp start 0 (placeM_lt ok h) (Nat.le_refl _)
    obtain ⟨r', hr'⟩ := wl_ends ok B none (mu sp start) sp start 0 (placeM_lt ok h) (Nat.le_refl _)
    obtain ⟨m, hm⟩ := fol_wl ok _ (placeM_proper ok hd h) (placeM_lt ok h) hr
    rw [hr, hr', wl_eq hr' hm]
end
end Tw
/-! Tw: lumps -/
namespace Tw
open PySem PySem.Spec PyProof.Rows L2 He TwM StX
open PySem.W (Frag)
local macro_rules | `(tactic| walk_at "rsf") => `(tactic| simp only [*, at3_0, at3_1, at3_2, at2_0, at2_1, updS, upd_two, gSub, rSetL, updN, and_assoc, not_true_eq_false, not_false_eq_true, tNever, List.length_map, tFld, rIxTH, rIxLH, rLenTH, rLenLH, lk1, lfs_g, lfs_s, lfs_p, HO.ins.injEq, HO.tup.injEq, HO.lst.injEq, sp_Book_rounding, sp_Book_action, sp_Book_order, sp_Book_due, sp_Book_zero, sp_Book_beyond, Int.toNat_natCast, sp_visit_after, sp_is_visited, sp_Level_grain, sp_Level_slots, sp_Level_span, sp_Wheel_reach, sp_Wheel___len__, sp_is_integer, sp_is_count, sp_is_within, sp_rounded, tSeq, tAsg, gName, tVar, tC, tOp, rI, rI0, rU, tUn, oAdd, oSub, oMul, oDiv, oMod, oNeg, oLt, oLe, oGt, oGe, oIsN, oNotN, tFn, tCons, tNil, tIfS, tIf, tTest, tB, tNot, tAnd, tOr, tAndV, tOrV, tNotV,
    tRet, tRetN, tNext, tCB, tDrop, tChain, rEq, rNe, oMax2, oMin2, oInt1, rLenF, L2.start, List.map_cons, List.map_nil, List.length_cons, List.length_nil, List.replicate_succ, List.replicate_zero, List.cons_append, List.nil_append, Nat.reduceAdd, Nat.reduceSub, Nat.zero_add,
    List.set_cons_zero, List.set_cons_succ, List.getElem?_cons_zero, List.getElem?_cons_succ, Option.some.injEq, V.int.injEq, V.ref.injEq, V.str.injEq, V.bl.injEq, exists_eq_left', exists_eq_left, exists_and_left, List.cons.injEq, and_true, true_and, decide_eq_true_eq, sc_ii, sc_ss, sc_bb, sc_ni, sc_in, sc_nn, sc_is, reduceCtorEq,
    Bool.not_eq_true', decide_eq_false_iff_not, if_true, if_false, Bool.false_eq_true, exists_eq', exists_const, false_and, and_false, or_false, false_or, exists_false, Bool.not_not, Bool.not_true, Bool.not_false, sUp_up, sFire_fire, sHigh_high, sPut_put, sZone_now, sBey_refuse, sBey_cut, tTup, tLst, sz0, sz1, sz2, sz3, sz4, sz5, sz6])
section
variable {K : Frag} {w : World}
end
end Tw
/-! Tw: delays of any size -/
namespace Tw
open TwM
section
variable {W : List Lv} {B : Bk} {lim : Option Int}
def stepM (W : List Lv) (B : Bk) : Int := ((rnd B.up (reach W - 1) (lv W (W.length - 1)).g - 1) % (lv W (W.length - 1)).s + 1) * (lv W (W.length - 1)).g
theorem stepM_va (ok : WOk W) {t : Int} (hg : (lv W (W.length - 1)).g ∣ t) : va (lv W (W.length - 1)) (rnd B.up (t + reach W - 1) (lv W (W.length - 1)).g) t = t + stepM W B := by
  have hall := ok.all (W.length - 1) (by have := ok.pos; omega)
  have e : rnd B.up (t + reach W - 1) (lv W (W.length - 1)).g = rnd B.up (reach W - 1) (lv W (W.length - 1)).g + t / (lv W (W.length - 1)).g := by
    rw [show t + reach W - 1 = (reach W - 1) + t by omega]
    exact rnd_shiftD (by omega) hg
  unfold va stepM
  rw [e]
  generalize rnd B.up (reach W - 1) (lv W (W.length - 1)).g = p
  obtain ⟨z, rfl⟩ := hg
  rw [Int.mul_ediv_cancel_left _ (by omega), show p + z - z - 1 = p - 1 by omega, show z + 1 + (p - 1) % (lv W (W.length - 1)).s = z + ((p - 1) % (lv W (W.length - 1)).s + 1) by omega, Int.add_mul, Int.mul_comm z]
theorem stepM_pos (ok : WOk W) : 1 ≤ stepM W B ∧ stepM W B ≤ 100000 ∧ (lv W (W.length - 1)).g ∣ stepM W B := by
  have hall := ok.all (W.length - 1) (by have := ok.pos; omega)
  unfold stepM
  have h0 := Int.emod_nonneg (rnd B.up (reach W - 1) (lv W (W.length - 1)).g - 1) (b := (lv W (W.length - 1)).s) (by omega)
  have h1 := Int.emod_lt_of_pos (rnd B.up (reach W - 1) (lv W (W.length - 1)).g - 1) (b := (lv W (W.length - 1)).s) (by omega)
  refine ⟨?_, ?_, Int.dvd_mul_left _ _⟩
  · have : 1 * 1 ≤ ((rnd B.up (reach W - 1) (lv W (W.length - 1)).g - 1) % (lv W (W.length - 1)).s + 1) * (lv W (W.length - 1)).g := Int.mul_le_mul (by omega) (by omega) (by omega) (by omega)
    omega
  · have : ((rnd B.up (reach W - 1) (lv W (W.length - 1)).g - 1) % (lv W (W.length - 1)).s + 1) * (lv W (W.length - 1)).g ≤ 100 * 1000 := Int.mul_le_mul (by omega) (by omega) (by omega) (by omega)
    omega
theorem wl_mv : ∀ (n : Nat) {sp : Spot} {tick mv c : Int} {r : Res}, wl W B lim n sp tick mv = some r → wl W B lim n sp tick (mv + c) = some (r.1, r.2.1, r.2.2 + c)
  | 0, _, _, _, _, _, h => by cases h
  | n + 1, sp, tick, mv, c, r, h => by
    unfold wl at h ⊢
    dsimp only at h ⊢
    split at h
    · rename_i ho
      rw [if_pos ho]
      cases h
      rfl
    · rename_i ho
      rw [if_neg ho]
      split at h
      · cases h
      · cases h
        dsimp only
        congr 3
        omega
      · have := wl_mv n (c := c) h
        rw [← this]
        congr 1
        omega
theorem visGo_none {b n : Int} : ∀ (is : List Nat) {sp : Spot}, taken W B sp n = none → sp.lv ∈ is → isVis (lv W sp.lv) sp.pt b n = true → visGo W B b n is sp = [none]
  | [], sp, _, h, _ => by simp at h
  | i :: is, sp, ht, h, hv => by
    unfold visGo
    by_cases e : sp.lv = i
    · rw [if_pos ⟨e, by rw [← e]; exact hv⟩, ht]
    · rw [if_neg (fun z => e z.1)]
      exact visGo_none is ht (by rcases List.mem_cons.mp h with q | q; exact absurd q e; exact q) hv
theorem fin_first (ok : WOk W) {start delay : Int} {sp : Spot} (hp : placeM W B start delay = some sp) (hk : sp.lv = 0 ∨ B.fire = true) : fin W B start delay = (va (lv W sp.lv) sp.pt start, 0) := by
  have hl := placeM_lt ok hp
  have hall := ok.all _ hl
  have ht : taken W B sp (va (lv W sp.lv) sp.pt start) = none := by unfold taken; rw [if_pos hk]
  have hv : visited W B sp (va (lv W sp.lv) sp.pt start - 1) (va (lv W sp.lv) sp.pt start) = [none] := visGo_none _ ht (mem_order.mpr hl) (va_vis (by omega) (by omega) _ _)
  have hf : fol W B none 1 sp start 0 = some (none, va (lv W sp.lv) sp.pt start, 0) := by
    unfold fol
    dsimp only
    rw [show over none (va (lv W sp.lv) sp.pt start) = false from rfl, if_neg Bool.false_ne_true, hv]
    rfl
  rw [fin_some hp ok hl hf]
theorem placeM_far (ok : WOk W) {start delay : Int} (h : reach W ≤ delay) : placeM W B start delay = if B.bey = 2 then some (spotAt W B start (reach W - 1) (start + (reach W - 1))) else some ⟨W.length - 1, rnd B.up (start + reach W - 1) (lv W (W.length - 1)).g, start + delay⟩ := by
  have hre : 2 ≤ reach W := (ok.all (W.length - 1) (by have := ok.pos; omega)).2.2.2.2
  unfold placeM
  rw [if_neg (fun z => by have := z.1; omega)]
  dsimp only
  rw [if_neg (show ¬ (1 : Int) > delay by omega)]
  by_cases hb : B.bey = 2
  · rw [if_pos ⟨h, hb⟩, if_pos hb]
  · rw [if_neg (fun z => hb z.2), if_neg hb, spotAt_far ok h]
theorem fin_same (ok : WOk W) {start d d' : Int} (h : reach W ≤ d) (h' : reach W ≤ d') (hk : B.bey = 2 ∨ B.fire = true ∨ W.length = 1) : fin W B start d = fin W B start d' := by
  by_cases hb : B.bey = 2
  · unfold fin
    rw [placeM_far ok h, placeM_far ok h', if_pos hb, if_pos hb]
  · have p1 := placeM_far (B := B) ok (start := start) h
    have p2 := placeM_far (B := B) ok (start := start) h'
    rw [if_neg hb] at p1 p2
    have hk' : (W.length - 1 = 0) ∨ B.fire = true := by
      rcases hk with z | z | z
      · exact absurd z hb
      · exact .inr z
      · exact .inl (by omega)
    rw [fin_first ok p1 hk', fin_first ok p2 hk']
theorem fin_more (ok : WOk W) {start d : Int} (many : Nat) (hf : B.fire = false) (h1 : 1 < W.length) (hb : B.bey ≠ 2) (hd : reach W + (lv W (W.length - 1)).g * (lv W (W.length - 1)).s ≤ d) :
    fin W B start (d + stepM W B * many) = ((fin W B start d).1 + stepM W B * many, (fin W B start d).2 + many) := by
  have hall := ok.all (W.length - 1) (by omega)
  have hgs0 : 1 * 1 ≤ (lv W (W.length - 1)).g * (lv W (W.length - 1)).s := Int.mul_le_mul (by omega) (by omega) (by omega) (by omega)
  obtain ⟨st1, st2, st3⟩ := stepM_pos (B := B) ok
  have hD0 : 0 ≤ stepM W B * many := Int.mul_nonneg (by omega) (by omega)
  have hre : 2 ≤ reach W := hall.2.2.2.2
  have p1 := placeM_far (B := B) ok (start := start) (delay := d) (by omega)
  have p2 := placeM_far (B := B) ok (start := start) (delay := d + stepM W B * many) (by omega)
  rw [if_neg hb] at p1 p2
  have l1 := placeM_lt ok p1
  have l2 := placeM_lt ok p2
  rw [← wfin_fin ok B (by omega), ← wfin_fin ok B (by omega)]
  have key : ∀ {d' : Int} {sp : Spot}, placeM W B start d' = some sp → ∀ {n r}, wl W B none n sp start 0 = some r → wfin W B start d' = r.2 := fun {d' sp} hp {n r} hw => by
    unfold wfin
    rw [hp]
    obtain ⟨r', hr'⟩ := wl_ends ok B none (mu sp start) sp start 0 (placeM_lt ok hp) (Nat.le_refl _)
    dsimp only
    rw [hr', wl_eq hr' hw]
  -- the first visit
  generalize ht : va (lv W (W.length - 1)) (rnd B.up (start + reach W - 1) (lv W (W.length - 1)).g) start = t
  have hgt : start < t ∧ t ≤ start + (lv W (W.length - 1)).g * (lv W (W.length - 1)).s := by
    rw [← ht, Int.mul_comm (lv W (W.length - 1)).g]
    exact ⟨va_gt (by omega) (by omega) _ _, va_most (by omega) (by omega) _ _⟩
  have hg : (lv W (W.length - 1)).g ∣ t := by rw [← ht]; exact Int.dvd_mul_left _ _
  have first : ∀ {d' : Int} (n : Nat), d ≤ d' → wl W B none (n + 1) ⟨W.length - 1, rnd B.up (start + reach W - 1) (lv W (W.length - 1)).g, start + d'⟩ start 0 = wl W B none n (spotAt W B t (start + d' - t) (start + d')) t 1 := fun {d'} n hd' => by
    have hv := visit_far ok hf (sp := ⟨W.length - 1, rnd B.up (start + reach W - 1) (lv W (W.length - 1)).g, start + d'⟩) h1 rfl (t := t) (by rw [← ht]; exact va_vis (l := lv W (W.length - 1)) (by omega) (by omega) _ _) (by show reach W ≤ start + d' - t; omega)
    conv => lhs; unfold wl
    dsimp only
    rw [ht, show over none t = false from rfl, if_neg Bool.false_ne_true, hv]
    rfl
  -- near, from the first visit on
  have hprop := spotAt_proper (B := B) ok t (start + d)
  have hsl := spotAt_lt ok B t (start + d - t) (start + d)
  obtain ⟨r, hr⟩ := fol_ends ok B none _ (spotAt W B t (start + d - t) (start + d)) t 1 hsl (Nat.le_refl _)
  obtain ⟨m, hm⟩ := fol_wl ok _ hprop hsl hr
  have hnear := key p1 (n := m + 1) (by rw [first m (Int.le_refl _)]; exact hm)
  -- far
  have hDv : Dv W (W.length - 1) (stepM W B * many) := by
    obtain ⟨z, hz⟩ := st3
    rw [hz, Int.mul_assoc]
    exact dv_of ok (by omega) _
  have hix : TwM.levelIx W (start + d - t) ≤ W.length - 1 := by have := levelIx_lt ok (start + d - t); omega
  have hsh := fol_shift (B := B) ok hDv (mu (spotAt W B t (start + d - t) (start + d)) t) (sp := spotAt W B t (start + d - t) (start + d)) (tick := t) (mv := 1) (by rw [spotAt_lv]; exact hix) hsl (by rw [spotAt_due]; exact hix)
  rw [hr, ← spotAt_shift ok hDv hix] at hsh
  have e1 : start + d - t = start + d + stepM W B * many - (t + stepM W B * many) := by omega
  have hprop2 : Proper W (spotAt W B (t + stepM W B * many) (start + d - t) (start + d + stepM W B * many)) (t + stepM W B * many) := by rw [e1]; exact spotAt_proper ok _ _
  obtain ⟨m2, hm2⟩ := fol_wl ok _ hprop2 (spotAt_lt ok _ _ _ _) hsh
  have hva : va (lv W (W.length - 1)) (spotAt W B t (start + (d + stepM W B * many) - t) (start + (d + stepM W B * many))).pt t = t + stepM W B := by
    rw [spotAt_far ok (by omega)]
    exact stepM_va ok hg
  have hcm : (many : Int) * stepM W B = stepM W B * many := Int.mul_comm _ _
  have hfar := wl_far (lim := none) ok hf h1 (due := start + (d + stepM W B * many)) (step := stepM W B) many (t := t) (mv := 1) m2 hg (by omega) hva (by omega) (fun l z => by cases z)
  rw [hcm] at hfar
  have e2 : start + (d + stepM W B * many) - (t + stepM W B * many) = start + d - t := by omega
  have e3 : start + (d + stepM W B * many) = start + d + stepM W B * many := by omega
  have hm3 := wl_mv _ (c := (many : Int)) hm2
  rw [e2] at hfar
  have hfin := key p2 (n := m2 + many + 1) (r := ((shR W (stepM W B * many) r).1, (shR W (stepM W B * many) r).2.1, (shR W (stepM W B * many) r).2.2 + many)) (by
    rw [first _ (by omega), hfar, e3]
    exact hm3)
  rw [hfin, hnear]
  rfl
theorem wl_stays (ok : WOk W) (hf : B.fire = false) (h1 : 1 < W.length) {l : Int} : ∀ (n : Nat) {sp : Spot} {tick mv : Int} {r : Res}, sp.lv = W.length - 1 → reach W ≤ sp.due - l → wl W B (some l) n sp tick mv = some r → ∃ sp', r.1 = some sp' ∧ sp'.lv = W.length - 1 ∧ sp'.due = sp.due
  | 0, _, _, _, _, _, _, h => by cases h
  | n + 1, sp, tick, mv, r, hl, hr, h => by
    have hall := ok.all (W.length - 1) (by omega)
    unfold wl at h
    dsimp only at h
    split at h
    · cases h
      exact ⟨sp, rfl, hl, rfl⟩
    · rename_i ho
      have hle : va (lv W sp.lv) sp.pt tick ≤ l := by
        rcases Int.lt_or_le l (va (lv W sp.lv) sp.pt tick) with z | z
        · exact absurd (decide_eq_true z) ho
        · exact z
      have hv := visit_far ok hf h1 hl (t := va (lv W sp.lv) sp.pt tick) (va_vis (by rw [hl]; omega) (by rw [hl]; omega) _ _) (by omega)
      rw [hv] at h
      have := wl_stays ok hf h1 n (sp := spotAt W B (va (lv W sp.lv) sp.pt tick) (sp.due - va (lv W sp.lv) sp.pt tick) sp.due) (by rw [spotAt_far ok (by omega)]) (by rw [spotAt_due]; exact hr) h
      rwa [spotAt_due] at this
end
end Tw
/-! Tw: walks that are cut and go on -/
namespace Tw
open TwM
section
variable {W : List Lv} {B : Bk} {lim : Option Int}
theorem va_keep {l : Lv} (hg : 0 < l.g) (hs : 0 < l.s) {pt a b : Int} (h1 : a ≤ b) (h2 : b < va l pt a) : va l pt b = va l pt a := by
  have d := va_dvd (l := l) hs pt a
  have c := va_most (l := l) hg hs pt a
  have e : b + (va l pt a - b) = va l pt a := by omega
  have := va_uniq (l := l) hg hs (pt := pt) (tick := b) (k := va l pt a - b) (by omega) (by rw [Int.mul_comm l.g]; omega) (by rw [e]; exact d)
  omega
def Alike (r r' : Res) : Prop := r.1 = r'.1 ∧ r.2.2 = r'.2.2 ∧ (r.1 = none → r.2.1 = r'.2.1)
theorem Alike.refl (r : Res) : Alike r r := ⟨rfl, rfl, fun _ => rfl⟩
theorem wl_from (ok : WOk W) {n : Nat} {sp : Spot} {a b mv : Int} {r : Res} (hl : sp.lv < W.length) (h1 : a ≤ b) (h2 : b < va (lv W sp.lv) sp.pt a) (h : wl W B lim n sp b mv = some r) : ∃ r', wl W B lim n sp a mv = some r' ∧ Alike r r' := by
  have hall := ok.all _ hl
  cases n with
  | zero => cases h
  | succ n =>
    have e := va_keep (l := lv W sp.lv) (by omega) (by omega) h1 h2
    unfold wl at h ⊢
    dsimp only at h ⊢
    rw [e] at h
    split at h
    · rename_i ho
      rw [if_pos ho]
      cases h
      exact ⟨_, rfl, ⟨rfl, rfl, fun z => by have z : (some sp : Option Spot) = none := z; cases z⟩⟩
    · rename_i ho
      rw [if_neg ho]
      exact ⟨r, h, Alike.refl r⟩
theorem wl_cut (ok : WOk W) {b : Int} (hb : ∀ c, lim = some c → b ≤ c) : ∀ (n : Nat) {sp : Spot} {a mv : Int} {r : Res}, sp.lv < W.length → a ≤ b → wl W B (some b) n sp a mv = some r →
    (r.1 = none → wl W B lim n sp a mv = some r) ∧ ∀ sp', r.1 = some sp' → sp'.lv < W.length ∧ ∀ m r2, wl W B lim m sp' b r.2.2 = some r2 → ∃ m' r3, wl W B lim m' sp a mv = some r3 ∧ Alike r2 r3
  | 0, _, _, _, _, _, _, h => by cases h
  | n + 1, sp, a, mv, r, hl, hab, h => by
    have hgt := va_step ok hl sp.pt a
    unfold wl at h
    dsimp only at h
    split at h
    · rename_i ho
      cases h
      refine ⟨fun z => (by cases z), fun sp' z => ?_⟩
      cases z
      refine ⟨hl, fun m r2 h2 => ?_⟩
      obtain ⟨r3, h3, h4⟩ := wl_from ok hl hab (of_decide_eq_true ho) h2
      exact ⟨m, r3, h3, h4⟩
    · rename_i ho
      have hle : va (lv W sp.lv) sp.pt a ≤ b := by
        rcases Int.lt_or_le b (va (lv W sp.lv) sp.pt a) with z | z
        · exact absurd (decide_eq_true z) ho
        · exact z
      have ho2 : over lim (va (lv W sp.lv) sp.pt a) = false := by
        cases hlim : lim with
        | none => rfl
        | some c =>
          have := hb c hlim
          exact decide_eq_false (by omega)
      cases hq : (visited W B sp (va (lv W sp.lv) sp.pt a - 1) (va (lv W sp.lv) sp.pt a)).getLast? with
      | none => rw [hq] at h; cases h
      | some o =>
        rw [hq] at h
        cases o with
        | none =>
          cases h
          refine ⟨fun _ => ?_, fun sp' z => (by cases z)⟩
          unfold wl
          dsimp only
          rw [ho2, if_neg Bool.false_ne_true, hq]
        | some sp1 =>
          dsimp only at h
          obtain ⟨c1, c2⟩ := visGo_last ok _ hq
          obtain ⟨g1, g2⟩ := wl_cut ok hb n c1 hle h
          have step : ∀ {m r3}, wl W B lim m sp1 (va (lv W sp.lv) sp.pt a) (mv + (visited W B sp (va (lv W sp.lv) sp.pt a - 1) (va (lv W sp.lv) sp.pt a)).length) = some r3 → wl W B lim (m + 1) sp a mv = some r3 := fun {m r3} z => by
            unfold wl
            dsimp only
            rw [ho2, if_neg Bool.false_ne_true, hq]
            exact z
          refine ⟨fun z => step (g1 z), fun sp' z => ?_⟩
          obtain ⟨k1, k2⟩ := g2 sp' z
          refine ⟨k1, fun m r2 h2 => ?_⟩
          obtain ⟨m', r3, h3, h4⟩ := k2 m r2 h2
          exact ⟨m' + 1, r3, step h3, h4⟩
def aft (W : List Lv) (B : Bk) (sp : Spot) (a b : Int) : Option Spot := match wl W B (some b) (mu sp a) sp a 0 with
  | some r => r.1
  | none => none
theorem aft_of (ok : WOk W) {sp : Spot} {a b mv : Int} {n : Nat} {r : Res} (hl : sp.lv < W.length) (h : wl W B (some b) n sp a mv = some r) : aft W B sp a b = r.1 := by
  unfold aft
  obtain ⟨r', h'⟩ := wl_ends ok B (some b) (mu sp a) sp a 0 hl (Nat.le_refl _)
  rw [h']
  have := wl_mv _ (c := mv) h'
  rw [Int.zero_add] at this
  have e := wl_eq this h
  rw [← e]
theorem aft_comp (ok : WOk W) {sp : Spot} {a b c : Int} (hl : sp.lv < W.length) (h1 : a ≤ b) (h2 : b ≤ c) : aft W B sp a c = match aft W B sp a b with
    | none => none
    | some sp' => aft W B sp' b c := by
  obtain ⟨r, hr⟩ := wl_ends ok B (some b) (mu sp a) sp a 0 hl (Nat.le_refl _)
  obtain ⟨g1, g2⟩ := wl_cut (lim := some c) ok (fun c' z => by cases z; exact h2) _ hl h1 hr
  rw [aft_of ok hl hr]
  cases hr1 : r.1 with
  | none => rw [aft_of ok hl (g1 hr1), hr1]
  | some sp' =>
    obtain ⟨k1, k2⟩ := g2 sp' hr1
    obtain ⟨r2, hr2⟩ := wl_ends ok B (some c) (mu sp' b) sp' b r.2.2 k1 (Nat.le_refl _)
    obtain ⟨m', r3, h3, h4⟩ := k2 _ _ hr2
    rw [aft_of ok hl h3, ← h4.1]
    exact (aft_of ok k1 hr2).symm
theorem aft_fire (ok : WOk W) {sp : Spot} {a b : Int} {n : Nat} {r : Res} (hl : sp.lv < W.length) (h1 : a ≤ b) (h : wl W B none n sp a 0 = some r) : (aft W B sp a b = none ↔ r.2.1 ≤ b) ∧ r.1 = none ∧ a < r.2.1 := by
  have hnone : ∀ (n : Nat) {sp : Spot} {a mv : Int} {r : Res}, sp.lv < W.length → wl W B none n sp a mv = some r → r.1 = none ∧ a < r.2.1 := by
    intro n
    induction n with
    | zero => intro sp a mv r _ h; cases h
    | succ n ih =>
      intro sp a mv r hl h
      have hgt := va_step ok hl sp.pt a
      unfold wl at h
      dsimp only at h
      rw [show over none (va (lv W sp.lv) sp.pt a) = false from rfl, if_neg Bool.false_ne_true] at h
      split at h
      · cases h
      · cases h
        exact ⟨rfl, hgt.1⟩
      · rename_i hq
        obtain ⟨c1, c2⟩ := visGo_last ok _ hq
        have := ih c1 h
        exact ⟨this.1, by omega⟩
  have hbnd : ∀ (n : Nat) {sp : Spot} {a mv : Int} {r : Res}, sp.lv < W.length → a ≤ b → wl W B (some b) n sp a mv = some r → r.2.1 ≤ b := by
    intro n
    induction n with
    | zero => intro sp a mv r _ _ h; cases h
    | succ n ih =>
      intro sp a mv r hl hab h
      unfold wl at h
      dsimp only at h
      split at h
      · cases h; exact hab
      · rename_i ho
        have hle : va (lv W sp.lv) sp.pt a ≤ b := by
          rcases Int.lt_or_le b (va (lv W sp.lv) sp.pt a) with z | z
          · exact absurd (decide_eq_true z) ho
          · exact z
        split at h
        · cases h
        · cases h; exact hle
        · rename_i hq
          obtain ⟨c1, c2⟩ := visGo_last ok _ hq
          exact ih c1 hle h
  obtain ⟨z1, z2⟩ := hnone n hl h
  refine ⟨?_, z1, z2⟩
  obtain ⟨r', hr'⟩ := wl_ends ok B (some b) (mu sp a) sp a 0 hl (Nat.le_refl _)
  obtain ⟨g1, g2⟩ := wl_cut (lim := none) ok (fun c z => by cases z) _ hl h1 hr'
  rw [aft_of ok hl hr']
  cases hr1 : r'.1 with
  | none =>
    have := wl_eq (g1 hr1) h
    rw [← this]
    exact ⟨fun _ => hbnd _ hl h1 hr', fun _ => rfl⟩
  | some sp' =>
    obtain ⟨k1, k2⟩ := g2 sp' hr1
    obtain ⟨r2, hr2⟩ := wl_ends ok B none (mu sp' b) sp' b r'.2.2 k1 (Nat.le_refl _)
    obtain ⟨m', r3, h3, h4⟩ := k2 _ _ hr2
    have e := wl_eq h3 h
    obtain ⟨y1, y2⟩ := hnone _ k1 hr2
    have := h4.2.2 y1
    rw [e] at this
    exact ⟨fun z => (by cases z), fun z => by omega⟩
theorem aft_ind (ok : WOk W) {b : Int} {P : Spot → Int → Prop} (hv : ∀ sp t sp', P sp t → t ≤ b → (visited W B sp (t - 1) t).getLast? = some (some sp') → P sp' t) (hm : ∀ sp t t', P sp t → t ≤ t' → t' ≤ b → P sp t') :
    ∀ (n : Nat) {sp : Spot} {a mv : Int} {r : Res} {sp' : Spot}, sp.lv < W.length → a ≤ b → P sp a → wl W B (some b) n sp a mv = some r → r.1 = some sp' → P sp' b
  | 0, _, _, _, _, _, _, _, _, h, _ => by cases h
  | n + 1, sp, a, mv, r, sp', hl, hab, hp, h, hr => by
    have hgt := va_step ok hl sp.pt a
    unfold wl at h
    dsimp only at h
    split at h
    · cases h
      cases hr
      exact hm _ _ _ hp hab (Int.le_refl _)
    · rename_i ho
      have hle : va (lv W sp.lv) sp.pt a ≤ b := by
        rcases Int.lt_or_le b (va (lv W sp.lv) sp.pt a) with z | z
        · exact absurd (decide_eq_true z) ho
        · exact z
      split at h
      · cases h
      · cases h; cases hr
      · rename_i hq
        obtain ⟨c1, c2⟩ := visGo_last ok _ hq
        exact aft_ind ok hv hm n c1 hle (hv _ _ _ (hm _ _ _ hp (by omega) hle) hle hq) h hr
structure SpB (N : Int) (sp : Spot) : Prop where
  p0 : 0 ≤ sp.pt
  p1 : sp.pt ≤ N
  d0 : 0 ≤ sp.due
  d1 : sp.due ≤ N
theorem TwM_vis {W : List Lv} {B : Bk} {b n : Int} : ∀ (is : List Nat) {sp : Spot}, visGo W B b n is sp ≠ [] → isVis (lv W sp.lv) sp.pt b n = true
  | [], sp, h => absurd rfl h
  | i :: is, sp, h => by
    unfold visGo at h
    split at h
    · rename_i hc
      rw [hc.1]; exact hc.2
    · exact TwM_vis is h
theorem TwM_no {l : Lv} (hg : 0 < l.g) (hs : 0 < l.s) (pt : Int) {a b n : Int} (h1 : a ≤ b) (h2 : n < va l pt a) (h : isVis l pt b n = true) : False := by
  unfold isVis at h
  have h := of_decide_eq_true h
  unfold va at h2
  have m1 : a / l.g ≤ b / l.g := Int.ediv_le_ediv hg h1
  have m2 : n / l.g < a / l.g + 1 + (pt - a / l.g - 1) % l.s := Int.ediv_lt_of_lt_mul hg h2
  have k0 := Int.emod_nonneg (pt - b / l.g - 1) (b := l.s) (by omega)
  have k1 := Int.emod_nonneg (pt - a / l.g - 1) (b := l.s) (by omega)
  have i1 := hit_iff (q := a / l.g + 1) (pt := pt) (s := l.s) (j := b / l.g - a / l.g + (pt - b / l.g - 1) % l.s) hs (by omega)
  have e1 : pt - (a / l.g + 1) = pt - a / l.g - 1 := by omega
  rw [e1] at i1
  have e2 : a / l.g + 1 + (b / l.g - a / l.g + (pt - b / l.g - 1) % l.s) - pt = -((pt - b / l.g - 1) - (pt - b / l.g - 1) % l.s) := by omega
  have e3 : (a / l.g + 1 + (b / l.g - a / l.g + (pt - b / l.g - 1) % l.s) - pt) % l.s = 0 := by
    rw [e2]
    have := Int.mul_ediv_add_emod (pt - b / l.g - 1) l.s
    rw [show (pt - b / l.g - 1) - (pt - b / l.g - 1) % l.s = l.s * ((pt - b / l.g - 1) / l.s) by omega, ← Int.mul_neg]
    exact Int.mul_emod_right _ _
  have := (i1 (by omega)).mp e3
  omega
theorem aft_one (ok : WOk W) {sp : Spot} {t : Int} (hl : sp.lv < W.length) : aft W B sp (t - 1) t = match (visited W B sp (t - 1) t).getLast? with
    | none => some sp
    | some o => o := by
  have hall := ok.all _ hl
  have hgt := va_step ok hl sp.pt (t - 1)
  obtain ⟨r, hr⟩ := wl_ends ok B (some t) (mu sp (t - 1)) sp (t - 1) 0 hl (Nat.le_refl _)
  have h0 := hr
  rw [aft_of ok hl hr]
  have hmu1 : 1 ≤ mu sp (t - 1) := by unfold mu; split <;> omega
  have hmu : ∃ n, mu sp (t - 1) = n + 1 := ⟨mu sp (t - 1) - 1, by omega⟩
  obtain ⟨n, hn⟩ := hmu
  rw [hn] at hr
  unfold wl at hr
  dsimp only at hr
  by_cases he : va (lv W sp.lv) sp.pt (t - 1) = t
  · rw [he] at hr
    rw [if_neg (by unfold over; simp)] at hr
    cases hq : (visited W B sp (t - 1) t).getLast? with
    | none =>
      have := visited_ne ok (B := B) hl (tick := t - 1)
      rw [he] at this
      exact absurd (List.getLast?_eq_none_iff.mp hq) this
    | some o =>
      rw [hq] at hr
      cases o with
      | none => cases hr; rfl
      | some sp' =>
        dsimp only at hr ⊢
        obtain ⟨c1, c2⟩ := visGo_last ok _ hq
        have hg2 := va_step ok c1 sp'.pt t
        cases n with
        | zero => cases hr
        | succ n =>
          unfold wl at hr
          dsimp only at hr
          rw [if_pos (by unfold over; exact decide_eq_true (by omega))] at hr
          cases hr
          rfl
  · rw [if_pos (by unfold over; exact decide_eq_true (by omega))] at hr
    cases hr
    have hnil : visited W B sp (t - 1) t = [] := by
      apply Classical.byContradiction
      intro hne
      have hvis := TwM_vis (W := W) (B := B) (order W B) hne
      exact TwM_no (by omega) (by omega) sp.pt (a := t - 1) (b := t - 1) (n := t) (Int.le_refl _) (by omega) hvis
    rw [hnil]
    rfl
end
end Tw
/-! Tw: texts of spots and of tuples of numbers -/
namespace Tw
open PySem PySem.Spec PyProof.Rows L2 He TwM StX
open PySem.W (Frag)
section
variable {K : Frag} {H : Hp}
theorem lg {x : Int} (h0 : 0 ≤ x) (h : x ≤ 2 ^ 250) : x.natAbs.log2 < 251 := PySem.Flt.log2_lt_of (k := 251) (by decide) (by
  have e : (2 : Int) ^ 250 = ((2 ^ 250 : Nat) : Int) := by norm_cast
  have : x.natAbs ≤ 2 ^ 250 := by omega
  exact Nat.lt_of_le_of_lt this (by decide +kernel))
theorem shown_ints_all : ∀ l : List Int, (∀ x ∈ l, x.natAbs.log2 < 1920) → PyData.showableAll (l.map PyData.int) = true
  | [], _ => rfl
  | x :: l, h => by
    rw [List.map_cons]
    show (PyData.showable (.int x) && PyData.showableAll (l.map PyData.int)) = true
    rw [shown_ints_all l fun y hy => h y (List.mem_cons_of_mem _ hy), Bool.and_true]
    exact decide_eq_true (h x (List.mem_cons_self ..))
theorem hasDict_ints : ∀ l : List Int, PyData.hasDictAll (l.map PyData.int) = false
  | [] => rfl
  | x :: l => by
    rw [List.map_cons]
    show (PyData.hasDict (.int x) || PyData.hasDictAll (l.map PyData.int)) = false
    rw [hasDict_ints l]
    rfl
theorem piled_ints : ∀ l : List Int, (∀ x ∈ l, x.natAbs.log2 < 1920) → piled (PyData.shownAll (l.map PyData.int)) ≤ 1923 * l.length
  | [], _ => Nat.le_refl _
  | x :: l, h => by
    have ih := piled_ints l fun y hy => h y (List.mem_cons_of_mem _ hy)
    have h1 := int_text_length_le (k := 1920) (by decide) (h x (List.mem_cons_self ..))
    rw [List.map_cons]
    show piled (Str.ofString (toString x) :: PyData.shownAll (l.map PyData.int)) ≤ _
    rw [piled_cons, PySem.ofString_length, List.length_cons]
    omega
theorem repr_ints {v : V} {l : List Int} {Q : VK} (hd : Dp K H v (.tuple (l.map PyData.int))) (hl : l.length ≤ 8000) (hb : ∀ x ∈ l, x.natAbs.log2 < 1920) (q : Q (.str (PyData.tuple (l.map PyData.int)).shown) H) : rReprG K [v] H Q := by
  refine ⟨v, _, rfl, hd, shown_ints_all l hb, hasDict_ints l, ?_, ?_, q⟩
  · have := depth_ints l
    show PyData.depthAll (l.map PyData.int) + 1 ≤ 16
    omega
  · have h1 := piled_ints l hb
    have h2 := fmt_text (PyData.shownAll (l.map PyData.int))
    have h3 : sizeLine = 16777216 := rfl
    show (tupleText (PyData.shownAll (l.map PyData.int))).length ≤ sizeLine
    omega
theorem repr_spot {v : V} {o : Option Spot} {Q : VK} (h : OSp H v o) (hb : ∀ sp, o = some sp → SpB (2 ^ 250) sp ∧ sp.lv < 100) (q : Q (.str (dSp o).shown) H) : rReprG K [v] H Q := by
  cases o with
  | none => exact ⟨v, .none, rfl, h.dp, rfl, rfl, Nat.zero_le _, by decide +kernel, q⟩
  | some sp =>
    obtain ⟨b, hl⟩ := hb sp rfl
    refine repr_ints (l := [(sp.lv : Int), sp.pt, sp.due]) h.dp (show 3 ≤ 8000 by decide) (fun x hx => ?_) q
    have b1 := lg b.p0 b.p1
    have b2 := lg b.d0 b.d1
    have b3 := lg (x := (sp.lv : Int)) (by omega) (by
      have : (100 : Int) ≤ 2 ^ 250 := by decide +kernel
      omega)
    simp only [List.mem_cons, List.not_mem_nil, or_false] at hx
    rcases hx with rfl | rfl | rfl <;> omega
end
end Tw
/-! Tw: the law's name of a caught error -/
namespace Tw
open PySem PySem.Spec PyProof.Rows L2 He TwM StX
open PySem.W (Frag)
local macro_rules | `(tactic| walk_at "rsl") => `(tactic| simp only [*, at3_0, at3_1, at3_2, at2_0, at2_1, updS, upd_two, gSub, rSetL, updN, tPar, tPar3, gTup, gCons, gNil, and_assoc, not_true_eq_false, not_false_eq_true, tNever, List.length_map, tFld, rIxTH, rIxLH, rLenTH, rLenLH, lk1, lfs_g, lfs_s, lfs_p, HO.ins.injEq, HO.tup.injEq, HO.lst.injEq, sp_Book_rounding, sp_Book_action, sp_Book_order, sp_Book_due, sp_Book_zero, sp_Book_beyond, Int.toNat_natCast, sp_visit_after, sp_is_visited, sp_Level_grain, sp_Level_slots, sp_Level_span, sp_Wheel_reach, sp_Wheel___len__, sp_is_integer, sp_is_count, sp_is_within, sp_rounded, tAsg, gName, tVar, tC, tOp, rI, rI0, rU, tUn, oAdd, oSub, oMul, oDiv, oMod, oNeg, oLt, oLe, oGt, oGe, oIsN, oNotN, tFn, tCons, tNil, tIfS, tIf, tTest, tB, tNot, tAnd, tOr, tAndV, tOrV, tNotV,
    tRet, tRetN, tNext, tCB, tDrop, tChain, rEq, rNe, oMax2, oMin2, oInt1, rLenF, L2.start, List.map_cons, List.map_nil, List.length_cons, List.length_nil, List.replicate_succ, List.replicate_zero, List.cons_append, List.nil_append, Nat.reduceAdd, Nat.reduceSub, Nat.zero_add,
    List.set_cons_zero, List.set_cons_succ, List.getElem?_cons_zero, List.getElem?_cons_succ, Option.some.injEq, V.int.injEq, V.ref.injEq, V.str.injEq, V.bl.injEq, exists_eq_left', exists_eq_left, exists_and_left, List.cons.injEq, and_true, true_and, decide_eq_true_eq, sc_ii, sc_ss, sc_bb, sc_ni, sc_in, sc_nn, sc_is, reduceCtorEq,
    Bool.not_eq_true', decide_eq_false_iff_not, if_true, if_false, Bool.false_eq_true, exists_eq', exists_const, false_and, and_false, or_false, false_or, exists_false, Bool.not_not, Bool.not_true, Bool.not_false, sUp_up, sFire_fire, sHigh_high, sPut_put, sZone_now, sBey_refuse, sBey_cut, tTup, tLst, sz0, sz1, sz2, sz3, sz4, sz5, sz6])
local macro_rules | `(tactic| walk_at "st") => `(tactic| ((try dsimp only); rw [seq1]; walk_at "rsl"))
section
variable {K : Frag} {w : World}
def sp__law_kind (K : Frag) (p : Addr × Obj) : Sp := fun vs H Q _ => ∃ (D : Addr) (d : Option Addr) (i : Nat), vs = [.ref p.1] ∧ KnF K D i ∧ Zc (.ref D) d p.2 ∧ (∃ vs, p.2.data = .fields vs) ∧ DicO H d ∧ ∀ H', Same H H' → Q (.str (kdN.getD i "")) H'
def n__law_kind : List PySem.Str := ["_law_error", "_law_kinds", "_law_names"]
def t__law_kind (K : Frag) (p : Addr × Obj) : TS :=
  (tSeq (tAsg (tLst (tCons (tCB (rIsP K p) (tCons (tVar 0) (tCons (tC (.ref (ga K "InvalidNumber"))) tNil))) (tCons (tCB (rIsP K p) (tCons (tVar 0) (tCons (tC (.ref (ga K "InvalidText"))) tNil))) (tCons (tCB (rIsP K p) (tCons (tVar 0) (tCons (tC (.ref (ga K "InvalidName"))) tNil))) tNil)))) (gName 1))
  (tSeq (tAsg (tOp rCat (tVar 1) (tLst (tCons (tCB (rIsP K p) (tCons (tVar 0) (tCons (tC (.ref (ga K "InvalidLevels"))) tNil))) (tCons (tCB (rIsP K p) (tCons (tVar 0) (tCons (tC (.ref (ga K "InvalidSwitch"))) tNil))) tNil)))) (gName 1))
  (tSeq (tAsg (tOp rCat (tVar 1) (tLst (tCons (tCB (rIsP K p) (tCons (tVar 0) (tCons (tC (.ref (ga K "InvalidMode"))) tNil))) (tCons (tCB (rIsP K p) (tCons (tVar 0) (tCons (tC (.ref (ga K "InvalidMenu"))) tNil))) (tCons (tCB (rIsP K p) (tCons (tVar 0) (tCons (tC (.ref (ga K "InvalidPlan"))) tNil))) tNil))))) (gName 1))
  (tSeq (tAsg (tOp rCat (tVar 1) (tLst (tCons (tCB (rIsP K p) (tCons (tVar 0) (tCons (tC (.ref (ga K "InvalidCommand"))) tNil))) (tCons (tCB (rIsP K p) (tCons (tVar 0) (tCons (tC (.ref (ga K "TooLong"))) tNil))) (tCons (tCB (rIsP K p) (tCons (tVar 0) (tCons (tC (.ref (ga K "TooMany"))) tNil))) tNil))))) (gName 1))
  (tSeq (tAsg (tOp rCat (tVar 1) (tLst (tCons (tCB (rIsP K p) (tCons (tVar 0) (tCons (tC (.ref (ga K "NothingToUndo"))) tNil))) tNil))) (gName 1))
  (tSeq (tIfS (tOr (tTest (tOp rNe (tBM K "list" (rCntF K) (tVar 1) (tCons (tC (.bl true)) tNil)) (tC (.int 1)))) (tTest (tOp rNe (tCB (rIsP K p) (tCons (tVar 0) (tCons (tC (.ref (ga K "WheelError"))) tNil))) (tOp oLt (tBM K "list" (rIndex K) (tVar 1) (tCons (tC (.bl true)) tNil)) (tC (.int 9)))))) (tRet (tC (.str "odd"))) tNext)
  (tSeq (tAsg (tLst (tCons (tC (.str "number")) (tCons (tC (.str "text")) (tCons (tC (.str "name")) (tCons (tC (.str "levels")) (tCons (tC (.str "switch")) (tCons (tC (.str "mode")) (tCons (tC (.str "menu")) (tCons (tC (.str "plan")) (tCons (tC (.str "command")) (tCons (tC (.str "long")) (tCons (tC (.str "many")) (tCons (tC (.str "undo")) tNil))))))))))))) (gName 2))
  (tRet (tOp rIxLH (tVar 2) (tBM K "list" (rIndex K) (tVar 1) (tCons (tC (.bl true)) tNil)))))))))))
theorem rd__law_kind {p : Addr × Obj} (vs : List V) (H : Hp) (Q : VK) (E : XK) (h : sp__law_kind K p vs H Q E) : t__law_kind K p { nx := fun _ H' => Q .non H', rt := Q } (L2.start n__law_kind vs) H := by
  obtain ⟨D, d, i, rfl, F, hz, hv, hd, q⟩ := h
  have isP : ∀ (j : Nat) {x : PySem.Str} {H' : Hp} {Q' : VK}, Same H H' → erN[j]? = some x → Q' (.bl (decide (j = i))) H' → rIsP K p [.ref p.1, .ref (ga K x)] H' Q' := fun j {x H' Q'} s e q' => ⟨D, _, _, _, d, F.exc, rfl, hz, hv, hd.same s, fun u r => r, F.is j x e, q'⟩
  have isW : ∀ {H' : Hp} {Q' : VK}, Same H H' → Q' (.bl (decide (i < 9))) H' → rIsP K p [.ref p.1, .ref (ga K "WheelError")] H' Q' := fun {H' Q'} s q' => ⟨D, _, _, _, d, F.exc, rfl, hz, hv, hd.same s, fun u r => r, F.wh, q'⟩
  unfold t__law_kind n__law_kind
  rw [seq1]
  walk_at "rsl"
  refine isP 0 (Same.refl _) rfl (isP 1 (Same.refl _) rfl (isP 2 (Same.refl _) rfl fun A hA => ?_))
  have s1 := Same.new (o := .lst [V.bl (decide (0 = i)), V.bl (decide (1 = i)), V.bl (decide (2 = i))]) hA
  have A1 := updS H A (.lst [V.bl (decide (0 = i)), V.bl (decide (1 = i)), V.bl (decide (2 = i))])
  generalize upd H A (.lst [V.bl (decide (0 = i)), V.bl (decide (1 = i)), V.bl (decide (2 = i))]) = H1 at *
  walk_at "st"
  refine isP 3 s1 rfl (isP 4 s1 rfl (fun B hB => ?_))
  refine ⟨A, B, _, _, rfl, rfl, Same.new hB _ _ A1, updS _ _ _, (show 5 ≤ 16777216 by decide), fun C hC => ?_⟩
  have s2 := s1.trans ((Same.new (o := .lst [V.bl (decide (3 = i)), V.bl (decide (4 = i))]) hB).trans (Same.new (o := .lst ([V.bl (decide (0 = i)), V.bl (decide (1 = i)), V.bl (decide (2 = i))] ++ [V.bl (decide (3 = i)), V.bl (decide (4 = i))])) hC))
  have C1 := updS (upd H1 B (.lst [V.bl (decide (3 = i)), V.bl (decide (4 = i))])) C (.lst ([V.bl (decide (0 = i)), V.bl (decide (1 = i)), V.bl (decide (2 = i))] ++ [V.bl (decide (3 = i)), V.bl (decide (4 = i))]))
  generalize upd (upd H1 B (.lst [V.bl (decide (3 = i)), V.bl (decide (4 = i))])) C (.lst ([V.bl (decide (0 = i)), V.bl (decide (1 = i)), V.bl (decide (2 = i))] ++ [V.bl (decide (3 = i)), V.bl (decide (4 = i))])) = H2 at *
  simp only [List.cons_append, List.nil_append] at C1
  walk_at "st"
  refine isP 5 s2 rfl (isP 6 s2 rfl (isP 7 s2 rfl (fun B2 hB2 => ?_)))
  refine ⟨C, B2, _, _, rfl, rfl, Same.new hB2 _ _ C1, updS _ _ _, (show 8 ≤ 16777216 by decide), fun C2 hC2 => ?_⟩
  have s3 := s2.trans ((Same.new (o := .lst [V.bl (decide (5 = i)), V.bl (decide (6 = i)), V.bl (decide (7 = i))]) hB2).trans (Same.new (o := .lst ([V.bl (decide (0 = i)), V.bl (decide (1 = i)), V.bl (decide (2 = i)), V.bl (decide (3 = i)), V.bl (decide (4 = i))] ++ [V.bl (decide (5 = i)), V.bl (decide (6 = i)), V.bl (decide (7 = i))])) hC2))
  have C21 := updS (upd H2 B2 (.lst [V.bl (decide (5 = i)), V.bl (decide (6 = i)), V.bl (decide (7 = i))])) C2 (.lst ([V.bl (decide (0 = i)), V.bl (decide (1 = i)), V.bl (decide (2 = i)), V.bl (decide (3 = i)), V.bl (decide (4 = i))] ++ [V.bl (decide (5 = i)), V.bl (decide (6 = i)), V.bl (decide (7 = i))]))
  generalize upd (upd H2 B2 (.lst [V.bl (decide (5 = i)), V.bl (decide (6 = i)), V.bl (decide (7 = i))])) C2 (.lst ([V.bl (decide (0 = i)), V.bl (decide (1 = i)), V.bl (decide (2 = i)), V.bl (decide (3 = i)), V.bl (decide (4 = i))] ++ [V.bl (decide (5 = i)), V.bl (decide (6 = i)), V.bl (decide (7 = i))])) = H3 at *
  simp only [List.cons_append, List.nil_append] at C21
  walk_at "st"
  refine isP 8 s3 rfl (isP 9 s3 rfl (isP 10 s3 rfl (fun B3 hB3 => ?_)))
  refine ⟨C2, B3, _, _, rfl, rfl, Same.new hB3 _ _ C21, updS _ _ _, (show 11 ≤ 16777216 by decide), fun C3 hC3 => ?_⟩
  have s4 := s3.trans ((Same.new (o := .lst [V.bl (decide (8 = i)), V.bl (decide (9 = i)), V.bl (decide (10 = i))]) hB3).trans (Same.new (o := .lst ([V.bl (decide (0 = i)), V.bl (decide (1 = i)), V.bl (decide (2 = i)), V.bl (decide (3 = i)), V.bl (decide (4 = i)), V.bl (decide (5 = i)), V.bl (decide (6 = i)), V.bl (decide (7 = i))] ++ [V.bl (decide (8 = i)), V.bl (decide (9 = i)), V.bl (decide (10 = i))])) hC3))
  have C31 := updS (upd H3 B3 (.lst [V.bl (decide (8 = i)), V.bl (decide (9 = i)), V.bl (decide (10 = i))])) C3 (.lst ([V.bl (decide (0 = i)), V.bl (decide (1 = i)), V.bl (decide (2 = i)), V.bl (decide (3 = i)), V.bl (decide (4 = i)), V.bl (decide (5 = i)), V.bl (decide (6 = i)), V.bl (decide (7 = i))] ++ [V.bl (decide (8 = i)), V.bl (decide (9 = i)), V.bl (decide (10 = i))]))
  generalize upd (upd H3 B3 (.lst [V.bl (decide (8 = i)), V.bl (decide (9 = i)), V.bl (decide (10 = i))])) C3 (.lst ([V.bl (decide (0 = i)), V.bl (decide (1 = i)), V.bl (decide (2 = i)), V.bl (decide (3 = i)), V.bl (decide (4 = i)), V.bl (decide (5 = i)), V.bl (decide (6 = i)), V.bl (decide (7 = i))] ++ [V.bl (decide (8 = i)), V.bl (decide (9 = i)), V.bl (decide (10 = i))])) = H4 at *
  simp only [List.cons_append, List.nil_append] at C31
  walk_at "st"
  refine isP 11 s4 rfl (fun B4 hB4 => ?_)
  refine ⟨C3, B4, _, _, rfl, rfl, Same.new hB4 _ _ C31, updS _ _ _, (show 12 ≤ 16777216 by decide), fun C4 hC4 => ?_⟩
  have s5 := s4.trans ((Same.new (o := .lst [V.bl (decide (11 = i))]) hB4).trans (Same.new (o := .lst ([V.bl (decide (0 = i)), V.bl (decide (1 = i)), V.bl (decide (2 = i)), V.bl (decide (3 = i)), V.bl (decide (4 = i)), V.bl (decide (5 = i)), V.bl (decide (6 = i)), V.bl (decide (7 = i)), V.bl (decide (8 = i)), V.bl (decide (9 = i)), V.bl (decide (10 = i))] ++ [V.bl (decide (11 = i))])) hC4))
  have C41 := updS (upd H4 B4 (.lst [V.bl (decide (11 = i))])) C4 (.lst ([V.bl (decide (0 = i)), V.bl (decide (1 = i)), V.bl (decide (2 = i)), V.bl (decide (3 = i)), V.bl (decide (4 = i)), V.bl (decide (5 = i)), V.bl (decide (6 = i)), V.bl (decide (7 = i)), V.bl (decide (8 = i)), V.bl (decide (9 = i)), V.bl (decide (10 = i))] ++ [V.bl (decide (11 = i))]))
  generalize upd (upd H4 B4 (.lst [V.bl (decide (11 = i))])) C4 (.lst ([V.bl (decide (0 = i)), V.bl (decide (1 = i)), V.bl (decide (2 = i)), V.bl (decide (3 = i)), V.bl (decide (4 = i)), V.bl (decide (5 = i)), V.bl (decide (6 = i)), V.bl (decide (7 = i)), V.bl (decide (8 = i)), V.bl (decide (9 = i)), V.bl (decide (10 = i))] ++ [V.bl (decide (11 = i))])) = H5 at *
  simp only [List.cons_append, List.nil_append] at C41
  have hi := F.lt
  have hi : i = 0 ∨ i = 1 ∨ i = 2 ∨ i = 3 ∨ i = 4 ∨ i = 5 ∨ i = 6 ∨ i = 7 ∨ i = 8 ∨ i = 9 ∨ i = 10 ∨ i = 11 := by omega
  have ix : ∀ {H' : Hp} {Q' : VK}, Same H5 H' → Q' (.int (i : Nat)) H' → rIndex K (.ref C4) [.bl true] H' Q' := fun {H' Q'} s q' => by
    refine ⟨C4, _, .bl true, i, .bl true, rfl, rfl, SqL.of (s _ _ C41), rfl, rfl, ?_, rfl, fun m z hm hz => ?_, q'⟩
    · rcases hi with rfl | rfl | rfl | rfl | rfl | rfl | rfl | rfl | rfl | rfl | rfl | rfl <;> rfl
    · have hb : z = .bl (decide (m = i)) := by
        have hm9 : m = 0 ∨ m = 1 ∨ m = 2 ∨ m = 3 ∨ m = 4 ∨ m = 5 ∨ m = 6 ∨ m = 7 ∨ m = 8 ∨ m = 9 ∨ m = 10 := by omega
        rcases hm9 with rfl | rfl | rfl | rfl | rfl | rfl | rfl | rfl | rfl | rfl | rfl <;> exact (Option.some.inj hz).symm
      rw [hb, decide_eq_false (by omega)]
      rfl
  have ct : ∀ {Q' : VK}, Q' (.int 1) H5 → rCntF K (.ref C4) [.bl true] H5 Q' := fun {Q'} q' => by
    refine ⟨C4, _, .bl true, rfl, rfl, SqL.of C41, rfl, rfl, ?_⟩
    have e : ([V.bl (decide (0 = i)), V.bl (decide (1 = i)), V.bl (decide (2 = i)), V.bl (decide (3 = i)), V.bl (decide (4 = i)), V.bl (decide (5 = i)), V.bl (decide (6 = i)), V.bl (decide (7 = i)), V.bl (decide (8 = i)), V.bl (decide (9 = i)), V.bl (decide (10 = i)), V.bl (decide (11 = i))] : List V).countP (fun z => eqV z (.bl true)) = 1 := by
      rcases hi with rfl | rfl | rfl | rfl | rfl | rfl | rfl | rfl | rfl | rfl | rfl | rfl <;> decide
    rw [e]
    exact q'
  have nm : kdN[i]? = some (kdN.getD i "") := by
    rcases hi with rfl | rfl | rfl | rfl | rfl | rfl | rfl | rfl | rfl | rfl | rfl | rfl <;> rfl
  unfold tBM
  walk_at "st"
  refine ⟨.inl ⟨rfl, _, SqL.of C41⟩, ct ⟨rfl, ?_⟩⟩
  rw [if_neg (fun z => z rfl)]
  refine isW s5 ⟨.inl ⟨rfl, _, SqL.of C41⟩, ix (Same.refl _) ⟨_, rfl, rfl, ?_⟩⟩
  have hlt : decide (((i : Nat) : Int) < 9) = decide (i < 9) := by
    by_cases h9 : i < 9
    · rw [decide_eq_true h9, decide_eq_true (show ((i : Nat) : Int) < 9 by omega)]
    · rw [decide_eq_false h9, decide_eq_false (show ¬ ((i : Nat) : Int) < 9 by omega)]
  rw [hlt, if_neg (fun z => z rfl)]
  walk_at "st"
  have h12 : (12 : Nat) ≤ sizeLine := by decide
  refine ⟨h12, fun L hL => ?_⟩
  have x6 := Same.new (o := .lst [V.str (Str.ofString "number"), V.str (Str.ofString "text"), V.str (Str.ofString "name"), V.str (Str.ofString "levels"), V.str (Str.ofString "switch"), V.str (Str.ofString "mode"), V.str (Str.ofString "menu"), V.str (Str.ofString "plan"), V.str (Str.ofString "command"), V.str (Str.ofString "long"), V.str (Str.ofString "many"), V.str (Str.ofString "undo")]) hL
  refine ⟨.inl ⟨rfl, _, SqL.of (x6 _ _ C41)⟩, ix x6 ⟨_, _, rfl, updS _ _ _, _, ?_, q _ (s5.trans x6)⟩⟩
  rcases hi with rfl | rfl | rfl | rfl | rfl | rfl | rfl | rfl | rfl | rfl | rfl | rfl <;> rfl
end
end Tw
/-! Tw: a lambda is called, an error that comes out is named and shown -/
namespace Tw
open PySem PySem.Spec PyProof.Rows L2 LamX He
open L2H (RoomH)
theorem call_reprU {X : Cx} (gd : X.A.guards = some []) (hu : X.A.units + 40 < cLine) : CallR X (.builtin "repr") (rReprG X.K) := by
  intro pins s σ H xs us Q I r h
  obtain ⟨x, d, rfl, hd, h1, h2, h3, h4, q⟩ := h
  obtain ⟨u, rfl, ru⟩ := vals1 r
  obtain ⟨as, hR⟩ := Dp.reads I d x u hd ru
  cases hR with
  | none => exact PySem.P.repr_of_none ⟨.str _, H, I.tok _, ⟨_, rfl⟩, q⟩
  | bool b => exact PySem.P.repr_of_bool ⟨.str _, H, I.tok _, ⟨_, rfl⟩, q⟩
  | int i t => exact PySem.P.repr_of_int (of_decide_eq_true h1) ⟨.str _, H, I.tok _, ⟨_, rfl⟩, q⟩
  | str y t => exact PySem.P.repr_of_str ⟨.str _, H, I.tok _, ⟨_, rfl⟩, q⟩ h4
  | list a1 a2 a3 a4 => exact repr_of_reads' (.list a1 a2 a3 a4) h1 (fun z => by rw [h2] at z; cases z) gd (by omega) (fun _ _ z => z) (fun h' u tk hk => ⟨.str _, H, I.kept hk, ⟨_, rfl⟩, q⟩) h4
  | tuple a1 a2 a3 a4 => exact repr_of_reads' (.tuple a1 a2 a3 a4) h1 (fun z => by rw [h2] at z; cases z) gd (by omega) (fun _ _ z => z) (fun h' u tk hk => ⟨.str _, H, I.kept hk, ⟨_, rfl⟩, q⟩) h4
  | dict => simp [PyData.hasDict] at h2
def rReprD0 : List V → Hp → VK → Prop := fun xs H Q => ∃ a, xs = [.ref a] ∧ H a = some (.dK []) ∧ Q (.str (PyData.dict []).shown) H
theorem call_reprD0 {X : Cx} (gd : X.A.guards = some []) (hu : X.A.units + 40 < cLine) : CallR X (.builtin "repr") rReprD0 := by
  intro pins s σ H xs us Q I r h
  obtain ⟨a, rfl, ha, q⟩ := h
  rw [Vals.ref1 r]
  have hx : ObjOk X.prog X.w H s.heap a (.dK []) := I.hok a _ ha
  obtain ⟨_, hn, vs, hkv, ho⟩ := hx
  cases hkv
  obtain ⟨o, es, ep, ho, hex, hd, _, hp, _⟩ := ho
  have hes : es = #[] := by
    cases h0 : es.toList with
    | nil => exact Array.toList_inj.mp h0
    | cons x l => rw [h0] at hp; cases hp
  subst hes
  have hr : Reads s.heap (.ref a) (.dict []) (a :: [] ++ []) := .dict (kvs := []) ho hex.1 hd .nil .nil
  have hdp : (PyData.dict []).depth ≤ 8 := by decide
  exact repr_of_reads' hr rfl (fun _ m => by
    have e : sysModules = a := by simpa using m
    rw [← e] at hn
    simp at hn) gd (by omega) (fun _ _ z => z) (fun h' u tk hk => ⟨.str _, H, I.kept hk, ⟨_, rfl⟩, q⟩) (by decide)
def rReprD1 : List V → Hp → VK → Prop := fun xs H Q => ∃ a i j, xs = [.ref a] ∧ H a = some (.dK [(Sum.inl i, .int j)]) ∧ i.natAbs.log2 < 1920 ∧ j.natAbs.log2 < 1920 ∧ (PyData.dict [(.int i, .int j)]).shown.length ≤ sizeLine ∧ Q (.str (PyData.dict [(.int i, .int j)]).shown) H
theorem call_reprD1 {X : Cx} (gd : X.A.guards = some []) (hu : X.A.units + 40 < cLine) : CallR X (.builtin "repr") rReprD1 := by
  intro pins s σ H xs us Q I r h
  obtain ⟨a, i, j, rfl, ha, hi, hj, hz, q⟩ := h
  rw [Vals.ref1 r]
  have hx : ObjOk X.prog X.w H s.heap a (.dK [(Sum.inl i, .int j)]) := I.hok a _ ha
  obtain ⟨hlen, hn, vs, hkv, ho⟩ := hx
  cases hkv with
  | cons h1 h2 =>
    cases h2
    obtain ⟨o, es, ep, ho, hex, hd, hko, hp, hnd⟩ := ho
    generalize hes : es.toList = el at hp
    cases hp with
    | cons k1 v1 r1 =>
      rename_i b e el2
      cases r1
      obtain ⟨bk, bv⟩ := b
      obtain ⟨e1, rv⟩ := h1
      have e1 : (Sum.inl i : Key) = bk := e1
      subst e1
      obtain ⟨t, ek⟩ : ∃ t, e.key = .int i t := by
        have k1 : keyIs (Sum.inl i) e.key = true := k1
        rcases keyIs_shape k1 with ⟨i', t, e1, e2⟩ | ⟨x, t, e1, e2⟩
        · cases e1
          exact ⟨t, e2⟩
        · cases e1
      obtain ⟨t2, ev⟩ : ∃ t, bv = .int j t := rv
      have ev2 : e.val = .int j t2 := v1.trans ev
      have hr : Reads s.heap (.ref a) (.dict [(.int i, .int j)]) (a :: ([] ++ []) ++ ([] ++ [])) := .dict (kvs := [(.int i, .int j)]) ho hex.1 hd (by rw [hes]; show ReadsAll _ [e.key] _ _; rw [ek]; exact .cons (.int i t) .nil) (by rw [hes]; show ReadsAll _ [e.val] _ _; rw [ev2]; exact .cons (.int j t2) .nil)
      have hs : (PyData.dict [(.int i, .int j)]).showable = true := by
        show (decide (i.natAbs.log2 < 1920) && decide (j.natAbs.log2 < 1920) && true) = true
        rw [decide_eq_true hi, decide_eq_true hj]
        rfl
      have hdp : (PyData.dict [(.int i, .int j)]).depth ≤ 8 := by
        show max 0 (max (max 0 0) 0) + 1 ≤ 8
        decide
      exact repr_of_reads' hr hs (fun _ m => by
        have e : sysModules = a := by simpa using m
        rw [← e] at hn
        simp at hn) gd (by omega) (fun _ _ z => z) (fun h' u tk hk => ⟨.str _, H, I.kept hk, ⟨_, rfl⟩, q⟩) hz
def rReprE (K : PySem.W.Frag) : List V → Hp → VK → Prop := fun xs H Q => rReprG K xs H Q ∨ rReprD0 xs H Q ∨ rReprD1 xs H Q
theorem call_reprE {X : Cx} (gd : X.A.guards = some []) (hu : X.A.units + 40 < cLine) : CallR X (.builtin "repr") (rReprE X.K) := fun pins s σ H xs us Q I r h => h.elim (fun z => call_reprU gd hu pins s σ H xs us Q I r z) fun z => z.elim (fun z => call_reprD0 gd hu pins s σ H xs us Q I r z) fun z => call_reprD1 gd hu pins s σ H xs us Q I r z
theorem rReprE.mono {K : PySem.W.Frag} {xs : List V} {H : Hp} {Q Q' : VK} (h : rReprE K xs H Q) (i : ∀ v, Q v H → Q' v H) : rReprE K xs H Q' := by
  rcases h with ⟨y, dat, e1, e2, e3, e4, e5, e6, e7⟩ | ⟨a, e1, e2, e3⟩ | ⟨a, k, j, e1, e2, e3, e4, e5, e6⟩
  · exact .inl ⟨y, dat, e1, e2, e3, e4, e5, e6, i _ e7⟩
  · exact .inr (.inl ⟨a, e1, e2, i _ e3⟩)
  · exact .inr (.inr ⟨a, k, j, e1, e2, e3, e4, e5, i _ e6⟩)
def tXfA (K : PySem.W.Frag) (a : Addr) (cls : Value) (d : Option Addr) (n : PySem.Str) (te : TE) : TE := fun σ H Q => te σ H fun x H1 => x = .ref a ∧ ∃ (C dd : Addr) (fs : List (PySem.Str × V)) (v : V), cls = .ref C ∧ XfC K C ∧ PySem.W.findIn K (.ref C) n = some none ∧ d = some dd ∧ H1 dd = some (.xd fs) ∧ fs.lookup n = some v ∧ Q v H1
theorem pe_xfA {X : Cx} {a : Addr} {oe : Obj} {cls : Value} {d : Option Addr} {pn : List (Addr × Obj)} {e : Expr} {te : TE} {pos : Pos} {n : PySem.Str} (hz : Zc cls d oe) (hf : ∃ vs, oe.data = .fields vs) (he : PE (X.suite a ((a, oe) :: pn)) e te)
    (hb : attributeBase e n X.env (eval e X.env) = eval e X.env := by rfl) : PE (X.suite a ((a, oe) :: pn)) (.Attribute e n pos) (tXfA X.K a cls d n te) := by
  refine ⟨fun pins s σ H Q I h => attr_of hb (thn (he.run pins s σ H _ I h) fun u s1 g => ?_)⟩
  obtain ⟨x, H1, I1, rx, rfl, C, dd, fs, v, rfl, T, hno, rfl, ea, l, q⟩ := g
  obtain rfl : u = Value.ref a := rx
  obtain ⟨vs, hd⟩ := hf
  have ha := (I1.pin (a, oe) (List.mem_append_left _ List.mem_cons_self)).1
  have hx : ObjOk X.prog X.w H1 s1.heap dd (.xd fs) := I1.hok dd _ ea
  obtain ⟨mA, hns, hr⟩ := hx
  obtain ⟨od, ho, hl⟩ := lookIn_ns hns
  obtain ⟨u, hu, ru⟩ := RelO.some_of (v := v) (o := mA n) (by rw [← l]; exact hr n)
  have J : PySem.W.InstAt s1.heap a oe C (some od) := ⟨ha, hz.1, by unfold PySem.W.notCls; rw [hd] <;> rfl, by rw [hz.2]; exact ho⟩
  exact HandSPX.exc_get I1.kIn J T.ga T.gg T.exC (PySem.W.findObj_own T.hdC hno rfl (by rw [hl, hu])) (handed_of ru) ⟨v, H1, I1.tok _, ru, q⟩
def spK (K : PySem.W.Frag) (a : Addr) (cls : Value) (d : Option Addr) : Sp := fun vs H Q _ => ∃ (D : Addr) (i : Nat), vs = [.ref a] ∧ cls = .ref D ∧ KnF K D i ∧ DicO H d ∧ ∀ H', Same H H' → Q (.str (kdN.getD i "")) H'
theorem pe_kind {X : Cx} {a fk : Addr} {oe : Obj} {cls : Value} {d : Option Addr} {pn : List (Addr × Obj)} {x : PySem.Str} {e : Expr} {t : TA} {k : Nat} {p pos : Pos} (F : FnP X.prog X.w X.K X.mg X.base k fk (sp__law_kind X.K)) (hr : RoomH k (X.suite a ((a, oe) :: pn)).A) (hz : Zc cls d oe) (hf : ∃ vs, oe.data = .fields vs)
    (hg : Gl X x) (hm : X.mg x = some (.ref fk)) (hk : PySem.W.keepIn X.K (.ref fk) = true) (ha : PA (X.suite a ((a, oe) :: pn)) [e] t) (hdb : (x == ("__debug__" : PySem.Str)) = false := by decide) (he : starEach [e] X.env = (false, eval e X.env) :: starEach [] X.env := by rfl) :
    PE (X.suite a ((a, oe) :: pn)) (.Call (.Name x p) [e] [] pos) (tFn (spK X.K a cls d) C8.E0 t) := ⟨fun pins s σ H Q I h =>
  wpAny_Call_Name_kw (ld_glob (X := X.suite a ((a, oe) :: pn)) I hg hm (PySem.W.callWith_K (h₀ := X.base) I.ok.mod.kin hk
    (thn (ha.run pos pins s σ H _ I h) fun us s1 ⟨vs, H1, I1, r, z⟩ => ⟨I1.kIn, call_fnP (X := X.suite a ((a, oe) :: pn)) (q := (a, oe)) F hr List.mem_cons_self I1 r (by
      obtain ⟨D, i, e1, rfl, e2, e3, e4⟩ := z
      exact ⟨D, d, i, e1, e2, hz, hf, e3, e4⟩)⟩) he rfl) hdb)⟩
def tsF (K : PySem.W.Frag) (fld : PySem.Str) (a : Addr) (cls : Value) (d : Option Addr) : TS := tRet (tLst (tCons (tFn (spK K a cls d) C8.E0 (tCons (tVar 1) tNil)) (tCons (tCB (rReprE K) (tCons (tXfA K a cls d fld (tVar 1)) tNil)) tNil)))
def tsU (K : PySem.W.Frag) (a : Addr) (cls : Value) (d : Option Addr) : TS := tRet (tLst (tCons (tFn (spK K a cls d) C8.E0 (tCons (tVar 1) tNil)) (tCons (tC (.str "")) tNil)))
def tsN : Addr → Value → Option Addr → TS := fun _ _ _ _ _ _ => False
def clK (K : PySem.W.Frag) : List Cl := [(.ref (ga K "WheelError"), 1, tsF K "value"), (.ref (ga K "TooLong"), 1, tsF K "delay"), (.ref (ga K "TooMany"), 1, tsF K "limit"), (.ref (ga K "NothingToUndo"), 1, tsU K)]
def ErFld (K : PySem.W.Frag) (fld : PySem.Str) (D : Addr) (fs : List (PySem.Str × V)) (i : Nat) (H' : Hp) (Q : VK) : Prop := ∃ v : V, XfC K D ∧ PySem.W.findIn K (.ref D) fld = some none ∧ fs.lookup fld = some v ∧
  ∀ H2, Same H' H2 → rReprE K [v] H2 fun x H3 => ∀ R, H3 R = none → Q (.ref R) (upd H3 R (.lst [.str (kdN.getD i ""), x]))
def ErOutV (K : PySem.W.Frag) (Q : VK) : XK := fun cls d H' => ∃ (D dd : Addr) (fs : List (PySem.Str × V)) (i : Nat), cls = .ref D ∧ d = some dd ∧ KnF K D i ∧ H' dd = some (.xd fs) ∧
  ((exmN K D "WheelError" true ∧ ErFld K "value" D fs i H' Q) ∨ (exmN K D "WheelError" false ∧ exmN K D "TooLong" true ∧ ErFld K "delay" D fs i H' Q) ∨
    (exmN K D "WheelError" false ∧ exmN K D "TooLong" false ∧ exmN K D "TooMany" true ∧ ErFld K "limit" D fs i H' Q))
def ErOutU (K : PySem.W.Frag) (Q : VK) : XK := fun cls d H' => ∃ (D : Addr) (i : Nat), cls = .ref D ∧ d = none ∧ KnF K D i ∧ exmN K D "WheelError" false ∧ exmN K D "TooLong" false ∧ exmN K D "TooMany" false ∧ exmN K D "NothingToUndo" true ∧
  ∀ H2, Same H' H2 → ∀ R, H2 R = none → Q (.ref R) (upd H2 R (.lst [.str (kdN.getD i ""), .str ""]))
def ErOut (K : PySem.W.Frag) (Q : VK) : XK := fun cls d H' => ErOutV K Q cls d H' ∨ ErOutU K Q cls d H'
def TCg (K : PySem.W.Frag) : (XK → Hp → VK → Prop) → Hp → VK → Prop := fun tl H Q => tl (ErOut K Q) H fun _ H' => Q .non H'
theorem caught_gives {X : Cx} {Ng : List PySem.Str} {x a q : PySem.Str} {sg : Scope} {g : Addr} {cdg : Value} {h1 : ExceptHandler} {hs : List ExceptHandler} {st : List Stmt} {p1 p2 p3 p8 : Pos} (hNd : Ng.Nodup) (hN : Ng.length = 2)
    (hcl : ∀ (s : Shared) (H : Hp), ClsOk (cxOf C8.CX0 X.prog X.w X.K X.mg X.base Ng x sg g cdg X.A X.stack s H C8.E0).nox (h1 :: hs) (clK X.K)) (hst : ∀ (s : Shared) (H : Hp), PSs (cxOf C8.CX0 X.prog X.w X.K X.mg X.base Ng x sg g cdg X.A X.stack s H C8.E0).nox st (tRet (tC .non)))
    (h0 : ∀ f : Addr, (L2.start Ng [V.ref f])[0]? = some (some (V.ref f))) :
    GivesTo X Ng x sg g cdg (.Try [.Expr (.Call (.Name a p1) [] [] p2) p3] (h1 :: hs) [] [] p8 :: st) a q (TCg X.K) := by
  intro f c' s H Q tl act hc h
  refine ⟨_, pss_cons (ps_try_all (X := (cxOf C8.CX0 X.prog X.w X.K X.mg X.base Ng x sg g cdg X.A X.stack s H C8.E0).nox)
      (tb := fun W D σ H => ∃ Ech : XK, (∀ cls d σ' H', Ech cls d H' → W cls d σ' H') ∧ σ[0]? = some (some (.ref f)) ∧ H c' = some (CodeO c' q) ∧ tl Ech H fun _ H' => D.nx σ H') rfl rfl hNd L2.takes0 (fun W pn xe tk _ => ?_) (hcl s H)) (hst s H), ?_⟩
  · refine ⟨fun pins s' σ H' D I h' => ?_⟩
    obtain ⟨Ech, hW, e1, e2, e3⟩ := h'
    exact (pss_one (ps_expr (pos := p3) (act W pn xe Ech p1 p2 tk hW))).run pins s' σ H' D I ⟨e1, e2, e3⟩
  · refine ⟨ErOut X.K Q, fun cls d σ' H' hE => ?_, h0 f, hc, h⟩
    rcases hE with hE | hE
    case inr =>
      obtain ⟨D, i, rfl, rfl, F, w1, w2, w3, w4, hq⟩ := hE
      refine ⟨false, w1, fun z => (by cases z), fun _ => ⟨false, w2, fun z => (by cases z), fun _ => ⟨false, w3, fun z => (by cases z), fun _ => ⟨true, w4, fun _ hlen e he => ?_, fun z => by cases z⟩⟩⟩⟩
      have hlen' : σ'.length = Ng.length := hlen
      have hv : (σ'.set 1 (some (V.ref e)))[1]? = some (some (V.ref e)) := by rw [List.getElem?_set_self (by rw [hlen']; omega)]
      exact ⟨_, hv, D, i, rfl, rfl, F, dicO_none, fun H2 s2 => ⟨(show 2 ≤ 16777216 by decide), fun R hR => hq H2 s2 R hR⟩⟩
    obtain ⟨D, dd, fs, i, rfl, rfl, F, hdd, hE⟩ := hE
    have say : ∀ (fld : PySem.Str), ErFld X.K fld D fs i H' Q → σ'.length = Ng.length → ∀ (e : Addr) (DD : Ends), DD.rt = Q → tsF X.K fld e (.ref D) (some dd) DD (σ'.set 1 (some (V.ref e))) H' := fun fld hF hlen e DD hrt => by
      obtain ⟨v, T, hno, hl, hr⟩ := hF
      have hv : (σ'.set 1 (some (V.ref e)))[1]? = some (some (V.ref e)) := by rw [List.getElem?_set_self (by rw [hlen]; omega)]
      refine ⟨_, hv, D, i, rfl, rfl, F, dicO_some hdd, fun H2 s2 => ⟨_, hv, rfl, D, dd, fs, v, rfl, T, hno, rfl, s2 _ _ hdd, hl, ?_⟩⟩
      exact (hr H2 s2).mono fun x hx => ⟨(show 2 ≤ 16777216 by decide), fun R hR => by rw [hrt]; exact hx R hR⟩
    rcases hE with ⟨w1, hF⟩ | ⟨w1, w2, hF⟩ | ⟨w1, w2, w3, hF⟩
    · exact ⟨true, w1, fun _ hlen e he => say _ hF hlen e _ rfl, fun z => by cases z⟩
    · exact ⟨false, w1, fun z => (by cases z), fun _ => ⟨true, w2, fun _ hlen e he => say _ hF hlen e _ rfl, fun z => by cases z⟩⟩
    · exact ⟨false, w1, fun z => (by cases z), fun _ => ⟨false, w2, fun z => (by cases z), fun _ => ⟨true, w3, fun _ hlen e he => say _ hF hlen e _ rfl, fun z => by cases z⟩⟩⟩
end Tw
/-! Tw: a def of the law that makes lambdas; _law_caught called with one -/
namespace Tw
open PySem PySem.Spec PyProof.Rows L2 LamX
section
variable {P : Program} {w : World} {K : PySem.W.Frag} {mg : Str → Option Value} {base : Heap} {CX : CXT} {k : Nat} {f : Addr} {sp : Sp}
theorem fnG_ofC {x qual : Str} {params : Arguments} {body : List Stmt} {scope : Scope} {kws : List (Str × V)} {fd : FuncData} {N ps : List Str} (F : FunD K x qual params body scope [] kws f fd) (S : FnScope N ps scope) (hb : Binds K fd ps [])
    (hl : ∀ vs H Q E, sp vs H Q E → vs.length = ps.length)
    (hbody : ∀ cdv A fs t H vs Q E, cdv = .ref (codA K f) → RmG k (A.deeper (envOfC qual scope t.heap.objs.size f cdv)) → sp vs H Q E → ∃ tt, PSs (cxOf CX P w K mg base N qual scope f cdv A fs t H E) body tt ∧ tt { nx := fun _ H' => Q .non H', rt := Q } (L2.start N vs) H) :
    FnG P w K mg base CX (k + 1) f sp := by
  intro A fs t H us vs Q E hr e0 rv h
  obtain ⟨oc, od, dV, kV, doc, pm, an, cdv, ct, osl, efd, lk, hcd, _, _⟩ := F.ex
  have hcv : cdv = .ref (codA K f) := by
    unfold codA
    rw [lk, efd]
    cases cdv with
    | ref c => rfl
    | _ => cases hcd
  have KX : K.In t.heap := e0.mod.kin.keeps fun b o z => (e0.bs b o z).1
  have hlen : us.length = ps.length := rv.length.symm.trans (hl _ _ _ _ h)
  have hbt := hb t us KX (by rw [List.append_nil]; exact hlen)
  rw [List.append_nil] at hbt
  rw [efd] at lk hbt
  refine codeAny_call_function hr.rm.depth (KX _ _ lk) rfl S.co S.gen rfl (PySem.W.codeRec_of KX hcd) (hbt _ _ _ _ ?_)
  refine wpAny_newFunctionEnv_cells S.kind (fun y hy => ?_) fun env he t1 inc => ?_
  · exact (S.par y.1 (List.of_mem_zip hy).1).elim .inl fun z => .inr ⟨z, PySem.W.cellsFrom_some _ _ _ (.inl z)⟩
  · subst he
    obtain ⟨tt, hp, hq⟩ := hbody cdv A fs t H vs Q E hcv (hr.deeper _) h
    have hnl : t.heap.NoLimit := e0.mod.nolimit.keeps fun b o z => (e0.bs b o z).1
    refine ⟨hnl.keeps inc.toInCall.keep, codeAny_func (wpAny_mono (hp.run [] t1 _ _ _ (inv_start S hr.rm.hd e0 (hl _ _ _ _ h) rv inc) hq) (fun fl t2 z => ?_) fun _ _ z => z)⟩
    cases fl with
    | ret u =>
      obtain ⟨v, _, H2, J, r2, q2⟩ := z
      exact ⟨v, H2, J.os, J.bare, J.base, J.hok, r2, q2⟩
    | next =>
      obtain ⟨_, H2, J, q2⟩ := z
      exact ⟨.non, H2, J.os, J.bare, J.base, J.hok, rfl, q2⟩
    | brk => exact z.elim fun _ z => z.elim fun _ z => z.2.elim
    | cont => exact z.elim fun _ z => z.elim fun _ z => z.2.elim
end
section
variable {X : Cx}
theorem pe_caughtT {T : List (Addr × Str)} {TT : (XK → Hp → VK → Prop) → Hp → VK → Prop} {x a : Str} {g c P : Addr} {k : Nat} {pg : Arguments} {bg : List Stmt} {sg : Scope} {kws : List (Str × V)} {fd : FuncData} {Ng : List Str} {params : Arguments} {body : Expr} {scope : Scope} {t : XK → TE} {p lpos pos : Pos}
    (F : FunD X.K x x pg bg sg [] kws g fd) (hb : ∀ (kV doc pm : Value) (an : Option Addr) (cdv ct : Value) (us : List Value), us.length = 1 → bindArgs (PySem.W.fnOf x x pg bg sg .none kV doc pm an cdv ct) ⟨us, []⟩ = pure ([a].zip us)) (Sg : FnScope Ng [a] sg) (hNg : Ng[0]? = some a) (hva : Vis sg a)
    (hg : Gl X x) (hm : X.mg x = some (.ref g)) (hG : ∀ cdg, GivesTo X Ng x sg g cdg bg a (X.env.qual ++ "<lambda>") TT) (TB : TabB X.base X.mg c P) (hmT : (P, X.env.qual ++ "<lambda>") ∈ T) (hu : ∀ p ∈ T, p.1 = P → p.2 = X.env.qual ++ "<lambda>") (hcode : X.env.code = .ref c) (hr : Room (k + 2) X.A) (L : LamS X.env.scope scope) (hdef : defaultsOf params X.env = ([], []))
    (hbind : ∀ (q : Str) (cl : List (Str × Addr)) (pm cv ctv : Value), bindArgs (PySem.W.kla_fn "<lambda>" q params body scope cl pm cv ctv) ⟨[], []⟩ = pure [])
    (hbody : ∀ (A : Around) (outer : List Env) (s : Shared) (H : Hp) (E : XK) (f c' : Addr), Room k (A.deeper (lamEnv X scope s.heap.objs.size f c')) → PE (lamCx X A outer s H E scope f c') body (t E))
    (hdb : (x == ("__debug__" : Str)) = false := by decide) (hd : (a == ("__debug__" : Str)) = false := by decide) (hcd : (a == ("__classdict__" : Str)) = false := by decide) :
    PE X (.Call (.Name x p) [.Lambda params body scope lpos] [] pos) (tLam T TT t) := by
  have hbn := F.bindsN (ps := [a]) hb
  have kp := F.kp
  obtain ⟨oc, od, dV, kV, doc, pm, an, cdv, ct, osl, rfl, lk, hcg, _, _⟩ := F.ex
  exact pe_lamcall (T := T) hg hm kp lk hcg hbn Sg hNg hva (hG cdv) TB hcode hmT hu hr L hdef hbind hbody hdb hd hcd
end
end Tw
/-! Tw: values of other kinds: whether they are integers -/
namespace Tw
open PySem PySem.Spec PyProof.Rows L2 He TwM StX
open PySem.W (Frag)
local macro_rules | `(tactic| walk_at "rsl") => `(tactic| simp only [*, at3_0, at3_1, at3_2, at2_0, at2_1, updS, upd_two, gSub, rSetL, updN, tPar, tPar3, gTup, gCons, gNil, and_assoc, not_true_eq_false, not_false_eq_true, tNever, List.length_map, tFld, rIxTH, rIxLH, rLenTH, rLenLH, lk1, lfs_g, lfs_s, lfs_p, HO.ins.injEq, HO.tup.injEq, HO.lst.injEq, sp_Book_rounding, sp_Book_action, sp_Book_order, sp_Book_due, sp_Book_zero, sp_Book_beyond, Int.toNat_natCast, sp_visit_after, sp_is_visited, sp_Level_grain, sp_Level_slots, sp_Level_span, sp_Wheel_reach, sp_Wheel___len__, sp_is_integer, sp_is_count, sp_is_within, sp_rounded, tAsg, gName, tVar, tC, tOp, rI, rI0, rU, tUn, oAdd, oSub, oMul, oDiv, oMod, oNeg, oLt, oLe, oGt, oGe, oIsN, oNotN, tFn, tCons, tNil, tIfS, tIf, tTest, tB, tNot, tAnd, tOr, tAndV, tOrV, tNotV,
    tRet, tRetN, tNext, tCB, tDrop, tChain, rEq, rNe, oMax2, oMin2, oInt1, rLenF, L2.start, List.map_cons, List.map_nil, List.length_cons, List.length_nil, List.replicate_succ, List.replicate_zero, List.cons_append, List.nil_append, Nat.reduceAdd, Nat.reduceSub, Nat.zero_add,
    List.set_cons_zero, List.set_cons_succ, List.getElem?_cons_zero, List.getElem?_cons_succ, Option.some.injEq, V.int.injEq, V.ref.injEq, V.str.injEq, V.bl.injEq, exists_eq_left', exists_eq_left, exists_and_left, List.cons.injEq, and_true, true_and, decide_eq_true_eq, sc_ii, sc_ss, sc_bb, sc_ni, sc_in, sc_nn, sc_is, reduceCtorEq,
    Bool.not_eq_true', decide_eq_false_iff_not, if_true, if_false, Bool.false_eq_true, exists_eq', exists_const, false_and, and_false, or_false, false_or, exists_false, Bool.not_not, Bool.not_true, Bool.not_false, sUp_up, sFire_fire, sHigh_high, sPut_put, sZone_now, sBey_refuse, sBey_cut, tTup, tLst, sz0, sz1, sz2, sz3, sz4, sz5, sz6])
local macro_rules | `(tactic| walk_at "st") => `(tactic| ((try dsimp only); rw [seq1]; walk_at "rsl"))
def rIsNB : R2 := fun x y H Q => ∃ a b, x = .bl a ∧ y = .bl b ∧ Q (.bl (!decide (a = b))) H
def rIsB : R2 := fun x y H Q => ∃ a b, x = .bl a ∧ y = .bl b ∧ Q (.bl (decide (a = b))) H
section
variable {K : Frag} {w : World}
def IsIntV (K : Frag) (H : Hp) (x : V) (b : Bool) : Prop := ∃ b1 b2 : Bool, (∀ (H' : Hp) (Q : VK), Same H H' → Q (.bl b1) H' → rIsi K [x, .ty "int"] H' Q) ∧ (b1 = true → ∀ (H' : Hp) (Q : VK), Same H H' → Q (.bl b2) H' → rIsi K [x, .ty "bool"] H' Q) ∧ b = (b1 && !b2)
theorem IsIntV.same {H H' : Hp} {x : V} {b : Bool} (h : IsIntV K H x b) (s : Same H H') : IsIntV K H' x b := by
  obtain ⟨b1, b2, h1, h2, e⟩ := h
  exact ⟨b1, b2, fun H2 Q s2 => h1 H2 Q (s.trans s2), fun z H2 Q s2 => h2 z H2 Q (s.trans s2), e⟩
end
end Tw
/-! Tw: values of any kind that a law hands in, as data; an error caught, compared with its name and the text of its value -/
namespace Tw
open PySem PySem.Spec PyProof.Rows L2 He TwM StX LamX
open PySem.W (Frag)
def ForL (K : Frag) (a : Addr) (g : TG) (tb : TS) (D : Ends) (σ : L2.St) (H : Hp) : Prop := tFor (fun σ H R => R (Itl K a) H) g tb D σ H
theorem forl_eq {K : Frag} {tl : TE} {g : TG} {tb : TS} {D : Ends} {σ : L2.St} {H : Hp} : tFor (iList K tl) g tb D σ H = tl σ H (fun x H1 => ∃ a, x = .ref a ∧ (∃ xs, SqL K H1 a xs) ∧ ForL K a g tb D σ H1) := rfl
theorem forL {K : Frag} {a : Addr} {g : TG} {tb : TS} {D : Ends} {σ : L2.St} {H : Hp} {xs : List V} (Pv : Nat → L2.St → Hp → Prop) (h0 : Pv 0 σ H) (hl : ∀ i σ H, Pv i σ H → SqL K H a xs)
    (hs : ∀ i x σ H, xs[i]? = some x → Pv i σ H → g x σ H fun σ2 H2 => tb { D with nx := Pv (i + 1), ct := Pv (i + 1), bk := D.nx } σ2 H2) (hd : ∀ σ H, Pv xs.length σ H → D.nx σ H) : ForL K a g tb D σ H := for_list Pv h0 (fun i σ H _ z => hl i σ H z) hs hd
def flD : V → Option PyData
  | .non => some .none
  | .bl b => some (.bool b)
  | .int i => some (.int i)
  | .str x => some (.str x)
  | _ => none
inductive Ov (H : Hp) : V → PyData → Prop
  | at_ {x : V} {d : PyData} (h : flD x = some d) : Ov H x d
  | tup {a : Addr} {xs : List V} {ds : List PyData} (h : H a = some (.tup xs)) (f : xs.map flD = ds.map some) : Ov H (.ref a) (.tuple ds)
  | lst {a : Addr} {xs : List V} {ds : List PyData} (h : H a = some (.lst xs)) (f : xs.map flD = ds.map some) : Ov H (.ref a) (.list ds)
  | dict {a : Addr} (h : H a = some (.dK [])) : Ov H (.ref a) (.dict [])
def intD : PyData → Bool
  | .int _ => true
  | _ => false
def strD : PyData → Bool
  | .str _ => true
  | _ => false
def ExtP (p l : Addr) (H H' : Hp) : Prop := ∀ b o, b ≠ p → b ≠ l → H b = some o → (∀ ps, o ≠ .tbl ps) → H' b = some o
theorem ExtP.refl (p l : Addr) (H : Hp) : ExtP p l H H := fun _ _ _ _ h _ => h
theorem ExtP.trans {p l : Addr} {H H1 H2 : Hp} (a : ExtP p l H H1) (b : ExtP p l H1 H2) : ExtP p l H H2 := fun c o n m h z => b c o n m (a c o n m h z) z
theorem ExtP.ofN {p l : Addr} {H H1 : Hp} (a : ExtN H H1) : ExtP p l H H1 := fun c o _ _ h z => a c o h z
theorem ExtP.ofP {p l : Addr} {H H1 : Hp} (a : SameP p l H H1) : ExtP p l H H1 := fun c o n m h _ => a c o n m h
theorem ExtP.ofS {p l : Addr} {H H1 : Hp} (a : Same H H1) : ExtP p l H H1 := fun c o _ _ h _ => a c o h
theorem Same.toN {H H1 : Hp} (a : Same H H1) : ExtN H H1 := fun c o h _ => a c o h
section
variable {K : Frag} {H H' : Hp} {x : V} {d : PyData} {p l : Addr}
theorem Ov.ext (h : Ov H x d) (e : ∀ b o, (∃ xs, o = HO.tup xs) ∨ (∃ xs, o = HO.lst xs ∧ ∃ ds : List PyData, xs.map flD = ds.map some) ∨ o = .dK [] → H b = some o → H' b = some o) : Ov H' x d := by
  cases h with
  | at_ h => exact .at_ h
  | tup h f => exact .tup (e _ _ (.inl ⟨_, rfl⟩) h) f
  | lst h f => exact .lst (e _ _ (.inr (.inl ⟨_, rfl, _, f⟩)) h) f
  | dict h => exact .dict (e _ _ (.inr (.inr rfl)) h)
theorem Ov.extN (h : Ov H x d) (e : ExtN H H') : Ov H' x d := h.ext fun b o z q => e b o q fun ps w => by
  subst w
  rcases z with ⟨_, z⟩ | ⟨_, z, _⟩ | z <;> cases z
theorem Ov.same (h : Ov H x d) (e : Same H H') : Ov H' x d := h.extN (Same.toN e)
theorem PoolAt.off (hp : PoolAt H p l) {b : Addr} {o : HO} (h : H b = some o) (z : (∃ xs, o = HO.tup xs) ∨ (∃ a C fs, o = HO.ins a C fs) ∨ o = .dK [] ∨ (∃ ps, o = .tbl ps) ∨ (∃ e, o = .ext e)) : b ≠ p ∧ b ≠ l := by
  obtain ⟨n, cs, i1, i2, i3, i4, h1, h2, h3⟩ := hp
  have ne : ∀ xs, o ≠ .lst xs := fun xs w => by
    subst w
    rcases z with ⟨_, z⟩ | ⟨_, _, _, z⟩ | z | ⟨_, z⟩ | ⟨_, z⟩ <;> cases z
  exact ⟨fun w => by rw [w, h1] at h; exact ne _ (Option.some.inj h).symm, fun w => by rw [w, h2] at h; exact ne _ (Option.some.inj h).symm⟩
theorem TabS.sameP {P : Addr} {q : PySem.Str} (hp : PoolAt H p l) (s : SameP p l H H') (t : TabS H P q) : TabS H' P q := by
  obtain ⟨ps, h1, h2, h3⟩ := t
  obtain ⟨n1, n2⟩ := hp.off h1 (.inr (.inr (.inr (.inl ⟨_, rfl⟩))))
  refine ⟨ps, s _ _ n1 n2 h1, h2, fun pos cv hc => ?_⟩
  obtain ⟨c, e1, e2⟩ := h3 pos cv hc
  obtain ⟨n1, n2⟩ := hp.off e2 (.inr (.inr (.inr (.inr ⟨_, rfl⟩))))
  exact ⟨c, e1, s _ _ n1 n2 e2⟩
theorem Tabs.sameP {T : List (Addr × PySem.Str)} (hp : PoolAt H p l) (s : SameP p l H H') (t : Tabs T H) : Tabs T H' := fun q hq => TabS.sameP hp s (t q hq)
theorem PoolAt.extN (hp : PoolAt H p l) (s : ExtN H H') : PoolAt H' p l := by
  obtain ⟨n, cs, i1, i2, i3, i4, h1, h2, h3⟩ := hp
  exact ⟨n, cs, i1, i2, i3, i4, s _ _ h1 (fun ps z => by cases z), s _ _ h2 (fun ps z => by cases z), h3⟩
theorem LvAt.extN {a : Addr} {v : Lv} (h : LvAt K H a v) (s : ExtN H H') : LvAt K H' a v := ⟨h.ok, h.at_.elim fun dx q => ⟨dx, s _ _ q fun ps z => by cases z⟩⟩
theorem WhAt.extN {a : Addr} {W : List Lv} (h : WhAt K H a W) (s : ExtN H H') : WhAt K H' a W := by
  obtain ⟨ok, dx, t, as, h1, h2, h3, h4⟩ := h
  exact ⟨ok, dx, t, as, s _ _ h1 fun ps z => (by cases z), s _ _ h2 fun ps z => (by cases z), h3, fun i c q => (h4 i c q).extN s⟩
theorem BkAt.extN {a : Addr} {B : Bk} (h : BkAt K H a B) (s : ExtN H H') : BkAt K H' a B := by
  obtain ⟨ok, dx, t, h1, h2⟩ := h
  exact ⟨ok, dx, t, s _ _ h1 fun ps z => (by cases z), s _ _ h2 fun ps z => (by cases z)⟩
theorem SpAt.extN {a : Addr} {sp : Spot} (h : SpAt H a sp) (s : ExtN H H') : SpAt H' a sp := s _ _ h fun ps z => by cases z
theorem Ov.int (h : Ov H x d) (z : intD d = true) : ∃ i, x = .int i ∧ d = .int i := by
  cases h with
  | at_ h =>
    cases x with
    | int i => cases h; exact ⟨i, rfl, rfl⟩
    | non => cases h; cases z
    | bl b => cases h; cases z
    | str y => cases h; cases z
    | _ => cases h
  | _ => cases z
theorem Ov.str (h : Ov H x d) (z : strD d = true) : ∃ i, x = .str i ∧ d = .str i := by
  cases h with
  | at_ h =>
    cases x with
    | str i => cases h; exact ⟨i, rfl, rfl⟩
    | non => cases h; cases z
    | bl b => cases h; cases z
    | int y => cases h; cases z
    | _ => cases h
  | _ => cases z
/-! ### its repr -/
def OkD (d : PyData) : Prop := (d = .dict [] ∨ (d.showable = true ∧ d.hasDict = false ∧ d.depth ≤ 16 ∧ d.shown.length ≤ sizeLine)) ∧ PySem.PyData.strOk d.shown = true
theorem flD_dp : ∀ {xs : List V} {ds : List PyData}, xs.map flD = ds.map some → DpAll K H xs ds
  | [], [], _ => .nil
  | [], _ :: _, h => by cases h
  | _ :: _, [], h => by cases h
  | x :: xs, d :: ds, h => by
    rw [List.map_cons, List.map_cons] at h
    injection h with h1 h2
    refine .cons ?_ (flD_dp h2)
    cases x with
    | non => cases h1; exact .non
    | bl b => cases h1; exact .bl b
    | int i => cases h1; exact .int i
    | str y => cases h1; exact .str y
    | _ => cases h1
theorem Ov.repr {Q : VK} (h : Ov H x d) (k : OkD d) (q : Q (.str d.shown) H) : rReprE K [x] H Q := by
  obtain ⟨k, _⟩ := k
  cases h with
  | at_ h =>
    have z : d.showable = true ∧ d.hasDict = false ∧ d.depth ≤ 16 ∧ d.shown.length ≤ sizeLine := k.elim (fun e => by subst e; cases x <;> cases h) id
    obtain ⟨z1, z2, z3, z4⟩ := z
    have hd : Dp K H x d := by
      cases x with
      | non => cases h; exact .non
      | bl b => cases h; exact .bl b
      | int i => cases h; exact .int i
      | str y => cases h; exact .str y
      | _ => cases h
    exact .inl ⟨x, d, rfl, hd, z1, z2, z3, z4, q⟩
  | tup h f =>
    obtain ⟨z1, z2, z3, z4⟩ := k.elim (fun e => by cases e) id
    exact .inl ⟨_, _, rfl, .tup (SqT.of h) (flD_dp f), z1, z2, z3, z4, q⟩
  | lst h f =>
    obtain ⟨z1, z2, z3, z4⟩ := k.elim (fun e => by cases e) id
    exact .inl ⟨_, _, rfl, .lst (.inl (.inl h)) (flD_dp f), z1, z2, z3, z4, q⟩
  | dict h => exact .inr (.inl ⟨_, rfl, h, q⟩)
def okB (d : PyData) : Bool := (d.showable && (!d.hasDict && (decide (d.depth ≤ 16) && decide (d.shown.length ≤ 16777216)))) && PySem.PyData.strOk d.shown
theorem okD_of (h : okB d = true) : OkD d := by
  unfold okB at h
  simp only [Bool.and_eq_true, decide_eq_true_eq, Bool.not_eq_true'] at h
  exact ⟨.inr ⟨h.1.1, h.1.2.1, h.1.2.2.1, h.1.2.2.2⟩, h.2⟩
theorem okD_dict : OkD (.dict []) := ⟨.inl rfl, by decide +kernel⟩
def OvP (p l : Addr) (H : Hp) (x : V) (d : PyData) : Prop := Ov H x d ∧ ∀ a, x = .ref a → a ≠ p ∧ a ≠ l
theorem OvP.extP (h : OvP p l H x d) (s : ExtP p l H H') : OvP p l H' x d := by
  obtain ⟨h, n⟩ := h
  refine ⟨?_, n⟩
  cases h with
  | at_ h => exact .at_ h
  | tup h f => exact .tup (s _ _ (n _ rfl).1 (n _ rfl).2 h fun ps z => by cases z) f
  | lst h f => exact .lst (s _ _ (n _ rfl).1 (n _ rfl).2 h fun ps z => by cases z) f
  | dict h => exact .dict (s _ _ (n _ rfl).1 (n _ rfl).2 h fun ps z => by cases z)
theorem OvP.sameP (h : OvP p l H x d) (s : SameP p l H H') : OvP p l H' x d := h.extP (.ofP s)
theorem OvP.at_ (h : flD x = some d) : OvP p l H x d := ⟨.at_ h, fun a e => by subst e; cases h⟩
theorem drawOv {Pr : V → PyData → Prop} {L : Addr} {n : Int} {xs : List V} {Q : VK} (hp : PoolAt H p l) (hL : H L = some (.lst xs)) (n1 : L ≠ p) (n2 : L ≠ l) (hn : 0 < n) (hl : n.natAbs.log2 < 1920) (hx : n = xs.length) (hall : ∀ x ∈ xs, ∃ d, OvP p l H x d ∧ Pr x d)
    (q : ∀ x d H', SameP p l H H' → PoolAt H' p l → OvP p l H' x d → Pr x d → Q x H') :
    sp__law_draw K [.ref p, .int n] H (fun y H2 => ∃ x x_3, y = .int x_3 ∧ H2 L = some (.lst x) ∧ ∃ x_4, atI x x_3 = some x_4 ∧ Q x_4 H2) E0 := by
  refine draw hp hn hl fun i H1 s1 hp1 a b => ?_
  obtain ⟨v, hv, e⟩ := atV (xs := xs) a (by omega)
  obtain ⟨d, hd, hP⟩ := hall v (List.mem_of_getElem? hv)
  exact ⟨_, i, rfl, s1 _ _ n1 n2 hL, _, e, q v d H1 s1 hp1 (hd.sameP s1) hP⟩
/-! ### an error caught -/
structure KeC (K : Frag) (c nm : PySem.Str) : Prop where
  kn : ∃ i, KnF K (ga K c) i ∧ kdN.getD i "" = nm
  xf : XfC K (ga K c)
  no : PySem.W.findIn K (.ref (ga K c)) "value" = some none
  ex : PySem.W.exmOne K (.ref (ga K c)) (.ref (ga K "WheelError")) = some true
theorem kec_of {c nm file qual : PySem.Str} {i : Nat} (e : ErrF K c "value" file qual) (k : KnF K (ga K c) i ∧ PySem.W.exmOne K (.ref (ga K c)) (.ref (ga K "WheelError")) = some true) (h : kdN.getD i "" = nm) : KeC K c nm := ⟨⟨i, k.1, h⟩, e.xf, e.no, k.2⟩
def Ke (K : Frag) (cs : List (PySem.Str × PySem.Str)) : Prop := ∀ q ∈ cs, KeC K q.1 q.2
structure KeG (K : Frag) (c nm fld : PySem.Str) : Prop where
  kn : ∃ i, KnF K (ga K c) i ∧ kdN.getD i "" = nm
  xf : XfC K (ga K c)
  no : PySem.W.findIn K (.ref (ga K c)) fld = some none
  cl : (fld = "value" ∧ exmN K (ga K c) "WheelError" true) ∨ (fld = "delay" ∧ exmN K (ga K c) "WheelError" false ∧ exmN K (ga K c) "TooLong" true) ∨
    (fld = "limit" ∧ exmN K (ga K c) "WheelError" false ∧ exmN K (ga K c) "TooLong" false ∧ exmN K (ga K c) "TooMany" true)
theorem KeC.g {c nm : PySem.Str} (k : KeC K c nm) : KeG K c nm "value" := ⟨k.kn, k.xf, k.no, .inl ⟨rfl, k.ex⟩⟩
theorem KeG.out {c nm fld : PySem.Str} (k : KeG K c nm fld) {dd : Addr} (hd : H dd = none) (hv : Ov H x d) (ok : OkD d) {Q : VK} (q : ∀ (H2 : Hp) (R : Addr), Same H H2 → H2 R = none → Q (.ref R) (upd H2 R (.lst [.str nm, .str d.shown]))) :
    ErOut K Q (.ref (ga K c)) (some dd) (upd H dd (.xd [(fld, x)])) := by
  obtain ⟨⟨i, k1, k2⟩, k3, k4, k5⟩ := k
  have sn : Same H (upd H dd (.xd [(fld, x)])) := Same.new hd
  have hlk : ([(fld, x)] : List (PySem.Str × V)).lookup fld = some x := by simp [List.lookup]
  have hF : ErFld K fld (ga K c) [(fld, x)] i (upd H dd (.xd [(fld, x)])) Q := by
    refine ⟨x, k3, k4, hlk, fun H2 s2 => ?_⟩
    rw [k2]
    exact (hv.same (sn.trans s2)).repr ok fun R hR => q H2 R (sn.trans s2) hR
  refine .inl ⟨_, _, [(fld, x)], i, rfl, rfl, k1, upd_same, ?_⟩
  rcases k5 with ⟨rfl, w1⟩ | ⟨rfl, w1, w2⟩ | ⟨rfl, w1, w2, w3⟩
  · exact .inl ⟨w1, hF⟩
  · exact .inr (.inl ⟨w1, w2, hF⟩)
  · exact .inr (.inr ⟨w1, w2, w3, hF⟩)
theorem KeC.out {c nm : PySem.Str} (k : KeC K c nm) {dd : Addr} (hd : H dd = none) (hv : Ov H x d) (ok : OkD d) {Q : VK} (q : ∀ (H2 : Hp) (R : Addr), Same H H2 → H2 R = none → Q (.ref R) (upd H2 R (.lst [.str nm, .str d.shown]))) :
    ErOut K Q (.ref (ga K c)) (some dd) (upd H dd (.xd [("value", x)])) := k.g.out hd hv ok q
theorem pair_shaped {nm t : PySem.Str} (h1 : PySem.PyData.strOk nm = true) (h2 : PySem.PyData.strOk t = true) : SeqAt.shaped (.list [.str nm, .str t]) = true := by
  have e : PyData.canLay0 (.list [.str nm, .str t]) = true := by
    show (PySem.PyData.strOk nm && (PySem.PyData.strOk t && true)) = true
    rw [h1, h2]; rfl
  unfold SeqAt.shaped
  rw [e]
  rfl
theorem pair_eqv {nm t : PySem.Str} : PyData.eqv (.list [.str nm, .str t]) (.list [.str nm, .str t]) = true := by
  show ((nm == nm) && ((t == t) && true)) = true
  simp
theorem dp_pair {a : Addr} {nm t : PySem.Str} (h : H a = some (.lst [.str nm, .str t])) : Dp K H (.ref a) (.list [.str nm, .str t]) := .lst (.inl (.inl h)) (.cons (.str _) (.cons (.str _) .nil))
theorem lam_errG {fld : PySem.Str} {T : List (Addr × PySem.Str)} {te : XK → TE} {σ : L2.St} {Q : VK} {c nm : PySem.Str} (k : KeG K c nm fld) (hT : Tabs T H) (ok : OkD d) (hov : Ov H x d)
    (hcall : ∀ (H1 : Hp) (E : XK) (Q : VK), ExtN H H1 → (∀ H2 dd, Same H1 H2 → H2 dd = none → E (.ref (ga K c)) (some dd) (upd H2 dd (.xd [(fld, x)]))) → te E σ H1 Q)
    (q : ∀ (R : Addr) (H' : Hp), H' R = some (.lst [.str nm, .str d.shown]) → ExtN H H' → Tabs T H' → Q (.ref R) H') : tLam T (TCg K) te σ H Q := by
  refine ⟨hT, fun H1 e1 T1 => hcall H1 _ _ e1 fun H1' dd s1 hd => k.out hd (hov.extN (e1.trans (Same.toN s1))) ok fun H2 R s2 hR => ?_⟩
  have s3 := (s1.trans s2).trans (Same.new (o := .lst [.str nm, .str d.shown]) hR)
  exact q R _ (updS H2 R _) (e1.trans (Same.toN s3)) (T1.ext fun b o z => s3 _ _ z)
theorem lam_errS {T : List (Addr × PySem.Str)} {te : XK → TE} {σ : L2.St} {Q : VK} {c nm : PySem.Str} (k : KeC K c nm) (hT : Tabs T H) (ok : OkD d) (hov : Ov H x d)
    (hcall : ∀ (H1 : Hp) (E : XK) (Q : VK), ExtN H H1 → (∀ H2 dd, Same H1 H2 → H2 dd = none → E (.ref (ga K c)) (some dd) (upd H2 dd (.xd [("value", x)]))) → te E σ H1 Q)
    (q : ∀ (R : Addr) (H' : Hp), H' R = some (.lst [.str nm, .str d.shown]) → ExtN H H' → Tabs T H' → Q (.ref R) H') : tLam T (TCg K) te σ H Q := lam_errG k.g hT ok hov hcall q
theorem lam_err {T : List (Addr × PySem.Str)} {te : XK → TE} {σ : L2.St} {Q : VK} {c nm : PySem.Str} (k : KeC K c nm) (hT : Tabs T H) (ok : OkD d) (hov : Ov H x d)
    (hcall : ∀ (H1 : Hp) (E : XK) (Q : VK), ExtN H H1 → (∀ dd, H1 dd = none → E (.ref (ga K c)) (some dd) (upd H1 dd (.xd [("value", x)]))) → te E σ H1 Q)
    (q : ∀ (R : Addr) (H' : Hp), H' R = some (.lst [.str nm, .str d.shown]) → ExtN H H' → Tabs T H' → Q (.ref R) H') : tLam T (TCg K) te σ H Q := lam_errS k hT ok hov (fun H1 E Q e hE => hcall H1 E Q e fun dd hd => hE H1 dd (Same.refl _) hd) q
theorem lam_ok {T : List (Addr × PySem.Str)} {te : XK → TE} {σ : L2.St} {Q : VK} (hT : Tabs T H)
    (hcall : ∀ (H1 : Hp) (E : XK) (Q : VK), ExtN H H1 → (∀ v H', Same H1 H' → Q v H') → te E σ H1 Q)
    (q : ∀ (H' : Hp), ExtN H H' → Tabs T H' → Q .non H') : tLam T (TCg K) te σ H Q :=
  ⟨hT, fun H1 e1 T1 => hcall H1 _ _ e1 fun v H' s => q H' (e1.trans (Same.toN s)) (T1.ext fun b o z => s _ _ z)⟩
theorem pair_same {R R' : Addr} {nm t : PySem.Str} {Q : VK} (h1 : PySem.PyData.strOk nm = true) (h2 : PySem.PyData.strOk t = true) (a : H R = some (.lst [.str nm, .str t])) (b : H R' = some (.lst [.str nm, .str t])) (q : Q (.bl false) H) : rNeD K (.ref R) (.ref R') H Q :=
  ⟨_, _, dp_pair a, dp_pair b, pair_shaped h1 h2, pair_shaped h1 h2, by rw [pair_eqv]; exact q⟩
theorem pair_sameE {R R' : Addr} {nm t : PySem.Str} {Q : VK} (h1 : PySem.PyData.strOk nm = true) (h2 : PySem.PyData.strOk t = true) (a : H R = some (.lst [.str nm, .str t])) (b : H R' = some (.lst [.str nm, .str t])) (q : Q (.bl true) H) : rEqD K (.ref R) (.ref R') H Q :=
  ⟨_, _, dp_pair a, dp_pair b, pair_shaped h1 h2, pair_shaped h1 h2, by rw [pair_eqv]; exact q⟩
theorem caught_is {T : List (Addr × PySem.Str)} {te : XK → TE} {tb : TE} {σ : L2.St} {D : Ends} {c nm : PySem.Str} (k : KeC K c nm) (hn : PySem.PyData.strOk nm = true) (hT : Tabs T H) (ok : OkD d) (hov : Ov H x d)
    (hcall : ∀ (H1 : Hp) (E : XK) (Q : VK), ExtN H H1 → (∀ dd, H1 dd = none → E (.ref (ga K c)) (some dd) (upd H1 dd (.xd [("value", x)]))) → te E σ H1 Q)
    (htb : ∀ (H1 : Hp) (Q : VK), ExtN H H1 → (∀ (R : Addr) (H2 : Hp), Same H1 H2 → H2 R = none → Q (.ref R) (upd H2 R (.lst [.str nm, .str d.shown]))) → tb σ H1 Q)
    (hnx : ∀ H', ExtN H H' → Tabs T H' → D.nx σ H') :
    tIfS (tTest (tOp (rNeD K) (tLam T (TCg K) te) tb)) (tRet (tC (.bl false))) tNext D σ H := by
  refine lam_err k hT ok hov hcall fun R H3 a1 e3 T3 => htb H3 _ e3 fun R2 H4 s4 hR2 => ?_
  have s5 := s4.trans (Same.new (o := .lst [.str nm, .str d.shown]) hR2)
  exact pair_same hn ok.2 (s5 _ _ a1) (updS H4 R2 _) ⟨false, rfl, hnx _ (e3.trans (Same.toN s5)) (T3.ext fun b o z => s5 _ _ z)⟩
theorem none_same {Q : VK} (q : Q (.bl false) H) : rNeD K .non .non H Q := ⟨.none, .none, .non, .non, by decide, by decide, q⟩
theorem lit_repr {i : Nat} {σ : L2.St} {nm : PySem.Str} {Q : VK} (h : σ[i]? = some (some x)) (hv : Ov H x d) (ok : OkD d) (q : ∀ (R : Addr) (H2 : Hp), Same H H2 → H2 R = none → Q (.ref R) (upd H2 R (.lst [.str nm, .str d.shown]))) :
    tLst (tCons (tC (.str nm)) (tCons (tCB (rReprE K) (tCons (tVar i) tNil)) tNil)) σ H Q := ⟨x, h, hv.repr ok ⟨(show 2 ≤ 16777216 by decide), fun R hR => q R H (Same.refl _) hR⟩⟩
end
end Tw
/-! Tw: comparing instances by their own methods -/
namespace Tw
open PySem PySem.Spec PyProof.Rows L2
section
variable {X : Cx} {CX : CXT} {k : Nat} {C g : Addr} {sp : Sp} {E : XK}
def rCmpO (C : Addr) (sp : Sp) (E : XK) : R2 := fun x y H Q => ∃ a dx fs b dy gs, x = .ref a ∧ y = .ref b ∧ H a = some (.ins C dx fs) ∧ H b = some (.ins C dy gs) ∧ sp [.ref a, .ref b] H (fun v H' => ∃ c, v = .bl c ∧ Q (.bl c) H') E
def rIopO (C : Addr) (sp : Sp) (E : XK) : V → V → Hp → VK → Prop := fun x y H Q => ∃ a dx fs, x = .ref a ∧ H a = some (.ins C dx fs) ∧ sp [.ref a, y] H (fun v H' => ∃ c : Addr, v = .ref c ∧ Q (.ref c) H') E
def rLenD : List V → Hp → VK → Prop := fun xs H Q => ∃ a kvs, xs = [.ref a] ∧ Rd H a (.dK kvs) ∧ Q (.int kvs.length) H
def rInO (C : Addr) (sp : Sp) (E : XK) : R2 := fun x y H Q => ∃ a dx fs, y = .ref a ∧ H a = some (.ins C dx fs) ∧ sp [.ref a, x] H (fun v H' => ∃ c, v = .bl c ∧ Q (.bl c) H') E
open PySem.Calls PySem.W in
def tCallO (C : Addr) (sp : Sp) (E : XK) (tf : TE) (ta : TA) : TE := fun σ H Q => tf σ H fun x H0 => ∃ a : Addr, x = .ref a ∧ ta σ H0 fun vs H1 => (∃ dx fs, H1 a = some (.ins C dx fs)) ∧ sp (.ref a :: vs) H1 Q E
end
end Tw
/-! Tw: tuples of instances compared by their own == -/
namespace GQ
open PySem PySem.SeqAt
open AutoSeq1 (wpAny_loadPart')
open MeetsSeq MeetsSeq2 MeetsSeq3 SeqRoads2
section
variable {prog : Program} {w : World} {A : Around} {R : Result → Shared → Prop}
end
section
variable {prog : Program} {w : World} {A : Around} {E : Value → Shared → Prop} {s : Shared}
end
end GQ
namespace Tw
open PySem PySem.Spec PyProof.Rows L2
section
variable {X : Cx} {CX : CXT} {k : Nat} {C g : Addr} {sp : Sp} {E : XK}
def rEqTO (K : PySem.W.Frag) (C : Addr) (sp : Sp) (E : XK) : R2 := fun x y H Q => ∃ a b xs ys, ∃ e : Nat → Bool, x = .ref a ∧ y = .ref b ∧ SqT K H a xs ∧ SqT K H b ys ∧
  (∀ (i : Nat) (x y : V), xs[i]? = some x → ys[i]? = some y → ∃ p q dx dy fs gs, x = .ref p ∧ y = .ref q ∧ H p = some (.ins C dx fs) ∧ H q = some (.ins C dy gs) ∧ (p = q → e i = true) ∧ ∀ R : VK, R (.bl (e i)) H → sp [.ref p, .ref q] H R E) ∧
  Q (.bl ((List.range (min xs.length ys.length)).all e && xs.length == ys.length)) H
end
end Tw
/-! Tw: instances that are unequal by their own __eq__ -/
namespace Tw
open PySem PySem.Spec PyProof.Rows L2
section
variable {prog : Program} {w : World} {A : Around} {E : Value → Shared → Prop} {s : Shared} {K : PySem.W.Frag} {x C f : Addr} {ox : Obj} {od : Option Obj}
theorem bound_slot {M : Model} {T id : String} {name : PySem.Str} {args : List Value} {Q : Option Value → Shared → Prop} (S : Slot T name id) (X : K.In s.heap) (I : PySem.W.InstAt s.heap x ox C od) (hs : PySem.W.findIn K (.ref C) name = some (some (.builtin id)))
    (h : wpAny M A (call (.builtin id) (.ref x :: args)) (fun v => Q (some v)) E s) : wpAny M A (callSpecialIfBound? (.ref x) name args) Q E s := by
  simp only [callSpecialIfBound?, bindSpecialIfBound?]
  refine wpAny_holding (wpAny_bind (wpAny_bind (wpAny_bind (I.type.here ((PySem.W.looks_findIn X hs).here ?_)))))
  have go : wpAny M A (call (.builtin id) ([.ref x] ++ args) >>= fun v => pure (some v)) Q E s := wpAny_bind (wpAny_mono h (fun v s' h' => wpAny_pure h') fun _ _ h' => h')
  refine wpAny_bind (wpAny_askSetting (wpAny_ite ?_))
  split
  · exact wpAny_bind (wpAny_of_eq (S.bind _) (wpAny_pure (by exact go)))
  · exact wpAny_tryCatch (wpAny_bind (wpAny_of_eq (S.bind _) (wpAny_pure (by exact go))))
theorem objNe_own {y : Value} {Q : Fin → Shared → Prop} (hu : A.units < cLine) (X : K.In s.heap) (I : PySem.W.InstAt s.heap x ox C od) (he : PySem.W.findIn K (.ref C) "__eq__" = some (some (.ref f))) (hf : PySem.W.isFn K (.ref f) = true)
    (h : wpAny (model prog w) A (call (.ref f) [.ref x, y]) (fun v s' => ∃ c, v = .bool c ∧ Q (.done (.ret (.bool (!c)))) s') E s) : wpAny (model prog w) A (Builtin.«object.__ne__» ⟨[.ref x, y], []⟩) Q E s := by
  unfold Builtin.«object.__ne__»
  refine wpAny_bind (wpAny_of_eq (a := ((Value.ref x : Value), [y])) (by first | rfl | (simp only [slotArgs]; rfl)) ?_)
  refine wpAny_bind (wpAny_cRoomFor hu ?_)
  refine wpAny_bind (PySem.W.ifBound_K X I he hf (wpAny_mono h (fun v s' hv => ?_) fun _ _ z => z))
  obtain ⟨c, rfl, q⟩ := hv
  show wpAny _ _ (truthy (.bool c) >>= fun b => _) _ _ _
  refine wpAny_bind (wpAny_of_eq (a := c) (by first | rfl | (unfold truthy; rfl)) ?_)
  exact wpAny_pure q
theorem ne_K {y tb : Value} {Q : Value → Shared → Prop} {h₀ : Heap} {L : Addr} {m : PySem.Str → Option Value} (hu : A.units + 1 < cLine) (hFr : PyProof.Rows.Fr h₀ L s.heap m) (X₀ : K.In h₀) (I : PySem.W.InstAt s.heap x ox C od) (hb : PySem.W.Looks (model prog w) s.heap (typeOf y) tb)
    (hn : PySem.W.notFirst K C tb = true) (hs : PySem.W.findIn K (.ref C) "__ne__" = some (some (.builtin "object.__ne__"))) (ho : PySem.W.subIn K (.ref C) (.type "object") = some true)
    (he : PySem.W.findIn K (.ref C) "__eq__" = some (some (.ref f))) (hf : PySem.W.isFn K (.ref f) = true)
    (h : wpAny (model prog w) A.in1 (call (.ref f) [.ref x, y]) (fun v s' => ∃ c, v = .bool c ∧ Q (.bool (!c)) s') E s) : wpAny (model prog w) A (richCompare .NotEq (.ref x) y) Q E s := by
  have X := X₀.keeps hFr.keep
  have hu0 : A.units < cLine := Nat.lt_of_succ_lt hu
  have sub : PySem.W.Looks (model prog w) s.heap (isInstance (.ref x) (.type "object")) true := I.type.andThen (PySem.W.looks_subIn X ho)
  have one : wpAny (model prog w) A (tryCompare (.ref x) (cmpInfo .NotEq).2.1 y) (fun r s' => ∃ v, r = some v ∧ Q v s') E s := by
    rw [PySem.cmpInfo_NotEq]
    unfold tryCompare
    refine wpAny_bind (bound_slot PySem.F.cmp_object.ne X I hs (wpAny_call (codeAny_call_builtin PySem.F.cmp_object.ne.plain PySem.F.cmpEntry_ne
      (PySem.W.check_slot PySem.F.cmpKind_ne PySem.F.cmpSplit_ne sub (PySem.F.cmpArgs_ne _ _) (objNe_own (A := A.in1) hu X I he hf (wpAny_mono h (fun v s' hv => ?_) fun _ _ z => z))))))
    obtain ⟨c, rfl, q⟩ := hv
    refine ⟨c, rfl, ?_⟩
    exact wpAny_pure ⟨_, rfl, q⟩
  unfold richCompare
  simp only [oneThing_ref]
  refine wpAny_holding (wpAny_bind (wpAny_cRoomFor hu0 ?_))
  refine wpAny_bind (I.type.here (wpAny_bind (hb.here ?_)))
  split
  · rename_i q
    have e : PySem.W.subIn K tb (.ref C) = some false := by
      rcases Bool.or_eq_true_iff.mp hn with e | e
      · rw [beq_iff_eq.mp e] at q
        simp at q
      · exact beq_iff_eq.mp e
    refine wpAny_bind ((PySem.W.looks_subIn X e).here ?_)
    simp only [Bool.false_eq_true, if_false]
    exact wpAny_bind (wpAny_mono one (fun r s' ⟨v, hr, hq⟩ => by
      subst hr
      exact wpAny_pure hq) fun _ _ e => e)
  · refine wpAny_bind (wpAny_pure ?_)
    simp only [Bool.false_eq_true, if_false]
    exact wpAny_bind (wpAny_mono one (fun r s' ⟨v, hr, hq⟩ => by
      subst hr
      exact wpAny_pure hq) fun _ _ e => e)
end
section
variable {X : Cx} {CX : CXT} {k : Nat} {C g : Addr} {sp : Sp} {E : XK}
def rNeO (C : Addr) (sp : Sp) (E : XK) : R2 := fun x y H Q => ∃ a dx fs b dy gs, x = .ref a ∧ y = .ref b ∧ H a = some (.ins C dx fs) ∧ H b = some (.ins C dy gs) ∧ sp [.ref a, .ref b] H (fun v H' => ∃ c, v = .bl c ∧ Q (.bl (!c)) H') E
theorem op_neO (hu : X.A.units + 1 < cLine) (hs : PySem.W.findIn X.K (.ref C) "__ne__" = some (some (.builtin "object.__ne__"))) (ho : PySem.W.subIn X.K (.ref C) (.type "object") = some true) (he : PySem.W.findIn X.K (.ref C) "__eq__" = some (some (.ref g)))
    (hf : PySem.W.isFn X.K (.ref g) = true) (F : FnR X.prog X.w X.K X.mg X.base CX k g sp) (hr : Room (k + 1) X.A) (hx : Passes CX X E) : OpR X (compareOp .NotEq) (rNeO C sp E) := by
  intro pins s σ H x y v u Q I rx ry h
  obtain ⟨a, dx, fs, b, dy, gs, rfl, rfl, ea, eb, q⟩ := h
  cases (show v = Value.ref a from rx)
  cases (show u = Value.ref b from ry)
  show wpAny _ _ (richCompare .NotEq (.ref a) (.ref b)) _ _ _
  obtain ⟨mA, O, _⟩ := ins_get I.hok ea
  obtain ⟨od, J, _⟩ := O.look
  obtain ⟨mB, O', _⟩ := ins_get I.hok eb
  obtain ⟨od', J', _⟩ := O'.look
  obtain ⟨m, hF⟩ := I.fr
  refine ne_K (tb := .ref C) hu hF I.ok.mod.kin J J'.type (by simp [PySem.W.notFirst]) hs ho he hf ?_
  refine wpAny_mono (wpAny_call (SlX.run_at (us := [.ref a, .ref b]) (ws := [.ref a, .ref b]) F hr.in1 I.env0.in1 hx I (.cons rfl (.cons rfl .nil)) q)) (fun w s' z => ?_) fun _ _ x => x
  obtain ⟨z', H', I', rz, c, ez, qz⟩ := z
  subst ez
  cases (show w = Value.bool c from rz)
  exact ⟨c, rfl, .bl (!c), H', I', rfl, qz⟩
end
end Tw
/-! Tw: wheels that are equal -/
namespace Tw
open PySem PySem.Spec PyProof.Rows L2 He TwM StX
open PySem.W (Frag)
local macro_rules | `(tactic| walk_at "rsl") => `(tactic| simp only [*, at3_0, at3_1, at3_2, at2_0, at2_1, updS, upd_two, gSub, rSetL, updN, tPar, tPar3, gTup, gCons, gNil, and_assoc, not_true_eq_false, not_false_eq_true, tNever, List.length_map, tFld, rIxTH, rIxLH, rLenTH, rLenLH, lk1, lfs_g, lfs_s, lfs_p, HO.ins.injEq, HO.tup.injEq, HO.lst.injEq, sp_Book_rounding, sp_Book_action, sp_Book_order, sp_Book_due, sp_Book_zero, sp_Book_beyond, Int.toNat_natCast, sp_visit_after, sp_is_visited, sp_Level_grain, sp_Level_slots, sp_Level_span, sp_Wheel_reach, sp_Wheel___len__, sp_is_integer, sp_is_count, sp_is_within, sp_rounded, tAsg, gName, tVar, tC, tOp, rI, rI0, rU, tUn, oAdd, oSub, oMul, oDiv, oMod, oNeg, oLt, oLe, oGt, oGe, oIsN, oNotN, tFn, tCons, tNil, tIfS, tIf, tTest, tB, tNot, tAnd, tOr, tAndV, tOrV, tNotV,
    tRet, tRetN, tNext, tCB, tDrop, tChain, rEq, rNe, oMax2, oMin2, oInt1, rLenF, L2.start, List.map_cons, List.map_nil, List.length_cons, List.length_nil, List.replicate_succ, List.replicate_zero, List.cons_append, List.nil_append, Nat.reduceAdd, Nat.reduceSub, Nat.zero_add,
    List.set_cons_zero, List.set_cons_succ, List.getElem?_cons_zero, List.getElem?_cons_succ, Option.some.injEq, V.int.injEq, V.ref.injEq, V.str.injEq, V.bl.injEq, exists_eq_left', exists_eq_left, exists_and_left, List.cons.injEq, and_true, true_and, decide_eq_true_eq, sc_ii, sc_ss, sc_bb, sc_ni, sc_in, sc_nn, sc_is, reduceCtorEq,
    Bool.not_eq_true', decide_eq_false_iff_not, if_true, if_false, Bool.false_eq_true, exists_eq', exists_const, false_and, and_false, or_false, false_or, exists_false, Bool.not_not, Bool.not_true, Bool.not_false, sUp_up, sFire_fire, sHigh_high, sPut_put, sZone_now, sBey_refuse, sBey_cut, tTup, tLst, sz0, sz1, sz2, sz3, sz4, sz5, sz6])
local macro_rules | `(tactic| walk_at "st") => `(tactic| ((try dsimp only); rw [seq1]; walk_at "rsl"))
section
variable {K : Frag} {w : World}
theorem LvAt.uniq {H : Hp} {a : Addr} {l l' : Lv} (h : LvAt K H a l) (h' : LvAt K H a l') : l = l' := by
  obtain ⟨_, dx, e⟩ := h
  obtain ⟨_, dy, e'⟩ := h'
  rw [e] at e'
  unfold lfs at e'
  cases l
  cases l'
  simp at e'
  simp [e']
end
end Tw
/-! Tw: books that are the same -/
namespace Tw
open PySem PySem.Spec PyProof.Rows L2 He TwM StX
open PySem.W (Frag)
local macro_rules | `(tactic| walk_at "rsl") => `(tactic| simp only [*, at3_0, at3_1, at3_2, at2_0, at2_1, updS, upd_two, gSub, rSetL, updN, tPar, tPar3, gTup, gCons, gNil, and_assoc, not_true_eq_false, not_false_eq_true, tNever, List.length_map, tFld, rIxTH, rIxLH, rLenTH, rLenLH, lk1, lfs_g, lfs_s, lfs_p, HO.ins.injEq, HO.tup.injEq, HO.lst.injEq, sp_Book_rounding, sp_Book_action, sp_Book_order, sp_Book_due, sp_Book_zero, sp_Book_beyond, Int.toNat_natCast, sp_visit_after, sp_is_visited, sp_Level_grain, sp_Level_slots, sp_Level_span, sp_Wheel_reach, sp_Wheel___len__, sp_is_integer, sp_is_count, sp_is_within, sp_rounded, tAsg, gName, tVar, tC, tOp, rI, rI0, rU, tUn, oAdd, oSub, oMul, oDiv, oMod, oNeg, oLt, oLe, oGt, oGe, oIsN, oNotN, tFn, tCons, tNil, tIfS, tIf, tTest, tB, tNot, tAnd, tOr, tAndV, tOrV, tNotV,
    tRet, tRetN, tNext, tCB, tDrop, tChain, rEq, rNe, oMax2, oMin2, oInt1, rLenF, L2.start, List.map_cons, List.map_nil, List.length_cons, List.length_nil, List.replicate_succ, List.replicate_zero, List.cons_append, List.nil_append, Nat.reduceAdd, Nat.reduceSub, Nat.zero_add,
    List.set_cons_zero, List.set_cons_succ, List.getElem?_cons_zero, List.getElem?_cons_succ, Option.some.injEq, V.int.injEq, V.ref.injEq, V.str.injEq, V.bl.injEq, exists_eq_left', exists_eq_left, exists_and_left, List.cons.injEq, and_true, true_and, decide_eq_true_eq, sc_ii, sc_ss, sc_bb, sc_ni, sc_in, sc_nn, sc_is, reduceCtorEq,
    Bool.not_eq_true', decide_eq_false_iff_not, if_true, if_false, Bool.false_eq_true, exists_eq', exists_const, false_and, and_false, or_false, false_or, exists_false, Bool.not_not, Bool.not_true, Bool.not_false, sUp_up, sFire_fire, sHigh_high, sPut_put, sZone_now, sBey_refuse, sBey_cut, tTup, tLst, sz0, sz1, sz2, sz3, sz4, sz5, sz6])
section
variable {K : Frag} {w : World}
structure Kbq (K : Frag) (w : World) : Prop where
  kf : Kfb K w
  iB : IsiC K (ga K "Book")
  kB : PySem.W.kitOne K (.ref (ga K "Book")) (.ref (ga K "Book")) = some true
theorem eqv_strsQ : ∀ {xs ys : List Str}, PyData.eqvAll (xs.map PyData.str) (ys.map PyData.str) = true → xs = ys
  | [], [], _ => rfl
  | [], y :: ys, h => by cases h
  | x :: xs, [], h => by cases h
  | x :: xs, y :: ys, h => by
    have h' : ((x == y) && PyData.eqvAll (xs.map PyData.str) (ys.map PyData.str)) = true := h
    rw [Bool.and_eq_true] at h'
    rw [eq_of_beq h'.1, eqv_strsQ h'.2]
theorem dp_strsQ {H : Hp} : ∀ (xs : List Str), DpAll K H (xs.map V.str) (xs.map PyData.str)
  | [] => .nil
  | x :: xs => .cons (.str _) (dp_strsQ xs)
theorem lay_strsQ : ∀ xs : List Str, (∀ x ∈ xs, (PyData.str x).canLay0 = true) → PyData.canLayAll0 (xs.map PyData.str) = true
  | [], _ => rfl
  | x :: xs, h => by
    show ((PyData.str x).canLay0 && PyData.canLayAll0 (xs.map PyData.str)) = true
    rw [h x (List.mem_cons_self ..), lay_strsQ xs fun y hy => h y (List.mem_cons_of_mem _ hy)]
    rfl
theorem lay_bwsQ {B : Bk} (hb : B.bey < 3) : ∀ x ∈ bws B, (PyData.str x).canLay0 = true := by
  obtain ⟨u, f, g, p, z, n⟩ := B
  have hn : n = 0 ∨ n = 1 ∨ n = 2 := by have : n < 3 := hb; omega
  intro x hx
  unfold bws at hx
  simp only [List.mem_cons, List.not_mem_nil, or_false] at hx
  rcases hx with rfl | rfl | rfl | rfl | rfl | rfl
  · cases u <;> decide +kernel
  · cases f <;> decide +kernel
  · cases g <;> decide +kernel
  · cases p <;> decide +kernel
  · cases z <;> decide +kernel
  · rcases hn with rfl | rfl | rfl <;> decide +kernel
theorem depth_strsQ : ∀ xs : List Str, PyData.depthAll (xs.map PyData.str) = 0
  | [] => rfl
  | x :: xs => by
    show max (PyData.str x).depth (PyData.depthAll (xs.map PyData.str)) = 0
    rw [depth_strsQ xs]
    rfl
theorem shaped_strsQ {xs : List Str} (h : ∀ x ∈ xs, (PyData.str x).canLay0 = true) : SeqAt.shaped (.tuple (xs.map PyData.str)) = true := by
  unfold SeqAt.shaped
  rw [show (PyData.tuple (xs.map PyData.str)).canLay0 = PyData.canLayAll0 (xs.map PyData.str) from rfl, lay_strsQ xs h]
  have := depth_strsQ xs
  exact decide_eq_true (show PyData.depthAll (xs.map PyData.str) + 1 ≤ 64 by omega)
theorem eqv_bwsQ {B B' : Bk} (h : B.bey < 3) (h' : B'.bey < 3) : PyData.eqv (.tuple ((bws B).map PyData.str)) (.tuple ((bws B').map PyData.str)) = decide (B = B') := by
  by_cases e : B = B'
  · subst e
    rw [decide_eq_true rfl]
    exact SeqAt.eqv_refl _ (lay_strsQ _ (lay_bwsQ h))
  · rw [decide_eq_false e]
    cases hc : PyData.eqv (.tuple ((bws B).map PyData.str)) (.tuple ((bws B').map PyData.str)) with
    | false => rfl
    | true => exact absurd (bws_inj h h' (eqv_strsQ hc).symm).symm e
def sp_Book___eq__ (K : Frag) : Sp := fun vs H Q _ => ∃ (a b : Addr) (B B' : Bk), vs = [.ref a, .ref b] ∧ BkAt K H a B ∧ BkAt K H b B' ∧ Q (.bl (decide (B = B'))) H
def t_Book___eq__ (K : Frag) (w : World) : TS :=
  (tRet (tAndV (tCB (rIsi K) (tCons (tVar 1) (tCons (tC (.ref (ga K "Book"))) tNil))) (tOp (rEqD K) (tFld K (tVar 0) "kept_values") (tFld K (tVar 1) "kept_values"))))
def n_Book___eq__ : List Str := ["self", "other"]
theorem rd_Book___eq__ (T : Kbq K w) (vs : List V) (H : Hp) (Q : VK) (E : XK) (h : sp_Book___eq__ K vs H Q E) : t_Book___eq__ K w { nx := fun _ H' => Q .non H', rt := Q } (L2.start n_Book___eq__ vs) H := by
  obtain ⟨a, b, B, B', rfl, ⟨ok1, dx, t, h1, h2⟩, ⟨ok2, dy, u, g1, g2⟩, q⟩ := h
  have c1 := T.kf.cB
  have c2 := T.kf.nBv
  unfold t_Book___eq__ n_Book___eq__
  walk_at "rsl"
  refine ⟨.ref b, _, _, _, true, rfl, .own _, .base (.ins g1 c1 T.iB.ca T.iB.cn T.iB.ct T.iB.cm), T.kB, true, rfl, ?_⟩
  rw [if_pos rfl]
  walk_at "rsl"
  refine ⟨.tuple ((bws B).map PyData.str), .tuple ((bws B').map PyData.str), .tup (SqT.of h2) (dp_strsQ _), .tup (SqT.of g2) (dp_strsQ _), shaped_strsQ (lay_bwsQ ok1), shaped_strsQ (lay_bwsQ ok2), ?_⟩
  rw [eqv_bwsQ ok1 ok2]
  exact q
end
end Tw
/-! Tw: the text of a book -/
namespace Tw
open PySem PySem.Spec PyProof.Rows L2 He TwM StX
open PySem.W (Frag)
local macro_rules | `(tactic| walk_at "rsl") => `(tactic| simp only [*, at3_0, at3_1, at3_2, at2_0, at2_1, updS, upd_two, gSub, L2.rSetL, updN, tPar, tPar3, gTup, gCons, gNil, and_assoc, not_true_eq_false, not_false_eq_true, tNever, List.length_map, tFld, rIxTH, rIxLH, rLenTH, rLenLH, lk1, lfs_g, lfs_s, lfs_p, HO.ins.injEq, HO.tup.injEq, HO.lst.injEq, sp_Book_rounding, sp_Book_action, sp_Book_order, sp_Book_due, sp_Book_zero, sp_Book_beyond, Int.toNat_natCast, sp_visit_after, sp_is_visited, sp_Level_grain, sp_Level_slots, sp_Level_span, sp_Wheel_reach, sp_Wheel___len__, sp_is_integer, sp_is_count, sp_is_within, sp_rounded, tAsg, gName, tVar, tC, tOp, rI, rI0, rU, tUn, oAdd, oSub, oMul, oDiv, oMod, oNeg, oLt, oLe, oGt, oGe, oIsN, oNotN, tFn, tCons, tNil, tIfS, tIf, tTest, tB, tNot, tAnd, tOr, tAndV, tOrV, tNotV,
    tRet, tRetN, tNext, tCB, tDrop, tChain, rEq, rNe, oMax2, oMin2, oInt1, rLenF, L2.start, List.map_cons, List.map_nil, List.length_cons, List.length_nil, List.replicate_succ, List.replicate_zero, List.cons_append, List.nil_append, Nat.reduceAdd, Nat.reduceSub, Nat.zero_add,
    List.set_cons_zero, List.set_cons_succ, List.getElem?_cons_zero, List.getElem?_cons_succ, Option.some.injEq, V.int.injEq, V.ref.injEq, V.str.injEq, V.bl.injEq, exists_eq_left', exists_eq_left, exists_and_left, List.cons.injEq, and_true, true_and, decide_eq_true_eq, sc_ii, sc_ss, sc_bb, sc_ni, sc_in, sc_nn, sc_is, reduceCtorEq,
    Bool.not_eq_true', decide_eq_false_iff_not, if_true, if_false, Bool.false_eq_true, exists_eq', exists_const, false_and, and_false, or_false, false_or, exists_false, Bool.not_not, Bool.not_true, Bool.not_false, sUp_up, sFire_fire, sHigh_high, sPut_put, sZone_now, sBey_refuse, sBey_cut, tTup, tLst, sz0, sz1, sz2, sz3, sz4, sz5, sz6])
section
variable {K : Frag} {w : World}
def sp_Book_text (K : Frag) : Sp := fun vs H Q _ => ∃ (b : Addr) (B : Bk), vs = [.ref b] ∧ BkAt K H b B ∧ Q (.str (Txt.join " " (bws B))) H
theorem in_Book_text (K : Frag) : InsAt (ga K "Book") (sp_Book_text K) := fun vs H Q E ⟨b, B, e, ⟨_, dx, t, h, _⟩, _⟩ => ⟨b, dx, _, _, e, h⟩
def t_Book_text (K : Frag) (w : World) : TS :=
  (tRet (tM1 (oJoin K) (tC (.str " ")) (tFld K (tVar 0) "kept_values")))
def n_Book_text : List Str := ["self"]
theorem rd_Book_text (T : Kfb K w) (vs : List V) (H : Hp) (Q : VK) (E : XK) (h : sp_Book_text K vs H Q E) : t_Book_text K w { nx := fun _ H' => Q .non H', rt := Q } (L2.start n_Book_text vs) H := by
  obtain ⟨b, B, rfl, ⟨hb, dx, t, h1, h2⟩, q⟩ := h
  have c1 := T.cB
  have c2 := T.nBv
  unfold t_Book_text n_Book_text tM1
  walk_at "rsl"
  exact ⟨_, t, bws B, rfl, rfl, .inr (SqT.of h2), bws_sum B, q⟩
end
end Tw
/-! Tw: least common multiples -/
namespace Tw
def IsL (a b m : Int) : Prop := 0 < m ∧ ∀ d, m ∣ d ↔ (a ∣ d ∧ b ∣ d)
def LcmOf (es : List Int) (m : Int) : Prop := 0 < m ∧ ∀ d, m ∣ d ↔ ∀ e ∈ es, e ∣ d
theorem LcmOf.eq {es : List Int} {m m' : Int} (h : LcmOf es m) (h' : LcmOf es m') : m = m' :=
  Int.dvd_antisymm (Int.le_of_lt h.1) (Int.le_of_lt h'.1) ((h.2 m').mpr ((h'.2 m').mp (Int.dvd_refl _))) ((h'.2 m).mpr ((h.2 m).mp (Int.dvd_refl _)))
theorem LcmOf.one : LcmOf [] 1 := ⟨by decide, fun d => ⟨fun _ _ z => by simp at z, fun _ => Int.one_dvd _⟩⟩
theorem LcmOf.cons {es : List Int} {m a m' : Int} (h : LcmOf es m) (h' : IsL a m m') : LcmOf (a :: es) m' := ⟨h'.1, fun d => by
  rw [h'.2 d, h.2 d]
  constructor
  · rintro ⟨z1, z2⟩ e he
    rcases List.mem_cons.mp he with rfl | he
    · exact z1
    · exact z2 e he
  · intro z
    exact ⟨z a (by simp), fun e he => z e (by simp [he])⟩⟩
end Tw
/-! Tw: rings, in plain Lean -/
namespace Tw
open TwM
theorem php : ∀ (g : Nat) (l : List Nat), l.Nodup → (∀ x ∈ l, x < g) → l.length ≤ g
  | 0, l, _, h => by
    cases l with
    | nil => exact Nat.le_refl _
    | cons x l => exact absurd (h x List.mem_cons_self) (Nat.not_lt_zero _)
  | g + 1, l, hn, h => by
    have h1 := php g (l.erase g) (hn.erase g) fun x hx => by
      have h2 := (hn.mem_erase_iff).mp hx
      have := h x h2.2
      have : x ≠ g := h2.1
      omega
    rw [List.length_erase] at h1
    split at h1 <;> omega
theorem php_fn {f : Nat → Int} {g : Int} {n : Nat} (hg : 0 ≤ g) (hr : ∀ i, i < n → 0 ≤ f i ∧ f i < g) (hd : ∀ i j, i < j → j < n → f i ≠ f j) : (n : Int) ≤ g := by
  have hn : ((List.range n).map fun i => (f i).toNat).Nodup := by
    rw [List.Nodup, List.pairwise_map]
    refine (List.pairwise_lt_range (n := n)).imp_of_mem fun {a b} ha hb hlt => ?_
    have h1 := hr a (List.mem_range.mp ha)
    have h2 := hr b (List.mem_range.mp hb)
    have := hd a b hlt (List.mem_range.mp hb)
    omega
  have := php g.toNat _ hn fun x hx => by
    obtain ⟨i, hi, rfl⟩ := List.mem_map.mp hx
    have := hr i (List.mem_range.mp hi)
    omega
  rw [List.length_map, List.length_range] at this
  rcases Nat.eq_zero_or_pos n with z | z
  · subst z
    exact hg
  · have := hr 0 z
    omega
section
variable {W : List Lv} {B : Bk}
def tkR (W : List Lv) (B : Bk) (d start : Int) : Nat → Int
  | 0 => start
  | n + 1 => (fin W B (tkR W B d start n) d).1
structure RingIs (W : List Lv) (B : Bk) (d g start : Int) (N lead : Nat) : Prop where
  dif : ∀ i j, i < j → j < N → tkR W B d start i % g ≠ tkR W B d start j % g
  lt : lead < N
  eq : tkR W B d start lead % g = tkR W B d start N % g
theorem RingIs.uniq {d g start : Int} {N N' lead lead' : Nat} (h : RingIs W B d g start N lead) (h' : RingIs W B d g start N' lead') : N = N' ∧ lead = lead' := by
  have hN : N = N' := by
    rcases Nat.lt_trichotomy N N' with z | z | z
    · exact absurd h.eq (h'.dif lead N h.lt z)
    · exact z
    · exact absurd h'.eq (h.dif lead' N' h'.lt z)
  subst hN
  refine ⟨rfl, ?_⟩
  rcases Nat.lt_trichotomy lead lead' with z | z | z
  · exact absurd (h.eq.trans h'.eq.symm) (h.dif lead lead' z h'.lt)
  · exact z
  · exact absurd (h'.eq.trans h.eq.symm) (h.dif lead' lead z h.lt)
theorem tkR_later (ok : WOk W) (hb3 : B.bey < 3) {d : Int} (hd : 1 ≤ d) (hb : reach W ≤ d → B.bey ≠ 0) (start m : Int) : ∀ n, tkR W B d (start + (lv W (TwM.levelIx W d)).g * m) n = tkR W B d start n + (lv W (TwM.levelIx W d)).g * m
  | 0 => rfl
  | n + 1 => by
    show (fin W B (tkR W B d (start + (lv W (TwM.levelIx W d)).g * m) n) d).1 = _
    rw [tkR_later ok hb3 hd hb start m n]
    obtain ⟨_, _, _, _, _, _, _, h, _⟩ := later (B := B) ok hb3 hd hb (tkR W B d start n) m
    exact h
theorem RingIs.later (ok : WOk W) (hb3 : B.bey < 3) {d : Int} (hd : 1 ≤ d) (hb : reach W ≤ d → B.bey ≠ 0) {start : Int} (m : Int) {N lead : Nat} (h : RingIs W B d (lv W (TwM.levelIx W d)).g start N lead) : RingIs W B d (lv W (TwM.levelIx W d)).g (start + (lv W (TwM.levelIx W d)).g * m) N lead := by
  have e : ∀ n, tkR W B d (start + (lv W (TwM.levelIx W d)).g * m) n % (lv W (TwM.levelIx W d)).g = tkR W B d start n % (lv W (TwM.levelIx W d)).g := fun n => by
    rw [tkR_later ok hb3 hd hb, Int.add_mul_emod_self_left]
  refine ⟨fun i j a b => ?_, h.lt, ?_⟩
  · rw [e, e]; exact h.dif i j a b
  · rw [e, e]; exact h.eq
end
end Tw
/-! Tw: how late a timer fires at most -/
namespace Tw
open TwM
theorem wl_late {W : List Lv} {B : Bk} (ok : WOk W) {M : Int} (hM : ∀ i, i < W.length → (lv W i).s * (lv W i).g ≤ M) : ∀ (n : Nat) {sp : Spot} {a mv : Int} {r : Res}, sp.lv < W.length → wl W B none n sp a mv = some r → r.2.1 ≤ (if sp.lv = 0 then a + M else (if a < sp.due then sp.due else a) + 2 * M)
  | 0, _, _, _, _, _, h => by cases h
  | n + 1, sp, a, mv, r, hl, h => by
    have hall := ok.all _ hl
    have hgt := va_step ok hl sp.pt a
    have hmost := va_most (l := lv W sp.lv) (by omega) (by omega) sp.pt a
    have hm := hM _ hl
    unfold wl at h
    dsimp only at h
    rw [show over none (va (lv W sp.lv) sp.pt a) = false from rfl, if_neg Bool.false_ne_true] at h
    split at h
    · cases h
    · cases h
      dsimp only
      split
      · omega
      · split <;> omega
    · rename_i sp' hq
      obtain ⟨c1, c2, c3, c4⟩ := visGo_last ok _ hq
      have h0 : sp.lv ≠ 0 := fun e => by
        have := visGo_zero (W := W) (B := B) (before := va (lv W sp.lv) sp.pt a - 1) (now := va (lv W sp.lv) sp.pt a) (order W B) e (some sp') (List.mem_of_getLast? hq)
        cases this
      have ih := wl_late ok hM n c1 h
      rw [if_neg h0]
      rcases c4 with ⟨d1, d2⟩ | ⟨d1, d2⟩
      · rw [c2, if_pos d1] at ih
        split at ih <;> split <;> omega
      · have hz : sp'.lv = 0 := by rw [d2]
        rw [if_pos hz] at ih
        split <;> omega
end Tw
/-! Tw: two plans, in plain Lean -/
namespace Tw
open TwM
theorem place_in {W : List Lv} (ok : WOk W) {B : Bk} {d : Int} {i : Nat} (hi : levelOf W d = some i) (h1 : 1 ≤ d) (start : Int) : placeM W B start d = some ⟨i, rnd B.up (start + d) (lv W i).g, start + d⟩ := by
  obtain ⟨a1, a2⟩ := levelOf_lt hi
  have hr : d < reach W := by
    have := le_reach ok a1
    omega
  have e0 : (if 1 > d then 1 else d) = d := by split <;> omega
  unfold placeM
  rw [if_neg (fun z => by have := z.1; omega)]
  dsimp only
  rw [e0, if_neg (fun z => by have := z.1; omega)]
  unfold spotAt
  rw [hi]
theorem mod_same {s x m : Int} (hs : 0 < s) (h : x / s = (x + m) / s) : (x + m) % s = x % s + m := by
  have h1 := Int.mul_ediv_add_emod x s
  have h2 := Int.mul_ediv_add_emod (x + m) s
  rw [← h] at h2
  omega
theorem fin_turn {W : List Lv} (ok : WOk W) {B : Bk} {d start m : Int} {i : Nat} (hi : levelOf W d = some i) (h1 : 1 ≤ d) (hi' : levelOf W (d + (lv W i).g * m) = some i) (h1' : 1 ≤ d + (lv W i).g * m)
    (ht : (rnd B.up (start + d) (lv W i).g - start / (lv W i).g - 1) / (lv W i).s = (rnd B.up (start + d) (lv W i).g - start / (lv W i).g - 1 + m) / (lv W i).s) :
    (fin W B start (d + (lv W i).g * m)).1 = (fin W B start d).1 + (lv W i).g * m := by
  obtain ⟨hl, _⟩ := levelOf_lt hi
  have hall := ok.all i hl
  have e1 := place_in ok (B := B) hi h1 start
  have e2 := place_in ok (B := B) hi' h1' start
  have hix : TwM.levelIx W d = i := by unfold TwM.levelIx; rw [hi]; rfl
  have hD := dv_of ok hl m
  have hsh : (⟨i, rnd B.up (start + (d + (lv W i).g * m)) (lv W i).g, start + (d + (lv W i).g * m)⟩ : Spot) = sh W ((lv W i).g * m) ⟨i, rnd B.up (start + d) (lv W i).g, start + d⟩ := by
    unfold sh
    dsimp only
    rw [show start + (d + (lv W i).g * m) = start + d + (lv W i).g * m by omega, rnd_shift (by omega), Int.mul_ediv_cancel_left _ (by omega)]
  rw [hsh] at e2
  generalize hsp : (⟨i, rnd B.up (start + d) (lv W i).g, start + d⟩ : Spot) = sp at *
  have hspl : sp.lv = i := by rw [← hsp]
  have hspp : sp.pt = rnd B.up (start + d) (lv W i).g := by rw [← hsp]
  have hspd : sp.due = start + d := by rw [← hsp]
  have hlw : sp.lv < W.length := by rw [hspl]; exact hl
  obtain ⟨q, hq⟩ := fol_ends ok B none (mu sp start + 1) sp start 0 hlw (Nat.le_succ _)
  have hq2 := fol_shift (B := B) ok hD (mu sp start + 1) (sp := sp) (tick := start) (mv := 0) (by omega) hlw (by rw [hspd, show start + d - start = d by omega, hix]; exact Nat.le_refl _)
  rw [hq] at hq2
  have hva : va (lv W (sh W ((lv W i).g * m) sp).lv) (sh W ((lv W i).g * m) sp).pt start = va (lv W (sh W ((lv W i).g * m) sp).lv) (sh W ((lv W i).g * m) sp).pt (start + (lv W i).g * m) := by
    show va (lv W sp.lv) (sp.pt + (lv W i).g * m / (lv W sp.lv).g) start = va (lv W sp.lv) (sp.pt + (lv W i).g * m / (lv W sp.lv).g) (start + (lv W i).g * m)
    rw [hspl, va_shift (by omega) (Int.dvd_mul_right _ _), Int.mul_ediv_cancel_left _ (by omega)]
    unfold va
    have k1 := mod_same (s := (lv W i).s) (by omega) ht
    rw [hspp]
    rw [show rnd B.up (start + d) (lv W i).g + m - start / (lv W i).g - 1 = rnd B.up (start + d) (lv W i).g - start / (lv W i).g - 1 + m by omega, k1]
    rw [show start / (lv W i).g + 1 + ((rnd B.up (start + d) (lv W i).g - start / (lv W i).g - 1) % (lv W i).s + m) = (start / (lv W i).g + 1 + (rnd B.up (start + d) (lv W i).g - start / (lv W i).g - 1) % (lv W i).s) + m by omega, Int.add_mul, Int.mul_comm m]
  have hq3 : fol W B none (mu sp start + 1) (sh W ((lv W i).g * m) sp) start 0 = (some q).map (shR W ((lv W i).g * m)) := by
    rw [← hq2]
    unfold fol
    rw [hva]
    dsimp only
    rw [show over none (va (lv W (sh W ((lv W i).g * m) sp).lv) (sh W ((lv W i).g * m) sp).pt (start + (lv W i).g * m)) = false from rfl, if_neg Bool.false_ne_true, if_neg Bool.false_ne_true]
  have f1 := fin_some e1 ok hlw hq
  have f2 := fin_some e2 ok (by show sp.lv < W.length; exact hlw) hq3
  rw [f1, f2]
  rfl
def ttt (up : Bool) (l : Lv) (tot : Int) : Int := ((0 - rnd up tot l.g) % l.s + 1) * l.g
theorem fin_jump {W : List Lv} (ok : WOk W) {B : Bk} {d start k : Int} {i : Nat} (hi : levelOf W d = some i) (h1 : 1 ≤ d) (hi' : levelOf W (d + k) = some i) (hk0 : 0 ≤ k) (hg : (lv W i).g ∣ k) (hk : k < ttt B.up (lv W i) (start % (lv W i).g + d)) :
    (fin W B start (d + k)).1 = (fin W B start d).1 + k := by
  obtain ⟨hl, _⟩ := levelOf_lt hi
  have hall := ok.all i hl
  obtain ⟨m, rfl⟩ := hg
  refine fin_turn ok hi h1 hi' (by omega) ?_
  have e0 : rnd B.up (start + d) (lv W i).g = rnd B.up (start % (lv W i).g + d) (lv W i).g + start / (lv W i).g := by
    rw [← rnd_shift (by omega)]
    congr 1
    have := Int.emod_add_mul_ediv start (lv W i).g
    omega
  rw [e0]
  unfold ttt at hk
  generalize rnd B.up (start % (lv W i).g + d) (lv W i).g = p at *
  rw [show p + start / (lv W i).g - start / (lv W i).g - 1 = p - 1 by omega]
  have hm0 : 0 ≤ m := by
    rcases Int.lt_or_le m 0 with z | z
    · have := Int.mul_neg_of_pos_of_neg (a := (lv W i).g) (by omega) z
      omega
    · exact z
  have hm1 : m < (0 - p) % (lv W i).s + 1 := by
    rw [Int.mul_comm] at hk
    exact Int.lt_of_mul_lt_mul_right hk (by omega)
  have h3 := Int.mul_ediv_add_emod (0 - p) (lv W i).s
  have h4 := Int.emod_nonneg (0 - p) (b := (lv W i).s) (by omega)
  have h5 := Int.emod_lt_of_pos (0 - p) (b := (lv W i).s) (by omega)
  generalize (0 - p) % (lv W i).s = r at *
  have key : ∀ x : Int, 0 ≤ x → x ≤ r → (p - 1 + x) / (lv W i).s = -((0 - p) / (lv W i).s) - 1 := fun x x0 x1 => by
    have := (Int.ediv_emod_unique (a := p - 1 + x) (b := (lv W i).s) (q := -((0 - p) / (lv W i).s) - 1) (r := (lv W i).s - r - 1 + x) (by omega)).mpr ⟨by rw [Int.mul_sub, Int.mul_neg]; omega, by omega, by omega⟩
    exact this.1
  have k0 := key 0 (Int.le_refl _) h4
  rw [Int.add_zero] at k0
  rw [k0, key m hm0 (by omega)]
section
variable (W1 : List Lv) (B1 : Bk) (W2 : List Lv) (B2 : Bk)
def dif (start d : Int) : Int := (fin W1 B1 start d).1 - (fin W2 B2 start d).1
def prd (later : Bool) (z : Int) : Prop := if later = true then 0 < z else z ≠ 0
instance (later : Bool) (z : Int) : Decidable (prd later z) := by unfold prd; infer_instance
def PairIs (later : Bool) (o : Option (Int × Int)) : Prop := match o with
  | none => ∀ d, 0 ≤ d → d < reach W1 → d < reach W2 → ∀ st, 0 ≤ st → ¬ prd later (dif W1 B1 W2 B2 st d)
  | some (st, d) => 0 ≤ d ∧ d < reach W1 ∧ d < reach W2 ∧ 0 ≤ st ∧ prd later (dif W1 B1 W2 B2 st d) ∧ (∀ d', 0 ≤ d' → d' < d → ∀ st', 0 ≤ st' → ¬ prd later (dif W1 B1 W2 B2 st' d')) ∧ ∀ st', 0 ≤ st' → st' < st → ¬ prd later (dif W1 B1 W2 B2 st' d)
end
section
variable {W1 : List Lv} {B1 : Bk} {W2 : List Lv} {B2 : Bk}
theorem PairIs.uniq {later : Bool} {o o' : Option (Int × Int)} (h : PairIs W1 B1 W2 B2 later o) (h' : PairIs W1 B1 W2 B2 later o') : o = o' := by
  cases o with
  | none =>
    cases o' with
    | none => rfl
    | some p' =>
      obtain ⟨a1, a2, a3, a4, a5, _⟩ := h'
      exact absurd a5 (h _ a1 a2 a3 _ a4)
  | some p =>
    cases o' with
    | none =>
      obtain ⟨a1, a2, a3, a4, a5, _⟩ := h
      exact absurd a5 (h' _ a1 a2 a3 _ a4)
    | some p' =>
      obtain ⟨a1, a2, a3, a4, a5, a6, a7⟩ := h
      obtain ⟨b1, b2, b3, b4, b5, b6, b7⟩ := h'
      obtain ⟨st, d⟩ := p
      obtain ⟨st', d'⟩ := p'
      dsimp only at *
      have hd : d = d' := by
        rcases Int.lt_trichotomy d d' with z | z | z
        · exact absurd a5 (b6 d a1 z st a4)
        · exact z
        · exact absurd b5 (a6 d' b1 z st' b4)
      subst hd
      have hs : st = st' := by
        rcases Int.lt_trichotomy st st' with z | z | z
        · exact absurd a5 (b7 st a4 z)
        · exact z
        · exact absurd b5 (a7 st' b4 z)
      rw [hs]
theorem dif_later (ok1 : WOk W1) (ok2 : WOk W2) (hb1 : B1.bey < 3) (hb2 : B2.bey < 3) {d : Int} (hd : 1 ≤ d) (hr1 : d < reach W1) (hr2 : d < reach W2) {m : Int} (h1 : (lv W1 (TwM.levelIx W1 d)).g ∣ m) (h2 : (lv W2 (TwM.levelIx W2 d)).g ∣ m) (start : Int) :
    dif W1 B1 W2 B2 (start + m) d = dif W1 B1 W2 B2 start d := by
  obtain ⟨a, ha⟩ := h1
  obtain ⟨b, hb⟩ := h2
  obtain ⟨_, _, _, _, _, _, _, e1, _⟩ := later (B := B1) ok1 hb1 hd (fun z => by omega) start a
  obtain ⟨_, _, _, _, _, _, _, e2, _⟩ := later (B := B2) ok2 hb2 hd (fun z => by omega) start b
  unfold dif
  rw [← ha] at e1
  rw [← hb] at e2
  omega
theorem fin_zero {W : List Lv} {B : Bk} (start : Int) : (fin W B start 0).1 = (if B.zone = false then start else (fin W B start 1).1) := by
  unfold fin placeM
  cases B.zone
  · simp
  · simp
end
/-! ### delays that two wheels have in common -/
def lowD (W : List Lv) (i : Nat) : Int := if i = 0 then 1 else (lv W (i - 1)).p
structure Part where
  i : Nat
  j : Nat
  lo : Int
  hi : Int
theorem asc_lt {W : List Lv} (ok : WOk W) {i j : Nat} (h : i < j) (hj : j < W.length) : (lv W i).p < (lv W j).p := by
  have := asc_le ok (j - i - 1) i (by omega)
  rwa [show i + (j - i - 1) + 1 = j by omega] at this
theorem lowD_le {W : List Lv} (ok : WOk W) {i j : Nat} (h : i < j) (hj : j < W.length) : (lv W i).p ≤ lowD W j := by
  unfold lowD
  rw [if_neg (by omega)]
  rcases Nat.lt_or_ge i (j - 1) with z | z
  · have := asc_lt ok z (by omega)
    omega
  · rw [show j - 1 = i by omega]
    exact Int.le_refl _
theorem lowD_pos {W : List Lv} (ok : WOk W) {i : Nat} (hi : i < W.length) : 1 ≤ lowD W i := by
  unfold lowD
  split
  · exact Int.le_refl _
  · have := (ok.all (i - 1) (by omega)).2.2.2.2
    omega
theorem level_in {W : List Lv} (ok : WOk W) {i : Nat} (hi : i < W.length) {d : Int} (h1 : lowD W i ≤ d) (h2 : d < (lv W i).p) : levelOf W d = some i := levelOf_is hi (fun j hj => by
  have := lowD_le ok hj hi
  omega) h2
section
variable {W1 : List Lv} {B1 : Bk} {W2 : List Lv} {B2 : Bk}
def PartIs (W1 : List Lv) (B1 : Bk) (W2 : List Lv) (B2 : Bk) (later : Bool) (x : Part) (m : Int) (o : Option (Int × Int)) : Prop := match o with
  | none => ∀ d, x.lo ≤ d → d ≤ x.hi → ∀ st, 0 ≤ st → st < m → ¬ prd later (dif W1 B1 W2 B2 st d)
  | some (d, st) => x.lo ≤ d ∧ d ≤ x.hi ∧ 0 ≤ st ∧ st < m ∧ prd later (dif W1 B1 W2 B2 st d) ∧ ∀ d' st', x.lo ≤ d' → d' ≤ x.hi → 0 ≤ st' → st' < m → prd later (dif W1 B1 W2 B2 st' d') → d < d' ∨ d = d' ∧ st ≤ st'
theorem IsL.eq {a b m m' : Int} (h : IsL a b m) (h' : IsL a b m') : m = m' :=
  Int.dvd_antisymm (Int.le_of_lt h.1) (Int.le_of_lt h'.1) ((h.2 m').mpr ((h'.2 m').mp (Int.dvd_refl _))) ((h'.2 m).mpr ((h.2 m).mp (Int.dvd_refl _)))
def FDIs (W1 : List Lv) (B1 : Bk) (W2 : List Lv) (B2 : Bk) (later : Bool) (hi m start low : Int) (o : Option Int) : Prop := match o with
  | none => ∀ d, low ≤ d → d ≤ hi → m ∣ d - low → ¬ prd later (dif W1 B1 W2 B2 start d)
  | some d => low ≤ d ∧ d ≤ hi ∧ m ∣ d - low ∧ prd later (dif W1 B1 W2 B2 start d) ∧ ∀ d', low ≤ d' → d' < d → m ∣ d' - low → ¬ prd later (dif W1 B1 W2 B2 start d')
def BestIs (W1 : List Lv) (B1 : Bk) (W2 : List Lv) (B2 : Bk) (later : Bool) (x : Part) (m : Int) (P : Int → Int → Prop) (o : Option (Int × Int)) : Prop := match o with
  | none => ∀ d st, x.lo ≤ d → d ≤ x.hi → P d st → ¬ prd later (dif W1 B1 W2 B2 st d)
  | some (d, st) => x.lo ≤ d ∧ d ≤ x.hi ∧ 0 ≤ st ∧ st < m ∧ prd later (dif W1 B1 W2 B2 st d) ∧ ∀ d' st', x.lo ≤ d' → d' ≤ x.hi → P d' st' → prd later (dif W1 B1 W2 B2 st' d') → d < d' ∨ d = d' ∧ st ≤ st'
theorem BestIs.imp {later : Bool} {x : Part} {m : Int} {P P' : Int → Int → Prop} {o : Option (Int × Int)} (h : BestIs W1 B1 W2 B2 later x m P o) (hP : ∀ d st, x.lo ≤ d → d ≤ x.hi → P' d st → P d st) : BestIs W1 B1 W2 B2 later x m P' o := by
  cases o with
  | none => exact fun d st a b c => h d st a b (hP d st a b c)
  | some p =>
    obtain ⟨a1, a2, a3, a4, a5, a6⟩ := h
    exact ⟨a1, a2, a3, a4, a5, fun d' st' a b c => a6 d' st' a b (hP d' st' a b c)⟩
def nextBest (o : Option (Int × Int)) (st : Int) : Option Int → Option (Int × Int)
  | none => o
  | some d => match o with
    | none => some (d, st)
    | some (bd, bs) => if (if d = bd then (if st = bs then False else st < bs) else d < bd) then some (d, st) else some (bd, bs)
theorem BestIs.next {later : Bool} {x : Part} {m : Int} {P : Int → Int → Prop} {o : Option (Int × Int)} (h : BestIs W1 B1 W2 B2 later x m P o) {st low : Int} (hlo : x.lo ≤ low) (h0 : 0 ≤ st) (h1 : st < m) (hlm : low < x.lo + m) {o2 : Option Int} (hf : FDIs W1 B1 W2 B2 later x.hi m st low o2) :
    BestIs W1 B1 W2 B2 later x m (fun d s => P d s ∨ s = st ∧ low ≤ d ∧ m ∣ d - low) (nextBest o st o2) := by
  cases o2 with
  | none =>
    cases o with
    | none =>
      intro d s a b c
      rcases c with c | ⟨rfl, c1, c2⟩
      · exact h d s a b c
      · exact hf d c1 b c2
    | some p =>
      obtain ⟨a1, a2, a3, a4, a5, a6⟩ := h
      refine ⟨a1, a2, a3, a4, a5, fun d' s' a b c hq => ?_⟩
      rcases c with c | ⟨rfl, c1, c2⟩
      · exact a6 d' s' a b c hq
      · exact absurd hq (hf d' c1 b c2)
  | some d0 =>
    obtain ⟨f1, f2, f3, f4, f5⟩ := hf
    have key : ∀ d', x.lo ≤ d' → d' ≤ x.hi → low ≤ d' → m ∣ d' - low → prd later (dif W1 B1 W2 B2 st d') → d0 ≤ d' := fun d' a b c e hq => by
      rcases Int.lt_or_le d' d0 with z | z
      · exact absurd hq (f5 d' c z e)
      · exact z
    cases o with
    | none =>
      refine ⟨by omega, f2, h0, h1, f4, fun d' s' a b c hq => ?_⟩
      rcases c with c | ⟨rfl, c1, c2⟩
      · exact absurd hq (h d' s' a b c)
      · have := key d' a b c1 c2 hq
        omega
    | some p =>
      obtain ⟨bd, bs⟩ := p
      obtain ⟨a1, a2, a3, a4, a5, a6⟩ := h
      show BestIs W1 B1 W2 B2 later x m _ (if (if d0 = bd then (if st = bs then False else st < bs) else d0 < bd) then some (d0, st) else some (bd, bs))
      by_cases hc : (if d0 = bd then (if st = bs then False else st < bs) else d0 < bd)
      · rw [if_pos hc]
        have hc' : d0 < bd ∨ d0 = bd ∧ st < bs := by
          split at hc
          · split at hc
            · exact hc.elim
            · exact .inr ⟨by assumption, hc⟩
          · exact .inl hc
        refine ⟨by omega, f2, h0, h1, f4, fun d' s' a b c hq => ?_⟩
        rcases c with c | ⟨rfl, c1, c2⟩
        · rcases a6 d' s' a b c hq with z | z <;> omega
        · have := key d' a b c1 c2 hq
          omega
      · rw [if_neg hc]
        have hc' : bd < d0 ∨ bd = d0 ∧ bs ≤ st := by
          split at hc
          · split at hc <;> omega
          · omega
        refine ⟨a1, a2, a3, a4, a5, fun d' s' a b c hq => ?_⟩
        rcases c with c | ⟨rfl, c1, c2⟩
        · exact a6 d' s' a b c hq
        · have := key d' a b c1 c2 hq
          omega
end
end Tw
/-! Tw: kinds of timers of a level, in plain Lean -/
namespace Tw
open TwM
theorem fin_block {W : List Lv} (ok : WOk W) {B : Bk} {d d' s s' m : Int} {i : Nat} (hi : levelOf W d = some i) (h1 : 1 ≤ d) (hi' : levelOf W d' = some i) (h1' : 1 ≤ d') (s0 : 0 ≤ s) (s1 : s < (lv W i).g) (s0' : 0 ≤ s') (s1' : s' < (lv W i).g)
    (hs : s' + d' = s + d + (lv W i).g * m) (ht : (rnd B.up (s + d) (lv W i).g - 1) / (lv W i).s = (rnd B.up (s + d) (lv W i).g - 1 + m) / (lv W i).s) :
    (fin W B s' d').1 = (fin W B s d).1 + (lv W i).g * m := by
  obtain ⟨hl, _⟩ := levelOf_lt hi
  have hall := ok.all i hl
  have e1 := place_in ok (B := B) hi h1 s
  have e2 := place_in ok (B := B) hi' h1' s'
  have hix : TwM.levelIx W d = i := by unfold TwM.levelIx; rw [hi]; rfl
  have hD := dv_of ok hl m
  have hsh : (⟨i, rnd B.up (s' + d') (lv W i).g, s' + d'⟩ : Spot) = sh W ((lv W i).g * m) ⟨i, rnd B.up (s + d) (lv W i).g, s + d⟩ := by
    unfold sh
    dsimp only
    rw [hs, rnd_shift (by omega), Int.mul_ediv_cancel_left _ (by omega)]
  rw [hsh] at e2
  have z1 : s / (lv W i).g = 0 := Int.ediv_eq_zero_of_lt s0 s1
  have z2 : s' / (lv W i).g = 0 := Int.ediv_eq_zero_of_lt s0' s1'
  generalize hsp : (⟨i, rnd B.up (s + d) (lv W i).g, s + d⟩ : Spot) = sp at *
  have hspl : sp.lv = i := by rw [← hsp]
  have hspp : sp.pt = rnd B.up (s + d) (lv W i).g := by rw [← hsp]
  have hspd : sp.due = s + d := by rw [← hsp]
  have hlw : sp.lv < W.length := by rw [hspl]; exact hl
  obtain ⟨q, hq⟩ := fol_ends ok B none (mu sp s + 1) sp s 0 hlw (Nat.le_succ _)
  have hq2 := fol_shift (B := B) ok hD (mu sp s + 1) (sp := sp) (tick := s) (mv := 0) (by omega) hlw (by rw [hspd, show s + d - s = d by omega, hix]; exact Nat.le_refl _)
  rw [hq] at hq2
  have hva : va (lv W (sh W ((lv W i).g * m) sp).lv) (sh W ((lv W i).g * m) sp).pt s' = va (lv W (sh W ((lv W i).g * m) sp).lv) (sh W ((lv W i).g * m) sp).pt (s + (lv W i).g * m) := by
    show va (lv W sp.lv) (sp.pt + (lv W i).g * m / (lv W sp.lv).g) s' = va (lv W sp.lv) (sp.pt + (lv W i).g * m / (lv W sp.lv).g) (s + (lv W i).g * m)
    rw [hspl, va_shift (by omega) (Int.dvd_mul_right _ _), Int.mul_ediv_cancel_left _ (by omega)]
    unfold va
    have k1 := mod_same (s := (lv W i).s) (by omega) ht
    rw [hspp, z1, z2]
    rw [show rnd B.up (s + d) (lv W i).g + m - 0 - 1 = rnd B.up (s + d) (lv W i).g - 1 + m by omega, k1, show rnd B.up (s + d) (lv W i).g - 0 - 1 = rnd B.up (s + d) (lv W i).g - 1 by omega]
    rw [show (0 : Int) + 1 + ((rnd B.up (s + d) (lv W i).g - 1) % (lv W i).s + m) = (0 + 1 + (rnd B.up (s + d) (lv W i).g - 1) % (lv W i).s) + m by omega, Int.add_mul, Int.mul_comm m]
  have hq3 : fol W B none (mu sp s + 1) (sh W ((lv W i).g * m) sp) s' 0 = (some q).map (shR W ((lv W i).g * m)) := by
    rw [← hq2]
    unfold fol
    rw [hva]
    dsimp only
    rw [show over none (va (lv W (sh W ((lv W i).g * m) sp).lv) (sh W ((lv W i).g * m) sp).pt (s + (lv W i).g * m)) = false from rfl, if_neg Bool.false_ne_true, if_neg Bool.false_ne_true]
  have f1 := fin_some e1 ok hlw hq
  have f2 := fin_some e2 ok (by show sp.lv < W.length; exact hlw) hq3
  rw [f1, f2]
  rfl
section
variable {W : List Lv} {B : Bk} {i : Nat}
def lat (W : List Lv) (B : Bk) (s d : Int) : Int := (fin W B s d).1 - s - d
def prD (W : List Lv) (i : Nat) (T : Int) : Int := max (lowD W i) (T - (lv W i).g + 1)
def latT (W : List Lv) (B : Bk) (i : Nat) (T : Int) : Int := lat W B (T - prD W i T) (prD W i T)
def Tot (W : List Lv) (i : Nat) (T : Int) : Prop := lowD W i ≤ T ∧ T < (lv W i).p + (lv W i).g - 1
theorem lowD_lt (ok : WOk W) (hi : i < W.length) : lowD W i < (lv W i).p := by
  unfold lowD
  split
  · have := ok.all i hi; omega
  · have := ok.asc (i - 1) (by omega)
    rw [show i - 1 + 1 = i by omega] at this
    exact this
theorem prD_in (ok : WOk W) (hi : i < W.length) {T : Int} (h : Tot W i T) : lowD W i ≤ prD W i T ∧ prD W i T < (lv W i).p ∧ 0 ≤ T - prD W i T ∧ T - prD W i T < (lv W i).g := by
  obtain ⟨h1, h2⟩ := h
  have h3 := lowD_lt ok hi
  have h4 := ok.all i hi
  unfold prD
  omega
theorem in_lv (ok : WOk W) {d : Int} (h1 : 1 ≤ d) (hd : levelOf W d = some i) : i < W.length ∧ lowD W i ≤ d ∧ d < (lv W i).p := by
  obtain ⟨a, b⟩ := levelOf_lt hd
  refine ⟨a, ?_, b⟩
  unfold lowD
  split
  · exact h1
  · exact levelOf_ge hd (i - 1) (by omega)
theorem tot_of (ok : WOk W) {s d : Int} (h1 : 1 ≤ d) (hd : levelOf W d = some i) (s0 : 0 ≤ s) (s1 : s < (lv W i).g) : Tot W i (s + d) := by
  obtain ⟨a, b, c⟩ := in_lv ok h1 hd
  exact ⟨by omega, by omega⟩
theorem lat_of (ok : WOk W) {s d : Int} (h1 : 1 ≤ d) (hd : levelOf W d = some i) (s0 : 0 ≤ s) (s1 : s < (lv W i).g) : lat W B s d = latT W B i (s + d) := by
  obtain ⟨a, b, c⟩ := in_lv ok h1 hd
  obtain ⟨p1, p2, p3, p4⟩ := prD_in ok a (tot_of ok h1 hd s0 s1)
  have lp := lowD_pos ok a
  have h := fin_block ok (B := B) (m := 0) hd h1 (level_in ok a p1 p2) (by omega) s0 s1 p3 p4 (by omega) (by rw [Int.add_zero])
  unfold latT lat
  rw [h]
  omega
theorem latT_turn (ok : WOk W) (hi : i < W.length) {T m : Int} (h : Tot W i T) (h' : Tot W i (T + (lv W i).g * m)) (ht : (rnd B.up T (lv W i).g - 1) / (lv W i).s = (rnd B.up T (lv W i).g - 1 + m) / (lv W i).s) : latT W B i (T + (lv W i).g * m) = latT W B i T := by
  obtain ⟨p1, p2, p3, p4⟩ := prD_in ok hi h
  obtain ⟨q1, q2, q3, q4⟩ := prD_in ok hi h'
  have lp := lowD_pos ok hi
  have e : T - prD W i T + prD W i T = T := by omega
  have f := fin_block ok (B := B) (m := m) (level_in ok hi p1 p2) (by omega) (level_in ok hi q1 q2) (by omega) p3 p4 q3 q4 (by omega) (by rw [e]; exact ht)
  unfold latT lat
  rw [f]
  omega
/-! ### the turns of a rest -/
def nxT (W : List Lv) (B : Bk) (i : Nat) (r T : Int) : Int :=
  (((rnd B.up T (lv W i).g - 1) / (lv W i).s + 1) * (lv W i).s + 1) * (lv W i).g + r - (if B.up = true ∧ 0 < r then (lv W i).g else 0)
theorem rnd_at {up : Bool} {g r q : Int} (hr : 0 ≤ r) (h : r < g) : rnd up (q * g + r) g = q + (if up = true ∧ 0 < r then 1 else 0) := by
  unfold rnd
  cases up with
  | false =>
    rw [if_neg Bool.false_ne_true, if_neg (fun z => Bool.false_ne_true z.1), Int.mul_comm, Int.mul_add_ediv_left _ _ (by omega), Int.ediv_eq_zero_of_lt hr h]
  | true =>
    rw [if_pos rfl]
    by_cases z : 0 < r
    · rw [if_pos ⟨rfl, z⟩, show -(q * g + r) = g * (-(q + 1)) + (g - r) by rw [Int.mul_neg, Int.mul_add, Int.mul_comm q]; omega, Int.mul_add_ediv_left _ _ (by omega), Int.ediv_eq_zero_of_lt (by omega) (by omega)]
      omega
    · rw [if_neg (fun y => z y.2), show r = 0 by omega, Int.add_zero, show -(q * g) = g * (-q) by rw [Int.mul_neg, Int.mul_comm q], Int.mul_ediv_cancel_left _ (by omega)]
      omega
theorem nxT_is (ok : WOk W) (hi : i < W.length) {r T : Int} (h0 : 0 ≤ r) (hr : r < (lv W i).g) (hT : T % (lv W i).g = r) :
    ∃ n : Int, 1 ≤ n ∧ nxT W B i r T = T + (lv W i).g * n ∧ ∀ m, 0 ≤ m → (m < n ↔ (rnd B.up T (lv W i).g - 1) / (lv W i).s = (rnd B.up T (lv W i).g - 1 + m) / (lv W i).s) := by
  have hall := ok.all i hi
  generalize hs : (lv W i).s = s at *
  generalize hg : (lv W i).g = g at *
  have e := Int.mul_ediv_add_emod T g
  rw [hT] at e
  have er : rnd B.up T g = T / g + (if B.up = true ∧ 0 < r then 1 else 0) := by
    have := rnd_at (up := B.up) (q := T / g) h0 hr
    rw [show T / g * g + r = T by rw [Int.mul_comm]; exact e] at this
    exact this
  unfold nxT
  rw [hs, hg]
  generalize hp : rnd B.up T g = p at *
  have m1 := Int.mul_ediv_add_emod (p - 1) s
  have m2 := Int.emod_nonneg (p - 1) (b := s) (by omega)
  have m3 := Int.emod_lt_of_pos (p - 1) (b := s) (by omega)
  refine ⟨s - (p - 1) % s, by omega, ?_, fun m hm => ?_⟩
  · have k : ((p - 1) / s + 1) * s + 1 = p + (s - (p - 1) % s) := by
      rw [Int.add_mul, Int.mul_comm]; omega
    rw [k, Int.add_mul, Int.mul_comm g]
    have e2 : T / g * g + r = T := by rw [Int.mul_comm]; exact e
    rw [er]
    by_cases z : B.up = true ∧ 0 < r
    · rw [if_pos z, if_pos z, Int.add_mul]; omega
    · rw [if_neg z, if_neg z, Int.add_mul]; omega
  · constructor
    · intro hlt
      have := (Int.ediv_emod_unique (a := p - 1 + m) (b := s) (q := (p - 1) / s) (r := (p - 1) % s + m) (by omega)).mpr ⟨by omega, by omega, by omega⟩
      exact this.1.symm
    · intro he
      have n1 := Int.mul_ediv_add_emod (p - 1 + m) s
      have n3 := Int.emod_lt_of_pos (p - 1 + m) (b := s) (by omega)
      rw [← he] at n1
      omega
def blkGo (W : List Lv) (B : Bk) (i : Nat) (r : Int) : Nat → Int → List Int
  | 0, _ => []
  | n + 1, T => if T < (lv W i).p + (lv W i).g - 1 then T :: blkGo W B i r n (nxT W B i r T) else []
def frT (W : List Lv) (i : Nat) (r : Int) : Int := lowD W i + (r - lowD W i) % (lv W i).g
def blk (W : List Lv) (B : Bk) (i : Nat) (r : Int) : List Int := blkGo W B i r ((lv W i).p + (lv W i).g).toNat (frT W i r)
theorem blkGo_has (ok : WOk W) (hi : i < W.length) {r : Int} (h0 : 0 ≤ r) (hr : r < (lv W i).g) : ∀ (n : Nat) (T : Int), lowD W i ≤ T → T % (lv W i).g = r → (lv W i).p + (lv W i).g - 1 - T ≤ n →
    (∀ x ∈ blkGo W B i r n T, T ≤ x ∧ Tot W i x ∧ x % (lv W i).g = r) ∧
    ∀ x, T ≤ x → x % (lv W i).g = r → x < (lv W i).p + (lv W i).g - 1 → ∃ y ∈ blkGo W B i r n T, y ≤ x ∧ latT W B i x = latT W B i y
  | 0, T, hl, hT, hn => ⟨fun x hx => absurd hx List.not_mem_nil, fun x a b c => by omega⟩
  | n + 1, T, hl, hT, hn => by
    have hg := (ok.all i hi).1
    obtain ⟨k, k1, k2, k3⟩ := nxT_is ok hi (B := B) h0 hr hT
    have gk : (lv W i).g * 1 ≤ (lv W i).g * k := Int.mul_le_mul_of_nonneg_left k1 (by omega)
    unfold blkGo
    by_cases z : T < (lv W i).p + (lv W i).g - 1
    · rw [if_pos z]
      have hTm : nxT W B i r T % (lv W i).g = r := by rw [k2, Int.add_mul_emod_self_left]; exact hT
      obtain ⟨i1, i2⟩ := blkGo_has ok hi h0 hr n (nxT W B i r T) (by omega) hTm (by omega)
      refine ⟨fun x hx => ?_, fun x a b c => ?_⟩
      · rcases List.mem_cons.mp hx with e | hx
        · subst e; exact ⟨Int.le_refl _, ⟨hl, z⟩, hT⟩
        · obtain ⟨q1, q2, q3⟩ := i1 x hx
          exact ⟨by omega, q2, q3⟩
      · rcases Int.lt_or_le x (nxT W B i r T) with y | y
        · obtain ⟨m, hm⟩ : ∃ m, x = T + (lv W i).g * m := by
            have := Int.emod_emod_of_dvd (x - T) (Int.dvd_refl (lv W i).g)
            have hd : (lv W i).g ∣ x - T := Int.dvd_of_emod_eq_zero (by rw [Int.sub_emod, b, hT, Int.sub_self, Int.zero_emod])
            obtain ⟨m, hm⟩ := hd
            exact ⟨m, by omega⟩
          have hm0 : 0 ≤ m := by
            rcases Int.lt_or_le m 0 with q | q
            · have := Int.mul_neg_of_pos_of_neg (a := (lv W i).g) (by omega) q
              omega
            · exact q
          have hmk : m < k := by
            have : (lv W i).g * m < (lv W i).g * k := by omega
            exact Int.lt_of_mul_lt_mul_left this (by omega)
          refine ⟨T, List.mem_cons_self, a, ?_⟩
          subst hm
          exact latT_turn ok hi ⟨hl, z⟩ ⟨by omega, c⟩ ((k3 m hm0).mp hmk)
        · obtain ⟨w, w1, w2⟩ := i2 x y b c
          exact ⟨w, List.mem_cons_of_mem _ w1, w2⟩
    · rw [if_neg z]
      exact ⟨fun x hx => absurd hx List.not_mem_nil, fun x a b c => by omega⟩
def smp (W : List Lv) (B : Bk) (i : Nat) : List Int := (List.range (lv W i).g.toNat).flatMap fun (r : Nat) => blk W B i r
end
end Tw
/-! Tw: the least delay of a level -/
namespace Tw
open PySem PySem.Spec PyProof.Rows L2 He TwM StX
open PySem.W (Frag)
local macro_rules | `(tactic| walk_at "rsl") => `(tactic| simp only [*, at3_0, at3_1, at3_2, at2_0, at2_1, updS, upd_two, gSub, rSetL, updN, tPar, tPar3, gTup, gCons, gNil, and_assoc, not_true_eq_false, not_false_eq_true, tNever, List.length_map, tFld, rIxTH, rIxLH, rLenTH, rLenLH, lk1, lfs_g, lfs_s, lfs_p, HO.ins.injEq, HO.tup.injEq, HO.lst.injEq, sp_Book_rounding, sp_Book_action, sp_Book_order, sp_Book_due, sp_Book_zero, sp_Book_beyond, Int.toNat_natCast, sp_visit_after, sp_is_visited, sp_Level_grain, sp_Level_slots, sp_Level_span, sp_Wheel_reach, sp_Wheel___len__, sp_is_integer, sp_is_count, sp_is_within, sp_rounded, tAsg, gName, tVar, tC, tOp, rI, rI0, rU, tUn, oAdd, oSub, oMul, oDiv, oMod, oNeg, oLt, oLe, oGt, oGe, oIsN, oNotN, tFn, tCons, tNil, tIfS, tIf, tTest, tB, tNot, tAnd, tOr, tAndV, tOrV, tNotV,
    tRet, tRetN, tNext, tCB, tDrop, tChain, rEq, rNe, oMax2, oMin2, oInt1, rLenF, L2.start, List.map_cons, List.map_nil, List.length_cons, List.length_nil, List.replicate_succ, List.replicate_zero, List.cons_append, List.nil_append, Nat.reduceAdd, Nat.reduceSub, Nat.zero_add,
    List.set_cons_zero, List.set_cons_succ, List.getElem?_cons_zero, List.getElem?_cons_succ, Option.some.injEq, V.int.injEq, V.ref.injEq, V.str.injEq, V.bl.injEq, exists_eq_left', exists_eq_left, exists_and_left, List.cons.injEq, and_true, true_and, decide_eq_true_eq, sc_ii, sc_ss, sc_bb, sc_ni, sc_in, sc_nn, sc_is, reduceCtorEq,
    Bool.not_eq_true', decide_eq_false_iff_not, if_true, if_false, Bool.false_eq_true, exists_eq', exists_const, false_and, and_false, or_false, false_or, exists_false, Bool.not_not, Bool.not_true, Bool.not_false, sUp_up, sFire_fire, sHigh_high, sPut_put, sZone_now, sBey_refuse, sBey_cut, tTup, tLst, sz0, sz1, sz2, sz3, sz4, sz5, sz6])
section
variable {K : Frag} {w : World}
end
end Tw
/-! what sleeps stays asleep: a promise that holds of every table of generators keeps each sleeping one as it is -/
namespace TwZ
open PySem
open Sem (wp)
def dull : GenState → GenState
  | .suspended _ l c p fs cl => .suspended (fun _ => .unsupported "") l c p fs cl
  | x => x
def slp : GenState → Bool
  | .suspended .. => true
  | _ => false
theorem dull_seen (x : GenState) : (dull x).seen = x.seen := by cases x <;> rfl
theorem dull_bare (x : GenState) : (dull x).bare = x.bare := by cases x <;> rfl
def pick (T : Array GenState) (i : Nat) (x : GenState) : GenState :=
  match T[i]? with
  | some y => if slp y = true then y else x
  | none => x
theorem pick_slp {T : Array GenState} {i : Nat} {x y : GenState} (h : T[i]? = some y) (hy : slp y = true) : pick T i x = y := by
  unfold pick; rw [h]; exact if_pos hy
theorem pick_not {T : Array GenState} {i : Nat} {x : GenState} (h : ∀ y, T[i]? = some y → slp y = false) : pick T i x = x := by
  unfold pick
  cases e : T[i]? with
  | none => rfl
  | some y => exact if_neg (by rw [h y e]; exact Bool.false_ne_true)
def und (T G : Array GenState) : Array GenState := Array.ofFn (n := G.size) fun i => pick T i.1 G[i.1]
theorem und_size (T G : Array GenState) : (und T G).size = G.size := by simp [und]
theorem und_get (T G : Array GenState) (i : Nat) : (und T G)[i]? = (G[i]?).map (pick T i) := by
  by_cases h : i < G.size
  · have h2 : i < (und T G).size := by rw [und_size]; exact h
    rw [Array.getElem?_eq_getElem h, Array.getElem?_eq_getElem h2]
    simp [und]
  · have h2 : ¬ i < (und T G).size := by rw [und_size]; exact h
    rw [Array.getElem?_eq_none (Nat.le_of_not_lt h), Array.getElem?_eq_none (Nat.le_of_not_lt h2)]
    rfl
structure Dl (T G : Array GenState) : Prop where
  at' : ∀ (i : Nat) (y : GenState), T[i]? = some y → slp y = true → G[i]? = some (dull y)
  own : ∀ (i : Nat) k l c p fs cl, G[i]? = some (.suspended k l c p fs cl) → splitAtGen fs = none ∨ ∃ y, T[i]? = some y ∧ slp y = true
theorem Dl.seen {T G : Array GenState} (d : Dl T G) {i : Nat} {x : GenState} (h : G[i]? = some x) : (und T G)[i]? = some (pick T i x) ∧ (pick T i x).seen = x.seen := by
  refine ⟨by rw [und_get, h]; rfl, ?_⟩
  unfold pick
  cases e : T[i]? with
  | none => rfl
  | some y =>
    show (if slp y = true then y else x).seen = _
    by_cases z : slp y = true
    · rw [if_pos z]
      have q := d.at' i y e z
      rw [h] at q; cases q
      exact (dull_seen y).symm
    · rw [if_neg z]
theorem Dl.lt {T G : Array GenState} (d : Dl T G) {i : Nat} {y : GenState} (h : T[i]? = some y) (hy : slp y = true) : i < G.size :=
  (Array.getElem?_eq_some_iff.mp (d.at' i y h hy)).1
theorem Dl.push {T G : Array GenState} (d : Dl T G) (c : Code) : Dl T (G.push (.fresh c)) ∧ und T (G.push (.fresh c)) = (und T G).push (.fresh c) := by
  refine ⟨⟨fun i y h hy => ?_, fun i k l c' p fs cl h => ?_⟩, ?_⟩
  · rw [Array.getElem?_push, if_neg (Nat.ne_of_lt (d.lt h hy))]
    exact d.at' i y h hy
  · rw [Array.getElem?_push] at h
    split at h
    · cases h
    · exact d.own i k l c' p fs cl h
  · refine Array.ext_getElem? fun i => ?_
    rw [und_get, Array.getElem?_push, Array.getElem?_push, und_get, und_size]
    by_cases z : i = G.size
    · rw [if_pos z, if_pos z]
      show some (pick T i _) = _
      rw [pick_not fun y hy => ?_]
      cases e : slp y with
      | false => rfl
      | true => exact absurd (d.lt hy e) (by rw [z]; exact Nat.lt_irrefl _)
    · rw [if_neg z, if_neg z]
def Awk (T : Array GenState) (g : Nat) : Prop := ∀ y, T[g]? = some y → slp y = false
theorem Dl.set {T G : Array GenState} (d : Dl T G) {g : Nat} {x : GenState} (hg : Awk T g) (hx : ∀ k l c p fs cl, x = .suspended k l c p fs cl → splitAtGen fs = none) :
    Dl T (G.setIfInBounds g x) ∧ und T (G.setIfInBounds g x) = (und T G).setIfInBounds g x := by
  refine ⟨⟨fun i y h hy => ?_, fun i k l c' p fs cl h => ?_⟩, ?_⟩
  · have n : g ≠ i := fun e => by subst e; rw [hg y h] at hy; cases hy
    rw [Array.getElem?_setIfInBounds_ne n]
    exact d.at' i y h hy
  · by_cases z : g = i
    · subst z
      rw [Array.getElem?_setIfInBounds] at h
      split at h
      · split at h
        · cases h; exact .inl (hx _ _ _ _ _ _ rfl)
        · cases h
      · exact d.own _ k l c' p fs cl h
    · rw [Array.getElem?_setIfInBounds_ne z] at h
      exact d.own i k l c' p fs cl h
  · refine Array.ext_getElem? fun i => ?_
    rw [und_get, Array.getElem?_setIfInBounds, Array.getElem?_setIfInBounds, und_get, und_size]
    by_cases z : g = i
    · subst z
      rw [if_pos rfl, if_pos rfl]
      by_cases q : g < G.size
      · rw [if_pos q]
        show some (pick T g x) = _
        rw [pick_not hg]
      · rw [if_neg q]; rfl
    · rw [if_neg z, if_neg z]
theorem Dl.fresh {T G : Array GenState} (d : Dl T G) {g : Nat} {x : GenState} (h : G[g]? = some x) (hx : slp x = false) : Awk T g := fun y hy => by
  cases e : slp y with
  | false => rfl
  | true =>
    have q := d.at' g y hy e
    rw [h] at q; cases q
    cases y <;> first | (cases hx; done) | (cases e; done)
abbrev und' (T : Array GenState) (s : Shared) : Shared := { s with gens := und T s.gens }
theorem und_set {T : Array GenState} {s : Shared} (d : Dl T s.gens) {g : Nat} {x : GenState} (hg : Awk T g) (hx : ∀ k l c p fs cl, x = .suspended k l c p fs cl → splitAtGen fs = none) :
    und' T (s.setGen g x) = (und' T s).setGen g x := by
  show ({ s with gens := und T (s.gens.setIfInBounds g x) } : Shared) = { s with gens := (und T s.gens).setIfInBounds g x }
  rw [(d.set hg hx).2]
theorem no_unsup {M : Model} {Γ : Ctx} {p : Pos} {w : String} {fs : List Frame} {s s' : Shared} {e : End} : ¬ Runs M Γ p (.unsupported w) fs s e s' := fun h => by
  generalize ht : (Sem.unsupported w : Sem PySem.Fin) = t at h
  induction h <;> first | (cases ht; done) | (rename_i ih; exact ih ht) | (rename_i ih _; exact ih ht) | (rename_i ih _ _; exact ih ht) | skip
theorem split_app {a b : List Frame} (ha : splitAtGen a = none) (hb : splitAtGen b = none) : splitAtGen (a ++ b) = none := by
  induction a with
  | nil => exact hb
  | cons f a ih =>
    cases f with
    | gen g k l c p => cases ha
    | ret k h g l c p kp =>
      have q : splitAtGen a = none := by
        cases e : splitAtGen a with
        | none => rfl
        | some x => rw [show splitAtGen (.ret k h g l c p kp :: a) = (splitAtGen a).map _ from rfl, e] at ha; cases ha
      show (splitAtGen (a ++ b)).map _ = none
      rw [ih q]; rfl
theorem split_tl {k h g l c p kp} {fs : List Frame} (n : splitAtGen (.ret k h g l c p kp :: fs) = none) : splitAtGen fs = none := by
  cases e : splitAtGen fs with
  | none => rfl
  | some x => rw [show splitAtGen (.ret k h g l c p kp :: fs) = (splitAtGen fs).map _ from rfl, e] at n; cases n
def cln : End → Prop
  | .ret _ => True
  | .susp _ _ _ _ _ _ fs => splitAtGen fs = none
theorem cln_gs {e : End} (h : cln e) : ∀ k l c p fs cl, e.genState = .suspended k l c p fs cl → splitAtGen fs = none := by
  cases e with
  | ret r => intro _ _ _ _ _ _ q; cases q
  | susp v g l k c p fs => intro _ _ _ _ _ _ q; cases q; exact h
theorem runs_und {M : Model} {Γ : Ctx} {p : Pos} {t : Sem PySem.Fin} {fs : List Frame} {s s' : Shared} {e : End} (h : Runs M Γ p t fs s e s') {T : Array GenState} :
    splitAtGen fs = none → Dl T s.gens → Runs M Γ p t fs (und' T s) e (und' T s') ∧ Dl T s'.gens ∧ cln e := by
  induction h with
  | done => intro _ d; exact ⟨.done, d, trivial⟩
  | raise => intro _ d; exact ⟨.raise, d, trivial⟩
  | again q _ ih => intro n d; obtain ⟨a, b⟩ := ih n d; exact ⟨.again q a, b⟩
  | rule _ ih => intro n d; obtain ⟨a, b⟩ := ih n d; exact ⟨.rule a, b⟩
  | «at» _ ih => intro n d; obtain ⟨a, b⟩ := ih n d; exact ⟨.at a, b⟩
  | load o _ ih => intro n d; obtain ⟨a, b⟩ := ih n d; exact ⟨.load o a, b⟩
  | update o _ ih => intro n d; obtain ⟨a, b⟩ := ih n d; exact ⟨.update o a, b⟩
  | loadIfAlive _ ih => intro n d; obtain ⟨a, b⟩ := ih n d; exact ⟨.loadIfAlive a, b⟩
  | point _ ih => intro n d; obtain ⟨a, b⟩ := ih n d; exact ⟨.point a, b⟩
  | alloc _ ih => intro n d; obtain ⟨a, b⟩ := ih n d; exact ⟨.alloc a, b⟩
  | fresh _ ih => intro n d; obtain ⟨a, b⟩ := ih n d; exact ⟨.fresh a, b⟩
  | ask _ ih => intro n d; obtain ⟨a, b⟩ := ih n d; exact ⟨.ask a, b⟩
  | choose q _ ih => intro n d; obtain ⟨a, b⟩ := ih n d; exact ⟨.choose q a, b⟩
  | os _ ih => intro n d; obtain ⟨a, b⟩ := ih n d; exact ⟨.os a, b⟩
  | handled _ ih => intro n d; obtain ⟨a, b⟩ := ih n d; exact ⟨.handled a, b⟩
  | genState hg _ ih =>
    intro n d
    obtain ⟨a, b⟩ := ih n d
    obtain ⟨q1, q2⟩ := d.seen hg
    rw [← q2] at a
    exact ⟨.genState q1 a, b⟩
  | stack _ ih => intro n d; obtain ⟨a, b⟩ := ih n d; exact ⟨.stack a, b⟩
  | thread _ ih => intro n d; obtain ⟨a, b⟩ := ih n d; exact ⟨.thread a, b⟩
  | newGen _ ih =>
    intro n d
    obtain ⟨q1, q2⟩ := d.push _
    obtain ⟨a, b⟩ := ih n q1
    refine ⟨.newGen ?_, b⟩
    rw [und_size]
    rw [← q2]
    exact a
  | call _ _ ih1 ih2 => intro n d; obtain ⟨a, b, _⟩ := ih1 rfl d; obtain ⟨a2, b2⟩ := ih2 n b; exact ⟨.call a a2, b2⟩
  | callSusp _ ih1 => intro n d; obtain ⟨a, b, c⟩ := ih1 rfl d; exact ⟨.callSusp a, b, split_app c rfl⟩
  | yield => intro _ d; exact ⟨.yield, d, rfl⟩
  | resumeFresh hg _ hq _ ih1 ih2 =>
    intro n d
    have w := d.fresh hg rfl
    have q0 := d.set (x := .running) w (fun _ _ _ _ _ _ z => by cases z)
    obtain ⟨a, b, c⟩ := ih1 rfl q0.1
    rw [und_set d w (fun _ _ _ _ _ _ z => by cases z)] at a
    obtain ⟨a2, b2⟩ := ih2 n (b.set w (cln_gs c)).1
    rw [und_set b w (cln_gs c)] at a2
    have hg2 := (d.seen hg).1
    rw [pick_not w] at hg2
    exact ⟨.resumeFresh hg2 a hq a2, b2⟩
  | resumeSuspended hg hr hq _ ih1 ih2 =>
    rename_i g _ _ _ _ _ _ _ _ _ _ _ _ _ _ _
    intro n d
    have w : Awk T g := fun y hy => by
      cases e : slp y with
      | false => rfl
      | true =>
        have q := d.at' g y hy e
        rw [hg] at q
        cases y <;> first | (cases e; done) | skip
        cases q
        exact absurd hr no_unsup
    have hf := (d.own _ _ _ _ _ _ _ hg).resolve_right fun ⟨y, hy, e⟩ => by rw [w y hy] at e; cases e
    have q0 := d.set (x := .running) w (fun _ _ _ _ _ _ z => by cases z)
    obtain ⟨a, b, c⟩ := ih1 hf q0.1
    rw [und_set d w (fun _ _ _ _ _ _ z => by cases z)] at a
    obtain ⟨a2, b2⟩ := ih2 n (b.set w (cln_gs c)).1
    rw [und_set b w (cln_gs c)] at a2
    have hg2 := (d.seen hg).1
    rw [pick_not w] at hg2
    exact ⟨.resumeSuspended hg2 a hq a2, b2⟩
  | resumeJustStarted hg hv _ ih =>
    intro n d
    obtain ⟨a, b⟩ := ih n d
    have hg2 := (d.seen hg).1
    rw [pick_not (d.fresh hg rfl)] at hg2
    exact ⟨.resumeJustStarted hg2 hv a, b⟩
  | resumeThrowFresh hg _ ih =>
    intro n d
    have w := d.fresh hg rfl
    have q0 := d.set (x := .finished) w (fun _ _ _ _ _ _ z => by cases z)
    obtain ⟨a, b⟩ := ih n q0.1
    rw [und_set d w (fun _ _ _ _ _ _ z => by cases z)] at a
    have hg2 := (d.seen hg).1
    rw [pick_not w] at hg2
    exact ⟨.resumeThrowFresh hg2 a, b⟩
  | resumeRunning hg _ ih =>
    intro n d
    obtain ⟨a, b⟩ := ih n d
    refine ⟨.resumeRunning ?_ a, b⟩
    rw [show (und' T _).gens = und T _ from rfl, und_get, hg]
    exact congrArg some (pick_not (d.fresh hg rfl))
  | resumeFinished hg _ ih =>
    intro n d
    obtain ⟨a, b⟩ := ih n d
    refine ⟨.resumeFinished ?_ a, b⟩
    rw [show (und' T _).gens = und T _ from rfl, und_get, hg]
    exact congrArg some (pick_not (d.fresh hg rfl))
  | segRet _ _ ih1 ih2 =>
    intro n d
    obtain ⟨a, b, _⟩ := ih1 rfl d
    obtain ⟨a2, b2⟩ := ih2 (split_tl n) b
    exact ⟨.segRet a a2, b2⟩
  | segGen => intro n; cases n
  | segSuspOut hn _ ih1 => intro n d; obtain ⟨a, b, c⟩ := ih1 rfl d; exact ⟨.segSuspOut hn a, b, split_app c hn⟩
  | segSuspGen hs => intro n; rw [hs] at n; cases n
theorem returns_und {M : Model} {Γ : Ctx} {p : Pos} {s s' : Shared} {r : Result} (h : Returns M Γ p s r s') {T : Array GenState} (d : Dl T s.gens) : Returns M Γ p (und' T s) r (und' T s') ∧ Dl T s'.gens :=
  let ⟨a, b, _⟩ := runs_und h rfl d
  ⟨a, b⟩
theorem wakes_und {M : Model} {Γ : Ctx} {p : Pos} {g : Nat} {r : Resume} {s s' : Shared} {res : GenResult} (h : Wakes M Γ p g r s res s') {T : Array GenState} (d : Dl T s.gens) :
    Wakes M Γ p g r (und' T s) res (und' T s') ∧ Dl T s'.gens := by
  unfold Wakes at h ⊢
  have hu : (und' T s).gens[g]? = (s.gens[g]?).map (pick T g) := und_get T s.gens g
  rw [hu]
  cases hg : s.gens[g]? with
  | none => rw [hg] at h; exact h.elim
  | some x =>
    rw [hg] at h
    cases x with
    | fresh c =>
      have w := d.fresh hg rfl
      rw [show (some (GenState.fresh c)).map (pick T g) = some (.fresh c) from congrArg some (pick_not w)]
      cases r with
      | send v =>
        by_cases z : v = .none
        · subst z
          obtain ⟨e, s1, hr, hq, h1, rfl⟩ := h
          have q0 := d.set (x := .running) w (fun _ _ _ _ _ _ z => by cases z)
          obtain ⟨a, b, c⟩ := runs_und hr rfl q0.1
          rw [und_set d w (fun _ _ _ _ _ _ z => by cases z)] at a
          exact ⟨⟨e, _, a, hq, h1, und_set b w (cln_gs c)⟩, (b.set w (cln_gs c)).1⟩
        · have h' : res = .justStarted ∧ s' = s := by cases v <;> first | exact absurd rfl z | exact h
          obtain ⟨rfl, rfl⟩ := h'
          refine ⟨?_, d⟩
          cases v <;> first | exact absurd rfl z | exact ⟨rfl, rfl⟩
      | throw x =>
        obtain ⟨h1, rfl⟩ := h
        exact ⟨⟨h1, und_set d w (fun _ _ _ _ _ _ z => by cases z)⟩, (d.set w (fun _ _ _ _ _ _ z => by cases z)).1⟩
    | suspended k l c p' fs cl =>
      obtain ⟨e, s1, hr, hq, h1, rfl⟩ := h
      have w : Awk T g := fun y hy => by
        cases e : slp y with
        | false => rfl
        | true =>
          have q := d.at' g y hy e
          rw [hg] at q
          cases y <;> first | (cases e; done) | skip
          cases q
          exact absurd hr no_unsup
      have hf := (d.own _ _ _ _ _ _ _ hg).resolve_right fun ⟨y, hy, e⟩ => by rw [w y hy] at e; cases e
      have q0 := d.set (x := .running) w (fun _ _ _ _ _ _ z => by cases z)
      obtain ⟨a, b, c⟩ := runs_und hr hf q0.1
      rw [und_set d w (fun _ _ _ _ _ _ z => by cases z)] at a
      rw [show (some (GenState.suspended k l _ p' fs cl)).map (pick T g) = some _ from congrArg some (pick_not w)]
      exact ⟨⟨e, _, a, hq, h1, und_set b w (cln_gs c)⟩, (b.set w (cln_gs c)).1⟩
    | running =>
      have w := d.fresh hg rfl
      rw [show (some GenState.running).map (pick T g) = some .running from congrArg some (pick_not w)]
      obtain ⟨h1, rfl⟩ := h
      exact ⟨⟨h1, rfl⟩, d⟩
    | finished =>
      have w := d.fresh hg rfl
      rw [show (some GenState.finished).map (pick T g) = some .finished from congrArg some (pick_not w)]
      obtain ⟨h1, rfl⟩ := h
      exact ⟨⟨h1, rfl⟩, d⟩
theorem wp_und {α : Type} (M : Model) (Γ : Ctx) (T : Array GenState) (t : Sem α) : ∀ (Q : α → Pos → Shared → Prop) (E : Value → Pos → Shared → Prop) (p : Pos) (s : Shared), Dl T s.gens → wp M Γ t Q E p s →
    wp M Γ t (fun a p' s' => ∃ s1, s' = und' T s1 ∧ Dl T s1.gens ∧ Q a p' s1) (fun e p' s' => ∃ s1, s' = und' T s1 ∧ Dl T s1.gens ∧ E e p' s1) p (und' T s) := by
  induction t with
  | pure a => intro Q E p s d h; exact ⟨s, rfl, d, h⟩
  | raise e => intro Q E p s d h; exact ⟨s, rfl, d, h⟩
  | unsupported _ => intro Q E p s _ h; exact h
  | finish _ => intro Q E p s _ h; exact h
  | rule _ k ih => intro Q E p s d h; exact ih () Q E p s d h
  | «at» p' k ih => intro Q E p s d h; exact ih () Q E p' s d h
  | load a _ k ih => intro Q E p s d h; obtain ⟨o, ho, h⟩ := h; exact ⟨o, ho, ih o Q E p s d h⟩
  | update a _ f k ih => intro Q E p s d h; exact ⟨h.1, ih () Q E p { s with heap := s.heap.update a f } d h.2⟩
  | loadIfAlive a k ih => intro Q E p s d h; exact ih _ Q E p s d h
  | point _ k ih => intro Q E p s d h; exact ih () Q E p s d h
  | register _ _ => intro Q E p s _ h; exact h
  | alloc o k ih => intro Q E p s d h; exact ih _ Q E p { s with heap := s.heap.push o } d h
  | fresh k ih => intro Q E p s d h; exact ih _ Q E p { s with toks := s.toks + 1 } d h
  | ask k ih => intro Q E p s d h; exact ih _ Q E p s d h
  | choose src m k ih => intro Q E p s d h; exact ⟨h.1, ih _ Q E p { s with drawn := s.drawn.bump src } d h.2⟩
  | os q _ k ih => intro Q E p s d h; exact ih _ Q E p { s with os := (Os.step s.os q).1 } d h
  | call c hd _ _ k ih =>
    intro Q E p s d h
    obtain ⟨r, s', hr, h⟩ := h
    obtain ⟨a, b⟩ := returns_und hr d
    exact ⟨r, _, a, ih r Q E p s' b h⟩
  | handled own k ih => intro Q E p s d h; exact ih _ Q E p s d h
  | genState g k ih =>
    intro Q E p s d h
    obtain ⟨st, hs, h⟩ := h
    obtain ⟨q1, q2⟩ := d.seen hs
    refine ⟨_, q1, ?_⟩
    rw [q2]
    exact ih _ Q E p s d h
  | newGen c k ih =>
    intro Q E p s d h
    obtain ⟨q1, q2⟩ := d.push c
    have := ih _ Q E p { s with gens := s.gens.push (.fresh c) } q1 h
    rw [Sem.wp_newGen, show (und' T s).gens.size = s.gens.size from und_size _ _]
    have e : und' T { s with gens := s.gens.push (.fresh c) } = { und' T s with gens := (und' T s).gens.push (.fresh c) } := by
      show ({ s with gens := und T (s.gens.push (.fresh c)) } : Shared) = _
      rw [q2]
    rw [e] at this
    exact this
  | resume g r _ k ih =>
    intro Q E p s d h
    obtain ⟨res, s', hw, h⟩ := h
    obtain ⟨a, b⟩ := wakes_und hw d
    exact ⟨res, _, a, ih res Q E p s' b h⟩
  | yield _ _ _ _ => intro Q E p s _ h; exact h
  | stack k ih => intro Q E p s d h; exact ih _ Q E p s d h
  | fork _ _ => intro Q E p s _ h; exact h
  | thread k ih => intro Q E p s d h; exact ih _ Q E p s d h
  | await _ _ _ _ _ => intro Q E p s _ h; exact h
def dulls (T : Array GenState) : Array GenState := T.map dull
theorem dulls_get (T : Array GenState) (i : Nat) : (dulls T)[i]? = (T[i]?).map dull := by simp [dulls]
theorem dulls_dl (T : Array GenState) : Dl T (dulls T) := ⟨fun i y h _ => by rw [dulls_get, h]; rfl, fun i k l c p fs cl h => by
  rw [dulls_get] at h
  cases e : T[i]? with
  | none => rw [e] at h; cases h
  | some y =>
    rw [e] at h
    refine .inr ⟨y, rfl, ?_⟩
    cases y <;> first | rfl | (cases h; done)⟩
theorem und_dulls (T : Array GenState) : und T (dulls T) = T := by
  refine Array.ext_getElem? fun i => ?_
  rw [und_get, dulls_get]
  cases e : T[i]? with
  | none => rfl
  | some y =>
    show some (pick T i (dull y)) = some y
    cases z : slp y with
    | true => rw [pick_slp e z]
    | false => rw [pick_not fun y' h => by rw [e] at h; cases h; exact z]; cases y <;> first | rfl | (cases z; done)
def Slps (T G : Array GenState) : Prop := ∀ (i : Nat) (y : GenState), T[i]? = some y → slp y = true → G[i]? = some y
theorem Slps.refl (T : Array GenState) : Slps T T := fun _ _ h _ => h
theorem Slps.trans {A B C : Array GenState} (a : Slps A B) (b : Slps B C) : Slps A C := fun i y h z => b i y (a i y h z) z
theorem slps_und {T G : Array GenState} (d : Dl T G) : Slps T (und T G) := fun i y h z => by
  rw [und_get, d.at' i y h z]
  exact congrArg some (pick_slp h z)
theorem wpAny_slps {α : Type} {M : Model} {A : Around} {s : Shared} {t : Sem α} {Q : α → Shared → Prop} {E : Value → Shared → Prop}
    (h : wpAny M A t (fun a s' => ∀ G, Slps s.gens G → (∀ x ∈ G, (∃ y ∈ s'.gens, y.bare = x.bare)) → (∀ i : Nat, s.gens.size ≤ i → G[i]? = s'.gens[i]?) → Q a { s' with gens := G })
      (fun e s' => ∀ G, Slps s.gens G → (∀ x ∈ G, (∃ y ∈ s'.gens, y.bare = x.bare)) → (∀ i : Nat, s.gens.size ≤ i → G[i]? = s'.gens[i]?) → E e { s' with gens := G }) { s with gens := dulls s.gens }) :
    wpAny M A t Q E s := fun Γ p hΓ => by
  have q := wp_und M Γ s.gens t _ _ p { s with gens := dulls s.gens } (dulls_dl _) (h Γ p hΓ)
  have e : und' s.gens { s with gens := dulls s.gens } = s := by
    show ({ s with gens := und s.gens (dulls s.gens) } : Shared) = s
    rw [und_dulls]
  rw [e] at q
  have br : ∀ s1 : Shared, Dl s.gens s1.gens → ∀ x ∈ und s.gens s1.gens, ∃ y ∈ s1.gens, y.bare = x.bare := fun s1 d x hx => by
    obtain ⟨i, hi, rfl⟩ := Array.mem_iff_getElem.mp hx
    have hi' : i < s1.gens.size := by rw [und_size] at hi; exact hi
    refine ⟨s1.gens[i], Array.getElem_mem hi', ?_⟩
    have h2 := und_get s.gens s1.gens i
    rw [Array.getElem?_eq_getElem hi, Array.getElem?_eq_getElem hi'] at h2
    injection h2 with h2
    rw [h2]
    unfold pick
    cases e : s.gens[i]? with
    | none => rfl
    | some y =>
      show _ = (if slp y = true then y else _).bare
      by_cases z : slp y = true
      · rw [if_pos z]
        have := d.at' i y e z
        rw [Array.getElem?_eq_getElem hi'] at this
        injection this with this
        rw [this, dull_bare]
      · rw [if_neg z]
  have nw : ∀ s1 : Shared, ∀ i : Nat, s.gens.size ≤ i → (und s.gens s1.gens)[i]? = s1.gens[i]? := fun s1 i hi => by
    rw [und_get]
    cases s1.gens[i]? with
    | none => rfl
    | some x => exact congrArg some (pick_not fun y hy => absurd (Array.getElem?_eq_some_iff.mp hy).1 (Nat.not_lt.mpr hi))
  exact Sem.wp_mono M Γ t (fun a p' s' ⟨s1, e1, d, hq⟩ => by rw [e1]; exact hq _ (slps_und d) (br s1 d) (nw s1)) (fun a p' s' ⟨s1, e1, d, hq⟩ => by rw [e1]; exact hq _ (slps_und d) (br s1 d) (nw s1)) p s q
/-! ### where some may be woken -/
def nog : GenState → Bool
  | .suspended _ _ _ _ fs _ => (splitAtGen fs).isNone
  | _ => true
def msk (B : List Nat) (T : Array GenState) : Array GenState := Array.ofFn (n := T.size) fun i => if i.1 ∈ B then .finished else T[i.1]
def dullB (B : List Nat) (T : Array GenState) : Array GenState := Array.ofFn (n := T.size) fun i => if i.1 ∈ B then T[i.1] else dull T[i.1]
theorem msk_get (B : List Nat) (T : Array GenState) (i : Nat) : (msk B T)[i]? = if i ∈ B then (T[i]?).map (fun _ => .finished) else T[i]? := by
  by_cases h : i < T.size
  · have h2 : i < (msk B T).size := by simp [msk, h]
    rw [Array.getElem?_eq_getElem h, Array.getElem?_eq_getElem h2]
    by_cases z : i ∈ B <;> simp [msk, z]
  · rw [Array.getElem?_eq_none (Nat.le_of_not_lt h), Array.getElem?_eq_none (by simp [msk]; exact Nat.le_of_not_lt h)]
    by_cases z : i ∈ B <;> simp [z]
theorem dullB_size (B : List Nat) (T : Array GenState) : (dullB B T).size = T.size := by simp [dullB]
theorem dullB_get (B : List Nat) (T : Array GenState) (i : Nat) : (dullB B T)[i]? = if i ∈ B then T[i]? else (T[i]?).map dull := by
  by_cases h : i < T.size
  · have h2 : i < (dullB B T).size := by simp [dullB, h]
    rw [Array.getElem?_eq_getElem h, Array.getElem?_eq_getElem h2]
    by_cases z : i ∈ B <;> simp [dullB, z]
  · rw [Array.getElem?_eq_none (Nat.le_of_not_lt h), Array.getElem?_eq_none (by simp [dullB]; exact Nat.le_of_not_lt h)]
    by_cases z : i ∈ B <;> simp [z]
theorem dullB_dl {B : List Nat} {T : Array GenState} (hB : ∀ i ∈ B, ∀ y, T[i]? = some y → nog y = true) : Dl (msk B T) (dullB B T) := ⟨fun i y h hy => by
  rw [msk_get] at h
  rw [dullB_get]
  by_cases z : i ∈ B
  · rw [if_pos z] at h
    cases e : T[i]? with
    | none => rw [e] at h; cases h
    | some x => rw [e] at h; cases h; cases hy
  · rw [if_neg z] at h
    rw [if_neg z, h]; rfl, fun i k l c p fs cl h => by
  rw [dullB_get] at h
  by_cases z : i ∈ B
  · rw [if_pos z] at h
    have q := hB i z _ h
    exact .inl (Option.isNone_iff_eq_none.mp q)
  · rw [if_neg z] at h
    cases e : T[i]? with
    | none => rw [e] at h; cases h
    | some y =>
      rw [e] at h
      refine .inr ⟨y, by rw [msk_get, if_neg z, e], ?_⟩
      cases y <;> first | rfl | (cases h; done)⟩
theorem und_dullB (B : List Nat) (T : Array GenState) : und (msk B T) (dullB B T) = T := by
  refine Array.ext_getElem? fun i => ?_
  rw [und_get, dullB_get]
  by_cases z : i ∈ B
  · rw [if_pos z]
    cases e : T[i]? with
    | none => rfl
    | some y =>
      refine congrArg some (pick_not fun y' h => ?_)
      rw [msk_get, if_pos z, e] at h
      cases h; rfl
  · rw [if_neg z]
    cases e : T[i]? with
    | none => rfl
    | some y =>
      have m : (msk B T)[i]? = some y := by rw [msk_get, if_neg z, e]
      show some (pick _ i (dull y)) = some y
      cases zz : slp y with
      | true => rw [pick_slp m zz]
      | false =>
        rw [pick_not fun y' h => by rw [m] at h; cases h; exact zz]
        cases y <;> first | rfl | (cases zz; done)
theorem wpAny_slpsB {α : Type} {M : Model} {A : Around} {s : Shared} {t : Sem α} {Q : α → Shared → Prop} {E : Value → Shared → Prop} {B : List Nat} (hB : ∀ i ∈ B, ∀ y, s.gens[i]? = some y → nog y = true)
    (h : wpAny M A t (fun a s' => ∀ G, (∀ i y, i ∉ B → s.gens[i]? = some y → slp y = true → G[i]? = some y) → (∀ x ∈ G, (∃ y ∈ s'.gens, y.bare = x.bare)) → (∀ i : Nat, (i ∈ B ∨ s.gens.size ≤ i) → G[i]? = s'.gens[i]?) → Q a { s' with gens := G })
      (fun e s' => ∀ G, (∀ i y, i ∉ B → s.gens[i]? = some y → slp y = true → G[i]? = some y) → (∀ x ∈ G, (∃ y ∈ s'.gens, y.bare = x.bare)) → (∀ i : Nat, (i ∈ B ∨ s.gens.size ≤ i) → G[i]? = s'.gens[i]?) → E e { s' with gens := G }) { s with gens := dullB B s.gens }) :
    wpAny M A t Q E s := fun Γ p hΓ => by
  have q := wp_und M Γ (msk B s.gens) t _ _ p { s with gens := dullB B s.gens } (dullB_dl hB) (h Γ p hΓ)
  have e : und' (msk B s.gens) { s with gens := dullB B s.gens } = s := by
    show ({ s with gens := und (msk B s.gens) (dullB B s.gens) } : Shared) = s
    rw [und_dullB]
  rw [e] at q
  have br : ∀ s1 : Shared, Dl (msk B s.gens) s1.gens → ∀ x ∈ und (msk B s.gens) s1.gens, ∃ y ∈ s1.gens, y.bare = x.bare := fun s1 d x hx => by
    obtain ⟨i, hi, rfl⟩ := Array.mem_iff_getElem.mp hx
    have hi' : i < s1.gens.size := by rw [und_size] at hi; exact hi
    refine ⟨s1.gens[i], Array.getElem_mem hi', ?_⟩
    have h2 := und_get (msk B s.gens) s1.gens i
    rw [Array.getElem?_eq_getElem hi, Array.getElem?_eq_getElem hi'] at h2
    injection h2 with h2
    rw [h2]
    unfold pick
    cases e : (msk B s.gens)[i]? with
    | none => rfl
    | some y =>
      show _ = (if slp y = true then y else _).bare
      by_cases z : slp y = true
      · rw [if_pos z]
        have := d.at' i y e z
        rw [Array.getElem?_eq_getElem hi'] at this
        injection this with this
        rw [this, dull_bare]
      · rw [if_neg z]
  have nw : ∀ s1 : Shared, ∀ i : Nat, (i ∈ B ∨ s.gens.size ≤ i) → (und (msk B s.gens) s1.gens)[i]? = s1.gens[i]? := fun s1 i hi => by
    rw [und_get]
    cases s1.gens[i]? with
    | none => rfl
    | some x =>
      refine congrArg some (pick_not fun y hy => ?_)
      rw [msk_get] at hy
      rcases hi with hi | hi
      · rw [if_pos hi] at hy
        cases e : s.gens[i]? with
        | none => rw [e] at hy; cases hy
        | some z => rw [e] at hy; cases hy; rfl
      · have e : s.gens[i]? = none := Array.getElem?_eq_none hi
        rw [e] at hy
        split at hy <;> cases hy
  have kp : ∀ s1 : Shared, Dl (msk B s.gens) s1.gens → ∀ i y, i ∉ B → s.gens[i]? = some y → slp y = true → (und (msk B s.gens) s1.gens)[i]? = some y := fun s1 d i y hi hy hz => slps_und d i y (by rw [msk_get, if_neg hi, hy]) hz
  exact Sem.wp_mono M Γ t (fun a p' s' ⟨s1, e1, d, hq⟩ => by rw [e1]; exact hq _ (kp s1 d) (br s1 d) (nw s1)) (fun a p' s' ⟨s1, e1, d, hq⟩ => by rw [e1]; exact hq _ (kp s1 d) (br s1 d) (nw s1)) p s q
end TwZ
/-! one stretch of a generator's run, from a waking to the next yield or to the end -/
namespace TwZ
open PySem PySem.Spec PyProof.Rows GenW
open Sem (wp)
def Sg (M : Model) (A : Around) (Φ : End → Shared → Prop) (c : Code) (t : Sem PySem.Fin) (fs : List Frame) (s : Shared) : Prop :=
  ∀ (Γ : PySem.Ctx) (p : Pos), Γ.code = c → Γ.Woken A → ∃ (e : End) (s2 : Shared), Runs M Γ p t fs s e s2 ∧ e.quiet = true ∧ Φ e s2
section
variable {M : Model} {A : Around} {Φ : End → Shared → Prop} {c : Code} {fs : List Frame} {s : Shared}
theorem sg_leaf {k : Result → Sem PySem.Fin} {hd : Option Value} {g : Bool} {l kp : List Value} {c1 : Code} {p1 : Pos} (r : Result) (h : Sg M A Φ c1 (k r) fs s) : Sg M A Φ c (leafOf r) (.ret k hd g l c1 p1 kp :: fs) s := by
  intro Γ p e hw
  subst e
  obtain ⟨e, s2, z, q⟩ := h (Γ.goto c1) p1 rfl (hw.goto c1)
  exact ⟨e, s2, Runs.pop r z, q⟩
theorem sg_again {c2 : Code} (hq : c2.quiet = true) (h : Sg M A Φ c2 (M.den c2) fs s) : Sg M A Φ c (.pure (.again c2)) fs s := by
  intro Γ p e hw
  subst e
  obtain ⟨e, s2, z, q⟩ := h (Γ.goto c2) p rfl (hw.goto c2)
  exact ⟨e, s2, Runs.head (c₁ := c2) (fun _ _ y => .again hq y) z, q⟩
end
def Goes (M : Model) (A : Around) (Φ : End → Shared → Prop) (gs : GenState) (s : Shared) : Prop :=
  match gs with
  | .fresh c => Sg M A Φ c (M.den c) [] s
  | .suspended k _ c _ fs _ => Sg M A Φ c (k (.send .none)) fs s
  | _ => False
theorem quiet_bare {e : End} (h : e.quiet = true) : e.genState.bare = true := End.bare_of_quiet h
theorem wake {M : Model} {A : Around} {Φ : End → Shared → Prop} {E : Value → Shared → Prop} {s : Shared} {g : Nat} {gs : GenState} {l : List Value} {α : Type} {k : GenResult → Sem α} {Q : α → Shared → Prop} (hg : s.gens[g]? = some gs)
    (hgo : Goes M A Φ gs (s.setGen g .running)) (h : ∀ e s1, e.quiet = true → Φ e s1 → wpAny M A (k e.result) Q E (s1.setGen g e.genState)) : wpAny M A (.resume g (.send .none) l k) Q E s := by
  intro Γ p hΓ
  rw [Sem.wp_resume]
  have hB : ∀ c, (Γ.wake c p).Woken A := fun c => hΓ.wake c p
  cases gs with
  | fresh c =>
    obtain ⟨e, s1, r, q, z⟩ := hgo (Γ.wake c p) p rfl (hB c)
    exact ⟨_, _, by unfold Wakes; rw [hg]; exact ⟨e, s1, r, q, rfl, rfl⟩, h e s1 q z Γ p hΓ⟩
  | suspended k2 l2 c p2 fs cl =>
    obtain ⟨e, s1, r, q, z⟩ := hgo (Γ.wake c p) p2 rfl (hB c)
    exact ⟨_, _, by unfold Wakes; rw [hg]; exact ⟨e, s1, r, q, rfl, rfl⟩, h e s1 q z Γ p hΓ⟩
  | running => exact hgo.elim
  | finished => exact hgo.elim
section
variable {P : Program} {w : World} {A : Around} {E : Value → Shared → Prop} {s : Shared}
theorem next_g {a : Addr} {g : Nat} {gs : GenState} {Φ : End → Shared → Prop} {Q : Option Value → Shared → Prop} (hh : A.handled = none) (hl : s.heap.NoLimit) (hroom : A.depth < recursionLimit) (hg : s.heap.IsGen a g) (hgs : s.gens[g]? = some gs)
    (hgo : Goes (model P w) A.in1 Φ gs (s.setGen g .running))
    (hY : ∀ v gd l k c p fs s1, Φ (.susp v gd l k c p fs) s1 → (End.susp v gd l k c p fs).genState.bare = true → Q (some v) (s1.setGen g (End.susp v gd l k c p fs).genState))
    (hR : ∀ r s1, Φ (.ret r) s1 → (r = .ok (.ret .none) ∨ r = .ok .next) ∧ ∀ h', (∀ b o, s1.heap.get? b = some o → h'.get? b = some o) → Q none { s1.setGen g .finished with heap := h' }) :
    wpAny (model P w) A (pyNext (.ref a)) Q E s := by
  unfold pyNext
  refine wpAny_bind (wpAny_attempt (wpAny_callSpecial?_slot (name := Str.ofString "__next__") hg.typeIs slot_gen_next (wpAny_call_entry slot_gen_next hg.typeIs entry_gen_next ?_ (args_gen_next _))))
  show wpAny _ A.in1 (Builtin.Generator.genWake (.ref a) (.send .none)) _ _ s
  unfold Builtin.Generator.genWake
  refine wpAny_bind (wpAny_holding (wpAny_genNumber hg (wpAny_bind (wpAny_genState hgs ?_))))
  cases gs with
  | running => exact hgo.elim
  | finished => exact hgo.elim
  | _ =>
    refine wpAny_bind (wpAny_roomToWake hl hroom ?_)
    show wpAny _ A.in1 (.resume g (.send .none) [] _) _ _ s
    refine wake hgs hgo fun e s1 hq hz => ?_
    cases e with
    | susp v gd l k c p fs => exact wpAny_pure ⟨v, rfl, wpAny_pure (hY v gd l k c p fs s1 hz (quiet_bare hq))⟩
    | ret r =>
      obtain ⟨hr, hp⟩ := hR r s1 hz
      have hres : End.result (.ret r) = .returned .none := by
        rcases hr with hr | hr <;> rw [hr] <;> rfl
      first | rw [hres] | simp only [hres]
      show wpAny _ A.in1 (newExc (.type "StopIteration") [] >>= _) _ _ _
      refine wpAny_bind ?_
      simp only [newExc, newTuple]
      refine wpAny_bind (wpAny_newObj_type ?_ (by size_fits))
      refine wpAny_bind (m := firstArgMember _ _) (wpAny_of_eq (a := Value.none) (by first | rfl | (simp only [firstArgMember]; rfl)) ?_)
      refine wpAny_newObj_type ?_ (by size_fits)
      simp only [raiseNew]
      refine wpAny_bind (wpAny_bind (wpAny_handled ?_))
      first | rw [show A.in1.handled = none from hh] | rw [hh]
      refine wpAny_throw ?_
      refine wpAny_bind (wpAny_isInstance (T := "StopIteration") (b := true) ⟨_, Heap.get?_push_size _ rfl, rfl⟩ isSubtype_stop ?_)
      exact wpAny_pure (hp _ fun b o hb => Heap.get?_push_of_some _ (Heap.get?_push_of_some _ hb))
end
/-! ### statements in a stretch -/
section
variable {M : Model} {A : Around} {Φ : End → Shared → Prop} {c : Code} {fs : List Frame} {s : Shared} {env : Env} {K : Flow → Sem PySem.Fin} {J : Value → Sem PySem.Fin} {gd : Bool → Bool} {lv : List Value → List Value}
end
section
variable {P : Program} {w : World} {A : Around} {Φ : End → Shared → Prop} {c : Code} {fs : List Frame} {s : Shared} {env : Env} {K : Flow → Sem PySem.Fin} {J : Value → Sem PySem.Fin} {gd : Bool → Bool} {lv : List Value → List Value}
abbrev lft (env : Env) (x : Value) : Sem PySem.Fin := (do noteFrame x env; theTreesLotGoes x : Sem Unit).wrap (fun _ => .raise x) .raise id id
abbrev trn (c : Code) (f : Flow) : Sem PySem.Fin := match f with
  | .next | .cont => .pure (.again c)
  | .brk => .pure (.done .next)
  | .ret v => .pure (.done (.ret v))
def itOf (iter : Expr) (env : Env) : Sem Value := eval iter env >>= fun v => standAt iter.pos >>= fun _ => holding [v] (pyIter v)
theorem sg_through {l kp : List Value} {g : Bool} {c1 : Code} {p1 : Pos} {k : Result → Sem PySem.Fin} (h : Sg (model P w) A Φ c1 (k (.ok .next)) fs s) :
    Sg (model P w) A Φ c (.pure (.again (.block [] env))) (.ret k none g l c1 p1 kp :: fs) s := by
  refine sg_again rfl ?_
  show Sg _ A Φ _ (Sem.bind _ _) _ s
  exact sg_leaf (.ok .next) h
end
end TwZ
/-! what a sleeping generator promises; who wakes it -/
namespace TwZ
open PySem L2 PySem.Spec PyProof.Rows GenW
structure Gt where
  pre : Nat → Hp → Hp → Prop
  yld : Nat → Hp → V → Hp → Prop
  fin : Nat → Hp → Hp → Prop
structure UnB (lo : Addr) (fs : List Addr) (H H' : Hp) (h h' : Heap) : Prop where
  keep : ∀ b o, b < lo → h.get? b = some o → H b = none → b ∉ fs → h'.get? b = some o
  slot : ∀ b o, b < lo → h.get? b = some o → H b = none → ∃ sl, h'.get? b = some { o with slots := sl }
  free : ∀ b o, b < lo → h.get? b = some o → H b = none → H' b = none
  there : ∀ b o, b < lo → h.get? b = some o → ∃ o', h'.get? b = some o'
  tups : ∀ b xs, H b = some (.tup xs) → H' b = some (.tup xs)
  frzs : ∀ b o u, H b = some (.frz o u) → H' b = some (.frz o u)
  tbls : ∀ b ps, H b = some (.tbl ps) → ∃ more, H' b = some (.tbl (ps ++ more))
structure Kpt (P : Program) (w : World) (lo : Addr) (fs : List Addr) (pn : List (Addr × Obj)) (H H' : Hp) (s s1 : Shared) : Prop where
  os : s1.os = s.os
  bare : AllBare s1.gens
  un : UnB lo fs H H' s.heap s1.heap
  hok : HOk P w H' s1.heap
  pins : ∀ p ∈ pn, s1.heap.get? p.1 = some p.2 ∧ H' p.1 = none
  gsz : s.gens.size ≤ s1.gens.size
structure Wkd (P : Program) (w : World) (base : Heap) (outer : List Env) (g : Nat) (ob : List (Addr × Obj)) (og : List (Nat × GenState)) (pn : List (Addr × Obj)) (H : Hp) (s : Shared) : Prop where
  hok : HOk P w H s.heap
  bare : AllBare s.gens
  bs : ∀ b o, base.get? b = some o → s.heap.get? b = some o ∧ H b = none
  funs : s.heap.FunFrames base outer
  frf : ∀ b ∈ frs outer, H b = none
  obs : ∀ p ∈ ob, s.heap.get? p.1 = some p.2 ∧ H p.1 = none
  ogs : ∀ q ∈ og, s.gens[q.1]? = some q.2
  pin : ∀ p ∈ pn, s.heap.get? p.1 = some p.2 ∧ H p.1 = none ∧ p.1 ∉ frs outer ∧ (∀ v, p.2.data ≠ .cell v) ∧ ∀ q ∈ ob, p.1 ≠ q.1
  gsz : g < s.gens.size
structure Own (lo : Addr) (a : Addr) (g : Nat) (H : Hp) (s : Shared) (ob : List (Addr × Obj)) (og : List (Nat × GenState)) : Prop where
  isgen : ∃ o nm qn, (a, o) ∈ ob ∧ o.cls = .type "generator" ∧ o.data = .fields #[.int g 0, nm, qn] ∧ o.slots = #[]
  obs : ∀ p ∈ ob, s.heap.get? p.1 = some p.2 ∧ H p.1 = none ∧ lo ≤ p.1 ∧ ∀ v, p.2.data ≠ .cell v
  ogs : ∀ q ∈ og, s.gens[q.1]? = some q.2 ∧ slp q.2 = true ∧ g < q.1 ∧ nog q.2 = true
structure Gp where
  P : Program
  w : World
  base : Heap
  A : Around
  outer : List Env
  lo : Addr
  a : Addr
  g : Nat
  J : Gt
structure Wk where
  H : Hp
  s : Shared
  pn : List (Addr × Obj)
  og : List Nat
def Asl (G : Gp) : Nat → Nat → Hp → List (Addr × Obj) → List (Nat × GenState) → GenState → Prop
  | 0 => fun _ _ _ _ _ => True
  | n + 1 => fun i Hs ob og gs => ∀ (H : Hp) (pn : List (Addr × Obj)) (s : Shared), Wkd G.P G.w G.base G.outer G.g ob og pn H s → G.J.pre i Hs H →
      Goes (model G.P G.w) G.A (fun e s1 => match e with
        | .ret r => (r = .ok (.ret .none) ∨ r = .ok .next) ∧ ∃ H', G.J.fin i H H' ∧ Kpt G.P G.w G.lo (frs G.outer) pn H H' s s1
        | .susp v gd l k c p fs => ∃ x H' ob' og', G.J.yld i H x H' ∧ RelV x v ∧ Kpt G.P G.w G.lo (frs G.outer) pn H H' s s1 ∧ Own G.lo G.a G.g H' s1 ob' og' ∧ (∀ p ∈ pn, ∀ q ∈ ob', p.1 ≠ q.1) ∧ (∀ q ∈ og', q.1 ∈ og.map (·.1) ∨ s.gens.size ≤ q.1) ∧ nog (End.susp v gd l k c p fs).genState = true ∧
            Asl G n (i + 1) H' ob' og' (End.susp v gd l k c p fs).genState) gs s
def Out (G : Gp) (n i : Nat) (W : Wk) (e : End) (s1 : Shared) : Prop := match e with
  | .ret r => (r = .ok (.ret .none) ∨ r = .ok .next) ∧ ∃ H', G.J.fin i W.H H' ∧ Kpt G.P G.w G.lo (frs G.outer) W.pn W.H H' W.s s1
  | .susp v gd l k c p fs => ∃ x H' ob' og', G.J.yld i W.H x H' ∧ RelV x v ∧ Kpt G.P G.w G.lo (frs G.outer) W.pn W.H H' W.s s1 ∧ Own G.lo G.a G.g H' s1 ob' og' ∧ (∀ p ∈ W.pn, ∀ q ∈ ob', p.1 ≠ q.1) ∧ (∀ q ∈ og', q.1 ∈ W.og ∨ W.s.gens.size ≤ q.1) ∧ nog (End.susp v gd l k c p fs).genState = true ∧
      Asl G n (i + 1) H' ob' og' (End.susp v gd l k c p fs).genState
theorem asl_succ {G : Gp} {n i : Nat} {Hs : Hp} {ob : List (Addr × Obj)} {og : List (Nat × GenState)} {gs : GenState} :
    Asl G (n + 1) i Hs ob og gs ↔ ∀ (H : Hp) (pn : List (Addr × Obj)) (s : Shared), Wkd G.P G.w G.base G.outer G.g ob og pn H s → G.J.pre i Hs H → Goes (model G.P G.w) G.A (Out G n i ⟨H, s, pn, og.map (·.1)⟩) gs s := Iff.rfl
/-! ### the waker's side -/
structure At (X : Cx) (pins : List (Addr × Obj)) (lo a : Addr) (g : Nat) (ob : List (Addr × Obj)) (og : List (Nat × GenState)) (gs : GenState) (H : Hp) (s : Shared) : Prop where
  own : Own lo a g H s ob og
  fp : ∀ p ∈ ob, FpOk X pins H p.1
  gen : s.gens[g]? = some gs
  nog : nog gs = true
structure Low (X : Cx) (lo : Addr) : Prop where
  sz : X.s_0.heap.objs.size ≤ lo
  loc : X.env.locals < lo
  cel : ∀ x c, X.env.cells.lookup x = some c → c < lo
theorem setGen_get (s : Shared) {g i : Nat} (x : GenState) (h : i ≠ g) : (s.setGen g x).gens[i]? = s.gens[i]? := by
  show (s.gens.setIfInBounds g x)[i]? = _
  rw [Array.getElem?_setIfInBounds_ne (Ne.symm h)]
theorem gsz_of {s : Shared} {g : Nat} {gs : GenState} (h : s.gens[g]? = some gs) : g < s.gens.size := (Array.getElem?_eq_some_iff.mp h).1
section
variable {X : Cx} {pins : List (Addr × Obj)} {σ : L2.St} {H H' : Hp} {s s1 : Shared} {lo a : Addr} {g : Nat} {ob : List (Addr × Obj)} {og : List (Nat × GenState)} {gs : GenState}
theorem inv_kpt (I : Inv X pins σ H s) (L : Low X lo) (k : Kpt X.prog X.w lo (frs X.stack) (X.pn ++ pins) H H' s s1) : Inv X pins σ H' s1 := by
  obtain ⟨h', g', d', t', os'⟩ := s1
  obtain ⟨kos, kb, ku, kok, kp, _⟩ := k
  have e : os' = s.os := kos
  subst e
  have low : ∀ b o, s.heap.get? b = some o → b ∉ (List.range s.heap.objs.size).filter (fun b => decide (lo ≤ b ∧ ∀ p ∈ X.pn ++ pins, p.1 ≠ b)) → b < lo ∨ ∃ p ∈ X.pn ++ pins, p.1 = b := fun b o e n => by
    by_cases z : b < lo
    · exact .inl z
    · refine .inr (Classical.byContradiction fun q => n ?_)
      exact List.mem_filter.mpr ⟨List.mem_range.mpr (Heap.lt_size e), decide_eq_true ⟨Nat.le_of_not_lt z, fun p hp y => q ⟨p, hp, y⟩⟩⟩
  have pinned : ∀ b o, s.heap.get? b = some o → (∃ p ∈ X.pn ++ pins, p.1 = b) → h'.get? b = some o ∧ H' b = none := fun b o e ⟨p, hp, y⟩ => by
    subst y
    obtain ⟨z1, _⟩ := I.pin p hp
    rw [e] at z1; cases z1
    exact kp p hp
  obtain ⟨m, ⟨oL, esL, epL, hoL, rL⟩, _⟩ := id I.loc
  obtain ⟨sl, hL⟩ := ku.slot X.env.locals oL L.loc hoL I.free
  refine I.step (g' := g') (t' := t') (d' := d') (ch := (List.range s.heap.objs.size).filter (fun b => decide (lo ≤ b ∧ ∀ p ∈ X.pn ++ pins, p.1 ≠ b))) (fun b hb => ?_) (fun b o hl hf hc e n => ?_) (fun b o hl hf hc e n => ?_) (fun b o hc e n => ?_) (fun b o hc e => ?_) ku.tups ku.frzs ku.tbls (fun m' hm => ?_) kok kb
  · have q := of_decide_eq_true (List.mem_filter.mp hb).2
    refine ⟨.inr (Nat.le_trans L.sz q.1), ?_, fun x c e z => ?_, q.2⟩
    · exact Nat.ne_of_gt (Nat.lt_of_lt_of_le L.loc q.1)
    · exact absurd (L.cel x c e) (Nat.not_lt.mpr (by rw [z]; exact q.1))
  · rcases low b o e hc with z | z
    · exact ku.keep b o z e n fun y => (List.mem_cons.mp (I.stkSub b y)).elim hl hf
    · exact (pinned b o e z).1
  · rcases low b o e hc with z | z
    · exact ku.slot b o z e n
    · exact ⟨o.slots, (pinned b o e z).1⟩
  · rcases low b o e hc with z | z
    · exact ku.free b o z e n
    · exact (pinned b o e z).2
  · rcases low b o e hc with z | z
    · exact ku.there b o z e
    · exact ⟨o, (pinned b o e z).1⟩
  · obtain ⟨o', es', ep', ho', r'⟩ := hm
    rw [hoL] at ho'; cases ho'
    exact ⟨_, es', ep', hL, r'⟩
theorem At.wkd (I : Inv X pins σ H s) (h : At X pins lo a g ob og gs H s) : Wkd X.prog X.w X.base X.stack g ob og (X.pn ++ pins) H (s.setGen g .running) where
  hok := I.hok
  bare := allBare_setGen I.bare rfl
  bs := I.bs
  funs := I.stack
  frf := I.stkFree
  obs := fun p hp => let ⟨a, b, _⟩ := h.own.obs p hp; ⟨a, b⟩
  ogs := fun q hq => by
    obtain ⟨a, _, c, _⟩ := h.own.ogs q hq
    rw [setGen_get _ _ (Nat.ne_of_gt c)]
    exact a
  pin := fun p hp => by
    obtain ⟨z1, z2, z3, z4, z5⟩ := I.pin p hp
    exact ⟨z1, z2, fun y => (List.mem_cons.mp (I.stkSub p.1 y)).elim z3 z4, z5, fun q hq => (h.fp q hq).2.2.2.2.2 p hp⟩
  gsz := by
    show g < (s.setGen g .running).gens.size
    rw [setGen_size]
    exact gsz_of h.gen
theorem next_zA {J : Gt} {Hs : Hp} {E : Value → Shared → Prop} {n i : Nat} {A : Around} (I : Inv X pins σ H s) (hh : A.handled = none) (hd : A.depth < recursionLimit) (L : Low X lo) (h : At X pins lo a g ob og gs H s)
    (hS : Asl ⟨X.prog, X.w, X.base, A.in1, X.stack, lo, a, g, J⟩ (n + 1) i Hs ob og gs) (hgs : slp gs = true ∨ ∃ c, gs = .fresh c) (hp : J.pre i Hs H) :
    wpAny (model X.prog X.w) A (pyNext (.ref a)) (fun r s1 => (∃ u x H' ob' og' gs', r = some u ∧ RelV x u ∧ J.yld i H x H' ∧ Inv X pins σ H' s1 ∧ At X pins lo a g ob' og' gs' H' s1 ∧ slp gs' = true ∧ (∀ q ∈ og', q.1 ∈ og.map (·.1) ∨ s.gens.size ≤ q.1) ∧ Asl ⟨X.prog, X.w, X.base, A.in1, X.stack, lo, a, g, J⟩ n (i + 1) H' ob' og' gs') ∨
      (r = none ∧ ∃ H', J.fin i H H' ∧ Inv X pins σ H' s1)) E s := by
  obtain ⟨o, nm, qn, hm, oc, od, osl⟩ := h.own.isgen
  have hgen : s.heap.IsGen a g := ⟨o, nm, qn, (h.own.obs _ hm).1, oc, od, osl⟩
  refine next_g (Φ := Out ⟨X.prog, X.w, X.base, A.in1, X.stack, lo, a, g, J⟩ n i ⟨H, s.setGen g .running, X.pn ++ pins, og.map (·.1)⟩) hh I.nolimit hd hgen h.gen (asl_succ.mp hS H _ _ (h.wkd I) hp) (fun v gd l k c p fs s1 z hb => ?_) (fun r s1 z => ?_)
  · obtain ⟨x, H', ob', og', y, rv, kp, ow, nw, nq, ng, sl⟩ := z
    have kp' : Kpt X.prog X.w lo (frs X.stack) (X.pn ++ pins) H H' s (s1.setGen g (End.susp v gd l k c p fs).genState) := ⟨kp.os, allBare_setGen kp.bare hb, kp.un, kp.hok, kp.pins, by
      have q := kp.gsz
      have q' : s.gens.size ≤ s1.gens.size := by rw [show (Wk.s ⟨H, s.setGen g .running, X.pn ++ pins, og.map (·.1)⟩).gens.size = s.gens.size from setGen_size s g .running] at q; exact q
      rw [setGen_size]; exact q'⟩
    have J1 := inv_kpt I L kp'
    have gl : g < s1.gens.size := by
      have q := kp.gsz
      rw [show (Wk.s ⟨H, s.setGen g .running, X.pn ++ pins, og.map (·.1)⟩).gens.size = s.gens.size from setGen_size s g .running] at q
      exact Nat.lt_of_lt_of_le (gsz_of h.gen) q
    refine .inl ⟨v, x, H', ob', og', _, rfl, rv, y, J1, ⟨⟨ow.isgen, ow.obs, fun q hq => ?_⟩, fun p hp => ?_, setGen_at gl, ng⟩, rfl, fun q hq => ?_, sl⟩
    · obtain ⟨a1, a2, a3, a4⟩ := ow.ogs q hq
      have a3' : g < q.1 := a3
      exact ⟨by rw [setGen_get _ _ (Nat.ne_of_gt a3')]; exact a1, a2, a3, a4⟩
    · obtain ⟨b1, b2, b3, b4⟩ := ow.obs p hp
      have b3' : lo ≤ p.1 := b3
      refine ⟨b2, Nat.ne_of_gt (Nat.lt_of_lt_of_le L.loc b3'), fun z => ?_, .inr (Nat.le_trans L.sz b3'), fun y c e z => ?_, fun q hq => nw q hq p hp⟩
      · obtain ⟨_, o2, ho2, _⟩ := I.ok.funs.mem z
        exact absurd (Heap.lt_size ho2) (Nat.not_lt.mpr (Nat.le_trans L.sz b3'))
      · exact absurd (L.cel y c e) (Nat.not_lt.mpr (by rw [z]; exact b3'))
    · have z := nq q hq
      rw [show (Wk.s ⟨H, s.setGen g .running, X.pn ++ pins, og.map (·.1)⟩).gens.size = s.gens.size from setGen_size s g .running] at z
      exact z
  · obtain ⟨hr, H', hf, kp⟩ := z
    refine ⟨hr, fun h' hk => .inr ⟨rfl, H', hf, ?_⟩⟩
    have kp' : Kpt X.prog X.w lo (frs X.stack) (X.pn ++ pins) H H' s (s1.setGen g .finished) := ⟨kp.os, allBare_setGen kp.bare rfl, kp.un, kp.hok, kp.pins, by
      have q := kp.gsz
      rw [show (Wk.s ⟨H, s.setGen g .running, X.pn ++ pins, og.map (·.1)⟩).gens.size = s.gens.size from setGen_size s g .running] at q
      rw [setGen_size]; exact q⟩
    exact (inv_kpt I L kp').kept (t' := s1.toks) hk
end
/-! ### code beside which generators sleep -/
theorem beside {α : Type} {M : Model} {A : Around} {s : Shared} {t : Sem α} {Q Q' : α → Shared → Prop} {E E' : Value → Shared → Prop} (h : wpAny M A t Q E { s with gens := dulls s.gens })
    (hQ : ∀ a s' G, Q a s' → Slps s.gens G → (AllBare s'.gens → AllBare G) → s.gens.size ≤ G.size → (∀ i : Nat, s.gens.size ≤ i → G[i]? = s'.gens[i]?) → Q' a { s' with gens := G })
    (hE : ∀ e s' G, E e s' → Slps s.gens G → (AllBare s'.gens → AllBare G) → s.gens.size ≤ G.size → (∀ i : Nat, s.gens.size ≤ i → G[i]? = s'.gens[i]?) → E' e { s' with gens := G }) : wpAny M A t Q' E' s := by
  refine wpAny_gsz (Nat.le_refl s.gens.size) (wpAny_slps ?_)
  refine wpAny_mono h (fun a s' q G hs hb hn hz => ?_) fun e s' q G hs hb hn hz => ?_
  · exact hQ a s' G q hs (fun ab y hy => by obtain ⟨z, hz, e⟩ := hb y hy; rw [← e]; exact ab z hz) hz hn
  · exact hE e s' G q hs (fun ab y hy => by obtain ⟨z, hz, e⟩ := hb y hy; rw [← e]; exact ab z hz) hz hn
theorem besideB {α : Type} {M : Model} {A : Around} {s : Shared} {t : Sem α} {Q Q' : α → Shared → Prop} {E E' : Value → Shared → Prop} {B : List Nat} (hB : ∀ i ∈ B, ∀ y, s.gens[i]? = some y → nog y = true) (h : wpAny M A t Q E { s with gens := dullB B s.gens })
    (hQ : ∀ a s' G, Q a s' → (∀ i y, i ∉ B → s.gens[i]? = some y → slp y = true → G[i]? = some y) → (AllBare s'.gens → AllBare G) → s.gens.size ≤ G.size → (∀ i : Nat, (i ∈ B ∨ s.gens.size ≤ i) → G[i]? = s'.gens[i]?) → Q' a { s' with gens := G })
    (hE : ∀ e s' G, E e s' → (∀ i y, i ∉ B → s.gens[i]? = some y → slp y = true → G[i]? = some y) → (AllBare s'.gens → AllBare G) → s.gens.size ≤ G.size → (∀ i : Nat, (i ∈ B ∨ s.gens.size ≤ i) → G[i]? = s'.gens[i]?) → E' e { s' with gens := G }) : wpAny M A t Q' E' s := by
  refine wpAny_gsz (Nat.le_refl s.gens.size) (wpAny_slpsB hB ?_)
  refine wpAny_mono h (fun a s' q G hs hb hn hz => ?_) fun e s' q G hs hb hn hz => ?_
  · exact hQ a s' G q hs (fun ab y hy => by obtain ⟨z, hz, e⟩ := hb y hy; rw [← e]; exact ab z hz) hz hn
  · exact hE e s' G q hs (fun ab y hy => by obtain ⟨z, hz, e⟩ := hb y hy; rw [← e]; exact ab z hz) hz hn
theorem dullB_bare {B : List Nat} {T : Array GenState} (h : AllBare T) : AllBare (dullB B T) := fun y hy => by
  obtain ⟨i, hi, rfl⟩ := Array.mem_iff_getElem.mp hy
  have e := dullB_get B T i
  rw [Array.getElem?_eq_getElem hi] at e
  cases q : T[i]? with
  | none =>
    rw [q] at e
    split at e <;> cases e
  | some x =>
    rw [q] at e
    split at e
    · injection e with e
      rw [e]; exact h x (Array.mem_of_getElem? q)
    · injection e with e
      rw [e, dull_bare]; exact h x (Array.mem_of_getElem? q)
theorem dulls_bare {T : Array GenState} (h : AllBare T) : AllBare (dulls T) := fun y hy => by
  obtain ⟨i, hi, rfl⟩ := Array.mem_iff_getElem.mp hy
  have e := dulls_get T i
  rw [Array.getElem?_eq_getElem hi] at e
  cases q : T[i]? with
  | none => rw [q] at e; cases e
  | some x =>
    rw [q] at e
    injection e with e
    rw [e, dull_bare]
    exact h x (Array.mem_of_getElem? q)
theorem inv_gens {X : Cx} {pins : List (Addr × Obj)} {σ : L2.St} {H : Hp} {s : Shared} {G : Array GenState} (I : Inv X pins σ H s) (h : AllBare G) : Inv X pins σ H { s with gens := G } :=
  ⟨I.ok, I.os, h, I.base, I.loc, I.cell, I.free, I.freeC, I.pin, I.hok, I.len⟩
end TwZ
/-! a generator's body -/
namespace TwZ
open PySem L2 PySem.Spec PyProof.Rows GenW
def cut (L : Addr) (s : Shared) : Shared := { s with heap := { s.heap with objs := s.heap.objs.extract 0 L } }
theorem cut_at {L b : Nat} {s : Shared} (h : b < L) : (cut L s).heap.objs[b]? = s.heap.objs[b]? := by
  show (s.heap.objs.extract 0 L)[b]? = s.heap.objs[b]?
  rw [Array.getElem?_extract]
  by_cases q : b < s.heap.objs.size
  · rw [if_pos (by omega), Nat.zero_add]
  · rw [if_neg (by omega), Array.getElem?_eq_none (by omega)]
theorem cut_get {L : Addr} {s : Shared} {b : Addr} (h : b < L) : (cut L s).heap.get? b = s.heap.get? b := by
  unfold Heap.get?
  rw [cut_at h]
theorem cut_size {L : Addr} {s : Shared} : (cut L s).heap.objs.size ≤ L := by
  show (s.heap.objs.extract 0 L).size ≤ L
  rw [Array.size_extract]; omega
theorem cut_size' {L : Addr} {s : Shared} (h : L ≤ s.heap.objs.size) : (cut L s).heap.objs.size = L := by
  show (s.heap.objs.extract 0 L).size = L
  have h' : (L : Nat) ≤ s.heap.objs.size := h
  rw [Array.size_extract]
  exact Nat.min_eq_left h'
theorem of_cut {L : Addr} {s : Shared} {b : Addr} {o : Obj} (h : (cut L s).heap.get? b = some o) : b < L ∧ s.heap.get? b = some o := by
  have q := Nat.lt_of_lt_of_le (Heap.lt_size h) cut_size
  exact ⟨q, (cut_get q) ▸ h⟩
abbrev re (X : Cx) (W : Wk) : Cx := { X with s_0 := cut X.env.locals W.s, H_0 := W.H, pn := W.pn }
structure Stc (X : Cx) (lo : Addr) : Prop where
  mod : Mod X.K X.mg X.base
  kind : X.env.scope.kind = .function
  glob : X.env.globals = mainGlobals
  blt : X.env.builtins = builtinsNs
  cel : X.env.cells = []
  nok : ∀ x, ¬ (X.env.kindOf x = some .cell ∨ X.env.kindOf x = some .free)
  hd : X.A.handled = none
  frames : X.A.frames = some X.stack
  stk : X.stack = X.env :: X.outer
  fr : X.env.frame = some X.env.locals
  ex : X.ex = []
  bsz : X.base.objs.size ≤ X.env.locals
  lo : lo ≤ X.env.locals
  calm : X.calm = true
  xe : ∀ e s, ¬ X.xe e s
structure GI (X : Cx) (a : Addr) (g : Nat) (W : Wk) (ip : List (Addr × Obj)) (iq : List (Nat × GenState)) (σ : L2.St) (H : Hp) (s : Shared) : Prop where
  inv : Inv (re X W) ip σ H s
  isgen : ∃ o nm qn, (a, o) ∈ ip ∧ o.cls = .type "generator" ∧ o.data = .fields #[.int g 0, nm, qn] ∧ o.slots = #[]
  own : ∀ p ∈ ip, X.env.locals ≤ p.1
  apt : ∀ p ∈ W.pn, ∀ q ∈ ip, p.1 ≠ q.1
  gsz : W.s.gens.size ≤ s.gens.size
  gl : g < W.s.gens.size
  ll : X.env.locals ≤ W.s.heap.objs.size
  gen : ∀ q ∈ iq, s.gens[q.1]? = some q.2 ∧ slp q.2 = true ∧ g < q.1 ∧ nog q.2 = true
  new : ∀ q ∈ iq, q.1 ∈ W.og ∨ W.s.gens.size ≤ q.1
section
variable {X : Cx} {lo a : Addr} {g : Nat} {W : Wk} {ip : List (Addr × Obj)} {iq : List (Nat × GenState)} {σ : L2.St} {H : Hp} {s : Shared}
theorem GI.rest (S : Stc X lo) (I : GI X a g W ip iq σ H s) : ∃ oL, s.heap.get? X.env.locals = some oL ∧ Own lo a g H s ((X.env.locals, oL) :: ip) iq ∧ ∀ p ∈ W.pn, ∀ q ∈ (X.env.locals, oL) :: ip, p.1 ≠ q.1 := by
  obtain ⟨m, ⟨oL, es, ep, ho, hd, _⟩, _⟩ := id I.inv.loc
  have ho : s.heap.get? X.env.locals = some oL := ho
  refine ⟨oL, ho, ⟨?_, fun p hp => ?_, I.gen⟩, fun p hp q hq => ?_⟩
  · obtain ⟨o, nm, qn, h1, h2⟩ := I.isgen
    exact ⟨o, nm, qn, List.mem_cons_of_mem _ h1, h2⟩
  · rcases List.mem_cons.mp hp with e | hp
    · rw [e]
      exact ⟨ho, I.inv.free, S.lo, fun v z => by rw [hd] at z; cases z⟩
    · obtain ⟨z1, z2, _, _, z5⟩ := I.inv.pin p (List.mem_append_right _ hp)
      exact ⟨z1, z2, Nat.le_trans S.lo (I.own p hp), z5⟩
  · rcases List.mem_cons.mp hq with e | hq
    · rw [e]
      exact (I.inv.pin p (List.mem_append_left _ hp)).2.2.1
    · exact I.apt p hp q hq
structure Rst (X : Cx) (a : Addr) (g : Nat) (ip : List (Addr × Obj)) (iq : List (Nat × GenState)) (σ : L2.St) (oL : Obj) : Prop where
  loc : ∃ (m : Str → Option Value) (es : _) (ep : _), oL.data = .dict es ep ∧ StrKeys es ∧ (∀ nm, nsFind es nm = m nm) ∧ ∀ (i : Nat) (x : Str) (v : V), X.N[i]? = some x → σ[i]? = some (some v) → Vis X.env.scope x → ∃ u, RelV v u ∧ X.env.kindOf x = some .local ∧ m x = some u
  len : σ.length = X.N.length
  pin : ∀ p ∈ ip, p.1 ≠ X.env.locals ∧ p.1 ∉ X.fs ∧ ∀ v, p.2.data ≠ .cell v
  frl : ∀ b ∈ frs X.outer, b < X.env.locals
  isgen : ∃ o nm qn, (a, o) ∈ ip ∧ o.cls = .type "generator" ∧ o.data = .fields #[.int g 0, nm, qn] ∧ o.slots = #[]
  own : ∀ p ∈ ip, X.env.locals ≤ p.1
  gen : ∀ q ∈ iq, slp q.2 = true ∧ g < q.1 ∧ nog q.2 = true
theorem GI.rst (S : Stc X lo) {oL : Obj} (I : GI X a g W ip iq σ H s) (e : s.heap.get? X.env.locals = some oL) : Rst X a g ip iq σ oL := by
  have noC : ∀ x c, X.env.cells.lookup x = some c → False := fun x c h => by rw [S.cel] at h; cases h
  refine ⟨?_, I.inv.len, fun p hp => ?_, fun b hb => ?_, I.isgen, I.own, fun q hq => (I.gen q hq).2⟩
  · obtain ⟨m, ⟨o, es, ep, ho, r1, r2, r3⟩, hl⟩ := id I.inv.loc
    have ho : s.heap.get? X.env.locals = some o := ho
    rw [e] at ho; cases ho
    refine ⟨m, es, ep, r1, r2, r3, fun i x v e1 e2 e3 => ?_⟩
    obtain ⟨u, ru, lk⟩ := hl i x v e1 e2 e3
    rcases lk with ⟨l1, l2⟩ | ⟨k, c, h, _⟩
    · exact ⟨u, ru, l1, l2⟩
    · exact (noC x c h).elim
  · obtain ⟨_, _, z3, z4, z5⟩ := I.inv.pin p (List.mem_append_right _ hp)
    exact ⟨z3, z4, z5⟩
  · obtain ⟨_, o, ho, _⟩ := I.inv.ok.funs.mem hb
    exact Nat.lt_of_lt_of_le (Heap.lt_size ho) cut_size
theorem Rst.woken (S : Stc X lo) {W2 : Wk} {oL : Obj} (R : Rst X a g ip iq σ oL) (z : Wkd X.prog X.w X.base X.outer g ((X.env.locals, oL) :: ip) iq W2.pn W2.H W2.s) (eo : W2.og = iq.map (·.1)) : GI X a g W2 ip iq σ W2.H W2.s := by
  obtain ⟨eL, nL⟩ := z.obs (X.env.locals, oL) List.mem_cons_self
  have nx : ∀ b, b ∉ X.ex := fun b z => by rw [S.ex] at z; cases z
  have Llt : X.env.locals ≤ W2.s.heap.objs.size := Nat.le_of_lt (Heap.lt_size eL)
  have frl := R.frl
  have fun2 : ∀ (l : List Env), (∀ b ∈ frs l, b < X.env.locals) → W2.s.heap.FunFrames X.base l → (cut X.env.locals W2.s).heap.FunFrames X.base l := by
    intro l
    induction l with
    | nil => intro _ _; trivial
    | cons env r ih =>
      intro hs hl
      obtain ⟨hk, ⟨L, o, hf, hn, ho, hd⟩, hr⟩ := hl
      have hL : L < X.env.locals := hs L (by unfold frs; rw [List.filterMap_cons, hf]; exact List.mem_cons_self)
      exact ⟨hk, ⟨L, o, hf, hn, (cut_get hL).trans ho, hd⟩, ih (fun b hb => hs b (by unfold frs; rw [List.filterMap_cons, hf]; exact List.mem_cons_of_mem _ hb)) hr⟩
  have noC : ∀ x c, X.env.cells.lookup x = some c → False := fun x c h => by rw [S.cel] at h; cases h
  refine ⟨⟨⟨S.mod, S.kind, S.glob, S.blt, cut_size, fun x y c h _ => (noC x c h).elim, fun x h => (S.nok x h).elim, fun x c _ h => (noC x c h).elim, fun _ => S.hd, S.frames, .inr ⟨S.stk, S.fr⟩, fun b h => absurd h (nx b), fun b o e => ?_, ?_, fun b _ _ => nx b, fun b h => absurd h (nx b), fun2 X.outer frl z.funs, z.frf⟩,
    rfl, z.bare, ⟨fun b o e n _ _ => (of_cut e).2, fun b o e n _ _ => ⟨o.slots, (of_cut e).2⟩, fun _ _ _ n _ => n, fun b o e _ => ⟨o, (of_cut e).2⟩, fun _ _ q => q, fun _ _ _ q => q, fun b ps (q : W2.H b = some (.tbl ps)) => ⟨#[], by rw [q]; simp⟩⟩, ?_, fun x c h => (noC x c h).elim, nL, fun x c h => (noC x c h).elim, fun p hp => ?_, z.hok, R.len⟩, R.isgen, R.own, fun p hp q hq => ?_, Nat.le_refl _, z.gsz, Llt, fun q hq => ?_, fun q hq => .inl (by rw [eo]; exact List.mem_map.mpr ⟨q, hq, rfl⟩)⟩
  · have lb : b < X.env.locals := Nat.lt_of_lt_of_le (Heap.lt_size e) S.bsz
    exact ⟨(cut_get lb).trans (z.bs b o e).1, (z.bs b o e).2⟩
  · show _ ≤ (cut X.env.locals W2.s).heap.objs.size
    rw [cut_size' Llt]
    exact S.bsz
  · obtain ⟨m, es, ep, r1, r2, r3, hl⟩ := R.loc
    refine ⟨m, ⟨oL, es, ep, eL, r1, r2, r3⟩, fun i x v e1 e2 e3 => ?_⟩
    obtain ⟨u, ru, l1, l2⟩ := hl i x v e1 e2 e3
    exact ⟨u, ru, .inl ⟨l1, l2⟩⟩
  · rcases List.mem_append.mp hp with hp | hp
    · obtain ⟨z1, z2, z3, z4, z5⟩ := z.pin p hp
      exact ⟨z1, z2, z5 (X.env.locals, oL) List.mem_cons_self, z3, z4⟩
    · obtain ⟨z1, z2⟩ := z.obs p (List.mem_cons_of_mem _ hp)
      obtain ⟨z3, z4, z5⟩ := R.pin p hp
      exact ⟨z1, z2, z3, z4, z5⟩
  · exact (z.pin p hp).2.2.2.2 q (List.mem_cons_of_mem _ hq)
  · exact ⟨z.ogs q hq, R.gen q hq⟩
end
/-! ### judgements -/
structure GEz where
  nx : Nat → Hp → L2.St → Hp → Prop
  rt : Nat → Hp → V → Hp → Prop
  bk : Nat → Hp → L2.St → Hp → Prop := fun _ _ _ _ => False
  ct : Nat → Hp → L2.St → Hp → Prop := fun _ _ _ _ => False
abbrev TGz := GEz → Nat → Hp → L2.St → Hp → Prop
def GEz.at (D : GEz) (i : Nat) (Hw : Hp) : Ends := { nx := D.nx i Hw, rt := D.rt i Hw, bk := D.bk i Hw, ct := D.ct i Hw }
structure GCz (X : Cx) (A : Around) (c : Code) (fs : List Frame) (gd : Bool → Bool) : Prop where
  over : A.over c fs = X.A
  split : splitAtGen fs = none
  guard : fs.any Frame.guarded = false
  gd : gd false = false
section
variable {X : Cx} {J : Gt} {st : Stmt} {rest : List Stmt}
theorem GI.code {α : Type} {lo a : Addr} {g : Nat} {A : Around} {c : Code} {fs : List Frame} {gd : Bool → Bool} {W : Wk} {ip : List (Addr × Obj)} {iq : List (Nat × GenState)} {σ : L2.St} {H : Hp} {s : Shared} {m : Sem α} {Q Q' : α → Shared → Prop} {E' : Value → Shared → Prop}
    (S : Stc X lo) (g0 : GCz X A c fs gd) (I : GI X a g W ip iq σ H s) (h : ∀ G0, Inv (re X W) ip σ H { s with gens := G0 } → wpAny (model X.prog X.w) X.A m Q X.xe { s with gens := G0 })
    (hQ : ∀ b s' G, Q b s' → Slps s.gens G → (AllBare s'.gens → AllBare G) → s.gens.size ≤ G.size → (∀ i : Nat, s.gens.size ≤ i → G[i]? = s'.gens[i]?) → Q' b { s' with gens := G }) :
    wpAny (model X.prog X.w) (A.over c fs) m Q' E' s := by
  rw [g0.over]
  exact beside (h _ (inv_gens I.inv (dulls_bare I.inv.bare))) hQ fun e s' G q => absurd q (S.xe e s')
theorem GI.codeB {α : Type} {lo a : Addr} {g : Nat} {A : Around} {c : Code} {fs : List Frame} {gd : Bool → Bool} {W : Wk} {ip : List (Addr × Obj)} {iq : List (Nat × GenState)} {σ : L2.St} {H : Hp} {s : Shared} {m : Sem α} {Q Q' : α → Shared → Prop} {E' : Value → Shared → Prop} {B : List Nat}
    (S : Stc X lo) (g0 : GCz X A c fs gd) (I : GI X a g W ip iq σ H s) (hB : ∀ i ∈ B, ∀ y, s.gens[i]? = some y → nog y = true) (hq : ∀ q ∈ iq, q.1 ∉ B)
    (h : ∀ G0, (∀ i ∈ B, G0[i]? = s.gens[i]?) → G0.size = s.gens.size → Inv (re X W) ip σ H { s with gens := G0 } → wpAny (model X.prog X.w) X.A m Q X.xe { s with gens := G0 })
    (hQ : ∀ b s' G, Q b s' → (∀ q ∈ iq, G[q.1]? = some q.2) → (AllBare s'.gens → AllBare G) → s.gens.size ≤ G.size → (∀ i : Nat, (i ∈ B ∨ s.gens.size ≤ i) → G[i]? = s'.gens[i]?) → Q' b { s' with gens := G }) :
    wpAny (model X.prog X.w) (A.over c fs) m Q' E' s := by
  rw [g0.over]
  exact besideB hB (h _ (fun i hi => by rw [dullB_get, if_pos hi]) (dullB_size _ _) (inv_gens I.inv (dullB_bare I.inv.bare))) (fun b s' G q hs hb hz hn => hQ b s' G q (fun q' hq' => hs q'.1 q'.2 (hq q' hq') (I.gen q' hq').1 (I.gen q' hq').2.1) hb hz hn) fun e s' G q => absurd q (S.xe e s')
def tPl (t : TS) : TGz := fun D i Hw σ H => t (D.at i Hw) σ H
def tGzSeq (t u : TGz) : TGz := fun D i Hw σ H => t { D with nx := fun i2 Hw2 σ2 H2 => u D i2 Hw2 σ2 H2 } i Hw σ H
def tGzYield (J : Gt) (te : TE) : TGz := fun D i Hw σ H => te σ H fun x H1 => J.yld i Hw x H1 ∧ ∀ H2, J.pre (i + 1) H1 H2 → D.nx (i + 1) H2 σ H2
/-! ### loops -/
end
end TwZ
/-! loops over generators; a generator's loops -/
namespace TwZ
open PySem L2 PySem.Spec PyProof.Rows GenW
abbrev TIG := L2.St → Hp → (Gt → Hp → Prop) → Prop
def PGE (X : Cx) (pins : List (Addr × Obj)) (σ : L2.St) (R : Gt → Hp → Prop) (n0 : Nat) (u : Value) (s1 : Shared) : Prop :=
  ∃ (J : Gt) (H1 : Hp) (lo a : Addr) (g : Nat) (ob : List (Addr × Obj)) (c : Code), u = .ref a ∧ Inv X pins σ H1 s1 ∧ Low X lo ∧ At X pins lo a g ob [] (.fresh c) H1 s1 ∧ n0 ≤ g ∧ (∀ b, lo ≤ b → H1 b = none) ∧
    (∀ n, Asl ⟨X.prog, X.w, X.base, X.A.in1, X.stack, lo, a, g, J⟩ n 0 H1 ob [] (.fresh c)) ∧ R J H1
structure PIG (X : Cx) (e : Expr) (wg : TIG) : Prop where
  run : ∀ (pins : List (Addr × Obj)) (s : Shared) (σ : L2.St) (H : Hp) (R : Gt → Hp → Prop), Inv X pins σ H s → wg σ H R → wpAny (model X.prog X.w) X.A (eval e X.env) (PGE X pins σ R s.gens.size) X.xe s
section
variable {X : Cx} {pins : List (Addr × Obj)} {σ σ' : L2.St} {H H' : Hp} {s s' : Shared} {lo a : Addr} {g : Nat} {ob : List (Addr × Obj)} {og : List (Nat × GenState)} {gs : GenState} {G : Array GenState}
theorem At.isgen (h : At X pins lo a g ob og gs H s) : s.heap.IsGen a g := by
  obtain ⟨o, nm, qn, hm, oc, od, osl⟩ := h.own.isgen
  exact ⟨o, nm, qn, (h.own.obs _ hm).1, oc, od, osl⟩
theorem At.mem (h : At X pins lo a g ob og gs H s) : ∃ o, s.heap.get? a = some o ∧ o.cls = .type "generator" ∧ ∃ vs, o.data = .fields vs := by
  obtain ⟨o, nm, qn, ho, oc, od, _⟩ := h.isgen
  exact ⟨o, ho, oc, _, od⟩
theorem At.pin (I : Inv X pins σ H s) (h : At X pins lo a g ob og gs H s) : Inv X (pins ++ ob) σ H s := I.pins_of fun p hp => by
  rcases List.mem_append.mp hp with hp | hp
  · exact I.pin p (List.mem_append_right _ hp)
  · obtain ⟨z1, z2, _, z4⟩ := h.own.obs p hp
    obtain ⟨f0, f1, f2, _⟩ := h.fp p hp
    exact ⟨z1, z2, f1, f2, z4⟩
theorem At.on (h : At X pins lo a g ob og gs H s) (sl : slp gs = true) (J : Inv X (pins ++ ob) σ' H' s') (hs : Slps s.gens G) : At X pins lo a g ob og gs H' { s' with gens := G } := by
  have q : ∀ p ∈ ob, s'.heap.get? p.1 = some p.2 ∧ H' p.1 = none := fun p hp => let ⟨a, b, _⟩ := J.pin p (List.mem_append_right _ (List.mem_append_right _ hp)); ⟨a, b⟩
  refine ⟨⟨h.own.isgen, fun p hp => ?_, fun q hq => ?_⟩, fun p hp => ⟨(q p hp).2, (h.fp p hp).2⟩, hs g gs h.gen sl, h.nog⟩
  · obtain ⟨_, _, z3, z4⟩ := h.own.obs p hp
    exact ⟨(q p hp).1, (q p hp).2, z3, z4⟩
  · obtain ⟨z1, z2, z3⟩ := h.own.ogs q hq
    exact ⟨hs q.1 q.2 z1 z2, z2, z3⟩
end
/-! ### the waker's loop -/
def Mild (X : Cx) : Prop := ∀ e s G, X.xe e s → (AllBare s.gens → AllBare G) → X.xe e { s with gens := G }
/-! ### a generator's loops -/
section
variable {X : Cx} {J : Gt} {lo a : Addr} {g : Nat} {W : Wk} {ip : List (Addr × Obj)} {iq : List (Nat × GenState)} {σ : L2.St} {H : Hp} {s : Shared}
theorem GI.more {pl : List (Addr × Obj)} {ql : List (Nat × GenState)} (I : GI X a g W ip iq σ H s) (J2 : Inv (re X W) (ip ++ pl) σ H s) (h1 : ∀ p ∈ pl, X.env.locals ≤ p.1) (h2 : ∀ p ∈ W.pn, ∀ q ∈ pl, p.1 ≠ q.1)
    (h3 : ∀ q ∈ ql, s.gens[q.1]? = some q.2 ∧ slp q.2 = true ∧ g < q.1 ∧ nog q.2 = true) (h4 : ∀ q ∈ ql, q.1 ∈ W.og ∨ W.s.gens.size ≤ q.1) : GI X a g W (ip ++ pl) (iq ++ ql) σ H s := by
  obtain ⟨o, nm, qn, z1, z2⟩ := I.isgen
  exact ⟨J2, ⟨o, nm, qn, List.mem_append_left _ z1, z2⟩, fun p hp => (List.mem_append.mp hp).elim (I.own p) (h1 p), fun p hp q hq => (List.mem_append.mp hq).elim (I.apt p hp q) (h2 p hp q), I.gsz, I.gl, I.ll, fun q hq => (List.mem_append.mp hq).elim (I.gen q) (h3 q), fun q hq => (List.mem_append.mp hq).elim (I.new q) (h4 q)⟩
theorem GI.turns (S : Stc X lo) {pl : List (Addr × Obj)} {ql : List (Nat × GenState)} (I : GI X a g W (ip ++ pl) (iq ++ ql) σ H s) {p : Addr × Obj} (hp : p ∈ pl) (hd : ∀ q ∈ ip, q.1 ≠ p.1) : FpOk (re X W) ip H p.1 := by
  have hm : p ∈ ip ++ pl := List.mem_append_right _ hp
  obtain ⟨z1, z2, z3, z4, z5⟩ := I.inv.pin p (List.mem_append_right _ hm)
  refine ⟨z2, z3, z4, .inr (Nat.le_trans cut_size (I.own p hm)), fun x c e => ?_, fun q hq => ?_⟩
  · have e : X.env.cells.lookup x = some c := e
    rw [S.cel] at e; cases e
  · rcases List.mem_append.mp hq with hq | hq
    · exact I.apt q hq p hm
    · exact hd q hq
end
end TwZ
/-! a generator that walks a generator; generator defs -/
namespace TwZ
open PySem L2 PySem.Spec PyProof.Rows GenW
section
variable {X : Cx} {J : Gt}
end
end TwZ
/-! generator defs; calls of them -/
namespace TwZ
open PySem L2 PySem.Spec PyProof.Rows GenW
abbrev SpZ := List V → Hp → (Gt → Hp → Prop) → Prop
def GMz (P : Program) (w : World) (base : Heap) (k : Nat) (outer : List Env) (H : Hp) (s : Shared) (R : Gt → Hp → Prop) (u : Value) (s' : Shared) : Prop :=
  ∃ (J : Gt) (a : Addr) (g : Nat) (ob : List (Addr × Obj)) (c : Code), u = .ref a ∧ s'.os = s.os ∧ AllBare s'.gens ∧ (∀ b o, s.heap.get? b = some o → s'.heap.get? b = some o) ∧ s.gens.size ≤ g ∧ s'.gens[g]? = some (.fresh c) ∧ Own s.heap.objs.size a g H s' ob [] ∧
    (∀ n Aw, Room k Aw → Aw.frames = some outer → Asl ⟨P, w, base, Aw, outer, s.heap.objs.size, a, g, J⟩ n 0 H ob [] (.fresh c)) ∧ R J H
abbrev gcz (P : Program) (w : World) (K : PySem.W.Frag) (mg : Str → Option Value) (base : Heap) (N : List Str) (qual : Str) (scope : Scope) (f : Addr) (cd : Value) (A : Around) (outer : List Env) (s : Shared) (H : Hp) : Cx :=
  (cxOf (fun _ _ _ _ _ _ => False) P w K mg base N qual scope f cd A outer s H fun _ _ _ => False).nox
/-! ### calls -/
section
variable {X : Cx} {k : Nat} {f : Addr} {fd : FuncData} {ps : List Str} {sp : SpZ} {dvs : List V} {ds : List Value} {x : Str} {p pos : Pos} {e : Expr} {es : List Expr} {ta : TA}
end
end TwZ
/-! generator defs as the joins print them -/
namespace TwZ
open PySem L2 PySem.Spec PyProof.Rows GenW
def GFr (P : Program) (w : World) (K : PySem.W.Frag) (mg : Str → Option Value) (base : Heap) (k : Nat) (f : Addr) (sp : SpZ) : Prop :=
  ∀ (A : Around) (outer : List Env) (s : Shared) (H : Hp) (us : List Value) (vs : List V) (R : Gt → Hp → Prop), Room k A → Env0 P w K mg base A outer s H → Vals vs us → sp vs H R →
    codeAny (model P w) A (.call (.ref f) ⟨us, []⟩) (fun r s' => match r with | .ok (.ret u) => GMz P w base k outer H s R u s' | _ => False) s
theorem GFr.mono {P : Program} {w : World} {K : PySem.W.Frag} {mg : Str → Option Value} {base : Heap} {j k : Nat} {f : Addr} {sp : SpZ} (F : GFr P w K mg base j f sp) (h : j ≤ k) : GFr P w K mg base k f sp := fun A outer s H us vs R hr e0 rv hs =>
  codeAny_mono (F A outer s H us vs R (hr.mono h) e0 rv hs) fun r s' z => by
    cases r with
    | error e => exact z
    | ok fl =>
      cases fl with
      | ret u =>
        obtain ⟨J, a, g, ob, c, q1, q2, q3, q4, q5, q6, q7, q8, q9⟩ := z
        exact ⟨J, a, g, ob, c, q1, q2, q3, q4, q5, q6, q7, fun n Aw hw => q8 n Aw (hw.mono h), q9⟩
      | next => exact z
      | brk => exact z
      | cont => exact z
section
variable {X : Cx} {k : Nat} {f : Addr} {sp : SpZ} {x : Str} {p pos : Pos} {e : Expr} {es : List Expr} {ta : TA}
def tGenF (sp : SpZ) (t : TA) : TIG := fun σ H R => t σ H fun vs H1 => sp vs H1 R
end
end TwZ
namespace TwZ
open PySem L2
def frm : HO → Bool
  | .tup _ => true
  | .ins _ _ _ => true
  | .own _ => true
  | .met _ _ => true
  | .rng _ _ => true
  | .frz _ _ => true
  | _ => false
def Frm (H H' : Hp) : Prop := ∀ b u, H b = some u → frm u = true → H' b = some u
theorem Frm.refl (H : Hp) : Frm H H := fun _ _ h _ => h
theorem Frm.trans {H H1 H2 : Hp} (a : Frm H H1) (b : Frm H1 H2) : Frm H H2 := fun c u h z => b c u (a c u h z) z
theorem Frm.upd {H H1 : Hp} {p : Addr} {o u : HO} (a : Frm H H1) (hp : H1 p = some o) (h : frm o = false) : Frm H (upd H1 p u) := fun b v e z => by
  rw [upd_ne (fun y => by subst y; rw [a _ _ e z] at hp; cases hp; rw [h] at z; cases z)]
  exact a b v e z
theorem Frm.new {H H1 : Hp} {p : Addr} {u : HO} (a : Frm H H1) (hp : H1 p = none) : Frm H (L2.upd H1 p u) := fun b v e z => by
  rw [upd_ne (fun y => by subst y; rw [a _ _ e z] at hp; cases hp)]
  exact a b v e z
theorem gzfor_range {lo : Int} {n : Nat} {gt : TG} {tb : TGz} {D : GEz} {i : Nat} {Hw : Hp} {σ : L2.St} {H : Hp} (Pv : Nat → Nat → Hp → L2.St → Hp → Prop) (h0 : Pv 0 i Hw σ H)
    (hs : ∀ j i Hw σ H, j < n → Pv j i Hw σ H → gt (.int (lo + (j : Nat))) σ H fun σ2 H2 => tb { D with nx := Pv (j + 1), ct := Pv (j + 1), bk := D.nx } i Hw σ2 H2) (hd : ∀ i Hw σ H, Pv n i Hw σ H → D.nx i Hw σ H) :
    ∃ Y : Nat → Nat → Nat → Hp → L2.St → Hp → Prop, (∃ m, Y 0 m i Hw σ H) ∧ ∀ j m i Hw σ H, Y j m i Hw σ H →
      ((Itr lo n).stop j H ∧ D.nx i Hw σ H) ∨ ((Itr lo n).go j H ∧ ∃ Nx : Nat → Hp → L2.St → Hp → Prop, (∀ i' Hw' σ' H', Nx i' Hw' σ' H' → ∃ m', m' < m ∧ Y (j + 1) m' i' Hw' σ' H') ∧ ∀ x H', (Itr lo n).yld j H x H' → gt x σ H' fun σ2 H2 => tb { D with nx := Nx, ct := Nx, bk := D.nx } i Hw σ2 H2) := by
  refine ⟨fun j m i Hw σ H => m = n - j ∧ j ≤ n ∧ Pv j i Hw σ H, ⟨n, by simp, Nat.zero_le _, h0⟩, ?_⟩
  rintro j m i Hw σ H ⟨rfl, hj, hp⟩
  by_cases h : j < n
  · refine .inr ⟨h, Pv (j + 1), fun i' Hw' σ' H' z => ⟨n - (j + 1), by omega, rfl, h, z⟩, ?_⟩
    rintro x H' ⟨rfl, rfl⟩
    exact hs j i Hw σ H' h hp
  · have e : j = n := by omega
    subst e
    exact .inl ⟨Nat.le_refl _, hd i Hw σ H hp⟩
theorem seq_pl {a : TS} {u : TGz} {D : GEz} {i : Nat} {Hw : Hp} {σ : L2.St} {H : Hp} : tGzSeq (tPl a) u D i Hw σ H = a { nx := fun σ2 H2 => u D i Hw σ2 H2, rt := D.rt i Hw, bk := D.bk i Hw, ct := D.ct i Hw } σ H := rfl
end TwZ
/-! Tw: what stays while a generator sleeps -/
namespace Tw
open PySem PySem.Spec PyProof.Rows L2 TwM
open PySem.W (Frag)
section
variable {K : Frag} {H H' : Hp} {a : Addr}
theorem Same.frm (e : Same H H') : TwZ.Frm H H' := fun b u h _ => e b u h
theorem LvAt.frm {l : Lv} (h : LvAt K H a l) (e : TwZ.Frm H H') : LvAt K H' a l := ⟨h.ok, h.at_.elim fun dx q => ⟨dx, e _ _ q rfl⟩⟩
theorem WhAt.frm {W : List Lv} (h : WhAt K H a W) (e : TwZ.Frm H H') : WhAt K H' a W := by
  obtain ⟨ok, dx, t, as, h1, h2, h3, h4⟩ := h
  exact ⟨ok, dx, t, as, e _ _ h1 rfl, e _ _ h2 rfl, h3, fun i c q => (h4 i c q).frm e⟩
theorem BkAt.frm {B : Bk} (h : BkAt K H a B) (e : TwZ.Frm H H') : BkAt K H' a B := by
  obtain ⟨ok, dx, t, h1, h2⟩ := h
  exact ⟨ok, dx, t, e _ _ h1 rfl, e _ _ h2 rfl⟩
end
def OPr (H : Hp) (v : V) (o : Option (Int × Int)) : Prop := match o with
  | none => v = .non
  | some (a, b) => ∃ p, v = .ref p ∧ H p = some (.tup [.int a, .int b])
theorem OPr.same {H H' : Hp} {v : V} {o : Option (Int × Int)} (h : OPr H v o) (s : Same H H') : OPr H' v o := by
  cases o with
  | none => exact h
  | some p =>
    obtain ⟨q, e, h⟩ := h
    exact ⟨q, e, s _ _ h⟩
theorem seqM {a b : TS} {D : Ends} {σ : L2.St} {H : Hp} (I : L2.St → Hp → Prop) (h1 : ∀ R : L2.St → Hp → Prop, (∀ σ' H', I σ' H' → R σ' H') → a { D with nx := R } σ H) (h2 : ∀ σ' H', I σ' H' → b D σ' H') : tSeq a b D σ H := h1 _ h2
def ForRg (n : Nat) (g : TG) (tb : TS) (D : Ends) (σ : L2.St) (H : Hp) : Prop := tFor (fun σ H R => R (Itr 0 n) H) g tb D σ H
def Hid (p : Prop) : Prop := p
end Tw
/-! Tw: the law's lateness -/
namespace Tw
open PySem PySem.Spec PyProof.Rows L2 He TwM StX
open PySem.W (Frag)
section
variable {K : Frag} {w : World}
def lagM (W : List Lv) (B : Bk) (s d : Int) : Int := (fin W B s d).1 - s - (if d = 0 ∧ B.zone = true then 1 else d)
local macro_rules | `(tactic| walk_at "rwl") => `(tactic| simp only [*, at3_0, at3_1, at3_2, at2_0, at2_1, updS, upd_two, gSub, rSetL, updN, tPar, at6_0, at6_1, at6_2, at6_3, at6_4, at6_5, and_assoc, not_true_eq_false, not_false_eq_true, tNever, List.length_map, tFld, rIxTH, rIxLH, rLenTH, rLenLH, lk1, lfs_g, lfs_s, lfs_p, HO.ins.injEq, HO.tup.injEq, HO.lst.injEq, sp_Book_rounding, sp_Book_action, sp_Book_order, sp_Book_due, sp_Book_zero, sp_Book_beyond, Int.toNat_natCast, sp_visit_after, sp_is_visited, sp_Level_grain, sp_Level_slots, sp_Level_span, sp_Wheel_reach, sp_Wheel___len__, sp_is_integer, sp_is_count, sp_is_within, sp_rounded, tSeq, tAsg, gName, tVar, tC, tOp, rI, rI0, rU, tUn, oAdd, oSub, oMul, oDiv, oMod, oNeg, oLt, oLe, oGt, oGe, oIsN, oNotN, tFn, tCons, tNil, tIfS, tIf, tTest, tB, tNot, tAnd, tOr, tAndV, tOrV, tNotV,
    tRet, tRetN, tNext, tCB, tDrop, tChain, rEq, rNe, oMax2, oMin2, oInt1, rLenF, L2.start, List.map_cons, List.map_nil, List.length_cons, List.length_nil, List.replicate_succ, List.replicate_zero, List.cons_append, List.nil_append, Nat.reduceAdd, Nat.reduceSub, Nat.zero_add,
    List.set_cons_zero, List.set_cons_succ, List.getElem?_cons_zero, List.getElem?_cons_succ, Option.some.injEq, V.int.injEq, V.ref.injEq, V.str.injEq, V.bl.injEq, exists_eq_left', exists_eq_left, exists_and_left, List.cons.injEq, and_true, true_and, decide_eq_true_eq, sc_ii, sc_ss, sc_bb, sc_ni, sc_in, sc_nn, sc_is, reduceCtorEq,
    Bool.not_eq_true', decide_eq_false_iff_not, if_true, if_false, Bool.false_eq_true, exists_eq', exists_const, false_and, and_false, or_false, false_or, exists_false, Bool.not_not, Bool.not_true, Bool.not_false, sUp_up, sFire_fire, sHigh_high, sPut_put, sZone_now, sBey_refuse, sBey_cut, tTup, tLst, sz0, sz1, sz2, sz3, sz4, sz5, sz6])
end
end Tw
/-! Tw: kinds of timers, as the program walks them -/
namespace Tw
open PySem PySem.Spec PyProof.Rows L2 He TwM StX
open PySem.W (Frag)
local macro_rules | `(tactic| walk_at "rsl") => `(tactic| simp only [*, at3_0, at3_1, at3_2, at2_0, at2_1, updS, upd_two, gSub, rSetL, updN, tPar, tPar3, gTup, gCons, gNil, and_assoc, not_true_eq_false, not_false_eq_true, tNever, List.length_map, tFld, rIxTH, rIxLH, rLenTH, rLenLH, lk1, lfs_g, lfs_s, lfs_p, HO.ins.injEq, HO.tup.injEq, HO.lst.injEq, sp_Book_rounding, sp_Book_action, sp_Book_order, sp_Book_due, sp_Book_zero, sp_Book_beyond, Int.toNat_natCast, sp_visit_after, sp_is_visited, sp_Level_grain, sp_Level_slots, sp_Level_span, sp_Wheel_reach, sp_Wheel___len__, sp_is_integer, sp_is_count, sp_is_within, sp_rounded, tAsg, gName, tVar, tC, tOp, rI, rI0, rU, tUn, oAdd, oSub, oMul, oDiv, oMod, oNeg, oLt, oLe, oGt, oGe, oIsN, oNotN, tFn, tCons, tNil, tIfS, tIf, tTest, tB, tNot, tAnd, tOr, tAndV, tOrV, tNotV,
    tRet, tRetN, tNext, tCB, tDrop, tChain, rEq, rNe, oMax2, oMin2, oInt1, rLenF, L2.start, List.map_cons, List.map_nil, List.length_cons, List.length_nil, List.replicate_succ, List.replicate_zero, List.cons_append, List.nil_append, Nat.reduceAdd, Nat.reduceSub, Nat.zero_add,
    List.set_cons_zero, List.set_cons_succ, List.getElem?_cons_zero, List.getElem?_cons_succ, Option.some.injEq, V.int.injEq, V.ref.injEq, V.str.injEq, V.bl.injEq, exists_eq_left', exists_eq_left, exists_and_left, List.cons.injEq, and_true, true_and, decide_eq_true_eq, sc_ii, sc_ss, sc_bb, sc_ni, sc_in, sc_nn, sc_is, reduceCtorEq,
    Bool.not_eq_true', decide_eq_false_iff_not, if_true, if_false, Bool.false_eq_true, exists_eq', exists_const, false_and, and_false, or_false, false_or, exists_false, Bool.not_not, Bool.not_true, Bool.not_false, sUp_up, sFire_fire, sHigh_high, sPut_put, sZone_now, sBey_refuse, sBey_cut, tTup, tLst, sz0, sz1, sz2, sz3, sz4, sz5, sz6])
local macro_rules | `(tactic| walk_at "st") => `(tactic| ((try dsimp only); rw [seq1]; walk_at "rsl"))
local macro_rules | `(tactic| walk_at "zt") => `(tactic| ((try dsimp only); rw [TwZ.seq_pl]; walk_at "rsl"))
section
variable {K : Frag} {w : World}
def lsG (n : Nat) (F : Nat → V → Hp → Prop) : TwZ.Gt := ⟨fun _ H H' => TwZ.Frm H H', fun j H x H' => j < n ∧ F j x H' ∧ Same H H', fun j H H' => j = n ∧ Same H H'⟩
def SmP (W : List Lv) (B : Bk) (i : Nat) (j : Nat) (x : V) (H : Hp) : Prop := ∃ T p, (smp W B i)[j]? = some T ∧ x = .ref p ∧ H p = some (.tup [.int T, .int (latT W B i T)])
def isK (kind : Nat) (late g : Int) : Prop := if kind = 0 then late < 0 else if kind = 1 then g ≤ late else late ≠ 0
instance (kind : Nat) (late g : Int) : Decidable (isK kind late g) := by unfold isK; infer_instance
end
section
variable {W : List Lv} {B : Bk} {i kind : Nat}
def nxK (W : List Lv) (B : Bk) (i kind : Nat) (o : Option Int) (T : Int) : Option Int := if isK kind (latT W B i T) (lv W i).g ∧ (o = none ∨ ∃ m, o = some m ∧ T < m) then some T else o
def KindIs (W : List Lv) (B : Bk) (kind : Nat) (o : Option (Int × Int)) : Prop := match o with
  | none => ∀ i d s, levelOf W d = some i → 1 ≤ d → 0 ≤ s → ¬ isK kind (lat W B s d) (lv W i).g
  | some (s, d) => ∃ i, levelOf W d = some i ∧ 1 ≤ d ∧ 0 ≤ s ∧ s < (lv W i).g ∧ isK kind (lat W B s d) (lv W i).g ∧
    ∀ i' d' s', levelOf W d' = some i' → 1 ≤ d' → 0 ≤ s' → isK kind (lat W B s' d') (lv W i').g → d < d' ∨ d = d' ∧ s ≤ s'
end
section
variable {K : Frag} {w : World}
end
end Tw
/-! a generator that walks a list of its own: the list is locked from its making on, so it stays while the generator sleeps -/
namespace TwZ
open PySem L2 PySem.Spec PyProof.Rows GenW
def tFrz (te : TE) : TE := fun σ H Q => te σ H fun v H1 => ∃ d u, v = .ref d ∧ H1 d = some u ∧ Mut (some u) ∧ ∀ od, Q v (upd H1 d (.frz od u))
def GzL (K : PySem.W.Frag) (a : Addr) (gt : TG) (tb : TGz) (D : GEz) (i : Nat) (Hw : Hp) (σ : L2.St) (H : Hp) : Prop := ∃ Y : Nat → Nat → Nat → Hp → L2.St → Hp → Prop, (∃ m, Y 0 m i Hw σ H) ∧ ∀ j m i Hw σ H, Y j m i Hw σ H →
      ((Itl K a).stop j H ∧ D.nx i Hw σ H) ∨ ((Itl K a).go j H ∧ ∃ Nx : Nat → Hp → L2.St → Hp → Prop, (∀ i' Hw' σ' H', Nx i' Hw' σ' H' → ∃ m', m' < m ∧ Y (j + 1) m' i' Hw' σ' H') ∧ ∀ x H', (Itl K a).yld j H x H' → gt x σ H' fun σ2 H2 => tb { D with nx := Nx, ct := Nx, bk := D.nx } i Hw σ2 H2)
end TwZ
/-! list comprehensions over generators -/
namespace TwZ
open PySem L2 PySem.Spec PyProof.Rows GenW
structure LowB (X : Cx) (lo : Addr) (PN : List (Addr × Obj)) (D : Addr) : Prop where
  cel : ∀ x c, X.env.cells.lookup x = some c → c < lo
  ex : ∀ b, lo ≤ b → b < X.s_0.heap.objs.size → b ≠ D → (∀ p ∈ PN, p.1 ≠ b) → b ∈ X.ex
  pn0 : X.pn = []
  fs : ∀ b ∈ frs X.stack, b < lo
  st : X.outer = X.stack
  loc : lo ≤ X.env.locals
  dl : D ≠ X.env.locals
  sz : lo ≤ X.s_0.heap.objs.size
  pin : ∀ p ∈ PN, p.1 ∉ frs X.stack ∧ (∀ v, p.2.data ≠ .cell v) ∧ p.1 ≠ X.env.locals ∧ X.s_0.heap.get? p.1 = some p.2 ∧ X.H_0 p.1 = none ∧ p.1 ∉ X.ex
section
variable {X : Cx} {σ : L2.St} {H H' : Hp} {s s1 : Shared} {lo a D : Addr} {g : Nat} {PN : List (Addr × Obj)} {ob : List (Addr × Obj)} {og : List (Nat × GenState)} {gs : GenState} {G : Array GenState}
theorem LowB.at_ (L : LowB X lo PN D) (I : Inv X [] σ H s) : ∀ p ∈ PN, s.heap.get? p.1 = some p.2 ∧ H p.1 = none := fun p hp => by
  obtain ⟨h1, h2, h3, h4, h5, h6⟩ := L.pin p hp
  have hfs : p.1 ∉ X.fs := fun z => h1 (by rw [← L.st]; exact z)
  exact ⟨I.base.keep _ _ h4 h5 hfs h6, I.base.free _ _ h4 h5 h6⟩
theorem inv_kptB (I : Inv X [] σ H s) (L : LowB X lo PN D) {oC : Obj} (hC : s.heap.get? X.env.locals = some oC) (hD : ∃ xs, H D = some (.lst xs)) (hD' : ∃ xs, H' D = some (.lst xs)) (k : Kpt X.prog X.w lo (frs X.stack) (PN ++ [(X.env.locals, oC)]) H H' s s1) : Inv X [] σ H' s1 := by
  obtain ⟨h', g', d', t', os'⟩ := s1
  obtain ⟨kos, kb, ku, kok, kp, _⟩ := k
  have e : os' = s.os := kos
  subst e
  have low : ∀ b o, s.heap.get? b = some o → b ∉ (List.range s.heap.objs.size).filter (fun b => decide (lo ≤ b ∧ b ≠ D ∧ b ≠ X.env.locals ∧ ∀ p ∈ PN, p.1 ≠ b)) → b < lo ∨ b = D ∨ b = X.env.locals ∨ ∃ p ∈ PN, p.1 = b := fun b o e n => by
    refine Classical.byContradiction fun q => n ?_
    refine List.mem_filter.mpr ⟨List.mem_range.mpr (Heap.lt_size e), decide_eq_true ⟨?_, ?_, ?_, fun p hp y => q (.inr (.inr (.inr ⟨p, hp, y⟩)))⟩⟩
    · exact Nat.le_of_not_lt fun z => q (.inl z)
    · exact fun z => q (.inr (.inl z))
    · exact fun z => q (.inr (.inr (.inl z)))
  have pinned : ∀ b o, s.heap.get? b = some o → (∃ p ∈ PN, p.1 = b) → h'.get? b = some o ∧ H' b = none := fun b o e ⟨p, hp, y⟩ => by
    subst y
    obtain ⟨z1, _⟩ := L.at_ I p hp
    rw [e] at z1; cases z1
    exact kp p (List.mem_append_left _ hp)
  have locd : ∀ o, s.heap.get? X.env.locals = some o → h'.get? X.env.locals = some o ∧ H' X.env.locals = none := fun o e => by
    rw [hC] at e; cases e
    exact kp _ (List.mem_append_right _ (List.mem_singleton.mpr rfl))
  obtain ⟨oD, hD⟩ := hD
  obtain ⟨oD', hD'⟩ := hD'
  have noD : ∀ {b}, b = D → H b = none → False := fun {b} z n => by rw [z, hD] at n; cases n
  refine I.step (g' := g') (t' := t') (d' := d') (ch := (List.range s.heap.objs.size).filter (fun b => decide (lo ≤ b ∧ b ≠ D ∧ b ≠ X.env.locals ∧ ∀ p ∈ PN, p.1 ≠ b))) (fun b hb => ?_) (fun b o hl hf hc e n => ?_) (fun b o hl hf hc e n => ?_) (fun b o hc e n => ?_) (fun b o hc e => ?_) ku.tups ku.frzs ku.tbls (fun m' hm => ?_) kok kb
  · obtain ⟨q1, q2, q3, q4⟩ := of_decide_eq_true (List.mem_filter.mp hb).2
    refine ⟨?_, q3, fun x c e z => ?_, fun p hp => ?_⟩
    · by_cases z : b < X.s_0.heap.objs.size
      · exact .inl (L.ex b q1 z q2 q4)
      · exact .inr (Nat.le_of_not_lt z)
    · exact absurd (L.cel x c e) (Nat.not_lt.mpr (by rw [z]; exact q1))
    · rw [L.pn0] at hp
      exact absurd hp List.not_mem_nil
  · rcases low b o e hc with z | z | z | z
    · exact ku.keep b o z e n fun y => hf (show b ∈ frs X.outer by rw [L.st]; exact y)
    · exact (noD z n).elim
    · exact absurd z hl
    · exact (pinned b o e z).1
  · rcases low b o e hc with z | z | z | z
    · exact ku.slot b o z e n
    · exact (noD z n).elim
    · exact absurd z hl
    · exact ⟨o.slots, (pinned b o e z).1⟩
  · rcases low b o e hc with z | z | z | z
    · exact ku.free b o z e n
    · exact (noD z n).elim
    · subst z; exact (locd o e).2
    · exact (pinned b o e z).2
  · rcases low b o e hc with z | z | z | z
    · exact ku.there b o z e
    · subst z
      obtain ⟨_, _, _, _, e⟩ := kok _ _ hD'
      exact ⟨_, e⟩
    · subst z; exact ⟨o, (locd o e).1⟩
    · exact ⟨o, (pinned b o e z).1⟩
  · obtain ⟨o', es', ep', ho', r'⟩ := hm
    exact ⟨_, es', ep', (locd _ ho').1, r'⟩
structure AtB (X : Cx) (PN : List (Addr × Obj)) (lo a : Addr) (g : Nat) (ob : List (Addr × Obj)) (og : List (Nat × GenState)) (gs : GenState) (H : Hp) (s : Shared) : Prop where
  own : Own lo a g H s ob og
  ne : ∀ p ∈ ob, p.1 ≠ X.env.locals ∧ ∀ q ∈ PN, q.1 ≠ p.1
  gen : s.gens[g]? = some gs
  nog : nog gs = true
theorem AtB.isgen (h : AtB X PN lo a g ob og gs H s) : s.heap.IsGen a g := by
  obtain ⟨o, nm, qn, hm, oc, od, osl⟩ := h.own.isgen
  exact ⟨o, nm, qn, (h.own.obs _ hm).1, oc, od, osl⟩
theorem AtB.mem (h : AtB X PN lo a g ob og gs H s) : ∃ o, s.heap.get? a = some o ∧ o.cls = .type "generator" ∧ ∃ vs, o.data = .fields vs := by
  obtain ⟨o, nm, qn, ho, oc, od, _⟩ := h.isgen
  exact ⟨o, ho, oc, _, od⟩
theorem AtB.pin (L : LowB X lo PN D) (I : Inv X [] σ H s) (h : AtB X PN lo a g ob og gs H s) : Inv X ob σ H s := I.pins_of fun p hp => by
  obtain ⟨z1, z2, z3, z4⟩ := h.own.obs p hp
  refine ⟨z1, z2, (h.ne p hp).1, fun y => ?_, z4⟩
  have y : p.1 ∈ frs X.outer := y
  rw [L.st] at y
  exact absurd (L.fs _ y) (Nat.not_lt.mpr z3)
theorem AtB.on {σ' : L2.St} {s' : Shared} (h : AtB X PN lo a g ob og gs H s) (sl : slp gs = true) (J : Inv X ob σ' H' s') (hs : Slps s.gens G) : AtB X PN lo a g ob og gs H' { s' with gens := G } := by
  have q : ∀ p ∈ ob, s'.heap.get? p.1 = some p.2 ∧ H' p.1 = none := fun p hp => let ⟨a, b, _⟩ := J.pin p (List.mem_append_right _ hp); ⟨a, b⟩
  refine ⟨⟨h.own.isgen, fun p hp => ?_, fun q hq => ?_⟩, h.ne, hs g gs h.gen sl, h.nog⟩
  · obtain ⟨_, _, z3, z4⟩ := h.own.obs p hp
    exact ⟨(q p hp).1, (q p hp).2, z3, z4⟩
  · obtain ⟨z1, z2, z3⟩ := h.own.ogs q hq
    exact ⟨hs q.1 q.2 z1 z2, z2, z3⟩
theorem go_gB {P : Program} {w : World} {A : Around} {E : Value → Shared → Prop} {tg : Expr} {u : Value} {Q : Unit → Shared → Prop} (h : AtB X PN lo a g ob og gs H s) (hQ : Q () s) : wpAny (model P w) A (letOwnedTupleGo tg (.ref a) u) Q E s := by
  obtain ⟨o, ho, hc, vs, hd⟩ := h.mem
  exact go_of ho hc hd (by decide) hQ
theorem AtB.wkd (L : LowB X lo PN D) (I : Inv X [] σ H s) {oC : Obj} (hC : s.heap.get? X.env.locals = some oC) (hd : ∀ v, oC.data ≠ .cell v) (h : AtB X PN lo a g ob og gs H s) : Wkd X.prog X.w X.base X.stack g ob og (PN ++ [(X.env.locals, oC)]) H (s.setGen g .running) where
  hok := I.hok
  bare := allBare_setGen I.bare rfl
  bs := I.bs
  funs := I.stack
  frf := I.stkFree
  obs := fun p hp => let ⟨a, b, _⟩ := h.own.obs p hp; ⟨a, b⟩
  ogs := fun q hq => by
    obtain ⟨a, _, c, _⟩ := h.own.ogs q hq
    rw [setGen_get _ _ (Nat.ne_of_gt c)]
    exact a
  pin := fun p hp => by
    rcases List.mem_append.mp hp with hp | hp
    · obtain ⟨z1, z2⟩ := L.at_ I p hp
      obtain ⟨h1, h2, _⟩ := L.pin p hp
      exact ⟨z1, z2, h1, h2, fun q hq => (h.ne q hq).2 p hp⟩
    · rw [List.mem_singleton.mp hp]
      exact ⟨hC, I.free, fun y => absurd (L.fs _ y) (Nat.not_lt.mpr L.loc), hd, fun q hq => Ne.symm (h.ne q hq).1⟩
  gsz := by
    show g < (s.setGen g .running).gens.size
    rw [setGen_size]
    exact gsz_of h.gen
theorem next_zB {J : Gt} {Hs : Hp} {E : Value → Shared → Prop} {n i : Nat} {A : Around} (I : Inv X [] σ H s) (hA : A = X.A) (hc : X.calm = true) (hd : A.depth < recursionLimit) (L : LowB X lo PN D) (h : AtB X PN lo a g ob og gs H s)
    (hS : Asl ⟨X.prog, X.w, X.base, A.in1, X.stack, lo, a, g, J⟩ (n + 1) i Hs ob og gs) (hgs : slp gs = true ∨ ∃ c, gs = .fresh c) (hp : J.pre i Hs H) (hD : ∃ xs, H D = some (.lst xs)) (hy : ∀ x H', J.yld i H x H' → ∃ xs, H' D = some (.lst xs)) (hf : ∀ H', J.fin i H H' → ∃ xs, H' D = some (.lst xs)) :
    wpAny (model X.prog X.w) A (pyNext (.ref a)) (fun r s1 => (∃ u x H' ob' og' gs', r = some u ∧ RelV x u ∧ J.yld i H x H' ∧ Inv X [] σ H' s1 ∧ AtB X PN lo a g ob' og' gs' H' s1 ∧ slp gs' = true ∧ Asl ⟨X.prog, X.w, X.base, A.in1, X.stack, lo, a, g, J⟩ n (i + 1) H' ob' og' gs') ∨
      (r = none ∧ ∃ H', J.fin i H H' ∧ Inv X [] σ H' s1)) E s := by
  have hgen := h.isgen
  obtain ⟨m, ⟨oC, es, ep, hoC, dC, _⟩, _⟩ := id I.loc
  have hcell : ∀ v, oC.data ≠ .cell v := fun v z => by rw [dC] at z; cases z
  refine next_g (Φ := Out ⟨X.prog, X.w, X.base, A.in1, X.stack, lo, a, g, J⟩ n i ⟨H, s.setGen g .running, PN ++ [(X.env.locals, oC)], og.map (·.1)⟩) (by rw [hA]; exact I.ok.hd hc) I.nolimit hd hgen h.gen (asl_succ.mp hS H _ _ (h.wkd L I hoC hcell) hp) (fun v gd l k c p fs s1 z hb => ?_) (fun r s1 z => ?_)
  · obtain ⟨x, H', ob', og', y, rv, kp, ow, nw, nq, ng, sl⟩ := z
    have kp' : Kpt X.prog X.w lo (frs X.stack) (PN ++ [(X.env.locals, oC)]) H H' s (s1.setGen g (End.susp v gd l k c p fs).genState) := ⟨kp.os, allBare_setGen kp.bare hb, kp.un, kp.hok, kp.pins, by
      have q := kp.gsz
      have q' : s.gens.size ≤ s1.gens.size := by rw [show (Wk.s ⟨H, s.setGen g .running, PN ++ [(X.env.locals, oC)], og.map (·.1)⟩).gens.size = s.gens.size from setGen_size s g .running] at q; exact q
      rw [setGen_size]; exact q'⟩
    have J1 := inv_kptB I L hoC hD (hy x H' y) kp'
    have gl : g < s1.gens.size := by
      have q := kp.gsz
      rw [show (Wk.s ⟨H, s.setGen g .running, PN ++ [(X.env.locals, oC)], og.map (·.1)⟩).gens.size = s.gens.size from setGen_size s g .running] at q
      exact Nat.lt_of_lt_of_le (gsz_of h.gen) q
    refine .inl ⟨v, x, H', ob', og', _, rfl, rv, y, J1, ⟨⟨ow.isgen, ow.obs, fun q hq => ?_⟩, fun p hp => ⟨fun z => ?_, fun q hq => nw q (List.mem_append_left _ hq) p hp⟩, setGen_at gl, ng⟩, rfl, sl⟩
    · obtain ⟨a1, a2, a3, a4⟩ := ow.ogs q hq
      have a3' : g < q.1 := a3
      exact ⟨by rw [setGen_get _ _ (Nat.ne_of_gt a3')]; exact a1, a2, a3, a4⟩
    · exact nw _ (List.mem_append_right _ (List.mem_singleton.mpr rfl)) p hp z.symm
  · obtain ⟨hr, H', hfi, kp⟩ := z
    refine ⟨hr, fun h' hk => .inr ⟨rfl, H', hfi, ?_⟩⟩
    have kp' : Kpt X.prog X.w lo (frs X.stack) (PN ++ [(X.env.locals, oC)]) H H' s (s1.setGen g .finished) := ⟨kp.os, allBare_setGen kp.bare rfl, kp.un, kp.hok, kp.pins, by
      have q := kp.gsz
      rw [show (Wk.s ⟨H, s.setGen g .running, PN ++ [(X.env.locals, oC)], og.map (·.1)⟩).gens.size = s.gens.size from setGen_size s g .running] at q
      rw [setGen_size]; exact q⟩
    exact (inv_kptB I L hoC hD (hf H' hfi) kp').kept (t' := s1.toks) hk
theorem stepB {α : Type} {t : Sem α} {A : Around} {Q : α → L2.St → Hp → Prop} {M : Model} {E : Value → Shared → Prop} (L : LowB X lo PN D) (I : Inv X [] σ H s) (h : AtB X PN lo a g ob og gs H s) (sl : slp gs = true)
    (ht : ∀ s0, Inv X ob σ H s0 → wpAny M A t (fun v s' => ∃ σ' H', Inv X ob σ' H' s' ∧ Q v σ' H') (fun _ _ => False) s0) : wpAny M A t (fun v s' => ∃ σ' H', Inv X [] σ' H' s' ∧ AtB X PN lo a g ob og gs H' s' ∧ Q v σ' H') E s := by
  have I5 := h.pin L I
  refine beside (ht _ (inv_gens I5 (dulls_bare I5.bare))) (fun v s6 G6 ⟨σ6, H6, I6, q6⟩ hs6 hb6 _ _ => ?_) fun e s' G q _ _ _ _ => q.elim
  exact ⟨σ6, H6, (inv_gens I6 (hb6 I6.bare)).unpinned, h.on sl I6 hs6, q6⟩
end
def turnG (g : TG) (tt : TT) (te : TE) (vs : List Nat) (D : Addr) (σw : L2.St) (Vn : Hp → Prop) (x : V) (H : Hp) : Prop :=
  g x σw H fun σ2 H2 => wipe σ2 vs = σw ∧ tt σ2 H2 fun b H3 => if b = true then te σ2 H3 fun y H4 => ∃ acc, H4 D = some (.lst acc) ∧ acc.length < sizeLine ∧ Vn (upd H4 D (.lst (acc ++ [y]))) else Vn H3
def tLcG (wg : TIG) (g : TG) (tt : TT) (te : TE) (vs : List Nat) : TE := fun σ H Q => wg σ H fun J H1 => ∀ D, H1 D = none → ∃ (N : Nat) (V : Nat → Hp → Hp → Prop), V 0 H1 (upd H1 D (.lst [])) ∧
  ∀ j Hs H, V j Hs H → j < N ∧ (∃ xs, H D = some (.lst xs)) ∧ J.pre j Hs H ∧ (∀ H', J.fin j H H' → (∃ xs, H' D = some (.lst xs)) ∧ Q (.ref D) H') ∧
    ∀ x H', J.yld j H x H' → (∃ xs, H' D = some (.lst xs)) ∧ turnG g tt te vs D (wipe σ vs) (V (j + 1) H') x H'
structure Parts (X : Cx) (scope : Scope) (tg : Expr) (ifs : List Expr) (elt : Expr) (g : TG) (tt : TT) (te : TE) : Prop where
  tgt : ∀ s H C cl fp, PG (X.blk s H scope (compEnvC scope cl C X.env) fp) tg g
  tst : ∀ s H C cl fp, PTs (X.blk s H scope (compEnvC scope cl C X.env) fp) ifs tt
  val : ∀ s H C cl fp, PE (X.blk s H scope (compEnvC scope cl C X.env) fp) elt te
section
variable {B : Cx} {lo a D : Addr} {gi : Nat} {PN : List (Addr × Obj)} {ob : List (Addr × Obj)} {og : List (Nat × GenState)} {gs : GenState} {σw : L2.St} {H : Hp} {s : Shared}
theorem turn_runs {tg elt : Expr} {ifs : List Expr} {g : TG} {tt : TT} {te : TE} {vs : List Nat} {Vn : Hp → Prop} {x : V} {u : Value} {R : Shared → Prop} {E E2 E3 E4 : Value → Shared → Prop} (L : LowB B lo PN D) (I : Inv B [] σw H s) (h : AtB B PN lo a gi ob og gs H s) (sl : slp gs = true) (noE : ∀ e s, ¬ B.xe e s)
    (pg : PG B tg g) (pt : PTs B ifs tt) (pe : PE B elt te) (rv : RelV x u) (t : turnG g tt te vs D σw Vn x H)
    (done : ∀ s' H', Inv B [] σw H' s' → AtB B PN lo a gi ob og gs H' s' → Vn H' → R s') :
    wpAny (model B.prog B.w) B.A (assign tg B.env u) (fun _ s2 => wpAny (model B.prog B.w) B.A (forIn ifs true fun c r => if r = true then do let ok ← isTrue c B.env (eval c B.env); pure (ForInStep.yield ok) else pure (ForInStep.yield r)) (fun ok s3 =>
      if ok = true then wpAny (model B.prog B.w) B.A (eval elt B.env) (fun x s4 => wpAny (model B.prog B.w) B.A (call (.builtin "list.append") [.ref D, x]) (fun _ s5 => R s5) E4 s4) E3 s3 else R s3) E2 s2) E s := by
  have none : ∀ {P : Prop} {e : Value} {s1 : Shared}, B.xe e s1 → P := fun {P e s1} z => (noE e s1 z).elim
  -- a turn ends in the state in which it began, but for the block's own names
  have back : ∀ {σ2 : L2.St} {H' : Hp} {s' : Shared}, wipe σ2 vs = σw → Inv B [] σ2 H' s' → AtB B PN lo a gi ob og gs H' s' → Vn H' → R s' := fun {σ2 H' s'} hw J A v =>
    done s' H' (J.weak (by rw [← hw, wipe_length]) fun j v e => by rw [← hw] at e; exact (wipe_some e).1) A v
  refine thn (stepB L I h sl fun s0 I0 => wpAny_mono (pg.run ob s0 _ H x u _ I0 rv t) (fun _ _ z => z) fun _ _ z => none z) fun _ s1 z1 => ?_
  obtain ⟨σ1, H1, I1, A1, hw, t1⟩ := z1
  refine thn (stepB L I1 A1 sl (Q := fun b σ' H' => σ1 = σ' ∧ if b = true then te σ1 H' fun y H4 => ∃ acc, H4 D = some (.lst acc) ∧ acc.length < sizeLine ∧ Vn (upd H4 D (.lst (acc ++ [y]))) else Vn H') fun s0 I0 => wpAny_mono (pt.run ob s0 σ1 H1 _ I0 t1) (fun b s' ⟨H2, I2, q2⟩ => ⟨σ1, H2, I2, rfl, q2⟩) fun _ _ z => none z) fun b s2 z2 => ?_
  obtain ⟨_, H2, I2, A2, rfl, t2⟩ := z2
  by_cases hb : b = true
  · rw [if_pos hb]
    rw [if_pos hb] at t2
    refine thn (stepB L I2 A2 sl (Q := fun v σ' H' => σ1 = σ' ∧ ∃ y, RelV y v ∧ ∃ acc, H' D = some (.lst acc) ∧ acc.length < sizeLine ∧ Vn (upd H' D (.lst (acc ++ [y])))) fun s0 I0 => wpAny_mono (pe.run ob s0 σ1 H2 _ I0 t2) (fun v s' ⟨y, H3, I3, r3, q3⟩ => ⟨σ1, H3, I3, rfl, y, r3, q3⟩) fun _ _ z => none z) fun v s3 z3 => ?_
    obtain ⟨_, H3, I3, A3, rfl, y, r3, acc, hD, hz, v3⟩ := z3
    refine thn (stepB L I3 A3 sl (Q := fun _ σ' H' => σ1 = σ' ∧ H' = upd H3 D (.lst (acc ++ [y]))) fun s0 I0 => app_ok (X := B) I0 hD hz r3 fun s' J => ⟨σ1, _, J, rfl, rfl⟩) fun _ s4 z4 => ?_
    obtain ⟨_, _, I4, A4, rfl, rfl⟩ := z4
    exact back hw I4 A4 v3
  · rw [if_neg hb]
    rw [if_neg hb] at t2
    exact back hw I2 A2 t2
end
section
variable {X : Cx} {pins : List (Addr × Obj)} {σ : L2.St} {H : Hp} {s : Shared} {lo a : Addr} {gi : Nat} {ob : List (Addr × Obj)} {c : Code}
def betw (lo D : Addr) (PN : List (Addr × Obj)) (n : Nat) : List Addr := (List.range n).filter fun b => decide (lo ≤ b ∧ b ≠ D ∧ ∀ p ∈ PN, p.1 ≠ b)
theorem mem_betw {lo D : Addr} {PN : List (Addr × Obj)} {n : Nat} {b : Addr} : b ∈ betw lo D PN n ↔ b < n ∧ lo ≤ b ∧ b ≠ D ∧ ∀ p ∈ PN, p.1 ≠ b := by
  unfold betw
  rw [List.mem_filter, List.mem_range, decide_eq_true_iff]
theorem fs_low (I : Inv X pins σ H s) (L : Low X lo) {b : Addr} (hb : b ∈ X.fs) : b < lo :=
  let ⟨_, _, ho, _⟩ := I.ok.funs.mem hb
  Nat.lt_of_lt_of_le (Heap.lt_size ho) L.sz
theorem betw_ok (I : Inv X pins σ H s) (L : Low X lo) {D : Addr} {n : Nat} (hn : ∀ b, lo ≤ b → b ≠ D → H b = none) : ∀ b ∈ betw lo D (X.pn ++ pins) n, FpOk X pins H b ∧ b < n := fun b hb => by
  obtain ⟨b1, b2, b3, b4⟩ := mem_betw.mp hb
  have no : ∀ {y}, y < lo → y ≠ b := fun {y} z e => Nat.not_lt.mpr b2 (e ▸ z)
  exact ⟨⟨hn b b2 b3, (no L.loc).symm, fun z => no (fs_low I L z) rfl, .inr (Nat.le_trans L.sz b2), fun x c e => no (L.cel x c e), b4⟩, b1⟩
theorem cells_low (L : Low X lo) {scope : Scope} (hf : ∀ y ∈ scope.names, y.2 = .free → ∃ c, X.env.cells.lookup y.1 = some c) (hnc : ∀ y ∈ scope.names, y.2 ≠ .cell) {h : Heap} {x : Str} {c : Addr} (e : (cellsFrom h.objs.size scope.names (cloFrom X.env.cells scope.names [])).lookup x = some c) : c < lo := by
  rcases cells_mem (PySem.mem_of_lookup e) with m | ⟨m, _, _⟩
  · rcases cloFrom_mem m with z | ⟨z, rfl⟩
    · exact absurd z List.not_mem_nil
    · obtain ⟨d, hd⟩ := hf (x, .free) z rfl
      simp only [hd]
      exact L.cel _ _ hd
  · exact (hnc _ m rfl).elim
theorem low_block {ce : Env} {scope : Scope} {D : Addr} (I : Inv X pins σ H s) (L : Low X lo) (hlo : lo ≤ D) (hs : s.heap.objs.size = D + 1) (hce : ce.locals = D + 1) (hcel : ∀ x c, ce.cells.lookup x = some c → c < lo) :
    LowB (X.blk s H scope ce (betw lo D (X.pn ++ pins) s.heap.objs.size)) lo (X.pn ++ pins) D where
  cel := hcel
  ex := fun b h1 h2 h3 h4 => mem_betw.mpr ⟨h2, h1, h3, h4⟩
  pn0 := rfl
  fs := fun b hb => (List.mem_cons.mp (I.stkSub b hb)).elim (fun z => z ▸ L.loc) (fs_low I L)
  st := rfl
  loc := by show lo ≤ ce.locals; rw [hce]; exact Nat.le_succ_of_le hlo
  dl := by show D ≠ ce.locals; rw [hce]; exact Nat.ne_of_lt (Nat.lt_succ_self D)
  sz := by show lo ≤ s.heap.objs.size; rw [hs]; exact Nat.le_succ_of_le hlo
  pin := fun p hp => by
    obtain ⟨z1, z2, z3, z4, z5⟩ := I.pin p hp
    refine ⟨fun y => (List.mem_cons.mp (I.stkSub p.1 y)).elim z3 z4, z5, ?_, z1, z2, fun y => (mem_betw.mp y).2.2.2 p hp rfl⟩
    show p.1 ≠ ce.locals
    rw [hce, ← hs]
    exact Nat.ne_of_lt (Heap.lt_size z1)
theorem At.block {B : Cx} {s4 : Shared} {H4 : Hp} (h : At X pins lo a gi ob [] (.fresh c) H s) (hl : s.heap.objs.size ≤ B.env.locals) (hg : s4.gens = s.gens) (hk : ∀ b o, s.heap.get? b = some o → s4.heap.get? b = some o) (hH : ∀ b, b < s.heap.objs.size → H4 b = H b) :
    AtB B (X.pn ++ pins) lo a gi ob [] (.fresh c) H4 s4 := by
  have at_ : ∀ p ∈ ob, p.1 < s.heap.objs.size := fun p hp => Heap.lt_size (h.own.obs p hp).1
  refine ⟨⟨h.own.isgen, fun p hp => ?_, fun q hq => absurd hq List.not_mem_nil⟩, fun p hp => ⟨Nat.ne_of_lt (Nat.lt_of_lt_of_le (at_ p hp) hl), fun q hq => (h.fp p hp).2.2.2.2.2 q hq⟩, by rw [hg]; exact h.gen, rfl⟩
  obtain ⟨z1, z2, z3, z4⟩ := h.own.obs p hp
  exact ⟨hk _ _ z1, by rw [hH _ (at_ p hp)]; exact z2, z3, z4⟩
theorem lcG_core {k : Nat} {Q : VK} {elt tg iter : Expr} {ifs : List Expr} {scope : Scope} {own : List (Str × Nat)} {pos pos' : Pos} {wg : TIG} {g : TG} {tt : TT} {te : TE} {use : Option (Value → Sem Unit)} {Qf : Value → Shared → Prop}
    (hc : X.calm = true) (hr : Room k X.A) (nd : X.N.Nodup) (I : Inv X pins σ H s) (hi : PIG X iter wg) (ok : BlkOk X.N X.env.scope scope own) (hnc : ∀ y ∈ scope.names, y.2 ≠ .cell) (pr : Parts X scope tg ifs elt g tt te)
    (hfs : ∀ x, foldedSetIterable iter X.env x = pure x) (h : tLcG wg g tt te (own.map (·.2)) σ H Q)
    (fin : ∀ D C s' m H', Inv X pins σ H' s' → Q (.ref D) H' → s'.heap.Ns C m → FpOk X pins H' C → compPost (model X.prog X.w) X.A X.xe use Qf (.ref D) C (.ok .next) s') :
    wpAny (model X.prog X.w) X.A (comprehension (.ListComp elt [⟨tg, iter, ifs, 0⟩] scope pos) scope X.env pos' (newList []) false (eval iter X.env) use) Qf X.xe s := by
  have hf : ∀ y ∈ scope.names, y.2 = .free → ∃ c, X.env.cells.lookup y.1 = some c := fun y hy e => (ok.free y hy e).elim (fun z => I.ok.has _ (.inl z)) fun z => I.ok.has _ (.inr z)
  refine wpAny_comprehension_free rfl hfs (closure_ok hf) ok.kind (fun y hy e => (ok.uniq y hy).trans (congrArg some e)) (thn (hi.run pins s σ H _ I h) fun v s2 made => ?_)
  obtain ⟨J, H2, lo, a, gi, ob, c, rfl, I2, L, At2, _, hlo, As2, q⟩ := made
  refine wpAny_pyIter_gen At2.isgen (wpAny_newObj_type (newEnv_comp ?_) (Nat.zero_le _))
  obtain ⟨D, eD⟩ : ∃ D, D = s2.heap.objs.size := ⟨_, rfl⟩
  rw [← eD]
  obtain ⟨N, V, v0, turn⟩ := q D (I2.hok.fresh (Nat.le_of_eq eD.symm))
  -- the new list is laid
  let s3 : Shared := { s2 with heap := s2.heap.push { cls := .type "list", data := .seq ([] : List Value).toArray } }
  have old3 : ∀ b o, s2.heap.get? b = some o → s3.heap.get? b = some o := fun b o => Heap.get?_push_of_some _
  have sz3 : s3.heap.objs.size = D + 1 := (Heap.size_push _ _).trans (by rw [eD])
  have I3 : Inv X pins σ (upd H2 D (.lst [])) s3 := I2.laid (t' := s2.toks) old3 (Nat.le_of_eq eD.symm) ⟨Nat.zero_le _, [], 0, .nil, by rw [eD]; exact Heap.get?_push_size _ rfl⟩
  have hloD : lo ≤ D := by
    obtain ⟨o, nm, qn, hm, _⟩ := At2.own.isgen
    have z := At2.own.obs _ hm
    exact Nat.le_trans z.2.2.1 (Nat.le_of_lt (eD ▸ Heap.lt_size z.1))
  have blo := betw_ok (n := s3.heap.objs.size) (D := D) I3 L fun b h1 h2 => (upd_ne h2).trans (hlo b h1)
  -- the block is entered
  have I4 := block_start I3 ok nd blo
  let cl := cellsFrom (s3.heap.objs.size + 1) scope.names (cloFrom X.env.cells scope.names [])
  have low : ∀ x c, cl.lookup x = some c → c < lo := fun x c e => cells_low (h := s3.heap.push { cls := .type "dict", data := .dict #[] }) L hf hnc (by rw [Heap.size_push]; exact e)
  have LB := low_block (ce := compEnvC scope cl s3.heap.objs.size X.env) (scope := scope) I3 L hloD sz3 sz3 low
  let B := X.blk s3 (upd H2 D (.lst [])) scope (compEnvC scope cl s3.heap.objs.size X.env) (betw lo D (X.pn ++ pins) s3.heap.objs.size)
  let s4 : Shared := { s3 with heap := pushCells (s3.heap.push { cls := .type "dict", data := .dict #[] }) scope.names }
  have A4 : AtB B (X.pn ++ pins) lo a gi ob [] (.fresh c) (upd H2 D (.lst [])) s4 :=
    At2.block (s4 := s4) (by show s2.heap.objs.size ≤ s3.heap.objs.size; rw [sz3, ← eD]; exact Nat.le_succ D) rfl (fun b o e => pushCells_keeps _ _ _ _ (Heap.get?_push_of_some _ (old3 b o e))) fun b hb => upd_ne (Nat.ne_of_lt (eD ▸ hb))
  have loop : codeAny (model X.prog X.w) X.A (.compLoop (.ListComp elt [⟨tg, iter, ifs, 0⟩] scope pos) 0 (.ref a) (.ref D) B.env) (compPost (model X.prog X.w) X.A X.xe use Qf (.ref D) s3.heap.objs.size) s4 := by
    refine compLoop_any (fun n s' => ∃ j Hs H' ob og gs, n = N - j ∧ Inv B [] (wipe σ (own.map (·.2))) H' s' ∧ AtB B (X.pn ++ pins) lo a gi ob og gs H' s' ∧ (slp gs = true ∨ ∃ c, gs = .fresh c) ∧
      Asl ⟨X.prog, X.w, X.base, X.A.in1, X.stack, lo, a, gi, J⟩ (N - j) j Hs ob og gs ∧ V j Hs H') ?_ N ⟨0, H2, _, ob, [], _, rfl, I4, A4, .inr ⟨c, rfl⟩, As2 _, v0⟩
    rintro n s5 ⟨j, Hs5, H5, ob5, og5, gs5, rfl, I5, A5, sl5, As5, v5⟩
    obtain ⟨hj, hD5, hpre, hfin, step⟩ := turn j Hs5 H5 v5
    obtain ⟨m, em⟩ : ∃ m, N - j = m + 1 := ⟨N - j - 1, by omega⟩
    rw [em] at As5
    refine thn (next_zB (X := B) I5 rfl hc hr.depth LB A5 As5 sl5 hpre hD5 (fun x H' y => (step x H' y).1) fun H' f => (hfin H' f).1) fun r s6 out => ?_
    rcases out with ⟨u, x, H6, ob6, og6, gs6, rfl, rv, y, I6, A6, sl6, As6⟩ | ⟨rfl, H6, f6, I6⟩
    · refine go_gB A6 (turn_runs LB I6 A6 sl6 (fun _ _ z => z) (pr.tgt ..) (pr.tst ..) (pr.val ..) rv (step x H6 y).2 fun s' H' I' A' v' => ⟨N - (j + 1), by omega, j + 1, H6, H', ob6, og6, gs6, rfl, I', A', .inl sl6, ?_, v'⟩)
      rw [show N - (j + 1) = m by omega]
      exact As6
    · obtain ⟨_, q6⟩ := hfin H6 f6
      obtain ⟨m6, n6, _⟩ := I6.loc
      exact fin D _ s6 m6 H6 (I3.call' (ch := betw lo D (X.pn ++ pins) s3.heap.objs.size) I6.os I6.base I6.hok I6.bare fun b hb => let ⟨z, _⟩ := blo b hb; ⟨z.2.2.2.1, z.2.1, z.2.2.2.2.1, z.2.2.2.2.2⟩) q6 n6 (I3.fpOk (Nat.le_refl _) I6.free)
  exact codeAny_compStart_list loop (wpAny_pyIter_gen A4.isgen loop)
theorem pe_lcG {k : Nat} {elt tg iter : Expr} {ifs : List Expr} {scope : Scope} {own : List (Str × Nat)} {pos : Pos} {wg : TIG} {g : TG} {tt : TT} {te : TE} (hc : X.calm = true) (hr : Room k X.A) (nd : X.N.Nodup) (hi : PIG X iter wg) (ok : BlkOk X.N X.env.scope scope own) (pr : Parts X scope tg ifs elt g tt te)
    (hnc : ∀ y ∈ scope.names, y.2 ≠ .cell := by decide +kernel) (hfs : ∀ x, foldedSetIterable iter X.env x = pure x := by intro _; rfl) : PE X (.ListComp elt [⟨tg, iter, ifs, 0⟩] scope pos) (tLcG wg g tt te (own.map (·.2))) where
  run := fun pins s σ H Q I h => by
    rw [eval_ListComp]
    exact lcG_core hc hr nd I hi ok hnc pr hfs h fun D C s' m H' I' q hn f => ⟨m, hn, fun h' sb => ⟨.ref D, H', I'.turned (t' := s'.toks) (fun b o hb e => (sb.2 b hb).trans e) f.1 f.2.1 f.2.2.2.1 f.2.2.2.2.1 f.2.2.2.2.2, rfl, q⟩⟩
theorem ps_setLcG {k : Nat} {i : Nat} {y : Str} {py : Pos} {elt tg iter : Expr} {ifs : List Expr} {scope : Scope} {own : List (Str × Nat)} {pos spos : Pos} {wg : TIG} {g : TG} {tt : TT} {te : TE} (hc : X.calm = true) (hr : Room k X.A) (nd : X.N.Nodup) (hy : X.N[i]? = some y) (hyl : X.env.scope.names.lookup y = some .local)
    (hsw : swapsWith (.ListComp elt [⟨tg, iter, ifs, 0⟩] scope pos) (some (.Name y py)) spos.line X.env = pure true) (hi : PIG X iter wg) (ok : BlkOk X.N X.env.scope scope own) (pr : Parts X scope tg ifs elt g tt te)
    (hnc : ∀ y ∈ scope.names, y.2 ≠ .cell := by decide +kernel) (hfs : ∀ x, foldedSetIterable iter X.env x = pure x := by intro _; rfl) : PS X (.Assign [.Name y py] (.ListComp elt [⟨tg, iter, ifs, 0⟩] scope pos) spos) (tAsg (tLcG wg g tt te (own.map (·.2))) (gName i)) where
  run := fun pins s σ H D I h => by
    have stored : ∀ L C s' m H', Inv X pins σ H' s' → gName i (.ref L) σ H' D.nx → s'.heap.Ns C m → FpOk X pins H' C → compPost (model X.prog X.w) X.A X.xe (some (assign (.Name y py) X.env)) (fun _ s' => SP X pins D .next s') (.ref L) C (.ok .next) s' := fun L C s' m H' J q hn f => by
      refine wpAny_assign_Name (store_ok2 (v := V.ref L) J nd hy (.inl hyl) rfl (fun s2 I2 wr => ?_) (.inr hyl))
      obtain ⟨a, sb, ha⟩ := wr
      have ne : C ≠ a := ha.elim (fun z => by rw [z]; exact f.2.1) fun z e => f.2.2.2.2.1 y a z e.symm
      exact ⟨m, hn.sameBut sb ne, fun h3 sb3 => ⟨_, H', I2.turned (t' := s2.toks) (fun b o hb e => (sb3.2 b hb).trans e) f.1 f.2.1 f.2.2.2.1 f.2.2.2.2.1 f.2.2.2.2.2, q⟩⟩
    have all := lcG_core (pos := pos) (pos' := firstIterPos [⟨tg, iter, ifs, 0⟩] pos) hc hr nd I hi ok hnc pr hfs (show tLcG wg g tt te (own.map (·.2)) σ H (fun x H1 => gName i x σ H1 D.nx) from h) stored
    rw [exec_Assign_Name_used _ _ _ _ hsw]
    exact wpAny_bind (wpAny_standAt (wpAny_bind (wpAny_bind (thn all fun _ _ z => wpAny_pure (wpAny_pure z)))))
end
end TwZ
/-! list(g(..)): the list of all that a generator hands out -/
namespace TwZ
open PySem L2 PySem.Spec PyProof.Rows GenW
def PGEw (X : Cx) (Aw : Around) (pins : List (Addr × Obj)) (σ : L2.St) (R : Gt → Hp → Prop) (u : Value) (s1 : Shared) : Prop :=
  ∃ (J : Gt) (H1 : Hp) (lo a : Addr) (g : Nat) (ob : List (Addr × Obj)) (c : Code), u = .ref a ∧ Inv X pins σ H1 s1 ∧ Low X lo ∧ At X pins lo a g ob [] (.fresh c) H1 s1 ∧
    (∀ n, Asl ⟨X.prog, X.w, X.base, Aw, X.stack, lo, a, g, J⟩ n 0 H1 ob [] (.fresh c)) ∧ R J H1
abbrev deepA (A : Around) : Around := A.in1.in1.in1
section
variable {X : Cx} {pins : List (Addr × Obj)} {σ : L2.St} {H : Hp} {s s' : Shared} {lo a D : Addr} {g k : Nat} {ob : List (Addr × Obj)} {og : List (Nat × GenState)} {gs : GenState}
theorem At.beyond {c : Code} {o : HO} {h' : Heap} {t' : Nat} (h : At X pins lo a g ob [] (.fresh c) H s) (hD : s.heap.objs.size ≤ D) (kp : ∀ b u, s.heap.get? b = some u → h'.get? b = some u) : At X pins lo a g ob [] (.fresh c) (upd H D o) { s with heap := h', toks := t' } := by
  have no : ∀ p ∈ ob, upd H D o p.1 = none := fun p hp => by
    obtain ⟨z1, z2, _⟩ := h.own.obs p hp
    rw [upd_ne (Nat.ne_of_lt (Nat.lt_of_lt_of_le (Heap.lt_size z1) hD))]
    exact z2
  refine ⟨⟨h.own.isgen, fun p hp => ?_, fun q hq => nomatch hq⟩, fun p hp => ⟨no p hp, (h.fp p hp).2⟩, h.gen, h.nog⟩
  obtain ⟨z1, _, z3, z4⟩ := h.own.obs p hp
  exact ⟨kp _ _ z1, no p hp, z3, z4⟩
end
def tLstG (wg : TIG) : TE := fun σ H Q => wg σ H fun J H1 => ∀ D, H1 D = none → ∃ (N : Nat) (V : Nat → Hp → Hp → Prop), V 0 H1 (upd H1 D (.lst [])) ∧
  ∀ j Hs H, V j Hs H → j < N ∧ J.pre j Hs H ∧ (∀ H', J.fin j H H' → Q (.ref D) H') ∧
    ∀ x H', J.yld j H x H' → ∃ xs, H' D = some (.lst xs) ∧ xs.length < sizeLine ∧ V (j + 1) H' (upd H' D (.lst (xs ++ [x])))
section
variable {X : Cx} {pins : List (Addr × Obj)} {σ : L2.St} {lo a D : Addr} {g k N : Nat} {J : Gt} {V : Nat → Hp → Hp → Prop} {Q : VK} {R : Result → Shared → Prop}
end
section
variable {X : Cx} {e : Expr} {wg : TIG} {k : Nat} {p pos : Pos}
end
end TwZ
/-! Tw: set(xs) of a list of ints -/
namespace Tw
open PySem PySem.Spec PyProof PyProof.Rows L2
section
variable {P : Program} {w : World} {A : Around} {E : Value → Shared → Prop} {s : Shared}
theorem set_of_list {l : Addr} {items : Array Value} (ns : List Int) {Q : Value → Shared → Prop} (hh : A.handled = none) (hl : s.heap.IsList l items) (hit : IntsAre items.toList ns) (hb : ns.length + 1 < scanBound)
    (h : ∀ (h' : Heap) (tk c : Nat), SetR w h' s.heap.objs.size (fun j => decide (j ∈ ns)) c → c ≤ ns.length → (∀ b o, s.heap.get? b = some o → h'.get? b = some o) → Q (.ref s.heap.objs.size) { s with heap := h', toks := tk }) :
    wpAny (model P w) A (call (.type "set") [.ref l]) Q E s := by
  have hisz : items.size = ns.length := by
    have q := IntsAre.length hit
    rwa [Array.length_toList] at q
  obtain ⟨c, tl, hmro⟩ := F.called_set.mro
  have hmade := F.called_set.made
  have hsub := F.called_set.sub
  have g1 := F.called_set.notType
  have g2 := F.called_set.canCreate
  have g3 := F.typeCall_set_1 (.ref l)
  refine wpAny_call (codeAny_of_tree ?_)
  show wpAny _ _ (callAny (.type "set") _) _ _ _
  refine wpAny_pure ⟨Code.quiet_builtin _ (by decide +kernel), codeAny_builtin F.entry_type_call ?_⟩
  rw [Around.under_plain (weight_type_call_type "set" [.ref l] []) rfl]
  repeat (any_goals (first | assumption | wp_step))
  refine codeAny_mono (code_set_led1 (.ref l) (E := E) (Q₁ := fun obj s₁ => obj = .ref s.heap.objs.size ∧ s₁ = { s with heap := (Heap.push s.heap ({ cls := .type "set", dict := none, data := .set #[] 0 (.fresh 0 0 (!w.params.followText "set-order")) } : Obj)) }) ⟨rfl, rfl⟩) fun r s₁ hr => ?_
  rcases r with e | fl
  · exact hr
  cases fl
  case ret obj =>
    obtain ⟨rfl, rfl⟩ := hr
    have new : ((Heap.push s.heap ({ cls := .type "set", dict := none, data := .set #[] 0 (.fresh 0 0 (!w.params.followText "set-order")) } : Obj))).get? s.heap.objs.size = some ({ cls := .type "set", dict := none, data := .set #[] 0 (.fresh 0 0 (!w.params.followText "set-order")) } : Obj) := Heap.get?_push_size _ rfl
    have hT : Shared.TypeIs { s with heap := (Heap.push s.heap ({ cls := .type "set", dict := none, data := .set #[] 0 (.fresh 0 0 (!w.params.followText "set-order")) } : Obj)) } (.ref s.heap.objs.size) "set" := ⟨_, new, rfl⟩
    have hli := F.called_set.init.lookup
    have hbi := F.called_set.init.bind (.ref s.heap.objs.size)
    repeat (any_goals (first | assumption | wp_step))
    refine codeAny_mono (codeAny_call_builtin (R := wants (fun r s₂ => r = .none ∧ ∃ h' tk c, s₂ = { s with heap := h', toks := tk } ∧ SetR w h' s.heap.objs.size (fun j => decide (j ∈ ns)) c ∧ c ≤ ns.length ∧
        (∀ b o, s.heap.get? b = some o → h'.get? b = some o)) E) F.called_set.init.plain F.entry_set_init (check_set_init_1 hT ?_)) fun r₂ s₂ hr₂ => ?_
    · obtain ⟨⟨ocls, odict, odata, oslots⟩, hol, hcl, nl, hdl⟩ := hl
      simp only at hcl hdl
      subst hcl hdl
      have keep : ∀ b o, s.heap.get? b = some o → ((Heap.push s.heap ({ cls := .type "set", dict := none, data := .set #[] 0 (.fresh 0 0 (!w.params.followText "set-order")) } : Obj))).get? b = some o := fun b o e => Heap.get?_push_of_some _ e
      have hol' := keep _ _ hol
      have hl1 : ((Heap.push s.heap ({ cls := .type "set", dict := none, data := .set #[] 0 (.fresh 0 0 (!w.params.followText "set-order")) } : Obj))).IsList l items := ⟨_, hol', rfl, nl, rfl⟩
      have hlS : l < s.heap.objs.size := Heap.lt_size hol
      have i1 := F.sub_list_set
      have i2 := F.sub_list_frozenset
      have i3 : (Value.type "list" == Value.type "dict") = false := by decide
      unfold Builtin.«set.__init__» noKeywords Builtin.Frozenset.updateFrom
      generalize hPI : pyIter = PI
      wp_walk
      subst hPI
      refine wpAny_pyIter_list hl1 (wpAny_bind (wpAny_runValue ?_))
      have hh3 : A.in1.in1.in1.handled = none := by simp [hh]
      have sz : ((Heap.push s.heap ({ cls := .type "set", dict := none, data := .set #[] 0 (.fresh 0 0 (!w.params.followText "set-order")) } : Obj))).objs.size = s.heap.objs.size + 1 := Heap.size_push ..
      have hneI : l ≠ ((Heap.push s.heap ({ cls := .type "set", dict := none, data := .set #[] 0 (.fresh 0 0 (!w.params.followText "set-order")) } : Obj))).objs.size := by rw [sz]; exact Nat.ne_of_lt (Nat.lt_succ_of_lt hlS)
      have hSf : s.heap.objs.size ∉ [((Heap.push s.heap ({ cls := .type "set", dict := none, data := .set #[] 0 (.fresh 0 0 (!w.params.followText "set-order")) } : Obj))).objs.size, l] := by
        rw [sz, List.mem_cons, List.mem_singleton]
        rintro (z | z)
        · exact Nat.ne_of_lt (Nat.lt_succ_self _) z
        · exact Nat.ne_of_gt hlS z
      have hval : ∀ (i : Nat) (v : Value), items[i]? = some v → ∃ k t, ns[i]? = some k ∧ v = .int k t := fun i v hv => by
        have hi : i < ns.length := by rw [← hisz]; exact (Array.getElem?_eq_some_iff.mp hv).1
        obtain ⟨t, e⟩ := PyProof.Rows.IntsAre.int_at hit i v (by rw [Array.getElem?_toList]; exact hv)
        refine ⟨ns[i], t, List.getElem?_eq_getElem hi, ?_⟩
        rw [e, List.getD_eq_getElem?_getD, List.getElem?_eq_getElem hi] <;> rfl
      refine set_update_ints ((Walks.list hh3 _ l hneI items).toS) s.heap.objs.size hSf ns hisz hb hval (items.size - 0) 0 _ (by omega) (Nat.zero_le _) ⟨⟨_, Heap.get?_push_size _ rfl, rfl, rfl⟩, hl1.push _⟩ ⟨0, Nat.le_refl 0, setR_new_at (Heap.get?_push_of_some _ new)⟩ ?_
      rintro ⟨h', g', d', tk', os'⟩ c' hm hc' hS'
      obtain rfl : g' = s.gens := hm.gens
      obtain rfl : d' = s.drawn := hm.drawn
      obtain rfl : os' = s.os := hm.os
      show wpAny _ _ _ _ _ _
      refine wpAny_pure ?_
      show wpAny _ _ (ret Value.none) _ _ _
      refine wpAny_pure ⟨rfl, h', tk', c', rfl, hS', by omega, fun b o e => ?_⟩
      have lt : b < s.heap.objs.size := Heap.lt_size e
      refine hm.heap b o ?_ (Heap.get?_push_of_some _ (keep b o e))
      rw [sz]
      simp only [List.mem_cons, List.mem_singleton, List.not_mem_nil, or_false, not_or]
      exact ⟨Nat.ne_of_lt lt, Nat.ne_of_lt (Nat.lt_succ_of_lt lt)⟩
    · rcases r₂ with e | fl
      · exact hr₂
      cases fl
      case ret r =>
        obtain ⟨rfl, h', tk, c', rfl, hS', hc', hk'⟩ := hr₂
        repeat (any_goals (first | assumption | wp_step))
        exact h _ _ _ hS' hc' hk'
      all_goals exact hr₂.elim
  all_goals exact hr.elim
end
section
variable {X : Cx}
def rSetL (K : PySem.W.Frag) (w : World) : List V → Hp → VK → Prop := fun vs H Q => ∃ (a : Addr) (ns : List Int), vs = [V.ref a] ∧ SqL K H a (ns.map V.int) ∧ ns.length ≤ 4000 ∧
  ∀ (n : Nat) (p : Addr), n ≤ ns.length → H p = none → Q (.ref p) (upd H p (SetO w p (fun j => decide (j ∈ ns)) n))
def rTupIx (K : PySem.W.Frag) : V → List V → Hp → VK → Prop := fun x xs H Q => ∃ p, ∃ ys : List Str, ∃ z j, x = .ref p ∧ xs = [.str z] ∧ SqT K H p (ys.map V.str) ∧ ys[j]? = some z ∧ (∀ m, m < j → ys[m]? ≠ some z) ∧ Q (.int (j : Nat)) H
theorem mt_tupIx : MtR X "tuple.index" (rTupIx X.K) := mt_tup_index
end
end Tw
/-! Tw: a book with another value -/
namespace Tw
open PySem PySem.Spec PyProof.Rows L2 He TwM
open PySem.W (Frag)
local macro_rules | `(tactic| walk_at "rsc") => `(tactic| simp only [*, at3_0, at3_1, at3_2, at2_0, at2_1, tPar, and_assoc, not_true_eq_false, not_false_eq_true, tNever, List.length_map, tFld, rIxTH, rIxLH, rLenTH, rLenLH, lk1, lfs_g, lfs_s, lfs_p, HO.ins.injEq, HO.tup.injEq, HO.lst.injEq, sp_Book_rounding, sp_Book_action, sp_Book_order, sp_Book_due, sp_Book_zero, sp_Book_beyond, Int.toNat_natCast, sp_visit_after, sp_is_visited, sp_Level_grain, sp_Level_slots, sp_Level_span, sp_Wheel_reach, sp_Wheel___len__, sp_is_integer, sp_is_count, sp_is_within, sp_rounded, tSeq, tAsg, gName, tVar, tC, tOp, rI, rI0, rU, tUn, oAdd, oSub, oMul, oDiv, oMod, oNeg, oLt, oLe, oGt, oGe, oIsN, oNotN, tFn, tCons, tNil, tIfS, tIf, tTest, tB, tNot, tAnd, tOr, tAndV, tOrV, tNotV,
    tRet, tRetN, tNext, tCB, tDrop, tChain, rEq, rNe, oMax2, oMin2, oInt1, rLenF, L2.start, List.map_cons, List.map_nil, List.length_cons, List.length_nil, List.replicate_succ, List.replicate_zero, List.cons_append, List.nil_append, Nat.reduceAdd, Nat.reduceSub, Nat.zero_add,
    List.set_cons_zero, List.set_cons_succ, List.getElem?_cons_zero, List.getElem?_cons_succ, Option.some.injEq, V.int.injEq, V.ref.injEq, V.str.injEq, V.bl.injEq, exists_eq_left', exists_eq_left, exists_and_left, List.cons.injEq, and_true, true_and, decide_eq_true_eq, sc_ii, sc_ss, sc_bb, sc_ni, sc_in, sc_nn, sc_is, reduceCtorEq,
    Bool.not_eq_true', decide_eq_false_iff_not, if_true, if_false, Bool.false_eq_true, exists_eq', exists_const, false_and, and_false, or_false, false_or, exists_false, Bool.not_not, Bool.not_true, Bool.not_false, sUp_up, sFire_fire, sHigh_high, sPut_put, sZone_now, sBey_refuse, sBey_cut, tTup, tLst, sz0, sz1, sz2, sz3, sz4, sz5, sz6])
section
variable {K : Frag} {w : World}
structure Kh (K : Frag) (w : World) : Prop where
  kf : Kfb K w
  nod : ∃ o, K.lookup (ga K "SWITCHES") = some o ∧ o.cls = .type "tuple" ∧ o.dict = none
end
end Tw
/-! Tw: all tuples of values -/
namespace Tw
open PySem PySem.Spec PyProof.Rows L2 He TwM StX
open PySem.W (Frag)
local macro_rules | `(tactic| walk_at "rsl") => `(tactic| simp only [*, at3_0, at3_1, at3_2, at2_0, at2_1, updS, upd_two, gSub, rSetL, updN, tPar, tPar3, gTup, gCons, gNil, and_assoc, not_true_eq_false, not_false_eq_true, tNever, List.length_map, tFld, rIxTH, rIxLH, rLenTH, rLenLH, lk1, lfs_g, lfs_s, lfs_p, HO.ins.injEq, HO.tup.injEq, HO.lst.injEq, sp_Book_rounding, sp_Book_action, sp_Book_order, sp_Book_due, sp_Book_zero, sp_Book_beyond, Int.toNat_natCast, sp_visit_after, sp_is_visited, sp_Level_grain, sp_Level_slots, sp_Level_span, sp_Wheel_reach, sp_Wheel___len__, sp_is_integer, sp_is_count, sp_is_within, sp_rounded, tAsg, gName, tVar, tC, tOp, rI, rI0, rU, tUn, oAdd, oSub, oMul, oDiv, oMod, oNeg, oLt, oLe, oGt, oGe, oIsN, oNotN, tFn, tCons, tNil, tIfS, tIf, tTest, tB, tNot, tAnd, tOr, tAndV, tOrV, tNotV,
    tRet, tRetN, tNext, tCB, tDrop, tChain, rEq, rNe, oMax2, oMin2, oInt1, rLenF, L2.start, List.map_cons, List.map_nil, List.length_cons, List.length_nil, List.replicate_succ, List.replicate_zero, List.cons_append, List.nil_append, Nat.reduceAdd, Nat.reduceSub, Nat.zero_add,
    List.set_cons_zero, List.set_cons_succ, List.getElem?_cons_zero, List.getElem?_cons_succ, Option.some.injEq, V.int.injEq, V.ref.injEq, V.str.injEq, V.bl.injEq, exists_eq_left', exists_eq_left, exists_and_left, List.cons.injEq, and_true, true_and, decide_eq_true_eq, sc_ii, sc_ss, sc_bb, sc_ni, sc_in, sc_nn, sc_is, reduceCtorEq,
    Bool.not_eq_true', decide_eq_false_iff_not, if_true, if_false, Bool.false_eq_true, exists_eq', exists_const, false_and, and_false, or_false, false_or, exists_false, Bool.not_not, Bool.not_true, Bool.not_false, sUp_up, sFire_fire, sHigh_high, sPut_put, sZone_now, sBey_refuse, sBey_cut, tTup, tLst, sz0, sz1, sz2, sz3, sz4, sz5, sz6])
local macro_rules | `(tactic| walk_at "st") => `(tactic| ((try dsimp only); rw [seq1]; walk_at "rsl"))
section
variable {K : Frag} {w : World}
def vws : Nat → List Str
  | 0 => ["down", "up"]
  | 1 => ["fire", "move"]
  | 2 => ["high", "low"]
  | 3 => ["now", "put"]
  | 4 => ["now", "one"]
  | 5 => ["refuse", "last", "cut"]
  | _ => []
def allV : Nat → List (List Str)
  | 0 => [[]]
  | k + 1 => (vws (5 - k)).flatMap fun v => (allV k).map (v :: ·)
def StrTs (H : Hp) (R : Addr) (l : List (List Str)) : Prop := ∃ ts : List Addr, H R = some (.lst (ts.map V.ref)) ∧ ts.length = l.length ∧ ∀ (j : Nat) (t : Addr) (xs : List Str), ts[j]? = some t → l[j]? = some xs → H t = some (.tup (xs.map V.str))
theorem StrTs.same {H H' : Hp} {R : Addr} {l : List (List Str)} (h : StrTs H R l) (s : Same H H') : StrTs H' R l := by
  obtain ⟨ts, a, b, c⟩ := h
  exact ⟨ts, s _ _ a, b, fun j t xs x y => s _ _ (c j t xs x y)⟩
def sp_all_values7 (K : Frag) : Sp := fun _ _ _ _ => False
end
end Tw
/-! Tw: early and late timers, as the program finds them -/
namespace Tw
open PySem PySem.Spec PyProof.Rows L2 He TwM StX
open PySem.W (Frag)
local macro_rules | `(tactic| walk_at "rsl") => `(tactic| simp only [*, at3_0, at3_1, at3_2, at2_0, at2_1, updS, upd_two, gSub, rSetL, updN, tPar, tPar3, gTup, gCons, gNil, and_assoc, not_true_eq_false, not_false_eq_true, tNever, List.length_map, tFld, rIxTH, rIxLH, rLenTH, rLenLH, lk1, lfs_g, lfs_s, lfs_p, HO.ins.injEq, HO.tup.injEq, HO.lst.injEq, sp_Book_rounding, sp_Book_action, sp_Book_order, sp_Book_due, sp_Book_zero, sp_Book_beyond, Int.toNat_natCast, sp_visit_after, sp_is_visited, sp_Level_grain, sp_Level_slots, sp_Level_span, sp_Wheel_reach, sp_Wheel___len__, sp_is_integer, sp_is_count, sp_is_within, sp_rounded, tAsg, gName, tVar, tC, tOp, rI, rI0, rU, tUn, oAdd, oSub, oMul, oDiv, oMod, oNeg, oLt, oLe, oGt, oGe, oIsN, oNotN, tFn, tCons, tNil, tIfS, tIf, tTest, tB, tNot, tAnd, tOr, tAndV, tOrV, tNotV,
    tRet, tRetN, tNext, tCB, tDrop, tChain, rEq, rNe, oMax2, oMin2, oInt1, rLenF, L2.start, List.map_cons, List.map_nil, List.length_cons, List.length_nil, List.replicate_succ, List.replicate_zero, List.cons_append, List.nil_append, Nat.reduceAdd, Nat.reduceSub, Nat.zero_add,
    List.set_cons_zero, List.set_cons_succ, List.getElem?_cons_zero, List.getElem?_cons_succ, Option.some.injEq, V.int.injEq, V.ref.injEq, V.str.injEq, V.bl.injEq, exists_eq_left', exists_eq_left, exists_and_left, List.cons.injEq, and_true, true_and, decide_eq_true_eq, sc_ii, sc_ss, sc_bb, sc_ni, sc_in, sc_nn, sc_is, reduceCtorEq,
    Bool.not_eq_true', decide_eq_false_iff_not, if_true, if_false, Bool.false_eq_true, exists_eq', exists_const, false_and, and_false, or_false, false_or, exists_false, Bool.not_not, Bool.not_true, Bool.not_false, sUp_up, sFire_fire, sHigh_high, sPut_put, sZone_now, sBey_refuse, sBey_cut, tTup, tLst, sz0, sz1, sz2, sz3, sz4, sz5, sz6])
local macro_rules | `(tactic| walk_at "st") => `(tactic| ((try dsimp only); rw [seq1]; walk_at "rsl"))
section
variable {K : Frag} {w : World}
end
section
variable {W : List Lv} {B : Bk} {kind : Nat}
def NoK (W : List Lv) (B : Bk) (kind : Nat) : Prop := ∀ i d s, levelOf W d = some i → 1 ≤ d → 0 ≤ s → ¬ isK kind (lat W B s d) (lv W i).g
theorem KindIs.no {o : Option (Int × Int)} (h : KindIs W B kind o) : o = none ↔ NoK W B kind := by
  cases o with
  | none => exact ⟨fun _ => h, fun _ => rfl⟩
  | some x =>
    obtain ⟨s, d⟩ := x
    obtain ⟨i, h1, h2, h3, _, h5, _⟩ := h
    exact Iff.intro (fun z => (by cases z)) fun (z : NoK W B kind) => (z i d s h1 h2 h3 h5).elim
theorem KindIs.uniq {o o' : Option (Int × Int)} (h : KindIs W B kind o) (h' : KindIs W B kind o') : o = o' := by
  cases o with
  | none => exact (h'.no.mpr h).symm
  | some x =>
    cases o' with
    | none => exact absurd (h.no.mpr h') (by simp)
    | some x' =>
      obtain ⟨s, d⟩ := x
      obtain ⟨s', d'⟩ := x'
      obtain ⟨i, h1, h2, h3, _, h5, h6⟩ := h
      obtain ⟨i', h1', h2', h3', _, h5', h6'⟩ := h'
      have a := h6 i' d' s' h1' h2' h3' h5'
      have b := h6' i d s h1 h2 h3 h5
      have e1 : s = s' := by omega
      have e2 : d = d' := by omega
      rw [e1, e2]
end
section
variable {K : Frag} {w : World}
theorem OPr.non {H : Hp} {v : V} {o : Option (Int × Int)} (h : OPr H v o) : v = .non ↔ o = none := by
  cases o with
  | none => exact ⟨fun _ => rfl, fun _ => h⟩
  | some x =>
    obtain ⟨a, b⟩ := x
    obtain ⟨p, rfl, _⟩ := h
    exact ⟨fun z => (by cases z), fun z => (by cases z)⟩
end
end Tw
/-! Tw: all books, and the least changes -/
namespace Tw
open PySem PySem.Spec PyProof.Rows L2 He TwM StX
open PySem.W (Frag)
local macro_rules | `(tactic| walk_at "rsl") => `(tactic| simp only [*, at3_0, at3_1, at3_2, at2_0, at2_1, updS, upd_two, gSub, rSetL, updN, tPar, tPar3, gTup, gCons, gNil, and_assoc, not_true_eq_false, not_false_eq_true, tNever, List.length_map, tFld, rIxTH, rIxLH, rLenTH, rLenLH, lk1, lfs_g, lfs_s, lfs_p, HO.ins.injEq, HO.tup.injEq, HO.lst.injEq, sp_Book_rounding, sp_Book_action, sp_Book_order, sp_Book_due, sp_Book_zero, sp_Book_beyond, Int.toNat_natCast, sp_visit_after, sp_is_visited, sp_Level_grain, sp_Level_slots, sp_Level_span, sp_Wheel_reach, sp_Wheel___len__, sp_is_integer, sp_is_count, sp_is_within, sp_rounded, tAsg, gName, tVar, tC, tOp, rI, rI0, rU, tUn, oAdd, oSub, oMul, oDiv, oMod, oNeg, oLt, oLe, oGt, oGe, oIsN, oNotN, tFn, tCons, tNil, tIfS, tIf, tTest, tB, tNot, tAnd, tOr, tAndV, tOrV, tNotV,
    tRet, tRetN, tNext, tCB, tDrop, tChain, rEq, rNe, oMax2, oMin2, oInt1, rLenF, L2.start, List.map_cons, List.map_nil, List.length_cons, List.length_nil, List.replicate_succ, List.replicate_zero, List.cons_append, List.nil_append, Nat.reduceAdd, Nat.reduceSub, Nat.zero_add,
    List.set_cons_zero, List.set_cons_succ, List.getElem?_cons_zero, List.getElem?_cons_succ, Option.some.injEq, V.int.injEq, V.ref.injEq, V.str.injEq, V.bl.injEq, exists_eq_left', exists_eq_left, exists_and_left, List.cons.injEq, and_true, true_and, decide_eq_true_eq, sc_ii, sc_ss, sc_bb, sc_ni, sc_in, sc_nn, sc_is, reduceCtorEq,
    Bool.not_eq_true', decide_eq_false_iff_not, if_true, if_false, Bool.false_eq_true, exists_eq', exists_const, false_and, and_false, or_false, false_or, exists_false, Bool.not_not, Bool.not_true, Bool.not_false, sUp_up, sFire_fire, sHigh_high, sPut_put, sZone_now, sBey_refuse, sBey_cut, tTup, tLst, sz0, sz1, sz2, sz3, sz4, sz5, sz6])
local macro_rules | `(tactic| walk_at "st") => `(tactic| ((try dsimp only); rw [seq1]; walk_at "rsl"))
section
variable {K : Frag} {w : World}
def allB : List Bk := [false, true].flatMap fun up => [true, false].flatMap fun fire => [true, false].flatMap fun high => [false, true].flatMap fun put => [false, true].flatMap fun zone => [0, 1, 2].map fun bey => ⟨up, fire, high, put, zone, bey⟩
def AbP (K : Frag) (j : Nat) (x : V) (H : Hp) : Prop := ∃ B p, allB[j]? = some B ∧ x = .ref p ∧ BkAt K H p B
def sp_all_books (K : Frag) : TwZ.SpZ := fun vs H R => vs = [] ∧ R (lsG 96 (AbP K)) H
def BksAt (K : Frag) (H : Hp) (D : Addr) : Prop := ∃ bs : List Addr, H D = some (.lst (bs.map V.ref)) ∧ bs.length = 96 ∧ ∀ (j : Nat) (b : Addr) (B : Bk), bs[j]? = some b → allB[j]? = some B → BkAt K H b B
theorem BksAt.same {H H' : Hp} {D : Addr} (h : BksAt K H D) (s : Same H H') : BksAt K H' D := by
  obtain ⟨bs, a, b, c⟩ := h
  exact ⟨bs, s _ _ a, b, fun j x B e f => (c j x B e f).same s⟩
theorem lst_books {σ : L2.St} {H : Hp} {Q : VK} (q : ∀ D H', Same H H' → BksAt K H' D → Q (.ref D) H') : TwZ.tLstG (TwZ.tGenF (sp_all_books K) tNil) σ H Q := by
  unfold TwZ.tLstG TwZ.tGenF
  refine ⟨rfl, fun D hD => ⟨97, fun j Hs H2 => j ≤ 96 ∧ TwZ.Frm Hs H2 ∧ Same H H2 ∧ ∃ bs : List Addr, H2 D = some (.lst (bs.map V.ref)) ∧ bs.length = j ∧ ∀ (k : Nat) (b : Addr) (B : Bk), bs[k]? = some b → allB[k]? = some B → BkAt K H2 b B, ⟨by decide, Same.frm (Same.new hD), Same.new hD, [], upd_same, rfl, fun k b B x => by simp at x⟩, ?_⟩⟩
  rintro j Hs H2 ⟨hj, f2, s2, bs, h2, hl, hbs⟩
  refine ⟨by omega, f2, fun H3 hf => ?_, fun x H3 hy => ?_⟩
  · obtain ⟨ej, s3⟩ := hf
    exact q D H3 (s2.trans s3) ⟨bs, s3 _ _ h2, by omega, fun k b B x y => (hbs k b B x y).same s3⟩
  · obtain ⟨hj2, ⟨B, p, hB, rfl, hp⟩, s3⟩ := hy
    have hf := (TwZ.Frm.refl H3).upd (u := .lst (bs.map V.ref ++ [V.ref p])) (s3 _ _ h2) rfl
    refine ⟨_, s3 _ _ h2, by rw [List.length_map]; show _ < 16777216; omega, by omega, hf, Same.updN (s2.trans s3) hD, bs ++ [p], by rw [upd_same, List.map_append]; rfl, by rw [List.length_append, hl]; rfl, fun k b B' x y => ?_⟩
    rcases Nat.lt_or_ge k bs.length with z | z
    · rw [List.getElem?_append_left z] at x
      exact ((hbs k b B' x y).same s3).frm hf
    · rw [List.getElem?_append_right z] at x
      have hk : k - bs.length = 0 := by
        have := (List.getElem?_eq_some_iff.mp x).1
        simp at this
        omega
      rw [hk] at x
      cases x
      rw [show k = j by omega, hB] at y
      cases y
      exact hp.frm hf
def chs (B B' : Bk) (k : Nat) : List (Str × Str) := (List.range k).filterMap fun i => if (bws B').getD i "" ≠ (bws B).getD i "" then some (six.getD i "", (bws B').getD i "") else none
def chg (B B' : Bk) : List (Str × Str) := chs B B' 6
def PrsS (H : Hp) (ps : List Addr) (l : List (Str × Str)) : Prop := ps.length = l.length ∧ ∀ (j : Nat) (p : Addr) (c : Str × Str), ps[j]? = some p → l[j]? = some c → H p = some (.tup [.str c.1, .str c.2])
theorem PrsS.same {H H' : Hp} {ps : List Addr} {l : List (Str × Str)} (h : PrsS H ps l) (s : Same H H') : PrsS H' ps l := ⟨h.1, fun j p c a b => s _ _ (h.2 j p c a b)⟩
def ChAt (H : Hp) (t : Addr) (l : List (Str × Str)) : Prop := ∃ ps : List Addr, H t = some (.tup (ps.map V.ref)) ∧ PrsS H ps l
theorem ChAt.same {H H' : Hp} {t : Addr} {l : List (Str × Str)} (h : ChAt H t l) (s : Same H H') : ChAt H' t l := by
  obtain ⟨ps, a, b⟩ := h
  exact ⟨ps, s _ _ a, b.same s⟩
def wants4 : List Str := ["never early", "never late", "right", "exact"]
def FlA (K : Frag) (a : Addr) (g : TG) (tb : TS) (D : Ends) (σ : L2.St) (H : Hp) : Prop := tFor (fun σ H R => R (Itl K a) H) g tb D σ H
def lchk (hw : Bk → Bool) (B : Bk) (k : Nat) : List (List (Str × Str)) := (allB.filter fun C => decide ((chg B C).length = k) && hw C).map (chg B)
def dPr (c : Str × Str) : PyData := .tuple [.str c.1, .str c.2]
def dCg (l : List (Str × Str)) : PyData := .tuple (l.map dPr)
theorem prs_dp {H : Hp} : ∀ (ps : List Addr) (l : List (Str × Str)), ps.length = l.length → (∀ (j : Nat) (p : Addr) (c : Str × Str), ps[j]? = some p → l[j]? = some c → H p = some (.tup [.str c.1, .str c.2])) → DpAll K H (ps.map V.ref) (l.map dPr)
  | [], [], _, _ => .nil
  | p :: ps, c :: l, hl, h => .cons (.tup (SqT.of (h 0 p c rfl rfl)) (.cons (.str _) (.cons (.str _) .nil))) (prs_dp ps l (Nat.succ.inj hl) fun j q d x y => h (j + 1) q d x y)
  | [], _ :: _, hl, _ => by cases hl
  | _ :: _, [], hl, _ => by cases hl
theorem ChAt.dp {H : Hp} {t : Addr} {l : List (Str × Str)} (h : ChAt H t l) : Dp K H (.ref t) (dCg l) := by
  obtain ⟨ps, a, b, c⟩ := h
  exact .tup (SqT.of a) (prs_dp ps l b c)
def TxO (l : List (Str × Str)) : Prop := ∀ c ∈ l, PyData.strOk c.1 = true ∧ PyData.strOk c.2 = true
structure Kwn (K : Frag) (w : World) : Prop extends Kh K w where
  wn : ∀ H, SqT K H (ga K "WANTS") (wants4.map V.str)
end
end Tw
/-! Tw: a book with any other value -/
namespace Tw
open PySem PySem.Spec PyProof.Rows L2 He TwM StX
open PySem.W (Frag)
local macro_rules | `(tactic| walk_at "rsl") => `(tactic| simp only [*, at3_0, at3_1, at3_2, at2_0, at2_1, updS, upd_two, gSub, rSetL, updN, tPar, tPar3, gTup, gCons, gNil, and_assoc, not_true_eq_false, not_false_eq_true, tNever, List.length_map, tFld, rIxTH, rIxLH, rLenTH, rLenLH, lk1, lfs_g, lfs_s, lfs_p, HO.ins.injEq, HO.tup.injEq, HO.lst.injEq, sp_Book_rounding, sp_Book_action, sp_Book_order, sp_Book_due, sp_Book_zero, sp_Book_beyond, Int.toNat_natCast, sp_visit_after, sp_is_visited, sp_Level_grain, sp_Level_slots, sp_Level_span, sp_Wheel_reach, sp_Wheel___len__, sp_is_integer, sp_is_count, sp_is_within, sp_rounded, tAsg, gName, tVar, tC, tOp, rI, rI0, rU, tUn, oAdd, oSub, oMul, oDiv, oMod, oNeg, oLt, oLe, oGt, oGe, oIsN, oNotN, tFn, tCons, tNil, tIfS, tIf, tTest, tB, tNot, tAnd, tOr, tAndV, tOrV, tNotV,
    tRet, tRetN, tNext, tCB, tDrop, tChain, rEq, rNe, oMax2, oMin2, oInt1, rLenF, L2.start, List.map_cons, List.map_nil, List.length_cons, List.length_nil, List.replicate_succ, List.replicate_zero, List.cons_append, List.nil_append, Nat.reduceAdd, Nat.reduceSub, Nat.zero_add,
    List.set_cons_zero, List.set_cons_succ, List.getElem?_cons_zero, List.getElem?_cons_succ, Option.some.injEq, V.int.injEq, V.ref.injEq, V.str.injEq, V.bl.injEq, exists_eq_left', exists_eq_left, exists_and_left, List.cons.injEq, and_true, true_and, decide_eq_true_eq, sc_ii, sc_ss, sc_bb, sc_ni, sc_in, sc_nn, sc_is, reduceCtorEq,
    Bool.not_eq_true', decide_eq_false_iff_not, if_true, if_false, Bool.false_eq_true, exists_eq', exists_const, false_and, and_false, or_false, false_or, exists_false, Bool.not_not, Bool.not_true, Bool.not_false, sUp_up, sFire_fire, sHigh_high, sPut_put, sZone_now, sBey_refuse, sBey_cut, tTup, tLst, sz0, sz1, sz2, sz3, sz4, sz5, sz6])
local macro_rules | `(tactic| walk_at "st") => `(tactic| ((try dsimp only); rw [seq1]; walk_at "rsl"))
section
variable {K : Frag} {w : World}
theorem ciTo {a : Addr} {xs : List V} {n : Nat} {H : Hp} {Q : VK} (ha : H a = some (.tup xs)) (q : ∀ r H', Same H H' → H' r = some (.tup (xs.take n)) → Q (.ref r) H') : L2.rSlA K (.ref a) none (some (n : Int)) H Q := by
  have e : HT.sIx xs.length xs.length (some (n : Int)) = min n xs.length := by
    unfold HT.sIx
    dsimp only
    rw [if_neg (by omega), Int.toNat_natCast]
  have e2 : HT.sIx xs.length 0 none = 0 := rfl
  refine ⟨a, xs, rfl, SqT.of ha, fun z => q a H (Same.refl _) ?_, fun _ p hp => q p _ (Same.new hp) ?_⟩
  · rw [List.take_of_length_le (by have := z.2; omega)]
    exact ha
  · rw [upd_same]
    unfold cutV
    rw [e, e2, List.drop_zero, Nat.sub_zero]
    congr 2
    rcases Nat.le_total n xs.length with z | z
    · rw [Nat.min_eq_left z]
    · rw [Nat.min_eq_right z, List.take_of_length_le (Nat.le_refl _), List.take_of_length_le z]
theorem ciFrom {a : Addr} {xs : List V} {n : Nat} {H : Hp} {Q : VK} (ha : H a = some (.tup xs)) (h : n ≤ xs.length) (q : ∀ r H', Same H H' → H' r = some (.tup (xs.drop n)) → Q (.ref r) H') : L2.rSlA K (.ref a) (some (n : Int)) none H Q := by
  have e : HT.sIx xs.length 0 (some (n : Int)) = n := by
    unfold HT.sIx
    dsimp only
    rw [if_neg (by omega), Int.toNat_natCast, Nat.min_eq_left h]
  have e2 : HT.sIx xs.length xs.length none = xs.length := rfl
  refine ⟨a, xs, rfl, SqT.of ha, fun z => q a H (Same.refl _) ?_, fun _ p hp => q p _ (Same.new hp) ?_⟩
  · have : n = 0 := by have := z.1; omega
    rw [this, List.drop_zero]
    exact ha
  · rw [upd_same]
    unfold cutV
    rw [e, e2, List.take_of_length_le (by rw [List.length_drop]; exact Nat.le_refl _)]
theorem ciCat {a b : Addr} {xs ys : List V} {H : Hp} {Q : VK} (ha : H a = some (.tup xs)) (hb : H b = some (.tup ys)) (hl : xs.length + ys.length ≤ 1000) (q : ∀ r H', Same H H' → H' r = some (.tup (xs ++ ys)) → Q (.ref r) H') : L2.rCatA K (.ref a) (.ref b) H Q :=
  ⟨a, b, xs, ys, rfl, rfl, SqT.of ha, SqT.of hb, by show _ ≤ 16777216; omega, fun e => q b H (Same.refl _) (by rw [e]; exact hb), fun _ e => q a H (Same.refl _) (by rw [e, List.append_nil]; exact ha), fun _ _ p hp => q p _ (Same.new hp) upd_same⟩
theorem ciMid {a u : Addr} {xs us : List V} {n : Nat} {H : Hp} {Q : VK} (ha : H a = some (.tup xs)) (hu : H u = some (.tup us)) (hn : n + 1 ≤ xs.length) (hl : xs.length + us.length ≤ 500)
    (q : ∀ r H', Same H H' → H' r = some (.tup (xs.take n ++ us ++ xs.drop (n + 1))) → Q (.ref r) H') :
    L2.rSlA K (.ref a) none (some (n : Int)) H fun x H1 => L2.rCatA K x (.ref u) H1 fun y H2 => L2.rSlA K (.ref a) (some ((n : Int) + 1)) none H2 fun z H3 => L2.rCatA K y z H3 Q := by
  have l1 : (xs.take n).length ≤ xs.length := by rw [List.length_take]; omega
  have l2 : (xs.drop (n + 1)).length ≤ xs.length := by rw [List.length_drop]; omega
  refine ciTo ha fun r1 H1 s1 h1 => ciCat h1 (s1 _ _ hu) (by omega) fun r2 H2 s2 h2 => ?_
  have s12 := s1.trans s2
  rw [show (n : Int) + 1 = ((n + 1 : Nat) : Int) from rfl]
  refine ciFrom (s12 _ _ ha) hn fun r3 H3 s3 h3 => ciCat (s3 _ _ h2) h3 ?_ fun r4 H4 s4 h4 => q r4 H4 (s12.trans (s3.trans s4)) h4
  rw [List.length_append]
  omega
end
end Tw
/-! Tw: own errors over ValueError: their making and their raise -/
namespace Tw
open PySem PySem.Spec PyProof.Rows L2 He PySem.W PySem.Calls NdefX
def sp_er (K : Frag) (C : Addr) (fld : PySem.Str) : Sp := fun vs H Q _ => ∃ (x : Addr) (y : V), vs = [.ref x, y] ∧ H x = some (exo x C none) ∧ ∀ dx, H dx = none → dx ≠ x → Q .non (upd (upd H dx (exd dx [(fld, y)])) x (exo x C (some dx)))
abbrev erB (text : PySem.Str) (j : Nat) (p0 p1 p2 p3 p4 pc q1 q2 q3 q4 : Pos) (fld par : PySem.Str) : List Stmt := suB text j p0 p1 p2 p3 p4 pc [.Assign [.Attribute (.Name "self" q1) fld q2] (.Name par q3) q4]
section
variable {CX : CXT} {P : Program} {w : World} {K : Frag} {mg : PySem.Str → Option Value} {base : Heap} {x fld par file qual name text : PySem.Str} {j : Nat} {p0 p1 p2 p3 p4 pc q1 q2 q3 q4 : Pos} {params : Arguments} {scope : Scope} {ar : Arg}
theorem ok_err (F : ErrF K x fld file qual) (hf : (P.main.file : PySem.Str) = file) (htop : (P.main.scope.names.lookup ("super" : PySem.Str)).isSome = false)
    (e : fnC K (ma K (ga K x) "__init__") = some (name, qual, params, .stmts (erB text j p0 p1 p2 p3 p4 pc q1 q2 q3 q4 fld par), scope, mainGlobals, [], builtinsNs))
    (S : NScope ["self", par, "__class__"] ["self", par] ["__class__"] scope) (hpar : (params.posonlyargs ++ params.args).head? = some ar) (har : ar.arg = "self")
    (hks : scope.names.lookup ("super" : PySem.Str) = some .globalImplicit) (hms : mg "super" = none)
    (hd1 : (par == ("__debug__" : PySem.Str)) = false) (hd2 : (par == ("__classdict__" : PySem.Str)) = false)
    (hi : ∀ cc cda fI L, interactive (envF (erF name qual params (erB text j p0 p1 p2 p3 p4 pc q1 q2 q3 q4 fld par) scope cc cda) fI L) = false)
    (hsw : ∀ cc cda fI L, swapsWith (.Call (.Attribute (.Call (.Name "super" p0) [] [] p1) "__init__" p2) [.Constant (.str text) j pc] [] p3) none p4.line (envF (erF name qual params (erB text j p0 p1 p2 p3 p4 pc q1 q2 q3 q4 fld par) scope cc cda) fI L) = pure false)
    (hsw2 : ∀ cc cda fI L, swapsWith (.Name par q3) (some (.Attribute (.Name "self" q1) fld q2)) q4.line (envF (erF name qual params (erB text j p0 p1 p2 p3 p4 pc q1 q2 q3 q4 fld par) scope cc cda) fI L) = pure false)
    (hev : ∀ cc cda fI L, ∃ pl : Sem Bool, eval (.Call (.Attribute (.Call (.Name "super" p0) [] [] p1) "__init__" p2) [.Constant (.str text) j pc] [] p3) (envF (erF name qual params (erB text j p0 p1 p2 p3 p4 pc q1 q2 q3 q4 fld par) scope cc cda) fI L) = (do
      let ov ← attributeBase (.Call (.Name "super" p0) [] [] p1) "__init__" (envF (erF name qual params (erB text j p0 p1 p2 p3 p4 pc q1 q2 q3 q4 fld par) scope cc cda) fI L) (eval (.Call (.Name "super" p0) [] [] p1) (envF (erF name qual params (erB text j p0 p1 p2 p3 p4 pc q1 q2 q3 q4 fld par) scope cc cda) fI L))
      standAt p2.atName
      let (f, first) ← holding [ov] (getMethod ov "__init__" pl)
      callWith p3 f first (backTo p3 (starEach [.Constant (.str text) j pc] (envF (erF name qual params (erB text j p0 p1 p2 p3 p4 pc q1 q2 q3 q4 fld par) scope cc cda) fI L))) []))
    (hb : ∀ (kV doc pm : Value) (an : Option Addr) (cl : List (PySem.Str × Addr)) (cdv ct : Value) (us : List Value), us.length = 2 → bindArgs (fnX name qual params (erB text j p0 p1 p2 p3 p4 pc q1 q2 q3 q4 fld par) scope cl .none kV doc pm an cdv ct) ⟨us, []⟩ = pure ((["self", par] : List PySem.Str).zip us)) :
    ∃ fd, FnOk P w K mg base CX 1 (ma K (ga K x) "__init__") fd ["self", par] (sp_er K (ga K x) fld) ∧ Binds K fd ["self", par] [] := by
  obtain ⟨⟨oc, od, kV, doc, pm, ct, an, osl, lk⟩, hcd, kp, hcell, ccl, cdd, vs, ccs, y, tf, hc1, hc2, hc3⟩ := fnE_ok F.fn e
  refine ⟨_, ok_er (k := 0) ⟨F.oex, F.opq, F.sup, F.sub, F.own, hcell, ⟨_, _, _, _, _, _, hc1, hc2, by rw [hf]; exact hc3⟩, htop⟩ lk hcd S hpar (by rw [har]; rfl) hks hms (hi _ _ _) (hsw _ _ _) (hev _ _ _) (fun vs H Q E h => ?_) (fun A outer s H vs Q E hr h => ?_), .all (hb kV doc pm an _ _ ct)⟩
  · obtain ⟨_, _, rfl, _⟩ := h
    rfl
  · obtain ⟨x', y', rfl, hx, q⟩ := h
    refine ⟨_, pss_one (ps_ost (pe_var (i := 0) rfl (.inl (S.par _ (by simp)))) (pe_var (i := 1) rfl (.inl (S.par _ (by simp))) hd1 hd2) (hsw2 _ _ _ _)), x', [y'], rfl, hx, ?_⟩
    exact ⟨_, rfl, _, rfl, x', ga K x, rfl, F.oex, F.no, .inl ⟨hx, fun dx h1 h2 => q dx h1 h2⟩⟩
end
def tErr (C : Addr) (fld : PySem.Str) (te : TE) : L2.St → Hp → XK → Prop := fun σ H Q => te σ H fun y H1 => ∀ d, H1 d = none → Q (.ref C) (some d) (upd H1 d (.xd [(fld, y)]))
def tRz (E : XK) (C : Addr) (f : PySem.Str) (te : TE) : TS := fun _ σ H => tErr C f te σ H fun cls d H' => E cls d H'
theorem mk_er {K : Frag} {C : Addr} {fld : PySem.Str} {y : V} {H1 : Hp} {Q : XK} (h : ∀ d, H1 d = none → Q (.ref C) (some d) (upd H1 d (.xd [(fld, y)]))) :
    [y].length ≤ 1000 ∧ ∀ a, H1 a = none → sp_er K C fld (.ref a :: ([y] ++ [])) (upd H1 a (exo a C none)) (fun v H2 => v = .non ∧ ∃ (d : Addr) (fs : List (PySem.Str × V)), H2 a = some (exo a C (some d)) ∧ H2 d = some (exd d fs) ∧ H1 d = none ∧ Q (.ref C) (some d) (upd (del H2 a) d (.xd fs))) (fun _ _ _ => False) := by
  refine ⟨(show 1 ≤ 1000 by decide), fun a ha => ⟨a, y, rfl, upd_same, fun d hd hne => ⟨rfl, d, [(fld, y)], upd_same, ?_, ?_, ?_⟩⟩⟩
  · rw [upd_ne hne, upd_same]
  · rw [upd_ne hne] at hd
    exact hd
  · rw [upd_ne hne] at hd
    have e : upd (del (upd (upd (upd H1 a (exo a C none)) d (exd d [(fld, y)])) a (exo a C (some d))) a) d (.xd [(fld, y)]) = upd H1 d (.xd [(fld, y)]) := by
      funext b
      by_cases hb : b = d
      · rw [hb, upd_same, upd_same]
      · rw [upd_ne hb, upd_ne hb]
        by_cases hba : b = a
        · rw [hba, del_same, ha]
        · rw [del_ne hba, upd_ne hba, upd_ne hb, upd_ne hba]
    rw [e]
    exact h d hd
section
variable {X : Cx} {CX : CXT} {cx fld : PySem.Str} {C fI : Addr} {k : Nat} {fd : FuncData} {ps : List PySem.Str} {e : Expr} {te : TE} {p pos : Pos}
theorem PMk.imp {t t' : L2.St → Hp → XK → Prop} (h : PMk X e t) (i : ∀ σ H Q, t' σ H Q → t σ H Q) : PMk X e t' := fun pins s σ H Q I q => h pins s σ H Q I (i _ _ _ q)
theorem pe_mono (he : PE X e te) : PE X e (fun σ H k => ∃ Q0 : VK, te σ H Q0 ∧ ∀ y H1, Q0 y H1 → k y H1) := ⟨fun pins s σ H Q I ⟨Q0, h, i⟩ => thn (he.run pins s σ H Q0 I h) fun v s1 ⟨y, H1, I1, r1, q1⟩ => ⟨y, H1, I1, r1, i _ _ q1⟩⟩
theorem pmk_err (he : PE X e te) (T : OexC X.K C) (iC : findIn X.K (.ref C) "__init__" = some (some (.ref fI))) (tI : typeIn X.K (.ref fI) = some (.type "function"))
    (F1 : FnOk X.prog X.w X.K X.mg X.base CX k fI fd ps (sp_er X.K C fld)) (hr : Room (k + 1) X.A) (hb : Binds X.K fd ps []) (hx : Passes CX X (fun _ _ _ => False)) (hg : Gl X cx) (hm : X.mg cx = some (.ref C))
    (hdb : (cx == ("__debug__" : PySem.Str)) = false := by decide) (hs : starEach [e] X.env = (false, eval e X.env) :: starEach [] X.env := by rfl) :
    PMk X (.Call (.Name cx p) [e] [] pos) (tErr C fld te) :=
  PMk.imp (pmk_oex T iC tI F1 hr hb .nil hx hg hm (pa_cons (pe_mono he) pa_nil hs) hdb hs) fun σ H Q h => ⟨_, h, fun y H1 q => mk_er q⟩
end
end Tw
/-! Tw: numbers within bounds, of any kind; Level made of anything -/
namespace Tw
open PySem PySem.Spec PyProof.Rows L2 He TwM StX
open PySem.W (Frag)
local macro_rules | `(tactic| walk_at "rsl") => `(tactic| simp only [*, at3_0, at3_1, at3_2, at2_0, at2_1, updS, upd_two, gSub, rSetL, updN, tPar, tPar3, gTup, gCons, gNil, and_assoc, not_true_eq_false, not_false_eq_true, tNever, List.length_map, tFld, rIxTH, rIxLH, rLenTH, rLenLH, lk1, lfs_g, lfs_s, lfs_p, HO.ins.injEq, HO.tup.injEq, HO.lst.injEq, sp_Book_rounding, sp_Book_action, sp_Book_order, sp_Book_due, sp_Book_zero, sp_Book_beyond, Int.toNat_natCast, sp_visit_after, sp_is_visited, sp_Level_grain, sp_Level_slots, sp_Level_span, sp_Wheel_reach, sp_Wheel___len__, sp_is_integer, sp_is_count, sp_is_within, sp_rounded, tAsg, gName, tVar, tC, tOp, rI, rI0, rU, tUn, oAdd, oSub, oMul, oDiv, oMod, oNeg, oLt, oLe, oGt, oGe, oIsN, oNotN, tFn, tCons, tNil, tIfS, tIf, tTest, tB, tNot, tAnd, tOr, tAndV, tOrV, tNotV,
    tRet, tRetN, tNext, tCB, tDrop, tChain, rEq, rNe, oMax2, oMin2, oInt1, rLenF, L2.start, List.map_cons, List.map_nil, List.length_cons, List.length_nil, List.replicate_succ, List.replicate_zero, List.cons_append, List.nil_append, Nat.reduceAdd, Nat.reduceSub, Nat.zero_add,
    List.set_cons_zero, List.set_cons_succ, List.getElem?_cons_zero, List.getElem?_cons_succ, Option.some.injEq, V.int.injEq, V.ref.injEq, V.str.injEq, V.bl.injEq, exists_eq_left', exists_eq_left, exists_and_left, List.cons.injEq, and_true, true_and, decide_eq_true_eq, sc_ii, sc_ss, sc_bb, sc_ni, sc_in, sc_nn, sc_is, reduceCtorEq,
    Bool.not_eq_true', decide_eq_false_iff_not, if_true, if_false, Bool.false_eq_true, exists_eq', exists_const, false_and, and_false, or_false, false_or, exists_false, Bool.not_not, Bool.not_true, Bool.not_false, sUp_up, sFire_fire, sHigh_high, sPut_put, sZone_now, sBey_refuse, sBey_cut, tTup, tLst, sz0, sz1, sz2, sz3, sz4, sz5, sz6])
local macro_rules | `(tactic| walk_at "st") => `(tactic| ((try dsimp only); rw [seq1]; walk_at "rsl"))
section
variable {K : Frag} {w : World}
def inB (x : V) (lo hi : Int) : Bool := match x with
  | .int i => decide (lo ≤ i) && decide (i ≤ hi)
  | _ => false
def intOf (x : V) : Int := match x with
  | .int i => i
  | _ => 0
def lvOut (g s z : V) (bg bs bz : Bool) : Option V := if (!(bg && inB g 1 1000)) = true then some g else if (!(bs && inB s 2 100)) = true then some s else if z ≠ .non ∧ (!(bz && inB z 2 (4 * intOf s * intOf g))) = true then some z else none
end
end Tw
/-! Tw: books of values of any kind, and which are refused; texts cut and joined -/
namespace Tw
open PySem PySem.Spec PyProof.Rows L2 He TwM StX
open PySem.W (Frag)
local macro_rules | `(tactic| walk_at "rsl") => `(tactic| simp only [*, at3_0, at3_1, at3_2, at2_0, at2_1, updS, upd_two, gSub, rSetL, updN, tPar, tPar3, gTup, gCons, gNil, and_assoc, not_true_eq_false, not_false_eq_true, tNever, List.length_map, tFld, rIxTH, rIxLH, rLenTH, rLenLH, lk1, lfs_g, lfs_s, lfs_p, HO.ins.injEq, HO.tup.injEq, HO.lst.injEq, sp_Book_rounding, sp_Book_action, sp_Book_order, sp_Book_due, sp_Book_zero, sp_Book_beyond, Int.toNat_natCast, sp_visit_after, sp_is_visited, sp_Level_grain, sp_Level_slots, sp_Level_span, sp_Wheel_reach, sp_Wheel___len__, sp_is_integer, sp_is_count, sp_is_within, sp_rounded, tAsg, gName, tVar, tC, tOp, rI, rI0, rU, tUn, oAdd, oSub, oMul, oDiv, oMod, oNeg, oLt, oLe, oGt, oGe, oIsN, oNotN, tFn, tCons, tNil, tIfS, tIf, tTest, tB, tNot, tAnd, tOr, tAndV, tOrV, tNotV,
    tRet, tRetN, tNext, tCB, tDrop, tChain, rEq, rNe, oMax2, oMin2, oInt1, rLenF, L2.start, List.map_cons, List.map_nil, List.length_cons, List.length_nil, List.replicate_succ, List.replicate_zero, List.cons_append, List.nil_append, Nat.reduceAdd, Nat.reduceSub, Nat.zero_add,
    List.set_cons_zero, List.set_cons_succ, List.getElem?_cons_zero, List.getElem?_cons_succ, Option.some.injEq, V.int.injEq, V.ref.injEq, V.str.injEq, V.bl.injEq, exists_eq_left', exists_eq_left, exists_and_left, List.cons.injEq, and_true, true_and, decide_eq_true_eq, sc_ii, sc_ss, sc_bb, sc_ni, sc_in, sc_nn, sc_is, reduceCtorEq,
    Bool.not_eq_true', decide_eq_false_iff_not, if_true, if_false, Bool.false_eq_true, exists_eq', exists_const, false_and, and_false, or_false, false_or, exists_false, Bool.not_not, Bool.not_true, Bool.not_false, sUp_up, sFire_fire, sHigh_high, sPut_put, sZone_now, sBey_refuse, sBey_cut, tTup, tLst, sz0, sz1, sz2, sz3, sz4, sz5, sz6])
local macro_rules | `(tactic| walk_at "st") => `(tactic| ((try dsimp only); rw [seq1]; walk_at "rsl"))
/-! ### plain -/
def vw7 : Nat → List Str
  | 0 => ["down", "up"]
  | 1 => ["fire", "move"]
  | 2 => ["high", "low"]
  | 3 => ["now", "put"]
  | 4 => ["now", "one"]
  | 5 => ["refuse", "last", "cut"]
  | _ => []
def ok7 (k : Nat) (x : V) : Bool := match x with
  | .str y => inV (.str y) ((vw7 k).map V.str)
  | _ => false
def sw7 (x : V) : Bool := match x with
  | .str y => inV (.str y) (six.map V.str)
  | _ => false
def bad7 : Nat → List V → Option V
  | _, [] => none
  | k, x :: xs => if ok7 k x = true then bad7 (k + 1) xs else some x
theorem bad7_drop {xs : List V} {i : Nat} {x : V} (h : xs[i]? = some x) (k : Nat) : bad7 k (xs.drop i) = if ok7 k x = true then bad7 (k + 1) (xs.drop (i + 1)) else some x := by
  obtain ⟨hi, e⟩ := List.getElem?_eq_some_iff.mp h
  rw [List.drop_eq_getElem_cons hi, e]
  rfl
theorem in7 {y : Str} : ∀ {ws : List Str}, inV (.str y) (ws.map V.str) = true → y ∈ ws
  | [], h => by cases h
  | z :: ws, h => by
    have h : ((z == y) || inV (.str y) (ws.map V.str)) = true := h
    rw [Bool.or_eq_true] at h
    rcases h with h | h
    · rw [beq_iff_eq] at h
      rw [h]
      exact List.mem_cons_self
    · exact List.mem_cons_of_mem _ (in7 h)
theorem ok7_of {k : Nat} {x : V} (h : ok7 k x = true) : ∃ y, x = .str y ∧ y ∈ vw7 k := by
  cases x with
  | str y => exact ⟨y, rfl, in7 h⟩
  | _ => cases h
theorem bad7_none {xs : List V} (hl : xs.length = 6) (h : bad7 0 xs = none) : ∃ B : Bk, B.bey < 3 ∧ xs = (bws B).map V.str := by
  match xs, hl with
  | [a, b, c, d, e, f], _ =>
    have st : ∀ {k : Nat} {x : V} {r : List V}, bad7 k (x :: r) = none → ok7 k x = true ∧ bad7 (k + 1) r = none := fun {k x r} z => by
      have z : (if ok7 k x = true then bad7 (k + 1) r else some x) = none := z
      by_cases q : ok7 k x = true
      · rw [if_pos q] at z; exact ⟨q, z⟩
      · rw [if_neg q] at z; cases z
    obtain ⟨h0, h⟩ := st h
    obtain ⟨h1, h⟩ := st h
    obtain ⟨h2, h⟩ := st h
    obtain ⟨h3, h⟩ := st h
    obtain ⟨h4, h⟩ := st h
    obtain ⟨h5, h⟩ := st h
    have two : ∀ {k : Nat} {x : V} {u v : Str} {f : Bool → Str}, vw7 k = [u, v] → (f false = u ∧ f true = v ∨ f false = v ∧ f true = u) → ok7 k x = true → ∃ b, x = .str (f b) := fun {k x u v f} e hf hx => by
      obtain ⟨y, rfl, m⟩ := ok7_of hx
      rw [e] at m
      simp only [List.mem_cons, List.not_mem_nil, or_false] at m
      rcases hf with ⟨f1, f2⟩ | ⟨f1, f2⟩ <;> rcases m with rfl | rfl
      · exact ⟨false, by rw [f1]⟩
      · exact ⟨true, by rw [f2]⟩
      · exact ⟨true, by rw [f2]⟩
      · exact ⟨false, by rw [f1]⟩
    obtain ⟨b0, rfl⟩ := two (f := sUp) rfl (by decide +kernel) h0
    obtain ⟨b1, rfl⟩ := two (f := sFire) rfl (by decide +kernel) h1
    obtain ⟨b2, rfl⟩ := two (f := sHigh) rfl (by decide +kernel) h2
    obtain ⟨b3, rfl⟩ := two (f := sPut) rfl (by decide +kernel) h3
    obtain ⟨b4, rfl⟩ := two (f := sZone) rfl (by decide +kernel) h4
    obtain ⟨y, rfl, m⟩ := ok7_of h5
    have hb : ∃ n, n < 3 ∧ y = sBey n := by
      have m : y ∈ (["refuse", "last", "cut"] : List Str) := m
      simp only [List.mem_cons, List.not_mem_nil, or_false] at m
      rcases m with rfl | rfl | rfl
      · exact ⟨0, by decide, rfl⟩
      · exact ⟨1, by decide, rfl⟩
      · exact ⟨2, by decide, rfl⟩
    obtain ⟨n, hn, rfl⟩ := hb
    exact ⟨⟨b0, b1, b2, b3, b4, n⟩, hn, rfl⟩
theorem ok7_bws {B : Bk} (hb : B.bey < 3) : bad7 0 ((bws B).map V.str) = none := by
  obtain ⟨u, f, hi, p, z, n⟩ := B
  have key : ∀ (u f hi p z : Bool), ∀ n : Fin 3, bad7 0 ((bws ⟨u, f, hi, p, z, n.val⟩).map V.str) = none := by
    intro u f hi p z n
    have h0 : ok7 0 (.str (sUp u)) = true := iv0 u
    have h1 : ok7 1 (.str (sFire f)) = true := iv1 f
    have h2 : ok7 2 (.str (sHigh hi)) = true := iv2 hi
    have h3 : ok7 3 (.str (sPut p)) = true := iv3 p
    have h4 : ok7 4 (.str (sZone z)) = true := iv4 z
    have h5 : ok7 5 (.str (sBey n.val)) = true := iv5 n.val n.isLt
    show (if ok7 0 (.str (sUp u)) = true then (if ok7 1 (.str (sFire f)) = true then (if ok7 2 (.str (sHigh hi)) = true then (if ok7 3 (.str (sPut p)) = true then (if ok7 4 (.str (sZone z)) = true then (if ok7 5 (.str (sBey n.val)) = true then none else _) else _) else _) else _) else _) else _) = none
    rw [if_pos h0, if_pos h1, if_pos h2, if_pos h3, if_pos h4, if_pos h5]
  exact key u f hi p z ⟨n, hb⟩
theorem join_spl (c : Nat) : ∀ (xs acc : List Nat), TL.joinL [c] (TL.spl [c] 0 acc xs) = acc ++ xs := by
  intro xs
  induction xs with
  | nil => intro acc; rw [TL.spl_nil]; simp [TL.joinL]
  | cons x xs ih =>
    intro acc
    by_cases h : TL.pre [c] (x :: xs) = true
    · rw [TL.spl_hit h]
      have hx : x = c := by
        simpa [TL.pre] using h
      have e := ih []
      rw [List.nil_append] at e
      have : ∃ p r, TL.spl [c] ([c].length - 1) [] xs = p :: r := by
        show ∃ p r, TL.spl [c] 0 [] xs = p :: r
        cases hz : TL.spl [c] 0 [] xs with
        | nil =>
          exfalso
          have ne : ∀ (ys b : List Nat), TL.spl [c] 0 b ys ≠ [] := by
            intro ys
            induction ys with
            | nil => intro b z; rw [TL.spl_nil] at z; cases z
            | cons y ys ih2 =>
              intro b z
              by_cases h2 : TL.pre [c] (y :: ys) = true
              · rw [TL.spl_hit h2] at z; cases z
              · rw [TL.spl, if_neg h2] at z
                exact ih2 _ z
          exact ne _ _ hz
        | cons p r => exact ⟨p, r, rfl⟩
      obtain ⟨p, r, hpr⟩ := this
      have hpr' : TL.spl [c] 0 [] xs = p :: r := hpr
      rw [hpr]
      rw [hpr'] at e
      show acc ++ ([c] ++ TL.joinL [c] (p :: r)) = _
      rw [e, hx]
      simp
    · rw [TL.spl, if_neg h, ih]
      simp
theorem tl_sp : TL.tl (" " : Str) = [32] := by decide +kernel
theorem join_split (x : Str) : Txt.join " " (Txt.split x " ") = x := by
  have hk : ¬ Builtin.Str.strKind x < Builtin.Str.strKind (" " : Str) := TL.kind_ok (by decide +kernel)
  have e := TL.split_spl x " " (by rw [tl_sp]; simp) hk
  refine TL.ext_tl ?_
  rw [TL.join_eq, TL.tl_join, e, tl_sp, join_spl]
  rfl
/-! ### values of any kind -/
section
variable {K : Frag} {w : World}
theorem Ov.isS {H : Hp} {x : V} {d : PyData} (h : Ov H x d) {Q : VK} (q : Q (.bl (strD d)) H) : rIsi K [x, .ty "str"] H Q := by
  cases h with
  | at_ h =>
    cases x with
    | non => cases h; exact isi_base (.base .non) (b := false) (by decide +kernel) q
    | bl b => cases h; exact isi_base (.base (.bl b)) (b := false) (by decide +kernel) q
    | int i => cases h; exact isi_base (.base (.int i)) (b := false) (by decide +kernel) q
    | str y => cases h; exact isi_base (.base (.str y)) (b := true) (by decide +kernel) q
    | _ => cases h
  | tup h f => exact isi_base (.base (.tup h)) (b := false) (by decide +kernel) q
  | lst h f => exact isi_base (.base (.lst h)) (b := false) (by decide +kernel) q
  | dict h => exact isi_base (.base (.dK h)) (b := false) (by decide +kernel) q
theorem Ov.no7 {H : Hp} {x : V} {d : PyData} (h : Ov H x d) (z : strD d = false) : (∀ k, ok7 k x = false) ∧ sw7 x = false := by
  cases h with
  | at_ h =>
    cases x with
    | str y => cases h; cases z
    | _ => exact ⟨fun _ => rfl, rfl⟩
  | _ => exact ⟨fun _ => rfl, rfl⟩
def sp_is_switchA (K : Frag) : Sp := fun vs H Q _ => ∃ (x : V) (d : PyData), vs = [x] ∧ Ov H x d ∧ Q (.bl (sw7 x)) H
def t_is_switchA (K : Frag) (w : World) : TS :=
  (tRet (tAndV (tCB (rIsi K) (tCons (tVar 0) (tCons (tC (.ty "str")) tNil))) (tOp (rIn K false) (tVar 0) (tC (.ref (ga K "SWITCHES"))))))
def n_is_switchA : List Str := ["value"]
theorem rd_is_switchA (T : Kfb K w) (vs : List V) (H : Hp) (Q : VK) (E : XK) (h : sp_is_switchA K vs H Q E) : t_is_switchA K w { nx := fun _ H' => Q .non H', rt := Q } (L2.start n_is_switchA vs) H := by
  obtain ⟨x, d, rfl, ho, q⟩ := h
  unfold t_is_switchA n_is_switchA
  walk_at "rsl"
  refine ho.isS ?_
  cases z : strD d with
  | false =>
    rw [(ho.no7 z).2] at q
    exact ⟨false, rfl, by rw [if_neg Bool.noConfusion]; exact q⟩
  | true =>
    obtain ⟨y, rfl, _⟩ := ho.str z
    refine ⟨true, rfl, ?_⟩
    rw [if_pos rfl]
    exact ⟨_, _, rfl, .inr (T.sw H), rfl, by decide +kernel, by rw [if_neg Bool.false_ne_true]; exact q⟩
def sp_is_valueB (K : Frag) : Sp := fun vs H Q _ => ∃ (k : Nat) (s : Str) (x : V) (d : PyData), vs = [.str s, x] ∧ six[k]? = some s ∧ Ov H x d ∧ Q (.bl (ok7 k x)) H
def t_is_valueB (K : Frag) (w : World) : TS :=
  (tRet (tAndV (tCB (rIsi K) (tCons (tVar 1) (tCons (tC (.ty "str")) tNil))) (tOp (rIn K false) (tVar 1) (tOp (rIxD K w) (tC (.ref (ga K "VALUES"))) (tVar 0)))))
def n_is_valueB : List Str := ["switch", "value"]
theorem rd_is_valueB (T : Kfb K w) (vs : List V) (H : Hp) (Q : VK) (E : XK) (h : sp_is_valueB K vs H Q E) : t_is_valueB K w { nx := fun _ H' => Q .non H', rt := Q } (L2.start n_is_valueB vs) H := by
  obtain ⟨k, s, x, d, rfl, hk, ho, q⟩ := h
  unfold t_is_valueB n_is_valueB
  walk_at "rsl"
  refine ho.isS ?_
  cases z : strD d with
  | false =>
    rw [(ho.no7 z).1] at q
    exact ⟨false, rfl, by rw [if_neg Bool.noConfusion]; exact q⟩
  | true =>
    obtain ⟨y, rfl, _⟩ := ho.str z
    refine ⟨true, rfl, ?_⟩
    rw [if_pos rfl]
    have key : ∀ xs, SqT K H (dva K (ga K "VALUES") s) xs → xs.all flatV = true → inV (.str y) xs = ok7 k (.str y) →
        ∃ (a : Addr) (z : Str) (v : V), V.ref (ga K "VALUES") = .ref a ∧ V.str s = .str z ∧ KDct K w a z v ∧ ∃ (p : Addr) (xs : List V), v = .ref p ∧ (SqL K H p xs ∨ SqT K H p xs) ∧ flatV (.str y) = true ∧ xs.all flatV = true ∧ Q (.bl (if false = true then !inV (.str y) xs else inV (.str y) xs)) H := fun xs h1 h2 h3 =>
      ⟨_, s, _, rfl, rfl, T.vd s (List.mem_of_getElem? hk), _, xs, rfl, .inr h1, rfl, h2, by rw [if_neg Bool.false_ne_true, h3]; exact q⟩
    match k with
    | 0 => obtain rfl := Option.some.inj hk; exact key _ (T.v0 H) (by decide +kernel) rfl
    | 1 => obtain rfl := Option.some.inj hk; exact key _ (T.v1 H) (by decide +kernel) rfl
    | 2 => obtain rfl := Option.some.inj hk; exact key _ (T.v2 H) (by decide +kernel) rfl
    | 3 => obtain rfl := Option.some.inj hk; exact key _ (T.v3 H) (by decide +kernel) rfl
    | 4 => obtain rfl := Option.some.inj hk; exact key _ (T.v4 H) (by decide +kernel) rfl
    | 5 => obtain rfl := Option.some.inj hk; exact key _ (T.v5 H) (by decide +kernel) rfl
    | k + 6 => cases hk
def sp_Book___init__R (K : Frag) : Sp := fun vs H Q E => ∃ (x dx : Addr) (xs : List V) (y1 y2 y3 y4 y5 y6 : V), vs = [.ref x, y1, y2, y3, y4, y5, y6] ∧ xs = [y1, y2, y3, y4, y5, y6] ∧ H x = some (.ins (ga K "Book") dx []) ∧ (∀ y ∈ xs, ∃ d, Ov H y d) ∧
  (∀ v, bad7 0 xs = some v → ∀ H' d, Same H H' → H' d = none → E (.ref (ga K "InvalidSwitch")) (some d) (upd H' d (.xd [("value", v)]))) ∧
  (∀ B : Bk, B.bey < 3 → xs = (bws B).map V.str → ∀ H', SameX x H H' → BkAt K H' x B → Q .non H')
def t_Book___init__R (K : Frag) (w : World) (E : XK) : TS :=
  (tSeq (tAsg (tTup (tCons (tVar 1) (tCons (tVar 2) (tCons (tVar 3) (tCons (tVar 4) (tCons (tVar 5) (tCons (tVar 6) tNil))))))) (gName 7))
  (tSeq (tFor (RZ.iZipA K (tCons (tC (.ref (ga K "SWITCHES"))) (tCons (tVar 7) tNil))) (gTup K 2 (gCons (gName 8) (gCons (gName 9) gNil)))
    (tIfS (tNot (tB (tFn (sp_is_valueB K) E0 (tCons (tVar 8) (tCons (tVar 9) tNil))))) (tRz E (ga K "InvalidSwitch") "value" (tVar 9)) tNext))
  (sFld K (tVar 0) (tVar 7) "kept_values")))
def n_Book___init__R : List Str := ["self", "rounding", "action", "order", "due", "zero", "beyond", "given", "switch", "value"]
theorem rd_Book___init__R (T : Kfb K w) (vs : List V) (H : Hp) (Q : VK) (E : XK) (h : sp_Book___init__R K vs H Q E) : t_Book___init__R K w E { nx := fun _ H' => Q .non H', rt := Q } (L2.start n_Book___init__R vs) H := by
  obtain ⟨x, dx, xs, y1, y2, y3, y4, y5, y6, rfl, rfl, hx, hov, hE, hQ⟩ := h
  have c1 := T.cB
  have c2 := T.nBv
  · skip
    unfold t_Book___init__R n_Book___init__R sFld
    rw [seq1]
    walk_at "rsl"
    intro g hg
    have s0 := Same.new (o := .tup [y1, y2, y3, y4, y5, y6]) hg
    rw [seq1]
    refine ⟨_, rfl, _, _, _, _, rfl, .inr ⟨T.sw _, SqT.of upd_same, RZ.for_zipT (K := K) (a := ga K "SWITCHES") (b := g) (xs := six.map V.str) (ys := [y1, y2, y3, y4, y5, y6]) rfl
      (fun i σ H' => ∃ v8 v9, σ = [some (.ref x), some y1, some y2, some y3, some y4, some y5, some y6, some (.ref g), v8, v9] ∧ Same (upd H g (.tup [y1, y2, y3, y4, y5, y6])) H' ∧ bad7 0 [y1, y2, y3, y4, y5, y6] = bad7 i ([y1, y2, y3, y4, y5, y6].drop i))
      ⟨none, none, rfl, Same.refl _, rfl⟩ (fun i σ H' ⟨_, _, _, s, _⟩ => ⟨T.sw H', SqT.of (s _ _ upd_same)⟩) ?_ ?_⟩⟩
    · rintro i a b Tq σ H1 ha hb' ⟨v8, v9, rfl, s, hbd⟩ hT
      rw [List.getElem?_map] at ha
      cases ea : six[i]? with
      | none => rw [ea] at ha; cases ha
      | some x1 =>
        rw [ea] at ha
        obtain rfl := Option.some.inj ha
        refine ⟨_, _, rfl, SqT.of upd_same, rfl, _, _, rfl, _, _, rfl, rfl, ?_⟩
        have s' := s.trans (Same.new (o := .tup [.str x1, b]) hT)
        obtain ⟨d, ho⟩ := hov b (List.mem_of_getElem? hb')
        have hd := bad7_drop hb' i
        walk_at "rsl"
        refine ⟨i, x1, b, d, rfl, ea, ho.same (s0.trans s'), _, rfl, ?_⟩
        cases hk : ok7 i b with
        | false =>
          rw [hk, if_neg Bool.noConfusion] at hd
          exact ⟨_, rfl, fun dd hdd => hE b (hbd.trans hd) _ dd (s0.trans s') hdd⟩
        | true =>
          rw [hk, if_pos rfl] at hd
          rw [if_neg Bool.noConfusion]
          exact ⟨s', by rw [if_pos rfl]⟩
    · rintro σ H1 ⟨v8, v9, rfl, s, hbd⟩
      obtain ⟨B, hb, he⟩ := bad7_none (xs := [y1, y2, y3, y4, y5, y6]) rfl hbd
      have hx1 := s _ _ (s0 _ _ hx)
      have ht1 := s _ _ (upd_same (H := H) (a := g) (o := .tup [y1, y2, y3, y4, y5, y6]))
      have hgx : g ≠ x := fun e => by rw [e, hx] at hg; cases hg
      walk_at "rsl"
      refine ⟨by decide, hQ B hb he _ (SameX.upd (Same.toX (s0.trans s))) ⟨hb, dx, g, ?_, ?_⟩⟩
      · rw [upd_same]; rfl
      · rw [upd_ne hgx]; rw [← he]; exact ht1
def sp_Book___getitem__R (K : Frag) : Sp := fun vs H Q E => ∃ (b : Addr) (B : Bk) (x : V) (d : PyData), vs = [.ref b, x] ∧ BkAt K H b B ∧ Ov H x d ∧ sw7 x = false ∧ ∀ dd, H dd = none → E (.ref (ga K "InvalidSwitch")) (some dd) (upd H dd (.xd [("value", x)]))
theorem in_Book___getitem__R (K : Frag) : InsAt (ga K "Book") (sp_Book___getitem__R K) := fun vs H Q E ⟨b, B, x, d, e, ⟨_, dx, t, h, _⟩, _⟩ => ⟨b, dx, _, _, e, h⟩
def t_Book___getitem__R (K : Frag) (w : World) (E : XK) : TS :=
  (tSeq (tIfS (tNot (tB (tFn (sp_is_switchA K) E0 (tCons (tVar 1) tNil)))) (tRz E (ga K "InvalidSwitch") "value" (tVar 1)) tNext)
  (tRet (tOp rIxTH (tFld K (tVar 0) "kept_values") (tBM K "tuple" (rTupIx K) (tC (.ref (ga K "SWITCHES"))) (tCons (tVar 1) tNil)))))
def n_Book___getitem__R : List Str := ["self", "switch"]
theorem rd_Book___getitem__R (vs : List V) (H : Hp) (Q : VK) (E : XK) (h : sp_Book___getitem__R K vs H Q E) : t_Book___getitem__R K w E { nx := fun _ H' => Q .non H', rt := Q } (L2.start n_Book___getitem__R vs) H := by
  obtain ⟨b, B, x, d, rfl, hB, ho, hs, hE⟩ := h
  unfold t_Book___getitem__R n_Book___getitem__R
  rw [seq1]
  walk_at "rsl"
  refine ⟨x, d, rfl, ho, _, rfl, ?_⟩
  rw [hs]
  exact ⟨_, rfl, fun dd hdd => hE dd hdd⟩
def sp_Book_changedR (K : Frag) : Sp := fun vs H Q E => ∃ (b : Addr) (B : Bk) (x y : V) (d e : PyData), vs = [.ref b, x, y] ∧ BkAt K H b B ∧ Ov H x d ∧ Ov H y e ∧
  ((sw7 x = false ∧ ∀ dd, H dd = none → E (.ref (ga K "InvalidSwitch")) (some dd) (upd H dd (.xd [("value", x)]))) ∨
   ∃ i s, x = .str s ∧ six[i]? = some s ∧ (ok7 i y = false → ∀ dd, H dd = none → E (.ref (ga K "InvalidSwitch")) (some dd) (upd H dd (.xd [("value", y)]))) ∧ (ok7 i y = true → ∀ a H', Same H H' → Q (.ref a) H'))
theorem bws_set {B : Bk} (hb : B.bey < 3) {i : Nat} {s y : Str} (hi : six[i]? = some s) (hy : ok7 i (.str y) = true) : ∃ C : Bk, C.bey < 3 ∧ bws C = (bws B).set i y := by
  obtain ⟨z, e, m⟩ := ok7_of hy
  cases e
  match i with
  | 0 =>
    have m : y ∈ (["down", "up"] : List Str) := m
    simp only [List.mem_cons, List.not_mem_nil, or_false] at m
    rcases m with rfl | rfl
    · exact ⟨{ B with up := false }, hb, rfl⟩
    · exact ⟨{ B with up := true }, hb, rfl⟩
  | 1 =>
    have m : y ∈ (["fire", "move"] : List Str) := m
    simp only [List.mem_cons, List.not_mem_nil, or_false] at m
    rcases m with rfl | rfl
    · exact ⟨{ B with fire := true }, hb, rfl⟩
    · exact ⟨{ B with fire := false }, hb, rfl⟩
  | 2 =>
    have m : y ∈ (["high", "low"] : List Str) := m
    simp only [List.mem_cons, List.not_mem_nil, or_false] at m
    rcases m with rfl | rfl
    · exact ⟨{ B with high := true }, hb, rfl⟩
    · exact ⟨{ B with high := false }, hb, rfl⟩
  | 3 =>
    have m : y ∈ (["now", "put"] : List Str) := m
    simp only [List.mem_cons, List.not_mem_nil, or_false] at m
    rcases m with rfl | rfl
    · exact ⟨{ B with put := false }, hb, rfl⟩
    · exact ⟨{ B with put := true }, hb, rfl⟩
  | 4 =>
    have m : y ∈ (["now", "one"] : List Str) := m
    simp only [List.mem_cons, List.not_mem_nil, or_false] at m
    rcases m with rfl | rfl
    · exact ⟨{ B with zone := false }, hb, rfl⟩
    · exact ⟨{ B with zone := true }, hb, rfl⟩
  | 5 =>
    have m : y ∈ (["refuse", "last", "cut"] : List Str) := m
    simp only [List.mem_cons, List.not_mem_nil, or_false] at m
    rcases m with rfl | rfl | rfl
    · exact ⟨{ B with bey := 0 }, (show 0 < 3 by decide), rfl⟩
    · exact ⟨{ B with bey := 1 }, (show 1 < 3 by decide), rfl⟩
    · exact ⟨{ B with bey := 2 }, (show 2 < 3 by decide), rfl⟩
  | i + 6 => cases hi
theorem sw7_of {i : Nat} {s : Str} (h : six[i]? = some s) : sw7 (.str s) = true ∧ i < 6 ∧ ∀ m, m < i → six[m]? ≠ some s := by
  have hi : i < 6 := (List.getElem?_eq_some_iff.mp h).1
  have key : ∀ i, i < 6 → ∀ s, six[i]? = some s → sw7 (.str s) = true ∧ ∀ m, m < i → six[m]? ≠ some s := by
    intro i hi s e
    rcases (by omega : i = 0 ∨ i = 1 ∨ i = 2 ∨ i = 3 ∨ i = 4 ∨ i = 5) with rfl | rfl | rfl | rfl | rfl | rfl <;> obtain rfl := Option.some.inj e <;> decide +kernel
  exact ⟨(key i hi s h).1, hi, (key i hi s h).2⟩
def t_Book_changedR (K : Frag) (w : World) (E : XK) : TS :=
  (tSeq (tIfS (tNot (tB (tFn (sp_is_switchA K) E0 (tCons (tVar 1) tNil)))) (tRz E (ga K "InvalidSwitch") "value" (tVar 1)) tNext)
  (tSeq (tIfS (tNot (tB (tFn (sp_is_valueB K) E0 (tCons (tVar 1) (tCons (tVar 2) tNil))))) (tRz E (ga K "InvalidSwitch") "value" (tVar 2)) tNext)
  (tSeq (tAsg (tBM K "tuple" (rTupIx K) (tC (.ref (ga K "SWITCHES"))) (tCons (tVar 1) tNil)) (gName 3))
  (tRet (tFn (sp_book_of K) E0 (tCons (tOp (rCatA K) (tOp (rCatA K) (tSl (rSlA K) (tFld K (tVar 0) "kept_values") tNoPart (tPart (tVar 3))) (tTup (tCons (tVar 2) tNil))) (tSl (rSlA K) (tFld K (tVar 0) "kept_values") (tPart (tOp oAdd (tVar 3) (tC (.int 1)))) tNoPart)) tNil))))))
def n_Book_changedR : List Str := ["self", "switch", "value", "at"]
theorem rd_Book_changedR (T : Kh K w) (vs : List V) (H : Hp) (Q : VK) (E : XK) (h : sp_Book_changedR K vs H Q E) : t_Book_changedR K w E { nx := fun _ H' => Q .non H', rt := Q } (L2.start n_Book_changedR vs) H := by
  obtain ⟨b, B, x, y, d, e, rfl, hB, ho, hoy, h⟩ := h
  obtain ⟨hb, dx, t, h1, h2⟩ := hB
  unfold t_Book_changedR n_Book_changedR tBM rTupIx
  rw [seq1]
  walk_at "rsl"
  refine ⟨x, d, rfl, ho, _, rfl, ?_⟩
  rcases h with ⟨hs, hE⟩ | ⟨i, s, rfl, hi, hE, hQ⟩
  · rw [hs]
    exact ⟨_, rfl, fun dd hdd => hE dd hdd⟩
  obtain ⟨e1, e2, e3⟩ := sw7_of hi
  rw [e1, if_neg Bool.noConfusion, seq1]
  walk_at "rsl"
  refine ⟨i, s, y, e, rfl, hi, hoy, _, rfl, ?_⟩
  cases hk : ok7 i y with
  | false => exact ⟨_, rfl, fun dd hdd => hE hk dd hdd⟩
  | true =>
    obtain ⟨y6, rfl, _⟩ := ok7_of hk
    obtain ⟨C, h3, hC⟩ := bws_set (B := B) hb hi hk
    rw [if_neg Bool.noConfusion, seq1]
    walk_at "rsl"
    refine ⟨.inr (.inl ⟨rfl, T.nod⟩), six, T.kf.sw H, i, hi, e3, ?_⟩
    unfold tSl tPart tNoPart
    walk_at "rsl"
    refine ⟨T.kf.cB, T.kf.nBv, ciTo h2 fun r1 H1 s1 g1 p hp => ?_⟩
    have s2 := s1.trans (Same.new (o := .tup [.str y6]) hp)
    refine ciCat ((Same.new (o := .tup [.str y6]) hp) _ _ g1) upd_same (by rw [List.length_take, List.length_map, bws_len]; show _ + 1 ≤ 1000; omega) fun r2 H2 s3 g2 => ?_
    have s23 := s2.trans s3
    refine ⟨_, _, _, s23 _ _ h1, T.kf.cB, T.kf.nBv, _, rfl, ?_⟩
    rw [show (i : Int) + 1 = ((i + 1 : Nat) : Int) from rfl]
    refine ciFrom (s23 _ _ h2) (by rw [List.length_map, bws_len]; exact e2) fun r3 H3 s4 g3 => ciCat (s4 _ _ g2) g3 (by rw [List.length_append, List.length_take, List.length_drop, List.length_map, bws_len]; show _ + 1 + _ ≤ 1000; omega) fun r4 H4 s5 g4 => ?_
    have e : List.take i ((bws B).map V.str) ++ [V.str y6] ++ List.drop (i + 1) ((bws B).map V.str) = (bws C).map V.str := by
      rw [hC, ← List.map_take, ← List.map_drop, List.set_eq_take_append_cons_drop, if_pos (by rw [bws_len]; exact e2)]
      simp
    rw [e] at g4
    exact ⟨r4, C, rfl, h3, .inr g4, fun a H' s z => hQ hk a H' (s23.trans (s4.trans (s5.trans s)))⟩
def okT7 (t : Str) : Bool := decide ((Txt.split t " ").length = 6) && (bad7 0 ((Txt.split t " ").map V.str)).isNone
def tx7 (x : V) : Bool := match x with
  | .str t => okT7 t
  | _ => false
def sp_Book_from_textR (K : Frag) : Sp := fun vs H Q E => ∃ (x : V) (d : PyData), vs = [.ref (ga K "Book"), x] ∧ Ov H x d ∧ (∀ t, x = .str t → t.length ≤ 1000) ∧ tx7 x = false ∧ ∀ H' dd, Same H H' → H' dd = none → E (.ref (ga K "InvalidText")) (some dd) (upd H' dd (.xd [("value", x)]))
def t_Book_from_textR (K : Frag) (w : World) (E : XK) : TS :=
  (tSeq (tIfS (tNot (tB (tCB (rIsi K) (tCons (tVar 1) (tCons (tC (.ty "str")) tNil))))) (tRz E (ga K "InvalidText") "value" (tVar 1)) tNext)
  (tSeq (tAsg (tM1 oSplit (tVar 1) (tC (.str " "))) (gName 2))
  (tSeq (tIfS (tTest (tOp rNe (tCB rLenLH (tCons (tVar 2) tNil)) (tCB (oLen K) (tCons (tC (.ref (ga K "SWITCHES"))) tNil)))) (tRz E (ga K "InvalidText") "value" (tVar 1)) tNext)
  (tSeq (tFor (iZm K (tCons (tC (.ref (ga K "SWITCHES"))) (tCons (tVar 2) tNil))) (gTup K 2 (gCons (gName 3) (gCons (gName 4) gNil)))
    (tIfS (tNot (tB (tFn (sp_is_valueB K) E0 (tCons (tVar 3) (tCons (tVar 4) tNil))))) (tRz E (ga K "InvalidText") "value" (tVar 1)) tNext))
  (tRet (tFn (sp_book_of K) E0 (tCons (tVar 2) tNil)))))))
def n_Book_from_textR : List Str := ["cls", "text", "words", "switch", "word"]
theorem rd_Book_from_textR (T : Kfb K w) (vs : List V) (H : Hp) (Q : VK) (E : XK) (h : sp_Book_from_textR K vs H Q E) : t_Book_from_textR K w E { nx := fun _ H' => Q .non H', rt := Q } (L2.start n_Book_from_textR vs) H := by
  obtain ⟨x, d, rfl, ho, hlen, hbad, hE⟩ := h
  unfold t_Book_from_textR n_Book_from_textR tM1 oSplit oLen rNewStrs
  rw [seq1]
  walk_at "rsl"
  refine ho.isS ⟨_, rfl, ?_⟩
  cases z : strD d with
  | false => exact ⟨_, rfl, fun dd hdd => hE H dd (Same.refl _) hdd⟩
  | true =>
  obtain ⟨t, rfl, _⟩ := ho.str z
  have hlen := hlen t rfl
  rw [if_neg Bool.noConfusion, seq1]
  walk_at "rsl"
  refine ⟨rfl, (by have : sizeLine = 16777216 := rfl; omega), fun l hl => ?_⟩
  have s0 := Same.new (o := .lst ((Txt.split t " ").map V.str)) hl
  have hbad : okT7 t = false := hbad
  unfold okT7 at hbad
  generalize Txt.split t " " = ps at *
  rw [seq1]
  walk_at "rsl"
  refine ⟨_, .inr (T.sw _), ?_⟩
  by_cases h6 : ps.length = 6
  case neg =>
    rw [if_pos (fun z => h6 (by have z : ((ps.length : Nat) : Int) = (6 : Nat) := z; omega))]
    exact ⟨_, rfl, fun dd hdd => hE _ dd s0 hdd⟩
  rw [if_neg (fun z => z (by rw [h6]; rfl)), seq1]
  refine ⟨_, rfl, _, _, _, _, rfl, T.sw _, SqL.of upd_same, for_zm (K := K) (a := ga K "SWITCHES") (b := l) (xs := six.map V.str) (ys := ps.map V.str) (by rw [List.length_map, List.length_map, h6]; rfl)
    (fun i σ H' => ∃ v8 v9, σ = [some (.ref (ga K "Book")), some (.str t), some (.ref l), v8, v9] ∧ Same (upd H l (.lst (ps.map V.str))) H' ∧ bad7 0 (ps.map V.str) = bad7 i ((ps.map V.str).drop i))
    ⟨none, none, rfl, Same.refl _, rfl⟩ (fun i σ H' ⟨_, _, _, s, _⟩ => ⟨T.sw H', SqL.of (s _ _ upd_same)⟩) ?_ ?_⟩
  · rintro i a b Tq σ H1 ha hb' ⟨v8, v9, rfl, s, hbd⟩ hT
    have hd := bad7_drop hb' i
    rw [List.getElem?_map] at ha hb'
    cases ea : six[i]? with
    | none => rw [ea] at ha; cases ha
    | some x1 =>
      cases eb : ps[i]? with
      | none => rw [eb] at hb'; cases hb'
      | some y1 =>
        rw [ea] at ha
        rw [eb] at hb'
        obtain rfl := Option.some.inj ha
        obtain rfl := Option.some.inj hb'
        refine ⟨_, _, rfl, SqT.of upd_same, rfl, _, _, rfl, _, _, rfl, rfl, ?_⟩
        have s' := s.trans (Same.new (o := .tup [.str x1, .str y1]) hT)
        have sa := s0.trans s'
        generalize upd H1 Tq (.tup [.str x1, .str y1]) = H2 at *
        cases hk : ok7 i (.str y1) with
        | false =>
          clear hd hbd
          walk_at "rsl"
          exact ⟨i, x1, .str y1, .str y1, rfl, ea, .at_ rfl, _, rfl, by rw [hk]; exact ⟨_, rfl, fun dd hdd => hE _ dd sa hdd⟩⟩
        | true =>
          rw [hk, if_pos rfl] at hd
          have hbd := hbd.trans hd
          clear hd
          refine ⟨_, rfl, _, rfl, i, x1, .str y1, .str y1, rfl, ea, .at_ rfl, _, rfl, ?_⟩
          rw [hk]
          exact ⟨_, _, rfl, s', hbd⟩
  · rintro σ H1 ⟨v8, v9, rfl, s, hbd⟩
    rw [List.drop_eq_nil_of_le (by rw [List.length_map, List.length_map, h6]; exact Nat.le_refl 6)] at hbd
    rw [h6, hbd] at hbad
    cases hbad
end
end Tw
/-! Tw: texts as data: their repr -/
namespace Tw
open PySem PySem.Spec PyProof.Rows L2
def TxOk (s : PySem.Str) : Prop := (∀ c ∈ s.cps.toList, c < 1114112) ∧ s.length ≤ 100000
theorem ch_lt (c : Char) : c.toNat < 1114112 := by
  have hv := c.valid
  have e : c.toNat = c.val.toNat := rfl
  rw [e]
  rcases hv with h | ⟨_, h⟩
  · exact Nat.lt_trans h (by decide)
  · exact h
theorem reprChar_lt {q c : Nat} (hq : q < 1114112) (hc : c < 1114112) : ∀ e ∈ Builtin.Str.reprChar q c, e < 1114112 := by
  have hx : ∀ w e, e ∈ (List.replicate (w - ((Nat.toDigits 16 c).map Char.toNat).length) 48 ++ (Nat.toDigits 16 c).map Char.toNat) → e < 1114112 := fun w e he => by
    rcases List.mem_append.mp he with h | h
    · rw [(List.mem_replicate.mp h).2]; decide
    · obtain ⟨x, _, rfl⟩ := List.mem_map.mp h
      exact ch_lt x
  intro e he
  unfold Builtin.Str.reprChar at he
  dsimp only at he
  repeat' split at he
  all_goals simp only [List.mem_append, List.mem_cons, List.not_mem_nil, or_false] at he
  all_goals first
    | (rcases he with rfl | rfl <;> omega)
    | (subst he; exact hc)
    | (rcases he with (rfl | rfl) | h
       · decide
       · decide
       · exact hx _ e (List.mem_append.mpr h))
theorem foldl_repr_lt {q : Nat} (hq : q < 1114112) : ∀ (l : List Nat) (acc : Array Nat), (∀ c ∈ l, c < 1114112) → (∀ e ∈ acc.toList, e < 1114112) → ∀ e ∈ (l.foldl (fun out c => out ++ (Builtin.Str.reprChar q c).toArray) acc).toList, e < 1114112
  | [], acc, _, ha => ha
  | c :: r, acc, h, ha => by
    refine foldl_repr_lt hq r _ (fun d hd => h d (List.mem_cons_of_mem _ hd)) fun e he => ?_
    rw [Array.toList_append, List.mem_append] at he
    rcases he with he | he
    · exact ha e he
    · exact reprChar_lt hq (h c List.mem_cons_self) e (by simpa using he)
theorem reprQuote_lt (x : PySem.Str) : PySem.reprQuote x < 1114112 := by
  unfold PySem.reprQuote
  split <;> decide
theorem strOk_repr {x : PySem.Str} (h : ∀ c ∈ x.cps.toList, c < 1114112) : PySem.PyData.strOk (PySem.reprText x) = true := by
  unfold PySem.PyData.strOk
  rw [Array.all_eq_true']
  intro e he
  have he : e ∈ ((x.cps.foldl (fun out c => out ++ (Builtin.Str.reprChar (PySem.reprQuote x) c).toArray) #[PySem.reprQuote x]).push (PySem.reprQuote x)) := he
  rw [← Array.foldl_toList, ← Array.mem_toList_iff, Array.toList_push, List.mem_append] at he
  have : e < 1114112 := by
    rcases he with he | he
    · exact foldl_repr_lt (reprQuote_lt x) _ _ h (fun z hz => by
        have : z = PySem.reprQuote x := by simpa using hz
        rw [this]; exact reprQuote_lt x) e he
    · rw [List.mem_singleton.mp he]
      exact reprQuote_lt x
  exact decide_eq_true this
theorem okD_str {x : PySem.Str} (h : TxOk x) : OkD (.str x) := by
  have e : (PyData.str x).shown = PySem.reprText x := PyData.shown_str x
  refine ⟨.inr ⟨rfl, rfl, (show 0 ≤ 16 by decide), ?_⟩, ?_⟩
  · rw [e]
    have := StrLaws.reprText_len x fun c hc => Nat.lt_of_lt_of_le (h.1 c hc) (by decide)
    have h6 : sizeLine = 16777216 := rfl
    have := h.2
    omega
  · rw [e]
    exact strOk_repr h.1
/-! sorted texts -/
/-! joined signs -/
end Tw
/-! Tw: texts of lists of rows -/
namespace Tw
open PySem PySem.Spec PyProof.Rows L2 He TwM StX
open PySem.W (Frag)
section
variable {K : Frag} {H : Hp}
theorem sum_piled : ∀ ts : List Str, (ts.map (·.length)).sum + 2 * ts.length = piled ts
  | [] => rfl
  | t :: ts => by
    rw [piled_cons, ← sum_piled ts, List.map_cons, List.sum_cons, List.length_cons]
    omega
theorem list_text (ts : List Str) : (listText ts).length ≤ piled ts + 2 := by
  have h := textFrom_len_le ts 0 "["
  have e := sum_piled ts
  unfold listText
  rw [strLen_append]
  have e1 : ((("[" : String) : Str)).length = 1 := rfl
  have e2 : ((("]" : String) : Str)).length = 1 := rfl
  omega
def dRow (l : Lv) : PyData := .tuple [.int l.g, .int l.s, .int l.p]
def RwB (l : Lv) : Prop := l.g.natAbs.log2 < 1920 ∧ l.s.natAbs.log2 < 1920 ∧ l.p.natAbs.log2 < 1920
theorem RwB.ints {l : Lv} (h : RwB l) : ∀ x ∈ [l.g, l.s, l.p], x.natAbs.log2 < 1920 := fun x hx => by
  simp only [List.mem_cons, List.not_mem_nil, or_false] at hx
  rcases hx with rfl | rfl | rfl
  · exact h.1
  · exact h.2.1
  · exact h.2.2
theorem row_shown {l : Lv} (h : RwB l) : (dRow l).shown.length ≤ 6000 := by
  have h1 := piled_ints [l.g, l.s, l.p] h.ints
  have h3 := fmt_text (PyData.shownAll ([l.g, l.s, l.p].map PyData.int))
  show (tupleText (PyData.shownAll ([l.g, l.s, l.p].map PyData.int))).length ≤ 6000
  have h4 : [l.g, l.s, l.p].length = 3 := rfl
  omega
theorem shown_rows : ∀ W : List Lv, (∀ l ∈ W, RwB l) → PyData.showableAll (W.map dRow) = true
  | [], _ => rfl
  | l :: W, h => by
    rw [List.map_cons]
    show (PyData.showable (dRow l) && PyData.showableAll (W.map dRow)) = true
    rw [shown_rows W fun y hy => h y (List.mem_cons_of_mem _ hy), Bool.and_true]
    exact shown_ints_all [l.g, l.s, l.p] (h l List.mem_cons_self).ints
theorem hasDict_rows : ∀ W : List Lv, PyData.hasDictAll (W.map dRow) = false
  | [] => rfl
  | l :: W => by
    rw [List.map_cons]
    show (PyData.hasDict (dRow l) || PyData.hasDictAll (W.map dRow)) = false
    rw [hasDict_rows W]
    rfl
theorem depth_rows : ∀ W : List Lv, PyData.depthAll (W.map dRow) ≤ 1
  | [] => Nat.zero_le _
  | l :: W => by
    rw [List.map_cons]
    show max (PyData.depth (dRow l)) (PyData.depthAll (W.map dRow)) ≤ 1
    have := depth_rows W
    have : PyData.depth (dRow l) ≤ 1 := Nat.le_refl _
    omega
theorem piled_rows : ∀ W : List Lv, (∀ l ∈ W, RwB l) → piled (PyData.shownAll (W.map dRow)) ≤ 6002 * W.length
  | [], _ => Nat.le_refl _
  | l :: W, h => by
    have ih := piled_rows W fun y hy => h y (List.mem_cons_of_mem _ hy)
    have h1 := row_shown (h l List.mem_cons_self)
    rw [List.map_cons]
    show piled ((dRow l).shown :: PyData.shownAll (W.map dRow)) ≤ _
    rw [piled_cons, List.length_cons]
    omega
theorem repr_rows {v : V} {W : List Lv} {Q : VK} (hd : Dp K H v (.list (W.map dRow))) (hl : W.length ≤ 2000) (hb : ∀ l ∈ W, RwB l) (q : Q (.str (PyData.list (W.map dRow)).shown) H) : rReprG K [v] H Q := by
  refine ⟨v, _, rfl, hd, shown_rows W hb, hasDict_rows W, ?_, ?_, q⟩
  · have := depth_rows W
    show PyData.depthAll (W.map dRow) + 1 ≤ 16
    omega
  · have h1 := piled_rows W hb
    have h2 := list_text (PyData.shownAll (W.map dRow))
    have h3 : sizeLine = 16777216 := rfl
    show (listText (PyData.shownAll (W.map dRow))).length ≤ sizeLine
    omega
end
end Tw
/-! Tw: room for comparisons of data of some depth -/
namespace Tw
open PySem PySem.Spec PyProof.Rows L2
theorem ul65 {k : Nat} {A : Around} (r : Room k A) : A.units + 65 < cLine := by have := r.un; omega
end Tw
/-! Tw: what k07's law draws and looks up -/
namespace Tw
open PySem PySem.Spec PyProof.Rows L2 He TwM StX LamX
open PySem.W (Frag)
local macro_rules | `(tactic| walk_at "rsl") => `(tactic| simp only [*, at3_0, at3_1, at3_2, at2_0, at2_1, updS, upd_two, gSub, L2.rSetL, updN, tPar, tPar3, gTup, gCons, gNil, and_assoc, not_true_eq_false, not_false_eq_true, tNever, List.length_map, tFld, rIxTH, rIxLH, rLenTH, rLenLH, lk1, lfs_g, lfs_s, lfs_p, HO.ins.injEq, HO.tup.injEq, HO.lst.injEq, sp_Book_rounding, sp_Book_action, sp_Book_order, sp_Book_due, sp_Book_zero, sp_Book_beyond, Int.toNat_natCast, sp_visit_after, sp_is_visited, sp_Level_grain, sp_Level_slots, sp_Level_span, sp_Wheel_reach, sp_Wheel___len__, sp_is_integer, sp_is_count, sp_is_within, sp_rounded, tAsg, gName, tVar, tC, tOp, rI, rI0, rU, tUn, oAdd, oSub, oMul, oDiv, oMod, oNeg, oLt, oLe, oGt, oGe, oIsN, oNotN, tFn, tCons, tNil, tIfS, tIf, tTest, tB, tNot, tAnd, tOr, tAndV, tOrV, tNotV,
    tRet, tRetN, tNext, tCB, tDrop, tChain, rEq, rNe, oMax2, oMin2, oInt1, rLenF, L2.start, List.map_cons, List.map_nil, List.length_cons, List.length_nil, List.replicate_succ, List.replicate_zero, List.cons_append, List.nil_append, Nat.reduceAdd, Nat.reduceSub, Nat.zero_add,
    List.set_cons_zero, List.set_cons_succ, List.getElem?_cons_zero, List.getElem?_cons_succ, Option.some.injEq, V.int.injEq, V.ref.injEq, V.str.injEq, V.bl.injEq, exists_eq_left', exists_eq_left, exists_and_left, List.cons.injEq, and_true, true_and, decide_eq_true_eq, sc_ii, sc_ss, sc_bb, sc_ni, sc_in, sc_nn, sc_is, reduceCtorEq,
    Bool.not_eq_true', decide_eq_false_iff_not, if_true, if_false, Bool.false_eq_true, exists_eq', exists_const, false_and, and_false, or_false, false_or, exists_false, Bool.not_not, Bool.not_true, Bool.not_false, sUp_up, sFire_fire, sHigh_high, sPut_put, sZone_now, sBey_refuse, sBey_cut, tTup, tLst, sz0, sz1, sz2, sz3, sz4, sz5, sz6])
local macro_rules | `(tactic| walk_at "st") => `(tactic| ((try dsimp only); rw [seq1]; walk_at "rsl"))
section
variable {X : Cx} {pins : List (Addr × Obj)} {σ : L2.St} {H : Hp} {s : Shared}
theorem Ov.reads (I : Inv X pins σ H s) {x : V} {d : PyData} {u : Value} (h : Ov H x d) (r : RelV x u) : ∃ as, Reads s.heap u d as := by
  cases h with
  | at_ h =>
    refine Dp.reads I d x u ?_ r
    cases x with
    | non => cases h; exact .non
    | bl b => cases h; exact .bl b
    | int i => cases h; exact .int i
    | str y => cases h; exact .str y
    | _ => cases h
  | tup h f => exact Dp.reads I _ _ u (.tup (SqT.of h) (flD_dp f)) r
  | lst h f => exact Dp.reads I _ _ u (.lst (SqL.of h) (flD_dp f)) r
  | @dict a ha =>
    cases r
    have hx : ObjOk X.prog X.w H s.heap a (.dK []) := I.hok a _ ha
    obtain ⟨_, _, vs, hkv, ho⟩ := hx
    cases hkv
    obtain ⟨o, es, ep, ho, hex, hd, _, hp, _⟩ := ho
    have hes : es = #[] := by
      cases h0 : es.toList with
      | nil => exact Array.toList_inj.mp h0
      | cons x l => rw [h0] at hp; cases hp
    subst hes
    exact ⟨_, .dict (kvs := []) ho hex.1 hd .nil .nil⟩
open AutoSeq1 (wpAny_loadPart') in
theorem str_no_dict (b : Str) (u : Tok) (l : Addr) (c : Value) (es : Array DictEntry) (n : Nat) (dd : Option Addr) (sl : Array (Option Value)) :
    Meets (Builtin.«str.__eq__» ⟨[.str b u, .ref l], []⟩) (fun _ R s => s.heap.get? l = some { cls := c, dict := dd, data := .dict es n, slots := sl } ∧ R (.ok (.ret .notImplemented)) s) :=
  .of_wp fun prog w A R s h => by obtain ⟨hp, g, d, tk, os⟩ := s; obtain ⟨hl, h⟩ := h; wp_walk using wpAny_loadPart' hl, wpAny_load hl; exact ⟨_, rfl, h⟩
open AutoSeq1 (wpAny_loadPart') in
theorem dict_no_str (l : Addr) (b : Str) (u : Tok) (es : Array DictEntry) (n : Nat) (dd : Option Addr) (sl : Array (Option Value)) :
    Meets (Builtin.«dict.__eq__» ⟨[.ref l, .str b u], []⟩) (fun _ R s => s.heap.get? l = some { cls := .type "dict", dict := dd, data := .dict es n, slots := sl } ∧ R (.ok (.ret .notImplemented)) s) :=
  .of_wp fun prog w A R s h => by
    obtain ⟨hp, g, d, tk, os⟩ := s
    obtain ⟨hl, h⟩ := h
    have f1 := PySem.F.sub_str_dict
    show wpAny _ _ (Builtin.Dict.dictSlotArgs "__eq__" ⟨[.ref l, .str b u], []⟩ >>= _) _ _ _
    unfold Builtin.Dict.dictSlotArgs
    wp_walk using wpAny_loadPart' hl, wpAny_load hl
    exact ⟨_, rfl, h⟩
theorem eq_str_dict {A : Around} {s : Shared} {l : Addr} {o : Obj} {es : Array DictEntry} {n : Nat} (b : Str) (u : Tok) (ho : s.heap.get? l = some o) (hc : o.cls = .type "dict") (hd : o.data = .dict es n) (hu : A.units < cLine) : SeqAt.EqAt A s (.str b u) (.ref l) false := fun prog w E Q h => by
  obtain ⟨cls, dd, data, sl⟩ := o
  simp only at hc hd
  subst hc hd
  unfold eqBool
  refine wpAny_holding ?_
  refine wpAny_ite_split (fun hab => absurd (eq_of_beq hab) nofun) (fun _ => ?_)
  refine wpAny_bind (SeqAt.rc_eq_decline_or (k := false) (typeIs_str s b u) ⟨_, ho, rfl⟩ (by decide) PySem.F.sub_dict_str PySem.F.slot_str_eq PySem.F.slot_dict_eq_refl
    (fun _ hq => call_meets PySem.F.slot_str_eq (typeIs_str s b u) PySem.F.entry_str_eq (PySem.F.args_str_eq_2 _ _) (str_no_dict b u l (.type "dict") es n dd sl) ⟨ho, hq⟩)
    (fun _ hq => call_meets PySem.F.slot_dict_eq_refl ⟨_, ho, rfl⟩ PySem.F.entry_dict_eq (PySem.F.args_dict_eq_2 _ _) (dict_no_str l b u es n dd sl) ⟨ho, hq⟩)
    (fun _ hq => wpAny_of_eq (rfl : isSame (.str b u) (.ref l) = pure false) hq) (.inr hu) (wpAny_truthy_bool h))
def rNotInX (K : Frag) : R2 := fun x y H Q => ∃ (d : PyData) (ss : List Str) (p : Addr), y = .ref p ∧ Ov H x d ∧ SqT K H p (ss.map V.str) ∧ ((d = .dict [] ∧ Q (.bl true) H) ∨
  (d.canLay0 = true ∧ PyData.canLayAll0 (ss.map PyData.str) = true ∧ PyData.depthAll (ss.map PyData.str) ≤ 8 ∧ Q (.bl (!(ss.map PyData.str).any fun z => PyData.eqv z d)) H))
theorem dp_strs (K : Frag) (H : Hp) : ∀ ss : List Str, DpAll K H (ss.map V.str) (ss.map PyData.str)
  | [] => .nil
  | s :: ss => .cons (.str s) (dp_strs K H ss)
theorem strs_vals : ∀ {ss : List Str} {us : List Value}, Vals (ss.map V.str) us → ∀ z ∈ us, ∃ b u, z = Value.str b u
  | [], _, h, z, hz => by cases h; cases hz
  | s :: ss, _, h, z, hz => by
    cases h with
    | cons h1 h2 =>
      rcases List.mem_cons.mp hz with rfl | hz
      · obtain ⟨t, rfl⟩ := (show ∃ t, _ = Value.str s t from h1)
        exact ⟨_, _, rfl⟩
      · exact strs_vals h2 z hz
theorem op_notInX (hu : X.A.units + 65 < cLine) : OpR X (compareOp .NotIn) (rNotInX X.K) := by
  intro pins s σ H x y v u Q I rx ry h
  obtain ⟨d, ss, p, rfl, hd, hq, ⟨rfl, q⟩ | ⟨cd, cs, hz, q⟩⟩ := h
  · cases ry
    obtain ⟨its, r, pl, _⟩ := I.tuple hq
    cases hd with
    | at_ h => cases x <;> cases h
    | @dict a ha =>
      cases rx
      have hx : ObjOk X.prog X.w H s.heap a (.dK []) := I.hok a _ ha
      obtain ⟨_, _, vs, hkv, ho⟩ := hx
      obtain ⟨o, es, ep, ho, hex, hd, _⟩ := ho
      refine SeqAt.notIn_tupleAt (fun _ => false) pl (fun z hz => ?_) ⟨.bl true, H, I, ?_, q⟩
      · obtain ⟨b, u, rfl⟩ := strs_vals r z (by simpa using hz)
        exact eq_str_dict b u ho hex.1 hd (by show X.A.units + 1 < cLine; omega)
      · have e : (!its.toArray.any fun _ => false) = true := by simp
        rw [e]
        rfl
  · obtain ⟨as, r1⟩ := Ov.reads I hd rx
    obtain ⟨bs, r2⟩ := Dp.reads I (.tuple (ss.map PyData.str)) (.ref p) u (.tup hq (dp_strs X.K H ss)) ry
    exact SeqAt.notIn_tuple_reads r2 r1 cs cd (by omega) ⟨.bl _, H, I, rfl, q⟩
end
section
variable {K : Frag} {w : World}
theorem Same.free {H H1 : Hp} (s : Same H H1) {a : Addr} (h : H1 a = none) : H a = none := by
  cases e : H a with
  | none => rfl
  | some o => rw [s _ _ e] at h; cases h
def Od7 (x : V) (d : PyData) : Prop := OkD d ∧ sw7 x = false ∧ (d = .dict [] ∨ d.canLay0 = true) ∧ ((six.map PyData.str).any fun z => PyData.eqv z d) = false ∧ (∀ t, x = .str t → t.length ≤ 10 ∧ TxOk t)
theorem od7_str {s : Str} (h1 : sw7 (.str s) = false) (h2 : ((six.map PyData.str).any fun z => PyData.eqv z (.str s)) = false) (h3 : s.length ≤ 10) (h4 : (s.cps.all (· < 256)) = true) (h5 : (PyData.str s).canLay0 = true) : Od7 (.str s) (.str s) := by
  have tx : TxOk s := ⟨fun c hc => by
    have := Array.all_eq_true_iff_forall_mem.mp h4 c (Array.mem_toList_iff.mp hc)
    have : c < 256 := by simpa using this
    omega, by omega⟩
  exact ⟨okD_str tx, h1, .inr h5, h2, fun t e => by cases e; exact ⟨h3, tx⟩⟩
def sp__law_odd (K : Frag) : Sp := fun vs H Q _ => ∃ (p l : Addr), vs = [.ref p] ∧ PoolAt H p l ∧ ∀ x d H', SameP p l H H' → PoolAt H' p l → OvP p l H' x d → Od7 x d → (∀ a, x = .ref a → H a = none) → Q x H'
def t__law_odd (K : Frag) (w : World) : TS :=
  (tRet (tOp rIxLH (tLst (tCons (tC (.str "")) (tCons (tC (.str "Down")) (tCons (tC (.str "down")) (tCons (tC (.str "fire")) (tCons (tC (.str "high")) (tCons (tC (.str "put")) (tCons (tC (.str "one")) (tCons (tC (.str "last")) (tCons (tC (.str "now ")) (tCons (tC .non) (tCons (tC (.int 0)) (tCons (tC (.bl true)) (tCons (tTup (tCons (tC (.str "down")) tNil)) (tCons (tLst (tCons (tC (.str "up")) tNil)) (tCons tDNewK tNil)))))))))))))))) (tFn (sp__law_draw K) E0 (tCons (tVar 0) (tCons (tC (.int 15)) tNil)))))
def n__law_odd : List Str := ["_law_pool"]
theorem rd__law_odd (vs : List V) (H : Hp) (Q : VK) (E : XK) (h : sp__law_odd K vs H Q E) : t__law_odd K w { nx := fun _ H' => Q .non H', rt := Q } (L2.start n__law_odd vs) H := by
  obtain ⟨p, l, rfl, hp, q⟩ := h
  unfold t__law_odd n__law_odd tDNewK
  walk_at "rsl"
  refine fun T hT B hB D hD => ⟨(show 15 ≤ 16777216 by decide), fun L hL => ?_⟩
  have z1 := Same.new (o := .tup [V.str "down"]) hT
  have T1 := updS H T (.tup [V.str "down"])
  have a1 := hp.apart hT
  have p1 := hp.same z1
  generalize upd H T (.tup [V.str "down"]) = H1 at *
  have z2 := Same.new (o := .lst [V.str "up"]) hB
  have B2 := updS H1 B (.lst [V.str "up"])
  have a2 := p1.apart hB
  have nB := z1.free hB
  have p2 := p1.same z2
  generalize upd H1 B (.lst [V.str "up"]) = H2 at *
  have z3 := Same.new (o := .dK []) hD
  have D3 := updS H2 D (.dK [])
  have a3 := p2.apart hD
  have nD := (z1.trans z2).free hD
  have p3 := p2.same z3
  generalize upd H2 D (.dK []) = H3 at *
  have key : ∀ xs : List V, xs = [.str "", .str "Down", .str "down", .str "fire", .str "high", .str "put", .str "one", .str "last", .str "now ", .non, .int 0, .bl true, .ref T, .ref B, .ref D] →
      sp__law_draw K [.ref p, .int 15] (upd H3 L (.lst xs)) (fun y H2 => ∃ x x_3, y = .int x_3 ∧ H2 L = some (.lst x) ∧ ∃ x_4, atI x x_3 = some x_4 ∧ Q x_4 H2) E0 := by
    intro xs hxs
    have z4 := Same.new (o := .lst xs) hL
    have L4 := updS H3 L (.lst xs)
    have a4 := p3.apart hL
    have p4 := p3.same z4
    generalize upd H3 L (.lst xs) = H4 at *
    refine drawOv (Pr := fun x d => Od7 x d ∧ ∀ a, x = .ref a → H a = none) p4 L4 a4.1 a4.2 (by decide) (by decide) (by rw [hxs]; rfl) (fun x hx => ?_) fun x d H5 s5 p5 ho hn => q x d H5 ((Same.toP (((z1.trans z2).trans z3).trans z4)).trans s5) p5 ho hn.1 hn.2
    have off : ∀ {c : Addr}, c ≠ p ∧ c ≠ l → ∀ a, V.ref c = .ref a → a ≠ p ∧ a ≠ l := fun {c} h a e => by cases e; exact h
    have nw : ∀ {c : Addr}, H c = none → ∀ a, V.ref c = .ref a → H a = none := fun {c} h a e => by cases e; exact h
    have nr : ∀ {x : V} {d : PyData}, flD x = some d → ∀ a, x = .ref a → H a = none := fun {x d} h a e => by subst e; cases h
    have ns : ∀ {x : V}, (∀ s, x ≠ .str s) → ∀ t, x = .str t → t.length ≤ 10 ∧ TxOk t := fun h t e => absurd e (h t)
    rw [hxs] at hx
    simp only [List.mem_cons, List.not_mem_nil, or_false] at hx
    rcases hx with rfl | rfl | rfl | rfl | rfl | rfl | rfl | rfl | rfl | rfl | rfl | rfl | rfl | rfl | rfl
    · exact ⟨_, .at_ rfl, od7_str (by decide +kernel) (by decide +kernel) (by decide +kernel) (by decide +kernel) (by decide +kernel), nr rfl⟩
    · exact ⟨_, .at_ rfl, od7_str (by decide +kernel) (by decide +kernel) (by decide +kernel) (by decide +kernel) (by decide +kernel), nr rfl⟩
    · exact ⟨_, .at_ rfl, od7_str (by decide +kernel) (by decide +kernel) (by decide +kernel) (by decide +kernel) (by decide +kernel), nr rfl⟩
    · exact ⟨_, .at_ rfl, od7_str (by decide +kernel) (by decide +kernel) (by decide +kernel) (by decide +kernel) (by decide +kernel), nr rfl⟩
    · exact ⟨_, .at_ rfl, od7_str (by decide +kernel) (by decide +kernel) (by decide +kernel) (by decide +kernel) (by decide +kernel), nr rfl⟩
    · exact ⟨_, .at_ rfl, od7_str (by decide +kernel) (by decide +kernel) (by decide +kernel) (by decide +kernel) (by decide +kernel), nr rfl⟩
    · exact ⟨_, .at_ rfl, od7_str (by decide +kernel) (by decide +kernel) (by decide +kernel) (by decide +kernel) (by decide +kernel), nr rfl⟩
    · exact ⟨_, .at_ rfl, od7_str (by decide +kernel) (by decide +kernel) (by decide +kernel) (by decide +kernel) (by decide +kernel), nr rfl⟩
    · exact ⟨_, .at_ rfl, od7_str (by decide +kernel) (by decide +kernel) (by decide +kernel) (by decide +kernel) (by decide +kernel), nr rfl⟩
    · exact ⟨_, .at_ rfl, ⟨okD_of (by decide +kernel), rfl, .inr (by decide +kernel), by decide +kernel, ns fun s e => by cases e⟩, nr rfl⟩
    · exact ⟨_, .at_ rfl, ⟨okD_of (by decide +kernel), rfl, .inr (by decide +kernel), by decide +kernel, ns fun s e => by cases e⟩, nr rfl⟩
    · exact ⟨_, .at_ rfl, ⟨okD_of (by decide +kernel), rfl, .inr (by decide +kernel), by decide +kernel, ns fun s e => by cases e⟩, nr rfl⟩
    · exact ⟨.tuple [.str "down"], ⟨.tup (z4 _ _ (z3 _ _ (z2 _ _ T1))) rfl, off a1⟩, ⟨okD_of (by decide +kernel), rfl, .inr (by decide +kernel), by decide +kernel, ns fun s e => by cases e⟩, nw hT⟩
    · exact ⟨.list [.str "up"], ⟨.lst (z4 _ _ (z3 _ _ B2)) rfl, off a2⟩, ⟨okD_of (by decide +kernel), rfl, .inr (by decide +kernel), by decide +kernel, ns fun s e => by cases e⟩, nw nB⟩
    · exact ⟨_, ⟨.dict (z4 _ _ D3), off a3⟩, ⟨okD_dict, rfl, .inl rfl, by decide +kernel, ns fun s e => by cases e⟩, nw nD⟩
  exact key _ rfl
def sp__law_values_of (K : Frag) : Sp := fun vs H Q _ => ∃ (k : Nat), vs = [.int (k : Int)] ∧ k < 6 ∧ ∀ a H', Same H H' → H a = none → H' a = some (.lst ((vw7 k).map V.str)) → Q (.ref a) H'
def t__law_values_of (K : Frag) (w : World) : TS :=
  (tSeq (tAsg (tLst (tCons (tLst (tCons (tC (.str "down")) (tCons (tC (.str "up")) tNil))) (tCons (tLst (tCons (tC (.str "fire")) (tCons (tC (.str "move")) tNil))) (tCons (tLst (tCons (tC (.str "high")) (tCons (tC (.str "low")) tNil))) (tCons (tLst (tCons (tC (.str "now")) (tCons (tC (.str "put")) tNil))) (tCons (tLst (tCons (tC (.str "now")) (tCons (tC (.str "one")) tNil))) tNil)))))) (gName 1))
  (tRet (tOp rIxLH (tOp rCat (tVar 1) (tLst (tCons (tLst (tCons (tC (.str "refuse")) (tCons (tC (.str "last")) (tCons (tC (.str "cut")) tNil)))) tNil))) (tVar 0))))
def n__law_values_of : List Str := ["_law_k", "_law_every"]
theorem rd__law_values_of (vs : List V) (H : Hp) (Q : VK) (E : XK) (h : sp__law_values_of K vs H Q E) : t__law_values_of K w { nx := fun _ H' => Q .non H', rt := Q } (L2.start n__law_values_of vs) H := by
  obtain ⟨k, rfl, hk, q⟩ := h
  unfold t__law_values_of n__law_values_of
  rw [seq1]
  walk_at "rsl"
  intro p0 f0
  have s1 := Same.new (o := .lst [V.str "down", V.str "up"]) f0
  have g0 := updS H p0 (.lst [V.str "down", V.str "up"])
  generalize upd H p0 (.lst [V.str "down", V.str "up"]) = H1 at *
  intro p1 f1
  have s2 := Same.new (o := .lst [V.str "fire", V.str "move"]) f1
  have g1 := updS H1 p1 (.lst [V.str "fire", V.str "move"])
  generalize upd H1 p1 (.lst [V.str "fire", V.str "move"]) = H2 at *
  intro p2 f2
  have s3 := Same.new (o := .lst [V.str "high", V.str "low"]) f2
  have g2 := updS H2 p2 (.lst [V.str "high", V.str "low"])
  generalize upd H2 p2 (.lst [V.str "high", V.str "low"]) = H3 at *
  intro p3 f3
  have s4 := Same.new (o := .lst [V.str "now", V.str "put"]) f3
  have g3 := updS H3 p3 (.lst [V.str "now", V.str "put"])
  generalize upd H3 p3 (.lst [V.str "now", V.str "put"]) = H4 at *
  intro p4 f4
  have s5 := Same.new (o := .lst [V.str "now", V.str "one"]) f4
  have g4 := updS H4 p4 (.lst [V.str "now", V.str "one"])
  generalize upd H4 p4 (.lst [V.str "now", V.str "one"]) = H5 at *
  intro p5 f5
  have s6 := Same.new (o := .lst [V.ref p0, V.ref p1, V.ref p2, V.ref p3, V.ref p4]) f5
  have g5 := updS H5 p5 (.lst [V.ref p0, V.ref p1, V.ref p2, V.ref p3, V.ref p4])
  generalize upd H5 p5 (.lst [V.ref p0, V.ref p1, V.ref p2, V.ref p3, V.ref p4]) = H6 at *
  intro p6 f6
  have s7 := Same.new (o := .lst [V.str "refuse", V.str "last", V.str "cut"]) f6
  have g6 := updS H6 p6 (.lst [V.str "refuse", V.str "last", V.str "cut"])
  generalize upd H6 p6 (.lst [V.str "refuse", V.str "last", V.str "cut"]) = H7 at *
  intro p7 f7
  have s8 := Same.new (o := .lst [V.ref p6]) f7
  have g7 := updS H7 p7 (.lst [V.ref p6])
  generalize upd H7 p7 (.lst [V.ref p6]) = H8 at *
  have s17 := s7.trans s8
  have s57 := s6.trans s17
  have s47 := s5.trans s57
  have s37 := s4.trans s47
  have s27 := s3.trans s37
  have sa := s1.trans (s2.trans s27)
  refine ⟨_, _, _, _, rfl, rfl, s17 _ _ g5, g7, (show 6 ≤ 16777216 by decide), fun p8 f8 => ?_⟩
  have s9 := Same.new (o := .lst ([V.ref p0, V.ref p1, V.ref p2, V.ref p3, V.ref p4] ++ [V.ref p6])) f8
  refine ⟨_, rfl, _, updS _ _ _, ?_⟩
  have sz := sa.trans s9
  rcases (by omega : k = 0 ∨ k = 1 ∨ k = 2 ∨ k = 3 ∨ k = 4 ∨ k = 5) with rfl | rfl | rfl | rfl | rfl | rfl
  · exact ⟨_, rfl, q p0 _ sz f0 (s9 _ _ ((s2.trans s27) _ _ g0))⟩
  · exact ⟨_, rfl, q p1 _ sz (s1.free f1) (s9 _ _ (s27 _ _ g1))⟩
  · exact ⟨_, rfl, q p2 _ sz ((s1.trans s2).free f2) (s9 _ _ (s37 _ _ g2))⟩
  · exact ⟨_, rfl, q p3 _ sz ((s1.trans (s2.trans s3)).free f3) (s9 _ _ (s47 _ _ g3))⟩
  · exact ⟨_, rfl, q p4 _ sz ((s1.trans (s2.trans (s3.trans s4))).free f4) (s9 _ _ (s57 _ _ g4))⟩
  · exact ⟨_, rfl, q p6 _ sz ((s1.trans (s2.trans (s3.trans (s4.trans (s5.trans s6))))).free f6) (s9 _ _ (s8 _ _ g6))⟩
def sp__law_made (K : Frag) : Sp := fun vs H Q _ => ∃ (r : Addr) (B : Bk), vs = [.ref r] ∧ H r = some (.lst ((bws B).map V.str)) ∧ B.bey < 3 ∧ ∀ a H', Same H H' → BkAt K H' a B → Q (.ref a) H'
def t__law_made (K : Frag) (w : World) : TS :=
  (tSeq (tAsg (tVar 0) (gUnl K 6 (gCons (gName 1) (gCons (gName 2) (gCons (gName 3) (gCons (gName 4) (gCons (gName 5) (gCons (gName 6) gNil))))))))
  (tRet (tMakeK (ga K "Book") 0 6 (sp_Book___init__ K) gV_Book_rounding_action_order_due_zero_beyond E0 tNil (tCons (tVar 1) (tCons (tVar 2) (tCons (tVar 3) (tCons (tVar 4) (tCons (tVar 5) (tCons (tVar 6) tNil)))))))))
def n__law_made : List Str := ["_law_values", "_law_one", "_law_two", "_law_three", "_law_four", "_law_five", "_law_six"]
theorem rd__law_made (vs : List V) (H : Hp) (Q : VK) (E : XK) (h : sp__law_made K vs H Q E) : t__law_made K w { nx := fun _ H' => Q .non H', rt := Q } (L2.start n__law_made vs) H := by
  obtain ⟨r, B, rfl, hr, hb, q⟩ := h
  unfold t__law_made n__law_made
  rw [seq1]
  refine ⟨_, rfl, r, _, rfl, SqL.of hr, rfl, _, _, rfl, _, _, rfl, _, _, rfl, _, _, rfl, _, _, rfl, _, _, rfl, rfl, ?_⟩
  refine ⟨_, rfl, _, rfl, _, rfl, _, rfl, _, rfl, _, rfl, rfl, rfl, fun x dx hx hd hn => ?_⟩
  exact ⟨x, dx, B, rfl, hb, upd_same, fun H' s z => ⟨rfl, q x H' (SameX.made hx hd s) z⟩⟩
def sp__law_madeR (K : Frag) : Sp := fun vs H Q E => ∃ (r : Addr) (xs : List V), vs = [.ref r] ∧ H r = some (.lst xs) ∧ xs.length = 6 ∧ (∀ y ∈ xs, ∃ d, Ov H y d) ∧
  (∀ v, bad7 0 xs = some v → ∀ H' d, Same H H' → H' d = none → E (.ref (ga K "InvalidSwitch")) (some d) (upd H' d (.xd [("value", v)]))) ∧ (bad7 0 xs = none → ∀ a H', Same H H' → Q (.ref a) H')
def t__law_madeR (K : Frag) (w : World) (E : XK) : TS :=
  (tSeq (tAsg (tVar 0) (gUnl K 6 (gCons (gName 1) (gCons (gName 2) (gCons (gName 3) (gCons (gName 4) (gCons (gName 5) (gCons (gName 6) gNil))))))))
  (tRet (tMakeK (ga K "Book") 0 6 (sp_Book___init__R K) gV_Book_rounding_action_order_due_zero_beyond E tNil (tCons (tVar 1) (tCons (tVar 2) (tCons (tVar 3) (tCons (tVar 4) (tCons (tVar 5) (tCons (tVar 6) tNil)))))))))
def n__law_madeR : List Str := ["_law_values", "_law_one", "_law_two", "_law_three", "_law_four", "_law_five", "_law_six"]
theorem rd__law_madeR (vs : List V) (H : Hp) (Q : VK) (E : XK) (h : sp__law_madeR K vs H Q E) : t__law_madeR K w E { nx := fun _ H' => Q .non H', rt := Q } (L2.start n__law_madeR vs) H := by
  obtain ⟨r, xs, rfl, hr, hl, hov, hE, hQ⟩ := h
  match xs, hl with
  | [y1, y2, y3, y4, y5, y6], hl =>
    unfold t__law_madeR n__law_madeR
    rw [seq1]
    refine ⟨_, rfl, r, _, rfl, SqL.of hr, rfl, _, _, rfl, _, _, rfl, _, _, rfl, _, _, rfl, _, _, rfl, _, _, rfl, rfl, ?_⟩
    refine ⟨_, rfl, _, rfl, _, rfl, _, rfl, _, rfl, _, rfl, rfl, rfl, fun x dx hx hd hn => ?_⟩
    have sm : Same H (upd (upd H dx (.own x)) x (.ins (ga K "Book") dx [])) := SameX.made hx hd (SameX.refl _ _)
    exact ⟨x, dx, [y1, y2, y3, y4, y5, y6], y1, y2, y3, y4, y5, y6, rfl, rfl, upd_same, fun y hy => (hov y hy).imp fun d ho => ho.same sm, fun v hv H' d s hd' => hE v hv H' d (sm.trans s) hd', fun B hb he H' s z => ⟨rfl, hQ (by rw [he]; exact ok7_bws hb) x H' (SameX.made hx hd s)⟩⟩
def sp__law_first_wrong (K : Frag) : Sp := fun vs H Q _ => ∃ (r : Addr) (xs : List V), vs = [.ref r] ∧ H r = some (.lst xs) ∧ xs.length = 6 ∧ (∀ y ∈ xs, ∃ d, Ov H y d ∧ OkD d) ∧
  (bad7 0 xs = none → ∀ H', Same H H' → Q .non H') ∧ (∀ v d, bad7 0 xs = some v → Ov H v d → OkD d → ∀ (R : Addr) H', Same H H' → H' R = some (.lst [.str "switch", .str d.shown]) → Q (.ref R) H')
def t__law_first_wrong (K : Frag) (w : World) : TS :=
  (tSeq (tFor (iRng1 (tCons (tC (.int 6)) tNil)) (gName 1)
    (tIfS (tOr (tNot (tB (tCB (rIsi K) (tCons (tOp rIxLH (tVar 0) (tVar 1)) (tCons (tC (.ty "str")) tNil))))) (tTest (tOp (rIn K true) (tOp rIxLH (tVar 0) (tVar 1)) (tFn (sp__law_values_of K) E0 (tCons (tVar 1) tNil))))) (tRet (tLst (tCons (tC (.str "switch")) (tCons (tCB (rReprE K) (tCons (tOp rIxLH (tVar 0) (tVar 1)) tNil)) tNil)))) tNext))
  (tRet (tC .non)))
def n__law_first_wrong : List Str := ["_law_values", "_law_k"]
theorem rd__law_first_wrong (vs : List V) (H : Hp) (Q : VK) (E : XK) (h : sp__law_first_wrong K vs H Q E) : t__law_first_wrong K w { nx := fun _ H' => Q .non H', rt := Q } (L2.start n__law_first_wrong vs) H := by
  obtain ⟨r, xs, rfl, hr, hl, hov, hN, hW⟩ := h
  unfold t__law_first_wrong n__law_first_wrong
  rw [seq1]
  refine ⟨_, rfl, by decide, by decide, for_range (fun i σ H' => ∃ v1, σ = [some (.ref r), v1] ∧ Same H H' ∧ bad7 0 xs = bad7 i (xs.drop i)) ⟨none, rfl, Same.refl _, rfl⟩ ?_ (fun σ H' hI => ?_)⟩
  · rintro i σ H1 hi ⟨v1, rfl, s, hbd⟩
    rw [gName1]
    obtain ⟨x, hx⟩ : ∃ x, xs[i]? = some x := ⟨_, List.getElem?_eq_getElem (by rw [hl]; omega)⟩
    have hi6 : i < 6 := by omega
    have hat : atI xs (0 + (i : Int)) = some x := by
      obtain ⟨v, hv, e⟩ := atV (xs := xs) (i := (0 + (i : Int))) (by omega) (by rw [hl]; omega)
      rw [show (0 + (i : Int)).toNat = i by omega, hx] at hv
      cases hv
      exact e
    obtain ⟨d, ho, hok⟩ := hov x (List.mem_of_getElem? hx)
    have hd := bad7_drop hx i
    walk_at "rsl"
    have ho1 := ho.same s
    have wr : ok7 i x = false → ∀ H1, Same H H1 → ∃ x0, H1 r = some (HO.lst x0) ∧ ∃ x_2, atI x0 (0 + ↑i) = some x_2 ∧ rReprE K [x_2] H1 fun x H1 => ∀ (p : Addr), H1 p = none → Q (V.ref p) (upd H1 p (HO.lst [V.str (Str.ofString "switch"), x])) := fun hk H1 s => by
      rw [hk, if_neg Bool.noConfusion] at hd
      exact ⟨xs, s _ _ hr, x, hat, (ho.same s).repr hok fun p hp => hW x d (hbd.trans hd) ho hok p _ (s.trans (Same.new hp)) upd_same⟩
    refine ⟨xs, s _ _ hr, x, hat, ho1.isS ⟨_, rfl, ?_⟩⟩
    cases z : strD d with
    | false => exact wr ((ho.no7 z).1 i) _ s
    | true =>
      obtain ⟨y, rfl, _⟩ := ho.str z
      rw [if_neg (fun z => by cases z)]
      refine ⟨xs, s _ _ hr, _, hat, i, by rw [Int.zero_add], hi6, fun a H' sa na ha => ?_⟩
      refine ⟨a, _, rfl, .inl (SqL.of ha), rfl, by rw [List.all_map]; exact List.all_eq_true.mpr fun _ _ => rfl, ?_⟩
      rw [if_pos rfl]
      have e : inV (.str y) ((vw7 i).map V.str) = ok7 i (.str y) := rfl
      rw [e]
      refine ⟨_, rfl, ?_⟩
      cases hk : ok7 i (.str y) with
      | false => exact wr hk _ (s.trans sa)
      | true =>
        rw [hk, if_pos rfl] at hd
        exact ⟨s.trans sa, by rw [if_pos rfl]⟩
  · obtain ⟨v1, rfl, s, hbd⟩ := hI
    rw [List.drop_eq_nil_of_le (by rw [hl]; exact Nat.le_refl 6)] at hbd
    exact hN hbd _ s
end
end Tw
/-! Tw: k07's law looks at a text, and at a book changed -/
namespace Tw
open PySem PySem.Spec PyProof.Rows L2 He TwM StX LamX
open PySem.W (Frag)
local macro_rules | `(tactic| walk_at "rsl") => `(tactic| simp only [*, at3_0, at3_1, at3_2, at2_0, at2_1, updS, upd_two, gSub, L2.rSetL, updN, tPar, tPar3, gTup, gCons, gNil, and_assoc, not_true_eq_false, not_false_eq_true, tNever, List.length_map, tFld, rIxTH, rIxLH, rLenTH, rLenLH, lk1, lfs_g, lfs_s, lfs_p, HO.ins.injEq, HO.tup.injEq, HO.lst.injEq, sp_Book_rounding, sp_Book_action, sp_Book_order, sp_Book_due, sp_Book_zero, sp_Book_beyond, Int.toNat_natCast, sp_visit_after, sp_is_visited, sp_Level_grain, sp_Level_slots, sp_Level_span, sp_Wheel_reach, sp_Wheel___len__, sp_is_integer, sp_is_count, sp_is_within, sp_rounded, tAsg, gName, tVar, tC, tOp, rI, rI0, rU, tUn, oAdd, oSub, oMul, oDiv, oMod, oNeg, oLt, oLe, oGt, oGe, oIsN, oNotN, tFn, tCons, tNil, tIfS, tIf, tTest, tB, tNot, tAnd, tOr, tAndV, tOrV, tNotV,
    tRet, tRetN, tNext, tCB, tDrop, tChain, rEq, rNe, oMax2, oMin2, oInt1, rLenF, L2.start, List.map_cons, List.map_nil, List.length_cons, List.length_nil, List.replicate_succ, List.replicate_zero, List.cons_append, List.nil_append, Nat.reduceAdd, Nat.reduceSub, Nat.zero_add,
    List.set_cons_zero, List.set_cons_succ, List.getElem?_cons_zero, List.getElem?_cons_succ, Option.some.injEq, V.int.injEq, V.ref.injEq, V.str.injEq, V.bl.injEq, exists_eq_left', exists_eq_left, exists_and_left, List.cons.injEq, and_true, true_and, decide_eq_true_eq, sc_ii, sc_ss, sc_bb, sc_ni, sc_in, sc_nn, sc_is, reduceCtorEq,
    Bool.not_eq_true', decide_eq_false_iff_not, if_true, if_false, Bool.false_eq_true, exists_eq', exists_const, false_and, and_false, or_false, false_or, exists_false, Bool.not_not, Bool.not_true, Bool.not_false, sUp_up, sFire_fire, sHigh_high, sPut_put, sZone_now, sBey_refuse, sBey_cut, tTup, tLst, sz0, sz1, sz2, sz3, sz4, sz5, sz6])
local macro_rules | `(tactic| walk_at "st") => `(tactic| ((try dsimp only); rw [seq1]; walk_at "rsl"))
section
variable {K : Frag} {w : World}
abbrev TL7 (K : Frag) : List (Addr × Str) := [(tbA K (ga K "_law_text_right"), (("_law_text_right" : Str) ++ ".<locals>." ++ "<lambda>")), (tbA K (ga K "_law_changes_right"), (("_law_changes_right" : Str) ++ ".<locals>." ++ "<lambda>")), (tbA K (ga K "law"), (("law" : Str) ++ ".<locals>." ++ "<lambda>"))]
theorem okTxt7 : PySem.PyData.strOk "text" = true := by decide +kernel
theorem okSw7 : PySem.PyData.strOk "switch" = true := by decide +kernel
theorem repr_t7 {H : Hp} {s : Str} {Q : VK} (ok : OkD (.str s)) (q : Q (.str (PyData.str s).shown) H) : rReprG K [.str s] H Q := by
  obtain ⟨z1, z2, z3, z4⟩ := ok.1.elim (fun e => by cases e) id
  exact ⟨.str s, .str s, rfl, .str s, z1, z2, z3, z4, q⟩
theorem lit_r7 {i : Nat} {σ : L2.St} {H : Hp} {nm t : Str} {Q : VK} (h : σ[i]? = some (some (.str t))) (ok : OkD (.str t)) (q : ∀ (R : Addr), H R = none → Q (.ref R) (upd H R (.lst [.str nm, .str (PyData.str t).shown]))) :
    tLst (tCons (tC (.str nm)) (tCons (tCB (rReprG K) (tCons (tVar i) tNil)) tNil)) σ H Q := by
  refine ⟨.str t, h, ?_⟩
  dsimp only [tNil]
  exact repr_t7 ok ⟨(show 2 ≤ 16777216 by decide), fun R hR => q R hR⟩
theorem spl_in (c : Nat) : ∀ (xs acc : List Nat), ∀ p ∈ TL.spl [c] 0 acc xs, (∀ x ∈ p, x ∈ acc ∨ x ∈ xs) ∧ p.length ≤ acc.length + xs.length := by
  intro xs
  induction xs with
  | nil =>
    intro acc p hp
    rw [TL.spl_nil, List.mem_singleton] at hp
    subst hp
    exact ⟨fun x hx => .inl hx, by simp⟩
  | cons x xs ih =>
    intro acc p hp
    by_cases h : TL.pre [c] (x :: xs) = true
    · rw [TL.spl_hit h] at hp
      rcases List.mem_cons.mp hp with rfl | hp
      · exact ⟨fun x hx => .inl hx, Nat.le_add_right _ _⟩
      · obtain ⟨e1, e2⟩ := ih [] p hp
        exact ⟨fun y hy => .inr (List.mem_cons_of_mem _ ((e1 y hy).elim (fun z => by cases z) id)), by simp only [List.length_nil, List.length_cons] at *; omega⟩
    · rw [TL.spl, if_neg h] at hp
      obtain ⟨e1, e2⟩ := ih _ p hp
      refine ⟨fun y hy => ?_, by simp only [List.length_append, List.length_cons, List.length_nil] at *; omega⟩
      rcases e1 y hy with z | z
      · rcases List.mem_append.mp z with z | z
        · exact .inl z
        · rw [List.mem_singleton] at z
          exact .inr (by rw [z]; exact List.mem_cons_self)
      · exact .inr (List.mem_cons_of_mem _ z)
theorem tx_split {t : Str} (h : TxOk t) : ∀ z ∈ Txt.split t " ", TxOk z := fun z hz => by
  have hk : ¬ Builtin.Str.strKind t < Builtin.Str.strKind (" " : Str) := TL.kind_ok (by decide +kernel)
  have e := TL.split_spl t " " (by rw [tl_sp]; simp) hk
  rw [tl_sp] at e
  have hm : TL.tl z ∈ TL.spl [32] 0 [] (TL.tl t) := by rw [← e]; exact List.mem_map_of_mem hz
  obtain ⟨e1, e2⟩ := spl_in 32 _ _ _ hm
  refine ⟨fun c hc => h.1 c ((e1 c hc).elim (fun z => by cases z) id), ?_⟩
  have l1 := TL.len_tl z
  have l2 := TL.len_tl t
  have := h.2
  simp only [List.length_nil, Nat.zero_add] at e2
  omega
theorem seq7 {a r : TS} {D : Ends} {σ : L2.St} {H : Hp} (I : L2.St → Hp → Prop) (h1 : ∀ R : L2.St → Hp → Prop, (∀ σ' H', I σ' H' → R σ' H') → a { D with nx := R } σ H) (h2 : ∀ σ' H', I σ' H' → r D σ' H') : tSeq a r D σ H := h1 _ h2
theorem or7 {c d : TT} {A B : TS} {D : Ends} {σ : L2.St} {H : Hp} (b : Bool) (hc : ∀ Q : Bool → Hp → Prop, Q b H → c σ H Q) (h1 : b = true → A D σ H) (h0 : b = false → tIfS d A B D σ H) : tIfS (tOr c d) A B D σ H := by
  refine hc _ ?_
  cases b with
  | true => exact h1 rfl
  | false => exact h0 rfl
def sp__law_text_right (K : Frag) : Sp := fun vs H Q _ => ∃ (t : Str), vs = [.str t] ∧ TxOk t ∧ t.length ≤ 1000 ∧ Tabs (TL7 K) H ∧ ∀ H', ExtN H H' → Tabs (TL7 K) H' → Q (.bl true) H'
def t__law_text_right (K : Frag) (w : World) : TS :=
  (tSeq (tAsg (tM1 oSplit (tVar 0) (tC (.str " "))) (gName 1))
  (tSeq (tIfS (tOr (tTest (tOp rNe (tCB rLenLH (tCons (tVar 1) tNil)) (tC (.int 6)))) (tTest (tOp oNotN (tFn (sp__law_first_wrong K) E0 (tCons (tVar 1) tNil)) (tC .non)))) (tRet (tOp (rEqD K) (LamX.tLam [(tbA K (ga K "_law_text_right"), (("_law_text_right" : PySem.Str) ++ ".<locals>." ++ "<lambda>")), (tbA K (ga K "_law_changes_right"), (("_law_changes_right" : PySem.Str) ++ ".<locals>." ++ "<lambda>")), (tbA K (ga K "law"), (("law" : PySem.Str) ++ ".<locals>." ++ "<lambda>"))] (TCg K) (fun E => (ClX.tCMeth (ga K "Book") (sp_Book_from_textR K) E (tC (.ref (ga K "Book"))) (tCons (tVar 0) tNil)))) (tLst (tCons (tC (.str "text")) (tCons (tCB (rReprG K) (tCons (tVar 0) tNil)) tNil))))) tNext)
  (tRet (tOp rEq (tFn (sp_Book_text K) E0 (tCons (ClX.tCMeth (ga K "Book") (sp_Book_from_text K) E0 (tC (.ref (ga K "Book"))) (tCons (tVar 0) tNil)) tNil)) (tVar 0)))))
def n__law_text_right : List Str := ["_law_text", "_law_values"]
theorem rd__law_text_right (TE : Ke K [("InvalidText", "text")]) (vs : List V) (H : Hp) (Q : VK) (E : XK) (h : sp__law_text_right K vs H Q E) : t__law_text_right K w { nx := fun _ H' => Q .non H', rt := Q } (L2.start n__law_text_right vs) H := by
  have kT : KeC K "InvalidText" "text" := TE ("InvalidText", "text") (by simp)
  obtain ⟨t, rfl, tx, hlen, hT, q⟩ := h
  have ok : OkD (.str t) := okD_str tx
  unfold t__law_text_right n__law_text_right tM1 oSplit rNewStrs
  rw [seq1]
  walk_at "rsl"
  refine ⟨rfl, (by have : sizeLine = 16777216 := rfl; omega), fun l hl => ?_⟩
  have s0 := Same.new (o := .lst ((Txt.split t " ").map V.str)) hl
  have g0 := updS H l (.lst ((Txt.split t " ").map V.str))
  have hT0 := hT.ext fun b o z => s0 _ _ z
  have hov : ∀ y ∈ (Txt.split t " ").map V.str, ∃ d, Ov (upd H l (.lst ((Txt.split t " ").map V.str))) y d ∧ OkD d := fun y hy => by
    obtain ⟨z, hz, rfl⟩ := List.mem_map.mp hy
    exact ⟨.str z, .at_ rfl, okD_str (tx_split tx z hz)⟩
  -- the lambda's end
  have bad : okT7 t = false → ∀ H1, Same (upd H l (.lst ((Txt.split t " ").map V.str))) H1 → ∀ σ : L2.St, σ[0]? = some (some (.str t)) →
      tRet (tOp (rEqD K) (LamX.tLam (TL7 K) (TCg K) (fun E => (ClX.tCMeth (ga K "Book") (sp_Book_from_textR K) E (tC (.ref (ga K "Book"))) (tCons (tVar 0) tNil)))) (tLst (tCons (tC (.str "text")) (tCons (tCB (rReprG K) (tCons (tVar 0) tNil)) tNil)))) { nx := fun _ H' => Q .non H', rt := Q } σ H1 := fun hb H1 s1 σ h0 => by
    have hT1 := hT0.ext fun b o z => s1 _ _ z
    refine lam_errS kT hT1 ok (.at_ (x := .str t) rfl) (fun H2 E Q2 e2 hE => ?_) fun R H2 hR e2 T2 => ?_
    · refine ⟨rfl, .str t, h0, .str t, .str t, rfl, .at_ rfl, fun t' e => by cases e; exact hlen, hb, fun H' dd s' hdd => hE H' dd s' hdd⟩
    · refine lit_r7 h0 ok fun R2 hR2 => ?_
      have s3 := Same.new (o := .lst [.str "text", .str (PyData.str t).shown]) hR2
      exact pair_sameE okTxt7 ok.2 (s3 _ _ hR) (updS _ _ _) (q _ ((Same.toN (s0.trans s1)).trans (e2.trans (Same.toN s3))) (T2.ext fun b o z => s3 _ _ z))
  rw [seq1]
  generalize hH0 : upd H l (.lst ((Txt.split t " ").map V.str)) = H0 at *
  have ln : ((Txt.split t " ").map V.str).length = (Txt.split t " ").length := List.length_map _
  have g0' : H0 l = some (.lst ((Txt.split t " ").map V.str)) := g0
  refine or7 (!decide ((Txt.split t " ").length = 6)) (fun Q' hq => ?_) (fun z => ?_) (fun z => ?_)
  · refine ⟨_, rfl, l, _, rfl, g0', rfl, _, rfl, ?_⟩
    have e : (!decide (V.int ((((Txt.split t " ").map V.str).length : Nat) : Int) = V.int 6)) = (!decide ((Txt.split t " ").length = 6)) := by
      rw [ln]
      congr 1
      exact decide_eq_decide.mpr ⟨fun z => by injection z with z; omega, fun z => by rw [z]; rfl⟩
    rw [e]
    exact hq
  · have h6 : ¬ (Txt.split t " ").length = 6 := fun e => by rw [decide_eq_true e] at z; cases z
    have hb : okT7 t = false := by
      unfold okT7
      rw [decide_eq_false h6]
      rfl
    exact bad hb H0 (Same.refl _) _ rfl
  · have h6 : (Txt.split t " ").length = 6 := by
      by_cases e : (Txt.split t " ").length = 6
      · exact e
      · rw [decide_eq_false e] at z; cases z
    refine ⟨_, rfl, l, (Txt.split t " ").map V.str, rfl, g0', by rw [ln]; exact h6, hov, fun hn H1 s1 => ?_, fun v d hv ho hok R H1 s1 hR => ?_⟩
    · refine ⟨rfl, _, rfl, ?_⟩
      obtain ⟨B, hb3, he⟩ := bad7_none (by rw [ln]; exact h6) hn
      have hp : Txt.split t " " = bws B := by
        have inj : ∀ xs ys : List Str, xs.map V.str = ys.map V.str → xs = ys := fun xs => by
          induction xs with
          | nil => intro ys e; cases ys with
            | nil => rfl
            | cons y ys => cases e
          | cons x xs ih => intro ys e; cases ys with
            | nil => cases e
            | cons y ys =>
              rw [List.map_cons, List.map_cons] at e
              injection e with e1 e2
              injection e1 with e1
              rw [e1, ih ys e2]
        exact inj _ _ he
      have hj : t = Txt.join " " (bws B) := by rw [← hp, join_split]
      rw [if_neg (by decide)]
      refine ⟨rfl, .str t, rfl, B, by rw [← hj], hb3, fun a H2 s2 hB => ⟨a, B, rfl, hB, .str t, rfl, ?_⟩⟩
      rw [← hj]
      refine ⟨rfl, ?_⟩
      rw [decide_eq_true rfl]
      exact q _ (Same.toN ((s0.trans s1).trans s2)) (hT0.ext fun b o z => (s1.trans s2) _ _ z)
    · have hb : okT7 t = false := by
        unfold okT7
        rw [hv, decide_eq_true h6]
        rfl
      refine ⟨rfl, _, rfl, ?_⟩
      dsimp only
      rw [if_pos (by rw [decide_eq_false (fun z => by cases z)]; rfl)]
      exact bad hb H1 s1 _ rfl
def sp__law_changes_right (K : Frag) : Sp := fun vs H Q _ => ∃ (p l b : Addr) (B : Bk), vs = [.ref p, .ref b] ∧ PoolAt H p l ∧ BkAt K H b B ∧ Tabs (TL7 K) H ∧ ∀ H', PoolAt H' p l → Tabs (TL7 K) H' → Q (.bl true) H'
def t__law_changes_right (K : Frag) (w : World) : TS :=
  (tSeq (tAsg (tTup (tCons (tFn (sp__law_draw K) E0 (tCons (tVar 0) (tCons (tC (.int 6)) tNil))) (tCons (tFn (sp__law_odd K) E0 (tCons (tVar 0) tNil)) tNil))) (gTup K 2 (gCons (gName 2) (gCons (gName 3) gNil))))
  (tSeq (tAsg (tOrV (tNotV (tCB (rIsi K) (tCons (tVar 3) (tCons (tC (.ty "str")) tNil)))) (tOp (rIn K true) (tVar 3) (tFn (sp__law_values_of K) E0 (tCons (tVar 2) tNil)))) (gName 4))
  (tSeq (tIfS (tTest (tOp (rNeD K) (LamX.tLam [(tbA K (ga K "_law_text_right"), (("_law_text_right" : PySem.Str) ++ ".<locals>." ++ "<lambda>")), (tbA K (ga K "_law_changes_right"), (("_law_changes_right" : PySem.Str) ++ ".<locals>." ++ "<lambda>")), (tbA K (ga K "law"), (("law" : PySem.Str) ++ ".<locals>." ++ "<lambda>"))] (TCg K) (fun E => (tMethR (ga K "Book") "changed" (sp_Book_changedR K) E (tVar 1) (tCons (tOp (rIxT K) (tC (.ref (ga K "SWITCHES"))) (tVar 2)) (tCons (tVar 3) tNil))))) (tIf (tB (tVar 4)) (tLst (tCons (tC (.str "switch")) (tCons (tCB (rReprE K) (tCons (tVar 3) tNil)) tNil))) (tC .non)))) (tRet (tC (.bl false))) tNext)
  (tSeq (tFor (iList K (tLst (tCons (tVar 3) (tCons (tC (.str "Rounding")) (tCons (tC (.str "each")) (tCons (tC .non) (tCons (tC (.int 0)) tNil))))))) (gName 5)
    (tIfS (tOr (tTest (tOp (rNotInX K) (tVar 5) (tC (.ref (ga K "SWITCHES"))))) (tNot (tB (tCB (rIsi K) (tCons (tVar 5) (tCons (tC (.ty "str")) tNil)))))) (tSeq (tIfS (tTest (tOp (rNeD K) (LamX.tLam [(tbA K (ga K "_law_text_right"), (("_law_text_right" : PySem.Str) ++ ".<locals>." ++ "<lambda>")), (tbA K (ga K "_law_changes_right"), (("_law_changes_right" : PySem.Str) ++ ".<locals>." ++ "<lambda>")), (tbA K (ga K "law"), (("law" : PySem.Str) ++ ".<locals>." ++ "<lambda>"))] (TCg K) (fun E => (tMethR (ga K "Book") "changed" (sp_Book_changedR K) E (tVar 1) (tCons (tVar 5) (tCons (tC .non) tNil))))) (tLst (tCons (tC (.str "switch")) (tCons (tCB (rReprE K) (tCons (tVar 5) tNil)) tNil))))) (tRet (tC (.bl false))) tNext)
  (tIfS (tTest (tOp (rNeD K) (LamX.tLam [(tbA K (ga K "_law_text_right"), (("_law_text_right" : PySem.Str) ++ ".<locals>." ++ "<lambda>")), (tbA K (ga K "_law_changes_right"), (("_law_changes_right" : PySem.Str) ++ ".<locals>." ++ "<lambda>")), (tbA K (ga K "law"), (("law" : PySem.Str) ++ ".<locals>." ++ "<lambda>"))] (TCg K) (fun E => (tFn (sp_Book___getitem__R K) E (tCons (tVar 1) (tCons (tVar 5) tNil))))) (tLst (tCons (tC (.str "switch")) (tCons (tCB (rReprE K) (tCons (tVar 5) tNil)) tNil))))) (tRet (tC (.bl false))) tNext)) tNext))
  (tRet (tC (.bl true)))))))
def n__law_changes_right : List Str := ["_law_pool", "_law_book", "_law_k", "_law_odd_here", "_law_wrong", "_law_word"]
theorem rd__law_changes_right (T : Kh K w) (TE : Ke K [("InvalidSwitch", "switch")]) (vs : List V) (H : Hp) (Q : VK) (E : XK) (h : sp__law_changes_right K vs H Q E) : t__law_changes_right K w { nx := fun _ H' => Q .non H', rt := Q } (L2.start n__law_changes_right vs) H := by
  have kS : KeC K "InvalidSwitch" "switch" := TE ("InvalidSwitch", "switch") (by simp)
  obtain ⟨p, l, b, B, rfl, hp, hB, hT, q⟩ := h
  unfold t__law_changes_right n__law_changes_right
  simp only [L2.start, List.map_cons, List.map_nil, List.length_cons, List.length_nil, Nat.reduceAdd, Nat.reduceSub, List.replicate_succ, List.replicate_zero, List.cons_append, List.nil_append]
  refine seq7 (fun σ' H' => ∃ (k : Nat) (s : Str) (x : V) (d : PyData), σ' = [some (.ref p), some (.ref b), some (.int (k : Int)), some x, none, none] ∧ six[k]? = some s ∧ PoolAt H' p l ∧ BkAt K H' b B ∧ Tabs (TL7 K) H' ∧ OvP p l H' x d ∧ Od7 x d) (fun R hR => ?_) ?_
  · refine ⟨_, rfl, draw (K := K) hp (by decide) (by decide) fun i H1 s1 hp1 i0 i1 => ⟨_, rfl, p, l, rfl, hp1, fun x d H2 s2 hp2 ho od hn => ?_⟩⟩
    dsimp only [tNil]
    refine ⟨(show 2 ≤ 16777216 by decide), fun tp htp => ⟨_, _, rfl, SqT.of upd_same, rfl, _, _, rfl, _, _, rfl, rfl, ?_⟩⟩
    have sT := Same.new (o := .tup [.int i, x]) htp
    obtain ⟨s, hs⟩ : ∃ s, six[i.toNat]? = some s := ⟨_, List.getElem?_eq_getElem (show i.toNat < 6 by omega)⟩
    refine hR _ _ ⟨i.toNat, s, x, d, ?_, hs, hp2.same sT, (BkAt.sameP hp1 s2 (BkAt.sameP hp s1 hB)).same sT, (Tabs.sameP hp1 s2 (Tabs.sameP hp s1 hT)).ext fun b o z => sT _ _ z, ho.extP (.ofS sT), od⟩
    rw [Int.toNat_of_nonneg i0]
    rfl
  rintro σ' H' ⟨k, s, x, d, rfl, hk, hp, hB, hT, ho, od⟩
  refine seq7 (fun σ' H' => ∃ (k : Nat) (s : Str) (x : V) (d : PyData), σ' = [some (.ref p), some (.ref b), some (.int (k : Int)), some x, some (.bl (!ok7 k x)), none] ∧ six[k]? = some s ∧ PoolAt H' p l ∧ BkAt K H' b B ∧ Tabs (TL7 K) H' ∧ OvP p l H' x d ∧ Od7 x d) (fun R hR => ?_) ?_
  · refine ⟨_, rfl, ?_⟩
    dsimp only [tNil, tCons, tC]
    refine Ov.isS (K := K) ho.1 ?_
    refine ⟨_, rfl, ?_⟩
    have fin : ∀ c H1, Same H' H1 → c = !ok7 k x → gName 4 (.bl c) [some (.ref p), some (.ref b), some (.int (k : Int)), some x, none, none] H1 R := fun c H1 s1 e => by
      subst e
      exact hR _ _ ⟨k, s, x, d, rfl, hk, hp.same s1, hB.same s1, hT.ext fun b o z => s1 _ _ z, ho.extP (.ofS s1), od⟩
    cases z : strD d with
    | false =>
      refine ⟨_, rfl, ?_⟩
      rw [if_pos (show (!false) = true from rfl)]
      exact fin true H' (Same.refl _) (by rw [(ho.1.no7 z).1 k]; rfl)
    | true =>
      obtain ⟨y, rfl, _⟩ := ho.1.str z
      refine ⟨_, rfl, ?_⟩
      rw [if_neg (by decide)]
      refine ⟨_, rfl, _, rfl, k, rfl, (List.getElem?_eq_some_iff.mp hk).1, fun a H1 sa na ha => ?_⟩
      refine ⟨a, _, rfl, .inl (SqL.of ha), rfl, by rw [List.all_map]; exact List.all_eq_true.mpr fun _ _ => rfl, ?_⟩
      exact fin _ H1 sa rfl
  rintro σ' H' ⟨k, s, x, d, rfl, hk, hp, hB, hT, ho, od⟩
  refine seq7 (fun σ' H' => σ' = [some (.ref p), some (.ref b), some (.int (k : Int)), some x, some (.bl (!ok7 k x)), none] ∧ PoolAt H' p l ∧ BkAt K H' b B ∧ Tabs (TL7 K) H' ∧ OvP p l H' x d) (fun R hR => ?_) ?_
  · obtain ⟨hb, dx, t, h1, h2⟩ := id hB
    have fin : ∀ H1, ExtN H' H1 → Tabs (TL7 K) H1 → tNext { nx := R, rt := fun x H' => Q x H' } [some (.ref p), some (.ref b), some (.int (k : Int)), some x, some (.bl (!ok7 k x)), none] H1 := fun H1 e1 t1 => hR _ _ ⟨rfl, hp.extN e1, hB.extN e1, t1, ho.extP (.ofN e1)⟩
    have hat : atI (six.map V.str) (k : Int) = some (.str s) := atI_nat (by rw [List.getElem?_map, hk]; rfl)
    cases hw : ok7 k x with
    | false =>
      rw [hw] at fin
      refine lam_errS kS hT od.1 ho.1 (fun H2 E Q2 e2 hE => ?_) fun R2 H2 hR2 e2 T2 => ?_
      · refine ⟨_, rfl, b, dx, _, rfl, e2 _ _ h1 (fun ps z => by cases z), rfl, _, rfl, _, _, _, _, rfl, rfl, T.kf.sw _, hat, _, rfl, ?_⟩
        exact ⟨b, B, .str s, x, .str s, d, rfl, hB.extN e2, .at_ rfl, ho.1.extN e2, .inr ⟨k, s, rfl, hk, fun _ dd hdd => hE H2 dd (Same.refl _) hdd, fun z => by rw [hw] at z; cases z⟩⟩
      · refine ⟨_, rfl, _, rfl, ?_⟩
        dsimp only
        rw [if_pos (show (!false) = true from rfl)]
        refine lit_repr (σ := [some (.ref p), some (.ref b), some (.int (k : Int)), some x, some (.bl (!false)), none]) rfl (ho.1.extN e2) od.1 fun R3 H3 s3 hR3 => ?_
        have s4 := s3.trans (Same.new (o := .lst [.str "switch", .str d.shown]) hR3)
        exact pair_same okSw7 od.1.2 (s4 _ _ hR2) (updS _ _ _) ⟨_, rfl, by rw [if_neg Bool.noConfusion]; exact fin _ (e2.trans (Same.toN s4)) (T2.ext fun b o z => s4 _ _ z)⟩
    | true =>
      rw [hw] at fin
      refine lam_ok hT (fun H2 E Q2 e2 hv => ?_) fun H2 e2 T2 => ?_
      · refine ⟨_, rfl, b, dx, _, rfl, e2 _ _ h1 (fun ps z => by cases z), rfl, _, rfl, _, _, _, _, rfl, rfl, T.kf.sw _, hat, _, rfl, ?_⟩
        exact ⟨b, B, .str s, x, .str s, d, rfl, hB.extN e2, .at_ rfl, ho.1.extN e2, .inr ⟨k, s, rfl, hk, fun z => (by rw [hw] at z; cases z), fun _ a H3 s3 => hv _ H3 s3⟩⟩
      · refine ⟨_, rfl, _, rfl, ?_⟩
        dsimp only
        rw [if_neg (by decide)]
        dsimp only [tC]
        refine none_same ?_
        refine ⟨_, rfl, ?_⟩
        rw [if_neg Bool.noConfusion]
        exact fin _ e2 T2
  rintro σ' H' ⟨rfl, hp, hB, hT, ho⟩
  refine seq7 (fun σ' H' => PoolAt H' p l ∧ Tabs (TL7 K) H') (fun R hR => ?_) ?_
  · rw [forl_eq]
    refine ⟨_, rfl, (show 5 ≤ 16777216 by decide), fun L hL => ⟨L, rfl, ⟨_, SqL.of upd_same⟩, ?_⟩⟩
    have sL := Same.new (o := .lst [x, .str "Rounding", .str "each", .non, .int 0]) hL
    have gL := updS H' L (.lst [x, .str "Rounding", .str "each", .non, .int 0])
    replace hp := hp.same sL
    replace hB := hB.same sL
    replace hT : Tabs (TL7 K) (upd H' L (.lst [x, .str "Rounding", .str "each", .non, .int 0])) := hT.ext fun b o z => sL _ _ z
    replace ho := ho.extP (.ofS sL)
    have hall : ∀ y ∈ [x, .str "Rounding", .str "each", .non, .int 0], ∃ dy, Ov (upd H' L (.lst [x, .str "Rounding", .str "each", .non, .int 0])) y dy ∧ Od7 y dy := fun y hy => by
      simp only [List.mem_cons, List.not_mem_nil, or_false] at hy
      have ns : ∀ {x : V}, (∀ s, x ≠ .str s) → ∀ t, x = .str t → t.length ≤ 10 ∧ TxOk t := fun h t e => absurd e (h t)
      rcases hy with rfl | rfl | rfl | rfl | rfl
      · exact ⟨d, ho.1, od⟩
      · exact ⟨_, .at_ rfl, od7_str (by decide +kernel) (by decide +kernel) (by decide +kernel) (by decide +kernel) (by decide +kernel)⟩
      · exact ⟨_, .at_ rfl, od7_str (by decide +kernel) (by decide +kernel) (by decide +kernel) (by decide +kernel) (by decide +kernel)⟩
      · exact ⟨_, .at_ rfl, ⟨okD_of (by decide +kernel), rfl, .inr (by decide +kernel), by decide +kernel, ns fun s e => by cases e⟩⟩
      · exact ⟨_, .at_ rfl, ⟨okD_of (by decide +kernel), rfl, .inr (by decide +kernel), by decide +kernel, ns fun s e => by cases e⟩⟩
    generalize hxs : [x, V.str "Rounding", .str "each", .non, .int 0] = xs at *
    generalize upd H' L (.lst xs) = H0 at *
    refine forL (xs := xs) (fun _ σ H1 => ∃ v, σ = [some (.ref p), some (.ref b), some (.int (k : Int)), some x, some (.bl (!ok7 k x)), v] ∧ ExtN H0 H1 ∧ Tabs (TL7 K) H1) ⟨none, rfl, ExtN.refl _, hT⟩ (fun j σ H1 ⟨_, _, e, _⟩ => SqL.of (e _ _ gL fun ps z => by cases z)) ?_ ?_
    · rintro j y σ H1 hj ⟨v, rfl, e1, hT1⟩
      obtain ⟨dy, hov, oy⟩ := hall y (List.mem_of_getElem? hj)
      have hB1 := hB.extN e1
      have hov1 := hov.extN e1
      rw [gName1]
      simp only [List.set_cons_zero, List.set_cons_succ]
      refine or7 true (fun Q' hq => ?_) (fun _ => ?_) (fun z => by cases z)
      · refine ⟨_, rfl, dy, six, _, rfl, hov1, T.kf.sw _, ?_⟩
        rcases oy.2.2.1 with z | z
        · exact .inl ⟨z, _, rfl, hq⟩
        · exact .inr ⟨z, by decide +kernel, by decide +kernel, _, rfl, by rw [oy.2.2.2.1]; exact hq⟩
      · rw [seq1]
        refine caught_is (x := y) (d := dy) kS okSw7 hT1 oy.1 hov1 (fun H2 E1 Q1 e2 hE => ?_) (fun H2 Q1 e2 q1 => lit_repr rfl (hov1.extN e2) oy.1 q1) fun H2 e2 T2 => ?_
        · obtain ⟨hb, dx, t, h1, h2⟩ := hB1.extN e2
          exact ⟨_, rfl, b, dx, _, rfl, h1, rfl, _, rfl, b, B, y, .non, dy, .none, rfl, hB1.extN e2, hov1.extN e2, .at_ rfl, .inl ⟨oy.2.1, hE⟩⟩
        · dsimp only
          refine caught_is (x := y) (d := dy) kS okSw7 T2 oy.1 (hov1.extN e2) (fun H3 E1 Q1 e3 hE => ?_) (fun H3 Q1 e3 q1 => lit_repr rfl ((hov1.extN e2).extN e3) oy.1 q1) fun H3 e3 T3 => ?_
          · exact ⟨_, rfl, _, rfl, b, B, y, dy, rfl, (hB1.extN e2).extN e3, (hov1.extN e2).extN e3, oy.2.1, hE⟩
          · exact ⟨_, rfl, (e1.trans e2).trans e3, T3⟩
    · rintro σ H1 ⟨v, rfl, e1, hT1⟩
      exact hR _ _ ⟨hp.extN e1, hT1⟩
  rintro σ' H' ⟨hp, hT⟩
  exact q H' hp hT
end
end Tw
/-! Tw: beats of lumps of one length, all modes -/
namespace Tw
open PySem PySem.Spec PyProof.Rows L2 He TwM StX
open PySem.W (Frag)
local macro_rules | `(tactic| walk_at "rsj") => `(tactic| simp only [*, at3_0, at3_1, at3_2, at2_0, at2_1, updS, upd_two, gSub, rSetL, updN, and_assoc, not_true_eq_false, not_false_eq_true, tNever, List.length_map, tFld, rIxTH, rIxLH, rLenTH, rLenLH, lk1, lfs_g, lfs_s, lfs_p, HO.ins.injEq, HO.tup.injEq, HO.lst.injEq, sp_Book_rounding, sp_Book_action, sp_Book_order, sp_Book_due, sp_Book_zero, sp_Book_beyond, Int.toNat_natCast, sp_visit_after, sp_is_visited, sp_Level_grain, sp_Level_slots, sp_Level_span, sp_Wheel_reach, sp_Wheel___len__, sp_is_integer, sp_is_count, sp_is_within, sp_rounded, tSeq, tAsg, gName, tVar, tC, tOp, rI, rI0, rU, tUn, oAdd, oSub, oMul, oDiv, oMod, oNeg, oLt, oLe, oGt, oGe, oIsN, oNotN, tFn, tCons, tNil, tIfS, tIf, tTest, tB, tNot, tAnd, tOr, tAndV, tOrV, tNotV,
    tRet, tRetN, tNext, tCB, tDrop, tChain, rEq, rNe, oMax2, oMin2, oInt1, rLenF, L2.start, List.map_cons, List.map_nil, List.length_cons, List.length_nil, List.replicate_succ, List.replicate_zero, List.cons_append, List.nil_append, Nat.reduceAdd, Nat.reduceSub, Nat.zero_add,
    List.set_cons_zero, List.set_cons_succ, List.getElem?_cons_zero, List.getElem?_cons_succ, Option.some.injEq, V.int.injEq, V.ref.injEq, V.str.injEq, V.bl.injEq, exists_eq_left', exists_eq_left, exists_and_left, List.cons.injEq, and_true, true_and, decide_eq_true_eq, sc_ii, sc_ss, sc_bb, sc_ni, sc_in, sc_nn, sc_is, reduceCtorEq,
    Bool.not_eq_true', decide_eq_false_iff_not, if_true, if_false, Bool.false_eq_true, exists_eq', exists_const, false_and, and_false, or_false, false_or, exists_false, Bool.not_not, Bool.not_true, Bool.not_false, sUp_up, sFire_fire, sHigh_high, sPut_put, sZone_now, sBey_refuse, sBey_cut, tTup, tLst, sz0, sz1, sz2, sz3, sz4, sz5, sz6])
section
variable {K : Frag} {w : World}
end
end Tw
/-! Tw: draws of starts, delays, lengths -/
namespace Tw
open PySem PySem.Spec PyProof.Rows L2 He TwM StX
open PySem.W (Frag)
local macro_rules | `(tactic| walk_at "rsk") => `(tactic| simp only [*, at3_0, at3_1, at3_2, at2_0, at2_1, updS, upd_two, gSub, rSetL, updN, rCat, tPar, tPar3, and_assoc, not_true_eq_false, not_false_eq_true, tNever, List.length_map, tFld, rIxTH, rIxLH, rLenTH, rLenLH, lk1, lfs_g, lfs_s, lfs_p, HO.ins.injEq, HO.tup.injEq, HO.lst.injEq, sp_Book_rounding, sp_Book_action, sp_Book_order, sp_Book_due, sp_Book_zero, sp_Book_beyond, Int.toNat_natCast, sp_visit_after, sp_is_visited, sp_Level_grain, sp_Level_slots, sp_Level_span, sp_Wheel_reach, sp_Wheel___len__, sp_is_integer, sp_is_count, sp_is_within, sp_rounded, tSeq, tAsg, gName, tVar, tC, tOp, rI, rI0, rU, tUn, oAdd, oSub, oMul, oDiv, oMod, oNeg, oLt, oLe, oGt, oGe, oIsN, oNotN, tFn, tCons, tNil, tIfS, tIf, tTest, tB, tNot, tAnd, tOr, tAndV, tOrV, tNotV,
    tRet, tRetN, tNext, tCB, tDrop, tChain, rEq, rNe, oMax2, oMin2, oInt1, rLenF, L2.start, List.map_cons, List.map_nil, List.length_cons, List.length_nil, List.replicate_succ, List.replicate_zero, List.cons_append, List.nil_append, Nat.reduceAdd, Nat.reduceSub, Nat.zero_add,
    List.set_cons_zero, List.set_cons_succ, List.getElem?_cons_zero, List.getElem?_cons_succ, Option.some.injEq, V.int.injEq, V.ref.injEq, V.str.injEq, V.bl.injEq, exists_eq_left', exists_eq_left, exists_and_left, List.cons.injEq, and_true, true_and, decide_eq_true_eq, sc_ii, sc_ss, sc_bb, sc_ni, sc_in, sc_nn, sc_is, reduceCtorEq,
    Bool.not_eq_true', decide_eq_false_iff_not, if_true, if_false, Bool.false_eq_true, exists_eq', exists_const, false_and, and_false, or_false, false_or, exists_false, Bool.not_not, Bool.not_true, Bool.not_false, sUp_up, sFire_fire, sHigh_high, sPut_put, sZone_now, sBey_refuse, sBey_cut, tTup, tLst, sz0, sz1, sz2, sz3, sz4, sz5, sz6])
local macro_rules | `(tactic| walk_at "rsl") => `(tactic| simp only [*, at3_0, at3_1, at3_2, at2_0, at2_1, updS, upd_two, gSub, rSetL, updN, tPar, tPar3, and_assoc, not_true_eq_false, not_false_eq_true, tNever, List.length_map, tFld, rIxTH, rIxLH, rLenTH, rLenLH, lk1, lfs_g, lfs_s, lfs_p, HO.ins.injEq, HO.tup.injEq, HO.lst.injEq, sp_Book_rounding, sp_Book_action, sp_Book_order, sp_Book_due, sp_Book_zero, sp_Book_beyond, Int.toNat_natCast, sp_visit_after, sp_is_visited, sp_Level_grain, sp_Level_slots, sp_Level_span, sp_Wheel_reach, sp_Wheel___len__, sp_is_integer, sp_is_count, sp_is_within, sp_rounded, tAsg, gName, tVar, tC, tOp, rI, rI0, rU, tUn, oAdd, oSub, oMul, oDiv, oMod, oNeg, oLt, oLe, oGt, oGe, oIsN, oNotN, tFn, tCons, tNil, tIfS, tIf, tTest, tB, tNot, tAnd, tOr, tAndV, tOrV, tNotV,
    tRet, tRetN, tNext, tCB, tDrop, tChain, rEq, rNe, oMax2, oMin2, oInt1, rLenF, L2.start, List.map_cons, List.map_nil, List.length_cons, List.length_nil, List.replicate_succ, List.replicate_zero, List.cons_append, List.nil_append, Nat.reduceAdd, Nat.reduceSub, Nat.zero_add,
    List.set_cons_zero, List.set_cons_succ, List.getElem?_cons_zero, List.getElem?_cons_succ, Option.some.injEq, V.int.injEq, V.ref.injEq, V.str.injEq, V.bl.injEq, exists_eq_left', exists_eq_left, exists_and_left, List.cons.injEq, and_true, true_and, decide_eq_true_eq, sc_ii, sc_ss, sc_bb, sc_ni, sc_in, sc_nn, sc_is, reduceCtorEq,
    Bool.not_eq_true', decide_eq_false_iff_not, if_true, if_false, Bool.false_eq_true, exists_eq', exists_const, false_and, and_false, or_false, false_or, exists_false, Bool.not_not, Bool.not_true, Bool.not_false, sUp_up, sFire_fire, sHigh_high, sPut_put, sZone_now, sBey_refuse, sBey_cut, tTup, tLst, sz0, sz1, sz2, sz3, sz4, sz5, sz6])
local macro_rules | `(tactic| walk_at "st") => `(tactic| ((try dsimp only); rw [seq1]; walk_at "rsl"))
section
variable {K : Frag} {w : World}
theorem RowsAt.ends {H : Hp} {r : Addr} {W : List Lv} (h : RowsAt H r W) (hp : 0 < W.length) : ∃ xs t0 tl, H r = some (.lst xs) ∧ atI xs 0 = some (.ref t0) ∧ atI xs (-1) = some (.ref tl) ∧
    H t0 = some (.tup [.int (lv W 0).g, .int (lv W 0).s, .int (lv W 0).p]) ∧ H tl = some (.tup [.int (lv W (W.length - 1)).g, .int (lv W (W.length - 1)).s, .int (lv W (W.length - 1)).p]) := by
  obtain ⟨ts, ha, hb, hc⟩ := h
  obtain ⟨t0, ht0⟩ : ∃ t, ts[0]? = some t := ⟨ts[0]'(by omega), List.getElem?_eq_getElem (by omega)⟩
  obtain ⟨tl, htl⟩ : ∃ t, ts[W.length - 1]? = some t := ⟨ts[W.length - 1]'(by omega), List.getElem?_eq_getElem (by omega)⟩
  exact ⟨_, t0, tl, ha, atI_nat (j := 0) (by rw [List.getElem?_map, ht0]; rfl), atI_m1 (by rw [List.getLast?_eq_getElem?, List.length_map, hb, List.getElem?_map, htl]; rfl), hc _ _ ht0, hc _ _ htl⟩
end
end Tw
/-! Tw: the law of books refused -/
namespace Tw
open PySem PySem.Spec PyProof.Rows L2 He TwM StX LamX
open PySem.W (Frag)
local macro_rules | `(tactic| walk_at "rsl") => `(tactic| simp only [*, at3_0, at3_1, at3_2, at2_0, at2_1, updS, upd_two, gSub, L2.rSetL, updN, tPar, tPar3, gTup, gCons, gNil, and_assoc, not_true_eq_false, not_false_eq_true, tNever, List.length_map, tFld, rIxTH, rIxLH, rLenTH, rLenLH, lk1, lfs_g, lfs_s, lfs_p, HO.ins.injEq, HO.tup.injEq, HO.lst.injEq, sp_Book_rounding, sp_Book_action, sp_Book_order, sp_Book_due, sp_Book_zero, sp_Book_beyond, Int.toNat_natCast, sp_visit_after, sp_is_visited, sp_Level_grain, sp_Level_slots, sp_Level_span, sp_Wheel_reach, sp_Wheel___len__, sp_is_integer, sp_is_count, sp_is_within, sp_rounded, tAsg, gName, tVar, tC, tOp, rI, rI0, rU, tUn, oAdd, oSub, oMul, oDiv, oMod, oNeg, oLt, oLe, oGt, oGe, oIsN, oNotN, tFn, tCons, tNil, tIfS, tIf, tTest, tB, tNot, tAnd, tOr, tAndV, tOrV, tNotV,
    tRet, tRetN, tNext, tCB, tDrop, tChain, rEq, rNe, oMax2, oMin2, oInt1, rLenF, L2.start, List.map_cons, List.map_nil, List.length_cons, List.length_nil, List.replicate_succ, List.replicate_zero, List.cons_append, List.nil_append, Nat.reduceAdd, Nat.reduceSub, Nat.zero_add,
    List.set_cons_zero, List.set_cons_succ, List.getElem?_cons_zero, List.getElem?_cons_succ, Option.some.injEq, V.int.injEq, V.ref.injEq, V.str.injEq, V.bl.injEq, exists_eq_left', exists_eq_left, exists_and_left, List.cons.injEq, and_true, true_and, decide_eq_true_eq, sc_ii, sc_ss, sc_bb, sc_ni, sc_in, sc_nn, sc_is, reduceCtorEq,
    Bool.not_eq_true', decide_eq_false_iff_not, if_true, if_false, Bool.false_eq_true, exists_eq', exists_const, false_and, and_false, or_false, false_or, exists_false, Bool.not_not, Bool.not_true, Bool.not_false, sUp_up, sFire_fire, sHigh_high, sPut_put, sZone_now, sBey_refuse, sBey_cut, tTup, tLst, sz0, sz1, sz2, sz3, sz4, sz5, sz6])
local macro_rules | `(tactic| walk_at "st") => `(tactic| ((try dsimp only); rw [seq1]; walk_at "rsl"))
/-! ### short texts -/
def Sm (n : Nat) (s : Str) : Prop := (∀ c ∈ TL.tl s, c < 256) ∧ s.length ≤ n
theorem Sm.mono {n m : Nat} {s : Str} (h : Sm n s) (e : n ≤ m) : Sm m s := ⟨h.1, Nat.le_trans h.2 e⟩
theorem Sm.tx {n : Nat} {s : Str} (h : Sm n s) (e : n ≤ 1000) : TxOk s := ⟨fun c hc => Nat.lt_trans (h.1 c hc) (by decide), Nat.le_trans h.2 (Nat.le_trans e (by decide))⟩
theorem Sm.cat {n m : Nat} {s t : Str} (h : Sm n s) (k : Sm m t) : Sm (n + m) (s ++ t) := by
  have e := TL.tl_append s t
  refine ⟨fun c hc => ?_, ?_⟩
  · rw [e] at hc
    exact (List.mem_append.mp hc).elim (h.1 c) (k.1 c)
  · have := h.2
    have := k.2
    rw [TL.len_tl, e, List.length_append, ← TL.len_tl, ← TL.len_tl]
    omega
theorem Sm.cut {n : Nat} {s : Str} (h : Sm n s) (lo hi : Option Int) : Sm n (cutS s lo hi) := by
  have e : TL.tl (cutS s lo hi) = ((s.cps.toList.drop (HT.sIx s.length 0 lo)).take (HT.sIx s.length s.length hi - HT.sIx s.length 0 lo)) := rfl
  refine ⟨fun c hc => ?_, ?_⟩
  · rw [e] at hc
    exact h.1 c (List.mem_of_mem_drop (List.mem_of_mem_take hc))
  · rw [TL.len_tl, e]
    refine Nat.le_trans (List.length_take_le' _ _) (Nat.le_trans (by rw [List.length_drop]; exact Nat.sub_le _ _) ?_)
    rw [← TL.len_tl]
    exact h.2
theorem joinL_sm {n c : Nat} (hc : c < 256) : ∀ ps : List (List Nat), (∀ p ∈ ps, (∀ x ∈ p, x < 256) ∧ p.length ≤ n) → (∀ x ∈ TL.joinL [c] ps, x < 256) ∧ (TL.joinL [c] ps).length ≤ (n + 1) * ps.length
  | [], _ => ⟨fun x hx => (by cases hx), Nat.zero_le _⟩
  | [p], h => ⟨(h p List.mem_cons_self).1, by have := (h p List.mem_cons_self).2; show p.length ≤ (n + 1) * 1; omega⟩
  | p :: q :: r, h => by
    obtain ⟨i1, i2⟩ := joinL_sm hc (q :: r) fun p hp => h p (List.mem_cons_of_mem _ hp)
    obtain ⟨h1, h2⟩ := h p List.mem_cons_self
    have e : TL.joinL [c] (p :: q :: r) = p ++ ([c] ++ TL.joinL [c] (q :: r)) := rfl
    rw [e]
    refine ⟨fun x hx => ?_, ?_⟩
    · rcases List.mem_append.mp hx with z | z
      · exact h1 x z
      · rcases List.mem_append.mp z with z | z
        · rw [List.mem_singleton] at z
          rw [z]
          exact hc
        · exact i1 x z
    · rw [List.length_append, List.length_append, List.length_cons (as := q :: r), Nat.mul_add, Nat.mul_one]
      simp only [List.length_singleton]
      omega
theorem Sm.join {n : Nat} {ws : List Str} (h : ∀ s ∈ ws, Sm n s) : Sm ((n + 1) * ws.length) (Txt.join " " ws) := by
  have e : TL.tl (Txt.join " " ws) = TL.joinL [32] (ws.map TL.tl) := by rw [TL.join_eq, TL.tl_join, tl_sp]
  obtain ⟨a, b⟩ := joinL_sm (n := n) (c := 32) (by decide) (ws.map TL.tl) fun p hp => by
    obtain ⟨s, hs, rfl⟩ := List.mem_map.mp hp
    exact ⟨(h s hs).1, by rw [← TL.len_tl]; exact (h s hs).2⟩
  refine ⟨fun c hc => a c (by rw [← e]; exact hc), ?_⟩
  rw [TL.len_tl, e]
  rwa [List.length_map] at b
theorem sm_by {s : Str} {n : Nat} (h : (s.cps.all (· < 256) && decide (s.length ≤ n)) = true) : Sm n s := by
  rw [Bool.and_eq_true, decide_eq_true_eq] at h
  refine ⟨fun c hc => ?_, h.2⟩
  have := Array.all_eq_true_iff_forall_mem.mp h.1 c (Array.mem_toList_iff.mp hc)
  simpa using this
theorem sm_bws {B : Bk} (hb : B.bey < 3) : ∀ s ∈ bws B, Sm 6 s := by
  obtain ⟨u, f, hi, p, z, n⟩ := B
  have h1 : ∀ u, Sm 6 (sUp u) := fun u => sm_by (by cases u <;> decide +kernel)
  have h2 : ∀ u, Sm 6 (sFire u) := fun u => sm_by (by cases u <;> decide +kernel)
  have h3 : ∀ u, Sm 6 (sHigh u) := fun u => sm_by (by cases u <;> decide +kernel)
  have h4 : ∀ u, Sm 6 (sPut u) := fun u => sm_by (by cases u <;> decide +kernel)
  have h5 : ∀ u, Sm 6 (sZone u) := fun u => sm_by (by cases u <;> decide +kernel)
  have h6 : ∀ n : Fin 3, Sm 6 (sBey n.val) := fun n => sm_by (by revert n; decide +kernel)
  intro s hs
  have hs : s ∈ [sUp u, sFire f, sHigh hi, sPut p, sZone z, sBey n] := hs
  simp only [List.mem_cons, List.not_mem_nil, or_false] at hs
  rcases hs with rfl | rfl | rfl | rfl | rfl | rfl
  · exact h1 u
  · exact h2 f
  · exact h3 hi
  · exact h4 p
  · exact h5 z
  · exact h6 ⟨n, hb⟩
section
variable {K : Frag} {w : World}
structure Bn7 (p l r b : Addr) (B : Bk) (xs : List V) (H : Hp) : Prop where
  r_ : H r = some (.lst ((bws B).map V.str))
  b_ : H b = some (.lst xs)
  ok : B.bey < 3
  six_ : xs.length = 6
  rp : r ≠ p ∧ r ≠ l
  bp : b ≠ p ∧ b ≠ l
  rb : r ≠ b
  all : ∀ y ∈ xs, ∃ d, OvP p l H y d ∧ OkD d ∧ ∀ c, y = .ref c → c ≠ b
theorem Bn7.extP {p l r b : Addr} {B : Bk} {xs : List V} {H H' : Hp} (h : Bn7 p l r b B xs H) (s : ExtP p l H H') : Bn7 p l r b B xs H' :=
  ⟨s _ _ h.rp.1 h.rp.2 h.r_ (fun ps z => by cases z), s _ _ h.bp.1 h.bp.2 h.b_ (fun ps z => by cases z), h.ok, h.six_, h.rp, h.bp, h.rb, fun y hy => by
    obtain ⟨d, h1, h2, h3⟩ := h.all y hy
    exact ⟨d, h1.extP s, h2, h3⟩⟩
theorem Bn7.set {p l r b : Addr} {B : Bk} {xs : List V} {H : Hp} (h : Bn7 p l r b B xs H) {j : Nat} {x : V} {d : PyData} (ho : OvP p l H x d) (hk : OkD d) (hn : ∀ c, x = .ref c → c ≠ b) : Bn7 p l r b B (xs.set j x) (upd H b (.lst (xs.set j x))) := by
  have ov : ∀ {y : V} {d : PyData}, OvP p l H y d → (∀ c, y = .ref c → c ≠ b) → OvP p l (upd H b (.lst (xs.set j x))) y d := fun {y d} k n => by
    refine ⟨?_, k.2⟩
    cases k.1 with
    | at_ h => exact .at_ h
    | tup h f => exact .tup (by rw [upd_ne (n _ rfl)]; exact h) f
    | lst h f => exact .lst (by rw [upd_ne (n _ rfl)]; exact h) f
    | dict h => exact .dict (by rw [upd_ne (n _ rfl)]; exact h)
  refine ⟨by rw [upd_ne h.rb]; exact h.r_, upd_same, h.ok, by rw [List.length_set]; exact h.six_, h.rp, h.bp, h.rb, fun y hy => ?_⟩
  rcases List.mem_or_eq_of_mem_set hy with z | rfl
  · obtain ⟨d, h1, h2, h3⟩ := h.all y z
    exact ⟨d, ov h1 h3, h2, h3⟩
  · exact ⟨d, ov ho hn, hk, hn⟩
theorem PoolAt.upd7 {p l b : Addr} {H : Hp} {o : HO} (h : PoolAt H p l) (n : b ≠ p ∧ b ≠ l) : PoolAt (upd H b o) p l := by
  obtain ⟨n0, cs, i1, i2, i3, i4, h1, h2, h3⟩ := h
  exact ⟨n0, cs, i1, i2, i3, i4, by rw [upd_ne (Ne.symm n.1)]; exact h1, by rw [upd_ne (Ne.symm n.2)]; exact h2, h3⟩
theorem Tabs.upd7 {b : Addr} {H : Hp} {xs xs' : List V} {T : List (Addr × Str)} (t : Tabs T H) (hb : H b = some (.lst xs)) : Tabs T (upd H b (.lst xs')) := by
  intro q hq
  obtain ⟨ps, h1, h2, h3⟩ := t q hq
  have ne : ∀ {c : Addr} {o : HO}, H c = some o → (∀ ys, o ≠ .lst ys) → (upd H b (.lst xs')) c = some o := fun {c o} e n => by
    rw [upd_ne (fun z => by rw [z, hb] at e; exact n _ (Option.some.inj e).symm)]
    exact e
  refine ⟨ps, ne h1 (fun ys z => by cases z), h2, fun pos cv hc => ?_⟩
  obtain ⟨c, e1, e2⟩ := h3 pos cv hc
  exact ⟨c, e1, ne e2 (fun ys z => by cases z)⟩
theorem Ov.det {H : Hp} {x : V} {d d' : PyData} (h : Ov H x d) (k : Ov H x d') : d = d' := by
  cases h with
  | at_ h =>
    cases k with
    | at_ k => exact Option.some.inj (h.symm.trans k)
    | _ => cases h
  | tup h f =>
    cases k with
    | at_ k => cases k
    | tup k g =>
      obtain rfl := HO.tup.inj (Option.some.inj (h.symm.trans k))
      rw [(List.map_inj_right fun _ _ => Option.some.inj).mp (f.symm.trans g)]
    | lst k g => cases h.symm.trans k
    | dict k => cases h.symm.trans k
  | lst h f =>
    cases k with
    | at_ k => cases k
    | tup k g => cases h.symm.trans k
    | lst k g =>
      obtain rfl := HO.lst.inj (Option.some.inj (h.symm.trans k))
      rw [(List.map_inj_right fun _ _ => Option.some.inj).mp (f.symm.trans g)]
    | dict k => cases h.symm.trans k
  | dict h =>
    cases k with
    | at_ k => cases k
    | tup k g => cases h.symm.trans k
    | lst k g => cases h.symm.trans k
    | dict k => rfl
theorem bad7_mem {v : V} : ∀ {xs : List V} {k : Nat}, bad7 k xs = some v → v ∈ xs
  | [], _, h => by cases h
  | x :: xs, k, h => by
    have h : (if ok7 k x = true then bad7 (k + 1) xs else some x) = some v := h
    by_cases q : ok7 k x = true
    · rw [if_pos q] at h; exact List.mem_cons_of_mem _ (bad7_mem h)
    · rw [if_neg q] at h; cases h; exact List.mem_cons_self
theorem par7 {i j : Nat} {ta tb : TE} {D : Ends} {σ : L2.St} {H : Hp} : tPar i j (tCons ta (tCons tb tNil)) D σ H = ta σ H fun x H1 => tb σ H1 fun y H2 => ∃ v w, [x, y] = [v, w] ∧ D.nx ((σ.set i (some v)).set j (some w)) H2 := rfl
theorem sum_sm {n : Nat} : ∀ {ws : List Str}, (∀ s ∈ ws, Sm n s) → (n + 1) * ws.length ≤ 1000 → (ws.map (·.length)).sum + ws.length * (" " : Str).length ≤ 16777216 := by
  intro ws h hl
  have key : ∀ ws : List Str, (∀ s ∈ ws, Sm n s) → (ws.map (·.length)).sum ≤ n * ws.length := fun ws => by
    induction ws with
    | nil => intro _; exact Nat.zero_le _
    | cons s ws ih =>
      intro h
      have h1 := (h s List.mem_cons_self).2
      have h2 := ih fun t ht => h t (List.mem_cons_of_mem _ ht)
      rw [List.map_cons, List.sum_cons, List.length_cons, Nat.mul_add, Nat.mul_one]
      omega
  have h1 := key ws h
  have h2 : (" " : Str).length = 1 := by decide +kernel
  rw [h2, Nat.mul_one]
  rw [Nat.add_mul, Nat.one_mul] at hl
  omega
theorem cut17 {xs : List V} (h : 1 ≤ xs.length) : cutV xs (some 1) none = xs.drop 1 := by
  have e : HT.sIx xs.length 0 (some (1 : Int)) = 1 := by
    unfold HT.sIx
    dsimp only
    rw [if_neg (by decide)]
    show min 1 xs.length = 1
    omega
  have e2 : HT.sIx xs.length xs.length none = xs.length := rfl
  unfold cutV
  rw [e, e2, List.take_of_length_le (by rw [List.length_drop]; exact Nat.le_refl _)]
theorem wipe7 {σ : L2.St} {j : Nat} {x : V} : wipe ((wipe σ [j]).set j (some x)) [j] = wipe σ [j] := by
  show ((σ.set j none).set j (some x)).set j none = σ.set j none
  rw [List.set_set, List.set_set]
theorem repr7 {H : Hp} {x : V} {d : PyData} {Q : VK} (h : Ov H x d) (k : OkD d) (nd : d ≠ .dict []) (q : Q (.str d.shown) H) : rReprG K [x] H Q := by
  obtain ⟨k, _⟩ := k
  obtain ⟨z1, z2, z3, z4⟩ := k.elim (fun e => absurd e nd) id
  refine ⟨x, d, rfl, ?_, z1, z2, z3, z4, q⟩
  cases h with
  | at_ h =>
    cases x with
    | non => cases h; exact .non
    | bl b => cases h; exact .bl b
    | int i => cases h; exact .int i
    | str y => cases h; exact .str y
    | _ => cases h
  | tup h f => exact .tup (SqT.of h) (flD_dp f)
  | lst h f => exact .lst (SqL.of h) (flD_dp f)
  | dict h => exact absurd rfl nd
def Prs7 (H : Hp) (D : Addr) (ds : List PyData) : Prop := ∃ rs : List Addr, H D = some (.lst (rs.map V.ref)) ∧ rs.length = ds.length ∧ ∀ (j : Nat) (r : Addr) (d : PyData), rs[j]? = some r → ds[j]? = some d → H r = some (.lst [.str "text", .str d.shown])
theorem Prs7.ext {H H' : Hp} {D : Addr} {ds : List PyData} (h : Prs7 H D ds) (e : ExtN H H') : Prs7 H' D ds := by
  obtain ⟨rs, h1, h2, h3⟩ := h
  exact ⟨rs, e _ _ h1 (fun ps z => by cases z), h2, fun j r d a b => e _ _ (h3 j r d a b) fun ps z => by cases z⟩
theorem lc7 {te : TE} {j : Nat} {a : Addr} {xs : List V} {ds : List PyData} {σ : L2.St} {H : Hp} {Q : VK} (hT : Tabs (TL7 K) H) (ha : H a = some (.lst xs)) (hl : ds.length = xs.length) (hz : xs.length ≤ 1000)
    (hall : ∀ (k : Nat) (x : V) (d : PyData), xs[k]? = some x → ds[k]? = some d → Ov H x d ∧ OkD d)
    (st : ∀ (k : Nat) (x : V) (d : PyData) (H' : Hp) (R : VK), xs[k]? = some x → ds[k]? = some d → ExtN H H' → Tabs (TL7 K) H' → Ov H' x d → OkD d → (∀ (r : Addr) (H'' : Hp), ExtN H' H'' → Tabs (TL7 K) H'' → H'' r = some (.lst [.str "text", .str d.shown]) → R (.ref r) H'') → te ((wipe σ [j]).set j (some x)) H' R)
    (q : ∀ (D : Addr) (H' : Hp), ExtN H H' → Tabs (TL7 K) H' → Prs7 H' D ds → Q (.ref D) H') {D : Addr} (hD : H D = none) :
    ∃ W : Nat → Nat → Hp → Prop, (∃ m, W 0 m (upd H D (.lst []))) ∧ ∀ i m H, W i m H → ((Itl K a).stop i H ∧ Q (.ref D) H) ∨ ((Itl K a).go i H ∧ ∃ Nx : Hp → Prop, (∀ H', Nx H' → ∃ m', m' < m ∧ W (i + 1) m' H') ∧ ∀ x H', (Itl K a).yld i H x H' → gName j x (wipe σ [j]) H' fun σ2 H2 => wipe σ2 [j] = wipe σ [j] ∧ tYes σ2 H2 fun b H3 =>
        if b = true then te σ2 H3 fun y H4 => ∃ acc, H4 D = some (.lst acc) ∧ acc.length < sizeLine ∧ Nx (upd H4 D (.lst (acc ++ [y]))) else Nx H3) := by
  refine lc_list (K := K) (a := a) (xs := xs) (fun k H' => ExtN H H' ∧ Tabs (TL7 K) H' ∧ ∃ rs : List Addr, H' D = some (.lst (rs.map V.ref)) ∧ rs.length = k ∧ (∀ r ∈ rs, r ≠ D) ∧ ∀ (i : Nat) (r : Addr) (d : PyData), rs[i]? = some r → ds[i]? = some d → H' r = some (.lst [.str "text", .str d.shown]))
    ⟨Same.toN (Same.new hD), hT.ext fun b o z => Same.new hD _ _ z, [], upd_same, rfl, fun r hr => (by cases hr), fun i r d e => (by cases e)⟩ (fun i H' _ z => SqL.of (z.1 _ _ ha fun ps z => by cases z)) ?_ ?_
  · rintro k x H1 hx ⟨e1, t1, rs, h1, h2, h3, h4⟩
    have hk := (List.getElem?_eq_some_iff.mp hx).1
    obtain ⟨d, hd⟩ : ∃ d, ds[k]? = some d := ⟨_, List.getElem?_eq_getElem (by omega)⟩
    obtain ⟨ho, ok⟩ := hall k x d hx hd
    rw [gName1]
    refine ⟨wipe7, ?_⟩
    unfold tYes
    dsimp only
    rw [if_pos rfl]
    refine st k x d H1 _ hx hd e1 t1 (ho.extN e1) ok fun r H2 e2 t2 hr => ?_
    have hD2 := e2 _ _ h1 (fun ps z => by cases z)
    have nr : r ≠ D := fun z => by
      rw [z, hD2] at hr
      have hr := HO.lst.inj (Option.some.inj hr)
      cases rs with
      | nil => cases hr
      | cons r0 rs => rw [List.map_cons] at hr; injection hr with hr _; cases hr
    refine ⟨_, hD2, by rw [List.length_map]; have : sizeLine = 16777216 := rfl; omega, ?_, Tabs.upd7 t2 hD2, rs ++ [r], ?_, by rw [List.length_append, h2]; rfl, fun r' hr' => ?_, fun i r' d' a b => ?_⟩
    · intro c o z n
      rw [upd_ne (fun w => by rw [w, hD] at z; cases z)]
      exact (e1.trans e2) c o z n
    · rw [upd_same, List.map_append]
      rfl
    · rcases List.mem_append.mp hr' with z | z
      · exact h3 _ z
      · rw [List.mem_singleton] at z
        rw [z]; exact nr
    · rcases Nat.lt_or_ge i rs.length with z | z
      · rw [List.getElem?_append_left z] at a
        rw [upd_ne (h3 _ (List.mem_of_getElem? a))]
        exact e2 _ _ (h4 i r' d' a b) fun ps z => by cases z
      · have hi : i = rs.length := by
          have := (List.getElem?_eq_some_iff.mp a).1
          rw [List.length_append] at this
          simp only [List.length_singleton] at this
          omega
        subst hi
        rw [List.getElem?_append_right (Nat.le_refl _), Nat.sub_self] at a
        cases a
        rw [h2, hd] at b
        cases b
        rw [upd_ne nr]
        exact hr
  · rintro H1 ⟨e1, t1, rs, h1, h2, h3, h4⟩
    exact q D H1 e1 t1 ⟨rs, h1, by rw [h2, hl], h4⟩
abbrev ds7 : List PyData := [.none, .int 3, .list [.str "down"]]
theorem tlc7 {te : TE} {j : Nat} {σ : L2.St} {H : Hp} {Q : VK} (hT : Tabs (TL7 K) H)
    (st : ∀ (x : V) (d : PyData) (H' : Hp) (R : VK), ExtN H H' → Tabs (TL7 K) H' → Ov H' x d → OkD d → d ≠ .dict [] → (∀ t, x ≠ .str t) → (∀ (r : Addr) (H'' : Hp), ExtN H' H'' → Tabs (TL7 K) H'' → H'' r = some (.lst [.str "text", .str d.shown]) → R (.ref r) H'') → te ((wipe σ [j]).set j (some x)) H' R)
    (q : ∀ (D : Addr) (H' : Hp), ExtN H H' → Tabs (TL7 K) H' → Prs7 H' D ds7 → Q (.ref D) H') :
    tLc (iList K (tLst (tCons (tC .non) (tCons (tC (.int 3)) (tCons (tLst (tCons (tC (.str "down")) tNil)) tNil))))) (gName j) tYes te [j] σ H Q := by
  refine ⟨(show 1 ≤ 16777216 by decide), fun M hM => ⟨(show 3 ≤ 16777216 by decide), fun L hL => ⟨L, rfl, ⟨_, SqL.of upd_same⟩, fun D hD => ?_⟩⟩⟩
  have sM := Same.new (o := .lst [V.str "down"]) hM
  have gM := updS H M (.lst [V.str "down"])
  generalize upd H M (.lst [V.str "down"]) = H2 at *
  have sL := Same.new (o := .lst [V.non, .int 3, .ref M]) hL
  have gL := updS H2 L (.lst [V.non, .int 3, .ref M])
  have gM2 := sL _ _ gM
  have sa := sM.trans sL
  have hT2 : Tabs (TL7 K) (upd H2 L (.lst [V.non, .int 3, .ref M])) := hT.ext fun b o z => sa _ _ z
  generalize upd H2 L (.lst [V.non, .int 3, .ref M]) = H3 at *
  have hall : ∀ (k : Nat) (x : V) (d : PyData), [V.non, .int 3, .ref M][k]? = some x → ds7[k]? = some d → (Ov H3 x d ∧ OkD d) ∧ d ≠ .dict [] ∧ ∀ t, x ≠ .str t := fun k x d e1 e2 => by
    match k with
    | 0 => cases e1; cases e2; exact ⟨⟨.at_ rfl, okD_of (by decide +kernel)⟩, (fun z => by cases z), fun t z => by cases z⟩
    | 1 => cases e1; cases e2; exact ⟨⟨.at_ rfl, okD_of (by decide +kernel)⟩, (fun z => by cases z), fun t z => by cases z⟩
    | 2 => cases e1; cases e2; exact ⟨⟨.lst gM2 rfl, okD_of (by decide +kernel)⟩, (fun z => by cases z), fun t z => by cases z⟩
    | k + 3 => cases e1
  refine lc7 (te := te) (j := j) (σ := σ) (Q := Q) (ds := ds7) hT2 gL rfl (show 3 ≤ 1000 by decide) (fun k x d e1 e2 => (hall k x d e1 e2).1) (fun k x d H4 R e1 e2 x4 t4 ho ok hR => ?_) (fun D1 H4 x4 t4 p4 => q D1 H4 ((Same.toN sa).trans x4) t4 p4) hD
  exact st x d H4 R ((Same.toN sa).trans x4) t4 ho ok (hall k x d e1 e2).2.1 (hall k x d e1 e2).2.2 hR
def sp_law (K : Frag) : Sp := fun vs H Q _ => ∃ (a : Addr) (ns : List Int), vs = [.ref a] ∧ SqL K H a (ns.map V.int) ∧ ns.length ≤ 63 ∧ H (tbA K (ga K "_law_text_right")) = some (.tbl #[]) ∧ H (tbA K (ga K "_law_changes_right")) = some (.tbl #[]) ∧ H (tbA K (ga K "law")) = some (.tbl #[]) ∧ ∀ H', Q (.bl true) H'
def lawInv (K : Frag) (a p l : Addr) (i : Nat) (σ : L2.St) (H' : Hp) : Prop :=
  ∃ (v2 v3 v4 v5 v6 v7 v8 v9 v10 v11 v12 : Option V), σ = [some (.ref a), some (.ref p), v2, v3, v4, v5, v6, v7, v8, v9, v10, v11, v12] ∧ PoolAt H' p l ∧ Tabs (TL7 K) H'
def t_law (K : Frag) (w : World) : TS :=
  (tSeq (tAsg (tFn (sp__law_begin K) E0 (tCons (tVar 0) tNil)) (gName 1))
  (tSeq (tFor (iRng1 (tCons (tC (.int 8)) tNil)) (gName 2)
    (tSeq (tAsg (tFn (sp__law_draw_values K) E0 (tCons (tVar 1) tNil)) (gName 3))
  (tSeq (tAsg (tCB (oLstOf K) (tCons (tVar 3) tNil)) (gName 4))
  (tSeq (tFor (iRng1 (tCons (tOp oAdd (tC (.int 1)) (tFn (sp__law_draw K) E0 (tCons (tVar 1) (tCons (tC (.int 2)) tNil)))) tNil)) (gName 5)
    (tAsg (tFn (sp__law_odd K) E0 (tCons (tVar 1) tNil)) (gSub (tVar 4) (tFn (sp__law_draw K) E0 (tCons (tVar 1) (tCons (tC (.int 6)) tNil))) L2.rSetL)))
  (tSeq (tIfS (tTest (tOp (rNeD K) (LamX.tLam [(tbA K (ga K "_law_text_right"), (("_law_text_right" : PySem.Str) ++ ".<locals>." ++ "<lambda>")), (tbA K (ga K "_law_changes_right"), (("_law_changes_right" : PySem.Str) ++ ".<locals>." ++ "<lambda>")), (tbA K (ga K "law"), (("law" : PySem.Str) ++ ".<locals>." ++ "<lambda>"))] (TCg K) (fun E => (tFn (sp__law_madeR K) E (tCons (tVar 4) tNil)))) (tFn (sp__law_first_wrong K) E0 (tCons (tVar 4) tNil)))) (tRet (tC (.bl false))) tNext)
  (tSeq (tIfS (tTest (tOp (rNeO (ga K "Book") (sp_Book___eq__ K) E0) (tFn (sp__law_made K) E0 (tCons (tVar 3) tNil)) (tFn (sp__law_made_book K) E0 (tCons (tVar 3) tNil)))) (tRet (tC (.bl false))) tNext)
  (tSeq (tAsg (tM1 (oJoin K) (tC (.str " ")) (tVar 3)) (gName 6))
  (tSeq (tPar 7 8 (tCons (tFn (sp__law_draw K) E0 (tCons (tVar 1) (tCons (tOp oAdd (tCB oLenS (tCons (tVar 6) tNil)) (tC (.int 1))) tNil))) (tCons (tOp rIxS (tC (.str " aduplnow-\n")) (tFn (sp__law_draw K) E0 (tCons (tVar 1) (tCons (tC (.int 11)) tNil)))) tNil)))
  (tSeq (tAsg (tCB (oLstOf K) (tCons (tVar 3) tNil)) (gName 9))
  (tSeq (tAsg (tOp rIxLH (tLst (tCons (tC (.str "")) (tCons (tC (.str "down")) (tCons (tC (.str "put")) (tCons (tC (.str "cut")) (tCons (tC (.str "now")) (tCons (tC (.str "x")) tNil))))))) (tFn (sp__law_draw K) E0 (tCons (tVar 1) (tCons (tC (.int 6)) tNil)))) (gSub (tVar 9) (tFn (sp__law_draw K) E0 (tCons (tVar 1) (tCons (tC (.int 6)) tNil))) L2.rSetL))
  (tSeq (tAsg (tLst (tCons (tVar 6) (tCons (tOp oAddS (tOp oAddS (tSl rSlS (tVar 6) tNoPart (tPart (tVar 7))) (tVar 8)) (tSl rSlS (tVar 6) (tPart (tVar 7)) tNoPart)) (tCons (tOp oAddS (tSl rSlS (tVar 6) tNoPart (tPart (tVar 7))) (tSl rSlS (tVar 6) (tPart (tOp oAdd (tVar 7) (tC (.int 1)))) tNoPart)) tNil)))) (gName 10))
  (tSeq (tFor (iList K (tOp rCat (tVar 10) (tLst (tCons (tM1 (oJoin K) (tC (.str " ")) (tVar 9)) (tCons (tM1 (oJoin K) (tC (.str " ")) (tSl (rSlL K) (tVar 9) (tPart (tC (.int 1))) tNoPart)) tNil))))) (gName 11)
    (tIfS (tNot (tB (tFn (sp__law_text_right K) E0 (tCons (tVar 11) tNil)))) (tRet (tC (.bl false))) tNext))
  (tIfS (tNot (tB (tFn (sp__law_changes_right K) E0 (tCons (tVar 1) (tCons (tFn (sp__law_made_book K) E0 (tCons (tVar 3) tNil)) tNil))))) (tRet (tC (.bl false))) tNext)))))))))))))
  (tRet (tOp (rEqD K) (tLc (iList K (tLst (tCons (tC .non) (tCons (tC (.int 3)) (tCons (tLst (tCons (tC (.str "down")) tNil)) tNil))))) (gName 12) tYes (LamX.tLam [(tbA K (ga K "_law_text_right"), (("_law_text_right" : PySem.Str) ++ ".<locals>." ++ "<lambda>")), (tbA K (ga K "_law_changes_right"), (("_law_changes_right" : PySem.Str) ++ ".<locals>." ++ "<lambda>")), (tbA K (ga K "law"), (("law" : PySem.Str) ++ ".<locals>." ++ "<lambda>"))] (TCg K) (fun E => (ClX.tCMeth (ga K "Book") (sp_Book_from_textR K) E (tC (.ref (ga K "Book"))) (tCons (tVar 12) tNil)))) [12]) (tLc (iList K (tLst (tCons (tC .non) (tCons (tC (.int 3)) (tCons (tLst (tCons (tC (.str "down")) tNil)) tNil))))) (gName 12) tYes (tLst (tCons (tC (.str "text")) (tCons (tCB (rReprG K) (tCons (tVar 12) tNil)) tNil))) [12])))))
def n_law : List Str := ["_law_script", "_law_pool", "_law_turn", "_law_values", "_law_bent", "_law_k", "_law_text", "_law_at", "_law_sign", "_law_words", "_law_some", "_law_one", "_law_odd_here"]
theorem rd_law (T : Kh K w) (TE : Ke K [("InvalidSwitch", "switch"), ("InvalidText", "text")]) (vs : List V) (H : Hp) (Q : VK) (E : XK) (h : sp_law K vs H Q E) : t_law K w { nx := fun _ H' => Q .non H', rt := Q } (L2.start n_law vs) H := by
  have kS : KeC K "InvalidSwitch" "switch" := TE ("InvalidSwitch", "switch") (by simp)
  have kT : KeC K "InvalidText" "text" := TE ("InvalidText", "text") (by simp)
  obtain ⟨a, ns, rfl, ha, hl, hB1, hB2, hB3, q⟩ := h
  unfold t_law n_law
  rw [seq1]
  walk_at "rsl"
  refine ⟨a, ns, rfl, ha, hl, fun p l H0 hp0 s0 => ?_⟩
  have hT0 : Tabs (TL7 K) H0 := fun q hq => by
    simp only [List.mem_cons, List.not_mem_nil, or_false] at hq
    rcases hq with rfl | rfl | rfl
    · exact TabS.nil (s0 _ _ hB1)
    · exact TabS.nil (s0 _ _ hB2)
    · exact TabS.nil (s0 _ _ hB3)
  try dsimp only
  rw [seq1]
  refine ⟨_, rfl, by decide, by decide, for_range (lawInv K a p l) ⟨_, _, _, _, _, _, _, _, _, _, _, rfl, hp0, hT0⟩ ?_ (fun σ H' hI => ?_)⟩
  · rintro i σ H1 hi ⟨v2, v3, v4, v5, v6, v7, v8, v9, v10, v11, v12, rfl, hp1, hT1⟩
    rw [gName1]
    simp only [List.set_cons_zero, List.set_cons_succ]
    -- the values, and a list like theirs
    refine seq7 (fun σ' H' => ∃ r B, σ' = [some (.ref a), some (.ref p), some (.int (0 + (i : Int))), some (.ref r), v4, v5, v6, v7, v8, v9, v10, v11, v12] ∧ PoolAt H' p l ∧ Tabs (TL7 K) H' ∧ H' r = some (.lst ((bws B).map V.str)) ∧ B.bey < 3 ∧ r ≠ p ∧ r ≠ l) (fun R hR => ?_) ?_
    · refine ⟨_, rfl, p, l, rfl, hp1, fun r B H2 s2 hp2 hn hr hb => hR _ _ ⟨r, B, rfl, hp2, Tabs.sameP hp1 s2 hT1, hr, hb, hp1.apart hn⟩⟩
    rintro σ' H2 ⟨r, B, rfl, hp2, hT2, hr2, hb3, nrp⟩
    clear hp1 hT1
    refine seq7 (fun σ' H' => ∃ b xs, σ' = [some (.ref a), some (.ref p), some (.int (0 + (i : Int))), some (.ref r), some (.ref b), v5, v6, v7, v8, v9, v10, v11, v12] ∧ PoolAt H' p l ∧ Tabs (TL7 K) H' ∧ Bn7 p l r b B xs H') (fun R hR => ?_) ?_
    · refine ⟨_, rfl, r, _, rfl, .inl (SqL.of hr2), fun b hb => ?_⟩
      have sb := Same.new (o := .lst ((bws B).map V.str)) hb
      refine hR _ _ ⟨b, _, rfl, hp2.same sb, hT2.ext fun b o z => sb _ _ z, sb _ _ hr2, updS _ _ _, hb3, by rw [List.length_map]; rfl, nrp, hp2.apart hb, fun z => (by rw [z, hb] at hr2; cases hr2), fun y hy => ?_⟩
      obtain ⟨z, hz, rfl⟩ := List.mem_map.mp hy
      exact ⟨.str z, .at_ rfl, okD_str ((sm_bws hb3 z hz).tx (by decide)), fun c e => by cases e⟩
    rintro σ' H3 ⟨b, xs, rfl, hp3, hT3, hN3⟩
    clear hp2 hT2 hr2
    refine seq7 (fun σ' H' => ∃ xs v5, σ' = [some (.ref a), some (.ref p), some (.int (0 + (i : Int))), some (.ref r), some (.ref b), v5, v6, v7, v8, v9, v10, v11, v12] ∧ PoolAt H' p l ∧ Tabs (TL7 K) H' ∧ Bn7 p l r b B xs H') (fun R hR => ?_) ?_
    · refine ⟨_, rfl, draw (K := K) hp3 (by decide) (by decide) fun j H4 s4 hp4 j0 j1 => ⟨1, j, rfl, rfl, 1 + j, rfl, by omega, by omega, ?_⟩⟩
      refine for_range (fun _ σ' H' => ∃ xs v5, σ' = [some (.ref a), some (.ref p), some (.int (0 + (i : Int))), some (.ref r), some (.ref b), v5, v6, v7, v8, v9, v10, v11, v12] ∧ PoolAt H' p l ∧ Tabs (TL7 K) H' ∧ Bn7 p l r b B xs H') ⟨xs, v5, rfl, hp4, Tabs.sameP hp3 s4 hT3, hN3.extP (.ofP s4)⟩ ?_ ?_
      · rintro k σ' H5 hk ⟨zs, u5, rfl, hp5, hT5, hN5⟩
        rw [gName1]
        simp only [List.set_cons_zero, List.set_cons_succ]
        refine ⟨_, rfl, p, l, rfl, hp5, fun x d H6 s6 hp6 ho od hn => ?_⟩
        have hN6 := hN5.extP (.ofP s6)
        have hT6 := Tabs.sameP hp5 s6 hT5
        have nb : ∀ c, x = .ref c → c ≠ b := fun c e z => by
          have := hn c e
          rw [z, hN5.b_] at this
          cases this
        unfold gSub
        refine ⟨_, rfl, _, rfl, draw (K := K) hp6 (by decide) (by decide) fun m H7 s7 hp7 m0 m1 => ?_⟩
        have hN7 := hN6.extP (.ofP s7)
        refine ⟨b, zs, m, m.toNat, rfl, rfl, hN7.b_, by unfold ixN; rw [if_pos m0, if_pos (by rw [hN7.six_]; omega)], ?_⟩
        exact ⟨_, _, rfl, hp7.upd7 hN7.bp, Tabs.upd7 (Tabs.sameP hp6 s7 hT6) hN7.b_, hN7.set (ho.extP (.ofP s7)) od.1 nb⟩
      · rintro σ' H5 ⟨zs, u5, rfl, hp5, hT5, hN5⟩
        exact hR _ _ ⟨zs, u5, rfl, hp5, hT5, hN5⟩
    rintro σ' H4 ⟨ys, u5, rfl, hp4, hT4, hN4⟩
    clear hp3 hT3 hN3
    refine seq7 (fun σ' H' => σ' = [some (.ref a), some (.ref p), some (.int (0 + (i : Int))), some (.ref r), some (.ref b), u5, v6, v7, v8, v9, v10, v11, v12] ∧ PoolAt H' p l ∧ Tabs (TL7 K) H' ∧ Bn7 p l r b B ys H') (fun R hR => ?_) ?_
    · have fin : ∀ H1, ExtN H4 H1 → Tabs (TL7 K) H1 → R [some (.ref a), some (.ref p), some (.int (0 + (i : Int))), some (.ref r), some (.ref b), u5, v6, v7, v8, v9, v10, v11, v12] H1 := fun H1 e1 t1 => hR _ _ ⟨rfl, hp4.extN e1, t1, hN4.extP (.ofN e1)⟩
      have ovs : ∀ H2, ExtN H4 H2 → ∀ y ∈ ys, ∃ d, Ov H2 y d ∧ OkD d := fun H2 e2 y hy => by
        obtain ⟨d, h1, h2, _⟩ := hN4.all y hy
        exact ⟨d, h1.1.extN e2, h2⟩
      cases hbad : bad7 0 ys with
      | none =>
        refine lam_ok hT4 (fun H2 E Q2 e2 hv => ?_) fun H2 e2 T2 => ?_
        · exact ⟨_, rfl, b, ys, rfl, e2 _ _ hN4.b_ (fun ps z => by cases z), hN4.six_, fun y hy => (ovs H2 e2 y hy).imp fun d h => h.1, fun v h' => (by rw [hbad] at h'; cases h'), fun _ a' H3 s3 => hv _ H3 s3⟩
        · refine ⟨_, rfl, b, ys, rfl, e2 _ _ hN4.b_ (fun ps z => by cases z), hN4.six_, ovs H2 e2, fun _ H3 s3 => none_same ⟨_, rfl, ?_⟩, fun v d h' => (by rw [hbad] at h'; cases h')⟩
          exact fin _ (e2.trans (Same.toN s3)) (T2.ext fun b o z => s3 _ _ z)
      | some v =>
        obtain ⟨d, hd1, hd2, _⟩ := hN4.all v (bad7_mem hbad)
        refine lam_errS kS hT4 hd2 hd1.1 (fun H2 E Q2 e2 hE => ?_) fun R2 H2 hR2 e2 T2 => ?_
        · exact ⟨_, rfl, b, ys, rfl, e2 _ _ hN4.b_ (fun ps z => by cases z), hN4.six_, fun y hy => (ovs H2 e2 y hy).imp fun d h => h.1, fun v' h' H' dd s' hdd => (by rw [hbad] at h'; cases h'; exact hE H' dd s' hdd), fun z => (by rw [hbad] at z; cases z)⟩
        · refine ⟨_, rfl, b, ys, rfl, e2 _ _ hN4.b_ (fun ps z => by cases z), hN4.six_, ovs H2 e2, fun z => (by rw [hbad] at z; cases z), fun v' d' h' ho' hk' R3 H3 s3 hR3 => ?_⟩
          rw [hbad] at h'
          cases h'
          obtain rfl := (hd1.1.extN e2).det ho'
          exact pair_same okSw7 hd2.2 (s3 _ _ hR2) hR3 ⟨_, rfl, fin _ (e2.trans (Same.toN s3)) (T2.ext fun b o z => s3 _ _ z)⟩
    rintro σ' H5 ⟨rfl, hp5, hT5, hN5⟩
    clear hp4 hT4 hN4
    refine seq7 (fun σ' H' => σ' = [some (.ref a), some (.ref p), some (.int (0 + (i : Int))), some (.ref r), some (.ref b), u5, v6, v7, v8, v9, v10, v11, v12] ∧ PoolAt H' p l ∧ Tabs (TL7 K) H' ∧ Bn7 p l r b B ys H') (fun R hR => ?_) ?_
    · refine ⟨_, rfl, r, B, rfl, hN5.r_, hN5.ok, fun a1 H2 s2 hB1 => ⟨_, rfl, r, B, rfl, s2 _ _ hN5.r_, hN5.ok, fun a2 H3 s3 hB2 => ?_⟩⟩
      have hB1 := hB1.same s3
      obtain ⟨_, dx, t, h1, _⟩ := id hB1
      obtain ⟨_, dy, u, h2, _⟩ := id hB2
      refine ⟨a1, dx, _, a2, dy, _, rfl, rfl, h1, h2, a1, a2, B, B, rfl, hB1, hB2, _, rfl, _, rfl, ?_⟩
      rw [decide_eq_true rfl]
      have s23 := s2.trans s3
      exact hR _ _ ⟨rfl, hp5.same s23, hT5.ext fun b o z => s23 _ _ z, hN5.extP (.ofS s23)⟩
    rintro σ' H6 ⟨rfl, hp6, hT6, hN6⟩
    clear hp5 hT5
    have hr6 := hN6.r_
    have hrp := hN6.rp
    clear hN5 hN6
    -- the text
    refine seq7 (fun σ' H' => ∃ tx, Sm 42 tx ∧ σ' = [some (.ref a), some (.ref p), some (.int (0 + (i : Int))), some (.ref r), some (.ref b), u5, some (.str tx), v7, v8, v9, v10, v11, v12] ∧ PoolAt H' p l ∧ Tabs (TL7 K) H' ∧ H' r = some (.lst ((bws B).map V.str))) (fun R hR => ?_) ?_
    · refine ⟨⟨_, rfl⟩, _, rfl, _, r, bws B, rfl, rfl, .inl (SqL.of hr6), bws_sum B, ?_⟩
      exact hR _ _ ⟨_, Sm.join (sm_bws hb3), rfl, hp6, hT6, hr6⟩
    rintro σ' H7 ⟨tx, htx, rfl, hp7, hT7, hr7⟩
    clear hp6 hT6 hr6
    refine seq7 (fun σ' H' => ∃ (at_ : Int) (sg : Str), 0 ≤ at_ ∧ at_ ≤ tx.length ∧ Sm 1 sg ∧ σ' = [some (.ref a), some (.ref p), some (.int (0 + (i : Int))), some (.ref r), some (.ref b), u5, some (.str tx), some (.int at_), some (.str sg), v9, v10, v11, v12] ∧ PoolAt H' p l ∧ Tabs (TL7 K) H' ∧ H' r = some (.lst ((bws B).map V.str))) (fun R hR => ?_) ?_
    · rw [par7]
      have l7 := htx.2
      refine ⟨_, rfl, _, rfl, tx, rfl, (by have : sizeLine = 16777216 := rfl; omega), _, _, rfl, rfl, draw (K := K) hp7 (by omega) (log_small (by omega) (by omega)) fun at_ H8 s8 hp8 t0 t1 => ?_⟩
      refine ⟨_, rfl, draw (K := K) hp8 (by decide) (by decide) fun c H9 s9 hp9 c0 c1 => ?_⟩
      obtain ⟨v, hv, e⟩ : ∃ v, (" aduplnow-\n" : Str).cps.toList[c.toNat]? = some v ∧ atI (" aduplnow-\n" : Str).cps.toList c = some v := by
        have hlen : (" aduplnow-\n" : Str).cps.toList.length = 11 := by decide +kernel
        refine ⟨_, List.getElem?_eq_getElem (by omega), ?_⟩
        unfold atI ixN
        rw [if_pos c0, if_pos (by omega)]
        exact List.getElem?_eq_getElem (by omega)
      refine ⟨_, c, v, rfl, rfl, (show ((" aduplnow-\n" : Str)).length ≤ 16777216 by decide +kernel), e, _, _, rfl, ?_⟩
      have hvm : v < 256 := by
        have key : ∀ x ∈ (" aduplnow-\n" : Str).cps.toList, x < 256 := by decide +kernel
        exact key v (List.mem_of_getElem? hv)
      have hsg : Sm 1 ⟨#[v]⟩ := ⟨fun x hx => by
        have hx : x ∈ [v] := hx
        rw [List.mem_singleton] at hx
        rw [hx]; exact hvm, Nat.le_refl 1⟩
      exact hR _ _ ⟨at_, _, t0, by omega, hsg, rfl, hp9, Tabs.sameP hp8 s9 (Tabs.sameP hp7 s8 hT7), s9 _ _ hrp.1 hrp.2 (s8 _ _ hrp.1 hrp.2 hr7)⟩
    rintro σ' H8 ⟨at_, sg, t0, t1, hsg, rfl, hp8, hT8, hr8⟩
    clear hp7 hT7 hr7
    refine seq7 (fun σ' H' => ∃ (wd : Addr) (ws : List Str), ws.length = 6 ∧ (∀ s ∈ ws, Sm 6 s) ∧ σ' = [some (.ref a), some (.ref p), some (.int (0 + (i : Int))), some (.ref r), some (.ref b), u5, some (.str tx), some (.int at_), some (.str sg), some (.ref wd), v10, v11, v12] ∧ PoolAt H' p l ∧ Tabs (TL7 K) H' ∧ H' r = some (.lst ((bws B).map V.str)) ∧ H' wd = some (.lst (ws.map V.str)) ∧ (wd ≠ p ∧ wd ≠ l) ∧ wd ≠ r) (fun R hR => ?_) ?_
    · refine ⟨_, rfl, r, _, rfl, .inl (SqL.of hr8), fun wd hwd => ?_⟩
      have sb := Same.new (o := .lst ((bws B).map V.str)) hwd
      exact hR _ _ ⟨wd, bws B, rfl, sm_bws hb3, rfl, hp8.same sb, hT8.ext fun b o z => sb _ _ z, sb _ _ hr8, updS _ _ _, hp8.apart hwd, fun z => by rw [z, hr8] at hwd; cases hwd⟩
    rintro σ' H9 ⟨wd, ws, hw6, hws, rfl, hp9, hT9, hr9, hw9, nwd, nwr⟩
    clear hp8 hT8 hr8
    refine seq7 (fun σ' H' => ∃ (ws : List Str), ws.length = 6 ∧ (∀ s ∈ ws, Sm 6 s) ∧ σ' = [some (.ref a), some (.ref p), some (.int (0 + (i : Int))), some (.ref r), some (.ref b), u5, some (.str tx), some (.int at_), some (.str sg), some (.ref wd), v10, v11, v12] ∧ PoolAt H' p l ∧ Tabs (TL7 K) H' ∧ H' r = some (.lst ((bws B).map V.str)) ∧ H' wd = some (.lst (ws.map V.str))) (fun R hR => ?_) ?_
    · refine ⟨(show 6 ≤ 16777216 by decide), fun L hL => ?_⟩
      have key : ∀ zs : List Str, zs = [("" : Str), "down", "put", "cut", "now", "x"] → (tFn (sp__law_draw K) E0 (tCons (tVar 1) (tCons (tC (.int 6)) tNil))) [some (.ref a), some (.ref p), some (.int (0 + (i : Int))), some (.ref r), some (.ref b), u5, some (.str tx), some (.int at_), some (.str sg), some (.ref wd), v10, v11, v12] (upd H9 L (.lst (zs.map V.str))) fun y H2 => rIxLH (.ref L) y H2 fun x H3 => gSub (tVar 9) (tFn (sp__law_draw K) E0 (tCons (tVar 1) (tCons (tC (V.int 6)) tNil))) L2.rSetL x [some (.ref a), some (.ref p), some (.int (0 + (i : Int))), some (.ref r), some (.ref b), u5, some (.str tx), some (.int at_), some (.str sg), some (.ref wd), v10, v11, v12] H3 R := by
        intro zs hz
        have hzs : ∀ s ∈ zs, Sm 6 s := fun s hs => by
          rw [hz] at hs
          simp only [List.mem_cons, List.not_mem_nil, or_false] at hs
          rcases hs with rfl | rfl | rfl | rfl | rfl | rfl <;> exact sm_by (by decide +kernel)
        have sL := Same.new (o := .lst (zs.map V.str)) hL
        have gL := updS H9 L (.lst (zs.map V.str))
        have apL := hp9.apart hL
        have hpL := hp9.same sL
        have hTL : Tabs (TL7 K) (upd H9 L (.lst (zs.map V.str))) := hT9.ext fun b o z => sL _ _ z
        have hrL := sL _ _ hr9
        have hwL := sL _ _ hw9
        generalize upd H9 L (.lst (zs.map V.str)) = HL at *
        refine ⟨_, rfl, draw (K := K) hpL (by decide) (by decide) fun j H2 s2 hp2 j0 j1 => ?_⟩
        obtain ⟨x, hx, e⟩ := atV (xs := zs.map V.str) j0 (by rw [List.length_map, hz]; exact j1)
        obtain ⟨z, hzz, rfl⟩ := List.mem_map.mp (List.mem_of_getElem? hx)
        refine ⟨L, _, j, _, rfl, rfl, s2 _ _ apL.1 apL.2 gL, e, ?_⟩
        have hw2 := s2 _ _ nwd.1 nwd.2 hwL
        have hr2 := s2 _ _ hrp.1 hrp.2 hrL
        have hT2 := Tabs.sameP hpL s2 hTL
        unfold gSub
        refine ⟨_, rfl, _, rfl, draw (K := K) hp2 (by decide) (by decide) fun m H3 s3 hp3 m0 m1 => ?_⟩
        have hw3 := s3 _ _ nwd.1 nwd.2 hw2
        refine ⟨wd, ws.map V.str, m, m.toNat, rfl, rfl, hw3, by unfold ixN; rw [if_pos m0, if_pos (by rw [List.length_map, hw6]; omega)], ?_⟩
        refine hR _ _ ⟨ws.set m.toNat z, by rw [List.length_set]; exact hw6, fun s hs => ?_, rfl, hp3.upd7 nwd, Tabs.upd7 (Tabs.sameP hp2 s3 hT2) hw3, by rw [upd_ne (Ne.symm nwr)]; exact s3 _ _ hrp.1 hrp.2 hr2, by rw [List.map_set]; exact upd_same⟩
        rcases List.mem_or_eq_of_mem_set hs with z' | rfl
        · exact hws s z'
        · exact hzs _ hzz
      exact key _ rfl
    rintro σ' HA ⟨ws, hw6, hws, rfl, hpA, hTA, hrA, hwA⟩
    clear hp9 hT9 hr9 hw9
    refine seq7 (fun σ' H' => ∃ (sm : Addr) (ts : List Str), (∀ s ∈ ts, Sm 100 s) ∧ σ' = [some (.ref a), some (.ref p), some (.int (0 + (i : Int))), some (.ref r), some (.ref b), u5, some (.str tx), some (.int at_), some (.str sg), some (.ref wd), some (.ref sm), v11, v12] ∧ PoolAt H' p l ∧ Tabs (TL7 K) H' ∧ H' r = some (.lst ((bws B).map V.str)) ∧ H' wd = some (.lst (ws.map V.str)) ∧ ts.length = 3 ∧ H' sm = some (.lst (ts.map V.str))) (fun R hR => ?_) ?_
    · have l7 := htx.2
      have l8 := hsg.2
      have hz : sizeLine = 16777216 := rfl
      have c1 := htx.cut none (some at_)
      have c2 := htx.cut (some at_) none
      have c3 := htx.cut (some (at_ + 1)) none
      have k1 := c1.2
      have k2 := c2.2
      have k3 := c3.2
      have k4 := (c1.cat hsg).2
      unfold tSl tPart tNoPart rSlS
      walk_at "rsl"
      refine ⟨by omega, _, _, rfl, rfl, by omega, by omega, _, _, rfl, rfl, by omega, by omega, by omega, _, _, rfl, rfl, by omega, by decide, fun sm hsm => ?_⟩
      have sb := Same.new (o := .lst [V.str tx, .str (cutS tx none (some at_) ++ sg ++ cutS tx (some at_) none), .str (cutS tx none (some at_) ++ cutS tx (some (at_ + 1)) none)]) hsm
      refine hR _ _ ⟨sm, [tx, cutS tx none (some at_) ++ sg ++ cutS tx (some at_) none, cutS tx none (some at_) ++ cutS tx (some (at_ + 1)) none], fun s hs => ?_, rfl, hpA.same sb, hTA.ext fun b o z => sb _ _ z, sb _ _ hrA, sb _ _ hwA, rfl, updS _ _ _⟩
      simp only [List.mem_cons, List.not_mem_nil, or_false] at hs
      rcases hs with rfl | rfl | rfl
      · exact htx.mono (by decide)
      · exact ((c1.cat hsg).cat c2).mono (by decide)
      · exact (c1.cat c3).mono (by decide)
    rintro σ' HB ⟨sm, ts, hts, rfl, hpB, hTB, hrB, hwB, ht3, hsB⟩
    clear hpA hTA hrA hwA
    refine seq7 (fun σ' H' => ∃ v11, σ' = [some (.ref a), some (.ref p), some (.int (0 + (i : Int))), some (.ref r), some (.ref b), u5, some (.str tx), some (.int at_), some (.str sg), some (.ref wd), some (.ref sm), v11, v12] ∧ PoolAt H' p l ∧ Tabs (TL7 K) H' ∧ H' r = some (.lst ((bws B).map V.str))) (fun R hR => ?_) ?_
    · rw [forl_eq]
      unfold tSl tPart tNoPart
      walk_at "rsl"
      have hd6 : ∀ s ∈ ws.drop 1, Sm 6 s := fun s hs => hws s (List.mem_of_mem_drop hs)
      have j1 := (Sm.join hws).mono (show (6 + 1) * ws.length ≤ 100 by omega)
      have j2 := (Sm.join hd6).mono (show (6 + 1) * (ws.drop 1).length ≤ 100 by rw [List.length_drop]; omega)
      refine ⟨⟨_, rfl⟩, _, rfl, _, wd, ws, rfl, rfl, .inl (SqL.of hwB), sum_sm hws (by omega), ⟨_, rfl⟩, _, rfl, wd, ws.map V.str, rfl, SqL.of hwB, fun e he => ?_⟩
      rw [cut17 (show 1 ≤ (ws.map V.str).length by rw [List.length_map]; omega), ← List.map_drop]
      have se := Same.new (o := .lst ((ws.drop 1).map V.str)) he
      have ge := updS HB e (.lst ((ws.drop 1).map V.str))
      have hs2 := se _ _ hsB
      generalize upd HB e (.lst ((ws.drop 1).map V.str)) = H2 at *
      refine ⟨_, e, ws.drop 1, rfl, rfl, .inl (SqL.of ge), sum_sm hd6 (by rw [List.length_drop]; omega), fun L hL => ?_⟩
      have sL := Same.new (o := .lst [V.str (Txt.join " " ws), .str (Txt.join " " (ws.drop 1))]) hL
      have gL := updS H2 L (.lst [V.str (Txt.join " " ws), .str (Txt.join " " (ws.drop 1))])
      have hs3 := sL _ _ hs2
      generalize upd H2 L (.lst [V.str (Txt.join " " ws), .str (Txt.join " " (ws.drop 1))]) = H3 at *
      refine ⟨sm, L, _, _, rfl, rfl, hs3, gL, (by rw [List.length_map, ht3]; exact (show 3 + 2 ≤ 16777216 by decide)), fun M hM => ⟨M, rfl, ⟨_, SqL.of upd_same⟩, ?_⟩⟩
      have eM : ts.map V.str ++ [V.str (Txt.join " " ws), .str (Txt.join " " (ws.drop 1))] = (ts ++ [Txt.join " " ws, Txt.join " " (ws.drop 1)]).map V.str := by rw [List.map_append]; rfl
      rw [eM]
      have hus : ∀ s ∈ ts ++ [Txt.join " " ws, Txt.join " " (ws.drop 1)], Sm 100 s := fun s hs => by
        rcases List.mem_append.mp hs with z | z
        · exact hts s z
        · simp only [List.mem_cons, List.not_mem_nil, or_false] at z
          rcases z with rfl | rfl
          · exact j1
          · exact j2
      generalize ts ++ [Txt.join " " ws, Txt.join " " (ws.drop 1)] = us at *
      have sM := Same.new (o := .lst (us.map V.str)) hM
      have gM := updS H3 M (.lst (us.map V.str))
      have sa := se.trans (sL.trans sM)
      generalize upd H3 M (.lst (us.map V.str)) = H4 at *
      refine forL (xs := us.map V.str) (fun _ σ' H' => ∃ v11, σ' = [some (.ref a), some (.ref p), some (.int (0 + (i : Int))), some (.ref r), some (.ref b), u5, some (.str tx), some (.int at_), some (.str sg), some (.ref wd), some (.ref sm), v11, v12] ∧ ExtN H4 H' ∧ Tabs (TL7 K) H') ⟨v11, rfl, ExtN.refl _, hTB.ext fun b o z => sa _ _ z⟩ (fun j σ' H' ⟨_, _, e, _⟩ => SqL.of (e _ _ gM fun ps z => by cases z)) ?_ ?_
      · rintro j y σ' H' hj ⟨u11, rfl, e1, hT1⟩
        obtain ⟨t, ht, rfl⟩ := List.mem_map.mp (List.mem_of_getElem? hj)
        rw [gName1]
        simp only [List.set_cons_zero, List.set_cons_succ]
        have st := hus t ht
        exact ⟨_, rfl, t, rfl, st.tx (by decide), Nat.le_trans st.2 (by decide), hT1, fun H5 e5 T5 => ⟨_, rfl, _, rfl, e1.trans e5, T5⟩⟩
      · rintro σ' H' ⟨u11, rfl, e1, hT1⟩
        exact hR _ _ ⟨u11, rfl, (hpB.same sa).extN e1, hT1, e1 _ _ (sa _ _ hrB) fun ps z => by cases z⟩
    rintro σ' HC ⟨u11, rfl, hpC, hTC, hrC⟩
    clear hpB hTB hrB hwB hsB
    refine ⟨_, rfl, _, rfl, r, B, rfl, hrC, hb3, fun bk H2 s2 hBk => ?_⟩
    have hp2 := hpC.same s2
    have hT2 : Tabs (TL7 K) H2 := hTC.ext fun b o z => s2 _ _ z
    refine ⟨p, l, bk, B, rfl, hp2, hBk, hT2, fun H3 hp3 hT3 => ⟨_, rfl, ?_⟩⟩
    exact ⟨_, _, _, _, _, _, _, _, _, _, _, rfl, hp3, hT3⟩
  · obtain ⟨v2, v3, v4, v5, v6, v7, v8, v9, v10, v11, v12, rfl, hp1, hT1⟩ := hI
    dsimp only
    have end7 : ∀ (D1 : Addr) (H4 : Hp), ExtN H' H4 → Tabs (TL7 K) H4 → Prs7 H4 D1 ds7 → tLc (iList K (tLst (tCons (tC .non) (tCons (tC (.int 3)) (tCons (tLst (tCons (tC (.str "down")) tNil)) tNil))))) (gName 12) tYes (tLst (tCons (tC (.str "text")) (tCons (tCB (rReprG K) (tCons (tVar 12) tNil)) tNil))) [12] [some (.ref a), some (.ref p), v2, v3, v4, v5, v6, v7, v8, v9, v10, v11, v12] H4 fun y H5 => rEqD K (.ref D1) y H5 Q := fun D1 H4 x4 t4 p4 => by
      refine tlc7 t4 (fun x d H7 R x7 t7 ho ok nd _ hR => ?_) (fun D3 H7 x7 t7 p7 => ?_)
      · refine ⟨x, rfl, ?_⟩
        dsimp only [tNil]
        refine repr7 ho ok nd ⟨(show 2 ≤ 16777216 by decide), fun r hr => ?_⟩
        have sr := Same.new (o := .lst [.str "text", .str d.shown]) hr
        exact hR r _ (Same.toN sr) (t7.ext fun b o z => sr _ _ z) (updS _ _ _)
      · have dps : ∀ {H : Hp} {D : Addr}, Prs7 H D ds7 → Dp K H (.ref D) (.list [.list [.str "text", .str (PyData.none).shown], .list [.str "text", .str (PyData.int 3).shown], .list [.str "text", .str (PyData.list [.str "down"]).shown]]) := fun {H D} ⟨rs, h1, h2, h3⟩ => by
          match rs, h2 with
          | [r0, r1, r2], _ => exact .lst (.inl (.inl h1)) (.cons (dp_pair (h3 0 r0 _ rfl rfl)) (.cons (dp_pair (h3 1 r1 _ rfl rfl)) (.cons (dp_pair (h3 2 r2 _ rfl rfl)) .nil)))
        refine ⟨_, _, dps (p4.ext x7), dps p7, by decide +kernel, by decide +kernel, ?_⟩
        have e : PyData.eqv (.list [.list [.str "text", .str (PyData.none).shown], .list [.str "text", .str (PyData.int 3).shown], .list [.str "text", .str (PyData.list [.str "down"]).shown]]) (.list [.list [.str "text", .str (PyData.none).shown], .list [.str "text", .str (PyData.int 3).shown], .list [.str "text", .str (PyData.list [.str "down"]).shown]]) = true := by decide +kernel
        rw [e]
        exact q _
    refine tlc7 (Q := fun x1 H4 => tLc (iList K (tLst (tCons (tC .non) (tCons (tC (.int 3)) (tCons (tLst (tCons (tC (.str "down")) tNil)) tNil))))) (gName 12) tYes (tLst (tCons (tC (.str "text")) (tCons (tCB (rReprG K) (tCons (tVar 12) tNil)) tNil))) [12] [some (.ref a), some (.ref p), v2, v3, v4, v5, v6, v7, v8, v9, v10, v11, v12] H4 fun y H5 => rEqD K x1 y H5 Q) hT1 (fun x d H4 R x4 t4 ho ok nd nt hR => ?_) (fun D1 H4 x4 t4 p4 => end7 D1 H4 x4 t4 p4)
    refine lam_errS kT t4 ok ho (fun H5 E5 Q5 e5 hE => ?_) fun R5 H5 hR5 e5 T5 => hR R5 H5 e5 T5 hR5
    refine ⟨rfl, x, rfl, x, d, rfl, ho.extN e5, fun t e => absurd e (nt t), ?_, fun H6 dd s6 hdd => hE H6 dd s6 hdd⟩
    cases x with
    | str t => exact absurd rfl (nt t)
    | _ => rfl
end
end Tw
/-! the defs as they stand -/
namespace Tw
open PySem PySem.Spec PyProof.Rows L2 He TwM Hd PySem.W LamX
section
variable {K : Frag} {w : World} {mg : PySem.Str → Option Value} {base : Heap}
theorem kfb (T : Tx K mg w) : Kfb K w where
  cB := cls_Book T
  nBv := na_Book_kept_values T
  sw := tup_SWITCHES T
  vd := fun x hx => by
    obtain ⟨es, n, D⟩ := T.says.tab 0 rfl
    exact ⟨es, n, _, D.at_, D.lit, val_VALUES T x hx, rfl⟩
  v0 := tup_VALUES_rounding T
  v1 := tup_VALUES_action T
  v2 := tup_VALUES_order T
  v3 := tup_VALUES_due T
  v4 := tup_VALUES_zero T
  v5 := tup_VALUES_beyond T
theorem kh (T : Tx K mg w) : Kh K w := ⟨kfb T, nod_SWITCHES T⟩
theorem kbq (T : Tx K mg w) : Kbq K w := ⟨kfb T, isi_Book T, kit_Book T⟩
theorem okE_InvalidSwitch {CX : CXT} (T : Tx K mg w) : ∃ fd, FnOk (PySem.Challenge.rw_timerwheels_k07_books_refused).prog w K mg base CX 1 (ma K (ga K "InvalidSwitch") "__init__") fd ["self", "value"] (sp_er K (ga K "InvalidSwitch") "value") ∧ Binds K fd ["self", "value"] [] :=
  ok_err (er_InvalidSwitch T) rfl (by decide +kernel) (ef_InvalidSwitch T) (NdefX.nscope_by (by decide +kernel)) rfl rfl (by decide +kernel) (free_super T) (by decide +kernel) (by decide +kernel) (fun _ _ _ _ => rfl) (fun _ _ _ _ => rfl) (fun _ _ _ _ => rfl) (fun _ _ _ _ => ⟨_, rfl⟩)
    (fun _ _ _ _ _ _ _ us hl => match us, hl with | [_, _], _ => rfl)
theorem okE_InvalidText {CX : CXT} (T : Tx K mg w) : ∃ fd, FnOk (PySem.Challenge.rw_timerwheels_k07_books_refused).prog w K mg base CX 1 (ma K (ga K "InvalidText") "__init__") fd ["self", "value"] (sp_er K (ga K "InvalidText") "value") ∧ Binds K fd ["self", "value"] [] :=
  ok_err (er_InvalidText T) rfl (by decide +kernel) (ef_InvalidText T) (NdefX.nscope_by (by decide +kernel)) rfl rfl (by decide +kernel) (free_super T) (by decide +kernel) (by decide +kernel) (fun _ _ _ _ => rfl) (fun _ _ _ _ => rfl) (fun _ _ _ _ => rfl) (fun _ _ _ _ => ⟨_, rfl⟩)
    (fun _ _ _ _ _ _ _ us hl => match us, hl with | [_, _], _ => rfl)
def n__law_caught : List PySem.Str := ["_law_call", "e"]
theorem sc__law_caught : FnScope n__law_caught ["_law_call"] (defScope s__law_caught) := ⟨rfl, rfl, rfl, by decide +kernel, rfl, by decide +kernel, by decide +kernel⟩
theorem sc__law_kind : FnScope n__law_kind ["_law_error"] (defScope s__law_kind) := ⟨rfl, rfl, rfl, by decide +kernel, rfl, by decide +kernel, by decide +kernel⟩
theorem ln0__law_kind (p : Addr × Obj) (vs : List V) (H : Hp) (Q : VK) (E : XK) (h : sp__law_kind K p vs H Q E) : vs.length = 1 := by
  obtain ⟨_, _, _, rfl, _⟩ := h
  rfl
theorem okP__law_kind (T : Tx K mg w) : FnP (PySem.Challenge.rw_timerwheels_k07_books_refused).prog w K mg base 3 (ga K "_law_kind") (sp__law_kind K) := by
  obtain ⟨fd, F⟩ := d__law_kind T
  exact fnP_of (k := 2) (N := n__law_kind) F sc__law_kind (F.bindsN fun _ _ _ _ _ _ us hl => match us, hl with | [_], _ => rfl) ln0__law_kind fun cdv A fs t H vs Q p hr _ h => by
    have hp : p ∈ [p] := List.mem_singleton.mpr rfl
    exact ⟨t__law_kind K p, (pss_cons (ps_set (i := 1) sc__law_kind.nd rfl (Or.inl rfl) (pe_lst (pa_cons (pe_callB (call_isP hp) (by rfl) (free_isinstance T) (by decide +kernel) (pa_cons (pv 0) (pa_cons (pe_glob rfl (glo_InvalidNumber T) rfl) pa_nil))) (pa_cons (pe_callB (call_isP hp) (by rfl) (free_isinstance T) (by decide +kernel) (pa_cons (pv 0) (pa_cons (pe_glob rfl (glo_InvalidText T) rfl) pa_nil))) (pa_cons (pe_callB (call_isP hp) (by rfl) (free_isinstance T) (by decide +kernel) (pa_cons (pv 0) (pa_cons (pe_glob rfl (glo_InvalidName T) rfl) pa_nil))) pa_nil)))))
  (pss_cons (ps_set (i := 1) sc__law_kind.nd rfl (Or.inl rfl) (pe_op op_cat (pv 1) (pe_lst (pa_cons (pe_callB (call_isP hp) (by rfl) (free_isinstance T) (by decide +kernel) (pa_cons (pv 0) (pa_cons (pe_glob rfl (glo_InvalidLevels T) rfl) pa_nil))) (pa_cons (pe_callB (call_isP hp) (by rfl) (free_isinstance T) (by decide +kernel) (pa_cons (pv 0) (pa_cons (pe_glob rfl (glo_InvalidSwitch T) rfl) pa_nil))) pa_nil)))))
  (pss_cons (ps_set (i := 1) sc__law_kind.nd rfl (Or.inl rfl) (pe_op op_cat (pv 1) (pe_lst (pa_cons (pe_callB (call_isP hp) (by rfl) (free_isinstance T) (by decide +kernel) (pa_cons (pv 0) (pa_cons (pe_glob rfl (glo_InvalidMode T) rfl) pa_nil))) (pa_cons (pe_callB (call_isP hp) (by rfl) (free_isinstance T) (by decide +kernel) (pa_cons (pv 0) (pa_cons (pe_glob rfl (glo_InvalidMenu T) rfl) pa_nil))) (pa_cons (pe_callB (call_isP hp) (by rfl) (free_isinstance T) (by decide +kernel) (pa_cons (pv 0) (pa_cons (pe_glob rfl (glo_InvalidPlan T) rfl) pa_nil))) pa_nil))))))
  (pss_cons (ps_set (i := 1) sc__law_kind.nd rfl (Or.inl rfl) (pe_op op_cat (pv 1) (pe_lst (pa_cons (pe_callB (call_isP hp) (by rfl) (free_isinstance T) (by decide +kernel) (pa_cons (pv 0) (pa_cons (pe_glob rfl (glo_InvalidCommand T) rfl) pa_nil))) (pa_cons (pe_callB (call_isP hp) (by rfl) (free_isinstance T) (by decide +kernel) (pa_cons (pv 0) (pa_cons (pe_glob rfl (glo_TooLong T) rfl) pa_nil))) (pa_cons (pe_callB (call_isP hp) (by rfl) (free_isinstance T) (by decide +kernel) (pa_cons (pv 0) (pa_cons (pe_glob rfl (glo_TooMany T) rfl) pa_nil))) pa_nil))))))
  (pss_cons (ps_set (i := 1) sc__law_kind.nd rfl (Or.inl rfl) (pe_op op_cat (pv 1) (pe_lst (pa_cons (pe_callB (call_isP hp) (by rfl) (free_isinstance T) (by decide +kernel) (pa_cons (pv 0) (pa_cons (pe_glob rfl (glo_NothingToUndo T) rfl) pa_nil))) pa_nil))))
  (pss_cons (ps_if (PW.pt (pw_or (pt_cmpR op_ne (pe_bm PySem.F.plainAttrs_list PySem.F.slot_list_count PySem.F.type_list_count mt_countF (pv 1) (pa_cons pe_bl pa_nil)) pe_int (nomark _)) (pw_or1 (pt_cmpR op_ne (pe_callB (call_isP hp) (by rfl) (free_isinstance T) (by decide +kernel) (pa_cons (pv 0) (pa_cons (pe_glob rfl (glo_WheelError T) rfl) pa_nil))) (pe_cmpR op_lt (pe_bm PySem.F.plainAttrs_list PySem.F.slot_list_index PySem.F.type_list_index mt_index (pv 1) (pa_cons pe_bl pa_nil)) pe_int (nomark _)) (nomark _))))) (pss_one (ps_ret pe_str)) pss_nil)
  (pss_cons (ps_set (i := 2) sc__law_kind.nd rfl (Or.inl rfl) (pe_lst (pa_cons pe_str (pa_cons pe_str (pa_cons pe_str (pa_cons pe_str (pa_cons pe_str (pa_cons pe_str (pa_cons pe_str (pa_cons pe_str (pa_cons pe_str (pa_cons pe_str (pa_cons pe_str (pa_cons pe_str pa_nil))))))))))))))
  (pss_one (ps_ret (pe_ix ix_lstH (pv 2) (pe_bm PySem.F.plainAttrs_list PySem.F.slot_list_index PySem.F.type_list_index mt_index (pv 1) (pa_cons pe_bl pa_nil)) (fun _ _ => rfl))))))))))), rd__law_kind vs H Q C8.E0 h⟩
theorem cg (T : Tx K mg w) {N : List PySem.Str} {qual : PySem.Str} {sc : Scope} {f : Addr} {cdv : Value} {A : Around} {fs : List Env} {t : Shared} {H : Hp} {E : XK}
    (hr : RmG 8 (cxOf C8.CX0 (PySem.Challenge.rw_timerwheels_k07_books_refused).prog w K mg base N qual sc f cdv A fs t H E).nox.A) (q : PySem.Str) (cdg : Value) :
    GivesTo (cxOf C8.CX0 (PySem.Challenge.rw_timerwheels_k07_books_refused).prog w K mg base N qual sc f cdv A fs t H E).nox n__law_caught "_law_caught" (defScope s__law_caught) (ga K "_law_caught") cdg (defBody s__law_caught) "_law_call" q (TCg K) :=
  caught_gives sc__law_caught.nd rfl (fun s H => .cons rfl rfl ⟨rfl, rfl, .inl (glo_WheelError T)⟩ (fun a oe cls d pn hz hf => pss_one (ps_ret (pe_lst (pa_cons (pe_kind (okP__law_kind T) ⟨by have := hr.rm.dp; show _ + 1 + 3 * 3 + 5 < _; omega, by have := hr.rm.un; show _ + 3 + 16 * 3 + 200 < _; omega⟩ hz hf rfl (glo__law_kind T) (d__law_kind T).choose_spec.kp (pa_cons (pe_var (i := 1) rfl (Or.inl rfl)) pa_nil))
      (pa_cons (pe_callB (call_reprE hr.gd (by have := hr.rm.un; show _ + 3 + 40 < _; omega)) (by rfl) (free_repr T) (by decide +kernel) (pa_cons (pe_xfA hz hf (pe_var (i := 1) rfl (Or.inl rfl))) pa_nil)) pa_nil)))))
    (.cons rfl rfl ⟨rfl, rfl, .inl (glo_TooLong T)⟩ (fun a oe cls d pn hz hf => pss_one (ps_ret (pe_lst (pa_cons (pe_kind (okP__law_kind T) ⟨by have := hr.rm.dp; show _ + 1 + 3 * 3 + 5 < _; omega, by have := hr.rm.un; show _ + 3 + 16 * 3 + 200 < _; omega⟩ hz hf rfl (glo__law_kind T) (d__law_kind T).choose_spec.kp (pa_cons (pe_var (i := 1) rfl (Or.inl rfl)) pa_nil))
      (pa_cons (pe_callB (call_reprE hr.gd (by have := hr.rm.un; show _ + 3 + 40 < _; omega)) (by rfl) (free_repr T) (by decide +kernel) (pa_cons (pe_xfA hz hf (pe_var (i := 1) rfl (Or.inl rfl))) pa_nil)) pa_nil))))) (.cons rfl rfl ⟨rfl, rfl, .inl (glo_TooMany T)⟩ (fun a oe cls d pn hz hf => pss_one (ps_ret (pe_lst (pa_cons (pe_kind (okP__law_kind T) ⟨by have := hr.rm.dp; show _ + 1 + 3 * 3 + 5 < _; omega, by have := hr.rm.un; show _ + 3 + 16 * 3 + 200 < _; omega⟩ hz hf rfl (glo__law_kind T) (d__law_kind T).choose_spec.kp (pa_cons (pe_var (i := 1) rfl (Or.inl rfl)) pa_nil))
      (pa_cons (pe_callB (call_reprE hr.gd (by have := hr.rm.un; show _ + 3 + 40 < _; omega)) (by rfl) (free_repr T) (by decide +kernel) (pa_cons (pe_xfA hz hf (pe_var (i := 1) rfl (Or.inl rfl))) pa_nil)) pa_nil))))) (.cons rfl rfl ⟨rfl, rfl, .inl (glo_NothingToUndo T)⟩ (fun a oe cls d pn hz hf => pss_one (ps_ret (pe_lst (pa_cons (pe_kind (okP__law_kind T) ⟨by have := hr.rm.dp; show _ + 1 + 3 * 3 + 5 < _; omega, by have := hr.rm.un; show _ + 3 + 16 * 3 + 200 < _; omega⟩ hz hf rfl (glo__law_kind T) (d__law_kind T).choose_spec.kp (pa_cons (pe_var (i := 1) rfl (Or.inl rfl)) pa_nil))
      (pa_cons pe_str pa_nil))))) .nil))))
    (fun s H => pss_one (ps_ret pe_non)) (fun f => rfl)
theorem kec_InvalidSwitch (T : Tx K mg w) : KeC K "InvalidSwitch" "switch" := kec_of (er_InvalidSwitch T) (kn_InvalidSwitch T) (by decide +kernel)
theorem kec_InvalidText (T : Tx K mg w) : KeC K "InvalidText" "text" := kec_of (er_InvalidText T) (kn_InvalidText T) (by decide +kernel)
structure TBs (K : Frag) (mg : PySem.Str → Option Value) (base : Heap) : Prop where
  _law_text_right : TabB base mg (codA K (ga K "_law_text_right")) (tbA K (ga K "_law_text_right"))
  _law_changes_right : TabB base mg (codA K (ga K "_law_changes_right")) (tbA K (ga K "_law_changes_right"))
  law : TabB base mg (codA K (ga K "law")) (tbA K (ga K "law"))
abbrev TBs.L (K : Frag) : List (Addr × PySem.Str) := [(tbA K (ga K "_law_text_right"), (("_law_text_right" : PySem.Str) ++ ".<locals>." ++ "<lambda>")), (tbA K (ga K "_law_changes_right"), (("_law_changes_right" : PySem.Str) ++ ".<locals>." ++ "<lambda>")), (tbA K (ga K "law"), (("law" : PySem.Str) ++ ".<locals>." ++ "<lambda>"))]
theorem TBs.mem__law_text_right (T : Tx K mg w) : (tbA K (ga K "_law_text_right"), ((("_law_text_right" : PySem.Str) ++ ".<locals>.") ++ "<lambda>")) ∈ TBs.L K := by simp
theorem TBs.one__law_text_right (T : Tx K mg w) : ∀ p ∈ TBs.L K, p.1 = tbA K (ga K "_law_text_right") → p.2 = ((("_law_text_right" : PySem.Str) ++ ".<locals>.") ++ "<lambda>") := by
  intro p hp e
  simp only [List.mem_cons, List.not_mem_nil, or_false] at hp
  rcases hp with rfl | rfl | rfl
  · rfl
  · dsimp only at e
    rw [tb__law_changes_right T, tb__law_text_right T] at e
    exact absurd e (by decide)
  · dsimp only at e
    rw [tb_law T, tb__law_text_right T] at e
    exact absurd e (by decide)
theorem TBs.mem__law_changes_right (T : Tx K mg w) : (tbA K (ga K "_law_changes_right"), ((("_law_changes_right" : PySem.Str) ++ ".<locals>.") ++ "<lambda>")) ∈ TBs.L K := by simp
theorem TBs.one__law_changes_right (T : Tx K mg w) : ∀ p ∈ TBs.L K, p.1 = tbA K (ga K "_law_changes_right") → p.2 = ((("_law_changes_right" : PySem.Str) ++ ".<locals>.") ++ "<lambda>") := by
  intro p hp e
  simp only [List.mem_cons, List.not_mem_nil, or_false] at hp
  rcases hp with rfl | rfl | rfl
  · dsimp only at e
    rw [tb__law_text_right T, tb__law_changes_right T] at e
    exact absurd e (by decide)
  · rfl
  · dsimp only at e
    rw [tb_law T, tb__law_changes_right T] at e
    exact absurd e (by decide)
theorem TBs.mem_law (T : Tx K mg w) : (tbA K (ga K "law"), ((("law" : PySem.Str) ++ ".<locals>.") ++ "<lambda>")) ∈ TBs.L K := by simp
theorem TBs.one_law (T : Tx K mg w) : ∀ p ∈ TBs.L K, p.1 = tbA K (ga K "law") → p.2 = ((("law" : PySem.Str) ++ ".<locals>.") ++ "<lambda>") := by
  intro p hp e
  simp only [List.mem_cons, List.not_mem_nil, or_false] at hp
  rcases hp with rfl | rfl | rfl
  · dsimp only at e
    rw [tb__law_text_right T, tb_law T] at e
    exact absurd e (by decide)
  · dsimp only at e
    rw [tb__law_changes_right T, tb_law T] at e
    exact absurd e (by decide)
  · rfl
theorem sc__law_begin : FnScope n__law_begin ["_law_script"] (defScope s__law_begin) := ⟨rfl, rfl, rfl, by decide +kernel, rfl, by decide +kernel, by decide +kernel⟩
theorem ln0__law_begin (vs : List V) (H : Hp) (Q : VK) (E : XK) (h : sp__law_begin K vs H Q E) : vs.length = 1 := by
  unfold sp__law_begin at h
  repeat' (first | (exact (congrArg List.length h.1).trans rfl) | (refine Or.elim h (fun h => ?_) (fun h => ?_)) | (obtain ⟨_, h⟩ := h))
theorem okk__law_begin (T : Tx K mg w) : FnOk (PySem.Challenge.rw_timerwheels_k07_books_refused).prog w K mg base CX0 2 (ga K "_law_begin") (d__law_begin T).choose ["_law_script"] (sp__law_begin K) :=
  FunD.ok (k := 1) (N := n__law_begin) (d__law_begin T).choose_spec sc__law_begin ln0__law_begin fun cdv A outer s H vs Q E hr h => ⟨t__law_begin K w, PSs.nox (pss_cons (ps_set (i := 1) sc__law_begin.nd rfl (Or.inl rfl) pe_int)
  (pss_cons (ps_for PassesOwn.never rfl (pi_list (pe_slice sl_list (pv 0) po_none (po_some pe_int))) (pg_name (i := 2) sc__law_begin.nd rfl (Or.inl rfl))
    (pss_one (ps_set (i := 1) sc__law_begin.nd rfl (Or.inl rfl) (pe_op op_mod (pe_op op_add (pe_op op_add (pe_op op_mul (pv 1) pe_int) (pe_op op_mod (pe_callTy call_int1 (by rfl) (free_int T) (by decide +kernel) (pa_cons (pv 2) pa_nil)) pe_int)) pe_int) pe_int))))
  (pss_one (ps_ret (pe_lst (pa_cons (pe_lc (own := [("_law_cell", 2)]) (g := (gName 2)) (tt := tYes) rfl sc__law_begin.nd (pi_list (pv 0)) (blkOk_by (own := [("_law_cell", 2)]) (N := ["_law_script", "_law_seed", "_law_cell"]) (sc := defScope s__law_begin) (by decide +kernel)) (fun _ _ _ _ _ => (pg_name (i := 2) sc__law_begin.nd rfl (Or.inl rfl))) (fun _ _ _ _ _ => pts_nil) (fun _ _ _ _ _ => (pe_callB call_abs (by rfl) (free_abs T) (by decide +kernel) (pa_cons (pe_callTy call_int1 (by rfl) (free_int T) (by decide +kernel) (pa_cons (pv 2) pa_nil)) pa_nil)))) (pa_cons pe_int (pa_cons pe_int (pa_cons (pv 1) (pa_cons pe_int pa_nil)))))))))), rd__law_begin vs H Q E h⟩
theorem ok__law_begin (T : Tx K mg w) : FnR (PySem.Challenge.rw_timerwheels_k07_books_refused).prog w K mg base CX0 2 (ga K "_law_begin") (sp__law_begin K) :=
  fnR_of (okk__law_begin T) ((d__law_begin T).choose_spec.bindsN fun _ _ _ _ _ _ us hl => match us, hl with | [_], _ => rfl)
theorem kp__law_begin (T : Tx K mg w) : keepIn K (.ref (ga K "_law_begin")) = true := (d__law_begin T).choose_spec.kp
theorem sc__law_mixed : FnScope n__law_mixed ["_law_pool", "_law_many"] (defScope s__law_mixed) := ⟨rfl, rfl, rfl, by decide +kernel, rfl, by decide +kernel, by decide +kernel⟩
theorem ln0__law_mixed (vs : List V) (H : Hp) (Q : VK) (E : XK) (h : sp__law_mixed K vs H Q E) : vs.length = 2 := by
  unfold sp__law_mixed at h
  repeat' (first | (exact (congrArg List.length h.1).trans rfl) | (refine Or.elim h (fun h => ?_) (fun h => ?_)) | (obtain ⟨_, h⟩ := h))
theorem okk__law_mixed (T : Tx K mg w) : FnOk (PySem.Challenge.rw_timerwheels_k07_books_refused).prog w K mg base CX0 2 (ga K "_law_mixed") (d__law_mixed T).choose ["_law_pool", "_law_many"] (sp__law_mixed K) :=
  FunD.ok (k := 1) (N := n__law_mixed) (d__law_mixed T).choose_spec sc__law_mixed ln0__law_mixed fun cdv A outer s H vs Q E hr h => ⟨t__law_mixed K w, PSs.nox (pss_cons (ps_asg (pe_op op_add (pe_ix ix_lstH (pv 0) pe_int (fun _ _ => rfl)) pe_int) (pg_sub (pv 0) pe_int set_list))
  (pss_cons (ps_set (i := 2) sc__law_mixed.nd rfl (Or.inl rfl) (pe_ix ix_lstH (pv 0) pe_int (fun _ _ => rfl)))
  (pss_cons (ps_for PassesOwn.never rfl (pi_range1 rfl (free_range T) (pa_cons (pe_op op_add pe_int (pe_op op_fdiv (pe_callB call_len_str (by rfl) (free_len T) (by decide +kernel) (pa_cons (pe_callTy call_str_int (by rfl) (free_str T) (by decide +kernel) (pa_cons (pv 1) pa_nil)) pa_nil)) pe_int)) pa_nil)) (pg_name (i := 3) sc__law_mixed.nd rfl (Or.inl rfl))
    (pss_cons (ps_asg (pe_op op_mod (pe_op op_add (pe_op op_add (pe_op op_mul (pe_ix ix_lstH (pv 0) pe_int (fun _ _ => rfl)) pe_int) (pe_op op_mul (pe_ix ix_lstH (pv 0) pe_int (fun _ _ => rfl)) pe_int)) pe_int) pe_int) (pg_sub (pv 0) pe_int set_list))
  (pss_one (ps_set (i := 2) sc__law_mixed.nd rfl (Or.inl rfl) (pe_op op_add (pe_op op_mul (pv 2) pe_int) (pe_op op_fdiv (pe_ix ix_lstH (pv 0) pe_int (fun _ _ => rfl)) pe_int))))))
  (pss_one (ps_ret (pe_op op_mod (pv 2) (pv 1))))))), rd__law_mixed vs H Q E h⟩
theorem ok__law_mixed (T : Tx K mg w) : FnR (PySem.Challenge.rw_timerwheels_k07_books_refused).prog w K mg base CX0 2 (ga K "_law_mixed") (sp__law_mixed K) :=
  fnR_of (okk__law_mixed T) ((d__law_mixed T).choose_spec.bindsN fun _ _ _ _ _ _ us hl => match us, hl with | [_, _], _ => rfl)
theorem kp__law_mixed (T : Tx K mg w) : keepIn K (.ref (ga K "_law_mixed")) = true := (d__law_mixed T).choose_spec.kp
theorem sc__law_draw : FnScope n__law_draw ["_law_pool", "_law_many"] (defScope s__law_draw) := ⟨rfl, rfl, rfl, by decide +kernel, rfl, by decide +kernel, by decide +kernel⟩
theorem ln0__law_draw (vs : List V) (H : Hp) (Q : VK) (E : XK) (h : sp__law_draw K vs H Q E) : vs.length = 2 := by
  unfold sp__law_draw at h
  repeat' (first | (exact (congrArg List.length h.1).trans rfl) | (refine Or.elim h (fun h => ?_) (fun h => ?_)) | (obtain ⟨_, h⟩ := h))
theorem okk__law_draw (T : Tx K mg w) : FnOk (PySem.Challenge.rw_timerwheels_k07_books_refused).prog w K mg base CX0 4 (ga K "_law_draw") (d__law_draw T).choose ["_law_pool", "_law_many"] (sp__law_draw K) :=
  FunD.ok (k := 3) (N := n__law_draw) (d__law_draw T).choose_spec sc__law_draw ln0__law_draw fun cdv A outer s H vs Q E hr h => ⟨t__law_draw K w, PSs.nox (pss_cons (ps_if (PW.pt (pw_or (pt_cmpR op_ge (pe_ix ix_lstH (pv 0) pe_int (fun _ _ => rfl)) (pe_callB call_lenL (by rfl) (free_len T) (by decide +kernel) (pa_cons (pe_ix ix_lstH (pv 0) pe_int (fun _ _ => rfl)) pa_nil)) (nomark _)) (pw_or1 (pt_cmpR op_eq (pv 1) pe_int (nomark _))))) (pss_one (ps_ret (pe_ifExp (pt_cmpR op_gt (pv 1) pe_int (nomark _)) (pe_fn (ok__law_mixed T) (hr.mono (by decide)) rfl (glo__law_mixed T) (kp__law_mixed T) pass0 (pa_cons (pv 0) (pa_cons (pv 1) pa_nil))) pe_int))) pss_nil)
  (pss_cons (ps_if (pt_cmpR op_lt (pe_ix ix_lstH (pe_ix ix_lstH (pv 0) pe_int (fun _ _ => rfl)) (pe_ix ix_lstH (pv 0) pe_int (fun _ _ => rfl)) (fun _ _ => rfl)) (pe_op op_pow pe_int pe_int) (nomark _)) (pss_cons (ps_asg (pe_op op_mod (pe_op op_add (pe_op op_add (pe_op op_add (pe_op op_mul (pe_ix ix_lstH (pv 0) pe_int (fun _ _ => rfl)) pe_int) (pe_ix ix_lstH (pe_ix ix_lstH (pv 0) pe_int (fun _ _ => rfl)) (pe_ix ix_lstH (pv 0) pe_int (fun _ _ => rfl)) (fun _ _ => rfl))) (pe_ix ix_lstH (pv 0) pe_int (fun _ _ => rfl))) pe_int) pe_int) (pg_sub (pv 0) pe_int set_list))
  (pss_cons (ps_asg (pe_op op_add (pe_ix ix_lstH (pv 0) pe_int (fun _ _ => rfl)) pe_int) (pg_sub (pv 0) pe_int set_list))
  (pss_cons (ps_if (pt_cmpR op_eq (pe_op op_mod (pe_ix ix_lstH (pv 0) pe_int (fun _ _ => rfl)) pe_int) pe_int (nomark _)) (pss_one (ps_asg (pe_op op_add (pe_ix ix_lstH (pv 0) pe_int (fun _ _ => rfl)) pe_int) (pg_sub (pv 0) pe_int set_list))) pss_nil)
  (pss_one (ps_ret (pe_fn (ok__law_mixed T) (hr.mono (by decide)) rfl (glo__law_mixed T) (kp__law_mixed T) pass0 (pa_cons (pv 0) (pa_cons (pv 1) pa_nil)))))))) pss_nil)
  (pss_cons (ps_set (i := 2) sc__law_draw.nd rfl (Or.inl rfl) (pe_op op_mod (pe_ix ix_lstH (pe_ix ix_lstH (pv 0) pe_int (fun _ _ => rfl)) (pe_ix ix_lstH (pv 0) pe_int (fun _ _ => rfl)) (fun _ _ => rfl)) (pv 1)))
  (pss_cons (ps_asg (pe_op op_fdivW (pe_ix ix_lstH (pe_ix ix_lstH (pv 0) pe_int (fun _ _ => rfl)) (pe_ix ix_lstH (pv 0) pe_int (fun _ _ => rfl)) (fun _ _ => rfl)) (pv 1)) (pg_sub (pe_ix ix_lstH (pv 0) pe_int (fun _ _ => rfl)) (pe_ix ix_lstH (pv 0) pe_int (fun _ _ => rfl)) set_list))
  (pss_cons (ps_if (pt_cmpR op_eq (pe_ix ix_lstH (pe_ix ix_lstH (pv 0) pe_int (fun _ _ => rfl)) (pe_ix ix_lstH (pv 0) pe_int (fun _ _ => rfl)) (fun _ _ => rfl)) pe_int (nomark _)) (pss_one (ps_asg (pe_op op_add (pe_ix ix_lstH (pv 0) pe_int (fun _ _ => rfl)) pe_int) (pg_sub (pv 0) pe_int set_list))) pss_nil)
  (pss_one (ps_ret (pv 2)))))))), rd__law_draw vs H Q E h⟩
theorem ok__law_draw (T : Tx K mg w) : FnR (PySem.Challenge.rw_timerwheels_k07_books_refused).prog w K mg base CX0 4 (ga K "_law_draw") (sp__law_draw K) :=
  fnR_of (okk__law_draw T) ((d__law_draw T).choose_spec.bindsN fun _ _ _ _ _ _ us hl => match us, hl with | [_, _], _ => rfl)
theorem kp__law_draw (T : Tx K mg w) : keepIn K (.ref (ga K "_law_draw")) = true := (d__law_draw T).choose_spec.kp
theorem sc__law_draw_values : FnScope n__law_draw_values ["_law_pool"] (defScope s__law_draw_values) := ⟨rfl, rfl, rfl, by decide +kernel, rfl, by decide +kernel, by decide +kernel⟩
theorem ln0__law_draw_values (vs : List V) (H : Hp) (Q : VK) (E : XK) (h : sp__law_draw_values K vs H Q E) : vs.length = 1 := by
  unfold sp__law_draw_values at h
  repeat' (first | (exact (congrArg List.length h.1).trans rfl) | (refine Or.elim h (fun h => ?_) (fun h => ?_)) | (obtain ⟨_, h⟩ := h))
theorem okk__law_draw_values (T : Tx K mg w) : FnOk (PySem.Challenge.rw_timerwheels_k07_books_refused).prog w K mg base CX0 6 (ga K "_law_draw_values") (d__law_draw_values T).choose ["_law_pool"] (sp__law_draw_values K) :=
  FunD.ok (k := 5) (N := n__law_draw_values) (d__law_draw_values T).choose_spec sc__law_draw_values ln0__law_draw_values fun cdv A outer s H vs Q E hr h => ⟨t__law_draw_values K w, PSs.nox (pss_cons (ps_set (i := 1) sc__law_draw_values.nd rfl (Or.inl rfl) (pe_lst (pa_cons (pe_ix ix_lstH (pe_lst (pa_cons pe_str (pa_cons pe_str pa_nil))) (pe_fn (ok__law_draw T) (hr.mono (by decide)) rfl (glo__law_draw T) (kp__law_draw T) pass0 (pa_cons (pv 0) (pa_cons pe_int pa_nil))) (fun _ _ => rfl)) (pa_cons (pe_ix ix_lstH (pe_lst (pa_cons pe_str (pa_cons pe_str (pa_cons pe_str pa_nil)))) (pe_fn (ok__law_draw T) (hr.mono (by decide)) rfl (glo__law_draw T) (kp__law_draw T) pass0 (pa_cons (pv 0) (pa_cons pe_int pa_nil))) (fun _ _ => rfl)) pa_nil))))
  (pss_cons (ps_set (i := 1) sc__law_draw_values.nd rfl (Or.inl rfl) (pe_op op_cat (pv 1) (pe_lst (pa_cons (pe_ix ix_lstH (pe_lst (pa_cons pe_str (pa_cons pe_str pa_nil))) (pe_fn (ok__law_draw T) (hr.mono (by decide)) rfl (glo__law_draw T) (kp__law_draw T) pass0 (pa_cons (pv 0) (pa_cons pe_int pa_nil))) (fun _ _ => rfl)) (pa_cons (pe_ix ix_lstH (pe_lst (pa_cons pe_str (pa_cons pe_str pa_nil))) (pe_fn (ok__law_draw T) (hr.mono (by decide)) rfl (glo__law_draw T) (kp__law_draw T) pass0 (pa_cons (pv 0) (pa_cons pe_int pa_nil))) (fun _ _ => rfl)) pa_nil)))))
  (pss_one (ps_ret (pe_op op_cat (pv 1) (pe_lst (pa_cons (pe_ix ix_lstH (pe_lst (pa_cons pe_str (pa_cons pe_str pa_nil))) (pe_fn (ok__law_draw T) (hr.mono (by decide)) rfl (glo__law_draw T) (kp__law_draw T) pass0 (pa_cons (pv 0) (pa_cons pe_int pa_nil))) (fun _ _ => rfl)) (pa_cons (pe_ix ix_lstH (pe_lst (pa_cons pe_str (pa_cons pe_str (pa_cons pe_str pa_nil)))) (pe_fn (ok__law_draw T) (hr.mono (by decide)) rfl (glo__law_draw T) (kp__law_draw T) pass0 (pa_cons (pv 0) (pa_cons pe_int pa_nil))) (fun _ _ => rfl)) pa_nil)))))))), rd__law_draw_values vs H Q E h⟩
theorem ok__law_draw_values (T : Tx K mg w) : FnR (PySem.Challenge.rw_timerwheels_k07_books_refused).prog w K mg base CX0 6 (ga K "_law_draw_values") (sp__law_draw_values K) :=
  fnR_of (okk__law_draw_values T) ((d__law_draw_values T).choose_spec.bindsN fun _ _ _ _ _ _ us hl => match us, hl with | [_], _ => rfl)
theorem kp__law_draw_values (T : Tx K mg w) : keepIn K (.ref (ga K "_law_draw_values")) = true := (d__law_draw_values T).choose_spec.kp
theorem sc__law_odd : FnScope n__law_odd ["_law_pool"] (defScope s__law_odd) := ⟨rfl, rfl, rfl, by decide +kernel, rfl, by decide +kernel, by decide +kernel⟩
theorem ln0__law_odd (vs : List V) (H : Hp) (Q : VK) (E : XK) (h : sp__law_odd K vs H Q E) : vs.length = 1 := by
  unfold sp__law_odd at h
  repeat' (first | (exact (congrArg List.length h.1).trans rfl) | (refine Or.elim h (fun h => ?_) (fun h => ?_)) | (obtain ⟨_, h⟩ := h))
theorem okk__law_odd (T : Tx K mg w) : FnOk (PySem.Challenge.rw_timerwheels_k07_books_refused).prog w K mg base CX0 6 (ga K "_law_odd") (d__law_odd T).choose ["_law_pool"] (sp__law_odd K) :=
  FunD.ok (k := 5) (N := n__law_odd) (d__law_odd T).choose_spec sc__law_odd ln0__law_odd fun cdv A outer s H vs Q E hr h => ⟨t__law_odd K w, PSs.nox (pss_one (ps_ret (pe_ix ix_lstH (pe_lst (pa_cons pe_str (pa_cons pe_str (pa_cons pe_str (pa_cons pe_str (pa_cons pe_str (pa_cons pe_str (pa_cons pe_str (pa_cons pe_str (pa_cons pe_str (pa_cons pe_non (pa_cons pe_int (pa_cons pe_bl (pa_cons (pe_tup (pa_cons pe_str pa_nil)) (pa_cons (pe_lst (pa_cons pe_str pa_nil)) (pa_cons pe_dnewK pa_nil)))))))))))))))) (pe_fn (ok__law_draw T) (hr.mono (by decide)) rfl (glo__law_draw T) (kp__law_draw T) pass0 (pa_cons (pv 0) (pa_cons pe_int pa_nil))) (fun _ _ => rfl)))), rd__law_odd vs H Q E h⟩
theorem ok__law_odd (T : Tx K mg w) : FnR (PySem.Challenge.rw_timerwheels_k07_books_refused).prog w K mg base CX0 6 (ga K "_law_odd") (sp__law_odd K) :=
  fnR_of (okk__law_odd T) ((d__law_odd T).choose_spec.bindsN fun _ _ _ _ _ _ us hl => match us, hl with | [_], _ => rfl)
theorem kp__law_odd (T : Tx K mg w) : keepIn K (.ref (ga K "_law_odd")) = true := (d__law_odd T).choose_spec.kp
theorem sc_is_valueB : FnScope n_is_valueB ["switch", "value"] (defScope s_is_value) := ⟨rfl, rfl, rfl, by decide +kernel, rfl, by decide +kernel, by decide +kernel⟩
theorem ln0_is_valueB (vs : List V) (H : Hp) (Q : VK) (E : XK) (h : sp_is_valueB K vs H Q E) : vs.length = 2 := by
  unfold sp_is_valueB at h
  repeat' (first | (exact (congrArg List.length h.1).trans rfl) | (refine Or.elim h (fun h => ?_) (fun h => ?_)) | (obtain ⟨_, h⟩ := h))
theorem okk_is_valueB (T : Tx K mg w) : FnOk (PySem.Challenge.rw_timerwheels_k07_books_refused).prog w K mg base CX0 2 (ga K "is_value") (d_is_value T).choose ["switch", "value"] (sp_is_valueB K) :=
  FunD.ok (k := 1) (N := n_is_valueB) (d_is_value T).choose_spec sc_is_valueB ln0_is_valueB fun cdv A outer s H vs Q E hr h => ⟨t_is_valueB K w, PSs.nox (pss_one (ps_ret (pe_and (pe_callB call_isi (by rfl) (free_isinstance T) (by decide +kernel) (pa_cons (pv 1) (pa_cons (pe_bltn (v := .ty "str") (by rfl) (free_str T) (by decide +kernel) rfl) pa_nil))) (pe_one (pe_cmpR op_in_seq (pv 1) (pe_ix ix_kdict (pe_glob rfl (glo_VALUES T) rfl) (pv 0) (fun _ _ => rfl)) (by rfl)))))), rd_is_valueB (kfb T) vs H Q E h⟩
theorem ok_is_valueB (T : Tx K mg w) : FnR (PySem.Challenge.rw_timerwheels_k07_books_refused).prog w K mg base CX0 2 (ga K "is_value") (sp_is_valueB K) :=
  fnR_of (okk_is_valueB T) ((d_is_value T).choose_spec.bindsN fun _ _ _ _ _ _ us hl => match us, hl with | [_, _], _ => rfl)
theorem kp_is_value (T : Tx K mg w) : keepIn K (.ref (ga K "is_value")) = true := (d_is_value T).choose_spec.kp
theorem sc_Book___init__R : FnScope n_Book___init__R ["self", "rounding", "action", "order", "due", "zero", "beyond"] (defScope s_Book___init__) := ⟨rfl, rfl, rfl, by decide +kernel, rfl, by decide +kernel, by decide +kernel⟩
theorem ln0_Book___init__R (vs : List V) (H : Hp) (Q : VK) (E : XK) (h : sp_Book___init__R K vs H Q E) : vs.length = 7 := by
  unfold sp_Book___init__R at h
  repeat' (first | (exact (congrArg List.length h.1).trans rfl) | (refine Or.elim h (fun h => ?_) (fun h => ?_)) | (obtain ⟨_, h⟩ := h))
theorem okk_Book___init__R (T : Tx K mg w) : FnOk (PySem.Challenge.rw_timerwheels_k07_books_refused).prog w K mg base (L2.CX (PySem.Challenge.rw_timerwheels_k07_books_refused).prog w) 5 (ma K (ga K "Book") "__init__") (d_Book___init__ T).choose ["self", "rounding", "action", "order", "due", "zero", "beyond"] (sp_Book___init__R K) :=
  FunD.ok (k := 4) (N := n_Book___init__R) (d_Book___init__ T).choose_spec sc_Book___init__R ln0_Book___init__R fun cdv A outer s H vs Q E hr h => ⟨t_Book___init__R K w E, (pss_cons (ps_set (i := 7) sc_Book___init__R.nd rfl (Or.inl rfl) (pe_tup (pa_cons (pv 1) (pa_cons (pv 2) (pa_cons (pv 3) (pa_cons (pv 4) (pa_cons (pv 5) (pa_cons (pv 6) pa_nil))))))))
  (pss_cons (ps_for (passes_of rfl) rfl (RZ.pi_zipA rfl (free_zip T) (pa_cons (pe_glob rfl (glo_SWITCHES T) rfl) (pa_cons (pv 7) pa_nil))) (pg_tup rfl (pgs_cons (pg_name (i := 8) sc_Book___init__R.nd rfl (Or.inl rfl)) (pgs_cons (pg_name (i := 9) sc_Book___init__R.nd rfl (Or.inl rfl)) pgs_nil)))
    (pss_one (ps_if (pt_not (pt_val (pe_fn (ok_is_valueB T) (hr.mono (by decide)) rfl (glo_is_value T) (kp_is_value T) pass0 (pa_cons (pv 8) (pa_cons (pv 9) pa_nil))))) (pss_one (ps_raise rfl (takes_of rfl rfl rfl rfl) (pmk_err (pv 9) (er_InvalidSwitch T).oex (er_InvalidSwitch T).ini (er_InvalidSwitch T).tfn (okE_InvalidSwitch (CX := C8.CX0) T).choose_spec.1 (hr.mono (by decide)) (okE_InvalidSwitch (CX := C8.CX0) T).choose_spec.2 (fun _ _ _ _ _ _ _ z => z.elim) rfl (glo_InvalidSwitch T)))) pss_nil)))
  (pss_one (ps_fld (pv 0) (pv 7) rfl)))), rd_Book___init__R (kfb T) vs H Q E h⟩
theorem kb_Book_rounding_action_order_due_zero_beyond (T : Tx K mg w) : ∃ g, KBn K (d_Book___init__ T).choose ["self", "rounding", "action", "order", "due", "zero", "beyond"] 1 ["rounding", "action", "order", "due", "zero", "beyond"] g gV_Book_rounding_action_order_due_zero_beyond := by
  obtain ⟨mv, h⟩ := (d_Book___init__ T).choose_spec.kbinds0 (ps := ["self", "rounding", "action", "order", "due", "zero", "beyond"]) 1 ["rounding", "action", "order", "due", "zero", "beyond"] [] (fun us mv ws => us ++ ws) (fun z => by cases z) (fun q z => by cases z) (fun r _ z => r.append z) (fun D doc pm an cdv ct us mv ws l1 l2 l3 => match us, l1, mv, l2, ws, l3 with | [_], _, [], _, [_, _, _, _, _, _], _ => rfl)
  exact ⟨_, h⟩
theorem sc__law_madeR : FnScope n__law_madeR ["_law_values"] (defScope s__law_made) := ⟨rfl, rfl, rfl, by decide +kernel, rfl, by decide +kernel, by decide +kernel⟩
theorem ln0__law_madeR (vs : List V) (H : Hp) (Q : VK) (E : XK) (h : sp__law_madeR K vs H Q E) : vs.length = 1 := by
  unfold sp__law_madeR at h
  repeat' (first | (exact (congrArg List.length h.1).trans rfl) | (refine Or.elim h (fun h => ?_) (fun h => ?_)) | (obtain ⟨_, h⟩ := h))
theorem okk__law_madeR (T : Tx K mg w) : FnOk (PySem.Challenge.rw_timerwheels_k07_books_refused).prog w K mg base (L2.CX (PySem.Challenge.rw_timerwheels_k07_books_refused).prog w) 7 (ga K "_law_made") (d__law_made T).choose ["_law_values"] (sp__law_madeR K) :=
  FunD.ok (k := 6) (N := n__law_madeR) (d__law_made T).choose_spec sc__law_madeR ln0__law_madeR fun cdv A outer s H vs Q E hr h => ⟨t__law_madeR K w E, (pss_cons (ps_asg (pv 0) (pg_unl rfl (pgs_cons (pg_name (i := 1) sc__law_madeR.nd rfl (Or.inl rfl)) (pgs_cons (pg_name (i := 2) sc__law_madeR.nd rfl (Or.inl rfl)) (pgs_cons (pg_name (i := 3) sc__law_madeR.nd rfl (Or.inl rfl)) (pgs_cons (pg_name (i := 4) sc__law_madeR.nd rfl (Or.inl rfl)) (pgs_cons (pg_name (i := 5) sc__law_madeR.nd rfl (Or.inl rfl)) (pgs_cons (pg_name (i := 6) sc__law_madeR.nd rfl (Or.inl rfl)) pgs_nil))))))))
  (pss_one (ps_ret (pe_makeK0 (ks := ["rounding", "action", "order", "due", "zero", "beyond"]) (mk_Book T) (okk_Book___init__R T) (hr.mono (by decide)) rfl (glo_Book T) (kb_Book_rounding_action_order_due_zero_beyond T).choose_spec (passes_call (takes_of rfl rfl rfl rfl) fun _ _ _ _ z => z)  (pk_cons (pv 1) (pk_cons (pv 2) (pk_cons (pv 3) (pk_cons (pv 4) (pk_cons (pv 5) (pk_cons (pv 6) pk_nil)))))))))), rd__law_madeR vs H Q E h⟩
theorem ok__law_madeR (T : Tx K mg w) : FnR (PySem.Challenge.rw_timerwheels_k07_books_refused).prog w K mg base (L2.CX (PySem.Challenge.rw_timerwheels_k07_books_refused).prog w) 7 (ga K "_law_made") (sp__law_madeR K) :=
  fnR_of (okk__law_madeR T) ((d__law_made T).choose_spec.bindsN fun _ _ _ _ _ _ us hl => match us, hl with | [_], _ => rfl)
theorem kp__law_made (T : Tx K mg w) : keepIn K (.ref (ga K "_law_made")) = true := (d__law_made T).choose_spec.kp
theorem sc__law_values_of : FnScope n__law_values_of ["_law_k"] (defScope s__law_values_of) := ⟨rfl, rfl, rfl, by decide +kernel, rfl, by decide +kernel, by decide +kernel⟩
theorem ln0__law_values_of (vs : List V) (H : Hp) (Q : VK) (E : XK) (h : sp__law_values_of K vs H Q E) : vs.length = 1 := by
  unfold sp__law_values_of at h
  repeat' (first | (exact (congrArg List.length h.1).trans rfl) | (refine Or.elim h (fun h => ?_) (fun h => ?_)) | (obtain ⟨_, h⟩ := h))
theorem okk__law_values_of (T : Tx K mg w) : FnOk (PySem.Challenge.rw_timerwheels_k07_books_refused).prog w K mg base CX0 2 (ga K "_law_values_of") (d__law_values_of T).choose ["_law_k"] (sp__law_values_of K) :=
  FunD.ok (k := 1) (N := n__law_values_of) (d__law_values_of T).choose_spec sc__law_values_of ln0__law_values_of fun cdv A outer s H vs Q E hr h => ⟨t__law_values_of K w, PSs.nox (pss_cons (ps_set (i := 1) sc__law_values_of.nd rfl (Or.inl rfl) (pe_lst (pa_cons (pe_lst (pa_cons pe_str (pa_cons pe_str pa_nil))) (pa_cons (pe_lst (pa_cons pe_str (pa_cons pe_str pa_nil))) (pa_cons (pe_lst (pa_cons pe_str (pa_cons pe_str pa_nil))) (pa_cons (pe_lst (pa_cons pe_str (pa_cons pe_str pa_nil))) (pa_cons (pe_lst (pa_cons pe_str (pa_cons pe_str pa_nil))) pa_nil)))))))
  (pss_one (ps_ret (pe_ix ix_lstH (pe_op op_cat (pv 1) (pe_lst (pa_cons (pe_lst (pa_cons pe_str (pa_cons pe_str (pa_cons pe_str pa_nil)))) pa_nil))) (pv 0) (fun _ _ => rfl))))), rd__law_values_of vs H Q E h⟩
theorem ok__law_values_of (T : Tx K mg w) : FnR (PySem.Challenge.rw_timerwheels_k07_books_refused).prog w K mg base CX0 2 (ga K "_law_values_of") (sp__law_values_of K) :=
  fnR_of (okk__law_values_of T) ((d__law_values_of T).choose_spec.bindsN fun _ _ _ _ _ _ us hl => match us, hl with | [_], _ => rfl)
theorem kp__law_values_of (T : Tx K mg w) : keepIn K (.ref (ga K "_law_values_of")) = true := (d__law_values_of T).choose_spec.kp
theorem sc__law_first_wrong : FnScope n__law_first_wrong ["_law_values"] (defScope s__law_first_wrong) := ⟨rfl, rfl, rfl, by decide +kernel, rfl, by decide +kernel, by decide +kernel⟩
theorem ln0__law_first_wrong (vs : List V) (H : Hp) (Q : VK) (E : XK) (h : sp__law_first_wrong K vs H Q E) : vs.length = 1 := by
  unfold sp__law_first_wrong at h
  repeat' (first | (exact (congrArg List.length h.1).trans rfl) | (refine Or.elim h (fun h => ?_) (fun h => ?_)) | (obtain ⟨_, h⟩ := h))
theorem okG__law_first_wrong (T : Tx K mg w) : FnG (PySem.Challenge.rw_timerwheels_k07_books_refused).prog w K mg base CX0 4 (ga K "_law_first_wrong") (sp__law_first_wrong K) := by
  obtain ⟨fd, F⟩ := d__law_first_wrong T
  exact fnG_of (k := 3) (N := n__law_first_wrong) F sc__law_first_wrong (F.bindsN fun _ _ _ _ _ _ us hl => match us, hl with | [_], _ => rfl) ln0__law_first_wrong fun cdv A outer s H vs Q E hr h => ⟨t__law_first_wrong K w, PSs.nox (pss_cons (ps_for PassesOwn.never rfl (pi_range1 rfl (free_range T) (pa_cons pe_int pa_nil)) (pg_name (i := 1) sc__law_first_wrong.nd rfl (Or.inl rfl))
    (pss_one (ps_if (PW.pt (pw_or (pt_not (pt_val (pe_callB call_isi (by rfl) (free_isinstance T) (by decide +kernel) (pa_cons (pe_ix ix_lstH (pv 0) (pv 1) (fun _ _ => rfl)) (pa_cons (pe_bltn (v := .ty "str") (by rfl) (free_str T) (by decide +kernel) rfl) pa_nil))))) (pw_or1 (pt_cmpR op_notIn_seq (pe_ix ix_lstH (pv 0) (pv 1) (fun _ _ => rfl)) (pe_fn (ok__law_values_of T) (hr.rm.mono (by decide)) rfl (glo__law_values_of T) (kp__law_values_of T) pass0 (pa_cons (pv 1) pa_nil)) (by rfl))))) (pss_one (ps_ret (pe_lst (pa_cons pe_str (pa_cons (pe_callB (call_reprE hr.gd (Nat.lt_of_le_of_lt (Nat.add_le_add_left (show 40 ≤ 64 by decide) _) (ul hr.rm))) (by rfl) (free_repr T) (by decide +kernel) (pa_cons (pe_ix ix_lstH (pv 0) (pv 1) (fun _ _ => rfl)) pa_nil)) pa_nil))))) pss_nil)))
  (pss_one (ps_ret pe_non))), rd__law_first_wrong vs H Q E h⟩
theorem kp__law_first_wrong (T : Tx K mg w) : keepIn K (.ref (ga K "_law_first_wrong")) = true := (d__law_first_wrong T).choose_spec.kp
theorem sc_Book___eq__ : FnScope n_Book___eq__ ["self", "other"] (defScope s_Book___eq__) := ⟨rfl, rfl, rfl, by decide +kernel, rfl, by decide +kernel, by decide +kernel⟩
theorem ln0_Book___eq__ (vs : List V) (H : Hp) (Q : VK) (E : XK) (h : sp_Book___eq__ K vs H Q E) : vs.length = 2 := by
  unfold sp_Book___eq__ at h
  repeat' (first | (exact (congrArg List.length h.1).trans rfl) | (refine Or.elim h (fun h => ?_) (fun h => ?_)) | (obtain ⟨_, h⟩ := h))
theorem okk_Book___eq__ (T : Tx K mg w) : FnOk (PySem.Challenge.rw_timerwheels_k07_books_refused).prog w K mg base CX0 2 (ma K (ga K "Book") "__eq__") (d_Book___eq__ T).choose ["self", "other"] (sp_Book___eq__ K) :=
  FunD.ok (k := 1) (N := n_Book___eq__) (d_Book___eq__ T).choose_spec sc_Book___eq__ ln0_Book___eq__ fun cdv A outer s H vs Q E hr h => ⟨t_Book___eq__ K w, PSs.nox (pss_one (ps_ret (pe_and (pe_callB call_isi (by rfl) (free_isinstance T) (by decide +kernel) (pa_cons (pv 1) (pa_cons (pe_glob rfl (glo_Book T) rfl) pa_nil))) (pe_one (pe_cmpR (op_eqD (ul hr)) (pe_fld (pv 0) rfl) (pe_fld (pv 1) rfl) (nomark _)))))), rd_Book___eq__ (kbq T) vs H Q E h⟩
theorem ok_Book___eq__ (T : Tx K mg w) : FnR (PySem.Challenge.rw_timerwheels_k07_books_refused).prog w K mg base CX0 2 (ma K (ga K "Book") "__eq__") (sp_Book___eq__ K) :=
  fnR_of (okk_Book___eq__ T) ((d_Book___eq__ T).choose_spec.bindsN fun _ _ _ _ _ _ us hl => match us, hl with | [_, _], _ => rfl)
theorem sc_is_value : FnScope n_is_value ["switch", "value"] (defScope s_is_value) := ⟨rfl, rfl, rfl, by decide +kernel, rfl, by decide +kernel, by decide +kernel⟩
theorem ln0_is_value (vs : List V) (H : Hp) (Q : VK) (E : XK) (h : sp_is_value K vs H Q E) : vs.length = 2 := by
  unfold sp_is_value at h
  repeat' (first | (exact (congrArg List.length h.1).trans rfl) | (refine Or.elim h (fun h => ?_) (fun h => ?_)) | (obtain ⟨_, h⟩ := h))
theorem okk_is_value (T : Tx K mg w) : FnOk (PySem.Challenge.rw_timerwheels_k07_books_refused).prog w K mg base CX0 2 (ga K "is_value") (d_is_value T).choose ["switch", "value"] (sp_is_value K) :=
  FunD.ok (k := 1) (N := n_is_value) (d_is_value T).choose_spec sc_is_value ln0_is_value fun cdv A outer s H vs Q E hr h => ⟨t_is_value K w, PSs.nox (pss_one (ps_ret (pe_and (pe_callB call_isi (by rfl) (free_isinstance T) (by decide +kernel) (pa_cons (pv 1) (pa_cons (pe_bltn (v := .ty "str") (by rfl) (free_str T) (by decide +kernel) rfl) pa_nil))) (pe_one (pe_cmpR op_in_seq (pv 1) (pe_ix ix_kdict (pe_glob rfl (glo_VALUES T) rfl) (pv 0) (fun _ _ => rfl)) (by rfl)))))), rd_is_value (kfb T) vs H Q E h⟩
theorem ok_is_value (T : Tx K mg w) : FnR (PySem.Challenge.rw_timerwheels_k07_books_refused).prog w K mg base CX0 2 (ga K "is_value") (sp_is_value K) :=
  fnR_of (okk_is_value T) ((d_is_value T).choose_spec.bindsN fun _ _ _ _ _ _ us hl => match us, hl with | [_, _], _ => rfl)
theorem sc_Book___init__ : FnScope n_Book___init__ ["self", "rounding", "action", "order", "due", "zero", "beyond"] (defScope s_Book___init__) := ⟨rfl, rfl, rfl, by decide +kernel, rfl, by decide +kernel, by decide +kernel⟩
theorem ln0_Book___init__ (vs : List V) (H : Hp) (Q : VK) (E : XK) (h : sp_Book___init__ K vs H Q E) : vs.length = 7 := by
  unfold sp_Book___init__ at h
  repeat' (first | (exact (congrArg List.length h.1).trans rfl) | (refine Or.elim h (fun h => ?_) (fun h => ?_)) | (obtain ⟨_, h⟩ := h))
theorem okk_Book___init__ (T : Tx K mg w) : FnOk (PySem.Challenge.rw_timerwheels_k07_books_refused).prog w K mg base CX0 4 (ma K (ga K "Book") "__init__") (d_Book___init__ T).choose ["self", "rounding", "action", "order", "due", "zero", "beyond"] (sp_Book___init__ K) :=
  FunD.ok (k := 3) (N := n_Book___init__) (d_Book___init__ T).choose_spec sc_Book___init__ ln0_Book___init__ fun cdv A outer s H vs Q E hr h => ⟨t_Book___init__ K w, PSs.nox (pss_cons (ps_set (i := 7) sc_Book___init__.nd rfl (Or.inl rfl) (pe_tup (pa_cons (pv 1) (pa_cons (pv 2) (pa_cons (pv 3) (pa_cons (pv 4) (pa_cons (pv 5) (pa_cons (pv 6) pa_nil))))))))
  (pss_cons (ps_for PassesOwn.never rfl (RZ.pi_zipA rfl (free_zip T) (pa_cons (pe_glob rfl (glo_SWITCHES T) rfl) (pa_cons (pv 7) pa_nil))) (pg_tup rfl (pgs_cons (pg_name (i := 8) sc_Book___init__.nd rfl (Or.inl rfl)) (pgs_cons (pg_name (i := 9) sc_Book___init__.nd rfl (Or.inl rfl)) pgs_nil)))
    (pss_one (ps_if (pt_not (pt_val (pe_fn (ok_is_value T) (hr.mono (by decide)) rfl (glo_is_value T) (kp_is_value T) pass0 (pa_cons (pv 8) (pa_cons (pv 9) pa_nil))))) (pss_one ps_never) pss_nil)))
  (pss_one (ps_fld (pv 0) (pv 7) rfl)))), rd_Book___init__ (kfb T) vs H Q E h⟩
theorem sc__law_made : FnScope n__law_made ["_law_values"] (defScope s__law_made) := ⟨rfl, rfl, rfl, by decide +kernel, rfl, by decide +kernel, by decide +kernel⟩
theorem ln0__law_made (vs : List V) (H : Hp) (Q : VK) (E : XK) (h : sp__law_made K vs H Q E) : vs.length = 1 := by
  unfold sp__law_made at h
  repeat' (first | (exact (congrArg List.length h.1).trans rfl) | (refine Or.elim h (fun h => ?_) (fun h => ?_)) | (obtain ⟨_, h⟩ := h))
theorem okk__law_made (T : Tx K mg w) : FnOk (PySem.Challenge.rw_timerwheels_k07_books_refused).prog w K mg base CX0 6 (ga K "_law_made") (d__law_made T).choose ["_law_values"] (sp__law_made K) :=
  FunD.ok (k := 5) (N := n__law_made) (d__law_made T).choose_spec sc__law_made ln0__law_made fun cdv A outer s H vs Q E hr h => ⟨t__law_made K w, PSs.nox (pss_cons (ps_asg (pv 0) (pg_unl rfl (pgs_cons (pg_name (i := 1) sc__law_made.nd rfl (Or.inl rfl)) (pgs_cons (pg_name (i := 2) sc__law_made.nd rfl (Or.inl rfl)) (pgs_cons (pg_name (i := 3) sc__law_made.nd rfl (Or.inl rfl)) (pgs_cons (pg_name (i := 4) sc__law_made.nd rfl (Or.inl rfl)) (pgs_cons (pg_name (i := 5) sc__law_made.nd rfl (Or.inl rfl)) (pgs_cons (pg_name (i := 6) sc__law_made.nd rfl (Or.inl rfl)) pgs_nil))))))))
  (pss_one (ps_ret (pe_makeK0 (ks := ["rounding", "action", "order", "due", "zero", "beyond"]) (mk_Book T) (okk_Book___init__ T) (hr.mono (by decide)) rfl (glo_Book T) (kb_Book_rounding_action_order_due_zero_beyond T).choose_spec pass0  (pk_cons (pv 1) (pk_cons (pv 2) (pk_cons (pv 3) (pk_cons (pv 4) (pk_cons (pv 5) (pk_cons (pv 6) pk_nil)))))))))), rd__law_made vs H Q E h⟩
theorem ok__law_made (T : Tx K mg w) : FnR (PySem.Challenge.rw_timerwheels_k07_books_refused).prog w K mg base CX0 6 (ga K "_law_made") (sp__law_made K) :=
  fnR_of (okk__law_made T) ((d__law_made T).choose_spec.bindsN fun _ _ _ _ _ _ us hl => match us, hl with | [_], _ => rfl)
theorem sc_book_of : FnScope n_book_of ["values"] (defScope s_book_of) := ⟨rfl, rfl, rfl, by decide +kernel, rfl, by decide +kernel, by decide +kernel⟩
theorem ln0_book_of (vs : List V) (H : Hp) (Q : VK) (E : XK) (h : sp_book_of K vs H Q E) : vs.length = 1 := by
  unfold sp_book_of at h
  repeat' (first | (exact (congrArg List.length h.1).trans rfl) | (refine Or.elim h (fun h => ?_) (fun h => ?_)) | (obtain ⟨_, h⟩ := h))
theorem okk_book_of (T : Tx K mg w) : FnOk (PySem.Challenge.rw_timerwheels_k07_books_refused).prog w K mg base CX0 6 (ga K "book_of") (d_book_of T).choose ["values"] (sp_book_of K) :=
  FunD.ok (k := 5) (N := n_book_of) (d_book_of T).choose_spec sc_book_of ln0_book_of fun cdv A outer s H vs Q E hr h => ⟨t_book_of K w, PSs.nox (pss_cons (ps_asg (pv 0) (pg_or (pg_unl rfl (pgs_cons (pg_name (i := 1) sc_book_of.nd rfl (Or.inl rfl)) (pgs_cons (pg_name (i := 2) sc_book_of.nd rfl (Or.inl rfl)) (pgs_cons (pg_name (i := 3) sc_book_of.nd rfl (Or.inl rfl)) (pgs_cons (pg_name (i := 4) sc_book_of.nd rfl (Or.inl rfl)) (pgs_cons (pg_name (i := 5) sc_book_of.nd rfl (Or.inl rfl)) (pgs_cons (pg_name (i := 6) sc_book_of.nd rfl (Or.inl rfl)) pgs_nil))))))) (pg_tup rfl (pgs_cons (pg_name (i := 1) sc_book_of.nd rfl (Or.inl rfl)) (pgs_cons (pg_name (i := 2) sc_book_of.nd rfl (Or.inl rfl)) (pgs_cons (pg_name (i := 3) sc_book_of.nd rfl (Or.inl rfl)) (pgs_cons (pg_name (i := 4) sc_book_of.nd rfl (Or.inl rfl)) (pgs_cons (pg_name (i := 5) sc_book_of.nd rfl (Or.inl rfl)) (pgs_cons (pg_name (i := 6) sc_book_of.nd rfl (Or.inl rfl)) pgs_nil)))))))))
  (pss_one (ps_ret (pe_makeK0 (ks := ["rounding", "action", "order", "due", "zero", "beyond"]) (mk_Book T) (okk_Book___init__ T) (hr.mono (by decide)) rfl (glo_Book T) (kb_Book_rounding_action_order_due_zero_beyond T).choose_spec pass0  (pk_cons (pv 1) (pk_cons (pv 2) (pk_cons (pv 3) (pk_cons (pv 4) (pk_cons (pv 5) (pk_cons (pv 6) pk_nil)))))))))), rd_book_of vs H Q E h⟩
theorem ok_book_of (T : Tx K mg w) : FnR (PySem.Challenge.rw_timerwheels_k07_books_refused).prog w K mg base CX0 6 (ga K "book_of") (sp_book_of K) :=
  fnR_of (okk_book_of T) ((d_book_of T).choose_spec.bindsN fun _ _ _ _ _ _ us hl => match us, hl with | [_], _ => rfl)
theorem kp_book_of (T : Tx K mg w) : keepIn K (.ref (ga K "book_of")) = true := (d_book_of T).choose_spec.kp
theorem sc_Book_from_text : FnScope n_Book_from_text ["cls", "text"] (defScope s_Book_from_text) := ⟨rfl, rfl, rfl, by decide +kernel, rfl, by decide +kernel, by decide +kernel⟩
theorem ln0_Book_from_text (vs : List V) (H : Hp) (Q : VK) (E : XK) (h : sp_Book_from_text K vs H Q E) : vs.length = 2 := by
  unfold sp_Book_from_text at h
  repeat' (first | (exact (congrArg List.length h.1).trans rfl) | (refine Or.elim h (fun h => ?_) (fun h => ?_)) | (obtain ⟨_, h⟩ := h))
theorem okk_Book_from_text (T : Tx K mg w) : FnOk (PySem.Challenge.rw_timerwheels_k07_books_refused).prog w K mg base CX0 8 (He5.wf K (ga K "Book") "classmethod" "from_text") (d_Book_from_text T).choose ["cls", "text"] (sp_Book_from_text K) :=
  FunD.ok (k := 7) (N := n_Book_from_text) (d_Book_from_text T).choose_spec sc_Book_from_text ln0_Book_from_text fun cdv A outer s H vs Q E hr h => ⟨t_Book_from_text K w, PSs.nox (pss_cons (ps_if (pt_not (pt_val (pe_callB call_isi (by rfl) (free_isinstance T) (by decide +kernel) (pa_cons (pv 1) (pa_cons (pe_bltn (v := .ty "str") (by rfl) (free_str T) (by decide +kernel) rfl) pa_nil))))) (pss_one ps_never) pss_nil)
  (pss_cons (ps_set (i := 2) sc_Book_from_text.nd rfl (Or.inl rfl) (pe_split (pv 1) pe_str))
  (pss_cons (ps_if (pt_cmpR op_ne (pe_callB call_lenL (by rfl) (free_len T) (by decide +kernel) (pa_cons (pv 2) pa_nil)) (pe_callB call_len_seq (by rfl) (free_len T) (by decide +kernel) (pa_cons (pe_glob rfl (glo_SWITCHES T) rfl) pa_nil)) (nomark _)) (pss_one ps_never) pss_nil)
  (pss_cons (ps_for PassesOwn.never rfl (pi_zm rfl (free_zip T) (pa_cons (pe_glob rfl (glo_SWITCHES T) rfl) (pa_cons (pv 2) pa_nil))) (pg_tup rfl (pgs_cons (pg_name (i := 3) sc_Book_from_text.nd rfl (Or.inl rfl)) (pgs_cons (pg_name (i := 4) sc_Book_from_text.nd rfl (Or.inl rfl)) pgs_nil)))
    (pss_one (ps_if (pt_not (pt_val (pe_fn (ok_is_value T) (hr.mono (by decide)) rfl (glo_is_value T) (kp_is_value T) pass0 (pa_cons (pv 3) (pa_cons (pv 4) pa_nil))))) (pss_one ps_never) pss_nil)))
  (pss_one (ps_ret (pe_fn (ok_book_of T) (hr.mono (by decide)) rfl (glo_book_of T) (kp_book_of T) pass0 (pa_cons (pv 2) pa_nil)))))))), rd_Book_from_text (kfb T) vs H Q E h⟩
theorem ok_Book_from_text (T : Tx K mg w) : FnR (PySem.Challenge.rw_timerwheels_k07_books_refused).prog w K mg base CX0 8 (He5.wf K (ga K "Book") "classmethod" "from_text") (sp_Book_from_text K) :=
  fnR_of (okk_Book_from_text T) ((d_Book_from_text T).choose_spec.bindsN fun _ _ _ _ _ _ us hl => match us, hl with | [_, _], _ => rfl)
theorem sc__law_made_book : FnScope n__law_made_book ["_law_values"] (defScope s__law_made_book) := ⟨rfl, rfl, rfl, by decide +kernel, rfl, by decide +kernel, by decide +kernel⟩
theorem ln0__law_made_book (vs : List V) (H : Hp) (Q : VK) (E : XK) (h : sp__law_made_book K vs H Q E) : vs.length = 1 := by
  unfold sp__law_made_book at h
  repeat' (first | (exact (congrArg List.length h.1).trans rfl) | (refine Or.elim h (fun h => ?_) (fun h => ?_)) | (obtain ⟨_, h⟩ := h))
theorem okk__law_made_book (T : Tx K mg w) : FnOk (PySem.Challenge.rw_timerwheels_k07_books_refused).prog w K mg base CX0 10 (ga K "_law_made_book") (d__law_made_book T).choose ["_law_values"] (sp__law_made_book K) :=
  FunD.ok (k := 9) (N := n__law_made_book) (d__law_made_book T).choose_spec sc__law_made_book ln0__law_made_book fun cdv A outer s H vs Q E hr h => ⟨t__law_made_book K w, PSs.nox (pss_one (ps_ret (ClX.pe_cmeth (pe_glob rfl (glo_Book T) rfl) (cr_Book T) (cm_Book_from_text T) (ok_Book_from_text T) (hr.mono (by decide)) pass0 (pa_cons (pe_join pe_str (pv 0)) pa_nil)))), rd__law_made_book vs H Q E h⟩
theorem ok__law_made_book (T : Tx K mg w) : FnR (PySem.Challenge.rw_timerwheels_k07_books_refused).prog w K mg base CX0 10 (ga K "_law_made_book") (sp__law_made_book K) :=
  fnR_of (okk__law_made_book T) ((d__law_made_book T).choose_spec.bindsN fun _ _ _ _ _ _ us hl => match us, hl with | [_], _ => rfl)
theorem kp__law_made_book (T : Tx K mg w) : keepIn K (.ref (ga K "_law_made_book")) = true := (d__law_made_book T).choose_spec.kp
theorem sc_Book_from_textR : FnScope n_Book_from_textR ["cls", "text"] (defScope s_Book_from_text) := ⟨rfl, rfl, rfl, by decide +kernel, rfl, by decide +kernel, by decide +kernel⟩
theorem ln0_Book_from_textR (vs : List V) (H : Hp) (Q : VK) (E : XK) (h : sp_Book_from_textR K vs H Q E) : vs.length = 2 := by
  unfold sp_Book_from_textR at h
  repeat' (first | (exact (congrArg List.length h.1).trans rfl) | (refine Or.elim h (fun h => ?_) (fun h => ?_)) | (obtain ⟨_, h⟩ := h))
theorem okk_Book_from_textR (T : Tx K mg w) : FnOk (PySem.Challenge.rw_timerwheels_k07_books_refused).prog w K mg base (L2.CX (PySem.Challenge.rw_timerwheels_k07_books_refused).prog w) 8 (He5.wf K (ga K "Book") "classmethod" "from_text") (d_Book_from_text T).choose ["cls", "text"] (sp_Book_from_textR K) :=
  FunD.ok (k := 7) (N := n_Book_from_textR) (d_Book_from_text T).choose_spec sc_Book_from_textR ln0_Book_from_textR fun cdv A outer s H vs Q E hr h => ⟨t_Book_from_textR K w E, (pss_cons (ps_if (pt_not (pt_val (pe_callB call_isi (by rfl) (free_isinstance T) (by decide +kernel) (pa_cons (pv 1) (pa_cons (pe_bltn (v := .ty "str") (by rfl) (free_str T) (by decide +kernel) rfl) pa_nil))))) (pss_one (ps_raise rfl (takes_of rfl rfl rfl rfl) (pmk_err (pv 1) (er_InvalidText T).oex (er_InvalidText T).ini (er_InvalidText T).tfn (okE_InvalidText (CX := C8.CX0) T).choose_spec.1 (hr.mono (by decide)) (okE_InvalidText (CX := C8.CX0) T).choose_spec.2 (fun _ _ _ _ _ _ _ z => z.elim) rfl (glo_InvalidText T)))) pss_nil)
  (pss_cons (ps_set (i := 2) sc_Book_from_textR.nd rfl (Or.inl rfl) (pe_split (pv 1) pe_str))
  (pss_cons (ps_if (pt_cmpR op_ne (pe_callB call_lenL (by rfl) (free_len T) (by decide +kernel) (pa_cons (pv 2) pa_nil)) (pe_callB call_len_seq (by rfl) (free_len T) (by decide +kernel) (pa_cons (pe_glob rfl (glo_SWITCHES T) rfl) pa_nil)) (nomark _)) (pss_one (ps_raise rfl (takes_of rfl rfl rfl rfl) (pmk_err (pv 1) (er_InvalidText T).oex (er_InvalidText T).ini (er_InvalidText T).tfn (okE_InvalidText (CX := C8.CX0) T).choose_spec.1 (hr.mono (by decide)) (okE_InvalidText (CX := C8.CX0) T).choose_spec.2 (fun _ _ _ _ _ _ _ z => z.elim) rfl (glo_InvalidText T)))) pss_nil)
  (pss_cons (ps_for (passes_of rfl) rfl (pi_zm rfl (free_zip T) (pa_cons (pe_glob rfl (glo_SWITCHES T) rfl) (pa_cons (pv 2) pa_nil))) (pg_tup rfl (pgs_cons (pg_name (i := 3) sc_Book_from_textR.nd rfl (Or.inl rfl)) (pgs_cons (pg_name (i := 4) sc_Book_from_textR.nd rfl (Or.inl rfl)) pgs_nil)))
    (pss_one (ps_if (pt_not (pt_val (pe_fn (ok_is_valueB T) (hr.mono (by decide)) rfl (glo_is_value T) (kp_is_value T) pass0 (pa_cons (pv 3) (pa_cons (pv 4) pa_nil))))) (pss_one (ps_raise rfl (takes_of rfl rfl rfl rfl) (pmk_err (pv 1) (er_InvalidText T).oex (er_InvalidText T).ini (er_InvalidText T).tfn (okE_InvalidText (CX := C8.CX0) T).choose_spec.1 (hr.mono (by decide)) (okE_InvalidText (CX := C8.CX0) T).choose_spec.2 (fun _ _ _ _ _ _ _ z => z.elim) rfl (glo_InvalidText T)))) pss_nil)))
  (pss_one (ps_ret (pe_fn (ok_book_of T) (hr.mono (by decide)) rfl (glo_book_of T) (kp_book_of T) pass0 (pa_cons (pv 2) pa_nil)))))))), rd_Book_from_textR (kfb T) vs H Q E h⟩
theorem ok_Book_from_textR (T : Tx K mg w) : FnR (PySem.Challenge.rw_timerwheels_k07_books_refused).prog w K mg base (L2.CX (PySem.Challenge.rw_timerwheels_k07_books_refused).prog w) 8 (He5.wf K (ga K "Book") "classmethod" "from_text") (sp_Book_from_textR K) :=
  fnR_of (okk_Book_from_textR T) ((d_Book_from_text T).choose_spec.bindsN fun _ _ _ _ _ _ us hl => match us, hl with | [_, _], _ => rfl)
theorem sc_Book_text : FnScope n_Book_text ["self"] (defScope s_Book_text) := ⟨rfl, rfl, rfl, by decide +kernel, rfl, by decide +kernel, by decide +kernel⟩
theorem ln0_Book_text (vs : List V) (H : Hp) (Q : VK) (E : XK) (h : sp_Book_text K vs H Q E) : vs.length = 1 := by
  unfold sp_Book_text at h
  repeat' (first | (exact (congrArg List.length h.1).trans rfl) | (refine Or.elim h (fun h => ?_) (fun h => ?_)) | (obtain ⟨_, h⟩ := h))
theorem okk_Book_text (T : Tx K mg w) : FnOk (PySem.Challenge.rw_timerwheels_k07_books_refused).prog w K mg base CX0 2 (pa K (ga K "Book") "text") (d_Book_text T).choose ["self"] (sp_Book_text K) :=
  FunD.ok (k := 1) (N := n_Book_text) (d_Book_text T).choose_spec sc_Book_text ln0_Book_text fun cdv A outer s H vs Q E hr h => ⟨t_Book_text K w, PSs.nox (pss_one (ps_ret (pe_join pe_str (pe_fld (pv 0) rfl)))), rd_Book_text (kfb T) vs H Q E h⟩
theorem ok_Book_text (T : Tx K mg w) : FnR (PySem.Challenge.rw_timerwheels_k07_books_refused).prog w K mg base CX0 2 (pa K (ga K "Book") "text") (sp_Book_text K) :=
  fnR_of (okk_Book_text T) ((d_Book_text T).choose_spec.bindsN fun _ _ _ _ _ _ us hl => match us, hl with | [_], _ => rfl)
theorem sc__law_text_right : FnScope n__law_text_right ["_law_text"] (defScope s__law_text_right) := ⟨rfl, rfl, rfl, by decide +kernel, rfl, by decide +kernel, by decide +kernel⟩
theorem ln0__law_text_right (vs : List V) (H : Hp) (Q : VK) (E : XK) (h : sp__law_text_right K vs H Q E) : vs.length = 1 := by
  unfold sp__law_text_right at h
  repeat' (first | (exact (congrArg List.length h.1).trans rfl) | (refine Or.elim h (fun h => ?_) (fun h => ?_)) | (obtain ⟨_, h⟩ := h))
theorem okG__law_text_right (T : Tx K mg w) (tb : TBs K mg base) : FnG (PySem.Challenge.rw_timerwheels_k07_books_refused).prog w K mg base CX0 14 (ga K "_law_text_right") (sp__law_text_right K) := by
  obtain ⟨fd, F⟩ := d__law_text_right T
  exact fnG_ofC (k := 13) (N := n__law_text_right) F sc__law_text_right (F.bindsN fun _ _ _ _ _ _ us hl => match us, hl with | [_], _ => rfl) ln0__law_text_right fun cdv A outer s H vs Q E hcv hr h => by
    subst hcv
    exact ⟨t__law_text_right K w, PSs.nox (pss_cons (ps_set (i := 1) sc__law_text_right.nd rfl (Or.inl rfl) (pe_split (pv 0) pe_str))
  (pss_cons (ps_if (PW.pt (pw_or (pt_cmpR op_ne (pe_callB call_lenL (by rfl) (free_len T) (by decide +kernel) (pa_cons (pv 1) pa_nil)) pe_int (nomark _)) (pw_or1 (pt_cmpR op_notN (pe_fnG (okG__law_first_wrong T) (hr.mono (by decide)) rfl (glo__law_first_wrong T) (kp__law_first_wrong T) pass0 (pa_cons (pv 1) pa_nil)) pe_non (nomark _))))) (pss_one (ps_ret (pe_cmpR (op_eqD (ul hr.rm)) (pe_caughtT (TT := TCg K) (t := fun E => (ClX.tCMeth (ga K "Book") (sp_Book_from_textR K) E (tC (.ref (ga K "Book"))) (tCons (tVar 0) tNil))) (k := 10) (d__law_caught T).choose_spec (fun _ _ _ _ _ _ us hl => match us, hl with | [_], _ => rfl) sc__law_caught rfl (Or.inl rfl) rfl (glo__law_caught T) (fun cdg => cg T (hr.mono (by decide)) _ cdg) tb._law_text_right (TBs.mem__law_text_right T) (TBs.one__law_text_right T) rfl (hr.rm.mono (by decide)) (lamS_by (sc := defScope s__law_text_right) (by decide +kernel)) rfl (fun _ _ _ _ _ => rfl) (fun A outer s H E f c2 hrl => (ClX.pe_cmeth (pe_glob rfl (glo_Book T) rfl) (cr_Book T) (cm_Book_from_text T) (ok_Book_from_textR T) (hrl.mono (by decide)) (passes_call (takes_of rfl rfl rfl rfl) fun _ _ _ _ z => z) (pa_cons (pe_var (i := 0) rfl (Or.inr (Or.inr rfl))) pa_nil)))) (pe_lst (pa_cons pe_str (pa_cons (pe_callB (call_reprG hr) (by rfl) (free_repr T) (by decide +kernel) (pa_cons (pv 0) pa_nil)) pa_nil))) (nomark _)))) pss_nil)
  (pss_one (ps_ret (pe_cmpR op_eq (pe_propF (ClX.pe_cmeth (pe_glob rfl (glo_Book T) rfl) (cr_Book T) (cm_Book_from_text T) (ok_Book_from_text T) (hr.rm.mono (by decide)) pass0 (pa_cons (pv 0) pa_nil)) (cls_Book T) (pr_Book_text T) (ok_Book_text T) (hr.rm.mono (by decide)) pass0 (in_Book_text K)) (pv 0) (nomark _)))))), rd__law_text_right (by intro q hq; simp only [List.mem_cons, List.not_mem_nil, or_false] at hq; rcases hq with rfl; exact kec_InvalidText T) vs H Q E h⟩
theorem kp__law_text_right (T : Tx K mg w) : keepIn K (.ref (ga K "_law_text_right")) = true := (d__law_text_right T).choose_spec.kp
theorem sc_is_switchA : FnScope n_is_switchA ["value"] (defScope s_is_switch) := ⟨rfl, rfl, rfl, by decide +kernel, rfl, by decide +kernel, by decide +kernel⟩
theorem ln0_is_switchA (vs : List V) (H : Hp) (Q : VK) (E : XK) (h : sp_is_switchA K vs H Q E) : vs.length = 1 := by
  unfold sp_is_switchA at h
  repeat' (first | (exact (congrArg List.length h.1).trans rfl) | (refine Or.elim h (fun h => ?_) (fun h => ?_)) | (obtain ⟨_, h⟩ := h))
theorem okk_is_switchA (T : Tx K mg w) : FnOk (PySem.Challenge.rw_timerwheels_k07_books_refused).prog w K mg base CX0 2 (ga K "is_switch") (d_is_switch T).choose ["value"] (sp_is_switchA K) :=
  FunD.ok (k := 1) (N := n_is_switchA) (d_is_switch T).choose_spec sc_is_switchA ln0_is_switchA fun cdv A outer s H vs Q E hr h => ⟨t_is_switchA K w, PSs.nox (pss_one (ps_ret (pe_and (pe_callB call_isi (by rfl) (free_isinstance T) (by decide +kernel) (pa_cons (pv 0) (pa_cons (pe_bltn (v := .ty "str") (by rfl) (free_str T) (by decide +kernel) rfl) pa_nil))) (pe_one (pe_cmpR op_in_seq (pv 0) (pe_glob rfl (glo_SWITCHES T) rfl) (by rfl)))))), rd_is_switchA (kfb T) vs H Q E h⟩
theorem ok_is_switchA (T : Tx K mg w) : FnR (PySem.Challenge.rw_timerwheels_k07_books_refused).prog w K mg base CX0 2 (ga K "is_switch") (sp_is_switchA K) :=
  fnR_of (okk_is_switchA T) ((d_is_switch T).choose_spec.bindsN fun _ _ _ _ _ _ us hl => match us, hl with | [_], _ => rfl)
theorem kp_is_switch (T : Tx K mg w) : keepIn K (.ref (ga K "is_switch")) = true := (d_is_switch T).choose_spec.kp
theorem sc_Book_changedR : FnScope n_Book_changedR ["self", "switch", "value"] (defScope s_Book_changed) := ⟨rfl, rfl, rfl, by decide +kernel, rfl, by decide +kernel, by decide +kernel⟩
theorem ln0_Book_changedR (vs : List V) (H : Hp) (Q : VK) (E : XK) (h : sp_Book_changedR K vs H Q E) : vs.length = 3 := by
  unfold sp_Book_changedR at h
  repeat' (first | (exact (congrArg List.length h.1).trans rfl) | (refine Or.elim h (fun h => ?_) (fun h => ?_)) | (obtain ⟨_, h⟩ := h))
theorem okk_Book_changedR (T : Tx K mg w) : FnOk (PySem.Challenge.rw_timerwheels_k07_books_refused).prog w K mg base (L2.CX (PySem.Challenge.rw_timerwheels_k07_books_refused).prog w) 8 (ma K (ga K "Book") "changed") (d_Book_changed T).choose ["self", "switch", "value"] (sp_Book_changedR K) :=
  FunD.ok (k := 7) (N := n_Book_changedR) (d_Book_changed T).choose_spec sc_Book_changedR ln0_Book_changedR fun cdv A outer s H vs Q E hr h => ⟨t_Book_changedR K w E, (pss_cons (ps_if (pt_not (pt_val (pe_fn (ok_is_switchA T) (hr.mono (by decide)) rfl (glo_is_switch T) (kp_is_switch T) pass0 (pa_cons (pv 1) pa_nil)))) (pss_one (ps_raise rfl (takes_of rfl rfl rfl rfl) (pmk_err (pv 1) (er_InvalidSwitch T).oex (er_InvalidSwitch T).ini (er_InvalidSwitch T).tfn (okE_InvalidSwitch (CX := C8.CX0) T).choose_spec.1 (hr.mono (by decide)) (okE_InvalidSwitch (CX := C8.CX0) T).choose_spec.2 (fun _ _ _ _ _ _ _ z => z.elim) rfl (glo_InvalidSwitch T)))) pss_nil)
  (pss_cons (ps_if (pt_not (pt_val (pe_fn (ok_is_valueB T) (hr.mono (by decide)) rfl (glo_is_value T) (kp_is_value T) pass0 (pa_cons (pv 1) (pa_cons (pv 2) pa_nil))))) (pss_one (ps_raise rfl (takes_of rfl rfl rfl rfl) (pmk_err (pv 2) (er_InvalidSwitch T).oex (er_InvalidSwitch T).ini (er_InvalidSwitch T).tfn (okE_InvalidSwitch (CX := C8.CX0) T).choose_spec.1 (hr.mono (by decide)) (okE_InvalidSwitch (CX := C8.CX0) T).choose_spec.2 (fun _ _ _ _ _ _ _ z => z.elim) rfl (glo_InvalidSwitch T)))) pss_nil)
  (pss_cons (ps_set (i := 3) sc_Book_changedR.nd rfl (Or.inl rfl) (pe_bm PySem.F.plainAttrs_tuple PySem.F.slot_tuple_index PySem.F.type_tuple_index mt_tupIx (pe_glob rfl (glo_SWITCHES T) rfl) (pa_cons (pv 1) pa_nil)))
  (pss_one (ps_ret (pe_fn (ok_book_of T) (hr.mono (by decide)) rfl (glo_book_of T) (kp_book_of T) pass0 (pa_cons (pe_op op_catA (pe_op op_catA (pe_slice sl_tupA (pe_fld (pv 0) rfl) po_none (po_some (pv 3))) (pe_tup (pa_cons (pv 2) pa_nil))) (pe_slice sl_tupA (pe_fld (pv 0) rfl) (po_some (pe_op op_add (pv 3) pe_int)) po_none)) pa_nil))))))), rd_Book_changedR (kh T) vs H Q E h⟩
theorem ok_Book_changedR (T : Tx K mg w) : FnR (PySem.Challenge.rw_timerwheels_k07_books_refused).prog w K mg base (L2.CX (PySem.Challenge.rw_timerwheels_k07_books_refused).prog w) 8 (ma K (ga K "Book") "changed") (sp_Book_changedR K) :=
  fnR_of (okk_Book_changedR T) ((d_Book_changed T).choose_spec.bindsN fun _ _ _ _ _ _ us hl => match us, hl with | [_, _, _], _ => rfl)
theorem sc_Book___getitem__R : FnScope n_Book___getitem__R ["self", "switch"] (defScope s_Book___getitem__) := ⟨rfl, rfl, rfl, by decide +kernel, rfl, by decide +kernel, by decide +kernel⟩
theorem ln0_Book___getitem__R (vs : List V) (H : Hp) (Q : VK) (E : XK) (h : sp_Book___getitem__R K vs H Q E) : vs.length = 2 := by
  unfold sp_Book___getitem__R at h
  repeat' (first | (exact (congrArg List.length h.1).trans rfl) | (refine Or.elim h (fun h => ?_) (fun h => ?_)) | (obtain ⟨_, h⟩ := h))
theorem okk_Book___getitem__R (T : Tx K mg w) : FnOk (PySem.Challenge.rw_timerwheels_k07_books_refused).prog w K mg base (L2.CX (PySem.Challenge.rw_timerwheels_k07_books_refused).prog w) 5 (ma K (ga K "Book") "__getitem__") (d_Book___getitem__ T).choose ["self", "switch"] (sp_Book___getitem__R K) :=
  FunD.ok (k := 4) (N := n_Book___getitem__R) (d_Book___getitem__ T).choose_spec sc_Book___getitem__R ln0_Book___getitem__R fun cdv A outer s H vs Q E hr h => ⟨t_Book___getitem__R K w E, (pss_cons (ps_if (pt_not (pt_val (pe_fn (ok_is_switchA T) (hr.mono (by decide)) rfl (glo_is_switch T) (kp_is_switch T) pass0 (pa_cons (pv 1) pa_nil)))) (pss_one (ps_raise rfl (takes_of rfl rfl rfl rfl) (pmk_err (pv 1) (er_InvalidSwitch T).oex (er_InvalidSwitch T).ini (er_InvalidSwitch T).tfn (okE_InvalidSwitch (CX := C8.CX0) T).choose_spec.1 (hr.mono (by decide)) (okE_InvalidSwitch (CX := C8.CX0) T).choose_spec.2 (fun _ _ _ _ _ _ _ z => z.elim) rfl (glo_InvalidSwitch T)))) pss_nil)
  (pss_one (ps_ret (pe_ix ix_tupH (pe_fld (pv 0) rfl) (pe_bm PySem.F.plainAttrs_tuple PySem.F.slot_tuple_index PySem.F.type_tuple_index mt_tupIx (pe_glob rfl (glo_SWITCHES T) rfl) (pa_cons (pv 1) pa_nil)) (fun _ _ => rfl))))), rd_Book___getitem__R vs H Q E h⟩
theorem ok_Book___getitem__R (T : Tx K mg w) : FnR (PySem.Challenge.rw_timerwheels_k07_books_refused).prog w K mg base (L2.CX (PySem.Challenge.rw_timerwheels_k07_books_refused).prog w) 5 (ma K (ga K "Book") "__getitem__") (sp_Book___getitem__R K) :=
  fnR_of (okk_Book___getitem__R T) ((d_Book___getitem__ T).choose_spec.bindsN fun _ _ _ _ _ _ us hl => match us, hl with | [_, _], _ => rfl)
theorem sc__law_changes_right : FnScope n__law_changes_right ["_law_pool", "_law_book"] (defScope s__law_changes_right) := ⟨rfl, rfl, rfl, by decide +kernel, rfl, by decide +kernel, by decide +kernel⟩
theorem ln0__law_changes_right (vs : List V) (H : Hp) (Q : VK) (E : XK) (h : sp__law_changes_right K vs H Q E) : vs.length = 2 := by
  unfold sp__law_changes_right at h
  repeat' (first | (exact (congrArg List.length h.1).trans rfl) | (refine Or.elim h (fun h => ?_) (fun h => ?_)) | (obtain ⟨_, h⟩ := h))
theorem okG__law_changes_right (T : Tx K mg w) (tb : TBs K mg base) : FnG (PySem.Challenge.rw_timerwheels_k07_books_refused).prog w K mg base CX0 14 (ga K "_law_changes_right") (sp__law_changes_right K) := by
  obtain ⟨fd, F⟩ := d__law_changes_right T
  exact fnG_ofC (k := 13) (N := n__law_changes_right) F sc__law_changes_right (F.bindsN fun _ _ _ _ _ _ us hl => match us, hl with | [_, _], _ => rfl) ln0__law_changes_right fun cdv A outer s H vs Q E hcv hr h => by
    subst hcv
    exact ⟨t__law_changes_right K w, PSs.nox (pss_cons (ps_asg (pe_tup (pa_cons (pe_fn (ok__law_draw T) (hr.rm.mono (by decide)) rfl (glo__law_draw T) (kp__law_draw T) pass0 (pa_cons (pv 0) (pa_cons pe_int pa_nil))) (pa_cons (pe_fn (ok__law_odd T) (hr.rm.mono (by decide)) rfl (glo__law_odd T) (kp__law_odd T) pass0 (pa_cons (pv 0) pa_nil)) pa_nil))) (pg_tup rfl (pgs_cons (pg_name (i := 2) sc__law_changes_right.nd rfl (Or.inr rfl)) (pgs_cons (pg_name (i := 3) sc__law_changes_right.nd rfl (Or.inr rfl)) pgs_nil))))
  (pss_cons (ps_set (i := 4) sc__law_changes_right.nd rfl (Or.inl rfl) (pe_or (pe_not (pe_callB call_isi (by rfl) (free_isinstance T) (by decide +kernel) (pa_cons (pv 3) (pa_cons (pe_bltn (v := .ty "str") (by rfl) (free_str T) (by decide +kernel) rfl) pa_nil)))) (pe_one (pe_cmpR op_notIn_seq (pv 3) (pe_fn (ok__law_values_of T) (hr.rm.mono (by decide)) rfl (glo__law_values_of T) (kp__law_values_of T) pass0 (pa_cons (pv 2) pa_nil)) (by rfl)))))
  (pss_cons (ps_if (pt_cmpR (op_neD (ul hr.rm)) (pe_caughtT (TT := TCg K) (t := fun E => (tMethR (ga K "Book") "changed" (sp_Book_changedR K) E (tVar 1) (tCons (tOp (rIxT K) (tC (.ref (ga K "SWITCHES"))) (tVar 2)) (tCons (tVar 3) tNil)))) (k := 10) (d__law_caught T).choose_spec (fun _ _ _ _ _ _ us hl => match us, hl with | [_], _ => rfl) sc__law_caught rfl (Or.inl rfl) rfl (glo__law_caught T) (fun cdg => cg T (hr.mono (by decide)) _ cdg) tb._law_changes_right (TBs.mem__law_changes_right T) (TBs.one__law_changes_right T) rfl (hr.rm.mono (by decide)) (lamS_by (sc := defScope s__law_changes_right) (by decide +kernel)) rfl (fun _ _ _ _ _ => rfl) (fun A outer s H E f c2 hrl => (pe_methR (pe_var (i := 1) rfl (Or.inr (Or.inr rfl))) (cls_Book T) (me_Book_changed T) (ok_Book_changedR T) (hrl.mono (by decide)) (passes_call (takes_of rfl rfl rfl rfl) fun _ _ _ _ z => z) (pa_cons (pe_ix ix_tup (pe_glob rfl (glo_SWITCHES T) rfl) (pe_var (i := 2) rfl (Or.inr (Or.inr rfl))) (fun _ _ => rfl)) (pa_cons (pe_var (i := 3) rfl (Or.inr (Or.inr rfl))) pa_nil))))) (pe_ifExp (pt_val (pv 4)) (pe_lst (pa_cons pe_str (pa_cons (pe_callB (call_reprE hr.gd (Nat.lt_of_le_of_lt (Nat.add_le_add_left (show 40 ≤ 64 by decide) _) (ul hr.rm))) (by rfl) (free_repr T) (by decide +kernel) (pa_cons (pv 3) pa_nil)) pa_nil))) pe_non) (nomark _)) (pss_one (ps_ret pe_bl)) pss_nil)
  (pss_cons (ps_for PassesOwn.never rfl (pi_list (pe_lst (pa_cons (pv 3) (pa_cons pe_str (pa_cons pe_str (pa_cons pe_non (pa_cons pe_int pa_nil))))))) (pg_name (i := 5) sc__law_changes_right.nd rfl (Or.inr rfl))
    (pss_one (ps_if (PW.pt (pw_or (pt_cmpR (op_notInX (ul65 hr.rm)) (pv 5) (pe_glob rfl (glo_SWITCHES T) rfl) (by rfl)) (pw_or1 (pt_not (pt_val (pe_callB call_isi (by rfl) (free_isinstance T) (by decide +kernel) (pa_cons (pv 5) (pa_cons (pe_bltn (v := .ty "str") (by rfl) (free_str T) (by decide +kernel) rfl) pa_nil)))))))) (pss_cons (ps_if (pt_cmpR (op_neD (ul hr.rm)) (pe_caughtT (TT := TCg K) (t := fun E => (tMethR (ga K "Book") "changed" (sp_Book_changedR K) E (tVar 1) (tCons (tVar 5) (tCons (tC .non) tNil)))) (k := 10) (d__law_caught T).choose_spec (fun _ _ _ _ _ _ us hl => match us, hl with | [_], _ => rfl) sc__law_caught rfl (Or.inl rfl) rfl (glo__law_caught T) (fun cdg => cg T (hr.mono (by decide)) _ cdg) tb._law_changes_right (TBs.mem__law_changes_right T) (TBs.one__law_changes_right T) rfl (hr.rm.mono (by decide)) (lamS_by (sc := defScope s__law_changes_right) (by decide +kernel)) rfl (fun _ _ _ _ _ => rfl) (fun A outer s H E f c2 hrl => (pe_methR (pe_var (i := 1) rfl (Or.inr (Or.inr rfl))) (cls_Book T) (me_Book_changed T) (ok_Book_changedR T) (hrl.mono (by decide)) (passes_call (takes_of rfl rfl rfl rfl) fun _ _ _ _ z => z) (pa_cons (pe_var (i := 5) rfl (Or.inr (Or.inr rfl))) (pa_cons pe_non pa_nil))))) (pe_lst (pa_cons pe_str (pa_cons (pe_callB (call_reprE hr.gd (Nat.lt_of_le_of_lt (Nat.add_le_add_left (show 40 ≤ 64 by decide) _) (ul hr.rm))) (by rfl) (free_repr T) (by decide +kernel) (pa_cons (pv 5) pa_nil)) pa_nil))) (nomark _)) (pss_one (ps_ret pe_bl)) pss_nil)
  (pss_one (ps_if (pt_cmpR (op_neD (ul hr.rm)) (pe_caughtT (TT := TCg K) (t := fun E => (tFn (sp_Book___getitem__R K) E (tCons (tVar 1) (tCons (tVar 5) tNil)))) (k := 10) (d__law_caught T).choose_spec (fun _ _ _ _ _ _ us hl => match us, hl with | [_], _ => rfl) sc__law_caught rfl (Or.inl rfl) rfl (glo__law_caught T) (fun cdg => cg T (hr.mono (by decide)) _ cdg) tb._law_changes_right (TBs.mem__law_changes_right T) (TBs.one__law_changes_right T) rfl (hr.rm.mono (by decide)) (lamS_by (sc := defScope s__law_changes_right) (by decide +kernel)) rfl (fun _ _ _ _ _ => rfl) (fun A outer s H E f c2 hrl => (pe_ixF (me_Book___getitem__ T).at_ (fq_Book___getitem__ T).1 (fq_Book___getitem__ T).2 (ok_Book___getitem__R T) (hrl.mono (by decide)) (passes_call (takes_of rfl rfl rfl rfl) fun _ _ _ _ z => z) (in_Book___getitem__R K) (pe_var (i := 1) rfl (Or.inr (Or.inr rfl))) (pe_var (i := 5) rfl (Or.inr (Or.inr rfl)))))) (pe_lst (pa_cons pe_str (pa_cons (pe_callB (call_reprE hr.gd (Nat.lt_of_le_of_lt (Nat.add_le_add_left (show 40 ≤ 64 by decide) _) (ul hr.rm))) (by rfl) (free_repr T) (by decide +kernel) (pa_cons (pv 5) pa_nil)) pa_nil))) (nomark _)) (pss_one (ps_ret pe_bl)) pss_nil))) pss_nil)))
  (pss_one (ps_ret pe_bl)))))), rd__law_changes_right (kh T) (by intro q hq; simp only [List.mem_cons, List.not_mem_nil, or_false] at hq; rcases hq with rfl; exact kec_InvalidSwitch T) vs H Q E h⟩
theorem kp__law_changes_right (T : Tx K mg w) : keepIn K (.ref (ga K "_law_changes_right")) = true := (d__law_changes_right T).choose_spec.kp
theorem sc_law : FnScope n_law ["_law_script"] (defScope s_law) := ⟨rfl, rfl, rfl, by decide +kernel, rfl, by decide +kernel, by decide +kernel⟩
theorem ln0_law (vs : List V) (H : Hp) (Q : VK) (E : XK) (h : sp_law K vs H Q E) : vs.length = 1 := by
  unfold sp_law at h
  repeat' (first | (exact (congrArg List.length h.1).trans rfl) | (refine Or.elim h (fun h => ?_) (fun h => ?_)) | (obtain ⟨_, h⟩ := h))
theorem okG_law (T : Tx K mg w) (tb : TBs K mg base) : FnG (PySem.Challenge.rw_timerwheels_k07_books_refused).prog w K mg base CX0 20 (ga K "law") (sp_law K) := by
  obtain ⟨fd, F⟩ := d_law T
  exact fnG_ofC (k := 19) (N := n_law) F sc_law (F.bindsN fun _ _ _ _ _ _ us hl => match us, hl with | [_], _ => rfl) ln0_law fun cdv A outer s H vs Q E hcv hr h => by
    subst hcv
    exact ⟨t_law K w, PSs.nox (pss_cons (ps_set (i := 1) sc_law.nd rfl (Or.inl rfl) (pe_fn (ok__law_begin T) (hr.rm.mono (by decide)) rfl (glo__law_begin T) (kp__law_begin T) pass0 (pa_cons (pv 0) pa_nil)))
  (pss_cons (ps_for PassesOwn.never rfl (pi_range1 rfl (free_range T) (pa_cons pe_int pa_nil)) (pg_name (i := 2) sc_law.nd rfl (Or.inl rfl))
    (pss_cons (ps_set (i := 3) sc_law.nd rfl (Or.inl rfl) (pe_fn (ok__law_draw_values T) (hr.rm.mono (by decide)) rfl (glo__law_draw_values T) (kp__law_draw_values T) pass0 (pa_cons (pv 1) pa_nil)))
  (pss_cons (ps_set (i := 4) sc_law.nd rfl (Or.inr rfl) (pe_callTy call_list_of (by rfl) (free_list T) (by decide +kernel) (pa_cons (pv 3) pa_nil)))
  (pss_cons (ps_for PassesOwn.never rfl (pi_range1 rfl (free_range T) (pa_cons (pe_op op_add pe_int (pe_fn (ok__law_draw T) (hr.rm.mono (by decide)) rfl (glo__law_draw T) (kp__law_draw T) pass0 (pa_cons (pv 1) (pa_cons pe_int pa_nil)))) pa_nil)) (pg_name (i := 5) sc_law.nd rfl (Or.inl rfl))
    (pss_one (ps_asg (pe_fn (ok__law_odd T) (hr.rm.mono (by decide)) rfl (glo__law_odd T) (kp__law_odd T) pass0 (pa_cons (pv 1) pa_nil)) (pg_sub (pv 4) (pe_fn (ok__law_draw T) (hr.rm.mono (by decide)) rfl (glo__law_draw T) (kp__law_draw T) pass0 (pa_cons (pv 1) (pa_cons pe_int pa_nil))) set_list))))
  (pss_cons (ps_if (pt_cmpR (op_neD (ul hr.rm)) (pe_caughtT (TT := TCg K) (t := fun E => (tFn (sp__law_madeR K) E (tCons (tVar 4) tNil))) (k := 16) (d__law_caught T).choose_spec (fun _ _ _ _ _ _ us hl => match us, hl with | [_], _ => rfl) sc__law_caught rfl (Or.inl rfl) rfl (glo__law_caught T) (fun cdg => cg T (hr.mono (by decide)) _ cdg) tb.law (TBs.mem_law T) (TBs.one_law T) rfl (hr.rm.mono (by decide)) (lamS_by (sc := defScope s_law) (by decide +kernel)) rfl (fun _ _ _ _ _ => rfl) (fun A outer s H E f c2 hrl => (pe_fn (ok__law_madeR T) (hrl.mono (by decide)) rfl (glo__law_made T) (kp__law_made T) (passes_call (takes_of rfl rfl rfl rfl) fun _ _ _ _ z => z) (pa_cons (pe_var (i := 4) rfl (Or.inr (Or.inr rfl))) pa_nil)))) (pe_fnG (okG__law_first_wrong T) (hr.mono (by decide)) rfl (glo__law_first_wrong T) (kp__law_first_wrong T) pass0 (pa_cons (pv 4) pa_nil)) (nomark _)) (pss_one (ps_ret pe_bl)) pss_nil)
  (pss_cons (ps_if (pt_cmpR (op_neO (Nat.lt_of_le_of_lt (Nat.add_le_add_left (by decide) _) hr.rm.units) (ne_Book T) (ob_Book T) (me_Book___eq__ T).at_ (fq_Book___eq__ T).1 (ok_Book___eq__ T) (hr.rm.mono (by decide)) pass0) (pe_fn (ok__law_made T) (hr.rm.mono (by decide)) rfl (glo__law_made T) (kp__law_made T) pass0 (pa_cons (pv 3) pa_nil)) (pe_fn (ok__law_made_book T) (hr.rm.mono (by decide)) rfl (glo__law_made_book T) (kp__law_made_book T) pass0 (pa_cons (pv 3) pa_nil)) (nomark _)) (pss_one (ps_ret pe_bl)) pss_nil)
  (pss_cons (ps_set (i := 6) sc_law.nd rfl (Or.inl rfl) (pe_join pe_str (pv 3)))
  (pss_cons (ps_par (i := 7) (j := 8) (by rfl) sc_law.nd rfl rfl (by decide) rfl rfl (pa_cons (pe_fn (ok__law_draw T) (hr.rm.mono (by decide)) rfl (glo__law_draw T) (kp__law_draw T) pass0 (pa_cons (pv 1) (pa_cons (pe_op op_add (pe_callB call_len_str (by rfl) (free_len T) (by decide +kernel) (pa_cons (pv 6) pa_nil)) pe_int) pa_nil))) (pa_cons (pe_ix ix_str pe_str (pe_fn (ok__law_draw T) (hr.rm.mono (by decide)) rfl (glo__law_draw T) (kp__law_draw T) pass0 (pa_cons (pv 1) (pa_cons pe_int pa_nil))) (fun _ _ => rfl)) pa_nil)) (by rfl))
  (pss_cons (ps_set (i := 9) sc_law.nd rfl (Or.inl rfl) (pe_callTy call_list_of (by rfl) (free_list T) (by decide +kernel) (pa_cons (pv 3) pa_nil)))
  (pss_cons (ps_asg (pe_ix ix_lstH (pe_lst (pa_cons pe_str (pa_cons pe_str (pa_cons pe_str (pa_cons pe_str (pa_cons pe_str (pa_cons pe_str pa_nil))))))) (pe_fn (ok__law_draw T) (hr.rm.mono (by decide)) rfl (glo__law_draw T) (kp__law_draw T) pass0 (pa_cons (pv 1) (pa_cons pe_int pa_nil))) (fun _ _ => rfl)) (pg_sub (pv 9) (pe_fn (ok__law_draw T) (hr.rm.mono (by decide)) rfl (glo__law_draw T) (kp__law_draw T) pass0 (pa_cons (pv 1) (pa_cons pe_int pa_nil))) set_list))
  (pss_cons (ps_set (i := 10) sc_law.nd rfl (Or.inl rfl) (pe_lst (pa_cons (pv 6) (pa_cons (pe_op op_add_str (pe_op op_add_str (pe_slice sl_str (pv 6) po_none (po_some (pv 7))) (pv 8)) (pe_slice sl_str (pv 6) (po_some (pv 7)) po_none)) (pa_cons (pe_op op_add_str (pe_slice sl_str (pv 6) po_none (po_some (pv 7))) (pe_slice sl_str (pv 6) (po_some (pe_op op_add (pv 7) pe_int)) po_none)) pa_nil)))))
  (pss_cons (ps_for PassesOwn.never rfl (pi_list (pe_op op_cat (pv 10) (pe_lst (pa_cons (pe_join pe_str (pv 9)) (pa_cons (pe_join pe_str (pe_slice sl_list (pv 9) (po_some pe_int) po_none)) pa_nil))))) (pg_name (i := 11) sc_law.nd rfl (Or.inl rfl))
    (pss_one (ps_if (pt_not (pt_val (pe_fnG (okG__law_text_right T tb) (hr.mono (by decide)) rfl (glo__law_text_right T) (kp__law_text_right T) pass0 (pa_cons (pv 11) pa_nil)))) (pss_one (ps_ret pe_bl)) pss_nil)))
  (pss_one (ps_if (pt_not (pt_val (pe_fnG (okG__law_changes_right T tb) (hr.mono (by decide)) rfl (glo__law_changes_right T) (kp__law_changes_right T) pass0 (pa_cons (pv 1) (pa_cons (pe_fn (ok__law_made_book T) (hr.rm.mono (by decide)) rfl (glo__law_made_book T) (kp__law_made_book T) pass0 (pa_cons (pv 3) pa_nil)) pa_nil))))) (pss_one (ps_ret pe_bl)) pss_nil))))))))))))))
  (pss_one (ps_ret (pe_cmpR (op_eqD (ul hr.rm)) (pe_lc (own := [("_law_odd_here", 12)]) (g := (gName 12)) (tt := tYes) rfl sc_law.nd (pi_list (pe_lst (pa_cons pe_non (pa_cons pe_int (pa_cons (pe_lst (pa_cons pe_str pa_nil)) pa_nil))))) (blkOk_by (own := [("_law_odd_here", 12)]) (N := ["_law_script", "_law_pool", "_law_turn", "_law_values", "_law_bent", "_law_k", "_law_text", "_law_at", "_law_sign", "_law_words", "_law_some", "_law_one", "_law_odd_here"]) (sc := defScope s_law) (by decide +kernel)) (fun _ _ _ _ _ => (pg_name (i := 12) sc_law.nd rfl (Or.inr rfl))) (fun _ _ _ _ _ => pts_nil) (fun _ _ _ _ _ => (pe_caughtT (TT := TCg K) (t := fun E => (ClX.tCMeth (ga K "Book") (sp_Book_from_textR K) E (tC (.ref (ga K "Book"))) (tCons (tVar 12) tNil))) (k := 16) (d__law_caught T).choose_spec (fun _ _ _ _ _ _ us hl => match us, hl with | [_], _ => rfl) sc__law_caught rfl (Or.inl rfl) rfl (glo__law_caught T) (fun cdg => cg (N := []) (H := H) (E := E) T (hr.mono (by decide)) _ cdg) tb.law (TBs.mem_law T) (TBs.one_law T) rfl (hr.rm.mono (by decide)) (lamS_by (sc := relS _ (defScope s_law)) (by decide +kernel)) rfl (fun _ _ _ _ _ => rfl) (fun A outer s H E f c2 hrl => (ClX.pe_cmeth (pe_glob rfl (glo_Book T) rfl) (cr_Book T) (cm_Book_from_text T) (ok_Book_from_textR T) (hrl.mono (by decide)) (passes_call (takes_of rfl rfl rfl rfl) fun _ _ _ _ z => z) (pa_cons (pe_var (i := 12) rfl (Or.inr (Or.inr rfl))) pa_nil)))))) (pe_lc (own := [("_law_odd_here", 12)]) (g := (gName 12)) (tt := tYes) rfl sc_law.nd (pi_list (pe_lst (pa_cons pe_non (pa_cons pe_int (pa_cons (pe_lst (pa_cons pe_str pa_nil)) pa_nil))))) (blkOk_by (own := [("_law_odd_here", 12)]) (N := ["_law_script", "_law_pool", "_law_turn", "_law_values", "_law_bent", "_law_k", "_law_text", "_law_at", "_law_sign", "_law_words", "_law_some", "_law_one", "_law_odd_here"]) (sc := defScope s_law) (by decide +kernel)) (fun _ _ _ _ _ => (pg_name (i := 12) sc_law.nd rfl (Or.inl rfl))) (fun _ _ _ _ _ => pts_nil) (fun _ _ _ _ _ => (pe_lst (pa_cons pe_str (pa_cons (pe_callB (call_reprG hr) (by rfl) (free_repr T) (by decide +kernel) (pa_cons (pv 12) pa_nil)) pa_nil))))) (nomark _)))))), rd_law (kh T) (by intro q hq; simp only [List.mem_cons, List.not_mem_nil, or_false] at hq; rcases hq with rfl | rfl; exact kec_InvalidSwitch T; exact kec_InvalidText T) vs H Q E h⟩
end
end Tw
theorem PySem.Challenge.cw_timerwheels_k07_books_refused_holds : PySem.Challenge.rw_timerwheels_k07_books_refused.Holds := by
  exact Hd.holds (k := 20) (CX := L2.CX0) (fun _ _ _ _ z => z) ⟨⟨rfl, by decide, by decide⟩, rfl⟩ fun K mg w base T t0 t1 t2 => Tw.okG_law T ⟨t0, t1, t2⟩
