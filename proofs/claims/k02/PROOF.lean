import PyProof.Rows.All
import Wide.All
import OpenK.AllK
import Wide.FinOn
import HandS.ForMost
import HandS.ForExc
import HandS.Defaults
import HandS.Property
import HandS.ClsMeth
import HandS.IsInst
import HandS.Head0
import HandS.Head1
import HandS.Head2
import HandS.HeadEnd
import HandS.HeadHook1
import HandS.HeadHook2
import HandS.HeadHook3
import HandS.HeadNt
import HandS.Wide
import HandS.Flt
import HandS.Flow
import HandS.MakeKwOnly
import HandS.Star
import HandS.Zip
import HandS.Conv
import HandS.Style
import HandS.SlotsOwn
import HandS.NoneIn
import HandS.More
import HandS.RaiseMore
import PyProof.ReprRoads
import HandS.ExcInit
import HandS.ExcField
import HandS.Nested
import KE.KExcSuper
import KE.KSuper
import HandS.ExcIs
import HandS.EndTab
import HandS.NestedK
import KE.KCallOwn
import KE.KOpsOwn
import HandS.TupLe
import KE.GoesMore
import KE.GoesZip
import KE.GoesEnum
import PyProof.Draws
import HandS.Walk
import PyProof.ListRange
import PyProof.LongRange
import HandS.GenOver
import PyProof.GenQ
import HandS.GenList
import HandS.ForList
import HandS.Call
import HandS.Iter
import PyProof.Rows.ChunkEnd
import HandS.FStrTup
import PyProof.FitsInt
import HandS.TryMany
import HandS.HotCalls
import HandS.Codes
import HandS.Lambda
import PyProof.TwoTypes
import PyProof.StrReplace2
import PyProof.EqKinds
import OpenK.KOps
import PyProof.Conv_bool
import PyProof.StrBlock2
import HandS.Text
import HandS.OwnEq
import KE.KEqNest
import PyProof.InstEq
import HandS.Comp
import HandS.SetFor
import HandS.Strs
import HandS.TupAny
import KE.IntTextText
import PyProof.StrLawsRepr
import PyProof.FitsReplace
import PyProof.Rows.StrMeet
import PyProof.ReprLen
import PySem.Challenge.RW_timerwheels_k02_shares_in_order_and_as_t
set_option Elab.async false
set_option linter.all false
set_option maxRecDepth 100000
set_option maxHeartbeats 4000000
/-! Tw: a Hook of our own: facts by names, facts by Bools, defs at any address, tables with text keys -/
namespace Tw
open PySem PySem.Spec PyProof.Rows L2 He PySem.W
/-! ### addresses -/
def pa (K : Frag) (C : Addr) (f : PySem.Str) : Addr := match recIn K (ma K C f) "property" with
  | some (.ref g :: _) => g
  | _ => 0
def dva (K : Frag) (d : Addr) (x : PySem.Str) : Addr := match nsIn K d x with
  | some (some (.ref a)) => a
  | _ => 0
/-! ### facts by Bools -/
def bProp (x f : PySem.Str) (K : Frag) : Bool := eqO (findIn K (.ref (ga K x)) f) (some (some (.ref (ma K (ga K x) f)))) &&
  (eqO (specialIn K (.ref (ma K (ga K x) f)) "__get__") (some (some (.builtin "property.__get__"))) && (decide (takesIn K (.ref (ma K (ga K x) f)) = some true) &&
    (match recIn K (ma K (ga K x) f) "property" with
      | some (.ref _ :: _) => true
      | _ => false)))
theorem prop_ok {K : Frag} {x f : PySem.Str} (h : bProp x f K = true) : PropOf K (ga K x) f (ma K (ga K x) f) (pa K (ga K x) f) := by
  obtain ⟨h1, h⟩ := ba h
  obtain ⟨h2, h⟩ := ba h
  obtain ⟨h3, h4⟩ := ba h
  refine ⟨eqO_ok h1, eqO_ok h2, of_decide_eq_true h3, ?_⟩
  unfold pa
  split at h4
  · rename_i g r e
    exact ⟨r, by rw [e]⟩
  · cases h4
def bFn (p : Frag → Addr) (K : Frag) : Bool := isFn K (.ref (p K)) && fnIn K (p K)
def bIsi (x : PySem.Str) (K : Frag) : Bool := eqO (findIn K (.ref (ga K x)) "__class__") (some (some (.builtin "object.__class__"))) &&
  (eqO (specialIn K (.builtin "object.__class__") "__get__") (some (some (.builtin "getset_descriptor.__get__"))) && (decide (takesIn K (.builtin "object.__class__") = some true) && decide (mroIn K (ga K x) (.type "object") = some true)))
structure IsiC (K : Frag) (C : Addr) : Prop where
  ca : findIn K (.ref C) "__class__" = some (some (.builtin "object.__class__"))
  cn : specialIn K (.builtin "object.__class__") "__get__" = some (some (.builtin "getset_descriptor.__get__"))
  ct : takesIn K (.builtin "object.__class__") = some true
  cm : mroIn K C (.type "object") = some true
theorem isi_ok {K : Frag} {x : PySem.Str} (h : bIsi x K = true) : IsiC K (ga K x) := by
  obtain ⟨h1, h⟩ := ba h
  obtain ⟨h2, h⟩ := ba h
  obtain ⟨h3, h4⟩ := ba h
  exact ⟨eqO_ok h1, eqO_ok h2, of_decide_eq_true h3, of_decide_eq_true h4⟩
def bKit (t c : Frag → Value) (b : Bool) (K : Frag) : Bool := decide (kitOne K (t K) (c K) = some b)
theorem kit_ok {t c : Frag → Value} {b : Bool} {K : Frag} (h : bKit t c b K = true) : kitOne K (t K) (c K) = some b := of_decide_eq_true h
def bCm (x m : PySem.Str) (K : Frag) : Bool := He5.wrapB K (ga K x) "classmethod" "classmethod.__get__" m && fnIn K (He5.wf K (ga K x) "classmethod" m)
theorem cm_ok {K : Frag} {x m : PySem.Str} (h : bCm x m K = true) : ClX.CMet K (ga K x) (.type "type") m (ma K (ga K x) m) (He5.wf K (ga K x) "classmethod" m) := by
  obtain ⟨h1, h2⟩ := ba h
  exact He5.cmet_of h1 h2
def bCread (x : PySem.Str) (K : Frag) : Bool := readsIn K (ga K x) (.type "type") && eqO (specialIn K (.ref (ga K x)) "__getattribute__") (some (some (.builtin "type.__getattribute__")))
theorem cread_ok {K : Frag} {x : PySem.Str} (h : bCread x K = true) : ClX.CRead K (ga K x) (.type "type") := by
  obtain ⟨h1, h2⟩ := ba h
  exact ⟨h1, eqO_ok h2⟩
def bTup (p : Frag → Addr) (vs : List Dv) (K : Frag) : Bool := match K.lookup (p K) with
  | some ⟨.type c, _, .seq its _, _⟩ => decide (c = "tuple") && (decide (its.size ≤ sizeLine) && relAll (vs.map (Dv.v K)) its.toList)
  | _ => false
def bVal (p : Frag → Addr) (ks : List PySem.Str) (K : Frag) : Bool := ks.all fun x => eqO (nsIn K (p K) x) (some (some (.ref (dva K (p K) x))))
/-! ### the Hook -/
abbrev AlM : Type := He.AlD × List (Option (List (Option (PySem.Str × Int))))
def obsM (fa : List Fa) (fb : List (Frag → Bool)) (fn : List He5.DefA) (ts : List He.Tab) (K : Frag) : AlM :=
  (((fa.all fun f => f.ok K) && ((fb.all fun f => f K) && fn.all fun d => d.ok K), fn.map fun d => He5.fnA K (d.at_ K)), ts.map fun t => dicW K (t.1 K))
def valM (fn : List He5.DefA) (ts : List He.Tab) (w : World) : AlM := ((true, fn.map He5.DefA.val), ts.map fun t => some (keysIn w.params t.2))
def SaysM (fa : List Fa) (fb : List (Frag → Bool)) (fn : List He5.DefA) (ts : List He.Tab) (w : World) (K : Frag) : Prop := obsM fa fb fn ts K = valM fn ts w
section
variable {fa : List Fa} {fb : List (Frag → Bool)} {fn : List He5.DefA} {ts : List He.Tab} {w : World} {K : Frag}
theorem SaysM.bits (c : SaysM fa fb fn ts w K) : (fa.all fun f => f.ok K) = true ∧ (fb.all fun f => f K) = true ∧ (fn.all fun d => d.ok K) = true := by
  have h : ((fa.all fun f => f.ok K) && ((fb.all fun f => f K) && fn.all fun d => d.ok K)) = true := congrArg (fun z : AlM => z.1.1) c
  obtain ⟨h1, h⟩ := ba h
  obtain ⟨h2, h3⟩ := ba h
  exact ⟨h1, h2, h3⟩
theorem SaysM.fact (c : SaysM fa fb fn ts w K) (i : Nat) {f : Fa} (h : fa[i]? = some f := by rfl) : f.ok K = true := List.all_eq_true.mp c.bits.1 f (List.mem_of_getElem? h)
theorem SaysM.bool (c : SaysM fa fb fn ts w K) (i : Nat) {f : Frag → Bool} (h : fb[i]? = some f := by rfl) : f K = true := List.all_eq_true.mp c.bits.2.1 f (List.mem_of_getElem? h)
theorem SaysM.def_ (c : SaysM fa fb fn ts w K) (i : Nat) {d : He5.DefA} (h : fn[i]? = some d := by rfl) : ∃ fd, FunD K d.name d.qual d.params d.body d.scope (d.dvs K) (d.kws K) (d.at_ K) fd := by
  have e : fn.map (fun d => He5.fnA K (d.at_ K)) = fn.map He5.DefA.val := congrArg (fun z : AlM => z.1.2) c
  have e2 : (fn.map fun d => He5.fnA K (d.at_ K))[i]? = (fn.map He5.DefA.val)[i]? := by rw [e]
  rw [List.getElem?_map, List.getElem?_map, h] at e2
  exact He5.DefA.funD (Option.some.inj e2) (List.all_eq_true.mp c.bits.2.2 d (List.mem_of_getElem? h))
theorem SaysM.tab (c : SaysM fa fb fn ts w K) (i : Nat) {t : He.Tab} (h : ts[i]? = some t := by rfl) : ∃ es n, KDict K w (t.1 K) es n := by
  have e : ts.map (fun t => dicW K (t.1 K)) = ts.map fun t => some (keysIn w.params t.2) := congrArg (fun z : AlM => z.2) c
  have e2 : (ts.map fun t => dicW K (t.1 K))[i]? = (ts.map fun t => some (keysIn w.params t.2))[i]? := by rw [e]
  rw [List.getElem?_map, List.getElem?_map, h] at e2
  exact dicW_ok (Option.some.inj e2)
end
end Tw
/-! Tw: the Hook over written addresses -/
namespace Tw
open PySem PySem.Spec PyProof.Rows L2 He PySem.W
def bNod (p : Frag → Addr) (K : Frag) : Bool := match K.lookup (p K) with
  | some ⟨.type c, none, _, _⟩ => decide (c = "tuple")
  | _ => false
end Tw
/-! Tw: rules of our own beside the hand layer's -/
namespace Tw
open PySem PySem.Spec PyProof.Rows L2
theorem Same.new {H : Hp} {p : Addr} {o : HO} (h : H p = none) : Same H (upd H p o) := fun a u e => by
  rw [upd_ne (ne_of_none e h)]
  exact e
theorem Same.tup {K : PySem.W.Frag} {H H' : Hp} {a : Addr} {xs : List V} (e : Same H H') (h : SqT K H a xs) : SqT K H' a xs := by
  rcases h with (h | ⟨o, h⟩) | h
  · exact .inl (.inl (e _ _ h))
  · exact .inl (.inr ⟨o, e _ _ h⟩)
  · exact .inr h
section
variable {P : Program} {w : World} {K : PySem.W.Frag} {mg : Str → Option Value} {base : Heap} {CX : CXT} {k : Nat} {f : Addr} {fd : FuncData} {ps : List Str} {sp : Sp}
theorem fnR_of (F : FnOk P w K mg base CX k f fd ps sp) (b : Binds K fd ps []) : FnR P w K mg base CX k f sp :=
  (F.raw b .nil).imp fun vs H Q E h => by
    show sp (vs ++ []) H Q E
    rw [List.append_nil]
    exact h
end
def tFn (sp : Sp) (E : XK) (t : TA) : TE := fun σ H Q => t σ H fun vs H1 => sp vs H1 Q E
section
variable {X : Cx} {CX : CXT} {k : Nat} {f C g : Addr} {sp : Sp} {E : XK} {x m : Str} {e o : Expr} {es : List Expr} {ta te : TE} {t : TA} {p pos apos : Pos}
theorem pe_fn (F : FnR X.prog X.w X.K X.mg X.base CX k f sp) (hr : Room k X.A) (hg : Gl X x) (hm : X.mg x = some (.ref f)) (hk : PySem.W.keepIn X.K (.ref f) = true) (hx : Passes CX X E) (ha : PA X (e :: es) t)
    (hdb : (x == ("__debug__" : Str)) = false := by decide) (he : starEach (e :: es) X.env = (false, eval e X.env) :: starEach es X.env := by rfl)
    (hpl : (backTo pos (starEach es X.env)).any (·.1) = false := by rfl) : PE X (.Call (.Name x p) (e :: es) [] pos) (tFn sp E t) := ⟨fun pins s σ H Q I h =>
  wpAny_Call_Name_kw (ld_glob I hg hm (PySem.W.callWith_K (h₀ := X.base) I.ok.mod.kin hk
    (thn (ha.run pos pins s σ H _ I h) fun us s1 ⟨vs, H1, I1, r, q⟩ => ⟨I1.kIn, wpAny_call (run_fnR F hr hx I1 r q)⟩) he hpl) hdb)⟩
def rLenO (C : Addr) (sp : Sp) (E : XK) : List V → Hp → VK → Prop := fun xs H Q => ∃ a dx fs, xs = [.ref a] ∧ H a = some (.ins C dx fs) ∧
  sp [.ref a] H (fun v H' => ∃ n : Int, v = .int n ∧ 0 ≤ n ∧ n < 2 ^ 63 ∧ Q (.int n) H') E
def rIxO (C : Addr) (sp : Sp) (E : XK) : R2 := fun x y H Q => ∃ a dx fs, x = .ref a ∧ H a = some (.ins C dx fs) ∧ sp [.ref a, y] H Q E
/-! tracked sequences, read -/
def rIxLH : R2 := fun x y H Q => ∃ p xs i v, x = .ref p ∧ y = .int i ∧ H p = some (.lst xs) ∧ atI xs i = some v ∧ Q v H
def rIxTH : R2 := fun x y H Q => ∃ p xs i v, x = .ref p ∧ y = .int i ∧ H p = some (.tup xs) ∧ atI xs i = some v ∧ Q v H
theorem ix_lstH : IxR X rIxLH := fun value slice pins s σ H x y v u Q I rx ry ⟨p, xs, i, z, e1, e2, h, e3, q⟩ hs => ix_list value slice pins s σ H x y v u Q I rx ry ⟨p, xs, i, z, e1, e2, SqL.of h, e3, q⟩ hs
def rLenLH : List V → Hp → VK → Prop := fun xs H Q => ∃ p ys, xs = [.ref p] ∧ H p = some (.lst ys) ∧ Q (.int ys.length) H
def rLenTH : List V → Hp → VK → Prop := fun xs H Q => ∃ p ys, xs = [.ref p] ∧ H p = some (.tup ys) ∧ Q (.int ys.length) H
theorem call_lenL : CallR X (.builtin "len") rLenLH := fun pins s σ H xs us Q I r ⟨p, ys, e, h, q⟩ => call_len_seq pins s σ H xs us Q I r ⟨p, ys, e, .inl (SqL.of h), q⟩
def InsAt (C : Addr) (sp : Sp) : Prop := ∀ vs H Q E, sp vs H Q E → ∃ (a dx : Addr) (fs : List (Str × V)) (r : List V), vs = .ref a :: r ∧ H a = some (.ins C dx fs)
theorem pe_propF {f : Str} {pr : Addr} (he : PE X e ta) (c : Cls X.K C) (hp : PropOf X.K C f pr g) (F : FnR X.prog X.w X.K X.mg X.base CX k g sp) (hr : Room (k + 1) X.A) (hx : Passes CX X.nox E) (hi : InsAt C sp)
    (hab : attributeBase e f X.env (eval e X.env) = eval e X.env := by rfl) : PE X (.Attribute e f pos) (tFn sp E (tCons ta tNil)) := by
  refine ⟨fun pins s σ H Q I h => attr_of hab (thn (he.run pins s σ H _ I h) fun u s1 ⟨x, H1, I1, rx, q⟩ => ?_)⟩
  obtain ⟨a, dx, fs, r, e1, ea⟩ := hi _ _ _ _ q
  cases e1
  cases (show u = Value.ref a from rx)
  obtain ⟨mA, O, _⟩ := ins_get I1.hok ea
  obtain ⟨od, J, _⟩ := O.look
  obtain ⟨rest, hrec⟩ := hp.rec_
  have hc : (PySem.W.clsIn X.K C).isSome = true := by
    obtain ⟨cd, hc, _⟩ := PySem.W.any_some c.hd
    rw [hc]
    rfl
  have I2 := I1.tok (s1.toks + 1)
  refine PySem.W.get_bind I1.kIn J (PySem.W.plainGet_of (c.get f)).1 (PySem.W.findObj_data hc hp.at_ hp.get hp.tak) (PySem.W.plainGet_of (c.get f)).2
    (wpAny_call (PySem.W.prop_get (s := { s1 with toks := s1.toks + 1 }) I2.kIn hrec (codeAny_mono (F X.A.in1 X.stack _ H1 [.ref a] [.ref a] Q E hr.in1 I2.env0.in1 (.cons rfl .nil) q) fun r s' hq => ?_)))
  cases r with
  | error er => exact False.elim (hx pins σ H1 _ er s' (I2.wish _) hq)
  | ok fl =>
    cases fl with
    | ret u =>
      obtain ⟨v, H', I3, rv, q3⟩ := I2.after hq
      show wpAny _ _ (handedOut u) _ _ _
      rw [PySem.W.handedOut_of (handed_of rv)]
      exact wpAny_pure ⟨v, H', I3, rv, q3⟩
    | next => exact False.elim hq
    | brk => exact False.elim hq
    | cont => exact False.elim hq
theorem pe_ixF {a b : Expr} {tb : TE} (hs : PySem.W.findIn X.K (.ref C) "__getitem__" = some (some (.ref g))) (hf : PySem.W.isFn X.K (.ref g) = true) (hn : PySem.W.fnIn X.K g = true) (F : FnR X.prog X.w X.K X.mg X.base CX k g sp) (hr : Room (k + 1) X.A) (hx : Passes CX X E) (hi : InsAt C sp)
    (ha : PE X a ta) (hb : PE X b tb) (hsl : ∀ u v, subscripted b true u v = runValue (.builtin "lifetime.subscript" ⟨[u, v], []⟩) := by intro _ _; with_unfolding_all rfl) : PE X (.Subscript a b pos) (tFn sp E (tCons ta (tCons tb tNil))) := by
  refine ⟨fun pins s σ H Q I h => Subscript_ (binT ha hb I h fun v u s2 x y H2 I2 rx ry q => ?_)⟩
  obtain ⟨c, dx, fs, r, e1, ec⟩ := hi _ _ _ _ q
  cases e1
  cases (show v = Value.ref c from rx)
  obtain ⟨mA, O, _⟩ := ins_get I2.hok ec
  obtain ⟨od, J, _⟩ := O.look
  obtain ⟨m, hF⟩ := I2.fr
  exact PySem.W.sub_K hF I2.ok.mod.kin J hs hn hf (wpAny_call (SlX.run_at (us := [.ref c, u]) (ws := [.ref c, y]) F hr.in1 I2.env0.in1 hx I2 (.cons rfl (.cons ry .nil)) q)) (hsl _ _)
def rLenF (sp : Sp) (E : XK) : List V → Hp → VK → Prop := fun xs H Q => sp xs H (fun v H' => ∃ n : Int, v = .int n ∧ 0 ≤ n ∧ n < 2 ^ 63 ∧ Q (.int n) H') E
end
end Tw
/-! Tw: more rules -/
namespace Tw
open PySem PySem.Spec PyProof.Rows L2 StX
section
variable {X : Cx} {CX : CXT} {k : Nat} {f C : Addr} {sp : Sp} {E : XK} {x : Str} {p pos : Pos}
theorem pe_makeR0 (M : Mk X.K C f) (F : FnR X.prog X.w X.K X.mg X.base CX k f sp) (hr : Room (k + 1) X.A) (hg : Gl X x) (hm : X.mg x = some (.ref C)) (hx : Passes CX X E)
    (hdb : (x == ("__debug__" : Str)) = false := by decide) : PE X (.Call (.Name x p) [] [] pos) (tMakeR C sp E tNil) := ⟨fun pins s σ H Q I h =>
  wpAny_Call_Name_kw (ld_glob I hg hm (PySem.W.callWith_K0 I.kIn M.kp (run_makeR (us := []) (vs := []) M F hr hx I .nil h)) hdb)⟩
end
end Tw
namespace Tw
open PySem PySem.Spec PyProof.Rows L2
theorem ul {k : Nat} {A : Around} (hr : Room k A) : A.units + 64 < cLine := by have := hr.un; omega
end Tw
/-! Tw: defs of the law itself that call repr: nothing is under way around them -/
namespace Tw
open PySem PySem.Spec PyProof.Rows L2
structure RmG (k : Nat) (A : Around) : Prop where
  rm : Room k A
  gd : A.guards = some []
theorem RmG.mono {j k : Nat} {A : Around} (r : RmG k A) (h : j ≤ k) : RmG j A := ⟨r.rm.mono h, r.gd⟩
theorem RmG.deeper {k : Nat} {A : Around} (r : RmG (k + 1) A) (env : Env) : RmG k (A.deeper env) := ⟨r.rm.deeper env, r.gd⟩
def FnG (P : Program) (w : World) (K : PySem.W.Frag) (mg : Str → Option Value) (base : Heap) (CX : CXT) (k : Nat) (f : Addr) (sp : Sp) : Prop :=
  ∀ A fs t Hp0 us vs Q E, RmG k A → Env0 P w K mg base A fs t Hp0 → Vals vs us → sp vs Hp0 Q E → codeAny (model P w) A (.call (.ref f) ⟨us, []⟩) (CR CX fs P w Hp0 t Q E) t
section
variable {P : Program} {w : World} {K : PySem.W.Frag} {mg : Str → Option Value} {base : Heap} {CX : CXT} {k : Nat} {f : Addr} {sp : Sp}
theorem FnG.mono {j : Nat} (F : FnG P w K mg base CX j f sp) (h : j ≤ k) : FnG P w K mg base CX k f sp := fun A fs t H us vs Q E r => F A fs t H us vs Q E (r.mono h)
theorem fnG_of {x qual : Str} {params : Arguments} {body : List Stmt} {scope : Scope} {kws : List (Str × V)} {fd : FuncData} {N ps : List Str} (F : FunD K x qual params body scope [] kws f fd) (S : FnScope N ps scope) (hb : Binds K fd ps [])
    (hl : ∀ vs H Q E, sp vs H Q E → vs.length = ps.length)
    (hbody : ∀ cdv A fs t H vs Q E, RmG k (A.deeper (envOfC qual scope t.heap.objs.size f cdv)) → sp vs H Q E → ∃ tt, PSs (cxOf CX P w K mg base N qual scope f cdv A fs t H E) body tt ∧ tt { nx := fun _ H' => Q .non H', rt := Q } (L2.start N vs) H) :
    FnG P w K mg base CX (k + 1) f sp := by
  intro A fs t H us vs Q E hr e0 rv h
  obtain ⟨oc, od, dV, kV, doc, pm, an, cdv, ct, osl, efd, lk, hcd, _, _⟩ := F.ex
  have KX : K.In t.heap := e0.mod.kin.keeps fun b o z => (e0.bs b o z).1
  have hlen : us.length = ps.length := rv.length.symm.trans (hl _ _ _ _ h)
  have hbt := hb t us KX (by rw [List.append_nil]; exact hlen)
  rw [List.append_nil] at hbt
  rw [efd] at lk hbt
  refine codeAny_call_function hr.rm.depth (KX _ _ lk) rfl S.co S.gen rfl (PySem.W.codeRec_of KX hcd) (hbt _ _ _ _ ?_)
  refine wpAny_newFunctionEnv_cells S.kind (fun y hy => ?_) fun env he t1 inc => ?_
  · exact (S.par y.1 (List.of_mem_zip hy).1).elim .inl fun z => .inr ⟨z, PySem.W.cellsFrom_some _ _ _ (.inl z)⟩
  · subst he
    obtain ⟨tt, hp, hq⟩ := hbody cdv A fs t H vs Q E (hr.deeper _) h
    have hnl : t.heap.NoLimit := e0.mod.nolimit.keeps fun b o z => (e0.bs b o z).1
    refine ⟨hnl.keeps inc.toInCall.keep, codeAny_func (wpAny_mono (hp.run [] t1 _ _ _ (inv_start S hr.rm.hd e0 (hl _ _ _ _ h) rv inc) hq) (fun fl t2 z => ?_) fun _ _ z => z)⟩
    cases fl with
    | ret u =>
      obtain ⟨v, _, H2, J, r2, q2⟩ := z
      exact ⟨v, H2, J.os, J.bare, J.base, J.hok, r2, q2⟩
    | next =>
      obtain ⟨_, H2, J, q2⟩ := z
      exact ⟨.non, H2, J.os, J.bare, J.base, J.hok, rfl, q2⟩
    | brk => exact z.elim fun _ z => z.elim fun _ z => z.2.elim
    | cont => exact z.elim fun _ z => z.elim fun _ z => z.2.elim
end
section
variable {X : Cx} {CX : CXT} {k : Nat} {f : Addr} {sp : Sp} {E : XK} {x : Str} {e : Expr} {es : List Expr} {t : TA} {p pos : Pos}
theorem call_fnG {pins : List (Addr × Obj)} {σ : L2.St} {H : Hp} {s : Shared} {Q : VK} {us : List Value} {vs : List V} (F : FnG X.prog X.w X.K X.mg X.base CX k f sp) (hr : RmG k X.A) (hx : Passes CX X E) (I : Inv X pins σ H s) (rv : Vals vs us) (h : sp vs H Q E) :
    wpAny (model X.prog X.w) X.A (call (.ref f) us) (EP X pins σ Q) X.xe s :=
  wpAny_call (codeAny_mono (F X.A X.stack s H us vs Q E hr I.env0 rv h) fun r s2 z => match r, z with
    | .error y, z => hx _ _ _ _ y s2 I z
    | .ok (.ret u), z => I.after z
    | .ok .next, z => z.elim
    | .ok .brk, z => z.elim
    | .ok .cont, z => z.elim)
theorem pe_fnG (F : FnG X.prog X.w X.K X.mg X.base CX k f sp) (hr : RmG k X.A) (hg : Gl X x) (hm : X.mg x = some (.ref f)) (hk : PySem.W.keepIn X.K (.ref f) = true) (hx : Passes CX X E) (ha : PA X (e :: es) t)
    (hdb : (x == ("__debug__" : Str)) = false := by decide) (he : starEach (e :: es) X.env = (false, eval e X.env) :: starEach es X.env := by rfl)
    (hpl : (backTo pos (starEach es X.env)).any (·.1) = false := by rfl) : PE X (.Call (.Name x p) (e :: es) [] pos) (tFn sp E t) := ⟨fun pins s σ H Q I h =>
  wpAny_Call_Name_kw (ld_glob I hg hm (PySem.W.callWith_K (h₀ := X.base) I.ok.mod.kin hk
    (thn (ha.run pos pins s σ H _ I h) fun us s1 ⟨vs, H1, I1, r, q⟩ => ⟨I1.kIn, call_fnG F hr hx I1 r q⟩) he hpl) hdb)⟩
/-! ### repr -/
def rReprG (K : PySem.W.Frag) : List V → Hp → VK → Prop := fun xs H Q => ∃ x d, xs = [x] ∧ Dp K H x d ∧ d.showable = true ∧ d.hasDict = false ∧ d.depth ≤ 16 ∧ d.shown.length ≤ sizeLine ∧ Q (.str d.shown) H
theorem call_reprG (hr : RmG k X.A) : CallR X (.builtin "repr") (rReprG X.K) := by
  intro pins s σ H xs us Q I r h
  obtain ⟨x, d, rfl, hd, h1, h2, h3, h4, q⟩ := h
  obtain ⟨u, rfl, ru⟩ := vals1 r
  obtain ⟨as, hR⟩ := Dp.reads I d x u hd ru
  have hu := hr.rm.units
  cases hR with
  | none => exact PySem.P.repr_of_none ⟨.str _, H, I.tok _, ⟨_, rfl⟩, q⟩
  | bool b => exact PySem.P.repr_of_bool ⟨.str _, H, I.tok _, ⟨_, rfl⟩, q⟩
  | int i t => exact PySem.P.repr_of_int (of_decide_eq_true h1) ⟨.str _, H, I.tok _, ⟨_, rfl⟩, q⟩
  | str y t => exact PySem.P.repr_of_str ⟨.str _, H, I.tok _, ⟨_, rfl⟩, q⟩ h4
  | list a1 a2 a3 a4 => exact repr_of_reads' (.list a1 a2 a3 a4) h1 (fun z => by rw [h2] at z; cases z) hr.gd (by omega) (fun _ _ z => z) (fun h' u tk hk => ⟨.str _, H, I.kept hk, ⟨_, rfl⟩, q⟩) h4
  | tuple a1 a2 a3 a4 => exact repr_of_reads' (.tuple a1 a2 a3 a4) h1 (fun z => by rw [h2] at z; cases z) hr.gd (by omega) (fun _ _ z => z) (fun h' u tk hk => ⟨.str _, H, I.kept hk, ⟨_, rfl⟩, q⟩) h4
  | dict => simp [PyData.hasDict] at h2
end
/-! ### the law's end -/
section
variable {P : Program} {w : World} {K : PySem.W.Frag} {mg mb : Str → Option Value}
theorem entry {s : Shared} {a : Addr} {vs : List Value} {ns : List Int} (KX : K.In s.heap) (hns : s.heap.Ns mainGlobals mg) (hb : s.heap.Ns builtinsNs mb) (hbb : ∀ x : Str, x ≠ "__name__" → mb x = bootBuiltins x) (hlim : s.heap.NoLimit) (hg : s.gens = #[])
    (ha : s.heap.get? a = some { cls := .type "list", data := .seq vs.toArray }) (hi : IntsAre vs ns) (hl : ns.length ≤ sizeLine) :
    ∃ (H : Hp) (base : Heap), K.In base ∧ base.Ns mainGlobals mg ∧ Env0 P w K mg base callerA [] s H ∧ Only H ∧ SqL K H a (ns.map V.int) := by
  have rv := vals_ints hi
  have hlv := hi.length
  have key : ∀ H : Hp, (∀ b, H b ≠ none → b = a) → (H a ≠ none → K.lookup a = none) → HOk P w H s.heap → K.In (hidT s.heap H) ∧ (hidT s.heap H).Ns mainGlobals mg ∧ Env0 P w K mg (hidT s.heap H) callerA [] s H := by
    intro H h1 h2 hok
    have keepD : ∀ {b m}, s.heap.Ns b m → (hidT s.heap H).Ns b m := by
      rintro b m ⟨o, es, ep, z, d, r⟩
      refine ⟨o, es, ep, hidT_get z ?_, d, r⟩
      apply Classical.byContradiction
      intro n
      obtain rfl := h1 b n
      rw [ha] at z
      cases z
      exact nomatch d
    have kin : K.In (hidT s.heap H) := by
      intro b o z
      refine hidT_get (KX b o z) ?_
      apply Classical.byContradiction
      intro n
      obtain rfl := h1 b n
      rw [h2 n] at z
      cases z
    obtain ⟨mc, l1, l2⟩ := hlim
    exact ⟨kin, keepD hns, rfl, ⟨kin, keepD hns, ⟨mb, keepD hb, hbb⟩, ⟨mc, keepD l1, l2⟩⟩, fun b o z => of_hidT z, Nat.le_of_eq (hidT_size _ _), trivial, fun b z => (nomatch z), hok, .of_eq hg⟩
  cases hk : K.lookup a with
  | some o =>
    have z := KX a o hk
    rw [ha] at z
    obtain rfl := (Option.some.inj z).symm
    obtain ⟨k1, k2, k3⟩ := key (fun _ => none) (fun b n => (n rfl).elim) (fun n => (n rfl).elim) fun b u n => nomatch (show (none : Option HO) = some u from n)
    exact ⟨_, _, k1, k2, k3, fun _ => .inl rfl, .inr ⟨_, vs.toArray, _, hk, rfl, rfl, rfl, by rw [List.size_toArray, hlv]; exact hl, by simpa using rv⟩⟩
  | none =>
    have n1 : ∀ b, (if b = a then some (HO.frz { cls := .type "list", data := .seq vs.toArray } (.lst (ns.map V.int))) else none) ≠ none → b = a := fun b n => Classical.byContradiction fun m => n (if_neg m)
    obtain ⟨k1, k2, k3⟩ := key (fun b => if b = a then some (.frz { cls := .type "list", data := .seq vs.toArray } (.lst (ns.map V.int))) else none) n1 (fun _ => hk) fun b u n => by
      have e : b = a := Classical.byContradiction fun m => by
        have n' := (if_neg m).symm.trans n
        cases n'
      subst e
      have m := (if_pos rfl).symm.trans n
      cases m
      exact ⟨ha, by rw [List.length_map]; exact hl, vs, _, rv, ha⟩
    refine ⟨_, _, k1, k2, k3, fun b => ?_, .inl (.inr ⟨_, if_pos rfl⟩)⟩
    by_cases m : b = a
    · exact .inr ⟨_, _, if_pos m⟩
    · exact .inl (if_neg m)
end
end Tw
/-! Tw: an own error's __init__ that begins with super().__init__(..) -/
namespace Tw
open PySem PySem.Spec PyProof.Rows L2 PySem.W PySem.Calls NdefX
structure SupF (K : Frag) (P : Program) (C cc cda : Addr) : Prop where
  par : OexC K C
  opq : nsIn K cStatics "thirdparty.any" = some none
  sup : ks_superIn K C C "__init__" = some (some (.builtin "ValueError.__init__"))
  sub : subIn K (.ref C) (.type "ValueError") = some true
  own : mroIn K C (.ref C) = some true
  cell : ∃ cl cld csl, K.lookup cc = some ⟨cl, cld, .cell (some (.ref C)), csl⟩
  code : ∃ ccl cdd vs ccs file tf, K.lookup cda = some ⟨ccl, cdd, .fields vs, ccs⟩ ∧ vs[2]? = some (.str file tf) ∧ ((P.main.file : PySem.Str) == file) = true
  top : (P.main.scope.names.lookup ("super" : PySem.Str)).isSome = false
abbrev erF (name qual : PySem.Str) (params : Arguments) (body : List Stmt) (scope : Scope) (cc cda : Addr) : NF := ⟨name, qual, params, body, scope, [("__class__", cc)], cda⟩
theorem call_mw {prog : Program} {w : World} {A : Around} {E : Value → Shared → Prop} {h : Heap} {g : Array GenState} {d : PySem.Drawn} {t : Nat} {os : OsState} {nm q : PySem.Str} {C N : Addr} {bs bm : List Value} {hd : Bool} {sn : List PySem.Str} {sub : List Value} {ab : Bool} {col : Option Bool} {dd : Option Addr}
    {k0 k1 k2 k3 k5 : Option Value} {u x t0 : Addr} {vs : List Value} {Q : Value → Shared → Prop}
    (hC : h.get? C = some (excClassObj nm q C N bs bm hd sn sub ab col dd k0 k1 k2 k3 k5 "ValueError.__new__")) (hx : h.get? x = some (excObj C t0 none .none)) (hu : h.get? u = some (kxs_mw "ValueError.__init__" x)) (hz : vs.length ≤ sizeLine)
    (hq : ∀ h' t1, (∀ b o, b ≠ x → h.get? b = some o → h'.get? b = some o) → h'.get? x = some (excObj C t1 none .none) → Q .none ⟨h', g, d, t, os⟩) :
    wpAny (model prog w) A (call (.ref u) vs) Q E ⟨h, g, d, t, os⟩ := by
  refine wpAny_call (codeAny_of_tree ?_)
  show wpAny _ A.in1 (callAny (.ref u) ⟨vs, []⟩) _ _ _
  simp only [callAny]
  refine wpAny_bind (wpAny_load hu ?_)
  have em : (Value.type "method-wrapper" == Value.type "method" || Value.type "method-wrapper" == Value.type "builtin_function_or_method" || Value.type "method-wrapper" == Value.type "method-wrapper") = true := by decide
  simp only [kxs_mw, em, if_true]
  refine KFB.if_so (by decide) ?_
  refine wpAny_bind (check_bound_init PySem.F.excBase_ValueError.toExcCallFacts hC hx rfl ?_)
  exact wpAny_bind (wpAny_pure (wpAny_pure ⟨plainId_quiet PySem.F.excBase_ValueError.init.plain _, codeAny_builtin PySem.F.excBase_ValueError.initEntry (exc_init_tree (cls := .ref C) (t0 := t0) (dv := none) (c2 := .none) (c3 := .none) (b4 := .bool false) hx hz fun h' k e _ => hq h' _ k e)⟩))
abbrev suB (text : PySem.Str) (j : Nat) (p0 p1 p2 p3 p4 pc : Pos) (rest : List Stmt) : List Stmt := .Expr (.Call (.Attribute (.Call (.Name "super" p0) [] [] p1) "__init__" p2) [.Constant (.str text) j pc] [] p3) p4 :: rest
section
variable {CX : CXT} {P : Program} {w : World} {K : Frag} {mg : PySem.Str → Option Value} {base : Heap} {N ps : List PySem.Str} {k : Nat} {C fI cc cda : Addr} {name qual : PySem.Str} {params : Arguments} {scope : Scope} {rest : List Stmt} {text : PySem.Str} {p0 p1 p2 p3 p4 pc : Pos} {j : Nat}
  {dV kV doc pm ct oc : Value} {an od : Option Addr} {osl : Array (Option Value)} {ar : Arg} {sp : Sp}
theorem ok_er (T : SupF K P C cc cda)
    (lk : K.lookup fI = some ⟨oc, od, .func (fnX name qual params (suB text j p0 p1 p2 p3 p4 pc rest) scope [("__class__", cc)] dV kV doc pm an (.ref cda) ct), osl⟩)
    (hcd : codeIn K (.ref cda) qual = true) (S : NScope N ps ["__class__"] scope) (hpar : (params.posonlyargs ++ params.args).head? = some ar) (hps : ps.head? = some ar.arg)
    (hks : scope.names.lookup ("super" : PySem.Str) = some .globalImplicit) (hms : mg "super" = none)
    (hi : ∀ L, interactive (envF (erF name qual params (suB text j p0 p1 p2 p3 p4 pc rest) scope cc cda) fI L) = false)
    (hsw : ∀ L, swapsWith (.Call (.Attribute (.Call (.Name "super" p0) [] [] p1) "__init__" p2) [.Constant (.str text) j pc] [] p3) none p4.line (envF (erF name qual params (suB text j p0 p1 p2 p3 p4 pc rest) scope cc cda) fI L) = pure false)
    (hev : ∀ L, ∃ pl : Sem Bool, eval (.Call (.Attribute (.Call (.Name "super" p0) [] [] p1) "__init__" p2) [.Constant (.str text) j pc] [] p3) (envF (erF name qual params (suB text j p0 p1 p2 p3 p4 pc rest) scope cc cda) fI L) = (do
      let ov ← attributeBase (.Call (.Name "super" p0) [] [] p1) "__init__" (envF (erF name qual params (suB text j p0 p1 p2 p3 p4 pc rest) scope cc cda) fI L) (eval (.Call (.Name "super" p0) [] [] p1) (envF (erF name qual params (suB text j p0 p1 p2 p3 p4 pc rest) scope cc cda) fI L))
      standAt p2.atName
      let (f, first) ← holding [ov] (getMethod ov "__init__" pl)
      callWith p3 f first (backTo p3 (starEach [.Constant (.str text) j pc] (envF (erF name qual params (suB text j p0 p1 p2 p3 p4 pc rest) scope cc cda) fI L))) []))
    (len : ∀ vs H Q E, sp vs H Q E → vs.length = ps.length)
    (hbody : ∀ (A : Around) (outer : List Env) (s : Shared) (H : Hp) (vs : List V) (Q : VK) (E : XK), Room k (A.deeper (envF (erF name qual params (suB text j p0 p1 p2 p3 p4 pc rest) scope cc cda) fI s.heap.objs.size)) → sp vs H Q E →
      ∃ t, PSs (ncx CX P w K mg base N (erF name qual params (suB text j p0 p1 p2 p3 p4 pc rest) scope cc cda) fI A outer s H E) rest t ∧ ∃ x ws, vs = .ref x :: ws ∧ H x = some (exo x C none) ∧ t { nx := fun _ H' => Q .non H', rt := Q } (startF N vs [none]) H) :
    FnOk P w K mg base CX (k + 1) fI (fnX name qual params (suB text j p0 p1 p2 p3 p4 pc rest) scope [("__class__", cc)] dV kV doc pm an (.ref cda) ct) ps sp := by
  refine ⟨len, fun A outer s H args us vs Q E hr e0 hb r hsp => ?_⟩
  obtain ⟨cl, cld, csl, hcell⟩ := T.cell
  obtain ⟨ccl, cdd, vv, ccs, file, tf, hcode, hvs, hfile⟩ := T.code
  have up0 : ∀ b o, base.get? b = some o → s.heap.get? b = some o := fun b o z => (e0.bs b o z).1
  have KX : K.In s.heap := e0.mod.kin.keeps up0
  have hl := len _ _ _ _ hsp
  have lim : s.heap.NoLimit := e0.mod.nolimit.keeps up0
  have CA : CellsAt (erF name qual params (suB text j p0 p1 p2 p3 p4 pc rest) scope cc cda).cl ["__class__"] [none] s.heap H := by
    have key : ∀ {y c}, List.lookup y [(("__class__" : PySem.Str), cc)] = some c → c = cc := fun {y c} z => by
      have q1 := PySem.mem_of_lookup z
      simp only [List.mem_singleton, Prod.mk.injEq] at q1
      exact q1.2
    refine ⟨rfl, fun y c z => ?_, fun y y' c z z' => ?_, fun i y hi => ?_⟩
    · obtain rfl := key z
      exact ⟨(e0.bs _ _ (e0.mod.kin _ _ hcell)).2, some (.ref C), ⟨_, KX _ _ hcell, rfl⟩⟩
    · have q1 := mem_of_lookup z
      have q2 := mem_of_lookup z'
      simp only [List.mem_singleton, Prod.mk.injEq] at q1 q2
      rw [q1.1, q2.1]
    · cases i with
      | zero =>
        obtain rfl : "__class__" = y := Option.some.inj hi
        exact ⟨cc, rfl, fun v z => by cases z⟩
      | succ i => cases hi
  refine codeAny_call_function hr.depth (KX _ _ lk) rfl S.co S.gen rfl (codeRec_of KX hcd) (hb _ _ _ _ ?_)
  refine wpAny_newFunctionEnv S.nocell (fun ⟨n, _⟩ hy => S.par n (List.of_mem_zip hy).1) (fun h₁ hns hsb => ⟨lim.fresh _ hsb, ?_⟩) S.kind
  have kp : ∀ b o, s.heap.get? b = some o → h₁.get? b = some o := fun b o z => hsb.extBut b o (Nat.ne_of_lt (Heap.lt_size z)) (Heap.get?_push_of_some _ z)
  have lf := KX _ _ lk
  have ki := kp _ _ lf
  have K1 : K.In h₁ := KX.keeps kp
  have I0 := inv_startN (CX := CX) (E := E) (N := N) (F := erF name qual params (suB text j p0 p1 p2 p3 p4 pc rest) scope cc cda) (f := fI) (tk := s.toks + (ps.zip us).length) S hr.hd e0 hl r CA hns kp
  obtain ⟨t, ht, x, ws, rfl, hx, hq⟩ := hbody A outer s H vs Q E (hr.deeper _) hsp
  obtain ⟨nm, qn, NN, bs, bm, sn, sub, ab, col, dd, k0, k1, k2, k3, k5, hC, hbm⟩ := T.par.cls
  have hclC : clsIn K C = some { name := nm, bases := bs, mro := .ref C :: bm, ns := NN, qualname := qn, hasDict := true, slotNames := sn, subclasses := sub, abstract := ab, collection := col, hasDel := false } := by unfold clsIn; rw [hC] <;> rfl
  obtain ⟨t1, hxo⟩ := exo_at e0.hok hx
  show codeAny _ _ (.func (suB text j p0 p1 p2 p3 p4 pc rest) (envF (erF name qual params (suB text j p0 p1 p2 p3 p4 pc rest) scope cc cda) fI s.heap.objs.size)) _ _
  refine ks_codeAny_funcAt (ks_wpAt_execs_cons ?_)
  obtain ⟨pl, hpl⟩ := hev s.heap.objs.size
  have hii := hi s.heap.objs.size
  have hss := hsw s.heap.objs.size
  obtain ⟨env, henv⟩ : ∃ env, envF (erF name qual params (suB text j p0 p1 p2 p3 p4 pc rest) scope cc cda) fI s.heap.objs.size = env := ⟨_, rfl⟩
  rw [henv] at hpl hii hss
  rw [henv]
  refine ks_wpAt_Expr_any (ks_wpAt_MethodCall (he := hpl) ?_) hii hss
  subst henv
  refine ks_wpAt_super_base (f := fI) (cc := cda) hks (S.frk _ (List.mem_singleton.mpr rfl)) rfl rfl ki rfl hpar rfl (K1 _ _ hcode) rfl hvs hfile T.top ?_
  obtain ⟨mb, hb1, hb2⟩ := e0.mod.blt
  have up1 : ∀ b o, base.get? b = some o → h₁.get? b = some o := fun b o z => kp _ _ (up0 _ _ z)
  refine ks_loadName_global S.kind hks (loadGlobal_builtin (e0.mod.glob.keeps up1) hms (hb1.keeps up1) ((hb2 "super" (by decide)).trans (by decide +kernel)) ⟨rfl, ?_⟩)
  refine wpAny_loadName_free S.kind (S.frk _ (List.mem_singleton.mpr rfl)) rfl ⟨_, K1 _ _ hcell, rfl⟩ ?_
  cases r with
  | @cons _ u0 _ us' ra rw' =>
  obtain rfl : u0 = Value.ref x := ra
  have hpn : ps.Nodup := by
    have q := S.nd.sublist (List.take_sublist (ps.length + 1) N)
    have e := S.pre
    rw [show (["__class__"] : List PySem.Str).length = 1 from rfl] at e
    rw [e] at q
    exact (List.nodup_append.mp q).1
  have hp0 : ps[0]? = some ar.arg := by rw [← List.head?_eq_getElem?]; exact hps
  refine wpAny_loadName_local S.kind (S.par _ (List.mem_of_getElem? hp0)) hns (zip_look (i := 0) hpn hp0 rfl) ?_
  have hx1 := kp _ _ hxo
  have hC1 := K1 _ _ hC
  refine ks_wpAny_isType_cls hC1 rfl ⟨rfl, ?_⟩
  have hxC : x ≠ C := fun z => by rw [z, hC1] at hx1; cases hx1
  refine ks_wpAny_call_super hC1 rfl hx1 rfl (fun c z => by cases z) (looks_mroIn K1 T.own) fun h2 e2 k2' => ?_
  have K2 : K.In h2 := K1.keeps k2'
  have hx2 := k2' _ _ hx1
  have hsup := T.sup
  unfold ks_superIn at hsup
  rw [hclC] at hsup
  refine kxs_getMethod kxs_ValueError e2 (looks_opaque K2 T.opq) ((looks_clsIn K2 hclC).andThen .now) rfl K2 hsup (InstAt.type (C := C) (od := none) ⟨hx2, rfl, rfl, trivial⟩ |>.andThen (looks_subIn K2 T.sub)) hxC rfl ?_
  have k3' : ∀ b o, h₁.get? b = some o → (h2.push (kxs_mw "ValueError.__init__" x)).get? b = some o := fun b o z => Heap.get?_push_of_some _ (k2' _ _ z)
  have hu3 : (h2.push (kxs_mw "ValueError.__init__" x)).get? h2.objs.size = some (kxs_mw "ValueError.__init__" x) := Heap.get?_push_at rfl rfl
  generalize h2.push (kxs_mw "ValueError.__init__" x) = h3 at *
  have hx3 := k3' _ _ hx1
  have hC3 := k3' _ _ hC1
  refine kxs_callWith (i := "ValueError.__init__") (x := x) rfl (evalArgs_plain (spliced_more (Calls.Constant_str (spliced_none ⟨hu3, ?_⟩))))
  refine call_mw hC3 hx3 hu3 (by show (1 : Nat) ≤ 16777216; decide) fun h4 t4 k4 hx4 => ?_
  have I4 := (I0.kept (t' := s.toks) (h' := h3) k3').write (t' := s.toks) (x := x) (e := x) (o := exo x C none) (h' := h4) (by rw [hx]; exact True.intro) (.inl rfl) k4 ⟨_, hx4⟩ (exo_ok hx4)
  have eu : upd H x (exo x C none) = H := by
    funext b
    by_cases hb : b = x
    · rw [hb, upd_same, hx]
    · rw [upd_ne hb]
  rw [eu] at I4
  refine wpAt_of_wpAny ?_
  have I5 := I4.tok (s.toks + (ps.zip (Value.ref x :: us')).length + 1 + 1)
  refine wpAny_mono (ht.run [] _ (startF N (.ref x :: ws) [none]) H _ I5 hq) (fun fl s' hs => ?_) fun e s' hs => hs
  have fin : ∀ {σ' : L2.St} {H' : Hp} {v : V} {u : Value}, Inv (ncx CX P w K mg base N (erF name qual params (suB text j p0 p1 p2 p3 p4 pc rest) scope cc cda) fI A outer s H E) [] σ' H' s' → L2.RelV v u → Q v H' → CE outer P w H s Q u s' :=
    fun {σ' H' v u} J rv q => ⟨v, H', J.os, J.bare, J.base, J.hok, rv, q⟩
  cases fl with
  | ret u =>
    obtain ⟨v, σ', H', J, rv, q⟩ := hs
    exact fin J rv q
  | next =>
    obtain ⟨σ', H', J, q⟩ := hs
    exact fin (v := V.non) (u := Value.none) J rfl q
  | brk =>
    obtain ⟨_, _, _, q⟩ := hs
    exact False.elim q
  | cont =>
    obtain ⟨_, _, _, q⟩ := hs
    exact False.elim q
end
end Tw
/-! Tw: own errors over ValueError: facts by Bools, the raise of one -/
namespace Tw
open PySem PySem.Spec PyProof.Rows L2 He PySem.W PySem.Calls NdefX
/-! ### what the written part says -/
def clsE (K : Frag) (C : Addr) : Bool := match K.lookup C with
  | some ⟨.type t, _, .cls cd, sl⟩ => decide (t = "type") && (match cd.mro, sl.toList with
    | .ref D :: bm, [_, _, _, _, some (.builtin n), _] => decide (D = C) && (decide (n = "ValueError.__new__") && (!cd.hasDel && (cd.hasDict && HandSPX.refsVE bm)))
    | _, _ => false)
  | _ => false
theorem clsE_ok {K : Frag} {C : Addr} (h : clsE K C = true) : ∃ nm q N bs bm sn sub ab col dd k0 k1 k2 k3 k5, K.lookup C = some (excClassObj nm q C N bs bm true sn sub ab col dd k0 k1 k2 k3 k5 "ValueError.__new__") ∧ HandSPX.refsVE bm = true := by
  unfold clsE at h
  split at h
  · rename_i t dd cd sl ho
    obtain ⟨h1, h2⟩ := ba h
    obtain rfl := of_decide_eq_true h1
    split at h2
    · rename_i D bm k0 k1 k2 k3 n k5 hm hs
      obtain ⟨a1, h2⟩ := ba h2
      obtain ⟨a2, h2⟩ := ba h2
      obtain ⟨a3, h2⟩ := ba h2
      obtain ⟨a4, a5⟩ := ba h2
      obtain rfl := of_decide_eq_true a1
      obtain rfl := of_decide_eq_true a2
      obtain ⟨nm, bs, mro, ns, qn, hd, sn, sub, ab, col, del⟩ := cd
      dsimp only at hm a3 a4
      subst hm
      subst a4
      have hdel : del = false := by simpa using a3
      subst hdel
      have hsl : sl = #[k0, k1, k2, k3, some (.builtin "ValueError.__new__"), k5] := Array.toList_inj.mp hs
      subst hsl
      exact ⟨nm, qn, ns, bs, bm, sn, sub, ab, col, dd, k0, k1, k2, k3, k5, ho, a5⟩
    · cases h2
  · cases h
def celA (K : Frag) (f : Addr) : Addr := match K.lookup f with
  | some ⟨_, _, .func fd, _⟩ => (match fd.closure with
    | [(_, c)] => c
    | _ => 0)
  | _ => 0
def codA (K : Frag) (f : Addr) : Addr := match K.lookup f with
  | some ⟨_, _, .func fd, _⟩ => (match fd.code with
    | .ref c => c
    | _ => 0)
  | _ => 0
def tbA (K : Frag) (f : Addr) : Addr := match K.lookup (codA K f) with
  | some ⟨_, _, .fields vs, _⟩ => (match (vs[11]? : Option Value) with
    | some (.ref p) => p
    | _ => 0)
  | _ => 0
def fnC (K : Frag) (a : Addr) : FnW := match K.lookup a with
  | some ⟨_, _, .func fd, _⟩ => some (fd.name, fd.qualname, fd.params, fd.body, fd.scope, fd.globals, [], fd.builtins)
  | _ => none
def fnE (K : Frag) (C f : Addr) (file qual : PySem.Str) : Bool := keepIn K (.ref f) && match K.lookup f with
  | some ⟨_, _, .func fd, _⟩ => decide (fd.closure = [(("__class__" : PySem.Str), celA K f)]) && (decide (fd.code = .ref (codA K f)) && (codeIn K fd.code qual && (decide (fd.defaults = .none) && ((match K.lookup (celA K f) with
    | some ⟨_, _, .cell (some (.ref D)), _⟩ => decide (D = C)
    | _ => false) && (match K.lookup (codA K f) with
    | some ⟨_, _, .fields vs, _⟩ => (match (vs[2]? : Option Value) with
      | some (.str y _) => file == y
      | _ => false)
    | _ => false)))))
  | _ => false
theorem fnE_ok {K : Frag} {C f : Addr} {file qual name : PySem.Str} {params : Arguments} {body : List Stmt} {scope : Scope} (h : fnE K C f file qual = true) (e : fnC K f = some (name, qual, params, .stmts body, scope, mainGlobals, [], builtinsNs)) :
    (∃ (oc : Value) (od : Option Addr) (kV doc pm ct : Value) (an : Option Addr) (osl : Array (Option Value)), K.lookup f = some ⟨oc, od, .func (fnX name qual params body scope [(("__class__" : PySem.Str), celA K f)] .none kV doc pm an (.ref (codA K f)) ct), osl⟩) ∧
    codeIn K (.ref (codA K f)) qual = true ∧ keepIn K (.ref f) = true ∧ (∃ cl cld csl, K.lookup (celA K f) = some ⟨cl, cld, .cell (some (.ref C)), csl⟩) ∧
    ∃ ccl cdd vs ccs y tf, K.lookup (codA K f) = some ⟨ccl, cdd, .fields vs, ccs⟩ ∧ vs[2]? = some (.str y tf) ∧ (file == y) = true := by
  obtain ⟨kp, h⟩ := ba h
  unfold fnC at e
  cases q : K.lookup f with
  | none =>
    rw [q] at h
    cases h
  | some o =>
    obtain ⟨oc, od, dt, osl⟩ := o
    rw [q] at h e
    cases dt with
    | func fd =>
      dsimp only at h e
      obtain ⟨h1, h⟩ := ba h
      obtain ⟨h2, h⟩ := ba h
      obtain ⟨h3, h⟩ := ba h
      obtain ⟨h4, h⟩ := ba h
      obtain ⟨h5, h6⟩ := ba h
      replace h1 := of_decide_eq_true h1
      replace h2 := of_decide_eq_true h2
      have g4 : fd.defaults = .none := by simpa using h4
      simp only [Option.some.injEq, Prod.mk.injEq] at e
      obtain ⟨e1, e2, e3, e4, e5, e6, _, e8⟩ := e
      obtain ⟨n1, n2, n3, n4, n5, n6, n7, n8, n9, n10, n11, n12, n13, n14, n15⟩ := fd
      dsimp only at h1 h2 h3 g4 e1 e2 e3 e4 e5 e6 e8
      clear h4
      subst e1 e2 e3 e4 e5 e6 e8 g4
      rw [h2] at h3
      rw [h1, h2]
      refine ⟨⟨oc, od, _, _, _, _, _, osl, rfl⟩, h3, kp, ?_, ?_⟩
      · split at h5
        · rename_i a b D d hl
          obtain rfl := of_decide_eq_true h5
          exact ⟨_, _, _, hl⟩
        · cases h5
      · split at h6
        · rename_i a b vs d hl
          split at h6
          · rename_i y tf hv
            exact ⟨_, _, _, _, _, _, hl, hv, h6⟩
          · cases h6
        · cases h6
    | _ => cases h
def bErr (x fld file qual : PySem.Str) (K : Frag) : Bool := clsE K (ga K x) && (fnE K (ga K x) (ma K (ga K x) "__init__") file qual && (eqO (findIn K (.ref (ga K x)) "__init__") (some (some (.ref (ma K (ga K x) "__init__")))) &&
  (eqO (findIn K (.ref (ga K x)) "__setattr__") (some (some (.builtin "object.__setattr__"))) && (eqO (findIn K (.ref (ga K x)) fld) (some none) && (eqO (nsIn K cStatics "thirdparty.any") (some none) &&
  (eqO (ks_superIn K (ga K x) (ga K x) "__init__") (some (some (.builtin "ValueError.__init__"))) && (decide (subIn K (.ref (ga K x)) (.type "ValueError") = some true) && (decide (mroIn K (ga K x) (.ref (ga K x)) = some true) &&
  (decide (subIn K (.ref (ga K x)) (.type "BaseException") = some true) && (decide (typeIn K (.ref (ga K x)) = some (.type "type")) && (keepIn K (.ref (ga K x)) && (decide (typeIn K (.ref (ma K (ga K x) "__init__")) = some (.type "function")) &&
  (eqO (findIn K (.ref (ga K x)) "__getattribute__") (some (some (.builtin "BaseException.__getattribute__"))) && (eqO (findIn K (.ref (ga K x)) "__getattr__") (some none) && hasDictIn K (ga K x)))))))))))))))
structure ErrF (K : Frag) (x fld file qual : PySem.Str) : Prop where
  oex : OexC K (ga K x)
  fn : fnE K (ga K x) (ma K (ga K x) "__init__") file qual = true
  ini : findIn K (.ref (ga K x)) "__init__" = some (some (.ref (ma K (ga K x) "__init__")))
  no : findIn K (.ref (ga K x)) fld = some none
  opq : nsIn K cStatics "thirdparty.any" = some none
  sup : ks_superIn K (ga K x) (ga K x) "__init__" = some (some (.builtin "ValueError.__init__"))
  sub : subIn K (.ref (ga K x)) (.type "ValueError") = some true
  own : mroIn K (ga K x) (.ref (ga K x)) = some true
  tfn : typeIn K (.ref (ma K (ga K x) "__init__")) = some (.type "function")
  xf : XfC K (ga K x)
theorem err_ok {x fld file qual : PySem.Str} {K : Frag} (h : bErr x fld file qual K = true) : ErrF K x fld file qual := by
  obtain ⟨h1, h⟩ := ba h
  obtain ⟨h2, h⟩ := ba h
  obtain ⟨h3, h⟩ := ba h
  obtain ⟨h4, h⟩ := ba h
  obtain ⟨h5, h⟩ := ba h
  obtain ⟨h6, h⟩ := ba h
  obtain ⟨h7, h⟩ := ba h
  obtain ⟨h8, h⟩ := ba h
  obtain ⟨h9, h⟩ := ba h
  obtain ⟨h10, h⟩ := ba h
  obtain ⟨h11, h⟩ := ba h
  obtain ⟨h12, h⟩ := ba h
  obtain ⟨h13, h⟩ := ba h
  obtain ⟨h14, h⟩ := ba h
  obtain ⟨h15, h16⟩ := ba h
  exact ⟨⟨clsE_ok h1, eqO_ok h4, of_decide_eq_true h10, of_decide_eq_true h11, h12⟩, h2, eqO_ok h3, eqO_ok h5, eqO_ok h6, eqO_ok h7, of_decide_eq_true h8, of_decide_eq_true h9, of_decide_eq_true h13,
    ⟨eqO_ok h14, eqO_ok h15, of_decide_eq_true h10, h16⟩⟩
end Tw
/-! Tw: the Hook of a law with own errors and with tables of codes -/
namespace Tw
open PySem PySem.Spec PyProof.Rows L2 He PySem.W
structure ErA where
  cls : PySem.Str
  name : PySem.Str
  qual : PySem.Str
  params : Arguments
  body : List Stmt
  scope : Scope
def ErA.val (d : ErA) : FnW := some (d.name, d.qual, d.params, .stmts d.body, d.scope, mainGlobals, [], builtinsNs)
def ErA.got (K : Frag) (d : ErA) : FnW := fnC K (ma K (ga K d.cls) "__init__")
abbrev tab0 : Obj := { cls := .none, data := .fields #[] }
abbrev AlE : Type := AlM × (List FnW × List (Option Obj))
def obsE (as : List Addr) (fa : List Fa) (fb : List (Frag → Bool)) (fn : List He5.DefA) (er : List ErA) (ts : List He.Tab) (tb : List Addr) (g : Addr → Option Obj) : AlE := (obsM fa fb fn ts (frG g as), er.map (ErA.got (frG g as)), tb.map g)
def valE (fn : List He5.DefA) (er : List ErA) (ts : List He.Tab) (tb : List Addr) (w : World) : AlE := (valM fn ts w, er.map ErA.val, tb.map fun _ => some tab0)
structure SaysE (fa : List Fa) (fb : List (Frag → Bool)) (fn : List He5.DefA) (er : List ErA) (ts : List He.Tab) (w : World) (K : Frag) : Prop where
  m : SaysM fa fb fn ts w K
  e : ∀ d ∈ er, d.got K = d.val
def hookE (as : List Addr) (fa : List Fa) (fb : List (Frag → Bool)) (fn : List He5.DefA) (er : List ErA) (ts : List He.Tab) (tb : List Addr) : Hook where
  α := AlE
  obs := fun s => obsE as fa fb fn er ts tb s.heap.get?
  val := fun w => valE fn er ts tb w
  says := fun w h => ∃ K : Frag, K.In h ∧ SaysE fa fb fn er ts w K ∧ ∀ p ∈ tb, h.get? p = some tab0
  of := fun w s e => by
    have h1 : obsM fa fb fn ts (frG s.heap.get? as) = valM fn ts w := congrArg (fun z : AlE => z.1) e
    have h2 : er.map (ErA.got (frG s.heap.get? as)) = er.map ErA.val := congrArg (fun z : AlE => z.2.1) e
    have h3 : tb.map s.heap.get? = tb.map fun _ => some tab0 := congrArg (fun z : AlE => z.2.2) e
    exact ⟨_, frG_in, ⟨h1, fun d hd => List.map_inj_left.mp h2 d hd⟩, fun p hp => List.map_inj_left.mp h3 p hp⟩
  keeps := fun _ _ _ ⟨K, hK, c, t⟩ k => ⟨K, Frag.In.keeps hK k, c, fun p hp => k _ _ (t p hp)⟩
theorem obsE_eq {as : List Addr} {fa : List Fa} {fb : List (Frag → Bool)} {fn : List He5.DefA} {er : List ErA} {ts : List He.Tab} {tb : List Addr} {g : Addr → Option Obj} {s : Shared} (h : ∀ a, g a = s.heap.get? a) : obsE as fa fb fn er ts tb g = (hookE as fa fb fn er ts tb).obs s := by
  rw [show g = s.heap.get? from funext h]
  rfl
section
variable {fa : List Fa} {fb : List (Frag → Bool)} {fn : List He5.DefA} {er : List ErA} {ts : List He.Tab} {w : World} {K : Frag}
theorem SaysE.err (c : SaysE fa fb fn er ts w K) (i : Nat) {d : ErA} (h : er[i]? = some d := by rfl) : fnC K (ma K (ga K d.cls) "__init__") = d.val := c.e d (List.mem_of_getElem? h)
end
def bOff (p : Addr) (K : Frag) : Bool := (K.lookup p).isNone
theorem off_ok {p : Addr} {K : Frag} (h : bOff p K = true) : K.lookup p = none := by
  unfold bOff at h
  cases e : K.lookup p with
  | none => rfl
  | some o => rw [e] at h; cases h
end Tw
/-! Tw: what the head tells of the own errors' kinds -/
namespace Tw
open PySem PySem.Spec PyProof.Rows L2 He
open PySem.W (Frag)
section
variable {K : Frag} {w : World}
def erN : List PySem.Str := ["InvalidNumber", "InvalidText", "InvalidName", "InvalidLevels", "InvalidSwitch", "InvalidMode", "InvalidMenu", "InvalidPlan", "InvalidCommand", "TooLong", "TooMany", "NothingToUndo"]
def kdN : List PySem.Str := ["number", "text", "name", "levels", "switch", "mode", "menu", "plan", "command", "long", "many", "undo"]
structure KnF (K : Frag) (D : Addr) (i : Nat) : Prop where
  exc : ExcC K D
  lt : i < 12
  is : ∀ (j : Nat) (x : PySem.Str), erN[j]? = some x → PySem.W.kitOne K (.ref D) (.ref (ga K x)) = some (decide (j = i))
  wh : PySem.W.kitOne K (.ref D) (.ref (ga K "WheelError")) = some (decide (i < 9))
def bExc (K : Frag) (D : Addr) : Bool := decide (PySem.W.findIn K (.ref D) "__getattribute__" = some (some (.builtin "BaseException.__getattribute__"))) && (decide (PySem.W.findIn K (.ref D) "__getattr__" = some none) && (decide (PySem.W.subIn K (.ref D) (.type "BaseException") = some true) && (PySem.W.hasDictIn K D &&
  (decide (PySem.W.findIn K (.ref D) "__class__" = some (some (.builtin "object.__class__"))) && (decide (PySem.W.specialIn K (.builtin "object.__class__") "__get__" = some (some (.builtin "getset_descriptor.__get__"))) && (decide (PySem.W.takesIn K (.builtin "object.__class__") = some true) && decide (PySem.W.mroIn K D (.type "object") = some true)))))))
theorem exc_ok {K : Frag} {D : Addr} (h : bExc K D = true) : ExcC K D := by
  unfold bExc at h
  simp only [Bool.and_eq_true, decide_eq_true_eq] at h
  obtain ⟨h1, h2, h3, h4, h5, h6, h7, h8⟩ := h
  exact ⟨h1, h2, h3, h4, h5, h6, h7, h8⟩
def bKn (x : PySem.Str) (i : Nat) (K : Frag) : Bool := bExc K (ga K x) && (decide (i < 9) && (((List.range 12).all fun j => decide (PySem.W.kitOne K (.ref (ga K x)) (.ref (ga K (erN.getD j ""))) = some (decide (j = i)))) &&
  (decide (PySem.W.kitOne K (.ref (ga K x)) (.ref (ga K "WheelError")) = some true) && decide (PySem.W.exmOne K (.ref (ga K x)) (.ref (ga K "WheelError")) = some true))))
theorem kn_ok {K : Frag} {x : PySem.Str} {i : Nat} (h : bKn x i K = true) : KnF K (ga K x) i ∧ PySem.W.exmOne K (.ref (ga K x)) (.ref (ga K "WheelError")) = some true := by
  unfold bKn at h
  simp only [Bool.and_eq_true, decide_eq_true_eq] at h
  obtain ⟨h1, h2, h3, h4, h5⟩ := h
  refine ⟨⟨exc_ok h1, by omega, fun j y hy => ?_, by rw [decide_eq_true h2]; exact h4⟩, h5⟩
  have hj : j < 12 := (List.getElem?_eq_some_iff.mp hy).1
  have z := List.all_eq_true.mp h3 j (List.mem_range.mpr hj)
  rw [List.getD_eq_getElem?_getD, hy] at z
  exact of_decide_eq_true z
end
def exmN (K : PySem.W.Frag) (D : Addr) (x : PySem.Str) (b : Bool) : Prop := PySem.W.exmOne K (.ref D) (.ref (ga K x)) = some b
end Tw
/-! Tw: the law's end where the law makes lambdas (tables of codes) and no repr is under way -/
namespace Tw
open PySem PySem.Spec PyProof.Rows L2 LamX
section
variable {P : Program} {w : World} {K : PySem.W.Frag} {mg mb : Str → Option Value}
def BuiltM (mg : Str → Option Value) (h : Heap) : Prop := ∃ (bm : Addr) (ob : Obj), mg "__builtins__" = some (.ref bm) ∧ bm ≠ builtinsNs ∧ h.get? bm = some ob ∧ ob.cls = .type "module" ∧ ob.dict = some builtinsNs ∧ ob.data = .plain
theorem entryT {s : Shared} {a : Addr} {vs : List Value} {ns : List Int} {cs : List (Addr × Addr)} (KX : K.In s.heap) (hns : s.heap.Ns mainGlobals mg) (hb : s.heap.Ns builtinsNs mb) (hbb : ∀ x : Str, x ≠ "__name__" → mb x = bootBuiltins x) (hlim : s.heap.NoLimit) (hg : s.gens = #[])
    (hT : ∀ p ∈ cs, s.heap.get? p.2 = some { cls := .none, data := .fields #[] }) (nT : ∀ p ∈ cs, K.lookup p.2 = none) (hC : ∀ p ∈ cs, PySem.W.codeHdIn K p.1 p.2 = true) (hbm : BuiltM mg s.heap)
    (ha : s.heap.get? a = some { cls := .type "list", data := .seq vs.toArray }) (hi : IntsAre vs ns) (hl : ns.length ≤ sizeLine) :
    ∃ (H : Hp) (base : Heap), K.In base ∧ base.Ns mainGlobals mg ∧ Env0 P w K mg base callerA [] s H ∧ (∀ b, H b = none ∨ (∃ p ∈ cs, p.2 = b) ∨ ∃ o xs, H b = some (.frz o (.lst xs))) ∧ SqL K H a (ns.map V.int) ∧ (∀ p ∈ cs, H p.2 = some (.tbl #[])) ∧ ∀ p ∈ cs, TabB base mg p.1 p.2 := by
  classical
  have rv := vals_ints hi
  have hlv := hi.length
  have aT : ∀ p ∈ cs, p.2 ≠ a := fun p hp z => by
    have q := hT p hp
    rw [z, ha] at q
    cases q
  have key : ∀ H : Hp, (∀ b, H b ≠ none → b = a ∨ ∃ p ∈ cs, p.2 = b) → (H a ≠ none → K.lookup a = none) → HOk P w H s.heap → K.In (hidT s.heap H) ∧ (hidT s.heap H).Ns mainGlobals mg ∧ Env0 P w K mg (hidT s.heap H) callerA [] s H ∧ ∀ p ∈ cs, TabB (hidT s.heap H) mg p.1 p.2 := by
    intro H h1 h2 hok
    have free : ∀ {b : Addr} {o : Obj}, s.heap.get? b = some o → (∀ x n, o.data ≠ .seq x n) → o.data ≠ .fields #[] → H b = none := fun {b o} z d1 d2 => Classical.byContradiction fun n => by
      rcases h1 b n with rfl | ⟨p, hp, rfl⟩
      · rw [ha] at z
        cases z
        exact d1 _ _ rfl
      · rw [hT p hp] at z
        cases z
        exact d2 rfl
    have keepD : ∀ {b m}, s.heap.Ns b m → (hidT s.heap H).Ns b m := by
      rintro b m ⟨o, es, ep, z, d, r⟩
      exact ⟨o, es, ep, hidT_get z (free z (fun x n y => by rw [d] at y; cases y) fun y => by rw [d] at y; cases y), d, r⟩
    have kin : K.In (hidT s.heap H) := fun b o z => hidT_get (KX b o z) (Classical.byContradiction fun n => by
      rcases h1 b n with rfl | ⟨p, hp, rfl⟩
      · rw [h2 n] at z
        cases z
      · rw [nT p hp] at z
        cases z)
    obtain ⟨mc, l1, l2⟩ := hlim
    refine ⟨kin, keepD hns, ⟨rfl, ⟨kin, keepD hns, ⟨mb, keepD hb, hbb⟩, ⟨mc, keepD l1, l2⟩⟩, fun b o z => of_hidT z, Nat.le_of_eq (hidT_size _ _), trivial, fun b z => (nomatch z), hok, .of_eq hg⟩, fun p hp => ?_⟩
    have nM : mainGlobals ≠ p.2 := fun z => by
      obtain ⟨o, es, ep, y, d, _⟩ := hns
      rw [z, hT p hp] at y
      cases y
      cases d
    obtain ⟨bm, ob, b1, b2, b3, b4, b5, b6⟩ := hbm
    have nG : bm ≠ mainGlobals := fun z => by
      obtain ⟨o, es, ep, y, d, _⟩ := hns
      rw [z, y] at b3
      cases b3
      rw [d] at b6
      cases b6
    have nP : bm ≠ p.2 := fun z => by
      rw [z, hT p hp] at b3
      cases b3
      cases b6
    exact NdefX.tabB_of_K kin (hC p hp) ⟨bm, ob, b1, b2, nG, nP, hidT_get b3 (free b3 (fun x n y => by rw [b6] at y; cases y) fun y => by rw [b6] at y; cases y), b4, b5, b6⟩ nM
  obtain ⟨L, hL⟩ : ∃ L : Option HO, L = if K.lookup a = none then some (HO.frz { cls := .type "list", data := .seq vs.toArray } (.lst (ns.map V.int))) else none := ⟨_, rfl⟩
  obtain ⟨H, hH⟩ : ∃ H : Hp, H = fun b => if b = a then L else if ∃ p ∈ cs, p.2 = b then some (.tbl #[]) else none := ⟨_, rfl⟩
  have e1 : H a = L := by rw [hH]; exact if_pos rfl
  have e2 : ∀ p ∈ cs, H p.2 = some (.tbl #[]) := fun p hp => by rw [hH]; exact (if_neg (aT p hp)).trans (if_pos ⟨p, hp, rfl⟩)
  have e3 : ∀ b, b ≠ a → (¬ ∃ p ∈ cs, p.2 = b) → H b = none := fun b n1 n2 => by rw [hH]; exact (if_neg n1).trans (if_neg n2)
  have h1 : ∀ b, H b ≠ none → b = a ∨ ∃ p ∈ cs, p.2 = b := fun b n => Classical.byContradiction fun m => n (e3 b (fun z => m (.inl z)) fun z => m (.inr z))
  have hok : HOk P w H s.heap := fun b u z => by
    have nb : H b ≠ none := fun y => by rw [y] at z; cases z
    rcases h1 b nb with rfl | ⟨p, hp, rfl⟩
    · rw [e1, hL] at z
      split at z
      · cases z
        exact ⟨ha, by rw [List.length_map]; exact hl, vs, _, rv, ha⟩
      · cases z
    · rw [e2 p hp] at z
      cases z
      exact hT p hp
  have hKa : H a ≠ none → K.lookup a = none := fun n => Classical.byContradiction fun m => n (by rw [e1, hL]; exact if_neg m)
  obtain ⟨k1, k2, k3, k4⟩ := key H h1 hKa hok
  refine ⟨H, _, k1, k2, k3, fun b => ?_, ?_, e2, k4⟩
  · by_cases hba : b = a
    · rw [hba, e1, hL]
      split
      · exact .inr (.inr ⟨_, _, rfl⟩)
      · exact .inl rfl
    · by_cases hbT : ∃ p ∈ cs, p.2 = b
      · exact .inr (.inl hbT)
      · exact .inl (e3 b hba hbT)
  · cases hk : K.lookup a with
    | none => exact .inl (.inr ⟨{ cls := .type "list", data := .seq vs.toArray }, by rw [e1, hL, if_pos hk]⟩)
    | some o =>
      have z := KX a o hk
      rw [ha] at z
      obtain rfl := (Option.some.inj z).symm
      exact .inr ⟨_, vs.toArray, _, hk, rfl, rfl, rfl, by rw [List.size_toArray, hlv]; exact hl, by simpa using rv⟩
theorem lawGT {s : Shared} {CX : CXT} {k : Nat} {fa a : Addr} {sp : Sp} {vs : List Value} {ns : List Int} {cs : List (Addr × Addr)} (KX : K.In s.heap) (hns : s.heap.Ns mainGlobals mg) (hb : s.heap.Ns builtinsNs mb) (hbb : ∀ x : Str, x ≠ "__name__" → mb x = bootBuiltins x) (hlim : s.heap.NoLimit) (hg : s.gens = #[])
    (hT : ∀ p ∈ cs, s.heap.get? p.2 = some { cls := .none, data := .fields #[] }) (nT : ∀ p ∈ cs, K.lookup p.2 = none) (hC : ∀ p ∈ cs, PySem.W.codeHdIn K p.1 p.2 = true) (hbm : BuiltM mg s.heap)
    (ha : s.heap.get? a = some { cls := .type "list", data := .seq vs.toArray }) (hi : IntsAre vs ns) (hl : ns.length ≤ sizeLine) (hr : RmG k callerA) (F : ∀ base : Heap, K.In base → base.Ns mainGlobals mg → (∀ p ∈ cs, TabB base mg p.1 p.2) → FnG P w K mg base CX k fa sp)
    (hsp : ∀ H : Hp, SqL K H a (ns.map V.int) → (∀ p ∈ cs, H p.2 = some (.tbl #[])) → sp [.ref a] H (fun v _ => v = .bl true) fun _ _ _ => False) (hCX : ∀ H e s', CX [] H s (fun _ _ _ => False) e s' → False) :
    codeAny (model P w) callerA (.call (.ref fa) ⟨[.ref a], []⟩) (fun r s' => r = .ok (.ret (.bool true)) ∧ OldK s.heap s'.heap ∧ s'.os = s.os ∧ AllBare s'.gens) s := by
  classical
  obtain ⟨H, base, k1, k2, e0, ho, hs, htb, hTB⟩ := entryT (P := P) (w := w) KX hns hb hbb hlim hg hT nT hC hbm ha hi hl
  refine codeAny_mono (F base k1 k2 hTB callerA [] s H [.ref a] [.ref a] _ _ hr e0 (.cons rfl .nil) (hsp H hs htb)) fun r s2 z => ?_
  match r, z with
  | .error y, z => exact (hCX H y s2 z).elim
  | .ok .next, z => exact z.elim
  | .ok .brk, z => exact z.elim
  | .ok .cont, z => exact z.elim
  | .ok (.ret u), ⟨v, H2, os, bare, un, hok, rv, q⟩ =>
    obtain rfl : v = .bl true := q
    obtain rfl : u = Value.bool true := rv
    have kept : ∀ b o, (¬ ∃ p ∈ cs, p.2 = b) → s.heap.get? b = some o → s2.heap.get? b = some o := fun b o nb z => by
      rcases ho b with n | n | ⟨o1, xs, n⟩
      · exact un.keep b o z n (fun m => nomatch m) (fun m => nomatch m)
      · exact absurd n nb
      · obtain ⟨g1, _⟩ := e0.hok b _ n
        obtain ⟨g2, _⟩ := hok b _ (un.frzs b o1 _ n)
        rw [z] at g1
        cases g1
        exact g2
    have more : ∀ p ∈ cs, ∃ ps : Array Value, s2.heap.get? p.2 = some { cls := .none, data := .fields ps } := fun p hp => by
      obtain ⟨ps, z⟩ := un.tbls p.2 #[] (htb p hp)
      exact ⟨_, hok p.2 _ z⟩
    refine ⟨rfl, ⟨fun b o z => ?_, fun b o z => ?_⟩, os, bare⟩
    · by_cases hbT : ∃ p ∈ cs, p.2 = b
      · obtain ⟨p, hp, rfl⟩ := hbT
        obtain ⟨ps, hm⟩ := more p hp
        rw [hT p hp] at z
        cases z
        exact .inr (.inl ⟨((PySem.W.codeHd_of_K KX (hC p hp)).tab (hT p hp)).isCodeTable, rfl, #[], ps, rfl, by rw [Array.empty_append]; exact hm⟩)
      · exact .inl (kept b o hbT z)
    · by_cases hbT : ∃ p ∈ cs, p.2 = b
      · obtain ⟨p, hp, rfl⟩ := hbT
        obtain ⟨ps, hm⟩ := more p hp
        exact ⟨_, hm⟩
      · exact ⟨o, kept b o hbT z⟩
theorem walk_ofGT {l : PySem.W.OpenLaw} {n k : Nat} {q : Program} {loose : List Str} {XP : (Str → Option Value) → Heap → Prop} {YP : World → Heap → Prop} {d : DefRec} {CX : CXT} (hn : l.most = some n) (hn2 : n ≤ sizeLine) (hdf : d.params.defaults = []) (hr : RmG k callerA)
    (F : ∀ w mg fa h, YP w h → h.Ns mainGlobals mg → mg d.name = some (.ref fa) → ∃ (K : PySem.W.Frag) (cs : List (Addr × Addr)) (sp : Sp), K.In h ∧ (∀ p ∈ cs, h.get? p.2 = some { cls := .none, data := .fields #[] }) ∧ (∀ p ∈ cs, K.lookup p.2 = none) ∧ (∀ p ∈ cs, PySem.W.codeHdIn K p.1 p.2 = true) ∧
      (∀ (H : Hp) (a : Addr) (ns : List Int), ns.length ≤ n → SqL K H a (ns.map V.int) → (∀ p ∈ cs, H p.2 = some (.tbl #[])) → sp [.ref a] H (fun v _ => v = .bl true) fun _ _ _ => False) ∧
      ∀ base : Heap, K.In base → base.Ns mainGlobals mg → (∀ p ∈ cs, TabB base mg p.1 p.2) → FnG l.prog w K mg base CX k fa sp) (hCX : ∀ H s e s', CX [] H s (fun _ _ _ => False) e s' → False) :
    PySem.W.WalkO q loose XP YP l.row.toRowW d [] (fun f vs => PySem.call f vs) := by
  refine Att.attach_call hn hdf fun w s0 s1 mg mb fa o pm cd doc a vs ns G Y ho hd hcd hmg hobj hints hlen hg => ?_
  obtain ⟨K, cs, sp, KX, hT, nT, hC, h1, h2⟩ := F w mg fa _ Y G.T.g hmg
  exact lawGT KX G.T.g G.T.b G.T.builtins G.T.nolimit hg hT nT hC G.T.bmain hobj hints (Nat.le_trans hlen hn2) hr h2 (fun H z y => h1 H a ns hlen z y) fun H e s' => hCX H s1 e s'
end
end Tw
/-! Hd: the head of this law: facts by names, one run -/
namespace Hd
open PySem PySem.Spec PyProof.Rows L2 He PySem.W Tw
def top (i : Nat) : Stmt := PySem.Challenge.pw_timerwheels_k02_shares_in_order_and_as_t.main.body.getD i (.Pass ⟨0, 0, 0, 0⟩)
abbrev file : PySem.Str := PySem.Challenge.pw_timerwheels_k02_shares_in_order_and_as_t.main.file
abbrev s_is_integer : Stmt := top 18
def dd_is_integer : He5.DefA := { at_ := fun K => ga K "is_integer", name := "is_integer", qual := "is_integer", params := defArgs s_is_integer, body := defBody s_is_integer, scope := defScope s_is_integer, dfl := [], kwd := [] }
abbrev s_common_divisor : Stmt := top 19
def dd_common_divisor : He5.DefA := { at_ := fun K => ga K "common_divisor", name := "common_divisor", qual := "common_divisor", params := defArgs s_common_divisor, body := defBody s_common_divisor, scope := defScope s_common_divisor, dfl := [], kwd := [] }
abbrev s_is_number : Stmt := top 21
def dd_is_number : He5.DefA := { at_ := fun K => ga K "is_number", name := "is_number", qual := "is_number", params := defArgs s_is_number, body := defBody s_is_number, scope := defScope s_is_number, dfl := [], kwd := [] }
abbrev s_share_of : Stmt := top 22
def dd_share_of : He5.DefA := { at_ := fun K => ga K "share_of", name := "share_of", qual := "share_of", params := defArgs s_share_of, body := defBody s_share_of, scope := defScope s_share_of, dfl := [], kwd := [] }
abbrev s_is_written : Stmt := top 23
def dd_is_written : He5.DefA := { at_ := fun K => ga K "is_written", name := "is_written", qual := "is_written", params := defArgs s_is_written, body := defBody s_is_written, scope := defScope s_is_written, dfl := [], kwd := [] }
abbrev s__law_begin : Stmt := top 25
def dd__law_begin : He5.DefA := { at_ := fun K => ga K "_law_begin", name := "_law_begin", qual := "_law_begin", params := defArgs s__law_begin, body := defBody s__law_begin, scope := defScope s__law_begin, dfl := [], kwd := [] }
abbrev s__law_mixed : Stmt := top 26
def dd__law_mixed : He5.DefA := { at_ := fun K => ga K "_law_mixed", name := "_law_mixed", qual := "_law_mixed", params := defArgs s__law_mixed, body := defBody s__law_mixed, scope := defScope s__law_mixed, dfl := [], kwd := [] }
abbrev s__law_draw : Stmt := top 27
def dd__law_draw : He5.DefA := { at_ := fun K => ga K "_law_draw", name := "_law_draw", qual := "_law_draw", params := defArgs s__law_draw, body := defBody s__law_draw, scope := defScope s__law_draw, dfl := [], kwd := [] }
abbrev s__law_kind : Stmt := top 28
def dd__law_kind : He5.DefA := { at_ := fun K => ga K "_law_kind", name := "_law_kind", qual := "_law_kind", params := defArgs s__law_kind, body := defBody s__law_kind, scope := defScope s__law_kind, dfl := [], kwd := [] }
abbrev s__law_caught : Stmt := top 29
def dd__law_caught : He5.DefA := { at_ := fun K => ga K "_law_caught", name := "_law_caught", qual := "_law_caught", params := defArgs s__law_caught, body := defBody s__law_caught, scope := defScope s__law_caught, dfl := [], kwd := [] }
abbrev s__law_integer : Stmt := top 30
def dd__law_integer : He5.DefA := { at_ := fun K => ga K "_law_integer", name := "_law_integer", qual := "_law_integer", params := defArgs s__law_integer, body := defBody s__law_integer, scope := defScope s__law_integer, dfl := [], kwd := [] }
abbrev s__law_same_order : Stmt := top 31
def dd__law_same_order : He5.DefA := { at_ := fun K => ga K "_law_same_order", name := "_law_same_order", qual := "_law_same_order", params := defArgs s__law_same_order, body := defBody s__law_same_order, scope := defScope s__law_same_order, dfl := [], kwd := [] }
abbrev s__law_common : Stmt := top 32
def dd__law_common : He5.DefA := { at_ := fun K => ga K "_law_common", name := "_law_common", qual := "_law_common", params := defArgs s__law_common, body := defBody s__law_common, scope := defScope s__law_common, dfl := [], kwd := [] }
abbrev s__law_whole : Stmt := top 33
def dd__law_whole : He5.DefA := { at_ := fun K => ga K "_law_whole", name := "_law_whole", qual := "_law_whole", params := defArgs s__law_whole, body := defBody s__law_whole, scope := defScope s__law_whole, dfl := [], kwd := [] }
abbrev s__law_read : Stmt := top 34
def dd__law_read : He5.DefA := { at_ := fun K => ga K "_law_read", name := "_law_read", qual := "_law_read", params := defArgs s__law_read, body := defBody s__law_read, scope := defScope s__law_read, dfl := [], kwd := [] }
abbrev s__law_text_right : Stmt := top 35
def dd__law_text_right : He5.DefA := { at_ := fun K => ga K "_law_text_right", name := "_law_text_right", qual := "_law_text_right", params := defArgs s__law_text_right, body := defBody s__law_text_right, scope := defScope s__law_text_right, dfl := [], kwd := [] }
abbrev s__law_bent : Stmt := top 36
def dd__law_bent : He5.DefA := { at_ := fun K => ga K "_law_bent", name := "_law_bent", qual := "_law_bent", params := defArgs s__law_bent, body := defBody s__law_bent, scope := defScope s__law_bent, dfl := [], kwd := [] }
abbrev s_law : Stmt := top 37
def dd_law : He5.DefA := { at_ := fun K => ga K "law", name := "law", qual := "law", params := defArgs s_law, body := defBody s_law, scope := defScope s_law, dfl := [], kwd := [] }
abbrev s_InvalidNumber___init__ : Stmt := inClass (top 3) 0
def ee_InvalidNumber : ErA := { cls := "InvalidNumber", name := "__init__", qual := "InvalidNumber.__init__", params := defArgs s_InvalidNumber___init__, body := defBody s_InvalidNumber___init__, scope := defScope s_InvalidNumber___init__ }
abbrev s_InvalidText___init__ : Stmt := inClass (top 4) 0
def ee_InvalidText : ErA := { cls := "InvalidText", name := "__init__", qual := "InvalidText.__init__", params := defArgs s_InvalidText___init__, body := defBody s_InvalidText___init__, scope := defScope s_InvalidText___init__ }
abbrev s_Share___init__ : Stmt := inClass (top 20) 0
def dd_Share___init__ : He5.DefA := { at_ := fun K => ma K (ga K "Share") "__init__", name := "__init__", qual := "Share.__init__", params := defArgs s_Share___init__, body := defBody s_Share___init__, scope := defScope s_Share___init__, dfl := [.int 1], kwd := [] }
abbrev s_Share_top : Stmt := inClass (top 20) 1
def dd_Share_top : He5.DefA := { at_ := fun K => pa K (ga K "Share") "top", name := "top", qual := "Share.top", params := defArgs s_Share_top, body := defBody s_Share_top, scope := defScope s_Share_top, dfl := [], kwd := [] }
abbrev s_Share_bottom : Stmt := inClass (top 20) 2
def dd_Share_bottom : He5.DefA := { at_ := fun K => pa K (ga K "Share") "bottom", name := "bottom", qual := "Share.bottom", params := defArgs s_Share_bottom, body := defBody s_Share_bottom, scope := defScope s_Share_bottom, dfl := [], kwd := [] }
abbrev s_Share_text : Stmt := inClass (top 20) 3
def dd_Share_text : He5.DefA := { at_ := fun K => pa K (ga K "Share") "text", name := "text", qual := "Share.text", params := defArgs s_Share_text, body := defBody s_Share_text, scope := defScope s_Share_text, dfl := [], kwd := [] }
abbrev s_Share_from_text : Stmt := inClass (top 20) 4
def dd_Share_from_text : He5.DefA := { at_ := fun K => He5.wf K (ga K "Share") "classmethod" "from_text", name := "from_text", qual := "Share.from_text", params := defArgs s_Share_from_text, body := defBody s_Share_from_text, scope := defScope s_Share_from_text, dfl := [], kwd := [] }
abbrev s_Share___bool__ : Stmt := inClass (top 20) 14
def dd_Share___bool__ : He5.DefA := { at_ := fun K => ma K (ga K "Share") "__bool__", name := "__bool__", qual := "Share.__bool__", params := defArgs s_Share___bool__, body := defBody s_Share___bool__, scope := defScope s_Share___bool__, dfl := [], kwd := [] }
abbrev s_Share___eq__ : Stmt := inClass (top 20) 15
def dd_Share___eq__ : He5.DefA := { at_ := fun K => ma K (ga K "Share") "__eq__", name := "__eq__", qual := "Share.__eq__", params := defArgs s_Share___eq__, body := defBody s_Share___eq__, scope := defScope s_Share___eq__, dfl := [], kwd := [] }
abbrev s_Share___ne__ : Stmt := inClass (top 20) 16
def dd_Share___ne__ : He5.DefA := { at_ := fun K => ma K (ga K "Share") "__ne__", name := "__ne__", qual := "Share.__ne__", params := defArgs s_Share___ne__, body := defBody s_Share___ne__, scope := defScope s_Share___ne__, dfl := [], kwd := [] }
abbrev s_Share___lt__ : Stmt := inClass (top 20) 17
def dd_Share___lt__ : He5.DefA := { at_ := fun K => ma K (ga K "Share") "__lt__", name := "__lt__", qual := "Share.__lt__", params := defArgs s_Share___lt__, body := defBody s_Share___lt__, scope := defScope s_Share___lt__, dfl := [], kwd := [] }
abbrev s_Share___le__ : Stmt := inClass (top 20) 18
def dd_Share___le__ : He5.DefA := { at_ := fun K => ma K (ga K "Share") "__le__", name := "__le__", qual := "Share.__le__", params := defArgs s_Share___le__, body := defBody s_Share___le__, scope := defScope s_Share___le__, dfl := [], kwd := [] }
abbrev s_Share___gt__ : Stmt := inClass (top 20) 19
def dd_Share___gt__ : He5.DefA := { at_ := fun K => ma K (ga K "Share") "__gt__", name := "__gt__", qual := "Share.__gt__", params := defArgs s_Share___gt__, body := defBody s_Share___gt__, scope := defScope s_Share___gt__, dfl := [], kwd := [] }
abbrev s_Share___ge__ : Stmt := inClass (top 20) 20
def dd_Share___ge__ : He5.DefA := { at_ := fun K => ma K (ga K "Share") "__ge__", name := "__ge__", qual := "Share.__ge__", params := defArgs s_Share___ge__, body := defBody s_Share___ge__, scope := defScope s_Share___ge__, dfl := [], kwd := [] }
def fa_0 : List (He.Fa) := [.free "len",
  .free "isinstance",
  .free "zip",
  .free "range",
  .free "enumerate",
  .free "list",
  .free "tuple",
  .free "int",
  .free "str",
  .free "abs",
  .free "max",
  .free "min",
  .free "all",
  .free "repr",
  .free "sorted",
  .free "bool",
  .free "set",
  .free "sum",
  .free "any",
  .free "type",
  .free "super",
  .int "MOST_DIGITS" 200,
  .str "DIGITS" "0123456789",
  .glo "is_integer",
  .glo "common_divisor",
  .glo "is_number",
  .glo "share_of",
  .glo "is_written",
  .glo "_law_begin",
  .glo "_law_mixed"]
def fa_1 : List (He.Fa) := [.glo "_law_draw",
  .glo "_law_kind",
  .glo "_law_caught",
  .glo "_law_integer",
  .glo "_law_same_order",
  .glo "_law_common",
  .glo "_law_whole",
  .glo "_law_read",
  .glo "_law_text_right",
  .glo "_law_bent",
  .glo "law",
  .glo "WheelError",
  .glo "InvalidNumber",
  .glo "InvalidText",
  .glo "InvalidName",
  .glo "InvalidLevels",
  .glo "InvalidSwitch",
  .glo "InvalidMode",
  .glo "InvalidMenu",
  .glo "InvalidPlan",
  .glo "InvalidCommand",
  .glo "TooLong",
  .glo "TooMany",
  .glo "NothingToUndo",
  .glo "Share",
  .cls "Share",
  .mkr "Share",
  .noat "Share" "kept_bottom",
  .noat "Share" "kept_top",
  .meth "Share" "__bool__"]
def fa_2 : List (He.Fa) := [.meth "Share" "__eq__",
  .meth "Share" "__ne__",
  .meth "Share" "__lt__",
  .meth "Share" "__le__",
  .meth "Share" "__gt__",
  .meth "Share" "__ge__"]
def fa : List (He.Fa) := fa_0 ++ fa_1 ++ fa_2
def fb_0 : List (Frag → Bool) := [bErr "InvalidNumber" "value" file "InvalidNumber.__init__",
  bKn "InvalidNumber" 0,
  bErr "InvalidText" "value" file "InvalidText.__init__",
  bKn "InvalidText" 1,
  fun K => codeHdIn K (codA K (ga K "_law_text_right")) (tbA K (ga K "_law_text_right")),
  fun K => codeHdIn K (codA K (ga K "law")) (tbA K (ga K "law")),
  bOff 545,
  fun K => decide (tbA K (ga K "_law_text_right") = 545),
  bOff 559,
  fun K => decide (tbA K (ga K "law") = 559),
  bIsi "Share",
  bKit (fun K => .ref (ga K "Share")) (fun K => .ref (ga K "Share")) true,
  bKit (fun K => .ref (ga K "Share")) (fun _ => .type "int") false,
  bKit (fun _ => .type "int") (fun K => .ref (ga K "Share")) false,
  fun K => decide (PySem.W.kitAny K (.type "int") [.type "int", .ref (ga K "Share")] = some true),
  fun K => PySem.W.notFirst K (ga K "Share") (.type "int"),
  fun K => ((["NoneType", "bool", "str", "tuple", "list", "dict"] : List String).all fun t => decide (PySem.W.kitOne K (.type t) (.ref (ga K "Share")) = some false)),
  fun K => decide (PySem.W.kitAny K (.ref (ga K "Share")) [.type "int", .ref (ga K "Share")] = some true),
  fun K => decide (PySem.W.exmOne K (.ref (ga K "InvalidNumber")) (.ref (ga K "InvalidNumber")) = some true),
  fun K => PySem.W.selfFirst K (ga K "Share"),
  fun K => eqO (findIn K (.type "int") "__add__") (some (some (.builtin "int.__add__"))),
  fun K => eqO (findIn K (.type "int") "__radd__") (some (some (.builtin "int.__radd__"))),
  fun K => eqO (findIn K (.type "int") "__sub__") (some (some (.builtin "int.__sub__"))),
  fun K => eqO (findIn K (.type "int") "__rsub__") (some (some (.builtin "int.__rsub__"))),
  fun K => eqO (findIn K (.type "int") "__mul__") (some (some (.builtin "int.__mul__"))),
  fun K => eqO (findIn K (.type "int") "__rmul__") (some (some (.builtin "int.__rmul__"))),
  fun K => decide (PySem.W.subIn K (.type "int") (.ref (ga K "Share")) = some false),
  fun K => decide (PySem.W.subIn K (.ref (ga K "Share")) (.type "int") = some false),
  fun K => ((["int", "bool", "NoneType", "str", "tuple", "list"] : List String).all fun t => PySem.W.notFirst K (ga K "Share") (.type t)),
  fun K => ((["int", "bool", "NoneType", "str", "tuple", "list"] : List String).all fun t => decide (PySem.W.subIn K (.ref (ga K "Share")) (.type t) = some false))]
def fb_1 : List (Frag → Bool) := [bFn fun K => ma K (ga K "Share") "__init__",
  bProp "Share" "top",
  bProp "Share" "bottom",
  bProp "Share" "text",
  bCm "Share" "from_text",
  bCread "Share",
  bFn fun K => ma K (ga K "Share") "__bool__",
  bFn fun K => ma K (ga K "Share") "__eq__",
  bFn fun K => ma K (ga K "Share") "__ne__",
  bFn fun K => ma K (ga K "Share") "__lt__",
  bFn fun K => ma K (ga K "Share") "__le__",
  bFn fun K => ma K (ga K "Share") "__gt__",
  bFn fun K => ma K (ga K "Share") "__ge__"]
def fb : List (Frag → Bool) := fb_0 ++ fb_1
def fn_0 : List (He5.DefA) := [dd_is_integer,
  dd_common_divisor,
  dd_is_number,
  dd_share_of,
  dd_is_written,
  dd__law_begin,
  dd__law_mixed,
  dd__law_draw,
  dd__law_kind,
  dd__law_caught,
  dd__law_integer,
  dd__law_same_order,
  dd__law_common,
  dd__law_whole,
  dd__law_read,
  dd__law_text_right,
  dd__law_bent,
  dd_law,
  dd_Share___init__,
  dd_Share_top,
  dd_Share_bottom,
  dd_Share_text,
  dd_Share_from_text,
  dd_Share___bool__,
  dd_Share___eq__,
  dd_Share___ne__,
  dd_Share___lt__,
  dd_Share___le__,
  dd_Share___gt__,
  dd_Share___ge__]
def fnA : List (He5.DefA) := fn_0
def fnB : List (He5.DefA) := []
def fn : List (He5.DefA) := fnA ++ fnB
def ts_0 : List (He.Tab) := []
def ts : List (He.Tab) := ts_0
def er_0 : List (ErA) := [ee_InvalidNumber,
  ee_InvalidText]
def er : List (ErA) := er_0
abbrev R : PySem.W.OpenRow := PySem.W.OpenLaw.row PySem.Challenge.rw_timerwheels_k02_shares_in_order_and_as_t
def adr : List Addr := [3, 31, 53, 74, 95, 116, 137, 158, 179, 200, 221, 242, 264, 277, 287, 294, 456, 467, 474, 479, 484, 491, 498, 505, 512, 519, 526, 533, 538, 543, 550, 557, 562, 30, 52, 73, 286, 293, 455, 466, 473, 478, 483, 490, 497, 504, 511, 518, 525, 532, 537, 542, 549, 556, 561, 50, 71, 309, 317, 325, 333, 340, 411, 418, 425, 432, 439, 446, 453, 49, 38, 70, 59, 308, 302, 316, 324, 332, 338, 410, 417, 424, 431, 438, 445, 452, 315, 323, 331, 337, 2]
abbrev hk : PySem.W.Hook := hookE adr fa fb fn er ts [545, 559]
def ob (s : PySem.W.SharedT) : AlE := obsE adr fa fb fn er ts [545, 559] (HandSHeadRun.getT s)
theorem ob_eq (s : PySem.W.SharedT) : ob s = hk.obs s.abs := obsE_eq (HandSHeadRun.getT_eq s)
def loose : List PySem.Str := (["_wall", "__name__", "WheelError", "InvalidNumber", "InvalidText", "InvalidName", "InvalidLevels", "InvalidSwitch", "InvalidMode", "InvalidMenu", "InvalidPlan", "InvalidCommand", "TooLong", "TooMany", "NothingToUndo"] : List PySem.Str) ++ (["MOST_DIGITS", "DIGITS", "is_integer", "common_divisor", "Share", "is_number", "share_of", "is_written", "_law_begin", "_law_mixed", "_law_draw", "_law_kind", "_law_caught", "_law_integer", "_law_same_order"] : List PySem.Str) ++ (["_law_common", "_law_whole", "_law_read", "_law_text_right", "_law_bent"] : List PySem.Str)
theorem run0 (w : World) : HandSHeadRun.RunEq R (PySem.W.view R.prog [37]) hk ob 5507 loose (w.withFollow "special-get-raises" false) := by
  intro os
  kernel_rfl
theorem run1 (w : World) : HandSHeadRun.RunEq R (PySem.W.view R.prog [37]) hk ob 5507 loose (w.withFollow "special-get-raises" true) := by
  intro os
  kernel_rfl
theorem run (w : World) : HandSHeadRun.RunEq R (PySem.W.view R.prog [37]) hk ob 5507 loose w := byRow2 "special-get-raises" (P := fun w => HandSHeadRun.RunEq R (PySem.W.view R.prog [37]) hk ob 5507 loose w) run0 run1 w
structure Tx (K : Frag) (mg : PySem.Str → Option Value) (w : World) : Prop where
  ex : ∃ h : Heap, K.In h ∧ h.Ns mainGlobals mg
  says : SaysM fa fb fn ts w K
  errs : SaysE fa fb fn er ts w K
section
variable {K : Frag} {mg : PySem.Str → Option Value} {w : World}
theorem free_len (T : Tx K mg w) : mg "len" = none := by
  obtain ⟨h, X, G⟩ := T.ex
  exact He.free_ok X G (T.says.fact 0 rfl)
theorem free_isinstance (T : Tx K mg w) : mg "isinstance" = none := by
  obtain ⟨h, X, G⟩ := T.ex
  exact He.free_ok X G (T.says.fact 1 rfl)
theorem free_range (T : Tx K mg w) : mg "range" = none := by
  obtain ⟨h, X, G⟩ := T.ex
  exact He.free_ok X G (T.says.fact 3 rfl)
theorem free_int (T : Tx K mg w) : mg "int" = none := by
  obtain ⟨h, X, G⟩ := T.ex
  exact He.free_ok X G (T.says.fact 7 rfl)
theorem free_str (T : Tx K mg w) : mg "str" = none := by
  obtain ⟨h, X, G⟩ := T.ex
  exact He.free_ok X G (T.says.fact 8 rfl)
theorem free_abs (T : Tx K mg w) : mg "abs" = none := by
  obtain ⟨h, X, G⟩ := T.ex
  exact He.free_ok X G (T.says.fact 9 rfl)
theorem free_all (T : Tx K mg w) : mg "all" = none := by
  obtain ⟨h, X, G⟩ := T.ex
  exact He.free_ok X G (T.says.fact 12 rfl)
theorem free_repr (T : Tx K mg w) : mg "repr" = none := by
  obtain ⟨h, X, G⟩ := T.ex
  exact He.free_ok X G (T.says.fact 13 rfl)
theorem free_bool (T : Tx K mg w) : mg "bool" = none := by
  obtain ⟨h, X, G⟩ := T.ex
  exact He.free_ok X G (T.says.fact 15 rfl)
theorem free_super (T : Tx K mg w) : mg "super" = none := by
  obtain ⟨h, X, G⟩ := T.ex
  exact He.free_ok X G (T.says.fact 20 rfl)
theorem int_MOST_DIGITS (T : Tx K mg w) : ∃ t, mg "MOST_DIGITS" = some (.int 200 t) := by
  obtain ⟨h, X, G⟩ := T.ex
  exact He.int_ok X G (T.says.fact 21 rfl)
theorem str_DIGITS (T : Tx K mg w) : ∃ t, mg "DIGITS" = some (.str "0123456789" t) := by
  obtain ⟨h, X, G⟩ := T.ex
  exact He.str_ok X G (T.says.fact 22 rfl)
theorem glo_is_integer (T : Tx K mg w) : mg "is_integer" = some (.ref (ga K "is_integer")) := by
  obtain ⟨h, X, G⟩ := T.ex
  exact He.glo_ok X G (T.says.fact 23 rfl)
theorem d_is_integer (T : Tx K mg w) : ∃ fd, FunD K "is_integer" "is_integer" (defArgs s_is_integer) (defBody s_is_integer) (defScope s_is_integer) [] [] (ga K "is_integer") fd := T.says.def_ 0 (d := dd_is_integer) rfl
theorem glo_common_divisor (T : Tx K mg w) : mg "common_divisor" = some (.ref (ga K "common_divisor")) := by
  obtain ⟨h, X, G⟩ := T.ex
  exact He.glo_ok X G (T.says.fact 24 rfl)
theorem d_common_divisor (T : Tx K mg w) : ∃ fd, FunD K "common_divisor" "common_divisor" (defArgs s_common_divisor) (defBody s_common_divisor) (defScope s_common_divisor) [] [] (ga K "common_divisor") fd := T.says.def_ 1 (d := dd_common_divisor) rfl
theorem glo_is_number (T : Tx K mg w) : mg "is_number" = some (.ref (ga K "is_number")) := by
  obtain ⟨h, X, G⟩ := T.ex
  exact He.glo_ok X G (T.says.fact 25 rfl)
theorem d_is_number (T : Tx K mg w) : ∃ fd, FunD K "is_number" "is_number" (defArgs s_is_number) (defBody s_is_number) (defScope s_is_number) [] [] (ga K "is_number") fd := T.says.def_ 2 (d := dd_is_number) rfl
theorem glo_share_of (T : Tx K mg w) : mg "share_of" = some (.ref (ga K "share_of")) := by
  obtain ⟨h, X, G⟩ := T.ex
  exact He.glo_ok X G (T.says.fact 26 rfl)
theorem d_share_of (T : Tx K mg w) : ∃ fd, FunD K "share_of" "share_of" (defArgs s_share_of) (defBody s_share_of) (defScope s_share_of) [] [] (ga K "share_of") fd := T.says.def_ 3 (d := dd_share_of) rfl
theorem glo_is_written (T : Tx K mg w) : mg "is_written" = some (.ref (ga K "is_written")) := by
  obtain ⟨h, X, G⟩ := T.ex
  exact He.glo_ok X G (T.says.fact 27 rfl)
theorem d_is_written (T : Tx K mg w) : ∃ fd, FunD K "is_written" "is_written" (defArgs s_is_written) (defBody s_is_written) (defScope s_is_written) [] [] (ga K "is_written") fd := T.says.def_ 4 (d := dd_is_written) rfl
theorem glo__law_begin (T : Tx K mg w) : mg "_law_begin" = some (.ref (ga K "_law_begin")) := by
  obtain ⟨h, X, G⟩ := T.ex
  exact He.glo_ok X G (T.says.fact 28 rfl)
theorem d__law_begin (T : Tx K mg w) : ∃ fd, FunD K "_law_begin" "_law_begin" (defArgs s__law_begin) (defBody s__law_begin) (defScope s__law_begin) [] [] (ga K "_law_begin") fd := T.says.def_ 5 (d := dd__law_begin) rfl
theorem glo__law_mixed (T : Tx K mg w) : mg "_law_mixed" = some (.ref (ga K "_law_mixed")) := by
  obtain ⟨h, X, G⟩ := T.ex
  exact He.glo_ok X G (T.says.fact 29 rfl)
theorem d__law_mixed (T : Tx K mg w) : ∃ fd, FunD K "_law_mixed" "_law_mixed" (defArgs s__law_mixed) (defBody s__law_mixed) (defScope s__law_mixed) [] [] (ga K "_law_mixed") fd := T.says.def_ 6 (d := dd__law_mixed) rfl
theorem glo__law_draw (T : Tx K mg w) : mg "_law_draw" = some (.ref (ga K "_law_draw")) := by
  obtain ⟨h, X, G⟩ := T.ex
  exact He.glo_ok X G (T.says.fact 30 rfl)
theorem d__law_draw (T : Tx K mg w) : ∃ fd, FunD K "_law_draw" "_law_draw" (defArgs s__law_draw) (defBody s__law_draw) (defScope s__law_draw) [] [] (ga K "_law_draw") fd := T.says.def_ 7 (d := dd__law_draw) rfl
theorem glo__law_kind (T : Tx K mg w) : mg "_law_kind" = some (.ref (ga K "_law_kind")) := by
  obtain ⟨h, X, G⟩ := T.ex
  exact He.glo_ok X G (T.says.fact 31 rfl)
theorem d__law_kind (T : Tx K mg w) : ∃ fd, FunD K "_law_kind" "_law_kind" (defArgs s__law_kind) (defBody s__law_kind) (defScope s__law_kind) [] [] (ga K "_law_kind") fd := T.says.def_ 8 (d := dd__law_kind) rfl
theorem glo__law_caught (T : Tx K mg w) : mg "_law_caught" = some (.ref (ga K "_law_caught")) := by
  obtain ⟨h, X, G⟩ := T.ex
  exact He.glo_ok X G (T.says.fact 32 rfl)
theorem d__law_caught (T : Tx K mg w) : ∃ fd, FunD K "_law_caught" "_law_caught" (defArgs s__law_caught) (defBody s__law_caught) (defScope s__law_caught) [] [] (ga K "_law_caught") fd := T.says.def_ 9 (d := dd__law_caught) rfl
theorem glo__law_integer (T : Tx K mg w) : mg "_law_integer" = some (.ref (ga K "_law_integer")) := by
  obtain ⟨h, X, G⟩ := T.ex
  exact He.glo_ok X G (T.says.fact 33 rfl)
theorem d__law_integer (T : Tx K mg w) : ∃ fd, FunD K "_law_integer" "_law_integer" (defArgs s__law_integer) (defBody s__law_integer) (defScope s__law_integer) [] [] (ga K "_law_integer") fd := T.says.def_ 10 (d := dd__law_integer) rfl
theorem glo__law_same_order (T : Tx K mg w) : mg "_law_same_order" = some (.ref (ga K "_law_same_order")) := by
  obtain ⟨h, X, G⟩ := T.ex
  exact He.glo_ok X G (T.says.fact 34 rfl)
theorem d__law_same_order (T : Tx K mg w) : ∃ fd, FunD K "_law_same_order" "_law_same_order" (defArgs s__law_same_order) (defBody s__law_same_order) (defScope s__law_same_order) [] [] (ga K "_law_same_order") fd := T.says.def_ 11 (d := dd__law_same_order) rfl
theorem glo__law_common (T : Tx K mg w) : mg "_law_common" = some (.ref (ga K "_law_common")) := by
  obtain ⟨h, X, G⟩ := T.ex
  exact He.glo_ok X G (T.says.fact 35 rfl)
theorem d__law_common (T : Tx K mg w) : ∃ fd, FunD K "_law_common" "_law_common" (defArgs s__law_common) (defBody s__law_common) (defScope s__law_common) [] [] (ga K "_law_common") fd := T.says.def_ 12 (d := dd__law_common) rfl
theorem glo__law_whole (T : Tx K mg w) : mg "_law_whole" = some (.ref (ga K "_law_whole")) := by
  obtain ⟨h, X, G⟩ := T.ex
  exact He.glo_ok X G (T.says.fact 36 rfl)
theorem d__law_whole (T : Tx K mg w) : ∃ fd, FunD K "_law_whole" "_law_whole" (defArgs s__law_whole) (defBody s__law_whole) (defScope s__law_whole) [] [] (ga K "_law_whole") fd := T.says.def_ 13 (d := dd__law_whole) rfl
theorem glo__law_read (T : Tx K mg w) : mg "_law_read" = some (.ref (ga K "_law_read")) := by
  obtain ⟨h, X, G⟩ := T.ex
  exact He.glo_ok X G (T.says.fact 37 rfl)
theorem d__law_read (T : Tx K mg w) : ∃ fd, FunD K "_law_read" "_law_read" (defArgs s__law_read) (defBody s__law_read) (defScope s__law_read) [] [] (ga K "_law_read") fd := T.says.def_ 14 (d := dd__law_read) rfl
theorem glo__law_text_right (T : Tx K mg w) : mg "_law_text_right" = some (.ref (ga K "_law_text_right")) := by
  obtain ⟨h, X, G⟩ := T.ex
  exact He.glo_ok X G (T.says.fact 38 rfl)
theorem d__law_text_right (T : Tx K mg w) : ∃ fd, FunD K "_law_text_right" "_law_text_right" (defArgs s__law_text_right) (defBody s__law_text_right) (defScope s__law_text_right) [] [] (ga K "_law_text_right") fd := T.says.def_ 15 (d := dd__law_text_right) rfl
theorem glo__law_bent (T : Tx K mg w) : mg "_law_bent" = some (.ref (ga K "_law_bent")) := by
  obtain ⟨h, X, G⟩ := T.ex
  exact He.glo_ok X G (T.says.fact 39 rfl)
theorem d__law_bent (T : Tx K mg w) : ∃ fd, FunD K "_law_bent" "_law_bent" (defArgs s__law_bent) (defBody s__law_bent) (defScope s__law_bent) [] [] (ga K "_law_bent") fd := T.says.def_ 16 (d := dd__law_bent) rfl
theorem glo_law (T : Tx K mg w) : mg "law" = some (.ref (ga K "law")) := by
  obtain ⟨h, X, G⟩ := T.ex
  exact He.glo_ok X G (T.says.fact 40 rfl)
theorem d_law (T : Tx K mg w) : ∃ fd, FunD K "law" "law" (defArgs s_law) (defBody s_law) (defScope s_law) [] [] (ga K "law") fd := T.says.def_ 17 (d := dd_law) rfl
theorem glo_WheelError (T : Tx K mg w) : mg "WheelError" = some (.ref (ga K "WheelError")) := by
  obtain ⟨h, X, G⟩ := T.ex
  exact He.glo_ok X G (T.says.fact 41 rfl)
theorem glo_InvalidNumber (T : Tx K mg w) : mg "InvalidNumber" = some (.ref (ga K "InvalidNumber")) := by
  obtain ⟨h, X, G⟩ := T.ex
  exact He.glo_ok X G (T.says.fact 42 rfl)
theorem glo_InvalidText (T : Tx K mg w) : mg "InvalidText" = some (.ref (ga K "InvalidText")) := by
  obtain ⟨h, X, G⟩ := T.ex
  exact He.glo_ok X G (T.says.fact 43 rfl)
theorem er_InvalidText (T : Tx K mg w) : ErrF K "InvalidText" "value" file "InvalidText.__init__" := err_ok ((T.says.bool 2 rfl))
theorem kn_InvalidText (T : Tx K mg w) : KnF K (ga K "InvalidText") 1 ∧ exmOne K (.ref (ga K "InvalidText")) (.ref (ga K "WheelError")) = some true := kn_ok ((T.says.bool 3 rfl))
theorem ef_InvalidText (T : Tx K mg w) : fnC K (ma K (ga K "InvalidText") "__init__") = ee_InvalidText.val := T.errs.err 1 (d := ee_InvalidText) rfl
theorem glo_InvalidName (T : Tx K mg w) : mg "InvalidName" = some (.ref (ga K "InvalidName")) := by
  obtain ⟨h, X, G⟩ := T.ex
  exact He.glo_ok X G (T.says.fact 44 rfl)
theorem glo_InvalidLevels (T : Tx K mg w) : mg "InvalidLevels" = some (.ref (ga K "InvalidLevels")) := by
  obtain ⟨h, X, G⟩ := T.ex
  exact He.glo_ok X G (T.says.fact 45 rfl)
theorem glo_InvalidSwitch (T : Tx K mg w) : mg "InvalidSwitch" = some (.ref (ga K "InvalidSwitch")) := by
  obtain ⟨h, X, G⟩ := T.ex
  exact He.glo_ok X G (T.says.fact 46 rfl)
theorem glo_InvalidMode (T : Tx K mg w) : mg "InvalidMode" = some (.ref (ga K "InvalidMode")) := by
  obtain ⟨h, X, G⟩ := T.ex
  exact He.glo_ok X G (T.says.fact 47 rfl)
theorem glo_InvalidMenu (T : Tx K mg w) : mg "InvalidMenu" = some (.ref (ga K "InvalidMenu")) := by
  obtain ⟨h, X, G⟩ := T.ex
  exact He.glo_ok X G (T.says.fact 48 rfl)
theorem glo_InvalidPlan (T : Tx K mg w) : mg "InvalidPlan" = some (.ref (ga K "InvalidPlan")) := by
  obtain ⟨h, X, G⟩ := T.ex
  exact He.glo_ok X G (T.says.fact 49 rfl)
theorem glo_InvalidCommand (T : Tx K mg w) : mg "InvalidCommand" = some (.ref (ga K "InvalidCommand")) := by
  obtain ⟨h, X, G⟩ := T.ex
  exact He.glo_ok X G (T.says.fact 50 rfl)
theorem glo_TooLong (T : Tx K mg w) : mg "TooLong" = some (.ref (ga K "TooLong")) := by
  obtain ⟨h, X, G⟩ := T.ex
  exact He.glo_ok X G (T.says.fact 51 rfl)
theorem glo_TooMany (T : Tx K mg w) : mg "TooMany" = some (.ref (ga K "TooMany")) := by
  obtain ⟨h, X, G⟩ := T.ex
  exact He.glo_ok X G (T.says.fact 52 rfl)
theorem glo_NothingToUndo (T : Tx K mg w) : mg "NothingToUndo" = some (.ref (ga K "NothingToUndo")) := by
  obtain ⟨h, X, G⟩ := T.ex
  exact He.glo_ok X G (T.says.fact 53 rfl)
theorem ch__law_text_right (T : Tx K mg w) : codeHdIn K (codA K (ga K "_law_text_right")) (tbA K (ga K "_law_text_right")) = true := (T.says.bool 4 rfl)
theorem ch_law (T : Tx K mg w) : codeHdIn K (codA K (ga K "law")) (tbA K (ga K "law")) = true := (T.says.bool 5 rfl)
theorem off__law_text_right (T : Tx K mg w) : K.lookup 545 = none := off_ok ((T.says.bool 6 rfl))
theorem tb__law_text_right (T : Tx K mg w) : tbA K (ga K "_law_text_right") = 545 := of_decide_eq_true ((T.says.bool 7 rfl))
theorem off_law (T : Tx K mg w) : K.lookup 559 = none := off_ok ((T.says.bool 8 rfl))
theorem tb_law (T : Tx K mg w) : tbA K (ga K "law") = 559 := of_decide_eq_true ((T.says.bool 9 rfl))
theorem glo_Share (T : Tx K mg w) : mg "Share" = some (.ref (ga K "Share")) := by
  obtain ⟨h, X, G⟩ := T.ex
  exact He.glo_ok X G (T.says.fact 54 rfl)
theorem cls_Share (T : Tx K mg w) : Cls K (ga K "Share") := by
  obtain ⟨h, X, G⟩ := T.ex
  exact He.cls_ok (T.says.fact 55 rfl)
theorem mk_Share (T : Tx K mg w) : Mk K (ga K "Share") (ma K (ga K "Share") "__init__") := by
  obtain ⟨h, X, G⟩ := T.ex
  exact He.mkr_ok (T.says.fact 56 rfl)
theorem isi_Share (T : Tx K mg w) : IsiC K (ga K "Share") := isi_ok ((T.says.bool 10 rfl))
theorem kit_Share (T : Tx K mg w) : kitOne K (.ref (ga K "Share")) (.ref (ga K "Share")) = some true := kit_ok (t := fun K => .ref (ga K "Share")) (c := fun K => .ref (ga K "Share")) ((T.says.bool 11 rfl))
theorem kSi_Share (T : Tx K mg w) : kitOne K (.ref (ga K "Share")) (.type "int") = some false := kit_ok (t := fun K => .ref (ga K "Share")) (c := fun _ => .type "int") ((T.says.bool 12 rfl))
theorem kiS_Share (T : Tx K mg w) : kitOne K (.type "int") (.ref (ga K "Share")) = some false := kit_ok (t := fun _ => .type "int") (c := fun K => .ref (ga K "Share")) ((T.says.bool 13 rfl))
theorem kiT_Share (T : Tx K mg w) : PySem.W.kitAny K (.type "int") [.type "int", .ref (ga K "Share")] = some true := of_decide_eq_true ((T.says.bool 14 rfl))
theorem ns_Share (T : Tx K mg w) : ((["NoneType", "bool", "str", "tuple", "list", "dict"] : List String).all fun t => decide (PySem.W.kitOne K (.type t) (.ref (ga K "Share")) = some false)) = true := (T.says.bool 16 rfl)
theorem st_Share (T : Tx K mg w) : PySem.W.kitAny K (.ref (ga K "Share")) [.type "int", .ref (ga K "Share")] = some true := of_decide_eq_true ((T.says.bool 17 rfl))
theorem exs_InvalidNumber (T : Tx K mg w) : PySem.W.exmOne K (.ref (ga K "InvalidNumber")) (.ref (ga K "InvalidNumber")) = some true := of_decide_eq_true ((T.says.bool 18 rfl))
theorem sI_Share (T : Tx K mg w) : PySem.W.subIn K (.ref (ga K "Share")) (.type "int") = some false := of_decide_eq_true ((T.says.bool 27 rfl))
theorem nfb_Share (T : Tx K mg w) : ((["int", "bool", "NoneType", "str", "tuple", "list"] : List String).all fun t => PySem.W.notFirst K (ga K "Share") (.type t)) = true := (T.says.bool 28 rfl)
theorem sb_Share (T : Tx K mg w) : ((["int", "bool", "NoneType", "str", "tuple", "list"] : List String).all fun t => decide (PySem.W.subIn K (.ref (ga K "Share")) (.type t) = some false)) = true := (T.says.bool 29 rfl)
theorem na_Share_kept_bottom (T : Tx K mg w) : NoAttr K (ga K "Share") "kept_bottom" := by
  obtain ⟨h, X, G⟩ := T.ex
  exact He.noat_ok (T.says.fact 57 rfl)
theorem na_Share_kept_top (T : Tx K mg w) : NoAttr K (ga K "Share") "kept_top" := by
  obtain ⟨h, X, G⟩ := T.ex
  exact He.noat_ok (T.says.fact 58 rfl)
theorem d_Share___init__ (T : Tx K mg w) : ∃ fd, FunD K "__init__" "Share.__init__" (defArgs s_Share___init__) (defBody s_Share___init__) (defScope s_Share___init__) [V.int 1] [] (ma K (ga K "Share") "__init__") fd := T.says.def_ 18 (d := dd_Share___init__) rfl
theorem pr_Share_top (T : Tx K mg w) : PropOf K (ga K "Share") "top" (ma K (ga K "Share") "top") (pa K (ga K "Share") "top") := prop_ok ((T.says.bool 31 rfl))
theorem d_Share_top (T : Tx K mg w) : ∃ fd, FunD K "top" "Share.top" (defArgs s_Share_top) (defBody s_Share_top) (defScope s_Share_top) [] [] (pa K (ga K "Share") "top") fd := T.says.def_ 19 (d := dd_Share_top) rfl
theorem pr_Share_bottom (T : Tx K mg w) : PropOf K (ga K "Share") "bottom" (ma K (ga K "Share") "bottom") (pa K (ga K "Share") "bottom") := prop_ok ((T.says.bool 32 rfl))
theorem d_Share_bottom (T : Tx K mg w) : ∃ fd, FunD K "bottom" "Share.bottom" (defArgs s_Share_bottom) (defBody s_Share_bottom) (defScope s_Share_bottom) [] [] (pa K (ga K "Share") "bottom") fd := T.says.def_ 20 (d := dd_Share_bottom) rfl
theorem pr_Share_text (T : Tx K mg w) : PropOf K (ga K "Share") "text" (ma K (ga K "Share") "text") (pa K (ga K "Share") "text") := prop_ok ((T.says.bool 33 rfl))
theorem d_Share_text (T : Tx K mg w) : ∃ fd, FunD K "text" "Share.text" (defArgs s_Share_text) (defBody s_Share_text) (defScope s_Share_text) [] [] (pa K (ga K "Share") "text") fd := T.says.def_ 21 (d := dd_Share_text) rfl
theorem cm_Share_from_text (T : Tx K mg w) : ClX.CMet K (ga K "Share") (.type "type") "from_text" (ma K (ga K "Share") "from_text") (He5.wf K (ga K "Share") "classmethod" "from_text") := cm_ok ((T.says.bool 34 rfl))
theorem cr_Share (T : Tx K mg w) : ClX.CRead K (ga K "Share") (.type "type") := cread_ok ((T.says.bool 35 rfl))
theorem d_Share_from_text (T : Tx K mg w) : ∃ fd, FunD K "from_text" "Share.from_text" (defArgs s_Share_from_text) (defBody s_Share_from_text) (defScope s_Share_from_text) [] [] (He5.wf K (ga K "Share") "classmethod" "from_text") fd := T.says.def_ 22 (d := dd_Share_from_text) rfl
theorem me_Share___bool__ (T : Tx K mg w) : Meth K (ga K "Share") "__bool__" (ma K (ga K "Share") "__bool__") := by
  obtain ⟨h, X, G⟩ := T.ex
  exact He.meth_ok (T.says.fact 59 rfl)
theorem fq_Share___bool__ (T : Tx K mg w) : isFn K (.ref (ma K (ga K "Share") "__bool__")) = true ∧ fnIn K (ma K (ga K "Share") "__bool__") = true := He.ba ((T.says.bool 36 rfl))
theorem d_Share___bool__ (T : Tx K mg w) : ∃ fd, FunD K "__bool__" "Share.__bool__" (defArgs s_Share___bool__) (defBody s_Share___bool__) (defScope s_Share___bool__) [] [] (ma K (ga K "Share") "__bool__") fd := T.says.def_ 23 (d := dd_Share___bool__) rfl
theorem me_Share___eq__ (T : Tx K mg w) : Meth K (ga K "Share") "__eq__" (ma K (ga K "Share") "__eq__") := by
  obtain ⟨h, X, G⟩ := T.ex
  exact He.meth_ok (T.says.fact 60 rfl)
theorem fq_Share___eq__ (T : Tx K mg w) : isFn K (.ref (ma K (ga K "Share") "__eq__")) = true ∧ fnIn K (ma K (ga K "Share") "__eq__") = true := He.ba ((T.says.bool 37 rfl))
theorem d_Share___eq__ (T : Tx K mg w) : ∃ fd, FunD K "__eq__" "Share.__eq__" (defArgs s_Share___eq__) (defBody s_Share___eq__) (defScope s_Share___eq__) [] [] (ma K (ga K "Share") "__eq__") fd := T.says.def_ 24 (d := dd_Share___eq__) rfl
theorem me_Share___ne__ (T : Tx K mg w) : Meth K (ga K "Share") "__ne__" (ma K (ga K "Share") "__ne__") := by
  obtain ⟨h, X, G⟩ := T.ex
  exact He.meth_ok (T.says.fact 61 rfl)
theorem fq_Share___ne__ (T : Tx K mg w) : isFn K (.ref (ma K (ga K "Share") "__ne__")) = true ∧ fnIn K (ma K (ga K "Share") "__ne__") = true := He.ba ((T.says.bool 38 rfl))
theorem d_Share___ne__ (T : Tx K mg w) : ∃ fd, FunD K "__ne__" "Share.__ne__" (defArgs s_Share___ne__) (defBody s_Share___ne__) (defScope s_Share___ne__) [] [] (ma K (ga K "Share") "__ne__") fd := T.says.def_ 25 (d := dd_Share___ne__) rfl
theorem me_Share___lt__ (T : Tx K mg w) : Meth K (ga K "Share") "__lt__" (ma K (ga K "Share") "__lt__") := by
  obtain ⟨h, X, G⟩ := T.ex
  exact He.meth_ok (T.says.fact 62 rfl)
theorem fq_Share___lt__ (T : Tx K mg w) : isFn K (.ref (ma K (ga K "Share") "__lt__")) = true ∧ fnIn K (ma K (ga K "Share") "__lt__") = true := He.ba ((T.says.bool 39 rfl))
theorem d_Share___lt__ (T : Tx K mg w) : ∃ fd, FunD K "__lt__" "Share.__lt__" (defArgs s_Share___lt__) (defBody s_Share___lt__) (defScope s_Share___lt__) [] [] (ma K (ga K "Share") "__lt__") fd := T.says.def_ 26 (d := dd_Share___lt__) rfl
theorem me_Share___le__ (T : Tx K mg w) : Meth K (ga K "Share") "__le__" (ma K (ga K "Share") "__le__") := by
  obtain ⟨h, X, G⟩ := T.ex
  exact He.meth_ok (T.says.fact 63 rfl)
theorem fq_Share___le__ (T : Tx K mg w) : isFn K (.ref (ma K (ga K "Share") "__le__")) = true ∧ fnIn K (ma K (ga K "Share") "__le__") = true := He.ba ((T.says.bool 40 rfl))
theorem d_Share___le__ (T : Tx K mg w) : ∃ fd, FunD K "__le__" "Share.__le__" (defArgs s_Share___le__) (defBody s_Share___le__) (defScope s_Share___le__) [] [] (ma K (ga K "Share") "__le__") fd := T.says.def_ 27 (d := dd_Share___le__) rfl
theorem me_Share___gt__ (T : Tx K mg w) : Meth K (ga K "Share") "__gt__" (ma K (ga K "Share") "__gt__") := by
  obtain ⟨h, X, G⟩ := T.ex
  exact He.meth_ok (T.says.fact 64 rfl)
theorem fq_Share___gt__ (T : Tx K mg w) : isFn K (.ref (ma K (ga K "Share") "__gt__")) = true ∧ fnIn K (ma K (ga K "Share") "__gt__") = true := He.ba ((T.says.bool 41 rfl))
theorem d_Share___gt__ (T : Tx K mg w) : ∃ fd, FunD K "__gt__" "Share.__gt__" (defArgs s_Share___gt__) (defBody s_Share___gt__) (defScope s_Share___gt__) [] [] (ma K (ga K "Share") "__gt__") fd := T.says.def_ 28 (d := dd_Share___gt__) rfl
theorem me_Share___ge__ (T : Tx K mg w) : Meth K (ga K "Share") "__ge__" (ma K (ga K "Share") "__ge__") := by
  obtain ⟨h, X, G⟩ := T.ex
  exact He.meth_ok (T.says.fact 65 rfl)
theorem fq_Share___ge__ (T : Tx K mg w) : isFn K (.ref (ma K (ga K "Share") "__ge__")) = true ∧ fnIn K (ma K (ga K "Share") "__ge__") = true := He.ba ((T.says.bool 42 rfl))
theorem d_Share___ge__ (T : Tx K mg w) : ∃ fd, FunD K "__ge__" "Share.__ge__" (defArgs s_Share___ge__) (defBody s_Share___ge__) (defScope s_Share___ge__) [] [] (ma K (ga K "Share") "__ge__") fd := T.says.def_ 29 (d := dd_Share___ge__) rfl
end
def spLaw (K : Frag) : Sp := fun vs H Q _ => ∃ (a : Addr) (ns : List Int), vs = [.ref a] ∧ SqL K H a (ns.map V.int) ∧ ns.length ≤ 63 ∧ H (tbA K (ga K "_law_text_right")) = some (.tbl #[]) ∧ H (tbA K (ga K "law")) = some (.tbl #[]) ∧ ∀ H', Q (.bl true) H'
end Hd
section
open PySem PySem.W PySem.Calls PyProof.Rows
theorem Hd.holds {k : Nat} {CX : L2.CXT} (hCX : ∀ (H : L2.Hp) (s : Shared) (e : Value) (s' : Shared), CX [] H s (fun _ _ _ => False) e s' → False) (hr : Tw.RmG k callerA)
    (F : ∀ (K : Frag) (mg : PySem.Str → Option Value) (w : World) (base : Heap), Hd.Tx K mg w → LamX.TabB base mg (Tw.codA K (He.ga K "_law_text_right")) (Tw.tbA K (He.ga K "_law_text_right")) → LamX.TabB base mg (Tw.codA K (He.ga K "law")) (Tw.tbA K (He.ga K "law")) → Tw.FnG (PySem.Challenge.rw_timerwheels_k02_shares_in_order_and_as_t).prog w K mg base CX k (He.ga K "law") (Hd.spLaw K)) : PySem.Challenge.rw_timerwheels_k02_shares_in_order_and_as_t.Holds := by
  w_on; o_law
  refine HandSHeadRun.head_any (r := OpenLaw.row PySem.Challenge.rw_timerwheels_k02_shares_in_order_and_as_t) (q := view (OpenLaw.row PySem.Challenge.rw_timerwheels_k02_shares_in_order_and_as_t).prog [37]) (H := Hd.hk) (ob := Hd.ob) (M := 5507) (loose := Hd.loose) (d := HandSHeadRun.topDef (OpenLaw.row PySem.Challenge.rw_timerwheels_k02_shares_in_order_and_as_t).prog 37) (kwd := []) Hd.ob_eq
    (by kernel_rfl) (fun s => by kernel_rfl) Hd.run (by kernel_rfl) (by kernel_rfl) (by kernel_rfl) (by rfl) (by first | assumption | decide +kernel) (by decide +kernel) ⟨rfl, rfl, rfl, rfl, rfl, by decide +kernel⟩ ?hw ?hc
  case hw => w_witness2
  case hc =>
    refine Tw.walk_ofGT (l := PySem.Challenge.rw_timerwheels_k02_shares_in_order_and_as_t) (n := 63) (k := k) (CX := CX) rfl (by decide) (by kernel_rfl) hr ?F hCX
    intro w mg fa h Y G hmg0
    obtain ⟨K, KX, c, tb⟩ := Y
    have hmg : mg ("law" : PySem.Str) = some (.ref fa) := by
      have e : (HandSHeadRun.topDef (OpenLaw.row PySem.Challenge.rw_timerwheels_k02_shares_in_order_and_as_t).prog 37).name = ("law" : PySem.Str) := by kernel_rfl
      rw [← e]
      exact hmg0
    have T : Hd.Tx K mg w := ⟨⟨h, KX, G⟩, c.m, c⟩
    have e := hmg.symm.trans (Hd.glo_law T)
    cases e
    refine ⟨K, [(Tw.codA K (He.ga K "_law_text_right"), Tw.tbA K (He.ga K "_law_text_right")), (Tw.codA K (He.ga K "law"), Tw.tbA K (He.ga K "law"))], Hd.spLaw K, KX, ?_, ?_, ?_, fun H a ns hl hS hB => ⟨a, ns, rfl, hS, hl, hB (Tw.codA K (He.ga K "_law_text_right"), Tw.tbA K (He.ga K "_law_text_right")) (by simp),hB (Tw.codA K (He.ga K "law"), Tw.tbA K (He.ga K "law")) (by simp), fun _ => rfl⟩, fun base _ _ hB => F K mg w base T (hB (Tw.codA K (He.ga K "_law_text_right"), Tw.tbA K (He.ga K "_law_text_right")) (by simp)) (hB (Tw.codA K (He.ga K "law"), Tw.tbA K (He.ga K "law")) (by simp))⟩
    · intro p hp
      simp only [List.mem_cons, List.not_mem_nil, or_false] at hp
      rcases hp with rfl | rfl
      · show h.get? (Tw.tbA K (He.ga K "_law_text_right")) = _
        rw [Hd.tb__law_text_right T]
        exact tb _ (by simp)
      · show h.get? (Tw.tbA K (He.ga K "law")) = _
        rw [Hd.tb_law T]
        exact tb _ (by simp)
    · intro p hp
      simp only [List.mem_cons, List.not_mem_nil, or_false] at hp
      rcases hp with rfl | rfl
      · show K.lookup (Tw.tbA K (He.ga K "_law_text_right")) = none
        rw [Hd.tb__law_text_right T]
        exact Hd.off__law_text_right T
      · show K.lookup (Tw.tbA K (He.ga K "law")) = none
        rw [Hd.tb_law T]
        exact Hd.off_law T
    · intro p hp
      simp only [List.mem_cons, List.not_mem_nil, or_false] at hp
      rcases hp with rfl | rfl
      · exact Hd.ch__law_text_right T
      · exact Hd.ch_law T
end
/-! Tw: comparing instances by their own methods -/
namespace Tw
open PySem PySem.Spec PyProof.Rows L2
section
variable {X : Cx} {CX : CXT} {k : Nat} {C g : Addr} {sp : Sp} {E : XK}
def rCmpO (C : Addr) (sp : Sp) (E : XK) : R2 := fun x y H Q => ∃ a dx fs b dy gs, x = .ref a ∧ y = .ref b ∧ H a = some (.ins C dx fs) ∧ H b = some (.ins C dy gs) ∧ sp [.ref a, .ref b] H (fun v H' => ∃ c, v = .bl c ∧ Q (.bl c) H') E
theorem op_cmpO {op : CmpOp} {nm : PySem.Str} (hs : PySem.W.findIn X.K (.ref C) nm = some (some (.ref g))) (hf : PySem.W.isFn X.K (.ref g) = true) (F : FnR X.prog X.w X.K X.mg X.base CX k g sp) (hr : Room (k + 1) X.A) (hx : Passes CX X E)
    (hn : (cmpInfo op).2.1 = nm := by rfl) (hop : ∀ v u, compareOp op v u = richCompare op v u := by intro _ _; rfl) : OpR X (compareOp op) (rCmpO C sp E) := by
  intro pins s σ H x y v u Q I rx ry h
  obtain ⟨a, dx, fs, b, dy, gs, rfl, rfl, ea, eb, q⟩ := h
  cases (show v = Value.ref a from rx)
  cases (show u = Value.ref b from ry)
  rw [hop]
  obtain ⟨mA, O, _⟩ := ins_get I.hok ea
  obtain ⟨od, J, _⟩ := O.look
  obtain ⟨mB, O', _⟩ := ins_get I.hok eb
  obtain ⟨od', J', _⟩ := O'.look
  obtain ⟨m, hF⟩ := I.fr
  refine PySem.W.cmp_K (op := op) (tb := .ref C) hr.units0 hF I.ok.mod.kin J J'.type (by simp [PySem.W.notFirst]) (by rw [hn]; exact hs) hf ?_
  refine wpAny_mono (wpAny_call (SlX.run_at (us := [.ref a, .ref b]) (ws := [.ref a, .ref b]) F (hr.mono (Nat.le_succ _)) I.env0 hx I (.cons rfl (.cons rfl .nil)) q)) (fun w s' z => ?_) fun _ _ x => x
  obtain ⟨z', H', I', rz, c, ez, qz⟩ := z
  subst ez
  cases (show w = Value.bool c from rz)
  exact ⟨.bl c, H', I', rfl, qz⟩
def rIopO (C : Addr) (sp : Sp) (E : XK) : V → V → Hp → VK → Prop := fun x y H Q => ∃ a dx fs, x = .ref a ∧ H a = some (.ins C dx fs) ∧ sp [.ref a, y] H (fun v H' => ∃ c : Addr, v = .ref c ∧ Q (.ref c) H') E
def rLenD : List V → Hp → VK → Prop := fun xs H Q => ∃ a kvs, xs = [.ref a] ∧ Rd H a (.dK kvs) ∧ Q (.int kvs.length) H
def rInO (C : Addr) (sp : Sp) (E : XK) : R2 := fun x y H Q => ∃ a dx fs, y = .ref a ∧ H a = some (.ins C dx fs) ∧ sp [.ref a, x] H (fun v H' => ∃ c, v = .bl c ∧ Q (.bl c) H') E
open PySem.Calls PySem.W in
def tCallO (C : Addr) (sp : Sp) (E : XK) (tf : TE) (ta : TA) : TE := fun σ H Q => tf σ H fun x H0 => ∃ a : Addr, x = .ref a ∧ ta σ H0 fun vs H1 => (∃ dx fs, H1 a = some (.ins C dx fs)) ∧ sp (.ref a :: vs) H1 Q E
end
end Tw
/-! Tw: t[::-1] of tuples; (int, tuple) < (int, tuple); x < int for x of a class with its own < -/
namespace HT
open PySem PyProof.Rows
section
variable {prog : Program} {w : World} {A : Around} {E : Value → Shared → Prop} {s : Shared}
end
end HT
namespace Tw
open PySem PySem.Spec PyProof.Rows L2
def tRevT (K : PySem.W.Frag) (te : TE) : TE := fun σ H Q => te σ H fun x H1 => ∃ a xs, x = .ref a ∧ SqT K H1 a xs ∧ ∀ p, H1 p = none → Q (.ref p) (upd H1 p (.tup xs.reverse))
section
variable {X : Cx} {CX : CXT} {k : Nat} {C g : Addr} {sp : Sp} {E : XK}
def rLtN (C : Addr) (sp : Sp) (E : XK) : R2 := fun x y H Q => ∃ j : Int, y = .int j ∧ ((∃ i : Int, x = .int i ∧ Q (.bl (decide (i < j))) H) ∨ (∃ a dx fs, x = .ref a ∧ H a = some (.ins C dx fs) ∧ sp [.ref a, .int j] H (fun v H' => ∃ c, v = .bl c ∧ Q (.bl c) H') E))
def rLtP (K : PySem.W.Frag) : R2 := fun x y H Q => ∃ (a b a' b' : Addr) (i j : Int) (ns ms : List Int), x = .ref a ∧ y = .ref b ∧ SqT K H a [.int i, .ref a'] ∧ SqT K H b [.int j, .ref b'] ∧ SqT K H a' (ns.map V.int) ∧ SqT K H b' (ms.map V.int) ∧ Q (.bl (if i = j then HT.lexLt ns ms else decide (i < j))) H
end
end Tw
/-! Tw: enumerate(tuple); zip(tuple, list) -/
namespace Tw
open PySem PySem.Spec PyProof.Rows L2 PySem.W
open AutoSeq1 (wpAny_loadPart')
theorem enumT_new (t : Addr) (items : Array Value) :
    Meets (Builtin.«enumerate.__new__» ⟨[.type "enumerate", .ref t], []⟩) (fun _ R s => s.heap.IsTuple t items ∧
      R (.ok (.ret (.ref (s.heap.push { cls := .type "tuple_iterator", data := .fields #[.ref t, .int 0 0] }).objs.size)))
        { s with heap := (s.heap.push { cls := .type "tuple_iterator", data := .fields #[.ref t, .int 0 0] }).push { cls := .type "enumerate", data := .fields #[.none, .bool false, .ref s.heap.objs.size, rawInt 0, .none, .none] } }) := by
  refine .of_wp fun prog w A R s h => ?_
  obtain ⟨hp, g, d, tk, os⟩ := s
  obtain ⟨hT, h⟩ := h
  have hT' : Heap.IsTuple (Shared.heap ⟨hp, g, d, tk, os⟩) t items := hT
  obtain ⟨⟨oc, od, odt, osl⟩, ho, hc, n, hd⟩ := id hT
  dsimp only at hc hd
  subst hc hd
  have hsub := sub_enumerate
  wp_walk using wpAny_loadPart' ho
  refine wpAny_stack_any fun st => wpAny_pure ?_
  split
  · rename_i c _ _ _ _ _
    cases (c == Value.type "enumerate") <;> (wp_walk using wpAny_loadPart' ho, wpAny_pyIter_tuple hT'; exact ⟨_, rfl, h⟩)
  · wp_walk using wpAny_loadPart' ho, wpAny_pyIter_tuple hT'
    exact ⟨_, rfl, h⟩
section
variable {prog : Program} {w : World} {A : Around} {E : Value → Shared → Prop} {s : Shared}
theorem enumT_call {t : Addr} {items : Array Value} {Q : Value → Shared → Prop} (hT : s.heap.IsTuple t items)
    (h : ∀ h', IsEnum h' (s.heap.objs.size + 1) s.heap.objs.size 0 .none → h'.IsTupleIter s.heap.objs.size t 0 → (∀ b o, s.heap.get? b = some o → h'.get? b = some o) → Q (.ref (s.heap.objs.size + 1)) { s with heap := h' }) :
    wpAny (model prog w) A (call (.type "enumerate") [.ref t]) Q E s := by
  refine callType_new F.called_enumerate (by decide) (F.typeCall_enumerate_1 _) (F.newCall_enumerate_1 _) (fun obj => F.args_object_init_2 obj _) F.entry_enumerate_new (enumT_new t items) ⟨hT, ?_⟩
  generalize e1 : s.heap.push { cls := .type "tuple_iterator", data := .fields #[.ref t, .int 0 0] } = h1
  have g0 : h1.get? s.heap.objs.size = some { cls := .type "tuple_iterator", data := .fields #[.ref t, .int 0 0] } := by rw [← e1]; exact Heap.get?_push_size _ rfl
  have z1 : h1.objs.size = s.heap.objs.size + 1 := by rw [← e1, Heap.size_push]
  have k1 : ∀ b o, s.heap.get? b = some o → h1.get? b = some o := fun b o e => by rw [← e1]; exact Heap.get?_push_of_some _ e
  show _ ∧ _
  rw [z1]
  have g1 : IsEnum (h1.push { cls := .type "enumerate", data := .fields #[.none, .bool false, .ref s.heap.objs.size, rawInt 0, .none, .none] }) (s.heap.objs.size + 1) s.heap.objs.size 0 .none := by
    rw [← z1]; exact Heap.get?_push_size _ rfl
  exact ⟨⟨_, g1, rfl⟩, h _ g1 ⟨_, Heap.get?_push_of_some _ g0, rfl, by rfl⟩ fun b o e => Heap.get?_push_of_some _ (k1 b o e)⟩
end
def ItEn (K : PySem.W.Frag) (a : Addr) : It where
  go := fun i H => ∃ (xs : List V) (x : V), SqT K H a xs ∧ xs[i]? = some x
  yld := fun i H v H' => ∃ T x, v = .ref T ∧ H T = none ∧ H' = upd H T (.tup [.int (i : Nat), x]) ∧ ∀ xs, SqT K H a xs → xs[i]? = some x
  stop := fun i H => ∃ xs : List V, SqT K H a xs ∧ xs.length ≤ i
theorem two_mem {a b c : Addr} (h : c ∈ [a, b]) : c = a ∨ c = b := by simpa using h
theorem turn_enT {P : Program} {w : World} {K : PySem.W.Frag} {elts : List Expr} {kk : Nat} {tpos : Pos} (a e it : Addr) :
    Turn P w K (.Tuple elts kk tpos) (ItEn K a) [e, it] e (fun i h => (∃ old, IsEnum h e it ((i : Nat) : Int) old) ∧ h.IsTupleIter it a i ∧ e ≠ it ∧ a ≠ it ∧ a ≠ e) := by
  refine ⟨by simp, ?_, ?_, ?_, ?_, ?_⟩
  · intro i h st b hb
    obtain ⟨⟨old, he⟩, ⟨o, ho, hc, hd⟩, _, _⟩ := st
    rcases two_mem hb with z | z
    · subst z
      exact ⟨_, he, fun v q => nomatch q⟩
    · subst z
      exact ⟨o, ho, fun v q => by rw [hd] at q; cases q⟩
  · intro i h h' st k
    obtain ⟨⟨old, he⟩, hi, hne⟩ := st
    exact ⟨⟨old, k e (by simp) _ he⟩, hi.at fun o q => k it (by simp) o q, hne⟩
  · intro X hP hw hK hc i pins s σ H E I hf st hg
    subst hP hw hK
    obtain ⟨⟨old, he⟩, hit, hne, hai, hae⟩ := st
    obtain ⟨xs, x, hq, hx⟩ := hg
    obtain ⟨its, rv, p, hz⟩ := I.tuple hq
    obtain ⟨u, hu, ru⟩ := rv.get hx
    have hel : e < s.heap.objs.size := Heap.lt_size he
    have hil : it < s.heap.objs.size := by obtain ⟨_, q, _⟩ := hit; exact Heap.lt_size q
    have hlt : i < its.toArray.size := by
      have := (List.getElem?_eq_some_iff.mp hu).1
      simpa using this
    have hd0 : X.A.in1.handled = none := I.ok.hd hc
    refine wpAny_pyNext_enum_itemD (Draws.tuple hd0 it a hai its.toArray) he ⟨hit, p⟩ hlt hne (by simp [hne, Ne.symm hae]) fun y h' tk hy ho hst' hT hsz hk => ?_
    have ey : y = u := by
      have e1 : its.toArray[i]? = some y := hy
      have e2 : its.toArray[i]? = some u := by simpa using hu
      rw [e1] at e2
      exact Option.some.inj e2
    subst ey
    refine ⟨_, rfl, wpAny_letOwnedTupleGo_enum (s := { s with heap := h', toks := tk + 1 }) ho fun h'' he' sb => ?_⟩
    have hT2 := (sb.2 _ (Nat.ne_of_gt hel)).trans hT
    have new : ObjOk X.prog X.w (upd H s.heap.objs.size (.tup [.int (i : Nat), x])) h'' s.heap.objs.size (.tup [.int (i : Nat), x]) :=
      ⟨by show 2 ≤ sizeLine; decide, [.int i tk, y], .cons ⟨_, rfl⟩ (.cons ru .nil), ⟨_, hT2, rfl, _, rfl⟩⟩
    have I1 : Inv X pins σ (upd H s.heap.objs.size (.tup [.int (i : Nat), x])) { s with heap := h'', toks := tk + 1 } :=
      I.turnedNew (ch := [e, it]) (fun b ob hb q => (sb.2 b fun z => hb (by simp [z])).trans (hk b ob (fun z => hb (by simp [z])) (fun z => hb (by simp [z])) q)) hf (Nat.le_refl _) new
    refine ⟨.ref s.heap.objs.size, _, I1, rfl, ⟨_, x, rfl, I.hok.fresh (Nat.le_refl _), rfl, fun ys hy => by rw [I.tuple_inj hy hq]; exact hx⟩, ⟨⟨y, ?_⟩, hst'.1.at fun o q => (sb.2 it (Ne.symm hne)).trans q, hne, hai, hae⟩, fun b hb => ?_⟩
    · have e1 : ((i + 1 : Nat) : Int) = (i : Int) + 1 := by omega
      rw [e1]
      exact he'
    · have hb' : b < s.heap.objs.size := by rcases two_mem hb with z | z <;> (rw [z]; assumption)
      rw [upd_ne (Nat.ne_of_lt hb')]
      exact (hf b hb).1
  · intro X hP hw hK hc i pins s σ H E I hf st hg
    subst hP hw hK
    obtain ⟨⟨old, he⟩, hit, hne, hai, hae⟩ := st
    obtain ⟨xs, hq, hx⟩ := hg
    obtain ⟨its, rv, p, hz⟩ := I.tuple hq
    obtain ⟨f0, f1, f2, f3, f4, f5⟩ := hf it (by simp)
    have hl := rv.length
    have hd0 : X.A.in1.handled = none := I.ok.hd hc
    have D : Draws X.prog X.w X.A.in1 it [it, a] i (fun _ _ => False) (fun j h => j = i ∧ h.IsTupleIter it a i ∧ h.IsTuple a its.toArray) := by
      refine ⟨fun _ _ st => let ⟨o, ho, _⟩ := st.2.1; ⟨o, ho⟩, fun _ _ _ st hk => ⟨st.1, st.2.1.at fun o e => hk it (by simp) o e, st.2.2.at fun o e => hk a (by simp) o e⟩, fun j s Q E hj st _ => absurd st.1 (Nat.ne_of_lt hj), fun s Q E st hE => ?_⟩
      exact RZ.nextOf_tuple_end hd0 st.2.1 st.2.2 (Array.getElem?_eq_none (by simp; omega)) hE
    exact wpAny_pyNext_enum_endD D he ⟨rfl, hit, p⟩ fun h' eb => ⟨rfl, I.turned (t' := s.toks) (fun b o hb q => eb b o hb q) f0 f1 f3 f4 f5⟩
  · intro A i s Q E st h
    obtain ⟨⟨_, he⟩, _⟩ := st
    exact wpAny_pyIter_enum he h
def iEnT (K : PySem.W.Frag) (ta : TA) : TI := fun σ H R => ta σ H fun vs H1 => ∃ a xs, vs = [.ref a] ∧ SqT K H1 a xs ∧ R (ItEn K a) H1
theorem pi_enT {X : Cx} {e : Expr} {ta : TA} {p pos tpos : Pos} {elts : List Expr} {kk : Nat} (hg : Gl X "enumerate") (hm : X.mg "enumerate" = none) (ha : PA X [e] ta)
    (hs : starEach [e] X.env = [(false, eval e X.env)] := by rfl) : PI X (.Tuple elts kk tpos) (.Call (.Name "enumerate" p) [e] [] pos) (iEnT X.K ta) := by
  refine ⟨fun pins s σ H R I h => Call_ (ld_blt I hg hm boot_enumerate (PyProof.Rows.callWith_type1 (thn (ha.run pos pins s σ H _ I h) fun us s1 ⟨vs, H1, I1, r1, q1⟩ => ?_) hs rfl))⟩
  obtain ⟨a, xs, rfl, hq, q⟩ := q1
  obtain ⟨u, rfl, ru⟩ := r1.one
  cases (show u = Value.ref a from ru)
  obtain ⟨its, rv, p', hz⟩ := I1.tuple hq
  have hal : a < s1.heap.objs.size := by obtain ⟨_, ho, _⟩ := id p'; exact Heap.lt_size ho
  refine enumT_call p' fun h' he hit hk => wpAny_pyIter_enum he ?_
  have I2 : Inv X pins σ H1 { s1 with heap := h' } := I1.kept (t' := s1.toks) hk
  refine ⟨s1.heap.objs.size + 1, [s1.heap.objs.size + 1, s1.heap.objs.size], _, _, H1, rfl, I2, turn_enT a (s1.heap.objs.size + 1) s1.heap.objs.size, ⟨⟨.none, he⟩, hit, Nat.succ_ne_self _, Nat.ne_of_lt hal, Nat.ne_of_lt (Nat.lt_succ_of_lt hal)⟩, fun b hb => ?_, q⟩
  have hle : s1.heap.objs.size ≤ b := by
    rcases two_mem hb with z | z
    · exact z ▸ Nat.le_succ _
    · exact z ▸ Nat.le_refl _
  exact I1.fpOk hle (I1.hok.fresh hle)
theorem for_enT {K : PySem.W.Frag} {a : Addr} {xs : List V} {g : TG} {tb : TS} {D : Ends} {σ : L2.St} {H : Hp} (Pv : Nat → L2.St → Hp → Prop) (h0 : Pv 0 σ H) (hq : ∀ i σ H, Pv i σ H → SqT K H a xs)
    (hs : ∀ (i : Nat) (x : V) (T : Addr) (σ : L2.St) (H : Hp), xs[i]? = some x → Pv i σ H → H T = none → g (.ref T) σ (upd H T (.tup [.int (i : Nat), x])) fun σ2 H2 => tb { D with nx := Pv (i + 1), ct := Pv (i + 1), bk := D.nx } σ2 H2)
    (hd : ∀ σ H, Pv xs.length σ H → D.nx σ H) :
    ∃ W : Nat → Nat → L2.St → Hp → Prop, (∃ m, W 0 m σ H) ∧ ∀ i m σ H, W i m σ H →
      ((ItEn K a).stop i H ∧ D.nx σ H) ∨ ((ItEn K a).go i H ∧ ∃ N : L2.St → Hp → Prop, (∀ σ' H', N σ' H' → ∃ m', m' < m ∧ W (i + 1) m' σ' H') ∧ ∀ v H', (ItEn K a).yld i H v H' → g v σ H' fun σ2 H2 => tb { D with nx := N, ct := N, bk := D.nx } σ2 H2) := by
  refine ⟨fun i m σ H => m = xs.length - i ∧ i ≤ xs.length ∧ Pv i σ H, ⟨xs.length, rfl, Nat.zero_le _, h0⟩, ?_⟩
  rintro i m σ H ⟨rfl, hi, p⟩
  have qx := hq i σ H p
  by_cases hlt : i < xs.length
  · have hx : xs[i]? = some xs[i] := List.getElem?_eq_getElem hlt
    refine .inr ⟨⟨xs, _, qx, hx⟩, Pv (i + 1), fun σ' H' p' => ⟨xs.length - (i + 1), by omega, rfl, hlt, p'⟩, fun v H' y => ?_⟩
    obtain ⟨T, x', rfl, hT, rfl, f1⟩ := y
    exact hs i x' T σ H (f1 xs qx) p hT
  · obtain rfl : i = xs.length := by omega
    exact .inl ⟨⟨xs, qx, Nat.le_refl _⟩, hd σ H p⟩
/-! ### zip(tuple, list) -/
def ItZm (K : PySem.W.Frag) (a b : Addr) : It where
  go := fun i H => ∃ (xs ys : List V) (x y : V), SqT K H a xs ∧ SqL K H b ys ∧ xs[i]? = some x ∧ ys[i]? = some y
  yld := fun i H v H' => ∃ T x y, v = .ref T ∧ H T = none ∧ H' = upd H T (.tup [x, y]) ∧ (∀ xs, SqT K H a xs → xs[i]? = some x) ∧ ∀ ys, SqL K H b ys → ys[i]? = some y
  stop := fun i H => ∃ xs ys : List V, SqT K H a xs ∧ SqL K H b ys ∧ i = xs.length ∧ i = ys.length
theorem turn_zm {P : Program} {w : World} {K : PySem.W.Frag} {elts : List Expr} {kk : Nat} {tpos : Pos} {a b z TI TO i1 i2 : Addr} (S : ZipSep2 z TI TO i1 i2 [i1, a] [i2, b]) (ha : a ≠ i1) (hb : b ≠ i2) :
    Turn P w K (.Tuple elts kk tpos) (ItZm K a b) [z, TI, TO, i1, i2] z
      (fun i h => IsZip h z TI TO .none ∧ IsTupOf2 h TI (.ref i1) (.ref i2) ∧ (∃ x y, IsTupOf2 h TO x y) ∧ h.IsTupleIter i1 a i ∧ h.IsListIter i2 b i) := by
  have five : ∀ {c : Addr}, c ∈ [z, TI, TO, i1, i2] → c = z ∨ c = TI ∨ c = TO ∨ c = i1 ∨ c = i2 := fun h => by simpa using h
  refine ⟨by simp, ?_, ?_, ?_, ?_, ?_⟩
  · intro i h st c hc
    obtain ⟨hz, hTI, ⟨x, y, hTO⟩, ⟨o1, e1, _, d1⟩, ⟨o2, e2, _, d2⟩⟩ := st
    rcases five hc with q | q | q | q | q <;> subst q
    · exact ⟨_, hz, fun v q => nomatch q⟩
    · exact ⟨_, hTI, fun v q => nomatch q⟩
    · exact ⟨_, hTO, fun v q => nomatch q⟩
    · exact ⟨o1, e1, fun v q => by rw [d1] at q; cases q⟩
    · exact ⟨o2, e2, fun v q => by rw [d2] at q; cases q⟩
  · intro i h h' st k
    obtain ⟨hz, hTI, ⟨x, y, hTO⟩, h1, h2⟩ := st
    exact ⟨k z (by simp) _ hz, k TI (by simp) _ hTI, ⟨x, y, k TO (by simp) _ hTO⟩, h1.at fun o q => k i1 (by simp) o q, h2.at fun o q => k i2 (by simp) o q⟩
  · intro X hP hw hK hc i pins s σ H E I hf st hg
    subst hP hw hK
    obtain ⟨hz, hTI, ⟨x0, y0, hTO⟩, h1, h2⟩ := st
    obtain ⟨xs, ys, x, y, hqx, hqy, hx, hy⟩ := hg
    obtain ⟨its, rv, p, _⟩ := I.tuple hqx
    obtain ⟨its2, rv2, p2, _⟩ := I.list hqy
    obtain ⟨u, hu, ru⟩ := rv.get hx
    obtain ⟨u2, hu2, ru2⟩ := rv2.get hy
    have hzl : z < s.heap.objs.size := Heap.lt_size hz
    have hd0 : X.A.in1.handled = none := I.ok.hd hc
    have l1 : i < its.toArray.size := by have := (List.getElem?_eq_some_iff.mp hu).1; simpa using this
    have l2 : i < its2.toArray.size := by have := (List.getElem?_eq_some_iff.mp hu2).1; simpa using this
    refine wpAny_pyNext_zipD2_item S (Draws.tuple hd0 i1 a ha its.toArray) (Draws.list hd0 i2 b hb its2.toArray) hz hTI hTO ⟨h1, p⟩ ⟨h2, p2.isList⟩ l1 l2 fun x1 x2 h' tk y1 y2 z' TO' s1' s2' hT hsz hk => ?_
    have ey1 : x1 = u := by
      have e1 : its.toArray[i]? = some x1 := y1
      have e2 : its.toArray[i]? = some u := by simpa using hu
      rw [e1] at e2
      exact Option.some.inj e2
    have ey2 : x2 = u2 := by
      have e1 : its2.toArray[i]? = some x2 := y2
      have e2 : its2.toArray[i]? = some u2 := by simpa using hu2
      rw [e1] at e2
      exact Option.some.inj e2
    subst ey1 ey2
    refine ⟨_, rfl, wpAny_letOwnedTupleGo_zip (s := { s with heap := h', toks := tk }) z' fun h'' z'' sb => ?_⟩
    have hT2 := (sb.2 _ (Nat.ne_of_gt hzl)).trans hT
    have new : ObjOk X.prog X.w (upd H s.heap.objs.size (.tup [x, y])) h'' s.heap.objs.size (.tup [x, y]) :=
      ⟨by show 2 ≤ sizeLine; decide, [x1, x2], .cons ru (.cons ru2 .nil), ⟨_, hT2, rfl, _, rfl⟩⟩
    have I1 : Inv X pins σ (upd H s.heap.objs.size (.tup [x, y])) { s with heap := h'', toks := tk } :=
      I.turnedNew (ch := [z, TI, TO, i1, i2]) (fun c o hb' q => (sb.2 c fun q' => hb' (by simp [q'])).trans (hk c o (fun q' => hb' (by simp [q'])) (fun q' => hb' (by simp [q'])) (fun q' => hb' (by simp [q'])) (fun q' => hb' (by simp [q'])) q)) hf (Nat.le_refl _) new
    refine ⟨.ref s.heap.objs.size, _, I1, rfl, ⟨_, x, y, rfl, I.hok.fresh (Nat.le_refl _), rfl, fun l hl => by rw [I.tuple_inj hl hqx]; exact hx, fun l hl => by rw [I.list_inj hl hqy]; exact hy⟩, ⟨z'', ?_, ⟨x1, x2, ?_⟩, ?_, ?_⟩, fun c hcm => ?_⟩
    · exact (sb.2 _ S.TIz).trans (hk _ _ S.TIz S.TITO S.TIi1 S.TIi2 hTI)
    · exact (sb.2 _ S.TOz).trans TO'
    · exact s1'.1.at fun o q => (sb.2 _ S.zi1.symm).trans q
    · exact s2'.1.at fun o q => (sb.2 _ S.zi2.symm).trans q
    · have hlt : c < s.heap.objs.size := by
        rcases five hcm with q | q | q | q | q <;> subst q
        · exact hzl
        · exact Heap.lt_size hTI
        · exact Heap.lt_size hTO
        · obtain ⟨_, e1, _⟩ := h1; exact Heap.lt_size e1
        · obtain ⟨_, e1, _⟩ := h2; exact Heap.lt_size e1
      rw [upd_ne (Nat.ne_of_lt hlt)]
      exact (hf c hcm).1
  · intro X hP hw hK hc i pins s σ H E I hf st hg
    subst hP hw hK
    obtain ⟨hz, hTI, ⟨x0, y0, hTO⟩, h1, h2⟩ := st
    obtain ⟨xs, ys, hqx, hqy, e1, e2⟩ := hg
    obtain ⟨its, rv, p, _⟩ := I.tuple hqx
    obtain ⟨its2, rv2, p2, _⟩ := I.list hqy
    have l1 := rv.length
    have l2 := rv2.length
    have hd0 : X.A.in1.handled = none := I.ok.hd hc
    refine wpAny_pyNext_zipD2_end S (Draws.tuple hd0 i1 a ha its.toArray) (Draws.list hd0 i2 b hb its2.toArray) hz hTI hTO ⟨h1, p⟩ ⟨h2, p2.isList⟩ (by simp; omega) (by simp; omega) (.inl (by simp; omega)) fun h' tk hk => ⟨rfl, I.turnedL (t' := tk) (ch := [z, TI, TO, i1, i2]) (fun c o hb' q =>
      hk c o (fun q' => hb' (by simp [q'])) (fun q' => hb' (by simp [q'])) (fun q' => hb' (by simp [q'])) (fun q' => hb' (by simp [q'])) q) hf⟩
  · exact fun A i s Q E st h => wpAny_pyIter_zip st.1 h
theorem nmem2 {x p q : Nat} (h1 : x ≠ p) (h2 : x ≠ q) : x ∉ [p, q] := by simp [h1, h2]
theorem zsep (n a b : Nat) (ha : a < n) (hb : b < n) : ZipSep2 (n + 4) (n + 2) (n + 3) n (n + 1) [n, a] [n + 1, b] := by
  have h1 : ∀ k, 0 < k → n + k ≠ n := fun k hk => by omega
  have h2 : ∀ k j, k ≠ j → n + k ≠ n + j := fun k j hk => by omega
  have h3 : ∀ k, n + k ≠ a := fun k => by omega
  have h4 : ∀ k, n + k ≠ b := fun k => by omega
  exact ⟨h2 2 4 (by decide), h2 3 4 (by decide), h2 2 3 (by decide), h1 2 (by decide), by simp, nmem2 (h1 4 (by decide)) (h3 4), nmem2 (h1 3 (by decide)) (h3 3), h2 2 1 (by decide), by simp,
    nmem2 (h2 4 1 (by decide)) (h4 4), nmem2 (h2 3 1 (by decide)) (h4 3), nmem2 (h1 1 (by decide)).symm (h4 0), nmem2 (h1 1 (by decide)) (h3 1)⟩
def iZm (K : PySem.W.Frag) (ta : TA) : TI := fun σ H R => ta σ H fun vs H1 => ∃ a b xs ys, vs = [.ref a, .ref b] ∧ SqT K H1 a xs ∧ SqL K H1 b ys ∧ R (ItZm K a b) H1
theorem pi_zm {X : Cx} {e e2 : Expr} {ta : TA} {p pos tpos : Pos} {elts : List Expr} {kk : Nat} (hg : Gl X "zip") (hm : X.mg "zip" = none) (ha : PA X [e, e2] ta)
    (hs : starEach [e, e2] X.env = (false, eval e X.env) :: starEach [e2] X.env := by rfl) (hpl : (backTo pos (starEach [e2] X.env)).any (·.1) = false := by rfl) :
    PI X (.Tuple elts kk tpos) (.Call (.Name "zip" p) [e, e2] [] pos) (iZm X.K ta) := by
  refine ⟨fun pins s σ H R I h => Call_ (ld_blt I hg hm PyProof.Rows.boot_zip (PyProof.Rows.callWith_type1 (thn (ha.run pos pins s σ H _ I h) fun us s1 ⟨vs, H1, I1, r1, q1⟩ => ?_) hs hpl))⟩
  obtain ⟨a, b, xs, ys, rfl, hqx, hqy, q⟩ := q1
  obtain ⟨u, u2, rfl, ru, ru2⟩ := Vals.two r1
  cases (show u = Value.ref a from ru)
  cases (show u2 = Value.ref b from ru2)
  obtain ⟨its, rv, p1, _⟩ := I1.tuple hqx
  obtain ⟨its2, rv2, p2, _⟩ := I1.list hqy
  have hal : a < s1.heap.objs.size := by obtain ⟨_, ho, _⟩ := id p1; exact Heap.lt_size ho
  have hbl : b < s1.heap.objs.size := p2.lt
  refine zip_begins2 (begins_tuple a its.toArray) (begins_list b its2.toArray) p1 p2.isList fun h' hz hTI hTO g1 g2 hsz hk => wpAny_pyIter_zip hz ?_
  have I2 : Inv X pins σ H1 { s1 with heap := h' } := I1.kept (t' := s1.toks) hk
  have S := zsep s1.heap.objs.size a b hal hbl
  have hab : a ≠ s1.heap.objs.size := Nat.ne_of_lt hal
  have hbb : b ≠ s1.heap.objs.size + 1 := Nat.ne_of_lt (Nat.lt_succ_of_lt hbl)
  refine ⟨s1.heap.objs.size + 4, [s1.heap.objs.size + 4, s1.heap.objs.size + 2, s1.heap.objs.size + 3, s1.heap.objs.size, s1.heap.objs.size + 1], _, _, H1, rfl, I2, turn_zm S hab hbb, ⟨hz, hTI, ⟨_, _, hTO⟩, ⟨_, g1, rfl, rfl⟩, ⟨_, g2, rfl, rfl⟩⟩, fun c hcm => ?_, q⟩
  have hle : s1.heap.objs.size ≤ c := by
    have e' : c = s1.heap.objs.size + 4 ∨ c = s1.heap.objs.size + 2 ∨ c = s1.heap.objs.size + 3 ∨ c = s1.heap.objs.size ∨ c = s1.heap.objs.size + 1 := by simpa using hcm
    rcases e' with e | e | e | e | e <;> (rw [e]; simp)
  exact I1.fpOk hle (I1.hok.fresh hle)
end Tw
/-! The mirror of the package's timers in plain Lean, and its mathematics. -/
namespace TwM
structure Lv where
  g : Int
  s : Int
  p : Int
  deriving DecidableEq, Inhabited
structure Bk where
  up : Bool
  fire : Bool
  high : Bool
  put : Bool
  zone : Bool
  bey : Nat
  deriving DecidableEq, Inhabited
structure Spot where
  lv : Nat
  pt : Int
  due : Int
  deriving DecidableEq, Inhabited
def lv (W : List Lv) (i : Nat) : Lv := W.getD i default
def reach (W : List Lv) : Int := (lv W (W.length - 1)).p
def rnd (up : Bool) (t g : Int) : Int := if up then -((-t) / g) else t / g
def levelOf : List Lv → Int → Option Nat
  | [], _ => none
  | l :: ls, d => if d < l.p then some 0 else (levelOf ls d).map (· + 1)
def levelIx (W : List Lv) (d : Int) : Nat := (levelOf W d).getD (W.length - 1)
def spotAt (W : List Lv) (B : Bk) (now rest due : Int) : Spot := match levelOf W rest with
  | some i => ⟨i, rnd B.up (now + rest) (lv W i).g, due⟩
  | none => ⟨W.length - 1, rnd B.up (now + reach W - 1) (lv W (W.length - 1)).g, due⟩
def va (l : Lv) (pt now : Int) : Int := (now / l.g + 1 + (pt - now / l.g - 1) % l.s) * l.g
def isVis (l : Lv) (pt before now : Int) : Bool := decide ((pt - before / l.g - 1) % l.s < now / l.g - before / l.g)
def taken (W : List Lv) (B : Bk) (sp : Spot) (tick : Int) : Option Spot :=
  if sp.lv = 0 ∨ B.fire = true then none
  else if tick < sp.due then some (spotAt W B tick (sp.due - tick) sp.due)
  else if B.put = true then some ⟨0, tick, sp.due⟩ else none
def order (W : List Lv) (B : Bk) : List Nat := if B.high = true then (List.range W.length).reverse else List.range W.length
def visGo (W : List Lv) (B : Bk) (before now : Int) : List Nat → Spot → List (Option Spot)
  | [], _ => []
  | i :: is, sp => if sp.lv = i ∧ isVis (lv W i) sp.pt before now = true then
      (match taken W B sp now with
        | none => [none]
        | some s' => some s' :: visGo W B before now is s')
      else visGo W B before now is sp
def visited (W : List Lv) (B : Bk) (sp : Spot) (before now : Int) : List (Option Spot) := visGo W B before now (order W B) sp
def skipped (W : List Lv) (sp : Spot) (tick : Int) (limit : Option Int) : Int × Int :=
  if sp.lv ≠ W.length - 1 ∨ sp.due - tick < reach W then (0, 0)
  else
    let step := va (lv W sp.lv) sp.pt tick - tick
    let many := (sp.due - tick - reach W) / step
    match limit with
    | none => (many, step)
    | some lim => (min many ((lim - tick) / step), step)
def over (limit : Option Int) (t : Int) : Bool := match limit with
  | none => false
  | some l => decide (l < t)
abbrev Res := Option Spot × Int × Int
def fol (W : List Lv) (B : Bk) (limit : Option Int) : Nat → Spot → Int → Int → Option Res
  | 0, _, _, _ => none
  | n + 1, sp, tick, mv =>
    let t := va (lv W sp.lv) sp.pt tick
    if over limit t = true then some (some sp, tick, mv)
    else
      let found := visited W B sp (t - 1) t
      match found.getLast? with
      | none => none
      | some none => some (none, t, mv + found.length - 1)
      | some (some sp') =>
        let k := skipped W sp' t limit
        if 0 < k.1 then fol W B limit n (spotAt W B (t + k.1 * k.2) (sp'.due - (t + k.1 * k.2)) sp'.due) (t + k.1 * k.2) (mv + found.length + k.1)
        else fol W B limit n sp' t (mv + found.length)
structure WOk (W : List Lv) : Prop where
  pos : 0 < W.length
  len : W.length ≤ 5
  all : ∀ i, i < W.length → 1 ≤ (lv W i).g ∧ (lv W i).g ≤ 1000 ∧ 2 ≤ (lv W i).s ∧ (lv W i).s ≤ 100 ∧ 2 ≤ (lv W i).p
  first : (lv W 0).g = 1
  dv : ∀ i, i + 1 < W.length → (lv W i).g ∣ (lv W (i + 1)).g
  asc : ∀ i, i + 1 < W.length → (lv W i).p < (lv W (i + 1)).p
theorem levelOf_lt : ∀ {W : List Lv} {d : Int} {i : Nat}, levelOf W d = some i → i < W.length ∧ d < (lv W i).p
  | [], _, _, h => by simp [levelOf] at h
  | l :: ls, d, i, h => by
    unfold levelOf at h
    split at h
    · cases h
      rename_i hd
      exact ⟨by simp, by simpa [lv] using hd⟩
    · cases q : levelOf ls d with
      | none => rw [q] at h; cases h
      | some j =>
        rw [q] at h
        have e : j + 1 = i := Option.some.inj h
        subst e
        obtain ⟨h1, h2⟩ := levelOf_lt q
        refine ⟨by simpa using h1, ?_⟩
        have : lv (l :: ls) (j + 1) = lv ls j := by simp [lv]
        rw [this]; exact h2
theorem levelOf_none : ∀ {W : List Lv} {d : Int}, levelOf W d = none → ∀ i, i < W.length → (lv W i).p ≤ d
  | [], _, _, i, h => by simp at h
  | l :: ls, d, h, i, hi => by
    unfold levelOf at h
    split at h
    · cases h
    · rename_i hd
      cases q : levelOf ls d with
      | some j => rw [q] at h; cases h
      | none =>
        cases i with
        | zero => simp [lv]; omega
        | succ i =>
          have := levelOf_none q i (by simpa using hi)
          have e : lv (l :: ls) (i + 1) = lv ls i := by simp [lv]
          rw [e]; exact this
theorem levelOf_ge : ∀ {W : List Lv} {d : Int} {i : Nat}, levelOf W d = some i → ∀ j, j < i → (lv W j).p ≤ d
  | [], _, _, h => by simp [levelOf] at h
  | l :: ls, d, i, h => by
    intro j hj
    unfold levelOf at h
    split at h
    · cases h; omega
    · rename_i hd
      cases q : levelOf ls d with
      | none => rw [q] at h; cases h
      | some k =>
        rw [q] at h
        have e : k + 1 = i := Option.some.inj h
        subst e
        cases j with
        | zero => simp [lv]; omega
        | succ j =>
          have := levelOf_ge q j (by omega)
          have e : lv (l :: ls) (j + 1) = lv ls j := by simp [lv]
          rw [e]; exact this
theorem levelOf_is : ∀ {W : List Lv} {d : Int} {i : Nat}, i < W.length → (∀ j, j < i → (lv W j).p ≤ d) → d < (lv W i).p → levelOf W d = some i
  | [], _, _, h, _, _ => by simp at h
  | l :: ls, d, 0, _, _, h => by
    unfold levelOf
    rw [if_pos (by simpa [lv] using h)]
  | l :: ls, d, i + 1, hi, hp, h => by
    have e : ∀ j, lv (l :: ls) (j + 1) = lv ls j := fun j => by simp [lv]
    have h0 := hp 0 (by omega)
    unfold levelOf
    rw [if_neg (by simp [lv] at h0; omega), levelOf_is (by simpa using hi) (fun j hj => by have := hp (j + 1) (by omega); rwa [e] at this) (by rwa [e] at h)]
    rfl
theorem levelOf_isN : ∀ {W : List Lv} {d : Int}, (∀ j, j < W.length → (lv W j).p ≤ d) → levelOf W d = none
  | [], _, _ => rfl
  | l :: ls, d, hp => by
    have e : ∀ j, lv (l :: ls) (j + 1) = lv ls j := fun j => by simp [lv]
    have h0 := hp 0 (by simp)
    unfold levelOf
    rw [if_neg (by simp [lv] at h0; omega), levelOf_isN (fun j hj => by have := hp (j + 1) (by simpa using hj); rwa [e] at this)]
    rfl
theorem spotAt_lt {W : List Lv} (ok : WOk W) (B : Bk) (now rest due : Int) : (spotAt W B now rest due).lv < W.length := by
  unfold spotAt
  split
  · rename_i i h; exact (levelOf_lt h).1
  · have := ok.pos; show W.length - 1 < W.length; omega
theorem spotAt_due (W : List Lv) (B : Bk) (now rest due : Int) : (spotAt W B now rest due).due = due := by
  unfold spotAt
  split <;> rfl
theorem va_gt {l : Lv} (hg : 0 < l.g) (hs : 0 < l.s) (pt now : Int) : now < va l pt now := by
  unfold va
  have h1 : 0 ≤ (pt - now / l.g - 1) % l.s := Int.emod_nonneg _ (by omega)
  have h2 : (now / l.g + 1) * l.g ≤ (now / l.g + 1 + (pt - now / l.g - 1) % l.s) * l.g := Int.mul_le_mul_of_nonneg_right (by omega) (by omega)
  have h3 : now < (now / l.g + 1) * l.g := Int.lt_ediv_add_one_mul_self now hg
  omega
theorem va_vis {l : Lv} (hg : 0 < l.g) (hs : 0 < l.s) (pt now : Int) : isVis l pt (va l pt now - 1) (va l pt now) = true := by
  unfold isVis va
  generalize hq : now / l.g + 1 + (pt - now / l.g - 1) % l.s = q
  have e1 : q * l.g / l.g = q := Int.mul_ediv_cancel _ (by omega)
  have e2 : (q * l.g - 1) / l.g = q - 1 := by
    have h1 : q * l.g - 1 = (l.g - 1) + (q - 1) * l.g := by rw [Int.sub_mul]; omega
    rw [h1, Int.add_mul_ediv_right _ _ (by omega), Int.ediv_eq_zero_of_lt (by omega) (by omega)]
    omega
  rw [e1, e2]
  have e3 : pt - (q - 1) - 1 = pt - q := by omega
  rw [e3]
  have e4 : (pt - q) % l.s = 0 := by
    rw [← hq]
    have : pt - (now / l.g + 1 + (pt - now / l.g - 1) % l.s) = (pt - now / l.g - 1) - (pt - now / l.g - 1) % l.s := by omega
    rw [this, Int.sub_emod, Int.emod_emod_of_dvd _ (Int.dvd_refl _)]
    simp
  rw [e4]
  simp
  omega
theorem taken_some {W : List Lv} (ok : WOk W) {B : Bk} {sp sp' : Spot} {tick : Int} (h : taken W B sp tick = some sp') :
    sp'.lv < W.length ∧ sp'.due = sp.due ∧ sp.lv ≠ 0 ∧ B.fire = false ∧ (tick < sp.due ∧ sp' = spotAt W B tick (sp.due - tick) sp.due ∨ sp.due ≤ tick ∧ B.put = true ∧ sp' = ⟨0, tick, sp.due⟩) := by
  unfold taken at h
  split at h
  · cases h
  · rename_i hn
    have h1 : sp.lv ≠ 0 := fun e => hn (.inl e)
    have h2 : B.fire = false := by
      cases e : B.fire
      · rfl
      · exact absurd (.inr e) hn
    split at h
    · rename_i hd
      cases h
      exact ⟨spotAt_lt ok _ _ _ _, spotAt_due _ _ _ _ _, h1, h2, .inl ⟨hd, rfl⟩⟩
    · rename_i hd
      split at h
      · rename_i hp
        cases h
        exact ⟨ok.pos, rfl, h1, h2, .inr ⟨by omega, hp, rfl⟩⟩
      · cases h
theorem visGo_last {W : List Lv} (ok : WOk W) {B : Bk} {before now : Int} : ∀ (is : List Nat) {sp sp' : Spot}, (visGo W B before now is sp).getLast? = some (some sp') →
    sp'.lv < W.length ∧ sp'.due = sp.due ∧ B.fire = false ∧ (now < sp.due ∧ sp' = spotAt W B now (sp.due - now) sp.due ∨ sp.due ≤ now ∧ sp' = ⟨0, now, sp.due⟩)
  | [], sp, sp', h => by simp [visGo] at h
  | i :: is, sp, sp', h => by
    unfold visGo at h
    split at h
    · cases q : taken W B sp now with
      | none => rw [q] at h; simp at h
      | some s1 =>
        rw [q] at h
        dsimp only at h
        obtain ⟨a1, a2, a3, a4, a5⟩ := taken_some ok q
        cases hr : visGo W B before now is s1 with
        | nil =>
          rw [hr] at h
          have e : s1 = sp' := by simpa using h
          subst e
          refine ⟨a1, a2, a4, ?_⟩
          rcases a5 with ⟨b1, b2⟩ | ⟨b1, _, b2⟩
          · exact .inl ⟨b1, b2⟩
          · exact .inr ⟨b1, b2⟩
        | cons x xs =>
          rw [hr] at h
          have h' : (visGo W B before now is s1).getLast? = some (some sp') := by
            rw [hr]
            rw [List.getLast?_cons] at h
            cases hx : (x :: xs).getLast? with
            | none => simp at hx
            | some z => rw [hx] at h; simpa using h
          obtain ⟨c1, c2, c3, c4⟩ := visGo_last ok is h'
          refine ⟨c1, c2.trans a2, c3, ?_⟩
          rw [a2] at c4
          exact c4
    · exact visGo_last ok is h
theorem visGo_ne {W : List Lv} {B : Bk} {before now : Int} : ∀ (is : List Nat) {sp : Spot}, sp.lv ∈ is → isVis (lv W sp.lv) sp.pt before now = true → visGo W B before now is sp ≠ []
  | [], sp, h, _ => by simp at h
  | i :: is, sp, h, hv => by
    unfold visGo
    by_cases e : sp.lv = i
    · rw [if_pos ⟨e, by rw [← e]; exact hv⟩]
      cases taken W B sp now <;> simp
    · rw [if_neg (fun z => e z.1)]
      exact visGo_ne is (by rcases List.mem_cons.mp h with q | q; exact absurd q e; exact q) hv
theorem mem_order {W : List Lv} {B : Bk} {i : Nat} : i ∈ order W B ↔ i < W.length := by
  unfold order
  split <;> simp
theorem visited_ne {W : List Lv} (ok : WOk W) {B : Bk} {sp : Spot} (hl : sp.lv < W.length) (tick : Int) :
    visited W B sp (va (lv W sp.lv) sp.pt tick - 1) (va (lv W sp.lv) sp.pt tick) ≠ [] :=
  visGo_ne _ (mem_order.mpr hl) (va_vis (by have := ok.all _ hl; omega) (by have := ok.all _ hl; omega) _ _)
def mu (sp : Spot) (tick : Int) : Nat := if sp.lv = 0 then 1 else 2 + (sp.due - tick).toNat
theorem visGo_zero {W : List Lv} {B : Bk} {before now : Int} : ∀ (is : List Nat) {sp : Spot}, sp.lv = 0 → ∀ x ∈ visGo W B before now is sp, x = none
  | [], sp, _, x, h => by simp [visGo] at h
  | i :: is, sp, h0, x, h => by
    unfold visGo at h
    split at h
    · have e : taken W B sp now = none := by unfold taken; rw [if_pos (.inl h0)]
      rw [e] at h
      simpa using h
    · exact visGo_zero is h0 x h
theorem skipped_pos {W : List Lv} {sp : Spot} {tick : Int} {limit : Option Int} (h : 0 < (skipped W sp tick limit).1) :
    sp.lv = W.length - 1 ∧ reach W ≤ sp.due - tick ∧ (skipped W sp tick limit).2 = va (lv W sp.lv) sp.pt tick - tick ∧ (skipped W sp tick limit).1 ≤ (sp.due - tick - reach W) / (va (lv W sp.lv) sp.pt tick - tick) := by
  unfold skipped at h ⊢
  split at h
  · simp at h
  · rename_i hn
    have h1 : sp.lv = W.length - 1 := Classical.byContradiction fun e => hn (.inl e)
    have h2 : reach W ≤ sp.due - tick := by
      rcases Int.lt_or_le (sp.due - tick) (reach W) with e | e
      · exact absurd (.inr e) hn
      · exact e
    rw [if_neg hn]
    refine ⟨h1, h2, ?_⟩
    cases limit with
    | none => exact ⟨rfl, Int.le_refl _⟩
    | some l => exact ⟨rfl, Int.min_le_left _ _⟩
theorem fol_ends {W : List Lv} (ok : WOk W) (B : Bk) (limit : Option Int) : ∀ (n : Nat) (sp : Spot) (tick mv : Int), sp.lv < W.length → mu sp tick ≤ n → ∃ r, fol W B limit n sp tick mv = some r
  | 0, sp, tick, mv, _, h => by unfold mu at h; split at h <;> omega
  | n + 1, sp, tick, mv, hl, h => by
    have hall := ok.all _ hl
    have hgt := va_gt (l := lv W sp.lv) (by omega) (by omega) sp.pt tick
    unfold fol
    dsimp only
    split
    · exact ⟨_, rfl⟩
    · have hne := visited_ne ok (B := B) hl tick
      cases hq : (visited W B sp (va (lv W sp.lv) sp.pt tick - 1) (va (lv W sp.lv) sp.pt tick)).getLast? with
      | none => exact absurd (List.getLast?_eq_none_iff.mp hq) hne
      | some o =>
        cases o with
        | none => exact ⟨_, rfl⟩
        | some sp' =>
          have h0 : sp.lv ≠ 0 := fun e => by
            have := visGo_zero (W := W) (B := B) (before := va (lv W sp.lv) sp.pt tick - 1) (now := va (lv W sp.lv) sp.pt tick) (order W B) e (some sp') (List.mem_of_getLast? hq)
            cases this
          obtain ⟨c1, c2, c3, c4⟩ := visGo_last ok _ hq
          have hm : 2 + (sp.due - tick).toNat ≤ n + 1 := by unfold mu at h; rw [if_neg h0] at h; exact h
          have hmu : mu sp' (va (lv W sp.lv) sp.pt tick) ≤ n := by
            unfold mu
            split
            · omega
            · rename_i hz
              rcases c4 with ⟨d1, d2⟩ | ⟨d1, d2⟩
              · rw [c2]; omega
              · exact absurd (by rw [d2]) hz
          dsimp only
          split
          · rename_i hk
            obtain ⟨k1, k2, k3, k4⟩ := skipped_pos hk
            refine fol_ends ok B limit n _ _ _ (spotAt_lt ok _ _ _ _) ?_
            have hs : 0 < va (lv W sp'.lv) sp'.pt (va (lv W sp.lv) sp.pt tick) - va (lv W sp.lv) sp.pt tick := by
              have hall' := ok.all _ c1
              have := va_gt (l := lv W sp'.lv) (by omega) (by omega) sp'.pt (va (lv W sp.lv) sp.pt tick)
              omega
            have hadd : 0 < (skipped W sp' (va (lv W sp.lv) sp.pt tick) limit).1 * (skipped W sp' (va (lv W sp.lv) sp.pt tick) limit).2 := Int.mul_pos hk (by rw [k3]; exact hs)
            have hr := ok.all (W.length - 1) (by have := ok.pos; omega)
            unfold mu
            split
            · omega
            · rw [spotAt_due, c2]
              rw [c2] at k2
              unfold reach at k2
              omega
          · exact fol_ends ok B limit n sp' _ _ c1 hmu
end TwM
/-! Tw: what stands in the heap; the readings' short words -/
namespace Tw
open PySem PySem.Spec PyProof.Rows L2 He TwM
open PySem.W (Frag)
/-! ### operators by short names -/
abbrev oAdd : R2 := rI0 fun i j => .int (i + j)
abbrev oSub : R2 := rI0 fun i j => .int (i - j)
abbrev oMul : R2 := rI CMul fun i j => .int (i * j)
abbrev oDiv : R2 := rI CDiv fun i j => .int (i / j)
abbrev oMod : R2 := rI (fun _ j => 0 < j) fun i j => .int (i % j)
abbrev oPow : R2 := rI CPow fun i j => .int (i ^ j.toNat)
abbrev oDivW : R2 := rI CDivW fun i j => .int (i / j)
abbrev oMulW : R2 := rI CMulW fun i j => .int (i * j)
abbrev oNeg : V → Hp → VK → Prop := rU fun i => .int (-i)
abbrev oLt : R2 := rI0 fun i j => .bl (decide (i < j))
abbrev oLe : R2 := rI0 fun i j => .bl (decide (i ≤ j))
abbrev oGt : R2 := rI0 fun i j => .bl (decide (j < i))
abbrev oGe : R2 := rI0 fun i j => .bl (decide (j ≤ i))
abbrev oAddS : R2 := fun x y H Q => ∃ i j, x = .str i ∧ y = .str j ∧ i.length + j.length ≤ sizeLine ∧ Q (.str (i ++ j)) H
abbrev oIsN : R2 := fun x y H Q => y = .non ∧ Q (.bl (decide (x = .non))) H
abbrev oNotN : R2 := fun x y H Q => y = .non ∧ Q (.bl (!decide (x = .non))) H
abbrev oAbs : List V → Hp → VK → Prop := fun xs H Q => ∃ i, xs = [.int i] ∧ Q (.int (if i < 0 then -i else i)) H
abbrev oMax2 : List V → Hp → VK → Prop := fun xs H Q => ∃ i j, xs = [.int i, .int j] ∧ Q (.int (if j > i then j else i)) H
abbrev oMin2 : List V → Hp → VK → Prop := fun xs H Q => ∃ i j, xs = [.int i, .int j] ∧ Q (.int (if j < i then j else i)) H
abbrev oInt1 : List V → Hp → VK → Prop := fun xs H Q => (∃ i, xs = [.int i] ∧ Q (.int i) H) ∨ ∃ k, xs = [.bl k] ∧ Q (.int (if k then 1 else 0)) H
abbrev oBool1 : List V → Hp → VK → Prop := fun xs H Q => (∃ i, xs = [.int i] ∧ Q (.bl (i != 0)) H) ∨ ∃ k, xs = [.bl k] ∧ Q (.bl k) H
abbrev oStrI : List V → Hp → VK → Prop := fun xs H Q => ∃ i, xs = [.int i] ∧ i.natAbs.log2 < 1920 ∧ Q (.str (toString i)) H
abbrev oLenS : List V → Hp → VK → Prop := fun xs H Q => ∃ z, xs = [.str z] ∧ z.length ≤ sizeLine ∧ Q (.int z.length) H
abbrev oSplit : V → List V → Hp → VK → Prop := fun x xs H Q => ∃ a b, x = .str a ∧ xs = [.str b] ∧ (b.length == 0) = false ∧ a.length + 2 ≤ sizeLine ∧ rNewStrs (Txt.split a b) H Q
theorem sc_ii (i j : Int) : scal (.int i) (.int j) = true := rfl
theorem sc_ss (i j : Str) : scal (.str i) (.str j) = true := rfl
theorem sc_bb (i j : Bool) : scal (.bl i) (.bl j) = true := rfl
theorem sc_ni (j : Int) : scal .non (.int j) = true := rfl
theorem sc_in (j : Int) : scal (.int j) .non = true := rfl
theorem sc_nn : scal .non .non = true := rfl
theorem sc_is (i : Int) (j : Str) : scal (.int i) (.str j) = true := rfl
theorem isi_base {K : Frag} {H : Hp} {Q : VK} {x : V} {t n : String} {b : Bool} (ty : TyX K H x (.type t)) (h : kitB t n = some b) (q : Q (.bl b) H) : rIsi K [x, .ty n] H Q := ⟨x, .ty n, _, _, b, rfl, .ty n, ty, kit_ty h, q⟩
abbrev six : List Str := ["rounding", "action", "order", "due", "zero", "beyond"]
structure Klv (K : Frag) (w : World) : Prop where
  cL : Cls K (ga K "Level")
  nLg : NoAttr K (ga K "Level") "kept_grain"
  nLs : NoAttr K (ga K "Level") "kept_slots"
  nLp : NoAttr K (ga K "Level") "kept_span"
  iL : IsiC K (ga K "Level")
  kL : PySem.W.kitOne K (.ref (ga K "Level")) (.ref (ga K "Level")) = some true
structure Kl (K : Frag) (w : World) : Prop extends Klv K w where
  cW : Cls K (ga K "Wheel")
  nWl : NoAttr K (ga K "Wheel") "kept_levels"
structure Kfb (K : Frag) (w : World) : Prop where
  cB : Cls K (ga K "Book")
  nBv : NoAttr K (ga K "Book") "kept_values"
  sw : ∀ H, SqT K H (ga K "SWITCHES") (six.map V.str)
  vd : ∀ x, x ∈ six → KDct K w (ga K "VALUES") x (.ref (dva K (ga K "VALUES") x))
  v0 : ∀ H, SqT K H (dva K (ga K "VALUES") "rounding") [.str "down", .str "up"]
  v1 : ∀ H, SqT K H (dva K (ga K "VALUES") "action") [.str "fire", .str "move"]
  v2 : ∀ H, SqT K H (dva K (ga K "VALUES") "order") [.str "high", .str "low"]
  v3 : ∀ H, SqT K H (dva K (ga K "VALUES") "due") [.str "now", .str "put"]
  v4 : ∀ H, SqT K H (dva K (ga K "VALUES") "zero") [.str "now", .str "one"]
  v5 : ∀ H, SqT K H (dva K (ga K "VALUES") "beyond") [.str "refuse", .str "last", .str "cut"]
structure Kf (K : Frag) (w : World) : Prop extends Kl K w, Kfb K w
/-! ### what stands in the heap -/
structure LOk (l : Lv) : Prop where
  g1 : 1 ≤ l.g
  g2 : l.g ≤ 1000
  s1 : 2 ≤ l.s
  s2 : l.s ≤ 100
def lfs (l : Lv) : List (Str × V) := [("kept_grain", .int l.g), ("kept_slots", .int l.s), ("kept_span", .int l.p)]
structure LvAt (K : Frag) (H : Hp) (a : Addr) (l : Lv) : Prop where
  ok : LOk l
  at_ : ∃ dx, H a = some (.ins (ga K "Level") dx (lfs l))
structure WhAt (K : Frag) (H : Hp) (a : Addr) (W : List Lv) : Prop where
  ok : WOk W
  at_ : ∃ (dx t : Addr) (as : List Addr), H a = some (.ins (ga K "Wheel") dx [("kept_levels", .ref t)]) ∧ H t = some (.tup (as.map V.ref)) ∧ as.length = W.length ∧ ∀ i c, as[i]? = some c → LvAt K H c (lv W i)
def sUp (b : Bool) : Str := if b then "up" else "down"
def sFire (b : Bool) : Str := if b then "fire" else "move"
def sHigh (b : Bool) : Str := if b then "high" else "low"
def sPut (b : Bool) : Str := if b then "put" else "now"
def sZone (b : Bool) : Str := if b then "one" else "now"
def sBey (n : Nat) : Str := match n with | 0 => "refuse" | 1 => "last" | _ => "cut"
def bws (B : Bk) : List Str := [sUp B.up, sFire B.fire, sHigh B.high, sPut B.put, sZone B.zone, sBey B.bey]
structure BkAt (K : Frag) (H : Hp) (a : Addr) (B : Bk) : Prop where
  ok : B.bey < 3
  at_ : ∃ dx t, H a = some (.ins (ga K "Book") dx [("kept_values", .ref t)]) ∧ H t = some (.tup ((bws B).map V.str))
def SpAt (H : Hp) (p : Addr) (sp : Spot) : Prop := H p = some (.tup [.int sp.lv, .int sp.pt, .int sp.due])
def OSp (H : Hp) (v : V) (o : Option Spot) : Prop := match o with
  | none => v = .non
  | some sp => ∃ p, v = .ref p ∧ SpAt H p sp
def OSps (H : Hp) (xs : List V) (os : List (Option Spot)) : Prop := xs.length = os.length ∧ ∀ (i : Nat) (v : V) (o : Option Spot), xs[i]? = some v → os[i]? = some o → OSp H v o
section
variable {K : Frag} {H H' : Hp} {a p : Addr}
theorem LvAt.same {l : Lv} (h : LvAt K H a l) (e : Same H H') : LvAt K H' a l := ⟨h.ok, h.at_.elim fun dx q => ⟨dx, e _ _ q⟩⟩
theorem WhAt.same {W : List Lv} (h : WhAt K H a W) (e : Same H H') : WhAt K H' a W := by
  obtain ⟨ok, dx, t, as, h1, h2, h3, h4⟩ := h
  exact ⟨ok, dx, t, as, e _ _ h1, e _ _ h2, h3, fun i c q => (h4 i c q).same e⟩
theorem BkAt.same {B : Bk} (h : BkAt K H a B) (e : Same H H') : BkAt K H' a B := by
  obtain ⟨ok, dx, t, h1, h2⟩ := h
  exact ⟨ok, dx, t, e _ _ h1, e _ _ h2⟩
theorem SpAt.same {sp : Spot} (h : SpAt H p sp) (e : Same H H') : SpAt H' p sp := e _ _ h
theorem OSp.same {v : V} {o : Option Spot} (h : OSp H v o) (e : Same H H') : OSp H' v o := by
  cases o with
  | none => exact h
  | some sp => exact h.elim fun p q => ⟨p, q.1, q.2.same e⟩
theorem OSps.same {xs : List V} {os : List (Option Spot)} (h : OSps H xs os) (e : Same H H') : OSps H' xs os := ⟨h.1, fun i v o q r => (h.2 i v o q r).same e⟩
theorem OSps.nil : OSps H [] [] := ⟨rfl, fun i v o q => by simp at q⟩
theorem LvAt.inj {l l' : Lv} (h : LvAt K H a l) (h' : LvAt K H a l') : l' = l := by
  obtain ⟨_, dx, h1⟩ := h
  obtain ⟨_, dx', h2⟩ := h'
  rw [h1] at h2
  have h3 := Option.some.inj h2
  injection h3 with _ _ h4
  obtain ⟨g, s, p⟩ := l
  obtain ⟨g', s', p'⟩ := l'
  simp only [lfs, List.cons.injEq, Prod.mk.injEq, V.int.injEq, true_and, and_true] at h4
  obtain ⟨e1, e2, e3⟩ := h4
  rw [e1, e2, e3]
theorem lv_ext {W W' : List Lv} (hl : W'.length = W.length) (h : ∀ i, i < W.length → lv W' i = lv W i) : W' = W := by
  refine List.ext_getElem hl fun i h1 h2 => ?_
  have := h i h2
  simpa [lv, List.getD_eq_getElem?_getD, h1, h2] using this
theorem map_inj {α β : Type} {f : α → β} (hf : ∀ a b, f a = f b → a = b) : ∀ {l l' : List α}, l.map f = l'.map f → l = l'
  | [], [], _ => rfl
  | [], _ :: _, h => by simp at h
  | _ :: _, [], h => by simp at h
  | a :: l, b :: l', h => by
    rw [List.map_cons, List.map_cons] at h
    injection h with h1 h2
    rw [hf a b h1, map_inj hf h2]
theorem refs_inj {l l' : List Addr} (h : l.map V.ref = l'.map V.ref) : l = l' := map_inj (fun a b e => V.ref.inj e) h
theorem strs_inj {l l' : List Str} (h : l.map V.str = l'.map V.str) : l = l' := map_inj (fun a b e => V.str.inj e) h
theorem WhAt.inj {W W' : List Lv} (h : WhAt K H a W) (h' : WhAt K H a W') : W' = W := by
  obtain ⟨_, dx, t, as, h1, h2, h3, h4⟩ := h
  obtain ⟨_, dx', t', as', h1', h2', h3', h4'⟩ := h'
  rw [h1] at h1'
  have e1 := Option.some.inj h1'
  injection e1 with _ _ e2
  simp only [List.cons.injEq, Prod.mk.injEq, V.ref.injEq, true_and, and_true] at e2
  subst e2
  rw [h2] at h2'
  have e3 := Option.some.inj h2'
  injection e3 with e4
  have e5 := refs_inj e4
  subst e5
  refine lv_ext (by omega) fun i hi => ?_
  have hi' : i < as.length := by omega
  exact (h4 i _ (List.getElem?_eq_getElem hi')).inj (h4' i _ (List.getElem?_eq_getElem hi'))
theorem bws_inj {B B' : Bk} (hb : B.bey < 3) (hb' : B'.bey < 3) (h : bws B' = bws B) : B' = B := by
  obtain ⟨u, f, h1, p, z, n⟩ := B
  obtain ⟨u', f', h1', p', z', n'⟩ := B'
  simp only [bws, List.cons.injEq, and_true] at h
  obtain ⟨e1, e2, e3, e4, e5, e6⟩ := h
  have a1 : u' = u := by revert e1; cases u <;> cases u' <;> decide +kernel
  have a2 : f' = f := by revert e2; cases f <;> cases f' <;> decide +kernel
  have a3 : h1' = h1 := by revert e3; cases h1 <;> cases h1' <;> decide +kernel
  have a4 : p' = p := by revert e4; cases p <;> cases p' <;> decide +kernel
  have a5 : z' = z := by revert e5; cases z <;> cases z' <;> decide +kernel
  have a6 : n' = n := by
    dsimp only at hb hb'
    revert e6
    match n, n', hb, hb' with
    | 0, 0, _, _ => decide +kernel
    | 0, 1, _, _ => decide +kernel
    | 0, 2, _, _ => decide +kernel
    | 1, 0, _, _ => decide +kernel
    | 1, 1, _, _ => decide +kernel
    | 1, 2, _, _ => decide +kernel
    | 2, 0, _, _ => decide +kernel
    | 2, 1, _, _ => decide +kernel
    | 2, 2, _, _ => decide +kernel
  rw [a1, a2, a3, a4, a5, a6]
theorem BkAt.inj {B B' : Bk} (h : BkAt K H a B) (h' : BkAt K H a B') : B' = B := by
  obtain ⟨ok, dx, t, h1, h2⟩ := h
  obtain ⟨ok', dx', t', h1', h2'⟩ := h'
  rw [h1] at h1'
  have e1 := Option.some.inj h1'
  injection e1 with _ _ e2
  simp only [List.cons.injEq, Prod.mk.injEq, V.ref.injEq, true_and, and_true] at e2
  subst e2
  rw [h2] at h2'
  have e3 := Option.some.inj h2'
  injection e3 with e4
  exact (bws_inj ok' ok (strs_inj e4)).symm
theorem SpAt.inj {s s' : Spot} (h : SpAt H p s) (h' : SpAt H p s') : s' = s := by
  unfold SpAt at h h'
  rw [h] at h'
  have e1 := Option.some.inj h'
  obtain ⟨l, a, b⟩ := s
  obtain ⟨l', a', b'⟩ := s'
  simp only [HO.tup.injEq, List.cons.injEq, V.int.injEq, and_true] at e1
  obtain ⟨e1, e2, e3⟩ := e1
  have e4 : l' = l := by omega
  rw [e4, e2, e3]
theorem sz0 : (0 ≤ sizeLine) = True := eq_true (by decide)
theorem sz1 : (1 ≤ sizeLine) = True := eq_true (by decide)
theorem sz2 : (2 ≤ sizeLine) = True := eq_true (by decide)
theorem sz3 : (3 ≤ sizeLine) = True := eq_true (by decide)
theorem sz4 : (4 ≤ sizeLine) = True := eq_true (by decide)
theorem sz5 : (5 ≤ sizeLine) = True := eq_true (by decide)
theorem sz6 : (6 ≤ sizeLine) = True := eq_true (by decide)
theorem lk1 (x : Str) (v : V) (r : List (Str × V)) : List.lookup x ((x, v) :: r) = some v := by
  rw [List.lookup_cons, show (x == x) = true from beq_self_eq_true x]
theorem lk2 (x y : Str) (v : V) (r : List (Str × V)) (h : (x == y) = false) : List.lookup x ((y, v) :: r) = List.lookup x r := by
  rw [List.lookup_cons, h]
theorem lfs_g (l : Lv) : (lfs l).lookup ("kept_grain" : Str) = some (.int l.g) := lk1 _ _ _
theorem lfs_s (l : Lv) : (lfs l).lookup ("kept_slots" : Str) = some (.int l.s) := by
  unfold lfs
  rw [lk2 _ _ _ _ (by decide +kernel), lk1]
theorem lfs_p (l : Lv) : (lfs l).lookup ("kept_span" : Str) = some (.int l.p) := by
  unfold lfs
  rw [lk2 _ _ _ _ (by decide +kernel), lk2 _ _ _ _ (by decide +kernel), lk1]
theorem sUp_up (b : Bool) : (sUp b = "up") = (b = true) := by cases b <;> decide +kernel
theorem sFire_fire (b : Bool) : (sFire b = "fire") = (b = true) := by cases b <;> decide +kernel
theorem sHigh_high (b : Bool) : (sHigh b = "high") = (b = true) := by cases b <;> decide +kernel
theorem sPut_put (b : Bool) : (sPut b = "put") = (b = true) := by cases b <;> decide +kernel
theorem sZone_now (b : Bool) : (sZone b = "now") = (b = false) := by cases b <;> decide +kernel
theorem sBey_refuse (n : Nat) : (sBey n = "refuse") = (n = 0) := by
  match n with
  | 0 => decide +kernel
  | 1 => decide +kernel
  | n + 2 => exact propext ⟨fun h => absurd h (by show ¬ (("cut" : Str) = "refuse"); decide +kernel), fun h => by omega⟩
theorem sBey_cut (n : Nat) : (sBey n = "cut") = (2 ≤ n) := by
  match n with
  | 0 => exact propext ⟨fun h => absurd h (by decide +kernel), fun h => by omega⟩
  | 1 => exact propext ⟨fun h => absurd h (by decide +kernel), fun h => by omega⟩
  | n + 2 => exact propext ⟨fun h => by omega, fun h => rfl⟩
end
end Tw
/-! Tw: promises and readings of the package's defs -/
namespace Tw
open PySem PySem.Spec PyProof.Rows L2 He TwM
open PySem.W (Frag)
local macro_rules | `(tactic| walk_at "rs") => `(tactic| simp only [and_assoc, tNever, tSeq, tAsg, gName, tVar, tC, tOp, rI, rI0, rU, tUn, oAdd, oSub, oMul, oDiv, oMod, oNeg, oLt, oLe, oGt, oGe, oIsN, oNotN, tFn, tCons, tNil, tIfS, tIf, tTest, tB, tNot, tAnd, tOr, tAndV, tOrV, tNotV,
  tRet, tRetN, tNext, tCB, tDrop, tChain, rEq, rNe, oMax2, oMin2, oInt1, rLenF, L2.start, List.map_cons, List.map_nil, List.length_cons, List.length_nil, List.replicate_succ, List.replicate_zero, List.cons_append, List.nil_append, Nat.reduceAdd, Nat.reduceSub, Nat.zero_add,
  List.set_cons_zero, List.set_cons_succ, List.getElem?_cons_zero, List.getElem?_cons_succ, Option.some.injEq, V.int.injEq, V.ref.injEq, V.str.injEq, V.bl.injEq, exists_eq_left', exists_eq_left, exists_and_left, List.cons.injEq, and_true, true_and, decide_eq_true_eq, sc_ii, sc_ss, sc_bb, sc_ni, sc_in, sc_nn, sc_is, reduceCtorEq,
  Bool.not_eq_true', decide_eq_false_iff_not, if_true, if_false, Bool.false_eq_true, exists_eq', exists_const, false_and, and_false, or_false, false_or, exists_false, Bool.not_not, Bool.not_true, Bool.not_false, sUp_up, sFire_fire, sHigh_high, sPut_put, sZone_now, sBey_refuse, sBey_cut, tTup, tLst, sz0, sz1, sz2, sz3, sz4, sz5, sz6])
section
variable {K : Frag} {w : World}
/-! ### shares -/
def sp_is_integer (K : Frag) : Sp := fun vs H Q _ => ∃ i : Int, vs = [.int i] ∧ Q (.bl true) H
def t_is_integer (K : Frag) (w : World) : TS :=
  (tRet (tAndV (tCB (rIsi K) (tCons (tVar 0) (tCons (tC (.ty "int")) tNil))) (tNotV (tCB (rIsi K) (tCons (tVar 0) (tCons (tC (.ty "bool")) tNil))))))
def n_is_integer : List Str := ["value"]
theorem rd_is_integer (vs : List V) (H : Hp) (Q : VK) (E : XK) (h : sp_is_integer K vs H Q E) : t_is_integer K w { nx := fun _ H' => Q .non H', rt := Q } (start n_is_integer vs) H := by
  obtain ⟨i, rfl, q⟩ := h
  unfold t_is_integer n_is_integer
  walk_at "rs"
  refine isi_base (.base (.int i)) (b := true) (by decide +kernel) ⟨true, rfl, iteT ?_⟩
  exact isi_base (.base (.int i)) (b := false) (by decide +kernel) ⟨false, rfl, q⟩
def sp_is_count (K : Frag) : Sp := fun vs H Q _ => ∃ i : Int, vs = [.int i] ∧ Q (.bl (decide (0 ≤ i))) H
def sp_rounded (K : Frag) : Sp := fun vs H Q _ => ∃ (t g : Int) (u : Bool), vs = [.int t, .int g, .str (sUp u)] ∧ 0 < g ∧ g < 1073741824 ∧ Q (.int (rnd u t g)) H
def sp_is_within (K : Frag) : Sp := fun vs H Q _ => ∃ (i lo hi : Int), vs = [.int i, .int lo, .int hi] ∧ Q (.bl (decide (lo ≤ i ∧ i ≤ hi))) H
local macro_rules | `(tactic| walk_at "rsx") => `(tactic| simp only [*, and_assoc, tNever, List.length_map, tFld, rIxTH, rIxLH, rLenTH, rLenLH, lk1, lfs_g, lfs_s, lfs_p, HO.ins.injEq, HO.tup.injEq, HO.lst.injEq, sp_is_integer, sp_is_count, sp_is_within, sp_rounded, tSeq, tAsg, gName, tVar, tC, tOp, rI, rI0, rU, tUn, oAdd, oSub, oMul, oDiv, oMod, oNeg, oLt, oLe, oGt, oGe, oIsN, oNotN, tFn, tCons, tNil, tIfS, tIf, tTest, tB, tNot, tAnd, tOr, tAndV, tOrV, tNotV,
    tRet, tRetN, tNext, tCB, tDrop, tChain, rEq, rNe, oMax2, oMin2, oInt1, rLenF, L2.start, List.map_cons, List.map_nil, List.length_cons, List.length_nil, List.replicate_succ, List.replicate_zero, List.cons_append, List.nil_append, Nat.reduceAdd, Nat.reduceSub, Nat.zero_add,
    List.set_cons_zero, List.set_cons_succ, List.getElem?_cons_zero, List.getElem?_cons_succ, Option.some.injEq, V.int.injEq, V.ref.injEq, V.str.injEq, V.bl.injEq, exists_eq_left', exists_eq_left, exists_and_left, List.cons.injEq, and_true, true_and, decide_eq_true_eq, sc_ii, sc_ss, sc_bb, sc_ni, sc_in, sc_nn, sc_is, reduceCtorEq,
    Bool.not_eq_true', decide_eq_false_iff_not, if_true, if_false, Bool.false_eq_true, exists_eq', exists_const, false_and, and_false, or_false, false_or, exists_false, Bool.not_not, Bool.not_true, Bool.not_false, sUp_up, sFire_fire, sHigh_high, sPut_put, sZone_now, sBey_refuse, sBey_cut, tTup, tLst, sz0, sz1, sz2, sz3, sz4, sz5, sz6])
/-! ### levels, wheels -/
def sp_Level_grain (K : Frag) : Sp := fun vs H Q _ => ∃ a, vs = [.ref a] ∧ ∃ l, LvAt K H a l ∧ Q (.int l.g) H
def sp_Level_slots (K : Frag) : Sp := fun vs H Q _ => ∃ a, vs = [.ref a] ∧ ∃ l, LvAt K H a l ∧ Q (.int l.s) H
def sp_Level_span (K : Frag) : Sp := fun vs H Q _ => ∃ a, vs = [.ref a] ∧ ∃ l, LvAt K H a l ∧ Q (.int l.p) H
def sp_Wheel_reach (K : Frag) : Sp := fun vs H Q _ => ∃ a, vs = [.ref a] ∧ ∃ W, WhAt K H a W ∧ Q (.int (reach W)) H
def sp_Wheel___len__ (K : Frag) : Sp := fun vs H Q _ => ∃ a, vs = [.ref a] ∧ ∃ W, WhAt K H a W ∧ Q (.int W.length) H
local macro_rules | `(tactic| walk_at "rsy") => `(tactic| simp only [*, and_assoc, tNever, List.length_map, tFld, rIxTH, rIxLH, rLenTH, rLenLH, lk1, lfs_g, lfs_s, lfs_p, HO.ins.injEq, HO.tup.injEq, HO.lst.injEq, sp_Level_grain, sp_Level_slots, sp_Level_span, sp_Wheel_reach, sp_Wheel___len__, sp_is_integer, sp_is_count, sp_is_within, sp_rounded, tSeq, tAsg, gName, tVar, tC, tOp, rI, rI0, rU, tUn, oAdd, oSub, oMul, oDiv, oMod, oNeg, oLt, oLe, oGt, oGe, oIsN, oNotN, tFn, tCons, tNil, tIfS, tIf, tTest, tB, tNot, tAnd, tOr, tAndV, tOrV, tNotV,
    tRet, tRetN, tNext, tCB, tDrop, tChain, rEq, rNe, oMax2, oMin2, oInt1, rLenF, L2.start, List.map_cons, List.map_nil, List.length_cons, List.length_nil, List.replicate_succ, List.replicate_zero, List.cons_append, List.nil_append, Nat.reduceAdd, Nat.reduceSub, Nat.zero_add,
    List.set_cons_zero, List.set_cons_succ, List.getElem?_cons_zero, List.getElem?_cons_succ, Option.some.injEq, V.int.injEq, V.ref.injEq, V.str.injEq, V.bl.injEq, exists_eq_left', exists_eq_left, exists_and_left, List.cons.injEq, and_true, true_and, decide_eq_true_eq, sc_ii, sc_ss, sc_bb, sc_ni, sc_in, sc_nn, sc_is, reduceCtorEq,
    Bool.not_eq_true', decide_eq_false_iff_not, if_true, if_false, Bool.false_eq_true, exists_eq', exists_const, false_and, and_false, or_false, false_or, exists_false, Bool.not_not, Bool.not_true, Bool.not_false, sUp_up, sFire_fire, sHigh_high, sPut_put, sZone_now, sBey_refuse, sBey_cut, tTup, tLst, sz0, sz1, sz2, sz3, sz4, sz5, sz6])
def sp_visit_after (K : Frag) : Sp := fun vs H Q _ => ∃ a pt now, vs = [.ref a, .int pt, .int now] ∧ ∃ l, LvAt K H a l ∧ Q (.int (va l pt now)) H
def sp_is_visited (K : Frag) : Sp := fun vs H Q _ => ∃ a pt before now, vs = [.ref a, .int pt, .int before, .int now] ∧ ∃ l, LvAt K H a l ∧ Q (.bl (isVis l pt before now)) H
/-! ### books -/
def sp_Book_rounding (K : Frag) : Sp := fun vs H Q _ => ∃ a, vs = [.ref a] ∧ ∃ B, BkAt K H a B ∧ Q (.str (sUp B.up)) H
def sp_Book_action (K : Frag) : Sp := fun vs H Q _ => ∃ a, vs = [.ref a] ∧ ∃ B, BkAt K H a B ∧ Q (.str (sFire B.fire)) H
def sp_Book_order (K : Frag) : Sp := fun vs H Q _ => ∃ a, vs = [.ref a] ∧ ∃ B, BkAt K H a B ∧ Q (.str (sHigh B.high)) H
def sp_Book_due (K : Frag) : Sp := fun vs H Q _ => ∃ a, vs = [.ref a] ∧ ∃ B, BkAt K H a B ∧ Q (.str (sPut B.put)) H
def sp_Book_zero (K : Frag) : Sp := fun vs H Q _ => ∃ a, vs = [.ref a] ∧ ∃ B, BkAt K H a B ∧ Q (.str (sZone B.zone)) H
def sp_Book_beyond (K : Frag) : Sp := fun vs H Q _ => ∃ a, vs = [.ref a] ∧ ∃ B, BkAt K H a B ∧ Q (.str (sBey B.bey)) H
local macro_rules | `(tactic| walk_at "rsz") => `(tactic| simp only [*, and_assoc, tNever, List.length_map, tFld, rIxTH, rIxLH, rLenTH, rLenLH, lk1, lfs_g, lfs_s, lfs_p, HO.ins.injEq, HO.tup.injEq, HO.lst.injEq, sp_Book_rounding, sp_Book_action, sp_Book_order, sp_Book_due, sp_Book_zero, sp_Book_beyond, Int.toNat_natCast, sp_visit_after, sp_is_visited, sp_Level_grain, sp_Level_slots, sp_Level_span, sp_Wheel_reach, sp_Wheel___len__, sp_is_integer, sp_is_count, sp_is_within, sp_rounded, tSeq, tAsg, gName, tVar, tC, tOp, rI, rI0, rU, tUn, oAdd, oSub, oMul, oDiv, oMod, oNeg, oLt, oLe, oGt, oGe, oIsN, oNotN, tFn, tCons, tNil, tIfS, tIf, tTest, tB, tNot, tAnd, tOr, tAndV, tOrV, tNotV,
    tRet, tRetN, tNext, tCB, tDrop, tChain, rEq, rNe, oMax2, oMin2, oInt1, rLenF, L2.start, List.map_cons, List.map_nil, List.length_cons, List.length_nil, List.replicate_succ, List.replicate_zero, List.cons_append, List.nil_append, Nat.reduceAdd, Nat.reduceSub, Nat.zero_add,
    List.set_cons_zero, List.set_cons_succ, List.getElem?_cons_zero, List.getElem?_cons_succ, Option.some.injEq, V.int.injEq, V.ref.injEq, V.str.injEq, V.bl.injEq, exists_eq_left', exists_eq_left, exists_and_left, List.cons.injEq, and_true, true_and, decide_eq_true_eq, sc_ii, sc_ss, sc_bb, sc_ni, sc_in, sc_nn, sc_is, reduceCtorEq,
    Bool.not_eq_true', decide_eq_false_iff_not, if_true, if_false, Bool.false_eq_true, exists_eq', exists_const, false_and, and_false, or_false, false_or, exists_false, Bool.not_not, Bool.not_true, Bool.not_false, sUp_up, sFire_fire, sHigh_high, sPut_put, sZone_now, sBey_refuse, sBey_cut, tTup, tLst, sz0, sz1, sz2, sz3, sz4, sz5, sz6])
/-! ### points -/
end
end Tw
/-! Tw: readings of placing, visiting, following -/
namespace Tw
open PySem PySem.Spec PyProof.Rows L2 He TwM
open PySem.W (Frag)
local macro_rules | `(tactic| walk_at "rsz") => `(tactic| simp only [*, and_assoc, not_true_eq_false, not_false_eq_true, tNever, List.length_map, tFld, rIxTH, rIxLH, rLenTH, rLenLH, lk1, lfs_g, lfs_s, lfs_p, HO.ins.injEq, HO.tup.injEq, HO.lst.injEq, sp_Book_rounding, sp_Book_action, sp_Book_order, sp_Book_due, sp_Book_zero, sp_Book_beyond, Int.toNat_natCast, sp_visit_after, sp_is_visited, sp_Level_grain, sp_Level_slots, sp_Level_span, sp_Wheel_reach, sp_Wheel___len__, sp_is_integer, sp_is_count, sp_is_within, sp_rounded, tSeq, tAsg, gName, tVar, tC, tOp, rI, rI0, rU, tUn, oAdd, oSub, oMul, oDiv, oMod, oNeg, oLt, oLe, oGt, oGe, oIsN, oNotN, tFn, tCons, tNil, tIfS, tIf, tTest, tB, tNot, tAnd, tOr, tAndV, tOrV, tNotV,
    tRet, tRetN, tNext, tCB, tDrop, tChain, rEq, rNe, oMax2, oMin2, oInt1, rLenF, L2.start, List.map_cons, List.map_nil, List.length_cons, List.length_nil, List.replicate_succ, List.replicate_zero, List.cons_append, List.nil_append, Nat.reduceAdd, Nat.reduceSub, Nat.zero_add,
    List.set_cons_zero, List.set_cons_succ, List.getElem?_cons_zero, List.getElem?_cons_succ, Option.some.injEq, V.int.injEq, V.ref.injEq, V.str.injEq, V.bl.injEq, exists_eq_left', exists_eq_left, exists_and_left, List.cons.injEq, and_true, true_and, decide_eq_true_eq, sc_ii, sc_ss, sc_bb, sc_ni, sc_in, sc_nn, sc_is, reduceCtorEq,
    Bool.not_eq_true', decide_eq_false_iff_not, if_true, if_false, Bool.false_eq_true, exists_eq', exists_const, false_and, and_false, or_false, false_or, exists_false, Bool.not_not, Bool.not_true, Bool.not_false, sUp_up, sFire_fire, sHigh_high, sPut_put, sZone_now, sBey_refuse, sBey_cut, tTup, tLst, sz0, sz1, sz2, sz3, sz4, sz5, sz6])
theorem at3_0 (a b c : V) : atI [a, b, c] 0 = some a := rfl
theorem at3_1 (a b c : V) : atI [a, b, c] 1 = some b := rfl
theorem at3_2 (a b c : V) : atI [a, b, c] 2 = some c := rfl
theorem at2_0 (a b : V) : atI [a, b] 0 = some a := rfl
theorem at2_1 (a b : V) : atI [a, b] 1 = some b := rfl
theorem atI_m1 {xs : List V} {v : V} (h : xs.getLast? = some v) : atI xs (-1) = some v := by
  have hne : xs ≠ [] := fun e => by rw [e] at h; simp at h
  have e : xs = xs.dropLast ++ [v] := by
    rw [List.getLast?_eq_some_getLast hne] at h
    rw [← Option.some.inj h]
    exact (List.dropLast_concat_getLast hne).symm
  rw [e]
  exact atI_last _ _
theorem Same.updN {H H1 : Hp} {f : Addr} {o : HO} (s : Same H H1) (hn : H f = none) : Same H (upd H1 f o) := fun a u e => by
  rw [upd_ne (ne_of_none e hn)]
  exact s _ _ e
section
variable {K : Frag} {w : World}
def placeM (W : List Lv) (B : Bk) (now delay : Int) : Option Spot :=
  if delay = 0 ∧ B.zone = false then none
  else
    let r0 := if 1 > delay then 1 else delay
    let r := if reach W ≤ r0 ∧ B.bey = 2 then reach W - 1 else r0
    some (spotAt W B now r (now + r))
local macro_rules | `(tactic| walk_at "rst") => `(tactic| simp only [*, at3_0, at3_1, at3_2, at2_0, at2_1, and_assoc, not_true_eq_false, not_false_eq_true, tNever, List.length_map, tFld, rIxTH, rIxLH, rLenTH, rLenLH, lk1, lfs_g, lfs_s, lfs_p, HO.ins.injEq, HO.tup.injEq, HO.lst.injEq, sp_Book_rounding, sp_Book_action, sp_Book_order, sp_Book_due, sp_Book_zero, sp_Book_beyond, Int.toNat_natCast, sp_visit_after, sp_is_visited, sp_Level_grain, sp_Level_slots, sp_Level_span, sp_Wheel_reach, sp_Wheel___len__, sp_is_integer, sp_is_count, sp_is_within, sp_rounded, tSeq, tAsg, gName, tVar, tC, tOp, rI, rI0, rU, tUn, oAdd, oSub, oMul, oDiv, oMod, oNeg, oLt, oLe, oGt, oGe, oIsN, oNotN, tFn, tCons, tNil, tIfS, tIf, tTest, tB, tNot, tAnd, tOr, tAndV, tOrV, tNotV,
    tRet, tRetN, tNext, tCB, tDrop, tChain, rEq, rNe, oMax2, oMin2, oInt1, rLenF, L2.start, List.map_cons, List.map_nil, List.length_cons, List.length_nil, List.replicate_succ, List.replicate_zero, List.cons_append, List.nil_append, Nat.reduceAdd, Nat.reduceSub, Nat.zero_add,
    List.set_cons_zero, List.set_cons_succ, List.getElem?_cons_zero, List.getElem?_cons_succ, Option.some.injEq, V.int.injEq, V.ref.injEq, V.str.injEq, V.bl.injEq, exists_eq_left', exists_eq_left, exists_and_left, List.cons.injEq, and_true, true_and, decide_eq_true_eq, sc_ii, sc_ss, sc_bb, sc_ni, sc_in, sc_nn, sc_is, reduceCtorEq,
    Bool.not_eq_true', decide_eq_false_iff_not, if_true, if_false, Bool.false_eq_true, exists_eq', exists_const, false_and, and_false, or_false, false_or, exists_false, Bool.not_not, Bool.not_true, Bool.not_false, sUp_up, sFire_fire, sHigh_high, sPut_put, sZone_now, sBey_refuse, sBey_cut, tTup, tLst, sz0, sz1, sz2, sz3, sz4, sz5, sz6])
theorem OSps.last {H : Hp} {xs : List V} {os : List (Option Spot)} {o : Option Spot} (h : OSps H xs os) (e : os.getLast? = some o) : ∃ v, xs.getLast? = some v ∧ OSp H v o := by
  have hne : os ≠ [] := fun z => by rw [z] at e; simp at e
  have hpos : 0 < os.length := List.length_pos_iff.mpr hne
  have hl := h.1
  rw [List.getLast?_eq_getElem?] at e ⊢
  have hx : xs.length - 1 < xs.length := by omega
  refine ⟨xs[xs.length - 1], List.getElem?_eq_getElem hx, h.2 _ _ _ (List.getElem?_eq_getElem hx) (by rw [hl]; exact e)⟩
def fin (W : List Lv) (B : Bk) (start delay : Int) : Int × Int := match placeM W B start delay with
  | none => (start, 0)
  | some sp => match fol W B none (mu sp start) sp start 0 with
    | none => (0, 0)
    | some r => r.2
theorem fol_mono {W : List Lv} {B : Bk} {lim : Option Int} : ∀ (n : Nat) {sp : Spot} {tick mv : Int} {r : Res}, fol W B lim n sp tick mv = some r → ∀ m, n ≤ m → fol W B lim m sp tick mv = some r
  | 0, _, _, _, _, h, _, _ => by cases h
  | n + 1, sp, tick, mv, r, h, m, hm => by
    obtain ⟨m, rfl⟩ : ∃ k, m = k + 1 := ⟨m - 1, by omega⟩
    unfold fol at h ⊢
    dsimp only at h ⊢
    split at h
    · rename_i h1
      rw [if_pos h1]; exact h
    · rename_i h1
      rw [if_neg h1]
      split at h
      · cases h
      · exact h
      · split at h
        · rename_i h2
          rw [if_pos h2]; exact fol_mono n h m (by omega)
        · rename_i h2
          rw [if_neg h2]; exact fol_mono n h m (by omega)
theorem fin_some {W : List Lv} {B : Bk} {start delay : Int} {sp : Spot} {n : Nat} {r : Res} (h : placeM W B start delay = some sp) (ok : WOk W) (hl : sp.lv < W.length) (hf : fol W B none n sp start 0 = some r) : fin W B start delay = r.2 := by
  unfold fin
  rw [h]
  obtain ⟨r', hr'⟩ := fol_ends ok B none (mu sp start) sp start 0 hl (Nat.le_refl _)
  have e1 := fol_mono _ hr' (max n (mu sp start)) (Nat.le_max_right _ _)
  have e2 := fol_mono _ hf (max n (mu sp start)) (Nat.le_max_left _ _)
  rw [e1] at e2
  obtain rfl := Option.some.inj e2
  dsimp only
  rw [hr']
theorem placeM_lt {W : List Lv} (ok : WOk W) {B : Bk} {now delay : Int} {sp : Spot} (h : placeM W B now delay = some sp) : sp.lv < W.length := by
  unfold placeM at h
  split at h
  · cases h
  · obtain rfl := Option.some.inj h
    exact spotAt_lt ok _ _ _ _
end
end Tw
namespace Tw
open PySem PySem.Spec PyProof.Rows L2 He TwM
open PySem.W (Frag)
end Tw
/-! Tw: unpacking what is a list or a tuple -/
namespace Tw
open PySem PySem.Spec PyProof.Rows L2
def gUnA (K : PySem.W.Frag) (n : Nat) (t : TGs) : TG := fun v σ H Q => ∃ a xs, v = .ref a ∧ (SqL K H a xs ∨ SqT K H a xs) ∧ xs.length = n ∧ t xs σ H Q
end Tw
/-! Tw: readings of what makes books, levels, wheels -/
namespace Tw
open PySem PySem.Spec PyProof.Rows L2 He TwM
open PySem.W (Frag)
local macro_rules | `(tactic| walk_at "rsu") => `(tactic| simp only [*, at3_0, at3_1, at3_2, at2_0, at2_1, and_assoc, not_true_eq_false, not_false_eq_true, tNever, List.length_map, tFld, rIxTH, rIxLH, rLenTH, rLenLH, lk1, lfs_g, lfs_s, lfs_p, HO.ins.injEq, HO.tup.injEq, HO.lst.injEq, sp_Book_rounding, sp_Book_action, sp_Book_order, sp_Book_due, sp_Book_zero, sp_Book_beyond, Int.toNat_natCast, sp_visit_after, sp_is_visited, sp_Level_grain, sp_Level_slots, sp_Level_span, sp_Wheel_reach, sp_Wheel___len__, sp_is_integer, sp_is_count, sp_is_within, sp_rounded, tSeq, tAsg, gName, tVar, tC, tOp, rI, rI0, rU, tUn, oAdd, oSub, oMul, oDiv, oMod, oNeg, oLt, oLe, oGt, oGe, oIsN, oNotN, tFn, tCons, tNil, tIfS, tIf, tTest, tB, tNot, tAnd, tOr, tAndV, tOrV, tNotV,
    tRet, tRetN, tNext, tCB, tDrop, tChain, rEq, rNe, oMax2, oMin2, oInt1, rLenF, L2.start, List.map_cons, List.map_nil, List.length_cons, List.length_nil, List.replicate_succ, List.replicate_zero, List.cons_append, List.nil_append, Nat.reduceAdd, Nat.reduceSub, Nat.zero_add,
    List.set_cons_zero, List.set_cons_succ, List.getElem?_cons_zero, List.getElem?_cons_succ, Option.some.injEq, V.int.injEq, V.ref.injEq, V.str.injEq, V.bl.injEq, exists_eq_left', exists_eq_left, exists_and_left, List.cons.injEq, and_true, true_and, decide_eq_true_eq, sc_ii, sc_ss, sc_bb, sc_ni, sc_in, sc_nn, sc_is, reduceCtorEq,
    Bool.not_eq_true', decide_eq_false_iff_not, if_true, if_false, Bool.false_eq_true, exists_eq', exists_const, false_and, and_false, or_false, false_or, exists_false, Bool.not_not, Bool.not_true, Bool.not_false, sUp_up, sFire_fire, sHigh_high, sPut_put, sZone_now, sBey_refuse, sBey_cut, tTup, tLst, sz0, sz1, sz2, sz3, sz4, sz5, sz6])
section
variable {K : Frag} {w : World}
def SameX (x : Addr) (H H' : Hp) : Prop := ∀ b o, b ≠ x → H b = some o → H' b = some o
theorem SameX.refl (x : Addr) (H : Hp) : SameX x H H := fun _ _ _ h => h
theorem SameX.same {x : Addr} {H H1 H2 : Hp} (h : SameX x H H1) (s : Same H1 H2) : SameX x H H2 := fun b o n e => s _ _ (h b o n e)
theorem SameX.upd {x : Addr} {H H1 : Hp} {o : HO} (h : SameX x H H1) : SameX x H (upd H1 x o) := fun b u n e => by
  rw [upd_ne n]; exact h b u n e
theorem SameX.made {H2 H' : Hp} {x dx : Addr} {o o' : HO} (hx : H2 x = none) (hd : H2 dx = none) (h : SameX x (L2.upd (L2.upd H2 dx o) x o') H') : Same H2 H' := fun b u e => by
  have n1 : b ≠ x := ne_of_none e hx
  have n2 : b ≠ dx := ne_of_none e hd
  exact h b u n1 (by rw [upd_ne n1, upd_ne n2]; exact e)
def sp_Level___init__ (K : Frag) : Sp := fun vs H Q _ => ∃ (x dx : Addr) (l : Lv) (v : V), vs = [.ref x, .int l.g, .int l.s, v] ∧ (v = .int l.p ∨ v = .non ∧ l.p = l.s * l.g) ∧ LOk l ∧ 2 ≤ l.p ∧ l.p ≤ 4 * l.s * l.g ∧ H x = some (.ins (ga K "Level") dx []) ∧ ∀ H', SameX x H H' → LvAt K H' x l → Q .non H'
theorem for_zipN {K : PySem.W.Frag} {a b : Addr} {xs ys : List V} {g : TG} {tb : TS} {D : Ends} {σ : L2.St} {H : Hp} (hl : ys.length ≤ xs.length) (Pv : Nat → L2.St → Hp → Prop) (h0 : Pv 0 σ H) (hq : ∀ i σ H, Pv i σ H → SqT K H a xs ∧ SqT K H b ys)
    (hs : ∀ (i : Nat) (x y : V) (T : Addr) (σ : L2.St) (H : Hp), xs[i]? = some x → ys[i]? = some y → Pv i σ H → H T = none → g (.ref T) σ (upd H T (.tup [x, y])) fun σ2 H2 => tb { D with nx := Pv (i + 1), ct := Pv (i + 1), bk := D.nx } σ2 H2) (hd : ∀ σ H, Pv ys.length σ H → D.nx σ H) :
    ∃ W : Nat → Nat → L2.St → Hp → Prop, (∃ m, W 0 m σ H) ∧ ∀ i m σ H, W i m σ H →
      ((RZ.ItzT K a b).stop i H ∧ D.nx σ H) ∨ ((RZ.ItzT K a b).go i H ∧ ∃ N : L2.St → Hp → Prop, (∀ σ' H', N σ' H' → ∃ m', m' < m ∧ W (i + 1) m' σ' H') ∧ ∀ v H', (RZ.ItzT K a b).yld i H v H' → g v σ H' fun σ2 H2 => tb { D with nx := N, ct := N, bk := D.nx } σ2 H2) := by
  refine ⟨fun i m σ H => m = ys.length - i ∧ i ≤ ys.length ∧ Pv i σ H, ⟨ys.length, rfl, Nat.zero_le _, h0⟩, ?_⟩
  rintro i m σ H ⟨rfl, hi, p⟩
  obtain ⟨qx, qy⟩ := hq i σ H p
  rcases Nat.lt_or_ge i ys.length with hy | hy
  · refine .inr ⟨⟨xs, ys, _, _, qx, qy, List.getElem?_eq_getElem (by omega), List.getElem?_eq_getElem hy⟩, Pv (i + 1), ?_, ?_⟩
    · exact fun σ' H' p' => ⟨ys.length - (i + 1), by omega, rfl, hy, p'⟩
    · rintro v H' ⟨T, x', y', rfl, hT, rfl, f1, f2⟩
      exact hs i x' y' T σ H (f1 xs qx) (f2 ys qy) p hT
  · obtain rfl : i = ys.length := by omega
    exact .inl ⟨⟨xs, ys, qx, qy, .inr hy⟩, hd σ H p⟩
def sq_Wheel___init__ (K : Frag) : Sp := fun vs H Q _ => ∃ (x dx t : Addr) (as : List Addr) (W : List Lv), vs = [.ref x, .ref t] ∧ H x = some (.ins (ga K "Wheel") dx []) ∧ H t = some (.tup (as.map V.ref)) ∧ as.length = W.length ∧ (∀ i c, as[i]? = some c → LvAt K H c (lv W i)) ∧ WOk W ∧
  ∀ H', SameX x H H' → WhAt K H' x W → Q .non H'
def sp_Wheel___init__ (K : Frag) : Sp := fun vs H Q E => ∃ ws rest, vs = ws ++ rest ∧ ws.length = 1 ∧ rest.length ≤ sizeLine ∧ ∀ p, H p = none → sq_Wheel___init__ K (ws ++ [V.ref p]) (upd H p (.tup rest)) Q E
theorem wh_make {H : Hp} {Q : VK} {as : List Addr} {W : List Lv} (hl : as.length = W.length) (hc : ∀ i c, as[i]? = some c → LvAt K H c (lv W i)) (ok : WOk W) (q : ∀ a H', Same H H' → WhAt K H' a W → Q (.ref a) H') (x dx : Addr) (hx : H x = none) (hd : H dx = none) (hn : dx ≠ x) :
    sp_Wheel___init__ K (.ref x :: as.map V.ref) (upd (upd H dx (.own x)) x (.ins (ga K "Wheel") dx [])) (fun v H2 => v = .non ∧ Q (.ref x) H2) E0 := by
  refine ⟨[.ref x], as.map V.ref, rfl, rfl, by have := ok.len; have : sizeLine = 16777216 := rfl; simp; omega, fun p hp => ?_⟩
  have n1 : p ≠ x := fun e => by rw [e, upd_same] at hp; cases hp
  have n2 : x ≠ p := fun e => n1 e.symm
  refine ⟨x, dx, p, as, W, rfl, by rw [upd_ne n2, upd_same], upd_same, hl, fun i c hi => ?_, ok, fun H' s z => ⟨rfl, q x H' ?_ z⟩⟩
  · obtain ⟨o, dc, h1⟩ := hc i c hi
    refine ⟨o, dc, ?_⟩
    have m1 : c ≠ x := ne_of_none h1 hx
    have m2 : c ≠ dx := ne_of_none h1 hd
    have h2 : upd (upd H dx (.own x)) x (.ins (ga K "Wheel") dx []) c = some (.ins (ga K "Level") dc (lfs (lv W i))) := by rw [upd_ne m1, upd_ne m2]; exact h1
    rw [upd_ne (ne_of_none h2 hp)]
    exact h2
  · refine SameX.made (o := .own x) (o' := .ins (ga K "Wheel") dx []) hx hd fun b o nb e => s b o nb ?_
    rw [upd_ne (ne_of_none e hp)]
    exact e
theorem lv_make {H : Hp} {Q : VK} {l : Lv} {v : V} (hv : v = .int l.p ∨ v = .non ∧ l.p = l.s * l.g) (ok : LOk l) (h1 : 2 ≤ l.p) (h2 : l.p ≤ 4 * l.s * l.g) (q : ∀ a H', Same H H' → LvAt K H' a l → Q (.ref a) H') (x dx : Addr) (hx : H x = none) (hd : H dx = none) :
    sp_Level___init__ K [.ref x, .int l.g, .int l.s, v] (upd (upd H dx (.own x)) x (.ins (ga K "Level") dx [])) (fun v H2 => v = .non ∧ Q (.ref x) H2) E0 :=
  ⟨x, dx, l, v, rfl, hv, ok, h1, h2, upd_same, fun H' s z => ⟨rfl, q x H' (SameX.made hx hd s) z⟩⟩
end
end Tw
/-! Tw: the laws' own pool of draws -/
namespace Tw
open PySem PySem.Spec PyProof.Rows L2 He TwM
open PySem.W (Frag)
theorem ix5_0 : ixN 5 0 = some 0 := rfl
theorem ix5_1 : ixN 5 1 = some 1 := rfl
theorem ix5_2 : ixN 5 2 = some 2 := rfl
theorem ix5_3 : ixN 5 3 = some 3 := rfl
theorem ix5_4 : ixN 5 4 = some 4 := rfl
theorem at5_0 (a b c d e : V) : atI [a, b, c, d, e] 0 = some a := rfl
theorem at5_1 (a b c d e : V) : atI [a, b, c, d, e] 1 = some b := rfl
theorem at5_2 (a b c d e : V) : atI [a, b, c, d, e] 2 = some c := rfl
theorem at5_3 (a b c d e : V) : atI [a, b, c, d, e] 3 = some d := rfl
theorem at5_4 (a b c d e : V) : atI [a, b, c, d, e] 4 = some e := rfl
theorem upd_two (H : Hp) (a : Addr) (o u : HO) : upd (upd H a o) a u = upd H a u := by
  funext b
  unfold upd
  split <;> rfl
theorem updS (H : Hp) (a : Addr) (o : HO) : upd H a o a = some o := upd_same
theorem updN {H : Hp} {a b : Addr} {o : HO} (h : (b = a) = False) : upd H a o b = H b := upd_ne (fun e => by rw [h] at e; exact e)
local macro_rules | `(tactic| walk_at "rsv") => `(tactic| simp only [*, at3_0, at3_1, at3_2, at2_0, at2_1, ix5_0, ix5_1, ix5_2, ix5_3, ix5_4, at5_0, at5_1, at5_2, at5_3, at5_4, updS, upd_two, gSub, rSetL, updN, and_assoc, not_true_eq_false, not_false_eq_true, tNever, List.length_map, tFld, rIxTH, rIxLH, rLenTH, rLenLH, lk1, lfs_g, lfs_s, lfs_p, HO.ins.injEq, HO.tup.injEq, HO.lst.injEq, sp_Book_rounding, sp_Book_action, sp_Book_order, sp_Book_due, sp_Book_zero, sp_Book_beyond, Int.toNat_natCast, sp_visit_after, sp_is_visited, sp_Level_grain, sp_Level_slots, sp_Level_span, sp_Wheel_reach, sp_Wheel___len__, sp_is_integer, sp_is_count, sp_is_within, sp_rounded, tSeq, tAsg, gName, tVar, tC, tOp, rI, rI0, rU, tUn, oAdd, oSub, oMul, oDiv, oMod, oNeg, oLt, oLe, oGt, oGe, oIsN, oNotN, tFn, tCons, tNil, tIfS, tIf, tTest, tB, tNot, tAnd, tOr, tAndV, tOrV, tNotV,
    tRet, tRetN, tNext, tCB, tDrop, tChain, rEq, rNe, oMax2, oMin2, oInt1, rLenF, L2.start, List.map_cons, List.map_nil, List.length_cons, List.length_nil, List.replicate_succ, List.replicate_zero, List.cons_append, List.nil_append, Nat.reduceAdd, Nat.reduceSub, Nat.zero_add,
    List.set_cons_zero, List.set_cons_succ, List.getElem?_cons_zero, List.getElem?_cons_succ, Option.some.injEq, V.int.injEq, V.ref.injEq, V.str.injEq, V.bl.injEq, exists_eq_left', exists_eq_left, exists_and_left, List.cons.injEq, and_true, true_and, decide_eq_true_eq, sc_ii, sc_ss, sc_bb, sc_ni, sc_in, sc_nn, sc_is, reduceCtorEq,
    Bool.not_eq_true', decide_eq_false_iff_not, if_true, if_false, Bool.false_eq_true, exists_eq', exists_const, false_and, and_false, or_false, false_or, exists_false, Bool.not_not, Bool.not_true, Bool.not_false, sUp_up, sFire_fire, sHigh_high, sPut_put, sZone_now, sBey_refuse, sBey_cut, tTup, tLst, sz0, sz1, sz2, sz3, sz4, sz5, sz6])
section
variable {K : Frag} {w : World}
theorem Same.lst {H H' : Hp} {a : Addr} {xs : List V} (e : Same H H') (h : SqL K H a xs) : SqL K H' a xs := by
  rcases h with (h | ⟨o, h⟩) | h
  · exact .inl (.inl (e _ _ h))
  · exact .inl (.inr ⟨o, e _ _ h⟩)
  · exact .inr h
structure PoolAt (H : Hp) (p l : Addr) : Prop where
  ne : p ≠ l
  at_ : ∃ (cs : List Int) (i1 i2 i3 i4 : Int), H p = some (.lst [.ref l, .int i1, .int i2, .int i3, .int i4]) ∧ H l = some (.lst (cs.map V.int)) ∧ 0 ≤ i1
def SameP (p l : Addr) (H H' : Hp) : Prop := ∀ b o, b ≠ p → b ≠ l → H b = some o → H' b = some o
theorem SameP.refl (p l : Addr) (H : Hp) : SameP p l H H := fun _ _ _ _ h => h
theorem SameP.trans {p l : Addr} {H H1 H2 : Hp} (h : SameP p l H H1) (s : SameP p l H1 H2) : SameP p l H H2 := fun b o n m e => s _ _ n m (h b o n m e)
theorem Same.toP {p l : Addr} {H H1 : Hp} (s : Same H H1) : SameP p l H H1 := fun b o _ _ e => s b o e
theorem SameP.updp {p l : Addr} {H H1 : Hp} {o : HO} (h : SameP p l H H1) : SameP p l H (upd H1 p o) := fun b u n m e => by
  rw [upd_ne n]; exact h b u n m e
theorem SameP.updl {p l : Addr} {H H1 : Hp} {o : HO} (h : SameP p l H H1) : SameP p l H (upd H1 l o) := fun b u n m e => by
  rw [upd_ne m]; exact h b u n m e
theorem PoolAt.same {p l : Addr} {H H1 : Hp} (h : PoolAt H p l) (s : Same H H1) : PoolAt H1 p l := by
  obtain ⟨n, cs, i1, i2, i3, i4, h1, h2, h3⟩ := h
  exact ⟨n, cs, i1, i2, i3, i4, s _ _ h1, s _ _ h2, h3⟩
theorem PoolAt.ins {p l : Addr} {H H1 : Hp} (h : PoolAt H p l) (s : SameP p l H H1) {a C dx : Addr} {fs : List (Str × V)} (e : H a = some (.ins C dx fs)) : H1 a = some (.ins C dx fs) := by
  obtain ⟨n, cs, i1, i2, i3, i4, h1, h2, h3⟩ := h
  exact s _ _ (fun z => by rw [z, h1] at e; cases e) (fun z => by rw [z, h2] at e; cases e) e
theorem PoolAt.tup {p l : Addr} {H H1 : Hp} (h : PoolAt H p l) (s : SameP p l H H1) {a : Addr} {xs : List V} (e : H a = some (.tup xs)) : H1 a = some (.tup xs) := by
  obtain ⟨n, cs, i1, i2, i3, i4, h1, h2, h3⟩ := h
  exact s _ _ (fun z => by rw [z, h1] at e; cases e) (fun z => by rw [z, h2] at e; cases e) e
theorem LvAt.sameP {p l : Addr} {H H1 : Hp} (h : PoolAt H p l) (s : SameP p l H H1) {a : Addr} {v : Lv} (e : LvAt K H a v) : LvAt K H1 a v := ⟨e.ok, e.at_.elim fun dx q => ⟨dx, h.ins s q⟩⟩
theorem WhAt.sameP {p l : Addr} {H H1 : Hp} (h : PoolAt H p l) (s : SameP p l H H1) {a : Addr} {W : List Lv} (e : WhAt K H a W) : WhAt K H1 a W := by
  obtain ⟨ok, dx, t, as, h1, h2, h3, h4⟩ := e
  exact ⟨ok, dx, t, as, h.ins s h1, h.tup s h2, h3, fun i c q => (h4 i c q).sameP h s⟩
theorem BkAt.sameP {p l : Addr} {H H1 : Hp} (h : PoolAt H p l) (s : SameP p l H H1) {a : Addr} {B : Bk} (e : BkAt K H a B) : BkAt K H1 a B := by
  obtain ⟨ok, dx, t, h1, h2⟩ := e
  exact ⟨ok, dx, t, h.ins s h1, h.tup s h2⟩
def Drawn (H : Hp) (p l : Addr) (many : Int) (Q : VK) : Prop := ∀ (v : Int) (H' : Hp), SameP p l H H' → PoolAt H' p l → 0 ≤ v → v < many → Q (.int v) H'
def sp__law_mixed (K : Frag) : Sp := fun vs H Q _ => ∃ (p l : Addr) (many : Int), vs = [.ref p, .int many] ∧ PoolAt H p l ∧ 0 < many ∧ many.natAbs.log2 < 1920 ∧ Drawn H p l many Q
def t__law_mixed (K : Frag) (w : World) : TS :=
  (tSeq (tAsg (tOp oAdd (tOp rIxLH (tVar 0) (tC (.int 2))) (tC (.int 1))) (gSub (tVar 0) (tC (.int 2)) L2.rSetL))
  (tSeq (tAsg (tOp rIxLH (tVar 0) (tC (.int 3))) (gName 2))
  (tSeq (tFor (iRng1 (tCons (tOp oAdd (tC (.int 1)) (tOp oDiv (tCB oLenS (tCons (tCB oStrI (tCons (tVar 1) tNil)) tNil)) (tC (.int 9)))) tNil)) (gName 3)
    (tSeq (tAsg (tOp oMod (tOp oAdd (tOp oAdd (tOp oMul (tOp rIxLH (tVar 0) (tC (.int 3))) (tC (.int 48271))) (tOp oMul (tOp rIxLH (tVar 0) (tC (.int 2))) (tC (.int 12345)))) (tC (.int 89126))) (tC (.int 2147483647))) (gSub (tVar 0) (tC (.int 3)) L2.rSetL))
  (tAsg (tOp oAdd (tOp oMul (tVar 2) (tC (.int 2147483647))) (tOp oDiv (tOp rIxLH (tVar 0) (tC (.int 3))) (tC (.int 7)))) (gName 2))))
  (tRet (tOp oMod (tVar 2) (tVar 1))))))
def n__law_mixed : List Str := ["_law_pool", "_law_many", "_law_found", "_law_turn"]
theorem rd__law_mixed (vs : List V) (H : Hp) (Q : VK) (E : XK) (h : sp__law_mixed K vs H Q E) : t__law_mixed K w { nx := fun _ H' => Q .non H', rt := Q } (L2.start n__law_mixed vs) H := by
  obtain ⟨p, l, many, rfl, ⟨hne, cs, i1, i2, i3, i4, h1, h2, h3⟩, hm, hlog, q⟩ := h
  have hlp : (l = p) = False := eq_false (fun e => hne e.symm)
  unfold t__law_mixed n__law_mixed
  walk_at "rsv"
  have hz := PySem.int_text_fits hlog
  have hz' : (Str.ofString (toString many)).length < 2 ^ 24 + 1 := Nat.lt_of_le_of_lt hz (by decide)
  have s1 : SameP p l H (upd H p (.lst [.ref l, .int i1, .int (i2 + 1), .int i3, .int i4])) := (SameP.refl p l H).updp
  refine ⟨_, rfl, _, rfl, hlog, _, rfl, hz, _, _, rfl, rfl, ⟨by decide, by decide⟩, _, _, rfl, rfl, _, rfl, by omega, by omega, for_range
    (fun i σ H' => ∃ (f : Int) (v3 : Option V) (j2 j3 : Int), σ = [some (.ref p), some (.int many), some (.int f), v3] ∧ SameP p l H H' ∧ H' p = some (.lst [.ref l, .int i1, .int j2, .int j3, .int i4]) ∧ H' l = some (.lst (cs.map V.int)))
    ⟨i3, none, _, i3, rfl, s1, updS _ _ _, by rw [updN hlp]; exact h2⟩ ?_ ?_⟩
  · rintro i σ H1 hi ⟨f, v3, j2, j3, rfl, s2, k1, k2⟩
    walk_at "rsv"
    exact ⟨.inr ⟨by decide, by decide⟩, .inr ⟨by decide, by decide⟩, by decide, .inr ⟨by decide, by decide⟩, ⟨by decide, by decide⟩, s2.updp⟩
  · rintro σ H1 ⟨f, v3, j2, j3, rfl, s2, k1, k2⟩
    exact ⟨_, rfl, _, rfl, _, _, rfl, rfl, hm, q _ _ s2 ⟨hne, cs, i1, j2, j3, i4, k1, k2, h3⟩ (Int.emod_nonneg _ (by omega)) (Int.emod_lt_of_pos _ hm)⟩
def sp__law_draw (K : Frag) : Sp := fun vs H Q _ => ∃ (p l : Addr) (many : Int), vs = [.ref p, .int many] ∧ PoolAt H p l ∧ 0 < many ∧ many.natAbs.log2 < 1920 ∧ Drawn H p l many Q
def t__law_draw (K : Frag) (w : World) : TS :=
  (tSeq (tIfS (tOr (tTest (tOp oGe (tOp rIxLH (tVar 0) (tC (.int 1))) (tCB rLenLH (tCons (tOp rIxLH (tVar 0) (tC (.int 0))) tNil)))) (tTest (tOp rEq (tVar 1) (tC (.int 1))))) (tRet (tIf (tTest (tOp oGt (tVar 1) (tC (.int 1)))) (tFn (sp__law_mixed K) E0 (tCons (tVar 0) (tCons (tVar 1) tNil))) (tC (.int 0)))) tNext)
  (tSeq (tIfS (tTest (tOp oLt (tOp rIxLH (tOp rIxLH (tVar 0) (tC (.int 0))) (tOp rIxLH (tVar 0) (tC (.int 1)))) (tOp oPow (tC (.int 10)) (tC (.int 18))))) (tSeq (tAsg (tOp oMod (tOp oAdd (tOp oAdd (tOp oAdd (tOp oMul (tOp rIxLH (tVar 0) (tC (.int 3))) (tC (.int 31))) (tOp rIxLH (tOp rIxLH (tVar 0) (tC (.int 0))) (tOp rIxLH (tVar 0) (tC (.int 1))))) (tOp rIxLH (tVar 0) (tC (.int 2)))) (tC (.int 1))) (tC (.int 2147483647))) (gSub (tVar 0) (tC (.int 3)) L2.rSetL))
  (tSeq (tAsg (tOp oAdd (tOp rIxLH (tVar 0) (tC (.int 4))) (tC (.int 1))) (gSub (tVar 0) (tC (.int 4)) L2.rSetL))
  (tSeq (tIfS (tTest (tOp rEq (tOp oMod (tOp rIxLH (tVar 0) (tC (.int 4))) (tC (.int 3))) (tC (.int 0)))) (tAsg (tOp oAdd (tOp rIxLH (tVar 0) (tC (.int 1))) (tC (.int 1))) (gSub (tVar 0) (tC (.int 1)) L2.rSetL)) tNext)
  (tRet (tFn (sp__law_mixed K) E0 (tCons (tVar 0) (tCons (tVar 1) tNil))))))) tNext)
  (tSeq (tAsg (tOp oMod (tOp rIxLH (tOp rIxLH (tVar 0) (tC (.int 0))) (tOp rIxLH (tVar 0) (tC (.int 1)))) (tVar 1)) (gName 2))
  (tSeq (tAsg (tOp oDivW (tOp rIxLH (tOp rIxLH (tVar 0) (tC (.int 0))) (tOp rIxLH (tVar 0) (tC (.int 1)))) (tVar 1)) (gSub (tOp rIxLH (tVar 0) (tC (.int 0))) (tOp rIxLH (tVar 0) (tC (.int 1))) L2.rSetL))
  (tSeq (tIfS (tTest (tOp rEq (tOp rIxLH (tOp rIxLH (tVar 0) (tC (.int 0))) (tOp rIxLH (tVar 0) (tC (.int 1)))) (tC (.int 0)))) (tAsg (tOp oAdd (tOp rIxLH (tVar 0) (tC (.int 1))) (tC (.int 1))) (gSub (tVar 0) (tC (.int 1)) L2.rSetL)) tNext)
  (tRet (tVar 2)))))))
def n__law_draw : List Str := ["_law_pool", "_law_many", "_law_found"]
theorem rd__law_draw (vs : List V) (H : Hp) (Q : VK) (E : XK) (h : sp__law_draw K vs H Q E) : t__law_draw K w { nx := fun _ H' => Q .non H', rt := Q } (L2.start n__law_draw vs) H := by
  obtain ⟨p, l, many, rfl, ⟨hne, cs, i1, i2, i3, i4, h1, h2, h3⟩, hm, hlog, q⟩ := h
  have hlp : (l = p) = False := eq_false (fun e => hne e.symm)
  have hpl : (p = l) = False := eq_false hne
  have hmix : ∀ (H' : Hp), SameP p l H H' → PoolAt H' p l → sp__law_mixed K [.ref p, .int many] H' Q E0 := fun H' s z => ⟨p, l, many, rfl, z, hm, hlog, fun v H2 s2 z2 a b => q v H2 (s.trans s2) z2 a b⟩
  have hpow : (10 : Int) ^ (18 : Int).toNat = 1000000000000000000 := by decide
  have hcp : CPow 10 18 := ⟨by decide, by decide, by decide⟩
  have hq : q = q := rfl
  unfold t__law_draw n__law_draw
  by_cases hlen : (cs.length : Int) ≤ i1
  · by_cases hm1 : 1 < many
    · walk_at "rsv"
      exact hmix H (SameP.refl p l H) ⟨hne, cs, i1, i2, i3, i4, h1, h2, h3⟩
    · have e1 : many = 1 := by omega
      subst e1
      walk_at "rsv"
      exact q 0 H (SameP.refl p l H) ⟨hne, cs, i1, i2, i3, i4, h1, h2, h3⟩ (by decide) (by decide)
  · obtain ⟨j, rfl⟩ : ∃ j : Nat, i1 = (j : Int) := ⟨i1.toNat, by omega⟩
    have hj : j < cs.length := by omega
    obtain ⟨c, hc⟩ : ∃ c, cs[j]? = some c := ⟨cs[j], List.getElem?_eq_getElem hj⟩
    have hat : atI (cs.map V.int) (j : Int) = some (.int c) := atI_nat (by rw [List.getElem?_map, hc]; rfl)
    have hix : ixN cs.length (j : Int) = some j := by
      unfold ixN
      rw [if_pos (by omega), if_pos (by omega)]
      rfl
    have hset : ∀ y : Int, (cs.map V.int).set j (.int y) = (cs.set j y).map V.int := fun y => by rw [List.map_set]
    have hat2 : ∀ y : Int, atI (((cs.set j y)).map V.int) (j : Int) = some (.int y) := fun y => atI_nat (by rw [List.getElem?_map, List.getElem?_set_self hj]; rfl)
    walk_at "rsv"
    have s0 := SameP.refl p l H
    refine ite2 (fun e1 => ?_) fun e1 => ite2 (fun h4 => ?_) fun h4 => ?_
    · rw [if_neg (by omega)]
      exact q 0 H s0 ⟨hne, cs, _, i2, i3, i4, h1, h2, h3⟩ (by omega) (by omega)
    · refine ⟨.inr ⟨by decide, by decide⟩, by decide, by decide, ite2 (fun _ => ?_) fun _ => ?_⟩
      · exact hmix _ s0.updp ⟨hne, cs, _, _, _, _, updS _ _ _, by rw [updN hlp]; exact h2, by omega⟩
      · exact hmix _ s0.updp ⟨hne, cs, _, _, _, _, updS _ _ _, by rw [updN hlp]; exact h2, by omega⟩
    · have q0 := Int.emod_nonneg c (b := many) (by omega)
      have q1 := Int.emod_lt_of_pos c hm
      refine ⟨⟨hm, Nat.lt_trans hlog (by decide)⟩, ite2 (fun _ => ?_) fun _ => ?_⟩
      · exact q _ _ (SameP.updp s0.updl) ⟨hne, cs.set j (c / many), _, _, _, _, updS _ _ _, by rw [updN hlp]; exact updS _ _ _, by omega⟩ q0 q1
      · exact q _ _ s0.updl ⟨hne, cs.set j (c / many), _, _, _, _, by rw [updN hpl]; exact h1, updS _ _ _, by omega⟩ q0 q1
end
end Tw
/-! Tw: more of the laws' own defs -/
namespace Tw
open PySem PySem.Spec PyProof.Rows L2 He TwM
open PySem.W (Frag)
local macro_rules | `(tactic| walk_at "rsw") => `(tactic| simp only [*, at3_0, at3_1, at3_2, at2_0, at2_1, ix5_0, ix5_1, ix5_2, ix5_3, ix5_4, at5_0, at5_1, at5_2, at5_3, at5_4, updS, upd_two, gSub, rSetL, updN, and_assoc, not_true_eq_false, not_false_eq_true, tNever, List.length_map, tFld, rIxTH, rIxLH, rLenTH, rLenLH, lk1, lfs_g, lfs_s, lfs_p, HO.ins.injEq, HO.tup.injEq, HO.lst.injEq, sp_Book_rounding, sp_Book_action, sp_Book_order, sp_Book_due, sp_Book_zero, sp_Book_beyond, Int.toNat_natCast, sp_visit_after, sp_is_visited, sp_Level_grain, sp_Level_slots, sp_Level_span, sp_Wheel_reach, sp_Wheel___len__, sp_is_integer, sp_is_count, sp_is_within, sp_rounded, tSeq, tAsg, gName, tVar, tC, tOp, rI, rI0, rU, tUn, oAdd, oSub, oMul, oDiv, oMod, oNeg, oLt, oLe, oGt, oGe, oIsN, oNotN, tFn, tCons, tNil, tIfS, tIf, tTest, tB, tNot, tAnd, tOr, tAndV, tOrV, tNotV,
    tRet, tRetN, tNext, tCB, tDrop, tChain, rEq, rNe, oMax2, oMin2, oInt1, rLenF, L2.start, List.map_cons, List.map_nil, List.length_cons, List.length_nil, List.replicate_succ, List.replicate_zero, List.cons_append, List.nil_append, Nat.reduceAdd, Nat.reduceSub, Nat.zero_add,
    List.set_cons_zero, List.set_cons_succ, List.getElem?_cons_zero, List.getElem?_cons_succ, Option.some.injEq, V.int.injEq, V.ref.injEq, V.str.injEq, V.bl.injEq, exists_eq_left', exists_eq_left, exists_and_left, List.cons.injEq, and_true, true_and, decide_eq_true_eq, sc_ii, sc_ss, sc_bb, sc_ni, sc_in, sc_nn, sc_is, reduceCtorEq,
    Bool.not_eq_true', decide_eq_false_iff_not, if_true, if_false, Bool.false_eq_true, exists_eq', exists_const, false_and, and_false, or_false, false_or, exists_false, Bool.not_not, Bool.not_true, Bool.not_false, sUp_up, sFire_fire, sHigh_high, sPut_put, sZone_now, sBey_refuse, sBey_cut, tTup, tLst, sz0, sz1, sz2, sz3, sz4, sz5, sz6])
section
variable {K : Frag} {w : World}
def sp__law_begin (K : Frag) : Sp := fun vs H Q _ => ∃ (a : Addr) (ns : List Int), vs = [.ref a] ∧ SqL K H a (ns.map V.int) ∧ ns.length ≤ 63 ∧ ∀ p l H', PoolAt H' p l → Same H H' → Q (.ref p) H'
def t__law_begin (K : Frag) (w : World) : TS :=
  (tSeq (tAsg (tC (.int 7)) (gName 1))
  (tSeq (tFor (iList K (tSl (rSlL K) (tVar 0) tNoPart (tPart (tC (.int 40))))) (gName 2)
    (tAsg (tOp oMod (tOp oAdd (tOp oAdd (tOp oMul (tVar 1) (tC (.int 31))) (tOp oMod (tCB oInt1 (tCons (tVar 2) tNil)) (tC (.int 2147483647)))) (tC (.int 11))) (tC (.int 2147483647))) (gName 1)))
  (tRet (tLst (tCons (tLc (iList K (tVar 0)) (gName 2) tYes (tCB oAbs (tCons (tCB oInt1 (tCons (tVar 2) tNil)) tNil)) [2]) (tCons (tC (.int 0)) (tCons (tC (.int 0)) (tCons (tVar 1) (tCons (tC (.int 0)) tNil)))))))))
def n__law_begin : List Str := ["_law_script", "_law_seed", "_law_cell"]
theorem rd__law_begin (vs : List V) (H : Hp) (Q : VK) (E : XK) (h : sp__law_begin K vs H Q E) : t__law_begin K w { nx := fun _ H' => Q .non H', rt := Q } (L2.start n__law_begin vs) H := by
  obtain ⟨a, ns, rfl, ha, hl, q⟩ := h
  unfold t__law_begin n__law_begin
  walk_at "rsw"
  refine ⟨_, rfl, _, rfl, a, _, rfl, ha, fun p hp => ⟨p, rfl, ⟨_, SqL.of upd_same⟩, for_list (K := K) (a := p) (xs := cutV (ns.map V.int) none (some 40))
    (fun i σ H' => ∃ (s : Int) (v2 : Option V), σ = [some (.ref a), some (.int s), v2] ∧ Same (upd H p (.lst (cutV (ns.map V.int) none (some 40)))) H') ⟨_, none, rfl, Same.refl _⟩ (fun i σ H' _ ⟨_, _, _, z⟩ => SqL.of (z _ _ upd_same)) ?_ ?_⟩⟩
  · rintro i x σ H1 hx ⟨s, v2, rfl, s1⟩
    obtain ⟨c, rfl⟩ : ∃ c : Int, x = .int c := by
      have hm := List.mem_of_getElem? hx
      unfold cutV at hm
      obtain ⟨c, _, e⟩ := List.mem_map.mp (List.mem_of_mem_drop (List.mem_of_mem_take hm))
      exact ⟨c, e.symm⟩
    walk_at "rsw"
    exact ⟨.inr ⟨by decide, by decide⟩, by decide, by decide⟩
  · rintro σ H1 ⟨s, v2, rfl, s1⟩
    have s2 : Same H H1 := Same.trans (Same.new hp) s1
    refine ⟨_, rfl, a, rfl, ⟨_, Same.lst s2 ha⟩, fun D hD => lc_list (K := K) (a := a) (xs := ns.map V.int) (fun i H' => Same H1 H' ∧ H' D = some (.lst ((ns.take i).map fun n => V.int (if n < 0 then -n else n))))
      ⟨Same.new hD, by rw [upd_same]; rfl⟩ (fun i H' _ z => Same.lst z.1 (Same.lst s2 ha)) ?_ ?_⟩
    · rintro i x H2 hx ⟨s3, hD2⟩
      obtain ⟨c, hc, rfl⟩ : ∃ c, ns[i]? = some c ∧ x = V.int c := by
        rw [List.getElem?_map] at hx
        cases e : ns[i]? with
        | none => rw [e] at hx; cases hx
        | some c => rw [e] at hx; exact ⟨c, rfl, (Option.some.inj hx).symm⟩
      have hi : i < ns.length := (List.getElem?_eq_some_iff.mp hc).1
      refine ⟨rfl, ?_⟩
      simp only [tYes, if_true]
      refine ⟨_, rfl, .inl ⟨c, rfl, c, rfl, _, hD2, ?_, Same.updN s3 hD, ?_⟩⟩
      · have : sizeLine = 16777216 := rfl
        rw [List.length_map, List.length_take]
        omega
      · rw [updS, List.take_succ, hc, List.map_append]
        rfl
    · rintro H2 ⟨s3, hD2⟩
      refine ⟨_, rfl, (by show 5 ≤ sizeLine; decide), fun r hr => ?_⟩
      have hDr : D ≠ r := ne_of_none hD2 hr
      refine q r D _ ⟨fun e => hDr e.symm, ns.map fun n => if n < 0 then -n else n, 0, 0, s, 0, updS _ _ _, ?_, by decide⟩ ((s2.trans s3).trans (Same.new hr))
      rw [upd_ne hDr, hD2, List.length_map, List.take_length, List.map_map]
      rfl
theorem PoolAt.apart {p l r : Addr} {H : Hp} (h : PoolAt H p l) (hr : H r = none) : r ≠ p ∧ r ≠ l := by
  obtain ⟨n, cs, i1, i2, i3, i4, h1, h2, h3⟩ := h
  exact ⟨fun e => (ne_of_none h1 hr) e.symm, fun e => (ne_of_none h2 hr) e.symm⟩
theorem PoolAt.new {p l r : Addr} {H : Hp} {o : HO} (h : PoolAt H p l) (hr : H r = none) : PoolAt (upd H r o) p l := h.same (Same.new hr)
theorem SameP.step {p l : Addr} {H H1 H2 : Hp} (h : SameP p l H H1) (s : Same H1 H2) : SameP p l H H2 := fun b o n m e => s _ _ (h b o n m e)
theorem draw {H : Hp} {p l : Addr} {many : Int} {Q : VK} (h : PoolAt H p l) (hm : 0 < many) (hl : many.natAbs.log2 < 1920) (q : Drawn H p l many Q) : sp__law_draw K [.ref p, .int many] H Q E0 := ⟨p, l, many, rfl, h, hm, hl, q⟩
theorem log_small {x : Int} (h0 : 0 ≤ x) (h : x < 2 ^ 100) : x.natAbs.log2 < 1920 := by
  by_cases hz : x.natAbs = 0
  · rw [hz]; decide
  · have h2 : x.natAbs < 2 ^ 100 := by omega
    exact Nat.lt_trans ((Nat.log2_lt hz).mpr h2) (by decide)
theorem atV {xs : List V} {i : Int} (h0 : 0 ≤ i) (h : i < xs.length) : ∃ v, xs[i.toNat]? = some v ∧ atI xs i = some v := by
  have hi : i.toNat < xs.length := by omega
  refine ⟨xs[i.toNat], List.getElem?_eq_getElem hi, ?_⟩
  have := atI_nat (xs := xs) (j := i.toNat) (List.getElem?_eq_getElem hi)
  rwa [Int.toNat_of_nonneg h0] at this
theorem atInts {xs : List Int} {i : Int} (h0 : 0 ≤ i) (h : i < xs.length) : ∃ v, v ∈ xs ∧ atI (xs.map V.int) i = some (.int v) := by
  obtain ⟨v, h1, h2⟩ := atV (xs := xs.map V.int) h0 (by rw [List.length_map]; exact h)
  rw [List.getElem?_map] at h1
  cases e : xs[i.toNat]? with
  | none => rw [e] at h1; cases h1
  | some c => rw [e] at h1; obtain rfl := Option.some.inj h1; exact ⟨c, List.mem_of_getElem? e, h2⟩
end
end Tw
/-! Tw: drawn books, rows and wheels -/
namespace Tw
open PySem PySem.Spec PyProof.Rows L2 He TwM StX
open PySem.W (Frag)
local macro_rules | `(tactic| walk_at "rsx2") => `(tactic| simp only [*, at3_0, at3_1, at3_2, at2_0, at2_1, updS, upd_two, gSub, rSetL, updN, and_assoc, not_true_eq_false, not_false_eq_true, tNever, List.length_map, tFld, rIxTH, rIxLH, rLenTH, rLenLH, lk1, lfs_g, lfs_s, lfs_p, HO.ins.injEq, HO.tup.injEq, HO.lst.injEq, sp_Book_rounding, sp_Book_action, sp_Book_order, sp_Book_due, sp_Book_zero, sp_Book_beyond, Int.toNat_natCast, sp_visit_after, sp_is_visited, sp_Level_grain, sp_Level_slots, sp_Level_span, sp_Wheel_reach, sp_Wheel___len__, sp_is_integer, sp_is_count, sp_is_within, sp_rounded, tSeq, tAsg, gName, tVar, tC, tOp, rI, rI0, rU, tUn, oAdd, oSub, oMul, oDiv, oMod, oNeg, oLt, oLe, oGt, oGe, oIsN, oNotN, tFn, tCons, tNil, tIfS, tIf, tTest, tB, tNot, tAnd, tOr, tAndV, tOrV, tNotV,
    tRet, tRetN, tNext, tCB, tDrop, tChain, rEq, rNe, oMax2, oMin2, oInt1, rLenF, L2.start, List.map_cons, List.map_nil, List.length_cons, List.length_nil, List.replicate_succ, List.replicate_zero, List.cons_append, List.nil_append, Nat.reduceAdd, Nat.reduceSub, Nat.zero_add,
    List.set_cons_zero, List.set_cons_succ, List.getElem?_cons_zero, List.getElem?_cons_succ, Option.some.injEq, V.int.injEq, V.ref.injEq, V.str.injEq, V.bl.injEq, exists_eq_left', exists_eq_left, exists_and_left, List.cons.injEq, and_true, true_and, decide_eq_true_eq, sc_ii, sc_ss, sc_bb, sc_ni, sc_in, sc_nn, sc_is, reduceCtorEq,
    Bool.not_eq_true', decide_eq_false_iff_not, if_true, if_false, Bool.false_eq_true, exists_eq', exists_const, false_and, and_false, or_false, false_or, exists_false, Bool.not_not, Bool.not_true, Bool.not_false, sUp_up, sFire_fire, sHigh_high, sPut_put, sZone_now, sBey_refuse, sBey_cut, tTup, tLst, sz0, sz1, sz2, sz3, sz4, sz5, sz6])
section
variable {K : Frag} {w : World}
theorem drawAt {H : Hp} {p l r : Addr} {n : Int} {xs : List V} {Q : VK} (hp : PoolAt H p l) (hr : H r = none) (hn : 0 < n) (hl : n.natAbs.log2 < 1920) (hx : n = xs.length)
    (q : ∀ i x H', SameP p l H H' → PoolAt H' p l → H' r = some (.lst xs) → 0 ≤ i → i < n → atI xs i = some x → Q x H') :
    sp__law_draw K [.ref p, .int n] (upd H r (.lst xs)) (fun y H2 => ∃ ys i, y = .int i ∧ H2 r = some (.lst ys) ∧ ∃ x, atI ys i = some x ∧ Q x H2) E0 := by
  have ap := hp.apart hr
  refine draw (hp.new hr) hn hl fun i H2 s1 hp1 h0 h1 => ?_
  have e := s1 r _ ap.1 ap.2 (updS _ _ _)
  obtain ⟨x, _, hx'⟩ := atV (xs := xs) h0 (by omega)
  exact ⟨xs, i, rfl, e, x, hx', q i x H2 (SameP.trans ((SameP.refl p l H).step (Same.new hr)) s1) hp1 e h0 h1 hx'⟩
def lvR (l : Lv) : List V := [.int l.g, .int l.s, .int l.p]
structure RowsAt (H : Hp) (r : Addr) (W : List Lv) : Prop where
  at_ : ∃ ts : List Addr, H r = some (.lst (ts.map V.ref)) ∧ ts.length = W.length ∧ ∀ i t, ts[i]? = some t → H t = some (.tup (lvR (lv W i)))
structure ROk (W : List Lv) : Prop where
  ok : WOk W
  sp : ∀ i, i < W.length → (lv W i).p ≤ 4 * (lv W i).s * (lv W i).g
end
end Tw
/-! Tw: made books, levels of delays, drawn rows -/
namespace Tw
open PySem PySem.Spec PyProof.Rows L2 He TwM StX
open PySem.W (Frag)
local macro_rules | `(tactic| walk_at "rsy2") => `(tactic| simp only [*, at3_0, at3_1, at3_2, at2_0, at2_1, updS, upd_two, gSub, rSetL, updN, and_assoc, not_true_eq_false, not_false_eq_true, tNever, List.length_map, tFld, rIxTH, rIxLH, rLenTH, rLenLH, lk1, lfs_g, lfs_s, lfs_p, HO.ins.injEq, HO.tup.injEq, HO.lst.injEq, sp_Book_rounding, sp_Book_action, sp_Book_order, sp_Book_due, sp_Book_zero, sp_Book_beyond, Int.toNat_natCast, sp_visit_after, sp_is_visited, sp_Level_grain, sp_Level_slots, sp_Level_span, sp_Wheel_reach, sp_Wheel___len__, sp_is_integer, sp_is_count, sp_is_within, sp_rounded, tSeq, tAsg, gName, tVar, tC, tOp, rI, rI0, rU, tUn, oAdd, oSub, oMul, oDiv, oMod, oNeg, oLt, oLe, oGt, oGe, oIsN, oNotN, tFn, tCons, tNil, tIfS, tIf, tTest, tB, tNot, tAnd, tOr, tAndV, tOrV, tNotV,
    tRet, tRetN, tNext, tCB, tDrop, tChain, rEq, rNe, oMax2, oMin2, oInt1, rLenF, L2.start, List.map_cons, List.map_nil, List.length_cons, List.length_nil, List.replicate_succ, List.replicate_zero, List.cons_append, List.nil_append, Nat.reduceAdd, Nat.reduceSub, Nat.zero_add,
    List.set_cons_zero, List.set_cons_succ, List.getElem?_cons_zero, List.getElem?_cons_succ, Option.some.injEq, V.int.injEq, V.ref.injEq, V.str.injEq, V.bl.injEq, exists_eq_left', exists_eq_left, exists_and_left, List.cons.injEq, and_true, true_and, decide_eq_true_eq, sc_ii, sc_ss, sc_bb, sc_ni, sc_in, sc_nn, sc_is, reduceCtorEq,
    Bool.not_eq_true', decide_eq_false_iff_not, if_true, if_false, Bool.false_eq_true, exists_eq', exists_const, false_and, and_false, or_false, false_or, exists_false, Bool.not_not, Bool.not_true, Bool.not_false, sUp_up, sFire_fire, sHigh_high, sPut_put, sZone_now, sBey_refuse, sBey_cut, tTup, tLst, sz0, sz1, sz2, sz3, sz4, sz5, sz6])
section
variable {K : Frag} {w : World}
structure Grown (W : List Lv) (i : Nat) (g low : Int) : Prop where
  len : W.length = i
  z : i = 0 → g = 1 ∧ low = 1
  p : 0 < i → ROk W ∧ g = (lv W (i - 1)).g ∧ low = (lv W (i - 1)).p ∧ g ≤ 200
theorem RowsAt.sameP {p l r : Addr} {H H1 : Hp} {W : List Lv} (hp : PoolAt H p l) (e : RowsAt H r W) (s : SameP p l H H1) (h1 : r ≠ p) (h2 : r ≠ l) : RowsAt H1 r W := by
  obtain ⟨ts, a, b, c⟩ := e
  exact ⟨ts, s _ _ h1 h2 a, b, fun i t q => hp.tup s (c i t q)⟩
theorem RowsAt.same {r : Addr} {H H1 : Hp} {W : List Lv} (e : RowsAt H r W) (s : Same H H1) : RowsAt H1 r W := by
  obtain ⟨ts, a, b, c⟩ := e
  exact ⟨ts, s _ _ a, b, fun i t q => s _ _ (c i t q)⟩
theorem SameP.updf {p l r : Addr} {H H1 : Hp} {o : HO} (h : SameP p l H H1) (hr : H r = none) : SameP p l H (upd H1 r o) := fun b u n m e => by
  rw [upd_ne (ne_of_none e hr)]; exact h b u n m e
theorem PoolAt.updr {p l r : Addr} {H : Hp} {o : HO} (h : PoolAt H p l) (n : r ≠ p ∧ r ≠ l) : PoolAt (upd H r o) p l := by
  obtain ⟨n0, cs, i1, i2, i3, i4, h1, h2, h3⟩ := h
  exact ⟨n0, cs, i1, i2, i3, i4, by rw [upd_ne (fun e => n.1 e.symm)]; exact h1, by rw [upd_ne (fun e => n.2 e.symm)]; exact h2, h3⟩
end
end Tw
/-! Tw: whole starts later by grains -/
namespace Tw
open TwM
theorem levelIx_lt {W : List Lv} (ok : WOk W) (d : Int) : TwM.levelIx W d < W.length := by
  have hp := ok.pos
  unfold TwM.levelIx
  cases h : levelOf W d with
  | none => show W.length - 1 < W.length; omega
  | some i => exact (levelOf_lt h).1
theorem levelIx_mono {W : List Lv} (ok : WOk W) {d d' : Int} (h : d ≤ d') : TwM.levelIx W d ≤ TwM.levelIx W d' := by
  have h1 := levelIx_lt ok d
  unfold TwM.levelIx at h1 ⊢
  cases e' : levelOf W d' with
  | none => rw [show (none : Option Nat).getD (W.length - 1) = W.length - 1 from rfl]; omega
  | some i =>
    obtain ⟨a1, a2⟩ := levelOf_lt e'
    cases e : levelOf W d with
    | none => have := levelOf_none e i a1; omega
    | some j =>
      show j ≤ i
      rcases Nat.lt_or_ge i j with hj | hj
      · have := levelOf_ge e i hj; omega
      · exact hj
theorem spotAt_lv (W : List Lv) (B : Bk) (now rest due : Int) : (spotAt W B now rest due).lv = TwM.levelIx W rest := by
  unfold spotAt TwM.levelIx
  split <;> rename_i h <;> rw [h] <;> rfl
def Dv (W : List Lv) (k : Nat) (D : Int) : Prop := ∀ j, j ≤ k → (lv W j).g ∣ D
def sh (W : List Lv) (D : Int) (sp : Spot) : Spot := ⟨sp.lv, sp.pt + D / (lv W sp.lv).g, sp.due + D⟩
theorem rnd_shift {up : Bool} {t g m : Int} (hg : 0 < g) : rnd up (t + g * m) g = rnd up t g + m := by
  unfold rnd
  split
  · rw [show -(t + g * m) = -t + g * (-m) by rw [Int.mul_neg]; omega, Int.add_mul_ediv_left _ _ (by omega)]; omega
  · rw [Int.add_mul_ediv_left _ _ (by omega)]
theorem rnd_shiftD {up : Bool} {t g D : Int} (hg : 0 < g) (hd : g ∣ D) : rnd up (t + D) g = rnd up t g + D / g := by
  obtain ⟨m, rfl⟩ := hd
  rw [rnd_shift hg, Int.mul_ediv_cancel_left _ (by omega)]
theorem div_shift {t g D : Int} (hg : 0 < g) (hd : g ∣ D) : (t + D) / g = t / g + D / g := by
  obtain ⟨m, rfl⟩ := hd
  rw [Int.add_mul_ediv_left _ _ (by omega), Int.mul_ediv_cancel_left _ (by omega)]
theorem va_shift {l : Lv} {pt now D : Int} (hg : 0 < l.g) (hd : l.g ∣ D) : va l (pt + D / l.g) (now + D) = va l pt now + D := by
  unfold va
  rw [div_shift hg hd]
  have e : pt + D / l.g - (now / l.g + D / l.g) - 1 = pt - now / l.g - 1 := by omega
  rw [e]
  have e2 : now / l.g + D / l.g + 1 + (pt - now / l.g - 1) % l.s = (now / l.g + 1 + (pt - now / l.g - 1) % l.s) + D / l.g := by omega
  rw [e2, Int.add_mul, Int.ediv_mul_cancel hd]
theorem isVis_shift {l : Lv} {pt b now D : Int} (hg : 0 < l.g) (hd : l.g ∣ D) : isVis l (pt + D / l.g) (b + D) (now + D) = isVis l pt b now := by
  unfold isVis
  rw [div_shift hg hd, div_shift hg hd]
  have e : pt + D / l.g - (b / l.g + D / l.g) - 1 = pt - b / l.g - 1 := by omega
  have e2 : now / l.g + D / l.g - (b / l.g + D / l.g) = now / l.g - b / l.g := by omega
  rw [e, e2]
section
variable {W : List Lv} {B : Bk} {k : Nat} {D : Int}
theorem spotAt_shift (ok : WOk W) (hD : Dv W k D) {now rest due : Int} (hr : TwM.levelIx W rest ≤ k) : spotAt W B (now + D) rest (due + D) = sh W D (spotAt W B now rest due) := by
  have hp := ok.pos
  unfold TwM.levelIx at hr
  unfold spotAt sh
  cases e : levelOf W rest with
  | none =>
    rw [e] at hr
    have hr' : W.length - 1 ≤ k := hr
    have hg := (ok.all (W.length - 1) (by omega)).1
    dsimp only
    rw [show now + D + reach W - 1 = (now + reach W - 1) + D by omega, rnd_shiftD (by omega) (hD _ hr')]
  | some i =>
    rw [e] at hr
    have hr' : i ≤ k := hr
    have hg := (ok.all i (levelOf_lt e).1).1
    dsimp only
    rw [show now + D + rest = (now + rest) + D by omega, rnd_shiftD (by omega) (hD _ hr')]
theorem taken_shift (ok : WOk W) (hD : Dv W k D) {sp : Spot} {tick : Int} (hr : TwM.levelIx W (sp.due - tick) ≤ k) : taken W B (sh W D sp) (tick + D) = (taken W B sp tick).map (sh W D) := by
  unfold taken
  have e1 : (sh W D sp).lv = sp.lv := rfl
  have e2 : (sh W D sp).due = sp.due + D := rfl
  rw [e1, e2]
  split
  · rfl
  · by_cases h : tick < sp.due
    · rw [if_pos (by omega), if_pos h, show sp.due + D - (tick + D) = sp.due - tick by omega, spotAt_shift ok hD hr]
      rfl
    · rw [if_neg (by omega), if_neg h]
      split
      · show some _ = some _
        unfold sh
        dsimp only
        rw [ok.first, Int.ediv_one]
      · rfl
theorem visGo_shift (ok : WOk W) (hD : Dv W k D) {before now : Int} : ∀ (is : List Nat) {sp : Spot}, sp.lv ≤ k → sp.lv < W.length → TwM.levelIx W (sp.due - now) ≤ k → visGo W B (before + D) (now + D) is (sh W D sp) = (visGo W B before now is sp).map (Option.map (sh W D))
  | [], sp, _, _, _ => rfl
  | i :: is, sp, hk, hl, hr => by
    have hg := (ok.all sp.lv hl).1
    unfold visGo
    have e1 : (sh W D sp).lv = sp.lv := rfl
    have e3 : (sh W D sp).pt = sp.pt + D / (lv W sp.lv).g := rfl
    rw [e1, e3]
    by_cases hc : sp.lv = i ∧ isVis (lv W i) sp.pt before now = true
    · have hc' : sp.lv = i ∧ isVis (lv W i) (sp.pt + D / (lv W sp.lv).g) (before + D) (now + D) = true := ⟨hc.1, by rw [← hc.1, isVis_shift (by omega) (hD _ hk), hc.1]; exact hc.2⟩
      rw [if_pos hc, if_pos hc', taken_shift ok hD hr]
      cases e : taken W B sp now with
      | none => rfl
      | some s' =>
        obtain ⟨a1, a2, a3, a4, a5⟩ := taken_some ok e
        have hk' : s'.lv ≤ k := by
          rcases a5 with ⟨b1, b2⟩ | ⟨b1, b2, b3⟩
          · rw [b2, spotAt_lv]; exact hr
          · rw [b3]; exact Nat.zero_le _
        have ih := visGo_shift ok hD (before := before) (now := now) is (sp := s') hk' a1 (by rw [a2]; exact hr)
        show some (sh W D s') :: visGo W B (before + D) (now + D) is (sh W D s') = _
        rw [ih]
        rfl
    · have hc' : ¬ (sp.lv = i ∧ isVis (lv W i) (sp.pt + D / (lv W sp.lv).g) (before + D) (now + D) = true) := fun z => hc ⟨z.1, by
        have := z.2
        rw [← z.1, isVis_shift (by omega) (hD _ hk), z.1] at this
        exact this⟩
      rw [if_neg hc, if_neg hc']
      exact visGo_shift ok hD is hk hl hr
theorem visited_shift (ok : WOk W) (hD : Dv W k D) {before now : Int} {sp : Spot} (hk : sp.lv ≤ k) (hl : sp.lv < W.length) (hr : TwM.levelIx W (sp.due - now) ≤ k) : visited W B (sh W D sp) (before + D) (now + D) = (visited W B sp before now).map (Option.map (sh W D)) :=
  visGo_shift ok hD _ hk hl hr
theorem skipped_shift (ok : WOk W) (hD : Dv W k D) {tick : Int} {sp : Spot} (hk : sp.lv ≤ k) (hl : sp.lv < W.length) : skipped W (sh W D sp) (tick + D) none = skipped W sp tick none := by
  have hg := (ok.all sp.lv hl).1
  have e1 : (sh W D sp).lv = sp.lv := rfl
  have e2 : (sh W D sp).due = sp.due + D := rfl
  have e3 : (sh W D sp).pt = sp.pt + D / (lv W sp.lv).g := rfl
  unfold skipped
  rw [e1, e2, e3, va_shift (by omega) (hD _ hk), show sp.due + D - (tick + D) = sp.due - tick by omega, show va (lv W sp.lv) sp.pt tick + D - (tick + D) = va (lv W sp.lv) sp.pt tick - tick by omega]
def shR (W : List Lv) (D : Int) (r : Res) : Res := (r.1.map (sh W D), r.2.1 + D, r.2.2)
theorem fol_shift (ok : WOk W) (hD : Dv W k D) : ∀ (n : Nat) {sp : Spot} {tick mv : Int}, sp.lv ≤ k → sp.lv < W.length → TwM.levelIx W (sp.due - tick) ≤ k → fol W B none n (sh W D sp) (tick + D) mv = (fol W B none n sp tick mv).map (shR W D)
  | 0, sp, tick, mv, _, _, _ => rfl
  | n + 1, sp, tick, mv, hk, hl, hr => by
    have hall := ok.all sp.lv hl
    have hgt := va_gt (l := lv W sp.lv) (by omega) (by omega) sp.pt tick
    have e1 : (sh W D sp).lv = sp.lv := rfl
    have e3 : (sh W D sp).pt = sp.pt + D / (lv W sp.lv).g := rfl
    unfold fol
    rw [e1, e3, va_shift (by omega) (hD _ hk)]
    generalize ht : va (lv W sp.lv) sp.pt tick = t at hgt ⊢
    have hr' : TwM.levelIx W (sp.due - t) ≤ k := Nat.le_trans (levelIx_mono ok (by omega)) hr
    dsimp only
    rw [show over none (t + D) = false from rfl, show over none t = false from rfl, if_neg Bool.false_ne_true, if_neg Bool.false_ne_true]
    rw [show t + D - 1 = (t - 1) + D by omega, visited_shift ok hD hk hl hr', List.getLast?_map, List.length_map]
    cases e : (visited W B sp (t - 1) t).getLast? with
    | none => rfl
    | some o =>
      cases o with
      | none => rfl
      | some s' =>
        obtain ⟨c1, c2, c3, c4⟩ := visGo_last ok _ e
        have hk' : s'.lv ≤ k := by
          rcases c4 with ⟨b1, b2⟩ | ⟨b1, b2⟩
          · rw [b2, spotAt_lv]; exact hr'
          · rw [b2]; exact Nat.zero_le _
        show (if 0 < (skipped W (sh W D s') (t + D) none).1 then _ else _) = _
        rw [skipped_shift ok hD hk' c1]
        dsimp only [Option.map]
        by_cases h0 : 0 < (skipped W s' t none).1
        · rw [if_pos h0, if_pos h0]
          have hk2 : 0 < (skipped W s' t none).2 := by
            obtain ⟨_, _, k3, _⟩ := skipped_pos h0
            have hall' := ok.all _ c1
            have := va_gt (l := lv W s'.lv) (by omega) (by omega) s'.pt t
            rw [k3]; omega
          have hpos : 0 < (skipped W s' t none).1 * (skipped W s' t none).2 := Int.mul_pos h0 hk2
          generalize (skipped W s' t none).1 * (skipped W s' t none).2 = j at hpos ⊢
          have hr2 : TwM.levelIx W (s'.due - (t + j)) ≤ k := Nat.le_trans (levelIx_mono ok (by rw [c2]; omega)) hr'
          have e4 : (sh W D s').due = s'.due + D := rfl
          rw [e4, show t + D + j = (t + j) + D by omega, show s'.due + D - (t + j + D) = s'.due - (t + j) by omega, spotAt_shift ok hD hr2]
          exact fol_shift ok hD n (by rw [spotAt_lv]; exact hr2) (spotAt_lt ok _ _ _ _) (by rw [spotAt_due]; exact hr2)
        · rw [if_neg h0, if_neg h0]
          exact fol_shift ok hD n hk' c1 (by rw [c2]; exact hr')
theorem dvd_le (ok : WOk W) : ∀ (n j : Nat), j + n < W.length → (lv W j).g ∣ (lv W (j + n)).g
  | 0, j, _ => Int.dvd_refl _
  | n + 1, j, h => Int.dvd_trans (dvd_le ok n j (by omega)) (ok.dv (j + n) (by omega))
theorem dv_of (ok : WOk W) (hk : k < W.length) (m : Int) : Dv W k ((lv W k).g * m) := fun j hj => by
  have := dvd_le ok (k - j) j (by omega)
  rw [show j + (k - j) = k by omega] at this
  exact Int.dvd_trans this (Int.dvd_mul_right _ _)
theorem asc_le (ok : WOk W) : ∀ (n j : Nat), j + n + 1 < W.length → (lv W j).p < (lv W (j + n + 1)).p
  | 0, j, h => ok.asc j h
  | n + 1, j, h => Int.lt_trans (asc_le ok n j (by omega)) (ok.asc (j + n + 1) (by omega))
theorem place_form (ok : WOk W) (hb3 : B.bey < 3) {delay : Int} (hd : 1 ≤ delay) (hb : reach W ≤ delay → B.bey ≠ 0) :
    ∃ r, 1 ≤ r ∧ TwM.levelIx W r = TwM.levelIx W delay ∧ ∀ now, placeM W B now delay = some (spotAt W B now r (now + r)) := by
  have hp := ok.pos
  have hre : 2 ≤ reach W := (ok.all (W.length - 1) (by omega)).2.2.2.2
  have e0 : (if 1 > delay then 1 else delay) = delay := by split <;> omega
  by_cases hc : reach W ≤ delay ∧ B.bey = 2
  · refine ⟨reach W - 1, by omega, ?_, fun now => ?_⟩
    · have e1 : levelOf W delay = none := levelOf_isN fun j hj => by
        rcases Nat.lt_or_ge (j + 1) W.length with h | h
        · have := asc_le ok (W.length - 1 - j - 1) j (by omega)
          rw [show j + (W.length - 1 - j - 1) + 1 = W.length - 1 by omega] at this
          have : (lv W j).p < reach W := this
          omega
        · rw [show j = W.length - 1 by omega]
          exact hc.1
      have e2 : TwM.levelIx W delay = W.length - 1 := by unfold TwM.levelIx; rw [e1]; rfl
      rw [e2]
      unfold TwM.levelIx
      cases e : levelOf W (reach W - 1) with
      | none => rfl
      | some i =>
        show i = W.length - 1
        obtain ⟨a1, a2⟩ := levelOf_lt e
        rcases Nat.lt_or_ge i (W.length - 1) with h | h
        · have := asc_le ok (W.length - 1 - i - 1) i (by omega)
          rw [show i + (W.length - 1 - i - 1) + 1 = W.length - 1 by omega] at this
          have : (lv W i).p < reach W := this
          omega
        · omega
    · unfold placeM
      rw [if_neg (fun z => by have := z.1; omega)]
      dsimp only
      rw [e0, if_pos hc]
  · refine ⟨delay, hd, rfl, fun now => ?_⟩
    unfold placeM
    rw [if_neg (fun z => by have := z.1; omega)]
    dsimp only
    rw [e0, if_neg hc]
theorem later (ok : WOk W) (hb3 : B.bey < 3) {delay : Int} (hd : 1 ≤ delay) (hb : reach W ≤ delay → B.bey ≠ 0) (start m : Int) :
    ∃ s1 s2, placeM W B start delay = some s1 ∧ placeM W B (start + (lv W (TwM.levelIx W delay)).g * m) delay = some s2 ∧ s1.lv = s2.lv ∧ s2.pt - s1.pt = m ∧ s2.due - s1.due = (lv W (TwM.levelIx W delay)).g * m ∧
      (fin W B (start + (lv W (TwM.levelIx W delay)).g * m) delay).1 = (fin W B start delay).1 + (lv W (TwM.levelIx W delay)).g * m ∧ (fin W B (start + (lv W (TwM.levelIx W delay)).g * m) delay).2 = (fin W B start delay).2 := by
  obtain ⟨r, hr1, hr2, hpl⟩ := place_form ok hb3 hd hb
  have hk := levelIx_lt ok delay
  generalize hkk : TwM.levelIx W delay = k at hk hr2 ⊢
  have hg := (ok.all k hk).1
  have hD := dv_of ok hk m
  have hsh := spotAt_shift (B := B) (now := start) (rest := r) (due := start + r) ok hD (Nat.le_of_eq hr2)
  have hlv : (spotAt W B start r (start + r)).lv = k := by rw [spotAt_lv]; exact hr2
  have e1 := hpl start
  have e2 : placeM W B (start + (lv W k).g * m) delay = some (sh W ((lv W k).g * m) (spotAt W B start r (start + r))) := by
    rw [hpl, ← hsh, show start + (lv W k).g * m + r = start + r + (lv W k).g * m by omega]
  have hl : (spotAt W B start r (start + r)).lv < W.length := by rw [hlv]; exact hk
  obtain ⟨q, hq⟩ := fol_ends ok B none (mu (spotAt W B start r (start + r)) start) _ start 0 hl (Nat.le_refl _)
  have hq2 := fol_shift (B := B) ok hD (mu (spotAt W B start r (start + r)) start) (sp := spotAt W B start r (start + r)) (tick := start) (mv := 0) (by omega) hl (by rw [spotAt_due, show start + r - start = r by omega]; exact Nat.le_of_eq hr2)
  rw [hq] at hq2
  have f1 := fin_some e1 ok hl hq
  have f2 := fin_some e2 ok (by show (spotAt W B start r (start + r)).lv < W.length; exact hl) hq2
  refine ⟨_, _, e1, e2, rfl, ?_, ?_, ?_, ?_⟩
  · show (spotAt W B start r (start + r)).pt + (lv W k).g * m / (lv W (spotAt W B start r (start + r)).lv).g - (spotAt W B start r (start + r)).pt = m
    rw [hlv, Int.mul_ediv_cancel_left _ (by omega)]
    omega
  · show (spotAt W B start r (start + r)).due + (lv W k).g * m - (spotAt W B start r (start + r)).due = (lv W k).g * m
    omega
  · rw [f1, f2]; rfl
  · rw [f1, f2]; rfl
end
end Tw
/-! Tw: common divisors, inverses, first hits -/
namespace Tw
open TwM
def IsG (a b g : Int) : Prop := 0 < g ∧ ∀ d, (d ∣ a ∧ d ∣ b) ↔ d ∣ g
theorem IsG.eq {a b g g' : Int} (h : IsG a b g) (h' : IsG a b g') : g = g' := by
  have h1 : g ∣ g' := (h'.2 g).mp ((h.2 g).mpr (Int.dvd_refl g))
  have h2 : g' ∣ g := (h.2 g').mp ((h'.2 g').mpr (Int.dvd_refl g'))
  exact Int.dvd_antisymm (Int.le_of_lt h.1) (Int.le_of_lt h'.1) h1 h2
theorem IsG.right {a b g : Int} (h : IsG a b g) : g ∣ b := ((h.2 g).mpr (Int.dvd_refl g)).2
theorem dvd_step (a b d : Int) : (d ∣ b % a ∧ d ∣ a) ↔ (d ∣ a ∧ d ∣ b) := by
  constructor
  · rintro ⟨h1, h2⟩
    refine ⟨h2, ?_⟩
    have := Int.dvd_add (Int.dvd_trans h2 (Int.dvd_mul_right a (b / a))) h1
    rwa [Int.mul_ediv_add_emod] at this
  · rintro ⟨h1, h2⟩
    refine ⟨?_, h1⟩
    have := Int.dvd_sub h2 (Int.dvd_trans h1 (Int.dvd_mul_right a (b / a)))
    rwa [← Int.emod_def] at this
theorem dvd_absI (a d : Int) : d ∣ (if a < 0 then -a else a) ↔ d ∣ a := by
  split
  · exact Int.dvd_neg
  · exact Iff.rfl
def FH (base length goal modulus : Int) (o : Option Int) : Prop := ∃ g, IsG length modulus g ∧ match o with
  | none => ¬ g ∣ goal - base
  | some k => 1 ≤ k ∧ k ≤ modulus / g ∧ modulus ∣ base + k * length - goal
theorem visGo_fire {W : List Lv} {B : Bk} (hf : B.fire = true) {before now : Int} : ∀ (is : List Nat) {sp : Spot}, sp.lv ∈ is → isVis (lv W sp.lv) sp.pt before now = true → visGo W B before now is sp = [none]
  | [], sp, h, _ => by simp at h
  | i :: is, sp, h, hv => by
    unfold visGo
    by_cases e : sp.lv = i
    · have et : taken W B sp now = none := by unfold taken; rw [if_pos (.inr hf)]
      rw [if_pos ⟨e, by rw [← e]; exact hv⟩, et]
    · rw [if_neg (fun z => e z.1)]
      exact visGo_fire hf is (by rcases List.mem_cons.mp h with q | q; exact absurd q e; exact q) hv
end Tw
/-! Tw: readings of common divisors, inverses, first hits, beats -/
namespace Tw
open PySem PySem.Spec PyProof.Rows L2 He TwM StX
open PySem.W (Frag)
local macro_rules | `(tactic| walk_at "rsg") => `(tactic| simp only [*, at3_0, at3_1, at3_2, at2_0, at2_1, updS, upd_two, gSub, rSetL, updN, and_assoc, not_true_eq_false, not_false_eq_true, tNever, List.length_map, tFld, rIxTH, rIxLH, rLenTH, rLenLH, lk1, lfs_g, lfs_s, lfs_p, HO.ins.injEq, HO.tup.injEq, HO.lst.injEq, sp_Book_rounding, sp_Book_action, sp_Book_order, sp_Book_due, sp_Book_zero, sp_Book_beyond, Int.toNat_natCast, sp_visit_after, sp_is_visited, sp_Level_grain, sp_Level_slots, sp_Level_span, sp_Wheel_reach, sp_Wheel___len__, sp_is_integer, sp_is_count, sp_is_within, sp_rounded, tSeq, tAsg, gName, tVar, tC, tOp, rI, rI0, rU, tUn, oAdd, oSub, oMul, oDiv, oMod, oNeg, oLt, oLe, oGt, oGe, oIsN, oNotN, tFn, tCons, tNil, tIfS, tIf, tTest, tB, tNot, tAnd, tOr, tAndV, tOrV, tNotV,
    tRet, tRetN, tNext, tCB, tDrop, tChain, rEq, rNe, oMax2, oMin2, oInt1, rLenF, L2.start, List.map_cons, List.map_nil, List.length_cons, List.length_nil, List.replicate_succ, List.replicate_zero, List.cons_append, List.nil_append, Nat.reduceAdd, Nat.reduceSub, Nat.zero_add,
    List.set_cons_zero, List.set_cons_succ, List.getElem?_cons_zero, List.getElem?_cons_succ, Option.some.injEq, V.int.injEq, V.ref.injEq, V.str.injEq, V.bl.injEq, exists_eq_left', exists_eq_left, exists_and_left, List.cons.injEq, and_true, true_and, decide_eq_true_eq, sc_ii, sc_ss, sc_bb, sc_ni, sc_in, sc_nn, sc_is, reduceCtorEq,
    Bool.not_eq_true', decide_eq_false_iff_not, if_true, if_false, Bool.false_eq_true, exists_eq', exists_const, false_and, and_false, or_false, false_or, exists_false, Bool.not_not, Bool.not_true, Bool.not_false, sUp_up, sFire_fire, sHigh_high, sPut_put, sZone_now, sBey_refuse, sBey_cut, tTup, tLst, sz0, sz1, sz2, sz3, sz4, sz5, sz6])
section
variable {K : Frag} {w : World}
def sp_common_divisor (K : Frag) : Sp := fun vs H Q _ => ∃ (a b : Int), vs = [.int a, .int b] ∧ 0 < b ∧ ∀ g, IsG a b g → Q (.int g) H
def cdInv (a b : Int) (H : Hp) (m : Nat) (σ : L2.St) (H' : Hp) : Prop := ∃ x y : Int, σ = [some (.int a), some (.int b), some (.int x), some (.int y)] ∧ H' = H ∧ x.toNat = m ∧ 0 ≤ x ∧ 0 < y ∧ ∀ d, (d ∣ x ∧ d ∣ y) ↔ (d ∣ a ∧ d ∣ b)
def t_common_divisor (K : Frag) (w : World) : TS :=
  (tSeq (tPar 2 3 (tCons (tCB oAbs (tCons (tVar 0) tNil)) (tCons (tVar 1) tNil)))
  (tSeq (tWhile (tTest (tOp oGt (tVar 2) (tC (.int 0))))
    (tPar 2 3 (tCons (tOp oMod (tVar 3) (tVar 2)) (tCons (tVar 2) tNil))))
  (tRet (tVar 3))))
def n_common_divisor : List Str := ["first", "second", "one", "other"]
theorem rd_common_divisor (vs : List V) (H : Hp) (Q : VK) (E : XK) (h : sp_common_divisor K vs H Q E) : t_common_divisor K w { nx := fun _ H' => Q .non H', rt := Q } (L2.start n_common_divisor vs) H := by
  obtain ⟨a, b, rfl, hb, q⟩ := h
  unfold t_common_divisor n_common_divisor tPar oAbs
  walk_at "rsg"
  refine ⟨cdInv a b H, ⟨_, _, _, rfl, rfl, rfl, by split <;> omega, hb, fun d => by rw [dvd_absI]⟩, ?_⟩
  rintro m σ H1 ⟨x, y, rfl, rfl, rfl, hx, hy, hd⟩
  walk_at "rsg"
  refine ite2 (fun h => ⟨cdInv a b H1 (y % x).toNat, fun σ' H' z => ⟨_, ?_, z⟩, ?_⟩) fun h => q y ⟨hy, fun d => ?_⟩
  · have h1 := Int.emod_nonneg y (b := x) (by omega)
    have h2 := Int.emod_lt_of_pos y h
    omega
  · exact ⟨h, _, _, rfl, rfl, rfl, Int.emod_nonneg y (by omega), h, fun d => (dvd_step x y d).trans (hd d)⟩
  · have h0 : x = 0 := by omega
    subst h0
    exact (hd d).symm.trans ⟨fun z => z.2, fun z => ⟨Int.dvd_zero d, z⟩⟩
def sp__law_common (K : Frag) : Sp := fun vs H Q _ => ∃ (a b : Int), vs = [.int a, .int b] ∧ (0 < a ∨ 0 < b) ∧ 0 ≤ b ∧ ∀ g, IsG a b g → Q (.int g) H
def lcInv (a b : Int) (H : Hp) (m : Nat) (σ : L2.St) (H' : Hp) : Prop := ∃ x y : Int, σ = [some (.int a), some (.int b), some (.int x), some (.int y)] ∧ H' = H ∧ y.toNat = m ∧ (0 < x ∨ 0 < y) ∧ 0 ≤ y ∧ ∀ d, (d ∣ x ∧ d ∣ y) ↔ (d ∣ a ∧ d ∣ b)
def t__law_common (K : Frag) (w : World) : TS :=
  (tSeq (tPar 2 3 (tCons (tCB oAbs (tCons (tVar 0) tNil)) (tCons (tVar 1) tNil)))
  (tSeq (tWhile (tTest (tOp oGt (tVar 3) (tC (.int 0))))
    (tPar 2 3 (tCons (tVar 3) (tCons (tOp oMod (tVar 2) (tVar 3)) tNil))))
  (tRet (tVar 2))))
def n__law_common : List Str := ["_law_top", "_law_bottom", "_law_one", "_law_other"]
theorem rd__law_common (vs : List V) (H : Hp) (Q : VK) (E : XK) (h : sp__law_common K vs H Q E) : t__law_common K w { nx := fun _ H' => Q .non H', rt := Q } (L2.start n__law_common vs) H := by
  obtain ⟨a, b, rfl, ha, hb, q⟩ := h
  unfold t__law_common n__law_common tPar
  first
    | (walk_at "rsg"; refine ⟨lcInv a b H, ⟨_, _, _, rfl, rfl, rfl, ha, hb, fun d => Iff.rfl⟩, ?_⟩)
    | (unfold oAbs; walk_at "rsg"; refine ⟨lcInv a b H, ⟨_, _, _, rfl, rfl, rfl, by split <;> omega, hb, fun d => by rw [dvd_absI]⟩, ?_⟩)
  rintro m σ H1 ⟨x, y, rfl, rfl, rfl, hx, hy, hd⟩
  walk_at "rsg"
  refine ite2 (fun h => ⟨lcInv a b H1 (x % y).toNat, fun σ' H' z => ⟨_, ?_, z⟩, ?_⟩) fun h => q x ⟨by omega, fun d => ?_⟩
  · have h1 := Int.emod_nonneg x (b := y) (by omega)
    have h2 := Int.emod_lt_of_pos x h
    omega
  · exact ⟨h, _, _, rfl, rfl, rfl, .inl h, Int.emod_nonneg x (by omega), fun d => ⟨fun z => (hd d).mp ((dvd_step y x d).mp ⟨z.2, z.1⟩).symm, fun z => ((dvd_step y x d).mpr ((hd d).mpr z).symm).symm⟩⟩
  · have h0 : y = 0 := by omega
    subst h0
    exact (hd d).symm.trans ⟨fun z => z.1, fun z => ⟨z, Int.dvd_zero d⟩⟩
structure Kg (K : Frag) : Prop where
  md : ∀ H, SqT K H (ga K "MODES") [.str "each", .str "last", .str "slots"]
end
end Tw
/-! Tw: small words for the laws' bodies -/
namespace Tw
open PySem PySem.Spec PyProof.Rows L2 He TwM StX
open PySem.W (Frag)
theorem gName1 (i : Nat) (v : V) (σ : L2.St) (H : Hp) (Q : L2.St → Hp → Prop) : gName i v σ H Q = Q (σ.set i (some v)) H := rfl
theorem seq1 (a b : TS) (D : Ends) (σ : L2.St) (H : Hp) : tSeq a b D σ H = a { D with nx := b D } σ H := rfl
theorem ROk.small {W : List Lv} (h : ROk W) {i : Nat} (hi : i < W.length) : (lv W i).p ≤ 400000 := by
  have h1 := h.ok.all i hi
  have h2 := h.sp i hi
  have h3 : 4 * (lv W i).s * (lv W i).g ≤ 400 * 1000 := Int.mul_le_mul (by omega) (by omega) (by omega) (by omega)
  omega
end Tw
/-! Tw: drawn rows with bounds -/
namespace Tw
open PySem PySem.Spec PyProof.Rows L2 He TwM StX
open PySem.W (Frag)
local macro_rules | `(tactic| walk_at "rsl2") => `(tactic| simp only [*, at3_0, at3_1, at3_2, at2_0, at2_1, updS, upd_two, gSub, rSetL, updN, and_assoc, not_true_eq_false, not_false_eq_true, tNever, List.length_map, tFld, rIxTH, rIxLH, rLenTH, rLenLH, lk1, lfs_g, lfs_s, lfs_p, HO.ins.injEq, HO.tup.injEq, HO.lst.injEq, sp_Book_rounding, sp_Book_action, sp_Book_order, sp_Book_due, sp_Book_zero, sp_Book_beyond, Int.toNat_natCast, sp_visit_after, sp_is_visited, sp_Level_grain, sp_Level_slots, sp_Level_span, sp_Wheel_reach, sp_Wheel___len__, sp_is_integer, sp_is_count, sp_is_within, sp_rounded, tSeq, tAsg, gName, tVar, tC, tOp, rI, rI0, rU, tUn, oAdd, oSub, oMul, oDiv, oMod, oNeg, oLt, oLe, oGt, oGe, oIsN, oNotN, tFn, tCons, tNil, tIfS, tIf, tTest, tB, tNot, tAnd, tOr, tAndV, tOrV, tNotV,
    tRet, tRetN, tNext, tCB, tDrop, tChain, rEq, rNe, oMax2, oMin2, oInt1, rLenF, L2.start, List.map_cons, List.map_nil, List.length_cons, List.length_nil, List.replicate_succ, List.replicate_zero, List.cons_append, List.nil_append, Nat.reduceAdd, Nat.reduceSub, Nat.zero_add,
    List.set_cons_zero, List.set_cons_succ, List.getElem?_cons_zero, List.getElem?_cons_succ, Option.some.injEq, V.int.injEq, V.ref.injEq, V.str.injEq, V.bl.injEq, exists_eq_left', exists_eq_left, exists_and_left, List.cons.injEq, and_true, true_and, decide_eq_true_eq, sc_ii, sc_ss, sc_bb, sc_ni, sc_in, sc_nn, sc_is, reduceCtorEq,
    Bool.not_eq_true', decide_eq_false_iff_not, if_true, if_false, Bool.false_eq_true, exists_eq', exists_const, false_and, and_false, or_false, false_or, exists_false, Bool.not_not, Bool.not_true, Bool.not_false, sUp_up, sFire_fire, sHigh_high, sPut_put, sZone_now, sBey_refuse, sBey_cut, tTup, tLst, sz0, sz1, sz2, sz3, sz4, sz5, sz6])
section
variable {K : Frag} {w : World}
end
end Tw
/-! Tw: spots as data -/
namespace Tw
open PySem PySem.Spec PyProof.Rows L2 He TwM
open PySem.W (Frag)
section
variable {K : Frag} {H : Hp}
def dSp : Option Spot → PyData
  | none => .none
  | some sp => .tuple [.int sp.lv, .int sp.pt, .int sp.due]
theorem OSp.dp {v : V} {o : Option Spot} (h : OSp H v o) : Dp K H v (dSp o) := by
  cases o with
  | none =>
    have e : v = .non := h
    subst e
    exact .non
  | some sp =>
    obtain ⟨p, rfl, hp⟩ := h
    exact .tup (SqT.of hp) (.cons (.int _) (.cons (.int _) (.cons (.int _) .nil)))
theorem OSps.dp : ∀ {xs : List V} {os : List (Option Spot)}, OSps H xs os → DpAll K H xs (os.map dSp)
  | [], [], _ => .nil
  | [], _ :: _, h => by have := h.1; simp at this
  | _ :: _, [], h => by have := h.1; simp at this
  | x :: xs, o :: os, h => .cons (h.2 0 x o rfl rfl).dp (OSps.dp (xs := xs) (os := os) ⟨by have := h.1; simpa using this, fun i v q e1 e2 => h.2 (i + 1) v q (by simpa using e1) (by simpa using e2)⟩)
end
def passM (W : List Lv) (B : Bk) (sp : Spot) (before now : Int) (mode : Str) : Option Spot :=
  if mode = "each" then
    match fol W B (some now) (mu sp before) sp before 0 with
    | some r => r.1
    | none => none
  else
    match (visited W B sp (if mode = "last" then now - 1 else before) now).getLast? with
    | none => some sp
    | some o => o
end Tw
/-! Tw: walks from visit to visit; lumps of one length -/
namespace Tw
open TwM
section
variable {W : List Lv} {B : Bk}
inductive Walks (W : List Lv) (B : Bk) : Spot → Int → Int → Prop
  | fired {sp : Spot} {tick : Int} : (visited W B sp (va (lv W sp.lv) sp.pt tick - 1) (va (lv W sp.lv) sp.pt tick)).getLast? = some none → Walks W B sp tick (va (lv W sp.lv) sp.pt tick)
  | on {sp sp' : Spot} {tick T : Int} : (visited W B sp (va (lv W sp.lv) sp.pt tick - 1) (va (lv W sp.lv) sp.pt tick)).getLast? = some (some sp') → Walks W B sp' (va (lv W sp.lv) sp.pt tick) T → Walks W B sp tick T
theorem Walks.eq {sp : Spot} {tick T T' : Int} (h : Walks W B sp tick T) (h' : Walks W B sp tick T') : T = T' := by
  induction h with
  | fired e =>
    cases h' with
    | fired _ => rfl
    | on e' _ => rw [e] at e'; cases e'
  | on e _ ih =>
    cases h' with
    | fired e' => rw [e] at e'; cases e'
    | on e' q => rw [e] at e'; cases e'; exact ih q
theorem skipped_no {sp : Spot} {tick : Int} {lim : Option Int} (h : sp.due - tick < reach W) : skipped W sp tick lim = (0, 0) := by
  unfold skipped
  rw [if_pos (.inr h)]
theorem fol_walks (ok : WOk W) : ∀ (n : Nat) {sp : Spot} {tick mv : Int} {r : Res}, fol W B none n sp tick mv = some r → sp.due - tick ≤ reach W → sp.lv < W.length → Walks W B sp tick r.2.1
  | 0, _, _, _, _, h, _, _ => by cases h
  | n + 1, sp, tick, mv, r, h, hr, hl => by
    have hall := ok.all _ hl
    have hgt := va_gt (l := lv W sp.lv) (by omega) (by omega) sp.pt tick
    unfold fol at h
    dsimp only at h
    rw [if_neg (by unfold over; exact Bool.false_ne_true)] at h
    cases hq : (visited W B sp (va (lv W sp.lv) sp.pt tick - 1) (va (lv W sp.lv) sp.pt tick)).getLast? with
    | none => rw [hq] at h; cases h
    | some o =>
      rw [hq] at h
      cases o with
      | none => cases h; exact .fired hq
      | some sp' =>
        dsimp only at h
        obtain ⟨c1, c2, c3, c4⟩ := visGo_last ok _ hq
        rw [skipped_no (by rw [c2]; omega), if_neg (by decide)] at h
        exact .on hq (fol_walks ok n h (by rw [c2]; omega) c1)
theorem va_most {l : Lv} (hg : 0 < l.g) (hs : 0 < l.s) (pt now : Int) : va l pt now ≤ now + l.s * l.g := by
  unfold va
  have h1 := Int.emod_lt_of_pos (pt - now / l.g - 1) hs
  have h2 : (now / l.g + 1 + (pt - now / l.g - 1) % l.s) * l.g ≤ (now / l.g + l.s) * l.g := Int.mul_le_mul_of_nonneg_right (by omega) (by omega)
  have h3 := Int.ediv_mul_le now (b := l.g) (by omega)
  have h4 := Int.add_mul (now / l.g) l.s l.g
  omega
theorem va_step (ok : WOk W) {i : Nat} (hi : i < W.length) (pt now : Int) : now < va (lv W i) pt now ∧ va (lv W i) pt now ≤ now + 100000 := by
  have hall := ok.all _ hi
  refine ⟨va_gt (by omega) (by omega) pt now, ?_⟩
  have h1 := va_most (l := lv W i) (by omega) (by omega) pt now
  have h2 : (lv W i).s * (lv W i).g ≤ 100 * 1000 := Int.mul_le_mul (by omega) (by omega) (by omega) (by omega)
  omega
theorem mu_step {sp sp' : Spot} {tick t bf : Int} (ok : WOk W) (ht : tick < t) (hq : (visited W B sp bf t).getLast? = some (some sp')) : mu sp' t + 1 ≤ mu sp tick ∧ sp'.lv < W.length ∧ sp'.due = sp.due := by
  obtain ⟨c1, c2, c3, c4⟩ := visGo_last ok _ hq
  refine ⟨?_, c1, c2⟩
  have h0 : sp.lv ≠ 0 := fun e => by
    have := visGo_zero (W := W) (B := B) (before := bf) (now := t) (order W B) e (some sp') (List.mem_of_getLast? hq)
    cases this
  unfold mu
  rw [if_neg h0]
  split
  · omega
  · rename_i hz
    rcases c4 with ⟨d1, d2⟩ | ⟨d1, d2⟩
    · rw [c2]; omega
    · exact absurd (by rw [d2]) hz
inductive Beats (W : List Lv) (B : Bk) (nx : Lv → Int → Int → Option Int → Prop) (bf : Int → Int) : Spot → Int → Option Int → Prop
  | lost {sp : Spot} {tick : Int} : nx (lv W sp.lv) sp.pt tick none → Beats W B nx bf sp tick none
  | fired {sp : Spot} {tick t : Int} : nx (lv W sp.lv) sp.pt tick (some t) → (visited W B sp (bf t) t).getLast? = some none → Beats W B nx bf sp tick (some t)
  | on {sp sp' : Spot} {tick t : Int} {o : Option Int} : nx (lv W sp.lv) sp.pt tick (some t) → (visited W B sp (bf t) t).getLast? = some (some sp') → Beats W B nx bf sp' t o → Beats W B nx bf sp tick o
theorem Beats.one {nx : Lv → Int → Int → Option Int → Prop} {bf : Int → Int} (ok : WOk W) (hx : ∀ i pt tick o, i < W.length → nx (lv W i) pt tick o → o = some (va (lv W i) pt tick)) (hb : ∀ t, bf t = t - 1) {sp : Spot} {tick : Int} {o : Option Int}
    (h : Beats W B nx bf sp tick o) (hl : sp.lv < W.length) : ∃ T, o = some T ∧ Walks W B sp tick T := by
  induction h with
  | lost e => have := hx _ _ _ _ hl e; cases this
  | @fired sp tick t e q =>
    obtain rfl := Option.some.inj (hx _ _ _ _ hl e)
    rw [hb] at q
    exact ⟨_, rfl, .fired q⟩
  | @on sp sp' tick t o e q z ih =>
    obtain rfl := Option.some.inj (hx _ _ _ _ hl e)
    rw [hb] at q
    obtain ⟨c1, c2, c3, c4⟩ := visGo_last ok _ q
    obtain ⟨T, rfl, hT⟩ := ih c1
    exact ⟨T, rfl, .on q hT⟩
theorem isVis_in {l : Lv} {pt v bf now : Int} (hg : 0 < l.g) (hs : 0 < l.s) (h : l.g * l.s ∣ v - pt * l.g) (h1 : bf < v) (h2 : v ≤ now) : isVis l pt bf now = true := by
  obtain ⟨j, hj⟩ := h
  have e : v = (pt + l.s * j) * l.g := by rw [Int.add_mul, Int.mul_comm (l.s * j) l.g, ← Int.mul_assoc]; omega
  unfold isVis
  have h3 : bf / l.g < pt + l.s * j := Int.ediv_lt_of_lt_mul hg (by omega)
  have h4 : pt + l.s * j ≤ now / l.g := Int.le_ediv_of_mul_le hg (by omega)
  have h5 : (pt - bf / l.g - 1) % l.s = (pt + l.s * j - bf / l.g - 1) % l.s := by
    rw [show pt + l.s * j - bf / l.g - 1 = (pt - bf / l.g - 1) + l.s * j by omega, Int.add_mul_emod_self_left]
  have h6 : (pt + l.s * j - bf / l.g - 1) % l.s ≤ pt + l.s * j - bf / l.g - 1 := by
    have := Int.emod_def (pt + l.s * j - bf / l.g - 1) l.s
    have h7 : 0 ≤ (pt + l.s * j - bf / l.g - 1) / l.s := Int.ediv_nonneg (by omega) (by omega)
    have h8 : 0 ≤ l.s * ((pt + l.s * j - bf / l.g - 1) / l.s) := Int.mul_nonneg (by omega) h7
    omega
  rw [h5]
  exact decide_eq_true (by omega)
theorem va_dvd {l : Lv} (hs : 0 < l.s) (pt now : Int) : l.g * l.s ∣ va l pt now - pt * l.g := by
  unfold va
  have e := Int.emod_def (pt - now / l.g - 1) l.s
  refine ⟨-((pt - now / l.g - 1) / l.s), ?_⟩
  rw [e, ← Int.sub_mul, Int.mul_neg, Int.mul_assoc, ← Int.mul_neg, Int.mul_comm l.g]
  congr 1
  generalize l.s * ((pt - now / l.g - 1) / l.s) = z
  omega
theorem va_uniq {l : Lv} (hg : 0 < l.g) (hs : 0 < l.s) {pt tick k : Int} (h1 : 1 ≤ k) (h2 : k ≤ l.g * l.s) (h : l.g * l.s ∣ tick + k - pt * l.g) : tick + k = va l pt tick := by
  have a := va_dvd (l := l) hs pt tick
  have b := va_gt (l := l) hg hs pt tick
  have c := va_most (l := l) hg hs pt tick
  rw [Int.mul_comm l.s] at c
  have d := Int.dvd_sub h a
  rw [show tick + k - pt * l.g - (va l pt tick - pt * l.g) = tick + k - va l pt tick by omega] at d
  generalize l.g * l.s = m at *
  obtain ⟨z, hz⟩ := d
  have hz0 : z = 0 := by
    rcases Int.lt_trichotomy z 0 with q | q | q
    · have : m * z ≤ m * (-1) := Int.mul_le_mul_of_nonneg_left (by omega) (by omega)
      omega
    · exact q
    · have : m * 1 ≤ m * z := Int.mul_le_mul_of_nonneg_left (by omega) (by omega)
      omega
  rw [hz0] at hz
  omega
end
end Tw
/-! Tw: a walk that leaps tells what a walk from visit to visit tells -/
namespace Tw
open TwM
section
variable {W : List Lv} {B : Bk} {lim : Option Int}
def wl (W : List Lv) (B : Bk) (lim : Option Int) : Nat → Spot → Int → Int → Option Res
  | 0, _, _, _ => none
  | n + 1, sp, tick, mv =>
    let t := va (lv W sp.lv) sp.pt tick
    if over lim t = true then some (some sp, tick, mv)
    else
      let found := visited W B sp (t - 1) t
      match found.getLast? with
      | none => none
      | some none => some (none, t, mv + found.length - 1)
      | some (some sp') => wl W B lim n sp' t (mv + found.length)
theorem wl_ends (ok : WOk W) (B : Bk) (lim : Option Int) : ∀ (n : Nat) (sp : Spot) (tick mv : Int), sp.lv < W.length → mu sp tick ≤ n → ∃ r, wl W B lim n sp tick mv = some r
  | 0, sp, tick, mv, _, h => by unfold mu at h; split at h <;> omega
  | n + 1, sp, tick, mv, hl, h => by
    have hgt := va_step ok hl sp.pt tick
    unfold wl
    dsimp only
    split
    · exact ⟨_, rfl⟩
    · cases hq : (visited W B sp (va (lv W sp.lv) sp.pt tick - 1) (va (lv W sp.lv) sp.pt tick)).getLast? with
      | none => exact absurd (List.getLast?_eq_none_iff.mp hq) (visited_ne ok hl tick)
      | some o =>
        cases o with
        | none => exact ⟨_, rfl⟩
        | some sp' =>
          obtain ⟨m1, m2, m3⟩ := mu_step ok hgt.1 hq
          exact wl_ends ok B lim n sp' _ _ m2 (by omega)
theorem wl_mono : ∀ (n : Nat) {sp : Spot} {tick mv : Int} {r : Res}, wl W B lim n sp tick mv = some r → ∀ m, n ≤ m → wl W B lim m sp tick mv = some r
  | 0, _, _, _, _, h, _, _ => by cases h
  | n + 1, sp, tick, mv, r, h, m, hm => by
    obtain ⟨m, rfl⟩ : ∃ k, m = k + 1 := ⟨m - 1, by omega⟩
    unfold wl at h ⊢
    dsimp only at h ⊢
    split at h
    · rename_i h1
      rw [if_pos h1]; exact h
    · rename_i h1
      rw [if_neg h1]
      split at h
      · cases h
      · exact h
      · exact wl_mono n h m (by omega)
theorem wl_eq {n m : Nat} {sp : Spot} {tick mv : Int} {r r' : Res} (h : wl W B lim n sp tick mv = some r) (h' : wl W B lim m sp tick mv = some r') : r = r' := by
  have e1 := wl_mono n h (max n m) (Nat.le_max_left _ _)
  have e2 := wl_mono m h' (max n m) (Nat.le_max_right _ _)
  rw [e1] at e2
  exact Option.some.inj e2
def Proper (W : List Lv) (sp : Spot) (tick : Int) : Prop := reach W ≤ sp.due - tick → sp.lv = W.length - 1
theorem le_reach (ok : WOk W) {i : Nat} (hi : i < W.length) : (lv W i).p ≤ reach W := by
  unfold reach
  rcases Nat.lt_or_ge i (W.length - 1) with h | h
  · have := asc_le ok (W.length - 1 - i - 1) i (by omega)
    rw [show i + (W.length - 1 - i - 1) + 1 = W.length - 1 by omega] at this
    omega
  · rw [show i = W.length - 1 by omega]; exact Int.le_refl _
theorem spotAt_far (ok : WOk W) {now rest due : Int} (h : reach W ≤ rest) : spotAt W B now rest due = ⟨W.length - 1, rnd B.up (now + reach W - 1) (lv W (W.length - 1)).g, due⟩ := by
  unfold spotAt
  rw [levelOf_isN fun j hj => Int.le_trans (le_reach ok hj) h]
theorem spotAt_proper (ok : WOk W) (now due : Int) : Proper W (spotAt W B now (due - now) due) now := fun h => by
  rw [spotAt_due] at h
  rw [spotAt_far ok h]
theorem visGo_not {b n : Int} : ∀ (is rest : List Nat) {sp : Spot}, sp.lv ∉ is → visGo W B b n (is ++ rest) sp = visGo W B b n rest sp
  | [], _, _, _ => rfl
  | i :: is, rest, sp, h => by
    rw [List.mem_cons, not_or] at h
    rw [List.cons_append]
    show (if _ then _ else _) = _
    rw [if_neg (fun z => h.1 z.1)]
    exact visGo_not is rest h.2
theorem visGo_out {b n : Int} (is : List Nat) {sp : Spot} (h : sp.lv ∉ is) : visGo W B b n is sp = [] := by
  have := visGo_not (W := W) (B := B) (b := b) (n := n) is [] h
  rw [List.append_nil] at this
  rw [this]; rfl
theorem visit_far (ok : WOk W) (hf : B.fire = false) {sp : Spot} (h1 : 1 < W.length) (hl : sp.lv = W.length - 1) {t : Int} (hv : isVis (lv W sp.lv) sp.pt (t - 1) t = true) (hr : reach W ≤ sp.due - t) :
    visited W B sp (t - 1) t = [some (spotAt W B t (sp.due - t) sp.due)] := by
  have hre : 2 ≤ reach W := (ok.all (W.length - 1) (by omega)).2.2.2.2
  have ht : taken W B sp t = some (spotAt W B t (sp.due - t) sp.due) := by
    unfold taken
    rw [if_neg (by rw [hl, hf]; rintro (z | z); omega; cases z), if_pos (by omega)]
  have hs : (spotAt W B t (sp.due - t) sp.due).lv = W.length - 1 := by rw [spotAt_far ok hr]
  obtain ⟨k, hk⟩ : ∃ k, W.length = k + 1 := ⟨W.length - 1, by omega⟩
  have hlk : sp.lv = k := by omega
  have step : ∀ is, k ∉ is → visGo W B (t - 1) t (k :: is) sp = [some (spotAt W B t (sp.due - t) sp.due)] := fun is hi => by
    show (if _ then _ else _) = _
    rw [if_pos ⟨hlk, by rw [← hlk]; exact hv⟩, ht]
    show _ :: visGo W B (t - 1) t is _ = _
    rw [visGo_out is (by rw [hs, show W.length - 1 = k by omega]; exact hi)]
  unfold visited order
  split
  · rw [hk, List.range_succ, List.reverse_append]
    exact step _ (by simp)
  · rw [hk, List.range_succ, visGo_not _ _ (by rw [hlk]; simp)]
    exact step [] (by simp)
theorem wl_far (ok : WOk W) (hf : B.fire = false) (h1 : 1 < W.length) {due step : Int} : ∀ (j : Nat) {t mv : Int} (m : Nat), (lv W (W.length - 1)).g ∣ t → reach W ≤ due - t →
    va (lv W (W.length - 1)) (spotAt W B t (due - t) due).pt t = t + step → j * step ≤ due - t - reach W → (∀ l, lim = some l → t + j * step ≤ l) →
    wl W B lim (m + j) (spotAt W B t (due - t) due) t mv = wl W B lim m (spotAt W B (t + j * step) (due - (t + j * step)) due) (t + j * step) (mv + j)
  | 0, t, mv, m, _, _, _, _, _ => by simp
  | j + 1, t, mv, m, hg, hr, hs, hj, hlim => by
    have hall := ok.all (W.length - 1) (by omega)
    have hgt := va_gt (l := lv W (W.length - 1)) (by omega) (by omega) (spotAt W B t (due - t) due).pt t
    rw [hs] at hgt
    have hs0 : 0 < step := by omega
    have e1 : ((j + 1 : Nat) : Int) * step = j * step + step := by rw [Int.natCast_add, Int.add_mul]; simp
    rw [e1] at hj hlim
    have hj0 : 0 ≤ (j : Int) * step := Int.mul_nonneg (by omega) (by omega)
    have hfar := spotAt_far (B := B) ok (now := t) (due := due) hr
    have hlv : (spotAt W B t (due - t) due).lv = W.length - 1 := by rw [hfar]
    have hdu : (spotAt W B t (due - t) due).due = due := spotAt_due _ _ _ _ _
    have hgs : (lv W (W.length - 1)).g ∣ step := by
      have h2 : (lv W (W.length - 1)).g ∣ t + step := by rw [← hs]; exact Int.dvd_mul_left _ _
      have := Int.dvd_sub h2 hg
      rwa [show t + step - t = step by omega] at this
    have hvis : isVis (lv W (W.length - 1)) (spotAt W B t (due - t) due).pt (t + step - 1) (t + step) = true := by
      rw [← hs]; exact va_vis (by omega) (by omega) _ _
    have hv := visit_far ok hf h1 hlv (t := t + step) (by rw [hlv]; exact hvis) (by rw [hdu]; omega)
    rw [hdu] at hv
    have ho : over lim (t + step) = false := by
      cases hl : lim with
      | none => rfl
      | some l =>
        have := hlim l hl
        exact decide_eq_false (by omega)
    have hfar1 := spotAt_far (B := B) ok (now := t + step) (due := due) (rest := due - (t + step)) (by omega)
    have hs1 : va (lv W (W.length - 1)) (spotAt W B (t + step) (due - (t + step)) due).pt (t + step) = t + step + step := by
      have e2 : (spotAt W B (t + step) (due - (t + step)) due).pt = (spotAt W B t (due - t) due).pt + step / (lv W (W.length - 1)).g := by
        rw [hfar, hfar1]
        show rnd B.up (t + step + reach W - 1) _ = rnd B.up (t + reach W - 1) _ + _
        rw [show t + step + reach W - 1 = (t + reach W - 1) + step by omega]
        exact rnd_shiftD (by omega) hgs
      rw [e2, va_shift (by omega) hgs, hs]
    have ih := wl_far ok hf h1 (due := due) (step := step) j (t := t + step) (mv := mv + 1) m (Int.dvd_add hg hgs) (by omega) hs1 (by omega) (fun l hl => by have := hlim l hl; omega)
    rw [show m + (j + 1) = (m + j) + 1 by omega]
    show (let t0 := va (lv W (spotAt W B t (due - t) due).lv) (spotAt W B t (due - t) due).pt t; if over lim t0 = true then _ else _) = _
    dsimp only
    rw [hlv, hs, ho, if_neg Bool.false_ne_true, hv]
    show wl W B lim (m + j) (spotAt W B (t + step) (due - (t + step)) due) (t + step) (mv + ((1 : Nat) : Int)) = _
    rw [show mv + ((1 : Nat) : Int) = mv + 1 by simp, ih, e1]
    rw [show t + step + j * step = t + (j * step + step) by omega, show mv + 1 + (j : Int) = mv + ((j + 1 : Nat) : Int) by rw [Int.natCast_add]; omega]
theorem fol_wl (ok : WOk W) : ∀ (n : Nat) {sp : Spot} {tick mv : Int} {r : Res}, Proper W sp tick → sp.lv < W.length → fol W B lim n sp tick mv = some r → ∃ m, wl W B lim m sp tick mv = some r
  | 0, _, _, _, _, _, _, h => by cases h
  | n + 1, sp, tick, mv, r, hp, hl, h => by
    have hgt := va_step ok hl sp.pt tick
    have hall := ok.all _ hl
    have htd : (lv W sp.lv).g ∣ va (lv W sp.lv) sp.pt tick := Int.dvd_mul_left _ _
    unfold fol at h
    dsimp only at h
    by_cases ho : over lim (va (lv W sp.lv) sp.pt tick) = true
    · rw [if_pos ho] at h
      exact ⟨1, by unfold wl; dsimp only; rw [if_pos ho]; exact h⟩
    · rw [if_neg ho] at h
      have go : ∀ m sp', (visited W B sp (va (lv W sp.lv) sp.pt tick - 1) (va (lv W sp.lv) sp.pt tick)).getLast? = some (some sp') → wl W B lim m sp' (va (lv W sp.lv) sp.pt tick) (mv + (visited W B sp (va (lv W sp.lv) sp.pt tick - 1) (va (lv W sp.lv) sp.pt tick)).length) = some r →
          ∃ m, wl W B lim m sp tick mv = some r := fun m sp' hq hw => ⟨m + 1, by unfold wl; dsimp only; rw [if_neg ho, hq]; exact hw⟩
      cases hq : (visited W B sp (va (lv W sp.lv) sp.pt tick - 1) (va (lv W sp.lv) sp.pt tick)).getLast? with
      | none => rw [hq] at h; cases h
      | some o =>
        rw [hq] at h
        cases o with
        | none => exact ⟨1, by unfold wl; dsimp only; rw [if_neg ho, hq]; exact h⟩
        | some sp' =>
          dsimp only at h
          obtain ⟨c1, c2, c3, c4⟩ := visGo_last ok _ hq
          have h0 : sp.lv ≠ 0 := fun e => by
            have := visGo_zero (W := W) (B := B) (before := va (lv W sp.lv) sp.pt tick - 1) (now := va (lv W sp.lv) sp.pt tick) (order W B) e (some sp') (List.mem_of_getLast? hq)
            cases this
          have hre : 2 ≤ reach W := (ok.all (W.length - 1) (by omega)).2.2.2.2
          generalize va (lv W sp.lv) sp.pt tick = t at *
          have hp' : Proper W sp' t := fun z => by
            rcases c4 with ⟨d1, d2⟩ | ⟨d1, d2⟩
            · rw [c2] at z
              rw [d2, spotAt_far ok z]
            · omega
          split at h
          · rename_i hk
            obtain ⟨k1, k2, k3, k4⟩ := skipped_pos hk
            have hstep : 0 < (skipped W sp' t lim).2 := by
              have := va_step ok c1 sp'.pt t
              omega
            have hlim : ∀ l, lim = some l → t + (skipped W sp' t lim).1 * (skipped W sp' t lim).2 ≤ l := fun l hl => by
              have e : (skipped W sp' t lim).1 ≤ (l - t) / (skipped W sp' t lim).2 := by
                subst hl
                unfold skipped at hk ⊢
                split
                · rename_i z; rw [if_pos z] at hk; simp at hk
                · exact Int.min_le_right _ _
              have := Int.mul_le_of_le_ediv hstep e
              omega
            have hfit : (skipped W sp' t lim).1 * (skipped W sp' t lim).2 ≤ sp'.due - t - reach W := by
              rw [← k3] at k4
              exact Int.mul_le_of_le_ediv hstep k4
            generalize hK : (skipped W sp' t lim).1 = K at *
            generalize hS : (skipped W sp' t lim).2 = step at *
            obtain ⟨j, rfl⟩ : ∃ j : Nat, K = (j : Int) := ⟨K.toNat, by omega⟩
            have hprop : Proper W (spotAt W B (t + j * step) (sp'.due - (t + j * step)) sp'.due) (t + j * step) := spotAt_proper ok _ _
            obtain ⟨m, hm⟩ := fol_wl ok n hprop (spotAt_lt ok _ _ _ _) h
            have hsl : sp.lv = W.length - 1 := hp (by rw [← c2]; omega)
            have hsp' : sp' = spotAt W B t (sp'.due - t) sp'.due := by
              rcases c4 with ⟨d1, d2⟩ | ⟨d1, d2⟩
              · rw [c2]; exact d2
              · rw [c2] at k2; omega
            have hva : va (lv W (W.length - 1)) (spotAt W B t (sp'.due - t) sp'.due).pt t = t + step := by
              rw [← hsp', ← k1]; omega
            have hw := wl_far (lim := lim) ok c3 (by omega) (due := sp'.due) (step := step) j (t := t) (mv := mv + (visited W B sp (t - 1) t).length) m (by rw [← hsl]; exact htd) k2 hva (by omega) hlim
            refine go (m + j) sp' hq ?_
            rw [← hsp'] at hw
            rw [hw]
            exact hm
          · obtain ⟨m, hm⟩ := fol_wl ok n hp' c1 h
            exact go m sp' hq hm
end
end Tw
/-! Tw: list(range(a, b)) at bounds of any size -/
namespace Tw
open PySem PySem.Spec PyProof.Rows L2
section
variable {prog : Program} {w : World} {A : Around} {E : Value → Shared → Prop} {s : Shared}
theorem extend_long {R : Result → Shared → Prop} {r S : Addr} {a b : Int} {t u v : Tok} {n c0 : Nat} {res : Value} (hh : A.handled = none) (hr : IsRange s.heap r a b 1 t u v) (hbig : Builtin.Range.small a b 1 = false) (hn : Builtin.Range.rangeSize a b 1 = n) (hlen : n ≤ 2 ^ 24)
    (hS : s.heap.get? S = some { cls := .type "list", data := .seq #[] c0 })
    (hR : ∀ h2 tk acc c2, (∀ x o, x ≠ S → s.heap.get? x = some o → h2.get? x = some o) → h2.get? S = some { cls := .type "list", dict := none, data := .seq acc c2, slots := #[] } → ItemsOf (fun i y => ∃ t, y = .int (a + i * 1) t) acc n → R (.ok (.ret res)) { s with heap := h2, toks := tk }) :
    wpAny (model prog w) A.in1 (Builtin.List.listExtendWith (.ref S) (.ref r) res) (fun fin t => match fin with | .done f => R (.ok f) t | .again q => q.quiet = true ∧ codeAny (model prog w) A q R t) (fun e t => R (.error e) t) s := by
  have nSr : S ≠ r := by
    rintro rfl
    rw [hr] at hS
    simp at hS
  have hlt := Heap.lt_size hS
  have nSI : S ≠ s.heap.objs.size := Nat.ne_of_lt hlt
  have loop : ∀ h c1 tk, IsLongIter h s.heap.objs.size (a + ((0 : Nat) : Int) * 1) ((n : Int) - ((0 : Nat) : Int)) 1 → (∀ x o, x ≠ S → s.heap.get? x = some o → h.get? x = some o) → h.get? S = some { cls := .type "list", data := .seq #[] c1 } →
      codeAny (model prog w) A (.builtin "list.extend.loop" ⟨[.ref S, .ref s.heap.objs.size, res], []⟩) R { s with heap := h, toks := tk } := by
    intro h c1 tk it keep hS1
    refine codeAny_extend_loopS (Walks.longrange (prog := prog) (w := w) (A := A.in1) hh s.heap.objs.size a 1 n).toS (by rw [sizeLine_eq]; omega) S (fun z => nSI (List.mem_singleton.mp z)) res n 0 _ #[] c1 rfl (Nat.zero_le _) it hS1 (ItemsOf.nil _) fun t2 acc c2 mv g1 g2 => ?_
    rw [Moved.eq_with mv]
    refine hR t2.heap t2.toks acc c2 (fun x o nx e => mv.heap x o (fun z => ?_) (keep x o nx e)) g1 g2
    rcases List.mem_cons.mp z with z | z
    · exact nx z
    · have := Heap.lt_size e
      rw [List.mem_singleton.mp z] at this
      exact Nat.lt_irrefl _ this
  unfold Builtin.List.listExtendWith
  refine wpAny_bind (wpAny_typeOf (T := "range") ⟨_, hr, rfl⟩ ?_)
  rw [show Builtin.List.listSameRef (.ref S) (.ref r) = false by simp [Builtin.List.listSameRef, nSr]]
  simp only [show (Value.type "range" == Value.type "list") = false by decide, show (Value.type "range" == Value.type "tuple") = false by decide, Bool.or_false, Bool.false_eq_true, if_false]
  refine wpAny_bind (wpAny_pyIter_longrange hr hbig (wpAny_bind (wpAny_holding (wpAny_hint_range (n := n) (Heap.get?_push_of_some _ hr) hn hlen ?_))))
  have it : IsLongIter (s.heap.push { cls := .type "longrange_iterator", data := .fields #[rawInt a, rawInt (Builtin.Range.rangeSize a b 1), rawInt 1] }) s.heap.objs.size (a + ((0 : Nat) : Int) * 1) ((n : Int) - ((0 : Nat) : Int)) 1 := by
    rw [hn]
    simpa using Heap.get?_push_size _ rfl
  have hS1 := Heap.get?_push_of_some { cls := .type "longrange_iterator", data := .fields #[rawInt a, rawInt (Builtin.Range.rangeSize a b 1), rawInt 1] } hS
  refine wpAny_ite_split (fun _ => wpAny_bind (wpAny_rule ?_)) fun _ => wpAny_pure ⟨plainId_quiet F.plain_extend_loop _, loop _ c0 _ it (fun x o _ e => Heap.get?_push_of_some _ e) hS1⟩
  refine wpAny_bind ?_
  show wpAny _ _ (updateSeq S (·.push .none) >>= fun _ => updateSeq S (·.pop)) _ _ _
  have hS2 := Heap.get?_update_self (Obj.mapSeq (·.push Value.none)) hS1 rfl
  refine wpAny_bind (wpAny_updateSeq hS1 rfl (wpAny_updateSeq (hz := by seq_fits) hS2 rfl (wpAny_pure ⟨plainId_quiet F.plain_extend_loop _, loop _ _ _ ?_ (fun x o nx e => ?_) (Heap.get?_update_self (Obj.mapSeq (·.pop)) hS2 rfl)⟩)))
  · exact (Heap.get?_update_other _ _ nSI).trans ((Heap.get?_update_other _ _ nSI).trans it)
  · exact (Heap.get?_update_other _ _ (Ne.symm nx)).trans ((Heap.get?_update_other _ _ (Ne.symm nx)).trans (Heap.get?_push_of_some _ e))
theorem call_list_long {Q : Value → Shared → Prop} {r : Addr} {a b : Int} {t u v : Tok} {n : Nat} (hh : A.handled = none) (hr : IsRange s.heap r a b 1 t u v) (hbig : Builtin.Range.small a b 1 = false) (hn : Builtin.Range.rangeSize a b 1 = n) (hlen : n ≤ 2 ^ 24)
    (hQ : ∀ h2 tk acc c2, (∀ x o, s.heap.get? x = some o → h2.get? x = some o) → h2.get? s.heap.objs.size = some { cls := .type "list", dict := none, data := .seq acc c2, slots := #[] } → ItemsOf (fun i y => ∃ t, y = .int (a + i * 1) t) acc n → Q (.ref s.heap.objs.size) { s with heap := h2, toks := tk }) :
    wpAny (model prog w) A (call (.type "list") [.ref r]) Q E s := by
  refine callType_codes (Q₁ := fun obj t => obj = .ref s.heap.objs.size ∧ t = { s with heap := s.heap.push { cls := .type "list", data := .seq #[] } }) F.called_list (F.typeCall_list_1 _) F.entry_list_init (code_list_new _ ⟨rfl, rfl⟩) ?_
  rintro obj t1 ⟨rfl, rfl⟩
  have hS : (s.heap.push { cls := .type "list", data := .seq #[] }).get? s.heap.objs.size = some { cls := .type "list", data := .seq #[] } := Heap.get?_push_size _ rfl
  have hr1 : IsRange (s.heap.push { cls := .type "list", data := .seq #[] }) r a b 1 t u v := Heap.get?_push_of_some _ hr
  have nr : r ≠ s.heap.objs.size := Nat.ne_of_lt (Heap.lt_size hr)
  refine ⟨⟨_, hS, rfl⟩, F.args_list_init_2 _ _, ?_⟩
  show wpAny _ _ (do let old ← Builtin.List.listItems (.ref s.heap.objs.size); Builtin.List.listUpdate (.ref s.heap.objs.size) (fun _ => #[]); letGo old.toList.reverse; Builtin.List.listExtendWith (.ref s.heap.objs.size) (.ref r) .none) _ _ _
  refine wpAny_bind ?_
  unfold Builtin.List.listItems
  refine wpAny_bind (wpAny_seqItems hS rfl (wpAny_pure ?_))
  show wpAny _ _ (updateSeq s.heap.objs.size (fun _ => #[]) >>= fun _ => letGo (#[] : Array Value).toList.reverse >>= fun _ => Builtin.List.listExtendWith (.ref s.heap.objs.size) (.ref r) .none) _ _ _
  refine wpAny_bind (wpAny_updateSeq hS rfl (wpAny_bind (wpAny_letGo ?_)))
  refine extend_long (A := A.in1) hh ((Heap.get?_update_other _ _ (Ne.symm nr)).trans hr1) hbig hn hlen (Heap.get?_update_self (Obj.mapSeq (fun _ => (#[] : Array Value))) hS rfl) fun h2 tk acc c2 k g1 g2 => ?_
  refine ⟨rfl, hQ h2 tk acc c2 (fun x o e => ?_) g1 g2⟩
  have nx : x ≠ s.heap.objs.size := Nat.ne_of_lt (Heap.lt_size e)
  exact k x o nx ((Heap.get?_update_other _ _ (Ne.symm nx)).trans (Heap.get?_push_of_some _ e))
end
section
variable {X : Cx} {e : Expr} {te : L2.St → Hp → (Int → Int → Hp → Prop) → Prop}
def tLstRgW (te : L2.St → Hp → (Int → Int → Hp → Prop) → Prop) : TE := fun σ H Q => te σ H fun a b H1 => b - a ≤ 10000000 ∧ ∀ q, H1 q = none → Q (.ref q) (upd H1 q (.lst (rgV a b)))
end
end Tw
/-! Tw: the laws' own walk -/
namespace Tw
open PySem PySem.Spec PyProof.Rows L2 He TwM StX
open PySem.W (Frag)
local macro_rules | `(tactic| walk_at "rwk") => `(tactic| simp only [*, at3_0, at3_1, at3_2, at2_0, at2_1, updS, upd_two, gSub, rSetL, updN, tPar, and_assoc, not_true_eq_false, not_false_eq_true, tNever, List.length_map, tFld, rIxTH, rIxLH, rLenTH, rLenLH, lk1, lfs_g, lfs_s, lfs_p, HO.ins.injEq, HO.tup.injEq, HO.lst.injEq, sp_Book_rounding, sp_Book_action, sp_Book_order, sp_Book_due, sp_Book_zero, sp_Book_beyond, Int.toNat_natCast, sp_visit_after, sp_is_visited, sp_Level_grain, sp_Level_slots, sp_Level_span, sp_Wheel_reach, sp_Wheel___len__, sp_is_integer, sp_is_count, sp_is_within, sp_rounded, tSeq, tAsg, gName, tVar, tC, tOp, rI, rI0, rU, tUn, oAdd, oSub, oMul, oDiv, oMod, oNeg, oLt, oLe, oGt, oGe, oIsN, oNotN, tFn, tCons, tNil, tIfS, tIf, tTest, tB, tNot, tAnd, tOr, tAndV, tOrV, tNotV,
    tRet, tRetN, tNext, tCB, tDrop, tChain, rEq, rNe, oMax2, oMin2, oInt1, rLenF, L2.start, List.map_cons, List.map_nil, List.length_cons, List.length_nil, List.replicate_succ, List.replicate_zero, List.cons_append, List.nil_append, Nat.reduceAdd, Nat.reduceSub, Nat.zero_add,
    List.set_cons_zero, List.set_cons_succ, List.getElem?_cons_zero, List.getElem?_cons_succ, Option.some.injEq, V.int.injEq, V.ref.injEq, V.str.injEq, V.bl.injEq, exists_eq_left', exists_eq_left, exists_and_left, List.cons.injEq, and_true, true_and, decide_eq_true_eq, sc_ii, sc_ss, sc_bb, sc_ni, sc_in, sc_nn, sc_is, reduceCtorEq,
    Bool.not_eq_true', decide_eq_false_iff_not, if_true, if_false, Bool.false_eq_true, exists_eq', exists_const, false_and, and_false, or_false, false_or, exists_false, Bool.not_not, Bool.not_true, Bool.not_false, sUp_up, sFire_fire, sHigh_high, sPut_put, sZone_now, sBey_refuse, sBey_cut, tTup, tLst, sz0, sz1, sz2, sz3, sz4, sz5, sz6])
section
variable {K : Frag} {w : World}
structure VlAt (H : Hp) (r : Addr) (B : Bk) : Prop where
  at_ : H r = some (.lst ((bws B).map V.str))
  ok : B.bey < 3
theorem VlAt.same {H H1 : Hp} {r : Addr} {B : Bk} (h : VlAt H r B) (s : Same H H1) : VlAt H1 r B := ⟨s _ _ h.at_, h.ok⟩
theorem RowsAt.row {H : Hp} {r : Addr} {W : List Lv} (h : RowsAt H r W) {i : Nat} (hi : i < W.length) : ∃ xs t, H r = some (.lst xs) ∧ xs.length = W.length ∧ atI xs (i : Int) = some (.ref t) ∧ H t = some (.tup [.int (lv W i).g, .int (lv W i).s, .int (lv W i).p]) := by
  obtain ⟨ts, ha, hb, hc⟩ := h
  obtain ⟨t, ht⟩ : ∃ t, ts[i]? = some t := ⟨ts[i]'(by omega), List.getElem?_eq_getElem (by omega)⟩
  exact ⟨_, t, ha, by rw [List.length_map, hb], atI_nat (by rw [List.getElem?_map, ht]; rfl), hc _ _ ht⟩
theorem RowsAt.last {H : Hp} {r : Addr} {W : List Lv} (h : RowsAt H r W) (hp : 0 < W.length) : ∃ xs t, H r = some (.lst xs) ∧ xs.length = W.length ∧ atI xs (-1) = some (.ref t) ∧ H t = some (.tup [.int (lv W (W.length - 1)).g, .int (lv W (W.length - 1)).s, .int (lv W (W.length - 1)).p]) := by
  obtain ⟨ts, ha, hb, hc⟩ := h
  obtain ⟨t, ht⟩ : ∃ t, ts[W.length - 1]? = some t := ⟨ts[W.length - 1]'(by omega), List.getElem?_eq_getElem (by omega)⟩
  exact ⟨_, t, ha, by rw [List.length_map, hb], atI_m1 (by rw [List.getLast?_eq_getElem?, List.length_map, hb, List.getElem?_map, ht]; rfl), hc _ _ ht⟩
theorem at6_0 (a b c d e f : V) : atI [a, b, c, d, e, f] 0 = some a := rfl
theorem at6_1 (a b c d e f : V) : atI [a, b, c, d, e, f] 1 = some b := rfl
theorem at6_2 (a b c d e f : V) : atI [a, b, c, d, e, f] 2 = some c := rfl
theorem at6_3 (a b c d e f : V) : atI [a, b, c, d, e, f] 3 = some d := rfl
theorem at6_4 (a b c d e f : V) : atI [a, b, c, d, e, f] 4 = some e := rfl
theorem at6_5 (a b c d e f : V) : atI [a, b, c, d, e, f] 5 = some f := rfl
theorem VlAt.six {H : Hp} {r : Addr} {B : Bk} (h : VlAt H r B) : H r = some (.lst [.str (sUp B.up), .str (sFire B.fire), .str (sHigh B.high), .str (sPut B.put), .str (sZone B.zone), .str (sBey B.bey)]) := h.at_
local macro_rules | `(tactic| walk_at "rwm") => `(tactic| simp only [*, at3_0, at3_1, at3_2, at2_0, at2_1, updS, upd_two, gSub, rSetL, updN, tPar, gTup, gCons, gNil, and_assoc, not_true_eq_false, not_false_eq_true, tNever, List.length_map, tFld, rIxTH, rIxLH, rLenTH, rLenLH, lk1, lfs_g, lfs_s, lfs_p, HO.ins.injEq, HO.tup.injEq, HO.lst.injEq, sp_Book_rounding, sp_Book_action, sp_Book_order, sp_Book_due, sp_Book_zero, sp_Book_beyond, Int.toNat_natCast, sp_visit_after, sp_is_visited, sp_Level_grain, sp_Level_slots, sp_Level_span, sp_Wheel_reach, sp_Wheel___len__, sp_is_integer, sp_is_count, sp_is_within, sp_rounded, tSeq, tAsg, gName, tVar, tC, tOp, rI, rI0, rU, tUn, oAdd, oSub, oMul, oDiv, oMod, oNeg, oLt, oLe, oGt, oGe, oIsN, oNotN, tFn, tCons, tNil, tIfS, tIf, tTest, tB, tNot, tAnd, tOr, tAndV, tOrV, tNotV,
    tRet, tRetN, tNext, tCB, tDrop, tChain, rEq, rNe, oMax2, oMin2, oInt1, rLenF, L2.start, List.map_cons, List.map_nil, List.length_cons, List.length_nil, List.replicate_succ, List.replicate_zero, List.cons_append, List.nil_append, Nat.reduceAdd, Nat.reduceSub, Nat.zero_add,
    List.set_cons_zero, List.set_cons_succ, List.getElem?_cons_zero, List.getElem?_cons_succ, Option.some.injEq, V.int.injEq, V.ref.injEq, V.str.injEq, V.bl.injEq, exists_eq_left', exists_eq_left, exists_and_left, List.cons.injEq, and_true, true_and, decide_eq_true_eq, sc_ii, sc_ss, sc_bb, sc_ni, sc_in, sc_nn, sc_is, reduceCtorEq,
    Bool.not_eq_true', decide_eq_false_iff_not, if_true, if_false, Bool.false_eq_true, exists_eq', exists_const, false_and, and_false, or_false, false_or, exists_false, Bool.not_not, Bool.not_true, Bool.not_false, sUp_up, sFire_fire, sHigh_high, sPut_put, sZone_now, sBey_refuse, sBey_cut, tTup, tLst, sz0, sz1, sz2, sz3, sz4, sz5, sz6])
local macro_rules | `(tactic| walk_at "rwl") => `(tactic| simp only [*, at3_0, at3_1, at3_2, at2_0, at2_1, updS, upd_two, gSub, rSetL, updN, tPar, at6_0, at6_1, at6_2, at6_3, at6_4, at6_5, and_assoc, not_true_eq_false, not_false_eq_true, tNever, List.length_map, tFld, rIxTH, rIxLH, rLenTH, rLenLH, lk1, lfs_g, lfs_s, lfs_p, HO.ins.injEq, HO.tup.injEq, HO.lst.injEq, sp_Book_rounding, sp_Book_action, sp_Book_order, sp_Book_due, sp_Book_zero, sp_Book_beyond, Int.toNat_natCast, sp_visit_after, sp_is_visited, sp_Level_grain, sp_Level_slots, sp_Level_span, sp_Wheel_reach, sp_Wheel___len__, sp_is_integer, sp_is_count, sp_is_within, sp_rounded, tSeq, tAsg, gName, tVar, tC, tOp, rI, rI0, rU, tUn, oAdd, oSub, oMul, oDiv, oMod, oNeg, oLt, oLe, oGt, oGe, oIsN, oNotN, tFn, tCons, tNil, tIfS, tIf, tTest, tB, tNot, tAnd, tOr, tAndV, tOrV, tNotV,
    tRet, tRetN, tNext, tCB, tDrop, tChain, rEq, rNe, oMax2, oMin2, oInt1, rLenF, L2.start, List.map_cons, List.map_nil, List.length_cons, List.length_nil, List.replicate_succ, List.replicate_zero, List.cons_append, List.nil_append, Nat.reduceAdd, Nat.reduceSub, Nat.zero_add,
    List.set_cons_zero, List.set_cons_succ, List.getElem?_cons_zero, List.getElem?_cons_succ, Option.some.injEq, V.int.injEq, V.ref.injEq, V.str.injEq, V.bl.injEq, exists_eq_left', exists_eq_left, exists_and_left, List.cons.injEq, and_true, true_and, decide_eq_true_eq, sc_ii, sc_ss, sc_bb, sc_ni, sc_in, sc_nn, sc_is, reduceCtorEq,
    Bool.not_eq_true', decide_eq_false_iff_not, if_true, if_false, Bool.false_eq_true, exists_eq', exists_const, false_and, and_false, or_false, false_or, exists_false, Bool.not_not, Bool.not_true, Bool.not_false, sUp_up, sFire_fire, sHigh_high, sPut_put, sZone_now, sBey_refuse, sBey_cut, tTup, tLst, sz0, sz1, sz2, sz3, sz4, sz5, sz6])
structure RWk (W : List Lv) : Prop where
  ok : WOk W
instance rwk_of {W : List Lv} : Coe (ROk W) (RWk W) := ⟨fun h => ⟨h.ok⟩⟩
theorem depth_ints : ∀ ks : List Int, PyData.depthAll (ks.map PyData.int) = 0
  | [] => rfl
  | k :: ks => by
    show max (PyData.int k).depth (PyData.depthAll (ks.map PyData.int)) = 0
    rw [depth_ints ks]
    rfl
theorem hit_iff {q pt s j : Int} (hs : 0 < s) (h0 : 0 ≤ j) (h1 : j ≤ (pt - q) % s) : (q + j - pt) % s = 0 ↔ j = (pt - q) % s := by
  have e := Int.mul_ediv_add_emod (pt - q) s
  have h2 := Int.emod_lt_of_pos (pt - q) hs
  generalize (pt - q) % s = k at *
  generalize (pt - q) / s = z at *
  have e2 : q + j - pt = (j - k) + s * (-z) := by rw [Int.mul_neg]; omega
  rw [e2, Int.add_mul_emod_self_left]
  constructor
  · intro h
    have h3 : (j - k + s) % s = 0 := by rw [Int.add_emod_right]; exact h
    rcases Int.lt_or_le j k with h4 | h4
    · rw [Int.emod_eq_of_lt (by omega) (by omega)] at h3
      omega
    · omega
  · intro h
    rw [h, Int.sub_self, Int.zero_emod]
local macro_rules | `(tactic| walk_at "rwn") => `(tactic| simp only [*, at3_0, at3_1, at3_2, at2_0, at2_1, updS, upd_two, gSub, rSetL, updN, tPar, at6_0, at6_1, at6_2, at6_3, at6_4, at6_5, gTup, gCons, gNil, and_assoc, not_true_eq_false, not_false_eq_true, tNever, List.length_map, tFld, rIxTH, rIxLH, rLenTH, rLenLH, lk1, lfs_g, lfs_s, lfs_p, HO.ins.injEq, HO.tup.injEq, HO.lst.injEq, sp_Book_rounding, sp_Book_action, sp_Book_order, sp_Book_due, sp_Book_zero, sp_Book_beyond, Int.toNat_natCast, sp_visit_after, sp_is_visited, sp_Level_grain, sp_Level_slots, sp_Level_span, sp_Wheel_reach, sp_Wheel___len__, sp_is_integer, sp_is_count, sp_is_within, sp_rounded, tAsg, gName, tVar, tC, tOp, rI, rI0, rU, tUn, oAdd, oSub, oMul, oDiv, oMod, oNeg, oLt, oLe, oGt, oGe, oIsN, oNotN, tFn, tCons, tNil, tIfS, tIf, tTest, tB, tNot, tAnd, tOr, tAndV, tOrV, tNotV,
    tRet, tRetN, tNext, tCB, tDrop, tChain, rEq, rNe, oMax2, oMin2, oInt1, rLenF, L2.start, List.map_cons, List.map_nil, List.length_cons, List.length_nil, List.replicate_succ, List.replicate_zero, List.cons_append, List.nil_append, Nat.reduceAdd, Nat.reduceSub, Nat.zero_add,
    List.set_cons_zero, List.set_cons_succ, List.getElem?_cons_zero, List.getElem?_cons_succ, Option.some.injEq, V.int.injEq, V.ref.injEq, V.str.injEq, V.bl.injEq, exists_eq_left', exists_eq_left, exists_and_left, List.cons.injEq, and_true, true_and, decide_eq_true_eq, sc_ii, sc_ss, sc_bb, sc_ni, sc_in, sc_nn, sc_is, reduceCtorEq,
    Bool.not_eq_true', decide_eq_false_iff_not, if_true, if_false, Bool.false_eq_true, exists_eq', exists_const, false_and, and_false, or_false, false_or, exists_false, Bool.not_not, Bool.not_true, Bool.not_false, sUp_up, sFire_fire, sHigh_high, sPut_put, sZone_now, sBey_refuse, sBey_cut, tTup, tLst, sz0, sz1, sz2, sz3, sz4, sz5, sz6])
theorem sw_hits {g s pt before here : Int} (hg : 0 < g) (hs : 0 < s) : ((rgV (before / g + 1) ((if before / g + 1 + s < here / g then before / g + 1 + s else here / g) + 1)).filter fun x => match x with | .int at_ => decide ((at_ - pt) % s = 0) | _ => false) = [] ↔ ¬ (pt - before / g - 1) % s < here / g - before / g := by
  have e1 : pt - before / g - 1 = pt - (before / g + 1) := by omega
  rw [e1]
  have k0 := Int.emod_nonneg (pt - (before / g + 1)) (b := s) (by omega)
  have k1 := Int.emod_lt_of_pos (pt - (before / g + 1)) hs
  have hi : ∀ j, 0 ≤ j → j ≤ (pt - (before / g + 1)) % s → ((before / g + 1 + j - pt) % s = 0 ↔ j = (pt - (before / g + 1)) % s) := fun j => hit_iff hs
  generalize before / g + 1 = a at *
  generalize (pt - a) % s = k at *
  rw [List.filter_eq_nil_iff]
  unfold rgV
  constructor
  · intro h hlt
    have hm : V.int (a + k) ∈ (List.range ((if a + s < here / g then a + s else here / g) + 1 - a).toNat).map fun i => V.int (a + (i : Nat)) := by
      refine List.mem_map.mpr ⟨k.toNat, List.mem_range.mpr ?_, by rw [Int.toNat_of_nonneg k0]⟩
      split <;> omega
    exact h _ hm (decide_eq_true ((hi k k0 (Int.le_refl _)).mpr rfl))
  · intro h x hx
    obtain ⟨i, hi1, rfl⟩ := List.mem_map.mp hx
    have hr := List.mem_range.mp hi1
    intro hz
    have hz := of_decide_eq_true hz
    have := (hi i (by omega) (by split at hr <;> omega)).mp hz
    split at hr <;> omega
theorem OSps.count : ∀ {H : Hp} {xs : List V} {os : List (Option Spot)}, OSps H xs os → (xs.filter fun x => !decide (x = V.non)).length = (os.filter (·.isSome)).length
  | _, [], [], _ => rfl
  | _, [], _ :: _, h => by have := h.1; simp at this
  | _, _ :: _, [], h => by have := h.1; simp at this
  | H, x :: xs, o :: os, h => by
    have ih := OSps.count (H := H) (xs := xs) (os := os) ⟨by have := h.1; simpa using this, fun i v q e1 e2 => h.2 (i + 1) v q (by simpa using e1) (by simpa using e2)⟩
    have h0 := h.2 0 x o rfl rfl
    cases o with
    | none =>
      obtain rfl : x = .non := h0
      rw [List.filter_cons_of_neg (by simp), List.filter_cons_of_neg (by simp), ih]
    | some sp =>
      obtain ⟨p, rfl, _⟩ := h0
      rw [List.filter_cons_of_pos (by simp), List.filter_cons_of_pos (by simp), List.length_cons, List.length_cons, ih]
def wfin (W : List Lv) (B : Bk) (start delay : Int) : Int × Int := match placeM W B start delay with
  | none => (start, 0)
  | some sp => match wl W B none (mu sp start) sp start 0 with
    | none => (0, 0)
    | some r => r.2
theorem placeM_proper {W : List Lv} (ok : WOk W) {B : Bk} {now delay : Int} {sp : Spot} (hd : 0 ≤ delay) (h : placeM W B now delay = some sp) : Proper W sp now := by
  have hre : 2 ≤ reach W := (ok.all (W.length - 1) (by have := ok.pos; omega)).2.2.2.2
  unfold placeM at h
  split at h
  · cases h
  · obtain rfl := Option.some.inj h
    intro z
    rw [spotAt_due] at z
    have hz : reach W ≤ (if reach W ≤ (if 1 > delay then 1 else delay) ∧ B.bey = 2 then reach W - 1 else (if 1 > delay then 1 else delay)) := by
      omega
    rw [spotAt_far ok hz]
theorem wfin_fin {W : List Lv} (ok : WOk W) (B : Bk) {start delay : Int} (hd : 0 ≤ delay) : wfin W B start delay = fin W B start delay := by
  unfold wfin fin
  cases h : placeM W B start delay with
  | none => rfl
  | some sp =>
    dsimp only
    obtain ⟨r, hr⟩ := fol_ends ok B none (mu sp start) sp start 0 (placeM_lt ok h) (Nat.le_refl _)
    obtain ⟨r', hr'⟩ := wl_ends ok B none (mu sp start) sp start 0 (placeM_lt ok h) (Nat.le_refl _)
    obtain ⟨m, hm⟩ := fol_wl ok _ (placeM_proper ok hd h) (placeM_lt ok h) hr
    rw [hr, hr', wl_eq hr' hm]
end
end Tw
/-! Tw: lumps -/
namespace Tw
open PySem PySem.Spec PyProof.Rows L2 He TwM StX
open PySem.W (Frag)
local macro_rules | `(tactic| walk_at "rsf") => `(tactic| simp only [*, at3_0, at3_1, at3_2, at2_0, at2_1, updS, upd_two, gSub, rSetL, updN, and_assoc, not_true_eq_false, not_false_eq_true, tNever, List.length_map, tFld, rIxTH, rIxLH, rLenTH, rLenLH, lk1, lfs_g, lfs_s, lfs_p, HO.ins.injEq, HO.tup.injEq, HO.lst.injEq, sp_Book_rounding, sp_Book_action, sp_Book_order, sp_Book_due, sp_Book_zero, sp_Book_beyond, Int.toNat_natCast, sp_visit_after, sp_is_visited, sp_Level_grain, sp_Level_slots, sp_Level_span, sp_Wheel_reach, sp_Wheel___len__, sp_is_integer, sp_is_count, sp_is_within, sp_rounded, tSeq, tAsg, gName, tVar, tC, tOp, rI, rI0, rU, tUn, oAdd, oSub, oMul, oDiv, oMod, oNeg, oLt, oLe, oGt, oGe, oIsN, oNotN, tFn, tCons, tNil, tIfS, tIf, tTest, tB, tNot, tAnd, tOr, tAndV, tOrV, tNotV,
    tRet, tRetN, tNext, tCB, tDrop, tChain, rEq, rNe, oMax2, oMin2, oInt1, rLenF, L2.start, List.map_cons, List.map_nil, List.length_cons, List.length_nil, List.replicate_succ, List.replicate_zero, List.cons_append, List.nil_append, Nat.reduceAdd, Nat.reduceSub, Nat.zero_add,
    List.set_cons_zero, List.set_cons_succ, List.getElem?_cons_zero, List.getElem?_cons_succ, Option.some.injEq, V.int.injEq, V.ref.injEq, V.str.injEq, V.bl.injEq, exists_eq_left', exists_eq_left, exists_and_left, List.cons.injEq, and_true, true_and, decide_eq_true_eq, sc_ii, sc_ss, sc_bb, sc_ni, sc_in, sc_nn, sc_is, reduceCtorEq,
    Bool.not_eq_true', decide_eq_false_iff_not, if_true, if_false, Bool.false_eq_true, exists_eq', exists_const, false_and, and_false, or_false, false_or, exists_false, Bool.not_not, Bool.not_true, Bool.not_false, sUp_up, sFire_fire, sHigh_high, sPut_put, sZone_now, sBey_refuse, sBey_cut, tTup, tLst, sz0, sz1, sz2, sz3, sz4, sz5, sz6])
section
variable {K : Frag} {w : World}
end
end Tw
/-! Tw: delays of any size -/
namespace Tw
open TwM
section
variable {W : List Lv} {B : Bk} {lim : Option Int}
def stepM (W : List Lv) (B : Bk) : Int := ((rnd B.up (reach W - 1) (lv W (W.length - 1)).g - 1) % (lv W (W.length - 1)).s + 1) * (lv W (W.length - 1)).g
theorem stepM_va (ok : WOk W) {t : Int} (hg : (lv W (W.length - 1)).g ∣ t) : va (lv W (W.length - 1)) (rnd B.up (t + reach W - 1) (lv W (W.length - 1)).g) t = t + stepM W B := by
  have hall := ok.all (W.length - 1) (by have := ok.pos; omega)
  have e : rnd B.up (t + reach W - 1) (lv W (W.length - 1)).g = rnd B.up (reach W - 1) (lv W (W.length - 1)).g + t / (lv W (W.length - 1)).g := by
    rw [show t + reach W - 1 = (reach W - 1) + t by omega]
    exact rnd_shiftD (by omega) hg
  unfold va stepM
  rw [e]
  generalize rnd B.up (reach W - 1) (lv W (W.length - 1)).g = p
  obtain ⟨z, rfl⟩ := hg
  rw [Int.mul_ediv_cancel_left _ (by omega), show p + z - z - 1 = p - 1 by omega, show z + 1 + (p - 1) % (lv W (W.length - 1)).s = z + ((p - 1) % (lv W (W.length - 1)).s + 1) by omega, Int.add_mul, Int.mul_comm z]
theorem stepM_pos (ok : WOk W) : 1 ≤ stepM W B ∧ stepM W B ≤ 100000 ∧ (lv W (W.length - 1)).g ∣ stepM W B := by
  have hall := ok.all (W.length - 1) (by have := ok.pos; omega)
  unfold stepM
  have h0 := Int.emod_nonneg (rnd B.up (reach W - 1) (lv W (W.length - 1)).g - 1) (b := (lv W (W.length - 1)).s) (by omega)
  have h1 := Int.emod_lt_of_pos (rnd B.up (reach W - 1) (lv W (W.length - 1)).g - 1) (b := (lv W (W.length - 1)).s) (by omega)
  refine ⟨?_, ?_, Int.dvd_mul_left _ _⟩
  · have : 1 * 1 ≤ ((rnd B.up (reach W - 1) (lv W (W.length - 1)).g - 1) % (lv W (W.length - 1)).s + 1) * (lv W (W.length - 1)).g := Int.mul_le_mul (by omega) (by omega) (by omega) (by omega)
    omega
  · have : ((rnd B.up (reach W - 1) (lv W (W.length - 1)).g - 1) % (lv W (W.length - 1)).s + 1) * (lv W (W.length - 1)).g ≤ 100 * 1000 := Int.mul_le_mul (by omega) (by omega) (by omega) (by omega)
    omega
theorem wl_mv : ∀ (n : Nat) {sp : Spot} {tick mv c : Int} {r : Res}, wl W B lim n sp tick mv = some r → wl W B lim n sp tick (mv + c) = some (r.1, r.2.1, r.2.2 + c)
  | 0, _, _, _, _, _, h => by cases h
  | n + 1, sp, tick, mv, c, r, h => by
    unfold wl at h ⊢
    dsimp only at h ⊢
    split at h
    · rename_i ho
      rw [if_pos ho]
      cases h
      rfl
    · rename_i ho
      rw [if_neg ho]
      split at h
      · cases h
      · cases h
        dsimp only
        congr 3
        omega
      · have := wl_mv n (c := c) h
        rw [← this]
        congr 1
        omega
theorem visGo_none {b n : Int} : ∀ (is : List Nat) {sp : Spot}, taken W B sp n = none → sp.lv ∈ is → isVis (lv W sp.lv) sp.pt b n = true → visGo W B b n is sp = [none]
  | [], sp, _, h, _ => by simp at h
  | i :: is, sp, ht, h, hv => by
    unfold visGo
    by_cases e : sp.lv = i
    · rw [if_pos ⟨e, by rw [← e]; exact hv⟩, ht]
    · rw [if_neg (fun z => e z.1)]
      exact visGo_none is ht (by rcases List.mem_cons.mp h with q | q; exact absurd q e; exact q) hv
theorem fin_first (ok : WOk W) {start delay : Int} {sp : Spot} (hp : placeM W B start delay = some sp) (hk : sp.lv = 0 ∨ B.fire = true) : fin W B start delay = (va (lv W sp.lv) sp.pt start, 0) := by
  have hl := placeM_lt ok hp
  have hall := ok.all _ hl
  have ht : taken W B sp (va (lv W sp.lv) sp.pt start) = none := by unfold taken; rw [if_pos hk]
  have hv : visited W B sp (va (lv W sp.lv) sp.pt start - 1) (va (lv W sp.lv) sp.pt start) = [none] := visGo_none _ ht (mem_order.mpr hl) (va_vis (by omega) (by omega) _ _)
  have hf : fol W B none 1 sp start 0 = some (none, va (lv W sp.lv) sp.pt start, 0) := by
    unfold fol
    dsimp only
    rw [show over none (va (lv W sp.lv) sp.pt start) = false from rfl, if_neg Bool.false_ne_true, hv]
    rfl
  rw [fin_some hp ok hl hf]
theorem placeM_far (ok : WOk W) {start delay : Int} (h : reach W ≤ delay) : placeM W B start delay = if B.bey = 2 then some (spotAt W B start (reach W - 1) (start + (reach W - 1))) else some ⟨W.length - 1, rnd B.up (start + reach W - 1) (lv W (W.length - 1)).g, start + delay⟩ := by
  have hre : 2 ≤ reach W := (ok.all (W.length - 1) (by have := ok.pos; omega)).2.2.2.2
  unfold placeM
  rw [if_neg (fun z => by have := z.1; omega)]
  dsimp only
  rw [if_neg (show ¬ (1 : Int) > delay by omega)]
  by_cases hb : B.bey = 2
  · rw [if_pos ⟨h, hb⟩, if_pos hb]
  · rw [if_neg (fun z => hb z.2), if_neg hb, spotAt_far ok h]
theorem fin_same (ok : WOk W) {start d d' : Int} (h : reach W ≤ d) (h' : reach W ≤ d') (hk : B.bey = 2 ∨ B.fire = true ∨ W.length = 1) : fin W B start d = fin W B start d' := by
  by_cases hb : B.bey = 2
  · unfold fin
    rw [placeM_far ok h, placeM_far ok h', if_pos hb, if_pos hb]
  · have p1 := placeM_far (B := B) ok (start := start) h
    have p2 := placeM_far (B := B) ok (start := start) h'
    rw [if_neg hb] at p1 p2
    have hk' : (W.length - 1 = 0) ∨ B.fire = true := by
      rcases hk with z | z | z
      · exact absurd z hb
      · exact .inr z
      · exact .inl (by omega)
    rw [fin_first ok p1 hk', fin_first ok p2 hk']
theorem fin_more (ok : WOk W) {start d : Int} (many : Nat) (hf : B.fire = false) (h1 : 1 < W.length) (hb : B.bey ≠ 2) (hd : reach W + (lv W (W.length - 1)).g * (lv W (W.length - 1)).s ≤ d) :
    fin W B start (d + stepM W B * many) = ((fin W B start d).1 + stepM W B * many, (fin W B start d).2 + many) := by
  have hall := ok.all (W.length - 1) (by omega)
  have hgs0 : 1 * 1 ≤ (lv W (W.length - 1)).g * (lv W (W.length - 1)).s := Int.mul_le_mul (by omega) (by omega) (by omega) (by omega)
  obtain ⟨st1, st2, st3⟩ := stepM_pos (B := B) ok
  have hD0 : 0 ≤ stepM W B * many := Int.mul_nonneg (by omega) (by omega)
  have hre : 2 ≤ reach W := hall.2.2.2.2
  have p1 := placeM_far (B := B) ok (start := start) (delay := d) (by omega)
  have p2 := placeM_far (B := B) ok (start := start) (delay := d + stepM W B * many) (by omega)
  rw [if_neg hb] at p1 p2
  have l1 := placeM_lt ok p1
  have l2 := placeM_lt ok p2
  rw [← wfin_fin ok B (by omega), ← wfin_fin ok B (by omega)]
  have key : ∀ {d' : Int} {sp : Spot}, placeM W B start d' = some sp → ∀ {n r}, wl W B none n sp start 0 = some r → wfin W B start d' = r.2 := fun {d' sp} hp {n r} hw => by
    unfold wfin
    rw [hp]
    obtain ⟨r', hr'⟩ := wl_ends ok B none (mu sp start) sp start 0 (placeM_lt ok hp) (Nat.le_refl _)
    dsimp only
    rw [hr', wl_eq hr' hw]
  -- the first visit
  generalize ht : va (lv W (W.length - 1)) (rnd B.up (start + reach W - 1) (lv W (W.length - 1)).g) start = t
  have hgt : start < t ∧ t ≤ start + (lv W (W.length - 1)).g * (lv W (W.length - 1)).s := by
    rw [← ht, Int.mul_comm (lv W (W.length - 1)).g]
    exact ⟨va_gt (by omega) (by omega) _ _, va_most (by omega) (by omega) _ _⟩
  have hg : (lv W (W.length - 1)).g ∣ t := by rw [← ht]; exact Int.dvd_mul_left _ _
  have first : ∀ {d' : Int} (n : Nat), d ≤ d' → wl W B none (n + 1) ⟨W.length - 1, rnd B.up (start + reach W - 1) (lv W (W.length - 1)).g, start + d'⟩ start 0 = wl W B none n (spotAt W B t (start + d' - t) (start + d')) t 1 := fun {d'} n hd' => by
    have hv := visit_far ok hf (sp := ⟨W.length - 1, rnd B.up (start + reach W - 1) (lv W (W.length - 1)).g, start + d'⟩) h1 rfl (t := t) (by rw [← ht]; exact va_vis (l := lv W (W.length - 1)) (by omega) (by omega) _ _) (by show reach W ≤ start + d' - t; omega)
    conv => lhs; unfold wl
    dsimp only
    rw [ht, show over none t = false from rfl, if_neg Bool.false_ne_true, hv]
    rfl
  -- near, from the first visit on
  have hprop := spotAt_proper (B := B) ok t (start + d)
  have hsl := spotAt_lt ok B t (start + d - t) (start + d)
  obtain ⟨r, hr⟩ := fol_ends ok B none _ (spotAt W B t (start + d - t) (start + d)) t 1 hsl (Nat.le_refl _)
  obtain ⟨m, hm⟩ := fol_wl ok _ hprop hsl hr
  have hnear := key p1 (n := m + 1) (by rw [first m (Int.le_refl _)]; exact hm)
  -- far
  have hDv : Dv W (W.length - 1) (stepM W B * many) := by
    obtain ⟨z, hz⟩ := st3
    rw [hz, Int.mul_assoc]
    exact dv_of ok (by omega) _
  have hix : TwM.levelIx W (start + d - t) ≤ W.length - 1 := by have := levelIx_lt ok (start + d - t); omega
  have hsh := fol_shift (B := B) ok hDv (mu (spotAt W B t (start + d - t) (start + d)) t) (sp := spotAt W B t (start + d - t) (start + d)) (tick := t) (mv := 1) (by rw [spotAt_lv]; exact hix) hsl (by rw [spotAt_due]; exact hix)
  rw [hr, ← spotAt_shift ok hDv hix] at hsh
  have e1 : start + d - t = start + d + stepM W B * many - (t + stepM W B * many) := by omega
  have hprop2 : Proper W (spotAt W B (t + stepM W B * many) (start + d - t) (start + d + stepM W B * many)) (t + stepM W B * many) := by rw [e1]; exact spotAt_proper ok _ _
  obtain ⟨m2, hm2⟩ := fol_wl ok _ hprop2 (spotAt_lt ok _ _ _ _) hsh
  have hva : va (lv W (W.length - 1)) (spotAt W B t (start + (d + stepM W B * many) - t) (start + (d + stepM W B * many))).pt t = t + stepM W B := by
    rw [spotAt_far ok (by omega)]
    exact stepM_va ok hg
  have hcm : (many : Int) * stepM W B = stepM W B * many := Int.mul_comm _ _
  have hfar := wl_far (lim := none) ok hf h1 (due := start + (d + stepM W B * many)) (step := stepM W B) many (t := t) (mv := 1) m2 hg (by omega) hva (by omega) (fun l z => by cases z)
  rw [hcm] at hfar
  have e2 : start + (d + stepM W B * many) - (t + stepM W B * many) = start + d - t := by omega
  have e3 : start + (d + stepM W B * many) = start + d + stepM W B * many := by omega
  have hm3 := wl_mv _ (c := (many : Int)) hm2
  rw [e2] at hfar
  have hfin := key p2 (n := m2 + many + 1) (r := ((shR W (stepM W B * many) r).1, (shR W (stepM W B * many) r).2.1, (shR W (stepM W B * many) r).2.2 + many)) (by
    rw [first _ (by omega), hfar, e3]
    exact hm3)
  rw [hfin, hnear]
  rfl
theorem wl_stays (ok : WOk W) (hf : B.fire = false) (h1 : 1 < W.length) {l : Int} : ∀ (n : Nat) {sp : Spot} {tick mv : Int} {r : Res}, sp.lv = W.length - 1 → reach W ≤ sp.due - l → wl W B (some l) n sp tick mv = some r → ∃ sp', r.1 = some sp' ∧ sp'.lv = W.length - 1 ∧ sp'.due = sp.due
  | 0, _, _, _, _, _, _, h => by cases h
  | n + 1, sp, tick, mv, r, hl, hr, h => by
    have hall := ok.all (W.length - 1) (by omega)
    unfold wl at h
    dsimp only at h
    split at h
    · cases h
      exact ⟨sp, rfl, hl, rfl⟩
    · rename_i ho
      have hle : va (lv W sp.lv) sp.pt tick ≤ l := by
        rcases Int.lt_or_le l (va (lv W sp.lv) sp.pt tick) with z | z
        · exact absurd (decide_eq_true z) ho
        · exact z
      have hv := visit_far ok hf h1 hl (t := va (lv W sp.lv) sp.pt tick) (va_vis (by rw [hl]; omega) (by rw [hl]; omega) _ _) (by omega)
      rw [hv] at h
      have := wl_stays ok hf h1 n (sp := spotAt W B (va (lv W sp.lv) sp.pt tick) (sp.due - va (lv W sp.lv) sp.pt tick) sp.due) (by rw [spotAt_far ok (by omega)]) (by rw [spotAt_due]; exact hr) h
      rwa [spotAt_due] at this
end
end Tw
/-! Tw: walks that are cut and go on -/
namespace Tw
open TwM
section
variable {W : List Lv} {B : Bk} {lim : Option Int}
theorem va_keep {l : Lv} (hg : 0 < l.g) (hs : 0 < l.s) {pt a b : Int} (h1 : a ≤ b) (h2 : b < va l pt a) : va l pt b = va l pt a := by
  have d := va_dvd (l := l) hs pt a
  have c := va_most (l := l) hg hs pt a
  have e : b + (va l pt a - b) = va l pt a := by omega
  have := va_uniq (l := l) hg hs (pt := pt) (tick := b) (k := va l pt a - b) (by omega) (by rw [Int.mul_comm l.g]; omega) (by rw [e]; exact d)
  omega
def Alike (r r' : Res) : Prop := r.1 = r'.1 ∧ r.2.2 = r'.2.2 ∧ (r.1 = none → r.2.1 = r'.2.1)
theorem Alike.refl (r : Res) : Alike r r := ⟨rfl, rfl, fun _ => rfl⟩
theorem wl_from (ok : WOk W) {n : Nat} {sp : Spot} {a b mv : Int} {r : Res} (hl : sp.lv < W.length) (h1 : a ≤ b) (h2 : b < va (lv W sp.lv) sp.pt a) (h : wl W B lim n sp b mv = some r) : ∃ r', wl W B lim n sp a mv = some r' ∧ Alike r r' := by
  have hall := ok.all _ hl
  cases n with
  | zero => cases h
  | succ n =>
    have e := va_keep (l := lv W sp.lv) (by omega) (by omega) h1 h2
    unfold wl at h ⊢
    dsimp only at h ⊢
    rw [e] at h
    split at h
    · rename_i ho
      rw [if_pos ho]
      cases h
      exact ⟨_, rfl, ⟨rfl, rfl, fun z => by have z : (some sp : Option Spot) = none := z; cases z⟩⟩
    · rename_i ho
      rw [if_neg ho]
      exact ⟨r, h, Alike.refl r⟩
theorem wl_cut (ok : WOk W) {b : Int} (hb : ∀ c, lim = some c → b ≤ c) : ∀ (n : Nat) {sp : Spot} {a mv : Int} {r : Res}, sp.lv < W.length → a ≤ b → wl W B (some b) n sp a mv = some r →
    (r.1 = none → wl W B lim n sp a mv = some r) ∧ ∀ sp', r.1 = some sp' → sp'.lv < W.length ∧ ∀ m r2, wl W B lim m sp' b r.2.2 = some r2 → ∃ m' r3, wl W B lim m' sp a mv = some r3 ∧ Alike r2 r3
  | 0, _, _, _, _, _, _, h => by cases h
  | n + 1, sp, a, mv, r, hl, hab, h => by
    have hgt := va_step ok hl sp.pt a
    unfold wl at h
    dsimp only at h
    split at h
    · rename_i ho
      cases h
      refine ⟨fun z => (by cases z), fun sp' z => ?_⟩
      cases z
      refine ⟨hl, fun m r2 h2 => ?_⟩
      obtain ⟨r3, h3, h4⟩ := wl_from ok hl hab (of_decide_eq_true ho) h2
      exact ⟨m, r3, h3, h4⟩
    · rename_i ho
      have hle : va (lv W sp.lv) sp.pt a ≤ b := by
        rcases Int.lt_or_le b (va (lv W sp.lv) sp.pt a) with z | z
        · exact absurd (decide_eq_true z) ho
        · exact z
      have ho2 : over lim (va (lv W sp.lv) sp.pt a) = false := by
        cases hlim : lim with
        | none => rfl
        | some c =>
          have := hb c hlim
          exact decide_eq_false (by omega)
      cases hq : (visited W B sp (va (lv W sp.lv) sp.pt a - 1) (va (lv W sp.lv) sp.pt a)).getLast? with
      | none => rw [hq] at h; cases h
      | some o =>
        rw [hq] at h
        cases o with
        | none =>
          cases h
          refine ⟨fun _ => ?_, fun sp' z => (by cases z)⟩
          unfold wl
          dsimp only
          rw [ho2, if_neg Bool.false_ne_true, hq]
        | some sp1 =>
          dsimp only at h
          obtain ⟨c1, c2⟩ := visGo_last ok _ hq
          obtain ⟨g1, g2⟩ := wl_cut ok hb n c1 hle h
          have step : ∀ {m r3}, wl W B lim m sp1 (va (lv W sp.lv) sp.pt a) (mv + (visited W B sp (va (lv W sp.lv) sp.pt a - 1) (va (lv W sp.lv) sp.pt a)).length) = some r3 → wl W B lim (m + 1) sp a mv = some r3 := fun {m r3} z => by
            unfold wl
            dsimp only
            rw [ho2, if_neg Bool.false_ne_true, hq]
            exact z
          refine ⟨fun z => step (g1 z), fun sp' z => ?_⟩
          obtain ⟨k1, k2⟩ := g2 sp' z
          refine ⟨k1, fun m r2 h2 => ?_⟩
          obtain ⟨m', r3, h3, h4⟩ := k2 m r2 h2
          exact ⟨m' + 1, r3, step h3, h4⟩
def aft (W : List Lv) (B : Bk) (sp : Spot) (a b : Int) : Option Spot := match wl W B (some b) (mu sp a) sp a 0 with
  | some r => r.1
  | none => none
theorem aft_of (ok : WOk W) {sp : Spot} {a b mv : Int} {n : Nat} {r : Res} (hl : sp.lv < W.length) (h : wl W B (some b) n sp a mv = some r) : aft W B sp a b = r.1 := by
  unfold aft
  obtain ⟨r', h'⟩ := wl_ends ok B (some b) (mu sp a) sp a 0 hl (Nat.le_refl _)
  rw [h']
  have := wl_mv _ (c := mv) h'
  rw [Int.zero_add] at this
  have e := wl_eq this h
  rw [← e]
theorem aft_comp (ok : WOk W) {sp : Spot} {a b c : Int} (hl : sp.lv < W.length) (h1 : a ≤ b) (h2 : b ≤ c) : aft W B sp a c = match aft W B sp a b with
    | none => none
    | some sp' => aft W B sp' b c := by
  obtain ⟨r, hr⟩ := wl_ends ok B (some b) (mu sp a) sp a 0 hl (Nat.le_refl _)
  obtain ⟨g1, g2⟩ := wl_cut (lim := some c) ok (fun c' z => by cases z; exact h2) _ hl h1 hr
  rw [aft_of ok hl hr]
  cases hr1 : r.1 with
  | none => rw [aft_of ok hl (g1 hr1), hr1]
  | some sp' =>
    obtain ⟨k1, k2⟩ := g2 sp' hr1
    obtain ⟨r2, hr2⟩ := wl_ends ok B (some c) (mu sp' b) sp' b r.2.2 k1 (Nat.le_refl _)
    obtain ⟨m', r3, h3, h4⟩ := k2 _ _ hr2
    rw [aft_of ok hl h3, ← h4.1]
    exact (aft_of ok k1 hr2).symm
theorem aft_fire (ok : WOk W) {sp : Spot} {a b : Int} {n : Nat} {r : Res} (hl : sp.lv < W.length) (h1 : a ≤ b) (h : wl W B none n sp a 0 = some r) : (aft W B sp a b = none ↔ r.2.1 ≤ b) ∧ r.1 = none ∧ a < r.2.1 := by
  have hnone : ∀ (n : Nat) {sp : Spot} {a mv : Int} {r : Res}, sp.lv < W.length → wl W B none n sp a mv = some r → r.1 = none ∧ a < r.2.1 := by
    intro n
    induction n with
    | zero => intro sp a mv r _ h; cases h
    | succ n ih =>
      intro sp a mv r hl h
      have hgt := va_step ok hl sp.pt a
      unfold wl at h
      dsimp only at h
      rw [show over none (va (lv W sp.lv) sp.pt a) = false from rfl, if_neg Bool.false_ne_true] at h
      split at h
      · cases h
      · cases h
        exact ⟨rfl, hgt.1⟩
      · rename_i hq
        obtain ⟨c1, c2⟩ := visGo_last ok _ hq
        have := ih c1 h
        exact ⟨this.1, by omega⟩
  have hbnd : ∀ (n : Nat) {sp : Spot} {a mv : Int} {r : Res}, sp.lv < W.length → a ≤ b → wl W B (some b) n sp a mv = some r → r.2.1 ≤ b := by
    intro n
    induction n with
    | zero => intro sp a mv r _ _ h; cases h
    | succ n ih =>
      intro sp a mv r hl hab h
      unfold wl at h
      dsimp only at h
      split at h
      · cases h; exact hab
      · rename_i ho
        have hle : va (lv W sp.lv) sp.pt a ≤ b := by
          rcases Int.lt_or_le b (va (lv W sp.lv) sp.pt a) with z | z
          · exact absurd (decide_eq_true z) ho
          · exact z
        split at h
        · cases h
        · cases h; exact hle
        · rename_i hq
          obtain ⟨c1, c2⟩ := visGo_last ok _ hq
          exact ih c1 hle h
  obtain ⟨z1, z2⟩ := hnone n hl h
  refine ⟨?_, z1, z2⟩
  obtain ⟨r', hr'⟩ := wl_ends ok B (some b) (mu sp a) sp a 0 hl (Nat.le_refl _)
  obtain ⟨g1, g2⟩ := wl_cut (lim := none) ok (fun c z => by cases z) _ hl h1 hr'
  rw [aft_of ok hl hr']
  cases hr1 : r'.1 with
  | none =>
    have := wl_eq (g1 hr1) h
    rw [← this]
    exact ⟨fun _ => hbnd _ hl h1 hr', fun _ => rfl⟩
  | some sp' =>
    obtain ⟨k1, k2⟩ := g2 sp' hr1
    obtain ⟨r2, hr2⟩ := wl_ends ok B none (mu sp' b) sp' b r'.2.2 k1 (Nat.le_refl _)
    obtain ⟨m', r3, h3, h4⟩ := k2 _ _ hr2
    have e := wl_eq h3 h
    obtain ⟨y1, y2⟩ := hnone _ k1 hr2
    have := h4.2.2 y1
    rw [e] at this
    exact ⟨fun z => (by cases z), fun z => by omega⟩
theorem aft_ind (ok : WOk W) {b : Int} {P : Spot → Int → Prop} (hv : ∀ sp t sp', P sp t → t ≤ b → (visited W B sp (t - 1) t).getLast? = some (some sp') → P sp' t) (hm : ∀ sp t t', P sp t → t ≤ t' → t' ≤ b → P sp t') :
    ∀ (n : Nat) {sp : Spot} {a mv : Int} {r : Res} {sp' : Spot}, sp.lv < W.length → a ≤ b → P sp a → wl W B (some b) n sp a mv = some r → r.1 = some sp' → P sp' b
  | 0, _, _, _, _, _, _, _, _, h, _ => by cases h
  | n + 1, sp, a, mv, r, sp', hl, hab, hp, h, hr => by
    have hgt := va_step ok hl sp.pt a
    unfold wl at h
    dsimp only at h
    split at h
    · cases h
      cases hr
      exact hm _ _ _ hp hab (Int.le_refl _)
    · rename_i ho
      have hle : va (lv W sp.lv) sp.pt a ≤ b := by
        rcases Int.lt_or_le b (va (lv W sp.lv) sp.pt a) with z | z
        · exact absurd (decide_eq_true z) ho
        · exact z
      split at h
      · cases h
      · cases h; cases hr
      · rename_i hq
        obtain ⟨c1, c2⟩ := visGo_last ok _ hq
        exact aft_ind ok hv hm n c1 hle (hv _ _ _ (hm _ _ _ hp (by omega) hle) hle hq) h hr
structure SpB (N : Int) (sp : Spot) : Prop where
  p0 : 0 ≤ sp.pt
  p1 : sp.pt ≤ N
  d0 : 0 ≤ sp.due
  d1 : sp.due ≤ N
theorem TwM_vis {W : List Lv} {B : Bk} {b n : Int} : ∀ (is : List Nat) {sp : Spot}, visGo W B b n is sp ≠ [] → isVis (lv W sp.lv) sp.pt b n = true
  | [], sp, h => absurd rfl h
  | i :: is, sp, h => by
    unfold visGo at h
    split at h
    · rename_i hc
      rw [hc.1]; exact hc.2
    · exact TwM_vis is h
theorem TwM_no {l : Lv} (hg : 0 < l.g) (hs : 0 < l.s) (pt : Int) {a b n : Int} (h1 : a ≤ b) (h2 : n < va l pt a) (h : isVis l pt b n = true) : False := by
  unfold isVis at h
  have h := of_decide_eq_true h
  unfold va at h2
  have m1 : a / l.g ≤ b / l.g := Int.ediv_le_ediv hg h1
  have m2 : n / l.g < a / l.g + 1 + (pt - a / l.g - 1) % l.s := Int.ediv_lt_of_lt_mul hg h2
  have k0 := Int.emod_nonneg (pt - b / l.g - 1) (b := l.s) (by omega)
  have k1 := Int.emod_nonneg (pt - a / l.g - 1) (b := l.s) (by omega)
  have i1 := hit_iff (q := a / l.g + 1) (pt := pt) (s := l.s) (j := b / l.g - a / l.g + (pt - b / l.g - 1) % l.s) hs (by omega)
  have e1 : pt - (a / l.g + 1) = pt - a / l.g - 1 := by omega
  rw [e1] at i1
  have e2 : a / l.g + 1 + (b / l.g - a / l.g + (pt - b / l.g - 1) % l.s) - pt = -((pt - b / l.g - 1) - (pt - b / l.g - 1) % l.s) := by omega
  have e3 : (a / l.g + 1 + (b / l.g - a / l.g + (pt - b / l.g - 1) % l.s) - pt) % l.s = 0 := by
    rw [e2]
    have := Int.mul_ediv_add_emod (pt - b / l.g - 1) l.s
    rw [show (pt - b / l.g - 1) - (pt - b / l.g - 1) % l.s = l.s * ((pt - b / l.g - 1) / l.s) by omega, ← Int.mul_neg]
    exact Int.mul_emod_right _ _
  have := (i1 (by omega)).mp e3
  omega
theorem aft_one (ok : WOk W) {sp : Spot} {t : Int} (hl : sp.lv < W.length) : aft W B sp (t - 1) t = match (visited W B sp (t - 1) t).getLast? with
    | none => some sp
    | some o => o := by
  have hall := ok.all _ hl
  have hgt := va_step ok hl sp.pt (t - 1)
  obtain ⟨r, hr⟩ := wl_ends ok B (some t) (mu sp (t - 1)) sp (t - 1) 0 hl (Nat.le_refl _)
  have h0 := hr
  rw [aft_of ok hl hr]
  have hmu1 : 1 ≤ mu sp (t - 1) := by unfold mu; split <;> omega
  have hmu : ∃ n, mu sp (t - 1) = n + 1 := ⟨mu sp (t - 1) - 1, by omega⟩
  obtain ⟨n, hn⟩ := hmu
  rw [hn] at hr
  unfold wl at hr
  dsimp only at hr
  by_cases he : va (lv W sp.lv) sp.pt (t - 1) = t
  · rw [he] at hr
    rw [if_neg (by unfold over; simp)] at hr
    cases hq : (visited W B sp (t - 1) t).getLast? with
    | none =>
      have := visited_ne ok (B := B) hl (tick := t - 1)
      rw [he] at this
      exact absurd (List.getLast?_eq_none_iff.mp hq) this
    | some o =>
      rw [hq] at hr
      cases o with
      | none => cases hr; rfl
      | some sp' =>
        dsimp only at hr ⊢
        obtain ⟨c1, c2⟩ := visGo_last ok _ hq
        have hg2 := va_step ok c1 sp'.pt t
        cases n with
        | zero => cases hr
        | succ n =>
          unfold wl at hr
          dsimp only at hr
          rw [if_pos (by unfold over; exact decide_eq_true (by omega))] at hr
          cases hr
          rfl
  · rw [if_pos (by unfold over; exact decide_eq_true (by omega))] at hr
    cases hr
    have hnil : visited W B sp (t - 1) t = [] := by
      apply Classical.byContradiction
      intro hne
      have hvis := TwM_vis (W := W) (B := B) (order W B) hne
      exact TwM_no (by omega) (by omega) sp.pt (a := t - 1) (b := t - 1) (n := t) (Int.le_refl _) (by omega) hvis
    rw [hnil]
    rfl
end
end Tw
/-! Tw: least common multiples -/
namespace Tw
def IsL (a b m : Int) : Prop := 0 < m ∧ ∀ d, m ∣ d ↔ (a ∣ d ∧ b ∣ d)
def LcmOf (es : List Int) (m : Int) : Prop := 0 < m ∧ ∀ d, m ∣ d ↔ ∀ e ∈ es, e ∣ d
theorem LcmOf.eq {es : List Int} {m m' : Int} (h : LcmOf es m) (h' : LcmOf es m') : m = m' :=
  Int.dvd_antisymm (Int.le_of_lt h.1) (Int.le_of_lt h'.1) ((h.2 m').mpr ((h'.2 m').mp (Int.dvd_refl _))) ((h'.2 m).mpr ((h.2 m).mp (Int.dvd_refl _)))
theorem LcmOf.one : LcmOf [] 1 := ⟨by decide, fun d => ⟨fun _ _ z => by simp at z, fun _ => Int.one_dvd _⟩⟩
theorem LcmOf.cons {es : List Int} {m a m' : Int} (h : LcmOf es m) (h' : IsL a m m') : LcmOf (a :: es) m' := ⟨h'.1, fun d => by
  rw [h'.2 d, h.2 d]
  constructor
  · rintro ⟨z1, z2⟩ e he
    rcases List.mem_cons.mp he with rfl | he
    · exact z1
    · exact z2 e he
  · intro z
    exact ⟨z a (by simp), fun e he => z e (by simp [he])⟩⟩
end Tw
/-! Tw: rings, in plain Lean -/
namespace Tw
open TwM
theorem php : ∀ (g : Nat) (l : List Nat), l.Nodup → (∀ x ∈ l, x < g) → l.length ≤ g
  | 0, l, _, h => by
    cases l with
    | nil => exact Nat.le_refl _
    | cons x l => exact absurd (h x List.mem_cons_self) (Nat.not_lt_zero _)
  | g + 1, l, hn, h => by
    have h1 := php g (l.erase g) (hn.erase g) fun x hx => by
      have h2 := (hn.mem_erase_iff).mp hx
      have := h x h2.2
      have : x ≠ g := h2.1
      omega
    rw [List.length_erase] at h1
    split at h1 <;> omega
theorem php_fn {f : Nat → Int} {g : Int} {n : Nat} (hg : 0 ≤ g) (hr : ∀ i, i < n → 0 ≤ f i ∧ f i < g) (hd : ∀ i j, i < j → j < n → f i ≠ f j) : (n : Int) ≤ g := by
  have hn : ((List.range n).map fun i => (f i).toNat).Nodup := by
    rw [List.Nodup, List.pairwise_map]
    refine (List.pairwise_lt_range (n := n)).imp_of_mem fun {a b} ha hb hlt => ?_
    have h1 := hr a (List.mem_range.mp ha)
    have h2 := hr b (List.mem_range.mp hb)
    have := hd a b hlt (List.mem_range.mp hb)
    omega
  have := php g.toNat _ hn fun x hx => by
    obtain ⟨i, hi, rfl⟩ := List.mem_map.mp hx
    have := hr i (List.mem_range.mp hi)
    omega
  rw [List.length_map, List.length_range] at this
  rcases Nat.eq_zero_or_pos n with z | z
  · subst z
    exact hg
  · have := hr 0 z
    omega
section
variable {W : List Lv} {B : Bk}
def tkR (W : List Lv) (B : Bk) (d start : Int) : Nat → Int
  | 0 => start
  | n + 1 => (fin W B (tkR W B d start n) d).1
structure RingIs (W : List Lv) (B : Bk) (d g start : Int) (N lead : Nat) : Prop where
  dif : ∀ i j, i < j → j < N → tkR W B d start i % g ≠ tkR W B d start j % g
  lt : lead < N
  eq : tkR W B d start lead % g = tkR W B d start N % g
theorem RingIs.uniq {d g start : Int} {N N' lead lead' : Nat} (h : RingIs W B d g start N lead) (h' : RingIs W B d g start N' lead') : N = N' ∧ lead = lead' := by
  have hN : N = N' := by
    rcases Nat.lt_trichotomy N N' with z | z | z
    · exact absurd h.eq (h'.dif lead N h.lt z)
    · exact z
    · exact absurd h'.eq (h.dif lead' N' h'.lt z)
  subst hN
  refine ⟨rfl, ?_⟩
  rcases Nat.lt_trichotomy lead lead' with z | z | z
  · exact absurd (h.eq.trans h'.eq.symm) (h.dif lead lead' z h'.lt)
  · exact z
  · exact absurd (h'.eq.trans h.eq.symm) (h.dif lead' lead z h.lt)
theorem tkR_later (ok : WOk W) (hb3 : B.bey < 3) {d : Int} (hd : 1 ≤ d) (hb : reach W ≤ d → B.bey ≠ 0) (start m : Int) : ∀ n, tkR W B d (start + (lv W (TwM.levelIx W d)).g * m) n = tkR W B d start n + (lv W (TwM.levelIx W d)).g * m
  | 0 => rfl
  | n + 1 => by
    show (fin W B (tkR W B d (start + (lv W (TwM.levelIx W d)).g * m) n) d).1 = _
    rw [tkR_later ok hb3 hd hb start m n]
    obtain ⟨_, _, _, _, _, _, _, h, _⟩ := later (B := B) ok hb3 hd hb (tkR W B d start n) m
    exact h
theorem RingIs.later (ok : WOk W) (hb3 : B.bey < 3) {d : Int} (hd : 1 ≤ d) (hb : reach W ≤ d → B.bey ≠ 0) {start : Int} (m : Int) {N lead : Nat} (h : RingIs W B d (lv W (TwM.levelIx W d)).g start N lead) : RingIs W B d (lv W (TwM.levelIx W d)).g (start + (lv W (TwM.levelIx W d)).g * m) N lead := by
  have e : ∀ n, tkR W B d (start + (lv W (TwM.levelIx W d)).g * m) n % (lv W (TwM.levelIx W d)).g = tkR W B d start n % (lv W (TwM.levelIx W d)).g := fun n => by
    rw [tkR_later ok hb3 hd hb, Int.add_mul_emod_self_left]
  refine ⟨fun i j a b => ?_, h.lt, ?_⟩
  · rw [e, e]; exact h.dif i j a b
  · rw [e, e]; exact h.eq
end
end Tw
/-! Tw: how late a timer fires at most -/
namespace Tw
open TwM
theorem wl_late {W : List Lv} {B : Bk} (ok : WOk W) {M : Int} (hM : ∀ i, i < W.length → (lv W i).s * (lv W i).g ≤ M) : ∀ (n : Nat) {sp : Spot} {a mv : Int} {r : Res}, sp.lv < W.length → wl W B none n sp a mv = some r → r.2.1 ≤ (if sp.lv = 0 then a + M else (if a < sp.due then sp.due else a) + 2 * M)
  | 0, _, _, _, _, _, h => by cases h
  | n + 1, sp, a, mv, r, hl, h => by
    have hall := ok.all _ hl
    have hgt := va_step ok hl sp.pt a
    have hmost := va_most (l := lv W sp.lv) (by omega) (by omega) sp.pt a
    have hm := hM _ hl
    unfold wl at h
    dsimp only at h
    rw [show over none (va (lv W sp.lv) sp.pt a) = false from rfl, if_neg Bool.false_ne_true] at h
    split at h
    · cases h
    · cases h
      dsimp only
      split
      · omega
      · split <;> omega
    · rename_i sp' hq
      obtain ⟨c1, c2, c3, c4⟩ := visGo_last ok _ hq
      have h0 : sp.lv ≠ 0 := fun e => by
        have := visGo_zero (W := W) (B := B) (before := va (lv W sp.lv) sp.pt a - 1) (now := va (lv W sp.lv) sp.pt a) (order W B) e (some sp') (List.mem_of_getLast? hq)
        cases this
      have ih := wl_late ok hM n c1 h
      rw [if_neg h0]
      rcases c4 with ⟨d1, d2⟩ | ⟨d1, d2⟩
      · rw [c2, if_pos d1] at ih
        split at ih <;> split <;> omega
      · have hz : sp'.lv = 0 := by rw [d2]
        rw [if_pos hz] at ih
        split <;> omega
end Tw
/-! Tw: two plans, in plain Lean -/
namespace Tw
open TwM
theorem place_in {W : List Lv} (ok : WOk W) {B : Bk} {d : Int} {i : Nat} (hi : levelOf W d = some i) (h1 : 1 ≤ d) (start : Int) : placeM W B start d = some ⟨i, rnd B.up (start + d) (lv W i).g, start + d⟩ := by
  obtain ⟨a1, a2⟩ := levelOf_lt hi
  have hr : d < reach W := by
    have := le_reach ok a1
    omega
  have e0 : (if 1 > d then 1 else d) = d := by split <;> omega
  unfold placeM
  rw [if_neg (fun z => by have := z.1; omega)]
  dsimp only
  rw [e0, if_neg (fun z => by have := z.1; omega)]
  unfold spotAt
  rw [hi]
theorem mod_same {s x m : Int} (hs : 0 < s) (h : x / s = (x + m) / s) : (x + m) % s = x % s + m := by
  have h1 := Int.mul_ediv_add_emod x s
  have h2 := Int.mul_ediv_add_emod (x + m) s
  rw [← h] at h2
  omega
theorem fin_turn {W : List Lv} (ok : WOk W) {B : Bk} {d start m : Int} {i : Nat} (hi : levelOf W d = some i) (h1 : 1 ≤ d) (hi' : levelOf W (d + (lv W i).g * m) = some i) (h1' : 1 ≤ d + (lv W i).g * m)
    (ht : (rnd B.up (start + d) (lv W i).g - start / (lv W i).g - 1) / (lv W i).s = (rnd B.up (start + d) (lv W i).g - start / (lv W i).g - 1 + m) / (lv W i).s) :
    (fin W B start (d + (lv W i).g * m)).1 = (fin W B start d).1 + (lv W i).g * m := by
  obtain ⟨hl, _⟩ := levelOf_lt hi
  have hall := ok.all i hl
  have e1 := place_in ok (B := B) hi h1 start
  have e2 := place_in ok (B := B) hi' h1' start
  have hix : TwM.levelIx W d = i := by unfold TwM.levelIx; rw [hi]; rfl
  have hD := dv_of ok hl m
  have hsh : (⟨i, rnd B.up (start + (d + (lv W i).g * m)) (lv W i).g, start + (d + (lv W i).g * m)⟩ : Spot) = sh W ((lv W i).g * m) ⟨i, rnd B.up (start + d) (lv W i).g, start + d⟩ := by
    unfold sh
    dsimp only
    rw [show start + (d + (lv W i).g * m) = start + d + (lv W i).g * m by omega, rnd_shift (by omega), Int.mul_ediv_cancel_left _ (by omega)]
  rw [hsh] at e2
  generalize hsp : (⟨i, rnd B.up (start + d) (lv W i).g, start + d⟩ : Spot) = sp at *
  have hspl : sp.lv = i := by rw [← hsp]
  have hspp : sp.pt = rnd B.up (start + d) (lv W i).g := by rw [← hsp]
  have hspd : sp.due = start + d := by rw [← hsp]
  have hlw : sp.lv < W.length := by rw [hspl]; exact hl
  obtain ⟨q, hq⟩ := fol_ends ok B none (mu sp start + 1) sp start 0 hlw (Nat.le_succ _)
  have hq2 := fol_shift (B := B) ok hD (mu sp start + 1) (sp := sp) (tick := start) (mv := 0) (by omega) hlw (by rw [hspd, show start + d - start = d by omega, hix]; exact Nat.le_refl _)
  rw [hq] at hq2
  have hva : va (lv W (sh W ((lv W i).g * m) sp).lv) (sh W ((lv W i).g * m) sp).pt start = va (lv W (sh W ((lv W i).g * m) sp).lv) (sh W ((lv W i).g * m) sp).pt (start + (lv W i).g * m) := by
    show va (lv W sp.lv) (sp.pt + (lv W i).g * m / (lv W sp.lv).g) start = va (lv W sp.lv) (sp.pt + (lv W i).g * m / (lv W sp.lv).g) (start + (lv W i).g * m)
    rw [hspl, va_shift (by omega) (Int.dvd_mul_right _ _), Int.mul_ediv_cancel_left _ (by omega)]
    unfold va
    have k1 := mod_same (s := (lv W i).s) (by omega) ht
    rw [hspp]
    rw [show rnd B.up (start + d) (lv W i).g + m - start / (lv W i).g - 1 = rnd B.up (start + d) (lv W i).g - start / (lv W i).g - 1 + m by omega, k1]
    rw [show start / (lv W i).g + 1 + ((rnd B.up (start + d) (lv W i).g - start / (lv W i).g - 1) % (lv W i).s + m) = (start / (lv W i).g + 1 + (rnd B.up (start + d) (lv W i).g - start / (lv W i).g - 1) % (lv W i).s) + m by omega, Int.add_mul, Int.mul_comm m]
  have hq3 : fol W B none (mu sp start + 1) (sh W ((lv W i).g * m) sp) start 0 = (some q).map (shR W ((lv W i).g * m)) := by
    rw [← hq2]
    unfold fol
    rw [hva]
    dsimp only
    rw [show over none (va (lv W (sh W ((lv W i).g * m) sp).lv) (sh W ((lv W i).g * m) sp).pt (start + (lv W i).g * m)) = false from rfl, if_neg Bool.false_ne_true, if_neg Bool.false_ne_true]
  have f1 := fin_some e1 ok hlw hq
  have f2 := fin_some e2 ok (by show sp.lv < W.length; exact hlw) hq3
  rw [f1, f2]
  rfl
def ttt (up : Bool) (l : Lv) (tot : Int) : Int := ((0 - rnd up tot l.g) % l.s + 1) * l.g
theorem fin_jump {W : List Lv} (ok : WOk W) {B : Bk} {d start k : Int} {i : Nat} (hi : levelOf W d = some i) (h1 : 1 ≤ d) (hi' : levelOf W (d + k) = some i) (hk0 : 0 ≤ k) (hg : (lv W i).g ∣ k) (hk : k < ttt B.up (lv W i) (start % (lv W i).g + d)) :
    (fin W B start (d + k)).1 = (fin W B start d).1 + k := by
  obtain ⟨hl, _⟩ := levelOf_lt hi
  have hall := ok.all i hl
  obtain ⟨m, rfl⟩ := hg
  refine fin_turn ok hi h1 hi' (by omega) ?_
  have e0 : rnd B.up (start + d) (lv W i).g = rnd B.up (start % (lv W i).g + d) (lv W i).g + start / (lv W i).g := by
    rw [← rnd_shift (by omega)]
    congr 1
    have := Int.emod_add_mul_ediv start (lv W i).g
    omega
  rw [e0]
  unfold ttt at hk
  generalize rnd B.up (start % (lv W i).g + d) (lv W i).g = p at *
  rw [show p + start / (lv W i).g - start / (lv W i).g - 1 = p - 1 by omega]
  have hm0 : 0 ≤ m := by
    rcases Int.lt_or_le m 0 with z | z
    · have := Int.mul_neg_of_pos_of_neg (a := (lv W i).g) (by omega) z
      omega
    · exact z
  have hm1 : m < (0 - p) % (lv W i).s + 1 := by
    rw [Int.mul_comm] at hk
    exact Int.lt_of_mul_lt_mul_right hk (by omega)
  have h3 := Int.mul_ediv_add_emod (0 - p) (lv W i).s
  have h4 := Int.emod_nonneg (0 - p) (b := (lv W i).s) (by omega)
  have h5 := Int.emod_lt_of_pos (0 - p) (b := (lv W i).s) (by omega)
  generalize (0 - p) % (lv W i).s = r at *
  have key : ∀ x : Int, 0 ≤ x → x ≤ r → (p - 1 + x) / (lv W i).s = -((0 - p) / (lv W i).s) - 1 := fun x x0 x1 => by
    have := (Int.ediv_emod_unique (a := p - 1 + x) (b := (lv W i).s) (q := -((0 - p) / (lv W i).s) - 1) (r := (lv W i).s - r - 1 + x) (by omega)).mpr ⟨by rw [Int.mul_sub, Int.mul_neg]; omega, by omega, by omega⟩
    exact this.1
  have k0 := key 0 (Int.le_refl _) h4
  rw [Int.add_zero] at k0
  rw [k0, key m hm0 (by omega)]
section
variable (W1 : List Lv) (B1 : Bk) (W2 : List Lv) (B2 : Bk)
def dif (start d : Int) : Int := (fin W1 B1 start d).1 - (fin W2 B2 start d).1
def prd (later : Bool) (z : Int) : Prop := if later = true then 0 < z else z ≠ 0
instance (later : Bool) (z : Int) : Decidable (prd later z) := by unfold prd; infer_instance
def PairIs (later : Bool) (o : Option (Int × Int)) : Prop := match o with
  | none => ∀ d, 0 ≤ d → d < reach W1 → d < reach W2 → ∀ st, 0 ≤ st → ¬ prd later (dif W1 B1 W2 B2 st d)
  | some (st, d) => 0 ≤ d ∧ d < reach W1 ∧ d < reach W2 ∧ 0 ≤ st ∧ prd later (dif W1 B1 W2 B2 st d) ∧ (∀ d', 0 ≤ d' → d' < d → ∀ st', 0 ≤ st' → ¬ prd later (dif W1 B1 W2 B2 st' d')) ∧ ∀ st', 0 ≤ st' → st' < st → ¬ prd later (dif W1 B1 W2 B2 st' d)
end
section
variable {W1 : List Lv} {B1 : Bk} {W2 : List Lv} {B2 : Bk}
theorem PairIs.uniq {later : Bool} {o o' : Option (Int × Int)} (h : PairIs W1 B1 W2 B2 later o) (h' : PairIs W1 B1 W2 B2 later o') : o = o' := by
  cases o with
  | none =>
    cases o' with
    | none => rfl
    | some p' =>
      obtain ⟨a1, a2, a3, a4, a5, _⟩ := h'
      exact absurd a5 (h _ a1 a2 a3 _ a4)
  | some p =>
    cases o' with
    | none =>
      obtain ⟨a1, a2, a3, a4, a5, _⟩ := h
      exact absurd a5 (h' _ a1 a2 a3 _ a4)
    | some p' =>
      obtain ⟨a1, a2, a3, a4, a5, a6, a7⟩ := h
      obtain ⟨b1, b2, b3, b4, b5, b6, b7⟩ := h'
      obtain ⟨st, d⟩ := p
      obtain ⟨st', d'⟩ := p'
      dsimp only at *
      have hd : d = d' := by
        rcases Int.lt_trichotomy d d' with z | z | z
        · exact absurd a5 (b6 d a1 z st a4)
        · exact z
        · exact absurd b5 (a6 d' b1 z st' b4)
      subst hd
      have hs : st = st' := by
        rcases Int.lt_trichotomy st st' with z | z | z
        · exact absurd a5 (b7 st a4 z)
        · exact z
        · exact absurd b5 (a7 st' b4 z)
      rw [hs]
theorem dif_later (ok1 : WOk W1) (ok2 : WOk W2) (hb1 : B1.bey < 3) (hb2 : B2.bey < 3) {d : Int} (hd : 1 ≤ d) (hr1 : d < reach W1) (hr2 : d < reach W2) {m : Int} (h1 : (lv W1 (TwM.levelIx W1 d)).g ∣ m) (h2 : (lv W2 (TwM.levelIx W2 d)).g ∣ m) (start : Int) :
    dif W1 B1 W2 B2 (start + m) d = dif W1 B1 W2 B2 start d := by
  obtain ⟨a, ha⟩ := h1
  obtain ⟨b, hb⟩ := h2
  obtain ⟨_, _, _, _, _, _, _, e1, _⟩ := later (B := B1) ok1 hb1 hd (fun z => by omega) start a
  obtain ⟨_, _, _, _, _, _, _, e2, _⟩ := later (B := B2) ok2 hb2 hd (fun z => by omega) start b
  unfold dif
  rw [← ha] at e1
  rw [← hb] at e2
  omega
theorem fin_zero {W : List Lv} {B : Bk} (start : Int) : (fin W B start 0).1 = (if B.zone = false then start else (fin W B start 1).1) := by
  unfold fin placeM
  cases B.zone
  · simp
  · simp
end
/-! ### delays that two wheels have in common -/
def lowD (W : List Lv) (i : Nat) : Int := if i = 0 then 1 else (lv W (i - 1)).p
structure Part where
  i : Nat
  j : Nat
  lo : Int
  hi : Int
def pLo (W1 W2 : List Lv) (i j : Nat) : Int := if lowD W2 j > lowD W1 i then lowD W2 j else lowD W1 i
def pHi (W1 W2 : List Lv) (i j : Nat) : Int := (if (lv W2 j).p < (lv W1 i).p then (lv W2 j).p else (lv W1 i).p) - 1
def partAt (W1 W2 : List Lv) (i j : Nat) : List Part := if pLo W1 W2 i j ≤ pHi W1 W2 i j then [⟨i, j, pLo W1 W2 i j, pHi W1 W2 i j⟩] else []
def cparts (W1 W2 : List Lv) : List Part := (List.range W1.length).flatMap fun i => (List.range W2.length).flatMap fun j => partAt W1 W2 i j
theorem asc_lt {W : List Lv} (ok : WOk W) {i j : Nat} (h : i < j) (hj : j < W.length) : (lv W i).p < (lv W j).p := by
  have := asc_le ok (j - i - 1) i (by omega)
  rwa [show i + (j - i - 1) + 1 = j by omega] at this
theorem lowD_le {W : List Lv} (ok : WOk W) {i j : Nat} (h : i < j) (hj : j < W.length) : (lv W i).p ≤ lowD W j := by
  unfold lowD
  rw [if_neg (by omega)]
  rcases Nat.lt_or_ge i (j - 1) with z | z
  · have := asc_lt ok z (by omega)
    omega
  · rw [show j - 1 = i by omega]
    exact Int.le_refl _
theorem lowD_pos {W : List Lv} (ok : WOk W) {i : Nat} (hi : i < W.length) : 1 ≤ lowD W i := by
  unfold lowD
  split
  · exact Int.le_refl _
  · have := (ok.all (i - 1) (by omega)).2.2.2.2
    omega
theorem level_in {W : List Lv} (ok : WOk W) {i : Nat} (hi : i < W.length) {d : Int} (h1 : lowD W i ≤ d) (h2 : d < (lv W i).p) : levelOf W d = some i := levelOf_is hi (fun j hj => by
  have := lowD_le ok hj hi
  omega) h2
section
variable {W1 : List Lv} {B1 : Bk} {W2 : List Lv} {B2 : Bk}
def PartIs (W1 : List Lv) (B1 : Bk) (W2 : List Lv) (B2 : Bk) (later : Bool) (x : Part) (m : Int) (o : Option (Int × Int)) : Prop := match o with
  | none => ∀ d, x.lo ≤ d → d ≤ x.hi → ∀ st, 0 ≤ st → st < m → ¬ prd later (dif W1 B1 W2 B2 st d)
  | some (d, st) => x.lo ≤ d ∧ d ≤ x.hi ∧ 0 ≤ st ∧ st < m ∧ prd later (dif W1 B1 W2 B2 st d) ∧ ∀ d' st', x.lo ≤ d' → d' ≤ x.hi → 0 ≤ st' → st' < m → prd later (dif W1 B1 W2 B2 st' d') → d < d' ∨ d = d' ∧ st ≤ st'
theorem IsL.eq {a b m m' : Int} (h : IsL a b m) (h' : IsL a b m') : m = m' :=
  Int.dvd_antisymm (Int.le_of_lt h.1) (Int.le_of_lt h'.1) ((h.2 m').mpr ((h'.2 m').mp (Int.dvd_refl _))) ((h'.2 m).mpr ((h.2 m).mp (Int.dvd_refl _)))
def FDIs (W1 : List Lv) (B1 : Bk) (W2 : List Lv) (B2 : Bk) (later : Bool) (hi m start low : Int) (o : Option Int) : Prop := match o with
  | none => ∀ d, low ≤ d → d ≤ hi → m ∣ d - low → ¬ prd later (dif W1 B1 W2 B2 start d)
  | some d => low ≤ d ∧ d ≤ hi ∧ m ∣ d - low ∧ prd later (dif W1 B1 W2 B2 start d) ∧ ∀ d', low ≤ d' → d' < d → m ∣ d' - low → ¬ prd later (dif W1 B1 W2 B2 start d')
def BestIs (W1 : List Lv) (B1 : Bk) (W2 : List Lv) (B2 : Bk) (later : Bool) (x : Part) (m : Int) (P : Int → Int → Prop) (o : Option (Int × Int)) : Prop := match o with
  | none => ∀ d st, x.lo ≤ d → d ≤ x.hi → P d st → ¬ prd later (dif W1 B1 W2 B2 st d)
  | some (d, st) => x.lo ≤ d ∧ d ≤ x.hi ∧ 0 ≤ st ∧ st < m ∧ prd later (dif W1 B1 W2 B2 st d) ∧ ∀ d' st', x.lo ≤ d' → d' ≤ x.hi → P d' st' → prd later (dif W1 B1 W2 B2 st' d') → d < d' ∨ d = d' ∧ st ≤ st'
theorem BestIs.imp {later : Bool} {x : Part} {m : Int} {P P' : Int → Int → Prop} {o : Option (Int × Int)} (h : BestIs W1 B1 W2 B2 later x m P o) (hP : ∀ d st, x.lo ≤ d → d ≤ x.hi → P' d st → P d st) : BestIs W1 B1 W2 B2 later x m P' o := by
  cases o with
  | none => exact fun d st a b c => h d st a b (hP d st a b c)
  | some p =>
    obtain ⟨a1, a2, a3, a4, a5, a6⟩ := h
    exact ⟨a1, a2, a3, a4, a5, fun d' st' a b c => a6 d' st' a b (hP d' st' a b c)⟩
theorem BestIs.part {later : Bool} {x : Part} {m : Int} {o : Option (Int × Int)} (h : BestIs W1 B1 W2 B2 later x m (fun _ st => 0 ≤ st ∧ st < m) o) : PartIs W1 B1 W2 B2 later x m o := by
  cases o with
  | none => exact fun d a b st c e => h d st a b ⟨c, e⟩
  | some p =>
    obtain ⟨a1, a2, a3, a4, a5, a6⟩ := h
    exact ⟨a1, a2, a3, a4, a5, fun d' st' a b c e => a6 d' st' a b ⟨c, e⟩⟩
def nextBest (o : Option (Int × Int)) (st : Int) : Option Int → Option (Int × Int)
  | none => o
  | some d => match o with
    | none => some (d, st)
    | some (bd, bs) => if (if d = bd then (if st = bs then False else st < bs) else d < bd) then some (d, st) else some (bd, bs)
theorem BestIs.next {later : Bool} {x : Part} {m : Int} {P : Int → Int → Prop} {o : Option (Int × Int)} (h : BestIs W1 B1 W2 B2 later x m P o) {st low : Int} (hlo : x.lo ≤ low) (h0 : 0 ≤ st) (h1 : st < m) (hlm : low < x.lo + m) {o2 : Option Int} (hf : FDIs W1 B1 W2 B2 later x.hi m st low o2) :
    BestIs W1 B1 W2 B2 later x m (fun d s => P d s ∨ s = st ∧ low ≤ d ∧ m ∣ d - low) (nextBest o st o2) := by
  cases o2 with
  | none =>
    cases o with
    | none =>
      intro d s a b c
      rcases c with c | ⟨rfl, c1, c2⟩
      · exact h d s a b c
      · exact hf d c1 b c2
    | some p =>
      obtain ⟨a1, a2, a3, a4, a5, a6⟩ := h
      refine ⟨a1, a2, a3, a4, a5, fun d' s' a b c hq => ?_⟩
      rcases c with c | ⟨rfl, c1, c2⟩
      · exact a6 d' s' a b c hq
      · exact absurd hq (hf d' c1 b c2)
  | some d0 =>
    obtain ⟨f1, f2, f3, f4, f5⟩ := hf
    have key : ∀ d', x.lo ≤ d' → d' ≤ x.hi → low ≤ d' → m ∣ d' - low → prd later (dif W1 B1 W2 B2 st d') → d0 ≤ d' := fun d' a b c e hq => by
      rcases Int.lt_or_le d' d0 with z | z
      · exact absurd hq (f5 d' c z e)
      · exact z
    cases o with
    | none =>
      refine ⟨by omega, f2, h0, h1, f4, fun d' s' a b c hq => ?_⟩
      rcases c with c | ⟨rfl, c1, c2⟩
      · exact absurd hq (h d' s' a b c)
      · have := key d' a b c1 c2 hq
        omega
    | some p =>
      obtain ⟨bd, bs⟩ := p
      obtain ⟨a1, a2, a3, a4, a5, a6⟩ := h
      show BestIs W1 B1 W2 B2 later x m _ (if (if d0 = bd then (if st = bs then False else st < bs) else d0 < bd) then some (d0, st) else some (bd, bs))
      by_cases hc : (if d0 = bd then (if st = bs then False else st < bs) else d0 < bd)
      · rw [if_pos hc]
        have hc' : d0 < bd ∨ d0 = bd ∧ st < bs := by
          split at hc
          · split at hc
            · exact hc.elim
            · exact .inr ⟨by assumption, hc⟩
          · exact .inl hc
        refine ⟨by omega, f2, h0, h1, f4, fun d' s' a b c hq => ?_⟩
        rcases c with c | ⟨rfl, c1, c2⟩
        · rcases a6 d' s' a b c hq with z | z <;> omega
        · have := key d' a b c1 c2 hq
          omega
      · rw [if_neg hc]
        have hc' : bd < d0 ∨ bd = d0 ∧ bs ≤ st := by
          split at hc
          · split at hc <;> omega
          · omega
        refine ⟨a1, a2, a3, a4, a5, fun d' s' a b c hq => ?_⟩
        rcases c with c | ⟨rfl, c1, c2⟩
        · exact a6 d' s' a b c hq
        · have := key d' a b c1 c2 hq
          omega
end
end Tw
/-! Tw: the least delay of a level -/
namespace Tw
open PySem PySem.Spec PyProof.Rows L2 He TwM StX
open PySem.W (Frag)
local macro_rules | `(tactic| walk_at "rsl") => `(tactic| simp only [*, at3_0, at3_1, at3_2, at2_0, at2_1, updS, upd_two, gSub, rSetL, updN, tPar, tPar3, gTup, gCons, gNil, and_assoc, not_true_eq_false, not_false_eq_true, tNever, List.length_map, tFld, rIxTH, rIxLH, rLenTH, rLenLH, lk1, lfs_g, lfs_s, lfs_p, HO.ins.injEq, HO.tup.injEq, HO.lst.injEq, sp_Book_rounding, sp_Book_action, sp_Book_order, sp_Book_due, sp_Book_zero, sp_Book_beyond, Int.toNat_natCast, sp_visit_after, sp_is_visited, sp_Level_grain, sp_Level_slots, sp_Level_span, sp_Wheel_reach, sp_Wheel___len__, sp_is_integer, sp_is_count, sp_is_within, sp_rounded, tAsg, gName, tVar, tC, tOp, rI, rI0, rU, tUn, oAdd, oSub, oMul, oDiv, oMod, oNeg, oLt, oLe, oGt, oGe, oIsN, oNotN, tFn, tCons, tNil, tIfS, tIf, tTest, tB, tNot, tAnd, tOr, tAndV, tOrV, tNotV,
    tRet, tRetN, tNext, tCB, tDrop, tChain, rEq, rNe, oMax2, oMin2, oInt1, rLenF, L2.start, List.map_cons, List.map_nil, List.length_cons, List.length_nil, List.replicate_succ, List.replicate_zero, List.cons_append, List.nil_append, Nat.reduceAdd, Nat.reduceSub, Nat.zero_add,
    List.set_cons_zero, List.set_cons_succ, List.getElem?_cons_zero, List.getElem?_cons_succ, Option.some.injEq, V.int.injEq, V.ref.injEq, V.str.injEq, V.bl.injEq, exists_eq_left', exists_eq_left, exists_and_left, List.cons.injEq, and_true, true_and, decide_eq_true_eq, sc_ii, sc_ss, sc_bb, sc_ni, sc_in, sc_nn, sc_is, reduceCtorEq,
    Bool.not_eq_true', decide_eq_false_iff_not, if_true, if_false, Bool.false_eq_true, exists_eq', exists_const, false_and, and_false, or_false, false_or, exists_false, Bool.not_not, Bool.not_true, Bool.not_false, sUp_up, sFire_fire, sHigh_high, sPut_put, sZone_now, sBey_refuse, sBey_cut, tTup, tLst, sz0, sz1, sz2, sz3, sz4, sz5, sz6])
section
variable {K : Frag} {w : World}
end
end Tw
/-! what sleeps stays asleep: a promise that holds of every table of generators keeps each sleeping one as it is -/
namespace TwZ
open PySem
open Sem (wp)
def dull : GenState → GenState
  | .suspended _ l c p fs cl => .suspended (fun _ => .unsupported "") l c p fs cl
  | x => x
def slp : GenState → Bool
  | .suspended .. => true
  | _ => false
theorem dull_seen (x : GenState) : (dull x).seen = x.seen := by cases x <;> rfl
theorem dull_bare (x : GenState) : (dull x).bare = x.bare := by cases x <;> rfl
def pick (T : Array GenState) (i : Nat) (x : GenState) : GenState :=
  match T[i]? with
  | some y => if slp y = true then y else x
  | none => x
theorem pick_slp {T : Array GenState} {i : Nat} {x y : GenState} (h : T[i]? = some y) (hy : slp y = true) : pick T i x = y := by
  unfold pick; rw [h]; exact if_pos hy
theorem pick_not {T : Array GenState} {i : Nat} {x : GenState} (h : ∀ y, T[i]? = some y → slp y = false) : pick T i x = x := by
  unfold pick
  cases e : T[i]? with
  | none => rfl
  | some y => exact if_neg (by rw [h y e]; exact Bool.false_ne_true)
def und (T G : Array GenState) : Array GenState := Array.ofFn (n := G.size) fun i => pick T i.1 G[i.1]
theorem und_size (T G : Array GenState) : (und T G).size = G.size := by simp [und]
theorem und_get (T G : Array GenState) (i : Nat) : (und T G)[i]? = (G[i]?).map (pick T i) := by
  by_cases h : i < G.size
  · have h2 : i < (und T G).size := by rw [und_size]; exact h
    rw [Array.getElem?_eq_getElem h, Array.getElem?_eq_getElem h2]
    simp [und]
  · have h2 : ¬ i < (und T G).size := by rw [und_size]; exact h
    rw [Array.getElem?_eq_none (Nat.le_of_not_lt h), Array.getElem?_eq_none (Nat.le_of_not_lt h2)]
    rfl
structure Dl (T G : Array GenState) : Prop where
  at' : ∀ (i : Nat) (y : GenState), T[i]? = some y → slp y = true → G[i]? = some (dull y)
  own : ∀ (i : Nat) k l c p fs cl, G[i]? = some (.suspended k l c p fs cl) → splitAtGen fs = none ∨ ∃ y, T[i]? = some y ∧ slp y = true
theorem Dl.seen {T G : Array GenState} (d : Dl T G) {i : Nat} {x : GenState} (h : G[i]? = some x) : (und T G)[i]? = some (pick T i x) ∧ (pick T i x).seen = x.seen := by
  refine ⟨by rw [und_get, h]; rfl, ?_⟩
  unfold pick
  cases e : T[i]? with
  | none => rfl
  | some y =>
    show (if slp y = true then y else x).seen = _
    by_cases z : slp y = true
    · rw [if_pos z]
      have q := d.at' i y e z
      rw [h] at q; cases q
      exact (dull_seen y).symm
    · rw [if_neg z]
theorem Dl.lt {T G : Array GenState} (d : Dl T G) {i : Nat} {y : GenState} (h : T[i]? = some y) (hy : slp y = true) : i < G.size :=
  (Array.getElem?_eq_some_iff.mp (d.at' i y h hy)).1
theorem Dl.push {T G : Array GenState} (d : Dl T G) (c : Code) : Dl T (G.push (.fresh c)) ∧ und T (G.push (.fresh c)) = (und T G).push (.fresh c) := by
  refine ⟨⟨fun i y h hy => ?_, fun i k l c' p fs cl h => ?_⟩, ?_⟩
  · rw [Array.getElem?_push, if_neg (Nat.ne_of_lt (d.lt h hy))]
    exact d.at' i y h hy
  · rw [Array.getElem?_push] at h
    split at h
    · cases h
    · exact d.own i k l c' p fs cl h
  · refine Array.ext_getElem? fun i => ?_
    rw [und_get, Array.getElem?_push, Array.getElem?_push, und_get, und_size]
    by_cases z : i = G.size
    · rw [if_pos z, if_pos z]
      show some (pick T i _) = _
      rw [pick_not fun y hy => ?_]
      cases e : slp y with
      | false => rfl
      | true => exact absurd (d.lt hy e) (by rw [z]; exact Nat.lt_irrefl _)
    · rw [if_neg z, if_neg z]
def Awk (T : Array GenState) (g : Nat) : Prop := ∀ y, T[g]? = some y → slp y = false
theorem Dl.set {T G : Array GenState} (d : Dl T G) {g : Nat} {x : GenState} (hg : Awk T g) (hx : ∀ k l c p fs cl, x = .suspended k l c p fs cl → splitAtGen fs = none) :
    Dl T (G.setIfInBounds g x) ∧ und T (G.setIfInBounds g x) = (und T G).setIfInBounds g x := by
  refine ⟨⟨fun i y h hy => ?_, fun i k l c' p fs cl h => ?_⟩, ?_⟩
  · have n : g ≠ i := fun e => by subst e; rw [hg y h] at hy; cases hy
    rw [Array.getElem?_setIfInBounds_ne n]
    exact d.at' i y h hy
  · by_cases z : g = i
    · subst z
      rw [Array.getElem?_setIfInBounds] at h
      split at h
      · split at h
        · cases h; exact .inl (hx _ _ _ _ _ _ rfl)
        · cases h
      · exact d.own _ k l c' p fs cl h
    · rw [Array.getElem?_setIfInBounds_ne z] at h
      exact d.own i k l c' p fs cl h
  · refine Array.ext_getElem? fun i => ?_
    rw [und_get, Array.getElem?_setIfInBounds, Array.getElem?_setIfInBounds, und_get, und_size]
    by_cases z : g = i
    · subst z
      rw [if_pos rfl, if_pos rfl]
      by_cases q : g < G.size
      · rw [if_pos q]
        show some (pick T g x) = _
        rw [pick_not hg]
      · rw [if_neg q]; rfl
    · rw [if_neg z, if_neg z]
theorem Dl.fresh {T G : Array GenState} (d : Dl T G) {g : Nat} {x : GenState} (h : G[g]? = some x) (hx : slp x = false) : Awk T g := fun y hy => by
  cases e : slp y with
  | false => rfl
  | true =>
    have q := d.at' g y hy e
    rw [h] at q; cases q
    cases y <;> first | (cases hx; done) | (cases e; done)
abbrev und' (T : Array GenState) (s : Shared) : Shared := { s with gens := und T s.gens }
theorem und_set {T : Array GenState} {s : Shared} (d : Dl T s.gens) {g : Nat} {x : GenState} (hg : Awk T g) (hx : ∀ k l c p fs cl, x = .suspended k l c p fs cl → splitAtGen fs = none) :
    und' T (s.setGen g x) = (und' T s).setGen g x := by
  show ({ s with gens := und T (s.gens.setIfInBounds g x) } : Shared) = { s with gens := (und T s.gens).setIfInBounds g x }
  rw [(d.set hg hx).2]
theorem no_unsup {M : Model} {Γ : Ctx} {p : Pos} {w : String} {fs : List Frame} {s s' : Shared} {e : End} : ¬ Runs M Γ p (.unsupported w) fs s e s' := fun h => by
  generalize ht : (Sem.unsupported w : Sem PySem.Fin) = t at h
  induction h <;> first | (cases ht; done) | (rename_i ih; exact ih ht) | (rename_i ih _; exact ih ht) | (rename_i ih _ _; exact ih ht) | skip
theorem split_app {a b : List Frame} (ha : splitAtGen a = none) (hb : splitAtGen b = none) : splitAtGen (a ++ b) = none := by
  induction a with
  | nil => exact hb
  | cons f a ih =>
    cases f with
    | gen g k l c p => cases ha
    | ret k h g l c p kp =>
      have q : splitAtGen a = none := by
        cases e : splitAtGen a with
        | none => rfl
        | some x => rw [show splitAtGen (.ret k h g l c p kp :: a) = (splitAtGen a).map _ from rfl, e] at ha; cases ha
      show (splitAtGen (a ++ b)).map _ = none
      rw [ih q]; rfl
theorem split_tl {k h g l c p kp} {fs : List Frame} (n : splitAtGen (.ret k h g l c p kp :: fs) = none) : splitAtGen fs = none := by
  cases e : splitAtGen fs with
  | none => rfl
  | some x => rw [show splitAtGen (.ret k h g l c p kp :: fs) = (splitAtGen fs).map _ from rfl, e] at n; cases n
def cln : End → Prop
  | .ret _ => True
  | .susp _ _ _ _ _ _ fs => splitAtGen fs = none
theorem cln_gs {e : End} (h : cln e) : ∀ k l c p fs cl, e.genState = .suspended k l c p fs cl → splitAtGen fs = none := by
  cases e with
  | ret r => intro _ _ _ _ _ _ q; cases q
  | susp v g l k c p fs => intro _ _ _ _ _ _ q; cases q; exact h
theorem runs_und {M : Model} {Γ : Ctx} {p : Pos} {t : Sem PySem.Fin} {fs : List Frame} {s s' : Shared} {e : End} (h : Runs M Γ p t fs s e s') {T : Array GenState} :
    splitAtGen fs = none → Dl T s.gens → Runs M Γ p t fs (und' T s) e (und' T s') ∧ Dl T s'.gens ∧ cln e := by
  induction h with
  | done => intro _ d; exact ⟨.done, d, trivial⟩
  | raise => intro _ d; exact ⟨.raise, d, trivial⟩
  | again q _ ih => intro n d; obtain ⟨a, b⟩ := ih n d; exact ⟨.again q a, b⟩
  | rule _ ih => intro n d; obtain ⟨a, b⟩ := ih n d; exact ⟨.rule a, b⟩
  | «at» _ ih => intro n d; obtain ⟨a, b⟩ := ih n d; exact ⟨.at a, b⟩
  | load o _ ih => intro n d; obtain ⟨a, b⟩ := ih n d; exact ⟨.load o a, b⟩
  | update o _ ih => intro n d; obtain ⟨a, b⟩ := ih n d; exact ⟨.update o a, b⟩
  | loadIfAlive _ ih => intro n d; obtain ⟨a, b⟩ := ih n d; exact ⟨.loadIfAlive a, b⟩
  | point _ ih => intro n d; obtain ⟨a, b⟩ := ih n d; exact ⟨.point a, b⟩
  | alloc _ ih => intro n d; obtain ⟨a, b⟩ := ih n d; exact ⟨.alloc a, b⟩
  | fresh _ ih => intro n d; obtain ⟨a, b⟩ := ih n d; exact ⟨.fresh a, b⟩
  | ask _ ih => intro n d; obtain ⟨a, b⟩ := ih n d; exact ⟨.ask a, b⟩
  | choose q _ ih => intro n d; obtain ⟨a, b⟩ := ih n d; exact ⟨.choose q a, b⟩
  | os _ ih => intro n d; obtain ⟨a, b⟩ := ih n d; exact ⟨.os a, b⟩
  | handled _ ih => intro n d; obtain ⟨a, b⟩ := ih n d; exact ⟨.handled a, b⟩
  | genState hg _ ih =>
    intro n d
    obtain ⟨a, b⟩ := ih n d
    obtain ⟨q1, q2⟩ := d.seen hg
    rw [← q2] at a
    exact ⟨.genState q1 a, b⟩
  | stack _ ih => intro n d; obtain ⟨a, b⟩ := ih n d; exact ⟨.stack a, b⟩
  | thread _ ih => intro n d; obtain ⟨a, b⟩ := ih n d; exact ⟨.thread a, b⟩
  | newGen _ ih =>
    intro n d
    obtain ⟨q1, q2⟩ := d.push _
    obtain ⟨a, b⟩ := ih n q1
    refine ⟨.newGen ?_, b⟩
    rw [und_size]
    rw [← q2]
    exact a
  | call _ _ ih1 ih2 => intro n d; obtain ⟨a, b, _⟩ := ih1 rfl d; obtain ⟨a2, b2⟩ := ih2 n b; exact ⟨.call a a2, b2⟩
  | callSusp _ ih1 => intro n d; obtain ⟨a, b, c⟩ := ih1 rfl d; exact ⟨.callSusp a, b, split_app c rfl⟩
  | yield => intro _ d; exact ⟨.yield, d, rfl⟩
  | resumeFresh hg _ hq _ ih1 ih2 =>
    intro n d
    have w := d.fresh hg rfl
    have q0 := d.set (x := .running) w (fun _ _ _ _ _ _ z => by cases z)
    obtain ⟨a, b, c⟩ := ih1 rfl q0.1
    rw [und_set d w (fun _ _ _ _ _ _ z => by cases z)] at a
    obtain ⟨a2, b2⟩ := ih2 n (b.set w (cln_gs c)).1
    rw [und_set b w (cln_gs c)] at a2
    have hg2 := (d.seen hg).1
    rw [pick_not w] at hg2
    exact ⟨.resumeFresh hg2 a hq a2, b2⟩
  | resumeSuspended hg hr hq _ ih1 ih2 =>
    rename_i g _ _ _ _ _ _ _ _ _ _ _ _ _ _ _
    intro n d
    have w : Awk T g := fun y hy => by
      cases e : slp y with
      | false => rfl
      | true =>
        have q := d.at' g y hy e
        rw [hg] at q
        cases y <;> first | (cases e; done) | skip
        cases q
        exact absurd hr no_unsup
    have hf := (d.own _ _ _ _ _ _ _ hg).resolve_right fun ⟨y, hy, e⟩ => by rw [w y hy] at e; cases e
    have q0 := d.set (x := .running) w (fun _ _ _ _ _ _ z => by cases z)
    obtain ⟨a, b, c⟩ := ih1 hf q0.1
    rw [und_set d w (fun _ _ _ _ _ _ z => by cases z)] at a
    obtain ⟨a2, b2⟩ := ih2 n (b.set w (cln_gs c)).1
    rw [und_set b w (cln_gs c)] at a2
    have hg2 := (d.seen hg).1
    rw [pick_not w] at hg2
    exact ⟨.resumeSuspended hg2 a hq a2, b2⟩
  | resumeJustStarted hg hv _ ih =>
    intro n d
    obtain ⟨a, b⟩ := ih n d
    have hg2 := (d.seen hg).1
    rw [pick_not (d.fresh hg rfl)] at hg2
    exact ⟨.resumeJustStarted hg2 hv a, b⟩
  | resumeThrowFresh hg _ ih =>
    intro n d
    have w := d.fresh hg rfl
    have q0 := d.set (x := .finished) w (fun _ _ _ _ _ _ z => by cases z)
    obtain ⟨a, b⟩ := ih n q0.1
    rw [und_set d w (fun _ _ _ _ _ _ z => by cases z)] at a
    have hg2 := (d.seen hg).1
    rw [pick_not w] at hg2
    exact ⟨.resumeThrowFresh hg2 a, b⟩
  | resumeRunning hg _ ih =>
    intro n d
    obtain ⟨a, b⟩ := ih n d
    refine ⟨.resumeRunning ?_ a, b⟩
    rw [show (und' T _).gens = und T _ from rfl, und_get, hg]
    exact congrArg some (pick_not (d.fresh hg rfl))
  | resumeFinished hg _ ih =>
    intro n d
    obtain ⟨a, b⟩ := ih n d
    refine ⟨.resumeFinished ?_ a, b⟩
    rw [show (und' T _).gens = und T _ from rfl, und_get, hg]
    exact congrArg some (pick_not (d.fresh hg rfl))
  | segRet _ _ ih1 ih2 =>
    intro n d
    obtain ⟨a, b, _⟩ := ih1 rfl d
    obtain ⟨a2, b2⟩ := ih2 (split_tl n) b
    exact ⟨.segRet a a2, b2⟩
  | segGen => intro n; cases n
  | segSuspOut hn _ ih1 => intro n d; obtain ⟨a, b, c⟩ := ih1 rfl d; exact ⟨.segSuspOut hn a, b, split_app c hn⟩
  | segSuspGen hs => intro n; rw [hs] at n; cases n
theorem returns_und {M : Model} {Γ : Ctx} {p : Pos} {s s' : Shared} {r : Result} (h : Returns M Γ p s r s') {T : Array GenState} (d : Dl T s.gens) : Returns M Γ p (und' T s) r (und' T s') ∧ Dl T s'.gens :=
  let ⟨a, b, _⟩ := runs_und h rfl d
  ⟨a, b⟩
theorem wakes_und {M : Model} {Γ : Ctx} {p : Pos} {g : Nat} {r : Resume} {s s' : Shared} {res : GenResult} (h : Wakes M Γ p g r s res s') {T : Array GenState} (d : Dl T s.gens) :
    Wakes M Γ p g r (und' T s) res (und' T s') ∧ Dl T s'.gens := by
  unfold Wakes at h ⊢
  have hu : (und' T s).gens[g]? = (s.gens[g]?).map (pick T g) := und_get T s.gens g
  rw [hu]
  cases hg : s.gens[g]? with
  | none => rw [hg] at h; exact h.elim
  | some x =>
    rw [hg] at h
    cases x with
    | fresh c =>
      have w := d.fresh hg rfl
      rw [show (some (GenState.fresh c)).map (pick T g) = some (.fresh c) from congrArg some (pick_not w)]
      cases r with
      | send v =>
        by_cases z : v = .none
        · subst z
          obtain ⟨e, s1, hr, hq, h1, rfl⟩ := h
          have q0 := d.set (x := .running) w (fun _ _ _ _ _ _ z => by cases z)
          obtain ⟨a, b, c⟩ := runs_und hr rfl q0.1
          rw [und_set d w (fun _ _ _ _ _ _ z => by cases z)] at a
          exact ⟨⟨e, _, a, hq, h1, und_set b w (cln_gs c)⟩, (b.set w (cln_gs c)).1⟩
        · have h' : res = .justStarted ∧ s' = s := by cases v <;> first | exact absurd rfl z | exact h
          obtain ⟨rfl, rfl⟩ := h'
          refine ⟨?_, d⟩
          cases v <;> first | exact absurd rfl z | exact ⟨rfl, rfl⟩
      | throw x =>
        obtain ⟨h1, rfl⟩ := h
        exact ⟨⟨h1, und_set d w (fun _ _ _ _ _ _ z => by cases z)⟩, (d.set w (fun _ _ _ _ _ _ z => by cases z)).1⟩
    | suspended k l c p' fs cl =>
      obtain ⟨e, s1, hr, hq, h1, rfl⟩ := h
      have w : Awk T g := fun y hy => by
        cases e : slp y with
        | false => rfl
        | true =>
          have q := d.at' g y hy e
          rw [hg] at q
          cases y <;> first | (cases e; done) | skip
          cases q
          exact absurd hr no_unsup
      have hf := (d.own _ _ _ _ _ _ _ hg).resolve_right fun ⟨y, hy, e⟩ => by rw [w y hy] at e; cases e
      have q0 := d.set (x := .running) w (fun _ _ _ _ _ _ z => by cases z)
      obtain ⟨a, b, c⟩ := runs_und hr hf q0.1
      rw [und_set d w (fun _ _ _ _ _ _ z => by cases z)] at a
      rw [show (some (GenState.suspended k l _ p' fs cl)).map (pick T g) = some _ from congrArg some (pick_not w)]
      exact ⟨⟨e, _, a, hq, h1, und_set b w (cln_gs c)⟩, (b.set w (cln_gs c)).1⟩
    | running =>
      have w := d.fresh hg rfl
      rw [show (some GenState.running).map (pick T g) = some .running from congrArg some (pick_not w)]
      obtain ⟨h1, rfl⟩ := h
      exact ⟨⟨h1, rfl⟩, d⟩
    | finished =>
      have w := d.fresh hg rfl
      rw [show (some GenState.finished).map (pick T g) = some .finished from congrArg some (pick_not w)]
      obtain ⟨h1, rfl⟩ := h
      exact ⟨⟨h1, rfl⟩, d⟩
theorem wp_und {α : Type} (M : Model) (Γ : Ctx) (T : Array GenState) (t : Sem α) : ∀ (Q : α → Pos → Shared → Prop) (E : Value → Pos → Shared → Prop) (p : Pos) (s : Shared), Dl T s.gens → wp M Γ t Q E p s →
    wp M Γ t (fun a p' s' => ∃ s1, s' = und' T s1 ∧ Dl T s1.gens ∧ Q a p' s1) (fun e p' s' => ∃ s1, s' = und' T s1 ∧ Dl T s1.gens ∧ E e p' s1) p (und' T s) := by
  induction t with
  | pure a => intro Q E p s d h; exact ⟨s, rfl, d, h⟩
  | raise e => intro Q E p s d h; exact ⟨s, rfl, d, h⟩
  | unsupported _ => intro Q E p s _ h; exact h
  | finish _ => intro Q E p s _ h; exact h
  | rule _ k ih => intro Q E p s d h; exact ih () Q E p s d h
  | «at» p' k ih => intro Q E p s d h; exact ih () Q E p' s d h
  | load a _ k ih => intro Q E p s d h; obtain ⟨o, ho, h⟩ := h; exact ⟨o, ho, ih o Q E p s d h⟩
  | update a _ f k ih => intro Q E p s d h; exact ⟨h.1, ih () Q E p { s with heap := s.heap.update a f } d h.2⟩
  | loadIfAlive a k ih => intro Q E p s d h; exact ih _ Q E p s d h
  | point _ k ih => intro Q E p s d h; exact ih () Q E p s d h
  | register _ _ => intro Q E p s _ h; exact h
  | alloc o k ih => intro Q E p s d h; exact ih _ Q E p { s with heap := s.heap.push o } d h
  | fresh k ih => intro Q E p s d h; exact ih _ Q E p { s with toks := s.toks + 1 } d h
  | ask k ih => intro Q E p s d h; exact ih _ Q E p s d h
  | choose src m k ih => intro Q E p s d h; exact ⟨h.1, ih _ Q E p { s with drawn := s.drawn.bump src } d h.2⟩
  | os q _ k ih => intro Q E p s d h; exact ih _ Q E p { s with os := (Os.step s.os q).1 } d h
  | call c hd _ _ k ih =>
    intro Q E p s d h
    obtain ⟨r, s', hr, h⟩ := h
    obtain ⟨a, b⟩ := returns_und hr d
    exact ⟨r, _, a, ih r Q E p s' b h⟩
  | handled own k ih => intro Q E p s d h; exact ih _ Q E p s d h
  | genState g k ih =>
    intro Q E p s d h
    obtain ⟨st, hs, h⟩ := h
    obtain ⟨q1, q2⟩ := d.seen hs
    refine ⟨_, q1, ?_⟩
    rw [q2]
    exact ih _ Q E p s d h
  | newGen c k ih =>
    intro Q E p s d h
    obtain ⟨q1, q2⟩ := d.push c
    have := ih _ Q E p { s with gens := s.gens.push (.fresh c) } q1 h
    rw [Sem.wp_newGen, show (und' T s).gens.size = s.gens.size from und_size _ _]
    have e : und' T { s with gens := s.gens.push (.fresh c) } = { und' T s with gens := (und' T s).gens.push (.fresh c) } := by
      show ({ s with gens := und T (s.gens.push (.fresh c)) } : Shared) = _
      rw [q2]
    rw [e] at this
    exact this
  | resume g r _ k ih =>
    intro Q E p s d h
    obtain ⟨res, s', hw, h⟩ := h
    obtain ⟨a, b⟩ := wakes_und hw d
    exact ⟨res, _, a, ih res Q E p s' b h⟩
  | yield _ _ _ _ => intro Q E p s _ h; exact h
  | stack k ih => intro Q E p s d h; exact ih _ Q E p s d h
  | fork _ _ => intro Q E p s _ h; exact h
  | thread k ih => intro Q E p s d h; exact ih _ Q E p s d h
  | await _ _ _ _ _ => intro Q E p s _ h; exact h
def dulls (T : Array GenState) : Array GenState := T.map dull
theorem dulls_get (T : Array GenState) (i : Nat) : (dulls T)[i]? = (T[i]?).map dull := by simp [dulls]
theorem dulls_dl (T : Array GenState) : Dl T (dulls T) := ⟨fun i y h _ => by rw [dulls_get, h]; rfl, fun i k l c p fs cl h => by
  rw [dulls_get] at h
  cases e : T[i]? with
  | none => rw [e] at h; cases h
  | some y =>
    rw [e] at h
    refine .inr ⟨y, rfl, ?_⟩
    cases y <;> first | rfl | (cases h; done)⟩
theorem und_dulls (T : Array GenState) : und T (dulls T) = T := by
  refine Array.ext_getElem? fun i => ?_
  rw [und_get, dulls_get]
  cases e : T[i]? with
  | none => rfl
  | some y =>
    show some (pick T i (dull y)) = some y
    cases z : slp y with
    | true => rw [pick_slp e z]
    | false => rw [pick_not fun y' h => by rw [e] at h; cases h; exact z]; cases y <;> first | rfl | (cases z; done)
def Slps (T G : Array GenState) : Prop := ∀ (i : Nat) (y : GenState), T[i]? = some y → slp y = true → G[i]? = some y
theorem Slps.refl (T : Array GenState) : Slps T T := fun _ _ h _ => h
theorem Slps.trans {A B C : Array GenState} (a : Slps A B) (b : Slps B C) : Slps A C := fun i y h z => b i y (a i y h z) z
theorem slps_und {T G : Array GenState} (d : Dl T G) : Slps T (und T G) := fun i y h z => by
  rw [und_get, d.at' i y h z]
  exact congrArg some (pick_slp h z)
theorem wpAny_slps {α : Type} {M : Model} {A : Around} {s : Shared} {t : Sem α} {Q : α → Shared → Prop} {E : Value → Shared → Prop}
    (h : wpAny M A t (fun a s' => ∀ G, Slps s.gens G → (∀ x ∈ G, (∃ y ∈ s'.gens, y.bare = x.bare)) → (∀ i : Nat, s.gens.size ≤ i → G[i]? = s'.gens[i]?) → Q a { s' with gens := G })
      (fun e s' => ∀ G, Slps s.gens G → (∀ x ∈ G, (∃ y ∈ s'.gens, y.bare = x.bare)) → (∀ i : Nat, s.gens.size ≤ i → G[i]? = s'.gens[i]?) → E e { s' with gens := G }) { s with gens := dulls s.gens }) :
    wpAny M A t Q E s := fun Γ p hΓ => by
  have q := wp_und M Γ s.gens t _ _ p { s with gens := dulls s.gens } (dulls_dl _) (h Γ p hΓ)
  have e : und' s.gens { s with gens := dulls s.gens } = s := by
    show ({ s with gens := und s.gens (dulls s.gens) } : Shared) = s
    rw [und_dulls]
  rw [e] at q
  have br : ∀ s1 : Shared, Dl s.gens s1.gens → ∀ x ∈ und s.gens s1.gens, ∃ y ∈ s1.gens, y.bare = x.bare := fun s1 d x hx => by
    obtain ⟨i, hi, rfl⟩ := Array.mem_iff_getElem.mp hx
    have hi' : i < s1.gens.size := by rw [und_size] at hi; exact hi
    refine ⟨s1.gens[i], Array.getElem_mem hi', ?_⟩
    have h2 := und_get s.gens s1.gens i
    rw [Array.getElem?_eq_getElem hi, Array.getElem?_eq_getElem hi'] at h2
    injection h2 with h2
    rw [h2]
    unfold pick
    cases e : s.gens[i]? with
    | none => rfl
    | some y =>
      show _ = (if slp y = true then y else _).bare
      by_cases z : slp y = true
      · rw [if_pos z]
        have := d.at' i y e z
        rw [Array.getElem?_eq_getElem hi'] at this
        injection this with this
        rw [this, dull_bare]
      · rw [if_neg z]
  have nw : ∀ s1 : Shared, ∀ i : Nat, s.gens.size ≤ i → (und s.gens s1.gens)[i]? = s1.gens[i]? := fun s1 i hi => by
    rw [und_get]
    cases s1.gens[i]? with
    | none => rfl
    | some x => exact congrArg some (pick_not fun y hy => absurd (Array.getElem?_eq_some_iff.mp hy).1 (Nat.not_lt.mpr hi))
  exact Sem.wp_mono M Γ t (fun a p' s' ⟨s1, e1, d, hq⟩ => by rw [e1]; exact hq _ (slps_und d) (br s1 d) (nw s1)) (fun a p' s' ⟨s1, e1, d, hq⟩ => by rw [e1]; exact hq _ (slps_und d) (br s1 d) (nw s1)) p s q
/-! ### where some may be woken -/
def nog : GenState → Bool
  | .suspended _ _ _ _ fs _ => (splitAtGen fs).isNone
  | _ => true
def msk (B : List Nat) (T : Array GenState) : Array GenState := Array.ofFn (n := T.size) fun i => if i.1 ∈ B then .finished else T[i.1]
def dullB (B : List Nat) (T : Array GenState) : Array GenState := Array.ofFn (n := T.size) fun i => if i.1 ∈ B then T[i.1] else dull T[i.1]
theorem msk_get (B : List Nat) (T : Array GenState) (i : Nat) : (msk B T)[i]? = if i ∈ B then (T[i]?).map (fun _ => .finished) else T[i]? := by
  by_cases h : i < T.size
  · have h2 : i < (msk B T).size := by simp [msk, h]
    rw [Array.getElem?_eq_getElem h, Array.getElem?_eq_getElem h2]
    by_cases z : i ∈ B <;> simp [msk, z]
  · rw [Array.getElem?_eq_none (Nat.le_of_not_lt h), Array.getElem?_eq_none (by simp [msk]; exact Nat.le_of_not_lt h)]
    by_cases z : i ∈ B <;> simp [z]
theorem dullB_size (B : List Nat) (T : Array GenState) : (dullB B T).size = T.size := by simp [dullB]
theorem dullB_get (B : List Nat) (T : Array GenState) (i : Nat) : (dullB B T)[i]? = if i ∈ B then T[i]? else (T[i]?).map dull := by
  by_cases h : i < T.size
  · have h2 : i < (dullB B T).size := by simp [dullB, h]
    rw [Array.getElem?_eq_getElem h, Array.getElem?_eq_getElem h2]
    by_cases z : i ∈ B <;> simp [dullB, z]
  · rw [Array.getElem?_eq_none (Nat.le_of_not_lt h), Array.getElem?_eq_none (by simp [dullB]; exact Nat.le_of_not_lt h)]
    by_cases z : i ∈ B <;> simp [z]
theorem dullB_dl {B : List Nat} {T : Array GenState} (hB : ∀ i ∈ B, ∀ y, T[i]? = some y → nog y = true) : Dl (msk B T) (dullB B T) := ⟨fun i y h hy => by
  rw [msk_get] at h
  rw [dullB_get]
  by_cases z : i ∈ B
  · rw [if_pos z] at h
    cases e : T[i]? with
    | none => rw [e] at h; cases h
    | some x => rw [e] at h; cases h; cases hy
  · rw [if_neg z] at h
    rw [if_neg z, h]; rfl, fun i k l c p fs cl h => by
  rw [dullB_get] at h
  by_cases z : i ∈ B
  · rw [if_pos z] at h
    have q := hB i z _ h
    exact .inl (Option.isNone_iff_eq_none.mp q)
  · rw [if_neg z] at h
    cases e : T[i]? with
    | none => rw [e] at h; cases h
    | some y =>
      rw [e] at h
      refine .inr ⟨y, by rw [msk_get, if_neg z, e], ?_⟩
      cases y <;> first | rfl | (cases h; done)⟩
theorem und_dullB (B : List Nat) (T : Array GenState) : und (msk B T) (dullB B T) = T := by
  refine Array.ext_getElem? fun i => ?_
  rw [und_get, dullB_get]
  by_cases z : i ∈ B
  · rw [if_pos z]
    cases e : T[i]? with
    | none => rfl
    | some y =>
      refine congrArg some (pick_not fun y' h => ?_)
      rw [msk_get, if_pos z, e] at h
      cases h; rfl
  · rw [if_neg z]
    cases e : T[i]? with
    | none => rfl
    | some y =>
      have m : (msk B T)[i]? = some y := by rw [msk_get, if_neg z, e]
      show some (pick _ i (dull y)) = some y
      cases zz : slp y with
      | true => rw [pick_slp m zz]
      | false =>
        rw [pick_not fun y' h => by rw [m] at h; cases h; exact zz]
        cases y <;> first | rfl | (cases zz; done)
theorem wpAny_slpsB {α : Type} {M : Model} {A : Around} {s : Shared} {t : Sem α} {Q : α → Shared → Prop} {E : Value → Shared → Prop} {B : List Nat} (hB : ∀ i ∈ B, ∀ y, s.gens[i]? = some y → nog y = true)
    (h : wpAny M A t (fun a s' => ∀ G, (∀ i y, i ∉ B → s.gens[i]? = some y → slp y = true → G[i]? = some y) → (∀ x ∈ G, (∃ y ∈ s'.gens, y.bare = x.bare)) → (∀ i : Nat, (i ∈ B ∨ s.gens.size ≤ i) → G[i]? = s'.gens[i]?) → Q a { s' with gens := G })
      (fun e s' => ∀ G, (∀ i y, i ∉ B → s.gens[i]? = some y → slp y = true → G[i]? = some y) → (∀ x ∈ G, (∃ y ∈ s'.gens, y.bare = x.bare)) → (∀ i : Nat, (i ∈ B ∨ s.gens.size ≤ i) → G[i]? = s'.gens[i]?) → E e { s' with gens := G }) { s with gens := dullB B s.gens }) :
    wpAny M A t Q E s := fun Γ p hΓ => by
  have q := wp_und M Γ (msk B s.gens) t _ _ p { s with gens := dullB B s.gens } (dullB_dl hB) (h Γ p hΓ)
  have e : und' (msk B s.gens) { s with gens := dullB B s.gens } = s := by
    show ({ s with gens := und (msk B s.gens) (dullB B s.gens) } : Shared) = s
    rw [und_dullB]
  rw [e] at q
  have br : ∀ s1 : Shared, Dl (msk B s.gens) s1.gens → ∀ x ∈ und (msk B s.gens) s1.gens, ∃ y ∈ s1.gens, y.bare = x.bare := fun s1 d x hx => by
    obtain ⟨i, hi, rfl⟩ := Array.mem_iff_getElem.mp hx
    have hi' : i < s1.gens.size := by rw [und_size] at hi; exact hi
    refine ⟨s1.gens[i], Array.getElem_mem hi', ?_⟩
    have h2 := und_get (msk B s.gens) s1.gens i
    rw [Array.getElem?_eq_getElem hi, Array.getElem?_eq_getElem hi'] at h2
    injection h2 with h2
    rw [h2]
    unfold pick
    cases e : (msk B s.gens)[i]? with
    | none => rfl
    | some y =>
      show _ = (if slp y = true then y else _).bare
      by_cases z : slp y = true
      · rw [if_pos z]
        have := d.at' i y e z
        rw [Array.getElem?_eq_getElem hi'] at this
        injection this with this
        rw [this, dull_bare]
      · rw [if_neg z]
  have nw : ∀ s1 : Shared, ∀ i : Nat, (i ∈ B ∨ s.gens.size ≤ i) → (und (msk B s.gens) s1.gens)[i]? = s1.gens[i]? := fun s1 i hi => by
    rw [und_get]
    cases s1.gens[i]? with
    | none => rfl
    | some x =>
      refine congrArg some (pick_not fun y hy => ?_)
      rw [msk_get] at hy
      rcases hi with hi | hi
      · rw [if_pos hi] at hy
        cases e : s.gens[i]? with
        | none => rw [e] at hy; cases hy
        | some z => rw [e] at hy; cases hy; rfl
      · have e : s.gens[i]? = none := Array.getElem?_eq_none hi
        rw [e] at hy
        split at hy <;> cases hy
  have kp : ∀ s1 : Shared, Dl (msk B s.gens) s1.gens → ∀ i y, i ∉ B → s.gens[i]? = some y → slp y = true → (und (msk B s.gens) s1.gens)[i]? = some y := fun s1 d i y hi hy hz => slps_und d i y (by rw [msk_get, if_neg hi, hy]) hz
  exact Sem.wp_mono M Γ t (fun a p' s' ⟨s1, e1, d, hq⟩ => by rw [e1]; exact hq _ (kp s1 d) (br s1 d) (nw s1)) (fun a p' s' ⟨s1, e1, d, hq⟩ => by rw [e1]; exact hq _ (kp s1 d) (br s1 d) (nw s1)) p s q
end TwZ
/-! one stretch of a generator's run, from a waking to the next yield or to the end -/
namespace TwZ
open PySem PySem.Spec PyProof.Rows GenW
open Sem (wp)
def Sg (M : Model) (A : Around) (Φ : End → Shared → Prop) (c : Code) (t : Sem PySem.Fin) (fs : List Frame) (s : Shared) : Prop :=
  ∀ (Γ : PySem.Ctx) (p : Pos), Γ.code = c → Γ.Woken A → ∃ (e : End) (s2 : Shared), Runs M Γ p t fs s e s2 ∧ e.quiet = true ∧ Φ e s2
section
variable {M : Model} {A : Around} {Φ : End → Shared → Prop} {c : Code} {fs : List Frame} {s : Shared}
theorem sg_leaf {k : Result → Sem PySem.Fin} {hd : Option Value} {g : Bool} {l kp : List Value} {c1 : Code} {p1 : Pos} (r : Result) (h : Sg M A Φ c1 (k r) fs s) : Sg M A Φ c (leafOf r) (.ret k hd g l c1 p1 kp :: fs) s := by
  intro Γ p e hw
  subst e
  obtain ⟨e, s2, z, q⟩ := h (Γ.goto c1) p1 rfl (hw.goto c1)
  exact ⟨e, s2, Runs.pop r z, q⟩
theorem sg_again {c2 : Code} (hq : c2.quiet = true) (h : Sg M A Φ c2 (M.den c2) fs s) : Sg M A Φ c (.pure (.again c2)) fs s := by
  intro Γ p e hw
  subst e
  obtain ⟨e, s2, z, q⟩ := h (Γ.goto c2) p rfl (hw.goto c2)
  exact ⟨e, s2, Runs.head (c₁ := c2) (fun _ _ y => .again hq y) z, q⟩
end
def Goes (M : Model) (A : Around) (Φ : End → Shared → Prop) (gs : GenState) (s : Shared) : Prop :=
  match gs with
  | .fresh c => Sg M A Φ c (M.den c) [] s
  | .suspended k _ c _ fs _ => Sg M A Φ c (k (.send .none)) fs s
  | _ => False
theorem quiet_bare {e : End} (h : e.quiet = true) : e.genState.bare = true := End.bare_of_quiet h
theorem wake {M : Model} {A : Around} {Φ : End → Shared → Prop} {E : Value → Shared → Prop} {s : Shared} {g : Nat} {gs : GenState} {l : List Value} {α : Type} {k : GenResult → Sem α} {Q : α → Shared → Prop} (hg : s.gens[g]? = some gs)
    (hgo : Goes M A Φ gs (s.setGen g .running)) (h : ∀ e s1, e.quiet = true → Φ e s1 → wpAny M A (k e.result) Q E (s1.setGen g e.genState)) : wpAny M A (.resume g (.send .none) l k) Q E s := by
  intro Γ p hΓ
  rw [Sem.wp_resume]
  have hB : ∀ c, (Γ.wake c p).Woken A := fun c => hΓ.wake c p
  cases gs with
  | fresh c =>
    obtain ⟨e, s1, r, q, z⟩ := hgo (Γ.wake c p) p rfl (hB c)
    exact ⟨_, _, by unfold Wakes; rw [hg]; exact ⟨e, s1, r, q, rfl, rfl⟩, h e s1 q z Γ p hΓ⟩
  | suspended k2 l2 c p2 fs cl =>
    obtain ⟨e, s1, r, q, z⟩ := hgo (Γ.wake c p) p2 rfl (hB c)
    exact ⟨_, _, by unfold Wakes; rw [hg]; exact ⟨e, s1, r, q, rfl, rfl⟩, h e s1 q z Γ p hΓ⟩
  | running => exact hgo.elim
  | finished => exact hgo.elim
section
variable {P : Program} {w : World} {A : Around} {E : Value → Shared → Prop} {s : Shared}
theorem next_g {a : Addr} {g : Nat} {gs : GenState} {Φ : End → Shared → Prop} {Q : Option Value → Shared → Prop} (hh : A.handled = none) (hl : s.heap.NoLimit) (hroom : A.depth < recursionLimit) (hg : s.heap.IsGen a g) (hgs : s.gens[g]? = some gs)
    (hgo : Goes (model P w) A.in1 Φ gs (s.setGen g .running))
    (hY : ∀ v gd l k c p fs s1, Φ (.susp v gd l k c p fs) s1 → (End.susp v gd l k c p fs).genState.bare = true → Q (some v) (s1.setGen g (End.susp v gd l k c p fs).genState))
    (hR : ∀ r s1, Φ (.ret r) s1 → (r = .ok (.ret .none) ∨ r = .ok .next) ∧ ∀ h', (∀ b o, s1.heap.get? b = some o → h'.get? b = some o) → Q none { s1.setGen g .finished with heap := h' }) :
    wpAny (model P w) A (pyNext (.ref a)) Q E s := by
  unfold pyNext
  refine wpAny_bind (wpAny_attempt (wpAny_callSpecial?_slot (name := Str.ofString "__next__") hg.typeIs slot_gen_next (wpAny_call_entry slot_gen_next hg.typeIs entry_gen_next ?_ (args_gen_next _))))
  show wpAny _ A.in1 (Builtin.Generator.genWake (.ref a) (.send .none)) _ _ s
  unfold Builtin.Generator.genWake
  refine wpAny_bind (wpAny_holding (wpAny_genNumber hg (wpAny_bind (wpAny_genState hgs ?_))))
  cases gs with
  | running => exact hgo.elim
  | finished => exact hgo.elim
  | _ =>
    refine wpAny_bind (wpAny_roomToWake hl hroom ?_)
    show wpAny _ A.in1 (.resume g (.send .none) [] _) _ _ s
    refine wake hgs hgo fun e s1 hq hz => ?_
    cases e with
    | susp v gd l k c p fs => exact wpAny_pure ⟨v, rfl, wpAny_pure (hY v gd l k c p fs s1 hz (quiet_bare hq))⟩
    | ret r =>
      obtain ⟨hr, hp⟩ := hR r s1 hz
      have hres : End.result (.ret r) = .returned .none := by
        rcases hr with hr | hr <;> rw [hr] <;> rfl
      first | rw [hres] | simp only [hres]
      show wpAny _ A.in1 (newExc (.type "StopIteration") [] >>= _) _ _ _
      refine wpAny_bind ?_
      simp only [newExc, newTuple]
      refine wpAny_bind (wpAny_newObj_type ?_ (by size_fits))
      refine wpAny_bind (m := firstArgMember _ _) (wpAny_of_eq (a := Value.none) (by first | rfl | (simp only [firstArgMember]; rfl)) ?_)
      refine wpAny_newObj_type ?_ (by size_fits)
      simp only [raiseNew]
      refine wpAny_bind (wpAny_bind (wpAny_handled ?_))
      first | rw [show A.in1.handled = none from hh] | rw [hh]
      refine wpAny_throw ?_
      refine wpAny_bind (wpAny_isInstance (T := "StopIteration") (b := true) ⟨_, Heap.get?_push_size _ rfl, rfl⟩ isSubtype_stop ?_)
      exact wpAny_pure (hp _ fun b o hb => Heap.get?_push_of_some _ (Heap.get?_push_of_some _ hb))
end
/-! ### statements in a stretch -/
section
variable {M : Model} {A : Around} {Φ : End → Shared → Prop} {c : Code} {fs : List Frame} {s : Shared} {env : Env} {K : Flow → Sem PySem.Fin} {J : Value → Sem PySem.Fin} {gd : Bool → Bool} {lv : List Value → List Value}
end
section
variable {P : Program} {w : World} {A : Around} {Φ : End → Shared → Prop} {c : Code} {fs : List Frame} {s : Shared} {env : Env} {K : Flow → Sem PySem.Fin} {J : Value → Sem PySem.Fin} {gd : Bool → Bool} {lv : List Value → List Value}
abbrev lft (env : Env) (x : Value) : Sem PySem.Fin := (do noteFrame x env; theTreesLotGoes x : Sem Unit).wrap (fun _ => .raise x) .raise id id
abbrev trn (c : Code) (f : Flow) : Sem PySem.Fin := match f with
  | .next | .cont => .pure (.again c)
  | .brk => .pure (.done .next)
  | .ret v => .pure (.done (.ret v))
def itOf (iter : Expr) (env : Env) : Sem Value := eval iter env >>= fun v => standAt iter.pos >>= fun _ => holding [v] (pyIter v)
theorem sg_through {l kp : List Value} {g : Bool} {c1 : Code} {p1 : Pos} {k : Result → Sem PySem.Fin} (h : Sg (model P w) A Φ c1 (k (.ok .next)) fs s) :
    Sg (model P w) A Φ c (.pure (.again (.block [] env))) (.ret k none g l c1 p1 kp :: fs) s := by
  refine sg_again rfl ?_
  show Sg _ A Φ _ (Sem.bind _ _) _ s
  exact sg_leaf (.ok .next) h
end
end TwZ
/-! what a sleeping generator promises; who wakes it -/
namespace TwZ
open PySem L2 PySem.Spec PyProof.Rows GenW
structure Gt where
  pre : Nat → Hp → Hp → Prop
  yld : Nat → Hp → V → Hp → Prop
  fin : Nat → Hp → Hp → Prop
structure UnB (lo : Addr) (fs : List Addr) (H H' : Hp) (h h' : Heap) : Prop where
  keep : ∀ b o, b < lo → h.get? b = some o → H b = none → b ∉ fs → h'.get? b = some o
  slot : ∀ b o, b < lo → h.get? b = some o → H b = none → ∃ sl, h'.get? b = some { o with slots := sl }
  free : ∀ b o, b < lo → h.get? b = some o → H b = none → H' b = none
  there : ∀ b o, b < lo → h.get? b = some o → ∃ o', h'.get? b = some o'
  tups : ∀ b xs, H b = some (.tup xs) → H' b = some (.tup xs)
  frzs : ∀ b o u, H b = some (.frz o u) → H' b = some (.frz o u)
  tbls : ∀ b ps, H b = some (.tbl ps) → ∃ more, H' b = some (.tbl (ps ++ more))
structure Kpt (P : Program) (w : World) (lo : Addr) (fs : List Addr) (pn : List (Addr × Obj)) (H H' : Hp) (s s1 : Shared) : Prop where
  os : s1.os = s.os
  bare : AllBare s1.gens
  un : UnB lo fs H H' s.heap s1.heap
  hok : HOk P w H' s1.heap
  pins : ∀ p ∈ pn, s1.heap.get? p.1 = some p.2 ∧ H' p.1 = none
  gsz : s.gens.size ≤ s1.gens.size
structure Wkd (P : Program) (w : World) (base : Heap) (outer : List Env) (g : Nat) (ob : List (Addr × Obj)) (og : List (Nat × GenState)) (pn : List (Addr × Obj)) (H : Hp) (s : Shared) : Prop where
  hok : HOk P w H s.heap
  bare : AllBare s.gens
  bs : ∀ b o, base.get? b = some o → s.heap.get? b = some o ∧ H b = none
  funs : s.heap.FunFrames base outer
  frf : ∀ b ∈ frs outer, H b = none
  obs : ∀ p ∈ ob, s.heap.get? p.1 = some p.2 ∧ H p.1 = none
  ogs : ∀ q ∈ og, s.gens[q.1]? = some q.2
  pin : ∀ p ∈ pn, s.heap.get? p.1 = some p.2 ∧ H p.1 = none ∧ p.1 ∉ frs outer ∧ (∀ v, p.2.data ≠ .cell v) ∧ ∀ q ∈ ob, p.1 ≠ q.1
  gsz : g < s.gens.size
structure Own (lo : Addr) (a : Addr) (g : Nat) (H : Hp) (s : Shared) (ob : List (Addr × Obj)) (og : List (Nat × GenState)) : Prop where
  isgen : ∃ o nm qn, (a, o) ∈ ob ∧ o.cls = .type "generator" ∧ o.data = .fields #[.int g 0, nm, qn] ∧ o.slots = #[]
  obs : ∀ p ∈ ob, s.heap.get? p.1 = some p.2 ∧ H p.1 = none ∧ lo ≤ p.1 ∧ ∀ v, p.2.data ≠ .cell v
  ogs : ∀ q ∈ og, s.gens[q.1]? = some q.2 ∧ slp q.2 = true ∧ g < q.1 ∧ nog q.2 = true
structure Gp where
  P : Program
  w : World
  base : Heap
  A : Around
  outer : List Env
  lo : Addr
  a : Addr
  g : Nat
  J : Gt
structure Wk where
  H : Hp
  s : Shared
  pn : List (Addr × Obj)
  og : List Nat
def Asl (G : Gp) : Nat → Nat → Hp → List (Addr × Obj) → List (Nat × GenState) → GenState → Prop
  | 0 => fun _ _ _ _ _ => True
  | n + 1 => fun i Hs ob og gs => ∀ (H : Hp) (pn : List (Addr × Obj)) (s : Shared), Wkd G.P G.w G.base G.outer G.g ob og pn H s → G.J.pre i Hs H →
      Goes (model G.P G.w) G.A (fun e s1 => match e with
        | .ret r => (r = .ok (.ret .none) ∨ r = .ok .next) ∧ ∃ H', G.J.fin i H H' ∧ Kpt G.P G.w G.lo (frs G.outer) pn H H' s s1
        | .susp v gd l k c p fs => ∃ x H' ob' og', G.J.yld i H x H' ∧ RelV x v ∧ Kpt G.P G.w G.lo (frs G.outer) pn H H' s s1 ∧ Own G.lo G.a G.g H' s1 ob' og' ∧ (∀ p ∈ pn, ∀ q ∈ ob', p.1 ≠ q.1) ∧ (∀ q ∈ og', q.1 ∈ og.map (·.1) ∨ s.gens.size ≤ q.1) ∧ nog (End.susp v gd l k c p fs).genState = true ∧
            Asl G n (i + 1) H' ob' og' (End.susp v gd l k c p fs).genState) gs s
def Out (G : Gp) (n i : Nat) (W : Wk) (e : End) (s1 : Shared) : Prop := match e with
  | .ret r => (r = .ok (.ret .none) ∨ r = .ok .next) ∧ ∃ H', G.J.fin i W.H H' ∧ Kpt G.P G.w G.lo (frs G.outer) W.pn W.H H' W.s s1
  | .susp v gd l k c p fs => ∃ x H' ob' og', G.J.yld i W.H x H' ∧ RelV x v ∧ Kpt G.P G.w G.lo (frs G.outer) W.pn W.H H' W.s s1 ∧ Own G.lo G.a G.g H' s1 ob' og' ∧ (∀ p ∈ W.pn, ∀ q ∈ ob', p.1 ≠ q.1) ∧ (∀ q ∈ og', q.1 ∈ W.og ∨ W.s.gens.size ≤ q.1) ∧ nog (End.susp v gd l k c p fs).genState = true ∧
      Asl G n (i + 1) H' ob' og' (End.susp v gd l k c p fs).genState
theorem asl_succ {G : Gp} {n i : Nat} {Hs : Hp} {ob : List (Addr × Obj)} {og : List (Nat × GenState)} {gs : GenState} :
    Asl G (n + 1) i Hs ob og gs ↔ ∀ (H : Hp) (pn : List (Addr × Obj)) (s : Shared), Wkd G.P G.w G.base G.outer G.g ob og pn H s → G.J.pre i Hs H → Goes (model G.P G.w) G.A (Out G n i ⟨H, s, pn, og.map (·.1)⟩) gs s := Iff.rfl
/-! ### the waker's side -/
structure At (X : Cx) (pins : List (Addr × Obj)) (lo a : Addr) (g : Nat) (ob : List (Addr × Obj)) (og : List (Nat × GenState)) (gs : GenState) (H : Hp) (s : Shared) : Prop where
  own : Own lo a g H s ob og
  fp : ∀ p ∈ ob, FpOk X pins H p.1
  gen : s.gens[g]? = some gs
  nog : nog gs = true
structure Low (X : Cx) (lo : Addr) : Prop where
  sz : X.s_0.heap.objs.size ≤ lo
  loc : X.env.locals < lo
  cel : ∀ x c, X.env.cells.lookup x = some c → c < lo
theorem setGen_get (s : Shared) {g i : Nat} (x : GenState) (h : i ≠ g) : (s.setGen g x).gens[i]? = s.gens[i]? := by
  show (s.gens.setIfInBounds g x)[i]? = _
  rw [Array.getElem?_setIfInBounds_ne (Ne.symm h)]
theorem gsz_of {s : Shared} {g : Nat} {gs : GenState} (h : s.gens[g]? = some gs) : g < s.gens.size := (Array.getElem?_eq_some_iff.mp h).1
section
variable {X : Cx} {pins : List (Addr × Obj)} {σ : L2.St} {H H' : Hp} {s s1 : Shared} {lo a : Addr} {g : Nat} {ob : List (Addr × Obj)} {og : List (Nat × GenState)} {gs : GenState}
theorem inv_kpt (I : Inv X pins σ H s) (L : Low X lo) (k : Kpt X.prog X.w lo (frs X.stack) (X.pn ++ pins) H H' s s1) : Inv X pins σ H' s1 := by
  obtain ⟨h', g', d', t', os'⟩ := s1
  obtain ⟨kos, kb, ku, kok, kp, _⟩ := k
  have e : os' = s.os := kos
  subst e
  have low : ∀ b o, s.heap.get? b = some o → b ∉ (List.range s.heap.objs.size).filter (fun b => decide (lo ≤ b ∧ ∀ p ∈ X.pn ++ pins, p.1 ≠ b)) → b < lo ∨ ∃ p ∈ X.pn ++ pins, p.1 = b := fun b o e n => by
    by_cases z : b < lo
    · exact .inl z
    · refine .inr (Classical.byContradiction fun q => n ?_)
      exact List.mem_filter.mpr ⟨List.mem_range.mpr (Heap.lt_size e), decide_eq_true ⟨Nat.le_of_not_lt z, fun p hp y => q ⟨p, hp, y⟩⟩⟩
  have pinned : ∀ b o, s.heap.get? b = some o → (∃ p ∈ X.pn ++ pins, p.1 = b) → h'.get? b = some o ∧ H' b = none := fun b o e ⟨p, hp, y⟩ => by
    subst y
    obtain ⟨z1, _⟩ := I.pin p hp
    rw [e] at z1; cases z1
    exact kp p hp
  obtain ⟨m, ⟨oL, esL, epL, hoL, rL⟩, _⟩ := id I.loc
  obtain ⟨sl, hL⟩ := ku.slot X.env.locals oL L.loc hoL I.free
  refine I.step (g' := g') (t' := t') (d' := d') (ch := (List.range s.heap.objs.size).filter (fun b => decide (lo ≤ b ∧ ∀ p ∈ X.pn ++ pins, p.1 ≠ b))) (fun b hb => ?_) (fun b o hl hf hc e n => ?_) (fun b o hl hf hc e n => ?_) (fun b o hc e n => ?_) (fun b o hc e => ?_) ku.tups ku.frzs ku.tbls (fun m' hm => ?_) kok kb
  · have q := of_decide_eq_true (List.mem_filter.mp hb).2
    refine ⟨.inr (Nat.le_trans L.sz q.1), ?_, fun x c e z => ?_, q.2⟩
    · exact Nat.ne_of_gt (Nat.lt_of_lt_of_le L.loc q.1)
    · exact absurd (L.cel x c e) (Nat.not_lt.mpr (by rw [z]; exact q.1))
  · rcases low b o e hc with z | z
    · exact ku.keep b o z e n fun y => (List.mem_cons.mp (I.stkSub b y)).elim hl hf
    · exact (pinned b o e z).1
  · rcases low b o e hc with z | z
    · exact ku.slot b o z e n
    · exact ⟨o.slots, (pinned b o e z).1⟩
  · rcases low b o e hc with z | z
    · exact ku.free b o z e n
    · exact (pinned b o e z).2
  · rcases low b o e hc with z | z
    · exact ku.there b o z e
    · exact ⟨o, (pinned b o e z).1⟩
  · obtain ⟨o', es', ep', ho', r'⟩ := hm
    rw [hoL] at ho'; cases ho'
    exact ⟨_, es', ep', hL, r'⟩
theorem At.wkd (I : Inv X pins σ H s) (h : At X pins lo a g ob og gs H s) : Wkd X.prog X.w X.base X.stack g ob og (X.pn ++ pins) H (s.setGen g .running) where
  hok := I.hok
  bare := allBare_setGen I.bare rfl
  bs := I.bs
  funs := I.stack
  frf := I.stkFree
  obs := fun p hp => let ⟨a, b, _⟩ := h.own.obs p hp; ⟨a, b⟩
  ogs := fun q hq => by
    obtain ⟨a, _, c, _⟩ := h.own.ogs q hq
    rw [setGen_get _ _ (Nat.ne_of_gt c)]
    exact a
  pin := fun p hp => by
    obtain ⟨z1, z2, z3, z4, z5⟩ := I.pin p hp
    exact ⟨z1, z2, fun y => (List.mem_cons.mp (I.stkSub p.1 y)).elim z3 z4, z5, fun q hq => (h.fp q hq).2.2.2.2.2 p hp⟩
  gsz := by
    show g < (s.setGen g .running).gens.size
    rw [setGen_size]
    exact gsz_of h.gen
theorem next_zA {J : Gt} {Hs : Hp} {E : Value → Shared → Prop} {n i : Nat} {A : Around} (I : Inv X pins σ H s) (hh : A.handled = none) (hd : A.depth < recursionLimit) (L : Low X lo) (h : At X pins lo a g ob og gs H s)
    (hS : Asl ⟨X.prog, X.w, X.base, A.in1, X.stack, lo, a, g, J⟩ (n + 1) i Hs ob og gs) (hgs : slp gs = true ∨ ∃ c, gs = .fresh c) (hp : J.pre i Hs H) :
    wpAny (model X.prog X.w) A (pyNext (.ref a)) (fun r s1 => (∃ u x H' ob' og' gs', r = some u ∧ RelV x u ∧ J.yld i H x H' ∧ Inv X pins σ H' s1 ∧ At X pins lo a g ob' og' gs' H' s1 ∧ slp gs' = true ∧ (∀ q ∈ og', q.1 ∈ og.map (·.1) ∨ s.gens.size ≤ q.1) ∧ Asl ⟨X.prog, X.w, X.base, A.in1, X.stack, lo, a, g, J⟩ n (i + 1) H' ob' og' gs') ∨
      (r = none ∧ ∃ H', J.fin i H H' ∧ Inv X pins σ H' s1)) E s := by
  obtain ⟨o, nm, qn, hm, oc, od, osl⟩ := h.own.isgen
  have hgen : s.heap.IsGen a g := ⟨o, nm, qn, (h.own.obs _ hm).1, oc, od, osl⟩
  refine next_g (Φ := Out ⟨X.prog, X.w, X.base, A.in1, X.stack, lo, a, g, J⟩ n i ⟨H, s.setGen g .running, X.pn ++ pins, og.map (·.1)⟩) hh I.nolimit hd hgen h.gen (asl_succ.mp hS H _ _ (h.wkd I) hp) (fun v gd l k c p fs s1 z hb => ?_) (fun r s1 z => ?_)
  · obtain ⟨x, H', ob', og', y, rv, kp, ow, nw, nq, ng, sl⟩ := z
    have kp' : Kpt X.prog X.w lo (frs X.stack) (X.pn ++ pins) H H' s (s1.setGen g (End.susp v gd l k c p fs).genState) := ⟨kp.os, allBare_setGen kp.bare hb, kp.un, kp.hok, kp.pins, by
      have q := kp.gsz
      have q' : s.gens.size ≤ s1.gens.size := by rw [show (Wk.s ⟨H, s.setGen g .running, X.pn ++ pins, og.map (·.1)⟩).gens.size = s.gens.size from setGen_size s g .running] at q; exact q
      rw [setGen_size]; exact q'⟩
    have J1 := inv_kpt I L kp'
    have gl : g < s1.gens.size := by
      have q := kp.gsz
      rw [show (Wk.s ⟨H, s.setGen g .running, X.pn ++ pins, og.map (·.1)⟩).gens.size = s.gens.size from setGen_size s g .running] at q
      exact Nat.lt_of_lt_of_le (gsz_of h.gen) q
    refine .inl ⟨v, x, H', ob', og', _, rfl, rv, y, J1, ⟨⟨ow.isgen, ow.obs, fun q hq => ?_⟩, fun p hp => ?_, setGen_at gl, ng⟩, rfl, fun q hq => ?_, sl⟩
    · obtain ⟨a1, a2, a3, a4⟩ := ow.ogs q hq
      have a3' : g < q.1 := a3
      exact ⟨by rw [setGen_get _ _ (Nat.ne_of_gt a3')]; exact a1, a2, a3, a4⟩
    · obtain ⟨b1, b2, b3, b4⟩ := ow.obs p hp
      have b3' : lo ≤ p.1 := b3
      refine ⟨b2, Nat.ne_of_gt (Nat.lt_of_lt_of_le L.loc b3'), fun z => ?_, .inr (Nat.le_trans L.sz b3'), fun y c e z => ?_, fun q hq => nw q hq p hp⟩
      · obtain ⟨_, o2, ho2, _⟩ := I.ok.funs.mem z
        exact absurd (Heap.lt_size ho2) (Nat.not_lt.mpr (Nat.le_trans L.sz b3'))
      · exact absurd (L.cel y c e) (Nat.not_lt.mpr (by rw [z]; exact b3'))
    · have z := nq q hq
      rw [show (Wk.s ⟨H, s.setGen g .running, X.pn ++ pins, og.map (·.1)⟩).gens.size = s.gens.size from setGen_size s g .running] at z
      exact z
  · obtain ⟨hr, H', hf, kp⟩ := z
    refine ⟨hr, fun h' hk => .inr ⟨rfl, H', hf, ?_⟩⟩
    have kp' : Kpt X.prog X.w lo (frs X.stack) (X.pn ++ pins) H H' s (s1.setGen g .finished) := ⟨kp.os, allBare_setGen kp.bare rfl, kp.un, kp.hok, kp.pins, by
      have q := kp.gsz
      rw [show (Wk.s ⟨H, s.setGen g .running, X.pn ++ pins, og.map (·.1)⟩).gens.size = s.gens.size from setGen_size s g .running] at q
      rw [setGen_size]; exact q⟩
    exact (inv_kpt I L kp').kept (t' := s1.toks) hk
end
/-! ### code beside which generators sleep -/
theorem beside {α : Type} {M : Model} {A : Around} {s : Shared} {t : Sem α} {Q Q' : α → Shared → Prop} {E E' : Value → Shared → Prop} (h : wpAny M A t Q E { s with gens := dulls s.gens })
    (hQ : ∀ a s' G, Q a s' → Slps s.gens G → (AllBare s'.gens → AllBare G) → s.gens.size ≤ G.size → (∀ i : Nat, s.gens.size ≤ i → G[i]? = s'.gens[i]?) → Q' a { s' with gens := G })
    (hE : ∀ e s' G, E e s' → Slps s.gens G → (AllBare s'.gens → AllBare G) → s.gens.size ≤ G.size → (∀ i : Nat, s.gens.size ≤ i → G[i]? = s'.gens[i]?) → E' e { s' with gens := G }) : wpAny M A t Q' E' s := by
  refine wpAny_gsz (Nat.le_refl s.gens.size) (wpAny_slps ?_)
  refine wpAny_mono h (fun a s' q G hs hb hn hz => ?_) fun e s' q G hs hb hn hz => ?_
  · exact hQ a s' G q hs (fun ab y hy => by obtain ⟨z, hz, e⟩ := hb y hy; rw [← e]; exact ab z hz) hz hn
  · exact hE e s' G q hs (fun ab y hy => by obtain ⟨z, hz, e⟩ := hb y hy; rw [← e]; exact ab z hz) hz hn
theorem besideB {α : Type} {M : Model} {A : Around} {s : Shared} {t : Sem α} {Q Q' : α → Shared → Prop} {E E' : Value → Shared → Prop} {B : List Nat} (hB : ∀ i ∈ B, ∀ y, s.gens[i]? = some y → nog y = true) (h : wpAny M A t Q E { s with gens := dullB B s.gens })
    (hQ : ∀ a s' G, Q a s' → (∀ i y, i ∉ B → s.gens[i]? = some y → slp y = true → G[i]? = some y) → (AllBare s'.gens → AllBare G) → s.gens.size ≤ G.size → (∀ i : Nat, (i ∈ B ∨ s.gens.size ≤ i) → G[i]? = s'.gens[i]?) → Q' a { s' with gens := G })
    (hE : ∀ e s' G, E e s' → (∀ i y, i ∉ B → s.gens[i]? = some y → slp y = true → G[i]? = some y) → (AllBare s'.gens → AllBare G) → s.gens.size ≤ G.size → (∀ i : Nat, (i ∈ B ∨ s.gens.size ≤ i) → G[i]? = s'.gens[i]?) → E' e { s' with gens := G }) : wpAny M A t Q' E' s := by
  refine wpAny_gsz (Nat.le_refl s.gens.size) (wpAny_slpsB hB ?_)
  refine wpAny_mono h (fun a s' q G hs hb hn hz => ?_) fun e s' q G hs hb hn hz => ?_
  · exact hQ a s' G q hs (fun ab y hy => by obtain ⟨z, hz, e⟩ := hb y hy; rw [← e]; exact ab z hz) hz hn
  · exact hE e s' G q hs (fun ab y hy => by obtain ⟨z, hz, e⟩ := hb y hy; rw [← e]; exact ab z hz) hz hn
theorem dullB_bare {B : List Nat} {T : Array GenState} (h : AllBare T) : AllBare (dullB B T) := fun y hy => by
  obtain ⟨i, hi, rfl⟩ := Array.mem_iff_getElem.mp hy
  have e := dullB_get B T i
  rw [Array.getElem?_eq_getElem hi] at e
  cases q : T[i]? with
  | none =>
    rw [q] at e
    split at e <;> cases e
  | some x =>
    rw [q] at e
    split at e
    · injection e with e
      rw [e]; exact h x (Array.mem_of_getElem? q)
    · injection e with e
      rw [e, dull_bare]; exact h x (Array.mem_of_getElem? q)
theorem dulls_bare {T : Array GenState} (h : AllBare T) : AllBare (dulls T) := fun y hy => by
  obtain ⟨i, hi, rfl⟩ := Array.mem_iff_getElem.mp hy
  have e := dulls_get T i
  rw [Array.getElem?_eq_getElem hi] at e
  cases q : T[i]? with
  | none => rw [q] at e; cases e
  | some x =>
    rw [q] at e
    injection e with e
    rw [e, dull_bare]
    exact h x (Array.mem_of_getElem? q)
theorem inv_gens {X : Cx} {pins : List (Addr × Obj)} {σ : L2.St} {H : Hp} {s : Shared} {G : Array GenState} (I : Inv X pins σ H s) (h : AllBare G) : Inv X pins σ H { s with gens := G } :=
  ⟨I.ok, I.os, h, I.base, I.loc, I.cell, I.free, I.freeC, I.pin, I.hok, I.len⟩
end TwZ
/-! a generator's body -/
namespace TwZ
open PySem L2 PySem.Spec PyProof.Rows GenW
def cut (L : Addr) (s : Shared) : Shared := { s with heap := { s.heap with objs := s.heap.objs.extract 0 L } }
theorem cut_at {L b : Nat} {s : Shared} (h : b < L) : (cut L s).heap.objs[b]? = s.heap.objs[b]? := by
  show (s.heap.objs.extract 0 L)[b]? = s.heap.objs[b]?
  rw [Array.getElem?_extract]
  by_cases q : b < s.heap.objs.size
  · rw [if_pos (by omega), Nat.zero_add]
  · rw [if_neg (by omega), Array.getElem?_eq_none (by omega)]
theorem cut_get {L : Addr} {s : Shared} {b : Addr} (h : b < L) : (cut L s).heap.get? b = s.heap.get? b := by
  unfold Heap.get?
  rw [cut_at h]
theorem cut_size {L : Addr} {s : Shared} : (cut L s).heap.objs.size ≤ L := by
  show (s.heap.objs.extract 0 L).size ≤ L
  rw [Array.size_extract]; omega
theorem cut_size' {L : Addr} {s : Shared} (h : L ≤ s.heap.objs.size) : (cut L s).heap.objs.size = L := by
  show (s.heap.objs.extract 0 L).size = L
  have h' : (L : Nat) ≤ s.heap.objs.size := h
  rw [Array.size_extract]
  exact Nat.min_eq_left h'
theorem of_cut {L : Addr} {s : Shared} {b : Addr} {o : Obj} (h : (cut L s).heap.get? b = some o) : b < L ∧ s.heap.get? b = some o := by
  have q := Nat.lt_of_lt_of_le (Heap.lt_size h) cut_size
  exact ⟨q, (cut_get q) ▸ h⟩
abbrev re (X : Cx) (W : Wk) : Cx := { X with s_0 := cut X.env.locals W.s, H_0 := W.H, pn := W.pn }
structure Stc (X : Cx) (lo : Addr) : Prop where
  mod : Mod X.K X.mg X.base
  kind : X.env.scope.kind = .function
  glob : X.env.globals = mainGlobals
  blt : X.env.builtins = builtinsNs
  cel : X.env.cells = []
  nok : ∀ x, ¬ (X.env.kindOf x = some .cell ∨ X.env.kindOf x = some .free)
  hd : X.A.handled = none
  frames : X.A.frames = some X.stack
  stk : X.stack = X.env :: X.outer
  fr : X.env.frame = some X.env.locals
  ex : X.ex = []
  bsz : X.base.objs.size ≤ X.env.locals
  lo : lo ≤ X.env.locals
  calm : X.calm = true
  xe : ∀ e s, ¬ X.xe e s
abbrev gp (X : Cx) (A : Around) (lo a : Addr) (g : Nat) (J : Gt) : Gp := ⟨X.prog, X.w, X.base, A, X.outer, lo, a, g, J⟩
structure GI (X : Cx) (a : Addr) (g : Nat) (W : Wk) (ip : List (Addr × Obj)) (iq : List (Nat × GenState)) (σ : L2.St) (H : Hp) (s : Shared) : Prop where
  inv : Inv (re X W) ip σ H s
  isgen : ∃ o nm qn, (a, o) ∈ ip ∧ o.cls = .type "generator" ∧ o.data = .fields #[.int g 0, nm, qn] ∧ o.slots = #[]
  own : ∀ p ∈ ip, X.env.locals ≤ p.1
  apt : ∀ p ∈ W.pn, ∀ q ∈ ip, p.1 ≠ q.1
  gsz : W.s.gens.size ≤ s.gens.size
  gl : g < W.s.gens.size
  ll : X.env.locals ≤ W.s.heap.objs.size
  gen : ∀ q ∈ iq, s.gens[q.1]? = some q.2 ∧ slp q.2 = true ∧ g < q.1 ∧ nog q.2 = true
  new : ∀ q ∈ iq, q.1 ∈ W.og ∨ W.s.gens.size ≤ q.1
section
variable {X : Cx} {lo a : Addr} {g : Nat} {W : Wk} {ip : List (Addr × Obj)} {iq : List (Nat × GenState)} {σ : L2.St} {H : Hp} {s : Shared}
theorem GI.rest (S : Stc X lo) (I : GI X a g W ip iq σ H s) : ∃ oL, s.heap.get? X.env.locals = some oL ∧ Own lo a g H s ((X.env.locals, oL) :: ip) iq ∧ ∀ p ∈ W.pn, ∀ q ∈ (X.env.locals, oL) :: ip, p.1 ≠ q.1 := by
  obtain ⟨m, ⟨oL, es, ep, ho, hd, _⟩, _⟩ := id I.inv.loc
  have ho : s.heap.get? X.env.locals = some oL := ho
  refine ⟨oL, ho, ⟨?_, fun p hp => ?_, I.gen⟩, fun p hp q hq => ?_⟩
  · obtain ⟨o, nm, qn, h1, h2⟩ := I.isgen
    exact ⟨o, nm, qn, List.mem_cons_of_mem _ h1, h2⟩
  · rcases List.mem_cons.mp hp with e | hp
    · rw [e]
      exact ⟨ho, I.inv.free, S.lo, fun v z => by rw [hd] at z; cases z⟩
    · obtain ⟨z1, z2, _, _, z5⟩ := I.inv.pin p (List.mem_append_right _ hp)
      exact ⟨z1, z2, Nat.le_trans S.lo (I.own p hp), z5⟩
  · rcases List.mem_cons.mp hq with e | hq
    · rw [e]
      exact (I.inv.pin p (List.mem_append_left _ hp)).2.2.1
    · exact I.apt p hp q hq
structure Rst (X : Cx) (a : Addr) (g : Nat) (ip : List (Addr × Obj)) (iq : List (Nat × GenState)) (σ : L2.St) (oL : Obj) : Prop where
  loc : ∃ (m : Str → Option Value) (es : _) (ep : _), oL.data = .dict es ep ∧ StrKeys es ∧ (∀ nm, nsFind es nm = m nm) ∧ ∀ (i : Nat) (x : Str) (v : V), X.N[i]? = some x → σ[i]? = some (some v) → Vis X.env.scope x → ∃ u, RelV v u ∧ X.env.kindOf x = some .local ∧ m x = some u
  len : σ.length = X.N.length
  pin : ∀ p ∈ ip, p.1 ≠ X.env.locals ∧ p.1 ∉ X.fs ∧ ∀ v, p.2.data ≠ .cell v
  frl : ∀ b ∈ frs X.outer, b < X.env.locals
  isgen : ∃ o nm qn, (a, o) ∈ ip ∧ o.cls = .type "generator" ∧ o.data = .fields #[.int g 0, nm, qn] ∧ o.slots = #[]
  own : ∀ p ∈ ip, X.env.locals ≤ p.1
  gen : ∀ q ∈ iq, slp q.2 = true ∧ g < q.1 ∧ nog q.2 = true
theorem GI.rst (S : Stc X lo) {oL : Obj} (I : GI X a g W ip iq σ H s) (e : s.heap.get? X.env.locals = some oL) : Rst X a g ip iq σ oL := by
  have noC : ∀ x c, X.env.cells.lookup x = some c → False := fun x c h => by rw [S.cel] at h; cases h
  refine ⟨?_, I.inv.len, fun p hp => ?_, fun b hb => ?_, I.isgen, I.own, fun q hq => (I.gen q hq).2⟩
  · obtain ⟨m, ⟨o, es, ep, ho, r1, r2, r3⟩, hl⟩ := id I.inv.loc
    have ho : s.heap.get? X.env.locals = some o := ho
    rw [e] at ho; cases ho
    refine ⟨m, es, ep, r1, r2, r3, fun i x v e1 e2 e3 => ?_⟩
    obtain ⟨u, ru, lk⟩ := hl i x v e1 e2 e3
    rcases lk with ⟨l1, l2⟩ | ⟨k, c, h, _⟩
    · exact ⟨u, ru, l1, l2⟩
    · exact (noC x c h).elim
  · obtain ⟨_, _, z3, z4, z5⟩ := I.inv.pin p (List.mem_append_right _ hp)
    exact ⟨z3, z4, z5⟩
  · obtain ⟨_, o, ho, _⟩ := I.inv.ok.funs.mem hb
    exact Nat.lt_of_lt_of_le (Heap.lt_size ho) cut_size
theorem Rst.woken (S : Stc X lo) {W2 : Wk} {oL : Obj} (R : Rst X a g ip iq σ oL) (z : Wkd X.prog X.w X.base X.outer g ((X.env.locals, oL) :: ip) iq W2.pn W2.H W2.s) (eo : W2.og = iq.map (·.1)) : GI X a g W2 ip iq σ W2.H W2.s := by
  obtain ⟨eL, nL⟩ := z.obs (X.env.locals, oL) List.mem_cons_self
  have nx : ∀ b, b ∉ X.ex := fun b z => by rw [S.ex] at z; cases z
  have Llt : X.env.locals ≤ W2.s.heap.objs.size := Nat.le_of_lt (Heap.lt_size eL)
  have frl := R.frl
  have fun2 : ∀ (l : List Env), (∀ b ∈ frs l, b < X.env.locals) → W2.s.heap.FunFrames X.base l → (cut X.env.locals W2.s).heap.FunFrames X.base l := by
    intro l
    induction l with
    | nil => intro _ _; trivial
    | cons env r ih =>
      intro hs hl
      obtain ⟨hk, ⟨L, o, hf, hn, ho, hd⟩, hr⟩ := hl
      have hL : L < X.env.locals := hs L (by unfold frs; rw [List.filterMap_cons, hf]; exact List.mem_cons_self)
      exact ⟨hk, ⟨L, o, hf, hn, (cut_get hL).trans ho, hd⟩, ih (fun b hb => hs b (by unfold frs; rw [List.filterMap_cons, hf]; exact List.mem_cons_of_mem _ hb)) hr⟩
  have noC : ∀ x c, X.env.cells.lookup x = some c → False := fun x c h => by rw [S.cel] at h; cases h
  refine ⟨⟨⟨S.mod, S.kind, S.glob, S.blt, cut_size, fun x y c h _ => (noC x c h).elim, fun x h => (S.nok x h).elim, fun x c _ h => (noC x c h).elim, fun _ => S.hd, S.frames, .inr ⟨S.stk, S.fr⟩, fun b h => absurd h (nx b), fun b o e => ?_, ?_, fun b _ _ => nx b, fun b h => absurd h (nx b), fun2 X.outer frl z.funs, z.frf⟩,
    rfl, z.bare, ⟨fun b o e n _ _ => (of_cut e).2, fun b o e n _ _ => ⟨o.slots, (of_cut e).2⟩, fun _ _ _ n _ => n, fun b o e _ => ⟨o, (of_cut e).2⟩, fun _ _ q => q, fun _ _ _ q => q, fun b ps (q : W2.H b = some (.tbl ps)) => ⟨#[], by rw [q]; simp⟩⟩, ?_, fun x c h => (noC x c h).elim, nL, fun x c h => (noC x c h).elim, fun p hp => ?_, z.hok, R.len⟩, R.isgen, R.own, fun p hp q hq => ?_, Nat.le_refl _, z.gsz, Llt, fun q hq => ?_, fun q hq => .inl (by rw [eo]; exact List.mem_map.mpr ⟨q, hq, rfl⟩)⟩
  · have lb : b < X.env.locals := Nat.lt_of_lt_of_le (Heap.lt_size e) S.bsz
    exact ⟨(cut_get lb).trans (z.bs b o e).1, (z.bs b o e).2⟩
  · show _ ≤ (cut X.env.locals W2.s).heap.objs.size
    rw [cut_size' Llt]
    exact S.bsz
  · obtain ⟨m, es, ep, r1, r2, r3, hl⟩ := R.loc
    refine ⟨m, ⟨oL, es, ep, eL, r1, r2, r3⟩, fun i x v e1 e2 e3 => ?_⟩
    obtain ⟨u, ru, l1, l2⟩ := hl i x v e1 e2 e3
    exact ⟨u, ru, .inl ⟨l1, l2⟩⟩
  · rcases List.mem_append.mp hp with hp | hp
    · obtain ⟨z1, z2, z3, z4, z5⟩ := z.pin p hp
      exact ⟨z1, z2, z5 (X.env.locals, oL) List.mem_cons_self, z3, z4⟩
    · obtain ⟨z1, z2⟩ := z.obs p (List.mem_cons_of_mem _ hp)
      obtain ⟨z3, z4, z5⟩ := R.pin p hp
      exact ⟨z1, z2, z3, z4, z5⟩
  · exact (z.pin p hp).2.2.2.2 q (List.mem_cons_of_mem _ hq)
  · exact ⟨z.ogs q hq, R.gen q hq⟩
end
/-! ### judgements -/
structure GEz where
  nx : Nat → Hp → L2.St → Hp → Prop
  rt : Nat → Hp → V → Hp → Prop
  bk : Nat → Hp → L2.St → Hp → Prop := fun _ _ _ _ => False
  ct : Nat → Hp → L2.St → Hp → Prop := fun _ _ _ _ => False
abbrev TGz := GEz → Nat → Hp → L2.St → Hp → Prop
def GEz.at (D : GEz) (i : Nat) (Hw : Hp) : Ends := { nx := D.nx i Hw, rt := D.rt i Hw, bk := D.bk i Hw, ct := D.ct i Hw }
structure GCz (X : Cx) (A : Around) (c : Code) (fs : List Frame) (gd : Bool → Bool) : Prop where
  over : A.over c fs = X.A
  split : splitAtGen fs = none
  guard : fs.any Frame.guarded = false
  gd : gd false = false
section
variable {X : Cx} {J : Gt} {st : Stmt} {rest : List Stmt}
theorem GI.code {α : Type} {lo a : Addr} {g : Nat} {A : Around} {c : Code} {fs : List Frame} {gd : Bool → Bool} {W : Wk} {ip : List (Addr × Obj)} {iq : List (Nat × GenState)} {σ : L2.St} {H : Hp} {s : Shared} {m : Sem α} {Q Q' : α → Shared → Prop} {E' : Value → Shared → Prop}
    (S : Stc X lo) (g0 : GCz X A c fs gd) (I : GI X a g W ip iq σ H s) (h : ∀ G0, Inv (re X W) ip σ H { s with gens := G0 } → wpAny (model X.prog X.w) X.A m Q X.xe { s with gens := G0 })
    (hQ : ∀ b s' G, Q b s' → Slps s.gens G → (AllBare s'.gens → AllBare G) → s.gens.size ≤ G.size → (∀ i : Nat, s.gens.size ≤ i → G[i]? = s'.gens[i]?) → Q' b { s' with gens := G }) :
    wpAny (model X.prog X.w) (A.over c fs) m Q' E' s := by
  rw [g0.over]
  exact beside (h _ (inv_gens I.inv (dulls_bare I.inv.bare))) hQ fun e s' G q => absurd q (S.xe e s')
theorem GI.codeB {α : Type} {lo a : Addr} {g : Nat} {A : Around} {c : Code} {fs : List Frame} {gd : Bool → Bool} {W : Wk} {ip : List (Addr × Obj)} {iq : List (Nat × GenState)} {σ : L2.St} {H : Hp} {s : Shared} {m : Sem α} {Q Q' : α → Shared → Prop} {E' : Value → Shared → Prop} {B : List Nat}
    (S : Stc X lo) (g0 : GCz X A c fs gd) (I : GI X a g W ip iq σ H s) (hB : ∀ i ∈ B, ∀ y, s.gens[i]? = some y → nog y = true) (hq : ∀ q ∈ iq, q.1 ∉ B)
    (h : ∀ G0, (∀ i ∈ B, G0[i]? = s.gens[i]?) → G0.size = s.gens.size → Inv (re X W) ip σ H { s with gens := G0 } → wpAny (model X.prog X.w) X.A m Q X.xe { s with gens := G0 })
    (hQ : ∀ b s' G, Q b s' → (∀ q ∈ iq, G[q.1]? = some q.2) → (AllBare s'.gens → AllBare G) → s.gens.size ≤ G.size → (∀ i : Nat, (i ∈ B ∨ s.gens.size ≤ i) → G[i]? = s'.gens[i]?) → Q' b { s' with gens := G }) :
    wpAny (model X.prog X.w) (A.over c fs) m Q' E' s := by
  rw [g0.over]
  exact besideB hB (h _ (fun i hi => by rw [dullB_get, if_pos hi]) (dullB_size _ _) (inv_gens I.inv (dullB_bare I.inv.bare))) (fun b s' G q hs hb hz hn => hQ b s' G q (fun q' hq' => hs q'.1 q'.2 (hq q' hq') (I.gen q' hq').1 (I.gen q' hq').2.1) hb hz hn) fun e s' G q => absurd q (S.xe e s')
def tPl (t : TS) : TGz := fun D i Hw σ H => t (D.at i Hw) σ H
def tGzSeq (t u : TGz) : TGz := fun D i Hw σ H => t { D with nx := fun i2 Hw2 σ2 H2 => u D i2 Hw2 σ2 H2 } i Hw σ H
def tGzYield (J : Gt) (te : TE) : TGz := fun D i Hw σ H => te σ H fun x H1 => J.yld i Hw x H1 ∧ ∀ H2, J.pre (i + 1) H1 H2 → D.nx (i + 1) H2 σ H2
/-! ### loops -/
end
end TwZ
/-! loops over generators; a generator's loops -/
namespace TwZ
open PySem L2 PySem.Spec PyProof.Rows GenW
abbrev TIG := L2.St → Hp → (Gt → Hp → Prop) → Prop
def PGE (X : Cx) (pins : List (Addr × Obj)) (σ : L2.St) (R : Gt → Hp → Prop) (n0 : Nat) (u : Value) (s1 : Shared) : Prop :=
  ∃ (J : Gt) (H1 : Hp) (lo a : Addr) (g : Nat) (ob : List (Addr × Obj)) (c : Code), u = .ref a ∧ Inv X pins σ H1 s1 ∧ Low X lo ∧ At X pins lo a g ob [] (.fresh c) H1 s1 ∧ n0 ≤ g ∧ (∀ b, lo ≤ b → H1 b = none) ∧
    (∀ n, Asl ⟨X.prog, X.w, X.base, X.A.in1, X.stack, lo, a, g, J⟩ n 0 H1 ob [] (.fresh c)) ∧ R J H1
structure PIG (X : Cx) (e : Expr) (wg : TIG) : Prop where
  run : ∀ (pins : List (Addr × Obj)) (s : Shared) (σ : L2.St) (H : Hp) (R : Gt → Hp → Prop), Inv X pins σ H s → wg σ H R → wpAny (model X.prog X.w) X.A (eval e X.env) (PGE X pins σ R s.gens.size) X.xe s
section
variable {X : Cx} {pins : List (Addr × Obj)} {σ σ' : L2.St} {H H' : Hp} {s s' : Shared} {lo a : Addr} {g : Nat} {ob : List (Addr × Obj)} {og : List (Nat × GenState)} {gs : GenState} {G : Array GenState}
theorem At.isgen (h : At X pins lo a g ob og gs H s) : s.heap.IsGen a g := by
  obtain ⟨o, nm, qn, hm, oc, od, osl⟩ := h.own.isgen
  exact ⟨o, nm, qn, (h.own.obs _ hm).1, oc, od, osl⟩
theorem At.mem (h : At X pins lo a g ob og gs H s) : ∃ o, s.heap.get? a = some o ∧ o.cls = .type "generator" ∧ ∃ vs, o.data = .fields vs := by
  obtain ⟨o, nm, qn, ho, oc, od, _⟩ := h.isgen
  exact ⟨o, ho, oc, _, od⟩
theorem At.pin (I : Inv X pins σ H s) (h : At X pins lo a g ob og gs H s) : Inv X (pins ++ ob) σ H s := I.pins_of fun p hp => by
  rcases List.mem_append.mp hp with hp | hp
  · exact I.pin p (List.mem_append_right _ hp)
  · obtain ⟨z1, z2, _, z4⟩ := h.own.obs p hp
    obtain ⟨f0, f1, f2, _⟩ := h.fp p hp
    exact ⟨z1, z2, f1, f2, z4⟩
theorem At.on (h : At X pins lo a g ob og gs H s) (sl : slp gs = true) (J : Inv X (pins ++ ob) σ' H' s') (hs : Slps s.gens G) : At X pins lo a g ob og gs H' { s' with gens := G } := by
  have q : ∀ p ∈ ob, s'.heap.get? p.1 = some p.2 ∧ H' p.1 = none := fun p hp => let ⟨a, b, _⟩ := J.pin p (List.mem_append_right _ (List.mem_append_right _ hp)); ⟨a, b⟩
  refine ⟨⟨h.own.isgen, fun p hp => ?_, fun q hq => ?_⟩, fun p hp => ⟨(q p hp).2, (h.fp p hp).2⟩, hs g gs h.gen sl, h.nog⟩
  · obtain ⟨_, _, z3, z4⟩ := h.own.obs p hp
    exact ⟨(q p hp).1, (q p hp).2, z3, z4⟩
  · obtain ⟨z1, z2, z3⟩ := h.own.ogs q hq
    exact ⟨hs q.1 q.2 z1 z2, z2, z3⟩
end
/-! ### the waker's loop -/
def Mild (X : Cx) : Prop := ∀ e s G, X.xe e s → (AllBare s.gens → AllBare G) → X.xe e { s with gens := G }
/-! ### a generator's loops -/
section
variable {X : Cx} {J : Gt} {lo a : Addr} {g : Nat} {W : Wk} {ip : List (Addr × Obj)} {iq : List (Nat × GenState)} {σ : L2.St} {H : Hp} {s : Shared}
theorem GI.more {pl : List (Addr × Obj)} {ql : List (Nat × GenState)} (I : GI X a g W ip iq σ H s) (J2 : Inv (re X W) (ip ++ pl) σ H s) (h1 : ∀ p ∈ pl, X.env.locals ≤ p.1) (h2 : ∀ p ∈ W.pn, ∀ q ∈ pl, p.1 ≠ q.1)
    (h3 : ∀ q ∈ ql, s.gens[q.1]? = some q.2 ∧ slp q.2 = true ∧ g < q.1 ∧ nog q.2 = true) (h4 : ∀ q ∈ ql, q.1 ∈ W.og ∨ W.s.gens.size ≤ q.1) : GI X a g W (ip ++ pl) (iq ++ ql) σ H s := by
  obtain ⟨o, nm, qn, z1, z2⟩ := I.isgen
  exact ⟨J2, ⟨o, nm, qn, List.mem_append_left _ z1, z2⟩, fun p hp => (List.mem_append.mp hp).elim (I.own p) (h1 p), fun p hp q hq => (List.mem_append.mp hq).elim (I.apt p hp q) (h2 p hp q), I.gsz, I.gl, I.ll, fun q hq => (List.mem_append.mp hq).elim (I.gen q) (h3 q), fun q hq => (List.mem_append.mp hq).elim (I.new q) (h4 q)⟩
theorem GI.turns (S : Stc X lo) {pl : List (Addr × Obj)} {ql : List (Nat × GenState)} (I : GI X a g W (ip ++ pl) (iq ++ ql) σ H s) {p : Addr × Obj} (hp : p ∈ pl) (hd : ∀ q ∈ ip, q.1 ≠ p.1) : FpOk (re X W) ip H p.1 := by
  have hm : p ∈ ip ++ pl := List.mem_append_right _ hp
  obtain ⟨z1, z2, z3, z4, z5⟩ := I.inv.pin p (List.mem_append_right _ hm)
  refine ⟨z2, z3, z4, .inr (Nat.le_trans cut_size (I.own p hm)), fun x c e => ?_, fun q hq => ?_⟩
  · have e : X.env.cells.lookup x = some c := e
    rw [S.cel] at e; cases e
  · rcases List.mem_append.mp hq with hq | hq
    · exact I.apt q hq p hm
    · exact hd q hq
end
end TwZ
/-! a generator that walks a generator; generator defs -/
namespace TwZ
open PySem L2 PySem.Spec PyProof.Rows GenW
section
variable {X : Cx} {J : Gt}
end
end TwZ
/-! generator defs; calls of them -/
namespace TwZ
open PySem L2 PySem.Spec PyProof.Rows GenW
abbrev SpZ := List V → Hp → (Gt → Hp → Prop) → Prop
def GMz (P : Program) (w : World) (base : Heap) (k : Nat) (outer : List Env) (H : Hp) (s : Shared) (R : Gt → Hp → Prop) (u : Value) (s' : Shared) : Prop :=
  ∃ (J : Gt) (a : Addr) (g : Nat) (ob : List (Addr × Obj)) (c : Code), u = .ref a ∧ s'.os = s.os ∧ AllBare s'.gens ∧ (∀ b o, s.heap.get? b = some o → s'.heap.get? b = some o) ∧ s.gens.size ≤ g ∧ s'.gens[g]? = some (.fresh c) ∧ Own s.heap.objs.size a g H s' ob [] ∧
    (∀ n Aw, Room k Aw → Aw.frames = some outer → Asl ⟨P, w, base, Aw, outer, s.heap.objs.size, a, g, J⟩ n 0 H ob [] (.fresh c)) ∧ R J H
abbrev gcz (P : Program) (w : World) (K : PySem.W.Frag) (mg : Str → Option Value) (base : Heap) (N : List Str) (qual : Str) (scope : Scope) (f : Addr) (cd : Value) (A : Around) (outer : List Env) (s : Shared) (H : Hp) : Cx :=
  (cxOf (fun _ _ _ _ _ _ => False) P w K mg base N qual scope f cd A outer s H fun _ _ _ => False).nox
/-! ### calls -/
section
variable {X : Cx} {k : Nat} {f : Addr} {fd : FuncData} {ps : List Str} {sp : SpZ} {dvs : List V} {ds : List Value} {x : Str} {p pos : Pos} {e : Expr} {es : List Expr} {ta : TA}
end
end TwZ
/-! generator defs as the joins print them -/
namespace TwZ
open PySem L2 PySem.Spec PyProof.Rows GenW
def GFr (P : Program) (w : World) (K : PySem.W.Frag) (mg : Str → Option Value) (base : Heap) (k : Nat) (f : Addr) (sp : SpZ) : Prop :=
  ∀ (A : Around) (outer : List Env) (s : Shared) (H : Hp) (us : List Value) (vs : List V) (R : Gt → Hp → Prop), Room k A → Env0 P w K mg base A outer s H → Vals vs us → sp vs H R →
    codeAny (model P w) A (.call (.ref f) ⟨us, []⟩) (fun r s' => match r with | .ok (.ret u) => GMz P w base k outer H s R u s' | _ => False) s
theorem GFr.mono {P : Program} {w : World} {K : PySem.W.Frag} {mg : Str → Option Value} {base : Heap} {j k : Nat} {f : Addr} {sp : SpZ} (F : GFr P w K mg base j f sp) (h : j ≤ k) : GFr P w K mg base k f sp := fun A outer s H us vs R hr e0 rv hs =>
  codeAny_mono (F A outer s H us vs R (hr.mono h) e0 rv hs) fun r s' z => by
    cases r with
    | error e => exact z
    | ok fl =>
      cases fl with
      | ret u =>
        obtain ⟨J, a, g, ob, c, q1, q2, q3, q4, q5, q6, q7, q8, q9⟩ := z
        exact ⟨J, a, g, ob, c, q1, q2, q3, q4, q5, q6, q7, fun n Aw hw => q8 n Aw (hw.mono h), q9⟩
      | next => exact z
      | brk => exact z
      | cont => exact z
section
variable {X : Cx} {k : Nat} {f : Addr} {sp : SpZ} {x : Str} {p pos : Pos} {e : Expr} {es : List Expr} {ta : TA}
def tGenF (sp : SpZ) (t : TA) : TIG := fun σ H R => t σ H fun vs H1 => sp vs H1 R
end
end TwZ
namespace TwZ
open PySem L2
def frm : HO → Bool
  | .tup _ => true
  | .ins _ _ _ => true
  | .own _ => true
  | .met _ _ => true
  | .rng _ _ => true
  | .frz _ _ => true
  | _ => false
def Frm (H H' : Hp) : Prop := ∀ b u, H b = some u → frm u = true → H' b = some u
theorem Frm.refl (H : Hp) : Frm H H := fun _ _ h _ => h
theorem Frm.trans {H H1 H2 : Hp} (a : Frm H H1) (b : Frm H1 H2) : Frm H H2 := fun c u h z => b c u (a c u h z) z
theorem Frm.upd {H H1 : Hp} {p : Addr} {o u : HO} (a : Frm H H1) (hp : H1 p = some o) (h : frm o = false) : Frm H (upd H1 p u) := fun b v e z => by
  rw [upd_ne (fun y => by subst y; rw [a _ _ e z] at hp; cases hp; rw [h] at z; cases z)]
  exact a b v e z
theorem Frm.new {H H1 : Hp} {p : Addr} {u : HO} (a : Frm H H1) (hp : H1 p = none) : Frm H (L2.upd H1 p u) := fun b v e z => by
  rw [upd_ne (fun y => by subst y; rw [a _ _ e z] at hp; cases hp)]
  exact a b v e z
theorem gzfor_range {lo : Int} {n : Nat} {gt : TG} {tb : TGz} {D : GEz} {i : Nat} {Hw : Hp} {σ : L2.St} {H : Hp} (Pv : Nat → Nat → Hp → L2.St → Hp → Prop) (h0 : Pv 0 i Hw σ H)
    (hs : ∀ j i Hw σ H, j < n → Pv j i Hw σ H → gt (.int (lo + (j : Nat))) σ H fun σ2 H2 => tb { D with nx := Pv (j + 1), ct := Pv (j + 1), bk := D.nx } i Hw σ2 H2) (hd : ∀ i Hw σ H, Pv n i Hw σ H → D.nx i Hw σ H) :
    ∃ Y : Nat → Nat → Nat → Hp → L2.St → Hp → Prop, (∃ m, Y 0 m i Hw σ H) ∧ ∀ j m i Hw σ H, Y j m i Hw σ H →
      ((Itr lo n).stop j H ∧ D.nx i Hw σ H) ∨ ((Itr lo n).go j H ∧ ∃ Nx : Nat → Hp → L2.St → Hp → Prop, (∀ i' Hw' σ' H', Nx i' Hw' σ' H' → ∃ m', m' < m ∧ Y (j + 1) m' i' Hw' σ' H') ∧ ∀ x H', (Itr lo n).yld j H x H' → gt x σ H' fun σ2 H2 => tb { D with nx := Nx, ct := Nx, bk := D.nx } i Hw σ2 H2) := by
  refine ⟨fun j m i Hw σ H => m = n - j ∧ j ≤ n ∧ Pv j i Hw σ H, ⟨n, by simp, Nat.zero_le _, h0⟩, ?_⟩
  rintro j m i Hw σ H ⟨rfl, hj, hp⟩
  by_cases h : j < n
  · refine .inr ⟨h, Pv (j + 1), fun i' Hw' σ' H' z => ⟨n - (j + 1), by omega, rfl, h, z⟩, ?_⟩
    rintro x H' ⟨rfl, rfl⟩
    exact hs j i Hw σ H' h hp
  · have e : j = n := by omega
    subst e
    exact .inl ⟨Nat.le_refl _, hd i Hw σ H hp⟩
theorem seq_pl {a : TS} {u : TGz} {D : GEz} {i : Nat} {Hw : Hp} {σ : L2.St} {H : Hp} : tGzSeq (tPl a) u D i Hw σ H = a { nx := fun σ2 H2 => u D i Hw σ2 H2, rt := D.rt i Hw, bk := D.bk i Hw, ct := D.ct i Hw } σ H := rfl
end TwZ
/-! Tw: what stays while a generator sleeps -/
namespace Tw
open PySem PySem.Spec PyProof.Rows L2 TwM
open PySem.W (Frag)
section
variable {K : Frag} {H H' : Hp} {a : Addr}
theorem Same.frm (e : Same H H') : TwZ.Frm H H' := fun b u h _ => e b u h
theorem LvAt.frm {l : Lv} (h : LvAt K H a l) (e : TwZ.Frm H H') : LvAt K H' a l := ⟨h.ok, h.at_.elim fun dx q => ⟨dx, e _ _ q rfl⟩⟩
theorem WhAt.frm {W : List Lv} (h : WhAt K H a W) (e : TwZ.Frm H H') : WhAt K H' a W := by
  obtain ⟨ok, dx, t, as, h1, h2, h3, h4⟩ := h
  exact ⟨ok, dx, t, as, e _ _ h1 rfl, e _ _ h2 rfl, h3, fun i c q => (h4 i c q).frm e⟩
theorem BkAt.frm {B : Bk} (h : BkAt K H a B) (e : TwZ.Frm H H') : BkAt K H' a B := by
  obtain ⟨ok, dx, t, h1, h2⟩ := h
  exact ⟨ok, dx, t, e _ _ h1 rfl, e _ _ h2 rfl⟩
end
def OPr (H : Hp) (v : V) (o : Option (Int × Int)) : Prop := match o with
  | none => v = .non
  | some (a, b) => ∃ p, v = .ref p ∧ H p = some (.tup [.int a, .int b])
theorem OPr.same {H H' : Hp} {v : V} {o : Option (Int × Int)} (h : OPr H v o) (s : Same H H') : OPr H' v o := by
  cases o with
  | none => exact h
  | some p =>
    obtain ⟨q, e, h⟩ := h
    exact ⟨q, e, s _ _ h⟩
theorem seqM {a b : TS} {D : Ends} {σ : L2.St} {H : Hp} (I : L2.St → Hp → Prop) (h1 : ∀ R : L2.St → Hp → Prop, (∀ σ' H', I σ' H' → R σ' H') → a { D with nx := R } σ H) (h2 : ∀ σ' H', I σ' H' → b D σ' H') : tSeq a b D σ H := h1 _ h2
def ForRg (n : Nat) (g : TG) (tb : TS) (D : Ends) (σ : L2.St) (H : Hp) : Prop := tFor (fun σ H R => R (Itr 0 n) H) g tb D σ H
def Hid (p : Prop) : Prop := p
end Tw
/-! Tw: beats of lumps of one length, all modes -/
namespace Tw
open PySem PySem.Spec PyProof.Rows L2 He TwM StX
open PySem.W (Frag)
local macro_rules | `(tactic| walk_at "rsj") => `(tactic| simp only [*, at3_0, at3_1, at3_2, at2_0, at2_1, updS, upd_two, gSub, rSetL, updN, and_assoc, not_true_eq_false, not_false_eq_true, tNever, List.length_map, tFld, rIxTH, rIxLH, rLenTH, rLenLH, lk1, lfs_g, lfs_s, lfs_p, HO.ins.injEq, HO.tup.injEq, HO.lst.injEq, sp_Book_rounding, sp_Book_action, sp_Book_order, sp_Book_due, sp_Book_zero, sp_Book_beyond, Int.toNat_natCast, sp_visit_after, sp_is_visited, sp_Level_grain, sp_Level_slots, sp_Level_span, sp_Wheel_reach, sp_Wheel___len__, sp_is_integer, sp_is_count, sp_is_within, sp_rounded, tSeq, tAsg, gName, tVar, tC, tOp, rI, rI0, rU, tUn, oAdd, oSub, oMul, oDiv, oMod, oNeg, oLt, oLe, oGt, oGe, oIsN, oNotN, tFn, tCons, tNil, tIfS, tIf, tTest, tB, tNot, tAnd, tOr, tAndV, tOrV, tNotV,
    tRet, tRetN, tNext, tCB, tDrop, tChain, rEq, rNe, oMax2, oMin2, oInt1, rLenF, L2.start, List.map_cons, List.map_nil, List.length_cons, List.length_nil, List.replicate_succ, List.replicate_zero, List.cons_append, List.nil_append, Nat.reduceAdd, Nat.reduceSub, Nat.zero_add,
    List.set_cons_zero, List.set_cons_succ, List.getElem?_cons_zero, List.getElem?_cons_succ, Option.some.injEq, V.int.injEq, V.ref.injEq, V.str.injEq, V.bl.injEq, exists_eq_left', exists_eq_left, exists_and_left, List.cons.injEq, and_true, true_and, decide_eq_true_eq, sc_ii, sc_ss, sc_bb, sc_ni, sc_in, sc_nn, sc_is, reduceCtorEq,
    Bool.not_eq_true', decide_eq_false_iff_not, if_true, if_false, Bool.false_eq_true, exists_eq', exists_const, false_and, and_false, or_false, false_or, exists_false, Bool.not_not, Bool.not_true, Bool.not_false, sUp_up, sFire_fire, sHigh_high, sPut_put, sZone_now, sBey_refuse, sBey_cut, tTup, tLst, sz0, sz1, sz2, sz3, sz4, sz5, sz6])
section
variable {K : Frag} {w : World}
def endOf (start len t : Int) : Int := start - (start - t) / len * len
def nxL (mode : Str) (start len : Int) : Lv → Int → Int → Option Int → Prop := fun l pt tick o =>
  if mode = "last" then ∃ k, FH tick len (pt * l.g) (l.g * l.s) k ∧ o = k.map fun k => tick + k * len else o = some (endOf start len (va l pt tick))
def bfL (mode : Str) (len t : Int) : Int := if mode = "last" then t - 1 else t - len
end
end Tw
/-! Tw: draws of starts, delays, lengths -/
namespace Tw
open PySem PySem.Spec PyProof.Rows L2 He TwM StX
open PySem.W (Frag)
local macro_rules | `(tactic| walk_at "rsk") => `(tactic| simp only [*, at3_0, at3_1, at3_2, at2_0, at2_1, updS, upd_two, gSub, rSetL, updN, rCat, tPar, tPar3, and_assoc, not_true_eq_false, not_false_eq_true, tNever, List.length_map, tFld, rIxTH, rIxLH, rLenTH, rLenLH, lk1, lfs_g, lfs_s, lfs_p, HO.ins.injEq, HO.tup.injEq, HO.lst.injEq, sp_Book_rounding, sp_Book_action, sp_Book_order, sp_Book_due, sp_Book_zero, sp_Book_beyond, Int.toNat_natCast, sp_visit_after, sp_is_visited, sp_Level_grain, sp_Level_slots, sp_Level_span, sp_Wheel_reach, sp_Wheel___len__, sp_is_integer, sp_is_count, sp_is_within, sp_rounded, tSeq, tAsg, gName, tVar, tC, tOp, rI, rI0, rU, tUn, oAdd, oSub, oMul, oDiv, oMod, oNeg, oLt, oLe, oGt, oGe, oIsN, oNotN, tFn, tCons, tNil, tIfS, tIf, tTest, tB, tNot, tAnd, tOr, tAndV, tOrV, tNotV,
    tRet, tRetN, tNext, tCB, tDrop, tChain, rEq, rNe, oMax2, oMin2, oInt1, rLenF, L2.start, List.map_cons, List.map_nil, List.length_cons, List.length_nil, List.replicate_succ, List.replicate_zero, List.cons_append, List.nil_append, Nat.reduceAdd, Nat.reduceSub, Nat.zero_add,
    List.set_cons_zero, List.set_cons_succ, List.getElem?_cons_zero, List.getElem?_cons_succ, Option.some.injEq, V.int.injEq, V.ref.injEq, V.str.injEq, V.bl.injEq, exists_eq_left', exists_eq_left, exists_and_left, List.cons.injEq, and_true, true_and, decide_eq_true_eq, sc_ii, sc_ss, sc_bb, sc_ni, sc_in, sc_nn, sc_is, reduceCtorEq,
    Bool.not_eq_true', decide_eq_false_iff_not, if_true, if_false, Bool.false_eq_true, exists_eq', exists_const, false_and, and_false, or_false, false_or, exists_false, Bool.not_not, Bool.not_true, Bool.not_false, sUp_up, sFire_fire, sHigh_high, sPut_put, sZone_now, sBey_refuse, sBey_cut, tTup, tLst, sz0, sz1, sz2, sz3, sz4, sz5, sz6])
local macro_rules | `(tactic| walk_at "rsl") => `(tactic| simp only [*, at3_0, at3_1, at3_2, at2_0, at2_1, updS, upd_two, gSub, rSetL, updN, tPar, tPar3, and_assoc, not_true_eq_false, not_false_eq_true, tNever, List.length_map, tFld, rIxTH, rIxLH, rLenTH, rLenLH, lk1, lfs_g, lfs_s, lfs_p, HO.ins.injEq, HO.tup.injEq, HO.lst.injEq, sp_Book_rounding, sp_Book_action, sp_Book_order, sp_Book_due, sp_Book_zero, sp_Book_beyond, Int.toNat_natCast, sp_visit_after, sp_is_visited, sp_Level_grain, sp_Level_slots, sp_Level_span, sp_Wheel_reach, sp_Wheel___len__, sp_is_integer, sp_is_count, sp_is_within, sp_rounded, tAsg, gName, tVar, tC, tOp, rI, rI0, rU, tUn, oAdd, oSub, oMul, oDiv, oMod, oNeg, oLt, oLe, oGt, oGe, oIsN, oNotN, tFn, tCons, tNil, tIfS, tIf, tTest, tB, tNot, tAnd, tOr, tAndV, tOrV, tNotV,
    tRet, tRetN, tNext, tCB, tDrop, tChain, rEq, rNe, oMax2, oMin2, oInt1, rLenF, L2.start, List.map_cons, List.map_nil, List.length_cons, List.length_nil, List.replicate_succ, List.replicate_zero, List.cons_append, List.nil_append, Nat.reduceAdd, Nat.reduceSub, Nat.zero_add,
    List.set_cons_zero, List.set_cons_succ, List.getElem?_cons_zero, List.getElem?_cons_succ, Option.some.injEq, V.int.injEq, V.ref.injEq, V.str.injEq, V.bl.injEq, exists_eq_left', exists_eq_left, exists_and_left, List.cons.injEq, and_true, true_and, decide_eq_true_eq, sc_ii, sc_ss, sc_bb, sc_ni, sc_in, sc_nn, sc_is, reduceCtorEq,
    Bool.not_eq_true', decide_eq_false_iff_not, if_true, if_false, Bool.false_eq_true, exists_eq', exists_const, false_and, and_false, or_false, false_or, exists_false, Bool.not_not, Bool.not_true, Bool.not_false, sUp_up, sFire_fire, sHigh_high, sPut_put, sZone_now, sBey_refuse, sBey_cut, tTup, tLst, sz0, sz1, sz2, sz3, sz4, sz5, sz6])
local macro_rules | `(tactic| walk_at "st") => `(tactic| ((try dsimp only); rw [seq1]; walk_at "rsl"))
section
variable {K : Frag} {w : World}
theorem RowsAt.ends {H : Hp} {r : Addr} {W : List Lv} (h : RowsAt H r W) (hp : 0 < W.length) : ∃ xs t0 tl, H r = some (.lst xs) ∧ atI xs 0 = some (.ref t0) ∧ atI xs (-1) = some (.ref tl) ∧
    H t0 = some (.tup [.int (lv W 0).g, .int (lv W 0).s, .int (lv W 0).p]) ∧ H tl = some (.tup [.int (lv W (W.length - 1)).g, .int (lv W (W.length - 1)).s, .int (lv W (W.length - 1)).p]) := by
  obtain ⟨ts, ha, hb, hc⟩ := h
  obtain ⟨t0, ht0⟩ : ∃ t, ts[0]? = some t := ⟨ts[0]'(by omega), List.getElem?_eq_getElem (by omega)⟩
  obtain ⟨tl, htl⟩ : ∃ t, ts[W.length - 1]? = some t := ⟨ts[W.length - 1]'(by omega), List.getElem?_eq_getElem (by omega)⟩
  exact ⟨_, t0, tl, ha, atI_nat (j := 0) (by rw [List.getElem?_map, ht0]; rfl), atI_m1 (by rw [List.getLast?_eq_getElem?, List.length_map, hb, List.getElem?_map, htl]; rfl), hc _ _ ht0, hc _ _ htl⟩
end
end Tw
/-! Tw: for .. in range(..) at bounds of any size -/
namespace Tw
open PySem PySem.Spec PyProof.Rows L2
structure RgW (i j c : Int) (n : Nat) : Prop where
  pos : 0 < c
  wid : c.natAbs.log2 < 9000
  many : Builtin.Range.rangeSize i j c = n
theorem RgW.one (i j : Int) : RgW i j 1 (j - i).toNat := ⟨by decide, by decide +kernel, rangeSize_nat i j⟩
section
variable {X : Cx} {tg : Expr} {ta : TA} {p pos : Pos}
end
end Tw
/-! Tw: find_lost, whatever it finds -/
namespace Tw
open PySem PySem.Spec PyProof.Rows L2 He TwM StX
open PySem.W (Frag)
local macro_rules | `(tactic| walk_at "rsl") => `(tactic| simp only [*, at3_0, at3_1, at3_2, at2_0, at2_1, updS, upd_two, gSub, rSetL, updN, tPar, tPar3, and_assoc, not_true_eq_false, not_false_eq_true, tNever, List.length_map, tFld, rIxTH, rIxLH, rLenTH, rLenLH, lk1, lfs_g, lfs_s, lfs_p, HO.ins.injEq, HO.tup.injEq, HO.lst.injEq, sp_Book_rounding, sp_Book_action, sp_Book_order, sp_Book_due, sp_Book_zero, sp_Book_beyond, Int.toNat_natCast, sp_visit_after, sp_is_visited, sp_Level_grain, sp_Level_slots, sp_Level_span, sp_Wheel_reach, sp_Wheel___len__, sp_is_integer, sp_is_count, sp_is_within, sp_rounded, tAsg, gName, tVar, tC, tOp, rI, rI0, rU, tUn, oAdd, oSub, oMul, oDiv, oMod, oNeg, oLt, oLe, oGt, oGe, oIsN, oNotN, tFn, tCons, tNil, tIfS, tIf, tTest, tB, tNot, tAnd, tOr, tAndV, tOrV, tNotV,
    tRet, tRetN, tNext, tCB, tDrop, tChain, rEq, rNe, oMax2, oMin2, oInt1, rLenF, L2.start, List.map_cons, List.map_nil, List.length_cons, List.length_nil, List.replicate_succ, List.replicate_zero, List.cons_append, List.nil_append, Nat.reduceAdd, Nat.reduceSub, Nat.zero_add,
    List.set_cons_zero, List.set_cons_succ, List.getElem?_cons_zero, List.getElem?_cons_succ, Option.some.injEq, V.int.injEq, V.ref.injEq, V.str.injEq, V.bl.injEq, exists_eq_left', exists_eq_left, exists_and_left, List.cons.injEq, and_true, true_and, decide_eq_true_eq, sc_ii, sc_ss, sc_bb, sc_ni, sc_in, sc_nn, sc_is, reduceCtorEq,
    Bool.not_eq_true', decide_eq_false_iff_not, if_true, if_false, Bool.false_eq_true, exists_eq', exists_const, false_and, and_false, or_false, false_or, exists_false, Bool.not_not, Bool.not_true, Bool.not_false, sUp_up, sFire_fire, sHigh_high, sPut_put, sZone_now, sBey_refuse, sBey_cut, tTup, tLst, sz0, sz1, sz2, sz3, sz4, sz5, sz6])
local macro_rules | `(tactic| walk_at "st") => `(tactic| ((try dsimp only); rw [seq1]; walk_at "rsl"))
section
variable {K : Frag} {w : World}
def turns (W : List Lv) : List Int := W.map fun l => l.g * l.s
def BeatTo (W : List Lv) (B : Bk) (len s d : Int) (o : Option Int) : Prop := (placeM W B s d = none ∧ o = some s) ∨ ∃ sp, placeM W B s d = some sp ∧ Beats W B (nxL "last" s len) (bfL "last" len) sp s o
def Fires (W : List Lv) (B : Bk) (len s d : Int) : Prop := ∃ t, BeatTo W B len s d (some t)
theorem size_mul {len m : Int} (h1 : 1 ≤ len) (h0 : 0 < m) : ∀ j : Nat, (j : Int) * len < m ↔ j < (Builtin.Range.rangeSize 0 m len).toNat := by
  intro j
  rw [PyProof.Rows.rangeSize_pos h1 (Int.le_of_lt h0)]
  have e : 0 ≤ (m + len - 1) / len := Int.ediv_nonneg (by omega) (by omega)
  constructor
  · intro h
    have : (j : Int) + 1 ≤ (m + len - 1) / len := (Int.le_ediv_iff_mul_le (by omega)).mpr (by rw [Int.add_mul]; omega)
    omega
  · intro h
    have : (j : Int) + 1 ≤ (m + len - 1) / len := by omega
    have := (Int.le_ediv_iff_mul_le (by omega)).mp this
    rw [Int.add_mul] at this
    omega
end
end Tw
/-! Tw: texts of spots and of tuples of numbers -/
namespace Tw
open PySem PySem.Spec PyProof.Rows L2 He TwM StX
open PySem.W (Frag)
section
variable {K : Frag} {H : Hp}
theorem lg {x : Int} (h0 : 0 ≤ x) (h : x ≤ 2 ^ 250) : x.natAbs.log2 < 251 := PySem.Flt.log2_lt_of (k := 251) (by decide) (by
  have e : (2 : Int) ^ 250 = ((2 ^ 250 : Nat) : Int) := by norm_cast
  have : x.natAbs ≤ 2 ^ 250 := by omega
  exact Nat.lt_of_le_of_lt this (by decide +kernel))
theorem shown_ints_all : ∀ l : List Int, (∀ x ∈ l, x.natAbs.log2 < 1920) → PyData.showableAll (l.map PyData.int) = true
  | [], _ => rfl
  | x :: l, h => by
    rw [List.map_cons]
    show (PyData.showable (.int x) && PyData.showableAll (l.map PyData.int)) = true
    rw [shown_ints_all l fun y hy => h y (List.mem_cons_of_mem _ hy), Bool.and_true]
    exact decide_eq_true (h x (List.mem_cons_self ..))
theorem hasDict_ints : ∀ l : List Int, PyData.hasDictAll (l.map PyData.int) = false
  | [] => rfl
  | x :: l => by
    rw [List.map_cons]
    show (PyData.hasDict (.int x) || PyData.hasDictAll (l.map PyData.int)) = false
    rw [hasDict_ints l]
    rfl
theorem piled_ints : ∀ l : List Int, (∀ x ∈ l, x.natAbs.log2 < 1920) → piled (PyData.shownAll (l.map PyData.int)) ≤ 1923 * l.length
  | [], _ => Nat.le_refl _
  | x :: l, h => by
    have ih := piled_ints l fun y hy => h y (List.mem_cons_of_mem _ hy)
    have h1 := int_text_length_le (k := 1920) (by decide) (h x (List.mem_cons_self ..))
    rw [List.map_cons]
    show piled (Str.ofString (toString x) :: PyData.shownAll (l.map PyData.int)) ≤ _
    rw [piled_cons, PySem.ofString_length, List.length_cons]
    omega
theorem repr_ints {v : V} {l : List Int} {Q : VK} (hd : Dp K H v (.tuple (l.map PyData.int))) (hl : l.length ≤ 8000) (hb : ∀ x ∈ l, x.natAbs.log2 < 1920) (q : Q (.str (PyData.tuple (l.map PyData.int)).shown) H) : rReprG K [v] H Q := by
  refine ⟨v, _, rfl, hd, shown_ints_all l hb, hasDict_ints l, ?_, ?_, q⟩
  · have := depth_ints l
    show PyData.depthAll (l.map PyData.int) + 1 ≤ 16
    omega
  · have h1 := piled_ints l hb
    have h2 := fmt_text (PyData.shownAll (l.map PyData.int))
    have h3 : sizeLine = 16777216 := rfl
    show (tupleText (PyData.shownAll (l.map PyData.int))).length ≤ sizeLine
    omega
theorem repr_spot {v : V} {o : Option Spot} {Q : VK} (h : OSp H v o) (hb : ∀ sp, o = some sp → SpB (2 ^ 250) sp ∧ sp.lv < 100) (q : Q (.str (dSp o).shown) H) : rReprG K [v] H Q := by
  cases o with
  | none => exact ⟨v, .none, rfl, h.dp, rfl, rfl, Nat.zero_le _, by decide +kernel, q⟩
  | some sp =>
    obtain ⟨b, hl⟩ := hb sp rfl
    refine repr_ints (l := [(sp.lv : Int), sp.pt, sp.due]) h.dp (show 3 ≤ 8000 by decide) (fun x hx => ?_) q
    have b1 := lg b.p0 b.p1
    have b2 := lg b.d0 b.d1
    have b3 := lg (x := (sp.lv : Int)) (by omega) (by
      have : (100 : Int) ≤ 2 ^ 250 := by decide +kernel
      omega)
    simp only [List.mem_cons, List.not_mem_nil, or_false] at hx
    rcases hx with rfl | rfl | rfl <;> omega
end
end Tw
/-! Tw: the program's plans -/
namespace Tw
open PySem PySem.Spec PyProof.Rows L2 He TwM StX
open PySem.W (Frag)
local macro_rules | `(tactic| walk_at "rsl") => `(tactic| simp only [*, at3_0, at3_1, at3_2, at2_0, at2_1, updS, upd_two, gSub, rSetL, updN, tPar, tPar3, gTup, gCons, gNil, and_assoc, not_true_eq_false, not_false_eq_true, tNever, List.length_map, tFld, rIxTH, rIxLH, rLenTH, rLenLH, lk1, lfs_g, lfs_s, lfs_p, HO.ins.injEq, HO.tup.injEq, HO.lst.injEq, sp_Book_rounding, sp_Book_action, sp_Book_order, sp_Book_due, sp_Book_zero, sp_Book_beyond, Int.toNat_natCast, sp_visit_after, sp_is_visited, sp_Level_grain, sp_Level_slots, sp_Level_span, sp_Wheel_reach, sp_Wheel___len__, sp_is_integer, sp_is_count, sp_is_within, sp_rounded, tAsg, gName, tVar, tC, tOp, rI, rI0, rU, tUn, oAdd, oSub, oMul, oDiv, oMod, oNeg, oLt, oLe, oGt, oGe, oIsN, oNotN, tFn, tCons, tNil, tIfS, tIf, tTest, tB, tNot, tAnd, tOr, tAndV, tOrV, tNotV,
    tRet, tRetN, tNext, tCB, tDrop, tChain, rEq, rNe, oMax2, oMin2, oInt1, rLenF, L2.start, List.map_cons, List.map_nil, List.length_cons, List.length_nil, List.replicate_succ, List.replicate_zero, List.cons_append, List.nil_append, Nat.reduceAdd, Nat.reduceSub, Nat.zero_add,
    List.set_cons_zero, List.set_cons_succ, List.getElem?_cons_zero, List.getElem?_cons_succ, Option.some.injEq, V.int.injEq, V.ref.injEq, V.str.injEq, V.bl.injEq, exists_eq_left', exists_eq_left, exists_and_left, List.cons.injEq, and_true, true_and, decide_eq_true_eq, sc_ii, sc_ss, sc_bb, sc_ni, sc_in, sc_nn, sc_is, reduceCtorEq,
    Bool.not_eq_true', decide_eq_false_iff_not, if_true, if_false, Bool.false_eq_true, exists_eq', exists_const, false_and, and_false, or_false, false_or, exists_false, Bool.not_not, Bool.not_true, Bool.not_false, sUp_up, sFire_fire, sHigh_high, sPut_put, sZone_now, sBey_refuse, sBey_cut, tTup, tLst, sz0, sz1, sz2, sz3, sz4, sz5, sz6])
local macro_rules | `(tactic| walk_at "st") => `(tactic| ((try dsimp only); rw [seq1]; walk_at "rsl"))
structure Kp (K : Frag) (w : World) : Prop where
  kf : Kf K w
  iW : IsiC K (ga K "Wheel")
  kW : PySem.W.kitOne K (.ref (ga K "Wheel")) (.ref (ga K "Wheel")) = some true
  iB : IsiC K (ga K "Book")
  kB : PySem.W.kitOne K (.ref (ga K "Book")) (.ref (ga K "Book")) = some true
  cP : Cls K (ga K "Plan")
  nPw : NoAttr K (ga K "Plan") "kept_wheel"
  nPb : NoAttr K (ga K "Plan") "kept_book"
  iP : IsiC K (ga K "Plan")
  kP : PySem.W.kitOne K (.ref (ga K "Plan")) (.ref (ga K "Plan")) = some true
structure PlAt (K : Frag) (H : Hp) (a : Addr) (W : List Lv) (B : Bk) : Prop where
  at_ : ∃ dx aw ab, H a = some (.ins (ga K "Plan") dx [("kept_wheel", .ref aw), ("kept_book", .ref ab)]) ∧ WhAt K H aw W ∧ BkAt K H ab B
section
variable {K : Frag} {w : World}
theorem PlAt.same {H H' : Hp} {a : Addr} {W : List Lv} {B : Bk} (h : PlAt K H a W B) (s : Same H H') : PlAt K H' a W B := by
  obtain ⟨dx, aw, ab, h1, h2, h3⟩ := h
  exact ⟨dx, aw, ab, s _ _ h1, h2.same s, h3.same s⟩
theorem PlAt.ok {H : Hp} {a : Addr} {W : List Lv} {B : Bk} (h : PlAt K H a W B) : WOk W ∧ B.bey < 3 := by
  obtain ⟨dx, aw, ab, h1, h2, h3⟩ := h
  exact ⟨h2.ok, h3.ok⟩
theorem off_ne {H : Hp} {x b C dx : Addr} {o : HO} (hx : H x = some (.ins C dx [])) (hb : H b = some o) (h : ∀ C' dx', o ≠ .ins C' dx' []) : b ≠ x := fun z => by
  rw [z, hx] at hb
  exact h _ _ (Option.some.inj hb).symm
theorem LvAt.off {H H' : Hp} {x a C dx : Addr} {l : Lv} (h : LvAt K H a l) (hx : H x = some (.ins C dx [])) (s : SameX x H H') : LvAt K H' a l := by
  obtain ⟨o, d, e⟩ := h
  exact ⟨o, d, s _ _ (off_ne hx e fun C' dx' z => by injection z with _ _ z3; unfold lfs at z3; cases z3) e⟩
theorem WhAt.off {H H' : Hp} {x a C dx : Addr} {W : List Lv} (h : WhAt K H a W) (hx : H x = some (.ins C dx [])) (s : SameX x H H') : WhAt K H' a W := by
  obtain ⟨ok, d, t, as, h1, h2, h3, h4⟩ := h
  exact ⟨ok, d, t, as, s _ _ (off_ne hx h1 fun C' dx' z => by injection z with _ _ z3; cases z3) h1, s _ _ (off_ne hx h2 fun C' dx' z => by cases z) h2, h3, fun i c q => (h4 i c q).off hx s⟩
theorem BkAt.off {H H' : Hp} {x a C dx : Addr} {B : Bk} (h : BkAt K H a B) (hx : H x = some (.ins C dx [])) (s : SameX x H H') : BkAt K H' a B := by
  obtain ⟨ok, d, t, h1, h2⟩ := h
  exact ⟨ok, d, t, s _ _ (off_ne hx h1 fun C' dx' z => by injection z with _ _ z3; cases z3) h1, s _ _ (off_ne hx h2 fun C' dx' z => by cases z) h2⟩
def PtAt (K : Frag) (W1 W2 : List Lv) (H : Hp) (t : Addr) (x : Part) : Prop := ∃ c1 c2, H t = some (.tup [.ref c1, .ref c2, .int x.lo, .int x.hi]) ∧ LvAt K H c1 (lv W1 x.i) ∧ LvAt K H c2 (lv W2 x.j)
theorem PtAt.same {W1 W2 : List Lv} {H H' : Hp} {t : Addr} {x : Part} (h : PtAt K W1 W2 H t x) (s : Same H H') : PtAt K W1 W2 H' t x := by
  obtain ⟨c1, c2, h1, h2, h3⟩ := h
  exact ⟨c1, c2, s _ _ h1, h2.same s, h3.same s⟩
def sp_find_in_part (K : Frag) : Sp := fun vs H Q _ => ∃ (a1 a2 t : Addr) (later : Bool), vs = [.ref a1, .ref a2, .ref t, .bl later] ∧ ∃ W1 B1 W2 B2 x m, PlAt K H a1 W1 B1 ∧ PlAt K H a2 W2 B2 ∧ x ∈ cparts W1 W2 ∧ PtAt K W1 W2 H t x ∧ IsL (lv W1 x.i).g (lv W2 x.j).g m ∧
  ∀ o v H', Same H H' → PartIs W1 B1 W2 B2 later x m o → OPr H' v o → Q v H'
def PtsAt (K : Frag) (W1 W2 : List Lv) (H : Hp) (p : Addr) (L : List Part) : Prop := ∃ ts : List Addr, H p = some (.lst (ts.map V.ref)) ∧ ts.length = L.length ∧ ∀ (k : Nat) (t : Addr) (x : Part), ts[k]? = some t → L[k]? = some x → PtAt K W1 W2 H t x
theorem PtsAt.same {W1 W2 : List Lv} {H H' : Hp} {p : Addr} {L : List Part} (h : PtsAt K W1 W2 H p L) (s : Same H H') : PtsAt K W1 W2 H' p L := by
  obtain ⟨ts, h1, h2, h3⟩ := h
  exact ⟨ts, s _ _ h1, h2, fun k t x a b => (h3 k t x a b).same s⟩
end
end Tw
/-! Tw: shares as they stand in the heap -/
namespace Tw
open PySem PySem.Spec PyProof.Rows L2 He TwM StX
open PySem.W (Frag)
local macro_rules | `(tactic| walk_at "rsl") => `(tactic| simp only [*, at3_0, at3_1, at3_2, at2_0, at2_1, updS, upd_two, gSub, rSetL, updN, tPar, tPar3, gTup, gCons, gNil, and_assoc, not_true_eq_false, not_false_eq_true, tNever, List.length_map, tFld, rIxTH, rIxLH, rLenTH, rLenLH, lk1, lfs_g, lfs_s, lfs_p, HO.ins.injEq, HO.tup.injEq, HO.lst.injEq, sp_Book_rounding, sp_Book_action, sp_Book_order, sp_Book_due, sp_Book_zero, sp_Book_beyond, Int.toNat_natCast, sp_visit_after, sp_is_visited, sp_Level_grain, sp_Level_slots, sp_Level_span, sp_Wheel_reach, sp_Wheel___len__, sp_is_integer, sp_is_count, sp_is_within, sp_rounded, tAsg, gName, tVar, tC, tOp, rI, rI0, rU, tUn, oAdd, oSub, oMul, oDiv, oMod, oNeg, oLt, oLe, oGt, oGe, oIsN, oNotN, tFn, tCons, tNil, tIfS, tIf, tTest, tB, tNot, tAnd, tOr, tAndV, tOrV, tNotV,
    tRet, tRetN, tNext, tCB, tDrop, tChain, rEq, rNe, oMax2, oMin2, oInt1, rLenF, L2.start, List.map_cons, List.map_nil, List.length_cons, List.length_nil, List.replicate_succ, List.replicate_zero, List.cons_append, List.nil_append, Nat.reduceAdd, Nat.reduceSub, Nat.zero_add,
    List.set_cons_zero, List.set_cons_succ, List.getElem?_cons_zero, List.getElem?_cons_succ, Option.some.injEq, V.int.injEq, V.ref.injEq, V.str.injEq, V.bl.injEq, exists_eq_left', exists_eq_left, exists_and_left, List.cons.injEq, and_true, true_and, decide_eq_true_eq, sc_ii, sc_ss, sc_bb, sc_ni, sc_in, sc_nn, sc_is, reduceCtorEq,
    Bool.not_eq_true', decide_eq_false_iff_not, if_true, if_false, Bool.false_eq_true, exists_eq', exists_const, false_and, and_false, or_false, false_or, exists_false, Bool.not_not, Bool.not_true, Bool.not_false, sUp_up, sFire_fire, sHigh_high, sPut_put, sZone_now, sBey_refuse, sBey_cut, tTup, tLst, sz0, sz1, sz2, sz3, sz4, sz5, sz6])
local macro_rules | `(tactic| walk_at "st") => `(tactic| ((try dsimp only); rw [seq1]; walk_at "rsl"))
structure Ks (K : Frag) (w : World) : Prop where
  cS : Cls K (ga K "Share")
  nSt : NoAttr K (ga K "Share") "kept_top"
  nSb : NoAttr K (ga K "Share") "kept_bottom"
  iS : IsiC K (ga K "Share")
  kSS : PySem.W.kitOne K (.ref (ga K "Share")) (.ref (ga K "Share")) = some true
  kSi : PySem.W.kitOne K (.ref (ga K "Share")) (.type "int") = some false
  kiS : PySem.W.kitOne K (.type "int") (.ref (ga K "Share")) = some false
  kiT : PySem.W.kitAny K (.type "int") [.type "int", .ref (ga K "Share")] = some true
def ShAt (K : Frag) (H : Hp) (a : Addr) (u lo : Int) : Prop := ∃ dx, H a = some (.ins (ga K "Share") dx [("kept_top", .int u), ("kept_bottom", .int lo)])
def PartAt (K : Frag) (H : Hp) (v : V) (u lo : Int) : Prop := (lo = 1 ∧ v = .int u) ∨ ∃ s, v = .ref s ∧ ShAt K H s u lo
section
variable {K : Frag} {w : World}
theorem ShAt.same {H H' : Hp} {a : Addr} {u lo : Int} (h : ShAt K H a u lo) (s : Same H H') : ShAt K H' a u lo := h.elim fun dx e => ⟨dx, s _ _ e⟩
theorem PartAt.same {H H' : Hp} {v : V} {u lo : Int} (h : PartAt K H v u lo) (s : Same H H') : PartAt K H' v u lo := by
  rcases h with h | ⟨a, e, h⟩
  · exact .inl h
  · exact .inr ⟨a, e, h.same s⟩
theorem isi_share {H : Hp} {a dx : Addr} {fs : List (Str × V)} {Q : VK} (T : Ks K w) (h : H a = some (.ins (ga K "Share") dx fs)) (q : Q (.bl true) H) : rIsi K [.ref a, .ref (ga K "Share")] H Q :=
  ⟨.ref a, _, _, _, true, rfl, .own _, .base (.ins h T.cS T.iS.ca T.iS.cn T.iS.ct T.iS.cm), T.kSS, q⟩
theorem isi_share_int {H : Hp} {a dx : Addr} {fs : List (Str × V)} {Q : VK} (T : Ks K w) (h : H a = some (.ins (ga K "Share") dx fs)) (q : Q (.bl false) H) : rIsi K [.ref a, .ty "int"] H Q :=
  ⟨.ref a, _, _, _, false, rfl, .ty _, .base (.ins h T.cS T.iS.ca T.iS.cn T.iS.ct T.iS.cm), T.kSi, q⟩
theorem isi_int_share {H : Hp} {i : Int} {Q : VK} (T : Ks K w) (q : Q (.bl false) H) : rIsi K [.int i, .ref (ga K "Share")] H Q :=
  ⟨.int i, _, _, _, false, rfl, .own _, .base (.int i), T.kiS, q⟩
def sp_is_integerS (K : Frag) : Sp := fun vs H Q _ => ∃ v, vs = [v] ∧ ((∃ i : Int, v = .int i ∧ Q (.bl true) H) ∨ (∃ a dx fs, v = .ref a ∧ H a = some (.ins (ga K "Share") dx fs) ∧ Q (.bl false) H))
def sp_Share_top (K : Frag) : Sp := fun vs H Q _ => ∃ a u lo, vs = [.ref a] ∧ ShAt K H a u lo ∧ Q (.int u) H
theorem in_Share_top (K : Frag) : InsAt (ga K "Share") (sp_Share_top K) := fun vs H Q E ⟨a, u, lo, e, ⟨dx, h⟩, _⟩ => ⟨a, dx, _, [], e, h⟩
def t_Share_top (K : Frag) (w : World) : TS :=
  (tRet (tFld K (tVar 0) "kept_top"))
def n_Share_top : List Str := ["self"]
theorem rd_Share_top (T : Ks K w) (vs : List V) (H : Hp) (Q : VK) (E : XK) (h : sp_Share_top K vs H Q E) : t_Share_top K w { nx := fun _ H' => Q .non H', rt := Q } (L2.start n_Share_top vs) H := by
  obtain ⟨a, u, lo, rfl, ⟨dx, h⟩, q⟩ := h
  exact ⟨_, rfl, a, _, dx, _, _, rfl, h, T.cS, T.nSt, lk1 _ _ _, q⟩
def sp_Share_bottom (K : Frag) : Sp := fun vs H Q _ => ∃ a u lo, vs = [.ref a] ∧ ShAt K H a u lo ∧ Q (.int lo) H
theorem in_Share_bottom (K : Frag) : InsAt (ga K "Share") (sp_Share_bottom K) := fun vs H Q E ⟨a, u, lo, e, ⟨dx, h⟩, _⟩ => ⟨a, dx, _, [], e, h⟩
theorem sh_bot (u lo : V) : ([("kept_top", u), ("kept_bottom", lo)] : List (Str × V)).lookup ("kept_bottom" : Str) = some lo := by
  rw [lk2 _ _ _ _ (by decide +kernel), lk1]
def t_Share_bottom (K : Frag) (w : World) : TS :=
  (tRet (tFld K (tVar 0) "kept_bottom"))
def n_Share_bottom : List Str := ["self"]
theorem rd_Share_bottom (T : Ks K w) (vs : List V) (H : Hp) (Q : VK) (E : XK) (h : sp_Share_bottom K vs H Q E) : t_Share_bottom K w { nx := fun _ H' => Q .non H', rt := Q } (L2.start n_Share_bottom vs) H := by
  obtain ⟨a, u, lo, rfl, ⟨dx, h⟩, q⟩ := h
  exact ⟨_, rfl, a, _, dx, _, _, rfl, h, T.cS, T.nSb, sh_bot .., q⟩
end
end Tw
/-! Tw: fractions in lowest terms -/
namespace Tw
open TwM
theorem isG_gcd {u lo g : Int} (h : IsG u lo g) : g = (lo.gcd u : Int) := by
  obtain ⟨h1, h2⟩ := h
  have a1 : g ∣ (lo.gcd u : Int) := Int.dvd_coe_gcd ((h2 g).mpr (Int.dvd_refl g)).2 ((h2 g).mpr (Int.dvd_refl g)).1
  have a2 : (lo.gcd u : Int) ∣ g := (h2 _).mp ⟨Int.gcd_dvd_right _ _, Int.gcd_dvd_left _ _⟩
  exact Int.dvd_antisymm (by omega) (by omega) a1 a2
theorem sgn_cases {lo : Int} (h : lo ≠ 0) : (0 < lo ∧ lo.sign = 1) ∨ (lo < 0 ∧ lo.sign = -1) := by
  rcases Int.lt_or_gt_of_ne h with z | z
  · exact .inr ⟨z, Int.sign_eq_neg_one_of_neg z⟩
  · exact .inl ⟨z, Int.sign_eq_one_of_pos z⟩
theorem fdiv_neg_exact {g x : Int} (h : 0 < g) : (g * x).fdiv (-g) = -x := by
  rw [show g * x = -g * (-x) by rw [Int.neg_mul_neg]]
  exact Int.mul_fdiv_cancel_left _ (by omega)
theorem dv_rat {u lo g : Int} (h0 : lo ≠ 0) (hg : IsG u lo g) : ∃ u' l' : Int, u = g * u' ∧ lo = g * l' ∧ 0 < g ∧ (Rat.divInt u lo).num = lo.sign * u' ∧ ((Rat.divInt u lo).den : Int) = lo.sign * l' := by
  have e := isG_gcd hg
  obtain ⟨u', hu⟩ := ((hg.2 g).mpr (Int.dvd_refl g)).1
  obtain ⟨l', hl⟩ := ((hg.2 g).mpr (Int.dvd_refl g)).2
  refine ⟨u', l', hu, hl, hg.1, ?_, ?_⟩
  · rw [Rat.num_divInt, ← e, hu, Int.mul_left_comm, Int.mul_ediv_cancel_left _ (by have := hg.1; omega)]
  · rw [Rat.den_divInt, if_neg h0, Int.natCast_ediv, ← e]
    have hs : (lo.natAbs : Int) = g * (lo.sign * l') := by
      rcases sgn_cases h0 with ⟨z, s⟩ | ⟨z, s⟩
      · rw [s, Int.one_mul, ← hl]; omega
      · rw [s, Int.neg_one_mul, Int.mul_neg, ← hl]; omega
    rw [hs, Int.mul_ediv_cancel_left _ (by have := hg.1; omega)]
theorem top_at {u lo g : Int} (h0 : lo ≠ 0) (hg : IsG u lo g) : u.fdiv (if lo < 0 then -g else g) = (Rat.divInt u lo).num ∧ lo.fdiv (if lo < 0 then -g else g) = ((Rat.divInt u lo).den : Int) := by
  obtain ⟨u', l', hu, hl, g0, e1, e2⟩ := dv_rat h0 hg
  rw [e1, e2]
  rcases sgn_cases h0 with ⟨z, s⟩ | ⟨z, s⟩
  · rw [if_neg (by omega), s, Int.one_mul, Int.one_mul, hu]
    refine ⟨Int.mul_fdiv_cancel_left _ (by omega), ?_⟩
    conv => lhs; rw [hl]
    exact Int.mul_fdiv_cancel_left _ (by omega)
  · rw [if_pos z, s, Int.neg_one_mul, Int.neg_one_mul, hu, fdiv_neg_exact g0]
    refine ⟨rfl, ?_⟩
    conv => lhs; rw [hl]
    exact fdiv_neg_exact g0
/-! sizes -/
def Bd (k : Nat) (q : Rat) : Prop := q.num.natAbs < 2 ^ k ∧ q.den < 2 ^ k
theorem bd_div {k : Nat} {u lo : Int} (h0 : lo ≠ 0) (hu : u.natAbs < 2 ^ k) (hl : lo.natAbs < 2 ^ k) : Bd k (Rat.divInt u lo) := by
  constructor
  · have hg : IsG u lo (lo.gcd u : Int) := by
      refine ⟨?_, fun d => ⟨fun z => Int.dvd_coe_gcd z.2 z.1, fun z => ⟨Int.dvd_trans z (Int.gcd_dvd_right _ _), Int.dvd_trans z (Int.gcd_dvd_left _ _)⟩⟩⟩
      have := Int.gcd_pos_of_ne_zero_left u h0
      omega
    obtain ⟨u', l', hu', hl', g0, e1, e2⟩ := dv_rat h0 hg
    rw [e1, Int.natAbs_mul, Int.natAbs_sign_of_ne_zero h0, Nat.one_mul]
    refine Nat.lt_of_le_of_lt ?_ hu
    conv => rhs; rw [hu', Int.natAbs_mul]
    exact Nat.le_mul_of_pos_left _ (by omega)
  · rw [Rat.den_divInt, if_neg h0]
    exact Nat.lt_of_le_of_lt (Nat.div_le_self _ _) hl
theorem rat_int (n : Int) : Rat.divInt n 1 = (n : Rat) := by
  have := Rat.num_divInt_den (n : Rat)
  rw [Rat.num_intCast, Rat.den_intCast] at this
  exact this
/-! of a / b -/
theorem nat_mono {x : Int} {a b : Nat} (hx : x.natAbs < 2 ^ a) (h : a ≤ b) : x.natAbs < 2 ^ b := Nat.lt_of_lt_of_le hx (Nat.pow_le_pow_right (by decide) h)
theorem Bd.mono {q : Rat} {a b : Nat} (h : Bd a q) (hab : a ≤ b) : Bd b q := ⟨nat_mono h.1 hab, Nat.lt_of_lt_of_le h.2 (Nat.pow_le_pow_right (by decide) hab)⟩
theorem Bd.den {q : Rat} {a : Nat} (h : Bd a q) : (q.den : Int).natAbs < 2 ^ a := by rw [Int.natAbs_natCast]; exact h.2
end Tw
/-! Tw: try with several clauses 'except C as n' -/
namespace Tw
open PySem PySem.Spec PyProof.Rows L2
abbrev Cl : Type := Value × Nat × (Addr → Value → Option Addr → TS)
def wAll (K : PySem.W.Frag) (n : Nat) (Wout : WX) (D : Ends) : List Cl → WX
  | [] => Wout
  | q :: r => fun cls d σ H => ∃ b, PySem.W.exmOne K cls q.1 = some b ∧ (b = true → σ.length = n → ∀ a, H a = none → q.2.2 a cls d { nx := fun σ2 H2 => D.nx (σ2.set q.2.1 none) H2, rt := D.rt, bk := fun σ2 H2 => D.bk (σ2.set q.2.1 none) H2, ct := fun σ2 H2 => D.ct (σ2.set q.2.1 none) H2 } (σ.set q.2.1 (some (.ref a))) H) ∧
      (b = false → wAll K n Wout D r cls d σ H)
inductive ClsOk (X : Cx) : List ExceptHandler → List Cl → Prop
  | nil : ClsOk X [] []
  | cons {x n : Str} {c : Value} {i : Nat} {ts : Addr → Value → Option Addr → TS} {b : Stmt} {bs : List Stmt} {p q : Pos} {hs : List ExceptHandler} {l : List Cl} (hi : X.N[i]? = some n) (hn : X.env.kindOf n = some .local) (hc : Names X x c)
      (hb : ∀ (a : Addr) (oe : Obj) (cls : Value) (d : Option Addr) (pn : List (Addr × Obj)), Zc cls d oe → (∃ vs, oe.data = .fields vs) → PSs (X.suite a ((a, oe) :: pn)) (b :: bs) (ts a cls d)) (r : ClsOk X hs l) :
      ClsOk X (.ExceptHandler (some (.Name x p)) (some n) (b :: bs) q :: hs) ((c, i, ts) :: l)
structure Cau (X : Cx) (pins : List (Addr × Obj)) (σ : L2.St) (H : Hp) (cls : Value) (d : Option Addr) (a : Addr) (B : Heap) (sI s : Shared) (h : Heap) : Prop where
  inv : Inv X pins σ H sI
  old : ∀ b o, sI.heap.get? b = some o → b ∉ frs X.stack → B.get? b = some o
  up : sI.heap.UpToSlots h
  new : H a = none
  os : s.os = sI.os
  bare : AllBare s.gens
  fly : HandSPX.FlyingZ B (X.env :: X.outer) a (Zc cls d) h
section
variable {X : Cx} {pins : List (Addr × Obj)} {σ : L2.St} {H : Hp} {cls : Value} {d : Option Addr} {a : Addr} {B : Heap} {sI s : Shared} {h : Heap}
theorem Cau.here (c : Cau X pins σ H cls d a B sI s h) : Inv X pins σ H { s with heap := h } := c.inv.landed c.old c.fly.1 c.up c.os c.bare
theorem Cau.apart (c : Cau X pins σ H cls d a B sI s h) (hf : X.env.frame = some X.env.locals) : ∃ oe vs, h.get? a = some oe ∧ Zc cls d oe ∧ oe.data = .fields vs ∧ a ≠ X.env.locals ∧ a ∉ X.fs := by
  obtain ⟨oe, vs, e, z, k⟩ := c.fly.there
  have nf : a ∉ frs (X.env :: X.outer) := fun m => by
    obtain ⟨_, o2, e2, n2⟩ := c.fly.2.2.1.mem m
    rw [e] at e2
    cases e2
    exact n2 _ k
  refine ⟨oe, vs, e, z, k, fun y => nf (List.mem_filterMap.mpr ⟨X.env, List.mem_cons_self, by rw [hf, y]⟩), fun y => ?_⟩
  obtain ⟨e1, m1, g1⟩ := List.mem_filterMap.mp y
  exact nf (List.mem_filterMap.mpr ⟨e1, List.mem_cons_of_mem _ m1, g1⟩)
theorem Cau.pass {Wout : WX} {D : Ends} (c : Cau X pins σ H cls d a B sI s h) (hs : X.stack = X.env :: X.outer) (hf : X.env.frame = some X.env.locals) (tk : Takes X Wout) (w : Wout cls d σ H) :
    wpAny (model X.prog X.w) X.A (handleBy (.ref a) X.env []) (SP X pins D) X.xe { s with heap := h } := by
  refine wpAny_handleBy_nil ?_
  obtain ⟨_, _, _, oe, vs, T, oT, ts, e, _, k, h1, _⟩ := id c.fly
  unfold PySem.passOn
  refine wpAny_bind (wpAny_field e k h1 ?_)
  have ne : ¬ ((Value.ref T == Value.none) = true) := by simp
  rw [if_neg ne]
  have out : wpAny (model X.prog X.w) X.A (setFlight (.ref a) X.env.frame) (fun _ s4 => wpAny (model X.prog X.w) X.A (throw (.ref a) : Sem Flow) (SP X pins D) X.xe s4) X.xe { s with heap := h } := by
    rw [hf]
    exact HandSPX.setFlight_upZ c.fly fun h4 k4 u4 => wpAny_throw (tk _ _ ⟨a, B, sI, pins, σ, H, cls, d, rfl, c.inv, c.old, c.up.trans u4, .inr (.inr (by rw [hs]; exact k4)), c.new, c.os, c.bare, w⟩)
  first
    | exact wpAny_bind (wpAny_pure (wpAny_bind out))
    | exact wpAny_bind out
theorem Cau.look (c : Cau X pins σ H cls d a B sI s h) (hs : X.stack = X.env :: X.outer) (hf : X.env.frame = some X.env.locals) (hN : X.N.Nodup) {Wout : WX} {D : Ends} (tk : Takes X Wout) :
    ∀ {hds : List ExceptHandler} {l : List Cl}, ClsOk X hds l → wAll X.K X.N.length Wout D l cls d σ H → wpAny (model X.prog X.w) X.A (handleBy (.ref a) X.env hds) (SP X pins D) X.xe { s with heap := h } := by
  intro hds l ok
  have okX := c.inv.ok
  have hfr : X.A.frames = some (X.env :: X.outer) := by rw [okX.frames, hs]
  induction ok with
  | nil => exact fun w => c.pass hs hf tk w
  | @cons x n cc i ts b bs p q hs2 l2 hi hn hc hb r ih =>
    rintro ⟨v, e1, yes, no⟩
    refine wpAny_handleBy_cons (codeAny_handlers_test ?_) (by intro z; cases z)
    obtain ⟨oe, vs, e, z, k, nL, nF⟩ := c.apart hf
    have lt : PySem.W.Looks (model X.prog X.w) h (typeOf (.ref a)) cls := fun A Q E s2 k2 q2 => wpAny_typeOf_ref (k2 _ _ e) (by rw [z.1]; exact q2)
    have lm := PySem.W.exm_one (M := model X.prog X.w) c.here.kIn lt e1
    have inS := c.here.suite e k c.new nL nF
    have ask : ∀ {Q : Value → Shared → Prop} {E : Value → Shared → Prop}, Q cc { s with heap := h } → wpAny (model X.prog X.w) (X.A.mark (some (.ref a))) (eval (.Name x p) X.env) Q E { s with heap := h } := fun {Q E} q2 => by
      obtain ⟨g, nd, m | ⟨m, bo, nn⟩⟩ := hc
      · exact ld_glob (X := X.suite a ((a, oe) :: (X.pn ++ pins))) inS g m q2 nd
      · exact ld_blt (X := X.suite a ((a, oe) :: (X.pn ++ pins))) inS g m bo q2 nn nd
    refine ask (lm.here ?_)
    cases v with
    | false =>
      show wpAny _ X.A (handleBy (.ref a) X.env hs2) _ _ _
      exact ih (no rfl)
    | true =>
      refine codeAny_handlers_suite_as (HandSPX.lands_againZ c.fly fun h4 f4 u4 => ?_)
      have c4 : Cau X pins σ H cls d a B sI s h4 := ⟨c.inv, c.old, c.up.trans u4, c.new, c.os, c.bare, f4⟩
      obtain ⟨o4, w4, e4, z4, k4, nL4, nF4⟩ := c4.apart hf
      have S4 := c4.here.suite e4 k4 c4.new nL4 nF4
      refine store_ok (X := X.suite a ((a, o4) :: (X.pn ++ pins))) (v := .ref a) S4 hN hi (.inl hn) rfl (fun s5 S5 => ?_) (.inr hn)
      refine wpAny_mono ((hb a o4 cls d (X.pn ++ pins) z4 ⟨_, k4⟩).run [] s5 _ H _ S5 (yes rfl c.inv.len a c.new)) (fun f s6 g6 => ?_) (fun _ _ z => False.elim z)
      have bye : ∀ {σ6 : L2.St} {H6 : Hp} {Q : Shared → Prop}, Inv (X.suite a ((a, o4) :: (X.pn ++ pins))) [] σ6 H6 s6 → (∀ s7, Inv X pins (σ6.set i none) H6 s7 → Q s7) → wpAny (model X.prog X.w) X.A (do bindName X.env n .none; unbindBehindTheSuite X.env n q) (fun _ s7 => Q s7) X.xe s6 :=
        fun {σ6 H6 Q} S6 w6 => gone_ok (S6.unsuite okX) hN hi hn w6
      cases f with
      | ret u =>
        obtain ⟨v6, σ6, H6, S6, r6, w6⟩ := g6
        exact bye S6 fun s7 J7 => ⟨v6, _, _, J7, r6, w6⟩
      | next =>
        obtain ⟨σ6, H6, S6, w6⟩ := g6
        exact bye S6 fun s7 J7 => ⟨_, _, J7, w6⟩
      | brk =>
        obtain ⟨σ6, H6, S6, w6⟩ := g6
        exact bye S6 fun s7 J7 => ⟨_, _, J7, w6⟩
      | cont =>
        obtain ⟨σ6, H6, S6, w6⟩ := g6
        exact bye S6 fun s7 J7 => ⟨_, _, J7, w6⟩
end
section
variable {X : Cx} {body : List Stmt} {h0 : ExceptHandler} {hds : List ExceptHandler} {l : List Cl} {pos : Pos} {tb : WX → TS} {Wout : WX}
theorem ps_try_all (hs : X.stack = X.env :: X.outer) (hf : X.env.frame = some X.env.locals) (hN : X.N.Nodup) (tk : Takes X Wout)
    (hb : ∀ (W : WX) (pn : List (Addr × Obj)) (xe : Value → Shared → Prop), Takes (X.tr pn xe) W → PassesOwn (model X.prog X.w) X.A X.env xe → PSs (X.tr pn xe) body (tb W)) (hh : ClsOk X (h0 :: hds) l) :
    PS X (.Try body (h0 :: hds) [] [] pos) (fun D σ H => tb (wAll X.K X.N.length Wout D l) D σ H) := by
  refine ⟨fun pins s σ H D I h => ?_⟩
  have okX := I.ok
  have hfr : X.A.frames = some (X.env :: X.outer) := by rw [okX.frames, hs]
  refine wpAny_Try_except (wpAny_mono ((hb (wAll X.K X.N.length Wout D l) (X.pn ++ pins) (fun e s1 => wpAny (model X.prog X.w) X.A (noteFrame e X.env) (fun _ s2 => wpAny (model X.prog X.w) X.A (setFlight e none) (fun _ s3 => wpAny (model X.prog X.w) X.A (handleBy e X.env (h0 :: hds)) (SP X pins D) X.xe s3) X.xe s2) X.xe s1) (fun u s1 z => ?_) PassesOwn.looking).run [] s σ H D (I.toTry _) h) (fun f s1 q => ?_) fun e s1 z => z)
  · obtain ⟨a, B, sI, pn2, σ2, H2, cls, d, rfl, J2, nb, up, sky, na, os, ag, w⟩ := z
    have J : Inv X pins σ2 H2 sI := J2.ofTry okX
    have sk : Sky B (X.env :: X.outer) a (Zc cls d) X.env.locals s1.heap := by rw [← hs]; exact sky
    show wpAny (model X.prog X.w) X.A (noteFrame (.ref a) X.env) _ _ _
    exact Sky.land Zc.steady hfr hf sk fun h3 f3 u3 => (show Cau X pins σ2 H2 cls d a B sI s1 h3 from ⟨J, nb, up.trans u3, na, os, ag, f3⟩).look hs hf hN tk hh w
  · cases f with
    | next =>
      obtain ⟨σ2, H2, J2, w⟩ := q
      exact wpAny_execs_nil ⟨σ2, H2, J2.ofTry okX, w⟩
    | ret u =>
      obtain ⟨v, σ2, H2, J2, r, w⟩ := q
      exact ⟨v, σ2, H2, J2.ofTry okX, r, w⟩
    | brk =>
      obtain ⟨σ2, H2, J2, w⟩ := q
      exact ⟨σ2, H2, J2.ofTry okX, w⟩
    | cont =>
      obtain ⟨σ2, H2, J2, w⟩ := q
      exact ⟨σ2, H2, J2.ofTry okX, w⟩
end
end Tw
/-! Tw: defs that are called in an except suite and raise nothing; what they promise may speak of the caught error -/
namespace Tw
open PySem PySem.Spec PyProof.Rows L2
open L2H (RoomH PinOk cxH inv_startH)
def FnP (P : Program) (w : World) (K : PySem.W.Frag) (mg : Str → Option Value) (base : Heap) (k : Nat) (f : Addr) (sp : Addr × Obj → Sp) : Prop :=
  ∀ A fs t Hp0 us vs Q p, RoomH k A → PinOk fs Hp0 t p → Env0 P w K mg base A fs t Hp0 → Vals vs us → sp p vs Hp0 Q C8.E0 → codeAny (model P w) A (.call (.ref f) ⟨us, []⟩) (CR C8.CX0 fs P w Hp0 t Q C8.E0) t
section
variable {P : Program} {w : World} {K : PySem.W.Frag} {mg : Str → Option Value} {base : Heap} {k : Nat} {f : Addr} {sp : Addr × Obj → Sp}
theorem FnP.mono {j : Nat} (F : FnP P w K mg base j f sp) (h : j ≤ k) : FnP P w K mg base k f sp := fun A fs t H us vs Q p r => F A fs t H us vs Q p (r.mono h)
theorem fnP_of {x qual : Str} {params : Arguments} {body : List Stmt} {scope : Scope} {kws : List (Str × V)} {fd : FuncData} {N ps : List Str} (F : FunD K x qual params body scope [] kws f fd) (S : FnScope N ps scope) (hb : Binds K fd ps [])
    (hl : ∀ p vs H Q E, sp p vs H Q E → vs.length = ps.length)
    (hbody : ∀ cdv A fs t H vs Q p, RoomH k (A.deeper (envOfC qual scope t.heap.objs.size f cdv)) → PinOk fs H t p → sp p vs H Q C8.E0 → ∃ tt, PSs (cxH C8.CX0 P w K mg base N qual scope f cdv A fs t H C8.E0 p) body tt ∧ tt { nx := fun _ H' => Q .non H', rt := Q } (L2.start N vs) H) :
    FnP P w K mg base (k + 1) f sp := by
  intro A fs t H us vs Q p hr hp e0 rv h
  obtain ⟨oc, od, dV, kV, doc, pm, an, cdv, ct, osl, efd, lk, hcd, _, _⟩ := F.ex
  have KX : K.In t.heap := e0.mod.kin.keeps fun b o z => (e0.bs b o z).1
  have hlen : us.length = ps.length := rv.length.symm.trans (hl _ _ _ _ _ h)
  have hbt := hb t us KX (by rw [List.append_nil]; exact hlen)
  rw [List.append_nil] at hbt
  rw [efd] at lk hbt
  refine codeAny_call_function hr.depth (KX _ _ lk) rfl S.co S.gen rfl (PySem.W.codeRec_of KX hcd) (hbt _ _ _ _ ?_)
  refine wpAny_newFunctionEnv_cells S.kind (fun y hy => ?_) fun env he t1 inc => ?_
  · exact (S.par y.1 (List.of_mem_zip hy).1).elim .inl fun z => .inr ⟨z, PySem.W.cellsFrom_some _ _ _ (.inl z)⟩
  · subst he
    obtain ⟨tt, hps, hq⟩ := hbody cdv A fs t H vs Q p (hr.deeper _) hp h
    have hnl : t.heap.NoLimit := e0.mod.nolimit.keeps fun b o z => (e0.bs b o z).1
    refine ⟨hnl.keeps inc.toInCall.keep, codeAny_func (wpAny_mono (hps.run [] t1 _ _ _ (inv_startH S hp e0 (hl _ _ _ _ _ h) rv inc) hq) (fun fl t2 z => ?_) fun _ _ z => z)⟩
    cases fl with
    | ret u =>
      obtain ⟨v, _, H2, J, r2, q2⟩ := z
      exact ⟨v, H2, J.os, J.bare, J.base, J.hok, r2, q2⟩
    | next =>
      obtain ⟨_, H2, J, q2⟩ := z
      exact ⟨.non, H2, J.os, J.bare, J.base, J.hok, rfl, q2⟩
    | brk => exact z.elim fun _ z => z.elim fun _ z => z.2.elim
    | cont => exact z.elim fun _ z => z.elim fun _ z => z.2.elim
end
section
variable {X : Cx} {k : Nat} {f : Addr} {sp : Addr × Obj → Sp} {x : Str} {e : Expr} {es : List Expr} {t : TA} {p pos : Pos} {q : Addr × Obj}
theorem call_fnP {pins : List (Addr × Obj)} {σ : L2.St} {H : Hp} {s : Shared} {Q : VK} {us : List Value} {vs : List V} (F : FnP X.prog X.w X.K X.mg X.base k f sp) (hr : RoomH k X.A) (hq : q ∈ X.pn) (I : Inv X pins σ H s) (rv : Vals vs us) (h : sp q vs H Q C8.E0) :
    wpAny (model X.prog X.w) X.A (call (.ref f) us) (EP X pins σ Q) X.xe s := by
  have g := I.pin q (List.mem_append_left _ hq)
  have hp : PinOk X.stack H s q := ⟨g.1, g.2.1, fun m => (List.mem_cons.mp (I.stkSub q.1 m)).elim g.2.2.1 g.2.2.2.1, g.2.2.2.2⟩
  exact wpAny_call (codeAny_mono (F X.A X.stack s H us vs Q q hr hp I.env0 rv h) fun r s2 z => match r, z with
    | .error y, z => (show False from z).elim
    | .ok (.ret u), z => I.after z
    | .ok .next, z => z.elim
    | .ok .brk, z => z.elim
    | .ok .cont, z => z.elim)
structure RmS (A : Around) : Prop where
  un : A.units + 40 < cLine
  gd : A.guards = some []
end
end Tw
/-! Tw: isinstance of a caught error that has its dict -/
namespace Tw
open PySem PySem.Spec PySem.Calls PyProof.Rows L2 PySem.W
section
variable {prog : Program} {w : World} {A : Around} {E : Value → Shared → Prop} {s : Shared} {K : Frag} {x D : Addr} {ox : Obj} {od : Option Obj}
theorem find_cls (T : ExcC K D) : findObj K D od "__class__" = some (.bind (.builtin "getset_descriptor.__get__") (.builtin "object.__class__")) := by
  obtain ⟨cd, hc, _⟩ := any_some T.hd
  unfold findObj
  rw [hc, Option.bind_some, T.ha, Option.bind_some]
  simp [T.hn, T.ht]
theorem cls_of (T : ExcC K D) {Q : Option Value → Shared → Prop} (X : K.In s.heap) (I : InstAt s.heap x ox D od) (h : Q (some (.ref D)) { s with toks := s.toks + 1 }) : wpAny (model prog w) A (getAttr? (.ref x) "__class__") Q E s := by
  obtain ⟨hp, g, d, t, os⟩ := s
  have la := I.type (M := model prog w)
  have lb := looks_findIn (M := model prog w) X T.hg
  have lc := looks_findIn (M := model prog w) X T.hk
  have ld := looks_find (M := model prog w) X I (find_cls T)
  have isb : Looks (model prog w) hp (isInstance (.ref x) (.type "BaseException")) true := la.andThen (looks_subIn X T.hs)
  have f0 : (false && onTheHeap (Value.builtin "BaseException.__getattribute__")) = false := rfl
  have f1 : (Value.builtin "BaseException.__getattribute__" == Value.builtin "object.__getattribute__") = false := by decide +kernel
  have f2 : (onTheHeap (Value.ref D) && Value.builtin "BaseException.__getattribute__" == Value.builtin "object.__getattribute__") = false := by rw [f1]; rfl
  have f3 : onTheHeap (Value.ref D) = true := rfl
  unfold getAttr? getAttrBy? getAttrBy
  refine wpAny_bind (wpAny_mkText (wpAny_bind (wpAny_attempt (wpAny_holding (wpAny_bind (la.at (wpAny_bind (lb.at ?_))))))))
  show wpAny _ _ (if (onTheHeap (Value.ref D) && Value.builtin "BaseException.__getattribute__" == Value.builtin "object.__getattribute__") = true then _ else _) _ _ _
  rw [f2, if_neg Bool.false_ne_true]
  unfold getAttrByItsOwn hookBefore
  refine wpAny_bind ?_
  rw [if_pos f3]
  refine lc.at (wpAny_bind (wpAny_attempt (wpAny_holding ?_)))
  unfold callGetattribute
  rw [f0, if_neg Bool.false_ne_true]
  unfold boundAndCalled
  rw [PySem.F.excAttr_ValueError.ga.bind (.ref x)]
  refine wpAny_bind (wpAny_pure ?_)
  show wpAny _ _ (call (.builtin "BaseException.__getattribute__") [.ref x, .str "__class__" t]) _ _ _
  refine wpAny_call (codeAny_call_builtin PySem.F.excAttr_ValueError.ga.plain PySem.F.entry_bexc_ga (@check_slot (model prog w) _ _ ⟨hp, g, d, t + 1, os⟩ "BaseException.__getattribute__" "BaseException" "__getattribute__" (.ref x) [.str "__class__" t] [] _ (by decide +kernel) (by decide +kernel) isb (PySem.F.args_bexc_ga (.ref x) (.str "__class__" t)) ?_))
  unfold Builtin.«object.__getattribute__»
  refine wpAny_bind (wpAny_of_eq (a := ((Value.ref x : Value), [Value.str "__class__" t])) (by first | rfl | (simp only [slotArgs]; rfl)) ?_)
  refine wpAny_bind (wpAny_pure (wpAny_bind (la.at (wpAny_bind (ld.at ?_)))))
  show wpAny _ _ (holding [Value.builtin "object.__class__"] (call (.builtin "getset_descriptor.__get__") [.builtin "object.__class__", .ref x, .ref D]) >>= ret) _ _ _
  refine wpAny_bind (wpAny_holding (wpAny_call (class_get (s := ⟨hp, g, d, t + 1, os⟩) (ox := ox) (od := od) X I T.hm ?_)))
  refine wpAny_pure ?_
  show wpAny _ _ (handedOut (.ref D)) _ _ _
  rw [handedOut_of (v := .ref D) rfl]
  first
    | exact wpAny_pure (wpAny_pure h)
    | exact wpAny_pure h
    | exact wpAny_pure (wpAny_bind (wpAny_pure (wpAny_pure h)))
theorem kit_err (T : ExcC K D) : KitX K (.ref x) (.ref D) (fun h => InstAt h x ox D od) where
  ty := fun _ _ _ I => I.type
  it := fun _ _ X _ => by
    obtain ⟨cdD, hcD, _⟩ := any_some T.hd
    unfold clsIn at hcD
    split at hcD
    · rename_i c1 d1 cd1 sl1 ho
      intro A1 Q1 E1 s1 k1 q1
      unfold isType loadHead
      exact wpAny_bind (wpAny_loadPart (k1 _ _ (X _ _ ho)) (wpAny_pure q1))
    · cases hcD
  ne := fun h tp dd its n sl X htp => by
    obtain ⟨cdD, hcD, _⟩ := any_some T.hd
    refine Bool.eq_false_iff.mpr fun q => ?_
    obtain rfl : D = tp := Value.ref.inj (beq_iff_eq.mp q)
    unfold clsIn at hcD
    split at hcD
    · rename_i c1 d1 cd1 sl1 ho
      have z := (X _ _ ho).symm.trans htp
      cases z
    · cases hcD
  ca := fun X I k => cls_of T X I k
end
def DicO (H : Hp) (d : Option Addr) : Prop := ∀ dd, d = some dd → ∃ fs : List (PySem.Str × V), H dd = some (.xd fs)
theorem DicO.same {H H' : Hp} {d : Option Addr} (h : DicO H d) (s : ∀ b o, H b = some o → H' b = some o) : DicO H' d := fun dd e => (h dd e).elim fun fs z => ⟨fs, s _ _ z⟩
theorem dicO_some {H : Hp} {dd : Addr} {fs : List (PySem.Str × V)} (h : H dd = some (.xd fs)) : DicO H (some dd) := fun x e => by
  cases e
  exact ⟨fs, h⟩
theorem dicO_none {H : Hp} : DicO H none := fun x e => by cases e
def rIsP (K : Frag) (p : Addr × Obj) : List V → Hp → VK → Prop := fun xs H Q => ∃ (D : Addr) (c : V) (cv : Value) (b : Bool) (d : Option Addr), ExcC K D ∧ xs = [.ref p.1, c] ∧ Zc (.ref D) d p.2 ∧ (∃ vs, p.2.data = .fields vs) ∧ DicO H d ∧ (∀ u, RelV c u → u = cv) ∧ kitOne K (.ref D) cv = some b ∧ Q (.bl b) H
theorem call_isP {X : Cx} {p : Addr × Obj} (hp : p ∈ X.pn) : CallR X (.builtin "isinstance") (rIsP X.K p) := by
  intro pins s σ H xs us Q I r h
  obtain ⟨D, c, cv, b, d, T, rfl, hz, ⟨vs, hv⟩, hdd, hcv, e, q⟩ := h
  cases r with
  | cons rx rr =>
    cases rr with
    | cons rt rr =>
      cases rr
      cases rx
      have ec := hcv _ rt
      subst ec
      obtain ⟨hget, _⟩ := I.pin p (List.mem_append_left _ hp)
      obtain ⟨oD, J⟩ : ∃ oD, InstAt s.heap p.1 p.2 D oD := by
        cases d with
        | none => exact ⟨none, hget, hz.1, by unfold notCls; rw [hv] <;> rfl, by rw [hz.2]; trivial⟩
        | some dd =>
          obtain ⟨fs, hdd⟩ := hdd dd rfl
          have hx : ObjOk X.prog X.w H s.heap dd (.xd fs) := I.hok dd _ hdd
          obtain ⟨mA, hns, _⟩ := hx
          obtain ⟨oD, ho, _⟩ := lookIn_ns hns
          exact ⟨some oD, hget, hz.1, by unfold notCls; rw [hv] <;> rfl, by rw [hz.2]; exact ho⟩
      exact kia_one (kit_err T) I.kIn J e (fun z => nomatch z) fun tk => ⟨.bl b, H, I.kept (t' := tk) fun _ _ z => z, rfl, q⟩
end Tw
/-! Tw: list.count of flat items -/
namespace Tw
open PySem PySem.Spec PyProof.Rows L2
section
variable {X : Cx}
def rCntF (K : PySem.W.Frag) : V → List V → Hp → VK → Prop := fun x xs H Q => ∃ (a : Addr) (ys : List V) (y : V), x = .ref a ∧ xs = [y] ∧ SqL K H a ys ∧ flatV y = true ∧ ys.all flatV = true ∧ Q (.int ((ys.countP fun z => eqV z y : Nat) : Int)) H
theorem count_eqU {y : V} : ∀ {ys : List V} {us : List Value}, Vals ys us → ys.all flatV = true → us.countP (eqU y) = ys.countP fun z => eqV z y
  | _, _, .nil, _ => rfl
  | z :: ys, u :: us, .cons r rs, h => by
    have h2 : flatV z = true ∧ ys.all flatV = true := by simpa using h
    rw [List.countP_cons, List.countP_cons, count_eqU rs h2.2, eqU_of r h2.1]
theorem mt_countF : MtR X "list.count" (rCntF X.K) := by
  intro pins s σ H x xs v us Q I rx rxs h
  obtain ⟨a, ys, y, rfl, rfl, hs, fy, fys, q⟩ := h
  cases rx
  obtain ⟨uy, rfl, ry⟩ := rxs.one
  obtain ⟨its, rv, ⟨⟨cls, dd, data, sl⟩, n, ho, hc, hdn, hd⟩, hlen⟩ := I.list hs
  simp only at hc hd
  subst hc hd
  refine call_meets PySem.F.slot_list_count ⟨_, ho, rfl⟩ PySem.F.entry_list_count (PySem.F.args_list_count_2 _ _)
    (SeqAt.list_countAt a its.toArray n dd sl uy (eqU y)) ⟨ho, fun u2 h2 => mem_eqAt ry fy rv fys u2 (by simpa using h2), ?_⟩
  have ec : its.toArray.toList.countP (eqU y) = ys.countP fun z => eqV z y := count_eqU rv fys
  refine ⟨.int ((ys.countP fun z => eqV z y : Nat) : Int), H, I.tok _, ⟨s.toks, ?_⟩, q⟩
  show Value.int ((its.toArray.toList.countP (eqU y) : Nat) : Int) s.toks = _
  rw [ec]
end
end Tw
/-! Tw: the law's name of a caught error -/
namespace Tw
open PySem PySem.Spec PyProof.Rows L2 He TwM StX
open PySem.W (Frag)
local macro_rules | `(tactic| walk_at "rsl") => `(tactic| simp only [*, at3_0, at3_1, at3_2, at2_0, at2_1, updS, upd_two, gSub, rSetL, updN, tPar, tPar3, gTup, gCons, gNil, and_assoc, not_true_eq_false, not_false_eq_true, tNever, List.length_map, tFld, rIxTH, rIxLH, rLenTH, rLenLH, lk1, lfs_g, lfs_s, lfs_p, HO.ins.injEq, HO.tup.injEq, HO.lst.injEq, sp_Book_rounding, sp_Book_action, sp_Book_order, sp_Book_due, sp_Book_zero, sp_Book_beyond, Int.toNat_natCast, sp_visit_after, sp_is_visited, sp_Level_grain, sp_Level_slots, sp_Level_span, sp_Wheel_reach, sp_Wheel___len__, sp_is_integer, sp_is_count, sp_is_within, sp_rounded, tAsg, gName, tVar, tC, tOp, rI, rI0, rU, tUn, oAdd, oSub, oMul, oDiv, oMod, oNeg, oLt, oLe, oGt, oGe, oIsN, oNotN, tFn, tCons, tNil, tIfS, tIf, tTest, tB, tNot, tAnd, tOr, tAndV, tOrV, tNotV,
    tRet, tRetN, tNext, tCB, tDrop, tChain, rEq, rNe, oMax2, oMin2, oInt1, rLenF, L2.start, List.map_cons, List.map_nil, List.length_cons, List.length_nil, List.replicate_succ, List.replicate_zero, List.cons_append, List.nil_append, Nat.reduceAdd, Nat.reduceSub, Nat.zero_add,
    List.set_cons_zero, List.set_cons_succ, List.getElem?_cons_zero, List.getElem?_cons_succ, Option.some.injEq, V.int.injEq, V.ref.injEq, V.str.injEq, V.bl.injEq, exists_eq_left', exists_eq_left, exists_and_left, List.cons.injEq, and_true, true_and, decide_eq_true_eq, sc_ii, sc_ss, sc_bb, sc_ni, sc_in, sc_nn, sc_is, reduceCtorEq,
    Bool.not_eq_true', decide_eq_false_iff_not, if_true, if_false, Bool.false_eq_true, exists_eq', exists_const, false_and, and_false, or_false, false_or, exists_false, Bool.not_not, Bool.not_true, Bool.not_false, sUp_up, sFire_fire, sHigh_high, sPut_put, sZone_now, sBey_refuse, sBey_cut, tTup, tLst, sz0, sz1, sz2, sz3, sz4, sz5, sz6])
local macro_rules | `(tactic| walk_at "st") => `(tactic| ((try dsimp only); rw [seq1]; walk_at "rsl"))
section
variable {K : Frag} {w : World}
def sp__law_kind (K : Frag) (p : Addr × Obj) : Sp := fun vs H Q _ => ∃ (D : Addr) (d : Option Addr) (i : Nat), vs = [.ref p.1] ∧ KnF K D i ∧ Zc (.ref D) d p.2 ∧ (∃ vs, p.2.data = .fields vs) ∧ DicO H d ∧ ∀ H', Same H H' → Q (.str (kdN.getD i "")) H'
def n__law_kind : List PySem.Str := ["_law_error", "_law_kinds", "_law_names"]
def t__law_kind (K : Frag) (p : Addr × Obj) : TS :=
  (tSeq (tAsg (tLst (tCons (tCB (rIsP K p) (tCons (tVar 0) (tCons (tC (.ref (ga K "InvalidNumber"))) tNil))) (tCons (tCB (rIsP K p) (tCons (tVar 0) (tCons (tC (.ref (ga K "InvalidText"))) tNil))) (tCons (tCB (rIsP K p) (tCons (tVar 0) (tCons (tC (.ref (ga K "InvalidName"))) tNil))) tNil)))) (gName 1))
  (tSeq (tAsg (tOp rCat (tVar 1) (tLst (tCons (tCB (rIsP K p) (tCons (tVar 0) (tCons (tC (.ref (ga K "InvalidLevels"))) tNil))) (tCons (tCB (rIsP K p) (tCons (tVar 0) (tCons (tC (.ref (ga K "InvalidSwitch"))) tNil))) tNil)))) (gName 1))
  (tSeq (tAsg (tOp rCat (tVar 1) (tLst (tCons (tCB (rIsP K p) (tCons (tVar 0) (tCons (tC (.ref (ga K "InvalidMode"))) tNil))) (tCons (tCB (rIsP K p) (tCons (tVar 0) (tCons (tC (.ref (ga K "InvalidMenu"))) tNil))) (tCons (tCB (rIsP K p) (tCons (tVar 0) (tCons (tC (.ref (ga K "InvalidPlan"))) tNil))) tNil))))) (gName 1))
  (tSeq (tAsg (tOp rCat (tVar 1) (tLst (tCons (tCB (rIsP K p) (tCons (tVar 0) (tCons (tC (.ref (ga K "InvalidCommand"))) tNil))) (tCons (tCB (rIsP K p) (tCons (tVar 0) (tCons (tC (.ref (ga K "TooLong"))) tNil))) (tCons (tCB (rIsP K p) (tCons (tVar 0) (tCons (tC (.ref (ga K "TooMany"))) tNil))) tNil))))) (gName 1))
  (tSeq (tAsg (tOp rCat (tVar 1) (tLst (tCons (tCB (rIsP K p) (tCons (tVar 0) (tCons (tC (.ref (ga K "NothingToUndo"))) tNil))) tNil))) (gName 1))
  (tSeq (tIfS (tOr (tTest (tOp rNe (tBM K "list" (rCntF K) (tVar 1) (tCons (tC (.bl true)) tNil)) (tC (.int 1)))) (tTest (tOp rNe (tCB (rIsP K p) (tCons (tVar 0) (tCons (tC (.ref (ga K "WheelError"))) tNil))) (tOp oLt (tBM K "list" (rIndex K) (tVar 1) (tCons (tC (.bl true)) tNil)) (tC (.int 9)))))) (tRet (tC (.str "odd"))) tNext)
  (tSeq (tAsg (tLst (tCons (tC (.str "number")) (tCons (tC (.str "text")) (tCons (tC (.str "name")) (tCons (tC (.str "levels")) (tCons (tC (.str "switch")) (tCons (tC (.str "mode")) (tCons (tC (.str "menu")) (tCons (tC (.str "plan")) (tCons (tC (.str "command")) (tCons (tC (.str "long")) (tCons (tC (.str "many")) (tCons (tC (.str "undo")) tNil))))))))))))) (gName 2))
  (tRet (tOp rIxLH (tVar 2) (tBM K "list" (rIndex K) (tVar 1) (tCons (tC (.bl true)) tNil)))))))))))
theorem rd__law_kind {p : Addr × Obj} (vs : List V) (H : Hp) (Q : VK) (E : XK) (h : sp__law_kind K p vs H Q E) : t__law_kind K p { nx := fun _ H' => Q .non H', rt := Q } (L2.start n__law_kind vs) H := by
  obtain ⟨D, d, i, rfl, F, hz, hv, hd, q⟩ := h
  have isP : ∀ (j : Nat) {x : PySem.Str} {H' : Hp} {Q' : VK}, Same H H' → erN[j]? = some x → Q' (.bl (decide (j = i))) H' → rIsP K p [.ref p.1, .ref (ga K x)] H' Q' := fun j {x H' Q'} s e q' => ⟨D, _, _, _, d, F.exc, rfl, hz, hv, hd.same s, fun u r => r, F.is j x e, q'⟩
  have isW : ∀ {H' : Hp} {Q' : VK}, Same H H' → Q' (.bl (decide (i < 9))) H' → rIsP K p [.ref p.1, .ref (ga K "WheelError")] H' Q' := fun {H' Q'} s q' => ⟨D, _, _, _, d, F.exc, rfl, hz, hv, hd.same s, fun u r => r, F.wh, q'⟩
  unfold t__law_kind n__law_kind
  rw [seq1]
  walk_at "rsl"
  refine isP 0 (Same.refl _) rfl (isP 1 (Same.refl _) rfl (isP 2 (Same.refl _) rfl fun A hA => ?_))
  have s1 := Same.new (o := .lst [V.bl (decide (0 = i)), V.bl (decide (1 = i)), V.bl (decide (2 = i))]) hA
  have A1 := updS H A (.lst [V.bl (decide (0 = i)), V.bl (decide (1 = i)), V.bl (decide (2 = i))])
  generalize upd H A (.lst [V.bl (decide (0 = i)), V.bl (decide (1 = i)), V.bl (decide (2 = i))]) = H1 at *
  walk_at "st"
  refine isP 3 s1 rfl (isP 4 s1 rfl (fun B hB => ?_))
  refine ⟨A, B, _, _, rfl, rfl, Same.new hB _ _ A1, updS _ _ _, (show 5 ≤ 16777216 by decide), fun C hC => ?_⟩
  have s2 := s1.trans ((Same.new (o := .lst [V.bl (decide (3 = i)), V.bl (decide (4 = i))]) hB).trans (Same.new (o := .lst ([V.bl (decide (0 = i)), V.bl (decide (1 = i)), V.bl (decide (2 = i))] ++ [V.bl (decide (3 = i)), V.bl (decide (4 = i))])) hC))
  have C1 := updS (upd H1 B (.lst [V.bl (decide (3 = i)), V.bl (decide (4 = i))])) C (.lst ([V.bl (decide (0 = i)), V.bl (decide (1 = i)), V.bl (decide (2 = i))] ++ [V.bl (decide (3 = i)), V.bl (decide (4 = i))]))
  generalize upd (upd H1 B (.lst [V.bl (decide (3 = i)), V.bl (decide (4 = i))])) C (.lst ([V.bl (decide (0 = i)), V.bl (decide (1 = i)), V.bl (decide (2 = i))] ++ [V.bl (decide (3 = i)), V.bl (decide (4 = i))])) = H2 at *
  simp only [List.cons_append, List.nil_append] at C1
  walk_at "st"
  refine isP 5 s2 rfl (isP 6 s2 rfl (isP 7 s2 rfl (fun B2 hB2 => ?_)))
  refine ⟨C, B2, _, _, rfl, rfl, Same.new hB2 _ _ C1, updS _ _ _, (show 8 ≤ 16777216 by decide), fun C2 hC2 => ?_⟩
  have s3 := s2.trans ((Same.new (o := .lst [V.bl (decide (5 = i)), V.bl (decide (6 = i)), V.bl (decide (7 = i))]) hB2).trans (Same.new (o := .lst ([V.bl (decide (0 = i)), V.bl (decide (1 = i)), V.bl (decide (2 = i)), V.bl (decide (3 = i)), V.bl (decide (4 = i))] ++ [V.bl (decide (5 = i)), V.bl (decide (6 = i)), V.bl (decide (7 = i))])) hC2))
  have C21 := updS (upd H2 B2 (.lst [V.bl (decide (5 = i)), V.bl (decide (6 = i)), V.bl (decide (7 = i))])) C2 (.lst ([V.bl (decide (0 = i)), V.bl (decide (1 = i)), V.bl (decide (2 = i)), V.bl (decide (3 = i)), V.bl (decide (4 = i))] ++ [V.bl (decide (5 = i)), V.bl (decide (6 = i)), V.bl (decide (7 = i))]))
  generalize upd (upd H2 B2 (.lst [V.bl (decide (5 = i)), V.bl (decide (6 = i)), V.bl (decide (7 = i))])) C2 (.lst ([V.bl (decide (0 = i)), V.bl (decide (1 = i)), V.bl (decide (2 = i)), V.bl (decide (3 = i)), V.bl (decide (4 = i))] ++ [V.bl (decide (5 = i)), V.bl (decide (6 = i)), V.bl (decide (7 = i))])) = H3 at *
  simp only [List.cons_append, List.nil_append] at C21
  walk_at "st"
  refine isP 8 s3 rfl (isP 9 s3 rfl (isP 10 s3 rfl (fun B3 hB3 => ?_)))
  refine ⟨C2, B3, _, _, rfl, rfl, Same.new hB3 _ _ C21, updS _ _ _, (show 11 ≤ 16777216 by decide), fun C3 hC3 => ?_⟩
  have s4 := s3.trans ((Same.new (o := .lst [V.bl (decide (8 = i)), V.bl (decide (9 = i)), V.bl (decide (10 = i))]) hB3).trans (Same.new (o := .lst ([V.bl (decide (0 = i)), V.bl (decide (1 = i)), V.bl (decide (2 = i)), V.bl (decide (3 = i)), V.bl (decide (4 = i)), V.bl (decide (5 = i)), V.bl (decide (6 = i)), V.bl (decide (7 = i))] ++ [V.bl (decide (8 = i)), V.bl (decide (9 = i)), V.bl (decide (10 = i))])) hC3))
  have C31 := updS (upd H3 B3 (.lst [V.bl (decide (8 = i)), V.bl (decide (9 = i)), V.bl (decide (10 = i))])) C3 (.lst ([V.bl (decide (0 = i)), V.bl (decide (1 = i)), V.bl (decide (2 = i)), V.bl (decide (3 = i)), V.bl (decide (4 = i)), V.bl (decide (5 = i)), V.bl (decide (6 = i)), V.bl (decide (7 = i))] ++ [V.bl (decide (8 = i)), V.bl (decide (9 = i)), V.bl (decide (10 = i))]))
  generalize upd (upd H3 B3 (.lst [V.bl (decide (8 = i)), V.bl (decide (9 = i)), V.bl (decide (10 = i))])) C3 (.lst ([V.bl (decide (0 = i)), V.bl (decide (1 = i)), V.bl (decide (2 = i)), V.bl (decide (3 = i)), V.bl (decide (4 = i)), V.bl (decide (5 = i)), V.bl (decide (6 = i)), V.bl (decide (7 = i))] ++ [V.bl (decide (8 = i)), V.bl (decide (9 = i)), V.bl (decide (10 = i))])) = H4 at *
  simp only [List.cons_append, List.nil_append] at C31
  walk_at "st"
  refine isP 11 s4 rfl (fun B4 hB4 => ?_)
  refine ⟨C3, B4, _, _, rfl, rfl, Same.new hB4 _ _ C31, updS _ _ _, (show 12 ≤ 16777216 by decide), fun C4 hC4 => ?_⟩
  have s5 := s4.trans ((Same.new (o := .lst [V.bl (decide (11 = i))]) hB4).trans (Same.new (o := .lst ([V.bl (decide (0 = i)), V.bl (decide (1 = i)), V.bl (decide (2 = i)), V.bl (decide (3 = i)), V.bl (decide (4 = i)), V.bl (decide (5 = i)), V.bl (decide (6 = i)), V.bl (decide (7 = i)), V.bl (decide (8 = i)), V.bl (decide (9 = i)), V.bl (decide (10 = i))] ++ [V.bl (decide (11 = i))])) hC4))
  have C41 := updS (upd H4 B4 (.lst [V.bl (decide (11 = i))])) C4 (.lst ([V.bl (decide (0 = i)), V.bl (decide (1 = i)), V.bl (decide (2 = i)), V.bl (decide (3 = i)), V.bl (decide (4 = i)), V.bl (decide (5 = i)), V.bl (decide (6 = i)), V.bl (decide (7 = i)), V.bl (decide (8 = i)), V.bl (decide (9 = i)), V.bl (decide (10 = i))] ++ [V.bl (decide (11 = i))]))
  generalize upd (upd H4 B4 (.lst [V.bl (decide (11 = i))])) C4 (.lst ([V.bl (decide (0 = i)), V.bl (decide (1 = i)), V.bl (decide (2 = i)), V.bl (decide (3 = i)), V.bl (decide (4 = i)), V.bl (decide (5 = i)), V.bl (decide (6 = i)), V.bl (decide (7 = i)), V.bl (decide (8 = i)), V.bl (decide (9 = i)), V.bl (decide (10 = i))] ++ [V.bl (decide (11 = i))])) = H5 at *
  simp only [List.cons_append, List.nil_append] at C41
  have hi := F.lt
  have hi : i = 0 ∨ i = 1 ∨ i = 2 ∨ i = 3 ∨ i = 4 ∨ i = 5 ∨ i = 6 ∨ i = 7 ∨ i = 8 ∨ i = 9 ∨ i = 10 ∨ i = 11 := by omega
  have ix : ∀ {H' : Hp} {Q' : VK}, Same H5 H' → Q' (.int (i : Nat)) H' → rIndex K (.ref C4) [.bl true] H' Q' := fun {H' Q'} s q' => by
    refine ⟨C4, _, .bl true, i, .bl true, rfl, rfl, SqL.of (s _ _ C41), rfl, rfl, ?_, rfl, fun m z hm hz => ?_, q'⟩
    · rcases hi with rfl | rfl | rfl | rfl | rfl | rfl | rfl | rfl | rfl | rfl | rfl | rfl <;> rfl
    · have hb : z = .bl (decide (m = i)) := by
        have hm9 : m = 0 ∨ m = 1 ∨ m = 2 ∨ m = 3 ∨ m = 4 ∨ m = 5 ∨ m = 6 ∨ m = 7 ∨ m = 8 ∨ m = 9 ∨ m = 10 := by omega
        rcases hm9 with rfl | rfl | rfl | rfl | rfl | rfl | rfl | rfl | rfl | rfl | rfl <;> exact (Option.some.inj hz).symm
      rw [hb, decide_eq_false (by omega)]
      rfl
  have ct : ∀ {Q' : VK}, Q' (.int 1) H5 → rCntF K (.ref C4) [.bl true] H5 Q' := fun {Q'} q' => by
    refine ⟨C4, _, .bl true, rfl, rfl, SqL.of C41, rfl, rfl, ?_⟩
    have e : ([V.bl (decide (0 = i)), V.bl (decide (1 = i)), V.bl (decide (2 = i)), V.bl (decide (3 = i)), V.bl (decide (4 = i)), V.bl (decide (5 = i)), V.bl (decide (6 = i)), V.bl (decide (7 = i)), V.bl (decide (8 = i)), V.bl (decide (9 = i)), V.bl (decide (10 = i)), V.bl (decide (11 = i))] : List V).countP (fun z => eqV z (.bl true)) = 1 := by
      rcases hi with rfl | rfl | rfl | rfl | rfl | rfl | rfl | rfl | rfl | rfl | rfl | rfl <;> decide
    rw [e]
    exact q'
  have nm : kdN[i]? = some (kdN.getD i "") := by
    rcases hi with rfl | rfl | rfl | rfl | rfl | rfl | rfl | rfl | rfl | rfl | rfl | rfl <;> rfl
  unfold tBM
  walk_at "st"
  refine ⟨.inl ⟨rfl, _, SqL.of C41⟩, ct ⟨rfl, ?_⟩⟩
  rw [if_neg (fun z => z rfl)]
  refine isW s5 ⟨.inl ⟨rfl, _, SqL.of C41⟩, ix (Same.refl _) ⟨_, rfl, rfl, ?_⟩⟩
  have hlt : decide (((i : Nat) : Int) < 9) = decide (i < 9) := by
    by_cases h9 : i < 9
    · rw [decide_eq_true h9, decide_eq_true (show ((i : Nat) : Int) < 9 by omega)]
    · rw [decide_eq_false h9, decide_eq_false (show ¬ ((i : Nat) : Int) < 9 by omega)]
  rw [hlt, if_neg (fun z => z rfl)]
  walk_at "st"
  have h12 : (12 : Nat) ≤ sizeLine := by decide
  refine ⟨h12, fun L hL => ?_⟩
  have x6 := Same.new (o := .lst [V.str (Str.ofString "number"), V.str (Str.ofString "text"), V.str (Str.ofString "name"), V.str (Str.ofString "levels"), V.str (Str.ofString "switch"), V.str (Str.ofString "mode"), V.str (Str.ofString "menu"), V.str (Str.ofString "plan"), V.str (Str.ofString "command"), V.str (Str.ofString "long"), V.str (Str.ofString "many"), V.str (Str.ofString "undo")]) hL
  refine ⟨.inl ⟨rfl, _, SqL.of (x6 _ _ C41)⟩, ix x6 ⟨_, _, rfl, updS _ _ _, _, ?_, q _ (s5.trans x6)⟩⟩
  rcases hi with rfl | rfl | rfl | rfl | rfl | rfl | rfl | rfl | rfl | rfl | rfl | rfl <;> rfl
end
end Tw
/-! Tw: a lambda is called, an error that comes out is named and shown -/
namespace Tw
open PySem PySem.Spec PyProof.Rows L2 LamX He
open L2H (RoomH)
theorem call_reprU {X : Cx} (gd : X.A.guards = some []) (hu : X.A.units + 40 < cLine) : CallR X (.builtin "repr") (rReprG X.K) := by
  intro pins s σ H xs us Q I r h
  obtain ⟨x, d, rfl, hd, h1, h2, h3, h4, q⟩ := h
  obtain ⟨u, rfl, ru⟩ := vals1 r
  obtain ⟨as, hR⟩ := Dp.reads I d x u hd ru
  cases hR with
  | none => exact PySem.P.repr_of_none ⟨.str _, H, I.tok _, ⟨_, rfl⟩, q⟩
  | bool b => exact PySem.P.repr_of_bool ⟨.str _, H, I.tok _, ⟨_, rfl⟩, q⟩
  | int i t => exact PySem.P.repr_of_int (of_decide_eq_true h1) ⟨.str _, H, I.tok _, ⟨_, rfl⟩, q⟩
  | str y t => exact PySem.P.repr_of_str ⟨.str _, H, I.tok _, ⟨_, rfl⟩, q⟩ h4
  | list a1 a2 a3 a4 => exact repr_of_reads' (.list a1 a2 a3 a4) h1 (fun z => by rw [h2] at z; cases z) gd (by omega) (fun _ _ z => z) (fun h' u tk hk => ⟨.str _, H, I.kept hk, ⟨_, rfl⟩, q⟩) h4
  | tuple a1 a2 a3 a4 => exact repr_of_reads' (.tuple a1 a2 a3 a4) h1 (fun z => by rw [h2] at z; cases z) gd (by omega) (fun _ _ z => z) (fun h' u tk hk => ⟨.str _, H, I.kept hk, ⟨_, rfl⟩, q⟩) h4
  | dict => simp [PyData.hasDict] at h2
def rReprD0 : List V → Hp → VK → Prop := fun xs H Q => ∃ a, xs = [.ref a] ∧ H a = some (.dK []) ∧ Q (.str (PyData.dict []).shown) H
theorem call_reprD0 {X : Cx} (gd : X.A.guards = some []) (hu : X.A.units + 40 < cLine) : CallR X (.builtin "repr") rReprD0 := by
  intro pins s σ H xs us Q I r h
  obtain ⟨a, rfl, ha, q⟩ := h
  rw [Vals.ref1 r]
  have hx : ObjOk X.prog X.w H s.heap a (.dK []) := I.hok a _ ha
  obtain ⟨_, hn, vs, hkv, ho⟩ := hx
  cases hkv
  obtain ⟨o, es, ep, ho, hex, hd, _, hp, _⟩ := ho
  have hes : es = #[] := by
    cases h0 : es.toList with
    | nil => exact Array.toList_inj.mp h0
    | cons x l => rw [h0] at hp; cases hp
  subst hes
  have hr : Reads s.heap (.ref a) (.dict []) (a :: [] ++ []) := .dict (kvs := []) ho hex.1 hd .nil .nil
  have hdp : (PyData.dict []).depth ≤ 8 := by decide
  exact repr_of_reads' hr rfl (fun _ m => by
    have e : sysModules = a := by simpa using m
    rw [← e] at hn
    simp at hn) gd (by omega) (fun _ _ z => z) (fun h' u tk hk => ⟨.str _, H, I.kept hk, ⟨_, rfl⟩, q⟩) (by decide)
def rReprD1 : List V → Hp → VK → Prop := fun xs H Q => ∃ a i j, xs = [.ref a] ∧ H a = some (.dK [(Sum.inl i, .int j)]) ∧ i.natAbs.log2 < 1920 ∧ j.natAbs.log2 < 1920 ∧ (PyData.dict [(.int i, .int j)]).shown.length ≤ sizeLine ∧ Q (.str (PyData.dict [(.int i, .int j)]).shown) H
theorem call_reprD1 {X : Cx} (gd : X.A.guards = some []) (hu : X.A.units + 40 < cLine) : CallR X (.builtin "repr") rReprD1 := by
  intro pins s σ H xs us Q I r h
  obtain ⟨a, i, j, rfl, ha, hi, hj, hz, q⟩ := h
  rw [Vals.ref1 r]
  have hx : ObjOk X.prog X.w H s.heap a (.dK [(Sum.inl i, .int j)]) := I.hok a _ ha
  obtain ⟨hlen, hn, vs, hkv, ho⟩ := hx
  cases hkv with
  | cons h1 h2 =>
    cases h2
    obtain ⟨o, es, ep, ho, hex, hd, hko, hp, hnd⟩ := ho
    generalize hes : es.toList = el at hp
    cases hp with
    | cons k1 v1 r1 =>
      rename_i b e el2
      cases r1
      obtain ⟨bk, bv⟩ := b
      obtain ⟨e1, rv⟩ := h1
      have e1 : (Sum.inl i : Key) = bk := e1
      subst e1
      obtain ⟨t, ek⟩ : ∃ t, e.key = .int i t := by
        have k1 : keyIs (Sum.inl i) e.key = true := k1
        rcases keyIs_shape k1 with ⟨i', t, e1, e2⟩ | ⟨x, t, e1, e2⟩
        · cases e1
          exact ⟨t, e2⟩
        · cases e1
      obtain ⟨t2, ev⟩ : ∃ t, bv = .int j t := rv
      have ev2 : e.val = .int j t2 := v1.trans ev
      have hr : Reads s.heap (.ref a) (.dict [(.int i, .int j)]) (a :: ([] ++ []) ++ ([] ++ [])) := .dict (kvs := [(.int i, .int j)]) ho hex.1 hd (by rw [hes]; show ReadsAll _ [e.key] _ _; rw [ek]; exact .cons (.int i t) .nil) (by rw [hes]; show ReadsAll _ [e.val] _ _; rw [ev2]; exact .cons (.int j t2) .nil)
      have hs : (PyData.dict [(.int i, .int j)]).showable = true := by
        show (decide (i.natAbs.log2 < 1920) && decide (j.natAbs.log2 < 1920) && true) = true
        rw [decide_eq_true hi, decide_eq_true hj]
        rfl
      have hdp : (PyData.dict [(.int i, .int j)]).depth ≤ 8 := by
        show max 0 (max (max 0 0) 0) + 1 ≤ 8
        decide
      exact repr_of_reads' hr hs (fun _ m => by
        have e : sysModules = a := by simpa using m
        rw [← e] at hn
        simp at hn) gd (by omega) (fun _ _ z => z) (fun h' u tk hk => ⟨.str _, H, I.kept hk, ⟨_, rfl⟩, q⟩) hz
def rReprE (K : PySem.W.Frag) : List V → Hp → VK → Prop := fun xs H Q => rReprG K xs H Q ∨ rReprD0 xs H Q ∨ rReprD1 xs H Q
theorem call_reprE {X : Cx} (gd : X.A.guards = some []) (hu : X.A.units + 40 < cLine) : CallR X (.builtin "repr") (rReprE X.K) := fun pins s σ H xs us Q I r h => h.elim (fun z => call_reprU gd hu pins s σ H xs us Q I r z) fun z => z.elim (fun z => call_reprD0 gd hu pins s σ H xs us Q I r z) fun z => call_reprD1 gd hu pins s σ H xs us Q I r z
theorem rReprE.mono {K : PySem.W.Frag} {xs : List V} {H : Hp} {Q Q' : VK} (h : rReprE K xs H Q) (i : ∀ v, Q v H → Q' v H) : rReprE K xs H Q' := by
  rcases h with ⟨y, dat, e1, e2, e3, e4, e5, e6, e7⟩ | ⟨a, e1, e2, e3⟩ | ⟨a, k, j, e1, e2, e3, e4, e5, e6⟩
  · exact .inl ⟨y, dat, e1, e2, e3, e4, e5, e6, i _ e7⟩
  · exact .inr (.inl ⟨a, e1, e2, i _ e3⟩)
  · exact .inr (.inr ⟨a, k, j, e1, e2, e3, e4, e5, i _ e6⟩)
def tXfA (K : PySem.W.Frag) (a : Addr) (cls : Value) (d : Option Addr) (n : PySem.Str) (te : TE) : TE := fun σ H Q => te σ H fun x H1 => x = .ref a ∧ ∃ (C dd : Addr) (fs : List (PySem.Str × V)) (v : V), cls = .ref C ∧ XfC K C ∧ PySem.W.findIn K (.ref C) n = some none ∧ d = some dd ∧ H1 dd = some (.xd fs) ∧ fs.lookup n = some v ∧ Q v H1
theorem pe_xfA {X : Cx} {a : Addr} {oe : Obj} {cls : Value} {d : Option Addr} {pn : List (Addr × Obj)} {e : Expr} {te : TE} {pos : Pos} {n : PySem.Str} (hz : Zc cls d oe) (hf : ∃ vs, oe.data = .fields vs) (he : PE (X.suite a ((a, oe) :: pn)) e te)
    (hb : attributeBase e n X.env (eval e X.env) = eval e X.env := by rfl) : PE (X.suite a ((a, oe) :: pn)) (.Attribute e n pos) (tXfA X.K a cls d n te) := by
  refine ⟨fun pins s σ H Q I h => attr_of hb (thn (he.run pins s σ H _ I h) fun u s1 g => ?_)⟩
  obtain ⟨x, H1, I1, rx, rfl, C, dd, fs, v, rfl, T, hno, rfl, ea, l, q⟩ := g
  obtain rfl : u = Value.ref a := rx
  obtain ⟨vs, hd⟩ := hf
  have ha := (I1.pin (a, oe) (List.mem_append_left _ List.mem_cons_self)).1
  have hx : ObjOk X.prog X.w H1 s1.heap dd (.xd fs) := I1.hok dd _ ea
  obtain ⟨mA, hns, hr⟩ := hx
  obtain ⟨od, ho, hl⟩ := lookIn_ns hns
  obtain ⟨u, hu, ru⟩ := RelO.some_of (v := v) (o := mA n) (by rw [← l]; exact hr n)
  have J : PySem.W.InstAt s1.heap a oe C (some od) := ⟨ha, hz.1, by unfold PySem.W.notCls; rw [hd] <;> rfl, by rw [hz.2]; exact ho⟩
  exact HandSPX.exc_get I1.kIn J T.ga T.gg T.exC (PySem.W.findObj_own T.hdC hno rfl (by rw [hl, hu])) (handed_of ru) ⟨v, H1, I1.tok _, ru, q⟩
def spK (K : PySem.W.Frag) (a : Addr) (cls : Value) (d : Option Addr) : Sp := fun vs H Q _ => ∃ (D : Addr) (i : Nat), vs = [.ref a] ∧ cls = .ref D ∧ KnF K D i ∧ DicO H d ∧ ∀ H', Same H H' → Q (.str (kdN.getD i "")) H'
theorem pe_kind {X : Cx} {a fk : Addr} {oe : Obj} {cls : Value} {d : Option Addr} {pn : List (Addr × Obj)} {x : PySem.Str} {e : Expr} {t : TA} {k : Nat} {p pos : Pos} (F : FnP X.prog X.w X.K X.mg X.base k fk (sp__law_kind X.K)) (hr : RoomH k (X.suite a ((a, oe) :: pn)).A) (hz : Zc cls d oe) (hf : ∃ vs, oe.data = .fields vs)
    (hg : Gl X x) (hm : X.mg x = some (.ref fk)) (hk : PySem.W.keepIn X.K (.ref fk) = true) (ha : PA (X.suite a ((a, oe) :: pn)) [e] t) (hdb : (x == ("__debug__" : PySem.Str)) = false := by decide) (he : starEach [e] X.env = (false, eval e X.env) :: starEach [] X.env := by rfl) :
    PE (X.suite a ((a, oe) :: pn)) (.Call (.Name x p) [e] [] pos) (tFn (spK X.K a cls d) C8.E0 t) := ⟨fun pins s σ H Q I h =>
  wpAny_Call_Name_kw (ld_glob (X := X.suite a ((a, oe) :: pn)) I hg hm (PySem.W.callWith_K (h₀ := X.base) I.ok.mod.kin hk
    (thn (ha.run pos pins s σ H _ I h) fun us s1 ⟨vs, H1, I1, r, z⟩ => ⟨I1.kIn, call_fnP (X := X.suite a ((a, oe) :: pn)) (q := (a, oe)) F hr List.mem_cons_self I1 r (by
      obtain ⟨D, i, e1, rfl, e2, e3, e4⟩ := z
      exact ⟨D, d, i, e1, e2, hz, hf, e3, e4⟩)⟩) he rfl) hdb)⟩
def tsF (K : PySem.W.Frag) (fld : PySem.Str) (a : Addr) (cls : Value) (d : Option Addr) : TS := tRet (tLst (tCons (tFn (spK K a cls d) C8.E0 (tCons (tVar 1) tNil)) (tCons (tCB (rReprE K) (tCons (tXfA K a cls d fld (tVar 1)) tNil)) tNil)))
def tsU (K : PySem.W.Frag) (a : Addr) (cls : Value) (d : Option Addr) : TS := tRet (tLst (tCons (tFn (spK K a cls d) C8.E0 (tCons (tVar 1) tNil)) (tCons (tC (.str "")) tNil)))
def tsN : Addr → Value → Option Addr → TS := fun _ _ _ _ _ _ => False
def clK (K : PySem.W.Frag) : List Cl := [(.ref (ga K "WheelError"), 1, tsF K "value"), (.ref (ga K "TooLong"), 1, tsF K "delay"), (.ref (ga K "TooMany"), 1, tsF K "limit"), (.ref (ga K "NothingToUndo"), 1, tsU K)]
def ErFld (K : PySem.W.Frag) (fld : PySem.Str) (D : Addr) (fs : List (PySem.Str × V)) (i : Nat) (H' : Hp) (Q : VK) : Prop := ∃ v : V, XfC K D ∧ PySem.W.findIn K (.ref D) fld = some none ∧ fs.lookup fld = some v ∧
  ∀ H2, Same H' H2 → rReprE K [v] H2 fun x H3 => ∀ R, H3 R = none → Q (.ref R) (upd H3 R (.lst [.str (kdN.getD i ""), x]))
def ErOutV (K : PySem.W.Frag) (Q : VK) : XK := fun cls d H' => ∃ (D dd : Addr) (fs : List (PySem.Str × V)) (i : Nat), cls = .ref D ∧ d = some dd ∧ KnF K D i ∧ H' dd = some (.xd fs) ∧
  ((exmN K D "WheelError" true ∧ ErFld K "value" D fs i H' Q) ∨ (exmN K D "WheelError" false ∧ exmN K D "TooLong" true ∧ ErFld K "delay" D fs i H' Q) ∨
    (exmN K D "WheelError" false ∧ exmN K D "TooLong" false ∧ exmN K D "TooMany" true ∧ ErFld K "limit" D fs i H' Q))
def ErOutU (K : PySem.W.Frag) (Q : VK) : XK := fun cls d H' => ∃ (D : Addr) (i : Nat), cls = .ref D ∧ d = none ∧ KnF K D i ∧ exmN K D "WheelError" false ∧ exmN K D "TooLong" false ∧ exmN K D "TooMany" false ∧ exmN K D "NothingToUndo" true ∧
  ∀ H2, Same H' H2 → ∀ R, H2 R = none → Q (.ref R) (upd H2 R (.lst [.str (kdN.getD i ""), .str ""]))
def ErOut (K : PySem.W.Frag) (Q : VK) : XK := fun cls d H' => ErOutV K Q cls d H' ∨ ErOutU K Q cls d H'
def TCg (K : PySem.W.Frag) : (XK → Hp → VK → Prop) → Hp → VK → Prop := fun tl H Q => tl (ErOut K Q) H fun _ H' => Q .non H'
theorem caught_gives {X : Cx} {Ng : List PySem.Str} {x a q : PySem.Str} {sg : Scope} {g : Addr} {cdg : Value} {h1 : ExceptHandler} {hs : List ExceptHandler} {st : List Stmt} {p1 p2 p3 p8 : Pos} (hNd : Ng.Nodup) (hN : Ng.length = 2)
    (hcl : ∀ (s : Shared) (H : Hp), ClsOk (cxOf C8.CX0 X.prog X.w X.K X.mg X.base Ng x sg g cdg X.A X.stack s H C8.E0).nox (h1 :: hs) (clK X.K)) (hst : ∀ (s : Shared) (H : Hp), PSs (cxOf C8.CX0 X.prog X.w X.K X.mg X.base Ng x sg g cdg X.A X.stack s H C8.E0).nox st (tRet (tC .non)))
    (h0 : ∀ f : Addr, (L2.start Ng [V.ref f])[0]? = some (some (V.ref f))) :
    GivesTo X Ng x sg g cdg (.Try [.Expr (.Call (.Name a p1) [] [] p2) p3] (h1 :: hs) [] [] p8 :: st) a q (TCg X.K) := by
  intro f c' s H Q tl act hc h
  refine ⟨_, pss_cons (ps_try_all (X := (cxOf C8.CX0 X.prog X.w X.K X.mg X.base Ng x sg g cdg X.A X.stack s H C8.E0).nox)
      (tb := fun W D σ H => ∃ Ech : XK, (∀ cls d σ' H', Ech cls d H' → W cls d σ' H') ∧ σ[0]? = some (some (.ref f)) ∧ H c' = some (CodeO c' q) ∧ tl Ech H fun _ H' => D.nx σ H') rfl rfl hNd L2.takes0 (fun W pn xe tk _ => ?_) (hcl s H)) (hst s H), ?_⟩
  · refine ⟨fun pins s' σ H' D I h' => ?_⟩
    obtain ⟨Ech, hW, e1, e2, e3⟩ := h'
    exact (pss_one (ps_expr (pos := p3) (act W pn xe Ech p1 p2 tk hW))).run pins s' σ H' D I ⟨e1, e2, e3⟩
  · refine ⟨ErOut X.K Q, fun cls d σ' H' hE => ?_, h0 f, hc, h⟩
    rcases hE with hE | hE
    case inr =>
      obtain ⟨D, i, rfl, rfl, F, w1, w2, w3, w4, hq⟩ := hE
      refine ⟨false, w1, fun z => (by cases z), fun _ => ⟨false, w2, fun z => (by cases z), fun _ => ⟨false, w3, fun z => (by cases z), fun _ => ⟨true, w4, fun _ hlen e he => ?_, fun z => by cases z⟩⟩⟩⟩
      have hlen' : σ'.length = Ng.length := hlen
      have hv : (σ'.set 1 (some (V.ref e)))[1]? = some (some (V.ref e)) := by rw [List.getElem?_set_self (by rw [hlen']; omega)]
      exact ⟨_, hv, D, i, rfl, rfl, F, dicO_none, fun H2 s2 => ⟨(show 2 ≤ 16777216 by decide), fun R hR => hq H2 s2 R hR⟩⟩
    obtain ⟨D, dd, fs, i, rfl, rfl, F, hdd, hE⟩ := hE
    have say : ∀ (fld : PySem.Str), ErFld X.K fld D fs i H' Q → σ'.length = Ng.length → ∀ (e : Addr) (DD : Ends), DD.rt = Q → tsF X.K fld e (.ref D) (some dd) DD (σ'.set 1 (some (V.ref e))) H' := fun fld hF hlen e DD hrt => by
      obtain ⟨v, T, hno, hl, hr⟩ := hF
      have hv : (σ'.set 1 (some (V.ref e)))[1]? = some (some (V.ref e)) := by rw [List.getElem?_set_self (by rw [hlen]; omega)]
      refine ⟨_, hv, D, i, rfl, rfl, F, dicO_some hdd, fun H2 s2 => ⟨_, hv, rfl, D, dd, fs, v, rfl, T, hno, rfl, s2 _ _ hdd, hl, ?_⟩⟩
      exact (hr H2 s2).mono fun x hx => ⟨(show 2 ≤ 16777216 by decide), fun R hR => by rw [hrt]; exact hx R hR⟩
    rcases hE with ⟨w1, hF⟩ | ⟨w1, w2, hF⟩ | ⟨w1, w2, w3, hF⟩
    · exact ⟨true, w1, fun _ hlen e he => say _ hF hlen e _ rfl, fun z => by cases z⟩
    · exact ⟨false, w1, fun z => (by cases z), fun _ => ⟨true, w2, fun _ hlen e he => say _ hF hlen e _ rfl, fun z => by cases z⟩⟩
    · exact ⟨false, w1, fun z => (by cases z), fun _ => ⟨false, w2, fun z => (by cases z), fun _ => ⟨true, w3, fun _ hlen e he => say _ hF hlen e _ rfl, fun z => by cases z⟩⟩⟩
end Tw
/-! Tw: a call in a try whose errors are told with the slots as they stand -/
namespace Tw
open PySem PySem.Spec PyProof.Rows L2
section
variable {X : Cx} {k : Nat} {f : Addr} {sp : Sp} {W : WX} {x : PySem.Str} {e : Expr} {es : List Expr} {t : TA} {p pos : Pos}
def tFnW (sp : Sp) (W : WX) (t : TA) : TE := fun σ H Q => t σ H fun vs H1 => ∃ E : XK, sp vs H1 Q E ∧ ∀ cls d H', E cls d H' → W cls d σ H'
def tTryF (K : PySem.W.Frag) (n : Nat) (sp : Sp) (t : TA) (l : List Cl) : TS := fun D σ H => tDrop (tFnW sp (wAll K n (fun _ _ _ _ => False) D l) t) D σ H
end
end Tw
/-! Tw: own methods for + - * - and abs -/
namespace GB
open PySem PySem.Calls PyProof.Rows PySem.W
section
variable {prog : Program} {w : World} {M : Model} {A : Around} {E : Value → Shared → Prop} {s : Shared} {K : Frag} {x y C L f : Addr} {h₀ : Heap} {m : Str → Option Value} {ox oy : Obj} {od oe : Option Obj}
theorem binS {op : Operator} {Q : Value → Shared → Prop} (F : Fr h₀ L s.heap m) (X₀ : K.In h₀) (I : InstAt s.heap x ox C od) (J : InstAt s.heap y oy C oe) (hc : selfFirst K C = true)
    (hs : findIn K (.ref C) (PySem.dunder op.info.2) = some (some (.ref f))) (hf : isFn K (.ref f) = true)
    (h : wpAny (model prog w) A (call (.ref f) [.ref x, .ref y]) (PySem.W.CmpBack Q) E s) : wpAny (model prog w) A (binaryOp op (.ref x) (.ref y)) Q E s := by
  have X := X₀.keeps F.keep
  obtain ⟨cd, rest, hcd, hm⟩ := ksp_first hc
  rcases hi : op.info with ⟨sym, nm'⟩
  rw [hi] at hs
  dsimp only at hs
  have one := ksp_try X I hs hf h
  obtain ⟨hh, g, d, tt, os⟩ := s
  have L1 : Looks (model prog w) hh (typeOf (.ref x)) (.ref C) := I.type
  have L2 : Looks (model prog w) hh (typeOf (.ref y)) (.ref C) := J.type
  have L3 : Looks (model prog w) hh (fillsNumberSlot (.ref C) nm') true := fills_K X hcd hm hs
  have hne : (Value.ref C == Value.ref C) = true := beq_iff_eq.mpr rfl
  simp only [binaryOp, hi]
  refine wpAny_holding (wpAny_bind ?_)
  unfold binaryOp1
  refine wpAny_bind (L1.at (wpAny_bind (L2.at (wpAny_bind (L3.at ?_)))))
  simp only [hne, if_true]
  ksp_lk
  refine wpAny_mono one (fun r s' hr' => ?_) fun _ _ e => e
  obtain ⟨v, rfl, hq⟩ := hr'
  ksp_lk
  exact hq
theorem binIO {op : Operator} {id : String} {B : Builtin} {i : Int} {t : Tok} {f2 : Addr} {Q : Value → Shared → Prop} (F : Fr h₀ L s.heap m) (X₀ : K.In h₀) (J : InstAt s.heap y oy C oe) (hc : selfFirst K C = true)
    (hs2 : findIn K (.ref C) (PySem.dunder op.info.2) = some (some (.ref f2))) (hs : findIn K (.ref C) (dunderR op.info.2) = some (some (.ref f))) (hf : isFn K (.ref f) = true) (hsub : subIn K (.ref C) (.type "int") = some false)
    (fills : fillsNumberSlot (.type "int") op.info.2 = pure true) (slot : Slot "int" (PySem.dunder op.info.2) id) (entry : entryFor table id = some B) (args : argsOk id ⟨[.int i t, .ref y], []⟩)
    (g : GivesAt (fun s => s.heap.get? y = some oy) (B ⟨[.int i t, .ref y], []⟩) (.val .notImplemented))
    (h : wpAny (model prog w) A (call (.ref f) [.ref y, .int i t]) (PySem.W.CmpBack Q) E s) : wpAny (model prog w) A (binaryOp op (.int i t) (.ref y)) Q E s := by
  have X := X₀.keeps F.keep
  obtain ⟨cd, rest, hcd, hm⟩ := ksp_first hc
  rcases hi : op.info with ⟨sym, nm'⟩
  rw [hi] at hs hs2 fills slot
  dsimp only at hs hs2 fills slot
  have one := ksp_try X J hs hf h
  have hT : s.TypeIs (.int i t) "int" := typeIs_int s i t
  have two : ∀ {Q' : Option Value → Shared → Prop}, Q' none s → wpAny (model prog w) A (tryMethod (.int i t) (PySem.dunder nm') (.ref y)) Q' E s := fun q =>
    wpAny_tryMethod_declines hT slot (call_givesAt slot hT entry args g J.at_ ⟨rfl, q⟩)
  obtain ⟨hh, g, d, tt, os⟩ := s
  have L1 : Looks (model prog w) hh (typeOf (.int i t)) (.type "int") := Looks.of_pure rfl
  have L2 : Looks (model prog w) hh (typeOf (.ref y)) (.ref C) := J.type
  have L3 : Looks (model prog w) hh (fillsNumberSlot (.ref C) nm') true := fills_K X hcd hm hs2
  have L4 : Looks (model prog w) hh (fillsNumberSlot (.type "int") nm') true := Looks.of_pure fills
  have L5 : Looks (model prog w) hh (isSubtype (.ref C) (.type "int")) false := looks_subIn X hsub
  have L7 : Looks (model prog w) hh (numberSlotInPython (.type "int") nm') false := Looks.of_pure rfl
  have hne : (Value.type "int" == Value.ref C) = false := Bool.eq_false_iff.mpr fun q => by cases beq_iff_eq.mp q
  simp only [binaryOp, hi]
  refine wpAny_holding (wpAny_bind ?_)
  unfold binaryOp1
  refine wpAny_bind (L1.at (wpAny_bind (L2.at (wpAny_bind (L4.at ?_)))))
  simp only [hne, Bool.false_eq_true, if_false]
  refine wpAny_bind (L3.at ?_)
  simp only [Bool.and_self, if_true]
  refine wpAny_bind (L5.at ?_)
  simp only [Bool.false_eq_true, if_false, pure_bind, Bool.not_false, Bool.and_self, if_true]
  refine wpAny_bind (L7.at ?_)
  simp only [Bool.false_eq_true, if_false, pure_bind, Bool.not_false, Bool.and_self, if_true]
  refine wpAny_bind (two ?_)
  simp only [Bool.false_eq_true, if_false, pure_bind, Bool.not_false, Bool.and_self, if_true]
  refine wpAny_bind (wpAny_mono one (fun r s' hr' => ?_) fun _ _ e => e)
  obtain ⟨v, rfl, hq⟩ := hr'
  ksp_lk
  exact hq
theorem absO {Q : Value → Shared → Prop} (F : Fr h₀ L s.heap m) (X₀ : K.In h₀) (I : InstAt s.heap x ox C od) (hs : findIn K (.ref C) "__abs__" = some (some (.ref f))) (hf : isFn K (.ref f) = true)
    (h : wpAny (model prog w) A.in1 (call (.ref f) [.ref x]) Q E s) : wpAny (model prog w) A (call (.builtin "abs") [.ref x]) Q E s := by
  have X := X₀.keeps F.keep
  refine call_function_entry PyProof.Rows.kind_abs PyProof.Rows.plain_abs PyProof.Rows.entry_abs (PyProof.Rows.args_abs _) ?_
  unfold Builtin.«abs»
  refine wpAny_bind (m := oneArg "abs" _) (wpAny_pure ?_)
  refine wpAny_bind (m := callSpecial? (.ref x) (Str.ofString "__abs__")) (special_fn (args := []) X I hs (beq_iff_eq.mp hf) (wpAny_mono h (fun v s' hv => ?_) fun _ _ z => z))
  exact wpAny_pure ⟨_, rfl, hv⟩
end
end GB
namespace Tw
open PySem PySem.Spec PyProof.Rows L2
section
variable {X : Cx} {CX : CXT} {k : Nat} {C g : Addr} {sp : Sp} {E : XK}
def rBinS (C : Addr) (sp : Sp) (E : XK) : R2 := fun x y H Q => ∃ a b dx fs dy gs, x = .ref a ∧ y = .ref b ∧ H a = some (.ins C dx fs) ∧ H b = some (.ins C dy gs) ∧ sp [.ref a, .ref b] H (fun v H' => ∃ c, v = .ref c ∧ Q (.ref c) H') E
def rBinI (C : Addr) (sp : Sp) (E : XK) : R2 := fun x y H Q => ∃ a dx fs i, x = .ref a ∧ y = .int i ∧ H a = some (.ins C dx fs) ∧ sp [.ref a, .int i] H (fun v H' => ∃ c, v = .ref c ∧ Q (.ref c) H') E
def rBinR (C : Addr) (sp : Sp) (E : XK) : R2 := fun x y H Q => ∃ a dx fs i, x = .int i ∧ y = .ref a ∧ H a = some (.ins C dx fs) ∧ sp [.ref a, .int i] H (fun v H' => ∃ c, v = .ref c ∧ Q (.ref c) H') E
def rNegO (C : Addr) (sp : Sp) (E : XK) : V → Hp → VK → Prop := fun x H Q => ∃ a dx fs, x = .ref a ∧ H a = some (.ins C dx fs) ∧ sp [.ref a] H (fun v H' => ∃ c, v = .ref c ∧ Q (.ref c) H') E
def rAbsO (C : Addr) (sp : Sp) (E : XK) : List V → Hp → VK → Prop := fun xs H Q => ∃ a dx fs, xs = [.ref a] ∧ H a = some (.ins C dx fs) ∧ sp [.ref a] H (fun v H' => ∃ c, v = .ref c ∧ Q (.ref c) H') E
end
end Tw
/-! Tw: a method called in a try, x or n of ints, floor division by wide numbers of either sign -/
namespace Tw
open PySem PySem.Spec PyProof.Rows L2
section
variable {X : Cx} {k : Nat} {C f : Addr} {sp : Sp} {W : WX} {m : PySem.Str} {o e : Expr} {es : List Expr} {ta : TE} {t : TA} {apos pos : Pos} {pl : Sem Bool}
def tMethW (C : Addr) (m : PySem.Str) (sp : Sp) (W : WX) (ta : TE) (t : TA) : TE := fun σ H Q => ta σ H fun x H1 => ∃ a dx fs, x = .ref a ∧ H1 a = some (.ins C dx fs) ∧ fs.lookup m = none ∧ t σ H1 fun vs H2 => ∃ E : XK, sp (x :: vs) H2 Q E ∧ ∀ cls d H', E cls d H' → W cls d σ H'
def tTryMt (K : PySem.W.Frag) (n : Nat) (C : Addr) (m : PySem.Str) (sp : Sp) (ta : TE) (t : TA) (l : List Cl) : TS := fun D σ H => tDrop (tMethW C m sp (wAll K n (fun _ _ _ _ => False) D l) ta t) D σ H
def tOrI (ta tb : TE) : TE := fun σ H Q => ta σ H fun x H1 => ∃ i, x = .int i ∧ if i = 0 then tb σ H1 Q else Q (.int i) H1
abbrev oDivA : R2 := rI (fun _ j => j ≠ 0 ∧ j.natAbs.log2 < 9000) fun i j => .int (i.fdiv j)
theorem op_fdivA : OpR X (binaryOp .FloorDiv) oDivA := opI fun i j _ _ _ _ _ hc q => floordiv_int hc.1 q (.inl (PyProof.noPylong_of_log2 hc.2))
theorem op_cmpP {op : CmpOp} {nm : PySem.Str} {g : Addr} {q : Addr × Obj} {sq : Sp} (hs : PySem.W.findIn X.K (.ref C) nm = some (some (.ref g))) (hf : PySem.W.isFn X.K (.ref g) = true) (F : FnP X.prog X.w X.K X.mg X.base k g (fun _ => sq)) (hr : L2H.RoomH k X.A) (hq : q ∈ X.pn)
    (hn : (cmpInfo op).2.1 = nm := by rfl) (hop : ∀ v u, compareOp op v u = richCompare op v u := by intro _ _; rfl) : OpR X (compareOp op) (rCmpO C sq C8.E0) := by
  intro pins s σ H x y v u Q I rx ry h
  obtain ⟨a, dx, fs, b, dy, gs, rfl, rfl, ea, eb, qq⟩ := h
  cases (show v = Value.ref a from rx)
  cases (show u = Value.ref b from ry)
  rw [hop]
  obtain ⟨mA, O, _⟩ := ins_get I.hok ea
  obtain ⟨od, J, _⟩ := O.look
  obtain ⟨mB, O', _⟩ := ins_get I.hok eb
  obtain ⟨od', J', _⟩ := O'.look
  obtain ⟨m, hF⟩ := I.fr
  refine PySem.W.cmp_K (op := op) (tb := .ref C) (by have := hr.un; omega) hF I.ok.mod.kin J J'.type (by simp [PySem.W.notFirst]) (by rw [hn]; exact hs) hf ?_
  refine wpAny_mono (call_fnP (us := [.ref a, .ref b]) (vs := [.ref a, .ref b]) F hr hq I (.cons rfl (.cons rfl .nil)) qq) (fun w s' z => ?_) fun _ _ x => x
  obtain ⟨z', H', I', rz, c, ez, qz⟩ := z
  subst ez
  cases (show w = Value.bool c from rz)
  exact ⟨.bl c, H', I', rfl, qz⟩
end
end Tw
/-! Tw: shares of any size, and their arithmetic -/
namespace Tw
open PySem PySem.Spec PyProof.Rows L2 He TwM StX
open PySem.W (Frag)
local macro_rules | `(tactic| walk_at "rsl") => `(tactic| simp only [*, at3_0, at3_1, at3_2, at2_0, at2_1, updS, upd_two, gSub, rSetL, updN, tPar, tPar3, gTup, gCons, gNil, and_assoc, not_true_eq_false, not_false_eq_true, tNever, List.length_map, tFld, rIxTH, rIxLH, rLenTH, rLenLH, lk1, lfs_g, lfs_s, lfs_p, HO.ins.injEq, HO.tup.injEq, HO.lst.injEq, sp_Book_rounding, sp_Book_action, sp_Book_order, sp_Book_due, sp_Book_zero, sp_Book_beyond, Int.toNat_natCast, sp_visit_after, sp_is_visited, sp_Level_grain, sp_Level_slots, sp_Level_span, sp_Wheel_reach, sp_Wheel___len__, sp_is_integer, sp_is_count, sp_is_within, sp_rounded, tAsg, gName, tVar, tC, tOp, rI, rI0, rU, tUn, oAdd, oSub, oMul, oDiv, oMod, oNeg, oLt, oLe, oGt, oGe, oIsN, oNotN, tFn, tCons, tNil, tIfS, tIf, tTest, tB, tNot, tAnd, tOr, tAndV, tOrV, tNotV,
    tRet, tRetN, tNext, tCB, tDrop, tChain, rEq, rNe, oMax2, oMin2, oInt1, rLenF, L2.start, List.map_cons, List.map_nil, List.length_cons, List.length_nil, List.replicate_succ, List.replicate_zero, List.cons_append, List.nil_append, Nat.reduceAdd, Nat.reduceSub, Nat.zero_add,
    List.set_cons_zero, List.set_cons_succ, List.getElem?_cons_zero, List.getElem?_cons_succ, Option.some.injEq, V.int.injEq, V.ref.injEq, V.str.injEq, V.bl.injEq, exists_eq_left', exists_eq_left, exists_and_left, List.cons.injEq, and_true, true_and, decide_eq_true_eq, sc_ii, sc_ss, sc_bb, sc_ni, sc_in, sc_nn, sc_is, reduceCtorEq,
    Bool.not_eq_true', decide_eq_false_iff_not, if_true, if_false, Bool.false_eq_true, exists_eq', exists_const, false_and, and_false, or_false, false_or, exists_false, Bool.not_not, Bool.not_true, Bool.not_false, sUp_up, sFire_fire, sHigh_high, sPut_put, sZone_now, sBey_refuse, sBey_cut, tTup, tLst, sz0, sz1, sz2, sz3, sz4, sz5, sz6])
local macro_rules | `(tactic| walk_at "st") => `(tactic| ((try dsimp only); rw [seq1]; walk_at "rsl"))
structure Kxm (K : Frag) (w : World) : Prop where
  ks : Ks K w
  st : PySem.W.kitAny K (.ref (ga K "Share")) [.type "int", .ref (ga K "Share")] = some true
def ShQ (K : Frag) (H : Hp) (a : Addr) (q : Rat) : Prop := ShAt K H a q.num q.den
def PartQ (K : Frag) (H : Hp) (v : V) (q : Rat) : Prop := (∃ n : Int, v = .int n ∧ q = (n : Rat)) ∨ ∃ s, v = .ref s ∧ ShQ K H s q
section
variable {K : Frag} {w : World}
theorem ShQ.same {H H' : Hp} {a : Addr} {q : Rat} (h : ShQ K H a q) (s : Same H H') : ShQ K H' a q := ShAt.same h s
theorem ShQ.sameP {p l : Addr} {H H' : Hp} {a : Addr} {q : Rat} (hp : PoolAt H p l) (h : ShQ K H a q) (s : SameP p l H H') : ShQ K H' a q := h.elim fun dx e => ⟨dx, hp.ins s e⟩
theorem PartQ.same {H H' : Hp} {v : V} {q : Rat} (h : PartQ K H v q) (s : Same H H') : PartQ K H' v q := h.imp id fun z => z.imp fun a y => ⟨y.1, y.2.same s⟩
theorem log_of {x : Int} {k : Nat} (h : x.natAbs < 2 ^ k) (hk : 0 < k) : x.natAbs.log2 < k := by
  by_cases hz : x.natAbs = 0
  · rw [hz]; exact hk
  · exact (Nat.log2_lt hz).mpr h
theorem seq_mid01 {a b : TS} {D : Ends} {σ : L2.St} {H : Hp} (I : L2.St → Hp → Prop) (h1 : ∀ R : L2.St → Hp → Prop, (∀ σ' H', I σ' H' → R σ' H') → a { D with nx := R } σ H) (h2 : ∀ σ' H', I σ' H' → b D σ' H') : tSeq a b D σ H := h1 _ h2
def sp_Share___init__ (K : Frag) : Sp := fun vs H Q _ => ∃ (x dx : Addr) (u lo : Int), vs = [.ref x, .int u, .int lo] ∧ lo ≠ 0 ∧ u.natAbs < 2 ^ 900 ∧ lo.natAbs < 2 ^ 900 ∧ H x = some (.ins (ga K "Share") dx []) ∧ ∀ H', SameX x H H' → ShQ K H' x (Rat.divInt u lo) → Q .non H'
def t_Share___init__ (K : Frag) (w : World) : TS :=
  (tSeq (tIfS (tNot (tB (tFn (sp_is_integer K) E0 (tCons (tVar 1) tNil)))) tNever tNext)
  (tSeq (tIfS (tOr (tNot (tB (tFn (sp_is_integer K) E0 (tCons (tVar 2) tNil)))) (tTest (tOp rEq (tVar 2) (tC (.int 0))))) tNever tNext)
  (tSeq (tAsg (tFn (sp_common_divisor K) E0 (tCons (tVar 1) (tCons (tCB oAbs (tCons (tVar 2) tNil)) tNil))) (gName 3))
  (tSeq (tIfS (tTest (tOp oLt (tVar 2) (tC (.int 0)))) (tAsg (tUn oNeg (tVar 3)) (gName 3)) tNext)
  (tSeq (sFld K (tVar 0) (tOp oDivA (tVar 1) (tVar 3)) "kept_top")
  (sFld K (tVar 0) (tOp oDivA (tVar 2) (tVar 3)) "kept_bottom"))))))
def n_Share___init__ : List Str := ["self", "top", "bottom", "divisor"]
theorem rd_Share___init__ (T : Ks K w) (vs : List V) (H : Hp) (Q : VK) (E : XK) (h : sp_Share___init__ K vs H Q E) : t_Share___init__ K w { nx := fun _ H' => Q .non H', rt := Q } (L2.start n_Share___init__ vs) H := by
  obtain ⟨x, dx, u, lo, rfl, hl, hub, hlb, hx, q⟩ := h
  have c3 := T.cS
  have n1 := T.nSt
  have n2 := T.nSb
  unfold t_Share___init__ n_Share___init__ sFld
  rw [seq1]
  walk_at "rsl"
  walk_at "st"
  walk_at "st"
  refine ⟨lo, rfl, u, _, rfl, by split <;> omega, fun g hgg => ?_⟩
  have hg : IsG u lo g := ⟨hgg.1, fun d => by
    rw [← hgg.2 d]
    split
    · rw [Int.dvd_neg]
    · exact Iff.rfl⟩
  have ht := top_at hl hg
  have hgb : g.natAbs.log2 < 900 := by
    have h1 := Nat.le_of_dvd (by omega) (Int.natAbs_dvd_natAbs.mpr ((hg.2 g).mpr (Int.dvd_refl g)).2)
    exact log_of (Nat.lt_of_le_of_lt h1 hlb) (by decide)
  have hg0 := hgg.1
  clear hgg
  try dsimp only
  refine seq_mid01 (fun σ H' => σ = [some (.ref x), some (.int u), some (.int lo), some (.int (if lo < 0 then -g else g))] ∧ H' = H) (fun R hR => ?_) ?_
  · refine ⟨_, rfl, lo, 0, rfl, rfl, _, rfl, ?_⟩
    try dsimp only
    by_cases hn : lo < 0
    · rw [if_pos (decide_eq_true hn)]
      refine ⟨_, rfl, g, rfl, hR _ _ ⟨?_, rfl⟩⟩
      rw [if_pos hn]
      rfl
    · rw [if_neg (by rw [decide_eq_false hn]; decide)]
      exact hR _ _ ⟨by rw [if_neg hn], rfl⟩
  rintro σ H' ⟨rfl, rfl⟩
  have hD : (if lo < 0 then -g else g) ≠ 0 ∧ (if lo < 0 then -g else g).natAbs.log2 < 9000 := by
    split
    · rw [Int.natAbs_neg]; omega
    · omega
  generalize (if lo < 0 then -g else g) = D at *
  rw [seq1]
  refine ⟨_, rfl, _, rfl, u, rfl, D, rfl, hD.1, hD.2, _, rfl, x, rfl, _, dx, _, hx, T.cS, T.nSt, (show (0 : Nat) < 1000 by decide), ?_⟩
  rw [ht.1]
  rw [show putF "kept_top" (V.int (Rat.divInt u lo).num) ([] : List (Str × V)) = ([("kept_top", .int (Rat.divInt u lo).num)] : List (Str × V)) by rfl]
  refine ⟨_, rfl, _, rfl, lo, rfl, D, rfl, hD.1, hD.2, _, rfl, x, rfl, _, dx, _, updS _ _ _, T.cS, T.nSb, (show (1 : Nat) < 1000 by decide), ?_⟩
  rw [ht.2, show putF "kept_bottom" (V.int (Rat.divInt u lo).den) ([("kept_top", .int (Rat.divInt u lo).num)] : List (Str × V)) = ([("kept_top", .int (Rat.divInt u lo).num), ("kept_bottom", .int (Rat.divInt u lo).den)] : List (Str × V)) by
    simp only [putF]
    rw [if_neg (by decide +kernel)], upd_two]
  exact q _ (fun b o n e => by rw [upd_ne n]; exact e) ⟨dx, updS _ _ _⟩
theorem sh_make {H : Hp} {Q : VK} {u lo : Int} (h0 : lo ≠ 0) (hu : u.natAbs < 2 ^ 900) (hl : lo.natAbs < 2 ^ 900) (q : ∀ a H', Same H H' → ShQ K H' a (Rat.divInt u lo) → Q (.ref a) H') (x dx : Addr) (hx : H x = none) (hd : H dx = none) :
    sp_Share___init__ K [.ref x, .int u, .int lo] (upd (upd H dx (.own x)) x (.ins (ga K "Share") dx [])) (fun v H2 => v = .non ∧ Q (.ref x) H2) E0 :=
  ⟨x, dx, u, lo, rfl, h0, hu, hl, upd_same, fun H' s z => ⟨rfl, q x H' (SameX.made hx hd s) z⟩⟩
theorem mk_sh {ta tb : TE} {σ : L2.St} {H : Hp} {Q : VK} {u lo : Int} (ha : ∀ Q : VK, Q (.int u) H → ta σ H Q) (hb : ∀ Q : VK, Q (.int lo) H → tb σ H Q) (h0 : lo ≠ 0) (hu : u.natAbs < 2 ^ 900) (hl : lo.natAbs < 2 ^ 900) (q : ∀ a H', Same H H' → ShQ K H' a (Rat.divInt u lo) → Q (.ref a) H') :
    tMakeR (ga K "Share") (sp_Share___init__ K) E0 (tCons ta (tCons tb tNil)) σ H Q := ha _ (hb _ fun x dx hx hdx _ => sh_make h0 hu hl q x dx hx hdx)
theorem fld_top {i : Nat} {a : Addr} {q : Rat} {σ : L2.St} {H : Hp} {Q : VK} (T : Ks K w) (hi : σ[i]? = some (some (.ref a))) (h : ShQ K H a q) (k : Q (.int q.num) H) : tFld K (tVar i) "kept_top" σ H Q := by
  obtain ⟨dx, h⟩ := h
  exact ⟨_, hi, a, _, dx, _, _, rfl, h, T.cS, T.nSt, lk1 _ _ _, k⟩
theorem fld_bot {i : Nat} {a : Addr} {q : Rat} {σ : L2.St} {H : Hp} {Q : VK} (T : Ks K w) (hi : σ[i]? = some (some (.ref a))) (h : ShQ K H a q) (k : Q (.int q.den) H) : tFld K (tVar i) "kept_bottom" σ H Q := by
  obtain ⟨dx, h⟩ := h
  exact ⟨_, hi, a, _, dx, _, _, rfl, h, T.cS, T.nSb, sh_bot .., k⟩
def sp_share_of (K : Frag) : Sp := fun vs H Q _ => ∃ v q, vs = [v] ∧ PartQ K H v q ∧ Bd 800 q ∧ ∀ s H', Same H H' → ShQ K H' s q → Q (.ref s) H'
def t_share_of (K : Frag) (w : World) : TS :=
  (tSeq (tIfS (tB (tCB (rIsi K) (tCons (tVar 0) (tCons (tC (.ref (ga K "Share"))) tNil)))) (tRet (tVar 0)) tNext)
  (tRet (tMake (ga K "Share") (sp_Share___init__ K) [.int 1] E0 (tCons (tVar 0) tNil))))
def n_share_of : List Str := ["number"]
theorem rd_share_of (T : Ks K w) (vs : List V) (H : Hp) (Q : VK) (E : XK) (h : sp_share_of K vs H Q E) : t_share_of K w { nx := fun _ H' => Q .non H', rt := Q } (L2.start n_share_of vs) H := by
  obtain ⟨v, r, rfl, h, hb, q⟩ := h
  unfold t_share_of n_share_of
  rw [seq1]
  walk_at "rsl"
  rcases h with ⟨n, rfl, rfl⟩ | ⟨a, rfl, h⟩
  · refine isi_int_share T ?_
    refine ⟨false, rfl, ?_⟩
    rw [if_neg (by simp)]
    refine ⟨_, rfl, fun x dx hx hdx hne => ?_⟩
    have hn : n.natAbs < 2 ^ 900 := nat_mono (by have := hb.1; rwa [Rat.num_intCast] at this) (by decide)
    exact sh_make (Q := Q) (by decide) hn (by decide) (fun a H' s z => q a H' s (by rw [← rat_int]; exact z)) x dx hx hdx
  · obtain ⟨dx, h1⟩ := id h
    refine isi_share T h1 ?_
    refine ⟨true, rfl, ?_⟩
    rw [if_pos rfl]
    exact q a H (Same.refl _) h
theorem isT_part {i : Nat} {v : V} {r : Rat} {σ : L2.St} {H : Hp} {Q : VK} (T : Kxm K w) (hi : σ[i]? = some (some v)) (h : PartQ K H v r) (k : ∀ H', Same H H' → Q (.bl true) H') : tCB (rIsiT K) (tCons (tVar i) (tCons (tTup (tCons (tC (.ty "int")) (tCons (tC (.ref (ga K "Share"))) tNil))) tNil)) σ H Q := by
  refine ⟨v, hi, (show 2 ≤ 16777216 by decide), fun g hg => ?_⟩
  have s1 := Same.new (o := .tup [.ty "int", .ref (ga K "Share")]) hg
  rcases h with ⟨n, rfl, rfl⟩ | ⟨a, rfl, dx, h⟩
  · exact ⟨.int n, g, _, _, _, true, rfl, updS _ _ _, .cons (.ty _) (.cons (.own _) .nil), .base (.int n), T.ks.kiT, k _ s1⟩
  · exact ⟨.ref a, g, _, _, _, true, rfl, updS _ _ _, .cons (.ty _) (.cons (.own _) .nil), .base (.ins (s1 _ _ h) T.ks.cS T.ks.iS.ca T.ks.iS.cn T.ks.iS.ct T.ks.iS.cm), T.st, k _ s1⟩
theorem mulW {ta tb : TE} {σ : L2.St} {H : Hp} {Q : VK} {i j : Int} (ha : ∀ Q : VK, Q (.int i) H → ta σ H Q) (hb : ∀ Q : VK, Q (.int j) H → tb σ H Q) (hi : i.natAbs < 2 ^ 800) (hj : j.natAbs < 2 ^ 800) (q : Q (.int (i * j)) H) : tOp oMulW ta tb σ H Q :=
  ha _ (hb _ ⟨i, j, rfl, rfl, wide_mul hi hj (by decide) (by decide) (by decide), q⟩)
theorem PartQ.at_ {H : Hp} {v : V} {r : Rat} (h : PartQ K H v r) : PartAt K H v r.num r.den := by
  rcases h with ⟨n, rfl, rfl⟩ | ⟨s, rfl, h⟩
  · exact .inl ⟨by rw [Rat.den_intCast]; rfl, by rw [Rat.num_intCast]⟩
  · exact .inr ⟨s, rfl, h⟩
end
end Tw
/-! Tw: a def of the law that makes lambdas; _law_caught called with one -/
namespace Tw
open PySem PySem.Spec PyProof.Rows L2 LamX
section
variable {P : Program} {w : World} {K : PySem.W.Frag} {mg : Str → Option Value} {base : Heap} {CX : CXT} {k : Nat} {f : Addr} {sp : Sp}
theorem fnG_ofC {x qual : Str} {params : Arguments} {body : List Stmt} {scope : Scope} {kws : List (Str × V)} {fd : FuncData} {N ps : List Str} (F : FunD K x qual params body scope [] kws f fd) (S : FnScope N ps scope) (hb : Binds K fd ps [])
    (hl : ∀ vs H Q E, sp vs H Q E → vs.length = ps.length)
    (hbody : ∀ cdv A fs t H vs Q E, cdv = .ref (codA K f) → RmG k (A.deeper (envOfC qual scope t.heap.objs.size f cdv)) → sp vs H Q E → ∃ tt, PSs (cxOf CX P w K mg base N qual scope f cdv A fs t H E) body tt ∧ tt { nx := fun _ H' => Q .non H', rt := Q } (L2.start N vs) H) :
    FnG P w K mg base CX (k + 1) f sp := by
  intro A fs t H us vs Q E hr e0 rv h
  obtain ⟨oc, od, dV, kV, doc, pm, an, cdv, ct, osl, efd, lk, hcd, _, _⟩ := F.ex
  have hcv : cdv = .ref (codA K f) := by
    unfold codA
    rw [lk, efd]
    cases cdv with
    | ref c => rfl
    | _ => cases hcd
  have KX : K.In t.heap := e0.mod.kin.keeps fun b o z => (e0.bs b o z).1
  have hlen : us.length = ps.length := rv.length.symm.trans (hl _ _ _ _ h)
  have hbt := hb t us KX (by rw [List.append_nil]; exact hlen)
  rw [List.append_nil] at hbt
  rw [efd] at lk hbt
  refine codeAny_call_function hr.rm.depth (KX _ _ lk) rfl S.co S.gen rfl (PySem.W.codeRec_of KX hcd) (hbt _ _ _ _ ?_)
  refine wpAny_newFunctionEnv_cells S.kind (fun y hy => ?_) fun env he t1 inc => ?_
  · exact (S.par y.1 (List.of_mem_zip hy).1).elim .inl fun z => .inr ⟨z, PySem.W.cellsFrom_some _ _ _ (.inl z)⟩
  · subst he
    obtain ⟨tt, hp, hq⟩ := hbody cdv A fs t H vs Q E hcv (hr.deeper _) h
    have hnl : t.heap.NoLimit := e0.mod.nolimit.keeps fun b o z => (e0.bs b o z).1
    refine ⟨hnl.keeps inc.toInCall.keep, codeAny_func (wpAny_mono (hp.run [] t1 _ _ _ (inv_start S hr.rm.hd e0 (hl _ _ _ _ h) rv inc) hq) (fun fl t2 z => ?_) fun _ _ z => z)⟩
    cases fl with
    | ret u =>
      obtain ⟨v, _, H2, J, r2, q2⟩ := z
      exact ⟨v, H2, J.os, J.bare, J.base, J.hok, r2, q2⟩
    | next =>
      obtain ⟨_, H2, J, q2⟩ := z
      exact ⟨.non, H2, J.os, J.bare, J.base, J.hok, rfl, q2⟩
    | brk => exact z.elim fun _ z => z.elim fun _ z => z.2.elim
    | cont => exact z.elim fun _ z => z.elim fun _ z => z.2.elim
end
section
variable {X : Cx}
theorem pe_caughtT {T : List (Addr × Str)} {TT : (XK → Hp → VK → Prop) → Hp → VK → Prop} {x a : Str} {g c P : Addr} {k : Nat} {pg : Arguments} {bg : List Stmt} {sg : Scope} {kws : List (Str × V)} {fd : FuncData} {Ng : List Str} {params : Arguments} {body : Expr} {scope : Scope} {t : XK → TE} {p lpos pos : Pos}
    (F : FunD X.K x x pg bg sg [] kws g fd) (hb : ∀ (kV doc pm : Value) (an : Option Addr) (cdv ct : Value) (us : List Value), us.length = 1 → bindArgs (PySem.W.fnOf x x pg bg sg .none kV doc pm an cdv ct) ⟨us, []⟩ = pure ([a].zip us)) (Sg : FnScope Ng [a] sg) (hNg : Ng[0]? = some a) (hva : Vis sg a)
    (hg : Gl X x) (hm : X.mg x = some (.ref g)) (hG : ∀ cdg, GivesTo X Ng x sg g cdg bg a (X.env.qual ++ "<lambda>") TT) (TB : TabB X.base X.mg c P) (hmT : (P, X.env.qual ++ "<lambda>") ∈ T) (hu : ∀ p ∈ T, p.1 = P → p.2 = X.env.qual ++ "<lambda>") (hcode : X.env.code = .ref c) (hr : Room (k + 2) X.A) (L : LamS X.env.scope scope) (hdef : defaultsOf params X.env = ([], []))
    (hbind : ∀ (q : Str) (cl : List (Str × Addr)) (pm cv ctv : Value), bindArgs (PySem.W.kla_fn "<lambda>" q params body scope cl pm cv ctv) ⟨[], []⟩ = pure [])
    (hbody : ∀ (A : Around) (outer : List Env) (s : Shared) (H : Hp) (E : XK) (f c' : Addr), Room k (A.deeper (lamEnv X scope s.heap.objs.size f c')) → PE (lamCx X A outer s H E scope f c') body (t E))
    (hdb : (x == ("__debug__" : Str)) = false := by decide) (hd : (a == ("__debug__" : Str)) = false := by decide) (hcd : (a == ("__classdict__" : Str)) = false := by decide) :
    PE X (.Call (.Name x p) [.Lambda params body scope lpos] [] pos) (tLam T TT t) := by
  have hbn := F.bindsN (ps := [a]) hb
  have kp := F.kp
  obtain ⟨oc, od, dV, kV, doc, pm, an, cdv, ct, osl, rfl, lk, hcg, _, _⟩ := F.ex
  exact pe_lamcall (T := T) hg hm kp lk hcg hbn Sg hNg hva (hG cdv) TB hcode hmT hu hr L hdef hbind hbody hdb hd hcd
end
end Tw
/-! Tw: values of other kinds: whether they are integers -/
namespace Tw
open PySem PySem.Spec PyProof.Rows L2 He TwM StX
open PySem.W (Frag)
local macro_rules | `(tactic| walk_at "rsl") => `(tactic| simp only [*, at3_0, at3_1, at3_2, at2_0, at2_1, updS, upd_two, gSub, rSetL, updN, tPar, tPar3, gTup, gCons, gNil, and_assoc, not_true_eq_false, not_false_eq_true, tNever, List.length_map, tFld, rIxTH, rIxLH, rLenTH, rLenLH, lk1, lfs_g, lfs_s, lfs_p, HO.ins.injEq, HO.tup.injEq, HO.lst.injEq, sp_Book_rounding, sp_Book_action, sp_Book_order, sp_Book_due, sp_Book_zero, sp_Book_beyond, Int.toNat_natCast, sp_visit_after, sp_is_visited, sp_Level_grain, sp_Level_slots, sp_Level_span, sp_Wheel_reach, sp_Wheel___len__, sp_is_integer, sp_is_count, sp_is_within, sp_rounded, tAsg, gName, tVar, tC, tOp, rI, rI0, rU, tUn, oAdd, oSub, oMul, oDiv, oMod, oNeg, oLt, oLe, oGt, oGe, oIsN, oNotN, tFn, tCons, tNil, tIfS, tIf, tTest, tB, tNot, tAnd, tOr, tAndV, tOrV, tNotV,
    tRet, tRetN, tNext, tCB, tDrop, tChain, rEq, rNe, oMax2, oMin2, oInt1, rLenF, L2.start, List.map_cons, List.map_nil, List.length_cons, List.length_nil, List.replicate_succ, List.replicate_zero, List.cons_append, List.nil_append, Nat.reduceAdd, Nat.reduceSub, Nat.zero_add,
    List.set_cons_zero, List.set_cons_succ, List.getElem?_cons_zero, List.getElem?_cons_succ, Option.some.injEq, V.int.injEq, V.ref.injEq, V.str.injEq, V.bl.injEq, exists_eq_left', exists_eq_left, exists_and_left, List.cons.injEq, and_true, true_and, decide_eq_true_eq, sc_ii, sc_ss, sc_bb, sc_ni, sc_in, sc_nn, sc_is, reduceCtorEq,
    Bool.not_eq_true', decide_eq_false_iff_not, if_true, if_false, Bool.false_eq_true, exists_eq', exists_const, false_and, and_false, or_false, false_or, exists_false, Bool.not_not, Bool.not_true, Bool.not_false, sUp_up, sFire_fire, sHigh_high, sPut_put, sZone_now, sBey_refuse, sBey_cut, tTup, tLst, sz0, sz1, sz2, sz3, sz4, sz5, sz6])
local macro_rules | `(tactic| walk_at "st") => `(tactic| ((try dsimp only); rw [seq1]; walk_at "rsl"))
def rIsNB : R2 := fun x y H Q => ∃ a b, x = .bl a ∧ y = .bl b ∧ Q (.bl (!decide (a = b))) H
def rIsB : R2 := fun x y H Q => ∃ a b, x = .bl a ∧ y = .bl b ∧ Q (.bl (decide (a = b))) H
section
variable {K : Frag} {w : World}
def IsIntV (K : Frag) (H : Hp) (x : V) (b : Bool) : Prop := ∃ b1 b2 : Bool, (∀ (H' : Hp) (Q : VK), Same H H' → Q (.bl b1) H' → rIsi K [x, .ty "int"] H' Q) ∧ (b1 = true → ∀ (H' : Hp) (Q : VK), Same H H' → Q (.bl b2) H' → rIsi K [x, .ty "bool"] H' Q) ∧ b = (b1 && !b2)
theorem IsIntV.same {H H' : Hp} {x : V} {b : Bool} (h : IsIntV K H x b) (s : Same H H') : IsIntV K H' x b := by
  obtain ⟨b1, b2, h1, h2, e⟩ := h
  exact ⟨b1, b2, fun H2 Q s2 => h1 H2 Q (s.trans s2), fun z H2 Q s2 => h2 z H2 Q (s.trans s2), e⟩
theorem isInt_int {H : Hp} (i : Int) : IsIntV K H (.int i) true := ⟨true, false, fun _ _ _ q => isi_base (.base (.int i)) (by decide +kernel) q, fun _ _ _ _ q => isi_base (.base (.int i)) (by decide +kernel) q, rfl⟩
theorem isInt_bl {H : Hp} (b : Bool) : IsIntV K H (.bl b) false := ⟨true, true, fun _ _ _ q => isi_base (.base (.bl b)) (by decide +kernel) q, fun _ _ _ _ q => isi_base (.base (.bl b)) (by decide +kernel) q, rfl⟩
theorem isInt_non {H : Hp} : IsIntV K H .non false := ⟨false, false, fun _ _ _ q => isi_base (.base .non) (by decide +kernel) q, fun z => (by cases z), rfl⟩
theorem isInt_str {H : Hp} (x : Str) : IsIntV K H (.str x) false := ⟨false, false, fun _ _ _ q => isi_base (.base (.str x)) (by decide +kernel) q, fun z => (by cases z), rfl⟩
theorem isInt_tup {H : Hp} {a : Addr} {xs : List V} (h : H a = some (.tup xs)) : IsIntV K H (.ref a) false := ⟨false, false, fun _ _ s q => isi_base (.base (.tup (s _ _ h))) (by decide +kernel) q, fun z => (by cases z), rfl⟩
theorem isInt_lst {H : Hp} {a : Addr} {xs : List V} (h : H a = some (.lst xs)) : IsIntV K H (.ref a) false := ⟨false, false, fun _ _ s q => isi_base (.base (.lst (s _ _ h))) (by decide +kernel) q, fun z => (by cases z), rfl⟩
def sp_is_integerA (K : Frag) : Sp := fun vs H Q _ => ∃ x b, vs = [x] ∧ IsIntV K H x b ∧ Q (.bl b) H
def t_is_integerA (K : Frag) (w : World) : TS :=
  (tRet (tAndV (tCB (rIsi K) (tCons (tVar 0) (tCons (tC (.ty "int")) tNil))) (tNotV (tCB (rIsi K) (tCons (tVar 0) (tCons (tC (.ty "bool")) tNil))))))
def n_is_integerA : List Str := ["value"]
theorem rd_is_integerA (vs : List V) (H : Hp) (Q : VK) (E : XK) (h : sp_is_integerA K vs H Q E) : t_is_integerA K w { nx := fun _ H' => Q .non H', rt := Q } (L2.start n_is_integerA vs) H := by
  obtain ⟨x, b, rfl, ⟨b1, b2, h1, h2, rfl⟩, q⟩ := h
  unfold t_is_integerA n_is_integerA
  walk_at "rsl"
  refine h1 H _ (Same.refl _) ⟨b1, rfl, ?_⟩
  cases b1 with
  | false => exact q
  | true =>
    walk_at "rsl"
    exact h2 rfl H _ (Same.refl _) ⟨b2, rfl, q⟩
end
end Tw
/-! Tw: values of any kind that a law hands in, as data; an error caught, compared with its name and the text of its value -/
namespace Tw
open PySem PySem.Spec PyProof.Rows L2 He TwM StX LamX
open PySem.W (Frag)
def ForL (K : Frag) (a : Addr) (g : TG) (tb : TS) (D : Ends) (σ : L2.St) (H : Hp) : Prop := tFor (fun σ H R => R (Itl K a) H) g tb D σ H
theorem forl_eq {K : Frag} {tl : TE} {g : TG} {tb : TS} {D : Ends} {σ : L2.St} {H : Hp} : tFor (iList K tl) g tb D σ H = tl σ H (fun x H1 => ∃ a, x = .ref a ∧ (∃ xs, SqL K H1 a xs) ∧ ForL K a g tb D σ H1) := rfl
theorem forL {K : Frag} {a : Addr} {g : TG} {tb : TS} {D : Ends} {σ : L2.St} {H : Hp} {xs : List V} (Pv : Nat → L2.St → Hp → Prop) (h0 : Pv 0 σ H) (hl : ∀ i σ H, Pv i σ H → SqL K H a xs)
    (hs : ∀ i x σ H, xs[i]? = some x → Pv i σ H → g x σ H fun σ2 H2 => tb { D with nx := Pv (i + 1), ct := Pv (i + 1), bk := D.nx } σ2 H2) (hd : ∀ σ H, Pv xs.length σ H → D.nx σ H) : ForL K a g tb D σ H := for_list Pv h0 (fun i σ H _ z => hl i σ H z) hs hd
def flD : V → Option PyData
  | .non => some .none
  | .bl b => some (.bool b)
  | .int i => some (.int i)
  | .str x => some (.str x)
  | _ => none
inductive Ov (H : Hp) : V → PyData → Prop
  | at_ {x : V} {d : PyData} (h : flD x = some d) : Ov H x d
  | tup {a : Addr} {xs : List V} {ds : List PyData} (h : H a = some (.tup xs)) (f : xs.map flD = ds.map some) : Ov H (.ref a) (.tuple ds)
  | lst {a : Addr} {xs : List V} {ds : List PyData} (h : H a = some (.lst xs)) (f : xs.map flD = ds.map some) : Ov H (.ref a) (.list ds)
  | dict {a : Addr} (h : H a = some (.dK [])) : Ov H (.ref a) (.dict [])
def intD : PyData → Bool
  | .int _ => true
  | _ => false
def strD : PyData → Bool
  | .str _ => true
  | _ => false
def ExtP (p l : Addr) (H H' : Hp) : Prop := ∀ b o, b ≠ p → b ≠ l → H b = some o → (∀ ps, o ≠ .tbl ps) → H' b = some o
theorem ExtP.refl (p l : Addr) (H : Hp) : ExtP p l H H := fun _ _ _ _ h _ => h
theorem ExtP.trans {p l : Addr} {H H1 H2 : Hp} (a : ExtP p l H H1) (b : ExtP p l H1 H2) : ExtP p l H H2 := fun c o n m h z => b c o n m (a c o n m h z) z
theorem ExtP.ofP {p l : Addr} {H H1 : Hp} (a : SameP p l H H1) : ExtP p l H H1 := fun c o n m h _ => a c o n m h
theorem Same.toN {H H1 : Hp} (a : Same H H1) : ExtN H H1 := fun c o h _ => a c o h
section
variable {K : Frag} {H H' : Hp} {x : V} {d : PyData} {p l : Addr}
theorem Ov.ext (h : Ov H x d) (e : ∀ b o, (∃ xs, o = HO.tup xs) ∨ (∃ xs, o = HO.lst xs ∧ ∃ ds : List PyData, xs.map flD = ds.map some) ∨ o = .dK [] → H b = some o → H' b = some o) : Ov H' x d := by
  cases h with
  | at_ h => exact .at_ h
  | tup h f => exact .tup (e _ _ (.inl ⟨_, rfl⟩) h) f
  | lst h f => exact .lst (e _ _ (.inr (.inl ⟨_, rfl, _, f⟩)) h) f
  | dict h => exact .dict (e _ _ (.inr (.inr rfl)) h)
theorem Ov.extN (h : Ov H x d) (e : ExtN H H') : Ov H' x d := h.ext fun b o z q => e b o q fun ps w => by
  subst w
  rcases z with ⟨_, z⟩ | ⟨_, z, _⟩ | z <;> cases z
theorem Ov.same (h : Ov H x d) (e : Same H H') : Ov H' x d := h.extN (Same.toN e)
theorem PoolAt.off (hp : PoolAt H p l) {b : Addr} {o : HO} (h : H b = some o) (z : (∃ xs, o = HO.tup xs) ∨ (∃ a C fs, o = HO.ins a C fs) ∨ o = .dK [] ∨ (∃ ps, o = .tbl ps) ∨ (∃ e, o = .ext e)) : b ≠ p ∧ b ≠ l := by
  obtain ⟨n, cs, i1, i2, i3, i4, h1, h2, h3⟩ := hp
  have ne : ∀ xs, o ≠ .lst xs := fun xs w => by
    subst w
    rcases z with ⟨_, z⟩ | ⟨_, _, _, z⟩ | z | ⟨_, z⟩ | ⟨_, z⟩ <;> cases z
  exact ⟨fun w => by rw [w, h1] at h; exact ne _ (Option.some.inj h).symm, fun w => by rw [w, h2] at h; exact ne _ (Option.some.inj h).symm⟩
theorem TabS.sameP {P : Addr} {q : PySem.Str} (hp : PoolAt H p l) (s : SameP p l H H') (t : TabS H P q) : TabS H' P q := by
  obtain ⟨ps, h1, h2, h3⟩ := t
  obtain ⟨n1, n2⟩ := hp.off h1 (.inr (.inr (.inr (.inl ⟨_, rfl⟩))))
  refine ⟨ps, s _ _ n1 n2 h1, h2, fun pos cv hc => ?_⟩
  obtain ⟨c, e1, e2⟩ := h3 pos cv hc
  obtain ⟨n1, n2⟩ := hp.off e2 (.inr (.inr (.inr (.inr ⟨_, rfl⟩))))
  exact ⟨c, e1, s _ _ n1 n2 e2⟩
theorem Tabs.sameP {T : List (Addr × PySem.Str)} (hp : PoolAt H p l) (s : SameP p l H H') (t : Tabs T H) : Tabs T H' := fun q hq => TabS.sameP hp s (t q hq)
theorem PoolAt.extN (hp : PoolAt H p l) (s : ExtN H H') : PoolAt H' p l := by
  obtain ⟨n, cs, i1, i2, i3, i4, h1, h2, h3⟩ := hp
  exact ⟨n, cs, i1, i2, i3, i4, s _ _ h1 (fun ps z => by cases z), s _ _ h2 (fun ps z => by cases z), h3⟩
theorem LvAt.extN {a : Addr} {v : Lv} (h : LvAt K H a v) (s : ExtN H H') : LvAt K H' a v := ⟨h.ok, h.at_.elim fun dx q => ⟨dx, s _ _ q fun ps z => by cases z⟩⟩
theorem WhAt.extN {a : Addr} {W : List Lv} (h : WhAt K H a W) (s : ExtN H H') : WhAt K H' a W := by
  obtain ⟨ok, dx, t, as, h1, h2, h3, h4⟩ := h
  exact ⟨ok, dx, t, as, s _ _ h1 fun ps z => (by cases z), s _ _ h2 fun ps z => (by cases z), h3, fun i c q => (h4 i c q).extN s⟩
theorem BkAt.extN {a : Addr} {B : Bk} (h : BkAt K H a B) (s : ExtN H H') : BkAt K H' a B := by
  obtain ⟨ok, dx, t, h1, h2⟩ := h
  exact ⟨ok, dx, t, s _ _ h1 fun ps z => (by cases z), s _ _ h2 fun ps z => (by cases z)⟩
theorem SpAt.extN {a : Addr} {sp : Spot} (h : SpAt H a sp) (s : ExtN H H') : SpAt H' a sp := s _ _ h fun ps z => by cases z
theorem Ov.isI (h : Ov H x d) : IsIntV K H x (intD d) := by
  cases h with
  | at_ h =>
    cases x with
    | non => cases h; exact isInt_non
    | bl b => cases h; exact isInt_bl b
    | int i => cases h; exact isInt_int i
    | str y => cases h; exact isInt_str y
    | _ => cases h
  | tup h f => exact isInt_tup h
  | lst h f => exact isInt_lst h
  | dict h => exact ⟨false, false, fun H' Q s q => isi_base (.base (.dK (s _ _ h))) (by decide +kernel) q, fun z => (Bool.noConfusion z), rfl⟩
theorem Ov.int (h : Ov H x d) (z : intD d = true) : ∃ i, x = .int i ∧ d = .int i := by
  cases h with
  | at_ h =>
    cases x with
    | int i => cases h; exact ⟨i, rfl, rfl⟩
    | non => cases h; cases z
    | bl b => cases h; cases z
    | str y => cases h; cases z
    | _ => cases h
  | _ => cases z
theorem Ov.str (h : Ov H x d) (z : strD d = true) : ∃ i, x = .str i ∧ d = .str i := by
  cases h with
  | at_ h =>
    cases x with
    | str i => cases h; exact ⟨i, rfl, rfl⟩
    | non => cases h; cases z
    | bl b => cases h; cases z
    | int y => cases h; cases z
    | _ => cases h
  | _ => cases z
/-! ### its repr -/
def OkD (d : PyData) : Prop := (d = .dict [] ∨ (d.showable = true ∧ d.hasDict = false ∧ d.depth ≤ 16 ∧ d.shown.length ≤ sizeLine)) ∧ PySem.PyData.strOk d.shown = true
theorem flD_dp : ∀ {xs : List V} {ds : List PyData}, xs.map flD = ds.map some → DpAll K H xs ds
  | [], [], _ => .nil
  | [], _ :: _, h => by cases h
  | _ :: _, [], h => by cases h
  | x :: xs, d :: ds, h => by
    rw [List.map_cons, List.map_cons] at h
    injection h with h1 h2
    refine .cons ?_ (flD_dp h2)
    cases x with
    | non => cases h1; exact .non
    | bl b => cases h1; exact .bl b
    | int i => cases h1; exact .int i
    | str y => cases h1; exact .str y
    | _ => cases h1
theorem Ov.repr {Q : VK} (h : Ov H x d) (k : OkD d) (q : Q (.str d.shown) H) : rReprE K [x] H Q := by
  obtain ⟨k, _⟩ := k
  cases h with
  | at_ h =>
    have z : d.showable = true ∧ d.hasDict = false ∧ d.depth ≤ 16 ∧ d.shown.length ≤ sizeLine := k.elim (fun e => by subst e; cases x <;> cases h) id
    obtain ⟨z1, z2, z3, z4⟩ := z
    have hd : Dp K H x d := by
      cases x with
      | non => cases h; exact .non
      | bl b => cases h; exact .bl b
      | int i => cases h; exact .int i
      | str y => cases h; exact .str y
      | _ => cases h
    exact .inl ⟨x, d, rfl, hd, z1, z2, z3, z4, q⟩
  | tup h f =>
    obtain ⟨z1, z2, z3, z4⟩ := k.elim (fun e => by cases e) id
    exact .inl ⟨_, _, rfl, .tup (SqT.of h) (flD_dp f), z1, z2, z3, z4, q⟩
  | lst h f =>
    obtain ⟨z1, z2, z3, z4⟩ := k.elim (fun e => by cases e) id
    exact .inl ⟨_, _, rfl, .lst (.inl (.inl h)) (flD_dp f), z1, z2, z3, z4, q⟩
  | dict h => exact .inr (.inl ⟨_, rfl, h, q⟩)
def okB (d : PyData) : Bool := (d.showable && (!d.hasDict && (decide (d.depth ≤ 16) && decide (d.shown.length ≤ 16777216)))) && PySem.PyData.strOk d.shown
theorem okD_of (h : okB d = true) : OkD d := by
  unfold okB at h
  simp only [Bool.and_eq_true, decide_eq_true_eq, Bool.not_eq_true'] at h
  exact ⟨.inr ⟨h.1.1, h.1.2.1, h.1.2.2.1, h.1.2.2.2⟩, h.2⟩
def OvP (p l : Addr) (H : Hp) (x : V) (d : PyData) : Prop := Ov H x d ∧ ∀ a, x = .ref a → a ≠ p ∧ a ≠ l
theorem OvP.extP (h : OvP p l H x d) (s : ExtP p l H H') : OvP p l H' x d := by
  obtain ⟨h, n⟩ := h
  refine ⟨?_, n⟩
  cases h with
  | at_ h => exact .at_ h
  | tup h f => exact .tup (s _ _ (n _ rfl).1 (n _ rfl).2 h fun ps z => by cases z) f
  | lst h f => exact .lst (s _ _ (n _ rfl).1 (n _ rfl).2 h fun ps z => by cases z) f
  | dict h => exact .dict (s _ _ (n _ rfl).1 (n _ rfl).2 h fun ps z => by cases z)
theorem OvP.sameP (h : OvP p l H x d) (s : SameP p l H H') : OvP p l H' x d := h.extP (.ofP s)
theorem OvP.at_ (h : flD x = some d) : OvP p l H x d := ⟨.at_ h, fun a e => by subst e; cases h⟩
theorem drawOv {Pr : V → PyData → Prop} {L : Addr} {n : Int} {xs : List V} {Q : VK} (hp : PoolAt H p l) (hL : H L = some (.lst xs)) (n1 : L ≠ p) (n2 : L ≠ l) (hn : 0 < n) (hl : n.natAbs.log2 < 1920) (hx : n = xs.length) (hall : ∀ x ∈ xs, ∃ d, OvP p l H x d ∧ Pr x d)
    (q : ∀ x d H', SameP p l H H' → PoolAt H' p l → OvP p l H' x d → Pr x d → Q x H') :
    sp__law_draw K [.ref p, .int n] H (fun y H2 => ∃ x x_3, y = .int x_3 ∧ H2 L = some (.lst x) ∧ ∃ x_4, atI x x_3 = some x_4 ∧ Q x_4 H2) E0 := by
  refine draw hp hn hl fun i H1 s1 hp1 a b => ?_
  obtain ⟨v, hv, e⟩ := atV (xs := xs) a (by omega)
  obtain ⟨d, hd, hP⟩ := hall v (List.mem_of_getElem? hv)
  exact ⟨_, i, rfl, s1 _ _ n1 n2 hL, _, e, q v d H1 s1 hp1 (hd.sameP s1) hP⟩
/-! ### an error caught -/
structure KeC (K : Frag) (c nm : PySem.Str) : Prop where
  kn : ∃ i, KnF K (ga K c) i ∧ kdN.getD i "" = nm
  xf : XfC K (ga K c)
  no : PySem.W.findIn K (.ref (ga K c)) "value" = some none
  ex : PySem.W.exmOne K (.ref (ga K c)) (.ref (ga K "WheelError")) = some true
theorem kec_of {c nm file qual : PySem.Str} {i : Nat} (e : ErrF K c "value" file qual) (k : KnF K (ga K c) i ∧ PySem.W.exmOne K (.ref (ga K c)) (.ref (ga K "WheelError")) = some true) (h : kdN.getD i "" = nm) : KeC K c nm := ⟨⟨i, k.1, h⟩, e.xf, e.no, k.2⟩
def Ke (K : Frag) (cs : List (PySem.Str × PySem.Str)) : Prop := ∀ q ∈ cs, KeC K q.1 q.2
structure KeG (K : Frag) (c nm fld : PySem.Str) : Prop where
  kn : ∃ i, KnF K (ga K c) i ∧ kdN.getD i "" = nm
  xf : XfC K (ga K c)
  no : PySem.W.findIn K (.ref (ga K c)) fld = some none
  cl : (fld = "value" ∧ exmN K (ga K c) "WheelError" true) ∨ (fld = "delay" ∧ exmN K (ga K c) "WheelError" false ∧ exmN K (ga K c) "TooLong" true) ∨
    (fld = "limit" ∧ exmN K (ga K c) "WheelError" false ∧ exmN K (ga K c) "TooLong" false ∧ exmN K (ga K c) "TooMany" true)
theorem KeC.g {c nm : PySem.Str} (k : KeC K c nm) : KeG K c nm "value" := ⟨k.kn, k.xf, k.no, .inl ⟨rfl, k.ex⟩⟩
theorem KeG.out {c nm fld : PySem.Str} (k : KeG K c nm fld) {dd : Addr} (hd : H dd = none) (hv : Ov H x d) (ok : OkD d) {Q : VK} (q : ∀ (H2 : Hp) (R : Addr), Same H H2 → H2 R = none → Q (.ref R) (upd H2 R (.lst [.str nm, .str d.shown]))) :
    ErOut K Q (.ref (ga K c)) (some dd) (upd H dd (.xd [(fld, x)])) := by
  obtain ⟨⟨i, k1, k2⟩, k3, k4, k5⟩ := k
  have sn : Same H (upd H dd (.xd [(fld, x)])) := Same.new hd
  have hlk : ([(fld, x)] : List (PySem.Str × V)).lookup fld = some x := by simp [List.lookup]
  have hF : ErFld K fld (ga K c) [(fld, x)] i (upd H dd (.xd [(fld, x)])) Q := by
    refine ⟨x, k3, k4, hlk, fun H2 s2 => ?_⟩
    rw [k2]
    exact (hv.same (sn.trans s2)).repr ok fun R hR => q H2 R (sn.trans s2) hR
  refine .inl ⟨_, _, [(fld, x)], i, rfl, rfl, k1, upd_same, ?_⟩
  rcases k5 with ⟨rfl, w1⟩ | ⟨rfl, w1, w2⟩ | ⟨rfl, w1, w2, w3⟩
  · exact .inl ⟨w1, hF⟩
  · exact .inr (.inl ⟨w1, w2, hF⟩)
  · exact .inr (.inr ⟨w1, w2, w3, hF⟩)
theorem KeC.out {c nm : PySem.Str} (k : KeC K c nm) {dd : Addr} (hd : H dd = none) (hv : Ov H x d) (ok : OkD d) {Q : VK} (q : ∀ (H2 : Hp) (R : Addr), Same H H2 → H2 R = none → Q (.ref R) (upd H2 R (.lst [.str nm, .str d.shown]))) :
    ErOut K Q (.ref (ga K c)) (some dd) (upd H dd (.xd [("value", x)])) := k.g.out hd hv ok q
theorem pair_shaped {nm t : PySem.Str} (h1 : PySem.PyData.strOk nm = true) (h2 : PySem.PyData.strOk t = true) : SeqAt.shaped (.list [.str nm, .str t]) = true := by
  have e : PyData.canLay0 (.list [.str nm, .str t]) = true := by
    show (PySem.PyData.strOk nm && (PySem.PyData.strOk t && true)) = true
    rw [h1, h2]; rfl
  unfold SeqAt.shaped
  rw [e]
  rfl
theorem pair_eqv {nm t : PySem.Str} : PyData.eqv (.list [.str nm, .str t]) (.list [.str nm, .str t]) = true := by
  show ((nm == nm) && ((t == t) && true)) = true
  simp
theorem dp_pair {a : Addr} {nm t : PySem.Str} (h : H a = some (.lst [.str nm, .str t])) : Dp K H (.ref a) (.list [.str nm, .str t]) := .lst (.inl (.inl h)) (.cons (.str _) (.cons (.str _) .nil))
theorem lam_errG {fld : PySem.Str} {T : List (Addr × PySem.Str)} {te : XK → TE} {σ : L2.St} {Q : VK} {c nm : PySem.Str} (k : KeG K c nm fld) (hT : Tabs T H) (ok : OkD d) (hov : Ov H x d)
    (hcall : ∀ (H1 : Hp) (E : XK) (Q : VK), ExtN H H1 → (∀ H2 dd, Same H1 H2 → H2 dd = none → E (.ref (ga K c)) (some dd) (upd H2 dd (.xd [(fld, x)]))) → te E σ H1 Q)
    (q : ∀ (R : Addr) (H' : Hp), H' R = some (.lst [.str nm, .str d.shown]) → ExtN H H' → Tabs T H' → Q (.ref R) H') : tLam T (TCg K) te σ H Q := by
  refine ⟨hT, fun H1 e1 T1 => hcall H1 _ _ e1 fun H1' dd s1 hd => k.out hd (hov.extN (e1.trans (Same.toN s1))) ok fun H2 R s2 hR => ?_⟩
  have s3 := (s1.trans s2).trans (Same.new (o := .lst [.str nm, .str d.shown]) hR)
  exact q R _ (updS H2 R _) (e1.trans (Same.toN s3)) (T1.ext fun b o z => s3 _ _ z)
theorem lam_errS {T : List (Addr × PySem.Str)} {te : XK → TE} {σ : L2.St} {Q : VK} {c nm : PySem.Str} (k : KeC K c nm) (hT : Tabs T H) (ok : OkD d) (hov : Ov H x d)
    (hcall : ∀ (H1 : Hp) (E : XK) (Q : VK), ExtN H H1 → (∀ H2 dd, Same H1 H2 → H2 dd = none → E (.ref (ga K c)) (some dd) (upd H2 dd (.xd [("value", x)]))) → te E σ H1 Q)
    (q : ∀ (R : Addr) (H' : Hp), H' R = some (.lst [.str nm, .str d.shown]) → ExtN H H' → Tabs T H' → Q (.ref R) H') : tLam T (TCg K) te σ H Q := lam_errG k.g hT ok hov hcall q
theorem lam_err {T : List (Addr × PySem.Str)} {te : XK → TE} {σ : L2.St} {Q : VK} {c nm : PySem.Str} (k : KeC K c nm) (hT : Tabs T H) (ok : OkD d) (hov : Ov H x d)
    (hcall : ∀ (H1 : Hp) (E : XK) (Q : VK), ExtN H H1 → (∀ dd, H1 dd = none → E (.ref (ga K c)) (some dd) (upd H1 dd (.xd [("value", x)]))) → te E σ H1 Q)
    (q : ∀ (R : Addr) (H' : Hp), H' R = some (.lst [.str nm, .str d.shown]) → ExtN H H' → Tabs T H' → Q (.ref R) H') : tLam T (TCg K) te σ H Q := lam_errS k hT ok hov (fun H1 E Q e hE => hcall H1 E Q e fun dd hd => hE H1 dd (Same.refl _) hd) q
theorem lam_ok {T : List (Addr × PySem.Str)} {te : XK → TE} {σ : L2.St} {Q : VK} (hT : Tabs T H)
    (hcall : ∀ (H1 : Hp) (E : XK) (Q : VK), ExtN H H1 → (∀ v H', Same H1 H' → Q v H') → te E σ H1 Q)
    (q : ∀ (H' : Hp), ExtN H H' → Tabs T H' → Q .non H') : tLam T (TCg K) te σ H Q :=
  ⟨hT, fun H1 e1 T1 => hcall H1 _ _ e1 fun v H' s => q H' (e1.trans (Same.toN s)) (T1.ext fun b o z => s _ _ z)⟩
theorem pair_same {R R' : Addr} {nm t : PySem.Str} {Q : VK} (h1 : PySem.PyData.strOk nm = true) (h2 : PySem.PyData.strOk t = true) (a : H R = some (.lst [.str nm, .str t])) (b : H R' = some (.lst [.str nm, .str t])) (q : Q (.bl false) H) : rNeD K (.ref R) (.ref R') H Q :=
  ⟨_, _, dp_pair a, dp_pair b, pair_shaped h1 h2, pair_shaped h1 h2, by rw [pair_eqv]; exact q⟩
theorem pair_sameE {R R' : Addr} {nm t : PySem.Str} {Q : VK} (h1 : PySem.PyData.strOk nm = true) (h2 : PySem.PyData.strOk t = true) (a : H R = some (.lst [.str nm, .str t])) (b : H R' = some (.lst [.str nm, .str t])) (q : Q (.bl true) H) : rEqD K (.ref R) (.ref R') H Q :=
  ⟨_, _, dp_pair a, dp_pair b, pair_shaped h1 h2, pair_shaped h1 h2, by rw [pair_eqv]; exact q⟩
theorem caught_is {T : List (Addr × PySem.Str)} {te : XK → TE} {tb : TE} {σ : L2.St} {D : Ends} {c nm : PySem.Str} (k : KeC K c nm) (hn : PySem.PyData.strOk nm = true) (hT : Tabs T H) (ok : OkD d) (hov : Ov H x d)
    (hcall : ∀ (H1 : Hp) (E : XK) (Q : VK), ExtN H H1 → (∀ dd, H1 dd = none → E (.ref (ga K c)) (some dd) (upd H1 dd (.xd [("value", x)]))) → te E σ H1 Q)
    (htb : ∀ (H1 : Hp) (Q : VK), ExtN H H1 → (∀ (R : Addr) (H2 : Hp), Same H1 H2 → H2 R = none → Q (.ref R) (upd H2 R (.lst [.str nm, .str d.shown]))) → tb σ H1 Q)
    (hnx : ∀ H', ExtN H H' → Tabs T H' → D.nx σ H') :
    tIfS (tTest (tOp (rNeD K) (tLam T (TCg K) te) tb)) (tRet (tC (.bl false))) tNext D σ H := by
  refine lam_err k hT ok hov hcall fun R H3 a1 e3 T3 => htb H3 _ e3 fun R2 H4 s4 hR2 => ?_
  have s5 := s4.trans (Same.new (o := .lst [.str nm, .str d.shown]) hR2)
  exact pair_same hn ok.2 (s5 _ _ a1) (updS H4 R2 _) ⟨false, rfl, hnx _ (e3.trans (Same.toN s5)) (T3.ext fun b o z => s5 _ _ z)⟩
theorem lit_repr {i : Nat} {σ : L2.St} {nm : PySem.Str} {Q : VK} (h : σ[i]? = some (some x)) (hv : Ov H x d) (ok : OkD d) (q : ∀ (R : Addr) (H2 : Hp), Same H H2 → H2 R = none → Q (.ref R) (upd H2 R (.lst [.str nm, .str d.shown]))) :
    tLst (tCons (tC (.str nm)) (tCons (tCB (rReprE K) (tCons (tVar i) tNil)) tNil)) σ H Q := ⟨x, h, hv.repr ok ⟨(show 2 ≤ 16777216 by decide), fun R hR => q R H (Same.refl _) hR⟩⟩
end
end Tw
/-! Tw: own errors over ValueError: their making and their raise -/
namespace Tw
open PySem PySem.Spec PyProof.Rows L2 He PySem.W PySem.Calls NdefX
def sp_er (K : Frag) (C : Addr) (fld : PySem.Str) : Sp := fun vs H Q _ => ∃ (x : Addr) (y : V), vs = [.ref x, y] ∧ H x = some (exo x C none) ∧ ∀ dx, H dx = none → dx ≠ x → Q .non (upd (upd H dx (exd dx [(fld, y)])) x (exo x C (some dx)))
abbrev erB (text : PySem.Str) (j : Nat) (p0 p1 p2 p3 p4 pc q1 q2 q3 q4 : Pos) (fld par : PySem.Str) : List Stmt := suB text j p0 p1 p2 p3 p4 pc [.Assign [.Attribute (.Name "self" q1) fld q2] (.Name par q3) q4]
section
variable {CX : CXT} {P : Program} {w : World} {K : Frag} {mg : PySem.Str → Option Value} {base : Heap} {x fld par file qual name text : PySem.Str} {j : Nat} {p0 p1 p2 p3 p4 pc q1 q2 q3 q4 : Pos} {params : Arguments} {scope : Scope} {ar : Arg}
theorem ok_err (F : ErrF K x fld file qual) (hf : (P.main.file : PySem.Str) = file) (htop : (P.main.scope.names.lookup ("super" : PySem.Str)).isSome = false)
    (e : fnC K (ma K (ga K x) "__init__") = some (name, qual, params, .stmts (erB text j p0 p1 p2 p3 p4 pc q1 q2 q3 q4 fld par), scope, mainGlobals, [], builtinsNs))
    (S : NScope ["self", par, "__class__"] ["self", par] ["__class__"] scope) (hpar : (params.posonlyargs ++ params.args).head? = some ar) (har : ar.arg = "self")
    (hks : scope.names.lookup ("super" : PySem.Str) = some .globalImplicit) (hms : mg "super" = none)
    (hd1 : (par == ("__debug__" : PySem.Str)) = false) (hd2 : (par == ("__classdict__" : PySem.Str)) = false)
    (hi : ∀ cc cda fI L, interactive (envF (erF name qual params (erB text j p0 p1 p2 p3 p4 pc q1 q2 q3 q4 fld par) scope cc cda) fI L) = false)
    (hsw : ∀ cc cda fI L, swapsWith (.Call (.Attribute (.Call (.Name "super" p0) [] [] p1) "__init__" p2) [.Constant (.str text) j pc] [] p3) none p4.line (envF (erF name qual params (erB text j p0 p1 p2 p3 p4 pc q1 q2 q3 q4 fld par) scope cc cda) fI L) = pure false)
    (hsw2 : ∀ cc cda fI L, swapsWith (.Name par q3) (some (.Attribute (.Name "self" q1) fld q2)) q4.line (envF (erF name qual params (erB text j p0 p1 p2 p3 p4 pc q1 q2 q3 q4 fld par) scope cc cda) fI L) = pure false)
    (hev : ∀ cc cda fI L, ∃ pl : Sem Bool, eval (.Call (.Attribute (.Call (.Name "super" p0) [] [] p1) "__init__" p2) [.Constant (.str text) j pc] [] p3) (envF (erF name qual params (erB text j p0 p1 p2 p3 p4 pc q1 q2 q3 q4 fld par) scope cc cda) fI L) = (do
      let ov ← attributeBase (.Call (.Name "super" p0) [] [] p1) "__init__" (envF (erF name qual params (erB text j p0 p1 p2 p3 p4 pc q1 q2 q3 q4 fld par) scope cc cda) fI L) (eval (.Call (.Name "super" p0) [] [] p1) (envF (erF name qual params (erB text j p0 p1 p2 p3 p4 pc q1 q2 q3 q4 fld par) scope cc cda) fI L))
      standAt p2.atName
      let (f, first) ← holding [ov] (getMethod ov "__init__" pl)
      callWith p3 f first (backTo p3 (starEach [.Constant (.str text) j pc] (envF (erF name qual params (erB text j p0 p1 p2 p3 p4 pc q1 q2 q3 q4 fld par) scope cc cda) fI L))) []))
    (hb : ∀ (kV doc pm : Value) (an : Option Addr) (cl : List (PySem.Str × Addr)) (cdv ct : Value) (us : List Value), us.length = 2 → bindArgs (fnX name qual params (erB text j p0 p1 p2 p3 p4 pc q1 q2 q3 q4 fld par) scope cl .none kV doc pm an cdv ct) ⟨us, []⟩ = pure ((["self", par] : List PySem.Str).zip us)) :
    ∃ fd, FnOk P w K mg base CX 1 (ma K (ga K x) "__init__") fd ["self", par] (sp_er K (ga K x) fld) ∧ Binds K fd ["self", par] [] := by
  obtain ⟨⟨oc, od, kV, doc, pm, ct, an, osl, lk⟩, hcd, kp, hcell, ccl, cdd, vs, ccs, y, tf, hc1, hc2, hc3⟩ := fnE_ok F.fn e
  refine ⟨_, ok_er (k := 0) ⟨F.oex, F.opq, F.sup, F.sub, F.own, hcell, ⟨_, _, _, _, _, _, hc1, hc2, by rw [hf]; exact hc3⟩, htop⟩ lk hcd S hpar (by rw [har]; rfl) hks hms (hi _ _ _) (hsw _ _ _) (hev _ _ _) (fun vs H Q E h => ?_) (fun A outer s H vs Q E hr h => ?_), .all (hb kV doc pm an _ _ ct)⟩
  · obtain ⟨_, _, rfl, _⟩ := h
    rfl
  · obtain ⟨x', y', rfl, hx, q⟩ := h
    refine ⟨_, pss_one (ps_ost (pe_var (i := 0) rfl (.inl (S.par _ (by simp)))) (pe_var (i := 1) rfl (.inl (S.par _ (by simp))) hd1 hd2) (hsw2 _ _ _ _)), x', [y'], rfl, hx, ?_⟩
    exact ⟨_, rfl, _, rfl, x', ga K x, rfl, F.oex, F.no, .inl ⟨hx, fun dx h1 h2 => q dx h1 h2⟩⟩
end
def tErr (C : Addr) (fld : PySem.Str) (te : TE) : L2.St → Hp → XK → Prop := fun σ H Q => te σ H fun y H1 => ∀ d, H1 d = none → Q (.ref C) (some d) (upd H1 d (.xd [(fld, y)]))
def tRz (E : XK) (C : Addr) (f : PySem.Str) (te : TE) : TS := fun _ σ H => tErr C f te σ H fun cls d H' => E cls d H'
theorem mk_er {K : Frag} {C : Addr} {fld : PySem.Str} {y : V} {H1 : Hp} {Q : XK} (h : ∀ d, H1 d = none → Q (.ref C) (some d) (upd H1 d (.xd [(fld, y)]))) :
    [y].length ≤ 1000 ∧ ∀ a, H1 a = none → sp_er K C fld (.ref a :: ([y] ++ [])) (upd H1 a (exo a C none)) (fun v H2 => v = .non ∧ ∃ (d : Addr) (fs : List (PySem.Str × V)), H2 a = some (exo a C (some d)) ∧ H2 d = some (exd d fs) ∧ H1 d = none ∧ Q (.ref C) (some d) (upd (del H2 a) d (.xd fs))) (fun _ _ _ => False) := by
  refine ⟨(show 1 ≤ 1000 by decide), fun a ha => ⟨a, y, rfl, upd_same, fun d hd hne => ⟨rfl, d, [(fld, y)], upd_same, ?_, ?_, ?_⟩⟩⟩
  · rw [upd_ne hne, upd_same]
  · rw [upd_ne hne] at hd
    exact hd
  · rw [upd_ne hne] at hd
    have e : upd (del (upd (upd (upd H1 a (exo a C none)) d (exd d [(fld, y)])) a (exo a C (some d))) a) d (.xd [(fld, y)]) = upd H1 d (.xd [(fld, y)]) := by
      funext b
      by_cases hb : b = d
      · rw [hb, upd_same, upd_same]
      · rw [upd_ne hb, upd_ne hb]
        by_cases hba : b = a
        · rw [hba, del_same, ha]
        · rw [del_ne hba, upd_ne hba, upd_ne hb, upd_ne hba]
    rw [e]
    exact h d hd
section
variable {X : Cx} {CX : CXT} {cx fld : PySem.Str} {C fI : Addr} {k : Nat} {fd : FuncData} {ps : List PySem.Str} {e : Expr} {te : TE} {p pos : Pos}
theorem PMk.imp {t t' : L2.St → Hp → XK → Prop} (h : PMk X e t) (i : ∀ σ H Q, t' σ H Q → t σ H Q) : PMk X e t' := fun pins s σ H Q I q => h pins s σ H Q I (i _ _ _ q)
theorem pe_mono (he : PE X e te) : PE X e (fun σ H k => ∃ Q0 : VK, te σ H Q0 ∧ ∀ y H1, Q0 y H1 → k y H1) := ⟨fun pins s σ H Q I ⟨Q0, h, i⟩ => thn (he.run pins s σ H Q0 I h) fun v s1 ⟨y, H1, I1, r1, q1⟩ => ⟨y, H1, I1, r1, i _ _ q1⟩⟩
theorem pmk_err (he : PE X e te) (T : OexC X.K C) (iC : findIn X.K (.ref C) "__init__" = some (some (.ref fI))) (tI : typeIn X.K (.ref fI) = some (.type "function"))
    (F1 : FnOk X.prog X.w X.K X.mg X.base CX k fI fd ps (sp_er X.K C fld)) (hr : Room (k + 1) X.A) (hb : Binds X.K fd ps []) (hx : Passes CX X (fun _ _ _ => False)) (hg : Gl X cx) (hm : X.mg cx = some (.ref C))
    (hdb : (cx == ("__debug__" : PySem.Str)) = false := by decide) (hs : starEach [e] X.env = (false, eval e X.env) :: starEach [] X.env := by rfl) :
    PMk X (.Call (.Name cx p) [e] [] pos) (tErr C fld te) :=
  PMk.imp (pmk_oex T iC tI F1 hr hb .nil hx hg hm (pa_cons (pe_mono he) pa_nil hs) hdb hs) fun σ H Q h => ⟨_, h, fun y H1 q => mk_er q⟩
end
end Tw
/-! Tw: n op x and d == x where the class of x has the method and the left side's type has none -/
namespace GB
open PySem PySem.Calls PyProof.Rows PySem.W
section
variable {prog : Program} {w : World} {A : Around} {E : Value → Shared → Prop} {s : Shared} {K : Frag} {y C L f : Addr} {h₀ : Heap} {m : Str → Option Value} {oy : Obj} {oe : Option Obj}
theorem cmpBack {op : CmpOp} {b : Value} {T id : String} {Q : Value → Shared → Prop} (hu : A.units < cLine) (F : Fr h₀ L s.heap m) (X₀ : K.In h₀) (J : InstAt s.heap y oy C oe) (hb : s.TypeIs b T)
    (hsub : subIn K (.ref C) (.type T) = some false) (slot : Slot T (cmpInfo op).2.1 id) (dec : ∀ Q' : Value → Shared → Prop, Q' .notImplemented s → wpAny (model prog w) A (call (.builtin id) [b, .ref y]) Q' E s)
    (hs : findIn K (.ref C) (cmpInfo op).2.2 = some (some (.ref f))) (hf : isFn K (.ref f) = true)
    (h : wpAny (model prog w) A (call (.ref f) [.ref y, b]) (PySem.W.CmpBack Q) E s) : wpAny (model prog w) A (richCompare op b (.ref y)) Q E s := by
  have X := X₀.keeps F.keep
  rcases hi : cmpInfo op with ⟨sym, f1, r1⟩
  rw [hi] at slot hs
  have two : wpAny (model prog w) A (tryCompare (.ref y) r1 b) (fun r s' => ∃ v, r = some v ∧ Q v s') E s := by
    unfold tryCompare
    refine wpAny_bind (ifBound_K X J hs hf (wpAny_mono h (fun v s' hv => ?_) fun _ _ e => e))
    cases v <;> first | exact hv.elim | exact wpAny_pure ⟨_, rfl, hv⟩
  have hne : (Value.type T != Value.ref C) = true := by
    rw [bne_iff_ne]
    intro q
    cases q
  simp only [richCompare, hi, hb.oneThing_none]
  refine wpAny_holding (wpAny_bind (wpAny_cRoomFor hu ?_))
  refine wpAny_bind (wpAny_typeOf hb (wpAny_bind (J.type.here ?_)))
  simp only [hne, if_true]
  refine wpAny_bind ((looks_subIn X hsub).here ?_)
  simp only [Bool.false_eq_true, if_false, Bool.not_false, if_true]
  refine wpAny_bind (m := tryCompare b _ (.ref y)) (wpAny_tryCompare_declines hb slot (dec _ ⟨rfl, ?_⟩))
  refine wpAny_bind (wpAny_mono two (fun r s' z => ?_) fun _ _ e => e)
  obtain ⟨v, rfl, hq⟩ := z
  exact wpAny_pure hq
theorem c_lt {i : Int} {t : Tok} {dx : Addr} : GivesAt (fun s => s.heap.get? y = some (instObj C dx)) (Builtin.«int.__lt__» ⟨[.int i t, .ref y], []⟩) (.val .notImplemented) := by
  intro prog w A R s hP h
  obtain ⟨hp, g, d, tk, os⟩ := s
  wp_walk
  exact h
theorem c_str {i : Str} {t : Tok} {dx : Addr} : GivesAt (fun s => s.heap.get? y = some (instObj C dx)) (Builtin.«str.__eq__» ⟨[.str i t, .ref y], []⟩) (.val .notImplemented) := by
  intro prog w A R s hP h
  obtain ⟨hp, g, d, tk, os⟩ := s
  wp_walk
  exact h
theorem c_none {dx : Addr} : GivesAt (fun s => s.heap.get? y = some (instObj C dx)) (Builtin.«NoneType.__eq__» ⟨[.none, .ref y], []⟩) (.val .notImplemented) := by
  intro prog w A R s hP h
  obtain ⟨hp, g, d, tk, os⟩ := s
  wp_walk
  exact h
theorem c_bool {b : Bool} {dx : Addr} : GivesAt (fun s => s.heap.get? y = some (instObj C dx)) (Builtin.«int.__eq__» ⟨[.bool b, .ref y], []⟩) (.val .notImplemented) := by
  intro prog w A R s hP h
  obtain ⟨hp, g, d, tk, os⟩ := s
  wp_walk
  exact h
theorem isI_own {Q : Bool → Shared → Prop} {T : Value} {b : Bool} {M : Model} (L1 : Looks M s.heap (typeOf (.ref y)) (.ref C)) (L2 : Looks M s.heap (isSubtype (.ref C) T) b) (h : Q b s) : wpAny M A (isInstance (.ref y) T) Q E s := by
  unfold isInstance
  refine wpAny_bind (L1.here ?_)
  exact L2.here h
open AutoSeq1 (wpAny_loadPart') in
theorem c_tup {l : Addr} {items : Array Value} {n : Nat} {dd : Option Addr} {sl : Array (Option Value)} {Q : Value → Shared → Prop} (hl : s.heap.get? l = some { cls := .type "tuple", dict := dd, data := .seq items n, slots := sl })
    (L1 : Looks (model prog w) s.heap (typeOf (.ref y)) (.ref C)) (L2 : Looks (model prog w) s.heap (isSubtype (.ref C) (.type "tuple")) false) (h : Q .notImplemented s) :
    wpAny (model prog w) A (call (.builtin "tuple.__eq__") [.ref l, .ref y]) Q E s := by
  refine wpAny_call_entry PySem.F.slot_tuple_eq ⟨_, hl, rfl⟩ PySem.F.entry_tuple_eq ?_ (PySem.F.args_tuple_eq_2 _ _)
  obtain ⟨hp, g, d, tk, os⟩ := s
  wp_walk using isI_own L1 L2, wpAny_loadPart' hl
  exact ⟨_, rfl, h⟩
open AutoSeq1 (wpAny_loadPart') in
theorem c_lst {l : Addr} {items : Array Value} {n : Nat} {dd : Option Addr} {sl : Array (Option Value)} {Q : Value → Shared → Prop} (hl : s.heap.get? l = some { cls := .type "list", dict := dd, data := .seq items n, slots := sl })
    (L1 : Looks (model prog w) s.heap (typeOf (.ref y)) (.ref C)) (L2 : Looks (model prog w) s.heap (isSubtype (.ref C) (.type "list")) false) (h : Q .notImplemented s) :
    wpAny (model prog w) A (call (.builtin "list.__eq__") [.ref l, .ref y]) Q E s := by
  refine wpAny_call_entry PySem.F.slot_list_eq ⟨_, hl, rfl⟩ PySem.F.entry_list_eq ?_ (PySem.F.args_list_eq_2 _ _)
  obtain ⟨hp, g, d, tk, os⟩ := s
  wp_walk using isI_own L1 L2, wpAny_loadPart' hl
  exact ⟨_, rfl, h⟩
theorem c_le {i : Int} {t : Tok} {dx : Addr} : GivesAt (fun s => s.heap.get? y = some (instObj C dx)) (Builtin.«int.__le__» ⟨[.int i t, .ref y], []⟩) (.val .notImplemented) := by
  intro prog w A R s hP h
  obtain ⟨hp, g, d, tk, os⟩ := s
  wp_walk
  exact h
theorem c_gt {i : Int} {t : Tok} {dx : Addr} : GivesAt (fun s => s.heap.get? y = some (instObj C dx)) (Builtin.«int.__gt__» ⟨[.int i t, .ref y], []⟩) (.val .notImplemented) := by
  intro prog w A R s hP h
  obtain ⟨hp, g, d, tk, os⟩ := s
  wp_walk
  exact h
theorem c_ge {i : Int} {t : Tok} {dx : Addr} : GivesAt (fun s => s.heap.get? y = some (instObj C dx)) (Builtin.«int.__ge__» ⟨[.int i t, .ref y], []⟩) (.val .notImplemented) := by
  intro prog w A R s hP h
  obtain ⟨hp, g, d, tk, os⟩ := s
  wp_walk
  exact h
theorem c_eq {i : Int} {t : Tok} {dx : Addr} : GivesAt (fun s => s.heap.get? y = some (instObj C dx)) (Builtin.«int.__eq__» ⟨[.int i t, .ref y], []⟩) (.val .notImplemented) := by
  intro prog w A R s hP h
  obtain ⟨hp, g, d, tk, os⟩ := s
  wp_walk
  exact h
theorem c_ne {i : Int} {t : Tok} {dx : Addr} : GivesAt (fun s => s.heap.get? y = some (instObj C dx)) (Builtin.«int.__ne__» ⟨[.int i t, .ref y], []⟩) (.val .notImplemented) := by
  intro prog w A R s hP h
  obtain ⟨hp, g, d, tk, os⟩ := s
  wp_walk
  exact h
end
end GB
namespace Tw
open PySem PySem.Spec PyProof.Rows L2
section
variable {X : Cx} {CX : CXT} {k : Nat} {C g : Addr} {sp : Sp} {E : XK}
def rBackI (C : Addr) (sp : Sp) (E : XK) : R2 := fun x y H Q => ∃ a dx fs i, x = .int i ∧ y = .ref a ∧ H a = some (.ins C dx fs) ∧ sp [.ref a, .int i] H (fun v H' => ∃ c, v = .bl c ∧ Q (.bl c) H') E
theorem op_backI {op : CmpOp} {nr : PySem.Str} {id : String} {B : Builtin} (hs : PySem.W.findIn X.K (.ref C) nr = some (some (.ref g))) (hf : PySem.W.isFn X.K (.ref g) = true) (hsub : PySem.W.subIn X.K (.ref C) (.type "int") = some false)
    (slot : Slot "int" (cmpInfo op).2.1 id) (entry : entryFor table id = some B) (args : ∀ a b, argsOk id ⟨[a, b], []⟩) (gv : ∀ (i : Int) (t : Tok) (y C dx : Addr), GivesAt (fun s => s.heap.get? y = some (PySem.W.instObj C dx)) (B ⟨[.int i t, .ref y], []⟩) (.val .notImplemented))
    (F : FnR X.prog X.w X.K X.mg X.base CX k g sp) (hr : Room (k + 1) X.A) (hx : Passes CX X E) (hn : (cmpInfo op).2.2 = nr := by rfl) (hop : ∀ v u, compareOp op v u = richCompare op v u := by intro _ _; rfl) : OpR X (compareOp op) (rBackI C sp E) := by
  intro pins s σ H x y v u Q I rx ry h
  obtain ⟨a, dx, fs, i, rfl, rfl, ea, q⟩ := h
  cases (show u = Value.ref a from ry)
  obtain ⟨t, rfl⟩ := rx
  rw [hop]
  obtain ⟨mA, O, _⟩ := ins_get I.hok ea
  obtain ⟨od, J, _⟩ := O.look
  obtain ⟨m, hF⟩ := I.fr
  refine GB.cmpBack (op := op) (T := "int") hr.units0 hF I.ok.mod.kin J (typeIs_int s i t) hsub slot (fun Q' hq => call_givesAt slot (typeIs_int s i t) entry (args _ _) (gv i t a C dx) J.at_ hq) (by rw [hn]; exact hs) hf ?_
  refine wpAny_mono (wpAny_call (SlX.run_at (us := [.ref a, .int i t]) (ws := [.ref a, .int i]) F (hr.mono (Nat.le_succ _)) I.env0 hx I (.cons rfl (.cons ⟨t, rfl⟩ .nil)) q)) (fun w s' z => ?_) fun _ _ x => x
  obtain ⟨z', H', I', rz, c, ez, qz⟩ := z
  subst ez
  cases (show w = Value.bool c from rz)
  exact ⟨.bl c, H', I', rfl, qz⟩
def rBackE (C : Addr) (sp : Sp) (E : XK) : R2 := fun x y H Q => ∃ a dx fs d, y = .ref a ∧ H a = some (.ins C dx fs) ∧ Ov H x d ∧ d ≠ .dict [] ∧ sp [.ref a, x] H (fun v H' => ∃ c, v = .bl c ∧ Q (.bl c) H') E
abbrev backTs : List String := ["int", "bool", "NoneType", "str", "tuple", "list"]
theorem op_backE (hs : PySem.W.findIn X.K (.ref C) "__eq__" = some (some (.ref g))) (hf : PySem.W.isFn X.K (.ref g) = true) (hsub : (backTs.all fun T => decide (PySem.W.subIn X.K (.ref C) (.type T) = some false)) = true)
    (F : FnR X.prog X.w X.K X.mg X.base CX k g sp) (hr : Room (k + 1) X.A) (hx : Passes CX X E) : OpR X (compareOp .Eq) (rBackE C sp E) := by
  intro pins s σ H x y v u Q I rx ry h
  obtain ⟨a, dx, fs, d, rfl, ea, ho, nd, q⟩ := h
  cases (show u = Value.ref a from ry)
  have hsb : ∀ T ∈ backTs, PySem.W.subIn X.K (.ref C) (.type T) = some false := fun T hT => of_decide_eq_true (List.all_eq_true.mp hsub T hT)
  obtain ⟨mA, O, _⟩ := ins_get I.hok ea
  obtain ⟨od, J, _⟩ := O.look
  obtain ⟨m, hF⟩ := I.fr
  show wpAny _ _ (richCompare .Eq v (.ref a)) _ _ _
  have fin : wpAny (model X.prog X.w) X.A (call (.ref g) [.ref a, v]) (PySem.W.CmpBack fun w s' => ∃ y H', Inv X pins σ H' s' ∧ RelV y w ∧ Q y H') X.xe s := by
    refine wpAny_mono (wpAny_call (SlX.run_at (us := [.ref a, v]) (ws := [.ref a, x]) F (hr.mono (Nat.le_succ _)) I.env0 hx I (.cons rfl (.cons rx .nil)) q)) (fun w s' z => ?_) fun _ _ x => x
    obtain ⟨z', H', I', rz, c, ez, qz⟩ := z
    subst ez
    cases (show w = Value.bool c from rz)
    exact ⟨.bl c, H', I', rfl, qz⟩
  have kX := I.kIn
  cases ho with
  | at_ h =>
    cases x with
    | non =>
      cases (show v = Value.none from rx)
      exact GB.cmpBack (op := .Eq) (T := "NoneType") hr.units0 hF I.ok.mod.kin J rfl (hsb _ (by decide)) PySem.F.slot_NoneType_eq (fun Q' hq => call_givesAt PySem.F.slot_NoneType_eq rfl PySem.F.entry_NoneType_eq (PySem.F.args_NoneType_eq_2 _ _) GB.c_none J.at_ hq) hs hf fin
    | bl b =>
      cases (show v = Value.bool b from rx)
      exact GB.cmpBack (op := .Eq) (T := "bool") hr.units0 hF I.ok.mod.kin J rfl (hsb _ (by decide)) PySem.F.slot_bool_eq (fun Q' hq => call_givesAt PySem.F.slot_bool_eq rfl PySem.F.entry_int_eq (PySem.F.args_int_eq_2 _ _) GB.c_bool J.at_ hq) hs hf fin
    | int i =>
      obtain ⟨t, rfl⟩ := rx
      exact GB.cmpBack (op := .Eq) (T := "int") hr.units0 hF I.ok.mod.kin J (typeIs_int s i t) (hsb _ (by decide)) PySem.F.slot_int_eq (fun Q' hq => call_givesAt PySem.F.slot_int_eq (typeIs_int s i t) PySem.F.entry_int_eq (PySem.F.args_int_eq_2 _ _) GB.c_eq J.at_ hq) hs hf fin
    | str y =>
      obtain ⟨t, rfl⟩ := rx
      exact GB.cmpBack (op := .Eq) (T := "str") hr.units0 hF I.ok.mod.kin J (typeIs_str s y t) (hsb _ (by decide)) PySem.F.slot_str_eq (fun Q' hq => call_givesAt PySem.F.slot_str_eq (typeIs_str s y t) PySem.F.entry_str_eq (PySem.F.args_str_eq_2 _ _) GB.c_str J.at_ hq) hs hf fin
    | _ => cases h
  | @tup l xs ds h f =>
    cases rx
    obtain ⟨its, _, pl, _⟩ := I.tuple (SqT.of h)
    obtain ⟨⟨cls, dd, data, sl⟩, ho, hc, n, hd⟩ := pl
    simp only at hc hd
    subst hc hd
    exact GB.cmpBack (op := .Eq) (T := "tuple") hr.units0 hF I.ok.mod.kin J ⟨_, ho, rfl⟩ (hsb _ (by decide)) PySem.F.slot_tuple_eq (fun Q' hq => GB.c_tup ho J.type (PySem.W.looks_subIn kX (hsb _ (by decide))) hq) hs hf fin
  | @lst l xs ds h f =>
    cases rx
    obtain ⟨its, _, pl, _⟩ := I.list (SqL.of h)
    obtain ⟨⟨cls, dd, data, sl⟩, ho, hc, n, hd⟩ := pl.isList
    simp only at hc hd
    subst hc hd
    exact GB.cmpBack (op := .Eq) (T := "list") hr.units0 hF I.ok.mod.kin J ⟨_, ho, rfl⟩ (hsb _ (by decide)) PySem.F.slot_list_eq (fun Q' hq => GB.c_lst ho J.type (PySem.W.looks_subIn kX (hsb _ (by decide))) hq) hs hf fin
  | dict h => exact absurd rfl nd
end
end Tw
namespace Tw
open PySem PySem.Spec PyProof.Rows L2
section
variable {X : Cx} {CX : CXT} {k : Nat} {f C : Addr} {fd : FuncData} {ps : List PySem.Str} {ds : List Value} {dvs : List V} {sp : Sp} {E : XK} {x : PySem.Str} {p pos : Pos} {e : Expr} {es : List Expr} {t : TA} {i : Nat}
def tMakeL (i : Nat) (C : Addr) (sp : Sp) (dvs : List V) (E : XK) (t : TA) : TE := fun σ H Q => σ[i]? = some (some (.ref C)) ∧ tMake C sp dvs E t σ H Q
theorem pe_makeL (hv : PE X (.Name x p) (tVar i)) (M : Mk X.K C f) (F : FnOk X.prog X.w X.K X.mg X.base CX k f fd ps sp) (hr : Room (k + 1) X.A) (hb : Binds X.K fd ps ds) (hd : Vals dvs ds) (hx : Passes CX X E)
    (ha : PA X (e :: es) t) (he : starEach (e :: es) X.env = (false, eval e X.env) :: starEach es X.env := by rfl) (hpl : (backTo pos (starEach es X.env)).any (·.1) = false := by rfl) :
    PE X (.Call (.Name x p) (e :: es) [] pos) (tMakeL i C sp dvs E t) := by
  refine ⟨fun pins s σ H Q I h => ?_⟩
  obtain ⟨hs, h⟩ := h
  refine wpAny_Call_Name_kw (thn (hv.run pins s σ H (fun v H1 => v = .ref C ∧ H1 = H) I ⟨.ref C, hs, rfl, rfl⟩) fun u s1 ⟨v, H1, I1, r1, q1⟩ => ?_)
  obtain ⟨ev, eH⟩ := q1
  subst ev
  rw [eH] at I1
  obtain rfl : u = Value.ref C := r1
  refine PySem.W.callWith_K (h₀ := X.base) I1.ok.mod.kin M.kp (thn (ha.run pos pins s1 σ H _ I1 h) fun us s2 ⟨vs, H2, I2, r, q⟩ => ⟨I2.kIn, ?_⟩) he hpl
  exact run_make M F hr hb hd hx I2 r q
def tMakeLR (i : Nat) (C : Addr) (sp : Sp) (E : XK) (t : TA) : TE := fun σ H Q => σ[i]? = some (some (.ref C)) ∧ StX.tMakeR C sp E t σ H Q
theorem pe_makeLR (hv : PE X (.Name x p) (tVar i)) (M : Mk X.K C f) (F : FnR X.prog X.w X.K X.mg X.base CX k f sp) (hr : Room (k + 1) X.A) (hx : Passes CX X E) (ha : PA X (e :: es) t)
    (he : starEach (e :: es) X.env = (false, eval e X.env) :: starEach es X.env := by rfl) (hpl : (backTo pos (starEach es X.env)).any (·.1) = false := by rfl) :
    PE X (.Call (.Name x p) (e :: es) [] pos) (tMakeLR i C sp E t) := by
  refine ⟨fun pins s σ H Q I h => ?_⟩
  obtain ⟨hs, h⟩ := h
  refine wpAny_Call_Name_kw (thn (hv.run pins s σ H (fun v H1 => v = .ref C ∧ H1 = H) I ⟨.ref C, hs, rfl, rfl⟩) fun u s1 ⟨v, H1, I1, r1, q1⟩ => ?_)
  obtain ⟨ev, eH⟩ := q1
  subst ev
  rw [eH] at I1
  obtain rfl : u = Value.ref C := r1
  refine PySem.W.callWith_K (h₀ := X.base) I1.ok.mod.kin M.kp (thn (ha.run pos pins s1 σ H _ I1 h) fun us s2 ⟨vs, H2, I2, r, q⟩ => ⟨I2.kIn, ?_⟩) he hpl
  exact StX.run_makeR M F hr hx I2 r q
end
end Tw
/-! Tw: bool(x) by an own __bool__ -/
namespace GB
open PySem PySem.Calls PyProof.Rows PySem.W
section
variable {prog : Program} {w : World} {A : Around} {E : Value → Shared → Prop} {s : Shared} {K : Frag} {x C L f : Addr} {h₀ : Heap} {m : Str → Option Value} {ox : Obj} {od : Option Obj}
theorem bool_own {Q : Value → Shared → Prop} (F : Fr h₀ L s.heap m) (X₀ : K.In h₀) (I : InstAt s.heap x ox C od) (hs : findIn K (.ref C) "__bool__" = some (some (.ref f))) (hf : isFn K (.ref f) = true)
    (h : wpAny (model prog w) A.in1.in1 (call (.ref f) [.ref x]) (PySem.W.BoolBack fun b s₁ => Q (.bool b) s₁) E s) : wpAny (model prog w) A (call (.type "bool") [.ref x]) Q E s := by
  refine callType_codes (T := "bool") (Bi := Builtin.«object.__init__») (Q₁ := fun r s₁ => ∃ b, r = Value.bool b ∧ Q r s₁) PySem.F.called_bool (PySem.F.typeCall_bool_1 _) PySem.F.entry_object_init ?_ ?_
  · refine codeAny_of_tree ?_
    show wpAny _ A.in1.in1 (do checkBuiltinCall "bool.__new__" ⟨[.type "bool", .ref x], []⟩; again (.builtin "bool.__new__" ⟨[.type "bool", .ref x], []⟩)) _ _ s
    refine wpAny_bind (wpAny_of_eq (PySem.F.newCall_bool_1 _) (wpAny_pure ⟨plainId_quiet (by decide +kernel) _, codeAny_builtin PySem.F.entry_bool_new ?_⟩))
    rw [Around.under_plainId (by decide +kernel) _]
    have key := PySem.W.truthy_K (Q := fun b s₁ => Q (.bool b) s₁) F X₀ I hs hf h
    unfold Builtin.«bool.__new__»
    have f1 := PySem.F.conv_sub_bool
    obtain ⟨hp, g, d, tk, os⟩ := s
    repeat (any_goals (first | assumption | (with_reducible refine wpAny_mono key (fun b s' hb => ?_) fun _ _ e => e) | wp_step))
    exact ⟨b, rfl, hb⟩
  · rintro obj s₁ ⟨b, rfl, hq⟩
    exact ⟨rfl, PySem.F.args_object_init_2 _ _, object_init_meets PySem.F.called_bool.init.lookup PySem.F.called_bool.made (by decide) prog w A.in1 _ s₁ ⟨rfl, rfl, hq⟩⟩
end
end GB
namespace Tw
open PySem PySem.Spec PyProof.Rows L2
section
variable {X : Cx} {CX : CXT} {k : Nat} {C g : Addr} {sp : Sp} {E : XK}
def rBoolOwn (C : Addr) (sp : Sp) (E : XK) : List V → Hp → VK → Prop := fun xs H Q => ∃ a dx fs, xs = [V.ref a] ∧ H a = some (.ins C dx fs) ∧ sp [.ref a] H (fun z H' => ∃ b, z = .bl b ∧ Q (.bl b) H') E
theorem call_boolOwn (hs : PySem.W.findIn X.K (.ref C) "__bool__" = some (some (.ref g))) (hf : PySem.W.isFn X.K (.ref g) = true) (F : FnR X.prog X.w X.K X.mg X.base CX k g sp) (hr : Room (k + 2) X.A) (hx : Passes CX X E) : CallR X (.type "bool") (rBoolOwn C sp E) := by
  intro pins s σ H xs us Q I r h
  obtain ⟨a, dx, fs, rfl, ea, q⟩ := h
  obtain ⟨u, rfl, ru⟩ := r.one
  cases (show u = Value.ref a from ru)
  obtain ⟨mA, O, _⟩ := ins_get I.hok ea
  obtain ⟨od, J, _⟩ := O.look
  obtain ⟨m, hF⟩ := I.fr
  have hr2 : Room k X.A.in1.in1 := (show Room (k + 1) X.A.in1 from Room.in1 hr).in1
  refine GB.bool_own hF I.ok.mod.kin J hs hf (wpAny_mono (wpAny_call (SlX.run_at (us := [.ref a]) (ws := [.ref a]) F hr2 I.env0.in1.in1 hx I (.cons rfl .nil) q)) (fun w s' z => ?_) fun _ _ x => x)
  obtain ⟨z', H', I', rz, b, eb, qz⟩ := z
  subst eb
  cases (show w = Value.bool b from rz)
  exact ⟨.bl b, H', I', rfl, qz⟩
end
end Tw
/-! Tw: a text some times -/
namespace Tw
open PySem PySem.Spec PyProof.Rows L2
section
variable {X : Cx}
def rMulT : R2 := fun x y H Q => ∃ a n, x = .str a ∧ y = .int n ∧ MulOk a n ∧ Q (.str (Txt.mul a n)) H
theorem op_mulT : OpR X (binaryOp .Mult) rMulT := by
  intro pins s σ H x y v u Q I rx ry h
  obtain ⟨a, n, rfl, rfl, ok, q⟩ := h
  obtain ⟨t, rfl⟩ := rx
  obtain ⟨t2, rfl⟩ := ry
  exact SB.mul ok fun t' k => ⟨.str (Txt.mul a n), H, I.kept (h' := s.heap) (fun b o e => e), ⟨t', rfl⟩, q⟩
def rNotInSg : R2 := fun x y H Q => ∃ (c : Nat) (z : PySem.Str), x = .str ⟨#[c]⟩ ∧ y = .str z ∧ Q (.bl (!decide (c ∈ z.cps.toList))) H
theorem op_notInSg : OpR X (compareOp .NotIn) rNotInSg := op_notIn_sign
end
end Tw
/-! Tw: tuples of instances compared by their own == -/
namespace GQ
open PySem PySem.SeqAt
open AutoSeq1 (wpAny_loadPart')
open MeetsSeq MeetsSeq2 MeetsSeq3 SeqRoads2
section
variable {prog : Program} {w : World} {A : Around} {R : Result → Shared → Prop}
end
section
variable {prog : Program} {w : World} {A : Around} {E : Value → Shared → Prop} {s : Shared}
end
end GQ
namespace Tw
open PySem PySem.Spec PyProof.Rows L2
section
variable {X : Cx} {CX : CXT} {k : Nat} {C g : Addr} {sp : Sp} {E : XK}
def rEqTO (K : PySem.W.Frag) (C : Addr) (sp : Sp) (E : XK) : R2 := fun x y H Q => ∃ a b xs ys, ∃ e : Nat → Bool, x = .ref a ∧ y = .ref b ∧ SqT K H a xs ∧ SqT K H b ys ∧
  (∀ (i : Nat) (x y : V), xs[i]? = some x → ys[i]? = some y → ∃ p q dx dy fs gs, x = .ref p ∧ y = .ref q ∧ H p = some (.ins C dx fs) ∧ H q = some (.ins C dy gs) ∧ (p = q → e i = true) ∧ ∀ R : VK, R (.bl (e i)) H → sp [.ref p, .ref q] H R E) ∧
  Q (.bl ((List.range (min xs.length ys.length)).all e && xs.length == ys.length)) H
end
end Tw
/-! Tw: instances that are unequal by their own __eq__ -/
namespace Tw
open PySem PySem.Spec PyProof.Rows L2
section
variable {prog : Program} {w : World} {A : Around} {E : Value → Shared → Prop} {s : Shared} {K : PySem.W.Frag} {x C f : Addr} {ox : Obj} {od : Option Obj}
theorem objNe_own {y : Value} {Q : Fin → Shared → Prop} (hu : A.units < cLine) (X : K.In s.heap) (I : PySem.W.InstAt s.heap x ox C od) (he : PySem.W.findIn K (.ref C) "__eq__" = some (some (.ref f))) (hf : PySem.W.isFn K (.ref f) = true)
    (h : wpAny (model prog w) A (call (.ref f) [.ref x, y]) (fun v s' => ∃ c, v = .bool c ∧ Q (.done (.ret (.bool (!c)))) s') E s) : wpAny (model prog w) A (Builtin.«object.__ne__» ⟨[.ref x, y], []⟩) Q E s := by
  unfold Builtin.«object.__ne__»
  refine wpAny_bind (wpAny_of_eq (a := ((Value.ref x : Value), [y])) (by first | rfl | (simp only [slotArgs]; rfl)) ?_)
  refine wpAny_bind (wpAny_cRoomFor hu ?_)
  refine wpAny_bind (PySem.W.ifBound_K X I he hf (wpAny_mono h (fun v s' hv => ?_) fun _ _ z => z))
  obtain ⟨c, rfl, q⟩ := hv
  show wpAny _ _ (truthy (.bool c) >>= fun b => _) _ _ _
  refine wpAny_bind (wpAny_of_eq (a := c) (by first | rfl | (unfold truthy; rfl)) ?_)
  exact wpAny_pure q
end
section
variable {X : Cx} {CX : CXT} {k : Nat} {C g : Addr} {sp : Sp} {E : XK}
def rNeO (C : Addr) (sp : Sp) (E : XK) : R2 := fun x y H Q => ∃ a dx fs b dy gs, x = .ref a ∧ y = .ref b ∧ H a = some (.ins C dx fs) ∧ H b = some (.ins C dy gs) ∧ sp [.ref a, .ref b] H (fun v H' => ∃ c, v = .bl c ∧ Q (.bl (!c)) H') E
end
end Tw
/-! Tw: wheels that are equal -/
namespace Tw
open PySem PySem.Spec PyProof.Rows L2 He TwM StX
open PySem.W (Frag)
local macro_rules | `(tactic| walk_at "rsl") => `(tactic| simp only [*, at3_0, at3_1, at3_2, at2_0, at2_1, updS, upd_two, gSub, rSetL, updN, tPar, tPar3, gTup, gCons, gNil, and_assoc, not_true_eq_false, not_false_eq_true, tNever, List.length_map, tFld, rIxTH, rIxLH, rLenTH, rLenLH, lk1, lfs_g, lfs_s, lfs_p, HO.ins.injEq, HO.tup.injEq, HO.lst.injEq, sp_Book_rounding, sp_Book_action, sp_Book_order, sp_Book_due, sp_Book_zero, sp_Book_beyond, Int.toNat_natCast, sp_visit_after, sp_is_visited, sp_Level_grain, sp_Level_slots, sp_Level_span, sp_Wheel_reach, sp_Wheel___len__, sp_is_integer, sp_is_count, sp_is_within, sp_rounded, tAsg, gName, tVar, tC, tOp, rI, rI0, rU, tUn, oAdd, oSub, oMul, oDiv, oMod, oNeg, oLt, oLe, oGt, oGe, oIsN, oNotN, tFn, tCons, tNil, tIfS, tIf, tTest, tB, tNot, tAnd, tOr, tAndV, tOrV, tNotV,
    tRet, tRetN, tNext, tCB, tDrop, tChain, rEq, rNe, oMax2, oMin2, oInt1, rLenF, L2.start, List.map_cons, List.map_nil, List.length_cons, List.length_nil, List.replicate_succ, List.replicate_zero, List.cons_append, List.nil_append, Nat.reduceAdd, Nat.reduceSub, Nat.zero_add,
    List.set_cons_zero, List.set_cons_succ, List.getElem?_cons_zero, List.getElem?_cons_succ, Option.some.injEq, V.int.injEq, V.ref.injEq, V.str.injEq, V.bl.injEq, exists_eq_left', exists_eq_left, exists_and_left, List.cons.injEq, and_true, true_and, decide_eq_true_eq, sc_ii, sc_ss, sc_bb, sc_ni, sc_in, sc_nn, sc_is, reduceCtorEq,
    Bool.not_eq_true', decide_eq_false_iff_not, if_true, if_false, Bool.false_eq_true, exists_eq', exists_const, false_and, and_false, or_false, false_or, exists_false, Bool.not_not, Bool.not_true, Bool.not_false, sUp_up, sFire_fire, sHigh_high, sPut_put, sZone_now, sBey_refuse, sBey_cut, tTup, tLst, sz0, sz1, sz2, sz3, sz4, sz5, sz6])
local macro_rules | `(tactic| walk_at "st") => `(tactic| ((try dsimp only); rw [seq1]; walk_at "rsl"))
section
variable {K : Frag} {w : World}
theorem LvAt.uniq {H : Hp} {a : Addr} {l l' : Lv} (h : LvAt K H a l) (h' : LvAt K H a l') : l = l' := by
  obtain ⟨_, dx, e⟩ := h
  obtain ⟨_, dy, e'⟩ := h'
  rw [e] at e'
  unfold lfs at e'
  cases l
  cases l'
  simp at e'
  simp [e']
end
end Tw
/-! Tw: books that are the same -/
namespace Tw
open PySem PySem.Spec PyProof.Rows L2 He TwM StX
open PySem.W (Frag)
local macro_rules | `(tactic| walk_at "rsl") => `(tactic| simp only [*, at3_0, at3_1, at3_2, at2_0, at2_1, updS, upd_two, gSub, rSetL, updN, tPar, tPar3, gTup, gCons, gNil, and_assoc, not_true_eq_false, not_false_eq_true, tNever, List.length_map, tFld, rIxTH, rIxLH, rLenTH, rLenLH, lk1, lfs_g, lfs_s, lfs_p, HO.ins.injEq, HO.tup.injEq, HO.lst.injEq, sp_Book_rounding, sp_Book_action, sp_Book_order, sp_Book_due, sp_Book_zero, sp_Book_beyond, Int.toNat_natCast, sp_visit_after, sp_is_visited, sp_Level_grain, sp_Level_slots, sp_Level_span, sp_Wheel_reach, sp_Wheel___len__, sp_is_integer, sp_is_count, sp_is_within, sp_rounded, tAsg, gName, tVar, tC, tOp, rI, rI0, rU, tUn, oAdd, oSub, oMul, oDiv, oMod, oNeg, oLt, oLe, oGt, oGe, oIsN, oNotN, tFn, tCons, tNil, tIfS, tIf, tTest, tB, tNot, tAnd, tOr, tAndV, tOrV, tNotV,
    tRet, tRetN, tNext, tCB, tDrop, tChain, rEq, rNe, oMax2, oMin2, oInt1, rLenF, L2.start, List.map_cons, List.map_nil, List.length_cons, List.length_nil, List.replicate_succ, List.replicate_zero, List.cons_append, List.nil_append, Nat.reduceAdd, Nat.reduceSub, Nat.zero_add,
    List.set_cons_zero, List.set_cons_succ, List.getElem?_cons_zero, List.getElem?_cons_succ, Option.some.injEq, V.int.injEq, V.ref.injEq, V.str.injEq, V.bl.injEq, exists_eq_left', exists_eq_left, exists_and_left, List.cons.injEq, and_true, true_and, decide_eq_true_eq, sc_ii, sc_ss, sc_bb, sc_ni, sc_in, sc_nn, sc_is, reduceCtorEq,
    Bool.not_eq_true', decide_eq_false_iff_not, if_true, if_false, Bool.false_eq_true, exists_eq', exists_const, false_and, and_false, or_false, false_or, exists_false, Bool.not_not, Bool.not_true, Bool.not_false, sUp_up, sFire_fire, sHigh_high, sPut_put, sZone_now, sBey_refuse, sBey_cut, tTup, tLst, sz0, sz1, sz2, sz3, sz4, sz5, sz6])
section
variable {K : Frag} {w : World}
end
end Tw
/-! Tw: the text of a book -/
namespace Tw
open PySem PySem.Spec PyProof.Rows L2 He TwM StX
open PySem.W (Frag)
local macro_rules | `(tactic| walk_at "rsl") => `(tactic| simp only [*, at3_0, at3_1, at3_2, at2_0, at2_1, updS, upd_two, gSub, L2.rSetL, updN, tPar, tPar3, gTup, gCons, gNil, and_assoc, not_true_eq_false, not_false_eq_true, tNever, List.length_map, tFld, rIxTH, rIxLH, rLenTH, rLenLH, lk1, lfs_g, lfs_s, lfs_p, HO.ins.injEq, HO.tup.injEq, HO.lst.injEq, sp_Book_rounding, sp_Book_action, sp_Book_order, sp_Book_due, sp_Book_zero, sp_Book_beyond, Int.toNat_natCast, sp_visit_after, sp_is_visited, sp_Level_grain, sp_Level_slots, sp_Level_span, sp_Wheel_reach, sp_Wheel___len__, sp_is_integer, sp_is_count, sp_is_within, sp_rounded, tAsg, gName, tVar, tC, tOp, rI, rI0, rU, tUn, oAdd, oSub, oMul, oDiv, oMod, oNeg, oLt, oLe, oGt, oGe, oIsN, oNotN, tFn, tCons, tNil, tIfS, tIf, tTest, tB, tNot, tAnd, tOr, tAndV, tOrV, tNotV,
    tRet, tRetN, tNext, tCB, tDrop, tChain, rEq, rNe, oMax2, oMin2, oInt1, rLenF, L2.start, List.map_cons, List.map_nil, List.length_cons, List.length_nil, List.replicate_succ, List.replicate_zero, List.cons_append, List.nil_append, Nat.reduceAdd, Nat.reduceSub, Nat.zero_add,
    List.set_cons_zero, List.set_cons_succ, List.getElem?_cons_zero, List.getElem?_cons_succ, Option.some.injEq, V.int.injEq, V.ref.injEq, V.str.injEq, V.bl.injEq, exists_eq_left', exists_eq_left, exists_and_left, List.cons.injEq, and_true, true_and, decide_eq_true_eq, sc_ii, sc_ss, sc_bb, sc_ni, sc_in, sc_nn, sc_is, reduceCtorEq,
    Bool.not_eq_true', decide_eq_false_iff_not, if_true, if_false, Bool.false_eq_true, exists_eq', exists_const, false_and, and_false, or_false, false_or, exists_false, Bool.not_not, Bool.not_true, Bool.not_false, sUp_up, sFire_fire, sHigh_high, sPut_put, sZone_now, sBey_refuse, sBey_cut, tTup, tLst, sz0, sz1, sz2, sz3, sz4, sz5, sz6])
section
variable {K : Frag} {w : World}
end
end Tw
/-! Tw: kinds of timers of a level, in plain Lean -/
namespace Tw
open TwM
theorem fin_block {W : List Lv} (ok : WOk W) {B : Bk} {d d' s s' m : Int} {i : Nat} (hi : levelOf W d = some i) (h1 : 1 ≤ d) (hi' : levelOf W d' = some i) (h1' : 1 ≤ d') (s0 : 0 ≤ s) (s1 : s < (lv W i).g) (s0' : 0 ≤ s') (s1' : s' < (lv W i).g)
    (hs : s' + d' = s + d + (lv W i).g * m) (ht : (rnd B.up (s + d) (lv W i).g - 1) / (lv W i).s = (rnd B.up (s + d) (lv W i).g - 1 + m) / (lv W i).s) :
    (fin W B s' d').1 = (fin W B s d).1 + (lv W i).g * m := by
  obtain ⟨hl, _⟩ := levelOf_lt hi
  have hall := ok.all i hl
  have e1 := place_in ok (B := B) hi h1 s
  have e2 := place_in ok (B := B) hi' h1' s'
  have hix : TwM.levelIx W d = i := by unfold TwM.levelIx; rw [hi]; rfl
  have hD := dv_of ok hl m
  have hsh : (⟨i, rnd B.up (s' + d') (lv W i).g, s' + d'⟩ : Spot) = sh W ((lv W i).g * m) ⟨i, rnd B.up (s + d) (lv W i).g, s + d⟩ := by
    unfold sh
    dsimp only
    rw [hs, rnd_shift (by omega), Int.mul_ediv_cancel_left _ (by omega)]
  rw [hsh] at e2
  have z1 : s / (lv W i).g = 0 := Int.ediv_eq_zero_of_lt s0 s1
  have z2 : s' / (lv W i).g = 0 := Int.ediv_eq_zero_of_lt s0' s1'
  generalize hsp : (⟨i, rnd B.up (s + d) (lv W i).g, s + d⟩ : Spot) = sp at *
  have hspl : sp.lv = i := by rw [← hsp]
  have hspp : sp.pt = rnd B.up (s + d) (lv W i).g := by rw [← hsp]
  have hspd : sp.due = s + d := by rw [← hsp]
  have hlw : sp.lv < W.length := by rw [hspl]; exact hl
  obtain ⟨q, hq⟩ := fol_ends ok B none (mu sp s + 1) sp s 0 hlw (Nat.le_succ _)
  have hq2 := fol_shift (B := B) ok hD (mu sp s + 1) (sp := sp) (tick := s) (mv := 0) (by omega) hlw (by rw [hspd, show s + d - s = d by omega, hix]; exact Nat.le_refl _)
  rw [hq] at hq2
  have hva : va (lv W (sh W ((lv W i).g * m) sp).lv) (sh W ((lv W i).g * m) sp).pt s' = va (lv W (sh W ((lv W i).g * m) sp).lv) (sh W ((lv W i).g * m) sp).pt (s + (lv W i).g * m) := by
    show va (lv W sp.lv) (sp.pt + (lv W i).g * m / (lv W sp.lv).g) s' = va (lv W sp.lv) (sp.pt + (lv W i).g * m / (lv W sp.lv).g) (s + (lv W i).g * m)
    rw [hspl, va_shift (by omega) (Int.dvd_mul_right _ _), Int.mul_ediv_cancel_left _ (by omega)]
    unfold va
    have k1 := mod_same (s := (lv W i).s) (by omega) ht
    rw [hspp, z1, z2]
    rw [show rnd B.up (s + d) (lv W i).g + m - 0 - 1 = rnd B.up (s + d) (lv W i).g - 1 + m by omega, k1, show rnd B.up (s + d) (lv W i).g - 0 - 1 = rnd B.up (s + d) (lv W i).g - 1 by omega]
    rw [show (0 : Int) + 1 + ((rnd B.up (s + d) (lv W i).g - 1) % (lv W i).s + m) = (0 + 1 + (rnd B.up (s + d) (lv W i).g - 1) % (lv W i).s) + m by omega, Int.add_mul, Int.mul_comm m]
  have hq3 : fol W B none (mu sp s + 1) (sh W ((lv W i).g * m) sp) s' 0 = (some q).map (shR W ((lv W i).g * m)) := by
    rw [← hq2]
    unfold fol
    rw [hva]
    dsimp only
    rw [show over none (va (lv W (sh W ((lv W i).g * m) sp).lv) (sh W ((lv W i).g * m) sp).pt (s + (lv W i).g * m)) = false from rfl, if_neg Bool.false_ne_true, if_neg Bool.false_ne_true]
  have f1 := fin_some e1 ok hlw hq
  have f2 := fin_some e2 ok (by show sp.lv < W.length; exact hlw) hq3
  rw [f1, f2]
  rfl
section
variable {W : List Lv} {B : Bk} {i : Nat}
def lat (W : List Lv) (B : Bk) (s d : Int) : Int := (fin W B s d).1 - s - d
def prD (W : List Lv) (i : Nat) (T : Int) : Int := max (lowD W i) (T - (lv W i).g + 1)
def latT (W : List Lv) (B : Bk) (i : Nat) (T : Int) : Int := lat W B (T - prD W i T) (prD W i T)
def Tot (W : List Lv) (i : Nat) (T : Int) : Prop := lowD W i ≤ T ∧ T < (lv W i).p + (lv W i).g - 1
theorem lowD_lt (ok : WOk W) (hi : i < W.length) : lowD W i < (lv W i).p := by
  unfold lowD
  split
  · have := ok.all i hi; omega
  · have := ok.asc (i - 1) (by omega)
    rw [show i - 1 + 1 = i by omega] at this
    exact this
theorem prD_in (ok : WOk W) (hi : i < W.length) {T : Int} (h : Tot W i T) : lowD W i ≤ prD W i T ∧ prD W i T < (lv W i).p ∧ 0 ≤ T - prD W i T ∧ T - prD W i T < (lv W i).g := by
  obtain ⟨h1, h2⟩ := h
  have h3 := lowD_lt ok hi
  have h4 := ok.all i hi
  unfold prD
  omega
theorem in_lv (ok : WOk W) {d : Int} (h1 : 1 ≤ d) (hd : levelOf W d = some i) : i < W.length ∧ lowD W i ≤ d ∧ d < (lv W i).p := by
  obtain ⟨a, b⟩ := levelOf_lt hd
  refine ⟨a, ?_, b⟩
  unfold lowD
  split
  · exact h1
  · exact levelOf_ge hd (i - 1) (by omega)
theorem tot_of (ok : WOk W) {s d : Int} (h1 : 1 ≤ d) (hd : levelOf W d = some i) (s0 : 0 ≤ s) (s1 : s < (lv W i).g) : Tot W i (s + d) := by
  obtain ⟨a, b, c⟩ := in_lv ok h1 hd
  exact ⟨by omega, by omega⟩
theorem lat_of (ok : WOk W) {s d : Int} (h1 : 1 ≤ d) (hd : levelOf W d = some i) (s0 : 0 ≤ s) (s1 : s < (lv W i).g) : lat W B s d = latT W B i (s + d) := by
  obtain ⟨a, b, c⟩ := in_lv ok h1 hd
  obtain ⟨p1, p2, p3, p4⟩ := prD_in ok a (tot_of ok h1 hd s0 s1)
  have lp := lowD_pos ok a
  have h := fin_block ok (B := B) (m := 0) hd h1 (level_in ok a p1 p2) (by omega) s0 s1 p3 p4 (by omega) (by rw [Int.add_zero])
  unfold latT lat
  rw [h]
  omega
theorem latT_turn (ok : WOk W) (hi : i < W.length) {T m : Int} (h : Tot W i T) (h' : Tot W i (T + (lv W i).g * m)) (ht : (rnd B.up T (lv W i).g - 1) / (lv W i).s = (rnd B.up T (lv W i).g - 1 + m) / (lv W i).s) : latT W B i (T + (lv W i).g * m) = latT W B i T := by
  obtain ⟨p1, p2, p3, p4⟩ := prD_in ok hi h
  obtain ⟨q1, q2, q3, q4⟩ := prD_in ok hi h'
  have lp := lowD_pos ok hi
  have e : T - prD W i T + prD W i T = T := by omega
  have f := fin_block ok (B := B) (m := m) (level_in ok hi p1 p2) (by omega) (level_in ok hi q1 q2) (by omega) p3 p4 q3 q4 (by omega) (by rw [e]; exact ht)
  unfold latT lat
  rw [f]
  omega
/-! ### the turns of a rest -/
def nxT (W : List Lv) (B : Bk) (i : Nat) (r T : Int) : Int :=
  (((rnd B.up T (lv W i).g - 1) / (lv W i).s + 1) * (lv W i).s + 1) * (lv W i).g + r - (if B.up = true ∧ 0 < r then (lv W i).g else 0)
theorem rnd_at {up : Bool} {g r q : Int} (hr : 0 ≤ r) (h : r < g) : rnd up (q * g + r) g = q + (if up = true ∧ 0 < r then 1 else 0) := by
  unfold rnd
  cases up with
  | false =>
    rw [if_neg Bool.false_ne_true, if_neg (fun z => Bool.false_ne_true z.1), Int.mul_comm, Int.mul_add_ediv_left _ _ (by omega), Int.ediv_eq_zero_of_lt hr h]
  | true =>
    rw [if_pos rfl]
    by_cases z : 0 < r
    · rw [if_pos ⟨rfl, z⟩, show -(q * g + r) = g * (-(q + 1)) + (g - r) by rw [Int.mul_neg, Int.mul_add, Int.mul_comm q]; omega, Int.mul_add_ediv_left _ _ (by omega), Int.ediv_eq_zero_of_lt (by omega) (by omega)]
      omega
    · rw [if_neg (fun y => z y.2), show r = 0 by omega, Int.add_zero, show -(q * g) = g * (-q) by rw [Int.mul_neg, Int.mul_comm q], Int.mul_ediv_cancel_left _ (by omega)]
      omega
theorem nxT_is (ok : WOk W) (hi : i < W.length) {r T : Int} (h0 : 0 ≤ r) (hr : r < (lv W i).g) (hT : T % (lv W i).g = r) :
    ∃ n : Int, 1 ≤ n ∧ nxT W B i r T = T + (lv W i).g * n ∧ ∀ m, 0 ≤ m → (m < n ↔ (rnd B.up T (lv W i).g - 1) / (lv W i).s = (rnd B.up T (lv W i).g - 1 + m) / (lv W i).s) := by
  have hall := ok.all i hi
  generalize hs : (lv W i).s = s at *
  generalize hg : (lv W i).g = g at *
  have e := Int.mul_ediv_add_emod T g
  rw [hT] at e
  have er : rnd B.up T g = T / g + (if B.up = true ∧ 0 < r then 1 else 0) := by
    have := rnd_at (up := B.up) (q := T / g) h0 hr
    rw [show T / g * g + r = T by rw [Int.mul_comm]; exact e] at this
    exact this
  unfold nxT
  rw [hs, hg]
  generalize hp : rnd B.up T g = p at *
  have m1 := Int.mul_ediv_add_emod (p - 1) s
  have m2 := Int.emod_nonneg (p - 1) (b := s) (by omega)
  have m3 := Int.emod_lt_of_pos (p - 1) (b := s) (by omega)
  refine ⟨s - (p - 1) % s, by omega, ?_, fun m hm => ?_⟩
  · have k : ((p - 1) / s + 1) * s + 1 = p + (s - (p - 1) % s) := by
      rw [Int.add_mul, Int.mul_comm]; omega
    rw [k, Int.add_mul, Int.mul_comm g]
    have e2 : T / g * g + r = T := by rw [Int.mul_comm]; exact e
    rw [er]
    by_cases z : B.up = true ∧ 0 < r
    · rw [if_pos z, if_pos z, Int.add_mul]; omega
    · rw [if_neg z, if_neg z, Int.add_mul]; omega
  · constructor
    · intro hlt
      have := (Int.ediv_emod_unique (a := p - 1 + m) (b := s) (q := (p - 1) / s) (r := (p - 1) % s + m) (by omega)).mpr ⟨by omega, by omega, by omega⟩
      exact this.1.symm
    · intro he
      have n1 := Int.mul_ediv_add_emod (p - 1 + m) s
      have n3 := Int.emod_lt_of_pos (p - 1 + m) (b := s) (by omega)
      rw [← he] at n1
      omega
def blkGo (W : List Lv) (B : Bk) (i : Nat) (r : Int) : Nat → Int → List Int
  | 0, _ => []
  | n + 1, T => if T < (lv W i).p + (lv W i).g - 1 then T :: blkGo W B i r n (nxT W B i r T) else []
def frT (W : List Lv) (i : Nat) (r : Int) : Int := lowD W i + (r - lowD W i) % (lv W i).g
def blk (W : List Lv) (B : Bk) (i : Nat) (r : Int) : List Int := blkGo W B i r ((lv W i).p + (lv W i).g).toNat (frT W i r)
theorem blkGo_has (ok : WOk W) (hi : i < W.length) {r : Int} (h0 : 0 ≤ r) (hr : r < (lv W i).g) : ∀ (n : Nat) (T : Int), lowD W i ≤ T → T % (lv W i).g = r → (lv W i).p + (lv W i).g - 1 - T ≤ n →
    (∀ x ∈ blkGo W B i r n T, T ≤ x ∧ Tot W i x ∧ x % (lv W i).g = r) ∧
    ∀ x, T ≤ x → x % (lv W i).g = r → x < (lv W i).p + (lv W i).g - 1 → ∃ y ∈ blkGo W B i r n T, y ≤ x ∧ latT W B i x = latT W B i y
  | 0, T, hl, hT, hn => ⟨fun x hx => absurd hx List.not_mem_nil, fun x a b c => by omega⟩
  | n + 1, T, hl, hT, hn => by
    have hg := (ok.all i hi).1
    obtain ⟨k, k1, k2, k3⟩ := nxT_is ok hi (B := B) h0 hr hT
    have gk : (lv W i).g * 1 ≤ (lv W i).g * k := Int.mul_le_mul_of_nonneg_left k1 (by omega)
    unfold blkGo
    by_cases z : T < (lv W i).p + (lv W i).g - 1
    · rw [if_pos z]
      have hTm : nxT W B i r T % (lv W i).g = r := by rw [k2, Int.add_mul_emod_self_left]; exact hT
      obtain ⟨i1, i2⟩ := blkGo_has ok hi h0 hr n (nxT W B i r T) (by omega) hTm (by omega)
      refine ⟨fun x hx => ?_, fun x a b c => ?_⟩
      · rcases List.mem_cons.mp hx with e | hx
        · subst e; exact ⟨Int.le_refl _, ⟨hl, z⟩, hT⟩
        · obtain ⟨q1, q2, q3⟩ := i1 x hx
          exact ⟨by omega, q2, q3⟩
      · rcases Int.lt_or_le x (nxT W B i r T) with y | y
        · obtain ⟨m, hm⟩ : ∃ m, x = T + (lv W i).g * m := by
            have := Int.emod_emod_of_dvd (x - T) (Int.dvd_refl (lv W i).g)
            have hd : (lv W i).g ∣ x - T := Int.dvd_of_emod_eq_zero (by rw [Int.sub_emod, b, hT, Int.sub_self, Int.zero_emod])
            obtain ⟨m, hm⟩ := hd
            exact ⟨m, by omega⟩
          have hm0 : 0 ≤ m := by
            rcases Int.lt_or_le m 0 with q | q
            · have := Int.mul_neg_of_pos_of_neg (a := (lv W i).g) (by omega) q
              omega
            · exact q
          have hmk : m < k := by
            have : (lv W i).g * m < (lv W i).g * k := by omega
            exact Int.lt_of_mul_lt_mul_left this (by omega)
          refine ⟨T, List.mem_cons_self, a, ?_⟩
          subst hm
          exact latT_turn ok hi ⟨hl, z⟩ ⟨by omega, c⟩ ((k3 m hm0).mp hmk)
        · obtain ⟨w, w1, w2⟩ := i2 x y b c
          exact ⟨w, List.mem_cons_of_mem _ w1, w2⟩
    · rw [if_neg z]
      exact ⟨fun x hx => absurd hx List.not_mem_nil, fun x a b c => by omega⟩
def smp (W : List Lv) (B : Bk) (i : Nat) : List Int := (List.range (lv W i).g.toNat).flatMap fun (r : Nat) => blk W B i r
end
end Tw
/-! Tw: the law's lateness -/
namespace Tw
open PySem PySem.Spec PyProof.Rows L2 He TwM StX
open PySem.W (Frag)
section
variable {K : Frag} {w : World}
def lagM (W : List Lv) (B : Bk) (s d : Int) : Int := (fin W B s d).1 - s - (if d = 0 ∧ B.zone = true then 1 else d)
local macro_rules | `(tactic| walk_at "rwl") => `(tactic| simp only [*, at3_0, at3_1, at3_2, at2_0, at2_1, updS, upd_two, gSub, rSetL, updN, tPar, at6_0, at6_1, at6_2, at6_3, at6_4, at6_5, and_assoc, not_true_eq_false, not_false_eq_true, tNever, List.length_map, tFld, rIxTH, rIxLH, rLenTH, rLenLH, lk1, lfs_g, lfs_s, lfs_p, HO.ins.injEq, HO.tup.injEq, HO.lst.injEq, sp_Book_rounding, sp_Book_action, sp_Book_order, sp_Book_due, sp_Book_zero, sp_Book_beyond, Int.toNat_natCast, sp_visit_after, sp_is_visited, sp_Level_grain, sp_Level_slots, sp_Level_span, sp_Wheel_reach, sp_Wheel___len__, sp_is_integer, sp_is_count, sp_is_within, sp_rounded, tSeq, tAsg, gName, tVar, tC, tOp, rI, rI0, rU, tUn, oAdd, oSub, oMul, oDiv, oMod, oNeg, oLt, oLe, oGt, oGe, oIsN, oNotN, tFn, tCons, tNil, tIfS, tIf, tTest, tB, tNot, tAnd, tOr, tAndV, tOrV, tNotV,
    tRet, tRetN, tNext, tCB, tDrop, tChain, rEq, rNe, oMax2, oMin2, oInt1, rLenF, L2.start, List.map_cons, List.map_nil, List.length_cons, List.length_nil, List.replicate_succ, List.replicate_zero, List.cons_append, List.nil_append, Nat.reduceAdd, Nat.reduceSub, Nat.zero_add,
    List.set_cons_zero, List.set_cons_succ, List.getElem?_cons_zero, List.getElem?_cons_succ, Option.some.injEq, V.int.injEq, V.ref.injEq, V.str.injEq, V.bl.injEq, exists_eq_left', exists_eq_left, exists_and_left, List.cons.injEq, and_true, true_and, decide_eq_true_eq, sc_ii, sc_ss, sc_bb, sc_ni, sc_in, sc_nn, sc_is, reduceCtorEq,
    Bool.not_eq_true', decide_eq_false_iff_not, if_true, if_false, Bool.false_eq_true, exists_eq', exists_const, false_and, and_false, or_false, false_or, exists_false, Bool.not_not, Bool.not_true, Bool.not_false, sUp_up, sFire_fire, sHigh_high, sPut_put, sZone_now, sBey_refuse, sBey_cut, tTup, tLst, sz0, sz1, sz2, sz3, sz4, sz5, sz6])
end
end Tw
/-! Tw: kinds of timers, as the program walks them -/
namespace Tw
open PySem PySem.Spec PyProof.Rows L2 He TwM StX
open PySem.W (Frag)
local macro_rules | `(tactic| walk_at "rsl") => `(tactic| simp only [*, at3_0, at3_1, at3_2, at2_0, at2_1, updS, upd_two, gSub, rSetL, updN, tPar, tPar3, gTup, gCons, gNil, and_assoc, not_true_eq_false, not_false_eq_true, tNever, List.length_map, tFld, rIxTH, rIxLH, rLenTH, rLenLH, lk1, lfs_g, lfs_s, lfs_p, HO.ins.injEq, HO.tup.injEq, HO.lst.injEq, sp_Book_rounding, sp_Book_action, sp_Book_order, sp_Book_due, sp_Book_zero, sp_Book_beyond, Int.toNat_natCast, sp_visit_after, sp_is_visited, sp_Level_grain, sp_Level_slots, sp_Level_span, sp_Wheel_reach, sp_Wheel___len__, sp_is_integer, sp_is_count, sp_is_within, sp_rounded, tAsg, gName, tVar, tC, tOp, rI, rI0, rU, tUn, oAdd, oSub, oMul, oDiv, oMod, oNeg, oLt, oLe, oGt, oGe, oIsN, oNotN, tFn, tCons, tNil, tIfS, tIf, tTest, tB, tNot, tAnd, tOr, tAndV, tOrV, tNotV,
    tRet, tRetN, tNext, tCB, tDrop, tChain, rEq, rNe, oMax2, oMin2, oInt1, rLenF, L2.start, List.map_cons, List.map_nil, List.length_cons, List.length_nil, List.replicate_succ, List.replicate_zero, List.cons_append, List.nil_append, Nat.reduceAdd, Nat.reduceSub, Nat.zero_add,
    List.set_cons_zero, List.set_cons_succ, List.getElem?_cons_zero, List.getElem?_cons_succ, Option.some.injEq, V.int.injEq, V.ref.injEq, V.str.injEq, V.bl.injEq, exists_eq_left', exists_eq_left, exists_and_left, List.cons.injEq, and_true, true_and, decide_eq_true_eq, sc_ii, sc_ss, sc_bb, sc_ni, sc_in, sc_nn, sc_is, reduceCtorEq,
    Bool.not_eq_true', decide_eq_false_iff_not, if_true, if_false, Bool.false_eq_true, exists_eq', exists_const, false_and, and_false, or_false, false_or, exists_false, Bool.not_not, Bool.not_true, Bool.not_false, sUp_up, sFire_fire, sHigh_high, sPut_put, sZone_now, sBey_refuse, sBey_cut, tTup, tLst, sz0, sz1, sz2, sz3, sz4, sz5, sz6])
local macro_rules | `(tactic| walk_at "st") => `(tactic| ((try dsimp only); rw [seq1]; walk_at "rsl"))
local macro_rules | `(tactic| walk_at "zt") => `(tactic| ((try dsimp only); rw [TwZ.seq_pl]; walk_at "rsl"))
section
variable {K : Frag} {w : World}
def lsG (n : Nat) (F : Nat → V → Hp → Prop) : TwZ.Gt := ⟨fun _ H H' => TwZ.Frm H H', fun j H x H' => j < n ∧ F j x H' ∧ Same H H', fun j H H' => j = n ∧ Same H H'⟩
def SmP (W : List Lv) (B : Bk) (i : Nat) (j : Nat) (x : V) (H : Hp) : Prop := ∃ T p, (smp W B i)[j]? = some T ∧ x = .ref p ∧ H p = some (.tup [.int T, .int (latT W B i T)])
def isK (kind : Nat) (late g : Int) : Prop := if kind = 0 then late < 0 else if kind = 1 then g ≤ late else late ≠ 0
instance (kind : Nat) (late g : Int) : Decidable (isK kind late g) := by unfold isK; infer_instance
end
section
variable {W : List Lv} {B : Bk} {i kind : Nat}
def nxK (W : List Lv) (B : Bk) (i kind : Nat) (o : Option Int) (T : Int) : Option Int := if isK kind (latT W B i T) (lv W i).g ∧ (o = none ∨ ∃ m, o = some m ∧ T < m) then some T else o
def KindIs (W : List Lv) (B : Bk) (kind : Nat) (o : Option (Int × Int)) : Prop := match o with
  | none => ∀ i d s, levelOf W d = some i → 1 ≤ d → 0 ≤ s → ¬ isK kind (lat W B s d) (lv W i).g
  | some (s, d) => ∃ i, levelOf W d = some i ∧ 1 ≤ d ∧ 0 ≤ s ∧ s < (lv W i).g ∧ isK kind (lat W B s d) (lv W i).g ∧
    ∀ i' d' s', levelOf W d' = some i' → 1 ≤ d' → 0 ≤ s' → isK kind (lat W B s' d') (lv W i').g → d < d' ∨ d = d' ∧ s ≤ s'
end
section
variable {K : Frag} {w : World}
end
end Tw
/-! a generator that walks a list of its own: the list is locked from its making on, so it stays while the generator sleeps -/
namespace TwZ
open PySem L2 PySem.Spec PyProof.Rows GenW
def tFrz (te : TE) : TE := fun σ H Q => te σ H fun v H1 => ∃ d u, v = .ref d ∧ H1 d = some u ∧ Mut (some u) ∧ ∀ od, Q v (upd H1 d (.frz od u))
def GzL (K : PySem.W.Frag) (a : Addr) (gt : TG) (tb : TGz) (D : GEz) (i : Nat) (Hw : Hp) (σ : L2.St) (H : Hp) : Prop := ∃ Y : Nat → Nat → Nat → Hp → L2.St → Hp → Prop, (∃ m, Y 0 m i Hw σ H) ∧ ∀ j m i Hw σ H, Y j m i Hw σ H →
      ((Itl K a).stop j H ∧ D.nx i Hw σ H) ∨ ((Itl K a).go j H ∧ ∃ Nx : Nat → Hp → L2.St → Hp → Prop, (∀ i' Hw' σ' H', Nx i' Hw' σ' H' → ∃ m', m' < m ∧ Y (j + 1) m' i' Hw' σ' H') ∧ ∀ x H', (Itl K a).yld j H x H' → gt x σ H' fun σ2 H2 => tb { D with nx := Nx, ct := Nx, bk := D.nx } i Hw σ2 H2)
end TwZ
/-! list comprehensions over generators -/
namespace TwZ
open PySem L2 PySem.Spec PyProof.Rows GenW
structure LowB (X : Cx) (lo : Addr) (PN : List (Addr × Obj)) (D : Addr) : Prop where
  cel : ∀ x c, X.env.cells.lookup x = some c → c < lo
  ex : ∀ b, lo ≤ b → b < X.s_0.heap.objs.size → b ≠ D → (∀ p ∈ PN, p.1 ≠ b) → b ∈ X.ex
  pn0 : X.pn = []
  fs : ∀ b ∈ frs X.stack, b < lo
  st : X.outer = X.stack
  loc : lo ≤ X.env.locals
  dl : D ≠ X.env.locals
  sz : lo ≤ X.s_0.heap.objs.size
  pin : ∀ p ∈ PN, p.1 ∉ frs X.stack ∧ (∀ v, p.2.data ≠ .cell v) ∧ p.1 ≠ X.env.locals ∧ X.s_0.heap.get? p.1 = some p.2 ∧ X.H_0 p.1 = none ∧ p.1 ∉ X.ex
section
variable {X : Cx} {σ : L2.St} {H H' : Hp} {s s1 : Shared} {lo a D : Addr} {g : Nat} {PN : List (Addr × Obj)} {ob : List (Addr × Obj)} {og : List (Nat × GenState)} {gs : GenState} {G : Array GenState}
theorem LowB.at_ (L : LowB X lo PN D) (I : Inv X [] σ H s) : ∀ p ∈ PN, s.heap.get? p.1 = some p.2 ∧ H p.1 = none := fun p hp => by
  obtain ⟨h1, h2, h3, h4, h5, h6⟩ := L.pin p hp
  have hfs : p.1 ∉ X.fs := fun z => h1 (by rw [← L.st]; exact z)
  exact ⟨I.base.keep _ _ h4 h5 hfs h6, I.base.free _ _ h4 h5 h6⟩
theorem inv_kptB (I : Inv X [] σ H s) (L : LowB X lo PN D) {oC : Obj} (hC : s.heap.get? X.env.locals = some oC) (hD : ∃ xs, H D = some (.lst xs)) (hD' : ∃ xs, H' D = some (.lst xs)) (k : Kpt X.prog X.w lo (frs X.stack) (PN ++ [(X.env.locals, oC)]) H H' s s1) : Inv X [] σ H' s1 := by
  obtain ⟨h', g', d', t', os'⟩ := s1
  obtain ⟨kos, kb, ku, kok, kp, _⟩ := k
  have e : os' = s.os := kos
  subst e
  have low : ∀ b o, s.heap.get? b = some o → b ∉ (List.range s.heap.objs.size).filter (fun b => decide (lo ≤ b ∧ b ≠ D ∧ b ≠ X.env.locals ∧ ∀ p ∈ PN, p.1 ≠ b)) → b < lo ∨ b = D ∨ b = X.env.locals ∨ ∃ p ∈ PN, p.1 = b := fun b o e n => by
    refine Classical.byContradiction fun q => n ?_
    refine List.mem_filter.mpr ⟨List.mem_range.mpr (Heap.lt_size e), decide_eq_true ⟨?_, ?_, ?_, fun p hp y => q (.inr (.inr (.inr ⟨p, hp, y⟩)))⟩⟩
    · exact Nat.le_of_not_lt fun z => q (.inl z)
    · exact fun z => q (.inr (.inl z))
    · exact fun z => q (.inr (.inr (.inl z)))
  have pinned : ∀ b o, s.heap.get? b = some o → (∃ p ∈ PN, p.1 = b) → h'.get? b = some o ∧ H' b = none := fun b o e ⟨p, hp, y⟩ => by
    subst y
    obtain ⟨z1, _⟩ := L.at_ I p hp
    rw [e] at z1; cases z1
    exact kp p (List.mem_append_left _ hp)
  have locd : ∀ o, s.heap.get? X.env.locals = some o → h'.get? X.env.locals = some o ∧ H' X.env.locals = none := fun o e => by
    rw [hC] at e; cases e
    exact kp _ (List.mem_append_right _ (List.mem_singleton.mpr rfl))
  obtain ⟨oD, hD⟩ := hD
  obtain ⟨oD', hD'⟩ := hD'
  have noD : ∀ {b}, b = D → H b = none → False := fun {b} z n => by rw [z, hD] at n; cases n
  refine I.step (g' := g') (t' := t') (d' := d') (ch := (List.range s.heap.objs.size).filter (fun b => decide (lo ≤ b ∧ b ≠ D ∧ b ≠ X.env.locals ∧ ∀ p ∈ PN, p.1 ≠ b))) (fun b hb => ?_) (fun b o hl hf hc e n => ?_) (fun b o hl hf hc e n => ?_) (fun b o hc e n => ?_) (fun b o hc e => ?_) ku.tups ku.frzs ku.tbls (fun m' hm => ?_) kok kb
  · obtain ⟨q1, q2, q3, q4⟩ := of_decide_eq_true (List.mem_filter.mp hb).2
    refine ⟨?_, q3, fun x c e z => ?_, fun p hp => ?_⟩
    · by_cases z : b < X.s_0.heap.objs.size
      · exact .inl (L.ex b q1 z q2 q4)
      · exact .inr (Nat.le_of_not_lt z)
    · exact absurd (L.cel x c e) (Nat.not_lt.mpr (by rw [z]; exact q1))
    · rw [L.pn0] at hp
      exact absurd hp List.not_mem_nil
  · rcases low b o e hc with z | z | z | z
    · exact ku.keep b o z e n fun y => hf (show b ∈ frs X.outer by rw [L.st]; exact y)
    · exact (noD z n).elim
    · exact absurd z hl
    · exact (pinned b o e z).1
  · rcases low b o e hc with z | z | z | z
    · exact ku.slot b o z e n
    · exact (noD z n).elim
    · exact absurd z hl
    · exact ⟨o.slots, (pinned b o e z).1⟩
  · rcases low b o e hc with z | z | z | z
    · exact ku.free b o z e n
    · exact (noD z n).elim
    · subst z; exact (locd o e).2
    · exact (pinned b o e z).2
  · rcases low b o e hc with z | z | z | z
    · exact ku.there b o z e
    · subst z
      obtain ⟨_, _, _, _, e⟩ := kok _ _ hD'
      exact ⟨_, e⟩
    · subst z; exact ⟨o, (locd o e).1⟩
    · exact ⟨o, (pinned b o e z).1⟩
  · obtain ⟨o', es', ep', ho', r'⟩ := hm
    exact ⟨_, es', ep', (locd _ ho').1, r'⟩
structure AtB (X : Cx) (PN : List (Addr × Obj)) (lo a : Addr) (g : Nat) (ob : List (Addr × Obj)) (og : List (Nat × GenState)) (gs : GenState) (H : Hp) (s : Shared) : Prop where
  own : Own lo a g H s ob og
  ne : ∀ p ∈ ob, p.1 ≠ X.env.locals ∧ ∀ q ∈ PN, q.1 ≠ p.1
  gen : s.gens[g]? = some gs
  nog : nog gs = true
theorem AtB.isgen (h : AtB X PN lo a g ob og gs H s) : s.heap.IsGen a g := by
  obtain ⟨o, nm, qn, hm, oc, od, osl⟩ := h.own.isgen
  exact ⟨o, nm, qn, (h.own.obs _ hm).1, oc, od, osl⟩
theorem AtB.mem (h : AtB X PN lo a g ob og gs H s) : ∃ o, s.heap.get? a = some o ∧ o.cls = .type "generator" ∧ ∃ vs, o.data = .fields vs := by
  obtain ⟨o, nm, qn, ho, oc, od, _⟩ := h.isgen
  exact ⟨o, ho, oc, _, od⟩
theorem AtB.pin (L : LowB X lo PN D) (I : Inv X [] σ H s) (h : AtB X PN lo a g ob og gs H s) : Inv X ob σ H s := I.pins_of fun p hp => by
  obtain ⟨z1, z2, z3, z4⟩ := h.own.obs p hp
  refine ⟨z1, z2, (h.ne p hp).1, fun y => ?_, z4⟩
  have y : p.1 ∈ frs X.outer := y
  rw [L.st] at y
  exact absurd (L.fs _ y) (Nat.not_lt.mpr z3)
theorem AtB.on {σ' : L2.St} {s' : Shared} (h : AtB X PN lo a g ob og gs H s) (sl : slp gs = true) (J : Inv X ob σ' H' s') (hs : Slps s.gens G) : AtB X PN lo a g ob og gs H' { s' with gens := G } := by
  have q : ∀ p ∈ ob, s'.heap.get? p.1 = some p.2 ∧ H' p.1 = none := fun p hp => let ⟨a, b, _⟩ := J.pin p (List.mem_append_right _ hp); ⟨a, b⟩
  refine ⟨⟨h.own.isgen, fun p hp => ?_, fun q hq => ?_⟩, h.ne, hs g gs h.gen sl, h.nog⟩
  · obtain ⟨_, _, z3, z4⟩ := h.own.obs p hp
    exact ⟨(q p hp).1, (q p hp).2, z3, z4⟩
  · obtain ⟨z1, z2, z3⟩ := h.own.ogs q hq
    exact ⟨hs q.1 q.2 z1 z2, z2, z3⟩
theorem go_gB {P : Program} {w : World} {A : Around} {E : Value → Shared → Prop} {tg : Expr} {u : Value} {Q : Unit → Shared → Prop} (h : AtB X PN lo a g ob og gs H s) (hQ : Q () s) : wpAny (model P w) A (letOwnedTupleGo tg (.ref a) u) Q E s := by
  obtain ⟨o, ho, hc, vs, hd⟩ := h.mem
  exact go_of ho hc hd (by decide) hQ
theorem AtB.wkd (L : LowB X lo PN D) (I : Inv X [] σ H s) {oC : Obj} (hC : s.heap.get? X.env.locals = some oC) (hd : ∀ v, oC.data ≠ .cell v) (h : AtB X PN lo a g ob og gs H s) : Wkd X.prog X.w X.base X.stack g ob og (PN ++ [(X.env.locals, oC)]) H (s.setGen g .running) where
  hok := I.hok
  bare := allBare_setGen I.bare rfl
  bs := I.bs
  funs := I.stack
  frf := I.stkFree
  obs := fun p hp => let ⟨a, b, _⟩ := h.own.obs p hp; ⟨a, b⟩
  ogs := fun q hq => by
    obtain ⟨a, _, c, _⟩ := h.own.ogs q hq
    rw [setGen_get _ _ (Nat.ne_of_gt c)]
    exact a
  pin := fun p hp => by
    rcases List.mem_append.mp hp with hp | hp
    · obtain ⟨z1, z2⟩ := L.at_ I p hp
      obtain ⟨h1, h2, _⟩ := L.pin p hp
      exact ⟨z1, z2, h1, h2, fun q hq => (h.ne q hq).2 p hp⟩
    · rw [List.mem_singleton.mp hp]
      exact ⟨hC, I.free, fun y => absurd (L.fs _ y) (Nat.not_lt.mpr L.loc), hd, fun q hq => Ne.symm (h.ne q hq).1⟩
  gsz := by
    show g < (s.setGen g .running).gens.size
    rw [setGen_size]
    exact gsz_of h.gen
theorem next_zB {J : Gt} {Hs : Hp} {E : Value → Shared → Prop} {n i : Nat} {A : Around} (I : Inv X [] σ H s) (hA : A = X.A) (hc : X.calm = true) (hd : A.depth < recursionLimit) (L : LowB X lo PN D) (h : AtB X PN lo a g ob og gs H s)
    (hS : Asl ⟨X.prog, X.w, X.base, A.in1, X.stack, lo, a, g, J⟩ (n + 1) i Hs ob og gs) (hgs : slp gs = true ∨ ∃ c, gs = .fresh c) (hp : J.pre i Hs H) (hD : ∃ xs, H D = some (.lst xs)) (hy : ∀ x H', J.yld i H x H' → ∃ xs, H' D = some (.lst xs)) (hf : ∀ H', J.fin i H H' → ∃ xs, H' D = some (.lst xs)) :
    wpAny (model X.prog X.w) A (pyNext (.ref a)) (fun r s1 => (∃ u x H' ob' og' gs', r = some u ∧ RelV x u ∧ J.yld i H x H' ∧ Inv X [] σ H' s1 ∧ AtB X PN lo a g ob' og' gs' H' s1 ∧ slp gs' = true ∧ Asl ⟨X.prog, X.w, X.base, A.in1, X.stack, lo, a, g, J⟩ n (i + 1) H' ob' og' gs') ∨
      (r = none ∧ ∃ H', J.fin i H H' ∧ Inv X [] σ H' s1)) E s := by
  have hgen := h.isgen
  obtain ⟨m, ⟨oC, es, ep, hoC, dC, _⟩, _⟩ := id I.loc
  have hcell : ∀ v, oC.data ≠ .cell v := fun v z => by rw [dC] at z; cases z
  refine next_g (Φ := Out ⟨X.prog, X.w, X.base, A.in1, X.stack, lo, a, g, J⟩ n i ⟨H, s.setGen g .running, PN ++ [(X.env.locals, oC)], og.map (·.1)⟩) (by rw [hA]; exact I.ok.hd hc) I.nolimit hd hgen h.gen (asl_succ.mp hS H _ _ (h.wkd L I hoC hcell) hp) (fun v gd l k c p fs s1 z hb => ?_) (fun r s1 z => ?_)
  · obtain ⟨x, H', ob', og', y, rv, kp, ow, nw, nq, ng, sl⟩ := z
    have kp' : Kpt X.prog X.w lo (frs X.stack) (PN ++ [(X.env.locals, oC)]) H H' s (s1.setGen g (End.susp v gd l k c p fs).genState) := ⟨kp.os, allBare_setGen kp.bare hb, kp.un, kp.hok, kp.pins, by
      have q := kp.gsz
      have q' : s.gens.size ≤ s1.gens.size := by rw [show (Wk.s ⟨H, s.setGen g .running, PN ++ [(X.env.locals, oC)], og.map (·.1)⟩).gens.size = s.gens.size from setGen_size s g .running] at q; exact q
      rw [setGen_size]; exact q'⟩
    have J1 := inv_kptB I L hoC hD (hy x H' y) kp'
    have gl : g < s1.gens.size := by
      have q := kp.gsz
      rw [show (Wk.s ⟨H, s.setGen g .running, PN ++ [(X.env.locals, oC)], og.map (·.1)⟩).gens.size = s.gens.size from setGen_size s g .running] at q
      exact Nat.lt_of_lt_of_le (gsz_of h.gen) q
    refine .inl ⟨v, x, H', ob', og', _, rfl, rv, y, J1, ⟨⟨ow.isgen, ow.obs, fun q hq => ?_⟩, fun p hp => ⟨fun z => ?_, fun q hq => nw q (List.mem_append_left _ hq) p hp⟩, setGen_at gl, ng⟩, rfl, sl⟩
    · obtain ⟨a1, a2, a3, a4⟩ := ow.ogs q hq
      have a3' : g < q.1 := a3
      exact ⟨by rw [setGen_get _ _ (Nat.ne_of_gt a3')]; exact a1, a2, a3, a4⟩
    · exact nw _ (List.mem_append_right _ (List.mem_singleton.mpr rfl)) p hp z.symm
  · obtain ⟨hr, H', hfi, kp⟩ := z
    refine ⟨hr, fun h' hk => .inr ⟨rfl, H', hfi, ?_⟩⟩
    have kp' : Kpt X.prog X.w lo (frs X.stack) (PN ++ [(X.env.locals, oC)]) H H' s (s1.setGen g .finished) := ⟨kp.os, allBare_setGen kp.bare rfl, kp.un, kp.hok, kp.pins, by
      have q := kp.gsz
      rw [show (Wk.s ⟨H, s.setGen g .running, PN ++ [(X.env.locals, oC)], og.map (·.1)⟩).gens.size = s.gens.size from setGen_size s g .running] at q
      rw [setGen_size]; exact q⟩
    exact (inv_kptB I L hoC hD (hf H' hfi) kp').kept (t' := s1.toks) hk
theorem stepB {α : Type} {t : Sem α} {A : Around} {Q : α → L2.St → Hp → Prop} {M : Model} {E : Value → Shared → Prop} (L : LowB X lo PN D) (I : Inv X [] σ H s) (h : AtB X PN lo a g ob og gs H s) (sl : slp gs = true)
    (ht : ∀ s0, Inv X ob σ H s0 → wpAny M A t (fun v s' => ∃ σ' H', Inv X ob σ' H' s' ∧ Q v σ' H') (fun _ _ => False) s0) : wpAny M A t (fun v s' => ∃ σ' H', Inv X [] σ' H' s' ∧ AtB X PN lo a g ob og gs H' s' ∧ Q v σ' H') E s := by
  have I5 := h.pin L I
  refine beside (ht _ (inv_gens I5 (dulls_bare I5.bare))) (fun v s6 G6 ⟨σ6, H6, I6, q6⟩ hs6 hb6 _ _ => ?_) fun e s' G q _ _ _ _ => q.elim
  exact ⟨σ6, H6, (inv_gens I6 (hb6 I6.bare)).unpinned, h.on sl I6 hs6, q6⟩
end
def turnG (g : TG) (tt : TT) (te : TE) (vs : List Nat) (D : Addr) (σw : L2.St) (Vn : Hp → Prop) (x : V) (H : Hp) : Prop :=
  g x σw H fun σ2 H2 => wipe σ2 vs = σw ∧ tt σ2 H2 fun b H3 => if b = true then te σ2 H3 fun y H4 => ∃ acc, H4 D = some (.lst acc) ∧ acc.length < sizeLine ∧ Vn (upd H4 D (.lst (acc ++ [y]))) else Vn H3
def tLcG (wg : TIG) (g : TG) (tt : TT) (te : TE) (vs : List Nat) : TE := fun σ H Q => wg σ H fun J H1 => ∀ D, H1 D = none → ∃ (N : Nat) (V : Nat → Hp → Hp → Prop), V 0 H1 (upd H1 D (.lst [])) ∧
  ∀ j Hs H, V j Hs H → j < N ∧ (∃ xs, H D = some (.lst xs)) ∧ J.pre j Hs H ∧ (∀ H', J.fin j H H' → (∃ xs, H' D = some (.lst xs)) ∧ Q (.ref D) H') ∧
    ∀ x H', J.yld j H x H' → (∃ xs, H' D = some (.lst xs)) ∧ turnG g tt te vs D (wipe σ vs) (V (j + 1) H') x H'
structure Parts (X : Cx) (scope : Scope) (tg : Expr) (ifs : List Expr) (elt : Expr) (g : TG) (tt : TT) (te : TE) : Prop where
  tgt : ∀ s H C cl fp, PG (X.blk s H scope (compEnvC scope cl C X.env) fp) tg g
  tst : ∀ s H C cl fp, PTs (X.blk s H scope (compEnvC scope cl C X.env) fp) ifs tt
  val : ∀ s H C cl fp, PE (X.blk s H scope (compEnvC scope cl C X.env) fp) elt te
section
variable {B : Cx} {lo a D : Addr} {gi : Nat} {PN : List (Addr × Obj)} {ob : List (Addr × Obj)} {og : List (Nat × GenState)} {gs : GenState} {σw : L2.St} {H : Hp} {s : Shared}
theorem turn_runs {tg elt : Expr} {ifs : List Expr} {g : TG} {tt : TT} {te : TE} {vs : List Nat} {Vn : Hp → Prop} {x : V} {u : Value} {R : Shared → Prop} {E E2 E3 E4 : Value → Shared → Prop} (L : LowB B lo PN D) (I : Inv B [] σw H s) (h : AtB B PN lo a gi ob og gs H s) (sl : slp gs = true) (noE : ∀ e s, ¬ B.xe e s)
    (pg : PG B tg g) (pt : PTs B ifs tt) (pe : PE B elt te) (rv : RelV x u) (t : turnG g tt te vs D σw Vn x H)
    (done : ∀ s' H', Inv B [] σw H' s' → AtB B PN lo a gi ob og gs H' s' → Vn H' → R s') :
    wpAny (model B.prog B.w) B.A (assign tg B.env u) (fun _ s2 => wpAny (model B.prog B.w) B.A (forIn ifs true fun c r => if r = true then do let ok ← isTrue c B.env (eval c B.env); pure (ForInStep.yield ok) else pure (ForInStep.yield r)) (fun ok s3 =>
      if ok = true then wpAny (model B.prog B.w) B.A (eval elt B.env) (fun x s4 => wpAny (model B.prog B.w) B.A (call (.builtin "list.append") [.ref D, x]) (fun _ s5 => R s5) E4 s4) E3 s3 else R s3) E2 s2) E s := by
  have none : ∀ {P : Prop} {e : Value} {s1 : Shared}, B.xe e s1 → P := fun {P e s1} z => (noE e s1 z).elim
  -- a turn ends in the state in which it began, but for the block's own names
  have back : ∀ {σ2 : L2.St} {H' : Hp} {s' : Shared}, wipe σ2 vs = σw → Inv B [] σ2 H' s' → AtB B PN lo a gi ob og gs H' s' → Vn H' → R s' := fun {σ2 H' s'} hw J A v =>
    done s' H' (J.weak (by rw [← hw, wipe_length]) fun j v e => by rw [← hw] at e; exact (wipe_some e).1) A v
  refine thn (stepB L I h sl fun s0 I0 => wpAny_mono (pg.run ob s0 _ H x u _ I0 rv t) (fun _ _ z => z) fun _ _ z => none z) fun _ s1 z1 => ?_
  obtain ⟨σ1, H1, I1, A1, hw, t1⟩ := z1
  refine thn (stepB L I1 A1 sl (Q := fun b σ' H' => σ1 = σ' ∧ if b = true then te σ1 H' fun y H4 => ∃ acc, H4 D = some (.lst acc) ∧ acc.length < sizeLine ∧ Vn (upd H4 D (.lst (acc ++ [y]))) else Vn H') fun s0 I0 => wpAny_mono (pt.run ob s0 σ1 H1 _ I0 t1) (fun b s' ⟨H2, I2, q2⟩ => ⟨σ1, H2, I2, rfl, q2⟩) fun _ _ z => none z) fun b s2 z2 => ?_
  obtain ⟨_, H2, I2, A2, rfl, t2⟩ := z2
  by_cases hb : b = true
  · rw [if_pos hb]
    rw [if_pos hb] at t2
    refine thn (stepB L I2 A2 sl (Q := fun v σ' H' => σ1 = σ' ∧ ∃ y, RelV y v ∧ ∃ acc, H' D = some (.lst acc) ∧ acc.length < sizeLine ∧ Vn (upd H' D (.lst (acc ++ [y])))) fun s0 I0 => wpAny_mono (pe.run ob s0 σ1 H2 _ I0 t2) (fun v s' ⟨y, H3, I3, r3, q3⟩ => ⟨σ1, H3, I3, rfl, y, r3, q3⟩) fun _ _ z => none z) fun v s3 z3 => ?_
    obtain ⟨_, H3, I3, A3, rfl, y, r3, acc, hD, hz, v3⟩ := z3
    refine thn (stepB L I3 A3 sl (Q := fun _ σ' H' => σ1 = σ' ∧ H' = upd H3 D (.lst (acc ++ [y]))) fun s0 I0 => app_ok (X := B) I0 hD hz r3 fun s' J => ⟨σ1, _, J, rfl, rfl⟩) fun _ s4 z4 => ?_
    obtain ⟨_, _, I4, A4, rfl, rfl⟩ := z4
    exact back hw I4 A4 v3
  · rw [if_neg hb]
    rw [if_neg hb] at t2
    exact back hw I2 A2 t2
end
section
variable {X : Cx} {pins : List (Addr × Obj)} {σ : L2.St} {H : Hp} {s : Shared} {lo a : Addr} {gi : Nat} {ob : List (Addr × Obj)} {c : Code}
def betw (lo D : Addr) (PN : List (Addr × Obj)) (n : Nat) : List Addr := (List.range n).filter fun b => decide (lo ≤ b ∧ b ≠ D ∧ ∀ p ∈ PN, p.1 ≠ b)
theorem mem_betw {lo D : Addr} {PN : List (Addr × Obj)} {n : Nat} {b : Addr} : b ∈ betw lo D PN n ↔ b < n ∧ lo ≤ b ∧ b ≠ D ∧ ∀ p ∈ PN, p.1 ≠ b := by
  unfold betw
  rw [List.mem_filter, List.mem_range, decide_eq_true_iff]
theorem fs_low (I : Inv X pins σ H s) (L : Low X lo) {b : Addr} (hb : b ∈ X.fs) : b < lo :=
  let ⟨_, _, ho, _⟩ := I.ok.funs.mem hb
  Nat.lt_of_lt_of_le (Heap.lt_size ho) L.sz
theorem betw_ok (I : Inv X pins σ H s) (L : Low X lo) {D : Addr} {n : Nat} (hn : ∀ b, lo ≤ b → b ≠ D → H b = none) : ∀ b ∈ betw lo D (X.pn ++ pins) n, FpOk X pins H b ∧ b < n := fun b hb => by
  obtain ⟨b1, b2, b3, b4⟩ := mem_betw.mp hb
  have no : ∀ {y}, y < lo → y ≠ b := fun {y} z e => Nat.not_lt.mpr b2 (e ▸ z)
  exact ⟨⟨hn b b2 b3, (no L.loc).symm, fun z => no (fs_low I L z) rfl, .inr (Nat.le_trans L.sz b2), fun x c e => no (L.cel x c e), b4⟩, b1⟩
theorem cells_low (L : Low X lo) {scope : Scope} (hf : ∀ y ∈ scope.names, y.2 = .free → ∃ c, X.env.cells.lookup y.1 = some c) (hnc : ∀ y ∈ scope.names, y.2 ≠ .cell) {h : Heap} {x : Str} {c : Addr} (e : (cellsFrom h.objs.size scope.names (cloFrom X.env.cells scope.names [])).lookup x = some c) : c < lo := by
  rcases cells_mem (PySem.mem_of_lookup e) with m | ⟨m, _, _⟩
  · rcases cloFrom_mem m with z | ⟨z, rfl⟩
    · exact absurd z List.not_mem_nil
    · obtain ⟨d, hd⟩ := hf (x, .free) z rfl
      simp only [hd]
      exact L.cel _ _ hd
  · exact (hnc _ m rfl).elim
theorem low_block {ce : Env} {scope : Scope} {D : Addr} (I : Inv X pins σ H s) (L : Low X lo) (hlo : lo ≤ D) (hs : s.heap.objs.size = D + 1) (hce : ce.locals = D + 1) (hcel : ∀ x c, ce.cells.lookup x = some c → c < lo) :
    LowB (X.blk s H scope ce (betw lo D (X.pn ++ pins) s.heap.objs.size)) lo (X.pn ++ pins) D where
  cel := hcel
  ex := fun b h1 h2 h3 h4 => mem_betw.mpr ⟨h2, h1, h3, h4⟩
  pn0 := rfl
  fs := fun b hb => (List.mem_cons.mp (I.stkSub b hb)).elim (fun z => z ▸ L.loc) (fs_low I L)
  st := rfl
  loc := by show lo ≤ ce.locals; rw [hce]; exact Nat.le_succ_of_le hlo
  dl := by show D ≠ ce.locals; rw [hce]; exact Nat.ne_of_lt (Nat.lt_succ_self D)
  sz := by show lo ≤ s.heap.objs.size; rw [hs]; exact Nat.le_succ_of_le hlo
  pin := fun p hp => by
    obtain ⟨z1, z2, z3, z4, z5⟩ := I.pin p hp
    refine ⟨fun y => (List.mem_cons.mp (I.stkSub p.1 y)).elim z3 z4, z5, ?_, z1, z2, fun y => (mem_betw.mp y).2.2.2 p hp rfl⟩
    show p.1 ≠ ce.locals
    rw [hce, ← hs]
    exact Nat.ne_of_lt (Heap.lt_size z1)
theorem At.block {B : Cx} {s4 : Shared} {H4 : Hp} (h : At X pins lo a gi ob [] (.fresh c) H s) (hl : s.heap.objs.size ≤ B.env.locals) (hg : s4.gens = s.gens) (hk : ∀ b o, s.heap.get? b = some o → s4.heap.get? b = some o) (hH : ∀ b, b < s.heap.objs.size → H4 b = H b) :
    AtB B (X.pn ++ pins) lo a gi ob [] (.fresh c) H4 s4 := by
  have at_ : ∀ p ∈ ob, p.1 < s.heap.objs.size := fun p hp => Heap.lt_size (h.own.obs p hp).1
  refine ⟨⟨h.own.isgen, fun p hp => ?_, fun q hq => absurd hq List.not_mem_nil⟩, fun p hp => ⟨Nat.ne_of_lt (Nat.lt_of_lt_of_le (at_ p hp) hl), fun q hq => (h.fp p hp).2.2.2.2.2 q hq⟩, by rw [hg]; exact h.gen, rfl⟩
  obtain ⟨z1, z2, z3, z4⟩ := h.own.obs p hp
  exact ⟨hk _ _ z1, by rw [hH _ (at_ p hp)]; exact z2, z3, z4⟩
theorem lcG_core {k : Nat} {Q : VK} {elt tg iter : Expr} {ifs : List Expr} {scope : Scope} {own : List (Str × Nat)} {pos pos' : Pos} {wg : TIG} {g : TG} {tt : TT} {te : TE} {use : Option (Value → Sem Unit)} {Qf : Value → Shared → Prop}
    (hc : X.calm = true) (hr : Room k X.A) (nd : X.N.Nodup) (I : Inv X pins σ H s) (hi : PIG X iter wg) (ok : BlkOk X.N X.env.scope scope own) (hnc : ∀ y ∈ scope.names, y.2 ≠ .cell) (pr : Parts X scope tg ifs elt g tt te)
    (hfs : ∀ x, foldedSetIterable iter X.env x = pure x) (h : tLcG wg g tt te (own.map (·.2)) σ H Q)
    (fin : ∀ D C s' m H', Inv X pins σ H' s' → Q (.ref D) H' → s'.heap.Ns C m → FpOk X pins H' C → compPost (model X.prog X.w) X.A X.xe use Qf (.ref D) C (.ok .next) s') :
    wpAny (model X.prog X.w) X.A (comprehension (.ListComp elt [⟨tg, iter, ifs, 0⟩] scope pos) scope X.env pos' (newList []) false (eval iter X.env) use) Qf X.xe s := by
  have hf : ∀ y ∈ scope.names, y.2 = .free → ∃ c, X.env.cells.lookup y.1 = some c := fun y hy e => (ok.free y hy e).elim (fun z => I.ok.has _ (.inl z)) fun z => I.ok.has _ (.inr z)
  refine wpAny_comprehension_free rfl hfs (closure_ok hf) ok.kind (fun y hy e => (ok.uniq y hy).trans (congrArg some e)) (thn (hi.run pins s σ H _ I h) fun v s2 made => ?_)
  obtain ⟨J, H2, lo, a, gi, ob, c, rfl, I2, L, At2, _, hlo, As2, q⟩ := made
  refine wpAny_pyIter_gen At2.isgen (wpAny_newObj_type (newEnv_comp ?_) (Nat.zero_le _))
  obtain ⟨D, eD⟩ : ∃ D, D = s2.heap.objs.size := ⟨_, rfl⟩
  rw [← eD]
  obtain ⟨N, V, v0, turn⟩ := q D (I2.hok.fresh (Nat.le_of_eq eD.symm))
  -- the new list is laid
  let s3 : Shared := { s2 with heap := s2.heap.push { cls := .type "list", data := .seq ([] : List Value).toArray } }
  have old3 : ∀ b o, s2.heap.get? b = some o → s3.heap.get? b = some o := fun b o => Heap.get?_push_of_some _
  have sz3 : s3.heap.objs.size = D + 1 := (Heap.size_push _ _).trans (by rw [eD])
  have I3 : Inv X pins σ (upd H2 D (.lst [])) s3 := I2.laid (t' := s2.toks) old3 (Nat.le_of_eq eD.symm) ⟨Nat.zero_le _, [], 0, .nil, by rw [eD]; exact Heap.get?_push_size _ rfl⟩
  have hloD : lo ≤ D := by
    obtain ⟨o, nm, qn, hm, _⟩ := At2.own.isgen
    have z := At2.own.obs _ hm
    exact Nat.le_trans z.2.2.1 (Nat.le_of_lt (eD ▸ Heap.lt_size z.1))
  have blo := betw_ok (n := s3.heap.objs.size) (D := D) I3 L fun b h1 h2 => (upd_ne h2).trans (hlo b h1)
  -- the block is entered
  have I4 := block_start I3 ok nd blo
  let cl := cellsFrom (s3.heap.objs.size + 1) scope.names (cloFrom X.env.cells scope.names [])
  have low : ∀ x c, cl.lookup x = some c → c < lo := fun x c e => cells_low (h := s3.heap.push { cls := .type "dict", data := .dict #[] }) L hf hnc (by rw [Heap.size_push]; exact e)
  have LB := low_block (ce := compEnvC scope cl s3.heap.objs.size X.env) (scope := scope) I3 L hloD sz3 sz3 low
  let B := X.blk s3 (upd H2 D (.lst [])) scope (compEnvC scope cl s3.heap.objs.size X.env) (betw lo D (X.pn ++ pins) s3.heap.objs.size)
  let s4 : Shared := { s3 with heap := pushCells (s3.heap.push { cls := .type "dict", data := .dict #[] }) scope.names }
  have A4 : AtB B (X.pn ++ pins) lo a gi ob [] (.fresh c) (upd H2 D (.lst [])) s4 :=
    At2.block (s4 := s4) (by show s2.heap.objs.size ≤ s3.heap.objs.size; rw [sz3, ← eD]; exact Nat.le_succ D) rfl (fun b o e => pushCells_keeps _ _ _ _ (Heap.get?_push_of_some _ (old3 b o e))) fun b hb => upd_ne (Nat.ne_of_lt (eD ▸ hb))
  have loop : codeAny (model X.prog X.w) X.A (.compLoop (.ListComp elt [⟨tg, iter, ifs, 0⟩] scope pos) 0 (.ref a) (.ref D) B.env) (compPost (model X.prog X.w) X.A X.xe use Qf (.ref D) s3.heap.objs.size) s4 := by
    refine compLoop_any (fun n s' => ∃ j Hs H' ob og gs, n = N - j ∧ Inv B [] (wipe σ (own.map (·.2))) H' s' ∧ AtB B (X.pn ++ pins) lo a gi ob og gs H' s' ∧ (slp gs = true ∨ ∃ c, gs = .fresh c) ∧
      Asl ⟨X.prog, X.w, X.base, X.A.in1, X.stack, lo, a, gi, J⟩ (N - j) j Hs ob og gs ∧ V j Hs H') ?_ N ⟨0, H2, _, ob, [], _, rfl, I4, A4, .inr ⟨c, rfl⟩, As2 _, v0⟩
    rintro n s5 ⟨j, Hs5, H5, ob5, og5, gs5, rfl, I5, A5, sl5, As5, v5⟩
    obtain ⟨hj, hD5, hpre, hfin, step⟩ := turn j Hs5 H5 v5
    obtain ⟨m, em⟩ : ∃ m, N - j = m + 1 := ⟨N - j - 1, by omega⟩
    rw [em] at As5
    refine thn (next_zB (X := B) I5 rfl hc hr.depth LB A5 As5 sl5 hpre hD5 (fun x H' y => (step x H' y).1) fun H' f => (hfin H' f).1) fun r s6 out => ?_
    rcases out with ⟨u, x, H6, ob6, og6, gs6, rfl, rv, y, I6, A6, sl6, As6⟩ | ⟨rfl, H6, f6, I6⟩
    · refine go_gB A6 (turn_runs LB I6 A6 sl6 (fun _ _ z => z) (pr.tgt ..) (pr.tst ..) (pr.val ..) rv (step x H6 y).2 fun s' H' I' A' v' => ⟨N - (j + 1), by omega, j + 1, H6, H', ob6, og6, gs6, rfl, I', A', .inl sl6, ?_, v'⟩)
      rw [show N - (j + 1) = m by omega]
      exact As6
    · obtain ⟨_, q6⟩ := hfin H6 f6
      obtain ⟨m6, n6, _⟩ := I6.loc
      exact fin D _ s6 m6 H6 (I3.call' (ch := betw lo D (X.pn ++ pins) s3.heap.objs.size) I6.os I6.base I6.hok I6.bare fun b hb => let ⟨z, _⟩ := blo b hb; ⟨z.2.2.2.1, z.2.1, z.2.2.2.2.1, z.2.2.2.2.2⟩) q6 n6 (I3.fpOk (Nat.le_refl _) I6.free)
  exact codeAny_compStart_list loop (wpAny_pyIter_gen A4.isgen loop)
theorem pe_lcG {k : Nat} {elt tg iter : Expr} {ifs : List Expr} {scope : Scope} {own : List (Str × Nat)} {pos : Pos} {wg : TIG} {g : TG} {tt : TT} {te : TE} (hc : X.calm = true) (hr : Room k X.A) (nd : X.N.Nodup) (hi : PIG X iter wg) (ok : BlkOk X.N X.env.scope scope own) (pr : Parts X scope tg ifs elt g tt te)
    (hnc : ∀ y ∈ scope.names, y.2 ≠ .cell := by decide +kernel) (hfs : ∀ x, foldedSetIterable iter X.env x = pure x := by intro _; rfl) : PE X (.ListComp elt [⟨tg, iter, ifs, 0⟩] scope pos) (tLcG wg g tt te (own.map (·.2))) where
  run := fun pins s σ H Q I h => by
    rw [eval_ListComp]
    exact lcG_core hc hr nd I hi ok hnc pr hfs h fun D C s' m H' I' q hn f => ⟨m, hn, fun h' sb => ⟨.ref D, H', I'.turned (t' := s'.toks) (fun b o hb e => (sb.2 b hb).trans e) f.1 f.2.1 f.2.2.2.1 f.2.2.2.2.1 f.2.2.2.2.2, rfl, q⟩⟩
theorem ps_setLcG {k : Nat} {i : Nat} {y : Str} {py : Pos} {elt tg iter : Expr} {ifs : List Expr} {scope : Scope} {own : List (Str × Nat)} {pos spos : Pos} {wg : TIG} {g : TG} {tt : TT} {te : TE} (hc : X.calm = true) (hr : Room k X.A) (nd : X.N.Nodup) (hy : X.N[i]? = some y) (hyl : X.env.scope.names.lookup y = some .local)
    (hsw : swapsWith (.ListComp elt [⟨tg, iter, ifs, 0⟩] scope pos) (some (.Name y py)) spos.line X.env = pure true) (hi : PIG X iter wg) (ok : BlkOk X.N X.env.scope scope own) (pr : Parts X scope tg ifs elt g tt te)
    (hnc : ∀ y ∈ scope.names, y.2 ≠ .cell := by decide +kernel) (hfs : ∀ x, foldedSetIterable iter X.env x = pure x := by intro _; rfl) : PS X (.Assign [.Name y py] (.ListComp elt [⟨tg, iter, ifs, 0⟩] scope pos) spos) (tAsg (tLcG wg g tt te (own.map (·.2))) (gName i)) where
  run := fun pins s σ H D I h => by
    have stored : ∀ L C s' m H', Inv X pins σ H' s' → gName i (.ref L) σ H' D.nx → s'.heap.Ns C m → FpOk X pins H' C → compPost (model X.prog X.w) X.A X.xe (some (assign (.Name y py) X.env)) (fun _ s' => SP X pins D .next s') (.ref L) C (.ok .next) s' := fun L C s' m H' J q hn f => by
      refine wpAny_assign_Name (store_ok2 (v := V.ref L) J nd hy (.inl hyl) rfl (fun s2 I2 wr => ?_) (.inr hyl))
      obtain ⟨a, sb, ha⟩ := wr
      have ne : C ≠ a := ha.elim (fun z => by rw [z]; exact f.2.1) fun z e => f.2.2.2.2.1 y a z e.symm
      exact ⟨m, hn.sameBut sb ne, fun h3 sb3 => ⟨_, H', I2.turned (t' := s2.toks) (fun b o hb e => (sb3.2 b hb).trans e) f.1 f.2.1 f.2.2.2.1 f.2.2.2.2.1 f.2.2.2.2.2, q⟩⟩
    have all := lcG_core (pos := pos) (pos' := firstIterPos [⟨tg, iter, ifs, 0⟩] pos) hc hr nd I hi ok hnc pr hfs (show tLcG wg g tt te (own.map (·.2)) σ H (fun x H1 => gName i x σ H1 D.nx) from h) stored
    rw [exec_Assign_Name_used _ _ _ _ hsw]
    exact wpAny_bind (wpAny_standAt (wpAny_bind (wpAny_bind (thn all fun _ _ z => wpAny_pure (wpAny_pure z)))))
end
end TwZ
/-! list(g(..)): the list of all that a generator hands out -/
namespace TwZ
open PySem L2 PySem.Spec PyProof.Rows GenW
def PGEw (X : Cx) (Aw : Around) (pins : List (Addr × Obj)) (σ : L2.St) (R : Gt → Hp → Prop) (u : Value) (s1 : Shared) : Prop :=
  ∃ (J : Gt) (H1 : Hp) (lo a : Addr) (g : Nat) (ob : List (Addr × Obj)) (c : Code), u = .ref a ∧ Inv X pins σ H1 s1 ∧ Low X lo ∧ At X pins lo a g ob [] (.fresh c) H1 s1 ∧
    (∀ n, Asl ⟨X.prog, X.w, X.base, Aw, X.stack, lo, a, g, J⟩ n 0 H1 ob [] (.fresh c)) ∧ R J H1
abbrev deepA (A : Around) : Around := A.in1.in1.in1
section
variable {X : Cx} {pins : List (Addr × Obj)} {σ : L2.St} {H : Hp} {s s' : Shared} {lo a D : Addr} {g k : Nat} {ob : List (Addr × Obj)} {og : List (Nat × GenState)} {gs : GenState}
theorem At.beyond {c : Code} {o : HO} {h' : Heap} {t' : Nat} (h : At X pins lo a g ob [] (.fresh c) H s) (hD : s.heap.objs.size ≤ D) (kp : ∀ b u, s.heap.get? b = some u → h'.get? b = some u) : At X pins lo a g ob [] (.fresh c) (upd H D o) { s with heap := h', toks := t' } := by
  have no : ∀ p ∈ ob, upd H D o p.1 = none := fun p hp => by
    obtain ⟨z1, z2, _⟩ := h.own.obs p hp
    rw [upd_ne (Nat.ne_of_lt (Nat.lt_of_lt_of_le (Heap.lt_size z1) hD))]
    exact z2
  refine ⟨⟨h.own.isgen, fun p hp => ?_, fun q hq => nomatch hq⟩, fun p hp => ⟨no p hp, (h.fp p hp).2⟩, h.gen, h.nog⟩
  obtain ⟨z1, _, z3, z4⟩ := h.own.obs p hp
  exact ⟨kp _ _ z1, no p hp, z3, z4⟩
end
def tLstG (wg : TIG) : TE := fun σ H Q => wg σ H fun J H1 => ∀ D, H1 D = none → ∃ (N : Nat) (V : Nat → Hp → Hp → Prop), V 0 H1 (upd H1 D (.lst [])) ∧
  ∀ j Hs H, V j Hs H → j < N ∧ J.pre j Hs H ∧ (∀ H', J.fin j H H' → Q (.ref D) H') ∧
    ∀ x H', J.yld j H x H' → ∃ xs, H' D = some (.lst xs) ∧ xs.length < sizeLine ∧ V (j + 1) H' (upd H' D (.lst (xs ++ [x])))
section
variable {X : Cx} {pins : List (Addr × Obj)} {σ : L2.St} {lo a D : Addr} {g k N : Nat} {J : Gt} {V : Nat → Hp → Hp → Prop} {Q : VK} {R : Result → Shared → Prop}
end
section
variable {X : Cx} {e : Expr} {wg : TIG} {k : Nat} {p pos : Pos}
end
end TwZ
/-! Tw: set(xs) of a list of ints -/
namespace Tw
open PySem PySem.Spec PyProof PyProof.Rows L2
section
variable {P : Program} {w : World} {A : Around} {E : Value → Shared → Prop} {s : Shared}
theorem set_of_list {l : Addr} {items : Array Value} (ns : List Int) {Q : Value → Shared → Prop} (hh : A.handled = none) (hl : s.heap.IsList l items) (hit : IntsAre items.toList ns) (hb : ns.length + 1 < scanBound)
    (h : ∀ (h' : Heap) (tk c : Nat), SetR w h' s.heap.objs.size (fun j => decide (j ∈ ns)) c → c ≤ ns.length → (∀ b o, s.heap.get? b = some o → h'.get? b = some o) → Q (.ref s.heap.objs.size) { s with heap := h', toks := tk }) :
    wpAny (model P w) A (call (.type "set") [.ref l]) Q E s := by
  have hisz : items.size = ns.length := by
    have q := IntsAre.length hit
    rwa [Array.length_toList] at q
  obtain ⟨c, tl, hmro⟩ := F.called_set.mro
  have hmade := F.called_set.made
  have hsub := F.called_set.sub
  have g1 := F.called_set.notType
  have g2 := F.called_set.canCreate
  have g3 := F.typeCall_set_1 (.ref l)
  refine wpAny_call (codeAny_of_tree ?_)
  show wpAny _ _ (callAny (.type "set") _) _ _ _
  refine wpAny_pure ⟨Code.quiet_builtin _ (by decide +kernel), codeAny_builtin F.entry_type_call ?_⟩
  rw [Around.under_plain (weight_type_call_type "set" [.ref l] []) rfl]
  repeat (any_goals (first | assumption | wp_step))
  refine codeAny_mono (code_set_led1 (.ref l) (E := E) (Q₁ := fun obj s₁ => obj = .ref s.heap.objs.size ∧ s₁ = { s with heap := (Heap.push s.heap ({ cls := .type "set", dict := none, data := .set #[] 0 (.fresh 0 0 (!w.params.followText "set-order")) } : Obj)) }) ⟨rfl, rfl⟩) fun r s₁ hr => ?_
  rcases r with e | fl
  · exact hr
  cases fl
  case ret obj =>
    obtain ⟨rfl, rfl⟩ := hr
    have new : ((Heap.push s.heap ({ cls := .type "set", dict := none, data := .set #[] 0 (.fresh 0 0 (!w.params.followText "set-order")) } : Obj))).get? s.heap.objs.size = some ({ cls := .type "set", dict := none, data := .set #[] 0 (.fresh 0 0 (!w.params.followText "set-order")) } : Obj) := Heap.get?_push_size _ rfl
    have hT : Shared.TypeIs { s with heap := (Heap.push s.heap ({ cls := .type "set", dict := none, data := .set #[] 0 (.fresh 0 0 (!w.params.followText "set-order")) } : Obj)) } (.ref s.heap.objs.size) "set" := ⟨_, new, rfl⟩
    have hli := F.called_set.init.lookup
    have hbi := F.called_set.init.bind (.ref s.heap.objs.size)
    repeat (any_goals (first | assumption | wp_step))
    refine codeAny_mono (codeAny_call_builtin (R := wants (fun r s₂ => r = .none ∧ ∃ h' tk c, s₂ = { s with heap := h', toks := tk } ∧ SetR w h' s.heap.objs.size (fun j => decide (j ∈ ns)) c ∧ c ≤ ns.length ∧
        (∀ b o, s.heap.get? b = some o → h'.get? b = some o)) E) F.called_set.init.plain F.entry_set_init (check_set_init_1 hT ?_)) fun r₂ s₂ hr₂ => ?_
    · obtain ⟨⟨ocls, odict, odata, oslots⟩, hol, hcl, nl, hdl⟩ := hl
      simp only at hcl hdl
      subst hcl hdl
      have keep : ∀ b o, s.heap.get? b = some o → ((Heap.push s.heap ({ cls := .type "set", dict := none, data := .set #[] 0 (.fresh 0 0 (!w.params.followText "set-order")) } : Obj))).get? b = some o := fun b o e => Heap.get?_push_of_some _ e
      have hol' := keep _ _ hol
      have hl1 : ((Heap.push s.heap ({ cls := .type "set", dict := none, data := .set #[] 0 (.fresh 0 0 (!w.params.followText "set-order")) } : Obj))).IsList l items := ⟨_, hol', rfl, nl, rfl⟩
      have hlS : l < s.heap.objs.size := Heap.lt_size hol
      have i1 := F.sub_list_set
      have i2 := F.sub_list_frozenset
      have i3 : (Value.type "list" == Value.type "dict") = false := by decide
      unfold Builtin.«set.__init__» noKeywords Builtin.Frozenset.updateFrom
      generalize hPI : pyIter = PI
      wp_walk
      subst hPI
      refine wpAny_pyIter_list hl1 (wpAny_bind (wpAny_runValue ?_))
      have hh3 : A.in1.in1.in1.handled = none := by simp [hh]
      have sz : ((Heap.push s.heap ({ cls := .type "set", dict := none, data := .set #[] 0 (.fresh 0 0 (!w.params.followText "set-order")) } : Obj))).objs.size = s.heap.objs.size + 1 := Heap.size_push ..
      have hneI : l ≠ ((Heap.push s.heap ({ cls := .type "set", dict := none, data := .set #[] 0 (.fresh 0 0 (!w.params.followText "set-order")) } : Obj))).objs.size := by rw [sz]; exact Nat.ne_of_lt (Nat.lt_succ_of_lt hlS)
      have hSf : s.heap.objs.size ∉ [((Heap.push s.heap ({ cls := .type "set", dict := none, data := .set #[] 0 (.fresh 0 0 (!w.params.followText "set-order")) } : Obj))).objs.size, l] := by
        rw [sz, List.mem_cons, List.mem_singleton]
        rintro (z | z)
        · exact Nat.ne_of_lt (Nat.lt_succ_self _) z
        · exact Nat.ne_of_gt hlS z
      have hval : ∀ (i : Nat) (v : Value), items[i]? = some v → ∃ k t, ns[i]? = some k ∧ v = .int k t := fun i v hv => by
        have hi : i < ns.length := by rw [← hisz]; exact (Array.getElem?_eq_some_iff.mp hv).1
        obtain ⟨t, e⟩ := PyProof.Rows.IntsAre.int_at hit i v (by rw [Array.getElem?_toList]; exact hv)
        refine ⟨ns[i], t, List.getElem?_eq_getElem hi, ?_⟩
        rw [e, List.getD_eq_getElem?_getD, List.getElem?_eq_getElem hi] <;> rfl
      refine set_update_ints ((Walks.list hh3 _ l hneI items).toS) s.heap.objs.size hSf ns hisz hb hval (items.size - 0) 0 _ (by omega) (Nat.zero_le _) ⟨⟨_, Heap.get?_push_size _ rfl, rfl, rfl⟩, hl1.push _⟩ ⟨0, Nat.le_refl 0, setR_new_at (Heap.get?_push_of_some _ new)⟩ ?_
      rintro ⟨h', g', d', tk', os'⟩ c' hm hc' hS'
      obtain rfl : g' = s.gens := hm.gens
      obtain rfl : d' = s.drawn := hm.drawn
      obtain rfl : os' = s.os := hm.os
      show wpAny _ _ _ _ _ _
      refine wpAny_pure ?_
      show wpAny _ _ (ret Value.none) _ _ _
      refine wpAny_pure ⟨rfl, h', tk', c', rfl, hS', by omega, fun b o e => ?_⟩
      have lt : b < s.heap.objs.size := Heap.lt_size e
      refine hm.heap b o ?_ (Heap.get?_push_of_some _ (keep b o e))
      rw [sz]
      simp only [List.mem_cons, List.mem_singleton, List.not_mem_nil, or_false, not_or]
      exact ⟨Nat.ne_of_lt lt, Nat.ne_of_lt (Nat.lt_succ_of_lt lt)⟩
    · rcases r₂ with e | fl
      · exact hr₂
      cases fl
      case ret r =>
        obtain ⟨rfl, h', tk, c', rfl, hS', hc', hk'⟩ := hr₂
        repeat (any_goals (first | assumption | wp_step))
        exact h _ _ _ hS' hc' hk'
      all_goals exact hr₂.elim
  all_goals exact hr.elim
end
section
variable {X : Cx}
def rSetL (K : PySem.W.Frag) (w : World) : List V → Hp → VK → Prop := fun vs H Q => ∃ (a : Addr) (ns : List Int), vs = [V.ref a] ∧ SqL K H a (ns.map V.int) ∧ ns.length ≤ 4000 ∧
  ∀ (n : Nat) (p : Addr), n ≤ ns.length → H p = none → Q (.ref p) (upd H p (SetO w p (fun j => decide (j ∈ ns)) n))
def rTupIx (K : PySem.W.Frag) : V → List V → Hp → VK → Prop := fun x xs H Q => ∃ p, ∃ ys : List Str, ∃ z j, x = .ref p ∧ xs = [.str z] ∧ SqT K H p (ys.map V.str) ∧ ys[j]? = some z ∧ (∀ m, m < j → ys[m]? ≠ some z) ∧ Q (.int (j : Nat)) H
end
end Tw
/-! Tw: a book with another value -/
namespace Tw
open PySem PySem.Spec PyProof.Rows L2 He TwM
open PySem.W (Frag)
local macro_rules | `(tactic| walk_at "rsc") => `(tactic| simp only [*, at3_0, at3_1, at3_2, at2_0, at2_1, tPar, and_assoc, not_true_eq_false, not_false_eq_true, tNever, List.length_map, tFld, rIxTH, rIxLH, rLenTH, rLenLH, lk1, lfs_g, lfs_s, lfs_p, HO.ins.injEq, HO.tup.injEq, HO.lst.injEq, sp_Book_rounding, sp_Book_action, sp_Book_order, sp_Book_due, sp_Book_zero, sp_Book_beyond, Int.toNat_natCast, sp_visit_after, sp_is_visited, sp_Level_grain, sp_Level_slots, sp_Level_span, sp_Wheel_reach, sp_Wheel___len__, sp_is_integer, sp_is_count, sp_is_within, sp_rounded, tSeq, tAsg, gName, tVar, tC, tOp, rI, rI0, rU, tUn, oAdd, oSub, oMul, oDiv, oMod, oNeg, oLt, oLe, oGt, oGe, oIsN, oNotN, tFn, tCons, tNil, tIfS, tIf, tTest, tB, tNot, tAnd, tOr, tAndV, tOrV, tNotV,
    tRet, tRetN, tNext, tCB, tDrop, tChain, rEq, rNe, oMax2, oMin2, oInt1, rLenF, L2.start, List.map_cons, List.map_nil, List.length_cons, List.length_nil, List.replicate_succ, List.replicate_zero, List.cons_append, List.nil_append, Nat.reduceAdd, Nat.reduceSub, Nat.zero_add,
    List.set_cons_zero, List.set_cons_succ, List.getElem?_cons_zero, List.getElem?_cons_succ, Option.some.injEq, V.int.injEq, V.ref.injEq, V.str.injEq, V.bl.injEq, exists_eq_left', exists_eq_left, exists_and_left, List.cons.injEq, and_true, true_and, decide_eq_true_eq, sc_ii, sc_ss, sc_bb, sc_ni, sc_in, sc_nn, sc_is, reduceCtorEq,
    Bool.not_eq_true', decide_eq_false_iff_not, if_true, if_false, Bool.false_eq_true, exists_eq', exists_const, false_and, and_false, or_false, false_or, exists_false, Bool.not_not, Bool.not_true, Bool.not_false, sUp_up, sFire_fire, sHigh_high, sPut_put, sZone_now, sBey_refuse, sBey_cut, tTup, tLst, sz0, sz1, sz2, sz3, sz4, sz5, sz6])
section
variable {K : Frag} {w : World}
structure Kh (K : Frag) (w : World) : Prop where
  kf : Kfb K w
  nod : ∃ o, K.lookup (ga K "SWITCHES") = some o ∧ o.cls = .type "tuple" ∧ o.dict = none
end
end Tw
/-! Tw: all tuples of values -/
namespace Tw
open PySem PySem.Spec PyProof.Rows L2 He TwM StX
open PySem.W (Frag)
local macro_rules | `(tactic| walk_at "rsl") => `(tactic| simp only [*, at3_0, at3_1, at3_2, at2_0, at2_1, updS, upd_two, gSub, rSetL, updN, tPar, tPar3, gTup, gCons, gNil, and_assoc, not_true_eq_false, not_false_eq_true, tNever, List.length_map, tFld, rIxTH, rIxLH, rLenTH, rLenLH, lk1, lfs_g, lfs_s, lfs_p, HO.ins.injEq, HO.tup.injEq, HO.lst.injEq, sp_Book_rounding, sp_Book_action, sp_Book_order, sp_Book_due, sp_Book_zero, sp_Book_beyond, Int.toNat_natCast, sp_visit_after, sp_is_visited, sp_Level_grain, sp_Level_slots, sp_Level_span, sp_Wheel_reach, sp_Wheel___len__, sp_is_integer, sp_is_count, sp_is_within, sp_rounded, tAsg, gName, tVar, tC, tOp, rI, rI0, rU, tUn, oAdd, oSub, oMul, oDiv, oMod, oNeg, oLt, oLe, oGt, oGe, oIsN, oNotN, tFn, tCons, tNil, tIfS, tIf, tTest, tB, tNot, tAnd, tOr, tAndV, tOrV, tNotV,
    tRet, tRetN, tNext, tCB, tDrop, tChain, rEq, rNe, oMax2, oMin2, oInt1, rLenF, L2.start, List.map_cons, List.map_nil, List.length_cons, List.length_nil, List.replicate_succ, List.replicate_zero, List.cons_append, List.nil_append, Nat.reduceAdd, Nat.reduceSub, Nat.zero_add,
    List.set_cons_zero, List.set_cons_succ, List.getElem?_cons_zero, List.getElem?_cons_succ, Option.some.injEq, V.int.injEq, V.ref.injEq, V.str.injEq, V.bl.injEq, exists_eq_left', exists_eq_left, exists_and_left, List.cons.injEq, and_true, true_and, decide_eq_true_eq, sc_ii, sc_ss, sc_bb, sc_ni, sc_in, sc_nn, sc_is, reduceCtorEq,
    Bool.not_eq_true', decide_eq_false_iff_not, if_true, if_false, Bool.false_eq_true, exists_eq', exists_const, false_and, and_false, or_false, false_or, exists_false, Bool.not_not, Bool.not_true, Bool.not_false, sUp_up, sFire_fire, sHigh_high, sPut_put, sZone_now, sBey_refuse, sBey_cut, tTup, tLst, sz0, sz1, sz2, sz3, sz4, sz5, sz6])
local macro_rules | `(tactic| walk_at "st") => `(tactic| ((try dsimp only); rw [seq1]; walk_at "rsl"))
section
variable {K : Frag} {w : World}
def vws : Nat → List Str
  | 0 => ["down", "up"]
  | 1 => ["fire", "move"]
  | 2 => ["high", "low"]
  | 3 => ["now", "put"]
  | 4 => ["now", "one"]
  | 5 => ["refuse", "last", "cut"]
  | _ => []
def allV : Nat → List (List Str)
  | 0 => [[]]
  | k + 1 => (vws (5 - k)).flatMap fun v => (allV k).map (v :: ·)
def StrTs (H : Hp) (R : Addr) (l : List (List Str)) : Prop := ∃ ts : List Addr, H R = some (.lst (ts.map V.ref)) ∧ ts.length = l.length ∧ ∀ (j : Nat) (t : Addr) (xs : List Str), ts[j]? = some t → l[j]? = some xs → H t = some (.tup (xs.map V.str))
theorem StrTs.same {H H' : Hp} {R : Addr} {l : List (List Str)} (h : StrTs H R l) (s : Same H H') : StrTs H' R l := by
  obtain ⟨ts, a, b, c⟩ := h
  exact ⟨ts, s _ _ a, b, fun j t xs x y => s _ _ (c j t xs x y)⟩
def sp_all_values7 (K : Frag) : Sp := fun _ _ _ _ => False
end
end Tw
/-! Tw: early and late timers, as the program finds them -/
namespace Tw
open PySem PySem.Spec PyProof.Rows L2 He TwM StX
open PySem.W (Frag)
local macro_rules | `(tactic| walk_at "rsl") => `(tactic| simp only [*, at3_0, at3_1, at3_2, at2_0, at2_1, updS, upd_two, gSub, rSetL, updN, tPar, tPar3, gTup, gCons, gNil, and_assoc, not_true_eq_false, not_false_eq_true, tNever, List.length_map, tFld, rIxTH, rIxLH, rLenTH, rLenLH, lk1, lfs_g, lfs_s, lfs_p, HO.ins.injEq, HO.tup.injEq, HO.lst.injEq, sp_Book_rounding, sp_Book_action, sp_Book_order, sp_Book_due, sp_Book_zero, sp_Book_beyond, Int.toNat_natCast, sp_visit_after, sp_is_visited, sp_Level_grain, sp_Level_slots, sp_Level_span, sp_Wheel_reach, sp_Wheel___len__, sp_is_integer, sp_is_count, sp_is_within, sp_rounded, tAsg, gName, tVar, tC, tOp, rI, rI0, rU, tUn, oAdd, oSub, oMul, oDiv, oMod, oNeg, oLt, oLe, oGt, oGe, oIsN, oNotN, tFn, tCons, tNil, tIfS, tIf, tTest, tB, tNot, tAnd, tOr, tAndV, tOrV, tNotV,
    tRet, tRetN, tNext, tCB, tDrop, tChain, rEq, rNe, oMax2, oMin2, oInt1, rLenF, L2.start, List.map_cons, List.map_nil, List.length_cons, List.length_nil, List.replicate_succ, List.replicate_zero, List.cons_append, List.nil_append, Nat.reduceAdd, Nat.reduceSub, Nat.zero_add,
    List.set_cons_zero, List.set_cons_succ, List.getElem?_cons_zero, List.getElem?_cons_succ, Option.some.injEq, V.int.injEq, V.ref.injEq, V.str.injEq, V.bl.injEq, exists_eq_left', exists_eq_left, exists_and_left, List.cons.injEq, and_true, true_and, decide_eq_true_eq, sc_ii, sc_ss, sc_bb, sc_ni, sc_in, sc_nn, sc_is, reduceCtorEq,
    Bool.not_eq_true', decide_eq_false_iff_not, if_true, if_false, Bool.false_eq_true, exists_eq', exists_const, false_and, and_false, or_false, false_or, exists_false, Bool.not_not, Bool.not_true, Bool.not_false, sUp_up, sFire_fire, sHigh_high, sPut_put, sZone_now, sBey_refuse, sBey_cut, tTup, tLst, sz0, sz1, sz2, sz3, sz4, sz5, sz6])
local macro_rules | `(tactic| walk_at "st") => `(tactic| ((try dsimp only); rw [seq1]; walk_at "rsl"))
section
variable {K : Frag} {w : World}
end
section
variable {W : List Lv} {B : Bk} {kind : Nat}
def NoK (W : List Lv) (B : Bk) (kind : Nat) : Prop := ∀ i d s, levelOf W d = some i → 1 ≤ d → 0 ≤ s → ¬ isK kind (lat W B s d) (lv W i).g
theorem KindIs.no {o : Option (Int × Int)} (h : KindIs W B kind o) : o = none ↔ NoK W B kind := by
  cases o with
  | none => exact ⟨fun _ => h, fun _ => rfl⟩
  | some x =>
    obtain ⟨s, d⟩ := x
    obtain ⟨i, h1, h2, h3, _, h5, _⟩ := h
    exact Iff.intro (fun z => (by cases z)) fun (z : NoK W B kind) => (z i d s h1 h2 h3 h5).elim
theorem KindIs.uniq {o o' : Option (Int × Int)} (h : KindIs W B kind o) (h' : KindIs W B kind o') : o = o' := by
  cases o with
  | none => exact (h'.no.mpr h).symm
  | some x =>
    cases o' with
    | none => exact absurd (h.no.mpr h') (by simp)
    | some x' =>
      obtain ⟨s, d⟩ := x
      obtain ⟨s', d'⟩ := x'
      obtain ⟨i, h1, h2, h3, _, h5, h6⟩ := h
      obtain ⟨i', h1', h2', h3', _, h5', h6'⟩ := h'
      have a := h6 i' d' s' h1' h2' h3' h5'
      have b := h6' i d s h1 h2 h3 h5
      have e1 : s = s' := by omega
      have e2 : d = d' := by omega
      rw [e1, e2]
end
section
variable {K : Frag} {w : World}
theorem OPr.non {H : Hp} {v : V} {o : Option (Int × Int)} (h : OPr H v o) : v = .non ↔ o = none := by
  cases o with
  | none => exact ⟨fun _ => rfl, fun _ => h⟩
  | some x =>
    obtain ⟨a, b⟩ := x
    obtain ⟨p, rfl, _⟩ := h
    exact ⟨fun z => (by cases z), fun z => (by cases z)⟩
end
end Tw
/-! Tw: all books, and the least changes -/
namespace Tw
open PySem PySem.Spec PyProof.Rows L2 He TwM StX
open PySem.W (Frag)
local macro_rules | `(tactic| walk_at "rsl") => `(tactic| simp only [*, at3_0, at3_1, at3_2, at2_0, at2_1, updS, upd_two, gSub, rSetL, updN, tPar, tPar3, gTup, gCons, gNil, and_assoc, not_true_eq_false, not_false_eq_true, tNever, List.length_map, tFld, rIxTH, rIxLH, rLenTH, rLenLH, lk1, lfs_g, lfs_s, lfs_p, HO.ins.injEq, HO.tup.injEq, HO.lst.injEq, sp_Book_rounding, sp_Book_action, sp_Book_order, sp_Book_due, sp_Book_zero, sp_Book_beyond, Int.toNat_natCast, sp_visit_after, sp_is_visited, sp_Level_grain, sp_Level_slots, sp_Level_span, sp_Wheel_reach, sp_Wheel___len__, sp_is_integer, sp_is_count, sp_is_within, sp_rounded, tAsg, gName, tVar, tC, tOp, rI, rI0, rU, tUn, oAdd, oSub, oMul, oDiv, oMod, oNeg, oLt, oLe, oGt, oGe, oIsN, oNotN, tFn, tCons, tNil, tIfS, tIf, tTest, tB, tNot, tAnd, tOr, tAndV, tOrV, tNotV,
    tRet, tRetN, tNext, tCB, tDrop, tChain, rEq, rNe, oMax2, oMin2, oInt1, rLenF, L2.start, List.map_cons, List.map_nil, List.length_cons, List.length_nil, List.replicate_succ, List.replicate_zero, List.cons_append, List.nil_append, Nat.reduceAdd, Nat.reduceSub, Nat.zero_add,
    List.set_cons_zero, List.set_cons_succ, List.getElem?_cons_zero, List.getElem?_cons_succ, Option.some.injEq, V.int.injEq, V.ref.injEq, V.str.injEq, V.bl.injEq, exists_eq_left', exists_eq_left, exists_and_left, List.cons.injEq, and_true, true_and, decide_eq_true_eq, sc_ii, sc_ss, sc_bb, sc_ni, sc_in, sc_nn, sc_is, reduceCtorEq,
    Bool.not_eq_true', decide_eq_false_iff_not, if_true, if_false, Bool.false_eq_true, exists_eq', exists_const, false_and, and_false, or_false, false_or, exists_false, Bool.not_not, Bool.not_true, Bool.not_false, sUp_up, sFire_fire, sHigh_high, sPut_put, sZone_now, sBey_refuse, sBey_cut, tTup, tLst, sz0, sz1, sz2, sz3, sz4, sz5, sz6])
local macro_rules | `(tactic| walk_at "st") => `(tactic| ((try dsimp only); rw [seq1]; walk_at "rsl"))
section
variable {K : Frag} {w : World}
def allB : List Bk := [false, true].flatMap fun up => [true, false].flatMap fun fire => [true, false].flatMap fun high => [false, true].flatMap fun put => [false, true].flatMap fun zone => [0, 1, 2].map fun bey => ⟨up, fire, high, put, zone, bey⟩
def AbP (K : Frag) (j : Nat) (x : V) (H : Hp) : Prop := ∃ B p, allB[j]? = some B ∧ x = .ref p ∧ BkAt K H p B
def sp_all_books (K : Frag) : TwZ.SpZ := fun vs H R => vs = [] ∧ R (lsG 96 (AbP K)) H
def BksAt (K : Frag) (H : Hp) (D : Addr) : Prop := ∃ bs : List Addr, H D = some (.lst (bs.map V.ref)) ∧ bs.length = 96 ∧ ∀ (j : Nat) (b : Addr) (B : Bk), bs[j]? = some b → allB[j]? = some B → BkAt K H b B
theorem BksAt.same {H H' : Hp} {D : Addr} (h : BksAt K H D) (s : Same H H') : BksAt K H' D := by
  obtain ⟨bs, a, b, c⟩ := h
  exact ⟨bs, s _ _ a, b, fun j x B e f => (c j x B e f).same s⟩
theorem lst_books {σ : L2.St} {H : Hp} {Q : VK} (q : ∀ D H', Same H H' → BksAt K H' D → Q (.ref D) H') : TwZ.tLstG (TwZ.tGenF (sp_all_books K) tNil) σ H Q := by
  unfold TwZ.tLstG TwZ.tGenF
  refine ⟨rfl, fun D hD => ⟨97, fun j Hs H2 => j ≤ 96 ∧ TwZ.Frm Hs H2 ∧ Same H H2 ∧ ∃ bs : List Addr, H2 D = some (.lst (bs.map V.ref)) ∧ bs.length = j ∧ ∀ (k : Nat) (b : Addr) (B : Bk), bs[k]? = some b → allB[k]? = some B → BkAt K H2 b B, ⟨by decide, Same.frm (Same.new hD), Same.new hD, [], upd_same, rfl, fun k b B x => by simp at x⟩, ?_⟩⟩
  rintro j Hs H2 ⟨hj, f2, s2, bs, h2, hl, hbs⟩
  refine ⟨by omega, f2, fun H3 hf => ?_, fun x H3 hy => ?_⟩
  · obtain ⟨ej, s3⟩ := hf
    exact q D H3 (s2.trans s3) ⟨bs, s3 _ _ h2, by omega, fun k b B x y => (hbs k b B x y).same s3⟩
  · obtain ⟨hj2, ⟨B, p, hB, rfl, hp⟩, s3⟩ := hy
    have hf := (TwZ.Frm.refl H3).upd (u := .lst (bs.map V.ref ++ [V.ref p])) (s3 _ _ h2) rfl
    refine ⟨_, s3 _ _ h2, by rw [List.length_map]; show _ < 16777216; omega, by omega, hf, Same.updN (s2.trans s3) hD, bs ++ [p], by rw [upd_same, List.map_append]; rfl, by rw [List.length_append, hl]; rfl, fun k b B' x y => ?_⟩
    rcases Nat.lt_or_ge k bs.length with z | z
    · rw [List.getElem?_append_left z] at x
      exact ((hbs k b B' x y).same s3).frm hf
    · rw [List.getElem?_append_right z] at x
      have hk : k - bs.length = 0 := by
        have := (List.getElem?_eq_some_iff.mp x).1
        simp at this
        omega
      rw [hk] at x
      cases x
      rw [show k = j by omega, hB] at y
      cases y
      exact hp.frm hf
def chs (B B' : Bk) (k : Nat) : List (Str × Str) := (List.range k).filterMap fun i => if (bws B').getD i "" ≠ (bws B).getD i "" then some (six.getD i "", (bws B').getD i "") else none
def chg (B B' : Bk) : List (Str × Str) := chs B B' 6
def PrsS (H : Hp) (ps : List Addr) (l : List (Str × Str)) : Prop := ps.length = l.length ∧ ∀ (j : Nat) (p : Addr) (c : Str × Str), ps[j]? = some p → l[j]? = some c → H p = some (.tup [.str c.1, .str c.2])
theorem PrsS.same {H H' : Hp} {ps : List Addr} {l : List (Str × Str)} (h : PrsS H ps l) (s : Same H H') : PrsS H' ps l := ⟨h.1, fun j p c a b => s _ _ (h.2 j p c a b)⟩
def ChAt (H : Hp) (t : Addr) (l : List (Str × Str)) : Prop := ∃ ps : List Addr, H t = some (.tup (ps.map V.ref)) ∧ PrsS H ps l
theorem ChAt.same {H H' : Hp} {t : Addr} {l : List (Str × Str)} (h : ChAt H t l) (s : Same H H') : ChAt H' t l := by
  obtain ⟨ps, a, b⟩ := h
  exact ⟨ps, s _ _ a, b.same s⟩
def wants4 : List Str := ["never early", "never late", "right", "exact"]
def FlA (K : Frag) (a : Addr) (g : TG) (tb : TS) (D : Ends) (σ : L2.St) (H : Hp) : Prop := tFor (fun σ H R => R (Itl K a) H) g tb D σ H
def lchk (hw : Bk → Bool) (B : Bk) (k : Nat) : List (List (Str × Str)) := (allB.filter fun C => decide ((chg B C).length = k) && hw C).map (chg B)
def dPr (c : Str × Str) : PyData := .tuple [.str c.1, .str c.2]
def dCg (l : List (Str × Str)) : PyData := .tuple (l.map dPr)
theorem prs_dp {H : Hp} : ∀ (ps : List Addr) (l : List (Str × Str)), ps.length = l.length → (∀ (j : Nat) (p : Addr) (c : Str × Str), ps[j]? = some p → l[j]? = some c → H p = some (.tup [.str c.1, .str c.2])) → DpAll K H (ps.map V.ref) (l.map dPr)
  | [], [], _, _ => .nil
  | p :: ps, c :: l, hl, h => .cons (.tup (SqT.of (h 0 p c rfl rfl)) (.cons (.str _) (.cons (.str _) .nil))) (prs_dp ps l (Nat.succ.inj hl) fun j q d x y => h (j + 1) q d x y)
  | [], _ :: _, hl, _ => by cases hl
  | _ :: _, [], hl, _ => by cases hl
theorem ChAt.dp {H : Hp} {t : Addr} {l : List (Str × Str)} (h : ChAt H t l) : Dp K H (.ref t) (dCg l) := by
  obtain ⟨ps, a, b, c⟩ := h
  exact .tup (SqT.of a) (prs_dp ps l b c)
def TxO (l : List (Str × Str)) : Prop := ∀ c ∈ l, PyData.strOk c.1 = true ∧ PyData.strOk c.2 = true
structure Kwn (K : Frag) (w : World) : Prop extends Kh K w where
  wn : ∀ H, SqT K H (ga K "WANTS") (wants4.map V.str)
end
end Tw
/-! Tw: a book with any other value -/
namespace Tw
open PySem PySem.Spec PyProof.Rows L2 He TwM StX
open PySem.W (Frag)
local macro_rules | `(tactic| walk_at "rsl") => `(tactic| simp only [*, at3_0, at3_1, at3_2, at2_0, at2_1, updS, upd_two, gSub, rSetL, updN, tPar, tPar3, gTup, gCons, gNil, and_assoc, not_true_eq_false, not_false_eq_true, tNever, List.length_map, tFld, rIxTH, rIxLH, rLenTH, rLenLH, lk1, lfs_g, lfs_s, lfs_p, HO.ins.injEq, HO.tup.injEq, HO.lst.injEq, sp_Book_rounding, sp_Book_action, sp_Book_order, sp_Book_due, sp_Book_zero, sp_Book_beyond, Int.toNat_natCast, sp_visit_after, sp_is_visited, sp_Level_grain, sp_Level_slots, sp_Level_span, sp_Wheel_reach, sp_Wheel___len__, sp_is_integer, sp_is_count, sp_is_within, sp_rounded, tAsg, gName, tVar, tC, tOp, rI, rI0, rU, tUn, oAdd, oSub, oMul, oDiv, oMod, oNeg, oLt, oLe, oGt, oGe, oIsN, oNotN, tFn, tCons, tNil, tIfS, tIf, tTest, tB, tNot, tAnd, tOr, tAndV, tOrV, tNotV,
    tRet, tRetN, tNext, tCB, tDrop, tChain, rEq, rNe, oMax2, oMin2, oInt1, rLenF, L2.start, List.map_cons, List.map_nil, List.length_cons, List.length_nil, List.replicate_succ, List.replicate_zero, List.cons_append, List.nil_append, Nat.reduceAdd, Nat.reduceSub, Nat.zero_add,
    List.set_cons_zero, List.set_cons_succ, List.getElem?_cons_zero, List.getElem?_cons_succ, Option.some.injEq, V.int.injEq, V.ref.injEq, V.str.injEq, V.bl.injEq, exists_eq_left', exists_eq_left, exists_and_left, List.cons.injEq, and_true, true_and, decide_eq_true_eq, sc_ii, sc_ss, sc_bb, sc_ni, sc_in, sc_nn, sc_is, reduceCtorEq,
    Bool.not_eq_true', decide_eq_false_iff_not, if_true, if_false, Bool.false_eq_true, exists_eq', exists_const, false_and, and_false, or_false, false_or, exists_false, Bool.not_not, Bool.not_true, Bool.not_false, sUp_up, sFire_fire, sHigh_high, sPut_put, sZone_now, sBey_refuse, sBey_cut, tTup, tLst, sz0, sz1, sz2, sz3, sz4, sz5, sz6])
local macro_rules | `(tactic| walk_at "st") => `(tactic| ((try dsimp only); rw [seq1]; walk_at "rsl"))
section
variable {K : Frag} {w : World}
theorem ciTo {a : Addr} {xs : List V} {n : Nat} {H : Hp} {Q : VK} (ha : H a = some (.tup xs)) (q : ∀ r H', Same H H' → H' r = some (.tup (xs.take n)) → Q (.ref r) H') : L2.rSlA K (.ref a) none (some (n : Int)) H Q := by
  have e : HT.sIx xs.length xs.length (some (n : Int)) = min n xs.length := by
    unfold HT.sIx
    dsimp only
    rw [if_neg (by omega), Int.toNat_natCast]
  have e2 : HT.sIx xs.length 0 none = 0 := rfl
  refine ⟨a, xs, rfl, SqT.of ha, fun z => q a H (Same.refl _) ?_, fun _ p hp => q p _ (Same.new hp) ?_⟩
  · rw [List.take_of_length_le (by have := z.2; omega)]
    exact ha
  · rw [upd_same]
    unfold cutV
    rw [e, e2, List.drop_zero, Nat.sub_zero]
    congr 2
    rcases Nat.le_total n xs.length with z | z
    · rw [Nat.min_eq_left z]
    · rw [Nat.min_eq_right z, List.take_of_length_le (Nat.le_refl _), List.take_of_length_le z]
theorem ciFrom {a : Addr} {xs : List V} {n : Nat} {H : Hp} {Q : VK} (ha : H a = some (.tup xs)) (h : n ≤ xs.length) (q : ∀ r H', Same H H' → H' r = some (.tup (xs.drop n)) → Q (.ref r) H') : L2.rSlA K (.ref a) (some (n : Int)) none H Q := by
  have e : HT.sIx xs.length 0 (some (n : Int)) = n := by
    unfold HT.sIx
    dsimp only
    rw [if_neg (by omega), Int.toNat_natCast, Nat.min_eq_left h]
  have e2 : HT.sIx xs.length xs.length none = xs.length := rfl
  refine ⟨a, xs, rfl, SqT.of ha, fun z => q a H (Same.refl _) ?_, fun _ p hp => q p _ (Same.new hp) ?_⟩
  · have : n = 0 := by have := z.1; omega
    rw [this, List.drop_zero]
    exact ha
  · rw [upd_same]
    unfold cutV
    rw [e, e2, List.take_of_length_le (by rw [List.length_drop]; exact Nat.le_refl _)]
theorem ciCat {a b : Addr} {xs ys : List V} {H : Hp} {Q : VK} (ha : H a = some (.tup xs)) (hb : H b = some (.tup ys)) (hl : xs.length + ys.length ≤ 1000) (q : ∀ r H', Same H H' → H' r = some (.tup (xs ++ ys)) → Q (.ref r) H') : L2.rCatA K (.ref a) (.ref b) H Q :=
  ⟨a, b, xs, ys, rfl, rfl, SqT.of ha, SqT.of hb, by show _ ≤ 16777216; omega, fun e => q b H (Same.refl _) (by rw [e]; exact hb), fun _ e => q a H (Same.refl _) (by rw [e, List.append_nil]; exact ha), fun _ _ p hp => q p _ (Same.new hp) upd_same⟩
theorem ciMid {a u : Addr} {xs us : List V} {n : Nat} {H : Hp} {Q : VK} (ha : H a = some (.tup xs)) (hu : H u = some (.tup us)) (hn : n + 1 ≤ xs.length) (hl : xs.length + us.length ≤ 500)
    (q : ∀ r H', Same H H' → H' r = some (.tup (xs.take n ++ us ++ xs.drop (n + 1))) → Q (.ref r) H') :
    L2.rSlA K (.ref a) none (some (n : Int)) H fun x H1 => L2.rCatA K x (.ref u) H1 fun y H2 => L2.rSlA K (.ref a) (some ((n : Int) + 1)) none H2 fun z H3 => L2.rCatA K y z H3 Q := by
  have l1 : (xs.take n).length ≤ xs.length := by rw [List.length_take]; omega
  have l2 : (xs.drop (n + 1)).length ≤ xs.length := by rw [List.length_drop]; omega
  refine ciTo ha fun r1 H1 s1 h1 => ciCat h1 (s1 _ _ hu) (by omega) fun r2 H2 s2 h2 => ?_
  have s12 := s1.trans s2
  rw [show (n : Int) + 1 = ((n + 1 : Nat) : Int) from rfl]
  refine ciFrom (s12 _ _ ha) hn fun r3 H3 s3 h3 => ciCat (s3 _ _ h2) h3 ?_ fun r4 H4 s4 h4 => q r4 H4 (s12.trans (s3.trans s4)) h4
  rw [List.length_append]
  omega
end
end Tw
/-! Tw: numbers within bounds, of any kind; Level made of anything -/
namespace Tw
open PySem PySem.Spec PyProof.Rows L2 He TwM StX
open PySem.W (Frag)
local macro_rules | `(tactic| walk_at "rsl") => `(tactic| simp only [*, at3_0, at3_1, at3_2, at2_0, at2_1, updS, upd_two, gSub, rSetL, updN, tPar, tPar3, gTup, gCons, gNil, and_assoc, not_true_eq_false, not_false_eq_true, tNever, List.length_map, tFld, rIxTH, rIxLH, rLenTH, rLenLH, lk1, lfs_g, lfs_s, lfs_p, HO.ins.injEq, HO.tup.injEq, HO.lst.injEq, sp_Book_rounding, sp_Book_action, sp_Book_order, sp_Book_due, sp_Book_zero, sp_Book_beyond, Int.toNat_natCast, sp_visit_after, sp_is_visited, sp_Level_grain, sp_Level_slots, sp_Level_span, sp_Wheel_reach, sp_Wheel___len__, sp_is_integer, sp_is_count, sp_is_within, sp_rounded, tAsg, gName, tVar, tC, tOp, rI, rI0, rU, tUn, oAdd, oSub, oMul, oDiv, oMod, oNeg, oLt, oLe, oGt, oGe, oIsN, oNotN, tFn, tCons, tNil, tIfS, tIf, tTest, tB, tNot, tAnd, tOr, tAndV, tOrV, tNotV,
    tRet, tRetN, tNext, tCB, tDrop, tChain, rEq, rNe, oMax2, oMin2, oInt1, rLenF, L2.start, List.map_cons, List.map_nil, List.length_cons, List.length_nil, List.replicate_succ, List.replicate_zero, List.cons_append, List.nil_append, Nat.reduceAdd, Nat.reduceSub, Nat.zero_add,
    List.set_cons_zero, List.set_cons_succ, List.getElem?_cons_zero, List.getElem?_cons_succ, Option.some.injEq, V.int.injEq, V.ref.injEq, V.str.injEq, V.bl.injEq, exists_eq_left', exists_eq_left, exists_and_left, List.cons.injEq, and_true, true_and, decide_eq_true_eq, sc_ii, sc_ss, sc_bb, sc_ni, sc_in, sc_nn, sc_is, reduceCtorEq,
    Bool.not_eq_true', decide_eq_false_iff_not, if_true, if_false, Bool.false_eq_true, exists_eq', exists_const, false_and, and_false, or_false, false_or, exists_false, Bool.not_not, Bool.not_true, Bool.not_false, sUp_up, sFire_fire, sHigh_high, sPut_put, sZone_now, sBey_refuse, sBey_cut, tTup, tLst, sz0, sz1, sz2, sz3, sz4, sz5, sz6])
local macro_rules | `(tactic| walk_at "st") => `(tactic| ((try dsimp only); rw [seq1]; walk_at "rsl"))
section
variable {K : Frag} {w : World}
def inB (x : V) (lo hi : Int) : Bool := match x with
  | .int i => decide (lo ≤ i) && decide (i ≤ hi)
  | _ => false
def intOf (x : V) : Int := match x with
  | .int i => i
  | _ => 0
def lvOut (g s z : V) (bg bs bz : Bool) : Option V := if (!(bg && inB g 1 1000)) = true then some g else if (!(bs && inB s 2 100)) = true then some s else if z ≠ .non ∧ (!(bz && inB z 2 (4 * intOf s * intOf g))) = true then some z else none
end
end Tw
/-! Tw: books of values of any kind, and which are refused; texts cut and joined -/
namespace Tw
open PySem PySem.Spec PyProof.Rows L2 He TwM StX
open PySem.W (Frag)
local macro_rules | `(tactic| walk_at "rsl") => `(tactic| simp only [*, at3_0, at3_1, at3_2, at2_0, at2_1, updS, upd_two, gSub, rSetL, updN, tPar, tPar3, gTup, gCons, gNil, and_assoc, not_true_eq_false, not_false_eq_true, tNever, List.length_map, tFld, rIxTH, rIxLH, rLenTH, rLenLH, lk1, lfs_g, lfs_s, lfs_p, HO.ins.injEq, HO.tup.injEq, HO.lst.injEq, sp_Book_rounding, sp_Book_action, sp_Book_order, sp_Book_due, sp_Book_zero, sp_Book_beyond, Int.toNat_natCast, sp_visit_after, sp_is_visited, sp_Level_grain, sp_Level_slots, sp_Level_span, sp_Wheel_reach, sp_Wheel___len__, sp_is_integer, sp_is_count, sp_is_within, sp_rounded, tAsg, gName, tVar, tC, tOp, rI, rI0, rU, tUn, oAdd, oSub, oMul, oDiv, oMod, oNeg, oLt, oLe, oGt, oGe, oIsN, oNotN, tFn, tCons, tNil, tIfS, tIf, tTest, tB, tNot, tAnd, tOr, tAndV, tOrV, tNotV,
    tRet, tRetN, tNext, tCB, tDrop, tChain, rEq, rNe, oMax2, oMin2, oInt1, rLenF, L2.start, List.map_cons, List.map_nil, List.length_cons, List.length_nil, List.replicate_succ, List.replicate_zero, List.cons_append, List.nil_append, Nat.reduceAdd, Nat.reduceSub, Nat.zero_add,
    List.set_cons_zero, List.set_cons_succ, List.getElem?_cons_zero, List.getElem?_cons_succ, Option.some.injEq, V.int.injEq, V.ref.injEq, V.str.injEq, V.bl.injEq, exists_eq_left', exists_eq_left, exists_and_left, List.cons.injEq, and_true, true_and, decide_eq_true_eq, sc_ii, sc_ss, sc_bb, sc_ni, sc_in, sc_nn, sc_is, reduceCtorEq,
    Bool.not_eq_true', decide_eq_false_iff_not, if_true, if_false, Bool.false_eq_true, exists_eq', exists_const, false_and, and_false, or_false, false_or, exists_false, Bool.not_not, Bool.not_true, Bool.not_false, sUp_up, sFire_fire, sHigh_high, sPut_put, sZone_now, sBey_refuse, sBey_cut, tTup, tLst, sz0, sz1, sz2, sz3, sz4, sz5, sz6])
local macro_rules | `(tactic| walk_at "st") => `(tactic| ((try dsimp only); rw [seq1]; walk_at "rsl"))
/-! ### plain -/
def vw7 : Nat → List Str
  | 0 => ["down", "up"]
  | 1 => ["fire", "move"]
  | 2 => ["high", "low"]
  | 3 => ["now", "put"]
  | 4 => ["now", "one"]
  | 5 => ["refuse", "last", "cut"]
  | _ => []
def ok7 (k : Nat) (x : V) : Bool := match x with
  | .str y => inV (.str y) ((vw7 k).map V.str)
  | _ => false
def sw7 (x : V) : Bool := match x with
  | .str y => inV (.str y) (six.map V.str)
  | _ => false
def bad7 : Nat → List V → Option V
  | _, [] => none
  | k, x :: xs => if ok7 k x = true then bad7 (k + 1) xs else some x
theorem join_spl (c : Nat) : ∀ (xs acc : List Nat), TL.joinL [c] (TL.spl [c] 0 acc xs) = acc ++ xs := by
  intro xs
  induction xs with
  | nil => intro acc; rw [TL.spl_nil]; simp [TL.joinL]
  | cons x xs ih =>
    intro acc
    by_cases h : TL.pre [c] (x :: xs) = true
    · rw [TL.spl_hit h]
      have hx : x = c := by
        simpa [TL.pre] using h
      have e := ih []
      rw [List.nil_append] at e
      have : ∃ p r, TL.spl [c] ([c].length - 1) [] xs = p :: r := by
        show ∃ p r, TL.spl [c] 0 [] xs = p :: r
        cases hz : TL.spl [c] 0 [] xs with
        | nil =>
          exfalso
          have ne : ∀ (ys b : List Nat), TL.spl [c] 0 b ys ≠ [] := by
            intro ys
            induction ys with
            | nil => intro b z; rw [TL.spl_nil] at z; cases z
            | cons y ys ih2 =>
              intro b z
              by_cases h2 : TL.pre [c] (y :: ys) = true
              · rw [TL.spl_hit h2] at z; cases z
              · rw [TL.spl, if_neg h2] at z
                exact ih2 _ z
          exact ne _ _ hz
        | cons p r => exact ⟨p, r, rfl⟩
      obtain ⟨p, r, hpr⟩ := this
      have hpr' : TL.spl [c] 0 [] xs = p :: r := hpr
      rw [hpr]
      rw [hpr'] at e
      show acc ++ ([c] ++ TL.joinL [c] (p :: r)) = _
      rw [e, hx]
      simp
    · rw [TL.spl, if_neg h, ih]
      simp
/-! ### values of any kind -/
section
variable {K : Frag} {w : World}
theorem Ov.isS {H : Hp} {x : V} {d : PyData} (h : Ov H x d) {Q : VK} (q : Q (.bl (strD d)) H) : rIsi K [x, .ty "str"] H Q := by
  cases h with
  | at_ h =>
    cases x with
    | non => cases h; exact isi_base (.base .non) (b := false) (by decide +kernel) q
    | bl b => cases h; exact isi_base (.base (.bl b)) (b := false) (by decide +kernel) q
    | int i => cases h; exact isi_base (.base (.int i)) (b := false) (by decide +kernel) q
    | str y => cases h; exact isi_base (.base (.str y)) (b := true) (by decide +kernel) q
    | _ => cases h
  | tup h f => exact isi_base (.base (.tup h)) (b := false) (by decide +kernel) q
  | lst h f => exact isi_base (.base (.lst h)) (b := false) (by decide +kernel) q
  | dict h => exact isi_base (.base (.dK h)) (b := false) (by decide +kernel) q
def sp_Book___init__R (K : Frag) : Sp := fun vs H Q E => ∃ (x dx : Addr) (xs : List V) (y1 y2 y3 y4 y5 y6 : V), vs = [.ref x, y1, y2, y3, y4, y5, y6] ∧ xs = [y1, y2, y3, y4, y5, y6] ∧ H x = some (.ins (ga K "Book") dx []) ∧ (∀ y ∈ xs, ∃ d, Ov H y d) ∧
  (∀ v, bad7 0 xs = some v → ∀ H' d, Same H H' → H' d = none → E (.ref (ga K "InvalidSwitch")) (some d) (upd H' d (.xd [("value", v)]))) ∧
  (∀ B : Bk, B.bey < 3 → xs = (bws B).map V.str → ∀ H', SameX x H H' → BkAt K H' x B → Q .non H')
def sp_Book___getitem__R (K : Frag) : Sp := fun vs H Q E => ∃ (b : Addr) (B : Bk) (x : V) (d : PyData), vs = [.ref b, x] ∧ BkAt K H b B ∧ Ov H x d ∧ sw7 x = false ∧ ∀ dd, H dd = none → E (.ref (ga K "InvalidSwitch")) (some dd) (upd H dd (.xd [("value", x)]))
def sp_Book_changedR (K : Frag) : Sp := fun vs H Q E => ∃ (b : Addr) (B : Bk) (x y : V) (d e : PyData), vs = [.ref b, x, y] ∧ BkAt K H b B ∧ Ov H x d ∧ Ov H y e ∧
  ((sw7 x = false ∧ ∀ dd, H dd = none → E (.ref (ga K "InvalidSwitch")) (some dd) (upd H dd (.xd [("value", x)]))) ∨
   ∃ i s, x = .str s ∧ six[i]? = some s ∧ (ok7 i y = false → ∀ dd, H dd = none → E (.ref (ga K "InvalidSwitch")) (some dd) (upd H dd (.xd [("value", y)]))) ∧ (ok7 i y = true → ∀ a H', Same H H' → Q (.ref a) H'))
def okT7 (t : Str) : Bool := decide ((Txt.split t " ").length = 6) && (bad7 0 ((Txt.split t " ").map V.str)).isNone
def tx7 (x : V) : Bool := match x with
  | .str t => okT7 t
  | _ => false
def sp_Book_from_textR (K : Frag) : Sp := fun vs H Q E => ∃ (x : V) (d : PyData), vs = [.ref (ga K "Book"), x] ∧ Ov H x d ∧ (∀ t, x = .str t → t.length ≤ 1000) ∧ tx7 x = false ∧ ∀ H' dd, Same H H' → H' dd = none → E (.ref (ga K "InvalidText")) (some dd) (upd H' dd (.xd [("value", x)]))
end
end Tw
/-! Tw (plain): numbers and shares as texts, written and read -/
namespace Tw
open PySem
open NumText (AllDigits digitsVal)
open TL (tl numL)
def numS (n : Int) : Str := Str.ofString (toString n)
def numZ (n : Int) : List Nat := if n < 0 then 45 :: numL n.natAbs else numL n.natAbs
theorem tl_numS (n : Int) : tl (numS n) = numZ n := by
  unfold numZ
  by_cases h : n < 0
  · rw [if_pos h]
    obtain ⟨k, rfl⟩ : ∃ k : Nat, n = Int.negSucc k := by
      cases n with
      | ofNat m => exact absurd h (by simp)
      | negSucc k => exact ⟨k, rfl⟩
    have e := TL.tl_num (k + 1)
    have e1 : tl (numS (Int.negSucc k)) = ("-" ++ toString (k + 1) : String).toList.map Char.toNat := PyProof.Rows.signs_ofString _
    have e2 : tl (Str.ofString (toString (((k + 1 : Nat)) : Int))) = (toString (k + 1) : String).toList.map Char.toNat := PyProof.Rows.signs_ofString _
    rw [e1, String.toList_append, List.map_append]
    rw [e] at e2
    show 45 :: (toString (k + 1) : String).toList.map Char.toNat = _
    rw [← e2]
    rfl
  · rw [if_neg h]
    obtain ⟨m, rfl⟩ : ∃ m : Nat, n = (m : Int) := ⟨n.toNat, by omega⟩
    exact TL.tl_num m
def figs (l : List Nat) : List Nat := match l with
  | 45 :: r => r
  | l => l
def vlL (l : List Nat) : Int := match l with
  | 45 :: r => -((digitsVal r : Nat) : Int)
  | l => ((digitsVal l : Nat) : Int)
structure WrL (l : List Nat) : Prop where
  ne : figs l ≠ []
  len : (figs l).length ≤ 200
  dig : AllDigits (figs l)
def CanL (l : List Nat) : Prop := WrL l ∧ ((figs l).head? ≠ some 48 ∨ l = [48])
theorem figs_plain {l : List Nat} (h : AllDigits l) : figs l = l := by
  cases l with
  | nil => rfl
  | cons c r =>
    have := h.head
    unfold figs
    split
    · rename_i e; injection e with e1 e2; omega
    · rfl
theorem vl_plain {l : List Nat} (h : AllDigits l) : vlL l = ((digitsVal l : Nat) : Int) := by
  cases l with
  | nil => rfl
  | cons c r =>
    have := h.head
    unfold vlL
    split
    · rename_i e; injection e with e1 e2; omega
    · rfl
theorem fig_cases (l : List Nat) : (∃ r, l = 45 :: r ∧ figs l = r ∧ vlL l = -((digitsVal r : Nat) : Int)) ∨ (figs l = l ∧ vlL l = ((digitsVal l : Nat) : Int) ∧ ∀ r, l ≠ 45 :: r) := by
  by_cases h : ∃ r, l = 45 :: r
  · obtain ⟨r, rfl⟩ := h
    exact .inl ⟨r, rfl, rfl, rfl⟩
  · have h' : ∀ r, l ≠ 45 :: r := fun r e => h ⟨r, e⟩
    refine .inr ⟨?_, ?_, h'⟩
    · unfold figs
      split
      · rename_i r; exact absurd rfl (h' r)
      · rfl
    · unfold vlL
      split
      · rename_i r; exact absurd rfl (h' r)
      · rfl
theorem numL_back {cs : List Nat} (h : AllDigits cs) (ne : cs ≠ []) (hd : cs.head? ≠ some 48 ∨ cs = [48]) : numL (digitsVal cs) = cs := by
  rcases hd with hd | rfl
  · cases cs with
    | nil => exact absurd rfl ne
    | cons c r =>
      have hc := h.head
      have h49 : 49 ≤ c := by
        have : c ≠ 48 := fun e => hd (by rw [e]; rfl)
        omega
      have e := NumText.toDigits_digitsVal r.length (c :: r) rfl h (.inr ⟨c, r, rfl, h49⟩)
      unfold TL.numL
      rw [e, List.map_map]
      refine (List.map_congr_left fun x hx => ?_).trans (List.map_id _)
      have := h x hx
      show (Char.ofNat x).toNat = x
      have key : ∀ x : Fin 58, (Char.ofNat x.val).toNat = x.val := by decide +kernel
      exact key ⟨x, by omega⟩
  · decide +kernel
theorem numL_head {n : Nat} (h : n ≠ 0) : (numL n).head? ≠ some 48 := by
  induction n using Nat.strongRecOn with
  | _ n ih =>
    by_cases h10 : n < 10
    · rw [TL.numL_lt h10]
      intro e
      have e : some (48 + n) = some 48 := e
      injection e with e
      omega
    · rw [TL.numL_step (by omega)]
      have ne := TL.numL_ne (n / 10)
      have ih := ih (n / 10) (by omega) (by omega)
      cases hq : numL (n / 10) with
      | nil => exact absurd hq ne
      | cons c r =>
        rw [hq] at ih
        exact ih
theorem numZ_back {l : List Nat} (h : CanL l) : numZ (vlL l) = l := by
  obtain ⟨w, hd⟩ := h
  rcases fig_cases l with ⟨r, rfl, hf, hv⟩ | ⟨hf, hv, hn⟩
  · rw [hf] at hd
    have ne : r ≠ [] := by have := w.ne; rwa [hf] at this
    have dg : AllDigits r := by have := w.dig; rwa [hf] at this
    have hd : r.head? ≠ some 48 := by
      rcases hd with hd | hd
      · exact hd
      · cases hd
    have hp : 0 < digitsVal r := by
      cases r with
      | nil => exact absurd rfl ne
      | cons c s =>
        have := dg.head
        exact NumText.digitsVal_pos (by have : c ≠ 48 := fun e => hd (by rw [e]; rfl); omega)
    rw [hv]
    unfold numZ
    rw [if_pos (by omega), Int.natAbs_neg, Int.natAbs_natCast, numL_back dg ne (.inl hd)]
  · rw [hf] at hd
    have ne : l ≠ [] := by have := w.ne; rwa [hf] at this
    have dg : AllDigits l := by have := w.dig; rwa [hf] at this
    rw [hv]
    unfold numZ
    rw [if_neg (by omega), Int.natAbs_natCast, numL_back dg ne hd]
theorem vl_numZ (n : Int) : vlL (numZ n) = n := by
  unfold numZ
  by_cases h : n < 0
  · rw [if_pos h]
    show -((digitsVal (numL n.natAbs) : Nat) : Int) = n
    rw [TL.numL_val]
    omega
  · rw [if_neg h, vl_plain (TL.numL_digits _), TL.numL_val]
    omega
theorem can_numZ {n : Int} (h : WrL (numZ n)) : CanL (numZ n) := by
  refine ⟨h, ?_⟩
  unfold numZ
  by_cases h0 : n < 0
  · rw [if_pos h0]
    exact .inl (numL_head (by omega))
  · rw [if_neg h0, figs_plain (TL.numL_digits _)]
    by_cases hz : n.natAbs = 0
    · rw [hz]
      exact .inr (by decide +kernel)
    · exact .inl (numL_head hz)
theorem num_iff {l : List Nat} (h : WrL l) : numZ (vlL l) = l ↔ CanL l := ⟨fun e => by
  have := can_numZ (n := vlL l) (by rw [e]; exact h)
  rwa [e] at this, numZ_back⟩
theorem numZ_slash (n : Int) : 47 ∉ numZ n := by
  unfold numZ
  split
  · intro h
    rcases List.mem_cons.mp h with h | h
    · cases h
    · exact TL.numL_free (by decide) h
  · exact fun h => TL.numL_free (by decide) h
/-! ### shares -/
def shL (r : Rat) : List Nat := if r.den = 1 then numZ r.num else numZ r.num ++ 47 :: numZ r.den
theorem WrL.slash {l : List Nat} (h : WrL l) : 47 ∉ l := fun hm => by
  rcases fig_cases l with ⟨r, rfl, hf, _⟩ | ⟨hf, _, _⟩
  · rcases List.mem_cons.mp hm with z | z
    · cases z
    · have := h.dig 47 (by rw [hf]; exact z)
      omega
  · have := h.dig 47 (by rw [hf]; exact hm)
    omega
theorem app_inj7 {c : Nat} : ∀ {a b x y : List Nat}, a ++ c :: b = x ++ c :: y → c ∉ a → c ∉ x → a = x ∧ b = y
  | [], b, [], y, h, _, _ => by
    injection h with _ h
    exact ⟨rfl, h⟩
  | [], b, z :: x, y, h, _, hx => by
    injection h with h _
    exact absurd (by rw [h]; exact List.mem_cons_self) hx
  | z :: a, b, [], y, h, ha, _ => by
    injection h with h _
    exact absurd (by rw [← h]; exact List.mem_cons_self) ha
  | z :: a, b, u :: x, y, h, ha, hx => by
    injection h with h1 h2
    obtain ⟨e1, e2⟩ := app_inj7 h2 (fun m => ha (List.mem_cons_of_mem _ m)) (fun m => hx (List.mem_cons_of_mem _ m))
    exact ⟨by rw [h1, e1], e2⟩
theorem divInt_cop {n m : Int} (hm : 2 ≤ m) (hg : Int.gcd n m = 1) : (Rat.divInt n m).num = n ∧ ((Rat.divInt n m).den : Int) = m := by
  obtain ⟨k, rfl⟩ : ∃ k : Nat, m = (k : Int) := ⟨m.toNat, by omega⟩
  have hk : k ≠ 0 := by omega
  have hc : n.natAbs.Coprime k := by
    have : Int.gcd n (k : Int) = Nat.gcd n.natAbs k := rfl
    rw [this] at hg
    exact hg
  have e : Rat.divInt n (k : Int) = ⟨n, k, hk, hc⟩ := by
    have := Rat.num_divInt_den (⟨n, k, hk, hc⟩ : Rat)
    exact this
  rw [e]
  exact ⟨rfl, rfl⟩
theorem divInt_one (n : Int) : (Rat.divInt n 1).num = n ∧ (Rat.divInt n 1).den = 1 := by
  have e : Rat.divInt n 1 = (⟨n, 1, by decide, Nat.coprime_one_right _⟩ : Rat) := Rat.num_divInt_den (⟨n, 1, by decide, Nat.coprime_one_right _⟩ : Rat)
  rw [e]
  exact ⟨rfl, rfl⟩
theorem one_iff {p : List Nat} (w : WrL p) : shL (Rat.divInt (vlL p) 1) = p ↔ CanL p := by
  obtain ⟨e1, e2⟩ := divInt_one (vlL p)
  unfold shL
  rw [if_pos e2, e1]
  exact num_iff w
theorem two_iff {p q : List Nat} (wp : WrL p) (wq : WrL q) (hz : vlL q ≠ 0) : shL (Rat.divInt (vlL p) (vlL q)) = p ++ 47 :: q ↔ CanL p ∧ CanL q ∧ 2 ≤ vlL q ∧ Int.gcd (vlL p) (vlL q) = 1 := by
  constructor
  · intro h
    generalize hr : Rat.divInt (vlL p) (vlL q) = r at h
    unfold shL at h
    by_cases hd : r.den = 1
    · rw [if_pos hd] at h
      exact absurd (by rw [h]; exact List.mem_append_right _ List.mem_cons_self) (numZ_slash r.num)
    · rw [if_neg hd] at h
      obtain ⟨h1, h2⟩ := app_inj7 h (numZ_slash _) wp.slash
      have v1 : vlL p = r.num := by rw [← h1, vl_numZ]
      have v2 : vlL q = r.den := by rw [← h2, vl_numZ]
      have c1 := can_numZ (n := r.num) (by rw [h1]; exact wp)
      have c2 := can_numZ (n := (r.den : Int)) (by rw [h2]; exact wq)
      rw [h1] at c1
      rw [h2] at c2
      refine ⟨c1, c2, ?_, ?_⟩
      · rw [v2]
        have := r.den_pos
        omega
      · rw [v1, v2]
        exact r.reduced
  · rintro ⟨c1, c2, h2, hg⟩
    obtain ⟨e1, e2⟩ := divInt_cop h2 hg
    unfold shL
    rw [if_neg (by omega), e1, e2, numZ_back c1, numZ_back c2]
end Tw
/-! Tw: texts as data: their repr -/
namespace Tw
open PySem PySem.Spec PyProof.Rows L2
def TxOk (s : PySem.Str) : Prop := (∀ c ∈ s.cps.toList, c < 1114112) ∧ s.length ≤ 100000
theorem ch_lt (c : Char) : c.toNat < 1114112 := by
  have hv := c.valid
  have e : c.toNat = c.val.toNat := rfl
  rw [e]
  rcases hv with h | ⟨_, h⟩
  · exact Nat.lt_trans h (by decide)
  · exact h
theorem reprChar_lt {q c : Nat} (hq : q < 1114112) (hc : c < 1114112) : ∀ e ∈ Builtin.Str.reprChar q c, e < 1114112 := by
  have hx : ∀ w e, e ∈ (List.replicate (w - ((Nat.toDigits 16 c).map Char.toNat).length) 48 ++ (Nat.toDigits 16 c).map Char.toNat) → e < 1114112 := fun w e he => by
    rcases List.mem_append.mp he with h | h
    · rw [(List.mem_replicate.mp h).2]; decide
    · obtain ⟨x, _, rfl⟩ := List.mem_map.mp h
      exact ch_lt x
  intro e he
  unfold Builtin.Str.reprChar at he
  dsimp only at he
  repeat' split at he
  all_goals simp only [List.mem_append, List.mem_cons, List.not_mem_nil, or_false] at he
  all_goals first
    | (rcases he with rfl | rfl <;> omega)
    | (subst he; exact hc)
    | (rcases he with (rfl | rfl) | h
       · decide
       · decide
       · exact hx _ e (List.mem_append.mpr h))
theorem foldl_repr_lt {q : Nat} (hq : q < 1114112) : ∀ (l : List Nat) (acc : Array Nat), (∀ c ∈ l, c < 1114112) → (∀ e ∈ acc.toList, e < 1114112) → ∀ e ∈ (l.foldl (fun out c => out ++ (Builtin.Str.reprChar q c).toArray) acc).toList, e < 1114112
  | [], acc, _, ha => ha
  | c :: r, acc, h, ha => by
    refine foldl_repr_lt hq r _ (fun d hd => h d (List.mem_cons_of_mem _ hd)) fun e he => ?_
    rw [Array.toList_append, List.mem_append] at he
    rcases he with he | he
    · exact ha e he
    · exact reprChar_lt hq (h c List.mem_cons_self) e (by simpa using he)
theorem reprQuote_lt (x : PySem.Str) : PySem.reprQuote x < 1114112 := by
  unfold PySem.reprQuote
  split <;> decide
theorem strOk_repr {x : PySem.Str} (h : ∀ c ∈ x.cps.toList, c < 1114112) : PySem.PyData.strOk (PySem.reprText x) = true := by
  unfold PySem.PyData.strOk
  rw [Array.all_eq_true']
  intro e he
  have he : e ∈ ((x.cps.foldl (fun out c => out ++ (Builtin.Str.reprChar (PySem.reprQuote x) c).toArray) #[PySem.reprQuote x]).push (PySem.reprQuote x)) := he
  rw [← Array.foldl_toList, ← Array.mem_toList_iff, Array.toList_push, List.mem_append] at he
  have : e < 1114112 := by
    rcases he with he | he
    · exact foldl_repr_lt (reprQuote_lt x) _ _ h (fun z hz => by
        have : z = PySem.reprQuote x := by simpa using hz
        rw [this]; exact reprQuote_lt x) e he
    · rw [List.mem_singleton.mp he]
      exact reprQuote_lt x
  exact decide_eq_true this
theorem okD_str {x : PySem.Str} (h : TxOk x) : OkD (.str x) := by
  have e : (PyData.str x).shown = PySem.reprText x := PyData.shown_str x
  refine ⟨.inr ⟨rfl, rfl, (show 0 ≤ 16 by decide), ?_⟩, ?_⟩
  · rw [e]
    have := StrLaws.reprText_len x fun c hc => Nat.lt_of_lt_of_le (h.1 c hc) (by decide)
    have h6 : sizeLine = 16777216 := rfl
    have := h.2
    omega
  · rw [e]
    exact strOk_repr h.1
/-! sorted texts -/
/-! joined signs -/
end Tw
/-! Tw: room for comparisons of data of some depth -/
namespace Tw
open PySem PySem.Spec PyProof.Rows L2
end Tw
/-! Tw: shares compared with numbers and with anything, as texts, and read from texts -/
namespace Tw
open PySem PySem.Spec PyProof.Rows L2 He TwM StX LamX
open PySem.W (Frag)
local macro_rules | `(tactic| walk_at "rsl") => `(tactic| simp only [*, at3_0, at3_1, at3_2, at2_0, at2_1, updS, upd_two, gSub, L2.rSetL, updN, tPar, tPar3, gTup, gCons, gNil, and_assoc, not_true_eq_false, not_false_eq_true, tNever, List.length_map, tFld, rIxTH, rIxLH, rLenTH, rLenLH, lk1, lfs_g, lfs_s, lfs_p, HO.ins.injEq, HO.tup.injEq, HO.lst.injEq, sp_Book_rounding, sp_Book_action, sp_Book_order, sp_Book_due, sp_Book_zero, sp_Book_beyond, Int.toNat_natCast, sp_visit_after, sp_is_visited, sp_Level_grain, sp_Level_slots, sp_Level_span, sp_Wheel_reach, sp_Wheel___len__, sp_is_integer, sp_is_count, sp_is_within, sp_rounded, tAsg, gName, tVar, tC, tOp, rI, rI0, rU, tUn, oAdd, oSub, oMul, oDiv, oMod, oNeg, oLt, oLe, oGt, oGe, oIsN, oNotN, tFn, tCons, tNil, tIfS, tIf, tTest, tB, tNot, tAnd, tOr, tAndV, tOrV, tNotV,
    tRet, tRetN, tNext, tCB, tDrop, tChain, rEq, rNe, oMax2, oMin2, oInt1, rLenF, L2.start, List.map_cons, List.map_nil, List.length_cons, List.length_nil, List.replicate_succ, List.replicate_zero, List.cons_append, List.nil_append, Nat.reduceAdd, Nat.reduceSub, Nat.zero_add,
    List.set_cons_zero, List.set_cons_succ, List.getElem?_cons_zero, List.getElem?_cons_succ, Option.some.injEq, V.int.injEq, V.ref.injEq, V.str.injEq, V.bl.injEq, exists_eq_left', exists_eq_left, exists_and_left, List.cons.injEq, and_true, true_and, decide_eq_true_eq, sc_ii, sc_ss, sc_bb, sc_ni, sc_in, sc_nn, sc_is, reduceCtorEq,
    Bool.not_eq_true', decide_eq_false_iff_not, if_true, if_false, Bool.false_eq_true, exists_eq', exists_const, false_and, and_false, or_false, false_or, exists_false, Bool.not_not, Bool.not_true, Bool.not_false, sUp_up, sFire_fire, sHigh_high, sPut_put, sZone_now, sBey_refuse, sBey_cut, tTup, tLst, sz0, sz1, sz2, sz3, sz4, sz5, sz6])
local macro_rules | `(tactic| walk_at "st") => `(tactic| ((try dsimp only); rw [seq1]; walk_at "rsl"))
section
variable {K : Frag} {w : World}
abbrev oIntS : List V → Hp → VK → Prop := fun xs H Q => ∃ a n, xs = [.str a] ∧ PySem.intText? a = some n ∧ a.length ≤ 640 ∧ Q (.int n) H
structure Kx (K : Frag) (w : World) : Prop extends Kxm K w where
  ns : ((["NoneType", "bool", "str", "tuple", "list", "dict"] : List String).all fun t => decide (PySem.W.kitOne K (.type t) (.ref (ga K "Share")) = some false)) = true
  ex : PySem.W.exmOne K (.ref (ga K "InvalidNumber")) (.ref (ga K "InvalidNumber")) = some true
theorem Kx.no (T : Kx K w) {t : String} (h : t ∈ (["NoneType", "bool", "str", "tuple", "list", "dict"] : List String)) : PySem.W.kitOne K (.type t) (.ref (ga K "Share")) = some false := of_decide_eq_true (List.all_eq_true.mp T.ns t h)
theorem ShQ.extN {H H' : Hp} {a : Addr} {q : Rat} (h : ShQ K H a q) (s : ExtN H H') : ShQ K H' a q := h.elim fun dx e => ⟨dx, s _ _ e fun ps z => by cases z⟩
def txtQ (q : Rat) : Str := if (q.den : Int) = 1 then Str.ofString (toString q.num) else Str.ofString (toString q.num) ++ "/" ++ Str.ofString (toString (q.den : Int))
theorem len_int {i : Int} (h : i.natAbs.log2 < 1920) : (Str.ofString (toString i)).length ≤ 2000 := by
  have h3 := int_text_length_le (k := 1920) (by decide) h
  rw [PySem.ofString_length]
  omega
def sp_Share_text (K : Frag) : Sp := fun vs H Q _ => ∃ (a : Addr) (q : Rat), vs = [.ref a] ∧ ShQ K H a q ∧ Bd 900 q ∧ Q (.str (txtQ q)) H
theorem in_Share_text (K : Frag) : InsAt (ga K "Share") (sp_Share_text K) := fun vs H Q E ⟨a, q, e, ⟨dx, h⟩, _⟩ => ⟨a, dx, _, [], e, h⟩
theorem txt_le {q : Rat} (b : Bd 900 q) : q.num.natAbs.log2 < 1920 ∧ (q.den : Int).natAbs.log2 < 1920 := ⟨Nat.lt_trans (log_of b.1 (by decide)) (by decide), Nat.lt_trans (log_of b.den (by decide)) (by decide)⟩
def t_Share_text (K : Frag) (w : World) : TS :=
  (tSeq (tIfS (tTest (tOp rEq (tFld K (tVar 0) "kept_bottom") (tC (.int 1)))) (tRet (tCB oStrI (tCons (tFld K (tVar 0) "kept_top") tNil))) tNext)
  (tRet (tOp oAddS (tOp oAddS (tCB oStrI (tCons (tFld K (tVar 0) "kept_top") tNil)) (tC (.str "/"))) (tCB oStrI (tCons (tFld K (tVar 0) "kept_bottom") tNil)))))
def n_Share_text : List Str := ["self"]
theorem rd_Share_text (T : Ks K w) (vs : List V) (H : Hp) (Q : VK) (E : XK) (h : sp_Share_text K vs H Q E) : t_Share_text K w { nx := fun _ H' => Q .non H', rt := Q } (L2.start n_Share_text vs) H := by
  obtain ⟨a, q, rfl, ⟨dx, h⟩, hb, k⟩ := h
  obtain ⟨l1, l2⟩ := txt_le hb
  have m1 := len_int l1
  have m2 := len_int l2
  have hsz : sizeLine = 16777216 := rfl
  unfold t_Share_text n_Share_text
  rw [seq1]
  refine ⟨_, rfl, a, _, dx, _, _, rfl, h, T.cS, T.nSb, sh_bot .., sc_ii _ _, _, rfl, ?_⟩
  dsimp only
  unfold txtQ at k
  by_cases e : (q.den : Int) = 1
  · rw [if_pos (decide_eq_true (by rw [e]))]
    rw [if_pos e] at k
    exact ⟨_, rfl, a, _, dx, _, _, rfl, h, T.cS, T.nSt, lk1 _ _ _, _, rfl, l1, k⟩
  · rw [if_neg (by rw [decide_eq_false (fun z => e (V.int.inj z))]; decide)]
    rw [if_neg e] at k
    refine ⟨_, rfl, a, _, dx, _, _, rfl, h, T.cS, T.nSt, lk1 _ _ _, _, rfl, l1, _, _, rfl, rfl, ?_, _, rfl, a, _, dx, _, _, rfl, h, T.cS, T.nSb, sh_bot .., _, rfl, l2, _, _, rfl, rfl, ?_, k⟩
    · show (Str.ofString (toString q.num)).length + 1 ≤ sizeLine
      omega
    · rw [Str.length_append]
      show (Str.ofString (toString q.num)).length + 1 + _ ≤ sizeLine
      omega
def NoN (H : Hp) (v : V) : Prop := ∃ d, Ov H v d ∧ intD d = false
theorem NoN.isS {H : Hp} {v : V} {Q : VK} (T : Kx K w) (h : NoN H v) (q : Q (.bl false) H) : rIsi K [v, .ref (ga K "Share")] H Q := by
  obtain ⟨d, h, hd⟩ := h
  cases h with
  | at_ h =>
    cases v with
    | non => exact ⟨.non, _, _, _, false, rfl, .own _, .base .non, T.no (t := "NoneType") (by simp), q⟩
    | bl b => exact ⟨.bl b, _, _, _, false, rfl, .own _, .base (.bl b), T.no (t := "bool") (by simp), q⟩
    | str s => exact ⟨.str s, _, _, _, false, rfl, .own _, .base (.str s), T.no (t := "str") (by simp), q⟩
    | int i => cases h; cases hd
    | _ => cases h
  | tup h f => exact ⟨_, _, _, _, false, rfl, .own _, .base (.tup h), T.no (t := "tuple") (by simp), q⟩
  | lst h f => exact ⟨_, _, _, _, false, rfl, .own _, .base (.lst h), T.no (t := "list") (by simp), q⟩
  | dict h => exact ⟨_, _, _, _, false, rfl, .own _, .base (.dK h), T.no (t := "dict") (by simp), q⟩
def sp_is_numberA (K : Frag) : Sp := fun vs H Q _ => ∃ v b, vs = [v] ∧ ((b = true ∧ ∃ q, PartQ K H v q) ∨ (b = false ∧ NoN H v)) ∧ Q (.bl b) H
def t_is_numberA (K : Frag) (w : World) : TS :=
  (tRet (tOrV (tFn (sp_is_integerA K) E0 (tCons (tVar 0) tNil)) (tCB (rIsi K) (tCons (tVar 0) (tCons (tC (.ref (ga K "Share"))) tNil)))))
def n_is_numberA : List Str := ["value"]
theorem rd_is_numberA (T : Kx K w) (vs : List V) (H : Hp) (Q : VK) (E : XK) (h : sp_is_numberA K vs H Q E) : t_is_numberA K w { nx := fun _ H' => Q .non H', rt := Q } (L2.start n_is_numberA vs) H := by
  obtain ⟨v, b, rfl, h, q⟩ := h
  unfold t_is_numberA n_is_numberA
  rcases h with ⟨rfl, r, ⟨n, rfl, rfl⟩ | ⟨a, rfl, dx, h⟩⟩ | ⟨rfl, d, h, hd⟩
  · exact ⟨_, rfl, _, true, rfl, (Ov.at_ (H := H) (x := .int n) rfl).isI, true, rfl, q⟩
  · exact ⟨_, rfl, _, false, rfl, ⟨false, false, fun _ _ s q => isi_share_int T.ks (s _ _ h) q, fun z => (by cases z), rfl⟩, false, rfl, _, rfl, isi_share T.ks h q⟩
  · refine ⟨_, rfl, _, false, rfl, hd ▸ h.isI, false, rfl, _, rfl, ?_⟩
    exact NoN.isS T ⟨d, h, hd⟩ q
def sp_Share___lt__X (K : Frag) : Sp := fun vs H Q _ => ∃ (a : Addr) (v : V) (q r : Rat), vs = [.ref a, v] ∧ ShQ K H a q ∧ PartQ K H v r ∧ Bd 200 q ∧ Bd 200 r ∧ ∀ H', Same H H' → Q (.bl (decide (q.num * r.den < r.num * q.den))) H'
def t_Share___lt__X (K : Frag) (w : World) : TS :=
  (tSeq (tIfS (tNot (tB (tCB (rIsiT K) (tCons (tVar 1) (tCons (tTup (tCons (tC (.ty "int")) (tCons (tC (.ref (ga K "Share"))) tNil))) tNil))))) tNever tNext)
  (tSeq (tAsg (tFn (sp_share_of K) E0 (tCons (tVar 1) tNil)) (gName 2))
  (tRet (tOp oLt (tOp oMulW (tFld K (tVar 0) "kept_top") (tFld K (tVar 2) "kept_bottom")) (tOp oMulW (tFld K (tVar 2) "kept_top") (tFld K (tVar 0) "kept_bottom"))))))
def n_Share___lt__X : List Str := ["self", "other", "value"]
theorem rd_Share___lt__X (T : Kxm K w) (vs : List V) (H : Hp) (Q : VK) (E : XK) (h : sp_Share___lt__X K vs H Q E) : t_Share___lt__X K w { nx := fun _ H' => Q .non H', rt := Q } (L2.start n_Share___lt__X vs) H := by
  obtain ⟨a, v, q, r, rfl, ha, hv, b1, b2, k⟩ := h
  unfold t_Share___lt__X n_Share___lt__X
  rw [seq1]
  refine isT_part (r := r) T rfl hv fun H1 s1 => ⟨true, rfl, ?_⟩
  try dsimp only
  rw [if_neg (by decide)]
  change tSeq _ _ _ _ _
  rw [seq1]
  refine ⟨_, rfl, v, r, rfl, hv.same s1, b2.mono (by decide), fun s H2 s2 hs => ?_⟩
  try dsimp only
  rw [gName1]
  try dsimp only [List.set_cons_succ, List.set_cons_zero]
  have ha2 := (ha.same s1).same s2
  refine mulW (i := q.num) (j := r.den) (fun _ => fld_top T.ks (by rfl) ha2) (fun _ => fld_bot T.ks (by rfl) hs) (nat_mono b1.1 (by decide)) (nat_mono b2.den (by decide)) ?_
  refine mulW (i := r.num) (j := q.den) (fun _ => fld_top T.ks (by rfl) hs) (fun _ => fld_bot T.ks (by rfl) ha2) (nat_mono b2.1 (by decide)) (nat_mono b1.den (by decide)) ⟨_, _, rfl, rfl, ?_⟩
  exact k _ (s1.trans s2)
def sp_Share___le__X (K : Frag) : Sp := fun vs H Q _ => ∃ (a : Addr) (v : V) (q r : Rat), vs = [.ref a, v] ∧ ShQ K H a q ∧ PartQ K H v r ∧ Bd 200 q ∧ Bd 200 r ∧ ∀ H', Same H H' → Q (.bl (decide (q.num * r.den ≤ r.num * q.den))) H'
def t_Share___le__X (K : Frag) (w : World) : TS :=
  (tSeq (tIfS (tNot (tB (tCB (rIsiT K) (tCons (tVar 1) (tCons (tTup (tCons (tC (.ty "int")) (tCons (tC (.ref (ga K "Share"))) tNil))) tNil))))) tNever tNext)
  (tSeq (tAsg (tFn (sp_share_of K) E0 (tCons (tVar 1) tNil)) (gName 2))
  (tRet (tOp oLe (tOp oMulW (tFld K (tVar 0) "kept_top") (tFld K (tVar 2) "kept_bottom")) (tOp oMulW (tFld K (tVar 2) "kept_top") (tFld K (tVar 0) "kept_bottom"))))))
def n_Share___le__X : List Str := ["self", "other", "value"]
theorem rd_Share___le__X (T : Kxm K w) (vs : List V) (H : Hp) (Q : VK) (E : XK) (h : sp_Share___le__X K vs H Q E) : t_Share___le__X K w { nx := fun _ H' => Q .non H', rt := Q } (L2.start n_Share___le__X vs) H := by
  obtain ⟨a, v, q, r, rfl, ha, hv, b1, b2, k⟩ := h
  unfold t_Share___le__X n_Share___le__X
  rw [seq1]
  refine isT_part (r := r) T rfl hv fun H1 s1 => ⟨true, rfl, ?_⟩
  try dsimp only
  rw [if_neg (by decide)]
  change tSeq _ _ _ _ _
  rw [seq1]
  refine ⟨_, rfl, v, r, rfl, hv.same s1, b2.mono (by decide), fun s H2 s2 hs => ?_⟩
  try dsimp only
  rw [gName1]
  try dsimp only [List.set_cons_succ, List.set_cons_zero]
  have ha2 := (ha.same s1).same s2
  refine mulW (i := q.num) (j := r.den) (fun _ => fld_top T.ks (by rfl) ha2) (fun _ => fld_bot T.ks (by rfl) hs) (nat_mono b1.1 (by decide)) (nat_mono b2.den (by decide)) ?_
  refine mulW (i := r.num) (j := q.den) (fun _ => fld_top T.ks (by rfl) hs) (fun _ => fld_bot T.ks (by rfl) ha2) (nat_mono b2.1 (by decide)) (nat_mono b1.den (by decide)) ⟨_, _, rfl, rfl, ?_⟩
  exact k _ (s1.trans s2)
def sp_Share___gt__X (K : Frag) : Sp := fun vs H Q _ => ∃ (a : Addr) (v : V) (q r : Rat), vs = [.ref a, v] ∧ ShQ K H a q ∧ PartQ K H v r ∧ Bd 200 q ∧ Bd 200 r ∧ ∀ H', Same H H' → Q (.bl (decide (r.num * q.den < q.num * r.den))) H'
def t_Share___gt__X (K : Frag) (w : World) : TS :=
  (tSeq (tIfS (tNot (tB (tCB (rIsiT K) (tCons (tVar 1) (tCons (tTup (tCons (tC (.ty "int")) (tCons (tC (.ref (ga K "Share"))) tNil))) tNil))))) tNever tNext)
  (tSeq (tAsg (tFn (sp_share_of K) E0 (tCons (tVar 1) tNil)) (gName 2))
  (tRet (tOp oGt (tOp oMulW (tFld K (tVar 0) "kept_top") (tFld K (tVar 2) "kept_bottom")) (tOp oMulW (tFld K (tVar 2) "kept_top") (tFld K (tVar 0) "kept_bottom"))))))
def n_Share___gt__X : List Str := ["self", "other", "value"]
theorem rd_Share___gt__X (T : Kxm K w) (vs : List V) (H : Hp) (Q : VK) (E : XK) (h : sp_Share___gt__X K vs H Q E) : t_Share___gt__X K w { nx := fun _ H' => Q .non H', rt := Q } (L2.start n_Share___gt__X vs) H := by
  obtain ⟨a, v, q, r, rfl, ha, hv, b1, b2, k⟩ := h
  unfold t_Share___gt__X n_Share___gt__X
  rw [seq1]
  refine isT_part (r := r) T rfl hv fun H1 s1 => ⟨true, rfl, ?_⟩
  try dsimp only
  rw [if_neg (by decide)]
  change tSeq _ _ _ _ _
  rw [seq1]
  refine ⟨_, rfl, v, r, rfl, hv.same s1, b2.mono (by decide), fun s H2 s2 hs => ?_⟩
  try dsimp only
  rw [gName1]
  try dsimp only [List.set_cons_succ, List.set_cons_zero]
  have ha2 := (ha.same s1).same s2
  refine mulW (i := q.num) (j := r.den) (fun _ => fld_top T.ks (by rfl) ha2) (fun _ => fld_bot T.ks (by rfl) hs) (nat_mono b1.1 (by decide)) (nat_mono b2.den (by decide)) ?_
  refine mulW (i := r.num) (j := q.den) (fun _ => fld_top T.ks (by rfl) hs) (fun _ => fld_bot T.ks (by rfl) ha2) (nat_mono b2.1 (by decide)) (nat_mono b1.den (by decide)) ⟨_, _, rfl, rfl, ?_⟩
  exact k _ (s1.trans s2)
def sp_Share___ge__X (K : Frag) : Sp := fun vs H Q _ => ∃ (a : Addr) (v : V) (q r : Rat), vs = [.ref a, v] ∧ ShQ K H a q ∧ PartQ K H v r ∧ Bd 200 q ∧ Bd 200 r ∧ ∀ H', Same H H' → Q (.bl (decide (r.num * q.den ≤ q.num * r.den))) H'
def t_Share___ge__X (K : Frag) (w : World) : TS :=
  (tSeq (tIfS (tNot (tB (tCB (rIsiT K) (tCons (tVar 1) (tCons (tTup (tCons (tC (.ty "int")) (tCons (tC (.ref (ga K "Share"))) tNil))) tNil))))) tNever tNext)
  (tSeq (tAsg (tFn (sp_share_of K) E0 (tCons (tVar 1) tNil)) (gName 2))
  (tRet (tOp oGe (tOp oMulW (tFld K (tVar 0) "kept_top") (tFld K (tVar 2) "kept_bottom")) (tOp oMulW (tFld K (tVar 2) "kept_top") (tFld K (tVar 0) "kept_bottom"))))))
def n_Share___ge__X : List Str := ["self", "other", "value"]
theorem rd_Share___ge__X (T : Kxm K w) (vs : List V) (H : Hp) (Q : VK) (E : XK) (h : sp_Share___ge__X K vs H Q E) : t_Share___ge__X K w { nx := fun _ H' => Q .non H', rt := Q } (L2.start n_Share___ge__X vs) H := by
  obtain ⟨a, v, q, r, rfl, ha, hv, b1, b2, k⟩ := h
  unfold t_Share___ge__X n_Share___ge__X
  rw [seq1]
  refine isT_part (r := r) T rfl hv fun H1 s1 => ⟨true, rfl, ?_⟩
  try dsimp only
  rw [if_neg (by decide)]
  change tSeq _ _ _ _ _
  rw [seq1]
  refine ⟨_, rfl, v, r, rfl, hv.same s1, b2.mono (by decide), fun s H2 s2 hs => ?_⟩
  try dsimp only
  rw [gName1]
  try dsimp only [List.set_cons_succ, List.set_cons_zero]
  have ha2 := (ha.same s1).same s2
  refine mulW (i := q.num) (j := r.den) (fun _ => fld_top T.ks (by rfl) ha2) (fun _ => fld_bot T.ks (by rfl) hs) (nat_mono b1.1 (by decide)) (nat_mono b2.den (by decide)) ?_
  refine mulW (i := r.num) (j := q.den) (fun _ => fld_top T.ks (by rfl) hs) (fun _ => fld_bot T.ks (by rfl) ha2) (nat_mono b2.1 (by decide)) (nat_mono b1.den (by decide)) ⟨_, _, rfl, rfl, ?_⟩
  exact k _ (s1.trans s2)
def sp_Share___eq__X (K : Frag) : Sp := fun vs H Q _ => ∃ (a : Addr) (v : V) (q : Rat), vs = [.ref a, v] ∧ ShQ K H a q ∧ ((NoN H v ∧ Q (.bl false) H) ∨ ∃ r, PartQ K H v r ∧ Bd 200 r ∧ ∀ H', Same H H' → Q (.bl (decide (q = r))) H')
def t_Share___eq__X (K : Frag) (w : World) : TS :=
  (tSeq (tIfS (tNot (tB (tFn (sp_is_numberA K) E0 (tCons (tVar 1) tNil)))) (tRet (tC (.bl false))) tNext)
  (tSeq (tAsg (tFn (sp_share_of K) E0 (tCons (tVar 1) tNil)) (gName 2))
  (tRet (tAndV (tOp rEq (tFld K (tVar 0) "kept_top") (tFld K (tVar 2) "kept_top")) (tOp rEq (tFld K (tVar 0) "kept_bottom") (tFld K (tVar 2) "kept_bottom"))))))
def n_Share___eq__X : List Str := ["self", "other", "value"]
theorem rd_Share___eq__X (T : Kx K w) (vs : List V) (H : Hp) (Q : VK) (E : XK) (h : sp_Share___eq__X K vs H Q E) : t_Share___eq__X K w { nx := fun _ H' => Q .non H', rt := Q } (L2.start n_Share___eq__X vs) H := by
  obtain ⟨a, v, q, rfl, ha, h⟩ := h
  unfold t_Share___eq__X n_Share___eq__X
  rw [seq1]
  rcases h with ⟨hn, k⟩ | ⟨r, hv, b2, k⟩
  · refine ⟨_, rfl, v, false, rfl, .inr ⟨rfl, hn⟩, false, rfl, ?_⟩
    try dsimp only
    rw [if_pos (by decide)]
    exact k
  · refine ⟨_, rfl, v, true, rfl, .inl ⟨rfl, r, hv⟩, true, rfl, ?_⟩
    try dsimp only
    rw [if_neg (by decide)]
    change tSeq _ _ _ _ _
    rw [seq1]
    refine ⟨_, rfl, v, r, rfl, hv, b2.mono (by decide), fun s H2 s2 hs => ?_⟩
    try dsimp only
    rw [gName1]
    try dsimp only [List.set_cons_succ, List.set_cons_zero]
    obtain ⟨dx, e1⟩ := ha.same s2
    obtain ⟨dy, e2⟩ := hs
    have fin := k H2 s2
    refine ⟨_, rfl, a, _, dx, _, _, rfl, e1, T.ks.cS, T.ks.nSt, lk1 _ _ _, _, rfl, s, _, dy, _, _, rfl, e2, T.ks.cS, T.ks.nSt, lk1 _ _ _, sc_ii _ _, _, rfl, ?_⟩
    by_cases hn : q.num = r.num
    · rw [if_pos (decide_eq_true (by rw [hn]))]
      refine ⟨_, rfl, a, _, dx, _, _, rfl, e1, T.ks.cS, T.ks.nSb, sh_bot .., _, rfl, s, _, dy, _, _, rfl, e2, T.ks.cS, T.ks.nSb, sh_bot .., sc_ii _ _, ?_⟩
      by_cases hd : q.den = r.den
      · obtain rfl : q = r := Rat.ext hn hd
        rw [decide_eq_true rfl] at fin
        rw [decide_eq_true rfl]
        exact fin
      · rw [decide_eq_false (fun z => hd (by rw [z]))] at fin
        rw [decide_eq_false (fun z => hd (by have := V.int.inj z; omega))]
        exact fin
    · rw [decide_eq_false (fun z => hn (by rw [z]))] at fin
      rw [if_neg (by rw [decide_eq_false (fun z => hn (V.int.inj z))]; decide)]
      exact fin
def sp_Share___ne__X (K : Frag) : Sp := fun vs H Q _ => ∃ (a : Addr) (v : V) (q : Rat), vs = [.ref a, v] ∧ ShQ K H a q ∧ ((NoN H v ∧ Q (.bl true) H) ∨ ∃ r, PartQ K H v r ∧ Bd 200 r ∧ ∀ H', Same H H' → Q (.bl (!decide (q = r))) H')
def t_Share___ne__X (K : Frag) (w : World) : TS :=
  (tSeq (tIfS (tNot (tB (tFn (sp_is_numberA K) E0 (tCons (tVar 1) tNil)))) (tRet (tC (.bl true))) tNext)
  (tSeq (tAsg (tFn (sp_share_of K) E0 (tCons (tVar 1) tNil)) (gName 2))
  (tRet (tOrV (tOp rNe (tFld K (tVar 0) "kept_top") (tFld K (tVar 2) "kept_top")) (tOp rNe (tFld K (tVar 0) "kept_bottom") (tFld K (tVar 2) "kept_bottom"))))))
def n_Share___ne__X : List Str := ["self", "other", "value"]
theorem rd_Share___ne__X (T : Kx K w) (vs : List V) (H : Hp) (Q : VK) (E : XK) (h : sp_Share___ne__X K vs H Q E) : t_Share___ne__X K w { nx := fun _ H' => Q .non H', rt := Q } (L2.start n_Share___ne__X vs) H := by
  obtain ⟨a, v, q, rfl, ha, h⟩ := h
  unfold t_Share___ne__X n_Share___ne__X
  rw [seq1]
  rcases h with ⟨hn, k⟩ | ⟨r, hv, b2, k⟩
  · refine ⟨_, rfl, v, false, rfl, .inr ⟨rfl, hn⟩, false, rfl, ?_⟩
    try dsimp only
    rw [if_pos (by decide)]
    exact k
  · refine ⟨_, rfl, v, true, rfl, .inl ⟨rfl, r, hv⟩, true, rfl, ?_⟩
    try dsimp only
    rw [if_neg (by decide)]
    change tSeq _ _ _ _ _
    rw [seq1]
    refine ⟨_, rfl, v, r, rfl, hv, b2.mono (by decide), fun s H2 s2 hs => ?_⟩
    try dsimp only
    rw [gName1]
    try dsimp only [List.set_cons_succ, List.set_cons_zero]
    obtain ⟨dx, e1⟩ := ha.same s2
    obtain ⟨dy, e2⟩ := hs
    have fin := k H2 s2
    refine ⟨_, rfl, a, _, dx, _, _, rfl, e1, T.ks.cS, T.ks.nSt, lk1 _ _ _, _, rfl, s, _, dy, _, _, rfl, e2, T.ks.cS, T.ks.nSt, lk1 _ _ _, sc_ii _ _, _, rfl, ?_⟩
    by_cases hn : q.num = r.num
    · rw [if_neg (by rw [decide_eq_true (by rw [hn])]; decide)]
      refine ⟨_, rfl, a, _, dx, _, _, rfl, e1, T.ks.cS, T.ks.nSb, sh_bot .., _, rfl, s, _, dy, _, _, rfl, e2, T.ks.cS, T.ks.nSb, sh_bot .., sc_ii _ _, ?_⟩
      by_cases hd : q.den = r.den
      · obtain rfl : q = r := Rat.ext hn hd
        rw [decide_eq_true rfl] at fin
        rw [decide_eq_true rfl]
        exact fin
      · rw [decide_eq_false (fun z => hd (by rw [z]))] at fin
        rw [decide_eq_false (fun z => hd (by have := V.int.inj z; omega))]
        exact fin
    · rw [decide_eq_false (fun z => hn (by rw [z]))] at fin
      rw [if_pos (by rw [decide_eq_false (fun z => hn (V.int.inj z))]; decide)]
      exact fin
def sp_Share___bool__ (K : Frag) : Sp := fun vs H Q _ => ∃ (a : Addr) (q : Rat), vs = [.ref a] ∧ ShQ K H a q ∧ Q (.bl (!decide (q.num = 0))) H
def t_Share___bool__ (K : Frag) (w : World) : TS :=
  (tRet (tCB oBool1 (tCons (tOp rNe (tFld K (tVar 0) "kept_top") (tC (.int 0))) tNil)))
def n_Share___bool__ : List Str := ["self"]
theorem rd_Share___bool__ (T : Ks K w) (vs : List V) (H : Hp) (Q : VK) (E : XK) (h : sp_Share___bool__ K vs H Q E) : t_Share___bool__ K w { nx := fun _ H' => Q .non H', rt := Q } (L2.start n_Share___bool__ vs) H := by
  obtain ⟨a, q, rfl, ⟨dx, ha⟩, k⟩ := h
  unfold t_Share___bool__ n_Share___bool__
  have e : (!decide (V.int q.num = V.int 0)) = !decide (q.num = 0) := by
    congr 1
    exact decide_eq_decide.mpr ⟨fun z => V.int.inj z, fun z => by rw [z]⟩
  refine ⟨_, rfl, a, _, dx, _, _, rfl, ha, T.cS, T.nSt, lk1 _ _ _, sc_ii _ _, .inr ⟨_, rfl, ?_⟩⟩
  rw [e]
  exact k
end
end Tw
/-! Tw: o[i] = v of a class with its own method for it; signs in a text, str of a text, upper: readings with names -/
namespace Tw
open PySem PySem.Spec PyProof.Rows L2
section
variable {X : Cx} {CX : CXT} {k : Nat} {C g : Addr} {sp : Sp} {E : XK}
def rInSg : R2 := fun x y H Q => ∃ (c : Nat) (z : PySem.Str), x = .str ⟨#[c]⟩ ∧ y = .str z ∧ Q (.bl (decide (c ∈ z.cps.toList))) H
theorem op_inSg : OpR X (compareOp .In) rInSg := op_in_sign
theorem pe_methR0 {m : PySem.Str} {o : Expr} {ta : TE} {apos pos : Pos} {pl : Sem Bool} (he : PE X o ta) (c : Cls X.K C) (hm : Meth X.K C m g)
    (F : FnR X.prog X.w X.K X.mg X.base CX k g sp) (hr : Room k X.A) (hx : Passes CX X E)
    (ht : eval (.Call (.Attribute o m apos) [] [] pos) X.env = (do
      let ov ← eval o X.env
      standAt apos.atName
      let (f, first) ← holding [ov] (getMethod ov m pl)
      callWith pos f first (backTo pos (starEach [] X.env)) (backToKw pos (keywordEach [] X.env))) := by rfl) :
    PE X (.Call (.Attribute o m apos) [] [] pos) (tMethR C m sp E ta tNil) := by
  refine ⟨fun pins s σ H Q I h => ?_⟩
  refine PySem.W.methodCall_KW (pl := pl) (thn (he.run pins s σ H _ I h) fun u s1 ⟨x, H1, I1, rx, a, dx, fs, ex, ea, l, q⟩ => ?_) ht
  subst ex
  obtain rfl : u = Value.ref a := rx
  refine getmeth_ok I1 ea c hm l ?_
  refine PySem.W.callWith_K0 (first := [.ref a]) I1.kIn hm.kp ?_
  exact wpAny_call (run_fnR (us := [.ref a]) (vs := [.ref a]) F hr hx I1 (.cons rfl .nil) q)
end
end Tw
/-! Tw: words in digits; shares read from texts -/
namespace Tw
open PySem PySem.Spec PyProof.Rows L2 He TwM StX LamX
open PySem.W (Frag)
open TL (tl)
local macro_rules | `(tactic| walk_at "rsl") => `(tactic| simp only [*, at3_0, at3_1, at3_2, at2_0, at2_1, updS, upd_two, gSub, L2.rSetL, updN, tPar, tPar3, gTup, gCons, gNil, and_assoc, not_true_eq_false, not_false_eq_true, tNever, List.length_map, tFld, rIxTH, rIxLH, rLenTH, rLenLH, lk1, lfs_g, lfs_s, lfs_p, HO.ins.injEq, HO.tup.injEq, HO.lst.injEq, sp_Book_rounding, sp_Book_action, sp_Book_order, sp_Book_due, sp_Book_zero, sp_Book_beyond, Int.toNat_natCast, sp_visit_after, sp_is_visited, sp_Level_grain, sp_Level_slots, sp_Level_span, sp_Wheel_reach, sp_Wheel___len__, sp_is_integer, sp_is_count, sp_is_within, sp_rounded, tAsg, gName, tVar, tC, tOp, rI, rI0, rU, tUn, oAdd, oSub, oMul, oDiv, oMod, oNeg, oLt, oLe, oGt, oGe, oIsN, oNotN, tFn, tCons, tNil, tIfS, tIf, tTest, tB, tNot, tAnd, tOr, tAndV, tOrV, tNotV,
    tRet, tRetN, tNext, tCB, tDrop, tChain, rEq, rNe, oMax2, oMin2, oInt1, rLenF, L2.start, List.map_cons, List.map_nil, List.length_cons, List.length_nil, List.replicate_succ, List.replicate_zero, List.cons_append, List.nil_append, Nat.reduceAdd, Nat.reduceSub, Nat.zero_add,
    List.set_cons_zero, List.set_cons_succ, List.getElem?_cons_zero, List.getElem?_cons_succ, Option.some.injEq, V.int.injEq, V.ref.injEq, V.str.injEq, V.bl.injEq, exists_eq_left', exists_eq_left, exists_and_left, List.cons.injEq, and_true, true_and, decide_eq_true_eq, sc_ii, sc_ss, sc_bb, sc_ni, sc_in, sc_nn, sc_is, reduceCtorEq,
    Bool.not_eq_true', decide_eq_false_iff_not, if_true, if_false, Bool.false_eq_true, exists_eq', exists_const, false_and, and_false, or_false, false_or, exists_false, Bool.not_not, Bool.not_true, Bool.not_false, sUp_up, sFire_fire, sHigh_high, sPut_put, sZone_now, sBey_refuse, sBey_cut, tTup, tLst, sz0, sz1, sz2, sz3, sz4, sz5, sz6])
local macro_rules | `(tactic| walk_at "st") => `(tactic| ((try dsimp only); rw [seq1]; walk_at "rsl"))
section
variable {K : Frag} {w : World}
theorem lc_sg2 {i j : Nat} {z y : Str} {σ : L2.St} {H : Hp} {Q : VK} (hσ : σ[i]? = some (some (V.str z))) (hj : j < σ.length) (hz : z.length ≤ 1000000)
    (q : ∀ L, H L = none → Q (.ref L) (upd H L (.lst ((z.cps.toList.map fun c => decide (c ∈ y.cps.toList)).map V.bl)))) : tLc (iStr (tVar i)) (gName j) tYes (tOp rInSg (tVar j) (tC (.str y))) [j] σ H Q := by
  have hlen : z.cps.size = z.cps.toList.length := by simp
  refine ⟨_, hσ, z, rfl, fun L hL => lc_it walk_str (fun k H' => H' = upd H L (.lst (((z.cps.toList.take k).map fun c => decide (c ∈ y.cps.toList)).map V.bl))) rfl (fun k H' _ z => trivial) ?_ fun H' z => ?_⟩
  · rintro k x H1 H2 hk1 rfl ⟨rfl, c, e1, rfl⟩
    have hw : wipe ((wipe σ [j]).set j (some (.str ⟨#[c]⟩))) [j] = wipe σ [j] := by
      show ((σ.set j none).set j (some (.str ⟨#[c]⟩))).set j none = σ.set j none
      rw [List.set_set, List.set_set]
    refine ⟨hw, ?_⟩
    have hkn : k < z.cps.toList.length := by omega
    have e2 : z.cps.toList[k] = c := by
      have := List.getElem?_eq_getElem hkn
      rw [Array.getElem?_toList, e1] at this
      exact (Option.some.inj this).symm
    have e3 : ((wipe σ [j]).set j (some (V.str ⟨#[c]⟩)))[j]? = some (some (V.str ⟨#[c]⟩)) := by
      show ((σ.set j none).set j (some (V.str ⟨#[c]⟩)))[j]? = _
      rw [List.getElem?_set_self (by rw [List.length_set]; exact hj)]
    simp only [tYes, if_true]
    refine ⟨_, e3, c, y, rfl, rfl, ?_⟩
    refine ⟨_, upd_same, ?_, ?_⟩
    · rw [List.length_map, List.length_map, List.length_take]
      have h1 : z.cps.toList.length = z.length := by simp [Str.length]
      show _ < 16777216
      omega
    · rw [List.take_add_one, List.getElem?_eq_getElem hkn, upd_two, List.map_append, List.map_append, e2]
      rfl
  · subst z
    rw [hlen, List.take_length]
    exact q L hL
theorem tl_cut1 (z : Str) : tl (cutS z none (some 1)) = (tl z).take 1 := by
  have e : tl (cutS z none (some 1)) = ((tl z).drop (HT.sIx z.length 0 none)).take (HT.sIx z.length z.length (some 1) - HT.sIx z.length 0 none) := rfl
  have e1 : HT.sIx z.length 0 none = 0 := rfl
  have e2 : HT.sIx z.length z.length (some 1) = min 1 z.length := by
    unfold HT.sIx
    dsimp only
    rw [if_neg (by decide)]
    rfl
  rw [e, e1, e2, List.drop_zero, Nat.sub_zero, TL.len_tl]
  cases tl z with
  | nil => rfl
  | cons c r => rw [List.length_cons, Nat.min_eq_left (by omega)]
theorem tl_cut2 (z : Str) : tl (cutS z (some 1) none) = (tl z).drop 1 := by
  have e : tl (cutS z (some 1) none) = ((tl z).drop (HT.sIx z.length 0 (some 1))).take (HT.sIx z.length z.length none - HT.sIx z.length 0 (some 1)) := rfl
  have e1 : HT.sIx z.length 0 (some 1) = min 1 z.length := by
    unfold HT.sIx
    dsimp only
    rw [if_neg (by decide)]
    rfl
  have e2 : HT.sIx z.length z.length none = z.length := rfl
  rw [e, e1, e2, TL.len_tl]
  cases tl z with
  | nil => rfl
  | cons c r =>
    rw [List.length_cons, Nat.min_eq_left (by omega)]
    exact List.take_of_length_le (by simp)
theorem tl_min : tl ("-" : Str) = [45] := by decide +kernel
def figT (z : Str) : Str := if cutS z none (some 1) = "-" then cutS z (some 1) none else z
theorem tl_fig (z : Str) : tl (figT z) = figs (tl z) := by
  unfold figT
  by_cases h : cutS z none (some 1) = "-"
  · rw [if_pos h, tl_cut2]
    have e := congrArg tl h
    rw [tl_cut1, tl_min] at e
    cases hz : tl z with
    | nil => rw [hz] at e; cases e
    | cons c r =>
      rw [hz] at e
      injection e with e _
      subst e
      rfl
  · rw [if_neg h]
    rcases fig_cases (tl z) with ⟨r, e, _, _⟩ | ⟨e, _, _⟩
    · exact absurd (TL.ext_tl (by rw [tl_cut1, tl_min, e]; rfl)) h
    · exact e.symm
theorem fig_len (z : Str) : (figT z).length ≤ z.length := by
  rw [TL.len_tl, TL.len_tl, tl_fig]
  rcases fig_cases (tl z) with ⟨r, e, f, _⟩ | ⟨e, _, _⟩
  · rw [f, e]; simp
  · rw [e]; exact Nat.le_refl _
def wrB (z : Str) : Bool := (!decide (figT z = "") && decide ((figT z).length ≤ 200)) && (figT z).cps.toList.all fun c => decide (c ∈ ("0123456789" : Str).cps.toList)
theorem dig_iff (c : Nat) : c ∈ ("0123456789" : Str).cps.toList ↔ 48 ≤ c ∧ c ≤ 57 := by
  have e : ("0123456789" : Str).cps.toList = [48, 49, 50, 51, 52, 53, 54, 55, 56, 57] := by decide +kernel
  rw [e]
  simp only [List.mem_cons, List.not_mem_nil, or_false]
  omega
theorem wrB_iff (z : Str) : wrB z = true ↔ WrL (tl z) := by
  have hf := tl_fig z
  unfold wrB
  rw [Bool.and_eq_true, Bool.and_eq_true, Bool.not_eq_true', decide_eq_false_iff_not, decide_eq_true_eq, List.all_eq_true]
  constructor
  · rintro ⟨⟨h1, h2⟩, h3⟩
    refine ⟨fun e => h1 (TL.ext_tl (by rw [hf, e]; decide +kernel)), by rw [← hf, ← TL.len_tl]; exact h2, fun c hc => (dig_iff c).mp (of_decide_eq_true (h3 c (by rw [← hf] at hc; exact hc)))⟩
  · rintro ⟨h1, h2, h3⟩
    refine ⟨⟨fun e => h1 (by rw [← hf, e]; decide +kernel), by rw [TL.len_tl, hf]; exact h2⟩, fun c hc => decide_eq_true ((dig_iff c).mpr (h3 c (by rw [← hf]; exact hc)))⟩
theorem or2 {c d : TT} {A B : TS} {D : Ends} {σ : L2.St} {H : Hp} (b : Bool) (hc : ∀ Q : Bool → Hp → Prop, Q b H → c σ H Q) (h1 : b = true → A D σ H) (h0 : b = false → tIfS d A B D σ H) : tIfS (tOr c d) A B D σ H := by
  refine hc _ ?_
  cases b with
  | true => exact h1 rfl
  | false => exact h0 rfl
theorem if2 {c : TT} {A B : TS} {D : Ends} {σ : L2.St} {H : Hp} (b : Bool) (hc : ∀ Q : Bool → Hp → Prop, Q b H → c σ H Q) (h1 : b = true → A D σ H) (h0 : b = false → B D σ H) : tIfS c A B D σ H := by
  refine hc _ ?_
  cases b with
  | true => exact h1 rfl
  | false => exact h0 rfl
theorem if2S {c : TT} {A B : TS} {D : Ends} {σ : L2.St} {H : Hp} (b : Bool) (hc : ∀ Q : Bool → Hp → Prop, (∀ H', Same H H' → Q b H') → c σ H Q) (h1 : b = true → ∀ H', Same H H' → A D σ H') (h0 : b = false → ∀ H', Same H H' → B D σ H') : tIfS c A B D σ H := by
  refine hc _ fun H' s => ?_
  cases b with
  | true => exact h1 rfl H' s
  | false => exact h0 rfl H' s
def sp_is_written (K : Frag) : Sp := fun vs H Q _ => ∃ z : Str, vs = [.str z] ∧ z.length ≤ 1000 ∧ ∀ H', Same H H' → Q (.bl (wrB z)) H'
def t_is_written (K : Frag) (w : World) : TS :=
  (tSeq (tAsg (tIf (tTest (tOp rEq (tSl rSlS (tVar 0) tNoPart (tPart (tC (.int 1)))) (tC (.str "-")))) (tSl rSlS (tVar 0) (tPart (tC (.int 1))) tNoPart) (tVar 0)) (gName 1))
  (tSeq (tIfS (tOr (tTest (tOp rEq (tVar 1) (tC (.str "")))) (tTest (tOp oGt (tCB oLenS (tCons (tVar 1) tNil)) (tC (.int 200))))) (tRet (tC (.bl false))) tNext)
  (tRet (tCB (rAll K) (tCons (tLc (iStr (tVar 1)) (gName 2) tYes (tOp rInSg (tVar 2) (tC (.str "0123456789"))) [2]) tNil)))))
def n_is_written : List Str := ["word", "digits", "sign"]
theorem rd_is_written (vs : List V) (H : Hp) (Q : VK) (E : XK) (h : sp_is_written K vs H Q E) : t_is_written K w { nx := fun _ H' => Q .non H', rt := Q } (L2.start n_is_written vs) H := by
  obtain ⟨z, rfl, hl, q⟩ := h
  have hz : sizeLine = 16777216 := rfl
  have hfl := fig_len z
  unfold t_is_written n_is_written
  rw [seq1]
  have key : ∀ f : Str, f = figT z → tSeq (tIfS (tOr (tTest (tOp rEq (tVar 1) (tC (.str "")))) (tTest (tOp oGt (tCB oLenS (tCons (tVar 1) tNil)) (tC (.int 200))))) (tRet (tC (.bl false))) tNext)
      (tRet (tCB (rAll K) (tCons (tLc (iStr (tVar 1)) (gName 2) tYes (tOp rInSg (tVar 2) (tC (.str "0123456789"))) [2]) tNil))) { nx := fun _ H' => Q .non H', rt := Q } [some (.str z), some (.str f), none] H := by
    intro f hf
    subst hf
    rw [seq1]
    have e0 : wrB z = ((!decide (figT z = "") && decide ((figT z).length ≤ 200)) && (figT z).cps.toList.all fun c => decide (c ∈ ("0123456789" : Str).cps.toList)) := rfl
    have ez : (decide (V.str (figT z) = V.str "")) = decide (figT z = "") := decide_eq_decide.mpr ⟨fun e => V.str.inj e, fun e => by rw [e]⟩
    refine or2 (decide (figT z = "")) (fun Q' hq => ⟨_, rfl, rfl, _, rfl, by rw [ez]; exact hq⟩) (fun h1 => ?_) (fun h1 => ?_)
    · have := q H (Same.refl _)
      rw [e0, h1] at this
      exact this
    · refine if2 (!decide ((figT z).length ≤ 200)) (fun Q' hq => ⟨_, rfl, figT z, rfl, by omega, _, _, rfl, rfl, _, rfl, ?_⟩) (fun h2 => ?_) (fun h2 => ?_)
      · have e : (!decide ((figT z).length ≤ 200)) = decide (((figT z).length : Int) > 200) := by
          by_cases h2 : (figT z).length ≤ 200
          · rw [decide_eq_true h2, decide_eq_false (by omega)]; rfl
          · rw [decide_eq_false h2, decide_eq_true (by omega)]; rfl
        rw [e] at hq
        exact hq
      · have := q H (Same.refl _)
        have h2 : decide ((figT z).length ≤ 200) = false := by rw [← Bool.not_eq_true', h2]
        rw [e0, h1, h2] at this
        exact this
      · have h2 : decide ((figT z).length ≤ 200) = true := by
          cases hh : decide ((figT z).length ≤ 200) with
          | true => rfl
          | false => rw [hh] at h2; cases h2
        show tRet (tCB (rAll K) (tCons (tLc (iStr (tVar 1)) (gName 2) tYes (tOp rInSg (tVar 2) (tC (.str "0123456789"))) [2]) tNil)) { nx := fun _ H' => Q .non H', rt := Q } [some (.str z), some (.str (figT z)), none] H
        unfold tRet tCB tCons tNil
        dsimp only
        refine lc_sg2 (z := figT z) (y := "0123456789") rfl (show 2 < 3 by decide) (by omega) fun L hL => ⟨L, _, rfl, SqL.of (updS _ _ _), ?_⟩
        have := q _ (Same.new (o := .lst (((figT z).cps.toList.map fun c => decide (c ∈ ("0123456789" : Str).cps.toList)).map V.bl)) hL)
        rw [e0, h1, h2] at this
        rw [List.all_map]
        exact this
  have ec : (decide (V.str (cutS z none (some 1)) = V.str "-")) = decide (cutS z none (some 1) = "-") := decide_eq_decide.mpr ⟨fun e => V.str.inj e, fun e => by rw [e]⟩
  unfold tSl tPart tNoPart rSlS
  walk_at "rsl"
  refine ⟨by omega, ?_⟩
  by_cases h : cutS z none (some 1) = "-"
  · rw [if_pos h]
    exact ⟨by omega, key _ (by unfold figT; rw [if_pos h])⟩
  · rw [if_neg h]
    exact key _ (by unfold figT; rw [if_neg h])
theorem wipe2 {σ : L2.St} {j : Nat} {x : V} : wipe ((wipe σ [j]).set j (some x)) [j] = wipe σ [j] := by
  show ((σ.set j none).set j (some x)).set j none = σ.set j none
  rw [List.set_set, List.set_set]
theorem lcL2 {td te : TE} {j : Nat} {a : Addr} {xs F : List V} {σ : L2.St} {H : Hp} {Q : VK} (hF : F.length = xs.length) (hd : ∀ R : VK, R (.ref a) H → td σ H R) (hz : xs.length ≤ 1000000) (hl : ∀ H', Same H H' → SqL K H' a xs)
    (st : ∀ (k : Nat) (x y : V) (H' : Hp) (R : VK), xs[k]? = some x → F[k]? = some y → Same H H' → (∀ H'', Same H' H'' → R y H'') → te ((wipe σ [j]).set j (some x)) H' R)
    (q : ∀ D H', Same H H' → H' D = some (.lst F) → Q (.ref D) H') : tLc (iList K td) (gName j) tYes te [j] σ H Q := by
  refine hd _ ⟨a, rfl, ⟨xs, hl H (Same.refl _)⟩, fun D hD => lc_list (K := K) (a := a) (xs := xs) (fun k H' => Same H H' ∧ H' D = some (.lst (F.take k))) ⟨Same.new hD, upd_same⟩ (fun k H' _ z => hl H' z.1) ?_ ?_⟩
  · rintro k x H1 hx ⟨s1, h1⟩
    have hk := (List.getElem?_eq_some_iff.mp hx).1
    obtain ⟨y, hy⟩ : ∃ y, F[k]? = some y := ⟨_, List.getElem?_eq_getElem (by omega)⟩
    rw [gName1]
    refine ⟨wipe2, ?_⟩
    unfold tYes
    dsimp only
    rw [if_pos rfl]
    refine st k x y H1 _ hx hy s1 fun H2 s2 => ⟨_, s2 _ _ h1, ?_, Same.updN (s1.trans s2) hD, by rw [upd_same, List.take_add_one, hy]; rfl⟩
    rw [List.length_take]
    have : sizeLine = 16777216 := rfl
    omega
  · rintro H1 ⟨s1, h1⟩
    rw [← hF, List.take_length] at h1
    exact q D H1 s1 h1
theorem int_word {z : Str} (h : WrL (tl z)) : PySem.intText? z = some (vlL (tl z)) ∧ z.length ≤ 201 := by
  rcases fig_cases (tl z) with ⟨r, e, hf, hv⟩ | ⟨hf, hv, _⟩
  · have ne := h.ne
    have hl := h.len
    have hd := h.dig
    rw [hf] at ne hl hd
    have hz : z.length ≤ 201 := by rw [TL.len_tl, e, List.length_cons]; omega
    exact ⟨by rw [hv]; exact PySem.intText_neg e hd ne (by omega), hz⟩
  · have ne := h.ne
    have hl := h.len
    have hd := h.dig
    rw [hf] at ne hl hd
    have hz : z.length ≤ 201 := by rw [TL.len_tl]; omega
    exact ⟨by rw [hv]; exact PySem.intText_digits hd ne (by omega), hz⟩
theorem tl_txt (q : Rat) : tl (txtQ q) = shL q := by
  unfold txtQ shL
  by_cases h : q.den = 1
  · rw [if_pos (by omega), if_pos h]
    exact tl_numS q.num
  · rw [if_neg (by omega), if_neg h]
    have e : tl ("/" : Str) = [47] := by decide +kernel
    rw [TL.tl_append, TL.tl_append, e]
    show tl (numS q.num) ++ [47] ++ tl (numS (q.den : Int)) = _
    rw [tl_numS, tl_numS]
    simp
theorem vl_bd {z : Str} (h : WrL (tl z)) : (vlL (tl z)).natAbs < 2 ^ 700 := by
  have key : ∀ cs : List Nat, NumText.AllDigits cs → cs.length ≤ 200 → NumText.digitsVal cs < 2 ^ 700 := fun cs hd hl => by
    have k3 : ∀ (cs : List Nat) (a : Nat), NumText.AllDigits cs → cs.foldl (fun acc c => acc * 10 + (c - 48)) a < (a + 1) * 10 ^ cs.length := fun cs => by
      induction cs with
      | nil => intro a _; show a < (a + 1) * 1; omega
      | cons c cs ih =>
        intro a hd
        have h1 := ih (a * 10 + (c - 48)) hd.tail
        have h2 := hd.head
        have h3 : (a * 10 + (c - 48) + 1) * 10 ^ cs.length ≤ ((a + 1) * 10) * 10 ^ cs.length := Nat.mul_le_mul_right _ (by omega)
        rw [List.foldl_cons, List.length_cons, Nat.pow_succ, Nat.mul_comm (10 ^ cs.length) 10, ← Nat.mul_assoc]
        omega
    have k2 : ∀ (cs : List Nat), NumText.AllDigits cs → NumText.digitsVal cs < 10 ^ cs.length := fun cs hd => by
      have := k3 cs 0 hd
      rw [Nat.zero_add, Nat.one_mul] at this
      exact this
    have h1 := k2 cs hd
    have h2 : (10 : Nat) ^ cs.length ≤ 10 ^ 200 := Nat.pow_le_pow_right (by decide) hl
    have h3 : (10 : Nat) ^ 200 < 2 ^ 700 := by decide +kernel
    omega
  rcases fig_cases (tl z) with ⟨r, e, hf, hv⟩ | ⟨hf, hv, _⟩
  · rw [hv, Int.natAbs_neg, Int.natAbs_natCast]
    have hl := h.len
    have hd := h.dig
    rw [hf] at hl hd
    exact key r hd hl
  · rw [hv, Int.natAbs_natCast]
    have hl := h.len
    have hd := h.dig
    rw [hf] at hl hd
    exact key _ hd hl
def frQ (t : Str) : Option Rat := match Txt.split t "/" with
  | [p] => if wrB p = true ∧ txtQ (Rat.divInt (vlL (tl p)) 1) = t then some (Rat.divInt (vlL (tl p)) 1) else none
  | [p, q] => if wrB p = true ∧ wrB q = true ∧ vlL (tl q) ≠ 0 ∧ txtQ (Rat.divInt (vlL (tl p)) (vlL (tl q))) = t then some (Rat.divInt (vlL (tl p)) (vlL (tl q))) else none
  | _ => none
theorem split_ne (t : Str) : Txt.split t "/" ≠ [] := by
  have hk : ¬ Builtin.Str.strKind t < Builtin.Str.strKind ("/" : Str) := TL.kind_ok (by decide +kernel)
  have es : tl ("/" : Str) = [47] := by decide +kernel
  have e := TL.split_spl t "/" (by rw [es]; simp) hk
  have ne : ∀ (xs b : List Nat), TL.spl [47] 0 b xs ≠ [] := by
    intro xs
    induction xs with
    | nil => intro b z; rw [TL.spl_nil] at z; cases z
    | cons y ys ih =>
      intro b z
      by_cases h2 : TL.pre [47] (y :: ys) = true
      · rw [TL.spl_hit h2] at z; cases z
      · rw [TL.spl, if_neg h2] at z
        exact ih _ z
  intro z
  rw [z, es] at e
  exact ne _ _ e.symm
theorem split_len {t : Str} {n : Nat} (h : t.length ≤ n) : ∀ z ∈ Txt.split t "/", z.length ≤ n := fun z hz => by
  have hk : ¬ Builtin.Str.strKind t < Builtin.Str.strKind ("/" : Str) := TL.kind_ok (by decide +kernel)
  have es : tl ("/" : Str) = [47] := by decide +kernel
  have e := TL.split_spl t "/" (by rw [es]; simp) hk
  rw [es] at e
  have len : ∀ (xs acc : List Nat), ∀ p ∈ TL.spl [47] 0 acc xs, p.length ≤ acc.length + xs.length := by
    intro xs
    induction xs with
    | nil =>
      intro acc p hp
      rw [TL.spl_nil, List.mem_singleton] at hp
      subst hp
      simp
    | cons x xs ih =>
      intro acc p hp
      by_cases h : TL.pre [47] (x :: xs) = true
      · rw [TL.spl_hit h] at hp
        rcases List.mem_cons.mp hp with rfl | hp
        · exact Nat.le_add_right _ _
        · have := ih [] p hp
          simp only [List.length_nil, List.length_cons] at *
          omega
      · rw [TL.spl, if_neg h] at hp
        have := ih _ p hp
        simp only [List.length_append, List.length_cons, List.length_nil] at *
        omega
  have := len (tl t) [] (tl z) (by rw [← e]; exact List.mem_map_of_mem hz)
  rw [TL.len_tl]
  rw [TL.len_tl] at h
  simp only [List.length_nil, Nat.zero_add] at this
  omega
theorem all_wr {i j l : Nat} {a : Addr} {ps : List Str} {σ : L2.St} {H : Hp} {Q : VK} (hi : σ[i]? = some (some (.ref a))) (ha : H a = some (.lst (ps.map V.str))) (hj : j < σ.length) (hp : ∀ z ∈ ps, z.length ≤ 1000) (hl : ps.length ≤ 1000000)
    (q : ∀ H', Same H H' → Q (.bl (ps.all wrB)) H') : tCB (rAll K) (tCons (tLc (iList K (tVar i)) (gName j) tYes (tFn (sp_is_written K) E0 (tCons (tVar j) tNil)) [j]) tNil) σ H Q := by
  show tLc (iList K (tVar i)) (gName j) tYes (tFn (sp_is_written K) E0 (tCons (tVar j) tNil)) [j] σ H (fun x H1 => rAll K [x] H1 Q)
  refine lcL2 (K := K) (td := tVar i) (te := tFn (sp_is_written K) E0 (tCons (tVar j) tNil)) (a := a) (xs := ps.map V.str) (F := (ps.map wrB).map V.bl) (by simp) (fun R h => ⟨_, hi, h⟩) (by rw [List.length_map]; exact hl) (fun H' s => SqL.of (s _ _ ha)) (fun k x y H' R hx hy s hR => ?_) (fun D H' s hD => ?_)
  · rw [List.getElem?_map] at hx
    rw [List.getElem?_map, List.getElem?_map] at hy
    cases e : ps[k]? with
    | none => rw [e] at hx; cases hx
    | some z =>
      rw [e] at hx hy
      cases hx
      cases hy
      refine ⟨_, ?_, z, rfl, hp z (List.mem_of_getElem? e), fun H'' s2 => hR H'' s2⟩
      show ((σ.set j none).set j (some (V.str z)))[j]? = _
      rw [List.getElem?_set_self (by rw [List.length_set]; exact hj)]
  · refine ⟨D, _, rfl, SqL.of hD, ?_⟩
    have := q H' s
    rw [List.all_map]
    exact this
def sp_Share_from_textR (K : Frag) : Sp := fun vs H Q E => ∃ (x : V) (d : PyData), vs = [.ref (ga K "Share"), x] ∧ Ov H x d ∧ (∀ t, x = .str t → t.length ≤ 1000 ∧ frQ t = none) ∧ ∀ H' dd, Same H H' → H' dd = none → E (.ref (ga K "InvalidText")) (some dd) (upd H' dd (.xd [("value", x)]))
def t_Share_from_textR (K : Frag) (w : World) (E : XK) : TS :=
  (tSeq (tIfS (tNot (tB (tCB (rIsi K) (tCons (tVar 1) (tCons (tC (.ty "str")) tNil))))) (tRz E (ga K "InvalidText") "value" (tVar 1)) tNext)
  (tSeq (tAsg (tM1 oSplit (tVar 1) (tC (.str "/"))) (gName 2))
  (tSeq (tIfS (tOr (tTest (tOp oGt (tCB rLenLH (tCons (tVar 2) tNil)) (tC (.int 2)))) (tNot (tB (tCB (rAll K) (tCons (tLc (iList K (tVar 2)) (gName 3) tYes (tFn (sp_is_written K) E0 (tCons (tVar 3) tNil)) [3]) tNil))))) (tRz E (ga K "InvalidText") "value" (tVar 1)) tNext)
  (tSeq (tAsg (tMakeL 0 (ga K "Share") (sp_Share___init__ K) [.int 1] E0 (tCons (tCB oIntS (tCons (tOp rIxLH (tVar 2) (tC (.int 0))) tNil)) tNil)) (gName 4))
  (tSeq (tIfS (tTest (tOp rEq (tCB rLenLH (tCons (tVar 2) tNil)) (tC (.int 2)))) (tSeq (tIfS (tTest (tOp rEq (tCB oIntS (tCons (tOp rIxLH (tVar 2) (tC (.int 1))) tNil)) (tC (.int 0)))) (tRz E (ga K "InvalidText") "value" (tVar 1)) tNext)
  (tAsg (tMakeLR 0 (ga K "Share") (sp_Share___init__ K) E0 (tCons (tCB oIntS (tCons (tOp rIxLH (tVar 2) (tC (.int 0))) tNil)) (tCons (tCB oIntS (tCons (tOp rIxLH (tVar 2) (tC (.int 1))) tNil)) tNil))) (gName 4))) tNext)
  (tSeq (tIfS (tTest (tOp rNe (tFn (sp_Share_text K) E0 (tCons (tVar 4) tNil)) (tVar 1))) (tRz E (ga K "InvalidText") "value" (tVar 1)) tNext)
  (tRet (tVar 4))))))))
def n_Share_from_textR : List Str := ["cls", "text", "parts", "part", "found"]
theorem rd_Share_from_textR (T : Ks K w) (vs : List V) (H : Hp) (Q : VK) (E : XK) (h : sp_Share_from_textR K vs H Q E) : t_Share_from_textR K w E { nx := fun _ H' => Q .non H', rt := Q } (L2.start n_Share_from_textR vs) H := by
  obtain ⟨x, d, rfl, ho, hf, hE⟩ := h
  unfold t_Share_from_textR n_Share_from_textR tM1 oSplit rNewStrs
  rw [seq1]
  walk_at "rsl"
  refine ho.isS ⟨_, rfl, ?_⟩
  cases z : strD d with
  | false => exact ⟨_, rfl, fun dd hdd => hE H dd (Same.refl _) hdd⟩
  | true =>
  obtain ⟨t, rfl, _⟩ := ho.str z
  obtain ⟨hlen, hfr⟩ := hf t rfl
  rw [if_neg Bool.noConfusion, seq1]
  walk_at "rsl"
  refine ⟨rfl, (by have : sizeLine = 16777216 := rfl; omega), fun l hl => ?_⟩
  have s0 := Same.new (o := .lst ((Txt.split t "/").map V.str)) hl
  have g0 := updS H l (.lst ((Txt.split t "/").map V.str))
  have hne := split_ne t
  have hsl := split_len hlen
  unfold frQ at hfr
  generalize Txt.split t "/" = ps at *
  generalize upd H l (.lst (ps.map V.str)) = H1 at *
  rw [seq1]
  have ln : ((ps.map V.str).length : Int) = (ps.length : Int) := by rw [List.length_map]
  refine or2 (decide ((ps.length : Int) > 2)) (fun Q' hq => ⟨_, rfl, l, _, rfl, g0, _, _, rfl, rfl, _, rfl, by rw [ln]; exact hq⟩) (fun _ => ⟨_, rfl, fun dd hdd => hE H1 dd s0 hdd⟩) (fun h3 => ?_)
  have h3 : ps.length ≤ 2 := by have := of_decide_eq_false h3; omega
  refine if2S (!ps.all wrB) (fun Q' hq => all_wr (l := l) rfl g0 (show 3 < 5 by decide) hsl (by omega) fun H' s => ⟨_, rfl, hq H' s⟩) (fun hw H2 s2 => ?_) (fun hw H2 s2 => ?_)
  · exact ⟨_, rfl, fun dd hdd => hE H2 dd (s0.trans s2) hdd⟩
  have hw : ps.all wrB = true := by
    cases e : ps.all wrB with
    | true => rfl
    | false => rw [e] at hw; cases hw
  have s02 := s0.trans s2
  have g2 := s2 _ _ g0
  have hall := List.all_eq_true.mp hw
  obtain ⟨p, r, rfl⟩ : ∃ p r, ps = p :: r := by
    cases ps with
    | nil => exact absurd rfl hne
    | cons p r => exact ⟨p, r, rfl⟩
  have wp := (wrB_iff p).mp (hall p List.mem_cons_self)
  obtain ⟨ip, lp⟩ := int_word wp
  have bp := vl_bd wp
  change tSeq _ _ _ _ _
  rw [seq1]
  have at0 : atI ((p :: r).map V.str) 0 = some (V.str p) := atI_nat (j := 0) rfl
  refine ⟨rfl, _, rfl, l, _, 0, _, rfl, rfl, g2, at0, p, _, rfl, ip, by omega, fun x dx hx hdx hne => ?_⟩
  refine sh_make (Q := fun v H3 => gName 4 v _ H3 _) (by decide) (nat_mono bp (by decide)) (by decide) (fun a H3 s3 hS => ?_) x dx hx hdx
  have s03 := s02.trans s3
  have g3 := s3 _ _ g2
  rw [gName1]
  simp only [L2.start, List.map_cons, List.map_nil, List.length_cons, List.length_nil, Nat.reduceAdd, Nat.reduceSub, List.replicate_succ, List.replicate_zero, List.cons_append, List.nil_append, List.set_cons_zero, List.set_cons_succ]
  have fin : ∀ (b : Addr) (q : Rat) (H4 : Hp), Same H H4 → ShQ K H4 b q → Bd 900 q → txtQ q ≠ t → tSeq (tIfS (tTest (tOp rNe (tFn (sp_Share_text K) E0 (tCons (tVar 4) tNil)) (tVar 1))) (tRz E (ga K "InvalidText") "value" (tVar 1)) tNext) (tRet (tVar 4)) { nx := fun _ H' => Q .non H', rt := Q }
      [some (.ref (ga K "Share")), some (.str t), some (.ref l), none, some (.ref b)] H4 := fun b q H4 s4 hb bd ht => by
    rw [seq1]
    refine if2 true (fun Q' hq => ⟨_, rfl, b, q, rfl, hb, bd, _, rfl, rfl, _, rfl, ?_⟩) (fun _ => ⟨_, rfl, fun dd hdd => hE H4 dd s4 hdd⟩) (fun z => by cases z)
    rw [decide_eq_false (fun e => ht (V.str.inj e))]
    exact hq
  rw [seq1]
  cases r with
  | nil =>
    refine if2 false (fun Q' hq => ⟨_, rfl, l, _, rfl, g3, rfl, _, rfl, hq⟩) (fun z => by cases z) (fun _ => ?_)
    refine fin a _ H3 s03 hS (bd_div (by decide) (nat_mono bp (by decide)) (by decide)) fun e => ?_
    have hfr : (if wrB p = true ∧ txtQ (Rat.divInt (vlL (tl p)) 1) = t then some (Rat.divInt (vlL (tl p)) 1) else none) = none := hfr
    rw [if_pos ⟨hall p List.mem_cons_self, e⟩] at hfr
    cases hfr
  | cons q r =>
    cases r with
    | cons u v => exact absurd h3 (by simp only [List.length_cons]; omega)
    | nil =>
      have wq := (wrB_iff q).mp (hall q (List.mem_cons_of_mem _ List.mem_cons_self))
      obtain ⟨iq, lq⟩ := int_word wq
      have bq := vl_bd wq
      have at1 : atI ([p, q].map V.str) 1 = some (V.str q) := atI_nat (j := 1) rfl
      refine if2 true (fun Q' hq => ⟨_, rfl, l, _, rfl, g3, rfl, _, rfl, hq⟩) (fun _ => ?_) (fun z => by cases z)
      rw [seq1]
      refine if2 (decide (vlL (tl q) = 0)) (fun Q' hq => ⟨_, rfl, l, _, 1, _, rfl, rfl, g3, at1, q, _, rfl, iq, by omega, rfl, _, rfl, ?_⟩) (fun _ => ⟨_, rfl, fun dd hdd => hE H3 dd s03 hdd⟩) (fun hz => ?_)
      · have e : decide (V.int (vlL (tl q)) = V.int 0) = decide (vlL (tl q) = 0) := decide_eq_decide.mpr ⟨fun z => V.int.inj z, fun z => by rw [z]⟩
        rw [e]
        exact hq
      · have hz : vlL (tl q) ≠ 0 := of_decide_eq_false hz
        refine ⟨rfl, _, rfl, l, _, 0, _, rfl, rfl, g3, at0, p, _, rfl, ip, by omega, _, rfl, l, _, 1, _, rfl, rfl, g3, at1, q, _, rfl, iq, by omega, fun x2 dx2 hx2 hdx2 hne2 => ?_⟩
        refine sh_make (Q := fun v H4 => gName 4 v _ H4 _) hz (nat_mono bp (by decide)) (nat_mono bq (by decide)) (fun b H4 s4 hB => ?_) x2 dx2 hx2 hdx2
        rw [gName1]
        simp only [List.set_cons_zero, List.set_cons_succ]
        refine fin b _ H4 (s03.trans s4) hB (bd_div hz (nat_mono bp (by decide)) (nat_mono bq (by decide))) fun e => ?_
        have hfr : (if wrB p = true ∧ wrB q = true ∧ vlL (tl q) ≠ 0 ∧ txtQ (Rat.divInt (vlL (tl p)) (vlL (tl q))) = t then some (Rat.divInt (vlL (tl p)) (vlL (tl q))) else none) = none := hfr
        rw [if_pos ⟨hall p List.mem_cons_self, hall q (List.mem_cons_of_mem _ List.mem_cons_self), hz, e⟩] at hfr
        cases hfr
def sp_Share_from_text (K : Frag) : Sp := fun vs H Q _ => ∃ (t : Str) (q : Rat), vs = [.ref (ga K "Share"), .str t] ∧ t.length ≤ 1000 ∧ frQ t = some q ∧ ∀ a H', Same H H' → ShQ K H' a q → Bd 900 q → txtQ q = t → Q (.ref a) H'
def t_Share_from_text (K : Frag) (w : World) : TS :=
  (tSeq (tIfS (tNot (tB (tCB (rIsi K) (tCons (tVar 1) (tCons (tC (.ty "str")) tNil))))) tNever tNext)
  (tSeq (tAsg (tM1 oSplit (tVar 1) (tC (.str "/"))) (gName 2))
  (tSeq (tIfS (tOr (tTest (tOp oGt (tCB rLenLH (tCons (tVar 2) tNil)) (tC (.int 2)))) (tNot (tB (tCB (rAll K) (tCons (tLc (iList K (tVar 2)) (gName 3) tYes (tFn (sp_is_written K) E0 (tCons (tVar 3) tNil)) [3]) tNil))))) tNever tNext)
  (tSeq (tAsg (tMakeL 0 (ga K "Share") (sp_Share___init__ K) [.int 1] E0 (tCons (tCB oIntS (tCons (tOp rIxLH (tVar 2) (tC (.int 0))) tNil)) tNil)) (gName 4))
  (tSeq (tIfS (tTest (tOp rEq (tCB rLenLH (tCons (tVar 2) tNil)) (tC (.int 2)))) (tSeq (tIfS (tTest (tOp rEq (tCB oIntS (tCons (tOp rIxLH (tVar 2) (tC (.int 1))) tNil)) (tC (.int 0)))) tNever tNext)
  (tAsg (tMakeLR 0 (ga K "Share") (sp_Share___init__ K) E0 (tCons (tCB oIntS (tCons (tOp rIxLH (tVar 2) (tC (.int 0))) tNil)) (tCons (tCB oIntS (tCons (tOp rIxLH (tVar 2) (tC (.int 1))) tNil)) tNil))) (gName 4))) tNext)
  (tSeq (tIfS (tTest (tOp rNe (tFn (sp_Share_text K) E0 (tCons (tVar 4) tNil)) (tVar 1))) tNever tNext)
  (tRet (tVar 4))))))))
def n_Share_from_text : List Str := ["cls", "text", "parts", "part", "found"]
theorem rd_Share_from_text (T : Ks K w) (vs : List V) (H : Hp) (Q : VK) (E : XK) (h : sp_Share_from_text K vs H Q E) : t_Share_from_text K w { nx := fun _ H' => Q .non H', rt := Q } (L2.start n_Share_from_text vs) H := by
  obtain ⟨t, q0, rfl, hlen, hfr, hq0⟩ := h
  unfold t_Share_from_text n_Share_from_text tM1 oSplit rNewStrs
  rw [seq1]
  walk_at "rsl"
  refine isi_base (.base (.str t)) (b := true) (by decide +kernel) ⟨true, rfl, ?_⟩
  rw [if_neg Bool.noConfusion, seq1]
  walk_at "rsl"
  refine ⟨rfl, (by have : sizeLine = 16777216 := rfl; omega), fun l hl => ?_⟩
  have s0 := Same.new (o := .lst ((Txt.split t "/").map V.str)) hl
  have g0 := updS H l (.lst ((Txt.split t "/").map V.str))
  have hne := split_ne t
  have hsl := split_len hlen
  unfold frQ at hfr
  generalize Txt.split t "/" = ps at *
  generalize upd H l (.lst (ps.map V.str)) = H1 at *
  rw [seq1]
  have ln : ((ps.map V.str).length : Int) = (ps.length : Int) := by rw [List.length_map]
  have shape : (∃ p, ps = [p] ∧ wrB p = true ∧ txtQ (Rat.divInt (vlL (tl p)) 1) = t ∧ q0 = Rat.divInt (vlL (tl p)) 1) ∨
      (∃ p q, ps = [p, q] ∧ wrB p = true ∧ wrB q = true ∧ vlL (tl q) ≠ 0 ∧ txtQ (Rat.divInt (vlL (tl p)) (vlL (tl q))) = t ∧ q0 = Rat.divInt (vlL (tl p)) (vlL (tl q))) := by
    match ps, hfr with
    | [p], hfr =>
      have hfr : (if wrB p = true ∧ txtQ (Rat.divInt (vlL (tl p)) 1) = t then some (Rat.divInt (vlL (tl p)) 1) else none) = some q0 := hfr
      by_cases c : wrB p = true ∧ txtQ (Rat.divInt (vlL (tl p)) 1) = t
      · rw [if_pos c] at hfr
        exact .inl ⟨p, rfl, c.1, c.2, (Option.some.inj hfr).symm⟩
      · rw [if_neg c] at hfr; cases hfr
    | [p, q], hfr =>
      have hfr : (if wrB p = true ∧ wrB q = true ∧ vlL (tl q) ≠ 0 ∧ txtQ (Rat.divInt (vlL (tl p)) (vlL (tl q))) = t then some (Rat.divInt (vlL (tl p)) (vlL (tl q))) else none) = some q0 := hfr
      by_cases c : wrB p = true ∧ wrB q = true ∧ vlL (tl q) ≠ 0 ∧ txtQ (Rat.divInt (vlL (tl p)) (vlL (tl q))) = t
      · rw [if_pos c] at hfr
        exact .inr ⟨p, q, rfl, c.1, c.2.1, c.2.2.1, c.2.2.2, (Option.some.inj hfr).symm⟩
      · rw [if_neg c] at hfr; cases hfr
    | [], hfr => cases hfr
    | p :: q :: u :: v, hfr => cases hfr
  have h3 : ps.length ≤ 2 := by
    rcases shape with ⟨p, rfl, _⟩ | ⟨p, q, rfl, _⟩
    · exact (show 1 ≤ 2 by decide)
    · exact (show 2 ≤ 2 by decide)
  have hw : ps.all wrB = true := by
    rcases shape with ⟨p, rfl, h1, _⟩ | ⟨p, q, rfl, h1, h2, _⟩
    · show (wrB p && true) = true; rw [h1]; rfl
    · show (wrB p && (wrB q && true)) = true; rw [h1, h2]; rfl
  refine or2 false (fun Q' hq => ⟨_, rfl, l, _, rfl, g0, _, _, rfl, rfl, _, rfl, by rw [ln, decide_eq_false (by omega)]; exact hq⟩) (fun z => by cases z) (fun _ => ?_)
  refine if2S false (fun Q' hq => all_wr (l := l) rfl g0 (show 3 < 5 by decide) hsl (by omega) fun H' s => ⟨_, rfl, by rw [hw]; exact hq H' s⟩) (fun z => by cases z) (fun _ H2 s2 => ?_)
  have s02 := s0.trans s2
  have g2 := s2 _ _ g0
  obtain ⟨p, r, rfl⟩ : ∃ p r, ps = p :: r := by
    cases ps with
    | nil => exact absurd rfl hne
    | cons p r => exact ⟨p, r, rfl⟩
  have hall := List.all_eq_true.mp hw
  have wp := (wrB_iff p).mp (hall p List.mem_cons_self)
  obtain ⟨ip, lp⟩ := int_word wp
  have bp := vl_bd wp
  change tSeq _ _ _ _ _
  rw [seq1]
  have at0 : atI ((p :: r).map V.str) 0 = some (V.str p) := atI_nat (j := 0) rfl
  refine ⟨rfl, _, rfl, l, _, 0, _, rfl, rfl, g2, at0, p, _, rfl, ip, by omega, fun x dx hx hdx hne => ?_⟩
  refine sh_make (Q := fun v H3 => gName 4 v _ H3 _) (by decide) (nat_mono bp (by decide)) (by decide) (fun a H3 s3 hS => ?_) x dx hx hdx
  have s03 := s02.trans s3
  have g3 := s3 _ _ g2
  rw [gName1]
  simp only [L2.start, List.map_cons, List.map_nil, List.length_cons, List.length_nil, Nat.reduceAdd, Nat.reduceSub, List.replicate_succ, List.replicate_zero, List.cons_append, List.nil_append, List.set_cons_zero, List.set_cons_succ]
  have fin : ∀ (b : Addr) (H4 : Hp), Same H H4 → ShQ K H4 b q0 → Bd 900 q0 → txtQ q0 = t → tSeq (tIfS (tTest (tOp rNe (tFn (sp_Share_text K) E0 (tCons (tVar 4) tNil)) (tVar 1))) tNever tNext) (tRet (tVar 4)) { nx := fun _ H' => Q .non H', rt := Q }
      [some (.ref (ga K "Share")), some (.str t), some (.ref l), none, some (.ref b)] H4 := fun b H4 s4 hb bd ht => by
    rw [seq1]
    refine if2 false (fun Q' hq => ⟨_, rfl, b, q0, rfl, hb, bd, _, rfl, rfl, _, rfl, ?_⟩) (fun z => by cases z) (fun _ => ⟨_, rfl, hq0 b H4 s4 hb bd ht⟩)
    rw [decide_eq_true (by rw [ht])]
    exact hq
  rw [seq1]
  rcases shape with ⟨p', e1, h1, h2, rfl⟩ | ⟨p', q, e1, h1, h2, hz, h4, rfl⟩
  · injection e1 with e1 e2
    subst e1 e2
    refine if2 false (fun Q' hq => ⟨_, rfl, l, _, rfl, g3, rfl, _, rfl, hq⟩) (fun z => by cases z) (fun _ => ?_)
    exact fin a H3 s03 hS (bd_div (by decide) (nat_mono bp (by decide)) (by decide)) h2
  · injection e1 with e1 e2
    subst e1 e2
    have wq := (wrB_iff q).mp h2
    obtain ⟨iq, lq⟩ := int_word wq
    have bq := vl_bd wq
    have at1 : atI ([p, q].map V.str) 1 = some (V.str q) := atI_nat (j := 1) rfl
    refine if2 true (fun Q' hq => ⟨_, rfl, l, _, rfl, g3, rfl, _, rfl, hq⟩) (fun _ => ?_) (fun z => by cases z)
    rw [seq1]
    refine if2 false (fun Q' hq => ⟨_, rfl, l, _, 1, _, rfl, rfl, g3, at1, q, _, rfl, iq, by omega, rfl, _, rfl, ?_⟩) (fun z => by cases z) (fun _ => ?_)
    · rw [decide_eq_false (fun z => hz (V.int.inj z))]
      exact hq
    · refine ⟨rfl, _, rfl, l, _, 0, _, rfl, rfl, g3, at0, p, _, rfl, ip, by omega, _, rfl, l, _, 1, _, rfl, rfl, g3, at1, q, _, rfl, iq, by omega, fun x2 dx2 hx2 hdx2 hne2 => ?_⟩
      refine sh_make (Q := fun v H4 => gName 4 v _ H4 _) hz (nat_mono bp (by decide)) (nat_mono bq (by decide)) (fun b H4 s4 hB => ?_) x2 dx2 hx2 hdx2
      rw [gName1]
      simp only [List.set_cons_zero, List.set_cons_succ]
      exact fin b H4 (s03.trans s4) hB (bd_div hz (nat_mono bp (by decide)) (nat_mono bq (by decide))) h4
end
end Tw
/-! Tw: texts of lists of rows -/
namespace Tw
open PySem PySem.Spec PyProof.Rows L2 He TwM StX
open PySem.W (Frag)
section
variable {K : Frag} {H : Hp}
theorem sum_piled : ∀ ts : List Str, (ts.map (·.length)).sum + 2 * ts.length = piled ts
  | [] => rfl
  | t :: ts => by
    rw [piled_cons, ← sum_piled ts, List.map_cons, List.sum_cons, List.length_cons]
    omega
theorem list_text (ts : List Str) : (listText ts).length ≤ piled ts + 2 := by
  have h := textFrom_len_le ts 0 "["
  have e := sum_piled ts
  unfold listText
  rw [strLen_append]
  have e1 : ((("[" : String) : Str)).length = 1 := rfl
  have e2 : ((("]" : String) : Str)).length = 1 := rfl
  omega
def dRow (l : Lv) : PyData := .tuple [.int l.g, .int l.s, .int l.p]
def RwB (l : Lv) : Prop := l.g.natAbs.log2 < 1920 ∧ l.s.natAbs.log2 < 1920 ∧ l.p.natAbs.log2 < 1920
theorem RwB.ints {l : Lv} (h : RwB l) : ∀ x ∈ [l.g, l.s, l.p], x.natAbs.log2 < 1920 := fun x hx => by
  simp only [List.mem_cons, List.not_mem_nil, or_false] at hx
  rcases hx with rfl | rfl | rfl
  · exact h.1
  · exact h.2.1
  · exact h.2.2
theorem row_shown {l : Lv} (h : RwB l) : (dRow l).shown.length ≤ 6000 := by
  have h1 := piled_ints [l.g, l.s, l.p] h.ints
  have h3 := fmt_text (PyData.shownAll ([l.g, l.s, l.p].map PyData.int))
  show (tupleText (PyData.shownAll ([l.g, l.s, l.p].map PyData.int))).length ≤ 6000
  have h4 : [l.g, l.s, l.p].length = 3 := rfl
  omega
theorem shown_rows : ∀ W : List Lv, (∀ l ∈ W, RwB l) → PyData.showableAll (W.map dRow) = true
  | [], _ => rfl
  | l :: W, h => by
    rw [List.map_cons]
    show (PyData.showable (dRow l) && PyData.showableAll (W.map dRow)) = true
    rw [shown_rows W fun y hy => h y (List.mem_cons_of_mem _ hy), Bool.and_true]
    exact shown_ints_all [l.g, l.s, l.p] (h l List.mem_cons_self).ints
theorem hasDict_rows : ∀ W : List Lv, PyData.hasDictAll (W.map dRow) = false
  | [] => rfl
  | l :: W => by
    rw [List.map_cons]
    show (PyData.hasDict (dRow l) || PyData.hasDictAll (W.map dRow)) = false
    rw [hasDict_rows W]
    rfl
theorem depth_rows : ∀ W : List Lv, PyData.depthAll (W.map dRow) ≤ 1
  | [] => Nat.zero_le _
  | l :: W => by
    rw [List.map_cons]
    show max (PyData.depth (dRow l)) (PyData.depthAll (W.map dRow)) ≤ 1
    have := depth_rows W
    have : PyData.depth (dRow l) ≤ 1 := Nat.le_refl _
    omega
theorem piled_rows : ∀ W : List Lv, (∀ l ∈ W, RwB l) → piled (PyData.shownAll (W.map dRow)) ≤ 6002 * W.length
  | [], _ => Nat.le_refl _
  | l :: W, h => by
    have ih := piled_rows W fun y hy => h y (List.mem_cons_of_mem _ hy)
    have h1 := row_shown (h l List.mem_cons_self)
    rw [List.map_cons]
    show piled ((dRow l).shown :: PyData.shownAll (W.map dRow)) ≤ _
    rw [piled_cons, List.length_cons]
    omega
theorem repr_rows {v : V} {W : List Lv} {Q : VK} (hd : Dp K H v (.list (W.map dRow))) (hl : W.length ≤ 2000) (hb : ∀ l ∈ W, RwB l) (q : Q (.str (PyData.list (W.map dRow)).shown) H) : rReprG K [v] H Q := by
  refine ⟨v, _, rfl, hd, shown_rows W hb, hasDict_rows W, ?_, ?_, q⟩
  · have := depth_rows W
    show PyData.depthAll (W.map dRow) + 1 ≤ 16
    omega
  · have h1 := piled_rows W hb
    have h2 := list_text (PyData.shownAll (W.map dRow))
    have h3 : sizeLine = 16777216 := rfl
    show (listText (PyData.shownAll (W.map dRow))).length ≤ sizeLine
    omega
end
end Tw
/-! Tw: an instance compared with a value of any other type, by its class's own method -/
namespace Tw
open PySem PySem.Spec PyProof.Rows L2
section
variable {X : Cx} {CX : CXT} {k : Nat} {C g : Addr} {sp : Sp} {E : XK}
def rCmpX (K : PySem.W.Frag) (C : Addr) (sp : Sp) (E : XK) : R2 := fun x y H Q => ∃ a dx fs t, x = .ref a ∧ H a = some (.ins C dx fs) ∧ TyX K H y t ∧ PySem.W.notFirst K C t = true ∧ sp [.ref a, y] H (fun v H' => ∃ c, v = .bl c ∧ Q (.bl c) H') E
theorem op_cmpX {op : CmpOp} {nm : PySem.Str} (hs : PySem.W.findIn X.K (.ref C) nm = some (some (.ref g))) (hf : PySem.W.isFn X.K (.ref g) = true) (F : FnR X.prog X.w X.K X.mg X.base CX k g sp) (hr : Room (k + 1) X.A) (hx : Passes CX X E)
    (hn : (cmpInfo op).2.1 = nm := by rfl) (hop : ∀ v u, compareOp op v u = richCompare op v u := by intro _ _; rfl) : OpR X (compareOp op) (rCmpX X.K C sp E) := by
  intro pins s σ H x y v u Q I rx ry h
  obtain ⟨a, dx, fs, t, rfl, ea, ty, nf, q⟩ := h
  cases (show v = Value.ref a from rx)
  rw [hop]
  obtain ⟨mA, O, _⟩ := ins_get I.hok ea
  obtain ⟨od, J, _⟩ := O.look
  obtain ⟨m, hF⟩ := I.fr
  obtain ⟨Pk, kx, hp, _⟩ := kit_of I ry ty
  refine PySem.W.cmp_K (op := op) (tb := t) hr.units0 hF I.ok.mod.kin J (kx.ty _ _ I.kIn hp) nf (by rw [hn]; exact hs) hf ?_
  refine wpAny_mono (wpAny_call (SlX.run_at (us := [.ref a, u]) (ws := [.ref a, y]) F (hr.mono (Nat.le_succ _)) I.env0 hx I (.cons rfl (.cons ry .nil)) q)) (fun w s' z => ?_) fun _ _ x => x
  obtain ⟨z', H', I', rz, c, ez, qz⟩ := z
  subst ez
  cases (show w = Value.bool c from rz)
  exact ⟨.bl c, H', I', rfl, qz⟩
end
end Tw
/-! Tw: k02's law draws, compares and reads -/
namespace Tw
open PySem PySem.Spec PyProof.Rows L2 He TwM StX LamX
open PySem.W (Frag)
open TL (tl)
local macro_rules | `(tactic| walk_at "rsl") => `(tactic| simp only [*, at3_0, at3_1, at3_2, at2_0, at2_1, updS, upd_two, gSub, L2.rSetL, updN, tPar, tPar3, gTup, gCons, gNil, and_assoc, not_true_eq_false, not_false_eq_true, tNever, List.length_map, tFld, rIxTH, rIxLH, rLenTH, rLenLH, lk1, lfs_g, lfs_s, lfs_p, HO.ins.injEq, HO.tup.injEq, HO.lst.injEq, sp_Book_rounding, sp_Book_action, sp_Book_order, sp_Book_due, sp_Book_zero, sp_Book_beyond, Int.toNat_natCast, sp_visit_after, sp_is_visited, sp_Level_grain, sp_Level_slots, sp_Level_span, sp_Wheel_reach, sp_Wheel___len__, sp_is_integer, sp_is_count, sp_is_within, sp_rounded, tAsg, gName, tVar, tC, tOp, rI, rI0, rU, tUn, oAdd, oSub, oMul, oDiv, oMod, oNeg, oLt, oLe, oGt, oGe, oIsN, oNotN, tFn, tCons, tNil, tIfS, tIf, tTest, tB, tNot, tAnd, tOr, tAndV, tOrV, tNotV,
    tRet, tRetN, tNext, tCB, tDrop, tChain, rEq, rNe, oMax2, oMin2, oInt1, rLenF, L2.start, List.map_cons, List.map_nil, List.length_cons, List.length_nil, List.replicate_succ, List.replicate_zero, List.cons_append, List.nil_append, Nat.reduceAdd, Nat.reduceSub, Nat.zero_add,
    List.set_cons_zero, List.set_cons_succ, List.getElem?_cons_zero, List.getElem?_cons_succ, Option.some.injEq, V.int.injEq, V.ref.injEq, V.str.injEq, V.bl.injEq, exists_eq_left', exists_eq_left, exists_and_left, List.cons.injEq, and_true, true_and, decide_eq_true_eq, sc_ii, sc_ss, sc_bb, sc_ni, sc_in, sc_nn, sc_is, reduceCtorEq,
    Bool.not_eq_true', decide_eq_false_iff_not, if_true, if_false, Bool.false_eq_true, exists_eq', exists_const, false_and, and_false, or_false, false_or, exists_false, Bool.not_not, Bool.not_true, Bool.not_false, sUp_up, sFire_fire, sHigh_high, sPut_put, sZone_now, sBey_refuse, sBey_cut, tTup, tLst, sz0, sz1, sz2, sz3, sz4, sz5, sz6])
local macro_rules | `(tactic| walk_at "st") => `(tactic| ((try dsimp only); rw [seq1]; walk_at "rsl"))
/-! ### what the law reads -/
def canB (z : Str) : Bool := wrB z && !(decide ((figs (tl z)).head? = some 48) && !decide (z = "0"))
theorem canB_iff (z : Str) : canB z = true ↔ CanL (tl z) := by
  unfold canB CanL
  rw [Bool.and_eq_true, wrB_iff, Bool.not_eq_true', Bool.and_eq_false_iff, decide_eq_false_iff_not, Bool.not_eq_false', decide_eq_true_eq]
  have e0 : tl ("0" : Str) = [48] := by decide +kernel
  refine and_congr_right fun _ => or_congr_right ⟨fun e => by rw [e, e0], fun e => TL.ext_tl (by rw [e, e0])⟩
def frL (t : Str) : Option (Int × Int) := match Txt.split t "/" with
  | [p] => if canB p = true then some (vlL (tl p), 1) else none
  | [p, q] => if canB p = true ∧ canB q = true ∧ 2 ≤ vlL (tl q) ∧ Int.gcd (vlL (tl p)) (vlL (tl q)) = 1 then some (vlL (tl p), vlL (tl q)) else none
  | _ => none
theorem join_slash (t : Str) : tl t = TL.joinL [47] ((Txt.split t "/").map tl) := by
  have hk : ¬ Builtin.Str.strKind t < Builtin.Str.strKind ("/" : Str) := TL.kind_ok (by decide +kernel)
  have es : tl ("/" : Str) = [47] := by decide +kernel
  have e := TL.split_spl t "/" (by rw [es]; simp) hk
  rw [e, es, join_spl]
  rfl
theorem fr_eq (t : Str) : frQ t = (frL t).map fun x => Rat.divInt x.1 x.2 := by
  have hj := join_slash t
  unfold frQ frL
  match Txt.split t "/", hj with
  | [], _ => rfl
  | [p], hj =>
    have hj : tl t = tl p := hj
    show (if wrB p = true ∧ txtQ (Rat.divInt (vlL (tl p)) 1) = t then some (Rat.divInt (vlL (tl p)) 1) else none) = Option.map _ (if canB p = true then some (vlL (tl p), 1) else none)
    have key : (wrB p = true ∧ txtQ (Rat.divInt (vlL (tl p)) 1) = t) ↔ canB p = true := by
      rw [canB_iff]
      constructor
      · rintro ⟨h1, h2⟩
        exact (one_iff ((wrB_iff p).mp h1)).mp (by rw [← tl_txt, h2, hj])
      · intro h
        exact ⟨(wrB_iff p).mpr h.1, TL.ext_tl (by rw [tl_txt, (one_iff h.1).mpr h, hj])⟩
    by_cases c : canB p = true
    · rw [if_pos (key.mpr c), if_pos c]; rfl
    · rw [if_neg (fun z => c (key.mp z)), if_neg c]; rfl
  | [p, q], hj =>
    have hj : tl t = tl p ++ ([47] ++ tl q) := hj
    show (if wrB p = true ∧ wrB q = true ∧ vlL (tl q) ≠ 0 ∧ txtQ (Rat.divInt (vlL (tl p)) (vlL (tl q))) = t then some (Rat.divInt (vlL (tl p)) (vlL (tl q))) else none) =
      Option.map _ (if canB p = true ∧ canB q = true ∧ 2 ≤ vlL (tl q) ∧ Int.gcd (vlL (tl p)) (vlL (tl q)) = 1 then some (vlL (tl p), vlL (tl q)) else none)
    have key : (wrB p = true ∧ wrB q = true ∧ vlL (tl q) ≠ 0 ∧ txtQ (Rat.divInt (vlL (tl p)) (vlL (tl q))) = t) ↔ (canB p = true ∧ canB q = true ∧ 2 ≤ vlL (tl q) ∧ Int.gcd (vlL (tl p)) (vlL (tl q)) = 1) := by
      rw [canB_iff, canB_iff]
      constructor
      · rintro ⟨h1, h2, h3, h4⟩
        exact (two_iff ((wrB_iff p).mp h1) ((wrB_iff q).mp h2) h3).mp (by rw [← tl_txt, h4, hj]; rfl)
      · rintro ⟨h1, h2, h3, h4⟩
        have hz : vlL (tl q) ≠ 0 := by omega
        exact ⟨(wrB_iff p).mpr h1.1, (wrB_iff q).mpr h2.1, hz, TL.ext_tl (by rw [tl_txt, (two_iff h1.1 h2.1 hz).mpr ⟨h1, h2, h3, h4⟩, hj]; rfl)⟩
    by_cases c : canB p = true ∧ canB q = true ∧ 2 ≤ vlL (tl q) ∧ Int.gcd (vlL (tl p)) (vlL (tl q)) = 1
    · rw [if_pos (key.mpr c), if_pos c]; rfl
    · rw [if_neg (fun z => c (key.mp z)), if_neg c]; rfl
  | p :: q :: u :: v, _ => rfl
theorem frL_low {t : Str} {n m : Int} (h : frL t = some (n, m)) : (Rat.divInt n m).num = n ∧ ((Rat.divInt n m).den : Int) = m := by
  unfold frL at h
  match Txt.split t "/", h with
  | [], h => cases h
  | [p], h =>
    have h : (if canB p = true then some (vlL (tl p), (1 : Int)) else none) = some (n, m) := h
    by_cases c : canB p = true
    · rw [if_pos c] at h
      cases h
      obtain ⟨a, b⟩ := divInt_one (vlL (tl p))
      exact ⟨a, by rw [b]; rfl⟩
    · rw [if_neg c] at h; cases h
  | [p, q], h =>
    have h : (if canB p = true ∧ canB q = true ∧ 2 ≤ vlL (tl q) ∧ Int.gcd (vlL (tl p)) (vlL (tl q)) = 1 then some (vlL (tl p), vlL (tl q)) else none) = some (n, m) := h
    by_cases c : canB p = true ∧ canB q = true ∧ 2 ≤ vlL (tl q) ∧ Int.gcd (vlL (tl p)) (vlL (tl q)) = 1
    · rw [if_pos c] at h
      cases h
      exact divInt_cop c.2.2.1 c.2.2.2
    · rw [if_neg c] at h; cases h
  | p :: q :: u :: v, h => cases h
section
variable {K : Frag} {w : World}
def sp__law_integer (K : Frag) : Sp := fun vs H Q _ => ∃ (p l : Addr), vs = [.ref p] ∧ PoolAt H p l ∧ ∀ (i : Int) H', SameP p l H H' → PoolAt H' p l → i.natAbs < 2 ^ 100 → Q (.int i) H'
def t__law_integer (K : Frag) (w : World) : TS :=
  (tSeq (tAsg (tOp rIxLH (tLst (tCons (tFn (sp__law_draw K) E0 (tCons (tVar 0) (tCons (tC (.int 4)) tNil))) (tCons (tFn (sp__law_draw K) E0 (tCons (tVar 0) (tCons (tC (.int 60)) tNil))) (tCons (tFn (sp__law_draw K) E0 (tCons (tVar 0) (tCons (tOp oPow (tC (.int 10)) (tC (.int 30))) tNil))) tNil)))) (tFn (sp__law_draw K) E0 (tCons (tVar 0) (tCons (tC (.int 3)) tNil)))) (gName 1))
  (tRet (tOp rIxLH (tLst (tCons (tVar 1) (tCons (tOp oSub (tC (.int 0)) (tVar 1)) tNil))) (tFn (sp__law_draw K) E0 (tCons (tVar 0) (tCons (tC (.int 2)) tNil))))))
def n__law_integer : List Str := ["_law_pool", "_law_number"]
theorem rd__law_integer (vs : List V) (H : Hp) (Q : VK) (E : XK) (h : sp__law_integer K vs H Q E) : t__law_integer K w { nx := fun _ H' => Q .non H', rt := Q } (L2.start n__law_integer vs) H := by
  obtain ⟨p, l, rfl, hp, q⟩ := h
  have e30 : (10 : Int) ^ (30 : Int).toNat = 1000000000000000000000000000000 := by decide +kernel
  unfold t__law_integer n__law_integer
  rw [seq1]
  refine ⟨_, rfl, draw (K := K) hp (by decide) (by decide) fun i1 H1 s1 hp1 a0 a1 => ⟨_, rfl, draw (K := K) hp1 (by decide) (by decide) fun i2 H2 s2 hp2 b0 b1 => ⟨_, rfl, 10, 30, rfl, rfl, ⟨by decide, by decide, by decide⟩, draw (K := K) hp2 (by decide +kernel) (by decide +kernel) fun i3 H3 s3 hp3 c0 c1 => ⟨(show 3 ≤ 16777216 by decide), fun L hL => ?_⟩⟩⟩⟩
  rw [e30] at c1
  have s13 := (s1.trans s2).trans s3
  have s4 := Same.new (o := .lst [V.int i1, .int i2, .int i3]) hL
  have g4 := updS H3 L (.lst [V.int i1, .int i2, .int i3])
  have ap := hp3.apart hL
  have hp4 := hp3.same s4
  generalize upd H3 L (.lst [V.int i1, .int i2, .int i3]) = H4 at *
  refine ⟨_, rfl, draw (K := K) hp4 (by decide) (by decide) fun x H5 s5 hp5 x0 x1 => ?_⟩
  obtain ⟨y, hy, e⟩ := atV (xs := [V.int i1, .int i2, .int i3]) x0 (by simpa using x1)
  refine ⟨L, _, x, y, rfl, rfl, s5 _ _ ap.1 ap.2 g4, e, ?_⟩
  obtain ⟨n, rfl, hn⟩ : ∃ n : Int, y = .int n ∧ 0 ≤ n ∧ n < 1000000000000000000000000000000 := by
    have hy := List.mem_of_getElem? hy
    simp only [List.mem_cons, List.not_mem_nil, or_false] at hy
    rcases hy with rfl | rfl | rfl
    · exact ⟨_, rfl, by omega, by omega⟩
    · exact ⟨_, rfl, by omega, by omega⟩
    · exact ⟨_, rfl, by omega, by omega⟩
  have s15 := (s13.step s4).trans s5
  clear hy e g4 s4 s13 hp4 hp3 hp2 hp1
  try dsimp only
  rw [gName1]
  try dsimp only [List.set_cons_succ, List.set_cons_zero]
  refine ⟨_, rfl, _, rfl, 0, n, rfl, rfl, (show 2 ≤ 16777216 by decide), fun M hM => ?_⟩
  have apM := hp5.apart hM
  have s6 := Same.new (o := .lst [V.int n, .int (0 - n)]) hM
  have g6 := updS H5 M (.lst [V.int n, .int (0 - n)])
  have hp6 := hp5.same s6
  generalize upd H5 M (.lst [V.int n, .int (0 - n)]) = H6 at *
  refine ⟨_, rfl, draw (K := K) hp6 (by decide) (by decide) fun x H7 s7 hp7 x0 x1 => ?_⟩
  obtain ⟨y, hy, e⟩ := atV (xs := [V.int n, .int (0 - n)]) x0 (by simpa using x1)
  refine ⟨M, _, x, y, rfl, rfl, s7 _ _ apM.1 apM.2 g6, e, ?_⟩
  have hy := List.mem_of_getElem? hy
  simp only [List.mem_cons, List.not_mem_nil, or_false] at hy
  rcases hy with rfl | rfl
  · exact q n H7 ((s15.step s6).trans s7) hp7 (by omega)
  · exact q (0 - n) H7 ((s15.step s6).trans s7) hp7 (by omega)
theorem bt_shown : ∀ l : List Bool, PyData.showableAll (l.map PyData.bool) = true
  | [] => rfl
  | c :: l => by
    show (PyData.showable (PyData.bool c) && PyData.showableAll (l.map PyData.bool)) = true
    rw [bt_shown l]
    rfl
theorem bt_dict : ∀ l : List Bool, PyData.hasDictAll (l.map PyData.bool) = false
  | [] => rfl
  | c :: l => by
    show (PyData.hasDict (PyData.bool c) || PyData.hasDictAll (l.map PyData.bool)) = false
    rw [bt_dict l]
    rfl
theorem bt_dp {H : Hp} : ∀ l : List Bool, DpAll K H (l.map V.bl) (l.map PyData.bool)
  | [] => .nil
  | c :: l => .cons (.bl c) (bt_dp l)
theorem bt_dep : ∀ l : List Bool, PyData.depthAll (l.map PyData.bool) = 0
  | [] => rfl
  | c :: l => by
    show max (PyData.bool c).depth (PyData.depthAll (l.map PyData.bool)) = 0
    rw [bt_dep l]
    rfl
theorem bt_piled : ∀ l : List Bool, piled (PyData.shownAll (l.map PyData.bool)) ≤ 7 * l.length
  | [] => Nat.le_refl _
  | c :: l => by
    have ih := bt_piled l
    have h1 : (PyData.bool c).shown.length ≤ 5 := by cases c <;> decide +kernel
    rw [List.map_cons]
    show piled ((PyData.bool c).shown :: PyData.shownAll (l.map PyData.bool)) ≤ _
    rw [piled_cons, List.length_cons]
    omega
theorem repr_bt {H : Hp} {a : Addr} {l : List Bool} {Q : VK} (h : H a = some (.lst (l.map V.bl))) (hl : l.length ≤ 100) (q : Q (.str (PyData.list (l.map PyData.bool)).shown) H) : rReprG K [.ref a] H Q := by
  refine ⟨.ref a, .list (l.map PyData.bool), rfl, .lst (SqL.of h) (bt_dp l), bt_shown l, bt_dict l, ?_, ?_, q⟩
  · have := bt_dep l
    show PyData.depthAll (l.map PyData.bool) + 1 ≤ 16
    omega
  · have h1 := bt_piled l
    have h2 := list_text (PyData.shownAll (l.map PyData.bool))
    show (listText (PyData.shownAll (l.map PyData.bool))).length ≤ sizeLine
    have h4 : sizeLine = 16777216 := rfl
    omega
/-! ### six comparisons -/
def Cm (te : TE) (σ : L2.St) (H : Hp) (b : Bool) : Prop := ∀ H' (Q : VK), Same H H' → (∀ H'', Same H' H'' → Q (.bl b) H'') → te σ H' Q
theorem so_core {t1 t2 t3 t4 t5 t6 : TE} {b1 b2 b3 b4 b5 b6 : Bool} {x y : V} {i j : Int} {H : Hp} {Q : VK}
    (h1 : Cm t1 [some x, some y, some (.int i), some (.int j), none, none] H b1) (h2 : Cm t2 [some x, some y, some (.int i), some (.int j), none, none] H b2) (h3 : Cm t3 [some x, some y, some (.int i), some (.int j), none, none] H b3)
    (h4 : Cm t4 [some x, some y, some (.int i), some (.int j), none, none] H b4) (h5 : Cm t5 [some x, some y, some (.int i), some (.int j), none, none] H b5) (h6 : Cm t6 [some x, some y, some (.int i), some (.int j), none, none] H b6)
    (e1 : b1 = decide (i < j)) (e2 : b2 = decide (i ≤ j)) (e3 : b3 = decide (j < i)) (e4 : b4 = decide (j ≤ i)) (e5 : b5 = decide (V.int i = V.int j)) (e6 : b6 = !decide (V.int i = V.int j)) (q : ∀ H', Same H H' → Q (.bl true) H') :
    tSeq (tAsg (tLst (tCons t1 (tCons t2 (tCons t3 (tCons t4 (tCons t5 (tCons t6 tNil))))))) (gName 4))
      (tSeq (tAsg (tLst (tCons (tOp oLt (tVar 2) (tVar 3)) (tCons (tOp oLe (tVar 2) (tVar 3)) (tCons (tOp oGt (tVar 2) (tVar 3)) (tCons (tOp oGe (tVar 2) (tVar 3)) (tCons (tOp rEq (tVar 2) (tVar 3)) (tCons (tOp rNe (tVar 2) (tVar 3)) tNil))))))) (gName 5))
      (tRet (tOp rEq (tCB (rReprG K) (tCons (tVar 4) tNil)) (tCB (rReprG K) (tCons (tVar 5) tNil))))) { nx := fun _ H' => Q .non H', rt := Q } [some x, some y, some (.int i), some (.int j), none, none] H := by
  rw [seq1]
  refine h1 _ _ (Same.refl _) fun H1 s1 => h2 _ _ s1 fun H2 s2 => h3 _ _ (s1.trans s2) fun H3 s3 => h4 _ _ ((s1.trans s2).trans s3) fun H4 s4 => h5 _ _ (((s1.trans s2).trans s3).trans s4) fun H5 s5 => h6 _ _ ((((s1.trans s2).trans s3).trans s4).trans s5) fun H6 s6 => ⟨(show 6 ≤ 16777216 by decide), fun L hL => ?_⟩
  have sa := ((((s1.trans s2).trans s3).trans s4).trans s5).trans s6
  have sL := Same.new (o := .lst [V.bl b1, .bl b2, .bl b3, .bl b4, .bl b5, .bl b6]) hL
  have gL := updS H6 L (.lst [V.bl b1, .bl b2, .bl b3, .bl b4, .bl b5, .bl b6])
  generalize upd H6 L (.lst [V.bl b1, .bl b2, .bl b3, .bl b4, .bl b5, .bl b6]) = H7 at *
  dsimp only
  rw [gName1]
  simp only [List.set_cons_zero, List.set_cons_succ]
  rw [seq1]
  refine ⟨_, rfl, _, rfl, _, _, rfl, rfl, _, rfl, _, rfl, _, _, rfl, rfl, _, rfl, _, rfl, _, _, rfl, rfl, _, rfl, _, rfl, _, _, rfl, rfl, _, rfl, _, rfl, rfl, _, rfl, _, rfl, rfl, (show 6 ≤ 16777216 by decide), fun M hM => ?_⟩
  dsimp only
  rw [← e1, ← e2, ← e3, ← e4, ← e6, ← e5]
  have sM := Same.new (o := .lst [V.bl b1, .bl b2, .bl b3, .bl b4, .bl b5, .bl b6]) hM
  have gM := updS H7 M (.lst [V.bl b1, .bl b2, .bl b3, .bl b4, .bl b5, .bl b6])
  have gL2 := sM _ _ gL
  generalize upd H7 M (.lst [V.bl b1, .bl b2, .bl b3, .bl b4, .bl b5, .bl b6]) = H8 at *
  rw [gName1]
  simp only [List.set_cons_zero, List.set_cons_succ]
  refine ⟨_, rfl, ?_⟩
  dsimp only [tNil]
  refine repr_bt (l := [b1, b2, b3, b4, b5, b6]) gL2 (show 6 ≤ 100 by decide) ⟨_, rfl, ?_⟩
  dsimp only [tNil]
  refine repr_bt (l := [b1, b2, b3, b4, b5, b6]) gM (show 6 ≤ 100 by decide) ⟨rfl, ?_⟩
  rw [decide_eq_true rfl]
  exact q _ ((sa.trans sL).trans sM)
theorem so_alike {q r : Rat} {i j : Int} (h1 : q.num * r.den < r.num * q.den ↔ i < j) (h2 : r.num * q.den < q.num * r.den ↔ j < i) :
    decide (q.num * r.den < r.num * q.den) = decide (i < j) ∧ decide (q.num * r.den ≤ r.num * q.den) = decide (i ≤ j) ∧ decide (r.num * q.den < q.num * r.den) = decide (j < i) ∧ decide (r.num * q.den ≤ q.num * r.den) = decide (j ≤ i) ∧
    decide (q = r) = decide (V.int i = V.int j) ∧ (!decide (q = r)) = !decide (V.int i = V.int j) := by
  have he : decide (q = r) = decide (V.int i = V.int j) := decide_eq_decide.mpr (by
    rw [Rat.eq_iff_mul_eq_mul]
    constructor
    · intro e
      have : i = j := by
        have a1 : ¬ i < j := fun z => by have := h1.mpr z; omega
        have a2 : ¬ j < i := fun z => by have := h2.mpr z; omega
        omega
      rw [this]
    · intro e
      have e := V.int.inj e
      have a1 : ¬ q.num * r.den < r.num * q.den := fun z => by have := h1.mp z; omega
      have a2 : ¬ r.num * q.den < q.num * r.den := fun z => by have := h2.mp z; omega
      omega)
  refine ⟨decide_eq_decide.mpr h1, decide_eq_decide.mpr ?_, decide_eq_decide.mpr h2, decide_eq_decide.mpr ?_, he, by rw [he]⟩
  · constructor
    · intro z
      have : ¬ j < i := fun y => by have := h2.mpr y; omega
      omega
    · intro z
      have : ¬ r.num * q.den < q.num * r.den := fun y => by have := h2.mp y; omega
      omega
  · constructor
    · intro z
      have : ¬ i < j := fun y => by have := h1.mpr y; omega
      omega
    · intro z
      have : ¬ q.num * r.den < r.num * q.den := fun y => by have := h1.mp y; omega
      omega
structure K02 (K : Frag) : Prop where
  nf : (backTs.all fun t => PySem.W.notFirst K (ga K "Share") (.type t)) = true
theorem K02.no (T : K02 K) {t : String} (h : t ∈ backTs) : PySem.W.notFirst K (ga K "Share") (.type t) = true := List.all_eq_true.mp T.nf t h
theorem cmSS {sp : Sp} {b : Bool} {a c : Addr} {q r : Rat} {σ : L2.St} {H : Hp} (hi : σ[0]? = some (some (.ref a))) (hj : σ[1]? = some (some (.ref c))) (ha : ShQ K H a q) (hb : ShQ K H c r)
    (hsp : ∀ (H' : Hp) (Q : VK) (E : XK), Same H H' → (∀ H'', Same H' H'' → Q (.bl b) H'') → sp [.ref a, .ref c] H' Q E) : Cm (tOp (rCmpO (ga K "Share") sp E0) (tVar 0) (tVar 1)) σ H b := fun H' Q s k => by
  obtain ⟨dx, h1⟩ := ha.same s
  obtain ⟨dy, h2⟩ := hb.same s
  exact ⟨_, hi, _, hj, a, dx, _, c, dy, _, rfl, rfl, h1, h2, hsp H' _ _ s fun H'' s2 => ⟨_, rfl, k H'' s2⟩⟩
theorem cmSI (T : K02 K) {sp : Sp} {b : Bool} {a : Addr} {n : Int} {q : Rat} {σ : L2.St} {H : Hp} (hi : σ[0]? = some (some (.ref a))) (hj : σ[1]? = some (some (.int n))) (ha : ShQ K H a q)
    (hsp : ∀ (H' : Hp) (Q : VK) (E : XK), Same H H' → (∀ H'', Same H' H'' → Q (.bl b) H'') → sp [.ref a, .int n] H' Q E) : Cm (tOp (rCmpX K (ga K "Share") sp E0) (tVar 0) (tVar 1)) σ H b := fun H' Q s k => by
  obtain ⟨dx, h1⟩ := ha.same s
  exact ⟨_, hi, _, hj, a, dx, _, _, rfl, h1, .base (.int n), T.no (t := "int") (by decide), hsp H' _ _ s fun H'' s2 => ⟨_, rfl, k H'' s2⟩⟩
theorem cmIS {sp : Sp} {b : Bool} {a : Addr} {n : Int} {q : Rat} {σ : L2.St} {H : Hp} (hi : σ[0]? = some (some (.int n))) (hj : σ[1]? = some (some (.ref a))) (ha : ShQ K H a q)
    (hsp : ∀ (H' : Hp) (Q : VK) (E : XK), Same H H' → (∀ H'', Same H' H'' → Q (.bl b) H'') → sp [.ref a, .int n] H' Q E) : Cm (tOp (rBackI (ga K "Share") sp E0) (tVar 0) (tVar 1)) σ H b := fun H' Q s k => by
  obtain ⟨dx, h1⟩ := ha.same s
  exact ⟨_, hi, _, hj, a, dx, _, n, rfl, rfl, h1, hsp H' _ _ s fun H'' s2 => ⟨_, rfl, k H'' s2⟩⟩
def sp__law_same_orderSS (K : Frag) : Sp := fun vs H Q _ => ∃ (a c : Addr) (i j : Int) (q r : Rat), vs = [.ref a, .ref c, .int i, .int j] ∧ ShQ K H a q ∧ ShQ K H c r ∧ Bd 200 q ∧ Bd 200 r ∧ (q.num * r.den < r.num * q.den ↔ i < j) ∧ (r.num * q.den < q.num * r.den ↔ j < i) ∧ ∀ H', Same H H' → Q (.bl true) H'
def t__law_same_orderSS (K : Frag) (w : World) : TS :=
  (tSeq (tAsg (tLst (tCons (tOp (rCmpO (ga K "Share") (sp_Share___lt__X K) E0) (tVar 0) (tVar 1)) (tCons (tOp (rCmpO (ga K "Share") (sp_Share___le__X K) E0) (tVar 0) (tVar 1)) (tCons (tOp (rCmpO (ga K "Share") (sp_Share___gt__X K) E0) (tVar 0) (tVar 1)) (tCons (tOp (rCmpO (ga K "Share") (sp_Share___ge__X K) E0) (tVar 0) (tVar 1)) (tCons (tOp (rCmpO (ga K "Share") (sp_Share___eq__X K) E0) (tVar 0) (tVar 1)) (tCons (tOp (rCmpO (ga K "Share") (sp_Share___ne__X K) E0) (tVar 0) (tVar 1)) tNil))))))) (gName 4))
  (tSeq (tAsg (tLst (tCons (tOp oLt (tVar 2) (tVar 3)) (tCons (tOp oLe (tVar 2) (tVar 3)) (tCons (tOp oGt (tVar 2) (tVar 3)) (tCons (tOp oGe (tVar 2) (tVar 3)) (tCons (tOp rEq (tVar 2) (tVar 3)) (tCons (tOp rNe (tVar 2) (tVar 3)) tNil))))))) (gName 5))
  (tRet (tOp rEq (tCB (rReprG K) (tCons (tVar 4) tNil)) (tCB (rReprG K) (tCons (tVar 5) tNil))))))
def n__law_same_orderSS : List Str := ["_law_one", "_law_other", "_law_left", "_law_right", "_law_found", "_law_due"]
theorem rd__law_same_orderSS (vs : List V) (H : Hp) (Q : VK) (E : XK) (h : sp__law_same_orderSS K vs H Q E) : t__law_same_orderSS K w { nx := fun _ H' => Q .non H', rt := Q } (L2.start n__law_same_orderSS vs) H := by
  obtain ⟨a, c, i, j, q, r, rfl, ha, hc, bq, br, o1, o2, k⟩ := h
  obtain ⟨e1, e2, e3, e4, e5, e6⟩ := so_alike o1 o2
  unfold t__law_same_orderSS n__law_same_orderSS
  refine so_core (cmSS rfl rfl ha hc fun H' Q' E' s hk => ⟨a, .ref c, q, r, rfl, ha.same s, .inr ⟨c, rfl, hc.same s⟩, bq, br, hk⟩) (cmSS rfl rfl ha hc fun H' Q' E' s hk => ⟨a, .ref c, q, r, rfl, ha.same s, .inr ⟨c, rfl, hc.same s⟩, bq, br, hk⟩)
    (cmSS rfl rfl ha hc fun H' Q' E' s hk => ⟨a, .ref c, q, r, rfl, ha.same s, .inr ⟨c, rfl, hc.same s⟩, bq, br, hk⟩) (cmSS rfl rfl ha hc fun H' Q' E' s hk => ⟨a, .ref c, q, r, rfl, ha.same s, .inr ⟨c, rfl, hc.same s⟩, bq, br, hk⟩)
    (cmSS rfl rfl ha hc fun H' Q' E' s hk => ⟨a, .ref c, q, rfl, ha.same s, .inr ⟨r, .inr ⟨c, rfl, hc.same s⟩, br, hk⟩⟩) (cmSS rfl rfl ha hc fun H' Q' E' s hk => ⟨a, .ref c, q, rfl, ha.same s, .inr ⟨r, .inr ⟨c, rfl, hc.same s⟩, br, hk⟩⟩) e1 e2 e3 e4 e5 e6 k
def sp__law_same_orderSI (K : Frag) : Sp := fun vs H Q _ => ∃ (a : Addr) (n i j : Int) (q : Rat), vs = [.ref a, .int n, .int i, .int j] ∧ ShQ K H a q ∧ Bd 200 q ∧ Bd 200 (n : Rat) ∧ (q.num * (n : Rat).den < (n : Rat).num * q.den ↔ i < j) ∧ ((n : Rat).num * q.den < q.num * (n : Rat).den ↔ j < i) ∧ ∀ H', Same H H' → Q (.bl true) H'
def t__law_same_orderSI (K : Frag) (w : World) : TS :=
  (tSeq (tAsg (tLst (tCons (tOp (rCmpX K (ga K "Share") (sp_Share___lt__X K) E0) (tVar 0) (tVar 1)) (tCons (tOp (rCmpX K (ga K "Share") (sp_Share___le__X K) E0) (tVar 0) (tVar 1)) (tCons (tOp (rCmpX K (ga K "Share") (sp_Share___gt__X K) E0) (tVar 0) (tVar 1)) (tCons (tOp (rCmpX K (ga K "Share") (sp_Share___ge__X K) E0) (tVar 0) (tVar 1)) (tCons (tOp (rCmpX K (ga K "Share") (sp_Share___eq__X K) E0) (tVar 0) (tVar 1)) (tCons (tOp (rCmpX K (ga K "Share") (sp_Share___ne__X K) E0) (tVar 0) (tVar 1)) tNil))))))) (gName 4))
  (tSeq (tAsg (tLst (tCons (tOp oLt (tVar 2) (tVar 3)) (tCons (tOp oLe (tVar 2) (tVar 3)) (tCons (tOp oGt (tVar 2) (tVar 3)) (tCons (tOp oGe (tVar 2) (tVar 3)) (tCons (tOp rEq (tVar 2) (tVar 3)) (tCons (tOp rNe (tVar 2) (tVar 3)) tNil))))))) (gName 5))
  (tRet (tOp rEq (tCB (rReprG K) (tCons (tVar 4) tNil)) (tCB (rReprG K) (tCons (tVar 5) tNil))))))
def n__law_same_orderSI : List Str := ["_law_one", "_law_other", "_law_left", "_law_right", "_law_found", "_law_due"]
theorem rd__law_same_orderSI (T : K02 K) (vs : List V) (H : Hp) (Q : VK) (E : XK) (h : sp__law_same_orderSI K vs H Q E) : t__law_same_orderSI K w { nx := fun _ H' => Q .non H', rt := Q } (L2.start n__law_same_orderSI vs) H := by
  obtain ⟨a, n, i, j, q, rfl, ha, bq, br, o1, o2, k⟩ := h
  obtain ⟨e1, e2, e3, e4, e5, e6⟩ := so_alike o1 o2
  unfold t__law_same_orderSI n__law_same_orderSI
  refine so_core (cmSI T rfl rfl ha fun H' Q' E' s hk => ⟨a, .int n, q, n, rfl, ha.same s, .inl ⟨n, rfl, rfl⟩, bq, br, hk⟩) (cmSI T rfl rfl ha fun H' Q' E' s hk => ⟨a, .int n, q, n, rfl, ha.same s, .inl ⟨n, rfl, rfl⟩, bq, br, hk⟩)
    (cmSI T rfl rfl ha fun H' Q' E' s hk => ⟨a, .int n, q, n, rfl, ha.same s, .inl ⟨n, rfl, rfl⟩, bq, br, hk⟩) (cmSI T rfl rfl ha fun H' Q' E' s hk => ⟨a, .int n, q, n, rfl, ha.same s, .inl ⟨n, rfl, rfl⟩, bq, br, hk⟩)
    (cmSI T rfl rfl ha fun H' Q' E' s hk => ⟨a, .int n, q, rfl, ha.same s, .inr ⟨n, .inl ⟨n, rfl, rfl⟩, br, hk⟩⟩) (cmSI T rfl rfl ha fun H' Q' E' s hk => ⟨a, .int n, q, rfl, ha.same s, .inr ⟨n, .inl ⟨n, rfl, rfl⟩, br, hk⟩⟩) e1 e2 e3 e4 e5 e6 k
def sp__law_same_orderIS (K : Frag) : Sp := fun vs H Q _ => ∃ (a : Addr) (n i j : Int) (q : Rat), vs = [.int n, .ref a, .int i, .int j] ∧ ShQ K H a q ∧ Bd 200 q ∧ Bd 200 (n : Rat) ∧ ((n : Rat).num * q.den < q.num * (n : Rat).den ↔ i < j) ∧ (q.num * (n : Rat).den < (n : Rat).num * q.den ↔ j < i) ∧ ∀ H', Same H H' → Q (.bl true) H'
def t__law_same_orderIS (K : Frag) (w : World) : TS :=
  (tSeq (tAsg (tLst (tCons (tOp (rBackI (ga K "Share") (sp_Share___gt__X K) E0) (tVar 0) (tVar 1)) (tCons (tOp (rBackI (ga K "Share") (sp_Share___ge__X K) E0) (tVar 0) (tVar 1)) (tCons (tOp (rBackI (ga K "Share") (sp_Share___lt__X K) E0) (tVar 0) (tVar 1)) (tCons (tOp (rBackI (ga K "Share") (sp_Share___le__X K) E0) (tVar 0) (tVar 1)) (tCons (tOp (rBackI (ga K "Share") (sp_Share___eq__X K) E0) (tVar 0) (tVar 1)) (tCons (tOp (rBackI (ga K "Share") (sp_Share___ne__X K) E0) (tVar 0) (tVar 1)) tNil))))))) (gName 4))
  (tSeq (tAsg (tLst (tCons (tOp oLt (tVar 2) (tVar 3)) (tCons (tOp oLe (tVar 2) (tVar 3)) (tCons (tOp oGt (tVar 2) (tVar 3)) (tCons (tOp oGe (tVar 2) (tVar 3)) (tCons (tOp rEq (tVar 2) (tVar 3)) (tCons (tOp rNe (tVar 2) (tVar 3)) tNil))))))) (gName 5))
  (tRet (tOp rEq (tCB (rReprG K) (tCons (tVar 4) tNil)) (tCB (rReprG K) (tCons (tVar 5) tNil))))))
def n__law_same_orderIS : List Str := ["_law_one", "_law_other", "_law_left", "_law_right", "_law_found", "_law_due"]
theorem rd__law_same_orderIS (vs : List V) (H : Hp) (Q : VK) (E : XK) (h : sp__law_same_orderIS K vs H Q E) : t__law_same_orderIS K w { nx := fun _ H' => Q .non H', rt := Q } (L2.start n__law_same_orderIS vs) H := by
  obtain ⟨a, n, i, j, q, rfl, ha, bq, br, o1, o2, k⟩ := h
  obtain ⟨e1, e2, e3, e4, e5, e6⟩ := so_alike o1 o2
  have ec : decide ((n : Rat) = q) = decide (q = (n : Rat)) := decide_eq_decide.mpr ⟨Eq.symm, Eq.symm⟩
  rw [ec] at e5 e6
  unfold t__law_same_orderIS n__law_same_orderIS
  refine so_core (cmIS rfl rfl ha fun H' Q' E' s hk => ⟨a, .int n, q, n, rfl, ha.same s, .inl ⟨n, rfl, rfl⟩, bq, br, hk⟩) (cmIS rfl rfl ha fun H' Q' E' s hk => ⟨a, .int n, q, n, rfl, ha.same s, .inl ⟨n, rfl, rfl⟩, bq, br, hk⟩)
    (cmIS rfl rfl ha fun H' Q' E' s hk => ⟨a, .int n, q, n, rfl, ha.same s, .inl ⟨n, rfl, rfl⟩, bq, br, hk⟩) (cmIS rfl rfl ha fun H' Q' E' s hk => ⟨a, .int n, q, n, rfl, ha.same s, .inl ⟨n, rfl, rfl⟩, bq, br, hk⟩)
    (cmIS rfl rfl ha fun H' Q' E' s hk => ⟨a, .int n, q, rfl, ha.same s, .inr ⟨n, .inl ⟨n, rfl, rfl⟩, br, hk⟩⟩) (cmIS rfl rfl ha fun H' Q' E' s hk => ⟨a, .int n, q, rfl, ha.same s, .inr ⟨n, .inl ⟨n, rfl, rfl⟩, br, hk⟩⟩) e1 e2 e3 e4 e5 e6 k
theorem lc_not2 {i j : Nat} {z y : Str} {σ : L2.St} {H : Hp} {Q : VK} (hσ : σ[i]? = some (some (V.str z))) (hj : j < σ.length) (hz : z.length ≤ 1000000)
    (q : ∀ L, H L = none → Q (.ref L) (upd H L (.lst ((z.cps.toList.filter fun c => !decide (c ∈ y.cps.toList)).map fun c => V.str ⟨#[c]⟩)))) : tLc (iStr (tVar i)) (gName j) (tTest (tOp rNotInSg (tVar j) (tC (.str y)))) (tVar j) [j] σ H Q := by
  have hlen : z.cps.size = z.cps.toList.length := by simp
  refine ⟨_, hσ, z, rfl, fun L hL => lc_it walk_str (fun k H' => H' = upd H L (.lst (((z.cps.toList.take k).filter fun c => !decide (c ∈ y.cps.toList)).map fun c => V.str ⟨#[c]⟩))) rfl (fun k H' _ z => trivial) ?_ fun H' z => ?_⟩
  · rintro k x H1 H2 hk1 rfl ⟨rfl, c, e1, rfl⟩
    have hw : wipe ((wipe σ [j]).set j (some (.str ⟨#[c]⟩))) [j] = wipe σ [j] := by
      show ((σ.set j none).set j (some (.str ⟨#[c]⟩))).set j none = σ.set j none
      rw [List.set_set, List.set_set]
    refine ⟨hw, ?_⟩
    have hkn : k < z.cps.toList.length := by omega
    have e2 : z.cps.toList[k] = c := by
      have := List.getElem?_eq_getElem hkn
      rw [Array.getElem?_toList, e1] at this
      exact (Option.some.inj this).symm
    have e3 : ((wipe σ [j]).set j (some (V.str ⟨#[c]⟩)))[j]? = some (some (V.str ⟨#[c]⟩)) := by
      show ((σ.set j none).set j (some (V.str ⟨#[c]⟩)))[j]? = _
      rw [List.getElem?_set_self (by rw [List.length_set]; exact hj)]
    have e4 : z.cps.toList.take (k + 1) = z.cps.toList.take k ++ [c] := by rw [List.take_add_one, List.getElem?_eq_getElem hkn, e2]; rfl
    refine ⟨_, e3, c, y, rfl, rfl, _, rfl, ?_⟩
    cases hc : !decide (c ∈ y.cps.toList) with
    | false =>
      rw [if_neg Bool.noConfusion, e4, List.filter_append, List.filter_cons_of_neg (by rw [hc]; exact Bool.noConfusion), List.filter_nil, List.append_nil]
    | true =>
      rw [if_pos rfl]
      refine ⟨_, e3, _, upd_same, ?_, ?_⟩
      · rw [List.length_map]
        have h0 := List.length_filter_le (fun c => !decide (c ∈ y.cps.toList)) (z.cps.toList.take k)
        rw [List.length_take] at h0
        have h1 : z.cps.toList.length = z.length := by simp [Str.length]
        show _ < 16777216
        omega
      · rw [e4, List.filter_append, List.filter_cons_of_pos (p := fun c => !decide (c ∈ y.cps.toList)) hc, List.filter_nil, upd_two, List.map_append]
        rfl
  · subst z
    rw [hlen, List.take_length]
    exact q L hL
theorem bad_dp {H : Hp} : ∀ l : List Nat, DpAll K H (l.map fun c => V.str ⟨#[c]⟩) (l.map fun c => PyData.str ⟨#[c]⟩)
  | [] => .nil
  | c :: l => .cons (.str _) (bad_dp l)
theorem bad_shaped {l : List Nat} (h : ∀ c ∈ l, c < 1114112) : SeqAt.shaped (.list (l.map fun c => PyData.str ⟨#[c]⟩)) = true := by
  have k1 : ∀ l : List Nat, (∀ c ∈ l, c < 1114112) → PyData.canLayAll0 (l.map fun c => PyData.str ⟨#[c]⟩) = true := fun l => by
    induction l with
    | nil => intro _; rfl
    | cons c l ih =>
      intro h
      show (PyData.canLay0 (.str ⟨#[c]⟩) && PyData.canLayAll0 (l.map fun c => PyData.str ⟨#[c]⟩)) = true
      rw [ih fun x hx => h x (List.mem_cons_of_mem _ hx), Bool.and_true]
      show PySem.PyData.strOk ⟨#[c]⟩ = true
      unfold PySem.PyData.strOk
      simp [h c List.mem_cons_self]
  have k2 : ∀ l : List Nat, PyData.depthAll (l.map fun c => PyData.str ⟨#[c]⟩) = 0 := fun l => by
    induction l with
    | nil => rfl
    | cons c l ih =>
      show max (PyData.str ⟨#[c]⟩).depth (PyData.depthAll (l.map fun c => PyData.str ⟨#[c]⟩)) = 0
      rw [ih]
      rfl
  show (PyData.canLayAll0 (l.map fun c => PyData.str ⟨#[c]⟩) && decide (PyData.depthAll (l.map fun c => PyData.str ⟨#[c]⟩) + 1 ≤ 64)) = true
  rw [k1 l h, k2 l]
  rfl
def sp__law_wholeV (K : Frag) : Sp := fun vs H Q _ => ∃ z : Str, vs = [.str z] ∧ z.length ≤ 1000 ∧ (∀ c ∈ z.cps.toList, c < 1114112) ∧ ∀ H', Same H H' → Q (if canB z = true then .int (vlL (tl z)) else .non) H'
theorem nx2 {D : Ends} {σ : L2.St} {H : Hp} : tNext D σ H = D.nx σ H := rfl
theorem and2 {c d : TT} {A B : TS} {D : Ends} {σ : L2.St} {H : Hp} (b : Bool) (hc : ∀ Q : Bool → Hp → Prop, Q b H → c σ H Q) (h1 : b = true → tIfS d A B D σ H) (h0 : b = false → B D σ H) : tIfS (tAnd c d) A B D σ H := by
  refine hc _ ?_
  cases b with
  | true => exact h1 rfl
  | false => exact h0 rfl
def t__law_wholeV (K : Frag) (w : World) : TS :=
  (tSeq (tAsg (tIf (tTest (tOp rEq (tSl rSlS (tVar 0) tNoPart (tPart (tC (.int 1)))) (tC (.str "-")))) (tSl rSlS (tVar 0) (tPart (tC (.int 1))) tNoPart) (tVar 0)) (gName 1))
  (tSeq (tIfS (tOr (tTest (tOp rEq (tVar 1) (tC (.str "")))) (tOr (tTest (tOp oGt (tCB oLenS (tCons (tVar 1) tNil)) (tC (.int 200)))) (tTest (tOp (rNeD K) (tLc (iStr (tVar 1)) (gName 2) (tTest (tOp rNotInSg (tVar 2) (tC (.str "0123456789")))) (tVar 2) [2]) (tLst tNil))))) (tRet (tC .non)) tNext)
  (tSeq (tIfS (tAnd (tTest (tOp rEq (tOp rIxS (tVar 1) (tC (.int 0))) (tC (.str "0")))) (tTest (tOp rNe (tVar 0) (tC (.str "0"))))) (tRet (tC .non)) tNext)
  (tRet (tCB oIntS (tCons (tVar 0) tNil))))))
def n__law_wholeV : List Str := ["_law_word", "_law_figures", "_law_sign"]
theorem rd__law_wholeV (vs : List V) (H : Hp) (Q : VK) (E : XK) (h : sp__law_wholeV K vs H Q E) : t__law_wholeV K w { nx := fun _ H' => Q .non H', rt := Q } (L2.start n__law_wholeV vs) H := by
  obtain ⟨z, rfl, hl, hch, q⟩ := h
  have hz : sizeLine = 16777216 := rfl
  have hfl := fig_len z
  unfold t__law_wholeV n__law_wholeV
  rw [seq1]
  have key : ∀ f : Str, f = figT z → tSeq (tIfS (tOr (tTest (tOp rEq (tVar 1) (tC (.str "")))) (tOr (tTest (tOp oGt (tCB oLenS (tCons (tVar 1) tNil)) (tC (.int 200)))) (tTest (tOp (rNeD K) (tLc (iStr (tVar 1)) (gName 2) (tTest (tOp rNotInSg (tVar 2) (tC (.str "0123456789")))) (tVar 2) [2]) (tLst tNil))))) (tRet (tC .non)) tNext)
      (tSeq (tIfS (tAnd (tTest (tOp rEq (tOp rIxS (tVar 1) (tC (.int 0))) (tC (.str "0")))) (tTest (tOp rNe (tVar 0) (tC (.str "0"))))) (tRet (tC .non)) tNext)
      (tRet (tCB oIntS (tCons (tVar 0) tNil)))) { nx := fun _ H' => Q .non H', rt := Q } [some (.str z), some (.str f), none] H := by
    intro f hf
    subst hf
    rw [seq1]
    have ez : (decide (V.str (figT z) = V.str "")) = decide (figT z = "") := decide_eq_decide.mpr ⟨fun e => V.str.inj e, fun e => by rw [e]⟩
    have no : wrB z = false → ∀ H', Same H H' → Q .non H' := fun hw H' s => by
      have := q H' s
      rw [if_neg (by unfold canB; rw [hw]; exact Bool.noConfusion)] at this
      exact this
    have e0 : wrB z = ((!decide (figT z = "") && decide ((figT z).length ≤ 200)) && (figT z).cps.toList.all fun c => decide (c ∈ ("0123456789" : Str).cps.toList)) := rfl
    refine or2 (decide (figT z = "")) (fun Q' hq => ⟨_, rfl, rfl, _, rfl, by rw [ez]; exact hq⟩) (fun h1 => no (by rw [e0, h1]; rfl) H (Same.refl _)) (fun h1 => ?_)
    refine or2 (!decide ((figT z).length ≤ 200)) (fun Q' hq => ⟨_, rfl, figT z, rfl, by omega, _, _, rfl, rfl, _, rfl, ?_⟩) (fun h2 => ?_) (fun h2 => ?_)
    · have e : (!decide ((figT z).length ≤ 200)) = decide (((figT z).length : Int) > 200) := by
        by_cases h2 : (figT z).length ≤ 200
        · rw [decide_eq_true h2, decide_eq_false (by omega)]; rfl
        · rw [decide_eq_false h2, decide_eq_true (by omega)]; rfl
      rw [e] at hq
      exact hq
    · have h2 : decide ((figT z).length ≤ 200) = false := by rw [← Bool.not_eq_true', h2]
      exact no (by rw [e0, h1, h2]; rfl) H (Same.refl _)
    have h2 : decide ((figT z).length ≤ 200) = true := by
      cases hh : decide ((figT z).length ≤ 200) with
      | true => rfl
      | false => rw [hh] at h2; cases h2
    have hchf : ∀ c ∈ (figT z).cps.toList, c < 1114112 := fun c hc => by
      have hc : c ∈ tl (figT z) := hc
      rw [tl_fig] at hc
      rcases fig_cases (tl z) with ⟨r, e, f, _⟩ | ⟨f, _, _⟩
      · rw [f] at hc
        exact hch c (by show c ∈ tl z; rw [e]; exact List.mem_cons_of_mem _ hc)
      · rw [f] at hc
        exact hch c hc
    refine if2S (!((figT z).cps.toList.all fun c => decide (c ∈ ("0123456789" : Str).cps.toList))) (fun Q' hq => ?_) (fun h3 H2 s2 => no (by
      have h3 : ((figT z).cps.toList.all fun c => decide (c ∈ ("0123456789" : Str).cps.toList)) = false := by
        cases hh : (figT z).cps.toList.all fun c => decide (c ∈ ("0123456789" : Str).cps.toList) with
        | false => rfl
        | true => rw [hh] at h3; cases h3
      rw [e0, h1, h2, h3]; rfl) H2 s2) (fun h3 H2 s2 => ?_)
    · show tLc (iStr (tVar 1)) (gName 2) (tTest (tOp rNotInSg (tVar 2) (tC (.str "0123456789")))) (tVar 2) [2] [some (.str z), some (.str (figT z)), none] H (fun x H1 => tLst tNil [some (.str z), some (.str (figT z)), none] H1 fun y H2 => rNeD K x y H2 fun v H3 => ∃ k, v = .bl k ∧ Q' k H3)
      refine lc_not2 (z := figT z) (y := "0123456789") rfl (show 2 < 3 by decide) (by omega) fun L hL => ⟨(show 0 ≤ 16777216 by decide), fun M hM => ?_⟩
      have s1 := Same.new (o := .lst (((figT z).cps.toList.filter fun c => !decide (c ∈ ("0123456789" : Str).cps.toList)).map fun c => V.str ⟨#[c]⟩)) hL
      have g1 := updS H L (.lst (((figT z).cps.toList.filter fun c => !decide (c ∈ ("0123456789" : Str).cps.toList)).map fun c => V.str ⟨#[c]⟩))
      have sM := Same.new (o := .lst []) hM
      have e5 : (!PyData.eqv (.list (((figT z).cps.toList.filter fun c => !decide (c ∈ ("0123456789" : Str).cps.toList)).map fun c => PyData.str ⟨#[c]⟩)) (.list [])) = !((figT z).cps.toList.all fun c => decide (c ∈ ("0123456789" : Str).cps.toList)) := by
        congr 1
        rw [Bool.eq_iff_iff, List.all_eq_true]
        cases hb : (figT z).cps.toList.filter fun c => !decide (c ∈ ("0123456789" : Str).cps.toList) with
        | nil =>
          refine ⟨fun _ c hc => ?_, fun _ => rfl⟩
          cases hd : decide (c ∈ ("0123456789" : Str).cps.toList) with
          | true => rfl
          | false =>
            have : c ∈ (figT z).cps.toList.filter fun c => !decide (c ∈ ("0123456789" : Str).cps.toList) := List.mem_filter.mpr ⟨hc, by rw [hd]; rfl⟩
            rw [hb] at this
            cases this
        | cons c r =>
          refine ⟨fun y => (by cases y), fun y => ?_⟩
          have hm : c ∈ (figT z).cps.toList.filter fun c => !decide (c ∈ ("0123456789" : Str).cps.toList) := by rw [hb]; exact List.mem_cons_self
          obtain ⟨m1, m2⟩ := List.mem_filter.mp hm
          rw [y c m1] at m2
          cases m2
      refine ⟨_, _, .lst (SqL.of (sM _ _ g1)) (bad_dp _), .lst (SqL.of (updS _ _ _)) .nil, bad_shaped fun c hc => hchf c (List.mem_filter.mp hc).1, rfl, _, rfl, ?_⟩
      rw [e5]
      exact hq _ (s1.trans sM)
    have h3 : ((figT z).cps.toList.all fun c => decide (c ∈ ("0123456789" : Str).cps.toList)) = true := by
      cases hh : (figT z).cps.toList.all fun c => decide (c ∈ ("0123456789" : Str).cps.toList) with
      | true => rfl
      | false => rw [hh] at h3; cases h3
    have hw : wrB z = true := by rw [e0, h1, h2, h3]; rfl
    have wz := (wrB_iff z).mp hw
    obtain ⟨iz, lz⟩ := int_word wz
    have yes : canB z = true → (tRet (tCB oIntS (tCons (tVar 0) tNil))) { nx := fun _ H' => Q .non H', rt := Q } [some (.str z), some (.str (figT z)), none] H2 := fun hc => by
      have := q H2 s2
      rw [if_pos hc] at this
      exact ⟨_, rfl, z, _, rfl, iz, by omega, this⟩
    rw [nx2]
    dsimp only
    rw [seq1]
    obtain ⟨c, r, hcr⟩ : ∃ c r, tl (figT z) = c :: r := by
      rw [tl_fig]
      cases hh : figs (tl z) with
      | nil => exact absurd hh wz.ne
      | cons c r => exact ⟨c, r, rfl⟩
    have hat : atI (figT z).cps.toList 0 = some c := by
      have e : (figT z).cps.toList = c :: r := hcr
      rw [e]
      exact atI_nat (j := 0) rfl
    have hhd : (figs (tl z)).head? = some c := by rw [← tl_fig, hcr]; rfl
    have e48 : decide (V.str (⟨#[c]⟩ : Str) = V.str "0") = decide (c = 48) := decide_eq_decide.mpr ⟨fun y => by
      have y := congrArg tl (V.str.inj y)
      have e0 : tl ("0" : Str) = [48] := by decide +kernel
      rw [e0] at y
      injection y, fun y => by rw [y]; decide +kernel⟩
    have e49 : (!decide (V.str z = V.str "0")) = !decide (z = "0") := by
      congr 1
      exact decide_eq_decide.mpr ⟨fun e => V.str.inj e, fun e => by rw [e]⟩
    have ecan : canB z = !(decide (c = 48) && !decide (z = "0")) := by
      unfold canB
      rw [hw, hhd, Bool.true_and]
      congr 2
      exact decide_eq_decide.mpr ⟨fun y => Option.some.inj y, fun y => by rw [y]⟩
    refine and2 (decide (c = 48)) (fun Q' hq => ⟨_, rfl, figT z, 0, c, rfl, rfl, by omega, hat, rfl, _, rfl, by rw [e48]; exact hq⟩) (fun h4 => ?_) (fun h4 => ?_)
    rotate_left
    · exact yes (by rw [ecan, h4]; rfl)
    refine if2 (!decide (z = "0")) (fun Q' hq => ⟨_, rfl, rfl, _, rfl, by rw [e49]; exact hq⟩) (fun h5 => ?_) (fun h5 => ?_)
    rotate_left
    · exact yes (by rw [ecan, h4, h5]; rfl)
    have := q H2 s2
    rw [if_neg (by rw [ecan, h4, h5]; exact Bool.noConfusion)] at this
    exact this
  have ec : (decide (V.str (cutS z none (some 1)) = V.str "-")) = decide (cutS z none (some 1) = "-") := decide_eq_decide.mpr ⟨fun e => V.str.inj e, fun e => by rw [e]⟩
  unfold tSl tPart tNoPart rSlS
  walk_at "rsl"
  refine ⟨by omega, ?_⟩
  by_cases h : cutS z none (some 1) = "-"
  · rw [if_pos h]
    exact ⟨by omega, key _ (by unfold figT; rw [if_pos h])⟩
  · rw [if_neg h]
    exact key _ (by unfold figT; rw [if_neg h])
def whV (p : Str) : V := if canB p = true then .int (vlL (tl p)) else .non
theorem in_non : ∀ ps : List Str, inV .non (ps.map whV) = !ps.all canB
  | [] => rfl
  | p :: ps => by
    show (eqV (whV p) .non || inV .non (ps.map whV)) = !(canB p && ps.all canB)
    rw [in_non ps]
    unfold whV
    cases canB p with
    | true => rw [if_pos rfl]; rfl
    | false => rw [if_neg Bool.noConfusion]; rfl
theorem split_chars {t : Str} (h : ∀ c ∈ t.cps.toList, c < 1114112) : ∀ z ∈ Txt.split t "/", ∀ c ∈ z.cps.toList, c < 1114112 := fun z hz c hc => by
  have hj := join_slash t
  have mem : ∀ (ps : List (List Nat)) (p : List Nat), p ∈ ps → ∀ c ∈ p, c ∈ TL.joinL [47] ps := fun ps => by
    induction ps with
    | nil => intro p hp; cases hp
    | cons a r ih =>
      intro p hp c hc
      cases r with
      | nil =>
        rw [List.mem_singleton] at hp
        subst hp
        exact hc
      | cons b r =>
        show c ∈ a ++ ([47] ++ TL.joinL [47] (b :: r))
        rcases List.mem_cons.mp hp with rfl | hp
        · exact List.mem_append_left _ hc
        · exact List.mem_append_right _ (List.mem_append_right _ (ih p hp c hc))
  refine h c ?_
  show c ∈ tl t
  rw [hj]
  exact mem _ (tl z) (List.mem_map_of_mem hz) c hc
theorem split_cnt (t : Str) : (Txt.split t "/").length ≤ t.length + 1 := by
  have hk : ¬ Builtin.Str.strKind t < Builtin.Str.strKind ("/" : Str) := TL.kind_ok (by decide +kernel)
  have es : tl ("/" : Str) = [47] := by decide +kernel
  have e := TL.split_spl t "/" (by rw [es]; simp) hk
  rw [es] at e
  have len : ∀ (xs acc : List Nat), (TL.spl [47] 0 acc xs).length ≤ xs.length + 1 := by
    intro xs
    induction xs with
    | nil => intro acc; rw [TL.spl_nil]; exact Nat.le_refl 1
    | cons x xs ih =>
      intro acc
      by_cases h : TL.pre [47] (x :: xs) = true
      · rw [TL.spl_hit h]
        have := ih []
        simp only [List.length_cons] at *
        show (TL.spl [47] 0 [] xs).length + 1 ≤ _
        omega
      · rw [TL.spl, if_neg h]
        have := ih (acc ++ [x])
        simp only [List.length_cons] at *
        omega
  have h2 := congrArg List.length e
  rw [List.length_map] at h2
  rw [h2, TL.len_tl]
  exact len _ _
def sp__law_read (K : Frag) : Sp := fun vs H Q _ => ∃ t : Str, vs = [.str t] ∧ t.length ≤ 1000 ∧ (∀ c ∈ t.cps.toList, c < 1114112) ∧ (frL t = none → ∀ H', Same H H' → Q .non H') ∧ (∀ n m, frL t = some (n, m) → ∀ r H', Same H H' → H' r = some (.tup [.int n, .int m]) → Q (.ref r) H')
def t__law_read (K : Frag) (w : World) : TS :=
  (tSeq (tAsg (tM1 oSplit (tVar 0) (tC (.str "/"))) (gName 1))
  (tSeq (tAsg (tLc (iList K (tVar 1)) (gName 2) tYes (tFn (sp__law_wholeV K) E0 (tCons (tVar 2) tNil)) [2]) (gName 3))
  (tSeq (tIfS (tOr (tTest (tOp oGt (tCB rLenLH (tCons (tVar 1) tNil)) (tC (.int 2)))) (tTest (tOp (rIn K false) (tC .non) (tVar 3)))) (tRet (tC .non)) tNext)
  (tSeq (tIfS (tTest (tOp rEq (tCB rLenLH (tCons (tVar 1) tNil)) (tC (.int 1)))) (tRet (tTup (tCons (tOp rIxLH (tVar 3) (tC (.int 0))) (tCons (tC (.int 1)) tNil)))) tNext)
  (tSeq (tIfS (tOr (tTest (tOp oLt (tOp rIxLH (tVar 3) (tC (.int 1))) (tC (.int 2)))) (tOr (tTest (tOp rEq (tOp rIxS (tOp rIxLH (tVar 1) (tC (.int 1))) (tC (.int 0))) (tC (.str "-")))) (tTest (tOp rNe (tFn (sp__law_common K) E0 (tCons (tOp rIxLH (tVar 3) (tC (.int 0))) (tCons (tOp rIxLH (tVar 3) (tC (.int 1))) tNil))) (tC (.int 1)))))) (tRet (tC .non)) tNext)
  (tRet (tTup (tCons (tOp rIxLH (tVar 3) (tC (.int 0))) (tCons (tOp rIxLH (tVar 3) (tC (.int 1))) tNil)))))))))
def n__law_read : List Str := ["_law_text", "_law_words", "_law_word", "_law_parts"]
theorem rd__law_read (vs : List V) (H : Hp) (Q : VK) (E : XK) (h : sp__law_read K vs H Q E) : t__law_read K w { nx := fun _ H' => Q .non H', rt := Q } (L2.start n__law_read vs) H := by
  obtain ⟨t, rfl, hlen, hch, qn, qs⟩ := h
  unfold t__law_read n__law_read tM1 oSplit rNewStrs
  rw [seq1]
  walk_at "rsl"
  refine ⟨rfl, (by have : sizeLine = 16777216 := rfl; omega), fun l hl => ?_⟩
  have s0 := Same.new (o := .lst ((Txt.split t "/").map V.str)) hl
  have g0 := updS H l (.lst ((Txt.split t "/").map V.str))
  have hne := split_ne t
  have hsl := split_len hlen
  have hsc := split_chars hch
  have hcnt := split_cnt t
  unfold frL at qn qs
  generalize Txt.split t "/" = ps at *
  generalize upd H l (.lst (ps.map V.str)) = H1 at *
  rw [seq1]
  have ln : ((ps.map V.str).length : Int) = (ps.length : Int) := by rw [List.length_map]
  show tLc (iList K (tVar 1)) (gName 2) tYes (tFn (sp__law_wholeV K) E0 (tCons (tVar 2) tNil)) [2] [some (.str t), some (.ref l), none, none] H1 _
  refine lcL2 (K := K) (td := tVar 1) (te := tFn (sp__law_wholeV K) E0 (tCons (tVar 2) tNil)) (a := l) (xs := ps.map V.str) (F := ps.map whV) (by simp) (fun R h => ⟨_, rfl, h⟩) ?_ (fun H' s => SqL.of (s _ _ g0)) (fun k x y H' R hx hy s hR => ?_) (fun D H2 s2 hD => ?_)
  · rw [List.length_map]; omega
  · rw [List.getElem?_map] at hx hy
    cases e : ps[k]? with
    | none => rw [e] at hx; cases hx
    | some z =>
      rw [e] at hx hy
      cases hx
      cases hy
      exact ⟨_, rfl, z, rfl, hsl z (List.mem_of_getElem? e), hsc z (List.mem_of_getElem? e), fun H'' s2 => hR H'' s2⟩
  have s02 := s0.trans s2
  have g2 := s2 _ _ g0
  rw [gName1]
  simp only [L2.start, List.map_cons, List.map_nil, List.length_cons, List.length_nil, Nat.reduceAdd, Nat.reduceSub, List.replicate_succ, List.replicate_zero, List.cons_append, List.nil_append, List.set_cons_zero, List.set_cons_succ]
  rw [seq1]
  have flat : (ps.map whV).all flatV = true := by
    rw [List.all_map]
    refine List.all_eq_true.mpr fun p _ => ?_
    show flatV (whV p) = true
    unfold whV
    split <;> rfl
  refine or2 (decide ((ps.length : Int) > 2)) (fun Q' hq => ⟨_, rfl, l, _, rfl, g2, _, _, rfl, rfl, _, rfl, by rw [ln]; exact hq⟩) (fun h3 => ?_) (fun h3 => ?_)
  · have h3 := of_decide_eq_true h3
    refine qn ?_ H2 s02
    match ps, h3 with
    | [], h3 => rfl
    | [_], h3 => exact absurd h3 (show ¬ ((1 : Nat) : Int) > 2 by decide)
    | [_, _], h3 => exact absurd h3 (show ¬ ((2 : Nat) : Int) > 2 by decide)
    | _ :: _ :: _ :: _, _ => rfl
  have h3 : ps.length ≤ 2 := by have := of_decide_eq_false h3; omega
  refine if2 (!ps.all canB) (fun Q' hq => ⟨_, rfl, D, _, rfl, .inl (SqL.of hD), rfl, flat, _, rfl, by rw [if_neg Bool.false_ne_true, in_non]; exact hq⟩) (fun h4 => ?_) (fun h4 => ?_)
  · refine qn ?_ H2 s02
    have h4 : ¬ ps.all canB = true := fun z => by rw [z] at h4; cases h4
    match ps, h3 with
    | [], _ => rfl
    | [p], _ =>
      show (if canB p = true then some (vlL (tl p), (1 : Int)) else none) = none
      rw [if_neg (fun z => h4 (by show (canB p && true) = true; rw [z]; rfl))]
    | [p, q], _ =>
      show (if canB p = true ∧ canB q = true ∧ 2 ≤ vlL (tl q) ∧ Int.gcd (vlL (tl p)) (vlL (tl q)) = 1 then some (vlL (tl p), vlL (tl q)) else none) = none
      rw [if_neg (fun z => h4 (by show (canB p && (canB q && true)) = true; rw [z.1, z.2.1]; rfl))]
    | _ :: _ :: _ :: _, h3 => exact absurd h3 (by simp only [List.length_cons]; omega)
  have h4 : ps.all canB = true := by
    cases e : ps.all canB with
    | true => rfl
    | false => rw [e] at h4; cases h4
  rw [nx2]
  dsimp only
  rw [seq1]
  have wh : ∀ p ∈ ps, whV p = .int (vlL (tl p)) := fun p hp => by
    unfold whV
    rw [if_pos (List.all_eq_true.mp h4 p hp)]
  match ps, h3, hne with
  | [p], _, _ =>
    have hp := List.all_eq_true.mp h4 p List.mem_cons_self
    refine if2 true (fun Q' hq => ⟨_, rfl, l, _, rfl, g2, rfl, _, rfl, hq⟩) (fun _ => ?_) (fun z => by cases z)
    have at0 : atI ([p].map whV) 0 = some (.int (vlL (tl p))) := by rw [← wh p List.mem_cons_self]; exact atI_nat (j := 0) rfl
    refine ⟨_, rfl, D, _, 0, _, rfl, rfl, hD, at0, (show 2 ≤ 16777216 by decide), fun r hr => ?_⟩
    exact qs _ _ (by show (if canB p = true then some (vlL (tl p), (1 : Int)) else none) = _; rw [if_pos hp]) r _ (s02.trans (Same.new hr)) upd_same
  | [p, q], _, _ =>
    have hp := List.all_eq_true.mp h4 p List.mem_cons_self
    have hq := List.all_eq_true.mp h4 q (List.mem_cons_of_mem _ List.mem_cons_self)
    refine if2 false (fun Q' hq => ⟨_, rfl, l, _, rfl, g2, rfl, _, rfl, hq⟩) (fun z => by cases z) (fun _ => ?_)
    have at0 : atI ([p, q].map whV) 0 = some (.int (vlL (tl p))) := by rw [← wh p List.mem_cons_self]; exact atI_nat (j := 0) rfl
    have at1 : atI ([p, q].map whV) 1 = some (.int (vlL (tl q))) := by rw [← wh q (List.mem_cons_of_mem _ List.mem_cons_self)]; exact atI_nat (j := 1) rfl
    have atq : atI ([p, q].map V.str) 1 = some (V.str q) := atI_nat (j := 1) rfl
    have qn' : ¬ (2 ≤ vlL (tl q) ∧ Int.gcd (vlL (tl p)) (vlL (tl q)) = 1) → ∀ H', Same H H' → Q .non H' := fun c H' s => qn (by
      show (if canB p = true ∧ canB q = true ∧ 2 ≤ vlL (tl q) ∧ Int.gcd (vlL (tl p)) (vlL (tl q)) = 1 then some (vlL (tl p), vlL (tl q)) else none) = none
      rw [if_neg (fun z => c ⟨z.2.2.1, z.2.2.2⟩)]) H' s
    rw [nx2]
    dsimp only
    rw [seq1]
    refine or2 (decide (vlL (tl q) < 2)) (fun Q' hq => ⟨_, rfl, D, _, 1, _, rfl, rfl, hD, at1, _, _, rfl, rfl, _, rfl, hq⟩) (fun h5 => qn' (fun z => by have := of_decide_eq_true h5; omega) H2 s02) (fun h5 => ?_)
    have h5 : 2 ≤ vlL (tl q) := by have := of_decide_eq_false h5; omega
    have cq := (canB_iff q).mp hq
    obtain ⟨c, r, hcr, hc45⟩ : ∃ c r, tl q = c :: r ∧ c ≠ 45 := by
      cases hh : tl q with
      | nil =>
        have := cq.1.ne
        rw [hh] at this
        exact absurd rfl this
      | cons c r =>
        refine ⟨c, r, rfl, fun e => ?_⟩
        rw [hh, e] at h5
        have h5 : 2 ≤ -((NumText.digitsVal r : Nat) : Int) := h5
        omega
    have hat : atI q.cps.toList 0 = some c := by
      have e : q.cps.toList = c :: r := hcr
      rw [e]
      exact atI_nat (j := 0) rfl
    have hlq := hsl q (List.mem_cons_of_mem _ List.mem_cons_self)
    refine or2 false (fun Q' hq => ⟨_, rfl, l, _, 1, _, rfl, rfl, g2, atq, q, 0, c, rfl, rfl, (by have : sizeLine = 16777216 := rfl; omega), hat, rfl, _, rfl, ?_⟩) (fun z => by cases z) (fun _ => ?_)
    · rw [decide_eq_false (fun y => ?_)]
      · exact hq
      · have y := congrArg tl (V.str.inj y)
        rw [tl_min] at y
        injection y with y
        exact hc45 y
    refine if2 (!decide (Int.gcd (vlL (tl p)) (vlL (tl q)) = 1)) (fun Q' hq => ⟨_, rfl, D, _, 0, _, rfl, rfl, hD, at0, _, rfl, D, _, 1, _, rfl, rfl, hD, at1, _, _, rfl, .inr (by omega), by omega, fun g hg => ⟨rfl, _, rfl, ?_⟩⟩) (fun h6 => ?_) (fun h6 => ?_)
    · have e := isG_gcd hg
      have e7 : (!decide (V.int g = V.int 1)) = !decide (Int.gcd (vlL (tl p)) (vlL (tl q)) = 1) := by
        congr 1
        refine decide_eq_decide.mpr ⟨fun y => ?_, fun y => ?_⟩
        · have y := V.int.inj y
          rw [e, Int.gcd_comm] at y
          omega
        · rw [e, Int.gcd_comm, y]
          rfl
      rw [e7]
      exact hq
    · refine qn' (fun z => ?_) H2 s02
      rw [z.2] at h6
      cases h6
    · have h6 : Int.gcd (vlL (tl p)) (vlL (tl q)) = 1 := by
        by_cases e : Int.gcd (vlL (tl p)) (vlL (tl q)) = 1
        · exact e
        · rw [decide_eq_false e] at h6; cases h6
      refine ⟨_, rfl, D, _, 0, _, rfl, rfl, hD, at0, _, rfl, D, _, 1, _, rfl, rfl, hD, at1, (show 2 ≤ 16777216 by decide), fun r' hr => ?_⟩
      exact qs _ _ (by show (if canB p = true ∧ canB q = true ∧ 2 ≤ vlL (tl q) ∧ Int.gcd (vlL (tl p)) (vlL (tl q)) = 1 then some (vlL (tl p), vlL (tl q)) else none) = _; rw [if_pos ⟨hp, hq, h5, h6⟩]) r' _ (s02.trans (Same.new hr)) upd_same
  | _ :: _ :: _ :: _, h3, _ => exact absurd h3 (by simp only [List.length_cons]; omega)
end
end Tw
/-! Tw: k02's law looks at a text, and bends one -/
namespace Tw
open PySem PySem.Spec PyProof.Rows L2 He TwM StX LamX
open PySem.W (Frag)
open TL (tl)
local macro_rules | `(tactic| walk_at "rsl") => `(tactic| simp only [*, at3_0, at3_1, at3_2, at2_0, at2_1, updS, upd_two, gSub, L2.rSetL, updN, tPar, tPar3, gTup, gCons, gNil, and_assoc, not_true_eq_false, not_false_eq_true, tNever, List.length_map, tFld, rIxTH, rIxLH, rLenTH, rLenLH, lk1, lfs_g, lfs_s, lfs_p, HO.ins.injEq, HO.tup.injEq, HO.lst.injEq, sp_Book_rounding, sp_Book_action, sp_Book_order, sp_Book_due, sp_Book_zero, sp_Book_beyond, Int.toNat_natCast, sp_visit_after, sp_is_visited, sp_Level_grain, sp_Level_slots, sp_Level_span, sp_Wheel_reach, sp_Wheel___len__, sp_is_integer, sp_is_count, sp_is_within, sp_rounded, tAsg, gName, tVar, tC, tOp, rI, rI0, rU, tUn, oAdd, oSub, oMul, oDiv, oMod, oNeg, oLt, oLe, oGt, oGe, oIsN, oNotN, tFn, tCons, tNil, tIfS, tIf, tTest, tB, tNot, tAnd, tOr, tAndV, tOrV, tNotV,
    tRet, tRetN, tNext, tCB, tDrop, tChain, rEq, rNe, oMax2, oMin2, oInt1, rLenF, L2.start, List.map_cons, List.map_nil, List.length_cons, List.length_nil, List.replicate_succ, List.replicate_zero, List.cons_append, List.nil_append, Nat.reduceAdd, Nat.reduceSub, Nat.zero_add,
    List.set_cons_zero, List.set_cons_succ, List.getElem?_cons_zero, List.getElem?_cons_succ, Option.some.injEq, V.int.injEq, V.ref.injEq, V.str.injEq, V.bl.injEq, exists_eq_left', exists_eq_left, exists_and_left, List.cons.injEq, and_true, true_and, decide_eq_true_eq, sc_ii, sc_ss, sc_bb, sc_ni, sc_in, sc_nn, sc_is, reduceCtorEq,
    Bool.not_eq_true', decide_eq_false_iff_not, if_true, if_false, Bool.false_eq_true, exists_eq', exists_const, false_and, and_false, or_false, false_or, exists_false, Bool.not_not, Bool.not_true, Bool.not_false, sUp_up, sFire_fire, sHigh_high, sPut_put, sZone_now, sBey_refuse, sBey_cut, tTup, tLst, sz0, sz1, sz2, sz3, sz4, sz5, sz6])
local macro_rules | `(tactic| walk_at "st") => `(tactic| ((try dsimp only); rw [seq1]; walk_at "rsl"))
section
variable {K : Frag} {w : World}
abbrev TL2 (K : Frag) : List (Addr × Str) := [(tbA K (ga K "_law_text_right"), (("_law_text_right" : Str) ++ ".<locals>." ++ "<lambda>")), (tbA K (ga K "law"), (("law" : Str) ++ ".<locals>." ++ "<lambda>"))]
theorem okTxt2 : PySem.PyData.strOk "text" = true := by decide +kernel
theorem lit_r2 {i : Nat} {σ : L2.St} {H : Hp} {nm t : Str} {Q : VK} (h : σ[i]? = some (some (.str t))) (ok : OkD (.str t)) (q : ∀ (R : Addr), H R = none → Q (.ref R) (upd H R (.lst [.str nm, .str (PyData.str t).shown]))) :
    tLst (tCons (tC (.str nm)) (tCons (tCB (rReprG K) (tCons (tVar i) tNil)) tNil)) σ H Q := by
  obtain ⟨z1, z2, z3, z4⟩ := ok.1.elim (fun e => by cases e) id
  refine ⟨.str t, h, ?_⟩
  dsimp only [tNil]
  exact ⟨.str t, .str t, rfl, .str t, z1, z2, z3, z4, (show 2 ≤ 16777216 by decide), fun R hR => q R hR⟩
def sp__law_text_right (K : Frag) : Sp := fun vs H Q _ => ∃ (t : Str), vs = [.str t] ∧ TxOk t ∧ t.length ≤ 1000 ∧ Tabs (TL2 K) H ∧ ∀ H', ExtN H H' → Tabs (TL2 K) H' → Q (.bl true) H'
def t__law_text_right (K : Frag) (w : World) : TS :=
  (tSeq (tAsg (tFn (sp__law_read K) E0 (tCons (tVar 0) tNil)) (gName 1))
  (tSeq (tIfS (tTest (tOp oIsN (tVar 1) (tC .non))) (tRet (tOp (rEqD K) (LamX.tLam [(tbA K (ga K "_law_text_right"), (("_law_text_right" : PySem.Str) ++ ".<locals>." ++ "<lambda>")), (tbA K (ga K "law"), (("law" : PySem.Str) ++ ".<locals>." ++ "<lambda>"))] (TCg K) (fun E => (ClX.tCMeth (ga K "Share") (sp_Share_from_textR K) E (tC (.ref (ga K "Share"))) (tCons (tVar 0) tNil)))) (tLst (tCons (tC (.str "text")) (tCons (tCB (rReprG K) (tCons (tVar 0) tNil)) tNil))))) tNext)
  (tSeq (tAsg (ClX.tCMeth (ga K "Share") (sp_Share_from_text K) E0 (tC (.ref (ga K "Share"))) (tCons (tVar 0) tNil)) (gName 2))
  (tRet (tAndV (tOp rEq (tFn (sp_Share_text K) E0 (tCons (tVar 2) tNil)) (tVar 0)) (tOp rEq (tCB (rReprG K) (tCons (tTup (tCons (tFn (sp_Share_top K) E0 (tCons (tVar 2) tNil)) (tCons (tFn (sp_Share_bottom K) E0 (tCons (tVar 2) tNil)) tNil))) tNil)) (tCB (rReprG K) (tCons (tVar 1) tNil))))))))
def n__law_text_right : List Str := ["_law_text", "_law_due", "_law_found"]
theorem rd__law_text_right (TE : Ke K [("InvalidText", "text")]) (vs : List V) (H : Hp) (Q : VK) (E : XK) (h : sp__law_text_right K vs H Q E) : t__law_text_right K w { nx := fun _ H' => Q .non H', rt := Q } (L2.start n__law_text_right vs) H := by
  have kT : KeC K "InvalidText" "text" := TE ("InvalidText", "text") (by simp)
  obtain ⟨t, rfl, tx, hlen, hT, q⟩ := h
  have ok : OkD (.str t) := okD_str tx
  have hfr := fr_eq t
  unfold t__law_text_right n__law_text_right
  rw [seq1]
  refine ⟨_, rfl, t, rfl, hlen, tx.1, fun hn H1 s1 => ?_, fun n m hs r H1 s1 hr => ?_⟩
  · have hT1 : Tabs (TL2 K) H1 := hT.ext fun b o z => s1 _ _ z
    dsimp only
    rw [gName1]
    simp only [L2.start, List.map_cons, List.map_nil, List.length_cons, List.length_nil, Nat.reduceAdd, Nat.reduceSub, List.replicate_succ, List.replicate_zero, List.cons_append, List.nil_append, List.set_cons_zero, List.set_cons_succ]
    rw [seq1]
    refine if2 true (fun Q' hq => ⟨_, rfl, rfl, _, rfl, by rw [decide_eq_true rfl]; exact hq⟩) (fun _ => ?_) (fun z => by cases z)
    refine lam_errS kT hT1 ok (.at_ (x := .str t) rfl) (fun H2 E Q2 e2 hE => ?_) fun R H2 hR e2 T2 => ?_
    · exact ⟨rfl, .str t, rfl, .str t, .str t, rfl, .at_ rfl, fun t' e => by cases e; exact ⟨hlen, by rw [hfr, hn]; rfl⟩, fun H' dd s' hdd => hE H' dd s' hdd⟩
    · refine lit_r2 (σ := [some (.str t), some .non, none]) rfl ok fun R2 hR2 => ?_
      have s3 := Same.new (o := .lst [.str "text", .str (PyData.str t).shown]) hR2
      exact pair_sameE okTxt2 ok.2 (s3 _ _ hR) (updS _ _ _) (q _ ((Same.toN s1).trans (e2.trans (Same.toN s3))) (T2.ext fun b o z => s3 _ _ z))
  · dsimp only
    rw [gName1]
    simp only [L2.start, List.map_cons, List.map_nil, List.length_cons, List.length_nil, Nat.reduceAdd, Nat.reduceSub, List.replicate_succ, List.replicate_zero, List.cons_append, List.nil_append, List.set_cons_zero, List.set_cons_succ]
    rw [seq1]
    refine if2 false (fun Q' hq => ⟨_, rfl, rfl, _, rfl, by rw [decide_eq_false (fun z => by cases z)]; exact hq⟩) (fun z => by cases z) (fun _ => ?_)
    rw [nx2]
    dsimp only
    rw [seq1]
    obtain ⟨l1, l2⟩ := frL_low hs
    refine ⟨rfl, .str t, rfl, t, _, rfl, hlen, by rw [hfr, hs]; rfl, fun a H2 s2 hA bd ht => ?_⟩
    dsimp only
    rw [gName1]
    simp only [List.set_cons_zero, List.set_cons_succ]
    have hr2 := s2 _ _ hr
    refine ⟨_, rfl, a, _, rfl, hA, bd, _, rfl, rfl, _, rfl, ?_⟩
    dsimp only at hA bd ht ⊢
    obtain ⟨b1, b2⟩ := txt_le bd
    unfold ShQ at hA
    rw [l1] at hA b1
    rw [l2] at hA b2
    rw [if_pos (decide_eq_true (by rw [ht]))]
    have hb : ∀ x ∈ [n, m], x.natAbs.log2 < 1920 := fun x hx => by
      simp only [List.mem_cons, List.not_mem_nil, or_false] at hx
      rcases hx with rfl | rfl
      · exact b1
      · exact b2
    refine ⟨_, rfl, a, n, m, rfl, hA, _, rfl, a, n, m, rfl, hA, (show 2 ≤ 16777216 by decide), fun p hp => ?_⟩
    have sp := Same.new (o := .tup [V.int n, .int m]) hp
    have gp := updS H2 p (.tup [V.int n, .int m])
    have hr3 := sp _ _ hr2
    generalize upd H2 p (.tup [V.int n, .int m]) = H3 at *
    dsimp only [tNil]
    refine repr_ints (l := [n, m]) (.tup (SqT.of gp) (.cons (.int n) (.cons (.int m) .nil))) (show 2 ≤ 8000 by decide) hb ⟨_, rfl, ?_⟩
    dsimp only [tNil]
    refine repr_ints (l := [n, m]) (.tup (SqT.of hr3) (.cons (.int n) (.cons (.int m) .nil))) (show 2 ≤ 8000 by decide) hb ⟨rfl, ?_⟩
    rw [decide_eq_true rfl]
    have s13 := (s1.trans s2).trans sp
    exact q _ (Same.toN s13) (hT.ext fun b o z => s13 _ _ z)
/-! ### short texts -/
def Sm2 (n : Nat) (s : Str) : Prop := (∀ c ∈ tl s, c < 256) ∧ s.length ≤ n
theorem Sm2.mono {n m : Nat} {s : Str} (h : Sm2 n s) (e : n ≤ m) : Sm2 m s := ⟨h.1, Nat.le_trans h.2 e⟩
theorem Sm2.tx {n : Nat} {s : Str} (h : Sm2 n s) (e : n ≤ 1000) : TxOk s := ⟨fun c hc => Nat.lt_trans (h.1 c hc) (by decide), Nat.le_trans h.2 (Nat.le_trans e (by decide))⟩
theorem Sm2.cat {n m : Nat} {s t : Str} (h : Sm2 n s) (k : Sm2 m t) : Sm2 (n + m) (s ++ t) := by
  have e := TL.tl_append s t
  refine ⟨fun c hc => ?_, ?_⟩
  · rw [e] at hc
    exact (List.mem_append.mp hc).elim (h.1 c) (k.1 c)
  · have := h.2
    have := k.2
    rw [TL.len_tl, e, List.length_append, ← TL.len_tl, ← TL.len_tl]
    omega
theorem cut_tl (s : Str) (lo hi : Option Int) : tl (cutS s lo hi) = ((tl s).drop (HT.sIx s.length 0 lo)).take (HT.sIx s.length s.length hi - HT.sIx s.length 0 lo) := rfl
theorem Sm2.bend {n : Nat} {s m : Str} {i j : Int} (h : Sm2 n s) (hm : Sm2 1 m) (i0 : 0 ≤ i) (hij : i ≤ j) : Sm2 (n + 1) (cutS s none (some i) ++ m ++ cutS s (some j) none) := by
  have in_ : ∀ lo hi, ∀ c ∈ tl (cutS s lo hi), c < 256 := fun lo hi c hc => by
    rw [cut_tl] at hc
    exact h.1 c (List.mem_of_mem_drop (List.mem_of_mem_take hc))
  refine ⟨fun c hc => ?_, ?_⟩
  · rw [TL.tl_append, TL.tl_append] at hc
    rcases List.mem_append.mp hc with z | z
    · rcases List.mem_append.mp z with z | z
      · exact in_ _ _ c z
      · exact hm.1 c z
    · exact in_ _ _ c z
  · have e1 : (tl (cutS s none (some i))).length ≤ i.toNat := by
      rw [cut_tl]
      refine Nat.le_trans (List.length_take_le _ _) ?_
      have a1 : HT.sIx s.length 0 none = 0 := rfl
      have a2 : HT.sIx s.length s.length (some i) ≤ i.toNat := by
        unfold HT.sIx
        dsimp only
        rw [if_neg (by omega)]
        omega
      omega
    have e2 : (tl (cutS s (some j) none)).length ≤ s.length - j.toNat := by
      rw [cut_tl]
      refine Nat.le_trans (List.length_take_le' _ _) ?_
      rw [List.length_drop, ← TL.len_tl]
      have a1 : HT.sIx s.length 0 (some j) = min j.toNat s.length := by
        unfold HT.sIx
        dsimp only
        rw [if_neg (by omega)]
      rw [a1]
      omega
    have e3 : (tl (cutS s none (some i))).length ≤ s.length := by
      rw [cut_tl]
      refine Nat.le_trans (List.length_take_le' _ _) ?_
      rw [List.length_drop, ← TL.len_tl]
      omega
    have := h.2
    have h1 := hm.2
    rw [TL.len_tl] at h1
    rw [TL.len_tl, TL.tl_append, TL.tl_append, List.length_append, List.length_append]
    omega
theorem par2 {i j : Nat} {ta tb : TE} {D : Ends} {σ : L2.St} {H : Hp} : tPar i j (tCons ta (tCons tb tNil)) D σ H = ta σ H fun x H1 => tb σ H1 fun y H2 => ∃ v w, [x, y] = [v, w] ∧ D.nx ((σ.set i (some v)).set j (some w)) H2 := rfl
def sp__law_bent (K : Frag) : Sp := fun vs H Q _ => ∃ (p l : Addr) (t : Str) (n : Nat), vs = [.ref p, .str t] ∧ PoolAt H p l ∧ Sm2 n t ∧ n ≤ 900 ∧ ∀ s H', SameP p l H H' → PoolAt H' p l → Sm2 (n + 1) s → Q (.str s) H'
def t__law_bent (K : Frag) (w : World) : TS :=
  (tSeq (tPar 2 3 (tCons (tFn (sp__law_draw K) E0 (tCons (tVar 0) (tCons (tOp oAdd (tCB oLenS (tCons (tVar 1) tNil)) (tC (.int 1))) tNil))) (tCons (tOp rIxS (tC (.str "0123456789/-+ ._a")) (tFn (sp__law_draw K) E0 (tCons (tVar 0) (tCons (tC (.int 17)) tNil)))) tNil)))
  (tSeq (tAsg (tFn (sp__law_draw K) E0 (tCons (tVar 0) (tCons (tC (.int 3)) tNil))) (gName 4))
  (tRet (tOp oAddS (tOp oAddS (tSl rSlS (tVar 1) tNoPart (tPart (tVar 2))) (tOp rIxLH (tLst (tCons (tC (.str "")) (tCons (tVar 3) tNil))) (tCB oInt1 (tCons (tOp oGt (tVar 4) (tC (.int 0))) tNil)))) (tSl rSlS (tVar 1) (tPart (tOp oAdd (tVar 2) (tCB oInt1 (tCons (tOp oLt (tVar 4) (tC (.int 2))) tNil)))) tNoPart)))))
def n__law_bent : List Str := ["_law_pool", "_law_text", "_law_at", "_law_sign", "_law_way"]
theorem rd__law_bent (vs : List V) (H : Hp) (Q : VK) (E : XK) (h : sp__law_bent K vs H Q E) : t__law_bent K w { nx := fun _ H' => Q .non H', rt := Q } (L2.start n__law_bent vs) H := by
  obtain ⟨p, l, t, n, rfl, hp, ht, hn, q⟩ := h
  have hl := ht.2
  have hsz : sizeLine = 16777216 := rfl
  unfold t__law_bent n__law_bent
  simp only [L2.start, List.map_cons, List.map_nil, List.length_cons, List.length_nil, Nat.reduceAdd, Nat.reduceSub, List.replicate_succ, List.replicate_zero, List.cons_append, List.nil_append]
  rw [seq1, par2]
  refine ⟨_, rfl, _, rfl, t, rfl, by omega, _, _, rfl, rfl, draw (K := K) hp (by omega) (log_small (by omega) (by omega)) fun at_ H1 s1 hp1 t0 t1 => ?_⟩
  refine ⟨_, rfl, draw (K := K) hp1 (by decide) (by decide) fun c H2 s2 hp2 c0 c1 => ?_⟩
  obtain ⟨v, hv, e⟩ : ∃ v, ("0123456789/-+ ._a" : Str).cps.toList[c.toNat]? = some v ∧ atI ("0123456789/-+ ._a" : Str).cps.toList c = some v := by
    have hlen : ("0123456789/-+ ._a" : Str).cps.toList.length = 17 := by decide +kernel
    refine ⟨_, List.getElem?_eq_getElem (by omega), ?_⟩
    unfold atI ixN
    rw [if_pos c0, if_pos (by omega)]
    exact List.getElem?_eq_getElem (by omega)
  refine ⟨_, c, v, rfl, rfl, (show (("0123456789/-+ ._a" : Str)).length ≤ 16777216 by decide +kernel), e, _, _, rfl, ?_⟩
  have hvm : v < 256 := by
    have key : ∀ x ∈ ("0123456789/-+ ._a" : Str).cps.toList, x < 256 := by decide +kernel
    exact key v (List.mem_of_getElem? hv)
  have hsg : Sm2 1 ⟨#[v]⟩ := ⟨fun x hx => by
    have hx : x ∈ [v] := hx
    rw [List.mem_singleton] at hx
    rw [hx]; exact hvm, Nat.le_refl 1⟩
  simp only [List.set_cons_zero, List.set_cons_succ]
  rw [seq1]
  refine ⟨_, rfl, draw (K := K) hp2 (by decide) (by decide) fun way H3 s3 hp3 w0 w1 => ?_⟩
  dsimp only
  rw [gName1]
  simp only [List.set_cons_zero, List.set_cons_succ]
  have s13 := (s1.trans s2).trans s3
  generalize (⟨#[v]⟩ : Str) = sg at *
  unfold tSl tPart tNoPart rSlS
  walk_at "rsl"
  refine ⟨by omega, by decide, fun L hL => ?_⟩
  have sL := Same.new (o := .lst [V.str "", .str sg]) hL
  have key : ∀ m : Str, Sm2 1 m → ∃ j : Int, at_ ≤ j ∧ (at_ + if way < 2 then 1 else 0) = j ∧ Sm2 (n + 1) (cutS t none (some at_) ++ m ++ cutS t (some j) none) ∧ (cutS t none (some at_)).length ≤ n ∧ (cutS t (some j) none).length ≤ n := fun m hm => by
    refine ⟨at_ + if way < 2 then 1 else 0, by split <;> omega, rfl, ht.bend hm t0 (by split <;> omega), ?_, ?_⟩
    · rw [TL.len_tl, cut_tl]
      refine Nat.le_trans (List.length_take_le' _ _) ?_
      rw [List.length_drop, ← TL.len_tl]
      omega
    · rw [TL.len_tl, cut_tl]
      refine Nat.le_trans (List.length_take_le' _ _) ?_
      rw [List.length_drop, ← TL.len_tl]
      omega
  have fin : ∀ m : Str, Sm2 1 m → oAddS (V.str (cutS t none (some at_))) (.str m) (upd H3 L (.lst [V.str "", .str sg])) fun x H1 => t.length ≤ 16777216 ∧ oAddS x (V.str (cutS t (some (at_ + if way < 2 then 1 else 0)) none)) H1 Q := fun m hm => by
    obtain ⟨j, hj, ej, hs, k1, k2⟩ := key m hm
    have k3 := hm.2
    rw [ej]
    refine ⟨_, _, rfl, rfl, by omega, by omega, _, _, rfl, rfl, by rw [Str.length_append]; omega, ?_⟩
    exact q _ _ (s13.step sL) (hp3.same sL) hs
  by_cases hw : 0 < way
  · rw [if_pos hw]
    exact ⟨.str sg, rfl, fin sg hsg⟩
  · rw [if_neg hw]
    have h0 : Sm2 1 ("" : Str) := by
      have e : tl ("" : Str) = [] := by decide +kernel
      refine ⟨fun c hc => ?_, by decide +kernel⟩
      rw [e] at hc
      cases hc
    exact ⟨.str "", rfl, fin "" h0⟩
end
end Tw
/-! Tw (plain): shares compared by cross products -/
namespace Tw
open PySem
theorem rat_parts (a : Int) {b : Int} (hb : 0 < b) : ∃ g : Int, 0 < g ∧ a = g * (Rat.divInt a b).num ∧ b = g * ((Rat.divInt a b).den : Int) := by
  have hg : IsG a b (b.gcd a : Int) := by
    refine ⟨?_, fun d => ?_⟩
    · have : b.gcd a ≠ 0 := fun z => by
        have := (Int.gcd_eq_zero_iff.mp z).1
        omega
      omega
    · rw [Int.dvd_coe_gcd_iff]
      exact And.comm
  obtain ⟨u, l, e1, e2, g0, e3, e4⟩ := dv_rat (by omega : b ≠ 0) hg
  have hs : b.sign = 1 := Int.sign_eq_one_of_pos hb
  rw [hs, Int.one_mul] at e3 e4
  exact ⟨_, g0, by rw [e3]; exact e1, by rw [e4]; exact e2⟩
theorem lt_cross {a b c d : Int} (hb : 0 < b) (hd : 0 < d) : (Rat.divInt a b).num * ((Rat.divInt c d).den : Int) < (Rat.divInt c d).num * ((Rat.divInt a b).den : Int) ↔ a * d < c * b := by
  obtain ⟨g, g0, e1, e2⟩ := rat_parts a hb
  obtain ⟨h, h0, e3, e4⟩ := rat_parts c hd
  generalize (Rat.divInt a b).num = n1 at *
  generalize ((Rat.divInt a b).den : Int) = d1 at *
  generalize (Rat.divInt c d).num = n2 at *
  generalize ((Rat.divInt c d).den : Int) = d2 at *
  have k1 : a * d = (g * h) * (n1 * d2) := by rw [e1, e4]; ac_rfl
  have k2 : c * b = (g * h) * (n2 * d1) := by rw [e3, e2]; ac_rfl
  rw [k1, k2]
  exact (Int.mul_lt_mul_left (Int.mul_pos g0 h0)).symm
end Tw
/-! Tw: the law of shares in order and as texts -/
namespace Tw
open PySem PySem.Spec PyProof.Rows L2 He TwM StX LamX
open PySem.W (Frag)
open TL (tl)
local macro_rules | `(tactic| walk_at "rsl") => `(tactic| simp only [*, at3_0, at3_1, at3_2, at2_0, at2_1, updS, upd_two, gSub, L2.rSetL, updN, tPar, tPar3, gTup, gCons, gNil, and_assoc, not_true_eq_false, not_false_eq_true, tNever, List.length_map, tFld, rIxTH, rIxLH, rLenTH, rLenLH, lk1, lfs_g, lfs_s, lfs_p, HO.ins.injEq, HO.tup.injEq, HO.lst.injEq, sp_Book_rounding, sp_Book_action, sp_Book_order, sp_Book_due, sp_Book_zero, sp_Book_beyond, Int.toNat_natCast, sp_visit_after, sp_is_visited, sp_Level_grain, sp_Level_slots, sp_Level_span, sp_Wheel_reach, sp_Wheel___len__, sp_is_integer, sp_is_count, sp_is_within, sp_rounded, tAsg, gName, tVar, tC, tOp, rI, rI0, rU, tUn, oAdd, oSub, oMul, oDiv, oMod, oNeg, oLt, oLe, oGt, oGe, oIsN, oNotN, tFn, tCons, tNil, tIfS, tIf, tTest, tB, tNot, tAnd, tOr, tAndV, tOrV, tNotV,
    tRet, tRetN, tNext, tCB, tDrop, tChain, rEq, rNe, oMax2, oMin2, oInt1, rLenF, L2.start, List.map_cons, List.map_nil, List.length_cons, List.length_nil, List.replicate_succ, List.replicate_zero, List.cons_append, List.nil_append, Nat.reduceAdd, Nat.reduceSub, Nat.zero_add,
    List.set_cons_zero, List.set_cons_succ, List.getElem?_cons_zero, List.getElem?_cons_succ, Option.some.injEq, V.int.injEq, V.ref.injEq, V.str.injEq, V.bl.injEq, exists_eq_left', exists_eq_left, exists_and_left, List.cons.injEq, and_true, true_and, decide_eq_true_eq, sc_ii, sc_ss, sc_bb, sc_ni, sc_in, sc_nn, sc_is, reduceCtorEq,
    Bool.not_eq_true', decide_eq_false_iff_not, if_true, if_false, Bool.false_eq_true, exists_eq', exists_const, false_and, and_false, or_false, false_or, exists_false, Bool.not_not, Bool.not_true, Bool.not_false, sUp_up, sFire_fire, sHigh_high, sPut_put, sZone_now, sBey_refuse, sBey_cut, tTup, tLst, sz0, sz1, sz2, sz3, sz4, sz5, sz6])
local macro_rules | `(tactic| walk_at "st") => `(tactic| ((try dsimp only); rw [seq1]; walk_at "rsl"))
section
variable {K : Frag} {w : World}
theorem seq2 {a r : TS} {D : Ends} {σ : L2.St} {H : Hp} (I : L2.St → Hp → Prop) (h1 : ∀ R : L2.St → Hp → Prop, (∀ σ' H', I σ' H' → R σ' H') → a { D with nx := R } σ H) (h2 : ∀ σ' H', I σ' H' → r D σ' H') : tSeq a r D σ H := h1 _ h2
theorem lc_three {p l : Addr} {x0 x2 x3 x4 x5 x6 x7 x8 x9 x10 x11 x12 x13 x14 : Option V} {H : Hp} {Q : VK} (hp : PoolAt H p l) (hT : Tabs (TL2 K) H) (q : ∀ D i j k H', PoolAt H' p l → Tabs (TL2 K) H' → H' D = some (.lst [.int i, .int j, .int k]) → i.natAbs < 2 ^ 100 → j.natAbs < 2 ^ 100 → k.natAbs < 2 ^ 100 → Q (.ref D) H') :
    tLc (iRng1 (tCons (tC (.int 3)) tNil)) (gName 3) tYes (tFn (sp__law_integer K) E0 (tCons (tVar 1) tNil)) [3] [x0, some (.ref p), x2, x3, x4, x5, x6, x7, x8, x9, x10, x11, x12, x13, x14] H Q := by
  refine ⟨3, rfl, by decide, by decide, fun D hD => ?_⟩
  have ap := hp.apart hD
  refine lc_range (fun i H' => SameP p l H H' ∧ PoolAt H' p l ∧ ∃ is : List Int, is.length = i ∧ H' D = some (.lst (is.map V.int)) ∧ ∀ x ∈ is, x.natAbs < 2 ^ 100) ⟨Same.toP (Same.new hD), hp.new hD, [], rfl, upd_same, fun x hx => by cases hx⟩ ?_ ?_
  · rintro i H1 hi ⟨s1, hp1, is, hl, hD1, hall⟩
    refine ⟨rfl, ?_⟩
    simp only [tYes, if_true]
    refine ⟨_, rfl, p, l, rfl, hp1, fun x H2 s2 hp2 hx => ⟨_, s2 _ _ ap.1 ap.2 hD1, ?_, SameP.updf (s1.trans s2) hD, PoolAt.updr hp2 ap, is ++ [x], by simp [hl], by rw [upd_same, List.map_append]; rfl, fun y hy => ?_⟩⟩
    · have : sizeLine = 16777216 := rfl
      rw [List.length_map, hl]
      have : i < 3 := hi
      omega
    · rcases List.mem_append.mp hy with h | h
      · exact hall y h
      · rw [List.mem_singleton.mp h]; exact hx
  · rintro H1 ⟨s1, hp1, is, hl, hD1, hall⟩
    have hl : is.length = 3 := hl
    obtain ⟨i, j, k, rfl⟩ : ∃ i j k, is = [i, j, k] := by
      rcases is with _ | ⟨i, _ | ⟨j, _ | ⟨k, _ | ⟨m, is⟩⟩⟩⟩
      · cases hl
      · cases hl
      · cases hl
      · exact ⟨i, j, k, rfl⟩
      · simp at hl
    exact q D i j k H1 hp1 (Tabs.sameP hp s1 hT) hD1 (hall i (by simp)) (hall j (by simp)) (hall k (by simp))
theorem or2F {c d : TT} {A B : TS} {D : Ends} {σ : L2.St} {H : Hp} (hc : ∀ Q : Bool → Hp → Prop, (∀ H', Same H H' → Q false H') → c σ H Q) (hd : ∀ H', Same H H' → tIfS d A B D σ H') : tIfS (tOr c d) A B D σ H := by
  refine hc _ fun H' s => ?_
  exact hd H' s
theorem if2F {c : TT} {A B : TS} {D : Ends} {σ : L2.St} {H : Hp} (hc : ∀ Q : Bool → Hp → Prop, (∀ H', Same H H' → Q false H') → c σ H Q) (hd : ∀ H', Same H H' → B D σ H') : tIfS c A B D σ H := by
  refine hc _ fun H' s => ?_
  exact hd H' s
theorem repr_bl2 {H : Hp} {b : Bool} {Q : VK} (q : Q (.str (PyData.bool b).shown) H) : rReprG K [.bl b] H Q :=
  ⟨.bl b, .bool b, rfl, .bl b, by cases b <;> decide +kernel, rfl, (show 0 ≤ 16 by decide), by cases b <;> decide +kernel, q⟩
theorem Ov.ty2 {H : Hp} {x : V} {d : PyData} (h : Ov H x d) (nd : d ≠ .dict []) : ∃ t, t ∈ backTs ∧ TyX K H x (.type t) := by
  cases h with
  | at_ h =>
    cases x with
    | non => exact ⟨"NoneType", by decide, .base .non⟩
    | bl b => exact ⟨"bool", by decide, .base (.bl b)⟩
    | int i => exact ⟨"int", by decide, .base (.int i)⟩
    | str y => exact ⟨"str", by decide, .base (.str y)⟩
    | _ => cases h
  | tup h f => exact ⟨"tuple", by decide, .base (.tup h)⟩
  | lst h f => exact ⟨"list", by decide, .base (.lst h)⟩
  | dict h => exact absurd rfl nd
theorem shown2 : (PyData.list ([false, true, false].map PyData.bool)).shown = "[False, True, False]" := by decide +kernel
theorem sm_num {n : Int} (h : n.natAbs < 2 ^ 200) : Sm2 70 (numS n) := by
  have h1 : (2 : Nat) ^ 200 ≤ 10 ^ 61 := by decide +kernel
  have hl := TL.numL_len (n := n.natAbs) (k := 61) (by decide) (by omega)
  have hd := TL.numL_digits n.natAbs
  refine ⟨fun c hc => ?_, ?_⟩
  · rw [tl_numS] at hc
    unfold numZ at hc
    split at hc
    · rcases List.mem_cons.mp hc with rfl | hc
      · decide
      · have := hd c hc; omega
    · have := hd c hc; omega
  · rw [TL.len_tl, tl_numS]
    unfold numZ
    split
    · rw [List.length_cons]; omega
    · omega
theorem sm_sl : Sm2 1 ("/" : Str) := by
  have e : tl ("/" : Str) = [47] := by decide +kernel
  refine ⟨fun c hc => ?_, by decide +kernel⟩
  rw [e, List.mem_singleton] at hc
  rw [hc]
  decide
theorem sm_txt {q : Rat} (h : Bd 200 q) : Sm2 141 (txtQ q) := by
  have h1 := sm_num h.1
  have h2 : Sm2 70 (numS (q.den : Int)) := sm_num (by have := h.2; omega)
  unfold txtQ
  split
  · exact h1.mono (by decide)
  · exact (h1.cat sm_sl).cat h2
structure Nm02 (a b c d n : Int) : Prop where
  a_ : a.natAbs < 2 ^ 100
  c_ : c.natAbs < 2 ^ 100
  n_ : n.natAbs < 2 ^ 100
  b0 : 0 < b
  d0 : 0 < d
  b_ : b.natAbs < 2 ^ 100
  d_ : d.natAbs < 2 ^ 100
structure Fx02 (K : Frag) (p l sh ot : Addr) (a b c d : Int) (H : Hp) : Prop where
  hp : PoolAt H p l
  hT : Tabs (TL2 K) H
  hs : ShQ K H sh (Rat.divInt a b)
  ho : ShQ K H ot (Rat.divInt c d)
theorem Fx02.extN {p l sh ot : Addr} {a b c d : Int} {H H' : Hp} (h : Fx02 K p l sh ot a b c d H) (e : ExtN H H') (t : Tabs (TL2 K) H') : Fx02 K p l sh ot a b c d H' := ⟨h.hp.extN e, t, h.hs.extN e, h.ho.extN e⟩
theorem Fx02.same {p l sh ot : Addr} {a b c d : Int} {H H' : Hp} (h : Fx02 K p l sh ot a b c d H) (s : Same H H') : Fx02 K p l sh ot a b c d H' := h.extN (Same.toN s) (h.hT.ext fun b o z => s _ _ z)
theorem Tabs.upd7 {b : Addr} {H : Hp} {xs xs' : List V} {T : List (Addr × Str)} (t : Tabs T H) (hb : H b = some (.lst xs)) : Tabs T (upd H b (.lst xs')) := by
  intro q hq
  obtain ⟨ps, h1, h2, h3⟩ := t q hq
  have ne : ∀ {c : Addr} {o : HO}, H c = some o → (∀ ys, o ≠ .lst ys) → (upd H b (.lst xs')) c = some o := fun {c o} e n => by
    rw [upd_ne (fun z => by rw [z, hb] at e; exact n _ (Option.some.inj e).symm)]
    exact e
  refine ⟨ps, ne h1 (fun ys z => by cases z), h2, fun pos cv hc => ?_⟩
  obtain ⟨c, e1, e2⟩ := h3 pos cv hc
  exact ⟨c, e1, ne e2 (fun ys z => by cases z)⟩
theorem wipe7 {σ : L2.St} {j : Nat} {x : V} : wipe ((wipe σ [j]).set j (some x)) [j] = wipe σ [j] := by
  show ((σ.set j none).set j (some x)).set j none = σ.set j none
  rw [List.set_set, List.set_set]
theorem repr7 {H : Hp} {x : V} {d : PyData} {Q : VK} (h : Ov H x d) (k : OkD d) (nd : d ≠ .dict []) (q : Q (.str d.shown) H) : rReprG K [x] H Q := by
  obtain ⟨k, _⟩ := k
  obtain ⟨z1, z2, z3, z4⟩ := k.elim (fun e => absurd e nd) id
  refine ⟨x, d, rfl, ?_, z1, z2, z3, z4, q⟩
  cases h with
  | at_ h =>
    cases x with
    | non => cases h; exact .non
    | bl b => cases h; exact .bl b
    | int i => cases h; exact .int i
    | str y => cases h; exact .str y
    | _ => cases h
  | tup h f => exact .tup (SqT.of h) (flD_dp f)
  | lst h f => exact .lst (SqL.of h) (flD_dp f)
  | dict h => exact absurd rfl nd
def Prs7 (H : Hp) (D : Addr) (ds : List PyData) : Prop := ∃ rs : List Addr, H D = some (.lst (rs.map V.ref)) ∧ rs.length = ds.length ∧ ∀ (j : Nat) (r : Addr) (d : PyData), rs[j]? = some r → ds[j]? = some d → H r = some (.lst [.str "text", .str d.shown])
theorem Prs7.ext {H H' : Hp} {D : Addr} {ds : List PyData} (h : Prs7 H D ds) (e : ExtN H H') : Prs7 H' D ds := by
  obtain ⟨rs, h1, h2, h3⟩ := h
  exact ⟨rs, e _ _ h1 (fun ps z => by cases z), h2, fun j r d a b => e _ _ (h3 j r d a b) fun ps z => by cases z⟩
theorem lc7 {te : TE} {j : Nat} {a : Addr} {xs : List V} {ds : List PyData} {σ : L2.St} {H : Hp} {Q : VK} (hT : Tabs (TL2 K) H) (ha : H a = some (.lst xs)) (hl : ds.length = xs.length) (hz : xs.length ≤ 1000)
    (hall : ∀ (k : Nat) (x : V) (d : PyData), xs[k]? = some x → ds[k]? = some d → Ov H x d ∧ OkD d)
    (st : ∀ (k : Nat) (x : V) (d : PyData) (H' : Hp) (R : VK), xs[k]? = some x → ds[k]? = some d → ExtN H H' → Tabs (TL2 K) H' → Ov H' x d → OkD d → (∀ (r : Addr) (H'' : Hp), ExtN H' H'' → Tabs (TL2 K) H'' → H'' r = some (.lst [.str "text", .str d.shown]) → R (.ref r) H'') → te ((wipe σ [j]).set j (some x)) H' R)
    (q : ∀ (D : Addr) (H' : Hp), ExtN H H' → Tabs (TL2 K) H' → Prs7 H' D ds → Q (.ref D) H') {D : Addr} (hD : H D = none) :
    ∃ W : Nat → Nat → Hp → Prop, (∃ m, W 0 m (upd H D (.lst []))) ∧ ∀ i m H, W i m H → ((Itl K a).stop i H ∧ Q (.ref D) H) ∨ ((Itl K a).go i H ∧ ∃ Nx : Hp → Prop, (∀ H', Nx H' → ∃ m', m' < m ∧ W (i + 1) m' H') ∧ ∀ x H', (Itl K a).yld i H x H' → gName j x (wipe σ [j]) H' fun σ2 H2 => wipe σ2 [j] = wipe σ [j] ∧ tYes σ2 H2 fun b H3 =>
        if b = true then te σ2 H3 fun y H4 => ∃ acc, H4 D = some (.lst acc) ∧ acc.length < sizeLine ∧ Nx (upd H4 D (.lst (acc ++ [y]))) else Nx H3) := by
  refine lc_list (K := K) (a := a) (xs := xs) (fun k H' => ExtN H H' ∧ Tabs (TL2 K) H' ∧ ∃ rs : List Addr, H' D = some (.lst (rs.map V.ref)) ∧ rs.length = k ∧ (∀ r ∈ rs, r ≠ D) ∧ ∀ (i : Nat) (r : Addr) (d : PyData), rs[i]? = some r → ds[i]? = some d → H' r = some (.lst [.str "text", .str d.shown]))
    ⟨Same.toN (Same.new hD), hT.ext fun b o z => Same.new hD _ _ z, [], upd_same, rfl, fun r hr => (by cases hr), fun i r d e => (by cases e)⟩ (fun i H' _ z => SqL.of (z.1 _ _ ha fun ps z => by cases z)) ?_ ?_
  · rintro k x H1 hx ⟨e1, t1, rs, h1, h2, h3, h4⟩
    have hk := (List.getElem?_eq_some_iff.mp hx).1
    obtain ⟨d, hd⟩ : ∃ d, ds[k]? = some d := ⟨_, List.getElem?_eq_getElem (by omega)⟩
    obtain ⟨ho, ok⟩ := hall k x d hx hd
    rw [gName1]
    refine ⟨wipe7, ?_⟩
    unfold tYes
    dsimp only
    rw [if_pos rfl]
    refine st k x d H1 _ hx hd e1 t1 (ho.extN e1) ok fun r H2 e2 t2 hr => ?_
    have hD2 := e2 _ _ h1 (fun ps z => by cases z)
    have nr : r ≠ D := fun z => by
      rw [z, hD2] at hr
      have hr := HO.lst.inj (Option.some.inj hr)
      cases rs with
      | nil => cases hr
      | cons r0 rs => rw [List.map_cons] at hr; injection hr with hr _; cases hr
    refine ⟨_, hD2, by rw [List.length_map]; have : sizeLine = 16777216 := rfl; omega, ?_, Tabs.upd7 t2 hD2, rs ++ [r], ?_, by rw [List.length_append, h2]; rfl, fun r' hr' => ?_, fun i r' d' a b => ?_⟩
    · intro c o z n
      rw [upd_ne (fun w => by rw [w, hD] at z; cases z)]
      exact (e1.trans e2) c o z n
    · rw [upd_same, List.map_append]
      rfl
    · rcases List.mem_append.mp hr' with z | z
      · exact h3 _ z
      · rw [List.mem_singleton] at z
        rw [z]; exact nr
    · rcases Nat.lt_or_ge i rs.length with z | z
      · rw [List.getElem?_append_left z] at a
        rw [upd_ne (h3 _ (List.mem_of_getElem? a))]
        exact e2 _ _ (h4 i r' d' a b) fun ps z => by cases z
      · have hi : i = rs.length := by
          have := (List.getElem?_eq_some_iff.mp a).1
          rw [List.length_append] at this
          simp only [List.length_singleton] at this
          omega
        subst hi
        rw [List.getElem?_append_right (Nat.le_refl _), Nat.sub_self] at a
        cases a
        rw [h2, hd] at b
        cases b
        rw [upd_ne nr]
        exact hr
  · rintro H1 ⟨e1, t1, rs, h1, h2, h3, h4⟩
    exact q D H1 e1 t1 ⟨rs, h1, by rw [h2, hl], h4⟩
abbrev ds7 : List PyData := [.none, .int 3, .list [.str "1"]]
theorem tlc7 {te : TE} {j : Nat} {σ : L2.St} {H : Hp} {Q : VK} (hT : Tabs (TL2 K) H)
    (st : ∀ (x : V) (d : PyData) (H' : Hp) (R : VK), ExtN H H' → Tabs (TL2 K) H' → Ov H' x d → OkD d → d ≠ .dict [] → (∀ t, x ≠ .str t) → (∀ (r : Addr) (H'' : Hp), ExtN H' H'' → Tabs (TL2 K) H'' → H'' r = some (.lst [.str "text", .str d.shown]) → R (.ref r) H'') → te ((wipe σ [j]).set j (some x)) H' R)
    (q : ∀ (D : Addr) (H' : Hp), ExtN H H' → Tabs (TL2 K) H' → Prs7 H' D ds7 → Q (.ref D) H') :
    tLc (iList K (tLst (tCons (tC .non) (tCons (tC (.int 3)) (tCons (tLst (tCons (tC (.str "1")) tNil)) tNil))))) (gName j) tYes te [j] σ H Q := by
  refine ⟨(show 1 ≤ 16777216 by decide), fun M hM => ⟨(show 3 ≤ 16777216 by decide), fun L hL => ⟨L, rfl, ⟨_, SqL.of upd_same⟩, fun D hD => ?_⟩⟩⟩
  have sM := Same.new (o := .lst [V.str "1"]) hM
  have gM := updS H M (.lst [V.str "1"])
  generalize upd H M (.lst [V.str "1"]) = H2 at *
  have sL := Same.new (o := .lst [V.non, .int 3, .ref M]) hL
  have gL := updS H2 L (.lst [V.non, .int 3, .ref M])
  have gM2 := sL _ _ gM
  have sa := sM.trans sL
  have hT2 : Tabs (TL2 K) (upd H2 L (.lst [V.non, .int 3, .ref M])) := hT.ext fun b o z => sa _ _ z
  generalize upd H2 L (.lst [V.non, .int 3, .ref M]) = H3 at *
  have hall : ∀ (k : Nat) (x : V) (d : PyData), [V.non, .int 3, .ref M][k]? = some x → ds7[k]? = some d → (Ov H3 x d ∧ OkD d) ∧ d ≠ .dict [] ∧ ∀ t, x ≠ .str t := fun k x d e1 e2 => by
    match k with
    | 0 => cases e1; cases e2; exact ⟨⟨.at_ rfl, okD_of (by decide +kernel)⟩, (fun z => by cases z), fun t z => by cases z⟩
    | 1 => cases e1; cases e2; exact ⟨⟨.at_ rfl, okD_of (by decide +kernel)⟩, (fun z => by cases z), fun t z => by cases z⟩
    | 2 => cases e1; cases e2; exact ⟨⟨.lst gM2 rfl, okD_of (by decide +kernel)⟩, (fun z => by cases z), fun t z => by cases z⟩
    | k + 3 => cases e1
  refine lc7 (te := te) (j := j) (σ := σ) (Q := Q) (ds := ds7) hT2 gL rfl (show 3 ≤ 1000 by decide) (fun k x d e1 e2 => (hall k x d e1 e2).1) (fun k x d H4 R e1 e2 x4 t4 ho ok hR => ?_) (fun D1 H4 x4 t4 p4 => q D1 H4 ((Same.toN sa).trans x4) t4 p4) hD
  exact st x d H4 R ((Same.toN sa).trans x4) t4 ho ok (hall k x d e1 e2).2.1 (hall k x d e1 e2).2.2 hR
theorem sm_nines : Sm2 200 (Txt.mul "9" 200) := ⟨by decide +kernel, by decide +kernel⟩
theorem mul_ok9 : MulOk "9" 200 := ⟨by decide +kernel, fun _ _ => by decide +kernel, fun _ _ => by decide +kernel⟩
def sm2B (n : Nat) (s : Str) : Bool := (tl s).all (fun c => decide (c < 256)) && decide (s.length ≤ n)
theorem sm2_of {n : Nat} {s : Str} (h : sm2B n s = true) : Sm2 n s := by
  unfold sm2B at h
  rw [Bool.and_eq_true] at h
  exact ⟨fun c hc => of_decide_eq_true (List.all_eq_true.mp h.1 c hc), of_decide_eq_true h.2⟩
def lits2 : List Str := ["", "-", "-0", "00", "1/0", "1/-2", "0/2", "0/1", "1/1"]
theorem lits2_sm {t : Str} (h : t ∈ lits2) : Sm2 10 t := by
  have e : lits2.all (fun t => sm2B 10 t) = true := by decide +kernel
  exact sm2_of (List.all_eq_true.mp e t h)
def sp_law (K : Frag) : Sp := fun vs H Q _ => ∃ (a : Addr) (ns : List Int), vs = [.ref a] ∧ SqL K H a (ns.map V.int) ∧ ns.length ≤ 63 ∧ H (tbA K (ga K "_law_text_right")) = some (.tbl #[]) ∧ H (tbA K (ga K "law")) = some (.tbl #[]) ∧ ∀ H', Q (.bl true) H'
def lawInv (K : Frag) (a0 p l : Addr) (i : Nat) (σ : L2.St) (H' : Hp) : Prop :=
  ∃ (v2 v3 v4 v5 v6 v7 v8 v9 v10 v11 v12 v13 v14 : Option V), σ = [some (.ref a0), some (.ref p), v2, v3, v4, v5, v6, v7, v8, v9, v10, v11, v12, v13, v14] ∧ PoolAt H' p l ∧ Tabs (TL2 K) H'
def t_law (K : Frag) (w : World) : TS :=
  (tSeq (tAsg (tFn (sp__law_begin K) E0 (tCons (tVar 0) tNil)) (gName 1))
  (tSeq (tFor (iRng1 (tCons (tC (.int 8)) tNil)) (gName 2)
    (tSeq (tAsg (tLc (iRng1 (tCons (tC (.int 3)) tNil)) (gName 3) tYes (tFn (sp__law_integer K) E0 (tCons (tVar 1) tNil)) [3]) (gUnl K 3 (gCons (gName 4) (gCons (gName 5) (gCons (gName 6) gNil)))))
  (tSeq (tPar 7 8 (tCons (tOp oAdd (tC (.int 1)) (tFn (sp__law_draw K) E0 (tCons (tVar 1) (tCons (tC (.int 60)) tNil)))) (tCons (tOp oAdd (tC (.int 1)) (tFn (sp__law_draw K) E0 (tCons (tVar 1) (tCons (tOp oPow (tC (.int 10)) (tC (.int 30))) tNil)))) tNil)))
  (tSeq (tPar 9 10 (tCons (tMakeR (ga K "Share") (sp_Share___init__ K) E0 (tCons (tVar 4) (tCons (tVar 7) tNil))) (tCons (tMakeR (ga K "Share") (sp_Share___init__ K) E0 (tCons (tVar 5) (tCons (tVar 8) tNil))) tNil)))
  (tSeq (tIfS (tOr (tNot (tB (tFn (sp__law_same_orderSS K) E0 (tCons (tVar 9) (tCons (tVar 10) (tCons (tOp oMulW (tVar 4) (tVar 8)) (tCons (tOp oMulW (tVar 5) (tVar 7)) tNil))))))) (tNot (tB (tFn (sp__law_same_orderSS K) E0 (tCons (tVar 10) (tCons (tVar 9) (tCons (tOp oMulW (tVar 5) (tVar 7)) (tCons (tOp oMulW (tVar 4) (tVar 8)) tNil)))))))) (tRet (tC (.bl false))) tNext)
  (tSeq (tIfS (tNot (tB (tFn (sp__law_same_orderSS K) E0 (tCons (tVar 9) (tCons (tMakeR (ga K "Share") (sp_Share___init__ K) E0 (tCons (tVar 4) (tCons (tVar 7) tNil))) (tCons (tVar 4) (tCons (tVar 4) tNil))))))) (tRet (tC (.bl false))) tNext)
  (tSeq (tIfS (tOr (tNot (tB (tFn (sp__law_same_orderSI K) E0 (tCons (tVar 9) (tCons (tVar 6) (tCons (tVar 4) (tCons (tOp oMulW (tVar 6) (tVar 7)) tNil))))))) (tNot (tB (tFn (sp__law_same_orderIS K) E0 (tCons (tVar 6) (tCons (tVar 9) (tCons (tOp oMulW (tVar 6) (tVar 7)) (tCons (tVar 4) tNil)))))))) (tRet (tC (.bl false))) tNext)
  (tSeq (tIfS (tTest (tOp rNe (tCB (rReprG K) (tCons (tCB (rBoolOwn (ga K "Share") (sp_Share___bool__ K) E0) (tCons (tVar 9) tNil)) tNil)) (tCB (rReprG K) (tCons (tOp rNe (tVar 4) (tC (.int 0))) tNil)))) (tRet (tC (.bl false))) tNext)
  (tSeq (tFor (iList K (tLst (tCons (tC (.bl true)) (tCons (tC (.bl false)) (tCons (tC .non) (tCons (tFn (sp_Share_text K) E0 (tCons (tVar 9) tNil)) (tCons (tTup (tCons (tVar 4) (tCons (tVar 7) tNil))) (tCons (tLst (tCons (tVar 4) tNil)) tNil)))))))) (gName 11)
    (tIfS (tTest (tOp rNe (tCB (rReprG K) (tCons (tLst (tCons (tOp (rCmpX K (ga K "Share") (sp_Share___eq__X K) E0) (tVar 9) (tVar 11)) (tCons (tOp (rCmpX K (ga K "Share") (sp_Share___ne__X K) E0) (tVar 9) (tVar 11)) (tCons (tOp (rBackE (ga K "Share") (sp_Share___eq__X K) E0) (tVar 11) (tVar 9)) tNil)))) tNil)) (tC (.str "[False, True, False]")))) (tRet (tC (.bl false))) tNext))
  (tFor (iList K (tLst (tCons (tFn (sp_Share_text K) E0 (tCons (tVar 9) tNil)) (tCons (tFn (sp_Share_text K) E0 (tCons (tVar 10) tNil)) (tCons (tOp oAddS (tOp oAddS (tCB oStrI (tCons (tOp oMulW (tC (.int 2)) (tVar 4)) tNil)) (tC (.str "/"))) (tCB oStrI (tCons (tOp oMulW (tC (.int 2)) (tVar 7)) tNil))) (tCons (tOp oAddS (tOp oAddS (tCB oStrI (tCons (tVar 4) tNil)) (tC (.str "/"))) (tCB oStrI (tCons (tVar 7) tNil))) tNil)))))) (gName 12)
    (tIfS (tOr (tNot (tB (tFn (sp__law_text_right K) E0 (tCons (tVar 12) tNil)))) (tNot (tB (tFn (sp__law_text_right K) E0 (tCons (tFn (sp__law_bent K) E0 (tCons (tVar 1) (tCons (tVar 12) tNil))) tNil))))) (tRet (tC (.bl false))) tNext)))))))))))
  (tSeq (tAsg (tOp rMulT (tC (.str "9")) (tC (.int 200))) (gName 13))
  (tSeq (tAsg (tLst (tCons (tC (.str "")) (tCons (tC (.str "-")) (tCons (tC (.str "-0")) (tCons (tC (.str "00")) (tCons (tC (.str "1/0")) (tCons (tC (.str "1/-2")) (tCons (tC (.str "0/2")) (tCons (tC (.str "0/1")) (tCons (tC (.str "1/1")) tNil)))))))))) (gName 14))
  (tSeq (tFor (iList K (tOp rCat (tVar 14) (tLst (tCons (tVar 13) (tCons (tOp oAddS (tC (.str "-1/")) (tVar 13)) (tCons (tOp oAddS (tC (.str "1")) (tVar 13)) (tCons (tOp oAddS (tC (.str "1/1")) (tVar 13)) tNil))))))) (gName 12)
    (tIfS (tNot (tB (tFn (sp__law_text_right K) E0 (tCons (tVar 12) tNil)))) (tRet (tC (.bl false))) tNext))
  (tRet (tOp (rEqD K) (tLc (iList K (tLst (tCons (tC .non) (tCons (tC (.int 3)) (tCons (tLst (tCons (tC (.str "1")) tNil)) tNil))))) (gName 11) tYes (LamX.tLam [(tbA K (ga K "_law_text_right"), (("_law_text_right" : PySem.Str) ++ ".<locals>." ++ "<lambda>")), (tbA K (ga K "law"), (("law" : PySem.Str) ++ ".<locals>." ++ "<lambda>"))] (TCg K) (fun E => (ClX.tCMeth (ga K "Share") (sp_Share_from_textR K) E (tC (.ref (ga K "Share"))) (tCons (tVar 11) tNil)))) [11]) (tLc (iList K (tLst (tCons (tC .non) (tCons (tC (.int 3)) (tCons (tLst (tCons (tC (.str "1")) tNil)) tNil))))) (gName 11) tYes (tLst (tCons (tC (.str "text")) (tCons (tCB (rReprG K) (tCons (tVar 11) tNil)) tNil))) [11]))))))))
def n_law : List Str := ["_law_script", "_law_pool", "_law_turn", "_law_k", "_law_a", "_law_c", "_law_number", "_law_b", "_law_d", "_law_share", "_law_other", "_law_odd", "_law_text", "_law_nines", "_law_some"]
theorem rd_law (T : Kx K w) (T2 : K02 K) (TE : Ke K [("InvalidText", "text")]) (vs : List V) (H : Hp) (Q : VK) (E : XK) (h : sp_law K vs H Q E) : t_law K w { nx := fun _ H' => Q .non H', rt := Q } (L2.start n_law vs) H := by
  have kT : KeC K "InvalidText" "text" := TE ("InvalidText", "text") (by simp)
  obtain ⟨a0, ns, rfl, ha, hl, hB1, hB2, q⟩ := h
  unfold t_law n_law
  rw [seq1]
  walk_at "rsl"
  refine ⟨a0, ns, rfl, ha, hl, fun p l H0 hp0 s0 => ?_⟩
  have hT0 : Tabs (TL2 K) H0 := fun q hq => by
    simp only [List.mem_cons, List.not_mem_nil, or_false] at hq
    rcases hq with rfl | rfl
    · exact TabS.nil (s0 _ _ hB1)
    · exact TabS.nil (s0 _ _ hB2)
  try dsimp only
  rw [seq1]
  refine ⟨_, rfl, by decide, by decide, for_range (lawInv K a0 p l) ⟨_, _, _, _, _, _, _, _, _, _, _, _, _, rfl, hp0, hT0⟩ ?_ (fun σ H' hI => ?_)⟩
  · rintro i σ H1 hi ⟨v2, v3, v4, v5, v6, v7, v8, v9, v10, v11, v12, v13, v14, rfl, hp1, hT1⟩
    rw [gName1]
    simp only [List.set_cons_zero, List.set_cons_succ]
    refine seq2 (fun σ' H' => ∃ a c n v3, σ' = [some (.ref a0), some (.ref p), some (.int (0 + (i : Int))), v3, some (.int a), some (.int c), some (.int n), v7, v8, v9, v10, v11, v12, v13, v14] ∧ PoolAt H' p l ∧ Tabs (TL2 K) H' ∧ a.natAbs < 2 ^ 100 ∧ c.natAbs < 2 ^ 100 ∧ n.natAbs < 2 ^ 100) (fun R hR => ?_) ?_
    · refine lc_three hp1 hT1 fun D a c n H2 hp2 hT2 hD2 ha1 hc1 hn1 => ?_
      refine ⟨D, _, rfl, SqL.of hD2, rfl, _, _, rfl, _, _, rfl, _, _, rfl, rfl, ?_⟩
      exact hR _ _ ⟨a, c, n, _, rfl, hp2, hT2, ha1, hc1, hn1⟩
    rintro σ' H2 ⟨a, c, n, u3, rfl, hp2, hT2, ha1, hc1, hn1⟩
    clear hp1 hT1
    refine seq2 (fun σ' H' => ∃ b d, σ' = [some (.ref a0), some (.ref p), some (.int (0 + (i : Int))), u3, some (.int a), some (.int c), some (.int n), some (.int b), some (.int d), v9, v10, v11, v12, v13, v14] ∧ PoolAt H' p l ∧ Tabs (TL2 K) H' ∧ Nm02 a b c d n) (fun R hR => ?_) ?_
    · rw [par2]
      have e30 : (10 : Int) ^ (30 : Int).toNat = 1000000000000000000000000000000 := by decide +kernel
      have e100 : (2 : Nat) ^ 100 = 1267650600228229401496703205376 := by decide +kernel
      refine ⟨_, rfl, draw (K := K) hp2 (by decide) (by decide) fun b' H3 s3 hp3 b0 b1 => ⟨1, b', rfl, rfl, ?_⟩⟩
      refine ⟨_, rfl, 10, 30, rfl, rfl, ⟨by decide, by decide, by decide⟩, draw (K := K) hp3 (by decide +kernel) (by decide +kernel) fun d' H4 s4 hp4 d0 d1 => ⟨1, d', rfl, rfl, ?_⟩⟩
      rw [e30] at d1
      exact ⟨_, _, rfl, hR _ _ ⟨1 + b', 1 + d', rfl, hp4, Tabs.sameP hp3 s4 (Tabs.sameP hp2 s3 hT2), ha1, hc1, hn1, by omega, by omega, by omega, by omega⟩⟩
    rintro σ' H3 ⟨b, d, rfl, hp3, hT3, N⟩
    clear hp2 hT2
    refine seq2 (fun σ' H' => ∃ sh ot, σ' = [some (.ref a0), some (.ref p), some (.int (0 + (i : Int))), u3, some (.int a), some (.int c), some (.int n), some (.int b), some (.int d), some (.ref sh), some (.ref ot), v11, v12, v13, v14] ∧ Fx02 K p l sh ot a b c d H') (fun R hR => ?_) ?_
    · rw [par2]
      refine mk_sh (fun Q k => ⟨_, rfl, k⟩) (fun Q k => ⟨_, rfl, k⟩) (by have := N.b0; omega) (nat_mono N.a_ (by decide)) (nat_mono N.b_ (by decide)) fun sh H4 s4 hS => ?_
      refine mk_sh (fun Q k => ⟨_, rfl, k⟩) (fun Q k => ⟨_, rfl, k⟩) (by have := N.d0; omega) (nat_mono N.c_ (by decide)) (nat_mono N.d_ (by decide)) fun ot H5 s5 hO => ⟨_, _, rfl, ?_⟩
      exact hR _ _ ⟨sh, ot, rfl, hp3.same (s4.trans s5), hT3.ext fun b o z => (s4.trans s5) _ _ z, hS.same s5, hO⟩
    rintro σ' H4 ⟨sh, ot, rfl, F4⟩
    clear hp3 hT3
    have bq : Bd 200 (Rat.divInt a b) := (bd_div (k := 100) (by have := N.b0; omega) N.a_ N.b_).mono (by decide)
    have br : Bd 200 (Rat.divInt c d) := (bd_div (k := 100) (by have := N.d0; omega) N.c_ N.d_).mono (by decide)
    have o1 := lt_cross (a := a) (c := c) N.b0 N.d0
    have o2 := lt_cross (a := c) (c := a) N.d0 N.b0
    -- the two shares
    refine seq2 (fun σ' H' => σ' = [some (.ref a0), some (.ref p), some (.int (0 + (i : Int))), u3, some (.int a), some (.int c), some (.int n), some (.int b), some (.int d), some (.ref sh), some (.ref ot), v11, v12, v13, v14] ∧ Fx02 K p l sh ot a b c d H') (fun R hR => ?_) ?_
    · refine or2F (fun Q' hq => ?_) fun H5 s5 => ?_
      · refine ⟨_, rfl, _, rfl, mulW (i := a) (j := d) (fun _ k => ⟨_, rfl, k⟩) (fun _ k => ⟨_, rfl, k⟩) (nat_mono N.a_ (by decide)) (nat_mono N.d_ (by decide)) (mulW (i := c) (j := b) (fun _ k => ⟨_, rfl, k⟩) (fun _ k => ⟨_, rfl, k⟩) (nat_mono N.c_ (by decide)) (nat_mono N.b_ (by decide)) ?_)⟩
        exact ⟨sh, ot, _, _, _, _, rfl, F4.hs, F4.ho, bq, br, o1, o2, fun H' s => ⟨_, rfl, hq H' s⟩⟩
      · refine if2F (fun Q' hq => ?_) fun H6 s6 => ?_
        · have F5 := F4.same s5
          refine ⟨_, rfl, _, rfl, mulW (i := c) (j := b) (fun _ k => ⟨_, rfl, k⟩) (fun _ k => ⟨_, rfl, k⟩) (nat_mono N.c_ (by decide)) (nat_mono N.b_ (by decide)) (mulW (i := a) (j := d) (fun _ k => ⟨_, rfl, k⟩) (fun _ k => ⟨_, rfl, k⟩) (nat_mono N.a_ (by decide)) (nat_mono N.d_ (by decide)) ?_)⟩
          exact ⟨ot, sh, _, _, _, _, rfl, F5.ho, F5.hs, br, bq, o2, o1, fun H' s => ⟨_, rfl, hq H' s⟩⟩
        · exact hR _ _ ⟨rfl, (F4.same s5).same s6⟩
    rintro σ' H5 ⟨rfl, F5⟩
    clear F4
    -- a share and one like it
    refine seq2 (fun σ' H' => σ' = [some (.ref a0), some (.ref p), some (.int (0 + (i : Int))), u3, some (.int a), some (.int c), some (.int n), some (.int b), some (.int d), some (.ref sh), some (.ref ot), v11, v12, v13, v14] ∧ Fx02 K p l sh ot a b c d H') (fun R hR => ?_) ?_
    · refine if2F (fun Q' hq => ?_) fun H6 s6 => hR _ _ ⟨rfl, F5.same s6⟩
      refine ⟨_, rfl, mk_sh (fun Q k => ⟨_, rfl, k⟩) (fun Q k => ⟨_, rfl, k⟩) (by have := N.b0; omega) (nat_mono N.a_ (by decide)) (nat_mono N.b_ (by decide)) fun s2 H6 s6 hS => ?_⟩
      refine ⟨_, rfl, _, rfl, sh, s2, a, a, _, _, rfl, F5.hs.same s6, hS, bq, bq, ⟨fun z => absurd z (by omega), fun z => absurd z (by omega)⟩, ⟨fun z => absurd z (by omega), fun z => absurd z (by omega)⟩, fun H' s => ⟨_, rfl, hq H' (s6.trans s)⟩⟩
    rintro σ' H6 ⟨rfl, F6⟩
    clear F5
    -- a share and a number
    have hnr : Rat.divInt n 1 = (n : Rat) := rat_int n
    have bn : Bd 200 (n : Rat) := by
      rw [← hnr]
      exact (bd_div (k := 100) (by decide) N.n_ (by decide)).mono (by decide)
    have o3 := lt_cross (a := a) (c := n) N.b0 (show (0 : Int) < 1 by decide)
    have o4 := lt_cross (a := n) (c := a) (show (0 : Int) < 1 by decide) N.b0
    rw [hnr, Int.mul_one] at o3 o4
    refine seq2 (fun σ' H' => σ' = [some (.ref a0), some (.ref p), some (.int (0 + (i : Int))), u3, some (.int a), some (.int c), some (.int n), some (.int b), some (.int d), some (.ref sh), some (.ref ot), v11, v12, v13, v14] ∧ Fx02 K p l sh ot a b c d H') (fun R hR => ?_) ?_
    · refine or2F (fun Q' hq => ?_) fun H7 s7 => ?_
      · refine ⟨_, rfl, _, rfl, _, rfl, mulW (i := n) (j := b) (fun _ k => ⟨_, rfl, k⟩) (fun _ k => ⟨_, rfl, k⟩) (nat_mono N.n_ (by decide)) (nat_mono N.b_ (by decide)) ?_⟩
        exact ⟨sh, n, _, _, _, rfl, F6.hs, bq, bn, o3, o4, fun H' s => ⟨_, rfl, hq H' s⟩⟩
      · refine if2F (fun Q' hq => ?_) fun H8 s8 => hR _ _ ⟨rfl, (F6.same s7).same s8⟩
        refine ⟨_, rfl, _, rfl, mulW (i := n) (j := b) (fun _ k => ⟨_, rfl, k⟩) (fun _ k => ⟨_, rfl, k⟩) (nat_mono N.n_ (by decide)) (nat_mono N.b_ (by decide)) ⟨_, rfl, ?_⟩⟩
        exact ⟨sh, n, _, _, _, rfl, (F6.same s7).hs, bq, bn, o4, o3, fun H' s => ⟨_, rfl, hq H' s⟩⟩
    rintro σ' H7 ⟨rfl, F7⟩
    clear F6
    refine seq2 (fun σ' H' => σ' = [some (.ref a0), some (.ref p), some (.int (0 + (i : Int))), u3, some (.int a), some (.int c), some (.int n), some (.int b), some (.int d), some (.ref sh), some (.ref ot), v11, v12, v13, v14] ∧ Fx02 K p l sh ot a b c d H') (fun R hR => ?_) ?_
    · obtain ⟨g, g0, ea, _⟩ := rat_parts a N.b0
      have ez : (!decide ((Rat.divInt a b).num = 0)) = !decide (V.int a = V.int 0) := by
        congr 1
        refine decide_eq_decide.mpr ⟨fun z => ?_, fun z => ?_⟩
        · rw [ea, z, Int.mul_zero]
        · have z := V.int.inj z
          rw [z] at ea
          rcases Int.mul_eq_zero.mp ea.symm with h | h
          · omega
          · rw [z]; exact h
      obtain ⟨dx, hS⟩ := id F7.hs
      refine if2F (fun Q' hq => ?_) fun H8 s8 => hR _ _ ⟨rfl, F7.same s8⟩
      refine ⟨_, rfl, sh, dx, _, rfl, hS, sh, _, rfl, F7.hs, _, rfl, ?_⟩
      dsimp only [tNil]
      refine repr_bl2 ⟨_, rfl, rfl, ?_⟩
      dsimp only [tNil]
      refine repr_bl2 ⟨rfl, _, rfl, ?_⟩
      rw [ez, decide_eq_true rfl]
      exact hq H7 (Same.refl _)
    rintro σ' H8 ⟨rfl, F8⟩
    clear F7
    -- values of other kinds
    refine seq2 (fun σ' H' => ∃ vv, σ' = [some (.ref a0), some (.ref p), some (.int (0 + (i : Int))), u3, some (.int a), some (.int c), some (.int n), some (.int b), some (.int d), some (.ref sh), some (.ref ot), vv, v12, v13, v14] ∧ Fx02 K p l sh ot a b c d H') (fun R hR => ?_) ?_
    · rw [forl_eq]
      refine ⟨_, rfl, sh, _, rfl, F8.hs, bq.mono (by decide), _, rfl, _, rfl, (show 2 ≤ 16777216 by decide), fun t1 ht1 => ⟨_, rfl, (show 1 ≤ 16777216 by decide), fun t2 ht2 => ⟨(show 6 ≤ 16777216 by decide), fun L hL => ⟨L, rfl, ⟨_, SqL.of upd_same⟩, ?_⟩⟩⟩⟩
      have s1 := Same.new (o := .tup [V.int a, .int b]) ht1
      have g1 := updS H8 t1 (.tup [V.int a, .int b])
      generalize upd H8 t1 (.tup [V.int a, .int b]) = H9 at *
      have s2 := Same.new (o := .lst [V.int a]) ht2
      have g2 := updS H9 t2 (.lst [V.int a])
      have g1' := s2 _ _ g1
      generalize upd H9 t2 (.lst [V.int a]) = H10 at *
      have hall : ∀ y ∈ [V.bl true, .bl false, .non, .str (txtQ (Rat.divInt a b)), .ref t1, .ref t2], ∃ dy, Ov H10 y dy ∧ intD dy = false ∧ dy ≠ .dict [] := fun y hy => by
        simp only [List.mem_cons, List.not_mem_nil, or_false] at hy
        rcases hy with rfl | rfl | rfl | rfl | rfl | rfl
        · exact ⟨_, .at_ rfl, rfl, fun z => by cases z⟩
        · exact ⟨_, .at_ rfl, rfl, fun z => by cases z⟩
        · exact ⟨_, .at_ rfl, rfl, fun z => by cases z⟩
        · exact ⟨_, .at_ rfl, rfl, fun z => by cases z⟩
        · exact ⟨.tuple [.int a, .int b], .tup g1' rfl, rfl, fun z => by cases z⟩
        · exact ⟨.list [.int a], .lst g2 rfl, rfl, fun z => by cases z⟩
      generalize [V.bl true, .bl false, .non, .str (txtQ (Rat.divInt a b)), .ref t1, .ref t2] = xs at *
      have s3 := Same.new (o := .lst xs) hL
      have gL := updS H10 L (.lst xs)
      have FL := F8.same ((s1.trans s2).trans s3)
      have hall : ∀ y ∈ xs, ∃ dy, Ov (upd H10 L (.lst xs)) y dy ∧ intD dy = false ∧ dy ≠ .dict [] := fun y hy => (hall y hy).imp fun dy h => ⟨h.1.same s3, h.2⟩
      generalize upd H10 L (.lst xs) = H11 at *
      refine forL (xs := xs) (fun _ σ' H' => ∃ vv, σ' = [some (.ref a0), some (.ref p), some (.int (0 + (i : Int))), u3, some (.int a), some (.int c), some (.int n), some (.int b), some (.int d), some (.ref sh), some (.ref ot), vv, v12, v13, v14] ∧ Same H11 H') ⟨v11, rfl, Same.refl _⟩ (fun j σ' H' ⟨_, _, e⟩ => SqL.of (e _ _ gL)) ?_ ?_
      · rintro j y σ' H' hj ⟨vv, rfl, e1⟩
        obtain ⟨dy, ho, hi2, nd⟩ := hall y (List.mem_of_getElem? hj)
        rw [gName1]
        simp only [List.set_cons_zero, List.set_cons_succ]
        have ho1 := ho.same e1
        obtain ⟨ty, hty, tyx⟩ := ho1.ty2 (K := K) nd
        have hn : NoN H' y := ⟨dy, ho1, hi2⟩
        obtain ⟨dx, hS⟩ := FL.hs.same e1
        refine if2F (fun Q' hq => ?_) fun H12 s12 => ⟨_, rfl, e1.trans s12⟩
        refine ⟨_, rfl, _, rfl, sh, dx, _, _, rfl, hS, tyx, T2.no hty, sh, y, _, rfl, ⟨dx, hS⟩, .inl ⟨hn, _, rfl, _, rfl, _, rfl, sh, dx, _, _, rfl, hS, tyx, T2.no hty, sh, y, _, rfl, ⟨dx, hS⟩, .inl ⟨hn, _, rfl, _, rfl, _, rfl, sh, dx, _, dy, rfl, hS, ho1, nd, sh, y, _, rfl, ⟨dx, hS⟩, .inl ⟨hn, _, rfl, (show 3 ≤ 16777216 by decide), fun M hM => ?_⟩⟩⟩⟩
        have sM := Same.new (o := .lst [V.bl false, .bl true, .bl false]) hM
        dsimp only [tNil]
        refine repr_bt (l := [false, true, false]) (updS _ _ _) (show 3 ≤ 100 by decide) ⟨rfl, _, rfl, ?_⟩
        rw [shown2, decide_eq_true rfl]
        exact hq _ sM
      · rintro σ' H' ⟨vv, rfl, e1⟩
        exact hR _ _ ⟨vv, rfl, FL.same e1⟩
    rintro σ' H9 ⟨u11, rfl, F9⟩
    clear F8
    -- texts
    have nm : ∀ x : Int, x.natAbs < 2 ^ 200 → x.natAbs.log2 < 1920 := fun x hx => Nat.lt_trans (log_of hx (by decide)) (by decide)
    have n2a : (2 * a).natAbs < 2 ^ 200 := by rw [Int.natAbs_mul]; have := N.a_; show 2 * a.natAbs < _; omega
    have n2b : (2 * b).natAbs < 2 ^ 200 := by rw [Int.natAbs_mul]; have := N.b_; show 2 * b.natAbs < _; omega
    have na : a.natAbs < 2 ^ 200 := nat_mono N.a_ (by decide)
    have nb : b.natAbs < 2 ^ 200 := nat_mono N.b_ (by decide)
    rw [forl_eq]
    refine ⟨_, rfl, sh, _, rfl, F9.hs, bq.mono (by decide), _, rfl, ot, _, rfl, F9.ho, br.mono (by decide), ?_⟩
    have hsz : sizeLine = 16777216 := rfl
    have sl1 : ("/" : Str).length = 1 := by decide +kernel
    have m1 : (Str.ofString (toString (2 * a))).length ≤ 70 := (sm_num n2a).2
    have m2 : (Str.ofString (toString (2 * b))).length ≤ 70 := (sm_num n2b).2
    have m3 : (Str.ofString (toString a)).length ≤ 70 := (sm_num na).2
    have m4 : (Str.ofString (toString b)).length ≤ 70 := (sm_num nb).2
    refine mulW (i := 2) (j := a) (fun _ k => k) (fun _ k => ⟨_, rfl, k⟩) (by decide) (nat_mono na (by decide)) ⟨2 * a, rfl, nm _ n2a, _, _, rfl, rfl, by omega, ?_⟩
    refine mulW (i := 2) (j := b) (fun _ k => k) (fun _ k => ⟨_, rfl, k⟩) (by decide) (nat_mono nb (by decide)) ⟨2 * b, rfl, nm _ n2b, _, _, rfl, rfl, by rw [Str.length_append]; omega, ?_⟩
    refine ⟨_, rfl, a, rfl, nm _ na, _, _, rfl, rfl, by omega, _, rfl, b, rfl, nm _ nb, _, _, rfl, rfl, by rw [Str.length_append]; omega, (show 4 ≤ 16777216 by decide), fun L hL => ⟨L, rfl, ⟨_, SqL.of upd_same⟩, ?_⟩⟩
    have k1 := (sm_txt bq).mono (show 141 ≤ 200 by decide)
    have k2 := (sm_txt br).mono (show 141 ≤ 200 by decide)
    have k3 : Sm2 200 (Str.ofString (toString (2 * a)) ++ "/" ++ Str.ofString (toString (2 * b))) := (((sm_num n2a).cat sm_sl).cat (sm_num n2b)).mono (by decide)
    have k4 : Sm2 200 (Str.ofString (toString a) ++ "/" ++ Str.ofString (toString b)) := (((sm_num na).cat sm_sl).cat (sm_num nb)).mono (by decide)
    have hus : ∀ t ∈ [txtQ (Rat.divInt a b), txtQ (Rat.divInt c d), Str.ofString (toString (2 * a)) ++ "/" ++ Str.ofString (toString (2 * b)), Str.ofString (toString a) ++ "/" ++ Str.ofString (toString b)], Sm2 200 t := fun t ht => by
      simp only [List.mem_cons, List.not_mem_nil, or_false] at ht
      rcases ht with rfl | rfl | rfl | rfl
      · exact k1
      · exact k2
      · exact k3
      · exact k4
    have hxs : [V.str (txtQ (Rat.divInt a b)), .str (txtQ (Rat.divInt c d)), .str (Str.ofString (toString (2 * a)) ++ "/" ++ Str.ofString (toString (2 * b))), .str (Str.ofString (toString a) ++ "/" ++ Str.ofString (toString b))] = [txtQ (Rat.divInt a b), txtQ (Rat.divInt c d), Str.ofString (toString (2 * a)) ++ "/" ++ Str.ofString (toString (2 * b)), Str.ofString (toString a) ++ "/" ++ Str.ofString (toString b)].map V.str := rfl
    rw [hxs]
    clear hxs
    generalize [txtQ (Rat.divInt a b), txtQ (Rat.divInt c d), Str.ofString (toString (2 * a)) ++ "/" ++ Str.ofString (toString (2 * b)), Str.ofString (toString a) ++ "/" ++ Str.ofString (toString b)] = us at *
    have hpL := F9.hp
    obtain ⟨cs, i1, i2, i3, i4, hpa, hla, _⟩ := F9.hp.at_
    have Lp : L ≠ p := fun e => by rw [e, hpa] at hL; cases hL
    have Ll : L ≠ l := fun e => by rw [e, hla] at hL; cases hL
    have sL := Same.new (o := .lst (us.map V.str)) hL
    have gL := updS H9 L (.lst (us.map V.str))
    have FL := F9.same sL
    refine forL (xs := us.map V.str) (fun _ σ' H' => ∃ vv, σ' = [some (.ref a0), some (.ref p), some (.int (0 + (i : Int))), u3, some (.int a), some (.int c), some (.int n), some (.int b), some (.int d), some (.ref sh), some (.ref ot), u11, vv, v13, v14] ∧ PoolAt H' p l ∧ Tabs (TL2 K) H' ∧ H' L = some (.lst (us.map V.str))) ⟨v12, rfl, FL.hp, FL.hT, gL⟩ (fun j σ' H' ⟨_, _, _, _, e⟩ => SqL.of e) ?_ ?_
    · rintro j y σ' H' hj ⟨vv, rfl, hp1, hT1, g1⟩
      obtain ⟨t, ht, rfl⟩ := List.mem_map.mp (List.mem_of_getElem? hj)
      rw [gName1]
      simp only [List.set_cons_zero, List.set_cons_succ]
      have st := hus t ht
      refine ⟨_, rfl, t, rfl, st.tx (by decide), Nat.le_trans st.2 (by decide), hT1, fun H5 e5 T5 => ?_⟩
      have hp5 := hp1.extN e5
      have g5 := e5 _ _ g1 fun ps z => by cases z
      refine ⟨_, rfl, _, rfl, _, rfl, p, l, t, 200, rfl, hp5, st, by decide, fun s H6 s6 hp6 hs6 => ?_⟩
      have g6 := s6 _ _ Lp Ll g5
      exact ⟨s, rfl, hs6.tx (by decide), Nat.le_trans hs6.2 (by decide), Tabs.sameP hp5 s6 T5, fun H7 e7 T7 => ⟨_, rfl, _, rfl, hp6.extN e7, T7, e7 _ _ g6 fun ps z => by cases z⟩⟩
    · rintro σ' H' ⟨vv, rfl, hp1, hT1, g1⟩
      exact ⟨_, _, _, _, _, _, _, _, _, _, _, _, _, rfl, hp1, hT1⟩
  · obtain ⟨v2, v3, v4, v5, v6, v7, v8, v9, v10, v11, v12, v13, v14, rfl, hp1, hT1⟩ := hI
    dsimp only
    rw [seq1]
    refine ⟨_, _, rfl, rfl, mul_ok9, ?_⟩
    have z0 := sm_nines
    generalize Txt.mul ("9" : Str) 200 = z9 at *
    dsimp only
    rw [gName1, seq1]
    simp only [List.set_cons_zero, List.set_cons_succ]
    refine ⟨(show 9 ≤ 16777216 by decide), fun N hN => ?_⟩
    dsimp only
    rw [gName1]
    simp only [List.set_cons_zero, List.set_cons_succ]
    have hsz : sizeLine = 16777216 := rfl
    have sN := Same.new (o := .lst (lits2.map V.str)) hN
    have gN := updS H' N (.lst (lits2.map V.str))
    have c1 : Sm2 3 ("-1/" : Str) := sm2_of (by decide +kernel)
    have c2 : Sm2 3 ("1" : Str) := sm2_of (by decide +kernel)
    have c3 : Sm2 3 ("1/1" : Str) := sm2_of (by decide +kernel)
    have e0 := z0.2
    have e1 := c1.2
    have e2 := c2.2
    have e3 := c3.2
    have hpN := hp1.same sN
    have hTN : Tabs (TL2 K) (upd H' N (.lst (lits2.map V.str))) := hT1.ext fun b o z => sN _ _ z
    have hH : upd H' N (.lst [V.str "", .str "-", .str "-0", .str "00", .str "1/0", .str "1/-2", .str "0/2", .str "0/1", .str "1/1"]) = upd H' N (.lst (lits2.map V.str)) := rfl
    rw [hH]
    clear hH
    generalize upd H' N (.lst (lits2.map V.str)) = H1 at *
    refine seq2 (fun σ' H2 => ∃ vv, σ' = [some (.ref a0), some (.ref p), v2, v3, v4, v5, v6, v7, v8, v9, v10, v11, vv, some (.str z9), some (.ref N)] ∧ Tabs (TL2 K) H2) (fun R hR => ?_) ?_
    · rw [forl_eq]
      refine ⟨_, rfl, _, rfl, _, rfl, _, _, rfl, rfl, by omega, _, rfl, _, _, rfl, rfl, by omega, _, rfl, _, _, rfl, rfl, by omega, (show 4 ≤ 16777216 by decide), fun M hM => ?_⟩
      have sM := Same.new (o := .lst ([z9, "-1/" ++ z9, "1" ++ z9, "1/1" ++ z9].map V.str)) hM
      have gM := updS H1 M (.lst ([z9, "-1/" ++ z9, "1" ++ z9, "1/1" ++ z9].map V.str))
      have hH : upd H1 M (.lst [V.str z9, .str ("-1/" ++ z9), .str ("1" ++ z9), .str ("1/1" ++ z9)]) = upd H1 M (.lst ([z9, "-1/" ++ z9, "1" ++ z9, "1/1" ++ z9].map V.str)) := rfl
      rw [hH]
      clear hH
      have gN2 := sM _ _ gN
      have hTM : Tabs (TL2 K) (upd H1 M (.lst ([z9, "-1/" ++ z9, "1" ++ z9, "1/1" ++ z9].map V.str))) := hTN.ext fun b o z => sM _ _ z
      generalize upd H1 M (.lst ([z9, "-1/" ++ z9, "1" ++ z9, "1/1" ++ z9].map V.str)) = H2 at *
      refine ⟨N, M, _, _, rfl, rfl, gN2, gM, by simp [lits2, hsz], fun L hL => ⟨L, rfl, ⟨_, SqL.of upd_same⟩, ?_⟩⟩
      rw [← List.map_append]
      have hus : ∀ t ∈ lits2 ++ [z9, "-1/" ++ z9, "1" ++ z9, "1/1" ++ z9], Sm2 300 t := fun t ht => by
        rcases List.mem_append.mp ht with h | h
        · exact (lits2_sm h).mono (by decide)
        · simp only [List.mem_cons, List.not_mem_nil, or_false] at h
          rcases h with rfl | rfl | rfl | rfl
          · exact z0.mono (by decide)
          · exact (c1.cat z0).mono (by decide)
          · exact (c2.cat z0).mono (by decide)
          · exact (c3.cat z0).mono (by decide)
      generalize lits2 ++ [z9, "-1/" ++ z9, "1" ++ z9, "1/1" ++ z9] = us at *
      have sL := Same.new (o := .lst (us.map V.str)) hL
      have gL := updS H2 L (.lst (us.map V.str))
      have hTL : Tabs (TL2 K) (upd H2 L (.lst (us.map V.str))) := hTM.ext fun b o z => sL _ _ z
      generalize upd H2 L (.lst (us.map V.str)) = H3 at *
      refine forL (xs := us.map V.str) (fun _ σ' H' => ∃ vv, σ' = [some (.ref a0), some (.ref p), v2, v3, v4, v5, v6, v7, v8, v9, v10, v11, vv, some (.str z9), some (.ref N)] ∧ Tabs (TL2 K) H' ∧ H' L = some (.lst (us.map V.str))) ⟨v12, rfl, hTL, gL⟩ (fun j σ' H' ⟨_, _, _, e⟩ => SqL.of e) ?_ ?_
      · rintro j y σ' H4 hj ⟨vv, rfl, t4, g4⟩
        obtain ⟨t, ht, rfl⟩ := List.mem_map.mp (List.mem_of_getElem? hj)
        rw [gName1]
        simp only [List.set_cons_zero, List.set_cons_succ]
        have st := hus t ht
        exact ⟨_, rfl, t, rfl, st.tx (by decide), Nat.le_trans st.2 (by decide), t4, fun H5 e5 T5 => ⟨_, rfl, _, rfl, T5, e5 _ _ g4 fun ps z => by cases z⟩⟩
      · rintro σ' H4 ⟨vv, rfl, t4, g4⟩
        exact hR _ _ ⟨vv, rfl, t4⟩
    · rintro σ' H2 ⟨vv, rfl, hT2⟩
      have end7 : ∀ (D1 : Addr) (H4 : Hp), ExtN H2 H4 → Tabs (TL2 K) H4 → Prs7 H4 D1 ds7 → tLc (iList K (tLst (tCons (tC .non) (tCons (tC (.int 3)) (tCons (tLst (tCons (tC (.str "1")) tNil)) tNil))))) (gName 11) tYes (tLst (tCons (tC (.str "text")) (tCons (tCB (rReprG K) (tCons (tVar 11) tNil)) tNil))) [11] [some (.ref a0), some (.ref p), v2, v3, v4, v5, v6, v7, v8, v9, v10, v11, vv, some (.str z9), some (.ref N)] H4 fun y H5 => rEqD K (.ref D1) y H5 Q := fun D1 H4 x4 t4 p4 => by
        refine tlc7 t4 (fun x d H7 R x7 t7 ho ok nd _ hR => ?_) (fun D3 H7 x7 t7 p7 => ?_)
        · refine ⟨x, rfl, ?_⟩
          dsimp only [tNil]
          refine repr7 ho ok nd ⟨(show 2 ≤ 16777216 by decide), fun r hr => ?_⟩
          have sr := Same.new (o := .lst [.str "text", .str d.shown]) hr
          exact hR r _ (Same.toN sr) (t7.ext fun b o z => sr _ _ z) (updS _ _ _)
        · have dps : ∀ {H : Hp} {D : Addr}, Prs7 H D ds7 → Dp K H (.ref D) (.list [.list [.str "text", .str (PyData.none).shown], .list [.str "text", .str (PyData.int 3).shown], .list [.str "text", .str (PyData.list [.str "1"]).shown]]) := fun {H D} ⟨rs, h1, h2, h3⟩ => by
            match rs, h2 with
            | [r0, r1, r2], _ => exact .lst (.inl (.inl h1)) (.cons (dp_pair (h3 0 r0 _ rfl rfl)) (.cons (dp_pair (h3 1 r1 _ rfl rfl)) (.cons (dp_pair (h3 2 r2 _ rfl rfl)) .nil)))
          refine ⟨_, _, dps (p4.ext x7), dps p7, by decide +kernel, by decide +kernel, ?_⟩
          have e : PyData.eqv (.list [.list [.str "text", .str (PyData.none).shown], .list [.str "text", .str (PyData.int 3).shown], .list [.str "text", .str (PyData.list [.str "1"]).shown]]) (.list [.list [.str "text", .str (PyData.none).shown], .list [.str "text", .str (PyData.int 3).shown], .list [.str "text", .str (PyData.list [.str "1"]).shown]]) = true := by decide +kernel
          rw [e]
          exact q _
      refine tlc7 (Q := fun x1 H4 => tLc (iList K (tLst (tCons (tC .non) (tCons (tC (.int 3)) (tCons (tLst (tCons (tC (.str "1")) tNil)) tNil))))) (gName 11) tYes (tLst (tCons (tC (.str "text")) (tCons (tCB (rReprG K) (tCons (tVar 11) tNil)) tNil))) [11] [some (.ref a0), some (.ref p), v2, v3, v4, v5, v6, v7, v8, v9, v10, v11, vv, some (.str z9), some (.ref N)] H4 fun y H5 => rEqD K x1 y H5 Q) hT2 (fun x d H4 R x4 t4 ho ok nd nt hR => ?_) (fun D1 H4 x4 t4 p4 => end7 D1 H4 x4 t4 p4)
      refine lam_errS kT t4 ok ho (fun H5 E5 Q5 e5 hE => ?_) fun R5 H5 hR5 e5 T5 => hR R5 H5 e5 T5 hR5
      refine ⟨rfl, x, rfl, x, d, rfl, ho.extN e5, fun t e => absurd e (nt t), fun H6 dd s6 hdd => hE H6 dd s6 hdd⟩
end
end Tw
/-! the defs as they stand -/
namespace Tw
open PySem PySem.Spec PyProof.Rows L2 He TwM Hd PySem.W LamX
section
variable {K : Frag} {w : World} {mg : PySem.Str → Option Value} {base : Heap}
theorem ks (T : Tx K mg w) : Ks K w := ⟨cls_Share T, na_Share_kept_top T, na_Share_kept_bottom T, isi_Share T, kit_Share T, kSi_Share T, kiS_Share T, kiT_Share T⟩
theorem kx (T : Tx K mg w) : Kx K w := ⟨⟨ks T, st_Share T⟩, ns_Share T, exs_InvalidNumber T⟩
theorem k02 (T : Tx K mg w) : K02 K := ⟨nfb_Share T⟩
theorem kxm (T : Tx K mg w) : Kxm K w := ⟨ks T, st_Share T⟩
theorem okE_InvalidText {CX : CXT} (T : Tx K mg w) : ∃ fd, FnOk (PySem.Challenge.rw_timerwheels_k02_shares_in_order_and_as_t).prog w K mg base CX 1 (ma K (ga K "InvalidText") "__init__") fd ["self", "value"] (sp_er K (ga K "InvalidText") "value") ∧ Binds K fd ["self", "value"] [] :=
  ok_err (er_InvalidText T) rfl (by decide +kernel) (ef_InvalidText T) (NdefX.nscope_by (by decide +kernel)) rfl rfl (by decide +kernel) (free_super T) (by decide +kernel) (by decide +kernel) (fun _ _ _ _ => rfl) (fun _ _ _ _ => rfl) (fun _ _ _ _ => rfl) (fun _ _ _ _ => ⟨_, rfl⟩)
    (fun _ _ _ _ _ _ _ us hl => match us, hl with | [_, _], _ => rfl)
def n__law_caught : List PySem.Str := ["_law_call", "e"]
theorem sc__law_caught : FnScope n__law_caught ["_law_call"] (defScope s__law_caught) := ⟨rfl, rfl, rfl, by decide +kernel, rfl, by decide +kernel, by decide +kernel⟩
theorem sc__law_kind : FnScope n__law_kind ["_law_error"] (defScope s__law_kind) := ⟨rfl, rfl, rfl, by decide +kernel, rfl, by decide +kernel, by decide +kernel⟩
theorem ln0__law_kind (p : Addr × Obj) (vs : List V) (H : Hp) (Q : VK) (E : XK) (h : sp__law_kind K p vs H Q E) : vs.length = 1 := by
  obtain ⟨_, _, _, rfl, _⟩ := h
  rfl
theorem okP__law_kind (T : Tx K mg w) : FnP (PySem.Challenge.rw_timerwheels_k02_shares_in_order_and_as_t).prog w K mg base 3 (ga K "_law_kind") (sp__law_kind K) := by
  obtain ⟨fd, F⟩ := d__law_kind T
  exact fnP_of (k := 2) (N := n__law_kind) F sc__law_kind (F.bindsN fun _ _ _ _ _ _ us hl => match us, hl with | [_], _ => rfl) ln0__law_kind fun cdv A fs t H vs Q p hr _ h => by
    have hp : p ∈ [p] := List.mem_singleton.mpr rfl
    exact ⟨t__law_kind K p, (pss_cons (ps_set (i := 1) sc__law_kind.nd rfl (Or.inl rfl) (pe_lst (pa_cons (pe_callB (call_isP hp) (by rfl) (free_isinstance T) (by decide +kernel) (pa_cons (pv 0) (pa_cons (pe_glob rfl (glo_InvalidNumber T) rfl) pa_nil))) (pa_cons (pe_callB (call_isP hp) (by rfl) (free_isinstance T) (by decide +kernel) (pa_cons (pv 0) (pa_cons (pe_glob rfl (glo_InvalidText T) rfl) pa_nil))) (pa_cons (pe_callB (call_isP hp) (by rfl) (free_isinstance T) (by decide +kernel) (pa_cons (pv 0) (pa_cons (pe_glob rfl (glo_InvalidName T) rfl) pa_nil))) pa_nil)))))
  (pss_cons (ps_set (i := 1) sc__law_kind.nd rfl (Or.inl rfl) (pe_op op_cat (pv 1) (pe_lst (pa_cons (pe_callB (call_isP hp) (by rfl) (free_isinstance T) (by decide +kernel) (pa_cons (pv 0) (pa_cons (pe_glob rfl (glo_InvalidLevels T) rfl) pa_nil))) (pa_cons (pe_callB (call_isP hp) (by rfl) (free_isinstance T) (by decide +kernel) (pa_cons (pv 0) (pa_cons (pe_glob rfl (glo_InvalidSwitch T) rfl) pa_nil))) pa_nil)))))
  (pss_cons (ps_set (i := 1) sc__law_kind.nd rfl (Or.inl rfl) (pe_op op_cat (pv 1) (pe_lst (pa_cons (pe_callB (call_isP hp) (by rfl) (free_isinstance T) (by decide +kernel) (pa_cons (pv 0) (pa_cons (pe_glob rfl (glo_InvalidMode T) rfl) pa_nil))) (pa_cons (pe_callB (call_isP hp) (by rfl) (free_isinstance T) (by decide +kernel) (pa_cons (pv 0) (pa_cons (pe_glob rfl (glo_InvalidMenu T) rfl) pa_nil))) (pa_cons (pe_callB (call_isP hp) (by rfl) (free_isinstance T) (by decide +kernel) (pa_cons (pv 0) (pa_cons (pe_glob rfl (glo_InvalidPlan T) rfl) pa_nil))) pa_nil))))))
  (pss_cons (ps_set (i := 1) sc__law_kind.nd rfl (Or.inl rfl) (pe_op op_cat (pv 1) (pe_lst (pa_cons (pe_callB (call_isP hp) (by rfl) (free_isinstance T) (by decide +kernel) (pa_cons (pv 0) (pa_cons (pe_glob rfl (glo_InvalidCommand T) rfl) pa_nil))) (pa_cons (pe_callB (call_isP hp) (by rfl) (free_isinstance T) (by decide +kernel) (pa_cons (pv 0) (pa_cons (pe_glob rfl (glo_TooLong T) rfl) pa_nil))) (pa_cons (pe_callB (call_isP hp) (by rfl) (free_isinstance T) (by decide +kernel) (pa_cons (pv 0) (pa_cons (pe_glob rfl (glo_TooMany T) rfl) pa_nil))) pa_nil))))))
  (pss_cons (ps_set (i := 1) sc__law_kind.nd rfl (Or.inl rfl) (pe_op op_cat (pv 1) (pe_lst (pa_cons (pe_callB (call_isP hp) (by rfl) (free_isinstance T) (by decide +kernel) (pa_cons (pv 0) (pa_cons (pe_glob rfl (glo_NothingToUndo T) rfl) pa_nil))) pa_nil))))
  (pss_cons (ps_if (PW.pt (pw_or (pt_cmpR op_ne (pe_bm PySem.F.plainAttrs_list PySem.F.slot_list_count PySem.F.type_list_count mt_countF (pv 1) (pa_cons pe_bl pa_nil)) pe_int (nomark _)) (pw_or1 (pt_cmpR op_ne (pe_callB (call_isP hp) (by rfl) (free_isinstance T) (by decide +kernel) (pa_cons (pv 0) (pa_cons (pe_glob rfl (glo_WheelError T) rfl) pa_nil))) (pe_cmpR op_lt (pe_bm PySem.F.plainAttrs_list PySem.F.slot_list_index PySem.F.type_list_index mt_index (pv 1) (pa_cons pe_bl pa_nil)) pe_int (nomark _)) (nomark _))))) (pss_one (ps_ret pe_str)) pss_nil)
  (pss_cons (ps_set (i := 2) sc__law_kind.nd rfl (Or.inl rfl) (pe_lst (pa_cons pe_str (pa_cons pe_str (pa_cons pe_str (pa_cons pe_str (pa_cons pe_str (pa_cons pe_str (pa_cons pe_str (pa_cons pe_str (pa_cons pe_str (pa_cons pe_str (pa_cons pe_str (pa_cons pe_str pa_nil))))))))))))))
  (pss_one (ps_ret (pe_ix ix_lstH (pv 2) (pe_bm PySem.F.plainAttrs_list PySem.F.slot_list_index PySem.F.type_list_index mt_index (pv 1) (pa_cons pe_bl pa_nil)) (fun _ _ => rfl))))))))))), rd__law_kind vs H Q C8.E0 h⟩
theorem cg (T : Tx K mg w) {N : List PySem.Str} {qual : PySem.Str} {sc : Scope} {f : Addr} {cdv : Value} {A : Around} {fs : List Env} {t : Shared} {H : Hp} {E : XK}
    (hr : RmG 8 (cxOf C8.CX0 (PySem.Challenge.rw_timerwheels_k02_shares_in_order_and_as_t).prog w K mg base N qual sc f cdv A fs t H E).nox.A) (q : PySem.Str) (cdg : Value) :
    GivesTo (cxOf C8.CX0 (PySem.Challenge.rw_timerwheels_k02_shares_in_order_and_as_t).prog w K mg base N qual sc f cdv A fs t H E).nox n__law_caught "_law_caught" (defScope s__law_caught) (ga K "_law_caught") cdg (defBody s__law_caught) "_law_call" q (TCg K) :=
  caught_gives sc__law_caught.nd rfl (fun s H => .cons rfl rfl ⟨rfl, rfl, .inl (glo_WheelError T)⟩ (fun a oe cls d pn hz hf => pss_one (ps_ret (pe_lst (pa_cons (pe_kind (okP__law_kind T) ⟨by have := hr.rm.dp; show _ + 1 + 3 * 3 + 5 < _; omega, by have := hr.rm.un; show _ + 3 + 16 * 3 + 200 < _; omega⟩ hz hf rfl (glo__law_kind T) (d__law_kind T).choose_spec.kp (pa_cons (pe_var (i := 1) rfl (Or.inl rfl)) pa_nil))
      (pa_cons (pe_callB (call_reprE hr.gd (by have := hr.rm.un; show _ + 3 + 40 < _; omega)) (by rfl) (free_repr T) (by decide +kernel) (pa_cons (pe_xfA hz hf (pe_var (i := 1) rfl (Or.inl rfl))) pa_nil)) pa_nil)))))
    (.cons rfl rfl ⟨rfl, rfl, .inl (glo_TooLong T)⟩ (fun a oe cls d pn hz hf => pss_one (ps_ret (pe_lst (pa_cons (pe_kind (okP__law_kind T) ⟨by have := hr.rm.dp; show _ + 1 + 3 * 3 + 5 < _; omega, by have := hr.rm.un; show _ + 3 + 16 * 3 + 200 < _; omega⟩ hz hf rfl (glo__law_kind T) (d__law_kind T).choose_spec.kp (pa_cons (pe_var (i := 1) rfl (Or.inl rfl)) pa_nil))
      (pa_cons (pe_callB (call_reprE hr.gd (by have := hr.rm.un; show _ + 3 + 40 < _; omega)) (by rfl) (free_repr T) (by decide +kernel) (pa_cons (pe_xfA hz hf (pe_var (i := 1) rfl (Or.inl rfl))) pa_nil)) pa_nil))))) (.cons rfl rfl ⟨rfl, rfl, .inl (glo_TooMany T)⟩ (fun a oe cls d pn hz hf => pss_one (ps_ret (pe_lst (pa_cons (pe_kind (okP__law_kind T) ⟨by have := hr.rm.dp; show _ + 1 + 3 * 3 + 5 < _; omega, by have := hr.rm.un; show _ + 3 + 16 * 3 + 200 < _; omega⟩ hz hf rfl (glo__law_kind T) (d__law_kind T).choose_spec.kp (pa_cons (pe_var (i := 1) rfl (Or.inl rfl)) pa_nil))
      (pa_cons (pe_callB (call_reprE hr.gd (by have := hr.rm.un; show _ + 3 + 40 < _; omega)) (by rfl) (free_repr T) (by decide +kernel) (pa_cons (pe_xfA hz hf (pe_var (i := 1) rfl (Or.inl rfl))) pa_nil)) pa_nil))))) (.cons rfl rfl ⟨rfl, rfl, .inl (glo_NothingToUndo T)⟩ (fun a oe cls d pn hz hf => pss_one (ps_ret (pe_lst (pa_cons (pe_kind (okP__law_kind T) ⟨by have := hr.rm.dp; show _ + 1 + 3 * 3 + 5 < _; omega, by have := hr.rm.un; show _ + 3 + 16 * 3 + 200 < _; omega⟩ hz hf rfl (glo__law_kind T) (d__law_kind T).choose_spec.kp (pa_cons (pe_var (i := 1) rfl (Or.inl rfl)) pa_nil))
      (pa_cons pe_str pa_nil))))) .nil))))
    (fun s H => pss_one (ps_ret pe_non)) (fun f => rfl)
theorem kec_InvalidText (T : Tx K mg w) : KeC K "InvalidText" "text" := kec_of (er_InvalidText T) (kn_InvalidText T) (by decide +kernel)
structure TBs (K : Frag) (mg : PySem.Str → Option Value) (base : Heap) : Prop where
  _law_text_right : TabB base mg (codA K (ga K "_law_text_right")) (tbA K (ga K "_law_text_right"))
  law : TabB base mg (codA K (ga K "law")) (tbA K (ga K "law"))
abbrev TBs.L (K : Frag) : List (Addr × PySem.Str) := [(tbA K (ga K "_law_text_right"), (("_law_text_right" : PySem.Str) ++ ".<locals>." ++ "<lambda>")), (tbA K (ga K "law"), (("law" : PySem.Str) ++ ".<locals>." ++ "<lambda>"))]
theorem TBs.mem__law_text_right (T : Tx K mg w) : (tbA K (ga K "_law_text_right"), ((("_law_text_right" : PySem.Str) ++ ".<locals>.") ++ "<lambda>")) ∈ TBs.L K := by simp
theorem TBs.one__law_text_right (T : Tx K mg w) : ∀ p ∈ TBs.L K, p.1 = tbA K (ga K "_law_text_right") → p.2 = ((("_law_text_right" : PySem.Str) ++ ".<locals>.") ++ "<lambda>") := by
  intro p hp e
  simp only [List.mem_cons, List.not_mem_nil, or_false] at hp
  rcases hp with rfl | rfl
  · rfl
  · dsimp only at e
    rw [tb_law T, tb__law_text_right T] at e
    exact absurd e (by decide)
theorem TBs.mem_law (T : Tx K mg w) : (tbA K (ga K "law"), ((("law" : PySem.Str) ++ ".<locals>.") ++ "<lambda>")) ∈ TBs.L K := by simp
theorem TBs.one_law (T : Tx K mg w) : ∀ p ∈ TBs.L K, p.1 = tbA K (ga K "law") → p.2 = ((("law" : PySem.Str) ++ ".<locals>.") ++ "<lambda>") := by
  intro p hp e
  simp only [List.mem_cons, List.not_mem_nil, or_false] at hp
  rcases hp with rfl | rfl
  · dsimp only at e
    rw [tb__law_text_right T, tb_law T] at e
    exact absurd e (by decide)
  · rfl
theorem sc__law_begin : FnScope n__law_begin ["_law_script"] (defScope s__law_begin) := ⟨rfl, rfl, rfl, by decide +kernel, rfl, by decide +kernel, by decide +kernel⟩
theorem ln0__law_begin (vs : List V) (H : Hp) (Q : VK) (E : XK) (h : sp__law_begin K vs H Q E) : vs.length = 1 := by
  unfold sp__law_begin at h
  repeat' (first | (exact (congrArg List.length h.1).trans rfl) | (refine Or.elim h (fun h => ?_) (fun h => ?_)) | (obtain ⟨_, h⟩ := h))
theorem okk__law_begin (T : Tx K mg w) : FnOk (PySem.Challenge.rw_timerwheels_k02_shares_in_order_and_as_t).prog w K mg base CX0 2 (ga K "_law_begin") (d__law_begin T).choose ["_law_script"] (sp__law_begin K) :=
  FunD.ok (k := 1) (N := n__law_begin) (d__law_begin T).choose_spec sc__law_begin ln0__law_begin fun cdv A outer s H vs Q E hr h => ⟨t__law_begin K w, PSs.nox (pss_cons (ps_set (i := 1) sc__law_begin.nd rfl (Or.inl rfl) pe_int)
  (pss_cons (ps_for PassesOwn.never rfl (pi_list (pe_slice sl_list (pv 0) po_none (po_some pe_int))) (pg_name (i := 2) sc__law_begin.nd rfl (Or.inl rfl))
    (pss_one (ps_set (i := 1) sc__law_begin.nd rfl (Or.inl rfl) (pe_op op_mod (pe_op op_add (pe_op op_add (pe_op op_mul (pv 1) pe_int) (pe_op op_mod (pe_callTy call_int1 (by rfl) (free_int T) (by decide +kernel) (pa_cons (pv 2) pa_nil)) pe_int)) pe_int) pe_int))))
  (pss_one (ps_ret (pe_lst (pa_cons (pe_lc (own := [("_law_cell", 2)]) (g := (gName 2)) (tt := tYes) rfl sc__law_begin.nd (pi_list (pv 0)) (blkOk_by (own := [("_law_cell", 2)]) (N := ["_law_script", "_law_seed", "_law_cell"]) (sc := defScope s__law_begin) (by decide +kernel)) (fun _ _ _ _ _ => (pg_name (i := 2) sc__law_begin.nd rfl (Or.inl rfl))) (fun _ _ _ _ _ => pts_nil) (fun _ _ _ _ _ => (pe_callB call_abs (by rfl) (free_abs T) (by decide +kernel) (pa_cons (pe_callTy call_int1 (by rfl) (free_int T) (by decide +kernel) (pa_cons (pv 2) pa_nil)) pa_nil)))) (pa_cons pe_int (pa_cons pe_int (pa_cons (pv 1) (pa_cons pe_int pa_nil)))))))))), rd__law_begin vs H Q E h⟩
theorem ok__law_begin (T : Tx K mg w) : FnR (PySem.Challenge.rw_timerwheels_k02_shares_in_order_and_as_t).prog w K mg base CX0 2 (ga K "_law_begin") (sp__law_begin K) :=
  fnR_of (okk__law_begin T) ((d__law_begin T).choose_spec.bindsN fun _ _ _ _ _ _ us hl => match us, hl with | [_], _ => rfl)
theorem kp__law_begin (T : Tx K mg w) : keepIn K (.ref (ga K "_law_begin")) = true := (d__law_begin T).choose_spec.kp
theorem sc__law_mixed : FnScope n__law_mixed ["_law_pool", "_law_many"] (defScope s__law_mixed) := ⟨rfl, rfl, rfl, by decide +kernel, rfl, by decide +kernel, by decide +kernel⟩
theorem ln0__law_mixed (vs : List V) (H : Hp) (Q : VK) (E : XK) (h : sp__law_mixed K vs H Q E) : vs.length = 2 := by
  unfold sp__law_mixed at h
  repeat' (first | (exact (congrArg List.length h.1).trans rfl) | (refine Or.elim h (fun h => ?_) (fun h => ?_)) | (obtain ⟨_, h⟩ := h))
theorem okk__law_mixed (T : Tx K mg w) : FnOk (PySem.Challenge.rw_timerwheels_k02_shares_in_order_and_as_t).prog w K mg base CX0 2 (ga K "_law_mixed") (d__law_mixed T).choose ["_law_pool", "_law_many"] (sp__law_mixed K) :=
  FunD.ok (k := 1) (N := n__law_mixed) (d__law_mixed T).choose_spec sc__law_mixed ln0__law_mixed fun cdv A outer s H vs Q E hr h => ⟨t__law_mixed K w, PSs.nox (pss_cons (ps_asg (pe_op op_add (pe_ix ix_lstH (pv 0) pe_int (fun _ _ => rfl)) pe_int) (pg_sub (pv 0) pe_int set_list))
  (pss_cons (ps_set (i := 2) sc__law_mixed.nd rfl (Or.inl rfl) (pe_ix ix_lstH (pv 0) pe_int (fun _ _ => rfl)))
  (pss_cons (ps_for PassesOwn.never rfl (pi_range1 rfl (free_range T) (pa_cons (pe_op op_add pe_int (pe_op op_fdiv (pe_callB call_len_str (by rfl) (free_len T) (by decide +kernel) (pa_cons (pe_callTy call_str_int (by rfl) (free_str T) (by decide +kernel) (pa_cons (pv 1) pa_nil)) pa_nil)) pe_int)) pa_nil)) (pg_name (i := 3) sc__law_mixed.nd rfl (Or.inl rfl))
    (pss_cons (ps_asg (pe_op op_mod (pe_op op_add (pe_op op_add (pe_op op_mul (pe_ix ix_lstH (pv 0) pe_int (fun _ _ => rfl)) pe_int) (pe_op op_mul (pe_ix ix_lstH (pv 0) pe_int (fun _ _ => rfl)) pe_int)) pe_int) pe_int) (pg_sub (pv 0) pe_int set_list))
  (pss_one (ps_set (i := 2) sc__law_mixed.nd rfl (Or.inl rfl) (pe_op op_add (pe_op op_mul (pv 2) pe_int) (pe_op op_fdiv (pe_ix ix_lstH (pv 0) pe_int (fun _ _ => rfl)) pe_int))))))
  (pss_one (ps_ret (pe_op op_mod (pv 2) (pv 1))))))), rd__law_mixed vs H Q E h⟩
theorem ok__law_mixed (T : Tx K mg w) : FnR (PySem.Challenge.rw_timerwheels_k02_shares_in_order_and_as_t).prog w K mg base CX0 2 (ga K "_law_mixed") (sp__law_mixed K) :=
  fnR_of (okk__law_mixed T) ((d__law_mixed T).choose_spec.bindsN fun _ _ _ _ _ _ us hl => match us, hl with | [_, _], _ => rfl)
theorem kp__law_mixed (T : Tx K mg w) : keepIn K (.ref (ga K "_law_mixed")) = true := (d__law_mixed T).choose_spec.kp
theorem sc__law_draw : FnScope n__law_draw ["_law_pool", "_law_many"] (defScope s__law_draw) := ⟨rfl, rfl, rfl, by decide +kernel, rfl, by decide +kernel, by decide +kernel⟩
theorem ln0__law_draw (vs : List V) (H : Hp) (Q : VK) (E : XK) (h : sp__law_draw K vs H Q E) : vs.length = 2 := by
  unfold sp__law_draw at h
  repeat' (first | (exact (congrArg List.length h.1).trans rfl) | (refine Or.elim h (fun h => ?_) (fun h => ?_)) | (obtain ⟨_, h⟩ := h))
theorem okk__law_draw (T : Tx K mg w) : FnOk (PySem.Challenge.rw_timerwheels_k02_shares_in_order_and_as_t).prog w K mg base CX0 4 (ga K "_law_draw") (d__law_draw T).choose ["_law_pool", "_law_many"] (sp__law_draw K) :=
  FunD.ok (k := 3) (N := n__law_draw) (d__law_draw T).choose_spec sc__law_draw ln0__law_draw fun cdv A outer s H vs Q E hr h => ⟨t__law_draw K w, PSs.nox (pss_cons (ps_if (PW.pt (pw_or (pt_cmpR op_ge (pe_ix ix_lstH (pv 0) pe_int (fun _ _ => rfl)) (pe_callB call_lenL (by rfl) (free_len T) (by decide +kernel) (pa_cons (pe_ix ix_lstH (pv 0) pe_int (fun _ _ => rfl)) pa_nil)) (nomark _)) (pw_or1 (pt_cmpR op_eq (pv 1) pe_int (nomark _))))) (pss_one (ps_ret (pe_ifExp (pt_cmpR op_gt (pv 1) pe_int (nomark _)) (pe_fn (ok__law_mixed T) (hr.mono (by decide)) rfl (glo__law_mixed T) (kp__law_mixed T) pass0 (pa_cons (pv 0) (pa_cons (pv 1) pa_nil))) pe_int))) pss_nil)
  (pss_cons (ps_if (pt_cmpR op_lt (pe_ix ix_lstH (pe_ix ix_lstH (pv 0) pe_int (fun _ _ => rfl)) (pe_ix ix_lstH (pv 0) pe_int (fun _ _ => rfl)) (fun _ _ => rfl)) (pe_op op_pow pe_int pe_int) (nomark _)) (pss_cons (ps_asg (pe_op op_mod (pe_op op_add (pe_op op_add (pe_op op_add (pe_op op_mul (pe_ix ix_lstH (pv 0) pe_int (fun _ _ => rfl)) pe_int) (pe_ix ix_lstH (pe_ix ix_lstH (pv 0) pe_int (fun _ _ => rfl)) (pe_ix ix_lstH (pv 0) pe_int (fun _ _ => rfl)) (fun _ _ => rfl))) (pe_ix ix_lstH (pv 0) pe_int (fun _ _ => rfl))) pe_int) pe_int) (pg_sub (pv 0) pe_int set_list))
  (pss_cons (ps_asg (pe_op op_add (pe_ix ix_lstH (pv 0) pe_int (fun _ _ => rfl)) pe_int) (pg_sub (pv 0) pe_int set_list))
  (pss_cons (ps_if (pt_cmpR op_eq (pe_op op_mod (pe_ix ix_lstH (pv 0) pe_int (fun _ _ => rfl)) pe_int) pe_int (nomark _)) (pss_one (ps_asg (pe_op op_add (pe_ix ix_lstH (pv 0) pe_int (fun _ _ => rfl)) pe_int) (pg_sub (pv 0) pe_int set_list))) pss_nil)
  (pss_one (ps_ret (pe_fn (ok__law_mixed T) (hr.mono (by decide)) rfl (glo__law_mixed T) (kp__law_mixed T) pass0 (pa_cons (pv 0) (pa_cons (pv 1) pa_nil)))))))) pss_nil)
  (pss_cons (ps_set (i := 2) sc__law_draw.nd rfl (Or.inl rfl) (pe_op op_mod (pe_ix ix_lstH (pe_ix ix_lstH (pv 0) pe_int (fun _ _ => rfl)) (pe_ix ix_lstH (pv 0) pe_int (fun _ _ => rfl)) (fun _ _ => rfl)) (pv 1)))
  (pss_cons (ps_asg (pe_op op_fdivW (pe_ix ix_lstH (pe_ix ix_lstH (pv 0) pe_int (fun _ _ => rfl)) (pe_ix ix_lstH (pv 0) pe_int (fun _ _ => rfl)) (fun _ _ => rfl)) (pv 1)) (pg_sub (pe_ix ix_lstH (pv 0) pe_int (fun _ _ => rfl)) (pe_ix ix_lstH (pv 0) pe_int (fun _ _ => rfl)) set_list))
  (pss_cons (ps_if (pt_cmpR op_eq (pe_ix ix_lstH (pe_ix ix_lstH (pv 0) pe_int (fun _ _ => rfl)) (pe_ix ix_lstH (pv 0) pe_int (fun _ _ => rfl)) (fun _ _ => rfl)) pe_int (nomark _)) (pss_one (ps_asg (pe_op op_add (pe_ix ix_lstH (pv 0) pe_int (fun _ _ => rfl)) pe_int) (pg_sub (pv 0) pe_int set_list))) pss_nil)
  (pss_one (ps_ret (pv 2)))))))), rd__law_draw vs H Q E h⟩
theorem ok__law_draw (T : Tx K mg w) : FnR (PySem.Challenge.rw_timerwheels_k02_shares_in_order_and_as_t).prog w K mg base CX0 4 (ga K "_law_draw") (sp__law_draw K) :=
  fnR_of (okk__law_draw T) ((d__law_draw T).choose_spec.bindsN fun _ _ _ _ _ _ us hl => match us, hl with | [_, _], _ => rfl)
theorem kp__law_draw (T : Tx K mg w) : keepIn K (.ref (ga K "_law_draw")) = true := (d__law_draw T).choose_spec.kp
theorem sc__law_integer : FnScope n__law_integer ["_law_pool"] (defScope s__law_integer) := ⟨rfl, rfl, rfl, by decide +kernel, rfl, by decide +kernel, by decide +kernel⟩
theorem ln0__law_integer (vs : List V) (H : Hp) (Q : VK) (E : XK) (h : sp__law_integer K vs H Q E) : vs.length = 1 := by
  unfold sp__law_integer at h
  repeat' (first | (exact (congrArg List.length h.1).trans rfl) | (refine Or.elim h (fun h => ?_) (fun h => ?_)) | (obtain ⟨_, h⟩ := h))
theorem okk__law_integer (T : Tx K mg w) : FnOk (PySem.Challenge.rw_timerwheels_k02_shares_in_order_and_as_t).prog w K mg base CX0 6 (ga K "_law_integer") (d__law_integer T).choose ["_law_pool"] (sp__law_integer K) :=
  FunD.ok (k := 5) (N := n__law_integer) (d__law_integer T).choose_spec sc__law_integer ln0__law_integer fun cdv A outer s H vs Q E hr h => ⟨t__law_integer K w, PSs.nox (pss_cons (ps_set (i := 1) sc__law_integer.nd rfl (Or.inl rfl) (pe_ix ix_lstH (pe_lst (pa_cons (pe_fn (ok__law_draw T) (hr.mono (by decide)) rfl (glo__law_draw T) (kp__law_draw T) pass0 (pa_cons (pv 0) (pa_cons pe_int pa_nil))) (pa_cons (pe_fn (ok__law_draw T) (hr.mono (by decide)) rfl (glo__law_draw T) (kp__law_draw T) pass0 (pa_cons (pv 0) (pa_cons pe_int pa_nil))) (pa_cons (pe_fn (ok__law_draw T) (hr.mono (by decide)) rfl (glo__law_draw T) (kp__law_draw T) pass0 (pa_cons (pv 0) (pa_cons (pe_op op_pow pe_int pe_int) pa_nil))) pa_nil)))) (pe_fn (ok__law_draw T) (hr.mono (by decide)) rfl (glo__law_draw T) (kp__law_draw T) pass0 (pa_cons (pv 0) (pa_cons pe_int pa_nil))) (fun _ _ => rfl)))
  (pss_one (ps_ret (pe_ix ix_lstH (pe_lst (pa_cons (pv 1) (pa_cons (pe_op op_sub pe_int (pv 1)) pa_nil))) (pe_fn (ok__law_draw T) (hr.mono (by decide)) rfl (glo__law_draw T) (kp__law_draw T) pass0 (pa_cons (pv 0) (pa_cons pe_int pa_nil))) (fun _ _ => rfl))))), rd__law_integer vs H Q E h⟩
theorem ok__law_integer (T : Tx K mg w) : FnR (PySem.Challenge.rw_timerwheels_k02_shares_in_order_and_as_t).prog w K mg base CX0 6 (ga K "_law_integer") (sp__law_integer K) :=
  fnR_of (okk__law_integer T) ((d__law_integer T).choose_spec.bindsN fun _ _ _ _ _ _ us hl => match us, hl with | [_], _ => rfl)
theorem kp__law_integer (T : Tx K mg w) : keepIn K (.ref (ga K "_law_integer")) = true := (d__law_integer T).choose_spec.kp
theorem sc_is_integer : FnScope n_is_integer ["value"] (defScope s_is_integer) := ⟨rfl, rfl, rfl, by decide +kernel, rfl, by decide +kernel, by decide +kernel⟩
theorem ln0_is_integer (vs : List V) (H : Hp) (Q : VK) (E : XK) (h : sp_is_integer K vs H Q E) : vs.length = 1 := by
  unfold sp_is_integer at h
  repeat' (first | (exact (congrArg List.length h.1).trans rfl) | (refine Or.elim h (fun h => ?_) (fun h => ?_)) | (obtain ⟨_, h⟩ := h))
theorem okk_is_integer (T : Tx K mg w) : FnOk (PySem.Challenge.rw_timerwheels_k02_shares_in_order_and_as_t).prog w K mg base CX0 2 (ga K "is_integer") (d_is_integer T).choose ["value"] (sp_is_integer K) :=
  FunD.ok (k := 1) (N := n_is_integer) (d_is_integer T).choose_spec sc_is_integer ln0_is_integer fun cdv A outer s H vs Q E hr h => ⟨t_is_integer K w, PSs.nox (pss_one (ps_ret (pe_and (pe_callB call_isi (by rfl) (free_isinstance T) (by decide +kernel) (pa_cons (pv 0) (pa_cons (pe_bltn (v := .ty "int") (by rfl) (free_int T) (by decide +kernel) rfl) pa_nil))) (pe_one (pe_not (pe_callB call_isi (by rfl) (free_isinstance T) (by decide +kernel) (pa_cons (pv 0) (pa_cons (pe_bltn (v := .ty "bool") (by rfl) (free_bool T) (by decide +kernel) rfl) pa_nil)))))))), rd_is_integer vs H Q E h⟩
theorem ok_is_integer (T : Tx K mg w) : FnR (PySem.Challenge.rw_timerwheels_k02_shares_in_order_and_as_t).prog w K mg base CX0 2 (ga K "is_integer") (sp_is_integer K) :=
  fnR_of (okk_is_integer T) ((d_is_integer T).choose_spec.bindsN fun _ _ _ _ _ _ us hl => match us, hl with | [_], _ => rfl)
theorem kp_is_integer (T : Tx K mg w) : keepIn K (.ref (ga K "is_integer")) = true := (d_is_integer T).choose_spec.kp
theorem sc_common_divisor : FnScope n_common_divisor ["first", "second"] (defScope s_common_divisor) := ⟨rfl, rfl, rfl, by decide +kernel, rfl, by decide +kernel, by decide +kernel⟩
theorem ln0_common_divisor (vs : List V) (H : Hp) (Q : VK) (E : XK) (h : sp_common_divisor K vs H Q E) : vs.length = 2 := by
  unfold sp_common_divisor at h
  repeat' (first | (exact (congrArg List.length h.1).trans rfl) | (refine Or.elim h (fun h => ?_) (fun h => ?_)) | (obtain ⟨_, h⟩ := h))
theorem okk_common_divisor (T : Tx K mg w) : FnOk (PySem.Challenge.rw_timerwheels_k02_shares_in_order_and_as_t).prog w K mg base CX0 2 (ga K "common_divisor") (d_common_divisor T).choose ["first", "second"] (sp_common_divisor K) :=
  FunD.ok (k := 1) (N := n_common_divisor) (d_common_divisor T).choose_spec sc_common_divisor ln0_common_divisor fun cdv A outer s H vs Q E hr h => ⟨t_common_divisor K w, PSs.nox (pss_cons (ps_par (i := 2) (j := 3) (by rfl) sc_common_divisor.nd rfl rfl (by decide) rfl rfl (pa_cons (pe_callB call_abs (by rfl) (free_abs T) (by decide +kernel) (pa_cons (pv 0) pa_nil)) (pa_cons (pv 1) pa_nil)) (by rfl))
  (pss_cons (ps_while PassesOwn.never (pt_cmpR op_gt (pv 2) pe_int (nomark _))
    (pss_one (ps_par (i := 2) (j := 3) (by rfl) sc_common_divisor.nd rfl rfl (by decide) rfl rfl (pa_cons (pe_op op_mod (pv 3) (pv 2)) (pa_cons (pv 2) pa_nil)) (by rfl))))
  (pss_one (ps_ret (pv 3))))), rd_common_divisor vs H Q E h⟩
theorem ok_common_divisor (T : Tx K mg w) : FnR (PySem.Challenge.rw_timerwheels_k02_shares_in_order_and_as_t).prog w K mg base CX0 2 (ga K "common_divisor") (sp_common_divisor K) :=
  fnR_of (okk_common_divisor T) ((d_common_divisor T).choose_spec.bindsN fun _ _ _ _ _ _ us hl => match us, hl with | [_, _], _ => rfl)
theorem kp_common_divisor (T : Tx K mg w) : keepIn K (.ref (ga K "common_divisor")) = true := (d_common_divisor T).choose_spec.kp
theorem sc_Share___init__ : FnScope n_Share___init__ ["self", "top", "bottom"] (defScope s_Share___init__) := ⟨rfl, rfl, rfl, by decide +kernel, rfl, by decide +kernel, by decide +kernel⟩
theorem ln0_Share___init__ (vs : List V) (H : Hp) (Q : VK) (E : XK) (h : sp_Share___init__ K vs H Q E) : vs.length = 3 := by
  unfold sp_Share___init__ at h
  repeat' (first | (exact (congrArg List.length h.1).trans rfl) | (refine Or.elim h (fun h => ?_) (fun h => ?_)) | (obtain ⟨_, h⟩ := h))
theorem okk_Share___init__ (T : Tx K mg w) : FnOk (PySem.Challenge.rw_timerwheels_k02_shares_in_order_and_as_t).prog w K mg base CX0 4 (ma K (ga K "Share") "__init__") (d_Share___init__ T).choose ["self", "top", "bottom"] (sp_Share___init__ K) :=
  FunD.ok (k := 3) (N := n_Share___init__) (d_Share___init__ T).choose_spec sc_Share___init__ ln0_Share___init__ fun cdv A outer s H vs Q E hr h => ⟨t_Share___init__ K w, PSs.nox (pss_cons (ps_if (pt_not (pt_val (pe_fn (ok_is_integer T) (hr.mono (by decide)) rfl (glo_is_integer T) (kp_is_integer T) pass0 (pa_cons (pv 1) pa_nil)))) (pss_one ps_never) pss_nil)
  (pss_cons (ps_if (PW.pt (pw_or (pt_not (pt_val (pe_fn (ok_is_integer T) (hr.mono (by decide)) rfl (glo_is_integer T) (kp_is_integer T) pass0 (pa_cons (pv 2) pa_nil)))) (pw_or1 (pt_cmpR op_eq (pv 2) pe_int (nomark _))))) (pss_one ps_never) pss_nil)
  (pss_cons (ps_set (i := 3) sc_Share___init__.nd rfl (Or.inl rfl) (pe_fn (ok_common_divisor T) (hr.mono (by decide)) rfl (glo_common_divisor T) (kp_common_divisor T) pass0 (pa_cons (pv 1) (pa_cons (pe_callB call_abs (by rfl) (free_abs T) (by decide +kernel) (pa_cons (pv 2) pa_nil)) pa_nil))))
  (pss_cons (ps_if (pt_cmpR op_lt (pv 2) pe_int (nomark _)) (pss_one (ps_set (i := 3) sc_Share___init__.nd rfl (Or.inl rfl) (pe_un un_neg (pv 3)))) pss_nil)
  (pss_cons (ps_fld (pv 0) (pe_op op_fdivA (pv 1) (pv 3)) rfl)
  (pss_one (ps_fld (pv 0) (pe_op op_fdivA (pv 2) (pv 3)) rfl))))))), rd_Share___init__ (ks T) vs H Q E h⟩
theorem bi_Share_1 (T : Tx K mg w) : ∃ ds, Vals [V.int 1] ds ∧ Binds K (d_Share___init__ T).choose ["self", "top", "bottom"] ds :=
  FunD.binds1 (ps := ["self", "top", "bottom"]) (d_Share___init__ T).choose_spec 2 0 (fun z => by cases z) rfl fun T kV doc pm an cdv ct us its l1 l2 => match us, l1, its, l2 with | [_, _], _, [_], _ => ⟨_, rfl, rfl⟩
theorem ok_Share___init__ (T : Tx K mg w) : FnR (PySem.Challenge.rw_timerwheels_k02_shares_in_order_and_as_t).prog w K mg base CX0 4 (ma K (ga K "Share") "__init__") (sp_Share___init__ K) := by
  obtain ⟨ds, hv, hb⟩ := FunD.binds1 (ps := ["self", "top", "bottom"]) (d_Share___init__ T).choose_spec 3 1 (fun z => by cases z) rfl fun T kV doc pm an cdv ct us its l1 l2 => match us, l1, its, l2 with | [_, _, _], _, [_], _ => ⟨_, rfl, rfl⟩
  cases hv
  exact fnR_of (okk_Share___init__ T) hb
theorem sc_share_of : FnScope n_share_of ["number"] (defScope s_share_of) := ⟨rfl, rfl, rfl, by decide +kernel, rfl, by decide +kernel, by decide +kernel⟩
theorem ln0_share_of (vs : List V) (H : Hp) (Q : VK) (E : XK) (h : sp_share_of K vs H Q E) : vs.length = 1 := by
  unfold sp_share_of at h
  repeat' (first | (exact (congrArg List.length h.1).trans rfl) | (refine Or.elim h (fun h => ?_) (fun h => ?_)) | (obtain ⟨_, h⟩ := h))
theorem okk_share_of (T : Tx K mg w) : FnOk (PySem.Challenge.rw_timerwheels_k02_shares_in_order_and_as_t).prog w K mg base CX0 6 (ga K "share_of") (d_share_of T).choose ["number"] (sp_share_of K) :=
  FunD.ok (k := 5) (N := n_share_of) (d_share_of T).choose_spec sc_share_of ln0_share_of fun cdv A outer s H vs Q E hr h => ⟨t_share_of K w, PSs.nox (pss_cons (ps_if (pt_val (pe_callB call_isi (by rfl) (free_isinstance T) (by decide +kernel) (pa_cons (pv 0) (pa_cons (pe_glob rfl (glo_Share T) rfl) pa_nil)))) (pss_one (ps_ret (pv 0))) pss_nil)
  (pss_one (ps_ret (pe_make (mk_Share T) (okk_Share___init__ T) (hr.mono (by decide)) rfl (glo_Share T) (bi_Share_1 T).choose_spec.2 (bi_Share_1 T).choose_spec.1 pass0 (pa_cons (pv 0) pa_nil))))), rd_share_of (ks T) vs H Q E h⟩
theorem ok_share_of (T : Tx K mg w) : FnR (PySem.Challenge.rw_timerwheels_k02_shares_in_order_and_as_t).prog w K mg base CX0 6 (ga K "share_of") (sp_share_of K) :=
  fnR_of (okk_share_of T) ((d_share_of T).choose_spec.bindsN fun _ _ _ _ _ _ us hl => match us, hl with | [_], _ => rfl)
theorem kp_share_of (T : Tx K mg w) : keepIn K (.ref (ga K "share_of")) = true := (d_share_of T).choose_spec.kp
theorem sc_Share___lt__X : FnScope n_Share___lt__X ["self", "other"] (defScope s_Share___lt__) := ⟨rfl, rfl, rfl, by decide +kernel, rfl, by decide +kernel, by decide +kernel⟩
theorem ln0_Share___lt__X (vs : List V) (H : Hp) (Q : VK) (E : XK) (h : sp_Share___lt__X K vs H Q E) : vs.length = 2 := by
  unfold sp_Share___lt__X at h
  repeat' (first | (exact (congrArg List.length h.1).trans rfl) | (refine Or.elim h (fun h => ?_) (fun h => ?_)) | (obtain ⟨_, h⟩ := h))
theorem okk_Share___lt__X (T : Tx K mg w) : FnOk (PySem.Challenge.rw_timerwheels_k02_shares_in_order_and_as_t).prog w K mg base CX0 8 (ma K (ga K "Share") "__lt__") (d_Share___lt__ T).choose ["self", "other"] (sp_Share___lt__X K) :=
  FunD.ok (k := 7) (N := n_Share___lt__X) (d_Share___lt__ T).choose_spec sc_Share___lt__X ln0_Share___lt__X fun cdv A outer s H vs Q E hr h => ⟨t_Share___lt__X K w, PSs.nox (pss_cons (ps_if (pt_not (pt_val (pe_callB call_isiT (by rfl) (free_isinstance T) (by decide +kernel) (pa_cons (pv 1) (pa_cons (pe_tup (pa_cons (pe_bltn (v := .ty "int") (by rfl) (free_int T) (by decide +kernel) rfl) (pa_cons (pe_glob rfl (glo_Share T) rfl) pa_nil))) pa_nil))))) (pss_one ps_never) pss_nil)
  (pss_cons (ps_set (i := 2) sc_Share___lt__X.nd rfl (Or.inl rfl) (pe_fn (ok_share_of T) (hr.mono (by decide)) rfl (glo_share_of T) (kp_share_of T) pass0 (pa_cons (pv 1) pa_nil)))
  (pss_one (ps_ret (pe_cmpR op_lt (pe_op op_mulW (pe_fld (pv 0) rfl) (pe_fld (pv 2) rfl)) (pe_op op_mulW (pe_fld (pv 2) rfl) (pe_fld (pv 0) rfl)) (nomark _)))))), rd_Share___lt__X (kxm T) vs H Q E h⟩
theorem ok_Share___lt__X (T : Tx K mg w) : FnR (PySem.Challenge.rw_timerwheels_k02_shares_in_order_and_as_t).prog w K mg base CX0 8 (ma K (ga K "Share") "__lt__") (sp_Share___lt__X K) :=
  fnR_of (okk_Share___lt__X T) ((d_Share___lt__ T).choose_spec.bindsN fun _ _ _ _ _ _ us hl => match us, hl with | [_, _], _ => rfl)
theorem sc_Share___le__X : FnScope n_Share___le__X ["self", "other"] (defScope s_Share___le__) := ⟨rfl, rfl, rfl, by decide +kernel, rfl, by decide +kernel, by decide +kernel⟩
theorem ln0_Share___le__X (vs : List V) (H : Hp) (Q : VK) (E : XK) (h : sp_Share___le__X K vs H Q E) : vs.length = 2 := by
  unfold sp_Share___le__X at h
  repeat' (first | (exact (congrArg List.length h.1).trans rfl) | (refine Or.elim h (fun h => ?_) (fun h => ?_)) | (obtain ⟨_, h⟩ := h))
theorem okk_Share___le__X (T : Tx K mg w) : FnOk (PySem.Challenge.rw_timerwheels_k02_shares_in_order_and_as_t).prog w K mg base CX0 8 (ma K (ga K "Share") "__le__") (d_Share___le__ T).choose ["self", "other"] (sp_Share___le__X K) :=
  FunD.ok (k := 7) (N := n_Share___le__X) (d_Share___le__ T).choose_spec sc_Share___le__X ln0_Share___le__X fun cdv A outer s H vs Q E hr h => ⟨t_Share___le__X K w, PSs.nox (pss_cons (ps_if (pt_not (pt_val (pe_callB call_isiT (by rfl) (free_isinstance T) (by decide +kernel) (pa_cons (pv 1) (pa_cons (pe_tup (pa_cons (pe_bltn (v := .ty "int") (by rfl) (free_int T) (by decide +kernel) rfl) (pa_cons (pe_glob rfl (glo_Share T) rfl) pa_nil))) pa_nil))))) (pss_one ps_never) pss_nil)
  (pss_cons (ps_set (i := 2) sc_Share___le__X.nd rfl (Or.inl rfl) (pe_fn (ok_share_of T) (hr.mono (by decide)) rfl (glo_share_of T) (kp_share_of T) pass0 (pa_cons (pv 1) pa_nil)))
  (pss_one (ps_ret (pe_cmpR op_le (pe_op op_mulW (pe_fld (pv 0) rfl) (pe_fld (pv 2) rfl)) (pe_op op_mulW (pe_fld (pv 2) rfl) (pe_fld (pv 0) rfl)) (nomark _)))))), rd_Share___le__X (kxm T) vs H Q E h⟩
theorem ok_Share___le__X (T : Tx K mg w) : FnR (PySem.Challenge.rw_timerwheels_k02_shares_in_order_and_as_t).prog w K mg base CX0 8 (ma K (ga K "Share") "__le__") (sp_Share___le__X K) :=
  fnR_of (okk_Share___le__X T) ((d_Share___le__ T).choose_spec.bindsN fun _ _ _ _ _ _ us hl => match us, hl with | [_, _], _ => rfl)
theorem sc_Share___gt__X : FnScope n_Share___gt__X ["self", "other"] (defScope s_Share___gt__) := ⟨rfl, rfl, rfl, by decide +kernel, rfl, by decide +kernel, by decide +kernel⟩
theorem ln0_Share___gt__X (vs : List V) (H : Hp) (Q : VK) (E : XK) (h : sp_Share___gt__X K vs H Q E) : vs.length = 2 := by
  unfold sp_Share___gt__X at h
  repeat' (first | (exact (congrArg List.length h.1).trans rfl) | (refine Or.elim h (fun h => ?_) (fun h => ?_)) | (obtain ⟨_, h⟩ := h))
theorem okk_Share___gt__X (T : Tx K mg w) : FnOk (PySem.Challenge.rw_timerwheels_k02_shares_in_order_and_as_t).prog w K mg base CX0 8 (ma K (ga K "Share") "__gt__") (d_Share___gt__ T).choose ["self", "other"] (sp_Share___gt__X K) :=
  FunD.ok (k := 7) (N := n_Share___gt__X) (d_Share___gt__ T).choose_spec sc_Share___gt__X ln0_Share___gt__X fun cdv A outer s H vs Q E hr h => ⟨t_Share___gt__X K w, PSs.nox (pss_cons (ps_if (pt_not (pt_val (pe_callB call_isiT (by rfl) (free_isinstance T) (by decide +kernel) (pa_cons (pv 1) (pa_cons (pe_tup (pa_cons (pe_bltn (v := .ty "int") (by rfl) (free_int T) (by decide +kernel) rfl) (pa_cons (pe_glob rfl (glo_Share T) rfl) pa_nil))) pa_nil))))) (pss_one ps_never) pss_nil)
  (pss_cons (ps_set (i := 2) sc_Share___gt__X.nd rfl (Or.inl rfl) (pe_fn (ok_share_of T) (hr.mono (by decide)) rfl (glo_share_of T) (kp_share_of T) pass0 (pa_cons (pv 1) pa_nil)))
  (pss_one (ps_ret (pe_cmpR op_gt (pe_op op_mulW (pe_fld (pv 0) rfl) (pe_fld (pv 2) rfl)) (pe_op op_mulW (pe_fld (pv 2) rfl) (pe_fld (pv 0) rfl)) (nomark _)))))), rd_Share___gt__X (kxm T) vs H Q E h⟩
theorem ok_Share___gt__X (T : Tx K mg w) : FnR (PySem.Challenge.rw_timerwheels_k02_shares_in_order_and_as_t).prog w K mg base CX0 8 (ma K (ga K "Share") "__gt__") (sp_Share___gt__X K) :=
  fnR_of (okk_Share___gt__X T) ((d_Share___gt__ T).choose_spec.bindsN fun _ _ _ _ _ _ us hl => match us, hl with | [_, _], _ => rfl)
theorem sc_Share___ge__X : FnScope n_Share___ge__X ["self", "other"] (defScope s_Share___ge__) := ⟨rfl, rfl, rfl, by decide +kernel, rfl, by decide +kernel, by decide +kernel⟩
theorem ln0_Share___ge__X (vs : List V) (H : Hp) (Q : VK) (E : XK) (h : sp_Share___ge__X K vs H Q E) : vs.length = 2 := by
  unfold sp_Share___ge__X at h
  repeat' (first | (exact (congrArg List.length h.1).trans rfl) | (refine Or.elim h (fun h => ?_) (fun h => ?_)) | (obtain ⟨_, h⟩ := h))
theorem okk_Share___ge__X (T : Tx K mg w) : FnOk (PySem.Challenge.rw_timerwheels_k02_shares_in_order_and_as_t).prog w K mg base CX0 8 (ma K (ga K "Share") "__ge__") (d_Share___ge__ T).choose ["self", "other"] (sp_Share___ge__X K) :=
  FunD.ok (k := 7) (N := n_Share___ge__X) (d_Share___ge__ T).choose_spec sc_Share___ge__X ln0_Share___ge__X fun cdv A outer s H vs Q E hr h => ⟨t_Share___ge__X K w, PSs.nox (pss_cons (ps_if (pt_not (pt_val (pe_callB call_isiT (by rfl) (free_isinstance T) (by decide +kernel) (pa_cons (pv 1) (pa_cons (pe_tup (pa_cons (pe_bltn (v := .ty "int") (by rfl) (free_int T) (by decide +kernel) rfl) (pa_cons (pe_glob rfl (glo_Share T) rfl) pa_nil))) pa_nil))))) (pss_one ps_never) pss_nil)
  (pss_cons (ps_set (i := 2) sc_Share___ge__X.nd rfl (Or.inl rfl) (pe_fn (ok_share_of T) (hr.mono (by decide)) rfl (glo_share_of T) (kp_share_of T) pass0 (pa_cons (pv 1) pa_nil)))
  (pss_one (ps_ret (pe_cmpR op_ge (pe_op op_mulW (pe_fld (pv 0) rfl) (pe_fld (pv 2) rfl)) (pe_op op_mulW (pe_fld (pv 2) rfl) (pe_fld (pv 0) rfl)) (nomark _)))))), rd_Share___ge__X (kxm T) vs H Q E h⟩
theorem ok_Share___ge__X (T : Tx K mg w) : FnR (PySem.Challenge.rw_timerwheels_k02_shares_in_order_and_as_t).prog w K mg base CX0 8 (ma K (ga K "Share") "__ge__") (sp_Share___ge__X K) :=
  fnR_of (okk_Share___ge__X T) ((d_Share___ge__ T).choose_spec.bindsN fun _ _ _ _ _ _ us hl => match us, hl with | [_, _], _ => rfl)
theorem sc_is_integerA : FnScope n_is_integerA ["value"] (defScope s_is_integer) := ⟨rfl, rfl, rfl, by decide +kernel, rfl, by decide +kernel, by decide +kernel⟩
theorem ln0_is_integerA (vs : List V) (H : Hp) (Q : VK) (E : XK) (h : sp_is_integerA K vs H Q E) : vs.length = 1 := by
  unfold sp_is_integerA at h
  repeat' (first | (exact (congrArg List.length h.1).trans rfl) | (refine Or.elim h (fun h => ?_) (fun h => ?_)) | (obtain ⟨_, h⟩ := h))
theorem okk_is_integerA (T : Tx K mg w) : FnOk (PySem.Challenge.rw_timerwheels_k02_shares_in_order_and_as_t).prog w K mg base CX0 2 (ga K "is_integer") (d_is_integer T).choose ["value"] (sp_is_integerA K) :=
  FunD.ok (k := 1) (N := n_is_integerA) (d_is_integer T).choose_spec sc_is_integerA ln0_is_integerA fun cdv A outer s H vs Q E hr h => ⟨t_is_integerA K w, PSs.nox (pss_one (ps_ret (pe_and (pe_callB call_isi (by rfl) (free_isinstance T) (by decide +kernel) (pa_cons (pv 0) (pa_cons (pe_bltn (v := .ty "int") (by rfl) (free_int T) (by decide +kernel) rfl) pa_nil))) (pe_one (pe_not (pe_callB call_isi (by rfl) (free_isinstance T) (by decide +kernel) (pa_cons (pv 0) (pa_cons (pe_bltn (v := .ty "bool") (by rfl) (free_bool T) (by decide +kernel) rfl) pa_nil)))))))), rd_is_integerA vs H Q E h⟩
theorem ok_is_integerA (T : Tx K mg w) : FnR (PySem.Challenge.rw_timerwheels_k02_shares_in_order_and_as_t).prog w K mg base CX0 2 (ga K "is_integer") (sp_is_integerA K) :=
  fnR_of (okk_is_integerA T) ((d_is_integer T).choose_spec.bindsN fun _ _ _ _ _ _ us hl => match us, hl with | [_], _ => rfl)
theorem sc_is_numberA : FnScope n_is_numberA ["value"] (defScope s_is_number) := ⟨rfl, rfl, rfl, by decide +kernel, rfl, by decide +kernel, by decide +kernel⟩
theorem ln0_is_numberA (vs : List V) (H : Hp) (Q : VK) (E : XK) (h : sp_is_numberA K vs H Q E) : vs.length = 1 := by
  unfold sp_is_numberA at h
  repeat' (first | (exact (congrArg List.length h.1).trans rfl) | (refine Or.elim h (fun h => ?_) (fun h => ?_)) | (obtain ⟨_, h⟩ := h))
theorem okk_is_numberA (T : Tx K mg w) : FnOk (PySem.Challenge.rw_timerwheels_k02_shares_in_order_and_as_t).prog w K mg base CX0 4 (ga K "is_number") (d_is_number T).choose ["value"] (sp_is_numberA K) :=
  FunD.ok (k := 3) (N := n_is_numberA) (d_is_number T).choose_spec sc_is_numberA ln0_is_numberA fun cdv A outer s H vs Q E hr h => ⟨t_is_numberA K w, PSs.nox (pss_one (ps_ret (pe_or (pe_fn (ok_is_integerA T) (hr.mono (by decide)) rfl (glo_is_integer T) (kp_is_integer T) pass0 (pa_cons (pv 0) pa_nil)) (pe_one (pe_callB call_isi (by rfl) (free_isinstance T) (by decide +kernel) (pa_cons (pv 0) (pa_cons (pe_glob rfl (glo_Share T) rfl) pa_nil))))))), rd_is_numberA (kx T) vs H Q E h⟩
theorem ok_is_numberA (T : Tx K mg w) : FnR (PySem.Challenge.rw_timerwheels_k02_shares_in_order_and_as_t).prog w K mg base CX0 4 (ga K "is_number") (sp_is_numberA K) :=
  fnR_of (okk_is_numberA T) ((d_is_number T).choose_spec.bindsN fun _ _ _ _ _ _ us hl => match us, hl with | [_], _ => rfl)
theorem kp_is_number (T : Tx K mg w) : keepIn K (.ref (ga K "is_number")) = true := (d_is_number T).choose_spec.kp
theorem sc_Share___eq__X : FnScope n_Share___eq__X ["self", "other"] (defScope s_Share___eq__) := ⟨rfl, rfl, rfl, by decide +kernel, rfl, by decide +kernel, by decide +kernel⟩
theorem ln0_Share___eq__X (vs : List V) (H : Hp) (Q : VK) (E : XK) (h : sp_Share___eq__X K vs H Q E) : vs.length = 2 := by
  unfold sp_Share___eq__X at h
  repeat' (first | (exact (congrArg List.length h.1).trans rfl) | (refine Or.elim h (fun h => ?_) (fun h => ?_)) | (obtain ⟨_, h⟩ := h))
theorem okk_Share___eq__X (T : Tx K mg w) : FnOk (PySem.Challenge.rw_timerwheels_k02_shares_in_order_and_as_t).prog w K mg base CX0 8 (ma K (ga K "Share") "__eq__") (d_Share___eq__ T).choose ["self", "other"] (sp_Share___eq__X K) :=
  FunD.ok (k := 7) (N := n_Share___eq__X) (d_Share___eq__ T).choose_spec sc_Share___eq__X ln0_Share___eq__X fun cdv A outer s H vs Q E hr h => ⟨t_Share___eq__X K w, PSs.nox (pss_cons (ps_if (pt_not (pt_val (pe_fn (ok_is_numberA T) (hr.mono (by decide)) rfl (glo_is_number T) (kp_is_number T) pass0 (pa_cons (pv 1) pa_nil)))) (pss_one (ps_ret pe_bl)) pss_nil)
  (pss_cons (ps_set (i := 2) sc_Share___eq__X.nd rfl (Or.inl rfl) (pe_fn (ok_share_of T) (hr.mono (by decide)) rfl (glo_share_of T) (kp_share_of T) pass0 (pa_cons (pv 1) pa_nil)))
  (pss_one (ps_ret (pe_and (pe_cmpR op_eq (pe_fld (pv 0) rfl) (pe_fld (pv 2) rfl) (nomark _)) (pe_one (pe_cmpR op_eq (pe_fld (pv 0) rfl) (pe_fld (pv 2) rfl) (nomark _)))))))), rd_Share___eq__X (kx T) vs H Q E h⟩
theorem ok_Share___eq__X (T : Tx K mg w) : FnR (PySem.Challenge.rw_timerwheels_k02_shares_in_order_and_as_t).prog w K mg base CX0 8 (ma K (ga K "Share") "__eq__") (sp_Share___eq__X K) :=
  fnR_of (okk_Share___eq__X T) ((d_Share___eq__ T).choose_spec.bindsN fun _ _ _ _ _ _ us hl => match us, hl with | [_, _], _ => rfl)
theorem sc_Share___ne__X : FnScope n_Share___ne__X ["self", "other"] (defScope s_Share___ne__) := ⟨rfl, rfl, rfl, by decide +kernel, rfl, by decide +kernel, by decide +kernel⟩
theorem ln0_Share___ne__X (vs : List V) (H : Hp) (Q : VK) (E : XK) (h : sp_Share___ne__X K vs H Q E) : vs.length = 2 := by
  unfold sp_Share___ne__X at h
  repeat' (first | (exact (congrArg List.length h.1).trans rfl) | (refine Or.elim h (fun h => ?_) (fun h => ?_)) | (obtain ⟨_, h⟩ := h))
theorem okk_Share___ne__X (T : Tx K mg w) : FnOk (PySem.Challenge.rw_timerwheels_k02_shares_in_order_and_as_t).prog w K mg base CX0 8 (ma K (ga K "Share") "__ne__") (d_Share___ne__ T).choose ["self", "other"] (sp_Share___ne__X K) :=
  FunD.ok (k := 7) (N := n_Share___ne__X) (d_Share___ne__ T).choose_spec sc_Share___ne__X ln0_Share___ne__X fun cdv A outer s H vs Q E hr h => ⟨t_Share___ne__X K w, PSs.nox (pss_cons (ps_if (pt_not (pt_val (pe_fn (ok_is_numberA T) (hr.mono (by decide)) rfl (glo_is_number T) (kp_is_number T) pass0 (pa_cons (pv 1) pa_nil)))) (pss_one (ps_ret pe_bl)) pss_nil)
  (pss_cons (ps_set (i := 2) sc_Share___ne__X.nd rfl (Or.inl rfl) (pe_fn (ok_share_of T) (hr.mono (by decide)) rfl (glo_share_of T) (kp_share_of T) pass0 (pa_cons (pv 1) pa_nil)))
  (pss_one (ps_ret (pe_or (pe_cmpR op_ne (pe_fld (pv 0) rfl) (pe_fld (pv 2) rfl) (nomark _)) (pe_one (pe_cmpR op_ne (pe_fld (pv 0) rfl) (pe_fld (pv 2) rfl) (nomark _)))))))), rd_Share___ne__X (kx T) vs H Q E h⟩
theorem ok_Share___ne__X (T : Tx K mg w) : FnR (PySem.Challenge.rw_timerwheels_k02_shares_in_order_and_as_t).prog w K mg base CX0 8 (ma K (ga K "Share") "__ne__") (sp_Share___ne__X K) :=
  fnR_of (okk_Share___ne__X T) ((d_Share___ne__ T).choose_spec.bindsN fun _ _ _ _ _ _ us hl => match us, hl with | [_, _], _ => rfl)
theorem sc__law_same_orderSS : FnScope n__law_same_orderSS ["_law_one", "_law_other", "_law_left", "_law_right"] (defScope s__law_same_order) := ⟨rfl, rfl, rfl, by decide +kernel, rfl, by decide +kernel, by decide +kernel⟩
theorem ln0__law_same_orderSS (vs : List V) (H : Hp) (Q : VK) (E : XK) (h : sp__law_same_orderSS K vs H Q E) : vs.length = 4 := by
  unfold sp__law_same_orderSS at h
  repeat' (first | (exact (congrArg List.length h.1).trans rfl) | (refine Or.elim h (fun h => ?_) (fun h => ?_)) | (obtain ⟨_, h⟩ := h))
theorem okG__law_same_orderSS (T : Tx K mg w) : FnG (PySem.Challenge.rw_timerwheels_k02_shares_in_order_and_as_t).prog w K mg base CX0 10 (ga K "_law_same_order") (sp__law_same_orderSS K) := by
  obtain ⟨fd, F⟩ := d__law_same_order T
  exact fnG_of (k := 9) (N := n__law_same_orderSS) F sc__law_same_orderSS (F.bindsN fun _ _ _ _ _ _ us hl => match us, hl with | [_, _, _, _], _ => rfl) ln0__law_same_orderSS fun cdv A outer s H vs Q E hr h => ⟨t__law_same_orderSS K w, PSs.nox (pss_cons (ps_set (i := 4) sc__law_same_orderSS.nd rfl (Or.inl rfl) (pe_lst (pa_cons (pe_cmpR (op_cmpO (me_Share___lt__ T).at_ (fq_Share___lt__ T).1 (ok_Share___lt__X T) (hr.rm.mono (by decide)) pass0) (pv 0) (pv 1) (nomark _)) (pa_cons (pe_cmpR (op_cmpO (me_Share___le__ T).at_ (fq_Share___le__ T).1 (ok_Share___le__X T) (hr.rm.mono (by decide)) pass0) (pv 0) (pv 1) (nomark _)) (pa_cons (pe_cmpR (op_cmpO (me_Share___gt__ T).at_ (fq_Share___gt__ T).1 (ok_Share___gt__X T) (hr.rm.mono (by decide)) pass0) (pv 0) (pv 1) (nomark _)) (pa_cons (pe_cmpR (op_cmpO (me_Share___ge__ T).at_ (fq_Share___ge__ T).1 (ok_Share___ge__X T) (hr.rm.mono (by decide)) pass0) (pv 0) (pv 1) (nomark _)) (pa_cons (pe_cmpR (op_cmpO (me_Share___eq__ T).at_ (fq_Share___eq__ T).1 (ok_Share___eq__X T) (hr.rm.mono (by decide)) pass0) (pv 0) (pv 1) (nomark _)) (pa_cons (pe_cmpR (op_cmpO (me_Share___ne__ T).at_ (fq_Share___ne__ T).1 (ok_Share___ne__X T) (hr.rm.mono (by decide)) pass0) (pv 0) (pv 1) (nomark _)) pa_nil))))))))
  (pss_cons (ps_set (i := 5) sc__law_same_orderSS.nd rfl (Or.inl rfl) (pe_lst (pa_cons (pe_cmpR op_lt (pv 2) (pv 3) (nomark _)) (pa_cons (pe_cmpR op_le (pv 2) (pv 3) (nomark _)) (pa_cons (pe_cmpR op_gt (pv 2) (pv 3) (nomark _)) (pa_cons (pe_cmpR op_ge (pv 2) (pv 3) (nomark _)) (pa_cons (pe_cmpR op_eq (pv 2) (pv 3) (nomark _)) (pa_cons (pe_cmpR op_ne (pv 2) (pv 3) (nomark _)) pa_nil))))))))
  (pss_one (ps_ret (pe_cmpR op_eq (pe_callB (call_reprG hr) (by rfl) (free_repr T) (by decide +kernel) (pa_cons (pv 4) pa_nil)) (pe_callB (call_reprG hr) (by rfl) (free_repr T) (by decide +kernel) (pa_cons (pv 5) pa_nil)) (nomark _)))))), rd__law_same_orderSS vs H Q E h⟩
theorem kp__law_same_order (T : Tx K mg w) : keepIn K (.ref (ga K "_law_same_order")) = true := (d__law_same_order T).choose_spec.kp
theorem sc__law_same_orderSI : FnScope n__law_same_orderSI ["_law_one", "_law_other", "_law_left", "_law_right"] (defScope s__law_same_order) := ⟨rfl, rfl, rfl, by decide +kernel, rfl, by decide +kernel, by decide +kernel⟩
theorem ln0__law_same_orderSI (vs : List V) (H : Hp) (Q : VK) (E : XK) (h : sp__law_same_orderSI K vs H Q E) : vs.length = 4 := by
  unfold sp__law_same_orderSI at h
  repeat' (first | (exact (congrArg List.length h.1).trans rfl) | (refine Or.elim h (fun h => ?_) (fun h => ?_)) | (obtain ⟨_, h⟩ := h))
theorem okG__law_same_orderSI (T : Tx K mg w) : FnG (PySem.Challenge.rw_timerwheels_k02_shares_in_order_and_as_t).prog w K mg base CX0 10 (ga K "_law_same_order") (sp__law_same_orderSI K) := by
  obtain ⟨fd, F⟩ := d__law_same_order T
  exact fnG_of (k := 9) (N := n__law_same_orderSI) F sc__law_same_orderSI (F.bindsN fun _ _ _ _ _ _ us hl => match us, hl with | [_, _, _, _], _ => rfl) ln0__law_same_orderSI fun cdv A outer s H vs Q E hr h => ⟨t__law_same_orderSI K w, PSs.nox (pss_cons (ps_set (i := 4) sc__law_same_orderSI.nd rfl (Or.inl rfl) (pe_lst (pa_cons (pe_cmpR (op_cmpX (me_Share___lt__ T).at_ (fq_Share___lt__ T).1 (ok_Share___lt__X T) (hr.rm.mono (by decide)) pass0) (pv 0) (pv 1) (nomark _)) (pa_cons (pe_cmpR (op_cmpX (me_Share___le__ T).at_ (fq_Share___le__ T).1 (ok_Share___le__X T) (hr.rm.mono (by decide)) pass0) (pv 0) (pv 1) (nomark _)) (pa_cons (pe_cmpR (op_cmpX (me_Share___gt__ T).at_ (fq_Share___gt__ T).1 (ok_Share___gt__X T) (hr.rm.mono (by decide)) pass0) (pv 0) (pv 1) (nomark _)) (pa_cons (pe_cmpR (op_cmpX (me_Share___ge__ T).at_ (fq_Share___ge__ T).1 (ok_Share___ge__X T) (hr.rm.mono (by decide)) pass0) (pv 0) (pv 1) (nomark _)) (pa_cons (pe_cmpR (op_cmpX (me_Share___eq__ T).at_ (fq_Share___eq__ T).1 (ok_Share___eq__X T) (hr.rm.mono (by decide)) pass0) (pv 0) (pv 1) (nomark _)) (pa_cons (pe_cmpR (op_cmpX (me_Share___ne__ T).at_ (fq_Share___ne__ T).1 (ok_Share___ne__X T) (hr.rm.mono (by decide)) pass0) (pv 0) (pv 1) (nomark _)) pa_nil))))))))
  (pss_cons (ps_set (i := 5) sc__law_same_orderSI.nd rfl (Or.inl rfl) (pe_lst (pa_cons (pe_cmpR op_lt (pv 2) (pv 3) (nomark _)) (pa_cons (pe_cmpR op_le (pv 2) (pv 3) (nomark _)) (pa_cons (pe_cmpR op_gt (pv 2) (pv 3) (nomark _)) (pa_cons (pe_cmpR op_ge (pv 2) (pv 3) (nomark _)) (pa_cons (pe_cmpR op_eq (pv 2) (pv 3) (nomark _)) (pa_cons (pe_cmpR op_ne (pv 2) (pv 3) (nomark _)) pa_nil))))))))
  (pss_one (ps_ret (pe_cmpR op_eq (pe_callB (call_reprG hr) (by rfl) (free_repr T) (by decide +kernel) (pa_cons (pv 4) pa_nil)) (pe_callB (call_reprG hr) (by rfl) (free_repr T) (by decide +kernel) (pa_cons (pv 5) pa_nil)) (nomark _)))))), rd__law_same_orderSI (k02 T) vs H Q E h⟩
theorem sc__law_same_orderIS : FnScope n__law_same_orderIS ["_law_one", "_law_other", "_law_left", "_law_right"] (defScope s__law_same_order) := ⟨rfl, rfl, rfl, by decide +kernel, rfl, by decide +kernel, by decide +kernel⟩
theorem ln0__law_same_orderIS (vs : List V) (H : Hp) (Q : VK) (E : XK) (h : sp__law_same_orderIS K vs H Q E) : vs.length = 4 := by
  unfold sp__law_same_orderIS at h
  repeat' (first | (exact (congrArg List.length h.1).trans rfl) | (refine Or.elim h (fun h => ?_) (fun h => ?_)) | (obtain ⟨_, h⟩ := h))
theorem okG__law_same_orderIS (T : Tx K mg w) : FnG (PySem.Challenge.rw_timerwheels_k02_shares_in_order_and_as_t).prog w K mg base CX0 10 (ga K "_law_same_order") (sp__law_same_orderIS K) := by
  obtain ⟨fd, F⟩ := d__law_same_order T
  exact fnG_of (k := 9) (N := n__law_same_orderIS) F sc__law_same_orderIS (F.bindsN fun _ _ _ _ _ _ us hl => match us, hl with | [_, _, _, _], _ => rfl) ln0__law_same_orderIS fun cdv A outer s H vs Q E hr h => ⟨t__law_same_orderIS K w, PSs.nox (pss_cons (ps_set (i := 4) sc__law_same_orderIS.nd rfl (Or.inl rfl) (pe_lst (pa_cons (pe_cmpR (op_backI (me_Share___gt__ T).at_ (fq_Share___gt__ T).1 (sI_Share T) PySem.F.slot_int_lt PySem.F.entry_int_lt PySem.F.args_int_lt_2 (fun _ _ _ _ _ => GB.c_lt) (ok_Share___gt__X T) (hr.rm.mono (by decide)) pass0) (pv 0) (pv 1) (nomark _)) (pa_cons (pe_cmpR (op_backI (me_Share___ge__ T).at_ (fq_Share___ge__ T).1 (sI_Share T) PySem.F.slot_int_le PySem.F.entry_int_le PySem.F.args_int_le_2 (fun _ _ _ _ _ => GB.c_le) (ok_Share___ge__X T) (hr.rm.mono (by decide)) pass0) (pv 0) (pv 1) (nomark _)) (pa_cons (pe_cmpR (op_backI (me_Share___lt__ T).at_ (fq_Share___lt__ T).1 (sI_Share T) PySem.F.slot_int_gt PySem.F.entry_int_gt PySem.F.args_int_gt_2 (fun _ _ _ _ _ => GB.c_gt) (ok_Share___lt__X T) (hr.rm.mono (by decide)) pass0) (pv 0) (pv 1) (nomark _)) (pa_cons (pe_cmpR (op_backI (me_Share___le__ T).at_ (fq_Share___le__ T).1 (sI_Share T) PySem.F.slot_int_ge PySem.F.entry_int_ge PySem.F.args_int_ge_2 (fun _ _ _ _ _ => GB.c_ge) (ok_Share___le__X T) (hr.rm.mono (by decide)) pass0) (pv 0) (pv 1) (nomark _)) (pa_cons (pe_cmpR (op_backI (me_Share___eq__ T).at_ (fq_Share___eq__ T).1 (sI_Share T) PySem.F.slot_int_eq PySem.F.entry_int_eq PySem.F.args_int_eq_2 (fun _ _ _ _ _ => GB.c_eq) (ok_Share___eq__X T) (hr.rm.mono (by decide)) pass0) (pv 0) (pv 1) (nomark _)) (pa_cons (pe_cmpR (op_backI (me_Share___ne__ T).at_ (fq_Share___ne__ T).1 (sI_Share T) PySem.F.slot_int_ne PySem.F.entry_int_ne PySem.F.args_int_ne_2 (fun _ _ _ _ _ => GB.c_ne) (ok_Share___ne__X T) (hr.rm.mono (by decide)) pass0) (pv 0) (pv 1) (nomark _)) pa_nil))))))))
  (pss_cons (ps_set (i := 5) sc__law_same_orderIS.nd rfl (Or.inl rfl) (pe_lst (pa_cons (pe_cmpR op_lt (pv 2) (pv 3) (nomark _)) (pa_cons (pe_cmpR op_le (pv 2) (pv 3) (nomark _)) (pa_cons (pe_cmpR op_gt (pv 2) (pv 3) (nomark _)) (pa_cons (pe_cmpR op_ge (pv 2) (pv 3) (nomark _)) (pa_cons (pe_cmpR op_eq (pv 2) (pv 3) (nomark _)) (pa_cons (pe_cmpR op_ne (pv 2) (pv 3) (nomark _)) pa_nil))))))))
  (pss_one (ps_ret (pe_cmpR op_eq (pe_callB (call_reprG hr) (by rfl) (free_repr T) (by decide +kernel) (pa_cons (pv 4) pa_nil)) (pe_callB (call_reprG hr) (by rfl) (free_repr T) (by decide +kernel) (pa_cons (pv 5) pa_nil)) (nomark _)))))), rd__law_same_orderIS vs H Q E h⟩
theorem sc_Share___bool__ : FnScope n_Share___bool__ ["self"] (defScope s_Share___bool__) := ⟨rfl, rfl, rfl, by decide +kernel, rfl, by decide +kernel, by decide +kernel⟩
theorem ln0_Share___bool__ (vs : List V) (H : Hp) (Q : VK) (E : XK) (h : sp_Share___bool__ K vs H Q E) : vs.length = 1 := by
  unfold sp_Share___bool__ at h
  repeat' (first | (exact (congrArg List.length h.1).trans rfl) | (refine Or.elim h (fun h => ?_) (fun h => ?_)) | (obtain ⟨_, h⟩ := h))
theorem okk_Share___bool__ (T : Tx K mg w) : FnOk (PySem.Challenge.rw_timerwheels_k02_shares_in_order_and_as_t).prog w K mg base CX0 2 (ma K (ga K "Share") "__bool__") (d_Share___bool__ T).choose ["self"] (sp_Share___bool__ K) :=
  FunD.ok (k := 1) (N := n_Share___bool__) (d_Share___bool__ T).choose_spec sc_Share___bool__ ln0_Share___bool__ fun cdv A outer s H vs Q E hr h => ⟨t_Share___bool__ K w, PSs.nox (pss_one (ps_ret (pe_callTy call_bool1 (by rfl) (free_bool T) (by decide +kernel) (pa_cons (pe_cmpR op_ne (pe_fld (pv 0) rfl) pe_int (nomark _)) pa_nil)))), rd_Share___bool__ (ks T) vs H Q E h⟩
theorem ok_Share___bool__ (T : Tx K mg w) : FnR (PySem.Challenge.rw_timerwheels_k02_shares_in_order_and_as_t).prog w K mg base CX0 2 (ma K (ga K "Share") "__bool__") (sp_Share___bool__ K) :=
  fnR_of (okk_Share___bool__ T) ((d_Share___bool__ T).choose_spec.bindsN fun _ _ _ _ _ _ us hl => match us, hl with | [_], _ => rfl)
theorem sc_Share_text : FnScope n_Share_text ["self"] (defScope s_Share_text) := ⟨rfl, rfl, rfl, by decide +kernel, rfl, by decide +kernel, by decide +kernel⟩
theorem ln0_Share_text (vs : List V) (H : Hp) (Q : VK) (E : XK) (h : sp_Share_text K vs H Q E) : vs.length = 1 := by
  unfold sp_Share_text at h
  repeat' (first | (exact (congrArg List.length h.1).trans rfl) | (refine Or.elim h (fun h => ?_) (fun h => ?_)) | (obtain ⟨_, h⟩ := h))
theorem okk_Share_text (T : Tx K mg w) : FnOk (PySem.Challenge.rw_timerwheels_k02_shares_in_order_and_as_t).prog w K mg base CX0 2 (pa K (ga K "Share") "text") (d_Share_text T).choose ["self"] (sp_Share_text K) :=
  FunD.ok (k := 1) (N := n_Share_text) (d_Share_text T).choose_spec sc_Share_text ln0_Share_text fun cdv A outer s H vs Q E hr h => ⟨t_Share_text K w, PSs.nox (pss_cons (ps_if (pt_cmpR op_eq (pe_fld (pv 0) rfl) pe_int (nomark _)) (pss_one (ps_ret (pe_callTy call_str_int (by rfl) (free_str T) (by decide +kernel) (pa_cons (pe_fld (pv 0) rfl) pa_nil)))) pss_nil)
  (pss_one (ps_ret (pe_op op_add_str (pe_op op_add_str (pe_callTy call_str_int (by rfl) (free_str T) (by decide +kernel) (pa_cons (pe_fld (pv 0) rfl) pa_nil)) pe_str) (pe_callTy call_str_int (by rfl) (free_str T) (by decide +kernel) (pa_cons (pe_fld (pv 0) rfl) pa_nil)))))), rd_Share_text (ks T) vs H Q E h⟩
theorem ok_Share_text (T : Tx K mg w) : FnR (PySem.Challenge.rw_timerwheels_k02_shares_in_order_and_as_t).prog w K mg base CX0 2 (pa K (ga K "Share") "text") (sp_Share_text K) :=
  fnR_of (okk_Share_text T) ((d_Share_text T).choose_spec.bindsN fun _ _ _ _ _ _ us hl => match us, hl with | [_], _ => rfl)
theorem sc__law_wholeV : FnScope n__law_wholeV ["_law_word"] (defScope s__law_whole) := ⟨rfl, rfl, rfl, by decide +kernel, rfl, by decide +kernel, by decide +kernel⟩
theorem ln0__law_wholeV (vs : List V) (H : Hp) (Q : VK) (E : XK) (h : sp__law_wholeV K vs H Q E) : vs.length = 1 := by
  unfold sp__law_wholeV at h
  repeat' (first | (exact (congrArg List.length h.1).trans rfl) | (refine Or.elim h (fun h => ?_) (fun h => ?_)) | (obtain ⟨_, h⟩ := h))
theorem okk__law_wholeV (T : Tx K mg w) : FnOk (PySem.Challenge.rw_timerwheels_k02_shares_in_order_and_as_t).prog w K mg base CX0 2 (ga K "_law_whole") (d__law_whole T).choose ["_law_word"] (sp__law_wholeV K) :=
  FunD.ok (k := 1) (N := n__law_wholeV) (d__law_whole T).choose_spec sc__law_wholeV ln0__law_wholeV fun cdv A outer s H vs Q E hr h => ⟨t__law_wholeV K w, PSs.nox (pss_cons (ps_set (i := 1) sc__law_wholeV.nd rfl (Or.inl rfl) (pe_ifExp (pt_cmpR op_eq (pe_slice sl_str (pv 0) po_none (po_some pe_int)) pe_str (nomark _)) (pe_slice sl_str (pv 0) (po_some pe_int) po_none) (pv 0)))
  (pss_cons (ps_if (PW.pt (pw_or (pt_cmpR op_eq (pv 1) pe_str (nomark _)) (pw_or (pt_cmpR op_gt (pe_callB call_len_str (by rfl) (free_len T) (by decide +kernel) (pa_cons (pv 1) pa_nil)) pe_int (nomark _)) (pw_or1 (pt_cmpR (op_neD (ul hr)) (pe_lc (own := [("_law_sign", 2)]) (g := (gName 2)) (tt := (tTest (tOp rNotInSg (tVar 2) (tC (.str "0123456789"))))) rfl sc__law_wholeV.nd (pi_str (pv 1)) (blkOk_by (own := [("_law_sign", 2)]) (N := ["_law_word", "_law_figures", "_law_sign"]) (sc := defScope s__law_whole) (by decide +kernel)) (fun _ _ _ _ _ => (pg_name (i := 2) sc__law_wholeV.nd rfl (Or.inl rfl))) (fun _ _ _ _ _ => (pts_one (pt_cmpR op_notInSg (pv 2) pe_str (by rfl)))) (fun _ _ _ _ _ => (pv 2))) (pe_lst pa_nil) (nomark _)))))) (pss_one (ps_ret pe_non)) pss_nil)
  (pss_cons (ps_if (PW.pt (pw_and (pt_cmpR op_eq (pe_ix ix_str (pv 1) pe_int (fun _ _ => rfl)) pe_str (nomark _)) (pw_and1 (pt_cmpR op_ne (pv 0) pe_str (nomark _))))) (pss_one (ps_ret pe_non)) pss_nil)
  (pss_one (ps_ret (pe_callTy call_int_str (by rfl) (free_int T) (by decide +kernel) (pa_cons (pv 0) pa_nil))))))), rd__law_wholeV vs H Q E h⟩
theorem ok__law_wholeV (T : Tx K mg w) : FnR (PySem.Challenge.rw_timerwheels_k02_shares_in_order_and_as_t).prog w K mg base CX0 2 (ga K "_law_whole") (sp__law_wholeV K) :=
  fnR_of (okk__law_wholeV T) ((d__law_whole T).choose_spec.bindsN fun _ _ _ _ _ _ us hl => match us, hl with | [_], _ => rfl)
theorem kp__law_whole (T : Tx K mg w) : keepIn K (.ref (ga K "_law_whole")) = true := (d__law_whole T).choose_spec.kp
theorem sc__law_common : FnScope n__law_common ["_law_top", "_law_bottom"] (defScope s__law_common) := ⟨rfl, rfl, rfl, by decide +kernel, rfl, by decide +kernel, by decide +kernel⟩
theorem ln0__law_common (vs : List V) (H : Hp) (Q : VK) (E : XK) (h : sp__law_common K vs H Q E) : vs.length = 2 := by
  unfold sp__law_common at h
  repeat' (first | (exact (congrArg List.length h.1).trans rfl) | (refine Or.elim h (fun h => ?_) (fun h => ?_)) | (obtain ⟨_, h⟩ := h))
theorem okk__law_common (T : Tx K mg w) : FnOk (PySem.Challenge.rw_timerwheels_k02_shares_in_order_and_as_t).prog w K mg base CX0 2 (ga K "_law_common") (d__law_common T).choose ["_law_top", "_law_bottom"] (sp__law_common K) :=
  FunD.ok (k := 1) (N := n__law_common) (d__law_common T).choose_spec sc__law_common ln0__law_common fun cdv A outer s H vs Q E hr h => ⟨t__law_common K w, PSs.nox (pss_cons (ps_par (i := 2) (j := 3) (by rfl) sc__law_common.nd rfl rfl (by decide) rfl rfl (pa_cons (pe_callB call_abs (by rfl) (free_abs T) (by decide +kernel) (pa_cons (pv 0) pa_nil)) (pa_cons (pv 1) pa_nil)) (by rfl))
  (pss_cons (ps_while PassesOwn.never (pt_cmpR op_gt (pv 3) pe_int (nomark _))
    (pss_one (ps_par (i := 2) (j := 3) (by rfl) sc__law_common.nd rfl rfl (by decide) rfl rfl (pa_cons (pv 3) (pa_cons (pe_op op_mod (pv 2) (pv 3)) pa_nil)) (by rfl))))
  (pss_one (ps_ret (pv 2))))), rd__law_common vs H Q E h⟩
theorem ok__law_common (T : Tx K mg w) : FnR (PySem.Challenge.rw_timerwheels_k02_shares_in_order_and_as_t).prog w K mg base CX0 2 (ga K "_law_common") (sp__law_common K) :=
  fnR_of (okk__law_common T) ((d__law_common T).choose_spec.bindsN fun _ _ _ _ _ _ us hl => match us, hl with | [_, _], _ => rfl)
theorem kp__law_common (T : Tx K mg w) : keepIn K (.ref (ga K "_law_common")) = true := (d__law_common T).choose_spec.kp
theorem sc__law_read : FnScope n__law_read ["_law_text"] (defScope s__law_read) := ⟨rfl, rfl, rfl, by decide +kernel, rfl, by decide +kernel, by decide +kernel⟩
theorem ln0__law_read (vs : List V) (H : Hp) (Q : VK) (E : XK) (h : sp__law_read K vs H Q E) : vs.length = 1 := by
  unfold sp__law_read at h
  repeat' (first | (exact (congrArg List.length h.1).trans rfl) | (refine Or.elim h (fun h => ?_) (fun h => ?_)) | (obtain ⟨_, h⟩ := h))
theorem okk__law_read (T : Tx K mg w) : FnOk (PySem.Challenge.rw_timerwheels_k02_shares_in_order_and_as_t).prog w K mg base CX0 4 (ga K "_law_read") (d__law_read T).choose ["_law_text"] (sp__law_read K) :=
  FunD.ok (k := 3) (N := n__law_read) (d__law_read T).choose_spec sc__law_read ln0__law_read fun cdv A outer s H vs Q E hr h => ⟨t__law_read K w, PSs.nox (pss_cons (ps_set (i := 1) sc__law_read.nd rfl (Or.inl rfl) (pe_split (pv 0) pe_str))
  (pss_cons (ps_setLc (i := 3) (own := [("_law_word", 2)]) (g := (gName 2)) (tt := tYes) rfl sc__law_read.nd rfl rfl (sw_true rfl rfl rfl (by decide +kernel)) (pi_list (pv 1)) (blkOk_by (own := [("_law_word", 2)]) (N := ["_law_text", "_law_words", "_law_word", "_law_parts"]) (sc := defScope s__law_read) (by decide +kernel)) (fun _ _ _ _ _ => (pg_name (i := 2) sc__law_read.nd rfl (Or.inl rfl))) (fun _ _ _ _ _ => pts_nil) (fun _ _ _ _ _ => (pe_fn (ok__law_wholeV T) (hr.mono (by decide)) rfl (glo__law_whole T) (kp__law_whole T) pass0 (pa_cons (pv 2) pa_nil))))
  (pss_cons (ps_if (PW.pt (pw_or (pt_cmpR op_gt (pe_callB call_lenL (by rfl) (free_len T) (by decide +kernel) (pa_cons (pv 1) pa_nil)) pe_int (nomark _)) (pw_or1 (pt_cmpR op_in_seq pe_non (pv 3) (by rfl))))) (pss_one (ps_ret pe_non)) pss_nil)
  (pss_cons (ps_if (pt_cmpR op_eq (pe_callB call_lenL (by rfl) (free_len T) (by decide +kernel) (pa_cons (pv 1) pa_nil)) pe_int (nomark _)) (pss_one (ps_ret (pe_tup (pa_cons (pe_ix ix_lstH (pv 3) pe_int (fun _ _ => rfl)) (pa_cons pe_int pa_nil))))) pss_nil)
  (pss_cons (ps_if (PW.pt (pw_or (pt_cmpR op_lt (pe_ix ix_lstH (pv 3) pe_int (fun _ _ => rfl)) pe_int (nomark _)) (pw_or (pt_cmpR op_eq (pe_ix ix_str (pe_ix ix_lstH (pv 1) pe_int (fun _ _ => rfl)) pe_int (fun _ _ => rfl)) pe_str (nomark _)) (pw_or1 (pt_cmpR op_ne (pe_fn (ok__law_common T) (hr.mono (by decide)) rfl (glo__law_common T) (kp__law_common T) pass0 (pa_cons (pe_ix ix_lstH (pv 3) pe_int (fun _ _ => rfl)) (pa_cons (pe_ix ix_lstH (pv 3) pe_int (fun _ _ => rfl)) pa_nil))) pe_int (nomark _)))))) (pss_one (ps_ret pe_non)) pss_nil)
  (pss_one (ps_ret (pe_tup (pa_cons (pe_ix ix_lstH (pv 3) pe_int (fun _ _ => rfl)) (pa_cons (pe_ix ix_lstH (pv 3) pe_int (fun _ _ => rfl)) pa_nil)))))))))), rd__law_read vs H Q E h⟩
theorem ok__law_read (T : Tx K mg w) : FnR (PySem.Challenge.rw_timerwheels_k02_shares_in_order_and_as_t).prog w K mg base CX0 4 (ga K "_law_read") (sp__law_read K) :=
  fnR_of (okk__law_read T) ((d__law_read T).choose_spec.bindsN fun _ _ _ _ _ _ us hl => match us, hl with | [_], _ => rfl)
theorem kp__law_read (T : Tx K mg w) : keepIn K (.ref (ga K "_law_read")) = true := (d__law_read T).choose_spec.kp
theorem sc_is_written : FnScope n_is_written ["word"] (defScope s_is_written) := ⟨rfl, rfl, rfl, by decide +kernel, rfl, by decide +kernel, by decide +kernel⟩
theorem ln0_is_written (vs : List V) (H : Hp) (Q : VK) (E : XK) (h : sp_is_written K vs H Q E) : vs.length = 1 := by
  unfold sp_is_written at h
  repeat' (first | (exact (congrArg List.length h.1).trans rfl) | (refine Or.elim h (fun h => ?_) (fun h => ?_)) | (obtain ⟨_, h⟩ := h))
theorem okk_is_written (T : Tx K mg w) : FnOk (PySem.Challenge.rw_timerwheels_k02_shares_in_order_and_as_t).prog w K mg base CX0 2 (ga K "is_written") (d_is_written T).choose ["word"] (sp_is_written K) :=
  FunD.ok (k := 1) (N := n_is_written) (d_is_written T).choose_spec sc_is_written ln0_is_written fun cdv A outer s H vs Q E hr h => ⟨t_is_written K w, PSs.nox (pss_cons (ps_set (i := 1) sc_is_written.nd rfl (Or.inl rfl) (pe_ifExp (pt_cmpR op_eq (pe_slice sl_str (pv 0) po_none (po_some pe_int)) pe_str (nomark _)) (pe_slice sl_str (pv 0) (po_some pe_int) po_none) (pv 0)))
  (pss_cons (ps_if (PW.pt (pw_or (pt_cmpR op_eq (pv 1) pe_str (nomark _)) (pw_or1 (pt_cmpR op_gt (pe_callB call_len_str (by rfl) (free_len T) (by decide +kernel) (pa_cons (pv 1) pa_nil)) (pe_glob rfl (int_MOST_DIGITS T).choose_spec ⟨_, rfl⟩) (nomark _))))) (pss_one (ps_ret pe_bl)) pss_nil)
  (pss_one (ps_ret (pe_callB (cr_all rfl) (by rfl) (free_all T) (by decide +kernel) (pa_cons (pe_lc (own := [("sign", 2)]) (g := (gName 2)) (tt := tYes) rfl sc_is_written.nd (pi_str (pv 1)) (blkOk_by (own := [("sign", 2)]) (N := ["word", "digits", "sign"]) (sc := defScope s_is_written) (by decide +kernel)) (fun _ _ _ _ _ => (pg_name (i := 2) sc_is_written.nd rfl (Or.inl rfl))) (fun _ _ _ _ _ => pts_nil) (fun _ _ _ _ _ => (pe_cmpR op_inSg (pv 2) (pe_glob rfl (str_DIGITS T).choose_spec ⟨_, rfl⟩) (by rfl)))) pa_nil)))))), rd_is_written vs H Q E h⟩
theorem ok_is_written (T : Tx K mg w) : FnR (PySem.Challenge.rw_timerwheels_k02_shares_in_order_and_as_t).prog w K mg base CX0 2 (ga K "is_written") (sp_is_written K) :=
  fnR_of (okk_is_written T) ((d_is_written T).choose_spec.bindsN fun _ _ _ _ _ _ us hl => match us, hl with | [_], _ => rfl)
theorem kp_is_written (T : Tx K mg w) : keepIn K (.ref (ga K "is_written")) = true := (d_is_written T).choose_spec.kp
theorem sc_Share_from_textR : FnScope n_Share_from_textR ["cls", "text"] (defScope s_Share_from_text) := ⟨rfl, rfl, rfl, by decide +kernel, rfl, by decide +kernel, by decide +kernel⟩
theorem ln0_Share_from_textR (vs : List V) (H : Hp) (Q : VK) (E : XK) (h : sp_Share_from_textR K vs H Q E) : vs.length = 2 := by
  unfold sp_Share_from_textR at h
  repeat' (first | (exact (congrArg List.length h.1).trans rfl) | (refine Or.elim h (fun h => ?_) (fun h => ?_)) | (obtain ⟨_, h⟩ := h))
theorem okk_Share_from_textR (T : Tx K mg w) : FnOk (PySem.Challenge.rw_timerwheels_k02_shares_in_order_and_as_t).prog w K mg base (L2.CX (PySem.Challenge.rw_timerwheels_k02_shares_in_order_and_as_t).prog w) 6 (He5.wf K (ga K "Share") "classmethod" "from_text") (d_Share_from_text T).choose ["cls", "text"] (sp_Share_from_textR K) :=
  FunD.ok (k := 5) (N := n_Share_from_textR) (d_Share_from_text T).choose_spec sc_Share_from_textR ln0_Share_from_textR fun cdv A outer s H vs Q E hr h => ⟨t_Share_from_textR K w E, (pss_cons (ps_if (pt_not (pt_val (pe_callB call_isi (by rfl) (free_isinstance T) (by decide +kernel) (pa_cons (pv 1) (pa_cons (pe_bltn (v := .ty "str") (by rfl) (free_str T) (by decide +kernel) rfl) pa_nil))))) (pss_one (ps_raise rfl (takes_of rfl rfl rfl rfl) (pmk_err (pv 1) (er_InvalidText T).oex (er_InvalidText T).ini (er_InvalidText T).tfn (okE_InvalidText (CX := C8.CX0) T).choose_spec.1 (hr.mono (by decide)) (okE_InvalidText (CX := C8.CX0) T).choose_spec.2 (fun _ _ _ _ _ _ _ z => z.elim) rfl (glo_InvalidText T)))) pss_nil)
  (pss_cons (ps_set (i := 2) sc_Share_from_textR.nd rfl (Or.inl rfl) (pe_split (pv 1) pe_str))
  (pss_cons (ps_if (PW.pt (pw_or (pt_cmpR op_gt (pe_callB call_lenL (by rfl) (free_len T) (by decide +kernel) (pa_cons (pv 2) pa_nil)) pe_int (nomark _)) (pw_or1 (pt_not (pt_val (pe_callB (cr_all rfl) (by rfl) (free_all T) (by decide +kernel) (pa_cons (pe_lc (own := [("part", 3)]) (g := (gName 3)) (tt := tYes) rfl sc_Share_from_textR.nd (pi_list (pv 2)) (blkOk_by (own := [("part", 3)]) (N := ["cls", "text", "parts", "part", "found"]) (sc := defScope s_Share_from_text) (by decide +kernel)) (fun _ _ _ _ _ => (pg_name (i := 3) sc_Share_from_textR.nd rfl (Or.inl rfl))) (fun _ _ _ _ _ => pts_nil) (fun _ _ _ _ _ => (pe_fn (ok_is_written T) (hr.mono (by decide)) rfl (glo_is_written T) (kp_is_written T) pass0 (pa_cons (pv 3) pa_nil)))) pa_nil))))))) (pss_one (ps_raise rfl (takes_of rfl rfl rfl rfl) (pmk_err (pv 1) (er_InvalidText T).oex (er_InvalidText T).ini (er_InvalidText T).tfn (okE_InvalidText (CX := C8.CX0) T).choose_spec.1 (hr.mono (by decide)) (okE_InvalidText (CX := C8.CX0) T).choose_spec.2 (fun _ _ _ _ _ _ _ z => z.elim) rfl (glo_InvalidText T)))) pss_nil)
  (pss_cons (ps_set (i := 4) sc_Share_from_textR.nd rfl (Or.inl rfl) (pe_makeL (pv 0) (mk_Share T) (okk_Share___init__ T) (hr.mono (by decide)) (bi_Share_1 T).choose_spec.2 (bi_Share_1 T).choose_spec.1 pass0 (pa_cons (pe_callTy call_int_str (by rfl) (free_int T) (by decide +kernel) (pa_cons (pe_ix ix_lstH (pv 2) pe_int (fun _ _ => rfl)) pa_nil)) pa_nil)))
  (pss_cons (ps_if (pt_cmpR op_eq (pe_callB call_lenL (by rfl) (free_len T) (by decide +kernel) (pa_cons (pv 2) pa_nil)) pe_int (nomark _)) (pss_cons (ps_if (pt_cmpR op_eq (pe_callTy call_int_str (by rfl) (free_int T) (by decide +kernel) (pa_cons (pe_ix ix_lstH (pv 2) pe_int (fun _ _ => rfl)) pa_nil)) pe_int (nomark _)) (pss_one (ps_raise rfl (takes_of rfl rfl rfl rfl) (pmk_err (pv 1) (er_InvalidText T).oex (er_InvalidText T).ini (er_InvalidText T).tfn (okE_InvalidText (CX := C8.CX0) T).choose_spec.1 (hr.mono (by decide)) (okE_InvalidText (CX := C8.CX0) T).choose_spec.2 (fun _ _ _ _ _ _ _ z => z.elim) rfl (glo_InvalidText T)))) pss_nil)
  (pss_one (ps_set (i := 4) sc_Share_from_textR.nd rfl (Or.inl rfl) (pe_makeLR (pv 0) (mk_Share T) (ok_Share___init__ T) (hr.mono (by decide)) pass0 (pa_cons (pe_callTy call_int_str (by rfl) (free_int T) (by decide +kernel) (pa_cons (pe_ix ix_lstH (pv 2) pe_int (fun _ _ => rfl)) pa_nil)) (pa_cons (pe_callTy call_int_str (by rfl) (free_int T) (by decide +kernel) (pa_cons (pe_ix ix_lstH (pv 2) pe_int (fun _ _ => rfl)) pa_nil)) pa_nil)))))) pss_nil)
  (pss_cons (ps_if (pt_cmpR op_ne (pe_propF (pv 4) (cls_Share T) (pr_Share_text T) (ok_Share_text T) (hr.mono (by decide)) pass0 (in_Share_text K)) (pv 1) (nomark _)) (pss_one (ps_raise rfl (takes_of rfl rfl rfl rfl) (pmk_err (pv 1) (er_InvalidText T).oex (er_InvalidText T).ini (er_InvalidText T).tfn (okE_InvalidText (CX := C8.CX0) T).choose_spec.1 (hr.mono (by decide)) (okE_InvalidText (CX := C8.CX0) T).choose_spec.2 (fun _ _ _ _ _ _ _ z => z.elim) rfl (glo_InvalidText T)))) pss_nil)
  (pss_one (ps_ret (pv 4))))))))), rd_Share_from_textR (ks T) vs H Q E h⟩
theorem ok_Share_from_textR (T : Tx K mg w) : FnR (PySem.Challenge.rw_timerwheels_k02_shares_in_order_and_as_t).prog w K mg base (L2.CX (PySem.Challenge.rw_timerwheels_k02_shares_in_order_and_as_t).prog w) 6 (He5.wf K (ga K "Share") "classmethod" "from_text") (sp_Share_from_textR K) :=
  fnR_of (okk_Share_from_textR T) ((d_Share_from_text T).choose_spec.bindsN fun _ _ _ _ _ _ us hl => match us, hl with | [_, _], _ => rfl)
theorem sc_Share_from_text : FnScope n_Share_from_text ["cls", "text"] (defScope s_Share_from_text) := ⟨rfl, rfl, rfl, by decide +kernel, rfl, by decide +kernel, by decide +kernel⟩
theorem ln0_Share_from_text (vs : List V) (H : Hp) (Q : VK) (E : XK) (h : sp_Share_from_text K vs H Q E) : vs.length = 2 := by
  unfold sp_Share_from_text at h
  repeat' (first | (exact (congrArg List.length h.1).trans rfl) | (refine Or.elim h (fun h => ?_) (fun h => ?_)) | (obtain ⟨_, h⟩ := h))
theorem okk_Share_from_text (T : Tx K mg w) : FnOk (PySem.Challenge.rw_timerwheels_k02_shares_in_order_and_as_t).prog w K mg base CX0 6 (He5.wf K (ga K "Share") "classmethod" "from_text") (d_Share_from_text T).choose ["cls", "text"] (sp_Share_from_text K) :=
  FunD.ok (k := 5) (N := n_Share_from_text) (d_Share_from_text T).choose_spec sc_Share_from_text ln0_Share_from_text fun cdv A outer s H vs Q E hr h => ⟨t_Share_from_text K w, PSs.nox (pss_cons (ps_if (pt_not (pt_val (pe_callB call_isi (by rfl) (free_isinstance T) (by decide +kernel) (pa_cons (pv 1) (pa_cons (pe_bltn (v := .ty "str") (by rfl) (free_str T) (by decide +kernel) rfl) pa_nil))))) (pss_one ps_never) pss_nil)
  (pss_cons (ps_set (i := 2) sc_Share_from_text.nd rfl (Or.inl rfl) (pe_split (pv 1) pe_str))
  (pss_cons (ps_if (PW.pt (pw_or (pt_cmpR op_gt (pe_callB call_lenL (by rfl) (free_len T) (by decide +kernel) (pa_cons (pv 2) pa_nil)) pe_int (nomark _)) (pw_or1 (pt_not (pt_val (pe_callB (cr_all rfl) (by rfl) (free_all T) (by decide +kernel) (pa_cons (pe_lc (own := [("part", 3)]) (g := (gName 3)) (tt := tYes) rfl sc_Share_from_text.nd (pi_list (pv 2)) (blkOk_by (own := [("part", 3)]) (N := ["cls", "text", "parts", "part", "found"]) (sc := defScope s_Share_from_text) (by decide +kernel)) (fun _ _ _ _ _ => (pg_name (i := 3) sc_Share_from_text.nd rfl (Or.inl rfl))) (fun _ _ _ _ _ => pts_nil) (fun _ _ _ _ _ => (pe_fn (ok_is_written T) (hr.mono (by decide)) rfl (glo_is_written T) (kp_is_written T) pass0 (pa_cons (pv 3) pa_nil)))) pa_nil))))))) (pss_one ps_never) pss_nil)
  (pss_cons (ps_set (i := 4) sc_Share_from_text.nd rfl (Or.inl rfl) (pe_makeL (pv 0) (mk_Share T) (okk_Share___init__ T) (hr.mono (by decide)) (bi_Share_1 T).choose_spec.2 (bi_Share_1 T).choose_spec.1 pass0 (pa_cons (pe_callTy call_int_str (by rfl) (free_int T) (by decide +kernel) (pa_cons (pe_ix ix_lstH (pv 2) pe_int (fun _ _ => rfl)) pa_nil)) pa_nil)))
  (pss_cons (ps_if (pt_cmpR op_eq (pe_callB call_lenL (by rfl) (free_len T) (by decide +kernel) (pa_cons (pv 2) pa_nil)) pe_int (nomark _)) (pss_cons (ps_if (pt_cmpR op_eq (pe_callTy call_int_str (by rfl) (free_int T) (by decide +kernel) (pa_cons (pe_ix ix_lstH (pv 2) pe_int (fun _ _ => rfl)) pa_nil)) pe_int (nomark _)) (pss_one ps_never) pss_nil)
  (pss_one (ps_set (i := 4) sc_Share_from_text.nd rfl (Or.inl rfl) (pe_makeLR (pv 0) (mk_Share T) (ok_Share___init__ T) (hr.mono (by decide)) pass0 (pa_cons (pe_callTy call_int_str (by rfl) (free_int T) (by decide +kernel) (pa_cons (pe_ix ix_lstH (pv 2) pe_int (fun _ _ => rfl)) pa_nil)) (pa_cons (pe_callTy call_int_str (by rfl) (free_int T) (by decide +kernel) (pa_cons (pe_ix ix_lstH (pv 2) pe_int (fun _ _ => rfl)) pa_nil)) pa_nil)))))) pss_nil)
  (pss_cons (ps_if (pt_cmpR op_ne (pe_propF (pv 4) (cls_Share T) (pr_Share_text T) (ok_Share_text T) (hr.mono (by decide)) pass0 (in_Share_text K)) (pv 1) (nomark _)) (pss_one ps_never) pss_nil)
  (pss_one (ps_ret (pv 4))))))))), rd_Share_from_text (ks T) vs H Q E h⟩
theorem ok_Share_from_text (T : Tx K mg w) : FnR (PySem.Challenge.rw_timerwheels_k02_shares_in_order_and_as_t).prog w K mg base CX0 6 (He5.wf K (ga K "Share") "classmethod" "from_text") (sp_Share_from_text K) :=
  fnR_of (okk_Share_from_text T) ((d_Share_from_text T).choose_spec.bindsN fun _ _ _ _ _ _ us hl => match us, hl with | [_, _], _ => rfl)
theorem sc_Share_top : FnScope n_Share_top ["self"] (defScope s_Share_top) := ⟨rfl, rfl, rfl, by decide +kernel, rfl, by decide +kernel, by decide +kernel⟩
theorem ln0_Share_top (vs : List V) (H : Hp) (Q : VK) (E : XK) (h : sp_Share_top K vs H Q E) : vs.length = 1 := by
  unfold sp_Share_top at h
  repeat' (first | (exact (congrArg List.length h.1).trans rfl) | (refine Or.elim h (fun h => ?_) (fun h => ?_)) | (obtain ⟨_, h⟩ := h))
theorem okk_Share_top (T : Tx K mg w) : FnOk (PySem.Challenge.rw_timerwheels_k02_shares_in_order_and_as_t).prog w K mg base CX0 2 (pa K (ga K "Share") "top") (d_Share_top T).choose ["self"] (sp_Share_top K) :=
  FunD.ok (k := 1) (N := n_Share_top) (d_Share_top T).choose_spec sc_Share_top ln0_Share_top fun cdv A outer s H vs Q E hr h => ⟨t_Share_top K w, PSs.nox (pss_one (ps_ret (pe_fld (pv 0) rfl))), rd_Share_top (ks T) vs H Q E h⟩
theorem ok_Share_top (T : Tx K mg w) : FnR (PySem.Challenge.rw_timerwheels_k02_shares_in_order_and_as_t).prog w K mg base CX0 2 (pa K (ga K "Share") "top") (sp_Share_top K) :=
  fnR_of (okk_Share_top T) ((d_Share_top T).choose_spec.bindsN fun _ _ _ _ _ _ us hl => match us, hl with | [_], _ => rfl)
theorem sc_Share_bottom : FnScope n_Share_bottom ["self"] (defScope s_Share_bottom) := ⟨rfl, rfl, rfl, by decide +kernel, rfl, by decide +kernel, by decide +kernel⟩
theorem ln0_Share_bottom (vs : List V) (H : Hp) (Q : VK) (E : XK) (h : sp_Share_bottom K vs H Q E) : vs.length = 1 := by
  unfold sp_Share_bottom at h
  repeat' (first | (exact (congrArg List.length h.1).trans rfl) | (refine Or.elim h (fun h => ?_) (fun h => ?_)) | (obtain ⟨_, h⟩ := h))
theorem okk_Share_bottom (T : Tx K mg w) : FnOk (PySem.Challenge.rw_timerwheels_k02_shares_in_order_and_as_t).prog w K mg base CX0 2 (pa K (ga K "Share") "bottom") (d_Share_bottom T).choose ["self"] (sp_Share_bottom K) :=
  FunD.ok (k := 1) (N := n_Share_bottom) (d_Share_bottom T).choose_spec sc_Share_bottom ln0_Share_bottom fun cdv A outer s H vs Q E hr h => ⟨t_Share_bottom K w, PSs.nox (pss_one (ps_ret (pe_fld (pv 0) rfl))), rd_Share_bottom (ks T) vs H Q E h⟩
theorem ok_Share_bottom (T : Tx K mg w) : FnR (PySem.Challenge.rw_timerwheels_k02_shares_in_order_and_as_t).prog w K mg base CX0 2 (pa K (ga K "Share") "bottom") (sp_Share_bottom K) :=
  fnR_of (okk_Share_bottom T) ((d_Share_bottom T).choose_spec.bindsN fun _ _ _ _ _ _ us hl => match us, hl with | [_], _ => rfl)
theorem sc__law_text_right : FnScope n__law_text_right ["_law_text"] (defScope s__law_text_right) := ⟨rfl, rfl, rfl, by decide +kernel, rfl, by decide +kernel, by decide +kernel⟩
theorem ln0__law_text_right (vs : List V) (H : Hp) (Q : VK) (E : XK) (h : sp__law_text_right K vs H Q E) : vs.length = 1 := by
  unfold sp__law_text_right at h
  repeat' (first | (exact (congrArg List.length h.1).trans rfl) | (refine Or.elim h (fun h => ?_) (fun h => ?_)) | (obtain ⟨_, h⟩ := h))
theorem okG__law_text_right (T : Tx K mg w) (tb : TBs K mg base) : FnG (PySem.Challenge.rw_timerwheels_k02_shares_in_order_and_as_t).prog w K mg base CX0 14 (ga K "_law_text_right") (sp__law_text_right K) := by
  obtain ⟨fd, F⟩ := d__law_text_right T
  exact fnG_ofC (k := 13) (N := n__law_text_right) F sc__law_text_right (F.bindsN fun _ _ _ _ _ _ us hl => match us, hl with | [_], _ => rfl) ln0__law_text_right fun cdv A outer s H vs Q E hcv hr h => by
    subst hcv
    exact ⟨t__law_text_right K w, PSs.nox (pss_cons (ps_set (i := 1) sc__law_text_right.nd rfl (Or.inl rfl) (pe_fn (ok__law_read T) (hr.rm.mono (by decide)) rfl (glo__law_read T) (kp__law_read T) pass0 (pa_cons (pv 0) pa_nil)))
  (pss_cons (ps_if (pt_cmpR op_isN (pv 1) pe_non (nomark _)) (pss_one (ps_ret (pe_cmpR (op_eqD (ul hr.rm)) (pe_caughtT (TT := TCg K) (t := fun E => (ClX.tCMeth (ga K "Share") (sp_Share_from_textR K) E (tC (.ref (ga K "Share"))) (tCons (tVar 0) tNil))) (k := 10) (d__law_caught T).choose_spec (fun _ _ _ _ _ _ us hl => match us, hl with | [_], _ => rfl) sc__law_caught rfl (Or.inl rfl) rfl (glo__law_caught T) (fun cdg => cg T (hr.mono (by decide)) _ cdg) tb._law_text_right (TBs.mem__law_text_right T) (TBs.one__law_text_right T) rfl (hr.rm.mono (by decide)) (lamS_by (sc := defScope s__law_text_right) (by decide +kernel)) rfl (fun _ _ _ _ _ => rfl) (fun A outer s H E f c2 hrl => (ClX.pe_cmeth (pe_glob rfl (glo_Share T) rfl) (cr_Share T) (cm_Share_from_text T) (ok_Share_from_textR T) (hrl.mono (by decide)) (passes_call (takes_of rfl rfl rfl rfl) fun _ _ _ _ z => z) (pa_cons (pe_var (i := 0) rfl (Or.inr (Or.inr rfl))) pa_nil)))) (pe_lst (pa_cons pe_str (pa_cons (pe_callB (call_reprG hr) (by rfl) (free_repr T) (by decide +kernel) (pa_cons (pv 0) pa_nil)) pa_nil))) (nomark _)))) pss_nil)
  (pss_cons (ps_set (i := 2) sc__law_text_right.nd rfl (Or.inl rfl) (ClX.pe_cmeth (pe_glob rfl (glo_Share T) rfl) (cr_Share T) (cm_Share_from_text T) (ok_Share_from_text T) (hr.rm.mono (by decide)) pass0 (pa_cons (pv 0) pa_nil)))
  (pss_one (ps_ret (pe_and (pe_cmpR op_eq (pe_propF (pv 2) (cls_Share T) (pr_Share_text T) (ok_Share_text T) (hr.rm.mono (by decide)) pass0 (in_Share_text K)) (pv 0) (nomark _)) (pe_one (pe_cmpR op_eq (pe_callB (call_reprG hr) (by rfl) (free_repr T) (by decide +kernel) (pa_cons (pe_tup (pa_cons (pe_propF (pv 2) (cls_Share T) (pr_Share_top T) (ok_Share_top T) (hr.rm.mono (by decide)) pass0 (in_Share_top K)) (pa_cons (pe_propF (pv 2) (cls_Share T) (pr_Share_bottom T) (ok_Share_bottom T) (hr.rm.mono (by decide)) pass0 (in_Share_bottom K)) pa_nil))) pa_nil)) (pe_callB (call_reprG hr) (by rfl) (free_repr T) (by decide +kernel) (pa_cons (pv 1) pa_nil)) (nomark _))))))))), rd__law_text_right (by intro q hq; simp only [List.mem_cons, List.not_mem_nil, or_false] at hq; rcases hq with rfl; exact kec_InvalidText T) vs H Q E h⟩
theorem kp__law_text_right (T : Tx K mg w) : keepIn K (.ref (ga K "_law_text_right")) = true := (d__law_text_right T).choose_spec.kp
theorem sc__law_bent : FnScope n__law_bent ["_law_pool", "_law_text"] (defScope s__law_bent) := ⟨rfl, rfl, rfl, by decide +kernel, rfl, by decide +kernel, by decide +kernel⟩
theorem ln0__law_bent (vs : List V) (H : Hp) (Q : VK) (E : XK) (h : sp__law_bent K vs H Q E) : vs.length = 2 := by
  unfold sp__law_bent at h
  repeat' (first | (exact (congrArg List.length h.1).trans rfl) | (refine Or.elim h (fun h => ?_) (fun h => ?_)) | (obtain ⟨_, h⟩ := h))
theorem okk__law_bent (T : Tx K mg w) : FnOk (PySem.Challenge.rw_timerwheels_k02_shares_in_order_and_as_t).prog w K mg base CX0 6 (ga K "_law_bent") (d__law_bent T).choose ["_law_pool", "_law_text"] (sp__law_bent K) :=
  FunD.ok (k := 5) (N := n__law_bent) (d__law_bent T).choose_spec sc__law_bent ln0__law_bent fun cdv A outer s H vs Q E hr h => ⟨t__law_bent K w, PSs.nox (pss_cons (ps_par (i := 2) (j := 3) (by rfl) sc__law_bent.nd rfl rfl (by decide) rfl rfl (pa_cons (pe_fn (ok__law_draw T) (hr.mono (by decide)) rfl (glo__law_draw T) (kp__law_draw T) pass0 (pa_cons (pv 0) (pa_cons (pe_op op_add (pe_callB call_len_str (by rfl) (free_len T) (by decide +kernel) (pa_cons (pv 1) pa_nil)) pe_int) pa_nil))) (pa_cons (pe_ix ix_str pe_str (pe_fn (ok__law_draw T) (hr.mono (by decide)) rfl (glo__law_draw T) (kp__law_draw T) pass0 (pa_cons (pv 0) (pa_cons pe_int pa_nil))) (fun _ _ => rfl)) pa_nil)) (by rfl))
  (pss_cons (ps_set (i := 4) sc__law_bent.nd rfl (Or.inl rfl) (pe_fn (ok__law_draw T) (hr.mono (by decide)) rfl (glo__law_draw T) (kp__law_draw T) pass0 (pa_cons (pv 0) (pa_cons pe_int pa_nil))))
  (pss_one (ps_ret (pe_op op_add_str (pe_op op_add_str (pe_slice sl_str (pv 1) po_none (po_some (pv 2))) (pe_ix ix_lstH (pe_lst (pa_cons pe_str (pa_cons (pv 3) pa_nil))) (pe_callTy call_int1 (by rfl) (free_int T) (by decide +kernel) (pa_cons (pe_cmpR op_gt (pv 4) pe_int (nomark _)) pa_nil)) (fun _ _ => rfl))) (pe_slice sl_str (pv 1) (po_some (pe_op op_add (pv 2) (pe_callTy call_int1 (by rfl) (free_int T) (by decide +kernel) (pa_cons (pe_cmpR op_lt (pv 4) pe_int (nomark _)) pa_nil)))) po_none)))))), rd__law_bent vs H Q E h⟩
theorem ok__law_bent (T : Tx K mg w) : FnR (PySem.Challenge.rw_timerwheels_k02_shares_in_order_and_as_t).prog w K mg base CX0 6 (ga K "_law_bent") (sp__law_bent K) :=
  fnR_of (okk__law_bent T) ((d__law_bent T).choose_spec.bindsN fun _ _ _ _ _ _ us hl => match us, hl with | [_, _], _ => rfl)
theorem kp__law_bent (T : Tx K mg w) : keepIn K (.ref (ga K "_law_bent")) = true := (d__law_bent T).choose_spec.kp
theorem sc_law : FnScope n_law ["_law_script"] (defScope s_law) := ⟨rfl, rfl, rfl, by decide +kernel, rfl, by decide +kernel, by decide +kernel⟩
theorem ln0_law (vs : List V) (H : Hp) (Q : VK) (E : XK) (h : sp_law K vs H Q E) : vs.length = 1 := by
  unfold sp_law at h
  repeat' (first | (exact (congrArg List.length h.1).trans rfl) | (refine Or.elim h (fun h => ?_) (fun h => ?_)) | (obtain ⟨_, h⟩ := h))
theorem okG_law (T : Tx K mg w) (tb : TBs K mg base) : FnG (PySem.Challenge.rw_timerwheels_k02_shares_in_order_and_as_t).prog w K mg base CX0 20 (ga K "law") (sp_law K) := by
  obtain ⟨fd, F⟩ := d_law T
  exact fnG_ofC (k := 19) (N := n_law) F sc_law (F.bindsN fun _ _ _ _ _ _ us hl => match us, hl with | [_], _ => rfl) ln0_law fun cdv A outer s H vs Q E hcv hr h => by
    subst hcv
    exact ⟨t_law K w, PSs.nox (pss_cons (ps_set (i := 1) sc_law.nd rfl (Or.inr rfl) (pe_fn (ok__law_begin T) (hr.rm.mono (by decide)) rfl (glo__law_begin T) (kp__law_begin T) pass0 (pa_cons (pv 0) pa_nil)))
  (pss_cons (ps_for PassesOwn.never rfl (pi_range1 rfl (free_range T) (pa_cons pe_int pa_nil)) (pg_name (i := 2) sc_law.nd rfl (Or.inl rfl))
    (pss_cons (ps_asg (pe_lc (own := [("_law_k", 3)]) (g := (gName 3)) (tt := tYes) rfl sc_law.nd (pi_range1 rfl (free_range T) (pa_cons pe_int pa_nil)) (blkOk_by (own := [("_law_k", 3)]) (N := ["_law_script", "_law_pool", "_law_turn", "_law_k", "_law_a", "_law_c", "_law_number", "_law_b", "_law_d", "_law_share", "_law_other", "_law_odd", "_law_text", "_law_nines", "_law_some"]) (sc := defScope s_law) (by decide +kernel)) (fun _ _ _ _ _ => (pg_name (i := 3) sc_law.nd rfl (Or.inl rfl))) (fun _ _ _ _ _ => pts_nil) (fun _ _ _ _ _ => (pe_fn (ok__law_integer T) (hr.rm.mono (by decide)) rfl (glo__law_integer T) (kp__law_integer T) pass0 (pa_cons (pv 1) pa_nil)))) (pg_unl rfl (pgs_cons (pg_name (i := 4) sc_law.nd rfl (Or.inl rfl)) (pgs_cons (pg_name (i := 5) sc_law.nd rfl (Or.inl rfl)) (pgs_cons (pg_name (i := 6) sc_law.nd rfl (Or.inl rfl)) pgs_nil)))))
  (pss_cons (ps_par (i := 7) (j := 8) (by rfl) sc_law.nd rfl rfl (by decide) rfl rfl (pa_cons (pe_op op_add pe_int (pe_fn (ok__law_draw T) (hr.rm.mono (by decide)) rfl (glo__law_draw T) (kp__law_draw T) pass0 (pa_cons (pv 1) (pa_cons pe_int pa_nil)))) (pa_cons (pe_op op_add pe_int (pe_fn (ok__law_draw T) (hr.rm.mono (by decide)) rfl (glo__law_draw T) (kp__law_draw T) pass0 (pa_cons (pv 1) (pa_cons (pe_op op_pow pe_int pe_int) pa_nil)))) pa_nil)) (by rfl))
  (pss_cons (ps_par (i := 9) (j := 10) (by rfl) sc_law.nd rfl rfl (by decide) rfl rfl (pa_cons (StX.pe_makeR (mk_Share T) (ok_Share___init__ T) (hr.rm.mono (by decide)) rfl (glo_Share T) pass0 (pa_cons (pv 4) (pa_cons (pv 7) pa_nil))) (pa_cons (StX.pe_makeR (mk_Share T) (ok_Share___init__ T) (hr.rm.mono (by decide)) rfl (glo_Share T) pass0 (pa_cons (pv 5) (pa_cons (pv 8) pa_nil))) pa_nil)) (by rfl))
  (pss_cons (ps_if (PW.pt (pw_or (pt_not (pt_val (pe_fnG (okG__law_same_orderSS T) (hr.mono (by decide)) rfl (glo__law_same_order T) (kp__law_same_order T) pass0 (pa_cons (pv 9) (pa_cons (pv 10) (pa_cons (pe_op op_mulW (pv 4) (pv 8)) (pa_cons (pe_op op_mulW (pv 5) (pv 7)) pa_nil))))))) (pw_or1 (pt_not (pt_val (pe_fnG (okG__law_same_orderSS T) (hr.mono (by decide)) rfl (glo__law_same_order T) (kp__law_same_order T) pass0 (pa_cons (pv 10) (pa_cons (pv 9) (pa_cons (pe_op op_mulW (pv 5) (pv 7)) (pa_cons (pe_op op_mulW (pv 4) (pv 8)) pa_nil)))))))))) (pss_one (ps_ret pe_bl)) pss_nil)
  (pss_cons (ps_if (pt_not (pt_val (pe_fnG (okG__law_same_orderSS T) (hr.mono (by decide)) rfl (glo__law_same_order T) (kp__law_same_order T) pass0 (pa_cons (pv 9) (pa_cons (StX.pe_makeR (mk_Share T) (ok_Share___init__ T) (hr.rm.mono (by decide)) rfl (glo_Share T) pass0 (pa_cons (pv 4) (pa_cons (pv 7) pa_nil))) (pa_cons (pv 4) (pa_cons (pv 4) pa_nil))))))) (pss_one (ps_ret pe_bl)) pss_nil)
  (pss_cons (ps_if (PW.pt (pw_or (pt_not (pt_val (pe_fnG (okG__law_same_orderSI T) (hr.mono (by decide)) rfl (glo__law_same_order T) (kp__law_same_order T) pass0 (pa_cons (pv 9) (pa_cons (pv 6) (pa_cons (pv 4) (pa_cons (pe_op op_mulW (pv 6) (pv 7)) pa_nil))))))) (pw_or1 (pt_not (pt_val (pe_fnG (okG__law_same_orderIS T) (hr.mono (by decide)) rfl (glo__law_same_order T) (kp__law_same_order T) pass0 (pa_cons (pv 6) (pa_cons (pv 9) (pa_cons (pe_op op_mulW (pv 6) (pv 7)) (pa_cons (pv 4) pa_nil)))))))))) (pss_one (ps_ret pe_bl)) pss_nil)
  (pss_cons (ps_if (pt_cmpR op_ne (pe_callB (call_reprG hr) (by rfl) (free_repr T) (by decide +kernel) (pa_cons (pe_callTy (call_boolOwn (me_Share___bool__ T).at_ (fq_Share___bool__ T).1 (ok_Share___bool__ T) (hr.rm.mono (by decide)) pass0) (by rfl) (free_bool T) (by decide +kernel) (pa_cons (pv 9) pa_nil)) pa_nil)) (pe_callB (call_reprG hr) (by rfl) (free_repr T) (by decide +kernel) (pa_cons (pe_cmpR op_ne (pv 4) pe_int (nomark _)) pa_nil)) (nomark _)) (pss_one (ps_ret pe_bl)) pss_nil)
  (pss_cons (ps_for PassesOwn.never rfl (pi_list (pe_lst (pa_cons pe_bl (pa_cons pe_bl (pa_cons pe_non (pa_cons (pe_propF (pv 9) (cls_Share T) (pr_Share_text T) (ok_Share_text T) (hr.rm.mono (by decide)) pass0 (in_Share_text K)) (pa_cons (pe_tup (pa_cons (pv 4) (pa_cons (pv 7) pa_nil))) (pa_cons (pe_lst (pa_cons (pv 4) pa_nil)) pa_nil)))))))) (pg_name (i := 11) sc_law.nd rfl (Or.inl rfl))
    (pss_one (ps_if (pt_cmpR op_ne (pe_callB (call_reprG hr) (by rfl) (free_repr T) (by decide +kernel) (pa_cons (pe_lst (pa_cons (pe_cmpR (op_cmpX (me_Share___eq__ T).at_ (fq_Share___eq__ T).1 (ok_Share___eq__X T) (hr.rm.mono (by decide)) pass0) (pv 9) (pv 11) (nomark _)) (pa_cons (pe_cmpR (op_cmpX (me_Share___ne__ T).at_ (fq_Share___ne__ T).1 (ok_Share___ne__X T) (hr.rm.mono (by decide)) pass0) (pv 9) (pv 11) (nomark _)) (pa_cons (pe_cmpR (op_backE (me_Share___eq__ T).at_ (fq_Share___eq__ T).1 (sb_Share T) (ok_Share___eq__X T) (hr.rm.mono (by decide)) pass0) (pv 11) (pv 9) (nomark _)) pa_nil)))) pa_nil)) pe_str (nomark _)) (pss_one (ps_ret pe_bl)) pss_nil)))
  (pss_one (ps_for PassesOwn.never rfl (pi_list (pe_lst (pa_cons (pe_propF (pv 9) (cls_Share T) (pr_Share_text T) (ok_Share_text T) (hr.rm.mono (by decide)) pass0 (in_Share_text K)) (pa_cons (pe_propF (pv 10) (cls_Share T) (pr_Share_text T) (ok_Share_text T) (hr.rm.mono (by decide)) pass0 (in_Share_text K)) (pa_cons (pe_op op_add_str (pe_op op_add_str (pe_callTy call_str_int (by rfl) (free_str T) (by decide +kernel) (pa_cons (pe_op op_mulW pe_int (pv 4)) pa_nil)) pe_str) (pe_callTy call_str_int (by rfl) (free_str T) (by decide +kernel) (pa_cons (pe_op op_mulW pe_int (pv 7)) pa_nil))) (pa_cons (pe_op op_add_str (pe_op op_add_str (pe_callTy call_str_int (by rfl) (free_str T) (by decide +kernel) (pa_cons (pv 4) pa_nil)) pe_str) (pe_callTy call_str_int (by rfl) (free_str T) (by decide +kernel) (pa_cons (pv 7) pa_nil))) pa_nil)))))) (pg_name (i := 12) sc_law.nd rfl (Or.inl rfl))
    (pss_one (ps_if (PW.pt (pw_or (pt_not (pt_val (pe_fnG (okG__law_text_right T tb) (hr.mono (by decide)) rfl (glo__law_text_right T) (kp__law_text_right T) pass0 (pa_cons (pv 12) pa_nil)))) (pw_or1 (pt_not (pt_val (pe_fnG (okG__law_text_right T tb) (hr.mono (by decide)) rfl (glo__law_text_right T) (kp__law_text_right T) pass0 (pa_cons (pe_fn (ok__law_bent T) (hr.rm.mono (by decide)) rfl (glo__law_bent T) (kp__law_bent T) pass0 (pa_cons (pv 1) (pa_cons (pv 12) pa_nil))) pa_nil))))))) (pss_one (ps_ret pe_bl)) pss_nil)))))))))))))
  (pss_cons (ps_set (i := 13) sc_law.nd rfl (Or.inl rfl) (pe_op op_mulT pe_str pe_int))
  (pss_cons (ps_set (i := 14) sc_law.nd rfl (Or.inl rfl) (pe_lst (pa_cons pe_str (pa_cons pe_str (pa_cons pe_str (pa_cons pe_str (pa_cons pe_str (pa_cons pe_str (pa_cons pe_str (pa_cons pe_str (pa_cons pe_str pa_nil)))))))))))
  (pss_cons (ps_for PassesOwn.never rfl (pi_list (pe_op op_cat (pv 14) (pe_lst (pa_cons (pv 13) (pa_cons (pe_op op_add_str pe_str (pv 13)) (pa_cons (pe_op op_add_str pe_str (pv 13)) (pa_cons (pe_op op_add_str pe_str (pv 13)) pa_nil))))))) (pg_name (i := 12) sc_law.nd rfl (Or.inl rfl))
    (pss_one (ps_if (pt_not (pt_val (pe_fnG (okG__law_text_right T tb) (hr.mono (by decide)) rfl (glo__law_text_right T) (kp__law_text_right T) pass0 (pa_cons (pv 12) pa_nil)))) (pss_one (ps_ret pe_bl)) pss_nil)))
  (pss_one (ps_ret (pe_cmpR (op_eqD (ul hr.rm)) (pe_lc (own := [("_law_odd", 11)]) (g := (gName 11)) (tt := tYes) rfl sc_law.nd (pi_list (pe_lst (pa_cons pe_non (pa_cons pe_int (pa_cons (pe_lst (pa_cons pe_str pa_nil)) pa_nil))))) (blkOk_by (own := [("_law_odd", 11)]) (N := ["_law_script", "_law_pool", "_law_turn", "_law_k", "_law_a", "_law_c", "_law_number", "_law_b", "_law_d", "_law_share", "_law_other", "_law_odd", "_law_text", "_law_nines", "_law_some"]) (sc := defScope s_law) (by decide +kernel)) (fun _ _ _ _ _ => (pg_name (i := 11) sc_law.nd rfl (Or.inr rfl))) (fun _ _ _ _ _ => pts_nil) (fun _ _ _ _ _ => (pe_caughtT (TT := TCg K) (t := fun E => (ClX.tCMeth (ga K "Share") (sp_Share_from_textR K) E (tC (.ref (ga K "Share"))) (tCons (tVar 11) tNil))) (k := 16) (d__law_caught T).choose_spec (fun _ _ _ _ _ _ us hl => match us, hl with | [_], _ => rfl) sc__law_caught rfl (Or.inl rfl) rfl (glo__law_caught T) (fun cdg => cg (N := []) (H := H) (E := E) T (hr.mono (by decide)) _ cdg) tb.law (TBs.mem_law T) (TBs.one_law T) rfl (hr.rm.mono (by decide)) (lamS_by (sc := relS _ (defScope s_law)) (by decide +kernel)) rfl (fun _ _ _ _ _ => rfl) (fun A outer s H E f c2 hrl => (ClX.pe_cmeth (pe_glob rfl (glo_Share T) rfl) (cr_Share T) (cm_Share_from_text T) (ok_Share_from_textR T) (hrl.mono (by decide)) (passes_call (takes_of rfl rfl rfl rfl) fun _ _ _ _ z => z) (pa_cons (pe_var (i := 11) rfl (Or.inr (Or.inr rfl))) pa_nil)))))) (pe_lc (own := [("_law_odd", 11)]) (g := (gName 11)) (tt := tYes) rfl sc_law.nd (pi_list (pe_lst (pa_cons pe_non (pa_cons pe_int (pa_cons (pe_lst (pa_cons pe_str pa_nil)) pa_nil))))) (blkOk_by (own := [("_law_odd", 11)]) (N := ["_law_script", "_law_pool", "_law_turn", "_law_k", "_law_a", "_law_c", "_law_number", "_law_b", "_law_d", "_law_share", "_law_other", "_law_odd", "_law_text", "_law_nines", "_law_some"]) (sc := defScope s_law) (by decide +kernel)) (fun _ _ _ _ _ => (pg_name (i := 11) sc_law.nd rfl (Or.inl rfl))) (fun _ _ _ _ _ => pts_nil) (fun _ _ _ _ _ => (pe_lst (pa_cons pe_str (pa_cons (pe_callB (call_reprG hr) (by rfl) (free_repr T) (by decide +kernel) (pa_cons (pv 11) pa_nil)) pa_nil))))) (nomark _))))))))), rd_law (kx T) (k02 T) (by intro q hq; simp only [List.mem_cons, List.not_mem_nil, or_false] at hq; rcases hq with rfl; exact kec_InvalidText T) vs H Q E h⟩
end
end Tw
theorem PySem.Challenge.cw_timerwheels_k02_shares_in_order_and_as_t_holds : PySem.Challenge.rw_timerwheels_k02_shares_in_order_and_as_t.Holds := by
  exact Hd.holds (k := 20) (CX := L2.CX0) (fun _ _ _ _ z => z) ⟨⟨rfl, by decide, by decide⟩, rfl⟩ fun K mg w base T t0 t1 => Tw.okG_law T ⟨t0, t1⟩
