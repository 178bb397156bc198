import PyProof.Rows.All
import Wide.All
import OpenK.AllK
import Wide.FinOn
import HandS.ForMost
import HandS.ForExc
import HandS.Defaults
import HandS.Property
import HandS.ClsMeth
import HandS.IsInst
import HandS.Head0
import HandS.Head1
import HandS.Head2
import HandS.HeadEnd
import HandS.HeadHook1
import HandS.HeadHook2
import HandS.HeadHook3
import HandS.HeadNt
import HandS.Wide
import HandS.Flt
import HandS.Flow
import HandS.MakeKwOnly
import HandS.Star
import HandS.Zip
import HandS.Conv
import HandS.Style
import HandS.SlotsOwn
import HandS.NoneIn
import HandS.More
import HandS.RaiseMore
import PyProof.ReprRoads
import HandS.ExcInit
import HandS.ExcField
import HandS.Nested
import KE.KExcSuper
import KE.KSuper
import KE.KExcInit
import PyProof.ExcBaseAll.OverflowError
import PyProof.ExcBaseAll.LookupError
import HandS.ExcIs
import HandS.EndTab
import HandS.NestedK
import HandS.TryMany
import HandS.HotCalls
import HandS.Codes
import HandS.Lambda
import KE.GoesMore
import KE.GoesZip
import KE.GoesEnum
import PyProof.Draws
import HandS.Walk
import PyProof.ListRange
import PyProof.LongRange
import HandS.FStrTup
import PyProof.FitsInt
import HandS.Small
import HandS.MakeKw
import HandS.ExcValue
import HandS.TupMul
import HandS.TupLe
import HandS.OwnEq
import PySem.Challenge.RW_timerwheels_k29_errors_made
set_option Elab.async false
set_option linter.all false
set_option maxRecDepth 100000
set_option maxHeartbeats 4000000
/-! Tw: a Hook of our own: facts by names, facts by Bools, defs at any address, tables with text keys -/
namespace Tw
open PySem PySem.Spec PyProof.Rows L2 He PySem.W
/-! ### addresses -/
def pa (K : Frag) (C : Addr) (f : PySem.Str) : Addr := match recIn K (ma K C f) "property" with
  | some (.ref g :: _) => g
  | _ => 0
def dva (K : Frag) (d : Addr) (x : PySem.Str) : Addr := match nsIn K d x with
  | some (some (.ref a)) => a
  | _ => 0
/-! ### facts by Bools -/
def bIsi (x : PySem.Str) (K : Frag) : Bool := eqO (findIn K (.ref (ga K x)) "__class__") (some (some (.builtin "object.__class__"))) &&
  (eqO (specialIn K (.builtin "object.__class__") "__get__") (some (some (.builtin "getset_descriptor.__get__"))) && (decide (takesIn K (.builtin "object.__class__") = some true) && decide (mroIn K (ga K x) (.type "object") = some true)))
structure IsiC (K : Frag) (C : Addr) : Prop where
  ca : findIn K (.ref C) "__class__" = some (some (.builtin "object.__class__"))
  cn : specialIn K (.builtin "object.__class__") "__get__" = some (some (.builtin "getset_descriptor.__get__"))
  ct : takesIn K (.builtin "object.__class__") = some true
  cm : mroIn K C (.type "object") = some true
def bKit (t c : Frag → Value) (b : Bool) (K : Frag) : Bool := decide (kitOne K (t K) (c K) = some b)
def bCm (x m : PySem.Str) (K : Frag) : Bool := He5.wrapB K (ga K x) "classmethod" "classmethod.__get__" m && fnIn K (He5.wf K (ga K x) "classmethod" m)
def bTup (p : Frag → Addr) (vs : List Dv) (K : Frag) : Bool := match K.lookup (p K) with
  | some ⟨.type c, _, .seq its _, _⟩ => decide (c = "tuple") && (decide (its.size ≤ sizeLine) && relAll (vs.map (Dv.v K)) its.toList)
  | _ => false
def bVal (p : Frag → Addr) (ks : List PySem.Str) (K : Frag) : Bool := ks.all fun x => eqO (nsIn K (p K) x) (some (some (.ref (dva K (p K) x))))
/-! ### the Hook -/
abbrev AlM : Type := He.AlD × List (Option (List (Option (PySem.Str × Int))))
def obsM (fa : List Fa) (fb : List (Frag → Bool)) (fn : List He5.DefA) (ts : List He.Tab) (K : Frag) : AlM :=
  (((fa.all fun f => f.ok K) && ((fb.all fun f => f K) && fn.all fun d => d.ok K), fn.map fun d => He5.fnA K (d.at_ K)), ts.map fun t => dicW K (t.1 K))
def valM (fn : List He5.DefA) (ts : List He.Tab) (w : World) : AlM := ((true, fn.map He5.DefA.val), ts.map fun t => some (keysIn w.params t.2))
def SaysM (fa : List Fa) (fb : List (Frag → Bool)) (fn : List He5.DefA) (ts : List He.Tab) (w : World) (K : Frag) : Prop := obsM fa fb fn ts K = valM fn ts w
section
variable {fa : List Fa} {fb : List (Frag → Bool)} {fn : List He5.DefA} {ts : List He.Tab} {w : World} {K : Frag}
theorem SaysM.bits (c : SaysM fa fb fn ts w K) : (fa.all fun f => f.ok K) = true ∧ (fb.all fun f => f K) = true ∧ (fn.all fun d => d.ok K) = true := by
  have h : ((fa.all fun f => f.ok K) && ((fb.all fun f => f K) && fn.all fun d => d.ok K)) = true := congrArg (fun z : AlM => z.1.1) c
  obtain ⟨h1, h⟩ := ba h
  obtain ⟨h2, h3⟩ := ba h
  exact ⟨h1, h2, h3⟩
theorem SaysM.fact (c : SaysM fa fb fn ts w K) (i : Nat) {f : Fa} (h : fa[i]? = some f := by rfl) : f.ok K = true := List.all_eq_true.mp c.bits.1 f (List.mem_of_getElem? h)
theorem SaysM.bool (c : SaysM fa fb fn ts w K) (i : Nat) {f : Frag → Bool} (h : fb[i]? = some f := by rfl) : f K = true := List.all_eq_true.mp c.bits.2.1 f (List.mem_of_getElem? h)
theorem SaysM.def_ (c : SaysM fa fb fn ts w K) (i : Nat) {d : He5.DefA} (h : fn[i]? = some d := by rfl) : ∃ fd, FunD K d.name d.qual d.params d.body d.scope (d.dvs K) (d.kws K) (d.at_ K) fd := by
  have e : fn.map (fun d => He5.fnA K (d.at_ K)) = fn.map He5.DefA.val := congrArg (fun z : AlM => z.1.2) c
  have e2 : (fn.map fun d => He5.fnA K (d.at_ K))[i]? = (fn.map He5.DefA.val)[i]? := by rw [e]
  rw [List.getElem?_map, List.getElem?_map, h] at e2
  exact He5.DefA.funD (Option.some.inj e2) (List.all_eq_true.mp c.bits.2.2 d (List.mem_of_getElem? h))
theorem SaysM.tab (c : SaysM fa fb fn ts w K) (i : Nat) {t : He.Tab} (h : ts[i]? = some t := by rfl) : ∃ es n, KDict K w (t.1 K) es n := by
  have e : ts.map (fun t => dicW K (t.1 K)) = ts.map fun t => some (keysIn w.params t.2) := congrArg (fun z : AlM => z.2) c
  have e2 : (ts.map fun t => dicW K (t.1 K))[i]? = (ts.map fun t => some (keysIn w.params t.2))[i]? := by rw [e]
  rw [List.getElem?_map, List.getElem?_map, h] at e2
  exact dicW_ok (Option.some.inj e2)
end
end Tw
/-! Tw: the Hook over written addresses -/
namespace Tw
open PySem PySem.Spec PyProof.Rows L2 He PySem.W
def bNod (p : Frag → Addr) (K : Frag) : Bool := match K.lookup (p K) with
  | some ⟨.type c, none, _, _⟩ => decide (c = "tuple")
  | _ => false
end Tw
/-! Tw: rules of our own beside the hand layer's -/
namespace Tw
open PySem PySem.Spec PyProof.Rows L2
theorem Same.new {H : Hp} {p : Addr} {o : HO} (h : H p = none) : Same H (upd H p o) := fun a u e => by
  rw [upd_ne (ne_of_none e h)]
  exact e
theorem Same.tup {K : PySem.W.Frag} {H H' : Hp} {a : Addr} {xs : List V} (e : Same H H') (h : SqT K H a xs) : SqT K H' a xs := by
  rcases h with (h | ⟨o, h⟩) | h
  · exact .inl (.inl (e _ _ h))
  · exact .inl (.inr ⟨o, e _ _ h⟩)
  · exact .inr h
section
variable {P : Program} {w : World} {K : PySem.W.Frag} {mg : Str → Option Value} {base : Heap} {CX : CXT} {k : Nat} {f : Addr} {fd : FuncData} {ps : List Str} {sp : Sp}
theorem fnR_of (F : FnOk P w K mg base CX k f fd ps sp) (b : Binds K fd ps []) : FnR P w K mg base CX k f sp :=
  (F.raw b .nil).imp fun vs H Q E h => by
    show sp (vs ++ []) H Q E
    rw [List.append_nil]
    exact h
end
def tFn (sp : Sp) (E : XK) (t : TA) : TE := fun σ H Q => t σ H fun vs H1 => sp vs H1 Q E
section
variable {X : Cx} {CX : CXT} {k : Nat} {f C g : Addr} {sp : Sp} {E : XK} {x m : Str} {e o : Expr} {es : List Expr} {ta te : TE} {t : TA} {p pos apos : Pos}
theorem pe_fn (F : FnR X.prog X.w X.K X.mg X.base CX k f sp) (hr : Room k X.A) (hg : Gl X x) (hm : X.mg x = some (.ref f)) (hk : PySem.W.keepIn X.K (.ref f) = true) (hx : Passes CX X E) (ha : PA X (e :: es) t)
    (hdb : (x == ("__debug__" : Str)) = false := by decide) (he : starEach (e :: es) X.env = (false, eval e X.env) :: starEach es X.env := by rfl)
    (hpl : (backTo pos (starEach es X.env)).any (·.1) = false := by rfl) : PE X (.Call (.Name x p) (e :: es) [] pos) (tFn sp E t) := ⟨fun pins s σ H Q I h =>
  wpAny_Call_Name_kw (ld_glob I hg hm (PySem.W.callWith_K (h₀ := X.base) I.ok.mod.kin hk
    (thn (ha.run pos pins s σ H _ I h) fun us s1 ⟨vs, H1, I1, r, q⟩ => ⟨I1.kIn, wpAny_call (run_fnR F hr hx I1 r q)⟩) he hpl) hdb)⟩
def rLenO (C : Addr) (sp : Sp) (E : XK) : List V → Hp → VK → Prop := fun xs H Q => ∃ a dx fs, xs = [.ref a] ∧ H a = some (.ins C dx fs) ∧
  sp [.ref a] H (fun v H' => ∃ n : Int, v = .int n ∧ 0 ≤ n ∧ n < 2 ^ 63 ∧ Q (.int n) H') E
def rIxO (C : Addr) (sp : Sp) (E : XK) : R2 := fun x y H Q => ∃ a dx fs, x = .ref a ∧ H a = some (.ins C dx fs) ∧ sp [.ref a, y] H Q E
/-! tracked sequences, read -/
def rIxLH : R2 := fun x y H Q => ∃ p xs i v, x = .ref p ∧ y = .int i ∧ H p = some (.lst xs) ∧ atI xs i = some v ∧ Q v H
def rIxTH : R2 := fun x y H Q => ∃ p xs i v, x = .ref p ∧ y = .int i ∧ H p = some (.tup xs) ∧ atI xs i = some v ∧ Q v H
theorem ix_lstH : IxR X rIxLH := fun value slice pins s σ H x y v u Q I rx ry ⟨p, xs, i, z, e1, e2, h, e3, q⟩ hs => ix_list value slice pins s σ H x y v u Q I rx ry ⟨p, xs, i, z, e1, e2, SqL.of h, e3, q⟩ hs
def rLenLH : List V → Hp → VK → Prop := fun xs H Q => ∃ p ys, xs = [.ref p] ∧ H p = some (.lst ys) ∧ Q (.int ys.length) H
def rLenTH : List V → Hp → VK → Prop := fun xs H Q => ∃ p ys, xs = [.ref p] ∧ H p = some (.tup ys) ∧ Q (.int ys.length) H
theorem call_lenL : CallR X (.builtin "len") rLenLH := fun pins s σ H xs us Q I r ⟨p, ys, e, h, q⟩ => call_len_seq pins s σ H xs us Q I r ⟨p, ys, e, .inl (SqL.of h), q⟩
def InsAt (C : Addr) (sp : Sp) : Prop := ∀ vs H Q E, sp vs H Q E → ∃ (a dx : Addr) (fs : List (Str × V)) (r : List V), vs = .ref a :: r ∧ H a = some (.ins C dx fs)
theorem pe_propF {f : Str} {pr : Addr} (he : PE X e ta) (c : Cls X.K C) (hp : PropOf X.K C f pr g) (F : FnR X.prog X.w X.K X.mg X.base CX k g sp) (hr : Room (k + 1) X.A) (hx : Passes CX X.nox E) (hi : InsAt C sp)
    (hab : attributeBase e f X.env (eval e X.env) = eval e X.env := by rfl) : PE X (.Attribute e f pos) (tFn sp E (tCons ta tNil)) := by
  refine ⟨fun pins s σ H Q I h => attr_of hab (thn (he.run pins s σ H _ I h) fun u s1 ⟨x, H1, I1, rx, q⟩ => ?_)⟩
  obtain ⟨a, dx, fs, r, e1, ea⟩ := hi _ _ _ _ q
  cases e1
  cases (show u = Value.ref a from rx)
  obtain ⟨mA, O, _⟩ := ins_get I1.hok ea
  obtain ⟨od, J, _⟩ := O.look
  obtain ⟨rest, hrec⟩ := hp.rec_
  have hc : (PySem.W.clsIn X.K C).isSome = true := by
    obtain ⟨cd, hc, _⟩ := PySem.W.any_some c.hd
    rw [hc]
    rfl
  have I2 := I1.tok (s1.toks + 1)
  refine PySem.W.get_bind I1.kIn J (PySem.W.plainGet_of (c.get f)).1 (PySem.W.findObj_data hc hp.at_ hp.get hp.tak) (PySem.W.plainGet_of (c.get f)).2
    (wpAny_call (PySem.W.prop_get (s := { s1 with toks := s1.toks + 1 }) I2.kIn hrec (codeAny_mono (F X.A.in1 X.stack _ H1 [.ref a] [.ref a] Q E hr.in1 I2.env0.in1 (.cons rfl .nil) q) fun r s' hq => ?_)))
  cases r with
  | error er => exact False.elim (hx pins σ H1 _ er s' (I2.wish _) hq)
  | ok fl =>
    cases fl with
    | ret u =>
      obtain ⟨v, H', I3, rv, q3⟩ := I2.after hq
      show wpAny _ _ (handedOut u) _ _ _
      rw [PySem.W.handedOut_of (handed_of rv)]
      exact wpAny_pure ⟨v, H', I3, rv, q3⟩
    | next => exact False.elim hq
    | brk => exact False.elim hq
    | cont => exact False.elim hq
theorem pe_ixF {a b : Expr} {tb : TE} (hs : PySem.W.findIn X.K (.ref C) "__getitem__" = some (some (.ref g))) (hf : PySem.W.isFn X.K (.ref g) = true) (hn : PySem.W.fnIn X.K g = true) (F : FnR X.prog X.w X.K X.mg X.base CX k g sp) (hr : Room (k + 1) X.A) (hx : Passes CX X E) (hi : InsAt C sp)
    (ha : PE X a ta) (hb : PE X b tb) (hsl : ∀ u v, subscripted b true u v = runValue (.builtin "lifetime.subscript" ⟨[u, v], []⟩) := by intro _ _; with_unfolding_all rfl) : PE X (.Subscript a b pos) (tFn sp E (tCons ta (tCons tb tNil))) := by
  refine ⟨fun pins s σ H Q I h => Subscript_ (binT ha hb I h fun v u s2 x y H2 I2 rx ry q => ?_)⟩
  obtain ⟨c, dx, fs, r, e1, ec⟩ := hi _ _ _ _ q
  cases e1
  cases (show v = Value.ref c from rx)
  obtain ⟨mA, O, _⟩ := ins_get I2.hok ec
  obtain ⟨od, J, _⟩ := O.look
  obtain ⟨m, hF⟩ := I2.fr
  exact PySem.W.sub_K hF I2.ok.mod.kin J hs hn hf (wpAny_call (SlX.run_at (us := [.ref c, u]) (ws := [.ref c, y]) F hr.in1 I2.env0.in1 hx I2 (.cons rfl (.cons ry .nil)) q)) (hsl _ _)
def rLenF (sp : Sp) (E : XK) : List V → Hp → VK → Prop := fun xs H Q => sp xs H (fun v H' => ∃ n : Int, v = .int n ∧ 0 ≤ n ∧ n < 2 ^ 63 ∧ Q (.int n) H') E
end
end Tw
/-! Tw: more rules -/
namespace Tw
open PySem PySem.Spec PyProof.Rows L2 StX
section
variable {X : Cx} {CX : CXT} {k : Nat} {f C : Addr} {sp : Sp} {E : XK} {x : Str} {p pos : Pos}
theorem pe_makeR0 (M : Mk X.K C f) (F : FnR X.prog X.w X.K X.mg X.base CX k f sp) (hr : Room (k + 1) X.A) (hg : Gl X x) (hm : X.mg x = some (.ref C)) (hx : Passes CX X E)
    (hdb : (x == ("__debug__" : Str)) = false := by decide) : PE X (.Call (.Name x p) [] [] pos) (tMakeR C sp E tNil) := ⟨fun pins s σ H Q I h =>
  wpAny_Call_Name_kw (ld_glob I hg hm (PySem.W.callWith_K0 I.kIn M.kp (run_makeR (us := []) (vs := []) M F hr hx I .nil h)) hdb)⟩
end
end Tw
namespace Tw
open PySem PySem.Spec PyProof.Rows L2
theorem ul {k : Nat} {A : Around} (hr : Room k A) : A.units + 64 < cLine := by have := hr.un; omega
end Tw
/-! Tw: defs of the law itself that call repr: nothing is under way around them -/
namespace Tw
open PySem PySem.Spec PyProof.Rows L2
structure RmG (k : Nat) (A : Around) : Prop where
  rm : Room k A
  gd : A.guards = some []
theorem RmG.mono {j k : Nat} {A : Around} (r : RmG k A) (h : j ≤ k) : RmG j A := ⟨r.rm.mono h, r.gd⟩
theorem RmG.deeper {k : Nat} {A : Around} (r : RmG (k + 1) A) (env : Env) : RmG k (A.deeper env) := ⟨r.rm.deeper env, r.gd⟩
def FnG (P : Program) (w : World) (K : PySem.W.Frag) (mg : Str → Option Value) (base : Heap) (CX : CXT) (k : Nat) (f : Addr) (sp : Sp) : Prop :=
  ∀ A fs t Hp0 us vs Q E, RmG k A → Env0 P w K mg base A fs t Hp0 → Vals vs us → sp vs Hp0 Q E → codeAny (model P w) A (.call (.ref f) ⟨us, []⟩) (CR CX fs P w Hp0 t Q E) t
section
variable {P : Program} {w : World} {K : PySem.W.Frag} {mg : Str → Option Value} {base : Heap} {CX : CXT} {k : Nat} {f : Addr} {sp : Sp}
theorem FnG.mono {j : Nat} (F : FnG P w K mg base CX j f sp) (h : j ≤ k) : FnG P w K mg base CX k f sp := fun A fs t H us vs Q E r => F A fs t H us vs Q E (r.mono h)
theorem fnG_of {x qual : Str} {params : Arguments} {body : List Stmt} {scope : Scope} {kws : List (Str × V)} {fd : FuncData} {N ps : List Str} (F : FunD K x qual params body scope [] kws f fd) (S : FnScope N ps scope) (hb : Binds K fd ps [])
    (hl : ∀ vs H Q E, sp vs H Q E → vs.length = ps.length)
    (hbody : ∀ cdv A fs t H vs Q E, RmG k (A.deeper (envOfC qual scope t.heap.objs.size f cdv)) → sp vs H Q E → ∃ tt, PSs (cxOf CX P w K mg base N qual scope f cdv A fs t H E) body tt ∧ tt { nx := fun _ H' => Q .non H', rt := Q } (L2.start N vs) H) :
    FnG P w K mg base CX (k + 1) f sp := by
  intro A fs t H us vs Q E hr e0 rv h
  obtain ⟨oc, od, dV, kV, doc, pm, an, cdv, ct, osl, efd, lk, hcd, _, _⟩ := F.ex
  have KX : K.In t.heap := e0.mod.kin.keeps fun b o z => (e0.bs b o z).1
  have hlen : us.length = ps.length := rv.length.symm.trans (hl _ _ _ _ h)
  have hbt := hb t us KX (by rw [List.append_nil]; exact hlen)
  rw [List.append_nil] at hbt
  rw [efd] at lk hbt
  refine codeAny_call_function hr.rm.depth (KX _ _ lk) rfl S.co S.gen rfl (PySem.W.codeRec_of KX hcd) (hbt _ _ _ _ ?_)
  refine wpAny_newFunctionEnv_cells S.kind (fun y hy => ?_) fun env he t1 inc => ?_
  · exact (S.par y.1 (List.of_mem_zip hy).1).elim .inl fun z => .inr ⟨z, PySem.W.cellsFrom_some _ _ _ (.inl z)⟩
  · subst he
    obtain ⟨tt, hp, hq⟩ := hbody cdv A fs t H vs Q E (hr.deeper _) h
    have hnl : t.heap.NoLimit := e0.mod.nolimit.keeps fun b o z => (e0.bs b o z).1
    refine ⟨hnl.keeps inc.toInCall.keep, codeAny_func (wpAny_mono (hp.run [] t1 _ _ _ (inv_start S hr.rm.hd e0 (hl _ _ _ _ h) rv inc) hq) (fun fl t2 z => ?_) fun _ _ z => z)⟩
    cases fl with
    | ret u =>
      obtain ⟨v, _, H2, J, r2, q2⟩ := z
      exact ⟨v, H2, J.os, J.bare, J.base, J.hok, r2, q2⟩
    | next =>
      obtain ⟨_, H2, J, q2⟩ := z
      exact ⟨.non, H2, J.os, J.bare, J.base, J.hok, rfl, q2⟩
    | brk => exact z.elim fun _ z => z.elim fun _ z => z.2.elim
    | cont => exact z.elim fun _ z => z.elim fun _ z => z.2.elim
end
section
variable {X : Cx} {CX : CXT} {k : Nat} {f : Addr} {sp : Sp} {E : XK} {x : Str} {e : Expr} {es : List Expr} {t : TA} {p pos : Pos}
/-! ### repr -/
def rReprG (K : PySem.W.Frag) : List V → Hp → VK → Prop := fun xs H Q => ∃ x d, xs = [x] ∧ Dp K H x d ∧ d.showable = true ∧ d.hasDict = false ∧ d.depth ≤ 16 ∧ d.shown.length ≤ sizeLine ∧ Q (.str d.shown) H
end
/-! ### the law's end -/
section
variable {P : Program} {w : World} {K : PySem.W.Frag} {mg mb : Str → Option Value}
theorem entry {s : Shared} {a : Addr} {vs : List Value} {ns : List Int} (KX : K.In s.heap) (hns : s.heap.Ns mainGlobals mg) (hb : s.heap.Ns builtinsNs mb) (hbb : ∀ x : Str, x ≠ "__name__" → mb x = bootBuiltins x) (hlim : s.heap.NoLimit) (hg : s.gens = #[])
    (ha : s.heap.get? a = some { cls := .type "list", data := .seq vs.toArray }) (hi : IntsAre vs ns) (hl : ns.length ≤ sizeLine) :
    ∃ (H : Hp) (base : Heap), K.In base ∧ base.Ns mainGlobals mg ∧ Env0 P w K mg base callerA [] s H ∧ Only H ∧ SqL K H a (ns.map V.int) := by
  have rv := vals_ints hi
  have hlv := hi.length
  have key : ∀ H : Hp, (∀ b, H b ≠ none → b = a) → (H a ≠ none → K.lookup a = none) → HOk P w H s.heap → K.In (hidT s.heap H) ∧ (hidT s.heap H).Ns mainGlobals mg ∧ Env0 P w K mg (hidT s.heap H) callerA [] s H := by
    intro H h1 h2 hok
    have keepD : ∀ {b m}, s.heap.Ns b m → (hidT s.heap H).Ns b m := by
      rintro b m ⟨o, es, ep, z, d, r⟩
      refine ⟨o, es, ep, hidT_get z ?_, d, r⟩
      apply Classical.byContradiction
      intro n
      obtain rfl := h1 b n
      rw [ha] at z
      cases z
      exact nomatch d
    have kin : K.In (hidT s.heap H) := by
      intro b o z
      refine hidT_get (KX b o z) ?_
      apply Classical.byContradiction
      intro n
      obtain rfl := h1 b n
      rw [h2 n] at z
      cases z
    obtain ⟨mc, l1, l2⟩ := hlim
    exact ⟨kin, keepD hns, rfl, ⟨kin, keepD hns, ⟨mb, keepD hb, hbb⟩, ⟨mc, keepD l1, l2⟩⟩, fun b o z => of_hidT z, Nat.le_of_eq (hidT_size _ _), trivial, fun b z => (nomatch z), hok, .of_eq hg⟩
  cases hk : K.lookup a with
  | some o =>
    have z := KX a o hk
    rw [ha] at z
    obtain rfl := (Option.some.inj z).symm
    obtain ⟨k1, k2, k3⟩ := key (fun _ => none) (fun b n => (n rfl).elim) (fun n => (n rfl).elim) fun b u n => nomatch (show (none : Option HO) = some u from n)
    exact ⟨_, _, k1, k2, k3, fun _ => .inl rfl, .inr ⟨_, vs.toArray, _, hk, rfl, rfl, rfl, by rw [List.size_toArray, hlv]; exact hl, by simpa using rv⟩⟩
  | none =>
    have n1 : ∀ b, (if b = a then some (HO.frz { cls := .type "list", data := .seq vs.toArray } (.lst (ns.map V.int))) else none) ≠ none → b = a := fun b n => Classical.byContradiction fun m => n (if_neg m)
    obtain ⟨k1, k2, k3⟩ := key (fun b => if b = a then some (.frz { cls := .type "list", data := .seq vs.toArray } (.lst (ns.map V.int))) else none) n1 (fun _ => hk) fun b u n => by
      have e : b = a := Classical.byContradiction fun m => by
        have n' := (if_neg m).symm.trans n
        cases n'
      subst e
      have m := (if_pos rfl).symm.trans n
      cases m
      exact ⟨ha, by rw [List.length_map]; exact hl, vs, _, rv, ha⟩
    refine ⟨_, _, k1, k2, k3, fun b => ?_, .inl (.inr ⟨_, if_pos rfl⟩)⟩
    by_cases m : b = a
    · exact .inr ⟨_, _, if_pos m⟩
    · exact .inl (if_neg m)
end
end Tw
/-! Tw: an own error's __init__ that begins with super().__init__(..) -/
namespace Tw
open PySem PySem.Spec PyProof.Rows L2 PySem.W PySem.Calls NdefX
structure SupF (K : Frag) (P : Program) (C cc cda : Addr) : Prop where
  par : OexC K C
  opq : nsIn K cStatics "thirdparty.any" = some none
  sup : ks_superIn K C C "__init__" = some (some (.builtin "ValueError.__init__"))
  sub : subIn K (.ref C) (.type "ValueError") = some true
  own : mroIn K C (.ref C) = some true
  cell : ∃ cl cld csl, K.lookup cc = some ⟨cl, cld, .cell (some (.ref C)), csl⟩
  code : ∃ ccl cdd vs ccs file tf, K.lookup cda = some ⟨ccl, cdd, .fields vs, ccs⟩ ∧ vs[2]? = some (.str file tf) ∧ ((P.main.file : PySem.Str) == file) = true
  top : (P.main.scope.names.lookup ("super" : PySem.Str)).isSome = false
abbrev erF (name qual : PySem.Str) (params : Arguments) (body : List Stmt) (scope : Scope) (cc cda : Addr) : NF := ⟨name, qual, params, body, scope, [("__class__", cc)], cda⟩
theorem call_mw {prog : Program} {w : World} {A : Around} {E : Value → Shared → Prop} {h : Heap} {g : Array GenState} {d : PySem.Drawn} {t : Nat} {os : OsState} {nm q : PySem.Str} {C N : Addr} {bs bm : List Value} {hd : Bool} {sn : List PySem.Str} {sub : List Value} {ab : Bool} {col : Option Bool} {dd : Option Addr}
    {k0 k1 k2 k3 k5 : Option Value} {u x t0 : Addr} {vs : List Value} {Q : Value → Shared → Prop}
    (hC : h.get? C = some (excClassObj nm q C N bs bm hd sn sub ab col dd k0 k1 k2 k3 k5 "ValueError.__new__")) (hx : h.get? x = some (excObj C t0 none .none)) (hu : h.get? u = some (kxs_mw "ValueError.__init__" x)) (hz : vs.length ≤ sizeLine)
    (hq : ∀ h' t1, (∀ b o, b ≠ x → h.get? b = some o → h'.get? b = some o) → h'.get? x = some (excObj C t1 none .none) → Q .none ⟨h', g, d, t, os⟩) :
    wpAny (model prog w) A (call (.ref u) vs) Q E ⟨h, g, d, t, os⟩ := by
  refine wpAny_call (codeAny_of_tree ?_)
  show wpAny _ A.in1 (callAny (.ref u) ⟨vs, []⟩) _ _ _
  simp only [callAny]
  refine wpAny_bind (wpAny_load hu ?_)
  have em : (Value.type "method-wrapper" == Value.type "method" || Value.type "method-wrapper" == Value.type "builtin_function_or_method" || Value.type "method-wrapper" == Value.type "method-wrapper") = true := by decide
  simp only [kxs_mw, em, if_true]
  refine KFB.if_so (by decide) ?_
  refine wpAny_bind (check_bound_init PySem.F.excBase_ValueError.toExcCallFacts hC hx rfl ?_)
  exact wpAny_bind (wpAny_pure (wpAny_pure ⟨plainId_quiet PySem.F.excBase_ValueError.init.plain _, codeAny_builtin PySem.F.excBase_ValueError.initEntry (exc_init_tree (cls := .ref C) (t0 := t0) (dv := none) (c2 := .none) (c3 := .none) (b4 := .bool false) hx hz fun h' k e _ => hq h' _ k e)⟩))
abbrev suB (text : PySem.Str) (j : Nat) (p0 p1 p2 p3 p4 pc : Pos) (rest : List Stmt) : List Stmt := .Expr (.Call (.Attribute (.Call (.Name "super" p0) [] [] p1) "__init__" p2) [.Constant (.str text) j pc] [] p3) p4 :: rest
section
variable {CX : CXT} {P : Program} {w : World} {K : Frag} {mg : PySem.Str → Option Value} {base : Heap} {N ps : List PySem.Str} {k : Nat} {C fI cc cda : Addr} {name qual : PySem.Str} {params : Arguments} {scope : Scope} {rest : List Stmt} {text : PySem.Str} {p0 p1 p2 p3 p4 pc : Pos} {j : Nat}
  {dV kV doc pm ct oc : Value} {an od : Option Addr} {osl : Array (Option Value)} {ar : Arg} {sp : Sp}
theorem ok_er (T : SupF K P C cc cda)
    (lk : K.lookup fI = some ⟨oc, od, .func (fnX name qual params (suB text j p0 p1 p2 p3 p4 pc rest) scope [("__class__", cc)] dV kV doc pm an (.ref cda) ct), osl⟩)
    (hcd : codeIn K (.ref cda) qual = true) (S : NScope N ps ["__class__"] scope) (hpar : (params.posonlyargs ++ params.args).head? = some ar) (hps : ps.head? = some ar.arg)
    (hks : scope.names.lookup ("super" : PySem.Str) = some .globalImplicit) (hms : mg "super" = none)
    (hi : ∀ L, interactive (envF (erF name qual params (suB text j p0 p1 p2 p3 p4 pc rest) scope cc cda) fI L) = false)
    (hsw : ∀ L, swapsWith (.Call (.Attribute (.Call (.Name "super" p0) [] [] p1) "__init__" p2) [.Constant (.str text) j pc] [] p3) none p4.line (envF (erF name qual params (suB text j p0 p1 p2 p3 p4 pc rest) scope cc cda) fI L) = pure false)
    (hev : ∀ L, ∃ pl : Sem Bool, eval (.Call (.Attribute (.Call (.Name "super" p0) [] [] p1) "__init__" p2) [.Constant (.str text) j pc] [] p3) (envF (erF name qual params (suB text j p0 p1 p2 p3 p4 pc rest) scope cc cda) fI L) = (do
      let ov ← attributeBase (.Call (.Name "super" p0) [] [] p1) "__init__" (envF (erF name qual params (suB text j p0 p1 p2 p3 p4 pc rest) scope cc cda) fI L) (eval (.Call (.Name "super" p0) [] [] p1) (envF (erF name qual params (suB text j p0 p1 p2 p3 p4 pc rest) scope cc cda) fI L))
      standAt p2.atName
      let (f, first) ← holding [ov] (getMethod ov "__init__" pl)
      callWith p3 f first (backTo p3 (starEach [.Constant (.str text) j pc] (envF (erF name qual params (suB text j p0 p1 p2 p3 p4 pc rest) scope cc cda) fI L))) []))
    (len : ∀ vs H Q E, sp vs H Q E → vs.length = ps.length)
    (hbody : ∀ (A : Around) (outer : List Env) (s : Shared) (H : Hp) (vs : List V) (Q : VK) (E : XK), Room k (A.deeper (envF (erF name qual params (suB text j p0 p1 p2 p3 p4 pc rest) scope cc cda) fI s.heap.objs.size)) → sp vs H Q E →
      ∃ t, PSs (ncx CX P w K mg base N (erF name qual params (suB text j p0 p1 p2 p3 p4 pc rest) scope cc cda) fI A outer s H E) rest t ∧ ∃ x ws, vs = .ref x :: ws ∧ H x = some (exo x C none) ∧ t { nx := fun _ H' => Q .non H', rt := Q } (startF N vs [none]) H) :
    FnOk P w K mg base CX (k + 1) fI (fnX name qual params (suB text j p0 p1 p2 p3 p4 pc rest) scope [("__class__", cc)] dV kV doc pm an (.ref cda) ct) ps sp := by
  refine ⟨len, fun A outer s H args us vs Q E hr e0 hb r hsp => ?_⟩
  obtain ⟨cl, cld, csl, hcell⟩ := T.cell
  obtain ⟨ccl, cdd, vv, ccs, file, tf, hcode, hvs, hfile⟩ := T.code
  have up0 : ∀ b o, base.get? b = some o → s.heap.get? b = some o := fun b o z => (e0.bs b o z).1
  have KX : K.In s.heap := e0.mod.kin.keeps up0
  have hl := len _ _ _ _ hsp
  have lim : s.heap.NoLimit := e0.mod.nolimit.keeps up0
  have CA : CellsAt (erF name qual params (suB text j p0 p1 p2 p3 p4 pc rest) scope cc cda).cl ["__class__"] [none] s.heap H := by
    have key : ∀ {y c}, List.lookup y [(("__class__" : PySem.Str), cc)] = some c → c = cc := fun {y c} z => by
      have q1 := PySem.mem_of_lookup z
      simp only [List.mem_singleton, Prod.mk.injEq] at q1
      exact q1.2
    refine ⟨rfl, fun y c z => ?_, fun y y' c z z' => ?_, fun i y hi => ?_⟩
    · obtain rfl := key z
      exact ⟨(e0.bs _ _ (e0.mod.kin _ _ hcell)).2, some (.ref C), ⟨_, KX _ _ hcell, rfl⟩⟩
    · have q1 := mem_of_lookup z
      have q2 := mem_of_lookup z'
      simp only [List.mem_singleton, Prod.mk.injEq] at q1 q2
      rw [q1.1, q2.1]
    · cases i with
      | zero =>
        obtain rfl : "__class__" = y := Option.some.inj hi
        exact ⟨cc, rfl, fun v z => by cases z⟩
      | succ i => cases hi
  refine codeAny_call_function hr.depth (KX _ _ lk) rfl S.co S.gen rfl (codeRec_of KX hcd) (hb _ _ _ _ ?_)
  refine wpAny_newFunctionEnv S.nocell (fun ⟨n, _⟩ hy => S.par n (List.of_mem_zip hy).1) (fun h₁ hns hsb => ⟨lim.fresh _ hsb, ?_⟩) S.kind
  have kp : ∀ b o, s.heap.get? b = some o → h₁.get? b = some o := fun b o z => hsb.extBut b o (Nat.ne_of_lt (Heap.lt_size z)) (Heap.get?_push_of_some _ z)
  have lf := KX _ _ lk
  have ki := kp _ _ lf
  have K1 : K.In h₁ := KX.keeps kp
  have I0 := inv_startN (CX := CX) (E := E) (N := N) (F := erF name qual params (suB text j p0 p1 p2 p3 p4 pc rest) scope cc cda) (f := fI) (tk := s.toks + (ps.zip us).length) S hr.hd e0 hl r CA hns kp
  obtain ⟨t, ht, x, ws, rfl, hx, hq⟩ := hbody A outer s H vs Q E (hr.deeper _) hsp
  obtain ⟨nm, qn, NN, bs, bm, sn, sub, ab, col, dd, k0, k1, k2, k3, k5, hC, hbm⟩ := T.par.cls
  have hclC : clsIn K C = some { name := nm, bases := bs, mro := .ref C :: bm, ns := NN, qualname := qn, hasDict := true, slotNames := sn, subclasses := sub, abstract := ab, collection := col, hasDel := false } := by unfold clsIn; rw [hC] <;> rfl
  obtain ⟨t1, hxo⟩ := exo_at e0.hok hx
  show codeAny _ _ (.func (suB text j p0 p1 p2 p3 p4 pc rest) (envF (erF name qual params (suB text j p0 p1 p2 p3 p4 pc rest) scope cc cda) fI s.heap.objs.size)) _ _
  refine ks_codeAny_funcAt (ks_wpAt_execs_cons ?_)
  obtain ⟨pl, hpl⟩ := hev s.heap.objs.size
  have hii := hi s.heap.objs.size
  have hss := hsw s.heap.objs.size
  obtain ⟨env, henv⟩ : ∃ env, envF (erF name qual params (suB text j p0 p1 p2 p3 p4 pc rest) scope cc cda) fI s.heap.objs.size = env := ⟨_, rfl⟩
  rw [henv] at hpl hii hss
  rw [henv]
  refine ks_wpAt_Expr_any (ks_wpAt_MethodCall (he := hpl) ?_) hii hss
  subst henv
  refine ks_wpAt_super_base (f := fI) (cc := cda) hks (S.frk _ (List.mem_singleton.mpr rfl)) rfl rfl ki rfl hpar rfl (K1 _ _ hcode) rfl hvs hfile T.top ?_
  obtain ⟨mb, hb1, hb2⟩ := e0.mod.blt
  have up1 : ∀ b o, base.get? b = some o → h₁.get? b = some o := fun b o z => kp _ _ (up0 _ _ z)
  refine ks_loadName_global S.kind hks (loadGlobal_builtin (e0.mod.glob.keeps up1) hms (hb1.keeps up1) ((hb2 "super" (by decide)).trans (by decide +kernel)) ⟨rfl, ?_⟩)
  refine wpAny_loadName_free S.kind (S.frk _ (List.mem_singleton.mpr rfl)) rfl ⟨_, K1 _ _ hcell, rfl⟩ ?_
  cases r with
  | @cons _ u0 _ us' ra rw' =>
  obtain rfl : u0 = Value.ref x := ra
  have hpn : ps.Nodup := by
    have q := S.nd.sublist (List.take_sublist (ps.length + 1) N)
    have e := S.pre
    rw [show (["__class__"] : List PySem.Str).length = 1 from rfl] at e
    rw [e] at q
    exact (List.nodup_append.mp q).1
  have hp0 : ps[0]? = some ar.arg := by rw [← List.head?_eq_getElem?]; exact hps
  refine wpAny_loadName_local S.kind (S.par _ (List.mem_of_getElem? hp0)) hns (zip_look (i := 0) hpn hp0 rfl) ?_
  have hx1 := kp _ _ hxo
  have hC1 := K1 _ _ hC
  refine ks_wpAny_isType_cls hC1 rfl ⟨rfl, ?_⟩
  have hxC : x ≠ C := fun z => by rw [z, hC1] at hx1; cases hx1
  refine ks_wpAny_call_super hC1 rfl hx1 rfl (fun c z => by cases z) (looks_mroIn K1 T.own) fun h2 e2 k2' => ?_
  have K2 : K.In h2 := K1.keeps k2'
  have hx2 := k2' _ _ hx1
  have hsup := T.sup
  unfold ks_superIn at hsup
  rw [hclC] at hsup
  refine kxs_getMethod kxs_ValueError e2 (looks_opaque K2 T.opq) ((looks_clsIn K2 hclC).andThen .now) rfl K2 hsup (InstAt.type (C := C) (od := none) ⟨hx2, rfl, rfl, trivial⟩ |>.andThen (looks_subIn K2 T.sub)) hxC rfl ?_
  have k3' : ∀ b o, h₁.get? b = some o → (h2.push (kxs_mw "ValueError.__init__" x)).get? b = some o := fun b o z => Heap.get?_push_of_some _ (k2' _ _ z)
  have hu3 : (h2.push (kxs_mw "ValueError.__init__" x)).get? h2.objs.size = some (kxs_mw "ValueError.__init__" x) := Heap.get?_push_at rfl rfl
  generalize h2.push (kxs_mw "ValueError.__init__" x) = h3 at *
  have hx3 := k3' _ _ hx1
  have hC3 := k3' _ _ hC1
  refine kxs_callWith (i := "ValueError.__init__") (x := x) rfl (evalArgs_plain (spliced_more (Calls.Constant_str (spliced_none ⟨hu3, ?_⟩))))
  refine call_mw hC3 hx3 hu3 (by show (1 : Nat) ≤ 16777216; decide) fun h4 t4 k4 hx4 => ?_
  have I4 := (I0.kept (t' := s.toks) (h' := h3) k3').write (t' := s.toks) (x := x) (e := x) (o := exo x C none) (h' := h4) (by rw [hx]; exact True.intro) (.inl rfl) k4 ⟨_, hx4⟩ (exo_ok hx4)
  have eu : upd H x (exo x C none) = H := by
    funext b
    by_cases hb : b = x
    · rw [hb, upd_same, hx]
    · rw [upd_ne hb]
  rw [eu] at I4
  refine wpAt_of_wpAny ?_
  have I5 := I4.tok (s.toks + (ps.zip (Value.ref x :: us')).length + 1 + 1)
  refine wpAny_mono (ht.run [] _ (startF N (.ref x :: ws) [none]) H _ I5 hq) (fun fl s' hs => ?_) fun e s' hs => hs
  have fin : ∀ {σ' : L2.St} {H' : Hp} {v : V} {u : Value}, Inv (ncx CX P w K mg base N (erF name qual params (suB text j p0 p1 p2 p3 p4 pc rest) scope cc cda) fI A outer s H E) [] σ' H' s' → L2.RelV v u → Q v H' → CE outer P w H s Q u s' :=
    fun {σ' H' v u} J rv q => ⟨v, H', J.os, J.bare, J.base, J.hok, rv, q⟩
  cases fl with
  | ret u =>
    obtain ⟨v, σ', H', J, rv, q⟩ := hs
    exact fin J rv q
  | next =>
    obtain ⟨σ', H', J, q⟩ := hs
    exact fin (v := V.non) (u := Value.none) J rfl q
  | brk =>
    obtain ⟨_, _, _, q⟩ := hs
    exact False.elim q
  | cont =>
    obtain ⟨_, _, _, q⟩ := hs
    exact False.elim q
end
end Tw
/-! Tw: own errors over ValueError: facts by Bools, the raise of one -/
namespace Tw
open PySem PySem.Spec PyProof.Rows L2 He PySem.W PySem.Calls NdefX
/-! ### what the written part says -/
def clsE (K : Frag) (C : Addr) : Bool := match K.lookup C with
  | some ⟨.type t, _, .cls cd, sl⟩ => decide (t = "type") && (match cd.mro, sl.toList with
    | .ref D :: bm, [_, _, _, _, some (.builtin n), _] => decide (D = C) && (decide (n = "ValueError.__new__") && (!cd.hasDel && (cd.hasDict && HandSPX.refsVE bm)))
    | _, _ => false)
  | _ => false
theorem clsE_ok {K : Frag} {C : Addr} (h : clsE K C = true) : ∃ nm q N bs bm sn sub ab col dd k0 k1 k2 k3 k5, K.lookup C = some (excClassObj nm q C N bs bm true sn sub ab col dd k0 k1 k2 k3 k5 "ValueError.__new__") ∧ HandSPX.refsVE bm = true := by
  unfold clsE at h
  split at h
  · rename_i t dd cd sl ho
    obtain ⟨h1, h2⟩ := ba h
    obtain rfl := of_decide_eq_true h1
    split at h2
    · rename_i D bm k0 k1 k2 k3 n k5 hm hs
      obtain ⟨a1, h2⟩ := ba h2
      obtain ⟨a2, h2⟩ := ba h2
      obtain ⟨a3, h2⟩ := ba h2
      obtain ⟨a4, a5⟩ := ba h2
      obtain rfl := of_decide_eq_true a1
      obtain rfl := of_decide_eq_true a2
      obtain ⟨nm, bs, mro, ns, qn, hd, sn, sub, ab, col, del⟩ := cd
      dsimp only at hm a3 a4
      subst hm
      subst a4
      have hdel : del = false := by simpa using a3
      subst hdel
      have hsl : sl = #[k0, k1, k2, k3, some (.builtin "ValueError.__new__"), k5] := Array.toList_inj.mp hs
      subst hsl
      exact ⟨nm, qn, ns, bs, bm, sn, sub, ab, col, dd, k0, k1, k2, k3, k5, ho, a5⟩
    · cases h2
  · cases h
def celA (K : Frag) (f : Addr) : Addr := match K.lookup f with
  | some ⟨_, _, .func fd, _⟩ => (match fd.closure with
    | [(_, c)] => c
    | _ => 0)
  | _ => 0
def codA (K : Frag) (f : Addr) : Addr := match K.lookup f with
  | some ⟨_, _, .func fd, _⟩ => (match fd.code with
    | .ref c => c
    | _ => 0)
  | _ => 0
def tbA (K : Frag) (f : Addr) : Addr := match K.lookup (codA K f) with
  | some ⟨_, _, .fields vs, _⟩ => (match (vs[11]? : Option Value) with
    | some (.ref p) => p
    | _ => 0)
  | _ => 0
def fnC (K : Frag) (a : Addr) : FnW := match K.lookup a with
  | some ⟨_, _, .func fd, _⟩ => some (fd.name, fd.qualname, fd.params, fd.body, fd.scope, fd.globals, [], fd.builtins)
  | _ => none
def fnE (K : Frag) (C f : Addr) (file qual : PySem.Str) : Bool := keepIn K (.ref f) && match K.lookup f with
  | some ⟨_, _, .func fd, _⟩ => decide (fd.closure = [(("__class__" : PySem.Str), celA K f)]) && (decide (fd.code = .ref (codA K f)) && (codeIn K fd.code qual && (decide (fd.defaults = .none) && ((match K.lookup (celA K f) with
    | some ⟨_, _, .cell (some (.ref D)), _⟩ => decide (D = C)
    | _ => false) && (match K.lookup (codA K f) with
    | some ⟨_, _, .fields vs, _⟩ => (match (vs[2]? : Option Value) with
      | some (.str y _) => file == y
      | _ => false)
    | _ => false)))))
  | _ => false
theorem fnE_ok {K : Frag} {C f : Addr} {file qual name : PySem.Str} {params : Arguments} {body : List Stmt} {scope : Scope} (h : fnE K C f file qual = true) (e : fnC K f = some (name, qual, params, .stmts body, scope, mainGlobals, [], builtinsNs)) :
    (∃ (oc : Value) (od : Option Addr) (kV doc pm ct : Value) (an : Option Addr) (osl : Array (Option Value)), K.lookup f = some ⟨oc, od, .func (fnX name qual params body scope [(("__class__" : PySem.Str), celA K f)] .none kV doc pm an (.ref (codA K f)) ct), osl⟩) ∧
    codeIn K (.ref (codA K f)) qual = true ∧ keepIn K (.ref f) = true ∧ (∃ cl cld csl, K.lookup (celA K f) = some ⟨cl, cld, .cell (some (.ref C)), csl⟩) ∧
    ∃ ccl cdd vs ccs y tf, K.lookup (codA K f) = some ⟨ccl, cdd, .fields vs, ccs⟩ ∧ vs[2]? = some (.str y tf) ∧ (file == y) = true := by
  obtain ⟨kp, h⟩ := ba h
  unfold fnC at e
  cases q : K.lookup f with
  | none =>
    rw [q] at h
    cases h
  | some o =>
    obtain ⟨oc, od, dt, osl⟩ := o
    rw [q] at h e
    cases dt with
    | func fd =>
      dsimp only at h e
      obtain ⟨h1, h⟩ := ba h
      obtain ⟨h2, h⟩ := ba h
      obtain ⟨h3, h⟩ := ba h
      obtain ⟨h4, h⟩ := ba h
      obtain ⟨h5, h6⟩ := ba h
      replace h1 := of_decide_eq_true h1
      replace h2 := of_decide_eq_true h2
      have g4 : fd.defaults = .none := by simpa using h4
      simp only [Option.some.injEq, Prod.mk.injEq] at e
      obtain ⟨e1, e2, e3, e4, e5, e6, _, e8⟩ := e
      obtain ⟨n1, n2, n3, n4, n5, n6, n7, n8, n9, n10, n11, n12, n13, n14, n15⟩ := fd
      dsimp only at h1 h2 h3 g4 e1 e2 e3 e4 e5 e6 e8
      clear h4
      subst e1 e2 e3 e4 e5 e6 e8 g4
      rw [h2] at h3
      rw [h1, h2]
      refine ⟨⟨oc, od, _, _, _, _, _, osl, rfl⟩, h3, kp, ?_, ?_⟩
      · split at h5
        · rename_i a b D d hl
          obtain rfl := of_decide_eq_true h5
          exact ⟨_, _, _, hl⟩
        · cases h5
      · split at h6
        · rename_i a b vs d hl
          split at h6
          · rename_i y tf hv
            exact ⟨_, _, _, _, _, _, hl, hv, h6⟩
          · cases h6
        · cases h6
    | _ => cases h
def bErr (x fld file qual : PySem.Str) (K : Frag) : Bool := clsE K (ga K x) && (fnE K (ga K x) (ma K (ga K x) "__init__") file qual && (eqO (findIn K (.ref (ga K x)) "__init__") (some (some (.ref (ma K (ga K x) "__init__")))) &&
  (eqO (findIn K (.ref (ga K x)) "__setattr__") (some (some (.builtin "object.__setattr__"))) && (eqO (findIn K (.ref (ga K x)) fld) (some none) && (eqO (nsIn K cStatics "thirdparty.any") (some none) &&
  (eqO (ks_superIn K (ga K x) (ga K x) "__init__") (some (some (.builtin "ValueError.__init__"))) && (decide (subIn K (.ref (ga K x)) (.type "ValueError") = some true) && (decide (mroIn K (ga K x) (.ref (ga K x)) = some true) &&
  (decide (subIn K (.ref (ga K x)) (.type "BaseException") = some true) && (decide (typeIn K (.ref (ga K x)) = some (.type "type")) && (keepIn K (.ref (ga K x)) && (decide (typeIn K (.ref (ma K (ga K x) "__init__")) = some (.type "function")) &&
  (eqO (findIn K (.ref (ga K x)) "__getattribute__") (some (some (.builtin "BaseException.__getattribute__"))) && (eqO (findIn K (.ref (ga K x)) "__getattr__") (some none) && hasDictIn K (ga K x)))))))))))))))
structure ErrF (K : Frag) (x fld file qual : PySem.Str) : Prop where
  oex : OexC K (ga K x)
  fn : fnE K (ga K x) (ma K (ga K x) "__init__") file qual = true
  ini : findIn K (.ref (ga K x)) "__init__" = some (some (.ref (ma K (ga K x) "__init__")))
  no : findIn K (.ref (ga K x)) fld = some none
  opq : nsIn K cStatics "thirdparty.any" = some none
  sup : ks_superIn K (ga K x) (ga K x) "__init__" = some (some (.builtin "ValueError.__init__"))
  sub : subIn K (.ref (ga K x)) (.type "ValueError") = some true
  own : mroIn K (ga K x) (.ref (ga K x)) = some true
  tfn : typeIn K (.ref (ma K (ga K x) "__init__")) = some (.type "function")
  xf : XfC K (ga K x)
theorem err_ok {x fld file qual : PySem.Str} {K : Frag} (h : bErr x fld file qual K = true) : ErrF K x fld file qual := by
  obtain ⟨h1, h⟩ := ba h
  obtain ⟨h2, h⟩ := ba h
  obtain ⟨h3, h⟩ := ba h
  obtain ⟨h4, h⟩ := ba h
  obtain ⟨h5, h⟩ := ba h
  obtain ⟨h6, h⟩ := ba h
  obtain ⟨h7, h⟩ := ba h
  obtain ⟨h8, h⟩ := ba h
  obtain ⟨h9, h⟩ := ba h
  obtain ⟨h10, h⟩ := ba h
  obtain ⟨h11, h⟩ := ba h
  obtain ⟨h12, h⟩ := ba h
  obtain ⟨h13, h⟩ := ba h
  obtain ⟨h14, h⟩ := ba h
  obtain ⟨h15, h16⟩ := ba h
  exact ⟨⟨clsE_ok h1, eqO_ok h4, of_decide_eq_true h10, of_decide_eq_true h11, h12⟩, h2, eqO_ok h3, eqO_ok h5, eqO_ok h6, eqO_ok h7, of_decide_eq_true h8, of_decide_eq_true h9, of_decide_eq_true h13,
    ⟨eqO_ok h14, eqO_ok h15, of_decide_eq_true h10, h16⟩⟩
end Tw
/-! Tw: the Hook of a law with own errors and with tables of codes -/
namespace Tw
open PySem PySem.Spec PyProof.Rows L2 He PySem.W
structure ErA where
  cls : PySem.Str
  name : PySem.Str
  qual : PySem.Str
  params : Arguments
  body : List Stmt
  scope : Scope
def ErA.val (d : ErA) : FnW := some (d.name, d.qual, d.params, .stmts d.body, d.scope, mainGlobals, [], builtinsNs)
def ErA.got (K : Frag) (d : ErA) : FnW := fnC K (ma K (ga K d.cls) "__init__")
abbrev tab0 : Obj := { cls := .none, data := .fields #[] }
abbrev AlE : Type := AlM × (List FnW × List (Option Obj))
def obsE (as : List Addr) (fa : List Fa) (fb : List (Frag → Bool)) (fn : List He5.DefA) (er : List ErA) (ts : List He.Tab) (tb : List Addr) (g : Addr → Option Obj) : AlE := (obsM fa fb fn ts (frG g as), er.map (ErA.got (frG g as)), tb.map g)
def valE (fn : List He5.DefA) (er : List ErA) (ts : List He.Tab) (tb : List Addr) (w : World) : AlE := (valM fn ts w, er.map ErA.val, tb.map fun _ => some tab0)
structure SaysE (fa : List Fa) (fb : List (Frag → Bool)) (fn : List He5.DefA) (er : List ErA) (ts : List He.Tab) (w : World) (K : Frag) : Prop where
  m : SaysM fa fb fn ts w K
  e : ∀ d ∈ er, d.got K = d.val
def hookE (as : List Addr) (fa : List Fa) (fb : List (Frag → Bool)) (fn : List He5.DefA) (er : List ErA) (ts : List He.Tab) (tb : List Addr) : Hook where
  α := AlE
  obs := fun s => obsE as fa fb fn er ts tb s.heap.get?
  val := fun w => valE fn er ts tb w
  says := fun w h => ∃ K : Frag, K.In h ∧ SaysE fa fb fn er ts w K ∧ ∀ p ∈ tb, h.get? p = some tab0
  of := fun w s e => by
    have h1 : obsM fa fb fn ts (frG s.heap.get? as) = valM fn ts w := congrArg (fun z : AlE => z.1) e
    have h2 : er.map (ErA.got (frG s.heap.get? as)) = er.map ErA.val := congrArg (fun z : AlE => z.2.1) e
    have h3 : tb.map s.heap.get? = tb.map fun _ => some tab0 := congrArg (fun z : AlE => z.2.2) e
    exact ⟨_, frG_in, ⟨h1, fun d hd => List.map_inj_left.mp h2 d hd⟩, fun p hp => List.map_inj_left.mp h3 p hp⟩
  keeps := fun _ _ _ ⟨K, hK, c, t⟩ k => ⟨K, Frag.In.keeps hK k, c, fun p hp => k _ _ (t p hp)⟩
theorem obsE_eq {as : List Addr} {fa : List Fa} {fb : List (Frag → Bool)} {fn : List He5.DefA} {er : List ErA} {ts : List He.Tab} {tb : List Addr} {g : Addr → Option Obj} {s : Shared} (h : ∀ a, g a = s.heap.get? a) : obsE as fa fb fn er ts tb g = (hookE as fa fb fn er ts tb).obs s := by
  rw [show g = s.heap.get? from funext h]
  rfl
section
variable {fa : List Fa} {fb : List (Frag → Bool)} {fn : List He5.DefA} {er : List ErA} {ts : List He.Tab} {w : World} {K : Frag}
theorem SaysE.err (c : SaysE fa fb fn er ts w K) (i : Nat) {d : ErA} (h : er[i]? = some d := by rfl) : fnC K (ma K (ga K d.cls) "__init__") = d.val := c.e d (List.mem_of_getElem? h)
end
def bOff (p : Addr) (K : Frag) : Bool := (K.lookup p).isNone
end Tw
/-! Tw: own errors over ValueError: their making and their raise -/
namespace Tw
open PySem PySem.Spec PyProof.Rows L2 He PySem.W PySem.Calls NdefX
def sp_er (K : Frag) (C : Addr) (fld : PySem.Str) : Sp := fun vs H Q _ => ∃ (x : Addr) (y : V), vs = [.ref x, y] ∧ H x = some (exo x C none) ∧ ∀ dx, H dx = none → dx ≠ x → Q .non (upd (upd H dx (exd dx [(fld, y)])) x (exo x C (some dx)))
abbrev erB (text : PySem.Str) (j : Nat) (p0 p1 p2 p3 p4 pc q1 q2 q3 q4 : Pos) (fld par : PySem.Str) : List Stmt := suB text j p0 p1 p2 p3 p4 pc [.Assign [.Attribute (.Name "self" q1) fld q2] (.Name par q3) q4]
section
variable {CX : CXT} {P : Program} {w : World} {K : Frag} {mg : PySem.Str → Option Value} {base : Heap} {x fld par file qual name text : PySem.Str} {j : Nat} {p0 p1 p2 p3 p4 pc q1 q2 q3 q4 : Pos} {params : Arguments} {scope : Scope} {ar : Arg}
end
def tErr (C : Addr) (fld : PySem.Str) (te : TE) : L2.St → Hp → XK → Prop := fun σ H Q => te σ H fun y H1 => ∀ d, H1 d = none → Q (.ref C) (some d) (upd H1 d (.xd [(fld, y)]))
def tRz (E : XK) (C : Addr) (f : PySem.Str) (te : TE) : TS := fun _ σ H => tErr C f te σ H fun cls d H' => E cls d H'
section
variable {X : Cx} {CX : CXT} {cx fld : PySem.Str} {C fI : Addr} {k : Nat} {fd : FuncData} {ps : List PySem.Str} {e : Expr} {te : TE} {p pos : Pos}
theorem PMk.imp {t t' : L2.St → Hp → XK → Prop} (h : PMk X e t) (i : ∀ σ H Q, t' σ H Q → t σ H Q) : PMk X e t' := fun pins s σ H Q I q => h pins s σ H Q I (i _ _ _ q)
theorem pe_mono (he : PE X e te) : PE X e (fun σ H k => ∃ Q0 : VK, te σ H Q0 ∧ ∀ y H1, Q0 y H1 → k y H1) := ⟨fun pins s σ H Q I ⟨Q0, h, i⟩ => thn (he.run pins s σ H Q0 I h) fun v s1 ⟨y, H1, I1, r1, q1⟩ => ⟨y, H1, I1, r1, i _ _ q1⟩⟩
end
end Tw
/-! Tw: own errors over any built-in error class -/
namespace Tw
open PySem Builtin Builtin.ObjectAttr
structure BaseD where
  cl : String
  nw : String
  it : String
  bm : List Value
structure BaseF (b : BaseD) : Prop where
  xb : ExcBaseFacts b.cl b.nw b.it b.bm
  kx : PySem.W.KxsFacts b.cl b.it
  pas : ∀ self : Value, refuseLoop self "__setattr__" b.bm = pure ()
  ob : b.bm.contains (.type "object") = true
  ne : b.bm.isEmpty = false
def dOE : BaseD := ⟨"OverflowError", "OverflowError.__new__", "OverflowError.__init__", [.type "OverflowError", .type "ArithmeticError", .type "Exception", .type "BaseException", .type "object"]⟩
theorem bfOE : BaseF dOE := ⟨PySem.F.excBase_OverflowError, PySem.W.kxs_OverflowError, PySem.F.store_OverflowError.passes, by decide +kernel, rfl⟩
def ovB (bm : List Value) : List Value → Bool
  | .ref c :: r => (Value.ref c :: r == bm) || ovB bm r
  | l => l == bm
theorem ovB_cases {bm : List Value} : ∀ l : List Value, ovB bm l = true → l = bm ∨ ∃ c r, l = .ref c :: r ∧ ovB bm r = true := by
  intro l h
  unfold ovB at h
  split at h
  · rcases Bool.or_eq_true_iff.mp h with z | z
    · exact .inl (beq_iff_eq.mp z)
    · exact .inr ⟨_, _, rfl, z⟩
  · exact .inl (beq_iff_eq.mp h)
theorem ovB_pass {b : BaseD} (F : BaseF b) (self : Value) : ∀ l : List Value, ovB b.bm l = true → refuseLoop self "__setattr__" l = pure ()
  | [], h => by
    rcases ovB_cases [] h with z | ⟨_, _, z, _⟩
    · rw [z]; exact F.pas self
    · cases z
  | a :: r, h => by
    rcases ovB_cases (a :: r) h with z | ⟨c, r', z, hr⟩
    · rw [z]; exact F.pas self
    · injection z with z1 z2
      subst z1 z2
      rw [refuseLoop_ref]
      exact ovB_pass F self r hr
theorem ovB_has {bm : List Value} (T : String) : ∀ l : List Value, ovB bm l = true → l.contains (.type T) = bm.contains (.type T)
  | [], h => by
    rcases ovB_cases [] h with z | ⟨_, _, z, _⟩
    · rw [z]
    · cases z
  | a :: r, h => by
    rcases ovB_cases (a :: r) h with z | ⟨c, r', z, hr⟩
    · rw [z]
    · injection z with z1 z2
      subst z1 z2
      rw [List.contains_cons, ovB_has T r hr]
      rfl
theorem ovB_ne {b : BaseD} (F : BaseF b) {l : List Value} (h : ovB b.bm l = true) : l.isEmpty = false := by
  rcases ovB_cases l h with z | ⟨c, r', z, _⟩
  · rw [z]; exact F.ne
  · rw [z]; rfl
end Tw
namespace Tw
open PySem PySem.HandSPX PySem.W PySem.Calls PyProof.Rows Builtin Builtin.ObjectAttr
section
variable {prog : Program} {w : World} {A : Around} {R : Result → Shared → Prop} {he : Heap} {gs : Array GenState} {dr : Drawn} {tn : Nat} {os : OsState}
theorem osaB {b : BaseD} (BF : BaseF b) {K : W.Frag} {fname : PySem.Str} {tk : Tok} {val : Value} {xa C : Addr} {flds : Array Value} {cda : ClassData}
    (KI : K.In he) (ex : he.get? xa = some { cls := .ref C, data := .fields flds }) (ecd : W.clsIn K C = some cda) (eov : ovB b.bm cda.mro = true) (edct : cda.hasDict = true) (enon : W.findIn K (.ref C) fname = some none)
    (fin : ∀ h2 tk2 da, (∀ p o, p ≠ xa → he.get? p = some o → h2.get? p = some o) → he.objs.size ≤ da → da ≠ xa → h2.get? xa = some { cls := .ref C, dict := some da, data := .fields flds } →
      h2.Ns1 da (fun y => if y = fname then some val else none) → R (.ok (.ret .none)) ⟨h2, gs, dr, tk2, os⟩) :
    codeAny (model prog w) A (.call (.builtin "object.__setattr__") ⟨[.ref xa, .str fname tk, val], []⟩) R ⟨he, gs, dr, tn, os⟩ := by
  have IA : W.InstAt he xa { cls := .ref C, data := .fields flds } C none := ⟨ex, rfl, rfl, trivial⟩
  have SO := F.store_object
  have nonE := ovB_ne BF eov
  have hasO : cda.mro.contains (.type "object") = true := (ovB_has "object" _ eov).trans BF.ob
  have apart : xa ≠ he.objs.size := Nat.ne_of_lt (Heap.lt_size ex)
  have isO : W.Looks (model prog w) he (isInstance (.ref xa) (.type "object")) true := IA.type.andThen (W.looks_mroIn KI (by unfold W.mroIn; rw [ecd, Option.bind_some, if_neg (by rw [nonE]; decide), hasO]))
  refine codeAny_call_builtin SO.slot.plain SO.entry (@W.check_slot (model prog w) _ _ ⟨he, gs, dr, tn, os⟩ "object.__setattr__" "object" "__setattr__" (.ref xa) [.str fname tk, val] [] _ SO.kind SO.split isO (SO.args (.ref xa) (.str fname tk) val) ?_)
  have lkM : W.Looks (model prog w) he (mroOf (.ref C)) cda.mro := (W.looks_clsIn KI ecd).andThen .now
  have lkT : W.Looks (model prog w) he (storeTaker? none) none := .now
  have lkC : W.Looks (model prog w) he (classData C) cda := W.looks_clsIn KI ecd
  rw [W.osa_eq, refuse_eq]
  refine wpAny_bind (wpAny_bind (IA.type.at (wpAny_bind (lkM.at ?_))))
  rw [ovB_pass BF _ _ eov]
  refine wpAny_pure (wpAny_bind (IA.type.at (wpAny_bind ((W.looks_findIn KI enon).at (wpAny_bind (lkT.at ?_))))))
  show wpAny _ _ (storeInOwnDict (.ref xa) (.ref C) (.str fname tk) fname val false) _ _ _
  obtain ⟨c1, c2, c3, c4, c5, c6, c7, c8, c9, c10, c11⟩ := cda
  dsimp only at edct
  subst edct
  unfold storeInOwnDict ownDictForStores
  repeat (first | with_reducible refine store_in_new ?_ ?_ | with_reducible refine wpAny_loadPart_at ex ?_ | with_reducible refine lkC.at ?_ | wp_step)
  · exact ⟨_, #[], _, (Heap.get?_update_ne _ _ _ _ apart.symm).trans (Heap.get?_push_at rfl rfl), rfl, fun e z => absurd z (by simp), fun _ => rfl⟩
  · intro h2 tk2 ns2 same
    have ex1 : (he.push { cls := .type "dict", data := .dict #[] }).get? xa = some { cls := .ref C, data := .fields flds } := Heap.get?_push_of_some _ ex
    refine fin h2 tk2 he.objs.size (fun p o pn po => ?_) (Nat.le_refl _) apart.symm ?_ ns2
    · have z1 := same.2 p (Nat.ne_of_lt (Heap.lt_size po))
      exact z1.trans ((Heap.get?_update_ne _ _ _ _ pn).trans (Heap.get?_push_of_some _ po))
    · have z2 := same.2 xa apart
      exact z2.trans (Heap.get?_update_self _ ex1 rfl)
end
end Tw
namespace Tw
open PySem PySem.Spec PyProof.Rows L2
structure OexB (b : BaseD) (K : PySem.W.Frag) (C : Addr) : Prop where
  bf : BaseF b
  cls : ∃ c1 c2 c3 c4 tl c5 c6 c7 c8 c9 j0 j1 j2 j3 j5, K.lookup C = some (excClassObj c1 c2 C c3 c4 tl true c5 c6 c7 c8 c9 j0 j1 j2 j3 j5 b.nw) ∧ ovB b.bm tl = true
  sat : PySem.W.findIn K (.ref C) "__setattr__" = some (some (.builtin "object.__setattr__"))
  exb : PySem.W.subIn K (.ref C) (.type "BaseException") = some true
  typ : PySem.W.typeIn K (.ref C) = some (.type "type")
  kpt : PySem.W.keepIn K (.ref C) = true
section
variable {X : Cx} {pins : List (Addr × Obj)} {σ : L2.St} {H : Hp} {sh : Shared} {ea C : Addr} {fn : PySem.Str} {val : V} {uv : Value} {Q : Unit → Shared → Prop} {E : Value → Shared → Prop} {A : Around} {b : BaseD}
theorem ost_B (T : OexB b X.K C) (I : Inv X pins σ H sh) (at_ : H ea = some (exo ea C none)) (non : PySem.W.findIn X.K (.ref C) fn = some none) (rel : L2.RelV val uv)
    (fin : ∀ da s2, H da = none → da ≠ ea → Inv X pins σ (upd (upd H da (exd da [(fn, val)])) ea (exo ea C (some da))) s2 → Q () s2) : wpAny (model X.prog X.w) A (setAttr (.ref ea) fn uv) Q E sh := by
  obtain ⟨c1, c2, c3, c4, tl, c5, c6, c7, c8, c9, j0, j1, j2, j3, j5, lk, ov⟩ := T.cls
  have ecd : PySem.W.clsIn X.K C = some { name := c1, bases := c4, mro := .ref C :: tl, ns := c3, qualname := c2, hasDict := true, slotNames := c5, subclasses := c6, abstract := c7, collection := c8, hasDel := false } := by unfold PySem.W.clsIn; rw [lk] <;> rfl
  obtain ⟨ta, ho⟩ := exo_at I.hok at_
  obtain ⟨hv, gs, dr, tn, os⟩ := sh
  refine PySem.W.set_plain I.kIn (ox := { cls := .ref C, dict := none, data := .fields #[.ref ta, .none, .none, .none, .bool false, .none] }) (od := none) ⟨ho, rfl, rfl, trivial⟩ T.sat ?_
  have ov2 : ovB b.bm (.ref C :: tl) = true := by
    show ((Value.ref C :: tl == b.bm) || ovB b.bm tl) = true
    rw [ov, Bool.or_true]
  refine osaB T.bf I.kIn ho ecd ov2 rfl non (fun h2 tk2 da keep fresh dne got nsd => ?_)
  have nod : H da = none := I.hok.fresh fresh
  have old : ∀ {p : Addr} {o : Obj}, hv.get? p = some o → p ≠ da := fun {p o} z => Nat.ne_of_lt (Nat.lt_of_lt_of_le (Heap.lt_size z) fresh)
  have nea : ∀ {p : Addr}, H p = none → p ≠ ea := fun {p} n z => by
    rw [z, at_] at n
    cases n
  have U1 : Un X.fs [] H (upd (upd H da (exd da [(fn, val)])) ea (exo ea C (some da))) hv h2 := {
    keep := fun p o z n _ _ => keep p o (nea n) z
    slot := fun p o z n _ _ => ⟨o.slots, keep p o (nea n) z⟩
    free := fun p o z n _ => by rw [upd_ne (nea n), upd_ne (old z)]; exact n
    there := fun p o z _ => by
      by_cases hp : p = ea
      · exact ⟨_, by rw [hp]; exact got⟩
      · exact ⟨o, keep p o hp z⟩
    tups := fun p xs z => by rw [upd_ne (at_ne at_ z exo_tup), upd_ne (ne_of_none z nod)]; exact z
    frzs := fun p o v z => by rw [upd_ne (at_ne at_ z exo_frz), upd_ne (ne_of_none z nod)]; exact z
    tbls := fun p ps z => ⟨#[], by rw [upd_ne (at_ne at_ z exo_tbl), upd_ne (ne_of_none z nod), z]; simp⟩ }
  refine fin da _ nod dne (I.un (t' := tk2) U1 fun p o z => ?_)
  by_cases hp : p = ea
  · subst hp
    rw [upd_same] at z
    cases z
    exact exo_ok got
  · rw [upd_ne hp] at z
    by_cases hd : p = da
    · subst hd
      rw [upd_same] at z
      cases z
      exact exd_ok nsd (relO_put (fs := []) rel fun g => True.intro)
    · rw [upd_ne hd] at z
      refine (I.hok p o z).stay (fun c v hc y => keep c v ?_ y) (fun c hc => ?_) (fun c xs hc => ?_)
      · rcases hc with hc | hc
        · rw [hc]
          exact hp
        · exact at_ne at_ hc exo_own
      · rw [upd_ne (at_ne at_ hc exo_own), upd_ne (ne_of_none hc nod)]
        exact hc
      · rw [upd_ne (at_ne at_ hc exo_tup), upd_ne (ne_of_none hc nod)]
        exact hc
end
def tOsB (b : BaseD) (K : PySem.W.Frag) (fn : PySem.Str) (to te : TE) : TS := fun D σ H => te σ H fun y H1 => to σ H1 fun x H2 => ∃ ea C : Addr, x = .ref ea ∧ OexB b K C ∧ PySem.W.findIn K (.ref C) fn = some none ∧ H2 ea = some (exo ea C none) ∧
  ∀ da, H2 da = none → da ≠ ea → D.nx σ (upd (upd H2 da (exd da [(fn, y)])) ea (exo ea C (some da)))
section
variable {X : Cx} {o e : Expr} {es : List Expr} {to te : TE} {ta : TA} {fn : PySem.Str} {p p' pos : Pos} {b : BaseD}
theorem ps_osB (ho : PE X o to) (hv : PE X e te) (hs : swapsWith e (some (.Attribute o fn p')) pos.line X.env = pure false := by rfl) : PS X (.Assign [.Attribute o fn p'] e pos) (tOsB b X.K fn to te) := by
  refine ⟨fun pins s σ H D I h => ?_⟩
  refine plainObj_wpAny_Assign_Attribute (thn (hv.run pins s σ H _ I h) fun v s1 ⟨y, H1, I1, r1, q1⟩ => thn (ho.run pins s1 σ H1 _ I1 q1) fun u s2 ⟨x, H2, I2, r2, ea, C, ex, T, non, at_, q⟩ => ?_) hs
  subst ex
  obtain rfl : u = Value.ref ea := r2
  exact ost_B T I2 at_ non r1 fun da s' n ne J => ⟨σ, _, J, q da n ne⟩
theorem pmk_B {CX : CXT} {x : PySem.Str} {C fI : Addr} {k : Nat} {fd : FuncData} {ps : List PySem.Str} {sp : Sp} {ds : List Value} {dvs : List V} (T : OexB b X.K C) (ini : PySem.W.findIn X.K (.ref C) "__init__" = some (some (.ref fI))) (tyf : PySem.W.typeIn X.K (.ref fI) = some (.type "function"))
    (FI : FnOk X.prog X.w X.K X.mg X.base CX k fI fd ps sp) (rm : Room (k + 1) X.A) (bn : Binds X.K fd ps ds) (vd : Vals dvs ds) (pas : Passes CX X (fun _ _ _ => False)) (gx : Gl X x) (mx : X.mg x = some (.ref C)) (ha : PA X (e :: es) ta)
    (hdb : (x == ("__debug__" : PySem.Str)) = false := by decide) (he : starEach (e :: es) X.env = (false, eval e X.env) :: starEach es X.env := by rfl) (hpl : (backTo pos (starEach es X.env)).any (·.1) = false := by rfl) :
    PMk X (.Call (.Name x p) (e :: es) [] pos) (tMkO C sp dvs ta) := by
  intro pins s σ H Q I h
  obtain ⟨c1, c2, c3, c4, tl, c5, c6, c7, c8, c9, j0, j1, j2, j3, j5, lk, ov⟩ := T.cls
  refine wpAny_Call_Name_kw (ld_glob I gx mx ?_ hdb)
  refine PySem.W.callWith_K (h₀ := X.base) I.ok.mod.kin T.kpt (thn (ha.run pos pins s σ H _ I h) fun us s1 ⟨vs, H1, I1, r1, hz, q1⟩ => ⟨I1.kIn, ?_⟩) he hpl
  show wpAny _ _ (call (.ref C) us) _ _ _
  obtain ⟨hv, gs, dr, tk, os⟩ := s1
  have szl : hv.objs.size ≤ hv.objs.size + 1 := Nat.le_succ _
  have nw : H1 (hv.objs.size + 1) = none := I1.hok.fresh szl
  have wish := q1 (hv.objs.size + 1) nw
  have kept : ∀ c o, hv.get? c = some o → ((hv.push (PySem.W.kdv_tup us)).push (PySem.HandSPX.excO C hv.objs.size)).get? c = some o := fun c o z => Heap.get?_push_of_some _ (Heap.get?_push_of_some _ z)
  have there : ((hv.push (PySem.W.kdv_tup us)).push (PySem.HandSPX.excO C hv.objs.size)).get? (hv.objs.size + 1) = some (PySem.HandSPX.excO C hv.objs.size) := by heap_get
  have J2 : Inv X pins σ (upd H1 (hv.objs.size + 1) (exo (hv.objs.size + 1) C none)) ⟨(hv.push (PySem.W.kdv_tup us)).push (PySem.HandSPX.excO C hv.objs.size), gs, dr, tk, os⟩ :=
    I1.laid (t' := tk) (a := hv.objs.size + 1) (o := exo (hv.objs.size + 1) C none) (h' := (hv.push (PySem.W.kdv_tup us)).push (PySem.HandSPX.excO C hv.objs.size)) kept szl (exo_ok there)
  have rel2 : Vals (V.ref (hv.objs.size + 1) :: (vs ++ dvs)) (Value.ref (hv.objs.size + 1) :: (us ++ ds)) := .cons rfl (r1.append vd)
  have len2 : (Value.ref (hv.objs.size + 1) :: us ++ ds).length = ps.length := by
    have z := rel2.length
    rw [FI.len _ _ _ _ wish] at z
    exact z.symm
  have lenU : us.length ≤ sizeLine := by
    rw [← Paired.length r1, sizeLine_eq]
    omega
  refine wpAny_call (PySem.HandSPX.call_own T.bf.xb (fun Y => ovB_has Y tl ov) (I1.kIn _ _ lk) (PySem.W.looks_findIn I1.kIn ini) (fun self => PySem.W.bind_fn I1.kIn self tyf) lenU
    (codeAny_mono (FI.run _ X.stack _ _ ⟨Value.ref (hv.objs.size + 1) :: us, []⟩ (Value.ref (hv.objs.size + 1) :: (us ++ ds)) _ _ (fun _ _ _ => False) (rm.make C us []) (J2.env0.make C us []) (bn _ (Value.ref (hv.objs.size + 1) :: us) J2.kIn len2) rel2 wish) fun r s' got => ?_))
  match r, got with
  | .error er, got => exact pas pins σ _ _ er s' J2 got
  | .ok (.ret u), got =>
    obtain ⟨v, H2, os2, bare2, un2, hok2, rv, ev, d, fs, ea, ed, hd1, q2⟩ := got
    subst ev
    obtain ⟨h2, g2, d2, t2, os'⟩ := s'
    exact ⟨rv, mk_end (raises_own T.exb T.typ) I1 szl kept un2 hok2 os2 bare2 ea ed hd1 q2⟩
  | .ok .next, got => exact got.elim
  | .ok .brk, got => exact got.elim
  | .ok .cont, got => exact got.elim
end
end Tw
/-! Tw: an own error's __init__ over any built-in error class -/
namespace Tw
open PySem PySem.Spec PyProof.Rows L2 PySem.W PySem.Calls NdefX
structure SupB (bd : BaseD) (K : Frag) (P : Program) (C cc cda : Addr) : Prop where
  par : OexB bd K C
  opq : nsIn K cStatics "thirdparty.any" = some none
  sup : ks_superIn K C C "__init__" = some (some (.builtin bd.it))
  sub : subIn K (.ref C) (.type bd.cl) = some true
  own : mroIn K C (.ref C) = some true
  cell : ∃ cl cld csl, K.lookup cc = some ⟨cl, cld, .cell (some (.ref C)), csl⟩
  code : ∃ ccl cdd vs ccs file tf, K.lookup cda = some ⟨ccl, cdd, .fields vs, ccs⟩ ∧ vs[2]? = some (.str file tf) ∧ ((P.main.file : PySem.Str) == file) = true
  top : (P.main.scope.names.lookup ("super" : PySem.Str)).isSome = false
theorem call_mwB {bd : BaseD} (BF : BaseF bd) {prog : Program} {w : World} {A : Around} {E : Value → Shared → Prop} {h : Heap} {g : Array GenState} {d : PySem.Drawn} {t : Nat} {os : OsState} {nm q : PySem.Str} {C N : Addr} {bs bm : List Value} {hd : Bool} {sn : List PySem.Str} {sub : List Value} {ab : Bool} {col : Option Bool} {dd : Option Addr}
    {k0 k1 k2 k3 k5 : Option Value} {u x t0 : Addr} {vs : List Value} {Q : Value → Shared → Prop}
    (hC : h.get? C = some (excClassObj nm q C N bs bm hd sn sub ab col dd k0 k1 k2 k3 k5 bd.nw)) (hx : h.get? x = some (excObj C t0 none .none)) (hu : h.get? u = some (kxs_mw bd.it x)) (hz : vs.length ≤ sizeLine)
    (hq : ∀ h' t1, (∀ b o, b ≠ x → h.get? b = some o → h'.get? b = some o) → h'.get? x = some (excObj C t1 none .none) → Q .none ⟨h', g, d, t, os⟩) :
    wpAny (model prog w) A (call (.ref u) vs) Q E ⟨h, g, d, t, os⟩ := by
  refine wpAny_call (codeAny_of_tree ?_)
  show wpAny _ A.in1 (callAny (.ref u) ⟨vs, []⟩) _ _ _
  simp only [callAny]
  refine wpAny_bind (wpAny_load hu ?_)
  have em : (Value.type "method-wrapper" == Value.type "method" || Value.type "method-wrapper" == Value.type "builtin_function_or_method" || Value.type "method-wrapper" == Value.type "method-wrapper") = true := by decide
  simp only [kxs_mw, em, if_true]
  refine KFB.if_so (by decide) ?_
  refine wpAny_bind (check_bound_init BF.xb.toExcCallFacts hC hx rfl ?_)
  exact wpAny_bind (wpAny_pure (wpAny_pure ⟨plainId_quiet BF.xb.init.plain _, codeAny_builtin BF.xb.initEntry (exc_init_tree (cls := .ref C) (t0 := t0) (dv := none) (c2 := .none) (c3 := .none) (b4 := .bool false) hx hz fun h' k e _ => hq h' _ k e)⟩))
section
variable {CX : CXT} {P : Program} {w : World} {K : Frag} {mg : PySem.Str → Option Value} {base : Heap} {N ps : List PySem.Str} {k : Nat} {C fI cc cda : Addr} {name qual : PySem.Str} {params : Arguments} {scope : Scope} {rest : List Stmt} {text : PySem.Str} {p0 p1 p2 p3 p4 pc : Pos} {j : Nat}
  {dV kV doc pm ct oc : Value} {an od : Option Addr} {osl : Array (Option Value)} {ar : Arg} {sp : Sp}
theorem ok_erB {bd : BaseD} (T : SupB bd K P C cc cda)
    (lk : K.lookup fI = some ⟨oc, od, .func (fnX name qual params (suB text j p0 p1 p2 p3 p4 pc rest) scope [("__class__", cc)] dV kV doc pm an (.ref cda) ct), osl⟩)
    (hcd : codeIn K (.ref cda) qual = true) (S : NScope N ps ["__class__"] scope) (hpar : (params.posonlyargs ++ params.args).head? = some ar) (hps : ps.head? = some ar.arg)
    (hks : scope.names.lookup ("super" : PySem.Str) = some .globalImplicit) (hms : mg "super" = none)
    (hi : ∀ L, interactive (envF (erF name qual params (suB text j p0 p1 p2 p3 p4 pc rest) scope cc cda) fI L) = false)
    (hsw : ∀ L, swapsWith (.Call (.Attribute (.Call (.Name "super" p0) [] [] p1) "__init__" p2) [.Constant (.str text) j pc] [] p3) none p4.line (envF (erF name qual params (suB text j p0 p1 p2 p3 p4 pc rest) scope cc cda) fI L) = pure false)
    (hev : ∀ L, ∃ pl : Sem Bool, eval (.Call (.Attribute (.Call (.Name "super" p0) [] [] p1) "__init__" p2) [.Constant (.str text) j pc] [] p3) (envF (erF name qual params (suB text j p0 p1 p2 p3 p4 pc rest) scope cc cda) fI L) = (do
      let ov ← attributeBase (.Call (.Name "super" p0) [] [] p1) "__init__" (envF (erF name qual params (suB text j p0 p1 p2 p3 p4 pc rest) scope cc cda) fI L) (eval (.Call (.Name "super" p0) [] [] p1) (envF (erF name qual params (suB text j p0 p1 p2 p3 p4 pc rest) scope cc cda) fI L))
      standAt p2.atName
      let (f, first) ← holding [ov] (getMethod ov "__init__" pl)
      callWith p3 f first (backTo p3 (starEach [.Constant (.str text) j pc] (envF (erF name qual params (suB text j p0 p1 p2 p3 p4 pc rest) scope cc cda) fI L))) []))
    (len : ∀ vs H Q E, sp vs H Q E → vs.length = ps.length)
    (hbody : ∀ (A : Around) (outer : List Env) (s : Shared) (H : Hp) (vs : List V) (Q : VK) (E : XK), Room k (A.deeper (envF (erF name qual params (suB text j p0 p1 p2 p3 p4 pc rest) scope cc cda) fI s.heap.objs.size)) → sp vs H Q E →
      ∃ t, PSs (ncx CX P w K mg base N (erF name qual params (suB text j p0 p1 p2 p3 p4 pc rest) scope cc cda) fI A outer s H E) rest t ∧ ∃ x ws, vs = .ref x :: ws ∧ H x = some (exo x C none) ∧ t { nx := fun _ H' => Q .non H', rt := Q } (startF N vs [none]) H) :
    FnOk P w K mg base CX (k + 1) fI (fnX name qual params (suB text j p0 p1 p2 p3 p4 pc rest) scope [("__class__", cc)] dV kV doc pm an (.ref cda) ct) ps sp := by
  refine ⟨len, fun A outer s H args us vs Q E hr e0 hb r hsp => ?_⟩
  obtain ⟨cl, cld, csl, hcell⟩ := T.cell
  obtain ⟨ccl, cdd, vv, ccs, file, tf, hcode, hvs, hfile⟩ := T.code
  have up0 : ∀ b o, base.get? b = some o → s.heap.get? b = some o := fun b o z => (e0.bs b o z).1
  have KX : K.In s.heap := e0.mod.kin.keeps up0
  have hl := len _ _ _ _ hsp
  have lim : s.heap.NoLimit := e0.mod.nolimit.keeps up0
  have CA : CellsAt (erF name qual params (suB text j p0 p1 p2 p3 p4 pc rest) scope cc cda).cl ["__class__"] [none] s.heap H := by
    have key : ∀ {y c}, List.lookup y [(("__class__" : PySem.Str), cc)] = some c → c = cc := fun {y c} z => by
      have q1 := PySem.mem_of_lookup z
      simp only [List.mem_singleton, Prod.mk.injEq] at q1
      exact q1.2
    refine ⟨rfl, fun y c z => ?_, fun y y' c z z' => ?_, fun i y hi => ?_⟩
    · obtain rfl := key z
      exact ⟨(e0.bs _ _ (e0.mod.kin _ _ hcell)).2, some (.ref C), ⟨_, KX _ _ hcell, rfl⟩⟩
    · have q1 := mem_of_lookup z
      have q2 := mem_of_lookup z'
      simp only [List.mem_singleton, Prod.mk.injEq] at q1 q2
      rw [q1.1, q2.1]
    · cases i with
      | zero =>
        obtain rfl : "__class__" = y := Option.some.inj hi
        exact ⟨cc, rfl, fun v z => by cases z⟩
      | succ i => cases hi
  refine codeAny_call_function hr.depth (KX _ _ lk) rfl S.co S.gen rfl (codeRec_of KX hcd) (hb _ _ _ _ ?_)
  refine wpAny_newFunctionEnv S.nocell (fun ⟨n, _⟩ hy => S.par n (List.of_mem_zip hy).1) (fun h₁ hns hsb => ⟨lim.fresh _ hsb, ?_⟩) S.kind
  have kp : ∀ b o, s.heap.get? b = some o → h₁.get? b = some o := fun b o z => hsb.extBut b o (Nat.ne_of_lt (Heap.lt_size z)) (Heap.get?_push_of_some _ z)
  have lf := KX _ _ lk
  have ki := kp _ _ lf
  have K1 : K.In h₁ := KX.keeps kp
  have I0 := inv_startN (CX := CX) (E := E) (N := N) (F := erF name qual params (suB text j p0 p1 p2 p3 p4 pc rest) scope cc cda) (f := fI) (tk := s.toks + (ps.zip us).length) S hr.hd e0 hl r CA hns kp
  obtain ⟨t, ht, x, ws, rfl, hx, hq⟩ := hbody A outer s H vs Q E (hr.deeper _) hsp
  obtain ⟨nm, qn, NN, bs, bm, sn, sub, ab, col, dd, k0, k1, k2, k3, k5, hC, hbm⟩ := T.par.cls
  have hclC : clsIn K C = some { name := nm, bases := bs, mro := .ref C :: bm, ns := NN, qualname := qn, hasDict := true, slotNames := sn, subclasses := sub, abstract := ab, collection := col, hasDel := false } := by unfold clsIn; rw [hC] <;> rfl
  obtain ⟨t1, hxo⟩ := exo_at e0.hok hx
  show codeAny _ _ (.func (suB text j p0 p1 p2 p3 p4 pc rest) (envF (erF name qual params (suB text j p0 p1 p2 p3 p4 pc rest) scope cc cda) fI s.heap.objs.size)) _ _
  refine ks_codeAny_funcAt (ks_wpAt_execs_cons ?_)
  obtain ⟨pl, hpl⟩ := hev s.heap.objs.size
  have hii := hi s.heap.objs.size
  have hss := hsw s.heap.objs.size
  obtain ⟨env, henv⟩ : ∃ env, envF (erF name qual params (suB text j p0 p1 p2 p3 p4 pc rest) scope cc cda) fI s.heap.objs.size = env := ⟨_, rfl⟩
  rw [henv] at hpl hii hss
  rw [henv]
  refine ks_wpAt_Expr_any (ks_wpAt_MethodCall (he := hpl) ?_) hii hss
  subst henv
  refine ks_wpAt_super_base (f := fI) (cc := cda) hks (S.frk _ (List.mem_singleton.mpr rfl)) rfl rfl ki rfl hpar rfl (K1 _ _ hcode) rfl hvs hfile T.top ?_
  obtain ⟨mb, hb1, hb2⟩ := e0.mod.blt
  have up1 : ∀ b o, base.get? b = some o → h₁.get? b = some o := fun b o z => kp _ _ (up0 _ _ z)
  refine ks_loadName_global S.kind hks (loadGlobal_builtin (e0.mod.glob.keeps up1) hms (hb1.keeps up1) ((hb2 "super" (by decide)).trans (by decide +kernel)) ⟨rfl, ?_⟩)
  refine wpAny_loadName_free S.kind (S.frk _ (List.mem_singleton.mpr rfl)) rfl ⟨_, K1 _ _ hcell, rfl⟩ ?_
  cases r with
  | @cons _ u0 _ us' ra rw' =>
  obtain rfl : u0 = Value.ref x := ra
  have hpn : ps.Nodup := by
    have q := S.nd.sublist (List.take_sublist (ps.length + 1) N)
    have e := S.pre
    rw [show (["__class__"] : List PySem.Str).length = 1 from rfl] at e
    rw [e] at q
    exact (List.nodup_append.mp q).1
  have hp0 : ps[0]? = some ar.arg := by rw [← List.head?_eq_getElem?]; exact hps
  refine wpAny_loadName_local S.kind (S.par _ (List.mem_of_getElem? hp0)) hns (zip_look (i := 0) hpn hp0 rfl) ?_
  have hx1 := kp _ _ hxo
  have hC1 := K1 _ _ hC
  refine ks_wpAny_isType_cls hC1 rfl ⟨rfl, ?_⟩
  have hxC : x ≠ C := fun z => by rw [z, hC1] at hx1; cases hx1
  refine ks_wpAny_call_super hC1 rfl hx1 rfl (fun c z => by cases z) (looks_mroIn K1 T.own) fun h2 e2 k2' => ?_
  have K2 : K.In h2 := K1.keeps k2'
  have hx2 := k2' _ _ hx1
  have hsup := T.sup
  unfold ks_superIn at hsup
  rw [hclC] at hsup
  refine kxs_getMethod T.par.bf.kx e2 (looks_opaque K2 T.opq) ((looks_clsIn K2 hclC).andThen .now) rfl K2 hsup (InstAt.type (C := C) (od := none) ⟨hx2, rfl, rfl, trivial⟩ |>.andThen (looks_subIn K2 T.sub)) hxC rfl ?_
  have k3' : ∀ b o, h₁.get? b = some o → (h2.push (kxs_mw bd.it x)).get? b = some o := fun b o z => Heap.get?_push_of_some _ (k2' _ _ z)
  have hu3 : (h2.push (kxs_mw bd.it x)).get? h2.objs.size = some (kxs_mw bd.it x) := Heap.get?_push_at rfl rfl
  generalize h2.push (kxs_mw bd.it x) = h3 at *
  have hx3 := k3' _ _ hx1
  have hC3 := k3' _ _ hC1
  refine kxs_callWith (i := bd.it) (x := x) rfl (evalArgs_plain (spliced_more (Calls.Constant_str (spliced_none ⟨hu3, ?_⟩))))
  refine call_mwB T.par.bf hC3 hx3 hu3 (by show (1 : Nat) ≤ 16777216; decide) fun h4 t4 k4 hx4 => ?_
  have I4 := (I0.kept (t' := s.toks) (h' := h3) k3').write (t' := s.toks) (x := x) (e := x) (o := exo x C none) (h' := h4) (by rw [hx]; exact True.intro) (.inl rfl) k4 ⟨_, hx4⟩ (exo_ok hx4)
  have eu : upd H x (exo x C none) = H := by
    funext b
    by_cases hb : b = x
    · rw [hb, upd_same, hx]
    · rw [upd_ne hb]
  rw [eu] at I4
  refine wpAt_of_wpAny ?_
  have I5 := I4.tok (s.toks + (ps.zip (Value.ref x :: us')).length + 1 + 1)
  refine wpAny_mono (ht.run [] _ (startF N (.ref x :: ws) [none]) H _ I5 hq) (fun fl s' hs => ?_) fun e s' hs => hs
  have fin : ∀ {σ' : L2.St} {H' : Hp} {v : V} {u : Value}, Inv (ncx CX P w K mg base N (erF name qual params (suB text j p0 p1 p2 p3 p4 pc rest) scope cc cda) fI A outer s H E) [] σ' H' s' → L2.RelV v u → Q v H' → CE outer P w H s Q u s' :=
    fun {σ' H' v u} J rv q => ⟨v, H', J.os, J.bare, J.base, J.hok, rv, q⟩
  cases fl with
  | ret u =>
    obtain ⟨v, σ', H', J, rv, q⟩ := hs
    exact fin J rv q
  | next =>
    obtain ⟨σ', H', J, q⟩ := hs
    exact fin (v := V.non) (u := Value.none) J rfl q
  | brk =>
    obtain ⟨_, _, _, q⟩ := hs
    exact False.elim q
  | cont =>
    obtain ⟨_, _, _, q⟩ := hs
    exact False.elim q
end
end Tw
/-! Tw: own errors over any built-in error class: facts by Bools, their making and their raise -/
namespace Tw
open PySem PySem.Spec PyProof.Rows L2 He PySem.W PySem.Calls NdefX
def clsB (bd : BaseD) (K : Frag) (C : Addr) : Bool := match K.lookup C with
  | some ⟨.type t, _, .cls cd, sl⟩ => decide (t = "type") && (match cd.mro, sl.toList with
    | .ref D :: bm, [_, _, _, _, some (.builtin n), _] => decide (D = C) && (decide (n = bd.nw) && (!cd.hasDel && (cd.hasDict && ovB bd.bm bm)))
    | _, _ => false)
  | _ => false
theorem clsB_ok {bd : BaseD} {K : Frag} {C : Addr} (h : clsB bd K C = true) : ∃ nm q N bs bm sn sub ab col dd k0 k1 k2 k3 k5, K.lookup C = some (excClassObj nm q C N bs bm true sn sub ab col dd k0 k1 k2 k3 k5 bd.nw) ∧ ovB bd.bm bm = true := by
  unfold clsB at h
  split at h
  · rename_i t dd cd sl ho
    obtain ⟨h1, h2⟩ := ba h
    obtain rfl := of_decide_eq_true h1
    split at h2
    · rename_i D bm k0 k1 k2 k3 n k5 hm hs
      obtain ⟨a1, h2⟩ := ba h2
      obtain ⟨a2, h2⟩ := ba h2
      obtain ⟨a3, h2⟩ := ba h2
      obtain ⟨a4, a5⟩ := ba h2
      obtain rfl := of_decide_eq_true a1
      obtain rfl := of_decide_eq_true a2
      obtain ⟨nm, bs, mro, ns, qn, hd, sn, sub, ab, col, del⟩ := cd
      dsimp only at hm a3 a4
      subst hm
      subst a4
      have hdel : del = false := by simpa using a3
      subst hdel
      have hsl : sl = #[k0, k1, k2, k3, some (.builtin bd.nw), k5] := Array.toList_inj.mp hs
      subst hsl
      exact ⟨nm, qn, ns, bs, bm, sn, sub, ab, col, dd, k0, k1, k2, k3, k5, ho, a5⟩
    · cases h2
  · cases h
def bErG (bd : BaseD) (x fld file qual : PySem.Str) (K : Frag) : Bool := clsB bd K (ga K x) && (fnE K (ga K x) (ma K (ga K x) "__init__") file qual && (eqO (findIn K (.ref (ga K x)) "__init__") (some (some (.ref (ma K (ga K x) "__init__")))) &&
  (eqO (findIn K (.ref (ga K x)) "__setattr__") (some (some (.builtin "object.__setattr__"))) && (eqO (findIn K (.ref (ga K x)) fld) (some none) && (eqO (nsIn K cStatics "thirdparty.any") (some none) &&
  (eqO (ks_superIn K (ga K x) (ga K x) "__init__") (some (some (.builtin bd.it))) && (decide (subIn K (.ref (ga K x)) (.type bd.cl) = some true) && (decide (mroIn K (ga K x) (.ref (ga K x)) = some true) &&
  (decide (subIn K (.ref (ga K x)) (.type "BaseException") = some true) && (decide (typeIn K (.ref (ga K x)) = some (.type "type")) && (keepIn K (.ref (ga K x)) && (decide (typeIn K (.ref (ma K (ga K x) "__init__")) = some (.type "function")) &&
  (eqO (findIn K (.ref (ga K x)) "__getattribute__") (some (some (.builtin "BaseException.__getattribute__"))) && (eqO (findIn K (.ref (ga K x)) "__getattr__") (some none) && hasDictIn K (ga K x)))))))))))))))
structure ErrG (bd : BaseD) (K : Frag) (x fld file qual : PySem.Str) : Prop where
  oex : OexB bd K (ga K x)
  fn : fnE K (ga K x) (ma K (ga K x) "__init__") file qual = true
  ini : findIn K (.ref (ga K x)) "__init__" = some (some (.ref (ma K (ga K x) "__init__")))
  no : findIn K (.ref (ga K x)) fld = some none
  opq : nsIn K cStatics "thirdparty.any" = some none
  sup : ks_superIn K (ga K x) (ga K x) "__init__" = some (some (.builtin bd.it))
  sub : subIn K (.ref (ga K x)) (.type bd.cl) = some true
  own : mroIn K (ga K x) (.ref (ga K x)) = some true
  tfn : typeIn K (.ref (ma K (ga K x) "__init__")) = some (.type "function")
  xf : XfC K (ga K x)
theorem erG_ok {bd : BaseD} (bf : BaseF bd) {x fld file qual : PySem.Str} {K : Frag} (h : bErG bd x fld file qual K = true) : ErrG bd K x fld file qual := by
  obtain ⟨h1, h⟩ := ba h
  obtain ⟨h2, h⟩ := ba h
  obtain ⟨h3, h⟩ := ba h
  obtain ⟨h4, h⟩ := ba h
  obtain ⟨h5, h⟩ := ba h
  obtain ⟨h6, h⟩ := ba h
  obtain ⟨h7, h⟩ := ba h
  obtain ⟨h8, h⟩ := ba h
  obtain ⟨h9, h⟩ := ba h
  obtain ⟨h10, h⟩ := ba h
  obtain ⟨h11, h⟩ := ba h
  obtain ⟨h12, h⟩ := ba h
  obtain ⟨h13, h⟩ := ba h
  obtain ⟨h14, h⟩ := ba h
  obtain ⟨h15, h16⟩ := ba h
  exact ⟨⟨bf, clsB_ok h1, eqO_ok h4, of_decide_eq_true h10, of_decide_eq_true h11, h12⟩, h2, eqO_ok h3, eqO_ok h5, eqO_ok h6, eqO_ok h7, of_decide_eq_true h8, of_decide_eq_true h9, of_decide_eq_true h13,
    ⟨eqO_ok h14, eqO_ok h15, of_decide_eq_true h10, h16⟩⟩
section
variable {CX : CXT} {P : Program} {w : World} {K : Frag} {mg : PySem.Str → Option Value} {base : Heap} {x fld par file qual name text : PySem.Str} {j : Nat} {p0 p1 p2 p3 p4 pc q1 q2 q3 q4 : Pos} {params : Arguments} {scope : Scope} {ar : Arg}
end
section
variable {X : Cx} {CX : CXT} {cx fld : PySem.Str} {C fI : Addr} {k : Nat} {fd : FuncData} {ps : List PySem.Str} {e : Expr} {te : TE} {p pos : Pos}
end
end Tw
/-! Tw: what the head tells of the own errors' kinds -/
namespace Tw
open PySem PySem.Spec PyProof.Rows L2 He
open PySem.W (Frag)
section
variable {K : Frag} {w : World}
def erN : List PySem.Str := ["InvalidNumber", "InvalidText", "InvalidName", "InvalidLevels", "InvalidSwitch", "InvalidMode", "InvalidMenu", "InvalidPlan", "InvalidCommand", "TooLong", "TooMany", "NothingToUndo"]
def kdN : List PySem.Str := ["number", "text", "name", "levels", "switch", "mode", "menu", "plan", "command", "long", "many", "undo"]
structure KnF (K : Frag) (D : Addr) (i : Nat) : Prop where
  exc : ExcC K D
  lt : i < 12
  is : ∀ (j : Nat) (x : PySem.Str), erN[j]? = some x → PySem.W.kitOne K (.ref D) (.ref (ga K x)) = some (decide (j = i))
  wh : PySem.W.kitOne K (.ref D) (.ref (ga K "WheelError")) = some (decide (i < 9))
def bExc (K : Frag) (D : Addr) : Bool := decide (PySem.W.findIn K (.ref D) "__getattribute__" = some (some (.builtin "BaseException.__getattribute__"))) && (decide (PySem.W.findIn K (.ref D) "__getattr__" = some none) && (decide (PySem.W.subIn K (.ref D) (.type "BaseException") = some true) && (PySem.W.hasDictIn K D &&
  (decide (PySem.W.findIn K (.ref D) "__class__" = some (some (.builtin "object.__class__"))) && (decide (PySem.W.specialIn K (.builtin "object.__class__") "__get__" = some (some (.builtin "getset_descriptor.__get__"))) && (decide (PySem.W.takesIn K (.builtin "object.__class__") = some true) && decide (PySem.W.mroIn K D (.type "object") = some true)))))))
theorem exc_ok {K : Frag} {D : Addr} (h : bExc K D = true) : ExcC K D := by
  unfold bExc at h
  simp only [Bool.and_eq_true, decide_eq_true_eq] at h
  obtain ⟨h1, h2, h3, h4, h5, h6, h7, h8⟩ := h
  exact ⟨h1, h2, h3, h4, h5, h6, h7, h8⟩
def bKn (x : PySem.Str) (i : Nat) (K : Frag) : Bool := bExc K (ga K x) && (decide (i < 9) && (((List.range 12).all fun j => decide (PySem.W.kitOne K (.ref (ga K x)) (.ref (ga K (erN.getD j ""))) = some (decide (j = i)))) &&
  (decide (PySem.W.kitOne K (.ref (ga K x)) (.ref (ga K "WheelError")) = some true) && decide (PySem.W.exmOne K (.ref (ga K x)) (.ref (ga K "WheelError")) = some true))))
theorem kn_ok {K : Frag} {x : PySem.Str} {i : Nat} (h : bKn x i K = true) : KnF K (ga K x) i ∧ PySem.W.exmOne K (.ref (ga K x)) (.ref (ga K "WheelError")) = some true := by
  unfold bKn at h
  simp only [Bool.and_eq_true, decide_eq_true_eq] at h
  obtain ⟨h1, h2, h3, h4, h5⟩ := h
  refine ⟨⟨exc_ok h1, by omega, fun j y hy => ?_, by rw [decide_eq_true h2]; exact h4⟩, h5⟩
  have hj : j < 12 := (List.getElem?_eq_some_iff.mp hy).1
  have z := List.all_eq_true.mp h3 j (List.mem_range.mpr hj)
  rw [List.getD_eq_getElem?_getD, hy] at z
  exact of_decide_eq_true z
end
def exmN (K : PySem.W.Frag) (D : Addr) (x : PySem.Str) (b : Bool) : Prop := PySem.W.exmOne K (.ref D) (.ref (ga K x)) = some b
def bKnO (x : PySem.Str) (i : Nat) (K : Frag) : Bool := bExc K (ga K x) && (decide (i < 12) && (((List.range 12).all fun j => decide (PySem.W.kitOne K (.ref (ga K x)) (.ref (ga K (erN.getD j ""))) = some (decide (j = i)))) &&
  (decide (PySem.W.kitOne K (.ref (ga K x)) (.ref (ga K "WheelError")) = some (decide (i < 9))) && (decide (PySem.W.exmOne K (.ref (ga K x)) (.ref (ga K "WheelError")) = some false) &&
  (decide (PySem.W.exmOne K (.ref (ga K x)) (.ref (ga K "TooLong")) = some (decide (i = 9))) && decide (PySem.W.exmOne K (.ref (ga K x)) (.ref (ga K "TooMany")) = some (decide (i = 10))))))))
structure KnO (K : Frag) (x : PySem.Str) (i : Nat) : Prop where
  kn : KnF K (ga K x) i
  wh : exmN K (ga K x) "WheelError" false
  lo : exmN K (ga K x) "TooLong" (decide (i = 9))
  ma : exmN K (ga K x) "TooMany" (decide (i = 10))
theorem knO_ok {K : Frag} {x : PySem.Str} {i : Nat} (h : bKnO x i K = true) : KnO K x i := by
  unfold bKnO at h
  simp only [Bool.and_eq_true, decide_eq_true_eq] at h
  obtain ⟨h1, h2, h3, h4, h5, h6, h7⟩ := h
  refine ⟨⟨exc_ok h1, h2, fun j y hy => ?_, h4⟩, h5, h6, h7⟩
  have hj : j < 12 := (List.getElem?_eq_some_iff.mp hy).1
  have z := List.all_eq_true.mp h3 j (List.mem_range.mpr hj)
  rw [List.getD_eq_getElem?_getD, hy] at z
  exact of_decide_eq_true z
end Tw
/-! Tw: the own errors' built-in classes -/
namespace Tw
open PySem PySem.Spec PyProof.Rows L2 He
open PySem.W (Frag)
structure KuF (K : Frag) (D : Addr) (i : Nat) : Prop where
  ve : PySem.W.kitOne K (.ref D) (.type "ValueError") = some (decide (i < 9))
  oe : PySem.W.kitOne K (.ref D) (.type "OverflowError") = some (decide (i = 9 ∨ i = 10))
  le : PySem.W.kitOne K (.ref D) (.type "LookupError") = some (decide (i = 11))
def bKu (x : PySem.Str) (i : Nat) (K : Frag) : Bool := decide (PySem.W.kitOne K (.ref (ga K x)) (.type "ValueError") = some (decide (i < 9))) && (decide (PySem.W.kitOne K (.ref (ga K x)) (.type "OverflowError") = some (decide (i = 9 ∨ i = 10))) && decide (PySem.W.kitOne K (.ref (ga K x)) (.type "LookupError") = some (decide (i = 11))))
theorem ku_ok {x : PySem.Str} {i : Nat} {K : Frag} (h : bKu x i K = true) : KuF K (ga K x) i := by
  unfold bKu at h
  simp only [Bool.and_eq_true, decide_eq_true_eq] at h
  exact ⟨h.1, h.2.1, h.2.2⟩
end Tw
/-! Tw: the law's end where the law makes lambdas (tables of codes) and no repr is under way -/
namespace Tw
open PySem PySem.Spec PyProof.Rows L2 LamX
section
variable {P : Program} {w : World} {K : PySem.W.Frag} {mg mb : Str → Option Value}
def BuiltM (mg : Str → Option Value) (h : Heap) : Prop := ∃ (bm : Addr) (ob : Obj), mg "__builtins__" = some (.ref bm) ∧ bm ≠ builtinsNs ∧ h.get? bm = some ob ∧ ob.cls = .type "module" ∧ ob.dict = some builtinsNs ∧ ob.data = .plain
theorem entryT {s : Shared} {a : Addr} {vs : List Value} {ns : List Int} {cs : List (Addr × Addr)} (KX : K.In s.heap) (hns : s.heap.Ns mainGlobals mg) (hb : s.heap.Ns builtinsNs mb) (hbb : ∀ x : Str, x ≠ "__name__" → mb x = bootBuiltins x) (hlim : s.heap.NoLimit) (hg : s.gens = #[])
    (hT : ∀ p ∈ cs, s.heap.get? p.2 = some { cls := .none, data := .fields #[] }) (nT : ∀ p ∈ cs, K.lookup p.2 = none) (hC : ∀ p ∈ cs, PySem.W.codeHdIn K p.1 p.2 = true) (hbm : BuiltM mg s.heap)
    (ha : s.heap.get? a = some { cls := .type "list", data := .seq vs.toArray }) (hi : IntsAre vs ns) (hl : ns.length ≤ sizeLine) :
    ∃ (H : Hp) (base : Heap), K.In base ∧ base.Ns mainGlobals mg ∧ Env0 P w K mg base callerA [] s H ∧ (∀ b, H b = none ∨ (∃ p ∈ cs, p.2 = b) ∨ ∃ o xs, H b = some (.frz o (.lst xs))) ∧ SqL K H a (ns.map V.int) ∧ (∀ p ∈ cs, H p.2 = some (.tbl #[])) ∧ ∀ p ∈ cs, TabB base mg p.1 p.2 := by
  classical
  have rv := vals_ints hi
  have hlv := hi.length
  have aT : ∀ p ∈ cs, p.2 ≠ a := fun p hp z => by
    have q := hT p hp
    rw [z, ha] at q
    cases q
  have key : ∀ H : Hp, (∀ b, H b ≠ none → b = a ∨ ∃ p ∈ cs, p.2 = b) → (H a ≠ none → K.lookup a = none) → HOk P w H s.heap → K.In (hidT s.heap H) ∧ (hidT s.heap H).Ns mainGlobals mg ∧ Env0 P w K mg (hidT s.heap H) callerA [] s H ∧ ∀ p ∈ cs, TabB (hidT s.heap H) mg p.1 p.2 := by
    intro H h1 h2 hok
    have free : ∀ {b : Addr} {o : Obj}, s.heap.get? b = some o → (∀ x n, o.data ≠ .seq x n) → o.data ≠ .fields #[] → H b = none := fun {b o} z d1 d2 => Classical.byContradiction fun n => by
      rcases h1 b n with rfl | ⟨p, hp, rfl⟩
      · rw [ha] at z
        cases z
        exact d1 _ _ rfl
      · rw [hT p hp] at z
        cases z
        exact d2 rfl
    have keepD : ∀ {b m}, s.heap.Ns b m → (hidT s.heap H).Ns b m := by
      rintro b m ⟨o, es, ep, z, d, r⟩
      exact ⟨o, es, ep, hidT_get z (free z (fun x n y => by rw [d] at y; cases y) fun y => by rw [d] at y; cases y), d, r⟩
    have kin : K.In (hidT s.heap H) := fun b o z => hidT_get (KX b o z) (Classical.byContradiction fun n => by
      rcases h1 b n with rfl | ⟨p, hp, rfl⟩
      · rw [h2 n] at z
        cases z
      · rw [nT p hp] at z
        cases z)
    obtain ⟨mc, l1, l2⟩ := hlim
    refine ⟨kin, keepD hns, ⟨rfl, ⟨kin, keepD hns, ⟨mb, keepD hb, hbb⟩, ⟨mc, keepD l1, l2⟩⟩, fun b o z => of_hidT z, Nat.le_of_eq (hidT_size _ _), trivial, fun b z => (nomatch z), hok, .of_eq hg⟩, fun p hp => ?_⟩
    have nM : mainGlobals ≠ p.2 := fun z => by
      obtain ⟨o, es, ep, y, d, _⟩ := hns
      rw [z, hT p hp] at y
      cases y
      cases d
    obtain ⟨bm, ob, b1, b2, b3, b4, b5, b6⟩ := hbm
    have nG : bm ≠ mainGlobals := fun z => by
      obtain ⟨o, es, ep, y, d, _⟩ := hns
      rw [z, y] at b3
      cases b3
      rw [d] at b6
      cases b6
    have nP : bm ≠ p.2 := fun z => by
      rw [z, hT p hp] at b3
      cases b3
      cases b6
    exact NdefX.tabB_of_K kin (hC p hp) ⟨bm, ob, b1, b2, nG, nP, hidT_get b3 (free b3 (fun x n y => by rw [b6] at y; cases y) fun y => by rw [b6] at y; cases y), b4, b5, b6⟩ nM
  obtain ⟨L, hL⟩ : ∃ L : Option HO, L = if K.lookup a = none then some (HO.frz { cls := .type "list", data := .seq vs.toArray } (.lst (ns.map V.int))) else none := ⟨_, rfl⟩
  obtain ⟨H, hH⟩ : ∃ H : Hp, H = fun b => if b = a then L else if ∃ p ∈ cs, p.2 = b then some (.tbl #[]) else none := ⟨_, rfl⟩
  have e1 : H a = L := by rw [hH]; exact if_pos rfl
  have e2 : ∀ p ∈ cs, H p.2 = some (.tbl #[]) := fun p hp => by rw [hH]; exact (if_neg (aT p hp)).trans (if_pos ⟨p, hp, rfl⟩)
  have e3 : ∀ b, b ≠ a → (¬ ∃ p ∈ cs, p.2 = b) → H b = none := fun b n1 n2 => by rw [hH]; exact (if_neg n1).trans (if_neg n2)
  have h1 : ∀ b, H b ≠ none → b = a ∨ ∃ p ∈ cs, p.2 = b := fun b n => Classical.byContradiction fun m => n (e3 b (fun z => m (.inl z)) fun z => m (.inr z))
  have hok : HOk P w H s.heap := fun b u z => by
    have nb : H b ≠ none := fun y => by rw [y] at z; cases z
    rcases h1 b nb with rfl | ⟨p, hp, rfl⟩
    · rw [e1, hL] at z
      split at z
      · cases z
        exact ⟨ha, by rw [List.length_map]; exact hl, vs, _, rv, ha⟩
      · cases z
    · rw [e2 p hp] at z
      cases z
      exact hT p hp
  have hKa : H a ≠ none → K.lookup a = none := fun n => Classical.byContradiction fun m => n (by rw [e1, hL]; exact if_neg m)
  obtain ⟨k1, k2, k3, k4⟩ := key H h1 hKa hok
  refine ⟨H, _, k1, k2, k3, fun b => ?_, ?_, e2, k4⟩
  · by_cases hba : b = a
    · rw [hba, e1, hL]
      split
      · exact .inr (.inr ⟨_, _, rfl⟩)
      · exact .inl rfl
    · by_cases hbT : ∃ p ∈ cs, p.2 = b
      · exact .inr (.inl hbT)
      · exact .inl (e3 b hba hbT)
  · cases hk : K.lookup a with
    | none => exact .inl (.inr ⟨{ cls := .type "list", data := .seq vs.toArray }, by rw [e1, hL, if_pos hk]⟩)
    | some o =>
      have z := KX a o hk
      rw [ha] at z
      obtain rfl := (Option.some.inj z).symm
      exact .inr ⟨_, vs.toArray, _, hk, rfl, rfl, rfl, by rw [List.size_toArray, hlv]; exact hl, by simpa using rv⟩
theorem lawGT {s : Shared} {CX : CXT} {k : Nat} {fa a : Addr} {sp : Sp} {vs : List Value} {ns : List Int} {cs : List (Addr × Addr)} (KX : K.In s.heap) (hns : s.heap.Ns mainGlobals mg) (hb : s.heap.Ns builtinsNs mb) (hbb : ∀ x : Str, x ≠ "__name__" → mb x = bootBuiltins x) (hlim : s.heap.NoLimit) (hg : s.gens = #[])
    (hT : ∀ p ∈ cs, s.heap.get? p.2 = some { cls := .none, data := .fields #[] }) (nT : ∀ p ∈ cs, K.lookup p.2 = none) (hC : ∀ p ∈ cs, PySem.W.codeHdIn K p.1 p.2 = true) (hbm : BuiltM mg s.heap)
    (ha : s.heap.get? a = some { cls := .type "list", data := .seq vs.toArray }) (hi : IntsAre vs ns) (hl : ns.length ≤ sizeLine) (hr : RmG k callerA) (F : ∀ base : Heap, K.In base → base.Ns mainGlobals mg → (∀ p ∈ cs, TabB base mg p.1 p.2) → FnG P w K mg base CX k fa sp)
    (hsp : ∀ H : Hp, SqL K H a (ns.map V.int) → (∀ p ∈ cs, H p.2 = some (.tbl #[])) → sp [.ref a] H (fun v _ => v = .bl true) fun _ _ _ => False) (hCX : ∀ H e s', CX [] H s (fun _ _ _ => False) e s' → False) :
    codeAny (model P w) callerA (.call (.ref fa) ⟨[.ref a], []⟩) (fun r s' => r = .ok (.ret (.bool true)) ∧ OldK s.heap s'.heap ∧ s'.os = s.os ∧ AllBare s'.gens) s := by
  classical
  obtain ⟨H, base, k1, k2, e0, ho, hs, htb, hTB⟩ := entryT (P := P) (w := w) KX hns hb hbb hlim hg hT nT hC hbm ha hi hl
  refine codeAny_mono (F base k1 k2 hTB callerA [] s H [.ref a] [.ref a] _ _ hr e0 (.cons rfl .nil) (hsp H hs htb)) fun r s2 z => ?_
  match r, z with
  | .error y, z => exact (hCX H y s2 z).elim
  | .ok .next, z => exact z.elim
  | .ok .brk, z => exact z.elim
  | .ok .cont, z => exact z.elim
  | .ok (.ret u), ⟨v, H2, os, bare, un, hok, rv, q⟩ =>
    obtain rfl : v = .bl true := q
    obtain rfl : u = Value.bool true := rv
    have kept : ∀ b o, (¬ ∃ p ∈ cs, p.2 = b) → s.heap.get? b = some o → s2.heap.get? b = some o := fun b o nb z => by
      rcases ho b with n | n | ⟨o1, xs, n⟩
      · exact un.keep b o z n (fun m => nomatch m) (fun m => nomatch m)
      · exact absurd n nb
      · obtain ⟨g1, _⟩ := e0.hok b _ n
        obtain ⟨g2, _⟩ := hok b _ (un.frzs b o1 _ n)
        rw [z] at g1
        cases g1
        exact g2
    have more : ∀ p ∈ cs, ∃ ps : Array Value, s2.heap.get? p.2 = some { cls := .none, data := .fields ps } := fun p hp => by
      obtain ⟨ps, z⟩ := un.tbls p.2 #[] (htb p hp)
      exact ⟨_, hok p.2 _ z⟩
    refine ⟨rfl, ⟨fun b o z => ?_, fun b o z => ?_⟩, os, bare⟩
    · by_cases hbT : ∃ p ∈ cs, p.2 = b
      · obtain ⟨p, hp, rfl⟩ := hbT
        obtain ⟨ps, hm⟩ := more p hp
        rw [hT p hp] at z
        cases z
        exact .inr (.inl ⟨((PySem.W.codeHd_of_K KX (hC p hp)).tab (hT p hp)).isCodeTable, rfl, #[], ps, rfl, by rw [Array.empty_append]; exact hm⟩)
      · exact .inl (kept b o hbT z)
    · by_cases hbT : ∃ p ∈ cs, p.2 = b
      · obtain ⟨p, hp, rfl⟩ := hbT
        obtain ⟨ps, hm⟩ := more p hp
        exact ⟨_, hm⟩
      · exact ⟨o, kept b o hbT z⟩
theorem walk_ofGT {l : PySem.W.OpenLaw} {n k : Nat} {q : Program} {loose : List Str} {XP : (Str → Option Value) → Heap → Prop} {YP : World → Heap → Prop} {d : DefRec} {CX : CXT} (hn : l.most = some n) (hn2 : n ≤ sizeLine) (hdf : d.params.defaults = []) (hr : RmG k callerA)
    (F : ∀ w mg fa h, YP w h → h.Ns mainGlobals mg → mg d.name = some (.ref fa) → ∃ (K : PySem.W.Frag) (cs : List (Addr × Addr)) (sp : Sp), K.In h ∧ (∀ p ∈ cs, h.get? p.2 = some { cls := .none, data := .fields #[] }) ∧ (∀ p ∈ cs, K.lookup p.2 = none) ∧ (∀ p ∈ cs, PySem.W.codeHdIn K p.1 p.2 = true) ∧
      (∀ (H : Hp) (a : Addr) (ns : List Int), ns.length ≤ n → SqL K H a (ns.map V.int) → (∀ p ∈ cs, H p.2 = some (.tbl #[])) → sp [.ref a] H (fun v _ => v = .bl true) fun _ _ _ => False) ∧
      ∀ base : Heap, K.In base → base.Ns mainGlobals mg → (∀ p ∈ cs, TabB base mg p.1 p.2) → FnG l.prog w K mg base CX k fa sp) (hCX : ∀ H s e s', CX [] H s (fun _ _ _ => False) e s' → False) :
    PySem.W.WalkO q loose XP YP l.row.toRowW d [] (fun f vs => PySem.call f vs) := by
  refine Att.attach_call hn hdf fun w s0 s1 mg mb fa o pm cd doc a vs ns G Y ho hd hcd hmg hobj hints hlen hg => ?_
  obtain ⟨K, cs, sp, KX, hT, nT, hC, h1, h2⟩ := F w mg fa _ Y G.T.g hmg
  exact lawGT KX G.T.g G.T.b G.T.builtins G.T.nolimit hg hT nT hC G.T.bmain hobj hints (Nat.le_trans hlen hn2) hr h2 (fun H z y => h1 H a ns hlen z y) fun H e s' => hCX H s1 e s'
end
end Tw
/-! Hd: the head of this law: facts by names, one run -/
namespace Hd
open PySem PySem.Spec PyProof.Rows L2 He PySem.W Tw
def top (i : Nat) : Stmt := PySem.Challenge.pw_timerwheels_k29_errors_made.main.body.getD i (.Pass ⟨0, 0, 0, 0⟩)
abbrev file : PySem.Str := PySem.Challenge.pw_timerwheels_k29_errors_made.main.file
abbrev s__law_begin : Stmt := top 15
def dd__law_begin : He5.DefA := { at_ := fun K => ga K "_law_begin", name := "_law_begin", qual := "_law_begin", params := defArgs s__law_begin, body := defBody s__law_begin, scope := defScope s__law_begin, dfl := [], kwd := [] }
abbrev s__law_mixed : Stmt := top 16
def dd__law_mixed : He5.DefA := { at_ := fun K => ga K "_law_mixed", name := "_law_mixed", qual := "_law_mixed", params := defArgs s__law_mixed, body := defBody s__law_mixed, scope := defScope s__law_mixed, dfl := [], kwd := [] }
abbrev s__law_draw : Stmt := top 17
def dd__law_draw : He5.DefA := { at_ := fun K => ga K "_law_draw", name := "_law_draw", qual := "_law_draw", params := defArgs s__law_draw, body := defBody s__law_draw, scope := defScope s__law_draw, dfl := [], kwd := [] }
abbrev s__law_kind : Stmt := top 18
def dd__law_kind : He5.DefA := { at_ := fun K => ga K "_law_kind", name := "_law_kind", qual := "_law_kind", params := defArgs s__law_kind, body := defBody s__law_kind, scope := defScope s__law_kind, dfl := [], kwd := [] }
abbrev s__law_fields : Stmt := top 19
def dd__law_fields : He5.DefA := { at_ := fun K => ga K "_law_fields", name := "_law_fields", qual := "_law_fields", params := defArgs s__law_fields, body := defBody s__law_fields, scope := defScope s__law_fields, dfl := [], kwd := [] }
abbrev s__law_named_fields : Stmt := top 20
def dd__law_named_fields : He5.DefA := { at_ := fun K => ga K "_law_named_fields", name := "_law_named_fields", qual := "_law_named_fields", params := defArgs s__law_named_fields, body := defBody s__law_named_fields, scope := defScope s__law_named_fields, dfl := [], kwd := [] }
abbrev s__law_classes : Stmt := top 21
def dd__law_classes : He5.DefA := { at_ := fun K => ga K "_law_classes", name := "_law_classes", qual := "_law_classes", params := defArgs s__law_classes, body := defBody s__law_classes, scope := defScope s__law_classes, dfl := [], kwd := [] }
abbrev s_law : Stmt := top 22
def dd_law : He5.DefA := { at_ := fun K => ga K "law", name := "law", qual := "law", params := defArgs s_law, body := defBody s_law, scope := defScope s_law, dfl := [], kwd := [] }
abbrev s_InvalidNumber___init__ : Stmt := inClass (top 2) 0
def ee_InvalidNumber : ErA := { cls := "InvalidNumber", name := "__init__", qual := "InvalidNumber.__init__", params := defArgs s_InvalidNumber___init__, body := defBody s_InvalidNumber___init__, scope := defScope s_InvalidNumber___init__ }
abbrev s_InvalidText___init__ : Stmt := inClass (top 3) 0
def ee_InvalidText : ErA := { cls := "InvalidText", name := "__init__", qual := "InvalidText.__init__", params := defArgs s_InvalidText___init__, body := defBody s_InvalidText___init__, scope := defScope s_InvalidText___init__ }
abbrev s_InvalidName___init__ : Stmt := inClass (top 4) 0
def ee_InvalidName : ErA := { cls := "InvalidName", name := "__init__", qual := "InvalidName.__init__", params := defArgs s_InvalidName___init__, body := defBody s_InvalidName___init__, scope := defScope s_InvalidName___init__ }
abbrev s_InvalidLevels___init__ : Stmt := inClass (top 5) 0
def ee_InvalidLevels : ErA := { cls := "InvalidLevels", name := "__init__", qual := "InvalidLevels.__init__", params := defArgs s_InvalidLevels___init__, body := defBody s_InvalidLevels___init__, scope := defScope s_InvalidLevels___init__ }
abbrev s_InvalidSwitch___init__ : Stmt := inClass (top 6) 0
def ee_InvalidSwitch : ErA := { cls := "InvalidSwitch", name := "__init__", qual := "InvalidSwitch.__init__", params := defArgs s_InvalidSwitch___init__, body := defBody s_InvalidSwitch___init__, scope := defScope s_InvalidSwitch___init__ }
abbrev s_InvalidMode___init__ : Stmt := inClass (top 7) 0
def ee_InvalidMode : ErA := { cls := "InvalidMode", name := "__init__", qual := "InvalidMode.__init__", params := defArgs s_InvalidMode___init__, body := defBody s_InvalidMode___init__, scope := defScope s_InvalidMode___init__ }
abbrev s_InvalidMenu___init__ : Stmt := inClass (top 8) 0
def ee_InvalidMenu : ErA := { cls := "InvalidMenu", name := "__init__", qual := "InvalidMenu.__init__", params := defArgs s_InvalidMenu___init__, body := defBody s_InvalidMenu___init__, scope := defScope s_InvalidMenu___init__ }
abbrev s_InvalidPlan___init__ : Stmt := inClass (top 9) 0
def ee_InvalidPlan : ErA := { cls := "InvalidPlan", name := "__init__", qual := "InvalidPlan.__init__", params := defArgs s_InvalidPlan___init__, body := defBody s_InvalidPlan___init__, scope := defScope s_InvalidPlan___init__ }
abbrev s_InvalidCommand___init__ : Stmt := inClass (top 10) 0
def ee_InvalidCommand : ErA := { cls := "InvalidCommand", name := "__init__", qual := "InvalidCommand.__init__", params := defArgs s_InvalidCommand___init__, body := defBody s_InvalidCommand___init__, scope := defScope s_InvalidCommand___init__ }
abbrev s_TooLong___init__ : Stmt := inClass (top 11) 0
def ee_TooLong : ErA := { cls := "TooLong", name := "__init__", qual := "TooLong.__init__", params := defArgs s_TooLong___init__, body := defBody s_TooLong___init__, scope := defScope s_TooLong___init__ }
abbrev s_TooMany___init__ : Stmt := inClass (top 12) 0
def ee_TooMany : ErA := { cls := "TooMany", name := "__init__", qual := "TooMany.__init__", params := defArgs s_TooMany___init__, body := defBody s_TooMany___init__, scope := defScope s_TooMany___init__ }
def fa_0 : List (He.Fa) := [.free "len",
  .free "isinstance",
  .free "zip",
  .free "range",
  .free "enumerate",
  .free "list",
  .free "tuple",
  .free "int",
  .free "str",
  .free "abs",
  .free "max",
  .free "min",
  .free "all",
  .free "repr",
  .free "sorted",
  .free "bool",
  .free "set",
  .free "sum",
  .free "any",
  .free "type",
  .free "ValueError",
  .free "OverflowError",
  .free "LookupError",
  .free "super",
  .glo "_law_begin",
  .glo "_law_mixed",
  .glo "_law_draw",
  .glo "_law_kind",
  .glo "_law_fields",
  .glo "_law_named_fields"]
def fa_1 : List (He.Fa) := [.glo "_law_classes",
  .glo "law",
  .glo "WheelError",
  .glo "InvalidNumber",
  .glo "InvalidText",
  .glo "InvalidName",
  .glo "InvalidLevels",
  .glo "InvalidSwitch",
  .glo "InvalidMode",
  .glo "InvalidMenu",
  .glo "InvalidPlan",
  .glo "InvalidCommand",
  .glo "TooLong",
  .glo "TooMany",
  .glo "NothingToUndo"]
def fa : List (He.Fa) := fa_0 ++ fa_1
def fb_0 : List (Frag → Bool) := [bErr "InvalidNumber" "value" file "InvalidNumber.__init__",
  bKn "InvalidNumber" 0,
  bErr "InvalidText" "value" file "InvalidText.__init__",
  bKn "InvalidText" 1,
  bErr "InvalidName" "value" file "InvalidName.__init__",
  bKn "InvalidName" 2,
  bErr "InvalidLevels" "value" file "InvalidLevels.__init__",
  bKn "InvalidLevels" 3,
  bErr "InvalidSwitch" "value" file "InvalidSwitch.__init__",
  bKn "InvalidSwitch" 4,
  bErr "InvalidMode" "value" file "InvalidMode.__init__",
  bKn "InvalidMode" 5,
  bErr "InvalidMenu" "value" file "InvalidMenu.__init__",
  bKn "InvalidMenu" 6,
  bErr "InvalidPlan" "value" file "InvalidPlan.__init__",
  bKn "InvalidPlan" 7,
  bErr "InvalidCommand" "value" file "InvalidCommand.__init__",
  bKn "InvalidCommand" 8,
  bErG dOE "TooLong" "delay" file "TooLong.__init__",
  bKnO "TooLong" 9,
  bErG dOE "TooMany" "limit" file "TooMany.__init__",
  bKnO "TooMany" 10,
  bKnO "NothingToUndo" 11,
  fun K => PySem.W.excIn K (ga K "NothingToUndo") [.type "LookupError", .type "Exception", .type "BaseException", .type "object"] "LookupError.__new__",
  fun K => PySem.W.keepIn K (.ref (ga K "NothingToUndo")),
  fun K => decide (PySem.W.subIn K (.ref (ga K "NothingToUndo")) (.type "BaseException") = some true),
  fun K => decide (PySem.W.typeIn K (.ref (ga K "NothingToUndo")) = some (.type "type")),
  fun K => decide (PySem.W.exmOne K (.ref (ga K "NothingToUndo")) (.ref (ga K "NothingToUndo")) = some true),
  bKu "InvalidNumber" 0,
  bKu "InvalidText" 1]
def fb_1 : List (Frag → Bool) := [bKu "InvalidName" 2,
  bKu "InvalidLevels" 3,
  bKu "InvalidSwitch" 4,
  bKu "InvalidMode" 5,
  bKu "InvalidMenu" 6,
  bKu "InvalidPlan" 7,
  bKu "InvalidCommand" 8,
  bKu "TooLong" 9,
  bKu "TooMany" 10,
  bKu "NothingToUndo" 11]
def fb : List (Frag → Bool) := fb_0 ++ fb_1
def fn_0 : List (He5.DefA) := [dd__law_begin,
  dd__law_mixed,
  dd__law_draw,
  dd__law_kind,
  dd__law_fields,
  dd__law_named_fields,
  dd__law_classes,
  dd_law]
def fnA : List (He5.DefA) := fn_0
def fnB : List (He5.DefA) := []
def fn : List (He5.DefA) := fnA ++ fnB
def ts_0 : List (He.Tab) := []
def ts : List (He.Tab) := ts_0
def er_0 : List (ErA) := [ee_InvalidNumber,
  ee_InvalidText,
  ee_InvalidName,
  ee_InvalidLevels,
  ee_InvalidSwitch,
  ee_InvalidMode,
  ee_InvalidMenu,
  ee_InvalidPlan,
  ee_InvalidCommand,
  ee_TooLong,
  ee_TooMany]
def er : List (ErA) := er_0
abbrev R : PySem.W.OpenRow := PySem.W.OpenLaw.row PySem.Challenge.rw_timerwheels_k29_errors_made
def adr : List Addr := [3, 24, 46, 67, 88, 109, 130, 151, 172, 193, 214, 235, 257, 270, 278, 285, 292, 299, 306, 313, 318, 323, 23, 45, 66, 87, 108, 129, 150, 171, 192, 213, 234, 256, 269, 277, 284, 291, 298, 305, 312, 317, 322, 43, 64, 85, 106, 127, 148, 169, 190, 211, 232, 254, 42, 31, 63, 52, 84, 73, 105, 94, 126, 115, 147, 136, 168, 157, 189, 178, 210, 199, 231, 220, 253, 242, 2]
abbrev hk : PySem.W.Hook := hookE adr fa fb fn er ts []
def ob (s : PySem.W.SharedT) : AlE := obsE adr fa fb fn er ts [] (HandSHeadRun.getT s)
theorem ob_eq (s : PySem.W.SharedT) : ob s = hk.obs s.abs := obsE_eq (HandSHeadRun.getT_eq s)
def loose : List PySem.Str := (["__name__", "WheelError", "InvalidNumber", "InvalidText", "InvalidName", "InvalidLevels", "InvalidSwitch", "InvalidMode", "InvalidMenu", "InvalidPlan", "InvalidCommand", "TooLong", "TooMany", "NothingToUndo", "_law_begin"] : List PySem.Str) ++ (["_law_mixed", "_law_draw", "_law_kind", "_law_fields", "_law_named_fields", "_law_classes"] : List PySem.Str)
theorem run0 (w : World) : HandSHeadRun.RunEq R (PySem.W.view R.prog [22]) hk ob 3969 loose (w.withFollow "special-get-raises" false) := by
  intro os
  kernel_rfl
theorem run1 (w : World) : HandSHeadRun.RunEq R (PySem.W.view R.prog [22]) hk ob 3969 loose (w.withFollow "special-get-raises" true) := by
  intro os
  kernel_rfl
theorem run (w : World) : HandSHeadRun.RunEq R (PySem.W.view R.prog [22]) hk ob 3969 loose w := byRow2 "special-get-raises" (P := fun w => HandSHeadRun.RunEq R (PySem.W.view R.prog [22]) hk ob 3969 loose w) run0 run1 w
structure Tx (K : Frag) (mg : PySem.Str → Option Value) (w : World) : Prop where
  ex : ∃ h : Heap, K.In h ∧ h.Ns mainGlobals mg
  says : SaysM fa fb fn ts w K
  errs : SaysE fa fb fn er ts w K
section
variable {K : Frag} {mg : PySem.Str → Option Value} {w : World}
theorem free_len (T : Tx K mg w) : mg "len" = none := by
  obtain ⟨h, X, G⟩ := T.ex
  exact He.free_ok X G (T.says.fact 0 rfl)
theorem free_isinstance (T : Tx K mg w) : mg "isinstance" = none := by
  obtain ⟨h, X, G⟩ := T.ex
  exact He.free_ok X G (T.says.fact 1 rfl)
theorem free_range (T : Tx K mg w) : mg "range" = none := by
  obtain ⟨h, X, G⟩ := T.ex
  exact He.free_ok X G (T.says.fact 3 rfl)
theorem free_int (T : Tx K mg w) : mg "int" = none := by
  obtain ⟨h, X, G⟩ := T.ex
  exact He.free_ok X G (T.says.fact 7 rfl)
theorem free_str (T : Tx K mg w) : mg "str" = none := by
  obtain ⟨h, X, G⟩ := T.ex
  exact He.free_ok X G (T.says.fact 8 rfl)
theorem free_abs (T : Tx K mg w) : mg "abs" = none := by
  obtain ⟨h, X, G⟩ := T.ex
  exact He.free_ok X G (T.says.fact 9 rfl)
theorem free_repr (T : Tx K mg w) : mg "repr" = none := by
  obtain ⟨h, X, G⟩ := T.ex
  exact He.free_ok X G (T.says.fact 13 rfl)
theorem free_ValueError (T : Tx K mg w) : mg "ValueError" = none := by
  obtain ⟨h, X, G⟩ := T.ex
  exact He.free_ok X G (T.says.fact 20 rfl)
theorem free_OverflowError (T : Tx K mg w) : mg "OverflowError" = none := by
  obtain ⟨h, X, G⟩ := T.ex
  exact He.free_ok X G (T.says.fact 21 rfl)
theorem free_LookupError (T : Tx K mg w) : mg "LookupError" = none := by
  obtain ⟨h, X, G⟩ := T.ex
  exact He.free_ok X G (T.says.fact 22 rfl)
theorem free_super (T : Tx K mg w) : mg "super" = none := by
  obtain ⟨h, X, G⟩ := T.ex
  exact He.free_ok X G (T.says.fact 23 rfl)
theorem glo__law_begin (T : Tx K mg w) : mg "_law_begin" = some (.ref (ga K "_law_begin")) := by
  obtain ⟨h, X, G⟩ := T.ex
  exact He.glo_ok X G (T.says.fact 24 rfl)
theorem d__law_begin (T : Tx K mg w) : ∃ fd, FunD K "_law_begin" "_law_begin" (defArgs s__law_begin) (defBody s__law_begin) (defScope s__law_begin) [] [] (ga K "_law_begin") fd := T.says.def_ 0 (d := dd__law_begin) rfl
theorem glo__law_mixed (T : Tx K mg w) : mg "_law_mixed" = some (.ref (ga K "_law_mixed")) := by
  obtain ⟨h, X, G⟩ := T.ex
  exact He.glo_ok X G (T.says.fact 25 rfl)
theorem d__law_mixed (T : Tx K mg w) : ∃ fd, FunD K "_law_mixed" "_law_mixed" (defArgs s__law_mixed) (defBody s__law_mixed) (defScope s__law_mixed) [] [] (ga K "_law_mixed") fd := T.says.def_ 1 (d := dd__law_mixed) rfl
theorem glo__law_draw (T : Tx K mg w) : mg "_law_draw" = some (.ref (ga K "_law_draw")) := by
  obtain ⟨h, X, G⟩ := T.ex
  exact He.glo_ok X G (T.says.fact 26 rfl)
theorem d__law_draw (T : Tx K mg w) : ∃ fd, FunD K "_law_draw" "_law_draw" (defArgs s__law_draw) (defBody s__law_draw) (defScope s__law_draw) [] [] (ga K "_law_draw") fd := T.says.def_ 2 (d := dd__law_draw) rfl
theorem glo__law_kind (T : Tx K mg w) : mg "_law_kind" = some (.ref (ga K "_law_kind")) := by
  obtain ⟨h, X, G⟩ := T.ex
  exact He.glo_ok X G (T.says.fact 27 rfl)
theorem d__law_kind (T : Tx K mg w) : ∃ fd, FunD K "_law_kind" "_law_kind" (defArgs s__law_kind) (defBody s__law_kind) (defScope s__law_kind) [] [] (ga K "_law_kind") fd := T.says.def_ 3 (d := dd__law_kind) rfl
theorem glo__law_fields (T : Tx K mg w) : mg "_law_fields" = some (.ref (ga K "_law_fields")) := by
  obtain ⟨h, X, G⟩ := T.ex
  exact He.glo_ok X G (T.says.fact 28 rfl)
theorem d__law_fields (T : Tx K mg w) : ∃ fd, FunD K "_law_fields" "_law_fields" (defArgs s__law_fields) (defBody s__law_fields) (defScope s__law_fields) [] [] (ga K "_law_fields") fd := T.says.def_ 4 (d := dd__law_fields) rfl
theorem glo__law_named_fields (T : Tx K mg w) : mg "_law_named_fields" = some (.ref (ga K "_law_named_fields")) := by
  obtain ⟨h, X, G⟩ := T.ex
  exact He.glo_ok X G (T.says.fact 29 rfl)
theorem d__law_named_fields (T : Tx K mg w) : ∃ fd, FunD K "_law_named_fields" "_law_named_fields" (defArgs s__law_named_fields) (defBody s__law_named_fields) (defScope s__law_named_fields) [] [] (ga K "_law_named_fields") fd := T.says.def_ 5 (d := dd__law_named_fields) rfl
theorem glo__law_classes (T : Tx K mg w) : mg "_law_classes" = some (.ref (ga K "_law_classes")) := by
  obtain ⟨h, X, G⟩ := T.ex
  exact He.glo_ok X G (T.says.fact 30 rfl)
theorem d__law_classes (T : Tx K mg w) : ∃ fd, FunD K "_law_classes" "_law_classes" (defArgs s__law_classes) (defBody s__law_classes) (defScope s__law_classes) [] [] (ga K "_law_classes") fd := T.says.def_ 6 (d := dd__law_classes) rfl
theorem glo_law (T : Tx K mg w) : mg "law" = some (.ref (ga K "law")) := by
  obtain ⟨h, X, G⟩ := T.ex
  exact He.glo_ok X G (T.says.fact 31 rfl)
theorem d_law (T : Tx K mg w) : ∃ fd, FunD K "law" "law" (defArgs s_law) (defBody s_law) (defScope s_law) [] [] (ga K "law") fd := T.says.def_ 7 (d := dd_law) rfl
theorem glo_WheelError (T : Tx K mg w) : mg "WheelError" = some (.ref (ga K "WheelError")) := by
  obtain ⟨h, X, G⟩ := T.ex
  exact He.glo_ok X G (T.says.fact 32 rfl)
theorem glo_InvalidNumber (T : Tx K mg w) : mg "InvalidNumber" = some (.ref (ga K "InvalidNumber")) := by
  obtain ⟨h, X, G⟩ := T.ex
  exact He.glo_ok X G (T.says.fact 33 rfl)
theorem er_InvalidNumber (T : Tx K mg w) : ErrF K "InvalidNumber" "value" file "InvalidNumber.__init__" := err_ok ((T.says.bool 0 rfl))
theorem kn_InvalidNumber (T : Tx K mg w) : KnF K (ga K "InvalidNumber") 0 ∧ exmOne K (.ref (ga K "InvalidNumber")) (.ref (ga K "WheelError")) = some true := kn_ok ((T.says.bool 1 rfl))
theorem ef_InvalidNumber (T : Tx K mg w) : fnC K (ma K (ga K "InvalidNumber") "__init__") = ee_InvalidNumber.val := T.errs.err 0 (d := ee_InvalidNumber) rfl
theorem glo_InvalidText (T : Tx K mg w) : mg "InvalidText" = some (.ref (ga K "InvalidText")) := by
  obtain ⟨h, X, G⟩ := T.ex
  exact He.glo_ok X G (T.says.fact 34 rfl)
theorem er_InvalidText (T : Tx K mg w) : ErrF K "InvalidText" "value" file "InvalidText.__init__" := err_ok ((T.says.bool 2 rfl))
theorem kn_InvalidText (T : Tx K mg w) : KnF K (ga K "InvalidText") 1 ∧ exmOne K (.ref (ga K "InvalidText")) (.ref (ga K "WheelError")) = some true := kn_ok ((T.says.bool 3 rfl))
theorem ef_InvalidText (T : Tx K mg w) : fnC K (ma K (ga K "InvalidText") "__init__") = ee_InvalidText.val := T.errs.err 1 (d := ee_InvalidText) rfl
theorem glo_InvalidName (T : Tx K mg w) : mg "InvalidName" = some (.ref (ga K "InvalidName")) := by
  obtain ⟨h, X, G⟩ := T.ex
  exact He.glo_ok X G (T.says.fact 35 rfl)
theorem er_InvalidName (T : Tx K mg w) : ErrF K "InvalidName" "value" file "InvalidName.__init__" := err_ok ((T.says.bool 4 rfl))
theorem kn_InvalidName (T : Tx K mg w) : KnF K (ga K "InvalidName") 2 ∧ exmOne K (.ref (ga K "InvalidName")) (.ref (ga K "WheelError")) = some true := kn_ok ((T.says.bool 5 rfl))
theorem ef_InvalidName (T : Tx K mg w) : fnC K (ma K (ga K "InvalidName") "__init__") = ee_InvalidName.val := T.errs.err 2 (d := ee_InvalidName) rfl
theorem glo_InvalidLevels (T : Tx K mg w) : mg "InvalidLevels" = some (.ref (ga K "InvalidLevels")) := by
  obtain ⟨h, X, G⟩ := T.ex
  exact He.glo_ok X G (T.says.fact 36 rfl)
theorem er_InvalidLevels (T : Tx K mg w) : ErrF K "InvalidLevels" "value" file "InvalidLevels.__init__" := err_ok ((T.says.bool 6 rfl))
theorem kn_InvalidLevels (T : Tx K mg w) : KnF K (ga K "InvalidLevels") 3 ∧ exmOne K (.ref (ga K "InvalidLevels")) (.ref (ga K "WheelError")) = some true := kn_ok ((T.says.bool 7 rfl))
theorem ef_InvalidLevels (T : Tx K mg w) : fnC K (ma K (ga K "InvalidLevels") "__init__") = ee_InvalidLevels.val := T.errs.err 3 (d := ee_InvalidLevels) rfl
theorem glo_InvalidSwitch (T : Tx K mg w) : mg "InvalidSwitch" = some (.ref (ga K "InvalidSwitch")) := by
  obtain ⟨h, X, G⟩ := T.ex
  exact He.glo_ok X G (T.says.fact 37 rfl)
theorem er_InvalidSwitch (T : Tx K mg w) : ErrF K "InvalidSwitch" "value" file "InvalidSwitch.__init__" := err_ok ((T.says.bool 8 rfl))
theorem kn_InvalidSwitch (T : Tx K mg w) : KnF K (ga K "InvalidSwitch") 4 ∧ exmOne K (.ref (ga K "InvalidSwitch")) (.ref (ga K "WheelError")) = some true := kn_ok ((T.says.bool 9 rfl))
theorem ef_InvalidSwitch (T : Tx K mg w) : fnC K (ma K (ga K "InvalidSwitch") "__init__") = ee_InvalidSwitch.val := T.errs.err 4 (d := ee_InvalidSwitch) rfl
theorem glo_InvalidMode (T : Tx K mg w) : mg "InvalidMode" = some (.ref (ga K "InvalidMode")) := by
  obtain ⟨h, X, G⟩ := T.ex
  exact He.glo_ok X G (T.says.fact 38 rfl)
theorem er_InvalidMode (T : Tx K mg w) : ErrF K "InvalidMode" "value" file "InvalidMode.__init__" := err_ok ((T.says.bool 10 rfl))
theorem kn_InvalidMode (T : Tx K mg w) : KnF K (ga K "InvalidMode") 5 ∧ exmOne K (.ref (ga K "InvalidMode")) (.ref (ga K "WheelError")) = some true := kn_ok ((T.says.bool 11 rfl))
theorem ef_InvalidMode (T : Tx K mg w) : fnC K (ma K (ga K "InvalidMode") "__init__") = ee_InvalidMode.val := T.errs.err 5 (d := ee_InvalidMode) rfl
theorem glo_InvalidMenu (T : Tx K mg w) : mg "InvalidMenu" = some (.ref (ga K "InvalidMenu")) := by
  obtain ⟨h, X, G⟩ := T.ex
  exact He.glo_ok X G (T.says.fact 39 rfl)
theorem er_InvalidMenu (T : Tx K mg w) : ErrF K "InvalidMenu" "value" file "InvalidMenu.__init__" := err_ok ((T.says.bool 12 rfl))
theorem kn_InvalidMenu (T : Tx K mg w) : KnF K (ga K "InvalidMenu") 6 ∧ exmOne K (.ref (ga K "InvalidMenu")) (.ref (ga K "WheelError")) = some true := kn_ok ((T.says.bool 13 rfl))
theorem ef_InvalidMenu (T : Tx K mg w) : fnC K (ma K (ga K "InvalidMenu") "__init__") = ee_InvalidMenu.val := T.errs.err 6 (d := ee_InvalidMenu) rfl
theorem glo_InvalidPlan (T : Tx K mg w) : mg "InvalidPlan" = some (.ref (ga K "InvalidPlan")) := by
  obtain ⟨h, X, G⟩ := T.ex
  exact He.glo_ok X G (T.says.fact 40 rfl)
theorem er_InvalidPlan (T : Tx K mg w) : ErrF K "InvalidPlan" "value" file "InvalidPlan.__init__" := err_ok ((T.says.bool 14 rfl))
theorem kn_InvalidPlan (T : Tx K mg w) : KnF K (ga K "InvalidPlan") 7 ∧ exmOne K (.ref (ga K "InvalidPlan")) (.ref (ga K "WheelError")) = some true := kn_ok ((T.says.bool 15 rfl))
theorem ef_InvalidPlan (T : Tx K mg w) : fnC K (ma K (ga K "InvalidPlan") "__init__") = ee_InvalidPlan.val := T.errs.err 7 (d := ee_InvalidPlan) rfl
theorem glo_InvalidCommand (T : Tx K mg w) : mg "InvalidCommand" = some (.ref (ga K "InvalidCommand")) := by
  obtain ⟨h, X, G⟩ := T.ex
  exact He.glo_ok X G (T.says.fact 41 rfl)
theorem er_InvalidCommand (T : Tx K mg w) : ErrF K "InvalidCommand" "value" file "InvalidCommand.__init__" := err_ok ((T.says.bool 16 rfl))
theorem kn_InvalidCommand (T : Tx K mg w) : KnF K (ga K "InvalidCommand") 8 ∧ exmOne K (.ref (ga K "InvalidCommand")) (.ref (ga K "WheelError")) = some true := kn_ok ((T.says.bool 17 rfl))
theorem ef_InvalidCommand (T : Tx K mg w) : fnC K (ma K (ga K "InvalidCommand") "__init__") = ee_InvalidCommand.val := T.errs.err 8 (d := ee_InvalidCommand) rfl
theorem glo_TooLong (T : Tx K mg w) : mg "TooLong" = some (.ref (ga K "TooLong")) := by
  obtain ⟨h, X, G⟩ := T.ex
  exact He.glo_ok X G (T.says.fact 42 rfl)
theorem glo_TooMany (T : Tx K mg w) : mg "TooMany" = some (.ref (ga K "TooMany")) := by
  obtain ⟨h, X, G⟩ := T.ex
  exact He.glo_ok X G (T.says.fact 43 rfl)
theorem glo_NothingToUndo (T : Tx K mg w) : mg "NothingToUndo" = some (.ref (ga K "NothingToUndo")) := by
  obtain ⟨h, X, G⟩ := T.ex
  exact He.glo_ok X G (T.says.fact 44 rfl)
theorem er_TooLong (T : Tx K mg w) : ErrG dOE K "TooLong" "delay" file "TooLong.__init__" := erG_ok bfOE ((T.says.bool 18 rfl))
theorem kn_TooLong (T : Tx K mg w) : KnO K "TooLong" 9 := knO_ok ((T.says.bool 19 rfl))
theorem ef_TooLong (T : Tx K mg w) : fnC K (ma K (ga K "TooLong") "__init__") = ee_TooLong.val := T.errs.err 9 (d := ee_TooLong) rfl
theorem er_TooMany (T : Tx K mg w) : ErrG dOE K "TooMany" "limit" file "TooMany.__init__" := erG_ok bfOE ((T.says.bool 20 rfl))
theorem kn_TooMany (T : Tx K mg w) : KnO K "TooMany" 10 := knO_ok ((T.says.bool 21 rfl))
theorem ef_TooMany (T : Tx K mg w) : fnC K (ma K (ga K "TooMany") "__init__") = ee_TooMany.val := T.errs.err 10 (d := ee_TooMany) rfl
theorem kn_NothingToUndo (T : Tx K mg w) : KnO K "NothingToUndo" 11 := knO_ok ((T.says.bool 22 rfl))
theorem xc_NothingToUndo (T : Tx K mg w) : PySem.W.excIn K (ga K "NothingToUndo") [.type "LookupError", .type "Exception", .type "BaseException", .type "object"] "LookupError.__new__" = true := (T.says.bool 23 rfl)
theorem kq_NothingToUndo (T : Tx K mg w) : PySem.W.keepIn K (.ref (ga K "NothingToUndo")) = true := (T.says.bool 24 rfl)
theorem ku_InvalidNumber (T : Tx K mg w) : KuF K (ga K "InvalidNumber") 0 := ku_ok ((T.says.bool 28 rfl))
theorem ku_InvalidText (T : Tx K mg w) : KuF K (ga K "InvalidText") 1 := ku_ok ((T.says.bool 29 rfl))
theorem ku_InvalidName (T : Tx K mg w) : KuF K (ga K "InvalidName") 2 := ku_ok ((T.says.bool 30 rfl))
theorem ku_InvalidLevels (T : Tx K mg w) : KuF K (ga K "InvalidLevels") 3 := ku_ok ((T.says.bool 31 rfl))
theorem ku_InvalidSwitch (T : Tx K mg w) : KuF K (ga K "InvalidSwitch") 4 := ku_ok ((T.says.bool 32 rfl))
theorem ku_InvalidMode (T : Tx K mg w) : KuF K (ga K "InvalidMode") 5 := ku_ok ((T.says.bool 33 rfl))
theorem ku_InvalidMenu (T : Tx K mg w) : KuF K (ga K "InvalidMenu") 6 := ku_ok ((T.says.bool 34 rfl))
theorem ku_InvalidPlan (T : Tx K mg w) : KuF K (ga K "InvalidPlan") 7 := ku_ok ((T.says.bool 35 rfl))
theorem ku_InvalidCommand (T : Tx K mg w) : KuF K (ga K "InvalidCommand") 8 := ku_ok ((T.says.bool 36 rfl))
theorem ku_TooLong (T : Tx K mg w) : KuF K (ga K "TooLong") 9 := ku_ok ((T.says.bool 37 rfl))
theorem ku_TooMany (T : Tx K mg w) : KuF K (ga K "TooMany") 10 := ku_ok ((T.says.bool 38 rfl))
theorem ku_NothingToUndo (T : Tx K mg w) : KuF K (ga K "NothingToUndo") 11 := ku_ok ((T.says.bool 39 rfl))
end
def spLaw (K : Frag) : Sp := fun vs H Q _ => ∃ (a : Addr) (ns : List Int), vs = [.ref a] ∧ SqL K H a (ns.map V.int) ∧ ns.length ≤ 63 ∧ ∀ H', Q (.bl true) H'
end Hd
section
open PySem PySem.W PySem.Calls PyProof.Rows
theorem Hd.holds {k : Nat} {CX : L2.CXT} (hCX : ∀ (H : L2.Hp) (s : Shared) (e : Value) (s' : Shared), CX [] H s (fun _ _ _ => False) e s' → False) (hr : Tw.RmG k callerA)
    (F : ∀ (K : Frag) (mg : PySem.Str → Option Value) (w : World) (base : Heap), Hd.Tx K mg w → Tw.FnG (PySem.Challenge.rw_timerwheels_k29_errors_made).prog w K mg base CX k (He.ga K "law") (Hd.spLaw K)) : PySem.Challenge.rw_timerwheels_k29_errors_made.Holds := by
  w_on; o_law
  refine HandSHeadRun.head_any (r := OpenLaw.row PySem.Challenge.rw_timerwheels_k29_errors_made) (q := view (OpenLaw.row PySem.Challenge.rw_timerwheels_k29_errors_made).prog [22]) (H := Hd.hk) (ob := Hd.ob) (M := 3969) (loose := Hd.loose) (d := HandSHeadRun.topDef (OpenLaw.row PySem.Challenge.rw_timerwheels_k29_errors_made).prog 22) (kwd := []) Hd.ob_eq
    (by kernel_rfl) (fun s => by kernel_rfl) Hd.run (by kernel_rfl) (by kernel_rfl) (by kernel_rfl) (by rfl) (by first | assumption | decide +kernel) (by decide +kernel) ⟨rfl, rfl, rfl, rfl, rfl, by decide +kernel⟩ ?hw ?hc
  case hw => w_witness2
  case hc =>
    refine Tw.walk_ofGT (l := PySem.Challenge.rw_timerwheels_k29_errors_made) (n := 63) (k := k) (CX := CX) rfl (by decide) (by kernel_rfl) hr ?F hCX
    intro w mg fa h Y G hmg0
    obtain ⟨K, KX, c, tb⟩ := Y
    have hmg : mg ("law" : PySem.Str) = some (.ref fa) := by
      have e : (HandSHeadRun.topDef (OpenLaw.row PySem.Challenge.rw_timerwheels_k29_errors_made).prog 22).name = ("law" : PySem.Str) := by kernel_rfl
      rw [← e]
      exact hmg0
    have T : Hd.Tx K mg w := ⟨⟨h, KX, G⟩, c.m, c⟩
    have e := hmg.symm.trans (Hd.glo_law T)
    cases e
    refine ⟨K, [], Hd.spLaw K, KX, ?_, ?_, ?_, fun H a ns hl hS hB => ⟨a, ns, rfl, hS, hl,  fun _ => rfl⟩, fun base _ _ hB => F K mg w base T ⟩
    · intro p hp
      exact absurd hp List.not_mem_nil
    · intro p hp
      exact absurd hp List.not_mem_nil
    · intro p hp
      exact absurd hp List.not_mem_nil
end
namespace Tw
open PySem PySem.Calls PySem.HandSPX
section
variable {M : Model} {prog : Program} {w : World} {A : Around} {E : Value → Shared → Prop} {R : Result → Shared → Prop} {h : Heap} {g : Array GenState} {d : Drawn} {t : Nat} {os : OsState}
variable {nm q : Str} {C N : Addr} {bs bm bmB : List Value} {hdct : Bool} {sn : List Str} {sub : List Value} {ab : Bool} {col : Option Bool} {dd : Option Addr} {k0 k1 k2 k3 k5 : Option Value} {B newId initId : String}
theorem new_check (F : ExcBaseFacts B newId initId bmB) (hT : ∀ X : String, bm.contains (.type X) = bmB.contains (.type X)) {rest : List Value} {kw : List (Str × Value)} {Q : Unit → Shared → Prop}
    (hC : h.get? C = some (excClassObj nm q C N bs bm hdct sn sub ab col dd k0 k1 k2 k3 k5 newId)) (hq : Q () ⟨h, g, d, t, os⟩) : wpAny M A (checkBuiltinCall newId ⟨.ref C :: rest, kw⟩) Q E ⟨h, g, d, t, os⟩ := by
  have has : (Value.ref C :: bm).contains (.type B) = true := by rw [List.contains_cons, hT, F.hasB, Bool.or_true]
  have nos := F.noStar
  simp only [checkBuiltinCall, F.newKind, F.newSplit, F.newRow]
  repeat (first | refine wpAny_loadPart_at hC ?_ | (refine wpAny_isSubtype_exc hC ?_; rw [has]) | refine wpAny_staticBase_exc hC ?_ | refine wpAny_madeBy_exc hC ?_ | simp only [bne_self_eq_false, Bool.false_eq_true, if_false] | wp_step)
  exact hq
theorem new_kw (F : ExcBaseFacts B newId initId bmB) (hT : ∀ X : String, bm.contains (.type X) = bmB.contains (.type X)) {rest : List Value} {kw : List (Str × Value)}
    (hC : h.get? C = some (excClassObj nm q C N bs bm hdct sn sub ab col dd k0 k1 k2 k3 k5 newId))
    (hq : R (.ok (.ret (.ref (h.objs.size + 1)))) ⟨(h.push (W.kdv_tup rest)).push (excO C h.objs.size), g, d, t, os⟩) (hl : rest.length ≤ sizeLine) :
    codeAny (model prog w) A (.builtin newId ⟨.ref C :: rest, kw⟩) R ⟨h, g, d, t, os⟩ := by
  have hends := F.ends
  have n1 : (Value.ref C :: bm).contains (.type B) = true := by rw [List.contains_cons, hT, F.hasB, Bool.or_true]
  have n2 : (Value.ref C :: bm).contains (.type "AttributeError") = false := by rw [List.contains_cons, hT, F.noAttr]; rfl
  have n3 : (Value.ref C :: bm).contains (.type "NameError") = false := by rw [List.contains_cons, hT, F.noName]; rfl
  refine codeAny_builtinAt F.entry ?_
  unfold Builtin.«BaseException.__new__»
  refine PySem.wpAt_bind ?_
  show PySem.wpAt _ _ _ (stack >>= _) _ _ _
  refine PySem.wpAt_bind (PySem.wpAt_stack fun p below => PySem.wpAt_of_wpAny ?_)
  wp_walk
  refine PySem.wpAt_of_wpAny ?_
  rw [F.owner]
  repeat (first | with_reducible refine wpAny_madeHere_exc F.canon hC ?_ | with_reducible refine wpAny_loadPart_at hC ?_ | (with_reducible refine wpAny_isSubtype_exc hC ?_; first | rw [n1] | rw [n2] | rw [n3]) | wp_step)
  show R _ _
  rw [Heap.size_push]
  exact hq
theorem type_call_kw (F : ExcBaseFacts B newId initId bmB) (hT : ∀ X : String, bm.contains (.type X) = bmB.contains (.type X)) {rest : List Value} {kw : List (Str × Value)} {fI : Addr} {Q : Fin → Shared → Prop}
    (hC : h.get? C = some (excClassObj nm q C N bs bm hdct sn sub ab col dd k0 k1 k2 k3 k5 newId))
    (hi : W.Looks (model prog w) h (typeLookup (.ref C) "__init__") (some (.ref fI))) (hb : ∀ self, W.Looks (model prog w) h (bindSpecial (.ref fI) self) (.ref fI, [self])) (hl : rest.length ≤ sizeLine)
    (hq : codeAny (model prog w) A (.call (.ref fI) ⟨.ref (h.objs.size + 1) :: rest, kw⟩)
      (fun r s' => match r with | .ok (.ret v) => v = .none ∧ Q (.done (.ret (.ref (h.objs.size + 1)))) s' | .ok _ => False | .error e => E e s')
      ⟨(h.push (W.kdv_tup rest)).push (excO C h.objs.size), g, d, t, os⟩) :
    wpAny (model prog w) A (Builtin.«type.__call__» ⟨.ref C :: rest, kw⟩) Q E ⟨h, g, d, t, os⟩ := by
  repeat (first | with_reducible refine wpAny_loadPart_at hC ?_ | with_reducible refine wpAny_madeBy_exc hC ?_ | wp_step)
  refine codeAny_call_builtin_code (Code.quiet_builtin _ F.quiet) (new_check F hT hC ?_)
  refine new_kw F hT hC ?_ hl
  show wpAny _ _ _ _ _ _
  have kept : ∀ b o, h.get? b = some o → ((h.push (W.kdv_tup rest)).push (excO C h.objs.size)).get? b = some o := fun b o e => Heap.get?_push_of_some _ (Heap.get?_push_of_some _ e)
  have cls1 := kept _ _ hC
  have here : ((h.push (W.kdv_tup rest)).push (excO C h.objs.size)).get? (h.objs.size + 1) = some (excO C h.objs.size) := by heap_get
  have own : (Value.ref C :: bm).contains (.ref C) = true := by simp
  have i1 := hi.keeps kept
  have b1 := (hb (.ref (h.objs.size + 1))).keeps kept
  unfold isInstance
  repeat (first | with_reducible refine wpAny_loadPart_at here ?_ | (with_reducible refine wpAny_isSubtype_exc cls1 ?_; rw [own]) | wp_step)
  show wpAny _ _ (typeLookup (.ref C) _) _ _ _
  refine i1.at ?_
  refine wpAny_holding (wpAny_bind (b1.at ?_))
  refine wpAny_bind (wpAny_call (codeAny_mono hq fun r s' z => ?_))
  rcases r with e | (v | _ | _ | _) <;> first | exact z | exact z.elim | skip
  obtain ⟨rfl, z⟩ := z
  first
    | exact wpAny_pure (wpAny_pure z)
    | (wp_walk; exact z)
theorem call_kw (F : ExcBaseFacts B newId initId bmB) (hT : ∀ X : String, bm.contains (.type X) = bmB.contains (.type X)) {rest : List Value} {kw : List (Str × Value)} {fI : Addr}
    (hC : h.get? C = some (excClassObj nm q C N bs bm hdct sn sub ab col dd k0 k1 k2 k3 k5 newId))
    (hi : W.Looks (model prog w) h (typeLookup (.ref C) "__init__") (some (.ref fI))) (hb : ∀ self, W.Looks (model prog w) h (bindSpecial (.ref fI) self) (.ref fI, [self])) (hl : rest.length ≤ sizeLine)
    (hq : codeAny (model prog w) (A.under (.builtin "type.__call__" ⟨.ref C :: rest, kw⟩)) (.call (.ref fI) ⟨.ref (h.objs.size + 1) :: rest, kw⟩) (W.InitBack (h.objs.size + 1) R)
      ⟨(h.push (W.kdv_tup rest)).push (excO C h.objs.size), g, d, t, os⟩) :
    codeAny (model prog w) A (.call (.ref C) ⟨rest, kw⟩) R ⟨h, g, d, t, os⟩ := by
  have f1 := tc_lookup
  have f2 := tc_bind (.ref C)
  have hTy : (⟨h, g, d, t, os⟩ : Shared).TypeIs (.ref C) "type" := ⟨_, hC, rfl⟩
  refine codeAny_of_tree ?_
  show wpAny _ _ (callAny (.ref C) _) _ _ _
  repeat (any_goals (first | assumption | with_reducible refine wpAny_loadPart_at hC ?_ | wp_step))
  refine ⟨rfl, ?_⟩
  refine codeAny_call_builtin_at (Code.quiet_builtin _ (by decide +kernel)) entry_typeCall (wpAny_check_type_call_sub hC (type_call_kw F hT hC hi hb hl ?_))
  refine codeAny_mono hq fun r s' z => ?_
  rcases r with e | (v | _ | _ | _) <;> exact z
end
end Tw
/-! Tw: try with several clauses 'except C as n' -/
namespace Tw
open PySem PySem.Spec PyProof.Rows L2
abbrev Cl : Type := Value × Nat × (Addr → Value → Option Addr → TS)
def wAll (K : PySem.W.Frag) (n : Nat) (Wout : WX) (D : Ends) : List Cl → WX
  | [] => Wout
  | q :: r => fun cls d σ H => ∃ b, PySem.W.exmOne K cls q.1 = some b ∧ (b = true → σ.length = n → ∀ a, H a = none → q.2.2 a cls d { nx := fun σ2 H2 => D.nx (σ2.set q.2.1 none) H2, rt := D.rt, bk := fun σ2 H2 => D.bk (σ2.set q.2.1 none) H2, ct := fun σ2 H2 => D.ct (σ2.set q.2.1 none) H2 } (σ.set q.2.1 (some (.ref a))) H) ∧
      (b = false → wAll K n Wout D r cls d σ H)
inductive ClsOk (X : Cx) : List ExceptHandler → List Cl → Prop
  | nil : ClsOk X [] []
  | cons {x n : Str} {c : Value} {i : Nat} {ts : Addr → Value → Option Addr → TS} {b : Stmt} {bs : List Stmt} {p q : Pos} {hs : List ExceptHandler} {l : List Cl} (hi : X.N[i]? = some n) (hn : X.env.kindOf n = some .local) (hc : Names X x c)
      (hb : ∀ (a : Addr) (oe : Obj) (cls : Value) (d : Option Addr) (pn : List (Addr × Obj)), Zc cls d oe → (∃ vs, oe.data = .fields vs) → PSs (X.suite a ((a, oe) :: pn)) (b :: bs) (ts a cls d)) (r : ClsOk X hs l) :
      ClsOk X (.ExceptHandler (some (.Name x p)) (some n) (b :: bs) q :: hs) ((c, i, ts) :: l)
structure Cau (X : Cx) (pins : List (Addr × Obj)) (σ : L2.St) (H : Hp) (cls : Value) (d : Option Addr) (a : Addr) (B : Heap) (sI s : Shared) (h : Heap) : Prop where
  inv : Inv X pins σ H sI
  old : ∀ b o, sI.heap.get? b = some o → b ∉ frs X.stack → B.get? b = some o
  up : sI.heap.UpToSlots h
  new : H a = none
  os : s.os = sI.os
  bare : AllBare s.gens
  fly : HandSPX.FlyingZ B (X.env :: X.outer) a (Zc cls d) h
section
variable {X : Cx} {pins : List (Addr × Obj)} {σ : L2.St} {H : Hp} {cls : Value} {d : Option Addr} {a : Addr} {B : Heap} {sI s : Shared} {h : Heap}
theorem Cau.here (c : Cau X pins σ H cls d a B sI s h) : Inv X pins σ H { s with heap := h } := c.inv.landed c.old c.fly.1 c.up c.os c.bare
theorem Cau.apart (c : Cau X pins σ H cls d a B sI s h) (hf : X.env.frame = some X.env.locals) : ∃ oe vs, h.get? a = some oe ∧ Zc cls d oe ∧ oe.data = .fields vs ∧ a ≠ X.env.locals ∧ a ∉ X.fs := by
  obtain ⟨oe, vs, e, z, k⟩ := c.fly.there
  have nf : a ∉ frs (X.env :: X.outer) := fun m => by
    obtain ⟨_, o2, e2, n2⟩ := c.fly.2.2.1.mem m
    rw [e] at e2
    cases e2
    exact n2 _ k
  refine ⟨oe, vs, e, z, k, fun y => nf (List.mem_filterMap.mpr ⟨X.env, List.mem_cons_self, by rw [hf, y]⟩), fun y => ?_⟩
  obtain ⟨e1, m1, g1⟩ := List.mem_filterMap.mp y
  exact nf (List.mem_filterMap.mpr ⟨e1, List.mem_cons_of_mem _ m1, g1⟩)
theorem Cau.pass {Wout : WX} {D : Ends} (c : Cau X pins σ H cls d a B sI s h) (hs : X.stack = X.env :: X.outer) (hf : X.env.frame = some X.env.locals) (tk : Takes X Wout) (w : Wout cls d σ H) :
    wpAny (model X.prog X.w) X.A (handleBy (.ref a) X.env []) (SP X pins D) X.xe { s with heap := h } := by
  refine wpAny_handleBy_nil ?_
  obtain ⟨_, _, _, oe, vs, T, oT, ts, e, _, k, h1, _⟩ := id c.fly
  unfold PySem.passOn
  refine wpAny_bind (wpAny_field e k h1 ?_)
  have ne : ¬ ((Value.ref T == Value.none) = true) := by simp
  rw [if_neg ne]
  have out : wpAny (model X.prog X.w) X.A (setFlight (.ref a) X.env.frame) (fun _ s4 => wpAny (model X.prog X.w) X.A (throw (.ref a) : Sem Flow) (SP X pins D) X.xe s4) X.xe { s with heap := h } := by
    rw [hf]
    exact HandSPX.setFlight_upZ c.fly fun h4 k4 u4 => wpAny_throw (tk _ _ ⟨a, B, sI, pins, σ, H, cls, d, rfl, c.inv, c.old, c.up.trans u4, .inr (.inr (by rw [hs]; exact k4)), c.new, c.os, c.bare, w⟩)
  first
    | exact wpAny_bind (wpAny_pure (wpAny_bind out))
    | exact wpAny_bind out
theorem Cau.look (c : Cau X pins σ H cls d a B sI s h) (hs : X.stack = X.env :: X.outer) (hf : X.env.frame = some X.env.locals) (hN : X.N.Nodup) {Wout : WX} {D : Ends} (tk : Takes X Wout) :
    ∀ {hds : List ExceptHandler} {l : List Cl}, ClsOk X hds l → wAll X.K X.N.length Wout D l cls d σ H → wpAny (model X.prog X.w) X.A (handleBy (.ref a) X.env hds) (SP X pins D) X.xe { s with heap := h } := by
  intro hds l ok
  have okX := c.inv.ok
  have hfr : X.A.frames = some (X.env :: X.outer) := by rw [okX.frames, hs]
  induction ok with
  | nil => exact fun w => c.pass hs hf tk w
  | @cons x n cc i ts b bs p q hs2 l2 hi hn hc hb r ih =>
    rintro ⟨v, e1, yes, no⟩
    refine wpAny_handleBy_cons (codeAny_handlers_test ?_) (by intro z; cases z)
    obtain ⟨oe, vs, e, z, k, nL, nF⟩ := c.apart hf
    have lt : PySem.W.Looks (model X.prog X.w) h (typeOf (.ref a)) cls := fun A Q E s2 k2 q2 => wpAny_typeOf_ref (k2 _ _ e) (by rw [z.1]; exact q2)
    have lm := PySem.W.exm_one (M := model X.prog X.w) c.here.kIn lt e1
    have inS := c.here.suite e k c.new nL nF
    have ask : ∀ {Q : Value → Shared → Prop} {E : Value → Shared → Prop}, Q cc { s with heap := h } → wpAny (model X.prog X.w) (X.A.mark (some (.ref a))) (eval (.Name x p) X.env) Q E { s with heap := h } := fun {Q E} q2 => by
      obtain ⟨g, nd, m | ⟨m, bo, nn⟩⟩ := hc
      · exact ld_glob (X := X.suite a ((a, oe) :: (X.pn ++ pins))) inS g m q2 nd
      · exact ld_blt (X := X.suite a ((a, oe) :: (X.pn ++ pins))) inS g m bo q2 nn nd
    refine ask (lm.here ?_)
    cases v with
    | false =>
      show wpAny _ X.A (handleBy (.ref a) X.env hs2) _ _ _
      exact ih (no rfl)
    | true =>
      refine codeAny_handlers_suite_as (HandSPX.lands_againZ c.fly fun h4 f4 u4 => ?_)
      have c4 : Cau X pins σ H cls d a B sI s h4 := ⟨c.inv, c.old, c.up.trans u4, c.new, c.os, c.bare, f4⟩
      obtain ⟨o4, w4, e4, z4, k4, nL4, nF4⟩ := c4.apart hf
      have S4 := c4.here.suite e4 k4 c4.new nL4 nF4
      refine store_ok (X := X.suite a ((a, o4) :: (X.pn ++ pins))) (v := .ref a) S4 hN hi (.inl hn) rfl (fun s5 S5 => ?_) (.inr hn)
      refine wpAny_mono ((hb a o4 cls d (X.pn ++ pins) z4 ⟨_, k4⟩).run [] s5 _ H _ S5 (yes rfl c.inv.len a c.new)) (fun f s6 g6 => ?_) (fun _ _ z => False.elim z)
      have bye : ∀ {σ6 : L2.St} {H6 : Hp} {Q : Shared → Prop}, Inv (X.suite a ((a, o4) :: (X.pn ++ pins))) [] σ6 H6 s6 → (∀ s7, Inv X pins (σ6.set i none) H6 s7 → Q s7) → wpAny (model X.prog X.w) X.A (do bindName X.env n .none; unbindBehindTheSuite X.env n q) (fun _ s7 => Q s7) X.xe s6 :=
        fun {σ6 H6 Q} S6 w6 => gone_ok (S6.unsuite okX) hN hi hn w6
      cases f with
      | ret u =>
        obtain ⟨v6, σ6, H6, S6, r6, w6⟩ := g6
        exact bye S6 fun s7 J7 => ⟨v6, _, _, J7, r6, w6⟩
      | next =>
        obtain ⟨σ6, H6, S6, w6⟩ := g6
        exact bye S6 fun s7 J7 => ⟨_, _, J7, w6⟩
      | brk =>
        obtain ⟨σ6, H6, S6, w6⟩ := g6
        exact bye S6 fun s7 J7 => ⟨_, _, J7, w6⟩
      | cont =>
        obtain ⟨σ6, H6, S6, w6⟩ := g6
        exact bye S6 fun s7 J7 => ⟨_, _, J7, w6⟩
end
section
variable {X : Cx} {body : List Stmt} {h0 : ExceptHandler} {hds : List ExceptHandler} {l : List Cl} {pos : Pos} {tb : WX → TS} {Wout : WX}
end
end Tw
/-! Tw: defs that are called in an except suite and raise nothing; what they promise may speak of the caught error -/
namespace Tw
open PySem PySem.Spec PyProof.Rows L2
open L2H (RoomH PinOk cxH inv_startH)
def FnP (P : Program) (w : World) (K : PySem.W.Frag) (mg : Str → Option Value) (base : Heap) (k : Nat) (f : Addr) (sp : Addr × Obj → Sp) : Prop :=
  ∀ A fs t Hp0 us vs Q p, RoomH k A → PinOk fs Hp0 t p → Env0 P w K mg base A fs t Hp0 → Vals vs us → sp p vs Hp0 Q C8.E0 → codeAny (model P w) A (.call (.ref f) ⟨us, []⟩) (CR C8.CX0 fs P w Hp0 t Q C8.E0) t
section
variable {P : Program} {w : World} {K : PySem.W.Frag} {mg : Str → Option Value} {base : Heap} {k : Nat} {f : Addr} {sp : Addr × Obj → Sp}
theorem FnP.mono {j : Nat} (F : FnP P w K mg base j f sp) (h : j ≤ k) : FnP P w K mg base k f sp := fun A fs t H us vs Q p r => F A fs t H us vs Q p (r.mono h)
end
section
variable {X : Cx} {k : Nat} {f : Addr} {sp : Addr × Obj → Sp} {x : Str} {e : Expr} {es : List Expr} {t : TA} {p pos : Pos} {q : Addr × Obj}
structure RmS (A : Around) : Prop where
  un : A.units + 40 < cLine
  gd : A.guards = some []
end
end Tw
/-! Tw: isinstance of a caught error that has its dict -/
namespace Tw
open PySem PySem.Spec PySem.Calls PyProof.Rows L2 PySem.W
section
variable {prog : Program} {w : World} {A : Around} {E : Value → Shared → Prop} {s : Shared} {K : Frag} {x D : Addr} {ox : Obj} {od : Option Obj}
theorem find_cls (T : ExcC K D) : findObj K D od "__class__" = some (.bind (.builtin "getset_descriptor.__get__") (.builtin "object.__class__")) := by
  obtain ⟨cd, hc, _⟩ := any_some T.hd
  unfold findObj
  rw [hc, Option.bind_some, T.ha, Option.bind_some]
  simp [T.hn, T.ht]
theorem cls_of (T : ExcC K D) {Q : Option Value → Shared → Prop} (X : K.In s.heap) (I : InstAt s.heap x ox D od) (h : Q (some (.ref D)) { s with toks := s.toks + 1 }) : wpAny (model prog w) A (getAttr? (.ref x) "__class__") Q E s := by
  obtain ⟨hp, g, d, t, os⟩ := s
  have la := I.type (M := model prog w)
  have lb := looks_findIn (M := model prog w) X T.hg
  have lc := looks_findIn (M := model prog w) X T.hk
  have ld := looks_find (M := model prog w) X I (find_cls T)
  have isb : Looks (model prog w) hp (isInstance (.ref x) (.type "BaseException")) true := la.andThen (looks_subIn X T.hs)
  have f0 : (false && onTheHeap (Value.builtin "BaseException.__getattribute__")) = false := rfl
  have f1 : (Value.builtin "BaseException.__getattribute__" == Value.builtin "object.__getattribute__") = false := by decide +kernel
  have f2 : (onTheHeap (Value.ref D) && Value.builtin "BaseException.__getattribute__" == Value.builtin "object.__getattribute__") = false := by rw [f1]; rfl
  have f3 : onTheHeap (Value.ref D) = true := rfl
  unfold getAttr? getAttrBy? getAttrBy
  refine wpAny_bind (wpAny_mkText (wpAny_bind (wpAny_attempt (wpAny_holding (wpAny_bind (la.at (wpAny_bind (lb.at ?_))))))))
  show wpAny _ _ (if (onTheHeap (Value.ref D) && Value.builtin "BaseException.__getattribute__" == Value.builtin "object.__getattribute__") = true then _ else _) _ _ _
  rw [f2, if_neg Bool.false_ne_true]
  unfold getAttrByItsOwn hookBefore
  refine wpAny_bind ?_
  rw [if_pos f3]
  refine lc.at (wpAny_bind (wpAny_attempt (wpAny_holding ?_)))
  unfold callGetattribute
  rw [f0, if_neg Bool.false_ne_true]
  unfold boundAndCalled
  rw [PySem.F.excAttr_ValueError.ga.bind (.ref x)]
  refine wpAny_bind (wpAny_pure ?_)
  show wpAny _ _ (call (.builtin "BaseException.__getattribute__") [.ref x, .str "__class__" t]) _ _ _
  refine wpAny_call (codeAny_call_builtin PySem.F.excAttr_ValueError.ga.plain PySem.F.entry_bexc_ga (@check_slot (model prog w) _ _ ⟨hp, g, d, t + 1, os⟩ "BaseException.__getattribute__" "BaseException" "__getattribute__" (.ref x) [.str "__class__" t] [] _ (by decide +kernel) (by decide +kernel) isb (PySem.F.args_bexc_ga (.ref x) (.str "__class__" t)) ?_))
  unfold Builtin.«object.__getattribute__»
  refine wpAny_bind (wpAny_of_eq (a := ((Value.ref x : Value), [Value.str "__class__" t])) (by first | rfl | (simp only [slotArgs]; rfl)) ?_)
  refine wpAny_bind (wpAny_pure (wpAny_bind (la.at (wpAny_bind (ld.at ?_)))))
  show wpAny _ _ (holding [Value.builtin "object.__class__"] (call (.builtin "getset_descriptor.__get__") [.builtin "object.__class__", .ref x, .ref D]) >>= ret) _ _ _
  refine wpAny_bind (wpAny_holding (wpAny_call (class_get (s := ⟨hp, g, d, t + 1, os⟩) (ox := ox) (od := od) X I T.hm ?_)))
  refine wpAny_pure ?_
  show wpAny _ _ (handedOut (.ref D)) _ _ _
  rw [handedOut_of (v := .ref D) rfl]
  first
    | exact wpAny_pure (wpAny_pure h)
    | exact wpAny_pure h
    | exact wpAny_pure (wpAny_bind (wpAny_pure (wpAny_pure h)))
theorem kit_err (T : ExcC K D) : KitX K (.ref x) (.ref D) (fun h => InstAt h x ox D od) where
  ty := fun _ _ _ I => I.type
  it := fun _ _ X _ => by
    obtain ⟨cdD, hcD, _⟩ := any_some T.hd
    unfold clsIn at hcD
    split at hcD
    · rename_i c1 d1 cd1 sl1 ho
      intro A1 Q1 E1 s1 k1 q1
      unfold isType loadHead
      exact wpAny_bind (wpAny_loadPart (k1 _ _ (X _ _ ho)) (wpAny_pure q1))
    · cases hcD
  ne := fun h tp dd its n sl X htp => by
    obtain ⟨cdD, hcD, _⟩ := any_some T.hd
    refine Bool.eq_false_iff.mpr fun q => ?_
    obtain rfl : D = tp := Value.ref.inj (beq_iff_eq.mp q)
    unfold clsIn at hcD
    split at hcD
    · rename_i c1 d1 cd1 sl1 ho
      have z := (X _ _ ho).symm.trans htp
      cases z
    · cases hcD
  ca := fun X I k => cls_of T X I k
end
def DicO (H : Hp) (d : Option Addr) : Prop := ∀ dd, d = some dd → ∃ fs : List (PySem.Str × V), H dd = some (.xd fs)
theorem DicO.same {H H' : Hp} {d : Option Addr} (h : DicO H d) (s : ∀ b o, H b = some o → H' b = some o) : DicO H' d := fun dd e => (h dd e).elim fun fs z => ⟨fs, s _ _ z⟩
def rIsP (K : Frag) (p : Addr × Obj) : List V → Hp → VK → Prop := fun xs H Q => ∃ (D : Addr) (c : V) (cv : Value) (b : Bool) (d : Option Addr), ExcC K D ∧ xs = [.ref p.1, c] ∧ Zc (.ref D) d p.2 ∧ (∃ vs, p.2.data = .fields vs) ∧ DicO H d ∧ (∀ u, RelV c u → u = cv) ∧ kitOne K (.ref D) cv = some b ∧ Q (.bl b) H
end Tw
/-! Tw: list.count of flat items -/
namespace Tw
open PySem PySem.Spec PyProof.Rows L2
section
variable {X : Cx}
def rCntF (K : PySem.W.Frag) : V → List V → Hp → VK → Prop := fun x xs H Q => ∃ (a : Addr) (ys : List V) (y : V), x = .ref a ∧ xs = [y] ∧ SqL K H a ys ∧ flatV y = true ∧ ys.all flatV = true ∧ Q (.int ((ys.countP fun z => eqV z y : Nat) : Int)) H
theorem count_eqU {y : V} : ∀ {ys : List V} {us : List Value}, Vals ys us → ys.all flatV = true → us.countP (eqU y) = ys.countP fun z => eqV z y
  | _, _, .nil, _ => rfl
  | z :: ys, u :: us, .cons r rs, h => by
    have h2 : flatV z = true ∧ ys.all flatV = true := by simpa using h
    rw [List.countP_cons, List.countP_cons, count_eqU rs h2.2, eqU_of r h2.1]
theorem mt_countF : MtR X "list.count" (rCntF X.K) := by
  intro pins s σ H x xs v us Q I rx rxs h
  obtain ⟨a, ys, y, rfl, rfl, hs, fy, fys, q⟩ := h
  cases rx
  obtain ⟨uy, rfl, ry⟩ := rxs.one
  obtain ⟨its, rv, ⟨⟨cls, dd, data, sl⟩, n, ho, hc, hdn, hd⟩, hlen⟩ := I.list hs
  simp only at hc hd
  subst hc hd
  refine call_meets PySem.F.slot_list_count ⟨_, ho, rfl⟩ PySem.F.entry_list_count (PySem.F.args_list_count_2 _ _)
    (SeqAt.list_countAt a its.toArray n dd sl uy (eqU y)) ⟨ho, fun u2 h2 => mem_eqAt ry fy rv fys u2 (by simpa using h2), ?_⟩
  have ec : its.toArray.toList.countP (eqU y) = ys.countP fun z => eqV z y := count_eqU rv fys
  refine ⟨.int ((ys.countP fun z => eqV z y : Nat) : Int), H, I.tok _, ⟨s.toks, ?_⟩, q⟩
  show Value.int ((its.toArray.toList.countP (eqU y) : Nat) : Int) s.toks = _
  rw [ec]
end
end Tw
/-! Tw: enumerate(tuple); zip(tuple, list) -/
namespace Tw
open PySem PySem.Spec PyProof.Rows L2 PySem.W
open AutoSeq1 (wpAny_loadPart')
theorem enumT_new (t : Addr) (items : Array Value) :
    Meets (Builtin.«enumerate.__new__» ⟨[.type "enumerate", .ref t], []⟩) (fun _ R s => s.heap.IsTuple t items ∧
      R (.ok (.ret (.ref (s.heap.push { cls := .type "tuple_iterator", data := .fields #[.ref t, .int 0 0] }).objs.size)))
        { s with heap := (s.heap.push { cls := .type "tuple_iterator", data := .fields #[.ref t, .int 0 0] }).push { cls := .type "enumerate", data := .fields #[.none, .bool false, .ref s.heap.objs.size, rawInt 0, .none, .none] } }) := by
  refine .of_wp fun prog w A R s h => ?_
  obtain ⟨hp, g, d, tk, os⟩ := s
  obtain ⟨hT, h⟩ := h
  have hT' : Heap.IsTuple (Shared.heap ⟨hp, g, d, tk, os⟩) t items := hT
  obtain ⟨⟨oc, od, odt, osl⟩, ho, hc, n, hd⟩ := id hT
  dsimp only at hc hd
  subst hc hd
  have hsub := sub_enumerate
  wp_walk using wpAny_loadPart' ho
  refine wpAny_stack_any fun st => wpAny_pure ?_
  split
  · rename_i c _ _ _ _ _
    cases (c == Value.type "enumerate") <;> (wp_walk using wpAny_loadPart' ho, wpAny_pyIter_tuple hT'; exact ⟨_, rfl, h⟩)
  · wp_walk using wpAny_loadPart' ho, wpAny_pyIter_tuple hT'
    exact ⟨_, rfl, h⟩
section
variable {prog : Program} {w : World} {A : Around} {E : Value → Shared → Prop} {s : Shared}
theorem enumT_call {t : Addr} {items : Array Value} {Q : Value → Shared → Prop} (hT : s.heap.IsTuple t items)
    (h : ∀ h', IsEnum h' (s.heap.objs.size + 1) s.heap.objs.size 0 .none → h'.IsTupleIter s.heap.objs.size t 0 → (∀ b o, s.heap.get? b = some o → h'.get? b = some o) → Q (.ref (s.heap.objs.size + 1)) { s with heap := h' }) :
    wpAny (model prog w) A (call (.type "enumerate") [.ref t]) Q E s := by
  refine callType_new F.called_enumerate (by decide) (F.typeCall_enumerate_1 _) (F.newCall_enumerate_1 _) (fun obj => F.args_object_init_2 obj _) F.entry_enumerate_new (enumT_new t items) ⟨hT, ?_⟩
  generalize e1 : s.heap.push { cls := .type "tuple_iterator", data := .fields #[.ref t, .int 0 0] } = h1
  have g0 : h1.get? s.heap.objs.size = some { cls := .type "tuple_iterator", data := .fields #[.ref t, .int 0 0] } := by rw [← e1]; exact Heap.get?_push_size _ rfl
  have z1 : h1.objs.size = s.heap.objs.size + 1 := by rw [← e1, Heap.size_push]
  have k1 : ∀ b o, s.heap.get? b = some o → h1.get? b = some o := fun b o e => by rw [← e1]; exact Heap.get?_push_of_some _ e
  show _ ∧ _
  rw [z1]
  have g1 : IsEnum (h1.push { cls := .type "enumerate", data := .fields #[.none, .bool false, .ref s.heap.objs.size, rawInt 0, .none, .none] }) (s.heap.objs.size + 1) s.heap.objs.size 0 .none := by
    rw [← z1]; exact Heap.get?_push_size _ rfl
  exact ⟨⟨_, g1, rfl⟩, h _ g1 ⟨_, Heap.get?_push_of_some _ g0, rfl, by rfl⟩ fun b o e => Heap.get?_push_of_some _ (k1 b o e)⟩
end
def ItEn (K : PySem.W.Frag) (a : Addr) : It where
  go := fun i H => ∃ (xs : List V) (x : V), SqT K H a xs ∧ xs[i]? = some x
  yld := fun i H v H' => ∃ T x, v = .ref T ∧ H T = none ∧ H' = upd H T (.tup [.int (i : Nat), x]) ∧ ∀ xs, SqT K H a xs → xs[i]? = some x
  stop := fun i H => ∃ xs : List V, SqT K H a xs ∧ xs.length ≤ i
theorem two_mem {a b c : Addr} (h : c ∈ [a, b]) : c = a ∨ c = b := by simpa using h
theorem turn_enT {P : Program} {w : World} {K : PySem.W.Frag} {elts : List Expr} {kk : Nat} {tpos : Pos} (a e it : Addr) :
    Turn P w K (.Tuple elts kk tpos) (ItEn K a) [e, it] e (fun i h => (∃ old, IsEnum h e it ((i : Nat) : Int) old) ∧ h.IsTupleIter it a i ∧ e ≠ it ∧ a ≠ it ∧ a ≠ e) := by
  refine ⟨by simp, ?_, ?_, ?_, ?_, ?_⟩
  · intro i h st b hb
    obtain ⟨⟨old, he⟩, ⟨o, ho, hc, hd⟩, _, _⟩ := st
    rcases two_mem hb with z | z
    · subst z
      exact ⟨_, he, fun v q => nomatch q⟩
    · subst z
      exact ⟨o, ho, fun v q => by rw [hd] at q; cases q⟩
  · intro i h h' st k
    obtain ⟨⟨old, he⟩, hi, hne⟩ := st
    exact ⟨⟨old, k e (by simp) _ he⟩, hi.at fun o q => k it (by simp) o q, hne⟩
  · intro X hP hw hK hc i pins s σ H E I hf st hg
    subst hP hw hK
    obtain ⟨⟨old, he⟩, hit, hne, hai, hae⟩ := st
    obtain ⟨xs, x, hq, hx⟩ := hg
    obtain ⟨its, rv, p, hz⟩ := I.tuple hq
    obtain ⟨u, hu, ru⟩ := rv.get hx
    have hel : e < s.heap.objs.size := Heap.lt_size he
    have hil : it < s.heap.objs.size := by obtain ⟨_, q, _⟩ := hit; exact Heap.lt_size q
    have hlt : i < its.toArray.size := by
      have := (List.getElem?_eq_some_iff.mp hu).1
      simpa using this
    have hd0 : X.A.in1.handled = none := I.ok.hd hc
    refine wpAny_pyNext_enum_itemD (Draws.tuple hd0 it a hai its.toArray) he ⟨hit, p⟩ hlt hne (by simp [hne, Ne.symm hae]) fun y h' tk hy ho hst' hT hsz hk => ?_
    have ey : y = u := by
      have e1 : its.toArray[i]? = some y := hy
      have e2 : its.toArray[i]? = some u := by simpa using hu
      rw [e1] at e2
      exact Option.some.inj e2
    subst ey
    refine ⟨_, rfl, wpAny_letOwnedTupleGo_enum (s := { s with heap := h', toks := tk + 1 }) ho fun h'' he' sb => ?_⟩
    have hT2 := (sb.2 _ (Nat.ne_of_gt hel)).trans hT
    have new : ObjOk X.prog X.w (upd H s.heap.objs.size (.tup [.int (i : Nat), x])) h'' s.heap.objs.size (.tup [.int (i : Nat), x]) :=
      ⟨by show 2 ≤ sizeLine; decide, [.int i tk, y], .cons ⟨_, rfl⟩ (.cons ru .nil), ⟨_, hT2, rfl, _, rfl⟩⟩
    have I1 : Inv X pins σ (upd H s.heap.objs.size (.tup [.int (i : Nat), x])) { s with heap := h'', toks := tk + 1 } :=
      I.turnedNew (ch := [e, it]) (fun b ob hb q => (sb.2 b fun z => hb (by simp [z])).trans (hk b ob (fun z => hb (by simp [z])) (fun z => hb (by simp [z])) q)) hf (Nat.le_refl _) new
    refine ⟨.ref s.heap.objs.size, _, I1, rfl, ⟨_, x, rfl, I.hok.fresh (Nat.le_refl _), rfl, fun ys hy => by rw [I.tuple_inj hy hq]; exact hx⟩, ⟨⟨y, ?_⟩, hst'.1.at fun o q => (sb.2 it (Ne.symm hne)).trans q, hne, hai, hae⟩, fun b hb => ?_⟩
    · have e1 : ((i + 1 : Nat) : Int) = (i : Int) + 1 := by omega
      rw [e1]
      exact he'
    · have hb' : b < s.heap.objs.size := by rcases two_mem hb with z | z <;> (rw [z]; assumption)
      rw [upd_ne (Nat.ne_of_lt hb')]
      exact (hf b hb).1
  · intro X hP hw hK hc i pins s σ H E I hf st hg
    subst hP hw hK
    obtain ⟨⟨old, he⟩, hit, hne, hai, hae⟩ := st
    obtain ⟨xs, hq, hx⟩ := hg
    obtain ⟨its, rv, p, hz⟩ := I.tuple hq
    obtain ⟨f0, f1, f2, f3, f4, f5⟩ := hf it (by simp)
    have hl := rv.length
    have hd0 : X.A.in1.handled = none := I.ok.hd hc
    have D : Draws X.prog X.w X.A.in1 it [it, a] i (fun _ _ => False) (fun j h => j = i ∧ h.IsTupleIter it a i ∧ h.IsTuple a its.toArray) := by
      refine ⟨fun _ _ st => let ⟨o, ho, _⟩ := st.2.1; ⟨o, ho⟩, fun _ _ _ st hk => ⟨st.1, st.2.1.at fun o e => hk it (by simp) o e, st.2.2.at fun o e => hk a (by simp) o e⟩, fun j s Q E hj st _ => absurd st.1 (Nat.ne_of_lt hj), fun s Q E st hE => ?_⟩
      exact RZ.nextOf_tuple_end hd0 st.2.1 st.2.2 (Array.getElem?_eq_none (by simp; omega)) hE
    exact wpAny_pyNext_enum_endD D he ⟨rfl, hit, p⟩ fun h' eb => ⟨rfl, I.turned (t' := s.toks) (fun b o hb q => eb b o hb q) f0 f1 f3 f4 f5⟩
  · intro A i s Q E st h
    obtain ⟨⟨_, he⟩, _⟩ := st
    exact wpAny_pyIter_enum he h
def iEnT (K : PySem.W.Frag) (ta : TA) : TI := fun σ H R => ta σ H fun vs H1 => ∃ a xs, vs = [.ref a] ∧ SqT K H1 a xs ∧ R (ItEn K a) H1
theorem pi_enT {X : Cx} {e : Expr} {ta : TA} {p pos tpos : Pos} {elts : List Expr} {kk : Nat} (hg : Gl X "enumerate") (hm : X.mg "enumerate" = none) (ha : PA X [e] ta)
    (hs : starEach [e] X.env = [(false, eval e X.env)] := by rfl) : PI X (.Tuple elts kk tpos) (.Call (.Name "enumerate" p) [e] [] pos) (iEnT X.K ta) := by
  refine ⟨fun pins s σ H R I h => Call_ (ld_blt I hg hm boot_enumerate (PyProof.Rows.callWith_type1 (thn (ha.run pos pins s σ H _ I h) fun us s1 ⟨vs, H1, I1, r1, q1⟩ => ?_) hs rfl))⟩
  obtain ⟨a, xs, rfl, hq, q⟩ := q1
  obtain ⟨u, rfl, ru⟩ := r1.one
  cases (show u = Value.ref a from ru)
  obtain ⟨its, rv, p', hz⟩ := I1.tuple hq
  have hal : a < s1.heap.objs.size := by obtain ⟨_, ho, _⟩ := id p'; exact Heap.lt_size ho
  refine enumT_call p' fun h' he hit hk => wpAny_pyIter_enum he ?_
  have I2 : Inv X pins σ H1 { s1 with heap := h' } := I1.kept (t' := s1.toks) hk
  refine ⟨s1.heap.objs.size + 1, [s1.heap.objs.size + 1, s1.heap.objs.size], _, _, H1, rfl, I2, turn_enT a (s1.heap.objs.size + 1) s1.heap.objs.size, ⟨⟨.none, he⟩, hit, Nat.succ_ne_self _, Nat.ne_of_lt hal, Nat.ne_of_lt (Nat.lt_succ_of_lt hal)⟩, fun b hb => ?_, q⟩
  have hle : s1.heap.objs.size ≤ b := by
    rcases two_mem hb with z | z
    · exact z ▸ Nat.le_succ _
    · exact z ▸ Nat.le_refl _
  exact I1.fpOk hle (I1.hok.fresh hle)
theorem for_enT {K : PySem.W.Frag} {a : Addr} {xs : List V} {g : TG} {tb : TS} {D : Ends} {σ : L2.St} {H : Hp} (Pv : Nat → L2.St → Hp → Prop) (h0 : Pv 0 σ H) (hq : ∀ i σ H, Pv i σ H → SqT K H a xs)
    (hs : ∀ (i : Nat) (x : V) (T : Addr) (σ : L2.St) (H : Hp), xs[i]? = some x → Pv i σ H → H T = none → g (.ref T) σ (upd H T (.tup [.int (i : Nat), x])) fun σ2 H2 => tb { D with nx := Pv (i + 1), ct := Pv (i + 1), bk := D.nx } σ2 H2)
    (hd : ∀ σ H, Pv xs.length σ H → D.nx σ H) :
    ∃ W : Nat → Nat → L2.St → Hp → Prop, (∃ m, W 0 m σ H) ∧ ∀ i m σ H, W i m σ H →
      ((ItEn K a).stop i H ∧ D.nx σ H) ∨ ((ItEn K a).go i H ∧ ∃ N : L2.St → Hp → Prop, (∀ σ' H', N σ' H' → ∃ m', m' < m ∧ W (i + 1) m' σ' H') ∧ ∀ v H', (ItEn K a).yld i H v H' → g v σ H' fun σ2 H2 => tb { D with nx := N, ct := N, bk := D.nx } σ2 H2) := by
  refine ⟨fun i m σ H => m = xs.length - i ∧ i ≤ xs.length ∧ Pv i σ H, ⟨xs.length, rfl, Nat.zero_le _, h0⟩, ?_⟩
  rintro i m σ H ⟨rfl, hi, p⟩
  have qx := hq i σ H p
  by_cases hlt : i < xs.length
  · have hx : xs[i]? = some xs[i] := List.getElem?_eq_getElem hlt
    refine .inr ⟨⟨xs, _, qx, hx⟩, Pv (i + 1), fun σ' H' p' => ⟨xs.length - (i + 1), by omega, rfl, hlt, p'⟩, fun v H' y => ?_⟩
    obtain ⟨T, x', rfl, hT, rfl, f1⟩ := y
    exact hs i x' T σ H (f1 xs qx) p hT
  · obtain rfl : i = xs.length := by omega
    exact .inl ⟨⟨xs, qx, Nat.le_refl _⟩, hd σ H p⟩
/-! ### zip(tuple, list) -/
def ItZm (K : PySem.W.Frag) (a b : Addr) : It where
  go := fun i H => ∃ (xs ys : List V) (x y : V), SqT K H a xs ∧ SqL K H b ys ∧ xs[i]? = some x ∧ ys[i]? = some y
  yld := fun i H v H' => ∃ T x y, v = .ref T ∧ H T = none ∧ H' = upd H T (.tup [x, y]) ∧ (∀ xs, SqT K H a xs → xs[i]? = some x) ∧ ∀ ys, SqL K H b ys → ys[i]? = some y
  stop := fun i H => ∃ xs ys : List V, SqT K H a xs ∧ SqL K H b ys ∧ i = xs.length ∧ i = ys.length
theorem turn_zm {P : Program} {w : World} {K : PySem.W.Frag} {elts : List Expr} {kk : Nat} {tpos : Pos} {a b z TI TO i1 i2 : Addr} (S : ZipSep2 z TI TO i1 i2 [i1, a] [i2, b]) (ha : a ≠ i1) (hb : b ≠ i2) :
    Turn P w K (.Tuple elts kk tpos) (ItZm K a b) [z, TI, TO, i1, i2] z
      (fun i h => IsZip h z TI TO .none ∧ IsTupOf2 h TI (.ref i1) (.ref i2) ∧ (∃ x y, IsTupOf2 h TO x y) ∧ h.IsTupleIter i1 a i ∧ h.IsListIter i2 b i) := by
  have five : ∀ {c : Addr}, c ∈ [z, TI, TO, i1, i2] → c = z ∨ c = TI ∨ c = TO ∨ c = i1 ∨ c = i2 := fun h => by simpa using h
  refine ⟨by simp, ?_, ?_, ?_, ?_, ?_⟩
  · intro i h st c hc
    obtain ⟨hz, hTI, ⟨x, y, hTO⟩, ⟨o1, e1, _, d1⟩, ⟨o2, e2, _, d2⟩⟩ := st
    rcases five hc with q | q | q | q | q <;> subst q
    · exact ⟨_, hz, fun v q => nomatch q⟩
    · exact ⟨_, hTI, fun v q => nomatch q⟩
    · exact ⟨_, hTO, fun v q => nomatch q⟩
    · exact ⟨o1, e1, fun v q => by rw [d1] at q; cases q⟩
    · exact ⟨o2, e2, fun v q => by rw [d2] at q; cases q⟩
  · intro i h h' st k
    obtain ⟨hz, hTI, ⟨x, y, hTO⟩, h1, h2⟩ := st
    exact ⟨k z (by simp) _ hz, k TI (by simp) _ hTI, ⟨x, y, k TO (by simp) _ hTO⟩, h1.at fun o q => k i1 (by simp) o q, h2.at fun o q => k i2 (by simp) o q⟩
  · intro X hP hw hK hc i pins s σ H E I hf st hg
    subst hP hw hK
    obtain ⟨hz, hTI, ⟨x0, y0, hTO⟩, h1, h2⟩ := st
    obtain ⟨xs, ys, x, y, hqx, hqy, hx, hy⟩ := hg
    obtain ⟨its, rv, p, _⟩ := I.tuple hqx
    obtain ⟨its2, rv2, p2, _⟩ := I.list hqy
    obtain ⟨u, hu, ru⟩ := rv.get hx
    obtain ⟨u2, hu2, ru2⟩ := rv2.get hy
    have hzl : z < s.heap.objs.size := Heap.lt_size hz
    have hd0 : X.A.in1.handled = none := I.ok.hd hc
    have l1 : i < its.toArray.size := by have := (List.getElem?_eq_some_iff.mp hu).1; simpa using this
    have l2 : i < its2.toArray.size := by have := (List.getElem?_eq_some_iff.mp hu2).1; simpa using this
    refine wpAny_pyNext_zipD2_item S (Draws.tuple hd0 i1 a ha its.toArray) (Draws.list hd0 i2 b hb its2.toArray) hz hTI hTO ⟨h1, p⟩ ⟨h2, p2.isList⟩ l1 l2 fun x1 x2 h' tk y1 y2 z' TO' s1' s2' hT hsz hk => ?_
    have ey1 : x1 = u := by
      have e1 : its.toArray[i]? = some x1 := y1
      have e2 : its.toArray[i]? = some u := by simpa using hu
      rw [e1] at e2
      exact Option.some.inj e2
    have ey2 : x2 = u2 := by
      have e1 : its2.toArray[i]? = some x2 := y2
      have e2 : its2.toArray[i]? = some u2 := by simpa using hu2
      rw [e1] at e2
      exact Option.some.inj e2
    subst ey1 ey2
    refine ⟨_, rfl, wpAny_letOwnedTupleGo_zip (s := { s with heap := h', toks := tk }) z' fun h'' z'' sb => ?_⟩
    have hT2 := (sb.2 _ (Nat.ne_of_gt hzl)).trans hT
    have new : ObjOk X.prog X.w (upd H s.heap.objs.size (.tup [x, y])) h'' s.heap.objs.size (.tup [x, y]) :=
      ⟨by show 2 ≤ sizeLine; decide, [x1, x2], .cons ru (.cons ru2 .nil), ⟨_, hT2, rfl, _, rfl⟩⟩
    have I1 : Inv X pins σ (upd H s.heap.objs.size (.tup [x, y])) { s with heap := h'', toks := tk } :=
      I.turnedNew (ch := [z, TI, TO, i1, i2]) (fun c o hb' q => (sb.2 c fun q' => hb' (by simp [q'])).trans (hk c o (fun q' => hb' (by simp [q'])) (fun q' => hb' (by simp [q'])) (fun q' => hb' (by simp [q'])) (fun q' => hb' (by simp [q'])) q)) hf (Nat.le_refl _) new
    refine ⟨.ref s.heap.objs.size, _, I1, rfl, ⟨_, x, y, rfl, I.hok.fresh (Nat.le_refl _), rfl, fun l hl => by rw [I.tuple_inj hl hqx]; exact hx, fun l hl => by rw [I.list_inj hl hqy]; exact hy⟩, ⟨z'', ?_, ⟨x1, x2, ?_⟩, ?_, ?_⟩, fun c hcm => ?_⟩
    · exact (sb.2 _ S.TIz).trans (hk _ _ S.TIz S.TITO S.TIi1 S.TIi2 hTI)
    · exact (sb.2 _ S.TOz).trans TO'
    · exact s1'.1.at fun o q => (sb.2 _ S.zi1.symm).trans q
    · exact s2'.1.at fun o q => (sb.2 _ S.zi2.symm).trans q
    · have hlt : c < s.heap.objs.size := by
        rcases five hcm with q | q | q | q | q <;> subst q
        · exact hzl
        · exact Heap.lt_size hTI
        · exact Heap.lt_size hTO
        · obtain ⟨_, e1, _⟩ := h1; exact Heap.lt_size e1
        · obtain ⟨_, e1, _⟩ := h2; exact Heap.lt_size e1
      rw [upd_ne (Nat.ne_of_lt hlt)]
      exact (hf c hcm).1
  · intro X hP hw hK hc i pins s σ H E I hf st hg
    subst hP hw hK
    obtain ⟨hz, hTI, ⟨x0, y0, hTO⟩, h1, h2⟩ := st
    obtain ⟨xs, ys, hqx, hqy, e1, e2⟩ := hg
    obtain ⟨its, rv, p, _⟩ := I.tuple hqx
    obtain ⟨its2, rv2, p2, _⟩ := I.list hqy
    have l1 := rv.length
    have l2 := rv2.length
    have hd0 : X.A.in1.handled = none := I.ok.hd hc
    refine wpAny_pyNext_zipD2_end S (Draws.tuple hd0 i1 a ha its.toArray) (Draws.list hd0 i2 b hb its2.toArray) hz hTI hTO ⟨h1, p⟩ ⟨h2, p2.isList⟩ (by simp; omega) (by simp; omega) (.inl (by simp; omega)) fun h' tk hk => ⟨rfl, I.turnedL (t' := tk) (ch := [z, TI, TO, i1, i2]) (fun c o hb' q =>
      hk c o (fun q' => hb' (by simp [q'])) (fun q' => hb' (by simp [q'])) (fun q' => hb' (by simp [q'])) (fun q' => hb' (by simp [q'])) q) hf⟩
  · exact fun A i s Q E st h => wpAny_pyIter_zip st.1 h
theorem nmem2 {x p q : Nat} (h1 : x ≠ p) (h2 : x ≠ q) : x ∉ [p, q] := by simp [h1, h2]
theorem zsep (n a b : Nat) (ha : a < n) (hb : b < n) : ZipSep2 (n + 4) (n + 2) (n + 3) n (n + 1) [n, a] [n + 1, b] := by
  have h1 : ∀ k, 0 < k → n + k ≠ n := fun k hk => by omega
  have h2 : ∀ k j, k ≠ j → n + k ≠ n + j := fun k j hk => by omega
  have h3 : ∀ k, n + k ≠ a := fun k => by omega
  have h4 : ∀ k, n + k ≠ b := fun k => by omega
  exact ⟨h2 2 4 (by decide), h2 3 4 (by decide), h2 2 3 (by decide), h1 2 (by decide), by simp, nmem2 (h1 4 (by decide)) (h3 4), nmem2 (h1 3 (by decide)) (h3 3), h2 2 1 (by decide), by simp,
    nmem2 (h2 4 1 (by decide)) (h4 4), nmem2 (h2 3 1 (by decide)) (h4 3), nmem2 (h1 1 (by decide)).symm (h4 0), nmem2 (h1 1 (by decide)) (h3 1)⟩
def iZm (K : PySem.W.Frag) (ta : TA) : TI := fun σ H R => ta σ H fun vs H1 => ∃ a b xs ys, vs = [.ref a, .ref b] ∧ SqT K H1 a xs ∧ SqL K H1 b ys ∧ R (ItZm K a b) H1
theorem pi_zm {X : Cx} {e e2 : Expr} {ta : TA} {p pos tpos : Pos} {elts : List Expr} {kk : Nat} (hg : Gl X "zip") (hm : X.mg "zip" = none) (ha : PA X [e, e2] ta)
    (hs : starEach [e, e2] X.env = (false, eval e X.env) :: starEach [e2] X.env := by rfl) (hpl : (backTo pos (starEach [e2] X.env)).any (·.1) = false := by rfl) :
    PI X (.Tuple elts kk tpos) (.Call (.Name "zip" p) [e, e2] [] pos) (iZm X.K ta) := by
  refine ⟨fun pins s σ H R I h => Call_ (ld_blt I hg hm PyProof.Rows.boot_zip (PyProof.Rows.callWith_type1 (thn (ha.run pos pins s σ H _ I h) fun us s1 ⟨vs, H1, I1, r1, q1⟩ => ?_) hs hpl))⟩
  obtain ⟨a, b, xs, ys, rfl, hqx, hqy, q⟩ := q1
  obtain ⟨u, u2, rfl, ru, ru2⟩ := Vals.two r1
  cases (show u = Value.ref a from ru)
  cases (show u2 = Value.ref b from ru2)
  obtain ⟨its, rv, p1, _⟩ := I1.tuple hqx
  obtain ⟨its2, rv2, p2, _⟩ := I1.list hqy
  have hal : a < s1.heap.objs.size := by obtain ⟨_, ho, _⟩ := id p1; exact Heap.lt_size ho
  have hbl : b < s1.heap.objs.size := p2.lt
  refine zip_begins2 (begins_tuple a its.toArray) (begins_list b its2.toArray) p1 p2.isList fun h' hz hTI hTO g1 g2 hsz hk => wpAny_pyIter_zip hz ?_
  have I2 : Inv X pins σ H1 { s1 with heap := h' } := I1.kept (t' := s1.toks) hk
  have S := zsep s1.heap.objs.size a b hal hbl
  have hab : a ≠ s1.heap.objs.size := Nat.ne_of_lt hal
  have hbb : b ≠ s1.heap.objs.size + 1 := Nat.ne_of_lt (Nat.lt_succ_of_lt hbl)
  refine ⟨s1.heap.objs.size + 4, [s1.heap.objs.size + 4, s1.heap.objs.size + 2, s1.heap.objs.size + 3, s1.heap.objs.size, s1.heap.objs.size + 1], _, _, H1, rfl, I2, turn_zm S hab hbb, ⟨hz, hTI, ⟨_, _, hTO⟩, ⟨_, g1, rfl, rfl⟩, ⟨_, g2, rfl, rfl⟩⟩, fun c hcm => ?_, q⟩
  have hle : s1.heap.objs.size ≤ c := by
    have e' : c = s1.heap.objs.size + 4 ∨ c = s1.heap.objs.size + 2 ∨ c = s1.heap.objs.size + 3 ∨ c = s1.heap.objs.size ∨ c = s1.heap.objs.size + 1 := by simpa using hcm
    rcases e' with e | e | e | e | e <;> (rw [e]; simp)
  exact I1.fpOk hle (I1.hok.fresh hle)
end Tw
/-! The mirror of the package's timers in plain Lean, and its mathematics. -/
namespace TwM
structure Lv where
  g : Int
  s : Int
  p : Int
  deriving DecidableEq, Inhabited
structure Bk where
  up : Bool
  fire : Bool
  high : Bool
  put : Bool
  zone : Bool
  bey : Nat
  deriving DecidableEq, Inhabited
structure Spot where
  lv : Nat
  pt : Int
  due : Int
  deriving DecidableEq, Inhabited
def lv (W : List Lv) (i : Nat) : Lv := W.getD i default
def reach (W : List Lv) : Int := (lv W (W.length - 1)).p
def rnd (up : Bool) (t g : Int) : Int := if up then -((-t) / g) else t / g
def levelOf : List Lv → Int → Option Nat
  | [], _ => none
  | l :: ls, d => if d < l.p then some 0 else (levelOf ls d).map (· + 1)
def levelIx (W : List Lv) (d : Int) : Nat := (levelOf W d).getD (W.length - 1)
def spotAt (W : List Lv) (B : Bk) (now rest due : Int) : Spot := match levelOf W rest with
  | some i => ⟨i, rnd B.up (now + rest) (lv W i).g, due⟩
  | none => ⟨W.length - 1, rnd B.up (now + reach W - 1) (lv W (W.length - 1)).g, due⟩
def va (l : Lv) (pt now : Int) : Int := (now / l.g + 1 + (pt - now / l.g - 1) % l.s) * l.g
def isVis (l : Lv) (pt before now : Int) : Bool := decide ((pt - before / l.g - 1) % l.s < now / l.g - before / l.g)
def taken (W : List Lv) (B : Bk) (sp : Spot) (tick : Int) : Option Spot :=
  if sp.lv = 0 ∨ B.fire = true then none
  else if tick < sp.due then some (spotAt W B tick (sp.due - tick) sp.due)
  else if B.put = true then some ⟨0, tick, sp.due⟩ else none
def order (W : List Lv) (B : Bk) : List Nat := if B.high = true then (List.range W.length).reverse else List.range W.length
def visGo (W : List Lv) (B : Bk) (before now : Int) : List Nat → Spot → List (Option Spot)
  | [], _ => []
  | i :: is, sp => if sp.lv = i ∧ isVis (lv W i) sp.pt before now = true then
      (match taken W B sp now with
        | none => [none]
        | some s' => some s' :: visGo W B before now is s')
      else visGo W B before now is sp
def visited (W : List Lv) (B : Bk) (sp : Spot) (before now : Int) : List (Option Spot) := visGo W B before now (order W B) sp
def skipped (W : List Lv) (sp : Spot) (tick : Int) (limit : Option Int) : Int × Int :=
  if sp.lv ≠ W.length - 1 ∨ sp.due - tick < reach W then (0, 0)
  else
    let step := va (lv W sp.lv) sp.pt tick - tick
    let many := (sp.due - tick - reach W) / step
    match limit with
    | none => (many, step)
    | some lim => (min many ((lim - tick) / step), step)
def over (limit : Option Int) (t : Int) : Bool := match limit with
  | none => false
  | some l => decide (l < t)
abbrev Res := Option Spot × Int × Int
def fol (W : List Lv) (B : Bk) (limit : Option Int) : Nat → Spot → Int → Int → Option Res
  | 0, _, _, _ => none
  | n + 1, sp, tick, mv =>
    let t := va (lv W sp.lv) sp.pt tick
    if over limit t = true then some (some sp, tick, mv)
    else
      let found := visited W B sp (t - 1) t
      match found.getLast? with
      | none => none
      | some none => some (none, t, mv + found.length - 1)
      | some (some sp') =>
        let k := skipped W sp' t limit
        if 0 < k.1 then fol W B limit n (spotAt W B (t + k.1 * k.2) (sp'.due - (t + k.1 * k.2)) sp'.due) (t + k.1 * k.2) (mv + found.length + k.1)
        else fol W B limit n sp' t (mv + found.length)
structure WOk (W : List Lv) : Prop where
  pos : 0 < W.length
  len : W.length ≤ 5
  all : ∀ i, i < W.length → 1 ≤ (lv W i).g ∧ (lv W i).g ≤ 1000 ∧ 2 ≤ (lv W i).s ∧ (lv W i).s ≤ 100 ∧ 2 ≤ (lv W i).p
  first : (lv W 0).g = 1
  dv : ∀ i, i + 1 < W.length → (lv W i).g ∣ (lv W (i + 1)).g
  asc : ∀ i, i + 1 < W.length → (lv W i).p < (lv W (i + 1)).p
theorem levelOf_lt : ∀ {W : List Lv} {d : Int} {i : Nat}, levelOf W d = some i → i < W.length ∧ d < (lv W i).p
  | [], _, _, h => by simp [levelOf] at h
  | l :: ls, d, i, h => by
    unfold levelOf at h
    split at h
    · cases h
      rename_i hd
      exact ⟨by simp, by simpa [lv] using hd⟩
    · cases q : levelOf ls d with
      | none => rw [q] at h; cases h
      | some j =>
        rw [q] at h
        have e : j + 1 = i := Option.some.inj h
        subst e
        obtain ⟨h1, h2⟩ := levelOf_lt q
        refine ⟨by simpa using h1, ?_⟩
        have : lv (l :: ls) (j + 1) = lv ls j := by simp [lv]
        rw [this]; exact h2
theorem levelOf_none : ∀ {W : List Lv} {d : Int}, levelOf W d = none → ∀ i, i < W.length → (lv W i).p ≤ d
  | [], _, _, i, h => by simp at h
  | l :: ls, d, h, i, hi => by
    unfold levelOf at h
    split at h
    · cases h
    · rename_i hd
      cases q : levelOf ls d with
      | some j => rw [q] at h; cases h
      | none =>
        cases i with
        | zero => simp [lv]; omega
        | succ i =>
          have := levelOf_none q i (by simpa using hi)
          have e : lv (l :: ls) (i + 1) = lv ls i := by simp [lv]
          rw [e]; exact this
theorem levelOf_ge : ∀ {W : List Lv} {d : Int} {i : Nat}, levelOf W d = some i → ∀ j, j < i → (lv W j).p ≤ d
  | [], _, _, h => by simp [levelOf] at h
  | l :: ls, d, i, h => by
    intro j hj
    unfold levelOf at h
    split at h
    · cases h; omega
    · rename_i hd
      cases q : levelOf ls d with
      | none => rw [q] at h; cases h
      | some k =>
        rw [q] at h
        have e : k + 1 = i := Option.some.inj h
        subst e
        cases j with
        | zero => simp [lv]; omega
        | succ j =>
          have := levelOf_ge q j (by omega)
          have e : lv (l :: ls) (j + 1) = lv ls j := by simp [lv]
          rw [e]; exact this
theorem levelOf_isN : ∀ {W : List Lv} {d : Int}, (∀ j, j < W.length → (lv W j).p ≤ d) → levelOf W d = none
  | [], _, _ => rfl
  | l :: ls, d, hp => by
    have e : ∀ j, lv (l :: ls) (j + 1) = lv ls j := fun j => by simp [lv]
    have h0 := hp 0 (by simp)
    unfold levelOf
    rw [if_neg (by simp [lv] at h0; omega), levelOf_isN (fun j hj => by have := hp (j + 1) (by simpa using hj); rwa [e] at this)]
    rfl
theorem spotAt_lt {W : List Lv} (ok : WOk W) (B : Bk) (now rest due : Int) : (spotAt W B now rest due).lv < W.length := by
  unfold spotAt
  split
  · rename_i i h; exact (levelOf_lt h).1
  · have := ok.pos; show W.length - 1 < W.length; omega
theorem spotAt_due (W : List Lv) (B : Bk) (now rest due : Int) : (spotAt W B now rest due).due = due := by
  unfold spotAt
  split <;> rfl
theorem va_gt {l : Lv} (hg : 0 < l.g) (hs : 0 < l.s) (pt now : Int) : now < va l pt now := by
  unfold va
  have h1 : 0 ≤ (pt - now / l.g - 1) % l.s := Int.emod_nonneg _ (by omega)
  have h2 : (now / l.g + 1) * l.g ≤ (now / l.g + 1 + (pt - now / l.g - 1) % l.s) * l.g := Int.mul_le_mul_of_nonneg_right (by omega) (by omega)
  have h3 : now < (now / l.g + 1) * l.g := Int.lt_ediv_add_one_mul_self now hg
  omega
theorem va_vis {l : Lv} (hg : 0 < l.g) (hs : 0 < l.s) (pt now : Int) : isVis l pt (va l pt now - 1) (va l pt now) = true := by
  unfold isVis va
  generalize hq : now / l.g + 1 + (pt - now / l.g - 1) % l.s = q
  have e1 : q * l.g / l.g = q := Int.mul_ediv_cancel _ (by omega)
  have e2 : (q * l.g - 1) / l.g = q - 1 := by
    have h1 : q * l.g - 1 = (l.g - 1) + (q - 1) * l.g := by rw [Int.sub_mul]; omega
    rw [h1, Int.add_mul_ediv_right _ _ (by omega), Int.ediv_eq_zero_of_lt (by omega) (by omega)]
    omega
  rw [e1, e2]
  have e3 : pt - (q - 1) - 1 = pt - q := by omega
  rw [e3]
  have e4 : (pt - q) % l.s = 0 := by
    rw [← hq]
    have : pt - (now / l.g + 1 + (pt - now / l.g - 1) % l.s) = (pt - now / l.g - 1) - (pt - now / l.g - 1) % l.s := by omega
    rw [this, Int.sub_emod, Int.emod_emod_of_dvd _ (Int.dvd_refl _)]
    simp
  rw [e4]
  simp
  omega
theorem taken_some {W : List Lv} (ok : WOk W) {B : Bk} {sp sp' : Spot} {tick : Int} (h : taken W B sp tick = some sp') :
    sp'.lv < W.length ∧ sp'.due = sp.due ∧ sp.lv ≠ 0 ∧ B.fire = false ∧ (tick < sp.due ∧ sp' = spotAt W B tick (sp.due - tick) sp.due ∨ sp.due ≤ tick ∧ B.put = true ∧ sp' = ⟨0, tick, sp.due⟩) := by
  unfold taken at h
  split at h
  · cases h
  · rename_i hn
    have h1 : sp.lv ≠ 0 := fun e => hn (.inl e)
    have h2 : B.fire = false := by
      cases e : B.fire
      · rfl
      · exact absurd (.inr e) hn
    split at h
    · rename_i hd
      cases h
      exact ⟨spotAt_lt ok _ _ _ _, spotAt_due _ _ _ _ _, h1, h2, .inl ⟨hd, rfl⟩⟩
    · rename_i hd
      split at h
      · rename_i hp
        cases h
        exact ⟨ok.pos, rfl, h1, h2, .inr ⟨by omega, hp, rfl⟩⟩
      · cases h
theorem visGo_last {W : List Lv} (ok : WOk W) {B : Bk} {before now : Int} : ∀ (is : List Nat) {sp sp' : Spot}, (visGo W B before now is sp).getLast? = some (some sp') →
    sp'.lv < W.length ∧ sp'.due = sp.due ∧ B.fire = false ∧ (now < sp.due ∧ sp' = spotAt W B now (sp.due - now) sp.due ∨ sp.due ≤ now ∧ sp' = ⟨0, now, sp.due⟩)
  | [], sp, sp', h => by simp [visGo] at h
  | i :: is, sp, sp', h => by
    unfold visGo at h
    split at h
    · cases q : taken W B sp now with
      | none => rw [q] at h; simp at h
      | some s1 =>
        rw [q] at h
        dsimp only at h
        obtain ⟨a1, a2, a3, a4, a5⟩ := taken_some ok q
        cases hr : visGo W B before now is s1 with
        | nil =>
          rw [hr] at h
          have e : s1 = sp' := by simpa using h
          subst e
          refine ⟨a1, a2, a4, ?_⟩
          rcases a5 with ⟨b1, b2⟩ | ⟨b1, _, b2⟩
          · exact .inl ⟨b1, b2⟩
          · exact .inr ⟨b1, b2⟩
        | cons x xs =>
          rw [hr] at h
          have h' : (visGo W B before now is s1).getLast? = some (some sp') := by
            rw [hr]
            rw [List.getLast?_cons] at h
            cases hx : (x :: xs).getLast? with
            | none => simp at hx
            | some z => rw [hx] at h; simpa using h
          obtain ⟨c1, c2, c3, c4⟩ := visGo_last ok is h'
          refine ⟨c1, c2.trans a2, c3, ?_⟩
          rw [a2] at c4
          exact c4
    · exact visGo_last ok is h
theorem visGo_ne {W : List Lv} {B : Bk} {before now : Int} : ∀ (is : List Nat) {sp : Spot}, sp.lv ∈ is → isVis (lv W sp.lv) sp.pt before now = true → visGo W B before now is sp ≠ []
  | [], sp, h, _ => by simp at h
  | i :: is, sp, h, hv => by
    unfold visGo
    by_cases e : sp.lv = i
    · rw [if_pos ⟨e, by rw [← e]; exact hv⟩]
      cases taken W B sp now <;> simp
    · rw [if_neg (fun z => e z.1)]
      exact visGo_ne is (by rcases List.mem_cons.mp h with q | q; exact absurd q e; exact q) hv
theorem mem_order {W : List Lv} {B : Bk} {i : Nat} : i ∈ order W B ↔ i < W.length := by
  unfold order
  split <;> simp
theorem visited_ne {W : List Lv} (ok : WOk W) {B : Bk} {sp : Spot} (hl : sp.lv < W.length) (tick : Int) :
    visited W B sp (va (lv W sp.lv) sp.pt tick - 1) (va (lv W sp.lv) sp.pt tick) ≠ [] :=
  visGo_ne _ (mem_order.mpr hl) (va_vis (by have := ok.all _ hl; omega) (by have := ok.all _ hl; omega) _ _)
def mu (sp : Spot) (tick : Int) : Nat := if sp.lv = 0 then 1 else 2 + (sp.due - tick).toNat
theorem visGo_zero {W : List Lv} {B : Bk} {before now : Int} : ∀ (is : List Nat) {sp : Spot}, sp.lv = 0 → ∀ x ∈ visGo W B before now is sp, x = none
  | [], sp, _, x, h => by simp [visGo] at h
  | i :: is, sp, h0, x, h => by
    unfold visGo at h
    split at h
    · have e : taken W B sp now = none := by unfold taken; rw [if_pos (.inl h0)]
      rw [e] at h
      simpa using h
    · exact visGo_zero is h0 x h
theorem skipped_pos {W : List Lv} {sp : Spot} {tick : Int} {limit : Option Int} (h : 0 < (skipped W sp tick limit).1) :
    sp.lv = W.length - 1 ∧ reach W ≤ sp.due - tick ∧ (skipped W sp tick limit).2 = va (lv W sp.lv) sp.pt tick - tick ∧ (skipped W sp tick limit).1 ≤ (sp.due - tick - reach W) / (va (lv W sp.lv) sp.pt tick - tick) := by
  unfold skipped at h ⊢
  split at h
  · simp at h
  · rename_i hn
    have h1 : sp.lv = W.length - 1 := Classical.byContradiction fun e => hn (.inl e)
    have h2 : reach W ≤ sp.due - tick := by
      rcases Int.lt_or_le (sp.due - tick) (reach W) with e | e
      · exact absurd (.inr e) hn
      · exact e
    rw [if_neg hn]
    refine ⟨h1, h2, ?_⟩
    cases limit with
    | none => exact ⟨rfl, Int.le_refl _⟩
    | some l => exact ⟨rfl, Int.min_le_left _ _⟩
theorem fol_ends {W : List Lv} (ok : WOk W) (B : Bk) (limit : Option Int) : ∀ (n : Nat) (sp : Spot) (tick mv : Int), sp.lv < W.length → mu sp tick ≤ n → ∃ r, fol W B limit n sp tick mv = some r
  | 0, sp, tick, mv, _, h => by unfold mu at h; split at h <;> omega
  | n + 1, sp, tick, mv, hl, h => by
    have hall := ok.all _ hl
    have hgt := va_gt (l := lv W sp.lv) (by omega) (by omega) sp.pt tick
    unfold fol
    dsimp only
    split
    · exact ⟨_, rfl⟩
    · have hne := visited_ne ok (B := B) hl tick
      cases hq : (visited W B sp (va (lv W sp.lv) sp.pt tick - 1) (va (lv W sp.lv) sp.pt tick)).getLast? with
      | none => exact absurd (List.getLast?_eq_none_iff.mp hq) hne
      | some o =>
        cases o with
        | none => exact ⟨_, rfl⟩
        | some sp' =>
          have h0 : sp.lv ≠ 0 := fun e => by
            have := visGo_zero (W := W) (B := B) (before := va (lv W sp.lv) sp.pt tick - 1) (now := va (lv W sp.lv) sp.pt tick) (order W B) e (some sp') (List.mem_of_getLast? hq)
            cases this
          obtain ⟨c1, c2, c3, c4⟩ := visGo_last ok _ hq
          have hm : 2 + (sp.due - tick).toNat ≤ n + 1 := by unfold mu at h; rw [if_neg h0] at h; exact h
          have hmu : mu sp' (va (lv W sp.lv) sp.pt tick) ≤ n := by
            unfold mu
            split
            · omega
            · rename_i hz
              rcases c4 with ⟨d1, d2⟩ | ⟨d1, d2⟩
              · rw [c2]; omega
              · exact absurd (by rw [d2]) hz
          dsimp only
          split
          · rename_i hk
            obtain ⟨k1, k2, k3, k4⟩ := skipped_pos hk
            refine fol_ends ok B limit n _ _ _ (spotAt_lt ok _ _ _ _) ?_
            have hs : 0 < va (lv W sp'.lv) sp'.pt (va (lv W sp.lv) sp.pt tick) - va (lv W sp.lv) sp.pt tick := by
              have hall' := ok.all _ c1
              have := va_gt (l := lv W sp'.lv) (by omega) (by omega) sp'.pt (va (lv W sp.lv) sp.pt tick)
              omega
            have hadd : 0 < (skipped W sp' (va (lv W sp.lv) sp.pt tick) limit).1 * (skipped W sp' (va (lv W sp.lv) sp.pt tick) limit).2 := Int.mul_pos hk (by rw [k3]; exact hs)
            have hr := ok.all (W.length - 1) (by have := ok.pos; omega)
            unfold mu
            split
            · omega
            · rw [spotAt_due, c2]
              rw [c2] at k2
              unfold reach at k2
              omega
          · exact fol_ends ok B limit n sp' _ _ c1 hmu
end TwM
/-! Tw: what stands in the heap; the readings' short words -/
namespace Tw
open PySem PySem.Spec PyProof.Rows L2 He TwM
open PySem.W (Frag)
/-! ### operators by short names -/
abbrev oAdd : R2 := rI0 fun i j => .int (i + j)
abbrev oSub : R2 := rI0 fun i j => .int (i - j)
abbrev oMul : R2 := rI CMul fun i j => .int (i * j)
abbrev oDiv : R2 := rI CDiv fun i j => .int (i / j)
abbrev oMod : R2 := rI (fun _ j => 0 < j) fun i j => .int (i % j)
abbrev oPow : R2 := rI CPow fun i j => .int (i ^ j.toNat)
abbrev oDivW : R2 := rI CDivW fun i j => .int (i / j)
abbrev oNeg : V → Hp → VK → Prop := rU fun i => .int (-i)
abbrev oLt : R2 := rI0 fun i j => .bl (decide (i < j))
abbrev oLe : R2 := rI0 fun i j => .bl (decide (i ≤ j))
abbrev oGt : R2 := rI0 fun i j => .bl (decide (j < i))
abbrev oGe : R2 := rI0 fun i j => .bl (decide (j ≤ i))
abbrev oIsN : R2 := fun x y H Q => y = .non ∧ Q (.bl (decide (x = .non))) H
abbrev oNotN : R2 := fun x y H Q => y = .non ∧ Q (.bl (!decide (x = .non))) H
abbrev oAbs : List V → Hp → VK → Prop := fun xs H Q => ∃ i, xs = [.int i] ∧ Q (.int (if i < 0 then -i else i)) H
abbrev oMax2 : List V → Hp → VK → Prop := fun xs H Q => ∃ i j, xs = [.int i, .int j] ∧ Q (.int (if j > i then j else i)) H
abbrev oMin2 : List V → Hp → VK → Prop := fun xs H Q => ∃ i j, xs = [.int i, .int j] ∧ Q (.int (if j < i then j else i)) H
abbrev oInt1 : List V → Hp → VK → Prop := fun xs H Q => (∃ i, xs = [.int i] ∧ Q (.int i) H) ∨ ∃ k, xs = [.bl k] ∧ Q (.int (if k then 1 else 0)) H
abbrev oStrI : List V → Hp → VK → Prop := fun xs H Q => ∃ i, xs = [.int i] ∧ i.natAbs.log2 < 1920 ∧ Q (.str (toString i)) H
abbrev oLenS : List V → Hp → VK → Prop := fun xs H Q => ∃ z, xs = [.str z] ∧ z.length ≤ sizeLine ∧ Q (.int z.length) H
theorem sc_ii (i j : Int) : scal (.int i) (.int j) = true := rfl
theorem sc_ss (i j : Str) : scal (.str i) (.str j) = true := rfl
theorem sc_bb (i j : Bool) : scal (.bl i) (.bl j) = true := rfl
theorem sc_ni (j : Int) : scal .non (.int j) = true := rfl
theorem sc_in (j : Int) : scal (.int j) .non = true := rfl
theorem sc_nn : scal .non .non = true := rfl
theorem sc_is (i : Int) (j : Str) : scal (.int i) (.str j) = true := rfl
structure Klv (K : Frag) (w : World) : Prop where
  cL : Cls K (ga K "Level")
  nLg : NoAttr K (ga K "Level") "kept_grain"
  nLs : NoAttr K (ga K "Level") "kept_slots"
  nLp : NoAttr K (ga K "Level") "kept_span"
  iL : IsiC K (ga K "Level")
  kL : PySem.W.kitOne K (.ref (ga K "Level")) (.ref (ga K "Level")) = some true
/-! ### what stands in the heap -/
structure LOk (l : Lv) : Prop where
  g1 : 1 ≤ l.g
  g2 : l.g ≤ 1000
  s1 : 2 ≤ l.s
  s2 : l.s ≤ 100
def lfs (l : Lv) : List (Str × V) := [("kept_grain", .int l.g), ("kept_slots", .int l.s), ("kept_span", .int l.p)]
structure LvAt (K : Frag) (H : Hp) (a : Addr) (l : Lv) : Prop where
  ok : LOk l
  at_ : ∃ dx, H a = some (.ins (ga K "Level") dx (lfs l))
structure WhAt (K : Frag) (H : Hp) (a : Addr) (W : List Lv) : Prop where
  ok : WOk W
  at_ : ∃ (dx t : Addr) (as : List Addr), H a = some (.ins (ga K "Wheel") dx [("kept_levels", .ref t)]) ∧ H t = some (.tup (as.map V.ref)) ∧ as.length = W.length ∧ ∀ i c, as[i]? = some c → LvAt K H c (lv W i)
def sUp (b : Bool) : Str := if b then "up" else "down"
def sFire (b : Bool) : Str := if b then "fire" else "move"
def sHigh (b : Bool) : Str := if b then "high" else "low"
def sPut (b : Bool) : Str := if b then "put" else "now"
def sZone (b : Bool) : Str := if b then "one" else "now"
def sBey (n : Nat) : Str := match n with | 0 => "refuse" | 1 => "last" | _ => "cut"
def bws (B : Bk) : List Str := [sUp B.up, sFire B.fire, sHigh B.high, sPut B.put, sZone B.zone, sBey B.bey]
structure BkAt (K : Frag) (H : Hp) (a : Addr) (B : Bk) : Prop where
  ok : B.bey < 3
  at_ : ∃ dx t, H a = some (.ins (ga K "Book") dx [("kept_values", .ref t)]) ∧ H t = some (.tup ((bws B).map V.str))
def SpAt (H : Hp) (p : Addr) (sp : Spot) : Prop := H p = some (.tup [.int sp.lv, .int sp.pt, .int sp.due])
def OSp (H : Hp) (v : V) (o : Option Spot) : Prop := match o with
  | none => v = .non
  | some sp => ∃ p, v = .ref p ∧ SpAt H p sp
def OSps (H : Hp) (xs : List V) (os : List (Option Spot)) : Prop := xs.length = os.length ∧ ∀ (i : Nat) (v : V) (o : Option Spot), xs[i]? = some v → os[i]? = some o → OSp H v o
section
variable {K : Frag} {H H' : Hp} {a p : Addr}
theorem LvAt.same {l : Lv} (h : LvAt K H a l) (e : Same H H') : LvAt K H' a l := ⟨h.ok, h.at_.elim fun dx q => ⟨dx, e _ _ q⟩⟩
theorem WhAt.same {W : List Lv} (h : WhAt K H a W) (e : Same H H') : WhAt K H' a W := by
  obtain ⟨ok, dx, t, as, h1, h2, h3, h4⟩ := h
  exact ⟨ok, dx, t, as, e _ _ h1, e _ _ h2, h3, fun i c q => (h4 i c q).same e⟩
theorem BkAt.same {B : Bk} (h : BkAt K H a B) (e : Same H H') : BkAt K H' a B := by
  obtain ⟨ok, dx, t, h1, h2⟩ := h
  exact ⟨ok, dx, t, e _ _ h1, e _ _ h2⟩
theorem SpAt.same {sp : Spot} (h : SpAt H p sp) (e : Same H H') : SpAt H' p sp := e _ _ h
theorem OSp.same {v : V} {o : Option Spot} (h : OSp H v o) (e : Same H H') : OSp H' v o := by
  cases o with
  | none => exact h
  | some sp => exact h.elim fun p q => ⟨p, q.1, q.2.same e⟩
theorem OSps.same {xs : List V} {os : List (Option Spot)} (h : OSps H xs os) (e : Same H H') : OSps H' xs os := ⟨h.1, fun i v o q r => (h.2 i v o q r).same e⟩
theorem OSps.nil : OSps H [] [] := ⟨rfl, fun i v o q => by simp at q⟩
theorem LvAt.inj {l l' : Lv} (h : LvAt K H a l) (h' : LvAt K H a l') : l' = l := by
  obtain ⟨_, dx, h1⟩ := h
  obtain ⟨_, dx', h2⟩ := h'
  rw [h1] at h2
  have h3 := Option.some.inj h2
  injection h3 with _ _ h4
  obtain ⟨g, s, p⟩ := l
  obtain ⟨g', s', p'⟩ := l'
  simp only [lfs, List.cons.injEq, Prod.mk.injEq, V.int.injEq, true_and, and_true] at h4
  obtain ⟨e1, e2, e3⟩ := h4
  rw [e1, e2, e3]
theorem lv_ext {W W' : List Lv} (hl : W'.length = W.length) (h : ∀ i, i < W.length → lv W' i = lv W i) : W' = W := by
  refine List.ext_getElem hl fun i h1 h2 => ?_
  have := h i h2
  simpa [lv, List.getD_eq_getElem?_getD, h1, h2] using this
theorem map_inj {α β : Type} {f : α → β} (hf : ∀ a b, f a = f b → a = b) : ∀ {l l' : List α}, l.map f = l'.map f → l = l'
  | [], [], _ => rfl
  | [], _ :: _, h => by simp at h
  | _ :: _, [], h => by simp at h
  | a :: l, b :: l', h => by
    rw [List.map_cons, List.map_cons] at h
    injection h with h1 h2
    rw [hf a b h1, map_inj hf h2]
theorem refs_inj {l l' : List Addr} (h : l.map V.ref = l'.map V.ref) : l = l' := map_inj (fun a b e => V.ref.inj e) h
theorem strs_inj {l l' : List Str} (h : l.map V.str = l'.map V.str) : l = l' := map_inj (fun a b e => V.str.inj e) h
theorem WhAt.inj {W W' : List Lv} (h : WhAt K H a W) (h' : WhAt K H a W') : W' = W := by
  obtain ⟨_, dx, t, as, h1, h2, h3, h4⟩ := h
  obtain ⟨_, dx', t', as', h1', h2', h3', h4'⟩ := h'
  rw [h1] at h1'
  have e1 := Option.some.inj h1'
  injection e1 with _ _ e2
  simp only [List.cons.injEq, Prod.mk.injEq, V.ref.injEq, true_and, and_true] at e2
  subst e2
  rw [h2] at h2'
  have e3 := Option.some.inj h2'
  injection e3 with e4
  have e5 := refs_inj e4
  subst e5
  refine lv_ext (by omega) fun i hi => ?_
  have hi' : i < as.length := by omega
  exact (h4 i _ (List.getElem?_eq_getElem hi')).inj (h4' i _ (List.getElem?_eq_getElem hi'))
theorem bws_inj {B B' : Bk} (hb : B.bey < 3) (hb' : B'.bey < 3) (h : bws B' = bws B) : B' = B := by
  obtain ⟨u, f, h1, p, z, n⟩ := B
  obtain ⟨u', f', h1', p', z', n'⟩ := B'
  simp only [bws, List.cons.injEq, and_true] at h
  obtain ⟨e1, e2, e3, e4, e5, e6⟩ := h
  have a1 : u' = u := by revert e1; cases u <;> cases u' <;> decide +kernel
  have a2 : f' = f := by revert e2; cases f <;> cases f' <;> decide +kernel
  have a3 : h1' = h1 := by revert e3; cases h1 <;> cases h1' <;> decide +kernel
  have a4 : p' = p := by revert e4; cases p <;> cases p' <;> decide +kernel
  have a5 : z' = z := by revert e5; cases z <;> cases z' <;> decide +kernel
  have a6 : n' = n := by
    dsimp only at hb hb'
    revert e6
    match n, n', hb, hb' with
    | 0, 0, _, _ => decide +kernel
    | 0, 1, _, _ => decide +kernel
    | 0, 2, _, _ => decide +kernel
    | 1, 0, _, _ => decide +kernel
    | 1, 1, _, _ => decide +kernel
    | 1, 2, _, _ => decide +kernel
    | 2, 0, _, _ => decide +kernel
    | 2, 1, _, _ => decide +kernel
    | 2, 2, _, _ => decide +kernel
  rw [a1, a2, a3, a4, a5, a6]
theorem BkAt.inj {B B' : Bk} (h : BkAt K H a B) (h' : BkAt K H a B') : B' = B := by
  obtain ⟨ok, dx, t, h1, h2⟩ := h
  obtain ⟨ok', dx', t', h1', h2'⟩ := h'
  rw [h1] at h1'
  have e1 := Option.some.inj h1'
  injection e1 with _ _ e2
  simp only [List.cons.injEq, Prod.mk.injEq, V.ref.injEq, true_and, and_true] at e2
  subst e2
  rw [h2] at h2'
  have e3 := Option.some.inj h2'
  injection e3 with e4
  exact (bws_inj ok' ok (strs_inj e4)).symm
theorem SpAt.inj {s s' : Spot} (h : SpAt H p s) (h' : SpAt H p s') : s' = s := by
  unfold SpAt at h h'
  rw [h] at h'
  have e1 := Option.some.inj h'
  obtain ⟨l, a, b⟩ := s
  obtain ⟨l', a', b'⟩ := s'
  simp only [HO.tup.injEq, List.cons.injEq, V.int.injEq, and_true] at e1
  obtain ⟨e1, e2, e3⟩ := e1
  have e4 : l' = l := by omega
  rw [e4, e2, e3]
theorem sz0 : (0 ≤ sizeLine) = True := eq_true (by decide)
theorem sz1 : (1 ≤ sizeLine) = True := eq_true (by decide)
theorem sz2 : (2 ≤ sizeLine) = True := eq_true (by decide)
theorem sz3 : (3 ≤ sizeLine) = True := eq_true (by decide)
theorem sz4 : (4 ≤ sizeLine) = True := eq_true (by decide)
theorem sz5 : (5 ≤ sizeLine) = True := eq_true (by decide)
theorem sz6 : (6 ≤ sizeLine) = True := eq_true (by decide)
theorem lk1 (x : Str) (v : V) (r : List (Str × V)) : List.lookup x ((x, v) :: r) = some v := by
  rw [List.lookup_cons, show (x == x) = true from beq_self_eq_true x]
theorem lk2 (x y : Str) (v : V) (r : List (Str × V)) (h : (x == y) = false) : List.lookup x ((y, v) :: r) = List.lookup x r := by
  rw [List.lookup_cons, h]
theorem lfs_g (l : Lv) : (lfs l).lookup ("kept_grain" : Str) = some (.int l.g) := lk1 _ _ _
theorem lfs_s (l : Lv) : (lfs l).lookup ("kept_slots" : Str) = some (.int l.s) := by
  unfold lfs
  rw [lk2 _ _ _ _ (by decide +kernel), lk1]
theorem lfs_p (l : Lv) : (lfs l).lookup ("kept_span" : Str) = some (.int l.p) := by
  unfold lfs
  rw [lk2 _ _ _ _ (by decide +kernel), lk2 _ _ _ _ (by decide +kernel), lk1]
theorem sUp_up (b : Bool) : (sUp b = "up") = (b = true) := by cases b <;> decide +kernel
theorem sFire_fire (b : Bool) : (sFire b = "fire") = (b = true) := by cases b <;> decide +kernel
theorem sHigh_high (b : Bool) : (sHigh b = "high") = (b = true) := by cases b <;> decide +kernel
theorem sPut_put (b : Bool) : (sPut b = "put") = (b = true) := by cases b <;> decide +kernel
theorem sZone_now (b : Bool) : (sZone b = "now") = (b = false) := by cases b <;> decide +kernel
theorem sBey_refuse (n : Nat) : (sBey n = "refuse") = (n = 0) := by
  match n with
  | 0 => decide +kernel
  | 1 => decide +kernel
  | n + 2 => exact propext ⟨fun h => absurd h (by show ¬ (("cut" : Str) = "refuse"); decide +kernel), fun h => by omega⟩
theorem sBey_cut (n : Nat) : (sBey n = "cut") = (2 ≤ n) := by
  match n with
  | 0 => exact propext ⟨fun h => absurd h (by decide +kernel), fun h => by omega⟩
  | 1 => exact propext ⟨fun h => absurd h (by decide +kernel), fun h => by omega⟩
  | n + 2 => exact propext ⟨fun h => by omega, fun h => rfl⟩
end
end Tw
/-! Tw: promises and readings of the package's defs -/
namespace Tw
open PySem PySem.Spec PyProof.Rows L2 He TwM
open PySem.W (Frag)
local macro_rules | `(tactic| walk_at "rs") => `(tactic| simp only [and_assoc, tNever, tSeq, tAsg, gName, tVar, tC, tOp, rI, rI0, rU, tUn, oAdd, oSub, oMul, oDiv, oMod, oNeg, oLt, oLe, oGt, oGe, oIsN, oNotN, tFn, tCons, tNil, tIfS, tIf, tTest, tB, tNot, tAnd, tOr, tAndV, tOrV, tNotV,
  tRet, tRetN, tNext, tCB, tDrop, tChain, rEq, rNe, oMax2, oMin2, oInt1, rLenF, L2.start, List.map_cons, List.map_nil, List.length_cons, List.length_nil, List.replicate_succ, List.replicate_zero, List.cons_append, List.nil_append, Nat.reduceAdd, Nat.reduceSub, Nat.zero_add,
  List.set_cons_zero, List.set_cons_succ, List.getElem?_cons_zero, List.getElem?_cons_succ, Option.some.injEq, V.int.injEq, V.ref.injEq, V.str.injEq, V.bl.injEq, exists_eq_left', exists_eq_left, exists_and_left, List.cons.injEq, and_true, true_and, decide_eq_true_eq, sc_ii, sc_ss, sc_bb, sc_ni, sc_in, sc_nn, sc_is, reduceCtorEq,
  Bool.not_eq_true', decide_eq_false_iff_not, if_true, if_false, Bool.false_eq_true, exists_eq', exists_const, false_and, and_false, or_false, false_or, exists_false, Bool.not_not, Bool.not_true, Bool.not_false, sUp_up, sFire_fire, sHigh_high, sPut_put, sZone_now, sBey_refuse, sBey_cut, tTup, tLst, sz0, sz1, sz2, sz3, sz4, sz5, sz6])
section
variable {K : Frag} {w : World}
/-! ### shares -/
def sp_is_integer (K : Frag) : Sp := fun vs H Q _ => ∃ i : Int, vs = [.int i] ∧ Q (.bl true) H
def sp_is_count (K : Frag) : Sp := fun vs H Q _ => ∃ i : Int, vs = [.int i] ∧ Q (.bl (decide (0 ≤ i))) H
def sp_rounded (K : Frag) : Sp := fun vs H Q _ => ∃ (t g : Int) (u : Bool), vs = [.int t, .int g, .str (sUp u)] ∧ 0 < g ∧ g < 1073741824 ∧ Q (.int (rnd u t g)) H
def sp_is_within (K : Frag) : Sp := fun vs H Q _ => ∃ (i lo hi : Int), vs = [.int i, .int lo, .int hi] ∧ Q (.bl (decide (lo ≤ i ∧ i ≤ hi))) H
local macro_rules | `(tactic| walk_at "rsx") => `(tactic| simp only [*, and_assoc, tNever, List.length_map, tFld, rIxTH, rIxLH, rLenTH, rLenLH, lk1, lfs_g, lfs_s, lfs_p, HO.ins.injEq, HO.tup.injEq, HO.lst.injEq, sp_is_integer, sp_is_count, sp_is_within, sp_rounded, tSeq, tAsg, gName, tVar, tC, tOp, rI, rI0, rU, tUn, oAdd, oSub, oMul, oDiv, oMod, oNeg, oLt, oLe, oGt, oGe, oIsN, oNotN, tFn, tCons, tNil, tIfS, tIf, tTest, tB, tNot, tAnd, tOr, tAndV, tOrV, tNotV,
    tRet, tRetN, tNext, tCB, tDrop, tChain, rEq, rNe, oMax2, oMin2, oInt1, rLenF, L2.start, List.map_cons, List.map_nil, List.length_cons, List.length_nil, List.replicate_succ, List.replicate_zero, List.cons_append, List.nil_append, Nat.reduceAdd, Nat.reduceSub, Nat.zero_add,
    List.set_cons_zero, List.set_cons_succ, List.getElem?_cons_zero, List.getElem?_cons_succ, Option.some.injEq, V.int.injEq, V.ref.injEq, V.str.injEq, V.bl.injEq, exists_eq_left', exists_eq_left, exists_and_left, List.cons.injEq, and_true, true_and, decide_eq_true_eq, sc_ii, sc_ss, sc_bb, sc_ni, sc_in, sc_nn, sc_is, reduceCtorEq,
    Bool.not_eq_true', decide_eq_false_iff_not, if_true, if_false, Bool.false_eq_true, exists_eq', exists_const, false_and, and_false, or_false, false_or, exists_false, Bool.not_not, Bool.not_true, Bool.not_false, sUp_up, sFire_fire, sHigh_high, sPut_put, sZone_now, sBey_refuse, sBey_cut, tTup, tLst, sz0, sz1, sz2, sz3, sz4, sz5, sz6])
/-! ### levels, wheels -/
def sp_Level_grain (K : Frag) : Sp := fun vs H Q _ => ∃ a, vs = [.ref a] ∧ ∃ l, LvAt K H a l ∧ Q (.int l.g) H
def sp_Level_slots (K : Frag) : Sp := fun vs H Q _ => ∃ a, vs = [.ref a] ∧ ∃ l, LvAt K H a l ∧ Q (.int l.s) H
def sp_Level_span (K : Frag) : Sp := fun vs H Q _ => ∃ a, vs = [.ref a] ∧ ∃ l, LvAt K H a l ∧ Q (.int l.p) H
def sp_Wheel_reach (K : Frag) : Sp := fun vs H Q _ => ∃ a, vs = [.ref a] ∧ ∃ W, WhAt K H a W ∧ Q (.int (reach W)) H
def sp_Wheel___len__ (K : Frag) : Sp := fun vs H Q _ => ∃ a, vs = [.ref a] ∧ ∃ W, WhAt K H a W ∧ Q (.int W.length) H
local macro_rules | `(tactic| walk_at "rsy") => `(tactic| simp only [*, and_assoc, tNever, List.length_map, tFld, rIxTH, rIxLH, rLenTH, rLenLH, lk1, lfs_g, lfs_s, lfs_p, HO.ins.injEq, HO.tup.injEq, HO.lst.injEq, sp_Level_grain, sp_Level_slots, sp_Level_span, sp_Wheel_reach, sp_Wheel___len__, sp_is_integer, sp_is_count, sp_is_within, sp_rounded, tSeq, tAsg, gName, tVar, tC, tOp, rI, rI0, rU, tUn, oAdd, oSub, oMul, oDiv, oMod, oNeg, oLt, oLe, oGt, oGe, oIsN, oNotN, tFn, tCons, tNil, tIfS, tIf, tTest, tB, tNot, tAnd, tOr, tAndV, tOrV, tNotV,
    tRet, tRetN, tNext, tCB, tDrop, tChain, rEq, rNe, oMax2, oMin2, oInt1, rLenF, L2.start, List.map_cons, List.map_nil, List.length_cons, List.length_nil, List.replicate_succ, List.replicate_zero, List.cons_append, List.nil_append, Nat.reduceAdd, Nat.reduceSub, Nat.zero_add,
    List.set_cons_zero, List.set_cons_succ, List.getElem?_cons_zero, List.getElem?_cons_succ, Option.some.injEq, V.int.injEq, V.ref.injEq, V.str.injEq, V.bl.injEq, exists_eq_left', exists_eq_left, exists_and_left, List.cons.injEq, and_true, true_and, decide_eq_true_eq, sc_ii, sc_ss, sc_bb, sc_ni, sc_in, sc_nn, sc_is, reduceCtorEq,
    Bool.not_eq_true', decide_eq_false_iff_not, if_true, if_false, Bool.false_eq_true, exists_eq', exists_const, false_and, and_false, or_false, false_or, exists_false, Bool.not_not, Bool.not_true, Bool.not_false, sUp_up, sFire_fire, sHigh_high, sPut_put, sZone_now, sBey_refuse, sBey_cut, tTup, tLst, sz0, sz1, sz2, sz3, sz4, sz5, sz6])
def sp_visit_after (K : Frag) : Sp := fun vs H Q _ => ∃ a pt now, vs = [.ref a, .int pt, .int now] ∧ ∃ l, LvAt K H a l ∧ Q (.int (va l pt now)) H
def sp_is_visited (K : Frag) : Sp := fun vs H Q _ => ∃ a pt before now, vs = [.ref a, .int pt, .int before, .int now] ∧ ∃ l, LvAt K H a l ∧ Q (.bl (isVis l pt before now)) H
/-! ### books -/
def sp_Book_rounding (K : Frag) : Sp := fun vs H Q _ => ∃ a, vs = [.ref a] ∧ ∃ B, BkAt K H a B ∧ Q (.str (sUp B.up)) H
def sp_Book_action (K : Frag) : Sp := fun vs H Q _ => ∃ a, vs = [.ref a] ∧ ∃ B, BkAt K H a B ∧ Q (.str (sFire B.fire)) H
def sp_Book_order (K : Frag) : Sp := fun vs H Q _ => ∃ a, vs = [.ref a] ∧ ∃ B, BkAt K H a B ∧ Q (.str (sHigh B.high)) H
def sp_Book_due (K : Frag) : Sp := fun vs H Q _ => ∃ a, vs = [.ref a] ∧ ∃ B, BkAt K H a B ∧ Q (.str (sPut B.put)) H
def sp_Book_zero (K : Frag) : Sp := fun vs H Q _ => ∃ a, vs = [.ref a] ∧ ∃ B, BkAt K H a B ∧ Q (.str (sZone B.zone)) H
def sp_Book_beyond (K : Frag) : Sp := fun vs H Q _ => ∃ a, vs = [.ref a] ∧ ∃ B, BkAt K H a B ∧ Q (.str (sBey B.bey)) H
local macro_rules | `(tactic| walk_at "rsz") => `(tactic| simp only [*, and_assoc, tNever, List.length_map, tFld, rIxTH, rIxLH, rLenTH, rLenLH, lk1, lfs_g, lfs_s, lfs_p, HO.ins.injEq, HO.tup.injEq, HO.lst.injEq, sp_Book_rounding, sp_Book_action, sp_Book_order, sp_Book_due, sp_Book_zero, sp_Book_beyond, Int.toNat_natCast, sp_visit_after, sp_is_visited, sp_Level_grain, sp_Level_slots, sp_Level_span, sp_Wheel_reach, sp_Wheel___len__, sp_is_integer, sp_is_count, sp_is_within, sp_rounded, tSeq, tAsg, gName, tVar, tC, tOp, rI, rI0, rU, tUn, oAdd, oSub, oMul, oDiv, oMod, oNeg, oLt, oLe, oGt, oGe, oIsN, oNotN, tFn, tCons, tNil, tIfS, tIf, tTest, tB, tNot, tAnd, tOr, tAndV, tOrV, tNotV,
    tRet, tRetN, tNext, tCB, tDrop, tChain, rEq, rNe, oMax2, oMin2, oInt1, rLenF, L2.start, List.map_cons, List.map_nil, List.length_cons, List.length_nil, List.replicate_succ, List.replicate_zero, List.cons_append, List.nil_append, Nat.reduceAdd, Nat.reduceSub, Nat.zero_add,
    List.set_cons_zero, List.set_cons_succ, List.getElem?_cons_zero, List.getElem?_cons_succ, Option.some.injEq, V.int.injEq, V.ref.injEq, V.str.injEq, V.bl.injEq, exists_eq_left', exists_eq_left, exists_and_left, List.cons.injEq, and_true, true_and, decide_eq_true_eq, sc_ii, sc_ss, sc_bb, sc_ni, sc_in, sc_nn, sc_is, reduceCtorEq,
    Bool.not_eq_true', decide_eq_false_iff_not, if_true, if_false, Bool.false_eq_true, exists_eq', exists_const, false_and, and_false, or_false, false_or, exists_false, Bool.not_not, Bool.not_true, Bool.not_false, sUp_up, sFire_fire, sHigh_high, sPut_put, sZone_now, sBey_refuse, sBey_cut, tTup, tLst, sz0, sz1, sz2, sz3, sz4, sz5, sz6])
/-! ### points -/
end
end Tw
/-! Tw: readings of placing, visiting, following -/
namespace Tw
open PySem PySem.Spec PyProof.Rows L2 He TwM
open PySem.W (Frag)
local macro_rules | `(tactic| walk_at "rsz") => `(tactic| simp only [*, and_assoc, not_true_eq_false, not_false_eq_true, tNever, List.length_map, tFld, rIxTH, rIxLH, rLenTH, rLenLH, lk1, lfs_g, lfs_s, lfs_p, HO.ins.injEq, HO.tup.injEq, HO.lst.injEq, sp_Book_rounding, sp_Book_action, sp_Book_order, sp_Book_due, sp_Book_zero, sp_Book_beyond, Int.toNat_natCast, sp_visit_after, sp_is_visited, sp_Level_grain, sp_Level_slots, sp_Level_span, sp_Wheel_reach, sp_Wheel___len__, sp_is_integer, sp_is_count, sp_is_within, sp_rounded, tSeq, tAsg, gName, tVar, tC, tOp, rI, rI0, rU, tUn, oAdd, oSub, oMul, oDiv, oMod, oNeg, oLt, oLe, oGt, oGe, oIsN, oNotN, tFn, tCons, tNil, tIfS, tIf, tTest, tB, tNot, tAnd, tOr, tAndV, tOrV, tNotV,
    tRet, tRetN, tNext, tCB, tDrop, tChain, rEq, rNe, oMax2, oMin2, oInt1, rLenF, L2.start, List.map_cons, List.map_nil, List.length_cons, List.length_nil, List.replicate_succ, List.replicate_zero, List.cons_append, List.nil_append, Nat.reduceAdd, Nat.reduceSub, Nat.zero_add,
    List.set_cons_zero, List.set_cons_succ, List.getElem?_cons_zero, List.getElem?_cons_succ, Option.some.injEq, V.int.injEq, V.ref.injEq, V.str.injEq, V.bl.injEq, exists_eq_left', exists_eq_left, exists_and_left, List.cons.injEq, and_true, true_and, decide_eq_true_eq, sc_ii, sc_ss, sc_bb, sc_ni, sc_in, sc_nn, sc_is, reduceCtorEq,
    Bool.not_eq_true', decide_eq_false_iff_not, if_true, if_false, Bool.false_eq_true, exists_eq', exists_const, false_and, and_false, or_false, false_or, exists_false, Bool.not_not, Bool.not_true, Bool.not_false, sUp_up, sFire_fire, sHigh_high, sPut_put, sZone_now, sBey_refuse, sBey_cut, tTup, tLst, sz0, sz1, sz2, sz3, sz4, sz5, sz6])
theorem at3_0 (a b c : V) : atI [a, b, c] 0 = some a := rfl
theorem at3_1 (a b c : V) : atI [a, b, c] 1 = some b := rfl
theorem at3_2 (a b c : V) : atI [a, b, c] 2 = some c := rfl
theorem at2_0 (a b : V) : atI [a, b] 0 = some a := rfl
theorem at2_1 (a b : V) : atI [a, b] 1 = some b := rfl
theorem atI_m1 {xs : List V} {v : V} (h : xs.getLast? = some v) : atI xs (-1) = some v := by
  have hne : xs ≠ [] := fun e => by rw [e] at h; simp at h
  have e : xs = xs.dropLast ++ [v] := by
    rw [List.getLast?_eq_some_getLast hne] at h
    rw [← Option.some.inj h]
    exact (List.dropLast_concat_getLast hne).symm
  rw [e]
  exact atI_last _ _
theorem Same.updN {H H1 : Hp} {f : Addr} {o : HO} (s : Same H H1) (hn : H f = none) : Same H (upd H1 f o) := fun a u e => by
  rw [upd_ne (ne_of_none e hn)]
  exact s _ _ e
section
variable {K : Frag} {w : World}
def placeM (W : List Lv) (B : Bk) (now delay : Int) : Option Spot :=
  if delay = 0 ∧ B.zone = false then none
  else
    let r0 := if 1 > delay then 1 else delay
    let r := if reach W ≤ r0 ∧ B.bey = 2 then reach W - 1 else r0
    some (spotAt W B now r (now + r))
local macro_rules | `(tactic| walk_at "rst") => `(tactic| simp only [*, at3_0, at3_1, at3_2, at2_0, at2_1, and_assoc, not_true_eq_false, not_false_eq_true, tNever, List.length_map, tFld, rIxTH, rIxLH, rLenTH, rLenLH, lk1, lfs_g, lfs_s, lfs_p, HO.ins.injEq, HO.tup.injEq, HO.lst.injEq, sp_Book_rounding, sp_Book_action, sp_Book_order, sp_Book_due, sp_Book_zero, sp_Book_beyond, Int.toNat_natCast, sp_visit_after, sp_is_visited, sp_Level_grain, sp_Level_slots, sp_Level_span, sp_Wheel_reach, sp_Wheel___len__, sp_is_integer, sp_is_count, sp_is_within, sp_rounded, tSeq, tAsg, gName, tVar, tC, tOp, rI, rI0, rU, tUn, oAdd, oSub, oMul, oDiv, oMod, oNeg, oLt, oLe, oGt, oGe, oIsN, oNotN, tFn, tCons, tNil, tIfS, tIf, tTest, tB, tNot, tAnd, tOr, tAndV, tOrV, tNotV,
    tRet, tRetN, tNext, tCB, tDrop, tChain, rEq, rNe, oMax2, oMin2, oInt1, rLenF, L2.start, List.map_cons, List.map_nil, List.length_cons, List.length_nil, List.replicate_succ, List.replicate_zero, List.cons_append, List.nil_append, Nat.reduceAdd, Nat.reduceSub, Nat.zero_add,
    List.set_cons_zero, List.set_cons_succ, List.getElem?_cons_zero, List.getElem?_cons_succ, Option.some.injEq, V.int.injEq, V.ref.injEq, V.str.injEq, V.bl.injEq, exists_eq_left', exists_eq_left, exists_and_left, List.cons.injEq, and_true, true_and, decide_eq_true_eq, sc_ii, sc_ss, sc_bb, sc_ni, sc_in, sc_nn, sc_is, reduceCtorEq,
    Bool.not_eq_true', decide_eq_false_iff_not, if_true, if_false, Bool.false_eq_true, exists_eq', exists_const, false_and, and_false, or_false, false_or, exists_false, Bool.not_not, Bool.not_true, Bool.not_false, sUp_up, sFire_fire, sHigh_high, sPut_put, sZone_now, sBey_refuse, sBey_cut, tTup, tLst, sz0, sz1, sz2, sz3, sz4, sz5, sz6])
theorem OSps.last {H : Hp} {xs : List V} {os : List (Option Spot)} {o : Option Spot} (h : OSps H xs os) (e : os.getLast? = some o) : ∃ v, xs.getLast? = some v ∧ OSp H v o := by
  have hne : os ≠ [] := fun z => by rw [z] at e; simp at e
  have hpos : 0 < os.length := List.length_pos_iff.mpr hne
  have hl := h.1
  rw [List.getLast?_eq_getElem?] at e ⊢
  have hx : xs.length - 1 < xs.length := by omega
  refine ⟨xs[xs.length - 1], List.getElem?_eq_getElem hx, h.2 _ _ _ (List.getElem?_eq_getElem hx) (by rw [hl]; exact e)⟩
def fin (W : List Lv) (B : Bk) (start delay : Int) : Int × Int := match placeM W B start delay with
  | none => (start, 0)
  | some sp => match fol W B none (mu sp start) sp start 0 with
    | none => (0, 0)
    | some r => r.2
theorem fol_mono {W : List Lv} {B : Bk} {lim : Option Int} : ∀ (n : Nat) {sp : Spot} {tick mv : Int} {r : Res}, fol W B lim n sp tick mv = some r → ∀ m, n ≤ m → fol W B lim m sp tick mv = some r
  | 0, _, _, _, _, h, _, _ => by cases h
  | n + 1, sp, tick, mv, r, h, m, hm => by
    obtain ⟨m, rfl⟩ : ∃ k, m = k + 1 := ⟨m - 1, by omega⟩
    unfold fol at h ⊢
    dsimp only at h ⊢
    split at h
    · rename_i h1
      rw [if_pos h1]; exact h
    · rename_i h1
      rw [if_neg h1]
      split at h
      · cases h
      · exact h
      · split at h
        · rename_i h2
          rw [if_pos h2]; exact fol_mono n h m (by omega)
        · rename_i h2
          rw [if_neg h2]; exact fol_mono n h m (by omega)
theorem fin_some {W : List Lv} {B : Bk} {start delay : Int} {sp : Spot} {n : Nat} {r : Res} (h : placeM W B start delay = some sp) (ok : WOk W) (hl : sp.lv < W.length) (hf : fol W B none n sp start 0 = some r) : fin W B start delay = r.2 := by
  unfold fin
  rw [h]
  obtain ⟨r', hr'⟩ := fol_ends ok B none (mu sp start) sp start 0 hl (Nat.le_refl _)
  have e1 := fol_mono _ hr' (max n (mu sp start)) (Nat.le_max_right _ _)
  have e2 := fol_mono _ hf (max n (mu sp start)) (Nat.le_max_left _ _)
  rw [e1] at e2
  obtain rfl := Option.some.inj e2
  dsimp only
  rw [hr']
theorem placeM_lt {W : List Lv} (ok : WOk W) {B : Bk} {now delay : Int} {sp : Spot} (h : placeM W B now delay = some sp) : sp.lv < W.length := by
  unfold placeM at h
  split at h
  · cases h
  · obtain rfl := Option.some.inj h
    exact spotAt_lt ok _ _ _ _
end
end Tw
namespace Tw
open PySem PySem.Spec PyProof.Rows L2 He TwM
open PySem.W (Frag)
end Tw
/-! Tw: unpacking what is a list or a tuple -/
namespace Tw
open PySem PySem.Spec PyProof.Rows L2
def gUnA (K : PySem.W.Frag) (n : Nat) (t : TGs) : TG := fun v σ H Q => ∃ a xs, v = .ref a ∧ (SqL K H a xs ∨ SqT K H a xs) ∧ xs.length = n ∧ t xs σ H Q
end Tw
/-! Tw: readings of what makes books, levels, wheels -/
namespace Tw
open PySem PySem.Spec PyProof.Rows L2 He TwM
open PySem.W (Frag)
local macro_rules | `(tactic| walk_at "rsu") => `(tactic| simp only [*, at3_0, at3_1, at3_2, at2_0, at2_1, and_assoc, not_true_eq_false, not_false_eq_true, tNever, List.length_map, tFld, rIxTH, rIxLH, rLenTH, rLenLH, lk1, lfs_g, lfs_s, lfs_p, HO.ins.injEq, HO.tup.injEq, HO.lst.injEq, sp_Book_rounding, sp_Book_action, sp_Book_order, sp_Book_due, sp_Book_zero, sp_Book_beyond, Int.toNat_natCast, sp_visit_after, sp_is_visited, sp_Level_grain, sp_Level_slots, sp_Level_span, sp_Wheel_reach, sp_Wheel___len__, sp_is_integer, sp_is_count, sp_is_within, sp_rounded, tSeq, tAsg, gName, tVar, tC, tOp, rI, rI0, rU, tUn, oAdd, oSub, oMul, oDiv, oMod, oNeg, oLt, oLe, oGt, oGe, oIsN, oNotN, tFn, tCons, tNil, tIfS, tIf, tTest, tB, tNot, tAnd, tOr, tAndV, tOrV, tNotV,
    tRet, tRetN, tNext, tCB, tDrop, tChain, rEq, rNe, oMax2, oMin2, oInt1, rLenF, L2.start, List.map_cons, List.map_nil, List.length_cons, List.length_nil, List.replicate_succ, List.replicate_zero, List.cons_append, List.nil_append, Nat.reduceAdd, Nat.reduceSub, Nat.zero_add,
    List.set_cons_zero, List.set_cons_succ, List.getElem?_cons_zero, List.getElem?_cons_succ, Option.some.injEq, V.int.injEq, V.ref.injEq, V.str.injEq, V.bl.injEq, exists_eq_left', exists_eq_left, exists_and_left, List.cons.injEq, and_true, true_and, decide_eq_true_eq, sc_ii, sc_ss, sc_bb, sc_ni, sc_in, sc_nn, sc_is, reduceCtorEq,
    Bool.not_eq_true', decide_eq_false_iff_not, if_true, if_false, Bool.false_eq_true, exists_eq', exists_const, false_and, and_false, or_false, false_or, exists_false, Bool.not_not, Bool.not_true, Bool.not_false, sUp_up, sFire_fire, sHigh_high, sPut_put, sZone_now, sBey_refuse, sBey_cut, tTup, tLst, sz0, sz1, sz2, sz3, sz4, sz5, sz6])
section
variable {K : Frag} {w : World}
def SameX (x : Addr) (H H' : Hp) : Prop := ∀ b o, b ≠ x → H b = some o → H' b = some o
theorem SameX.refl (x : Addr) (H : Hp) : SameX x H H := fun _ _ _ h => h
theorem SameX.same {x : Addr} {H H1 H2 : Hp} (h : SameX x H H1) (s : Same H1 H2) : SameX x H H2 := fun b o n e => s _ _ (h b o n e)
theorem SameX.upd {x : Addr} {H H1 : Hp} {o : HO} (h : SameX x H H1) : SameX x H (upd H1 x o) := fun b u n e => by
  rw [upd_ne n]; exact h b u n e
theorem SameX.made {H2 H' : Hp} {x dx : Addr} {o o' : HO} (hx : H2 x = none) (hd : H2 dx = none) (h : SameX x (L2.upd (L2.upd H2 dx o) x o') H') : Same H2 H' := fun b u e => by
  have n1 : b ≠ x := ne_of_none e hx
  have n2 : b ≠ dx := ne_of_none e hd
  exact h b u n1 (by rw [upd_ne n1, upd_ne n2]; exact e)
def sp_Level___init__ (K : Frag) : Sp := fun vs H Q _ => ∃ (x dx : Addr) (l : Lv) (v : V), vs = [.ref x, .int l.g, .int l.s, v] ∧ (v = .int l.p ∨ v = .non ∧ l.p = l.s * l.g) ∧ LOk l ∧ 2 ≤ l.p ∧ l.p ≤ 4 * l.s * l.g ∧ H x = some (.ins (ga K "Level") dx []) ∧ ∀ H', SameX x H H' → LvAt K H' x l → Q .non H'
theorem for_zipN {K : PySem.W.Frag} {a b : Addr} {xs ys : List V} {g : TG} {tb : TS} {D : Ends} {σ : L2.St} {H : Hp} (hl : ys.length ≤ xs.length) (Pv : Nat → L2.St → Hp → Prop) (h0 : Pv 0 σ H) (hq : ∀ i σ H, Pv i σ H → SqT K H a xs ∧ SqT K H b ys)
    (hs : ∀ (i : Nat) (x y : V) (T : Addr) (σ : L2.St) (H : Hp), xs[i]? = some x → ys[i]? = some y → Pv i σ H → H T = none → g (.ref T) σ (upd H T (.tup [x, y])) fun σ2 H2 => tb { D with nx := Pv (i + 1), ct := Pv (i + 1), bk := D.nx } σ2 H2) (hd : ∀ σ H, Pv ys.length σ H → D.nx σ H) :
    ∃ W : Nat → Nat → L2.St → Hp → Prop, (∃ m, W 0 m σ H) ∧ ∀ i m σ H, W i m σ H →
      ((RZ.ItzT K a b).stop i H ∧ D.nx σ H) ∨ ((RZ.ItzT K a b).go i H ∧ ∃ N : L2.St → Hp → Prop, (∀ σ' H', N σ' H' → ∃ m', m' < m ∧ W (i + 1) m' σ' H') ∧ ∀ v H', (RZ.ItzT K a b).yld i H v H' → g v σ H' fun σ2 H2 => tb { D with nx := N, ct := N, bk := D.nx } σ2 H2) := by
  refine ⟨fun i m σ H => m = ys.length - i ∧ i ≤ ys.length ∧ Pv i σ H, ⟨ys.length, rfl, Nat.zero_le _, h0⟩, ?_⟩
  rintro i m σ H ⟨rfl, hi, p⟩
  obtain ⟨qx, qy⟩ := hq i σ H p
  rcases Nat.lt_or_ge i ys.length with hy | hy
  · refine .inr ⟨⟨xs, ys, _, _, qx, qy, List.getElem?_eq_getElem (by omega), List.getElem?_eq_getElem hy⟩, Pv (i + 1), ?_, ?_⟩
    · exact fun σ' H' p' => ⟨ys.length - (i + 1), by omega, rfl, hy, p'⟩
    · rintro v H' ⟨T, x', y', rfl, hT, rfl, f1, f2⟩
      exact hs i x' y' T σ H (f1 xs qx) (f2 ys qy) p hT
  · obtain rfl : i = ys.length := by omega
    exact .inl ⟨⟨xs, ys, qx, qy, .inr hy⟩, hd σ H p⟩
def sq_Wheel___init__ (K : Frag) : Sp := fun vs H Q _ => ∃ (x dx t : Addr) (as : List Addr) (W : List Lv), vs = [.ref x, .ref t] ∧ H x = some (.ins (ga K "Wheel") dx []) ∧ H t = some (.tup (as.map V.ref)) ∧ as.length = W.length ∧ (∀ i c, as[i]? = some c → LvAt K H c (lv W i)) ∧ WOk W ∧
  ∀ H', SameX x H H' → WhAt K H' x W → Q .non H'
def sp_Wheel___init__ (K : Frag) : Sp := fun vs H Q E => ∃ ws rest, vs = ws ++ rest ∧ ws.length = 1 ∧ rest.length ≤ sizeLine ∧ ∀ p, H p = none → sq_Wheel___init__ K (ws ++ [V.ref p]) (upd H p (.tup rest)) Q E
theorem wh_make {H : Hp} {Q : VK} {as : List Addr} {W : List Lv} (hl : as.length = W.length) (hc : ∀ i c, as[i]? = some c → LvAt K H c (lv W i)) (ok : WOk W) (q : ∀ a H', Same H H' → WhAt K H' a W → Q (.ref a) H') (x dx : Addr) (hx : H x = none) (hd : H dx = none) (hn : dx ≠ x) :
    sp_Wheel___init__ K (.ref x :: as.map V.ref) (upd (upd H dx (.own x)) x (.ins (ga K "Wheel") dx [])) (fun v H2 => v = .non ∧ Q (.ref x) H2) E0 := by
  refine ⟨[.ref x], as.map V.ref, rfl, rfl, by have := ok.len; have : sizeLine = 16777216 := rfl; simp; omega, fun p hp => ?_⟩
  have n1 : p ≠ x := fun e => by rw [e, upd_same] at hp; cases hp
  have n2 : x ≠ p := fun e => n1 e.symm
  refine ⟨x, dx, p, as, W, rfl, by rw [upd_ne n2, upd_same], upd_same, hl, fun i c hi => ?_, ok, fun H' s z => ⟨rfl, q x H' ?_ z⟩⟩
  · obtain ⟨o, dc, h1⟩ := hc i c hi
    refine ⟨o, dc, ?_⟩
    have m1 : c ≠ x := ne_of_none h1 hx
    have m2 : c ≠ dx := ne_of_none h1 hd
    have h2 : upd (upd H dx (.own x)) x (.ins (ga K "Wheel") dx []) c = some (.ins (ga K "Level") dc (lfs (lv W i))) := by rw [upd_ne m1, upd_ne m2]; exact h1
    rw [upd_ne (ne_of_none h2 hp)]
    exact h2
  · refine SameX.made (o := .own x) (o' := .ins (ga K "Wheel") dx []) hx hd fun b o nb e => s b o nb ?_
    rw [upd_ne (ne_of_none e hp)]
    exact e
theorem lv_make {H : Hp} {Q : VK} {l : Lv} {v : V} (hv : v = .int l.p ∨ v = .non ∧ l.p = l.s * l.g) (ok : LOk l) (h1 : 2 ≤ l.p) (h2 : l.p ≤ 4 * l.s * l.g) (q : ∀ a H', Same H H' → LvAt K H' a l → Q (.ref a) H') (x dx : Addr) (hx : H x = none) (hd : H dx = none) :
    sp_Level___init__ K [.ref x, .int l.g, .int l.s, v] (upd (upd H dx (.own x)) x (.ins (ga K "Level") dx [])) (fun v H2 => v = .non ∧ Q (.ref x) H2) E0 :=
  ⟨x, dx, l, v, rfl, hv, ok, h1, h2, upd_same, fun H' s z => ⟨rfl, q x H' (SameX.made hx hd s) z⟩⟩
end
end Tw
/-! Tw: the laws' own pool of draws -/
namespace Tw
open PySem PySem.Spec PyProof.Rows L2 He TwM
open PySem.W (Frag)
theorem ix5_0 : ixN 5 0 = some 0 := rfl
theorem ix5_1 : ixN 5 1 = some 1 := rfl
theorem ix5_2 : ixN 5 2 = some 2 := rfl
theorem ix5_3 : ixN 5 3 = some 3 := rfl
theorem ix5_4 : ixN 5 4 = some 4 := rfl
theorem at5_0 (a b c d e : V) : atI [a, b, c, d, e] 0 = some a := rfl
theorem at5_1 (a b c d e : V) : atI [a, b, c, d, e] 1 = some b := rfl
theorem at5_2 (a b c d e : V) : atI [a, b, c, d, e] 2 = some c := rfl
theorem at5_3 (a b c d e : V) : atI [a, b, c, d, e] 3 = some d := rfl
theorem at5_4 (a b c d e : V) : atI [a, b, c, d, e] 4 = some e := rfl
theorem upd_two (H : Hp) (a : Addr) (o u : HO) : upd (upd H a o) a u = upd H a u := by
  funext b
  unfold upd
  split <;> rfl
theorem updS (H : Hp) (a : Addr) (o : HO) : upd H a o a = some o := upd_same
theorem updN {H : Hp} {a b : Addr} {o : HO} (h : (b = a) = False) : upd H a o b = H b := upd_ne (fun e => by rw [h] at e; exact e)
local macro_rules | `(tactic| walk_at "rsv") => `(tactic| simp only [*, at3_0, at3_1, at3_2, at2_0, at2_1, ix5_0, ix5_1, ix5_2, ix5_3, ix5_4, at5_0, at5_1, at5_2, at5_3, at5_4, updS, upd_two, gSub, rSetL, updN, and_assoc, not_true_eq_false, not_false_eq_true, tNever, List.length_map, tFld, rIxTH, rIxLH, rLenTH, rLenLH, lk1, lfs_g, lfs_s, lfs_p, HO.ins.injEq, HO.tup.injEq, HO.lst.injEq, sp_Book_rounding, sp_Book_action, sp_Book_order, sp_Book_due, sp_Book_zero, sp_Book_beyond, Int.toNat_natCast, sp_visit_after, sp_is_visited, sp_Level_grain, sp_Level_slots, sp_Level_span, sp_Wheel_reach, sp_Wheel___len__, sp_is_integer, sp_is_count, sp_is_within, sp_rounded, tSeq, tAsg, gName, tVar, tC, tOp, rI, rI0, rU, tUn, oAdd, oSub, oMul, oDiv, oMod, oNeg, oLt, oLe, oGt, oGe, oIsN, oNotN, tFn, tCons, tNil, tIfS, tIf, tTest, tB, tNot, tAnd, tOr, tAndV, tOrV, tNotV,
    tRet, tRetN, tNext, tCB, tDrop, tChain, rEq, rNe, oMax2, oMin2, oInt1, rLenF, L2.start, List.map_cons, List.map_nil, List.length_cons, List.length_nil, List.replicate_succ, List.replicate_zero, List.cons_append, List.nil_append, Nat.reduceAdd, Nat.reduceSub, Nat.zero_add,
    List.set_cons_zero, List.set_cons_succ, List.getElem?_cons_zero, List.getElem?_cons_succ, Option.some.injEq, V.int.injEq, V.ref.injEq, V.str.injEq, V.bl.injEq, exists_eq_left', exists_eq_left, exists_and_left, List.cons.injEq, and_true, true_and, decide_eq_true_eq, sc_ii, sc_ss, sc_bb, sc_ni, sc_in, sc_nn, sc_is, reduceCtorEq,
    Bool.not_eq_true', decide_eq_false_iff_not, if_true, if_false, Bool.false_eq_true, exists_eq', exists_const, false_and, and_false, or_false, false_or, exists_false, Bool.not_not, Bool.not_true, Bool.not_false, sUp_up, sFire_fire, sHigh_high, sPut_put, sZone_now, sBey_refuse, sBey_cut, tTup, tLst, sz0, sz1, sz2, sz3, sz4, sz5, sz6])
section
variable {K : Frag} {w : World}
theorem Same.lst {H H' : Hp} {a : Addr} {xs : List V} (e : Same H H') (h : SqL K H a xs) : SqL K H' a xs := by
  rcases h with (h | ⟨o, h⟩) | h
  · exact .inl (.inl (e _ _ h))
  · exact .inl (.inr ⟨o, e _ _ h⟩)
  · exact .inr h
structure PoolAt (H : Hp) (p l : Addr) : Prop where
  ne : p ≠ l
  at_ : ∃ (cs : List Int) (i1 i2 i3 i4 : Int), H p = some (.lst [.ref l, .int i1, .int i2, .int i3, .int i4]) ∧ H l = some (.lst (cs.map V.int)) ∧ 0 ≤ i1
def SameP (p l : Addr) (H H' : Hp) : Prop := ∀ b o, b ≠ p → b ≠ l → H b = some o → H' b = some o
theorem SameP.refl (p l : Addr) (H : Hp) : SameP p l H H := fun _ _ _ _ h => h
theorem SameP.trans {p l : Addr} {H H1 H2 : Hp} (h : SameP p l H H1) (s : SameP p l H1 H2) : SameP p l H H2 := fun b o n m e => s _ _ n m (h b o n m e)
theorem Same.toP {p l : Addr} {H H1 : Hp} (s : Same H H1) : SameP p l H H1 := fun b o _ _ e => s b o e
theorem SameP.updp {p l : Addr} {H H1 : Hp} {o : HO} (h : SameP p l H H1) : SameP p l H (upd H1 p o) := fun b u n m e => by
  rw [upd_ne n]; exact h b u n m e
theorem SameP.updl {p l : Addr} {H H1 : Hp} {o : HO} (h : SameP p l H H1) : SameP p l H (upd H1 l o) := fun b u n m e => by
  rw [upd_ne m]; exact h b u n m e
theorem PoolAt.same {p l : Addr} {H H1 : Hp} (h : PoolAt H p l) (s : Same H H1) : PoolAt H1 p l := by
  obtain ⟨n, cs, i1, i2, i3, i4, h1, h2, h3⟩ := h
  exact ⟨n, cs, i1, i2, i3, i4, s _ _ h1, s _ _ h2, h3⟩
theorem PoolAt.ins {p l : Addr} {H H1 : Hp} (h : PoolAt H p l) (s : SameP p l H H1) {a C dx : Addr} {fs : List (Str × V)} (e : H a = some (.ins C dx fs)) : H1 a = some (.ins C dx fs) := by
  obtain ⟨n, cs, i1, i2, i3, i4, h1, h2, h3⟩ := h
  exact s _ _ (fun z => by rw [z, h1] at e; cases e) (fun z => by rw [z, h2] at e; cases e) e
theorem PoolAt.tup {p l : Addr} {H H1 : Hp} (h : PoolAt H p l) (s : SameP p l H H1) {a : Addr} {xs : List V} (e : H a = some (.tup xs)) : H1 a = some (.tup xs) := by
  obtain ⟨n, cs, i1, i2, i3, i4, h1, h2, h3⟩ := h
  exact s _ _ (fun z => by rw [z, h1] at e; cases e) (fun z => by rw [z, h2] at e; cases e) e
theorem LvAt.sameP {p l : Addr} {H H1 : Hp} (h : PoolAt H p l) (s : SameP p l H H1) {a : Addr} {v : Lv} (e : LvAt K H a v) : LvAt K H1 a v := ⟨e.ok, e.at_.elim fun dx q => ⟨dx, h.ins s q⟩⟩
theorem WhAt.sameP {p l : Addr} {H H1 : Hp} (h : PoolAt H p l) (s : SameP p l H H1) {a : Addr} {W : List Lv} (e : WhAt K H a W) : WhAt K H1 a W := by
  obtain ⟨ok, dx, t, as, h1, h2, h3, h4⟩ := e
  exact ⟨ok, dx, t, as, h.ins s h1, h.tup s h2, h3, fun i c q => (h4 i c q).sameP h s⟩
theorem BkAt.sameP {p l : Addr} {H H1 : Hp} (h : PoolAt H p l) (s : SameP p l H H1) {a : Addr} {B : Bk} (e : BkAt K H a B) : BkAt K H1 a B := by
  obtain ⟨ok, dx, t, h1, h2⟩ := e
  exact ⟨ok, dx, t, h.ins s h1, h.tup s h2⟩
def Drawn (H : Hp) (p l : Addr) (many : Int) (Q : VK) : Prop := ∀ (v : Int) (H' : Hp), SameP p l H H' → PoolAt H' p l → 0 ≤ v → v < many → Q (.int v) H'
def sp__law_mixed (K : Frag) : Sp := fun vs H Q _ => ∃ (p l : Addr) (many : Int), vs = [.ref p, .int many] ∧ PoolAt H p l ∧ 0 < many ∧ many.natAbs.log2 < 1920 ∧ Drawn H p l many Q
def t__law_mixed (K : Frag) (w : World) : TS :=
  (tSeq (tAsg (tOp oAdd (tOp rIxLH (tVar 0) (tC (.int 2))) (tC (.int 1))) (gSub (tVar 0) (tC (.int 2)) L2.rSetL))
  (tSeq (tAsg (tOp rIxLH (tVar 0) (tC (.int 3))) (gName 2))
  (tSeq (tFor (iRng1 (tCons (tOp oAdd (tC (.int 1)) (tOp oDiv (tCB oLenS (tCons (tCB oStrI (tCons (tVar 1) tNil)) tNil)) (tC (.int 9)))) tNil)) (gName 3)
    (tSeq (tAsg (tOp oMod (tOp oAdd (tOp oAdd (tOp oMul (tOp rIxLH (tVar 0) (tC (.int 3))) (tC (.int 48271))) (tOp oMul (tOp rIxLH (tVar 0) (tC (.int 2))) (tC (.int 12345)))) (tC (.int 89126))) (tC (.int 2147483647))) (gSub (tVar 0) (tC (.int 3)) L2.rSetL))
  (tAsg (tOp oAdd (tOp oMul (tVar 2) (tC (.int 2147483647))) (tOp oDiv (tOp rIxLH (tVar 0) (tC (.int 3))) (tC (.int 7)))) (gName 2))))
  (tRet (tOp oMod (tVar 2) (tVar 1))))))
def n__law_mixed : List Str := ["_law_pool", "_law_many", "_law_found", "_law_turn"]
theorem rd__law_mixed (vs : List V) (H : Hp) (Q : VK) (E : XK) (h : sp__law_mixed K vs H Q E) : t__law_mixed K w { nx := fun _ H' => Q .non H', rt := Q } (L2.start n__law_mixed vs) H := by
  obtain ⟨p, l, many, rfl, ⟨hne, cs, i1, i2, i3, i4, h1, h2, h3⟩, hm, hlog, q⟩ := h
  have hlp : (l = p) = False := eq_false (fun e => hne e.symm)
  unfold t__law_mixed n__law_mixed
  walk_at "rsv"
  have hz := PySem.int_text_fits hlog
  have hz' : (Str.ofString (toString many)).length < 2 ^ 24 + 1 := Nat.lt_of_le_of_lt hz (by decide)
  have s1 : SameP p l H (upd H p (.lst [.ref l, .int i1, .int (i2 + 1), .int i3, .int i4])) := (SameP.refl p l H).updp
  refine ⟨_, rfl, _, rfl, hlog, _, rfl, hz, _, _, rfl, rfl, ⟨by decide, by decide⟩, _, _, rfl, rfl, _, rfl, by omega, by omega, for_range
    (fun i σ H' => ∃ (f : Int) (v3 : Option V) (j2 j3 : Int), σ = [some (.ref p), some (.int many), some (.int f), v3] ∧ SameP p l H H' ∧ H' p = some (.lst [.ref l, .int i1, .int j2, .int j3, .int i4]) ∧ H' l = some (.lst (cs.map V.int)))
    ⟨i3, none, _, i3, rfl, s1, updS _ _ _, by rw [updN hlp]; exact h2⟩ ?_ ?_⟩
  · rintro i σ H1 hi ⟨f, v3, j2, j3, rfl, s2, k1, k2⟩
    walk_at "rsv"
    exact ⟨.inr ⟨by decide, by decide⟩, .inr ⟨by decide, by decide⟩, by decide, .inr ⟨by decide, by decide⟩, ⟨by decide, by decide⟩, s2.updp⟩
  · rintro σ H1 ⟨f, v3, j2, j3, rfl, s2, k1, k2⟩
    exact ⟨_, rfl, _, rfl, _, _, rfl, rfl, hm, q _ _ s2 ⟨hne, cs, i1, j2, j3, i4, k1, k2, h3⟩ (Int.emod_nonneg _ (by omega)) (Int.emod_lt_of_pos _ hm)⟩
def sp__law_draw (K : Frag) : Sp := fun vs H Q _ => ∃ (p l : Addr) (many : Int), vs = [.ref p, .int many] ∧ PoolAt H p l ∧ 0 < many ∧ many.natAbs.log2 < 1920 ∧ Drawn H p l many Q
def t__law_draw (K : Frag) (w : World) : TS :=
  (tSeq (tIfS (tOr (tTest (tOp oGe (tOp rIxLH (tVar 0) (tC (.int 1))) (tCB rLenLH (tCons (tOp rIxLH (tVar 0) (tC (.int 0))) tNil)))) (tTest (tOp rEq (tVar 1) (tC (.int 1))))) (tRet (tIf (tTest (tOp oGt (tVar 1) (tC (.int 1)))) (tFn (sp__law_mixed K) E0 (tCons (tVar 0) (tCons (tVar 1) tNil))) (tC (.int 0)))) tNext)
  (tSeq (tIfS (tTest (tOp oLt (tOp rIxLH (tOp rIxLH (tVar 0) (tC (.int 0))) (tOp rIxLH (tVar 0) (tC (.int 1)))) (tOp oPow (tC (.int 10)) (tC (.int 18))))) (tSeq (tAsg (tOp oMod (tOp oAdd (tOp oAdd (tOp oAdd (tOp oMul (tOp rIxLH (tVar 0) (tC (.int 3))) (tC (.int 31))) (tOp rIxLH (tOp rIxLH (tVar 0) (tC (.int 0))) (tOp rIxLH (tVar 0) (tC (.int 1))))) (tOp rIxLH (tVar 0) (tC (.int 2)))) (tC (.int 1))) (tC (.int 2147483647))) (gSub (tVar 0) (tC (.int 3)) L2.rSetL))
  (tSeq (tAsg (tOp oAdd (tOp rIxLH (tVar 0) (tC (.int 4))) (tC (.int 1))) (gSub (tVar 0) (tC (.int 4)) L2.rSetL))
  (tSeq (tIfS (tTest (tOp rEq (tOp oMod (tOp rIxLH (tVar 0) (tC (.int 4))) (tC (.int 3))) (tC (.int 0)))) (tAsg (tOp oAdd (tOp rIxLH (tVar 0) (tC (.int 1))) (tC (.int 1))) (gSub (tVar 0) (tC (.int 1)) L2.rSetL)) tNext)
  (tRet (tFn (sp__law_mixed K) E0 (tCons (tVar 0) (tCons (tVar 1) tNil))))))) tNext)
  (tSeq (tAsg (tOp oMod (tOp rIxLH (tOp rIxLH (tVar 0) (tC (.int 0))) (tOp rIxLH (tVar 0) (tC (.int 1)))) (tVar 1)) (gName 2))
  (tSeq (tAsg (tOp oDivW (tOp rIxLH (tOp rIxLH (tVar 0) (tC (.int 0))) (tOp rIxLH (tVar 0) (tC (.int 1)))) (tVar 1)) (gSub (tOp rIxLH (tVar 0) (tC (.int 0))) (tOp rIxLH (tVar 0) (tC (.int 1))) L2.rSetL))
  (tSeq (tIfS (tTest (tOp rEq (tOp rIxLH (tOp rIxLH (tVar 0) (tC (.int 0))) (tOp rIxLH (tVar 0) (tC (.int 1)))) (tC (.int 0)))) (tAsg (tOp oAdd (tOp rIxLH (tVar 0) (tC (.int 1))) (tC (.int 1))) (gSub (tVar 0) (tC (.int 1)) L2.rSetL)) tNext)
  (tRet (tVar 2)))))))
def n__law_draw : List Str := ["_law_pool", "_law_many", "_law_found"]
theorem rd__law_draw (vs : List V) (H : Hp) (Q : VK) (E : XK) (h : sp__law_draw K vs H Q E) : t__law_draw K w { nx := fun _ H' => Q .non H', rt := Q } (L2.start n__law_draw vs) H := by
  obtain ⟨p, l, many, rfl, ⟨hne, cs, i1, i2, i3, i4, h1, h2, h3⟩, hm, hlog, q⟩ := h
  have hlp : (l = p) = False := eq_false (fun e => hne e.symm)
  have hpl : (p = l) = False := eq_false hne
  have hmix : ∀ (H' : Hp), SameP p l H H' → PoolAt H' p l → sp__law_mixed K [.ref p, .int many] H' Q E0 := fun H' s z => ⟨p, l, many, rfl, z, hm, hlog, fun v H2 s2 z2 a b => q v H2 (s.trans s2) z2 a b⟩
  have hpow : (10 : Int) ^ (18 : Int).toNat = 1000000000000000000 := by decide
  have hcp : CPow 10 18 := ⟨by decide, by decide, by decide⟩
  have hq : q = q := rfl
  unfold t__law_draw n__law_draw
  by_cases hlen : (cs.length : Int) ≤ i1
  · by_cases hm1 : 1 < many
    · walk_at "rsv"
      exact hmix H (SameP.refl p l H) ⟨hne, cs, i1, i2, i3, i4, h1, h2, h3⟩
    · have e1 : many = 1 := by omega
      subst e1
      walk_at "rsv"
      exact q 0 H (SameP.refl p l H) ⟨hne, cs, i1, i2, i3, i4, h1, h2, h3⟩ (by decide) (by decide)
  · obtain ⟨j, rfl⟩ : ∃ j : Nat, i1 = (j : Int) := ⟨i1.toNat, by omega⟩
    have hj : j < cs.length := by omega
    obtain ⟨c, hc⟩ : ∃ c, cs[j]? = some c := ⟨cs[j], List.getElem?_eq_getElem hj⟩
    have hat : atI (cs.map V.int) (j : Int) = some (.int c) := atI_nat (by rw [List.getElem?_map, hc]; rfl)
    have hix : ixN cs.length (j : Int) = some j := by
      unfold ixN
      rw [if_pos (by omega), if_pos (by omega)]
      rfl
    have hset : ∀ y : Int, (cs.map V.int).set j (.int y) = (cs.set j y).map V.int := fun y => by rw [List.map_set]
    have hat2 : ∀ y : Int, atI (((cs.set j y)).map V.int) (j : Int) = some (.int y) := fun y => atI_nat (by rw [List.getElem?_map, List.getElem?_set_self hj]; rfl)
    walk_at "rsv"
    have s0 := SameP.refl p l H
    refine ite2 (fun e1 => ?_) fun e1 => ite2 (fun h4 => ?_) fun h4 => ?_
    · rw [if_neg (by omega)]
      exact q 0 H s0 ⟨hne, cs, _, i2, i3, i4, h1, h2, h3⟩ (by omega) (by omega)
    · refine ⟨.inr ⟨by decide, by decide⟩, by decide, by decide, ite2 (fun _ => ?_) fun _ => ?_⟩
      · exact hmix _ s0.updp ⟨hne, cs, _, _, _, _, updS _ _ _, by rw [updN hlp]; exact h2, by omega⟩
      · exact hmix _ s0.updp ⟨hne, cs, _, _, _, _, updS _ _ _, by rw [updN hlp]; exact h2, by omega⟩
    · have q0 := Int.emod_nonneg c (b := many) (by omega)
      have q1 := Int.emod_lt_of_pos c hm
      refine ⟨⟨hm, Nat.lt_trans hlog (by decide)⟩, ite2 (fun _ => ?_) fun _ => ?_⟩
      · exact q _ _ (SameP.updp s0.updl) ⟨hne, cs.set j (c / many), _, _, _, _, updS _ _ _, by rw [updN hlp]; exact updS _ _ _, by omega⟩ q0 q1
      · exact q _ _ s0.updl ⟨hne, cs.set j (c / many), _, _, _, _, by rw [updN hpl]; exact h1, updS _ _ _, by omega⟩ q0 q1
end
end Tw
/-! Tw: more of the laws' own defs -/
namespace Tw
open PySem PySem.Spec PyProof.Rows L2 He TwM
open PySem.W (Frag)
local macro_rules | `(tactic| walk_at "rsw") => `(tactic| simp only [*, at3_0, at3_1, at3_2, at2_0, at2_1, ix5_0, ix5_1, ix5_2, ix5_3, ix5_4, at5_0, at5_1, at5_2, at5_3, at5_4, updS, upd_two, gSub, rSetL, updN, and_assoc, not_true_eq_false, not_false_eq_true, tNever, List.length_map, tFld, rIxTH, rIxLH, rLenTH, rLenLH, lk1, lfs_g, lfs_s, lfs_p, HO.ins.injEq, HO.tup.injEq, HO.lst.injEq, sp_Book_rounding, sp_Book_action, sp_Book_order, sp_Book_due, sp_Book_zero, sp_Book_beyond, Int.toNat_natCast, sp_visit_after, sp_is_visited, sp_Level_grain, sp_Level_slots, sp_Level_span, sp_Wheel_reach, sp_Wheel___len__, sp_is_integer, sp_is_count, sp_is_within, sp_rounded, tSeq, tAsg, gName, tVar, tC, tOp, rI, rI0, rU, tUn, oAdd, oSub, oMul, oDiv, oMod, oNeg, oLt, oLe, oGt, oGe, oIsN, oNotN, tFn, tCons, tNil, tIfS, tIf, tTest, tB, tNot, tAnd, tOr, tAndV, tOrV, tNotV,
    tRet, tRetN, tNext, tCB, tDrop, tChain, rEq, rNe, oMax2, oMin2, oInt1, rLenF, L2.start, List.map_cons, List.map_nil, List.length_cons, List.length_nil, List.replicate_succ, List.replicate_zero, List.cons_append, List.nil_append, Nat.reduceAdd, Nat.reduceSub, Nat.zero_add,
    List.set_cons_zero, List.set_cons_succ, List.getElem?_cons_zero, List.getElem?_cons_succ, Option.some.injEq, V.int.injEq, V.ref.injEq, V.str.injEq, V.bl.injEq, exists_eq_left', exists_eq_left, exists_and_left, List.cons.injEq, and_true, true_and, decide_eq_true_eq, sc_ii, sc_ss, sc_bb, sc_ni, sc_in, sc_nn, sc_is, reduceCtorEq,
    Bool.not_eq_true', decide_eq_false_iff_not, if_true, if_false, Bool.false_eq_true, exists_eq', exists_const, false_and, and_false, or_false, false_or, exists_false, Bool.not_not, Bool.not_true, Bool.not_false, sUp_up, sFire_fire, sHigh_high, sPut_put, sZone_now, sBey_refuse, sBey_cut, tTup, tLst, sz0, sz1, sz2, sz3, sz4, sz5, sz6])
section
variable {K : Frag} {w : World}
def sp__law_begin (K : Frag) : Sp := fun vs H Q _ => ∃ (a : Addr) (ns : List Int), vs = [.ref a] ∧ SqL K H a (ns.map V.int) ∧ ns.length ≤ 63 ∧ ∀ p l H', PoolAt H' p l → Same H H' → Q (.ref p) H'
def t__law_begin (K : Frag) (w : World) : TS :=
  (tSeq (tAsg (tC (.int 7)) (gName 1))
  (tSeq (tFor (iList K (tSl (rSlL K) (tVar 0) tNoPart (tPart (tC (.int 40))))) (gName 2)
    (tAsg (tOp oMod (tOp oAdd (tOp oAdd (tOp oMul (tVar 1) (tC (.int 31))) (tOp oMod (tCB oInt1 (tCons (tVar 2) tNil)) (tC (.int 2147483647)))) (tC (.int 11))) (tC (.int 2147483647))) (gName 1)))
  (tRet (tLst (tCons (tLc (iList K (tVar 0)) (gName 2) tYes (tCB oAbs (tCons (tCB oInt1 (tCons (tVar 2) tNil)) tNil)) [2]) (tCons (tC (.int 0)) (tCons (tC (.int 0)) (tCons (tVar 1) (tCons (tC (.int 0)) tNil)))))))))
def n__law_begin : List Str := ["_law_script", "_law_seed", "_law_cell"]
theorem rd__law_begin (vs : List V) (H : Hp) (Q : VK) (E : XK) (h : sp__law_begin K vs H Q E) : t__law_begin K w { nx := fun _ H' => Q .non H', rt := Q } (L2.start n__law_begin vs) H := by
  obtain ⟨a, ns, rfl, ha, hl, q⟩ := h
  unfold t__law_begin n__law_begin
  walk_at "rsw"
  refine ⟨_, rfl, _, rfl, a, _, rfl, ha, fun p hp => ⟨p, rfl, ⟨_, SqL.of upd_same⟩, for_list (K := K) (a := p) (xs := cutV (ns.map V.int) none (some 40))
    (fun i σ H' => ∃ (s : Int) (v2 : Option V), σ = [some (.ref a), some (.int s), v2] ∧ Same (upd H p (.lst (cutV (ns.map V.int) none (some 40)))) H') ⟨_, none, rfl, Same.refl _⟩ (fun i σ H' _ ⟨_, _, _, z⟩ => SqL.of (z _ _ upd_same)) ?_ ?_⟩⟩
  · rintro i x σ H1 hx ⟨s, v2, rfl, s1⟩
    obtain ⟨c, rfl⟩ : ∃ c : Int, x = .int c := by
      have hm := List.mem_of_getElem? hx
      unfold cutV at hm
      obtain ⟨c, _, e⟩ := List.mem_map.mp (List.mem_of_mem_drop (List.mem_of_mem_take hm))
      exact ⟨c, e.symm⟩
    walk_at "rsw"
    exact ⟨.inr ⟨by decide, by decide⟩, by decide, by decide⟩
  · rintro σ H1 ⟨s, v2, rfl, s1⟩
    have s2 : Same H H1 := Same.trans (Same.new hp) s1
    refine ⟨_, rfl, a, rfl, ⟨_, Same.lst s2 ha⟩, fun D hD => lc_list (K := K) (a := a) (xs := ns.map V.int) (fun i H' => Same H1 H' ∧ H' D = some (.lst ((ns.take i).map fun n => V.int (if n < 0 then -n else n))))
      ⟨Same.new hD, by rw [upd_same]; rfl⟩ (fun i H' _ z => Same.lst z.1 (Same.lst s2 ha)) ?_ ?_⟩
    · rintro i x H2 hx ⟨s3, hD2⟩
      obtain ⟨c, hc, rfl⟩ : ∃ c, ns[i]? = some c ∧ x = V.int c := by
        rw [List.getElem?_map] at hx
        cases e : ns[i]? with
        | none => rw [e] at hx; cases hx
        | some c => rw [e] at hx; exact ⟨c, rfl, (Option.some.inj hx).symm⟩
      have hi : i < ns.length := (List.getElem?_eq_some_iff.mp hc).1
      refine ⟨rfl, ?_⟩
      simp only [tYes, if_true]
      refine ⟨_, rfl, .inl ⟨c, rfl, c, rfl, _, hD2, ?_, Same.updN s3 hD, ?_⟩⟩
      · have : sizeLine = 16777216 := rfl
        rw [List.length_map, List.length_take]
        omega
      · rw [updS, List.take_succ, hc, List.map_append]
        rfl
    · rintro H2 ⟨s3, hD2⟩
      refine ⟨_, rfl, (by show 5 ≤ sizeLine; decide), fun r hr => ?_⟩
      have hDr : D ≠ r := ne_of_none hD2 hr
      refine q r D _ ⟨fun e => hDr e.symm, ns.map fun n => if n < 0 then -n else n, 0, 0, s, 0, updS _ _ _, ?_, by decide⟩ ((s2.trans s3).trans (Same.new hr))
      rw [upd_ne hDr, hD2, List.length_map, List.take_length, List.map_map]
      rfl
theorem PoolAt.apart {p l r : Addr} {H : Hp} (h : PoolAt H p l) (hr : H r = none) : r ≠ p ∧ r ≠ l := by
  obtain ⟨n, cs, i1, i2, i3, i4, h1, h2, h3⟩ := h
  exact ⟨fun e => (ne_of_none h1 hr) e.symm, fun e => (ne_of_none h2 hr) e.symm⟩
theorem PoolAt.new {p l r : Addr} {H : Hp} {o : HO} (h : PoolAt H p l) (hr : H r = none) : PoolAt (upd H r o) p l := h.same (Same.new hr)
theorem SameP.step {p l : Addr} {H H1 H2 : Hp} (h : SameP p l H H1) (s : Same H1 H2) : SameP p l H H2 := fun b o n m e => s _ _ (h b o n m e)
theorem draw {H : Hp} {p l : Addr} {many : Int} {Q : VK} (h : PoolAt H p l) (hm : 0 < many) (hl : many.natAbs.log2 < 1920) (q : Drawn H p l many Q) : sp__law_draw K [.ref p, .int many] H Q E0 := ⟨p, l, many, rfl, h, hm, hl, q⟩
theorem atV {xs : List V} {i : Int} (h0 : 0 ≤ i) (h : i < xs.length) : ∃ v, xs[i.toNat]? = some v ∧ atI xs i = some v := by
  have hi : i.toNat < xs.length := by omega
  refine ⟨xs[i.toNat], List.getElem?_eq_getElem hi, ?_⟩
  have := atI_nat (xs := xs) (j := i.toNat) (List.getElem?_eq_getElem hi)
  rwa [Int.toNat_of_nonneg h0] at this
theorem atInts {xs : List Int} {i : Int} (h0 : 0 ≤ i) (h : i < xs.length) : ∃ v, v ∈ xs ∧ atI (xs.map V.int) i = some (.int v) := by
  obtain ⟨v, h1, h2⟩ := atV (xs := xs.map V.int) h0 (by rw [List.length_map]; exact h)
  rw [List.getElem?_map] at h1
  cases e : xs[i.toNat]? with
  | none => rw [e] at h1; cases h1
  | some c => rw [e] at h1; obtain rfl := Option.some.inj h1; exact ⟨c, List.mem_of_getElem? e, h2⟩
end
end Tw
/-! Tw: drawn books, rows and wheels -/
namespace Tw
open PySem PySem.Spec PyProof.Rows L2 He TwM StX
open PySem.W (Frag)
local macro_rules | `(tactic| walk_at "rsx2") => `(tactic| simp only [*, at3_0, at3_1, at3_2, at2_0, at2_1, updS, upd_two, gSub, rSetL, updN, and_assoc, not_true_eq_false, not_false_eq_true, tNever, List.length_map, tFld, rIxTH, rIxLH, rLenTH, rLenLH, lk1, lfs_g, lfs_s, lfs_p, HO.ins.injEq, HO.tup.injEq, HO.lst.injEq, sp_Book_rounding, sp_Book_action, sp_Book_order, sp_Book_due, sp_Book_zero, sp_Book_beyond, Int.toNat_natCast, sp_visit_after, sp_is_visited, sp_Level_grain, sp_Level_slots, sp_Level_span, sp_Wheel_reach, sp_Wheel___len__, sp_is_integer, sp_is_count, sp_is_within, sp_rounded, tSeq, tAsg, gName, tVar, tC, tOp, rI, rI0, rU, tUn, oAdd, oSub, oMul, oDiv, oMod, oNeg, oLt, oLe, oGt, oGe, oIsN, oNotN, tFn, tCons, tNil, tIfS, tIf, tTest, tB, tNot, tAnd, tOr, tAndV, tOrV, tNotV,
    tRet, tRetN, tNext, tCB, tDrop, tChain, rEq, rNe, oMax2, oMin2, oInt1, rLenF, L2.start, List.map_cons, List.map_nil, List.length_cons, List.length_nil, List.replicate_succ, List.replicate_zero, List.cons_append, List.nil_append, Nat.reduceAdd, Nat.reduceSub, Nat.zero_add,
    List.set_cons_zero, List.set_cons_succ, List.getElem?_cons_zero, List.getElem?_cons_succ, Option.some.injEq, V.int.injEq, V.ref.injEq, V.str.injEq, V.bl.injEq, exists_eq_left', exists_eq_left, exists_and_left, List.cons.injEq, and_true, true_and, decide_eq_true_eq, sc_ii, sc_ss, sc_bb, sc_ni, sc_in, sc_nn, sc_is, reduceCtorEq,
    Bool.not_eq_true', decide_eq_false_iff_not, if_true, if_false, Bool.false_eq_true, exists_eq', exists_const, false_and, and_false, or_false, false_or, exists_false, Bool.not_not, Bool.not_true, Bool.not_false, sUp_up, sFire_fire, sHigh_high, sPut_put, sZone_now, sBey_refuse, sBey_cut, tTup, tLst, sz0, sz1, sz2, sz3, sz4, sz5, sz6])
section
variable {K : Frag} {w : World}
theorem drawAt {H : Hp} {p l r : Addr} {n : Int} {xs : List V} {Q : VK} (hp : PoolAt H p l) (hr : H r = none) (hn : 0 < n) (hl : n.natAbs.log2 < 1920) (hx : n = xs.length)
    (q : ∀ i x H', SameP p l H H' → PoolAt H' p l → H' r = some (.lst xs) → 0 ≤ i → i < n → atI xs i = some x → Q x H') :
    sp__law_draw K [.ref p, .int n] (upd H r (.lst xs)) (fun y H2 => ∃ ys i, y = .int i ∧ H2 r = some (.lst ys) ∧ ∃ x, atI ys i = some x ∧ Q x H2) E0 := by
  have ap := hp.apart hr
  refine draw (hp.new hr) hn hl fun i H2 s1 hp1 h0 h1 => ?_
  have e := s1 r _ ap.1 ap.2 (updS _ _ _)
  obtain ⟨x, _, hx'⟩ := atV (xs := xs) h0 (by omega)
  exact ⟨xs, i, rfl, e, x, hx', q i x H2 (SameP.trans ((SameP.refl p l H).step (Same.new hr)) s1) hp1 e h0 h1 hx'⟩
def lvR (l : Lv) : List V := [.int l.g, .int l.s, .int l.p]
structure RowsAt (H : Hp) (r : Addr) (W : List Lv) : Prop where
  at_ : ∃ ts : List Addr, H r = some (.lst (ts.map V.ref)) ∧ ts.length = W.length ∧ ∀ i t, ts[i]? = some t → H t = some (.tup (lvR (lv W i)))
structure ROk (W : List Lv) : Prop where
  ok : WOk W
  sp : ∀ i, i < W.length → (lv W i).p ≤ 4 * (lv W i).s * (lv W i).g
end
end Tw
/-! Tw: made books, levels of delays, drawn rows -/
namespace Tw
open PySem PySem.Spec PyProof.Rows L2 He TwM StX
open PySem.W (Frag)
local macro_rules | `(tactic| walk_at "rsy2") => `(tactic| simp only [*, at3_0, at3_1, at3_2, at2_0, at2_1, updS, upd_two, gSub, rSetL, updN, and_assoc, not_true_eq_false, not_false_eq_true, tNever, List.length_map, tFld, rIxTH, rIxLH, rLenTH, rLenLH, lk1, lfs_g, lfs_s, lfs_p, HO.ins.injEq, HO.tup.injEq, HO.lst.injEq, sp_Book_rounding, sp_Book_action, sp_Book_order, sp_Book_due, sp_Book_zero, sp_Book_beyond, Int.toNat_natCast, sp_visit_after, sp_is_visited, sp_Level_grain, sp_Level_slots, sp_Level_span, sp_Wheel_reach, sp_Wheel___len__, sp_is_integer, sp_is_count, sp_is_within, sp_rounded, tSeq, tAsg, gName, tVar, tC, tOp, rI, rI0, rU, tUn, oAdd, oSub, oMul, oDiv, oMod, oNeg, oLt, oLe, oGt, oGe, oIsN, oNotN, tFn, tCons, tNil, tIfS, tIf, tTest, tB, tNot, tAnd, tOr, tAndV, tOrV, tNotV,
    tRet, tRetN, tNext, tCB, tDrop, tChain, rEq, rNe, oMax2, oMin2, oInt1, rLenF, L2.start, List.map_cons, List.map_nil, List.length_cons, List.length_nil, List.replicate_succ, List.replicate_zero, List.cons_append, List.nil_append, Nat.reduceAdd, Nat.reduceSub, Nat.zero_add,
    List.set_cons_zero, List.set_cons_succ, List.getElem?_cons_zero, List.getElem?_cons_succ, Option.some.injEq, V.int.injEq, V.ref.injEq, V.str.injEq, V.bl.injEq, exists_eq_left', exists_eq_left, exists_and_left, List.cons.injEq, and_true, true_and, decide_eq_true_eq, sc_ii, sc_ss, sc_bb, sc_ni, sc_in, sc_nn, sc_is, reduceCtorEq,
    Bool.not_eq_true', decide_eq_false_iff_not, if_true, if_false, Bool.false_eq_true, exists_eq', exists_const, false_and, and_false, or_false, false_or, exists_false, Bool.not_not, Bool.not_true, Bool.not_false, sUp_up, sFire_fire, sHigh_high, sPut_put, sZone_now, sBey_refuse, sBey_cut, tTup, tLst, sz0, sz1, sz2, sz3, sz4, sz5, sz6])
section
variable {K : Frag} {w : World}
structure Grown (W : List Lv) (i : Nat) (g low : Int) : Prop where
  len : W.length = i
  z : i = 0 → g = 1 ∧ low = 1
  p : 0 < i → ROk W ∧ g = (lv W (i - 1)).g ∧ low = (lv W (i - 1)).p ∧ g ≤ 200
theorem RowsAt.sameP {p l r : Addr} {H H1 : Hp} {W : List Lv} (hp : PoolAt H p l) (e : RowsAt H r W) (s : SameP p l H H1) (h1 : r ≠ p) (h2 : r ≠ l) : RowsAt H1 r W := by
  obtain ⟨ts, a, b, c⟩ := e
  exact ⟨ts, s _ _ h1 h2 a, b, fun i t q => hp.tup s (c i t q)⟩
theorem RowsAt.same {r : Addr} {H H1 : Hp} {W : List Lv} (e : RowsAt H r W) (s : Same H H1) : RowsAt H1 r W := by
  obtain ⟨ts, a, b, c⟩ := e
  exact ⟨ts, s _ _ a, b, fun i t q => s _ _ (c i t q)⟩
end
end Tw
/-! Tw: small words for the laws' bodies -/
namespace Tw
open PySem PySem.Spec PyProof.Rows L2 He TwM StX
open PySem.W (Frag)
theorem gName1 (i : Nat) (v : V) (σ : L2.St) (H : Hp) (Q : L2.St → Hp → Prop) : gName i v σ H Q = Q (σ.set i (some v)) H := rfl
theorem seq1 (a b : TS) (D : Ends) (σ : L2.St) (H : Hp) : tSeq a b D σ H = a { D with nx := b D } σ H := rfl
theorem ROk.small {W : List Lv} (h : ROk W) {i : Nat} (hi : i < W.length) : (lv W i).p ≤ 400000 := by
  have h1 := h.ok.all i hi
  have h2 := h.sp i hi
  have h3 : 4 * (lv W i).s * (lv W i).g ≤ 400 * 1000 := Int.mul_le_mul (by omega) (by omega) (by omega) (by omega)
  omega
end Tw
/-! Tw: spots as data -/
namespace Tw
open PySem PySem.Spec PyProof.Rows L2 He TwM
open PySem.W (Frag)
section
variable {K : Frag} {H : Hp}
def dSp : Option Spot → PyData
  | none => .none
  | some sp => .tuple [.int sp.lv, .int sp.pt, .int sp.due]
theorem OSp.dp {v : V} {o : Option Spot} (h : OSp H v o) : Dp K H v (dSp o) := by
  cases o with
  | none =>
    have e : v = .non := h
    subst e
    exact .non
  | some sp =>
    obtain ⟨p, rfl, hp⟩ := h
    exact .tup (SqT.of hp) (.cons (.int _) (.cons (.int _) (.cons (.int _) .nil)))
theorem OSps.dp : ∀ {xs : List V} {os : List (Option Spot)}, OSps H xs os → DpAll K H xs (os.map dSp)
  | [], [], _ => .nil
  | [], _ :: _, h => by have := h.1; simp at this
  | _ :: _, [], h => by have := h.1; simp at this
  | x :: xs, o :: os, h => .cons (h.2 0 x o rfl rfl).dp (OSps.dp (xs := xs) (os := os) ⟨by have := h.1; simpa using this, fun i v q e1 e2 => h.2 (i + 1) v q (by simpa using e1) (by simpa using e2)⟩)
end
def passM (W : List Lv) (B : Bk) (sp : Spot) (before now : Int) (mode : Str) : Option Spot :=
  if mode = "each" then
    match fol W B (some now) (mu sp before) sp before 0 with
    | some r => r.1
    | none => none
  else
    match (visited W B sp (if mode = "last" then now - 1 else before) now).getLast? with
    | none => some sp
    | some o => o
end Tw
/-! Tw: whole starts later by grains -/
namespace Tw
open TwM
theorem levelIx_lt {W : List Lv} (ok : WOk W) (d : Int) : TwM.levelIx W d < W.length := by
  have hp := ok.pos
  unfold TwM.levelIx
  cases h : levelOf W d with
  | none => show W.length - 1 < W.length; omega
  | some i => exact (levelOf_lt h).1
theorem levelIx_mono {W : List Lv} (ok : WOk W) {d d' : Int} (h : d ≤ d') : TwM.levelIx W d ≤ TwM.levelIx W d' := by
  have h1 := levelIx_lt ok d
  unfold TwM.levelIx at h1 ⊢
  cases e' : levelOf W d' with
  | none => rw [show (none : Option Nat).getD (W.length - 1) = W.length - 1 from rfl]; omega
  | some i =>
    obtain ⟨a1, a2⟩ := levelOf_lt e'
    cases e : levelOf W d with
    | none => have := levelOf_none e i a1; omega
    | some j =>
      show j ≤ i
      rcases Nat.lt_or_ge i j with hj | hj
      · have := levelOf_ge e i hj; omega
      · exact hj
theorem spotAt_lv (W : List Lv) (B : Bk) (now rest due : Int) : (spotAt W B now rest due).lv = TwM.levelIx W rest := by
  unfold spotAt TwM.levelIx
  split <;> rename_i h <;> rw [h] <;> rfl
def Dv (W : List Lv) (k : Nat) (D : Int) : Prop := ∀ j, j ≤ k → (lv W j).g ∣ D
def sh (W : List Lv) (D : Int) (sp : Spot) : Spot := ⟨sp.lv, sp.pt + D / (lv W sp.lv).g, sp.due + D⟩
theorem rnd_shift {up : Bool} {t g m : Int} (hg : 0 < g) : rnd up (t + g * m) g = rnd up t g + m := by
  unfold rnd
  split
  · rw [show -(t + g * m) = -t + g * (-m) by rw [Int.mul_neg]; omega, Int.add_mul_ediv_left _ _ (by omega)]; omega
  · rw [Int.add_mul_ediv_left _ _ (by omega)]
theorem rnd_shiftD {up : Bool} {t g D : Int} (hg : 0 < g) (hd : g ∣ D) : rnd up (t + D) g = rnd up t g + D / g := by
  obtain ⟨m, rfl⟩ := hd
  rw [rnd_shift hg, Int.mul_ediv_cancel_left _ (by omega)]
theorem div_shift {t g D : Int} (hg : 0 < g) (hd : g ∣ D) : (t + D) / g = t / g + D / g := by
  obtain ⟨m, rfl⟩ := hd
  rw [Int.add_mul_ediv_left _ _ (by omega), Int.mul_ediv_cancel_left _ (by omega)]
theorem va_shift {l : Lv} {pt now D : Int} (hg : 0 < l.g) (hd : l.g ∣ D) : va l (pt + D / l.g) (now + D) = va l pt now + D := by
  unfold va
  rw [div_shift hg hd]
  have e : pt + D / l.g - (now / l.g + D / l.g) - 1 = pt - now / l.g - 1 := by omega
  rw [e]
  have e2 : now / l.g + D / l.g + 1 + (pt - now / l.g - 1) % l.s = (now / l.g + 1 + (pt - now / l.g - 1) % l.s) + D / l.g := by omega
  rw [e2, Int.add_mul, Int.ediv_mul_cancel hd]
theorem isVis_shift {l : Lv} {pt b now D : Int} (hg : 0 < l.g) (hd : l.g ∣ D) : isVis l (pt + D / l.g) (b + D) (now + D) = isVis l pt b now := by
  unfold isVis
  rw [div_shift hg hd, div_shift hg hd]
  have e : pt + D / l.g - (b / l.g + D / l.g) - 1 = pt - b / l.g - 1 := by omega
  have e2 : now / l.g + D / l.g - (b / l.g + D / l.g) = now / l.g - b / l.g := by omega
  rw [e, e2]
section
variable {W : List Lv} {B : Bk} {k : Nat} {D : Int}
theorem spotAt_shift (ok : WOk W) (hD : Dv W k D) {now rest due : Int} (hr : TwM.levelIx W rest ≤ k) : spotAt W B (now + D) rest (due + D) = sh W D (spotAt W B now rest due) := by
  have hp := ok.pos
  unfold TwM.levelIx at hr
  unfold spotAt sh
  cases e : levelOf W rest with
  | none =>
    rw [e] at hr
    have hr' : W.length - 1 ≤ k := hr
    have hg := (ok.all (W.length - 1) (by omega)).1
    dsimp only
    rw [show now + D + reach W - 1 = (now + reach W - 1) + D by omega, rnd_shiftD (by omega) (hD _ hr')]
  | some i =>
    rw [e] at hr
    have hr' : i ≤ k := hr
    have hg := (ok.all i (levelOf_lt e).1).1
    dsimp only
    rw [show now + D + rest = (now + rest) + D by omega, rnd_shiftD (by omega) (hD _ hr')]
theorem taken_shift (ok : WOk W) (hD : Dv W k D) {sp : Spot} {tick : Int} (hr : TwM.levelIx W (sp.due - tick) ≤ k) : taken W B (sh W D sp) (tick + D) = (taken W B sp tick).map (sh W D) := by
  unfold taken
  have e1 : (sh W D sp).lv = sp.lv := rfl
  have e2 : (sh W D sp).due = sp.due + D := rfl
  rw [e1, e2]
  split
  · rfl
  · by_cases h : tick < sp.due
    · rw [if_pos (by omega), if_pos h, show sp.due + D - (tick + D) = sp.due - tick by omega, spotAt_shift ok hD hr]
      rfl
    · rw [if_neg (by omega), if_neg h]
      split
      · show some _ = some _
        unfold sh
        dsimp only
        rw [ok.first, Int.ediv_one]
      · rfl
theorem visGo_shift (ok : WOk W) (hD : Dv W k D) {before now : Int} : ∀ (is : List Nat) {sp : Spot}, sp.lv ≤ k → sp.lv < W.length → TwM.levelIx W (sp.due - now) ≤ k → visGo W B (before + D) (now + D) is (sh W D sp) = (visGo W B before now is sp).map (Option.map (sh W D))
  | [], sp, _, _, _ => rfl
  | i :: is, sp, hk, hl, hr => by
    have hg := (ok.all sp.lv hl).1
    unfold visGo
    have e1 : (sh W D sp).lv = sp.lv := rfl
    have e3 : (sh W D sp).pt = sp.pt + D / (lv W sp.lv).g := rfl
    rw [e1, e3]
    by_cases hc : sp.lv = i ∧ isVis (lv W i) sp.pt before now = true
    · have hc' : sp.lv = i ∧ isVis (lv W i) (sp.pt + D / (lv W sp.lv).g) (before + D) (now + D) = true := ⟨hc.1, by rw [← hc.1, isVis_shift (by omega) (hD _ hk), hc.1]; exact hc.2⟩
      rw [if_pos hc, if_pos hc', taken_shift ok hD hr]
      cases e : taken W B sp now with
      | none => rfl
      | some s' =>
        obtain ⟨a1, a2, a3, a4, a5⟩ := taken_some ok e
        have hk' : s'.lv ≤ k := by
          rcases a5 with ⟨b1, b2⟩ | ⟨b1, b2, b3⟩
          · rw [b2, spotAt_lv]; exact hr
          · rw [b3]; exact Nat.zero_le _
        have ih := visGo_shift ok hD (before := before) (now := now) is (sp := s') hk' a1 (by rw [a2]; exact hr)
        show some (sh W D s') :: visGo W B (before + D) (now + D) is (sh W D s') = _
        rw [ih]
        rfl
    · have hc' : ¬ (sp.lv = i ∧ isVis (lv W i) (sp.pt + D / (lv W sp.lv).g) (before + D) (now + D) = true) := fun z => hc ⟨z.1, by
        have := z.2
        rw [← z.1, isVis_shift (by omega) (hD _ hk), z.1] at this
        exact this⟩
      rw [if_neg hc, if_neg hc']
      exact visGo_shift ok hD is hk hl hr
theorem visited_shift (ok : WOk W) (hD : Dv W k D) {before now : Int} {sp : Spot} (hk : sp.lv ≤ k) (hl : sp.lv < W.length) (hr : TwM.levelIx W (sp.due - now) ≤ k) : visited W B (sh W D sp) (before + D) (now + D) = (visited W B sp before now).map (Option.map (sh W D)) :=
  visGo_shift ok hD _ hk hl hr
theorem skipped_shift (ok : WOk W) (hD : Dv W k D) {tick : Int} {sp : Spot} (hk : sp.lv ≤ k) (hl : sp.lv < W.length) : skipped W (sh W D sp) (tick + D) none = skipped W sp tick none := by
  have hg := (ok.all sp.lv hl).1
  have e1 : (sh W D sp).lv = sp.lv := rfl
  have e2 : (sh W D sp).due = sp.due + D := rfl
  have e3 : (sh W D sp).pt = sp.pt + D / (lv W sp.lv).g := rfl
  unfold skipped
  rw [e1, e2, e3, va_shift (by omega) (hD _ hk), show sp.due + D - (tick + D) = sp.due - tick by omega, show va (lv W sp.lv) sp.pt tick + D - (tick + D) = va (lv W sp.lv) sp.pt tick - tick by omega]
def shR (W : List Lv) (D : Int) (r : Res) : Res := (r.1.map (sh W D), r.2.1 + D, r.2.2)
theorem fol_shift (ok : WOk W) (hD : Dv W k D) : ∀ (n : Nat) {sp : Spot} {tick mv : Int}, sp.lv ≤ k → sp.lv < W.length → TwM.levelIx W (sp.due - tick) ≤ k → fol W B none n (sh W D sp) (tick + D) mv = (fol W B none n sp tick mv).map (shR W D)
  | 0, sp, tick, mv, _, _, _ => rfl
  | n + 1, sp, tick, mv, hk, hl, hr => by
    have hall := ok.all sp.lv hl
    have hgt := va_gt (l := lv W sp.lv) (by omega) (by omega) sp.pt tick
    have e1 : (sh W D sp).lv = sp.lv := rfl
    have e3 : (sh W D sp).pt = sp.pt + D / (lv W sp.lv).g := rfl
    unfold fol
    rw [e1, e3, va_shift (by omega) (hD _ hk)]
    generalize ht : va (lv W sp.lv) sp.pt tick = t at hgt ⊢
    have hr' : TwM.levelIx W (sp.due - t) ≤ k := Nat.le_trans (levelIx_mono ok (by omega)) hr
    dsimp only
    rw [show over none (t + D) = false from rfl, show over none t = false from rfl, if_neg Bool.false_ne_true, if_neg Bool.false_ne_true]
    rw [show t + D - 1 = (t - 1) + D by omega, visited_shift ok hD hk hl hr', List.getLast?_map, List.length_map]
    cases e : (visited W B sp (t - 1) t).getLast? with
    | none => rfl
    | some o =>
      cases o with
      | none => rfl
      | some s' =>
        obtain ⟨c1, c2, c3, c4⟩ := visGo_last ok _ e
        have hk' : s'.lv ≤ k := by
          rcases c4 with ⟨b1, b2⟩ | ⟨b1, b2⟩
          · rw [b2, spotAt_lv]; exact hr'
          · rw [b2]; exact Nat.zero_le _
        show (if 0 < (skipped W (sh W D s') (t + D) none).1 then _ else _) = _
        rw [skipped_shift ok hD hk' c1]
        dsimp only [Option.map]
        by_cases h0 : 0 < (skipped W s' t none).1
        · rw [if_pos h0, if_pos h0]
          have hk2 : 0 < (skipped W s' t none).2 := by
            obtain ⟨_, _, k3, _⟩ := skipped_pos h0
            have hall' := ok.all _ c1
            have := va_gt (l := lv W s'.lv) (by omega) (by omega) s'.pt t
            rw [k3]; omega
          have hpos : 0 < (skipped W s' t none).1 * (skipped W s' t none).2 := Int.mul_pos h0 hk2
          generalize (skipped W s' t none).1 * (skipped W s' t none).2 = j at hpos ⊢
          have hr2 : TwM.levelIx W (s'.due - (t + j)) ≤ k := Nat.le_trans (levelIx_mono ok (by rw [c2]; omega)) hr'
          have e4 : (sh W D s').due = s'.due + D := rfl
          rw [e4, show t + D + j = (t + j) + D by omega, show s'.due + D - (t + j + D) = s'.due - (t + j) by omega, spotAt_shift ok hD hr2]
          exact fol_shift ok hD n (by rw [spotAt_lv]; exact hr2) (spotAt_lt ok _ _ _ _) (by rw [spotAt_due]; exact hr2)
        · rw [if_neg h0, if_neg h0]
          exact fol_shift ok hD n hk' c1 (by rw [c2]; exact hr')
theorem dvd_le (ok : WOk W) : ∀ (n j : Nat), j + n < W.length → (lv W j).g ∣ (lv W (j + n)).g
  | 0, j, _ => Int.dvd_refl _
  | n + 1, j, h => Int.dvd_trans (dvd_le ok n j (by omega)) (ok.dv (j + n) (by omega))
theorem dv_of (ok : WOk W) (hk : k < W.length) (m : Int) : Dv W k ((lv W k).g * m) := fun j hj => by
  have := dvd_le ok (k - j) j (by omega)
  rw [show j + (k - j) = k by omega] at this
  exact Int.dvd_trans this (Int.dvd_mul_right _ _)
theorem asc_le (ok : WOk W) : ∀ (n j : Nat), j + n + 1 < W.length → (lv W j).p < (lv W (j + n + 1)).p
  | 0, j, h => ok.asc j h
  | n + 1, j, h => Int.lt_trans (asc_le ok n j (by omega)) (ok.asc (j + n + 1) (by omega))
theorem place_form (ok : WOk W) (hb3 : B.bey < 3) {delay : Int} (hd : 1 ≤ delay) (hb : reach W ≤ delay → B.bey ≠ 0) :
    ∃ r, 1 ≤ r ∧ TwM.levelIx W r = TwM.levelIx W delay ∧ ∀ now, placeM W B now delay = some (spotAt W B now r (now + r)) := by
  have hp := ok.pos
  have hre : 2 ≤ reach W := (ok.all (W.length - 1) (by omega)).2.2.2.2
  have e0 : (if 1 > delay then 1 else delay) = delay := by split <;> omega
  by_cases hc : reach W ≤ delay ∧ B.bey = 2
  · refine ⟨reach W - 1, by omega, ?_, fun now => ?_⟩
    · have e1 : levelOf W delay = none := levelOf_isN fun j hj => by
        rcases Nat.lt_or_ge (j + 1) W.length with h | h
        · have := asc_le ok (W.length - 1 - j - 1) j (by omega)
          rw [show j + (W.length - 1 - j - 1) + 1 = W.length - 1 by omega] at this
          have : (lv W j).p < reach W := this
          omega
        · rw [show j = W.length - 1 by omega]
          exact hc.1
      have e2 : TwM.levelIx W delay = W.length - 1 := by unfold TwM.levelIx; rw [e1]; rfl
      rw [e2]
      unfold TwM.levelIx
      cases e : levelOf W (reach W - 1) with
      | none => rfl
      | some i =>
        show i = W.length - 1
        obtain ⟨a1, a2⟩ := levelOf_lt e
        rcases Nat.lt_or_ge i (W.length - 1) with h | h
        · have := asc_le ok (W.length - 1 - i - 1) i (by omega)
          rw [show i + (W.length - 1 - i - 1) + 1 = W.length - 1 by omega] at this
          have : (lv W i).p < reach W := this
          omega
        · omega
    · unfold placeM
      rw [if_neg (fun z => by have := z.1; omega)]
      dsimp only
      rw [e0, if_pos hc]
  · refine ⟨delay, hd, rfl, fun now => ?_⟩
    unfold placeM
    rw [if_neg (fun z => by have := z.1; omega)]
    dsimp only
    rw [e0, if_neg hc]
theorem later (ok : WOk W) (hb3 : B.bey < 3) {delay : Int} (hd : 1 ≤ delay) (hb : reach W ≤ delay → B.bey ≠ 0) (start m : Int) :
    ∃ s1 s2, placeM W B start delay = some s1 ∧ placeM W B (start + (lv W (TwM.levelIx W delay)).g * m) delay = some s2 ∧ s1.lv = s2.lv ∧ s2.pt - s1.pt = m ∧ s2.due - s1.due = (lv W (TwM.levelIx W delay)).g * m ∧
      (fin W B (start + (lv W (TwM.levelIx W delay)).g * m) delay).1 = (fin W B start delay).1 + (lv W (TwM.levelIx W delay)).g * m ∧ (fin W B (start + (lv W (TwM.levelIx W delay)).g * m) delay).2 = (fin W B start delay).2 := by
  obtain ⟨r, hr1, hr2, hpl⟩ := place_form ok hb3 hd hb
  have hk := levelIx_lt ok delay
  generalize hkk : TwM.levelIx W delay = k at hk hr2 ⊢
  have hg := (ok.all k hk).1
  have hD := dv_of ok hk m
  have hsh := spotAt_shift (B := B) (now := start) (rest := r) (due := start + r) ok hD (Nat.le_of_eq hr2)
  have hlv : (spotAt W B start r (start + r)).lv = k := by rw [spotAt_lv]; exact hr2
  have e1 := hpl start
  have e2 : placeM W B (start + (lv W k).g * m) delay = some (sh W ((lv W k).g * m) (spotAt W B start r (start + r))) := by
    rw [hpl, ← hsh, show start + (lv W k).g * m + r = start + r + (lv W k).g * m by omega]
  have hl : (spotAt W B start r (start + r)).lv < W.length := by rw [hlv]; exact hk
  obtain ⟨q, hq⟩ := fol_ends ok B none (mu (spotAt W B start r (start + r)) start) _ start 0 hl (Nat.le_refl _)
  have hq2 := fol_shift (B := B) ok hD (mu (spotAt W B start r (start + r)) start) (sp := spotAt W B start r (start + r)) (tick := start) (mv := 0) (by omega) hl (by rw [spotAt_due, show start + r - start = r by omega]; exact Nat.le_of_eq hr2)
  rw [hq] at hq2
  have f1 := fin_some e1 ok hl hq
  have f2 := fin_some e2 ok (by show (spotAt W B start r (start + r)).lv < W.length; exact hl) hq2
  refine ⟨_, _, e1, e2, rfl, ?_, ?_, ?_, ?_⟩
  · show (spotAt W B start r (start + r)).pt + (lv W k).g * m / (lv W (spotAt W B start r (start + r)).lv).g - (spotAt W B start r (start + r)).pt = m
    rw [hlv, Int.mul_ediv_cancel_left _ (by omega)]
    omega
  · show (spotAt W B start r (start + r)).due + (lv W k).g * m - (spotAt W B start r (start + r)).due = (lv W k).g * m
    omega
  · rw [f1, f2]; rfl
  · rw [f1, f2]; rfl
end
end Tw
/-! Tw: common divisors, inverses, first hits -/
namespace Tw
open TwM
def IsG (a b g : Int) : Prop := 0 < g ∧ ∀ d, (d ∣ a ∧ d ∣ b) ↔ d ∣ g
theorem IsG.eq {a b g g' : Int} (h : IsG a b g) (h' : IsG a b g') : g = g' := by
  have h1 : g ∣ g' := (h'.2 g).mp ((h.2 g).mpr (Int.dvd_refl g))
  have h2 : g' ∣ g := (h.2 g').mp ((h'.2 g').mpr (Int.dvd_refl g'))
  exact Int.dvd_antisymm (Int.le_of_lt h.1) (Int.le_of_lt h'.1) h1 h2
def FH (base length goal modulus : Int) (o : Option Int) : Prop := ∃ g, IsG length modulus g ∧ match o with
  | none => ¬ g ∣ goal - base
  | some k => 1 ≤ k ∧ k ≤ modulus / g ∧ modulus ∣ base + k * length - goal
theorem visGo_fire {W : List Lv} {B : Bk} (hf : B.fire = true) {before now : Int} : ∀ (is : List Nat) {sp : Spot}, sp.lv ∈ is → isVis (lv W sp.lv) sp.pt before now = true → visGo W B before now is sp = [none]
  | [], sp, h, _ => by simp at h
  | i :: is, sp, h, hv => by
    unfold visGo
    by_cases e : sp.lv = i
    · have et : taken W B sp now = none := by unfold taken; rw [if_pos (.inr hf)]
      rw [if_pos ⟨e, by rw [← e]; exact hv⟩, et]
    · rw [if_neg (fun z => e z.1)]
      exact visGo_fire hf is (by rcases List.mem_cons.mp h with q | q; exact absurd q e; exact q) hv
end Tw
/-! Tw: readings of common divisors, inverses, first hits, beats -/
namespace Tw
open PySem PySem.Spec PyProof.Rows L2 He TwM StX
open PySem.W (Frag)
local macro_rules | `(tactic| walk_at "rsg") => `(tactic| simp only [*, at3_0, at3_1, at3_2, at2_0, at2_1, updS, upd_two, gSub, rSetL, updN, and_assoc, not_true_eq_false, not_false_eq_true, tNever, List.length_map, tFld, rIxTH, rIxLH, rLenTH, rLenLH, lk1, lfs_g, lfs_s, lfs_p, HO.ins.injEq, HO.tup.injEq, HO.lst.injEq, sp_Book_rounding, sp_Book_action, sp_Book_order, sp_Book_due, sp_Book_zero, sp_Book_beyond, Int.toNat_natCast, sp_visit_after, sp_is_visited, sp_Level_grain, sp_Level_slots, sp_Level_span, sp_Wheel_reach, sp_Wheel___len__, sp_is_integer, sp_is_count, sp_is_within, sp_rounded, tSeq, tAsg, gName, tVar, tC, tOp, rI, rI0, rU, tUn, oAdd, oSub, oMul, oDiv, oMod, oNeg, oLt, oLe, oGt, oGe, oIsN, oNotN, tFn, tCons, tNil, tIfS, tIf, tTest, tB, tNot, tAnd, tOr, tAndV, tOrV, tNotV,
    tRet, tRetN, tNext, tCB, tDrop, tChain, rEq, rNe, oMax2, oMin2, oInt1, rLenF, L2.start, List.map_cons, List.map_nil, List.length_cons, List.length_nil, List.replicate_succ, List.replicate_zero, List.cons_append, List.nil_append, Nat.reduceAdd, Nat.reduceSub, Nat.zero_add,
    List.set_cons_zero, List.set_cons_succ, List.getElem?_cons_zero, List.getElem?_cons_succ, Option.some.injEq, V.int.injEq, V.ref.injEq, V.str.injEq, V.bl.injEq, exists_eq_left', exists_eq_left, exists_and_left, List.cons.injEq, and_true, true_and, decide_eq_true_eq, sc_ii, sc_ss, sc_bb, sc_ni, sc_in, sc_nn, sc_is, reduceCtorEq,
    Bool.not_eq_true', decide_eq_false_iff_not, if_true, if_false, Bool.false_eq_true, exists_eq', exists_const, false_and, and_false, or_false, false_or, exists_false, Bool.not_not, Bool.not_true, Bool.not_false, sUp_up, sFire_fire, sHigh_high, sPut_put, sZone_now, sBey_refuse, sBey_cut, tTup, tLst, sz0, sz1, sz2, sz3, sz4, sz5, sz6])
section
variable {K : Frag} {w : World}
structure Kg (K : Frag) : Prop where
  md : ∀ H, SqT K H (ga K "MODES") [.str "each", .str "last", .str "slots"]
end
end Tw
/-! Tw: drawn rows with bounds -/
namespace Tw
open PySem PySem.Spec PyProof.Rows L2 He TwM StX
open PySem.W (Frag)
local macro_rules | `(tactic| walk_at "rsl2") => `(tactic| simp only [*, at3_0, at3_1, at3_2, at2_0, at2_1, updS, upd_two, gSub, rSetL, updN, and_assoc, not_true_eq_false, not_false_eq_true, tNever, List.length_map, tFld, rIxTH, rIxLH, rLenTH, rLenLH, lk1, lfs_g, lfs_s, lfs_p, HO.ins.injEq, HO.tup.injEq, HO.lst.injEq, sp_Book_rounding, sp_Book_action, sp_Book_order, sp_Book_due, sp_Book_zero, sp_Book_beyond, Int.toNat_natCast, sp_visit_after, sp_is_visited, sp_Level_grain, sp_Level_slots, sp_Level_span, sp_Wheel_reach, sp_Wheel___len__, sp_is_integer, sp_is_count, sp_is_within, sp_rounded, tSeq, tAsg, gName, tVar, tC, tOp, rI, rI0, rU, tUn, oAdd, oSub, oMul, oDiv, oMod, oNeg, oLt, oLe, oGt, oGe, oIsN, oNotN, tFn, tCons, tNil, tIfS, tIf, tTest, tB, tNot, tAnd, tOr, tAndV, tOrV, tNotV,
    tRet, tRetN, tNext, tCB, tDrop, tChain, rEq, rNe, oMax2, oMin2, oInt1, rLenF, L2.start, List.map_cons, List.map_nil, List.length_cons, List.length_nil, List.replicate_succ, List.replicate_zero, List.cons_append, List.nil_append, Nat.reduceAdd, Nat.reduceSub, Nat.zero_add,
    List.set_cons_zero, List.set_cons_succ, List.getElem?_cons_zero, List.getElem?_cons_succ, Option.some.injEq, V.int.injEq, V.ref.injEq, V.str.injEq, V.bl.injEq, exists_eq_left', exists_eq_left, exists_and_left, List.cons.injEq, and_true, true_and, decide_eq_true_eq, sc_ii, sc_ss, sc_bb, sc_ni, sc_in, sc_nn, sc_is, reduceCtorEq,
    Bool.not_eq_true', decide_eq_false_iff_not, if_true, if_false, Bool.false_eq_true, exists_eq', exists_const, false_and, and_false, or_false, false_or, exists_false, Bool.not_not, Bool.not_true, Bool.not_false, sUp_up, sFire_fire, sHigh_high, sPut_put, sZone_now, sBey_refuse, sBey_cut, tTup, tLst, sz0, sz1, sz2, sz3, sz4, sz5, sz6])
section
variable {K : Frag} {w : World}
end
end Tw
/-! Tw: walks from visit to visit; lumps of one length -/
namespace Tw
open TwM
section
variable {W : List Lv} {B : Bk}
inductive Walks (W : List Lv) (B : Bk) : Spot → Int → Int → Prop
  | fired {sp : Spot} {tick : Int} : (visited W B sp (va (lv W sp.lv) sp.pt tick - 1) (va (lv W sp.lv) sp.pt tick)).getLast? = some none → Walks W B sp tick (va (lv W sp.lv) sp.pt tick)
  | on {sp sp' : Spot} {tick T : Int} : (visited W B sp (va (lv W sp.lv) sp.pt tick - 1) (va (lv W sp.lv) sp.pt tick)).getLast? = some (some sp') → Walks W B sp' (va (lv W sp.lv) sp.pt tick) T → Walks W B sp tick T
theorem Walks.eq {sp : Spot} {tick T T' : Int} (h : Walks W B sp tick T) (h' : Walks W B sp tick T') : T = T' := by
  induction h with
  | fired e =>
    cases h' with
    | fired _ => rfl
    | on e' _ => rw [e] at e'; cases e'
  | on e _ ih =>
    cases h' with
    | fired e' => rw [e] at e'; cases e'
    | on e' q => rw [e] at e'; cases e'; exact ih q
theorem skipped_no {sp : Spot} {tick : Int} {lim : Option Int} (h : sp.due - tick < reach W) : skipped W sp tick lim = (0, 0) := by
  unfold skipped
  rw [if_pos (.inr h)]
theorem fol_walks (ok : WOk W) : ∀ (n : Nat) {sp : Spot} {tick mv : Int} {r : Res}, fol W B none n sp tick mv = some r → sp.due - tick ≤ reach W → sp.lv < W.length → Walks W B sp tick r.2.1
  | 0, _, _, _, _, h, _, _ => by cases h
  | n + 1, sp, tick, mv, r, h, hr, hl => by
    have hall := ok.all _ hl
    have hgt := va_gt (l := lv W sp.lv) (by omega) (by omega) sp.pt tick
    unfold fol at h
    dsimp only at h
    rw [if_neg (by unfold over; exact Bool.false_ne_true)] at h
    cases hq : (visited W B sp (va (lv W sp.lv) sp.pt tick - 1) (va (lv W sp.lv) sp.pt tick)).getLast? with
    | none => rw [hq] at h; cases h
    | some o =>
      rw [hq] at h
      cases o with
      | none => cases h; exact .fired hq
      | some sp' =>
        dsimp only at h
        obtain ⟨c1, c2, c3, c4⟩ := visGo_last ok _ hq
        rw [skipped_no (by rw [c2]; omega), if_neg (by decide)] at h
        exact .on hq (fol_walks ok n h (by rw [c2]; omega) c1)
theorem va_most {l : Lv} (hg : 0 < l.g) (hs : 0 < l.s) (pt now : Int) : va l pt now ≤ now + l.s * l.g := by
  unfold va
  have h1 := Int.emod_lt_of_pos (pt - now / l.g - 1) hs
  have h2 : (now / l.g + 1 + (pt - now / l.g - 1) % l.s) * l.g ≤ (now / l.g + l.s) * l.g := Int.mul_le_mul_of_nonneg_right (by omega) (by omega)
  have h3 := Int.ediv_mul_le now (b := l.g) (by omega)
  have h4 := Int.add_mul (now / l.g) l.s l.g
  omega
theorem va_step (ok : WOk W) {i : Nat} (hi : i < W.length) (pt now : Int) : now < va (lv W i) pt now ∧ va (lv W i) pt now ≤ now + 100000 := by
  have hall := ok.all _ hi
  refine ⟨va_gt (by omega) (by omega) pt now, ?_⟩
  have h1 := va_most (l := lv W i) (by omega) (by omega) pt now
  have h2 : (lv W i).s * (lv W i).g ≤ 100 * 1000 := Int.mul_le_mul (by omega) (by omega) (by omega) (by omega)
  omega
theorem mu_step {sp sp' : Spot} {tick t bf : Int} (ok : WOk W) (ht : tick < t) (hq : (visited W B sp bf t).getLast? = some (some sp')) : mu sp' t + 1 ≤ mu sp tick ∧ sp'.lv < W.length ∧ sp'.due = sp.due := by
  obtain ⟨c1, c2, c3, c4⟩ := visGo_last ok _ hq
  refine ⟨?_, c1, c2⟩
  have h0 : sp.lv ≠ 0 := fun e => by
    have := visGo_zero (W := W) (B := B) (before := bf) (now := t) (order W B) e (some sp') (List.mem_of_getLast? hq)
    cases this
  unfold mu
  rw [if_neg h0]
  split
  · omega
  · rename_i hz
    rcases c4 with ⟨d1, d2⟩ | ⟨d1, d2⟩
    · rw [c2]; omega
    · exact absurd (by rw [d2]) hz
inductive Beats (W : List Lv) (B : Bk) (nx : Lv → Int → Int → Option Int → Prop) (bf : Int → Int) : Spot → Int → Option Int → Prop
  | lost {sp : Spot} {tick : Int} : nx (lv W sp.lv) sp.pt tick none → Beats W B nx bf sp tick none
  | fired {sp : Spot} {tick t : Int} : nx (lv W sp.lv) sp.pt tick (some t) → (visited W B sp (bf t) t).getLast? = some none → Beats W B nx bf sp tick (some t)
  | on {sp sp' : Spot} {tick t : Int} {o : Option Int} : nx (lv W sp.lv) sp.pt tick (some t) → (visited W B sp (bf t) t).getLast? = some (some sp') → Beats W B nx bf sp' t o → Beats W B nx bf sp tick o
theorem Beats.one {nx : Lv → Int → Int → Option Int → Prop} {bf : Int → Int} (ok : WOk W) (hx : ∀ i pt tick o, i < W.length → nx (lv W i) pt tick o → o = some (va (lv W i) pt tick)) (hb : ∀ t, bf t = t - 1) {sp : Spot} {tick : Int} {o : Option Int}
    (h : Beats W B nx bf sp tick o) (hl : sp.lv < W.length) : ∃ T, o = some T ∧ Walks W B sp tick T := by
  induction h with
  | lost e => have := hx _ _ _ _ hl e; cases this
  | @fired sp tick t e q =>
    obtain rfl := Option.some.inj (hx _ _ _ _ hl e)
    rw [hb] at q
    exact ⟨_, rfl, .fired q⟩
  | @on sp sp' tick t o e q z ih =>
    obtain rfl := Option.some.inj (hx _ _ _ _ hl e)
    rw [hb] at q
    obtain ⟨c1, c2, c3, c4⟩ := visGo_last ok _ q
    obtain ⟨T, rfl, hT⟩ := ih c1
    exact ⟨T, rfl, .on q hT⟩
theorem isVis_in {l : Lv} {pt v bf now : Int} (hg : 0 < l.g) (hs : 0 < l.s) (h : l.g * l.s ∣ v - pt * l.g) (h1 : bf < v) (h2 : v ≤ now) : isVis l pt bf now = true := by
  obtain ⟨j, hj⟩ := h
  have e : v = (pt + l.s * j) * l.g := by rw [Int.add_mul, Int.mul_comm (l.s * j) l.g, ← Int.mul_assoc]; omega
  unfold isVis
  have h3 : bf / l.g < pt + l.s * j := Int.ediv_lt_of_lt_mul hg (by omega)
  have h4 : pt + l.s * j ≤ now / l.g := Int.le_ediv_of_mul_le hg (by omega)
  have h5 : (pt - bf / l.g - 1) % l.s = (pt + l.s * j - bf / l.g - 1) % l.s := by
    rw [show pt + l.s * j - bf / l.g - 1 = (pt - bf / l.g - 1) + l.s * j by omega, Int.add_mul_emod_self_left]
  have h6 : (pt + l.s * j - bf / l.g - 1) % l.s ≤ pt + l.s * j - bf / l.g - 1 := by
    have := Int.emod_def (pt + l.s * j - bf / l.g - 1) l.s
    have h7 : 0 ≤ (pt + l.s * j - bf / l.g - 1) / l.s := Int.ediv_nonneg (by omega) (by omega)
    have h8 : 0 ≤ l.s * ((pt + l.s * j - bf / l.g - 1) / l.s) := Int.mul_nonneg (by omega) h7
    omega
  rw [h5]
  exact decide_eq_true (by omega)
theorem va_dvd {l : Lv} (hs : 0 < l.s) (pt now : Int) : l.g * l.s ∣ va l pt now - pt * l.g := by
  unfold va
  have e := Int.emod_def (pt - now / l.g - 1) l.s
  refine ⟨-((pt - now / l.g - 1) / l.s), ?_⟩
  rw [e, ← Int.sub_mul, Int.mul_neg, Int.mul_assoc, ← Int.mul_neg, Int.mul_comm l.g]
  congr 1
  generalize l.s * ((pt - now / l.g - 1) / l.s) = z
  omega
theorem va_uniq {l : Lv} (hg : 0 < l.g) (hs : 0 < l.s) {pt tick k : Int} (h1 : 1 ≤ k) (h2 : k ≤ l.g * l.s) (h : l.g * l.s ∣ tick + k - pt * l.g) : tick + k = va l pt tick := by
  have a := va_dvd (l := l) hs pt tick
  have b := va_gt (l := l) hg hs pt tick
  have c := va_most (l := l) hg hs pt tick
  rw [Int.mul_comm l.s] at c
  have d := Int.dvd_sub h a
  rw [show tick + k - pt * l.g - (va l pt tick - pt * l.g) = tick + k - va l pt tick by omega] at d
  generalize l.g * l.s = m at *
  obtain ⟨z, hz⟩ := d
  have hz0 : z = 0 := by
    rcases Int.lt_trichotomy z 0 with q | q | q
    · have : m * z ≤ m * (-1) := Int.mul_le_mul_of_nonneg_left (by omega) (by omega)
      omega
    · exact q
    · have : m * 1 ≤ m * z := Int.mul_le_mul_of_nonneg_left (by omega) (by omega)
      omega
  rw [hz0] at hz
  omega
end
end Tw
/-! Tw: a walk that leaps tells what a walk from visit to visit tells -/
namespace Tw
open TwM
section
variable {W : List Lv} {B : Bk} {lim : Option Int}
def wl (W : List Lv) (B : Bk) (lim : Option Int) : Nat → Spot → Int → Int → Option Res
  | 0, _, _, _ => none
  | n + 1, sp, tick, mv =>
    let t := va (lv W sp.lv) sp.pt tick
    if over lim t = true then some (some sp, tick, mv)
    else
      let found := visited W B sp (t - 1) t
      match found.getLast? with
      | none => none
      | some none => some (none, t, mv + found.length - 1)
      | some (some sp') => wl W B lim n sp' t (mv + found.length)
theorem wl_ends (ok : WOk W) (B : Bk) (lim : Option Int) : ∀ (n : Nat) (sp : Spot) (tick mv : Int), sp.lv < W.length → mu sp tick ≤ n → ∃ r, wl W B lim n sp tick mv = some r
  | 0, sp, tick, mv, _, h => by unfold mu at h; split at h <;> omega
  | n + 1, sp, tick, mv, hl, h => by
    have hgt := va_step ok hl sp.pt tick
    unfold wl
    dsimp only
    split
    · exact ⟨_, rfl⟩
    · cases hq : (visited W B sp (va (lv W sp.lv) sp.pt tick - 1) (va (lv W sp.lv) sp.pt tick)).getLast? with
      | none => exact absurd (List.getLast?_eq_none_iff.mp hq) (visited_ne ok hl tick)
      | some o =>
        cases o with
        | none => exact ⟨_, rfl⟩
        | some sp' =>
          obtain ⟨m1, m2, m3⟩ := mu_step ok hgt.1 hq
          exact wl_ends ok B lim n sp' _ _ m2 (by omega)
theorem wl_mono : ∀ (n : Nat) {sp : Spot} {tick mv : Int} {r : Res}, wl W B lim n sp tick mv = some r → ∀ m, n ≤ m → wl W B lim m sp tick mv = some r
  | 0, _, _, _, _, h, _, _ => by cases h
  | n + 1, sp, tick, mv, r, h, m, hm => by
    obtain ⟨m, rfl⟩ : ∃ k, m = k + 1 := ⟨m - 1, by omega⟩
    unfold wl at h ⊢
    dsimp only at h ⊢
    split at h
    · rename_i h1
      rw [if_pos h1]; exact h
    · rename_i h1
      rw [if_neg h1]
      split at h
      · cases h
      · exact h
      · exact wl_mono n h m (by omega)
theorem wl_eq {n m : Nat} {sp : Spot} {tick mv : Int} {r r' : Res} (h : wl W B lim n sp tick mv = some r) (h' : wl W B lim m sp tick mv = some r') : r = r' := by
  have e1 := wl_mono n h (max n m) (Nat.le_max_left _ _)
  have e2 := wl_mono m h' (max n m) (Nat.le_max_right _ _)
  rw [e1] at e2
  exact Option.some.inj e2
def Proper (W : List Lv) (sp : Spot) (tick : Int) : Prop := reach W ≤ sp.due - tick → sp.lv = W.length - 1
theorem le_reach (ok : WOk W) {i : Nat} (hi : i < W.length) : (lv W i).p ≤ reach W := by
  unfold reach
  rcases Nat.lt_or_ge i (W.length - 1) with h | h
  · have := asc_le ok (W.length - 1 - i - 1) i (by omega)
    rw [show i + (W.length - 1 - i - 1) + 1 = W.length - 1 by omega] at this
    omega
  · rw [show i = W.length - 1 by omega]; exact Int.le_refl _
theorem spotAt_far (ok : WOk W) {now rest due : Int} (h : reach W ≤ rest) : spotAt W B now rest due = ⟨W.length - 1, rnd B.up (now + reach W - 1) (lv W (W.length - 1)).g, due⟩ := by
  unfold spotAt
  rw [levelOf_isN fun j hj => Int.le_trans (le_reach ok hj) h]
theorem spotAt_proper (ok : WOk W) (now due : Int) : Proper W (spotAt W B now (due - now) due) now := fun h => by
  rw [spotAt_due] at h
  rw [spotAt_far ok h]
theorem visGo_not {b n : Int} : ∀ (is rest : List Nat) {sp : Spot}, sp.lv ∉ is → visGo W B b n (is ++ rest) sp = visGo W B b n rest sp
  | [], _, _, _ => rfl
  | i :: is, rest, sp, h => by
    rw [List.mem_cons, not_or] at h
    rw [List.cons_append]
    show (if _ then _ else _) = _
    rw [if_neg (fun z => h.1 z.1)]
    exact visGo_not is rest h.2
theorem visGo_out {b n : Int} (is : List Nat) {sp : Spot} (h : sp.lv ∉ is) : visGo W B b n is sp = [] := by
  have := visGo_not (W := W) (B := B) (b := b) (n := n) is [] h
  rw [List.append_nil] at this
  rw [this]; rfl
theorem visit_far (ok : WOk W) (hf : B.fire = false) {sp : Spot} (h1 : 1 < W.length) (hl : sp.lv = W.length - 1) {t : Int} (hv : isVis (lv W sp.lv) sp.pt (t - 1) t = true) (hr : reach W ≤ sp.due - t) :
    visited W B sp (t - 1) t = [some (spotAt W B t (sp.due - t) sp.due)] := by
  have hre : 2 ≤ reach W := (ok.all (W.length - 1) (by omega)).2.2.2.2
  have ht : taken W B sp t = some (spotAt W B t (sp.due - t) sp.due) := by
    unfold taken
    rw [if_neg (by rw [hl, hf]; rintro (z | z); omega; cases z), if_pos (by omega)]
  have hs : (spotAt W B t (sp.due - t) sp.due).lv = W.length - 1 := by rw [spotAt_far ok hr]
  obtain ⟨k, hk⟩ : ∃ k, W.length = k + 1 := ⟨W.length - 1, by omega⟩
  have hlk : sp.lv = k := by omega
  have step : ∀ is, k ∉ is → visGo W B (t - 1) t (k :: is) sp = [some (spotAt W B t (sp.due - t) sp.due)] := fun is hi => by
    show (if _ then _ else _) = _
    rw [if_pos ⟨hlk, by rw [← hlk]; exact hv⟩, ht]
    show _ :: visGo W B (t - 1) t is _ = _
    rw [visGo_out is (by rw [hs, show W.length - 1 = k by omega]; exact hi)]
  unfold visited order
  split
  · rw [hk, List.range_succ, List.reverse_append]
    exact step _ (by simp)
  · rw [hk, List.range_succ, visGo_not _ _ (by rw [hlk]; simp)]
    exact step [] (by simp)
theorem wl_far (ok : WOk W) (hf : B.fire = false) (h1 : 1 < W.length) {due step : Int} : ∀ (j : Nat) {t mv : Int} (m : Nat), (lv W (W.length - 1)).g ∣ t → reach W ≤ due - t →
    va (lv W (W.length - 1)) (spotAt W B t (due - t) due).pt t = t + step → j * step ≤ due - t - reach W → (∀ l, lim = some l → t + j * step ≤ l) →
    wl W B lim (m + j) (spotAt W B t (due - t) due) t mv = wl W B lim m (spotAt W B (t + j * step) (due - (t + j * step)) due) (t + j * step) (mv + j)
  | 0, t, mv, m, _, _, _, _, _ => by simp
  | j + 1, t, mv, m, hg, hr, hs, hj, hlim => by
    have hall := ok.all (W.length - 1) (by omega)
    have hgt := va_gt (l := lv W (W.length - 1)) (by omega) (by omega) (spotAt W B t (due - t) due).pt t
    rw [hs] at hgt
    have hs0 : 0 < step := by omega
    have e1 : ((j + 1 : Nat) : Int) * step = j * step + step := by rw [Int.natCast_add, Int.add_mul]; simp
    rw [e1] at hj hlim
    have hj0 : 0 ≤ (j : Int) * step := Int.mul_nonneg (by omega) (by omega)
    have hfar := spotAt_far (B := B) ok (now := t) (due := due) hr
    have hlv : (spotAt W B t (due - t) due).lv = W.length - 1 := by rw [hfar]
    have hdu : (spotAt W B t (due - t) due).due = due := spotAt_due _ _ _ _ _
    have hgs : (lv W (W.length - 1)).g ∣ step := by
      have h2 : (lv W (W.length - 1)).g ∣ t + step := by rw [← hs]; exact Int.dvd_mul_left _ _
      have := Int.dvd_sub h2 hg
      rwa [show t + step - t = step by omega] at this
    have hvis : isVis (lv W (W.length - 1)) (spotAt W B t (due - t) due).pt (t + step - 1) (t + step) = true := by
      rw [← hs]; exact va_vis (by omega) (by omega) _ _
    have hv := visit_far ok hf h1 hlv (t := t + step) (by rw [hlv]; exact hvis) (by rw [hdu]; omega)
    rw [hdu] at hv
    have ho : over lim (t + step) = false := by
      cases hl : lim with
      | none => rfl
      | some l =>
        have := hlim l hl
        exact decide_eq_false (by omega)
    have hfar1 := spotAt_far (B := B) ok (now := t + step) (due := due) (rest := due - (t + step)) (by omega)
    have hs1 : va (lv W (W.length - 1)) (spotAt W B (t + step) (due - (t + step)) due).pt (t + step) = t + step + step := by
      have e2 : (spotAt W B (t + step) (due - (t + step)) due).pt = (spotAt W B t (due - t) due).pt + step / (lv W (W.length - 1)).g := by
        rw [hfar, hfar1]
        show rnd B.up (t + step + reach W - 1) _ = rnd B.up (t + reach W - 1) _ + _
        rw [show t + step + reach W - 1 = (t + reach W - 1) + step by omega]
        exact rnd_shiftD (by omega) hgs
      rw [e2, va_shift (by omega) hgs, hs]
    have ih := wl_far ok hf h1 (due := due) (step := step) j (t := t + step) (mv := mv + 1) m (Int.dvd_add hg hgs) (by omega) hs1 (by omega) (fun l hl => by have := hlim l hl; omega)
    rw [show m + (j + 1) = (m + j) + 1 by omega]
    show (let t0 := va (lv W (spotAt W B t (due - t) due).lv) (spotAt W B t (due - t) due).pt t; if over lim t0 = true then _ else _) = _
    dsimp only
    rw [hlv, hs, ho, if_neg Bool.false_ne_true, hv]
    show wl W B lim (m + j) (spotAt W B (t + step) (due - (t + step)) due) (t + step) (mv + ((1 : Nat) : Int)) = _
    rw [show mv + ((1 : Nat) : Int) = mv + 1 by simp, ih, e1]
    rw [show t + step + j * step = t + (j * step + step) by omega, show mv + 1 + (j : Int) = mv + ((j + 1 : Nat) : Int) by rw [Int.natCast_add]; omega]
theorem fol_wl (ok : WOk W) : ∀ (n : Nat) {sp : Spot} {tick mv : Int} {r : Res}, Proper W sp tick → sp.lv < W.length → fol W B lim n sp tick mv = some r → ∃ m, wl W B lim m sp tick mv = some r
  | 0, _, _, _, _, _, _, h => by cases h
  | n + 1, sp, tick, mv, r, hp, hl, h => by
    have hgt := va_step ok hl sp.pt tick
    have hall := ok.all _ hl
    have htd : (lv W sp.lv).g ∣ va (lv W sp.lv) sp.pt tick := Int.dvd_mul_left _ _
    unfold fol at h
    dsimp only at h
    by_cases ho : over lim (va (lv W sp.lv) sp.pt tick) = true
    · rw [if_pos ho] at h
      exact ⟨1, by unfold wl; dsimp only; rw [if_pos ho]; exact h⟩
    · rw [if_neg ho] at h
      have go : ∀ m sp', (visited W B sp (va (lv W sp.lv) sp.pt tick - 1) (va (lv W sp.lv) sp.pt tick)).getLast? = some (some sp') → wl W B lim m sp' (va (lv W sp.lv) sp.pt tick) (mv + (visited W B sp (va (lv W sp.lv) sp.pt tick - 1) (va (lv W sp.lv) sp.pt tick)).length) = some r →
          ∃ m, wl W B lim m sp tick mv = some r := fun m sp' hq hw => ⟨m + 1, by unfold wl; dsimp only; rw [if_neg ho, hq]; exact hw⟩
      cases hq : (visited W B sp (va (lv W sp.lv) sp.pt tick - 1) (va (lv W sp.lv) sp.pt tick)).getLast? with
      | none => rw [hq] at h; cases h
      | some o =>
        rw [hq] at h
        cases o with
        | none => exact ⟨1, by unfold wl; dsimp only; rw [if_neg ho, hq]; exact h⟩
        | some sp' =>
          dsimp only at h
          obtain ⟨c1, c2, c3, c4⟩ := visGo_last ok _ hq
          have h0 : sp.lv ≠ 0 := fun e => by
            have := visGo_zero (W := W) (B := B) (before := va (lv W sp.lv) sp.pt tick - 1) (now := va (lv W sp.lv) sp.pt tick) (order W B) e (some sp') (List.mem_of_getLast? hq)
            cases this
          have hre : 2 ≤ reach W := (ok.all (W.length - 1) (by omega)).2.2.2.2
          generalize va (lv W sp.lv) sp.pt tick = t at *
          have hp' : Proper W sp' t := fun z => by
            rcases c4 with ⟨d1, d2⟩ | ⟨d1, d2⟩
            · rw [c2] at z
              rw [d2, spotAt_far ok z]
            · omega
          split at h
          · rename_i hk
            obtain ⟨k1, k2, k3, k4⟩ := skipped_pos hk
            have hstep : 0 < (skipped W sp' t lim).2 := by
              have := va_step ok c1 sp'.pt t
              omega
            have hlim : ∀ l, lim = some l → t + (skipped W sp' t lim).1 * (skipped W sp' t lim).2 ≤ l := fun l hl => by
              have e : (skipped W sp' t lim).1 ≤ (l - t) / (skipped W sp' t lim).2 := by
                subst hl
                unfold skipped at hk ⊢
                split
                · rename_i z; rw [if_pos z] at hk; simp at hk
                · exact Int.min_le_right _ _
              have := Int.mul_le_of_le_ediv hstep e
              omega
            have hfit : (skipped W sp' t lim).1 * (skipped W sp' t lim).2 ≤ sp'.due - t - reach W := by
              rw [← k3] at k4
              exact Int.mul_le_of_le_ediv hstep k4
            generalize hK : (skipped W sp' t lim).1 = K at *
            generalize hS : (skipped W sp' t lim).2 = step at *
            obtain ⟨j, rfl⟩ : ∃ j : Nat, K = (j : Int) := ⟨K.toNat, by omega⟩
            have hprop : Proper W (spotAt W B (t + j * step) (sp'.due - (t + j * step)) sp'.due) (t + j * step) := spotAt_proper ok _ _
            obtain ⟨m, hm⟩ := fol_wl ok n hprop (spotAt_lt ok _ _ _ _) h
            have hsl : sp.lv = W.length - 1 := hp (by rw [← c2]; omega)
            have hsp' : sp' = spotAt W B t (sp'.due - t) sp'.due := by
              rcases c4 with ⟨d1, d2⟩ | ⟨d1, d2⟩
              · rw [c2]; exact d2
              · rw [c2] at k2; omega
            have hva : va (lv W (W.length - 1)) (spotAt W B t (sp'.due - t) sp'.due).pt t = t + step := by
              rw [← hsp', ← k1]; omega
            have hw := wl_far (lim := lim) ok c3 (by omega) (due := sp'.due) (step := step) j (t := t) (mv := mv + (visited W B sp (t - 1) t).length) m (by rw [← hsl]; exact htd) k2 hva (by omega) hlim
            refine go (m + j) sp' hq ?_
            rw [← hsp'] at hw
            rw [hw]
            exact hm
          · obtain ⟨m, hm⟩ := fol_wl ok n hp' c1 h
            exact go m sp' hq hm
end
end Tw
/-! Tw: list(range(a, b)) at bounds of any size -/
namespace Tw
open PySem PySem.Spec PyProof.Rows L2
section
variable {prog : Program} {w : World} {A : Around} {E : Value → Shared → Prop} {s : Shared}
theorem extend_long {R : Result → Shared → Prop} {r S : Addr} {a b : Int} {t u v : Tok} {n c0 : Nat} {res : Value} (hh : A.handled = none) (hr : IsRange s.heap r a b 1 t u v) (hbig : Builtin.Range.small a b 1 = false) (hn : Builtin.Range.rangeSize a b 1 = n) (hlen : n ≤ 2 ^ 24)
    (hS : s.heap.get? S = some { cls := .type "list", data := .seq #[] c0 })
    (hR : ∀ h2 tk acc c2, (∀ x o, x ≠ S → s.heap.get? x = some o → h2.get? x = some o) → h2.get? S = some { cls := .type "list", dict := none, data := .seq acc c2, slots := #[] } → ItemsOf (fun i y => ∃ t, y = .int (a + i * 1) t) acc n → R (.ok (.ret res)) { s with heap := h2, toks := tk }) :
    wpAny (model prog w) A.in1 (Builtin.List.listExtendWith (.ref S) (.ref r) res) (fun fin t => match fin with | .done f => R (.ok f) t | .again q => q.quiet = true ∧ codeAny (model prog w) A q R t) (fun e t => R (.error e) t) s := by
  have nSr : S ≠ r := by
    rintro rfl
    rw [hr] at hS
    simp at hS
  have hlt := Heap.lt_size hS
  have nSI : S ≠ s.heap.objs.size := Nat.ne_of_lt hlt
  have loop : ∀ h c1 tk, IsLongIter h s.heap.objs.size (a + ((0 : Nat) : Int) * 1) ((n : Int) - ((0 : Nat) : Int)) 1 → (∀ x o, x ≠ S → s.heap.get? x = some o → h.get? x = some o) → h.get? S = some { cls := .type "list", data := .seq #[] c1 } →
      codeAny (model prog w) A (.builtin "list.extend.loop" ⟨[.ref S, .ref s.heap.objs.size, res], []⟩) R { s with heap := h, toks := tk } := by
    intro h c1 tk it keep hS1
    refine codeAny_extend_loopS (Walks.longrange (prog := prog) (w := w) (A := A.in1) hh s.heap.objs.size a 1 n).toS (by rw [sizeLine_eq]; omega) S (fun z => nSI (List.mem_singleton.mp z)) res n 0 _ #[] c1 rfl (Nat.zero_le _) it hS1 (ItemsOf.nil _) fun t2 acc c2 mv g1 g2 => ?_
    rw [Moved.eq_with mv]
    refine hR t2.heap t2.toks acc c2 (fun x o nx e => mv.heap x o (fun z => ?_) (keep x o nx e)) g1 g2
    rcases List.mem_cons.mp z with z | z
    · exact nx z
    · have := Heap.lt_size e
      rw [List.mem_singleton.mp z] at this
      exact Nat.lt_irrefl _ this
  unfold Builtin.List.listExtendWith
  refine wpAny_bind (wpAny_typeOf (T := "range") ⟨_, hr, rfl⟩ ?_)
  rw [show Builtin.List.listSameRef (.ref S) (.ref r) = false by simp [Builtin.List.listSameRef, nSr]]
  simp only [show (Value.type "range" == Value.type "list") = false by decide, show (Value.type "range" == Value.type "tuple") = false by decide, Bool.or_false, Bool.false_eq_true, if_false]
  refine wpAny_bind (wpAny_pyIter_longrange hr hbig (wpAny_bind (wpAny_holding (wpAny_hint_range (n := n) (Heap.get?_push_of_some _ hr) hn hlen ?_))))
  have it : IsLongIter (s.heap.push { cls := .type "longrange_iterator", data := .fields #[rawInt a, rawInt (Builtin.Range.rangeSize a b 1), rawInt 1] }) s.heap.objs.size (a + ((0 : Nat) : Int) * 1) ((n : Int) - ((0 : Nat) : Int)) 1 := by
    rw [hn]
    simpa using Heap.get?_push_size _ rfl
  have hS1 := Heap.get?_push_of_some { cls := .type "longrange_iterator", data := .fields #[rawInt a, rawInt (Builtin.Range.rangeSize a b 1), rawInt 1] } hS
  refine wpAny_ite_split (fun _ => wpAny_bind (wpAny_rule ?_)) fun _ => wpAny_pure ⟨plainId_quiet F.plain_extend_loop _, loop _ c0 _ it (fun x o _ e => Heap.get?_push_of_some _ e) hS1⟩
  refine wpAny_bind ?_
  show wpAny _ _ (updateSeq S (·.push .none) >>= fun _ => updateSeq S (·.pop)) _ _ _
  have hS2 := Heap.get?_update_self (Obj.mapSeq (·.push Value.none)) hS1 rfl
  refine wpAny_bind (wpAny_updateSeq hS1 rfl (wpAny_updateSeq (hz := by seq_fits) hS2 rfl (wpAny_pure ⟨plainId_quiet F.plain_extend_loop _, loop _ _ _ ?_ (fun x o nx e => ?_) (Heap.get?_update_self (Obj.mapSeq (·.pop)) hS2 rfl)⟩)))
  · exact (Heap.get?_update_other _ _ nSI).trans ((Heap.get?_update_other _ _ nSI).trans it)
  · exact (Heap.get?_update_other _ _ (Ne.symm nx)).trans ((Heap.get?_update_other _ _ (Ne.symm nx)).trans (Heap.get?_push_of_some _ e))
theorem call_list_long {Q : Value → Shared → Prop} {r : Addr} {a b : Int} {t u v : Tok} {n : Nat} (hh : A.handled = none) (hr : IsRange s.heap r a b 1 t u v) (hbig : Builtin.Range.small a b 1 = false) (hn : Builtin.Range.rangeSize a b 1 = n) (hlen : n ≤ 2 ^ 24)
    (hQ : ∀ h2 tk acc c2, (∀ x o, s.heap.get? x = some o → h2.get? x = some o) → h2.get? s.heap.objs.size = some { cls := .type "list", dict := none, data := .seq acc c2, slots := #[] } → ItemsOf (fun i y => ∃ t, y = .int (a + i * 1) t) acc n → Q (.ref s.heap.objs.size) { s with heap := h2, toks := tk }) :
    wpAny (model prog w) A (call (.type "list") [.ref r]) Q E s := by
  refine callType_codes (Q₁ := fun obj t => obj = .ref s.heap.objs.size ∧ t = { s with heap := s.heap.push { cls := .type "list", data := .seq #[] } }) F.called_list (F.typeCall_list_1 _) F.entry_list_init (code_list_new _ ⟨rfl, rfl⟩) ?_
  rintro obj t1 ⟨rfl, rfl⟩
  have hS : (s.heap.push { cls := .type "list", data := .seq #[] }).get? s.heap.objs.size = some { cls := .type "list", data := .seq #[] } := Heap.get?_push_size _ rfl
  have hr1 : IsRange (s.heap.push { cls := .type "list", data := .seq #[] }) r a b 1 t u v := Heap.get?_push_of_some _ hr
  have nr : r ≠ s.heap.objs.size := Nat.ne_of_lt (Heap.lt_size hr)
  refine ⟨⟨_, hS, rfl⟩, F.args_list_init_2 _ _, ?_⟩
  show wpAny _ _ (do let old ← Builtin.List.listItems (.ref s.heap.objs.size); Builtin.List.listUpdate (.ref s.heap.objs.size) (fun _ => #[]); letGo old.toList.reverse; Builtin.List.listExtendWith (.ref s.heap.objs.size) (.ref r) .none) _ _ _
  refine wpAny_bind ?_
  unfold Builtin.List.listItems
  refine wpAny_bind (wpAny_seqItems hS rfl (wpAny_pure ?_))
  show wpAny _ _ (updateSeq s.heap.objs.size (fun _ => #[]) >>= fun _ => letGo (#[] : Array Value).toList.reverse >>= fun _ => Builtin.List.listExtendWith (.ref s.heap.objs.size) (.ref r) .none) _ _ _
  refine wpAny_bind (wpAny_updateSeq hS rfl (wpAny_bind (wpAny_letGo ?_)))
  refine extend_long (A := A.in1) hh ((Heap.get?_update_other _ _ (Ne.symm nr)).trans hr1) hbig hn hlen (Heap.get?_update_self (Obj.mapSeq (fun _ => (#[] : Array Value))) hS rfl) fun h2 tk acc c2 k g1 g2 => ?_
  refine ⟨rfl, hQ h2 tk acc c2 (fun x o e => ?_) g1 g2⟩
  have nx : x ≠ s.heap.objs.size := Nat.ne_of_lt (Heap.lt_size e)
  exact k x o nx ((Heap.get?_update_other _ _ (Ne.symm nx)).trans (Heap.get?_push_of_some _ e))
end
section
variable {X : Cx} {e : Expr} {te : L2.St → Hp → (Int → Int → Hp → Prop) → Prop}
def tLstRgW (te : L2.St → Hp → (Int → Int → Hp → Prop) → Prop) : TE := fun σ H Q => te σ H fun a b H1 => b - a ≤ 10000000 ∧ ∀ q, H1 q = none → Q (.ref q) (upd H1 q (.lst (rgV a b)))
end
end Tw
/-! Tw: the laws' own walk -/
namespace Tw
open PySem PySem.Spec PyProof.Rows L2 He TwM StX
open PySem.W (Frag)
local macro_rules | `(tactic| walk_at "rwk") => `(tactic| simp only [*, at3_0, at3_1, at3_2, at2_0, at2_1, updS, upd_two, gSub, rSetL, updN, tPar, and_assoc, not_true_eq_false, not_false_eq_true, tNever, List.length_map, tFld, rIxTH, rIxLH, rLenTH, rLenLH, lk1, lfs_g, lfs_s, lfs_p, HO.ins.injEq, HO.tup.injEq, HO.lst.injEq, sp_Book_rounding, sp_Book_action, sp_Book_order, sp_Book_due, sp_Book_zero, sp_Book_beyond, Int.toNat_natCast, sp_visit_after, sp_is_visited, sp_Level_grain, sp_Level_slots, sp_Level_span, sp_Wheel_reach, sp_Wheel___len__, sp_is_integer, sp_is_count, sp_is_within, sp_rounded, tSeq, tAsg, gName, tVar, tC, tOp, rI, rI0, rU, tUn, oAdd, oSub, oMul, oDiv, oMod, oNeg, oLt, oLe, oGt, oGe, oIsN, oNotN, tFn, tCons, tNil, tIfS, tIf, tTest, tB, tNot, tAnd, tOr, tAndV, tOrV, tNotV,
    tRet, tRetN, tNext, tCB, tDrop, tChain, rEq, rNe, oMax2, oMin2, oInt1, rLenF, L2.start, List.map_cons, List.map_nil, List.length_cons, List.length_nil, List.replicate_succ, List.replicate_zero, List.cons_append, List.nil_append, Nat.reduceAdd, Nat.reduceSub, Nat.zero_add,
    List.set_cons_zero, List.set_cons_succ, List.getElem?_cons_zero, List.getElem?_cons_succ, Option.some.injEq, V.int.injEq, V.ref.injEq, V.str.injEq, V.bl.injEq, exists_eq_left', exists_eq_left, exists_and_left, List.cons.injEq, and_true, true_and, decide_eq_true_eq, sc_ii, sc_ss, sc_bb, sc_ni, sc_in, sc_nn, sc_is, reduceCtorEq,
    Bool.not_eq_true', decide_eq_false_iff_not, if_true, if_false, Bool.false_eq_true, exists_eq', exists_const, false_and, and_false, or_false, false_or, exists_false, Bool.not_not, Bool.not_true, Bool.not_false, sUp_up, sFire_fire, sHigh_high, sPut_put, sZone_now, sBey_refuse, sBey_cut, tTup, tLst, sz0, sz1, sz2, sz3, sz4, sz5, sz6])
section
variable {K : Frag} {w : World}
structure VlAt (H : Hp) (r : Addr) (B : Bk) : Prop where
  at_ : H r = some (.lst ((bws B).map V.str))
  ok : B.bey < 3
theorem VlAt.same {H H1 : Hp} {r : Addr} {B : Bk} (h : VlAt H r B) (s : Same H H1) : VlAt H1 r B := ⟨s _ _ h.at_, h.ok⟩
theorem RowsAt.row {H : Hp} {r : Addr} {W : List Lv} (h : RowsAt H r W) {i : Nat} (hi : i < W.length) : ∃ xs t, H r = some (.lst xs) ∧ xs.length = W.length ∧ atI xs (i : Int) = some (.ref t) ∧ H t = some (.tup [.int (lv W i).g, .int (lv W i).s, .int (lv W i).p]) := by
  obtain ⟨ts, ha, hb, hc⟩ := h
  obtain ⟨t, ht⟩ : ∃ t, ts[i]? = some t := ⟨ts[i]'(by omega), List.getElem?_eq_getElem (by omega)⟩
  exact ⟨_, t, ha, by rw [List.length_map, hb], atI_nat (by rw [List.getElem?_map, ht]; rfl), hc _ _ ht⟩
theorem RowsAt.last {H : Hp} {r : Addr} {W : List Lv} (h : RowsAt H r W) (hp : 0 < W.length) : ∃ xs t, H r = some (.lst xs) ∧ xs.length = W.length ∧ atI xs (-1) = some (.ref t) ∧ H t = some (.tup [.int (lv W (W.length - 1)).g, .int (lv W (W.length - 1)).s, .int (lv W (W.length - 1)).p]) := by
  obtain ⟨ts, ha, hb, hc⟩ := h
  obtain ⟨t, ht⟩ : ∃ t, ts[W.length - 1]? = some t := ⟨ts[W.length - 1]'(by omega), List.getElem?_eq_getElem (by omega)⟩
  exact ⟨_, t, ha, by rw [List.length_map, hb], atI_m1 (by rw [List.getLast?_eq_getElem?, List.length_map, hb, List.getElem?_map, ht]; rfl), hc _ _ ht⟩
theorem at6_0 (a b c d e f : V) : atI [a, b, c, d, e, f] 0 = some a := rfl
theorem at6_1 (a b c d e f : V) : atI [a, b, c, d, e, f] 1 = some b := rfl
theorem at6_2 (a b c d e f : V) : atI [a, b, c, d, e, f] 2 = some c := rfl
theorem at6_3 (a b c d e f : V) : atI [a, b, c, d, e, f] 3 = some d := rfl
theorem at6_4 (a b c d e f : V) : atI [a, b, c, d, e, f] 4 = some e := rfl
theorem at6_5 (a b c d e f : V) : atI [a, b, c, d, e, f] 5 = some f := rfl
local macro_rules | `(tactic| walk_at "rwm") => `(tactic| simp only [*, at3_0, at3_1, at3_2, at2_0, at2_1, updS, upd_two, gSub, rSetL, updN, tPar, gTup, gCons, gNil, and_assoc, not_true_eq_false, not_false_eq_true, tNever, List.length_map, tFld, rIxTH, rIxLH, rLenTH, rLenLH, lk1, lfs_g, lfs_s, lfs_p, HO.ins.injEq, HO.tup.injEq, HO.lst.injEq, sp_Book_rounding, sp_Book_action, sp_Book_order, sp_Book_due, sp_Book_zero, sp_Book_beyond, Int.toNat_natCast, sp_visit_after, sp_is_visited, sp_Level_grain, sp_Level_slots, sp_Level_span, sp_Wheel_reach, sp_Wheel___len__, sp_is_integer, sp_is_count, sp_is_within, sp_rounded, tSeq, tAsg, gName, tVar, tC, tOp, rI, rI0, rU, tUn, oAdd, oSub, oMul, oDiv, oMod, oNeg, oLt, oLe, oGt, oGe, oIsN, oNotN, tFn, tCons, tNil, tIfS, tIf, tTest, tB, tNot, tAnd, tOr, tAndV, tOrV, tNotV,
    tRet, tRetN, tNext, tCB, tDrop, tChain, rEq, rNe, oMax2, oMin2, oInt1, rLenF, L2.start, List.map_cons, List.map_nil, List.length_cons, List.length_nil, List.replicate_succ, List.replicate_zero, List.cons_append, List.nil_append, Nat.reduceAdd, Nat.reduceSub, Nat.zero_add,
    List.set_cons_zero, List.set_cons_succ, List.getElem?_cons_zero, List.getElem?_cons_succ, Option.some.injEq, V.int.injEq, V.ref.injEq, V.str.injEq, V.bl.injEq, exists_eq_left', exists_eq_left, exists_and_left, List.cons.injEq, and_true, true_and, decide_eq_true_eq, sc_ii, sc_ss, sc_bb, sc_ni, sc_in, sc_nn, sc_is, reduceCtorEq,
    Bool.not_eq_true', decide_eq_false_iff_not, if_true, if_false, Bool.false_eq_true, exists_eq', exists_const, false_and, and_false, or_false, false_or, exists_false, Bool.not_not, Bool.not_true, Bool.not_false, sUp_up, sFire_fire, sHigh_high, sPut_put, sZone_now, sBey_refuse, sBey_cut, tTup, tLst, sz0, sz1, sz2, sz3, sz4, sz5, sz6])
local macro_rules | `(tactic| walk_at "rwl") => `(tactic| simp only [*, at3_0, at3_1, at3_2, at2_0, at2_1, updS, upd_two, gSub, rSetL, updN, tPar, at6_0, at6_1, at6_2, at6_3, at6_4, at6_5, and_assoc, not_true_eq_false, not_false_eq_true, tNever, List.length_map, tFld, rIxTH, rIxLH, rLenTH, rLenLH, lk1, lfs_g, lfs_s, lfs_p, HO.ins.injEq, HO.tup.injEq, HO.lst.injEq, sp_Book_rounding, sp_Book_action, sp_Book_order, sp_Book_due, sp_Book_zero, sp_Book_beyond, Int.toNat_natCast, sp_visit_after, sp_is_visited, sp_Level_grain, sp_Level_slots, sp_Level_span, sp_Wheel_reach, sp_Wheel___len__, sp_is_integer, sp_is_count, sp_is_within, sp_rounded, tSeq, tAsg, gName, tVar, tC, tOp, rI, rI0, rU, tUn, oAdd, oSub, oMul, oDiv, oMod, oNeg, oLt, oLe, oGt, oGe, oIsN, oNotN, tFn, tCons, tNil, tIfS, tIf, tTest, tB, tNot, tAnd, tOr, tAndV, tOrV, tNotV,
    tRet, tRetN, tNext, tCB, tDrop, tChain, rEq, rNe, oMax2, oMin2, oInt1, rLenF, L2.start, List.map_cons, List.map_nil, List.length_cons, List.length_nil, List.replicate_succ, List.replicate_zero, List.cons_append, List.nil_append, Nat.reduceAdd, Nat.reduceSub, Nat.zero_add,
    List.set_cons_zero, List.set_cons_succ, List.getElem?_cons_zero, List.getElem?_cons_succ, Option.some.injEq, V.int.injEq, V.ref.injEq, V.str.injEq, V.bl.injEq, exists_eq_left', exists_eq_left, exists_and_left, List.cons.injEq, and_true, true_and, decide_eq_true_eq, sc_ii, sc_ss, sc_bb, sc_ni, sc_in, sc_nn, sc_is, reduceCtorEq,
    Bool.not_eq_true', decide_eq_false_iff_not, if_true, if_false, Bool.false_eq_true, exists_eq', exists_const, false_and, and_false, or_false, false_or, exists_false, Bool.not_not, Bool.not_true, Bool.not_false, sUp_up, sFire_fire, sHigh_high, sPut_put, sZone_now, sBey_refuse, sBey_cut, tTup, tLst, sz0, sz1, sz2, sz3, sz4, sz5, sz6])
structure RWk (W : List Lv) : Prop where
  ok : WOk W
instance rwk_of {W : List Lv} : Coe (ROk W) (RWk W) := ⟨fun h => ⟨h.ok⟩⟩
theorem depth_ints : ∀ ks : List Int, PyData.depthAll (ks.map PyData.int) = 0
  | [] => rfl
  | k :: ks => by
    show max (PyData.int k).depth (PyData.depthAll (ks.map PyData.int)) = 0
    rw [depth_ints ks]
    rfl
theorem hit_iff {q pt s j : Int} (hs : 0 < s) (h0 : 0 ≤ j) (h1 : j ≤ (pt - q) % s) : (q + j - pt) % s = 0 ↔ j = (pt - q) % s := by
  have e := Int.mul_ediv_add_emod (pt - q) s
  have h2 := Int.emod_lt_of_pos (pt - q) hs
  generalize (pt - q) % s = k at *
  generalize (pt - q) / s = z at *
  have e2 : q + j - pt = (j - k) + s * (-z) := by rw [Int.mul_neg]; omega
  rw [e2, Int.add_mul_emod_self_left]
  constructor
  · intro h
    have h3 : (j - k + s) % s = 0 := by rw [Int.add_emod_right]; exact h
    rcases Int.lt_or_le j k with h4 | h4
    · rw [Int.emod_eq_of_lt (by omega) (by omega)] at h3
      omega
    · omega
  · intro h
    rw [h, Int.sub_self, Int.zero_emod]
local macro_rules | `(tactic| walk_at "rwn") => `(tactic| simp only [*, at3_0, at3_1, at3_2, at2_0, at2_1, updS, upd_two, gSub, rSetL, updN, tPar, at6_0, at6_1, at6_2, at6_3, at6_4, at6_5, gTup, gCons, gNil, and_assoc, not_true_eq_false, not_false_eq_true, tNever, List.length_map, tFld, rIxTH, rIxLH, rLenTH, rLenLH, lk1, lfs_g, lfs_s, lfs_p, HO.ins.injEq, HO.tup.injEq, HO.lst.injEq, sp_Book_rounding, sp_Book_action, sp_Book_order, sp_Book_due, sp_Book_zero, sp_Book_beyond, Int.toNat_natCast, sp_visit_after, sp_is_visited, sp_Level_grain, sp_Level_slots, sp_Level_span, sp_Wheel_reach, sp_Wheel___len__, sp_is_integer, sp_is_count, sp_is_within, sp_rounded, tAsg, gName, tVar, tC, tOp, rI, rI0, rU, tUn, oAdd, oSub, oMul, oDiv, oMod, oNeg, oLt, oLe, oGt, oGe, oIsN, oNotN, tFn, tCons, tNil, tIfS, tIf, tTest, tB, tNot, tAnd, tOr, tAndV, tOrV, tNotV,
    tRet, tRetN, tNext, tCB, tDrop, tChain, rEq, rNe, oMax2, oMin2, oInt1, rLenF, L2.start, List.map_cons, List.map_nil, List.length_cons, List.length_nil, List.replicate_succ, List.replicate_zero, List.cons_append, List.nil_append, Nat.reduceAdd, Nat.reduceSub, Nat.zero_add,
    List.set_cons_zero, List.set_cons_succ, List.getElem?_cons_zero, List.getElem?_cons_succ, Option.some.injEq, V.int.injEq, V.ref.injEq, V.str.injEq, V.bl.injEq, exists_eq_left', exists_eq_left, exists_and_left, List.cons.injEq, and_true, true_and, decide_eq_true_eq, sc_ii, sc_ss, sc_bb, sc_ni, sc_in, sc_nn, sc_is, reduceCtorEq,
    Bool.not_eq_true', decide_eq_false_iff_not, if_true, if_false, Bool.false_eq_true, exists_eq', exists_const, false_and, and_false, or_false, false_or, exists_false, Bool.not_not, Bool.not_true, Bool.not_false, sUp_up, sFire_fire, sHigh_high, sPut_put, sZone_now, sBey_refuse, sBey_cut, tTup, tLst, sz0, sz1, sz2, sz3, sz4, sz5, sz6])
theorem sw_hits {g s pt before here : Int} (hg : 0 < g) (hs : 0 < s) : ((rgV (before / g + 1) ((if before / g + 1 + s < here / g then before / g + 1 + s else here / g) + 1)).filter fun x => match x with | .int at_ => decide ((at_ - pt) % s = 0) | _ => false) = [] ↔ ¬ (pt - before / g - 1) % s < here / g - before / g := by
  have e1 : pt - before / g - 1 = pt - (before / g + 1) := by omega
  rw [e1]
  have k0 := Int.emod_nonneg (pt - (before / g + 1)) (b := s) (by omega)
  have k1 := Int.emod_lt_of_pos (pt - (before / g + 1)) hs
  have hi : ∀ j, 0 ≤ j → j ≤ (pt - (before / g + 1)) % s → ((before / g + 1 + j - pt) % s = 0 ↔ j = (pt - (before / g + 1)) % s) := fun j => hit_iff hs
  generalize before / g + 1 = a at *
  generalize (pt - a) % s = k at *
  rw [List.filter_eq_nil_iff]
  unfold rgV
  constructor
  · intro h hlt
    have hm : V.int (a + k) ∈ (List.range ((if a + s < here / g then a + s else here / g) + 1 - a).toNat).map fun i => V.int (a + (i : Nat)) := by
      refine List.mem_map.mpr ⟨k.toNat, List.mem_range.mpr ?_, by rw [Int.toNat_of_nonneg k0]⟩
      split <;> omega
    exact h _ hm (decide_eq_true ((hi k k0 (Int.le_refl _)).mpr rfl))
  · intro h x hx
    obtain ⟨i, hi1, rfl⟩ := List.mem_map.mp hx
    have hr := List.mem_range.mp hi1
    intro hz
    have hz := of_decide_eq_true hz
    have := (hi i (by omega) (by split at hr <;> omega)).mp hz
    split at hr <;> omega
theorem OSps.count : ∀ {H : Hp} {xs : List V} {os : List (Option Spot)}, OSps H xs os → (xs.filter fun x => !decide (x = V.non)).length = (os.filter (·.isSome)).length
  | _, [], [], _ => rfl
  | _, [], _ :: _, h => by have := h.1; simp at this
  | _, _ :: _, [], h => by have := h.1; simp at this
  | H, x :: xs, o :: os, h => by
    have ih := OSps.count (H := H) (xs := xs) (os := os) ⟨by have := h.1; simpa using this, fun i v q e1 e2 => h.2 (i + 1) v q (by simpa using e1) (by simpa using e2)⟩
    have h0 := h.2 0 x o rfl rfl
    cases o with
    | none =>
      obtain rfl : x = .non := h0
      rw [List.filter_cons_of_neg (by simp), List.filter_cons_of_neg (by simp), ih]
    | some sp =>
      obtain ⟨p, rfl, _⟩ := h0
      rw [List.filter_cons_of_pos (by simp), List.filter_cons_of_pos (by simp), List.length_cons, List.length_cons, ih]
def wfin (W : List Lv) (B : Bk) (start delay : Int) : Int × Int := match placeM W B start delay with
  | none => (start, 0)
  | some sp => match wl W B none (mu sp start) sp start 0 with
    | none => (0, 0)
    | some r => r.2
theorem placeM_proper {W : List Lv} (ok : WOk W) {B : Bk} {now delay : Int} {sp : Spot} (hd : 0 ≤ delay) (h : placeM W B now delay = some sp) : Proper W sp now := by
  have hre : 2 ≤ reach W := (ok.all (W.length - 1) (by have := ok.pos; omega)).2.2.2.2
  unfold placeM at h
  split at h
  · cases h
  · obtain rfl := Option.some.inj h
    intro z
    rw [spotAt_due] at z
    have hz : reach W ≤ (if reach W ≤ (if 1 > delay then 1 else delay) ∧ B.bey = 2 then reach W - 1 else (if 1 > delay then 1 else delay)) := by
      omega
    rw [spotAt_far ok hz]
theorem wfin_fin {W : List Lv} (ok : WOk W) (B : Bk) {start delay : Int} (hd : 0 ≤ delay) : wfin W B start delay = fin W B start delay := by
  unfold wfin fin
  cases h : placeM W B start delay with
  | none => rfl
  | some sp =>
    dsimp only
    obtain ⟨r, hr⟩ := fol_ends ok B none (mu sp start) sp start 0 (placeM_lt ok h) (Nat.le_refl _)
    obtain ⟨r', hr'⟩ := wl_ends ok B none (mu sp start) sp start 0 (placeM_lt ok h) (Nat.le_refl _)
    obtain ⟨m, hm⟩ := fol_wl ok _ (placeM_proper ok hd h) (placeM_lt ok h) hr
    rw [hr, hr', wl_eq hr' hm]
end
end Tw
/-! Tw: lumps -/
namespace Tw
open PySem PySem.Spec PyProof.Rows L2 He TwM StX
open PySem.W (Frag)
local macro_rules | `(tactic| walk_at "rsf") => `(tactic| simp only [*, at3_0, at3_1, at3_2, at2_0, at2_1, updS, upd_two, gSub, rSetL, updN, and_assoc, not_true_eq_false, not_false_eq_true, tNever, List.length_map, tFld, rIxTH, rIxLH, rLenTH, rLenLH, lk1, lfs_g, lfs_s, lfs_p, HO.ins.injEq, HO.tup.injEq, HO.lst.injEq, sp_Book_rounding, sp_Book_action, sp_Book_order, sp_Book_due, sp_Book_zero, sp_Book_beyond, Int.toNat_natCast, sp_visit_after, sp_is_visited, sp_Level_grain, sp_Level_slots, sp_Level_span, sp_Wheel_reach, sp_Wheel___len__, sp_is_integer, sp_is_count, sp_is_within, sp_rounded, tSeq, tAsg, gName, tVar, tC, tOp, rI, rI0, rU, tUn, oAdd, oSub, oMul, oDiv, oMod, oNeg, oLt, oLe, oGt, oGe, oIsN, oNotN, tFn, tCons, tNil, tIfS, tIf, tTest, tB, tNot, tAnd, tOr, tAndV, tOrV, tNotV,
    tRet, tRetN, tNext, tCB, tDrop, tChain, rEq, rNe, oMax2, oMin2, oInt1, rLenF, L2.start, List.map_cons, List.map_nil, List.length_cons, List.length_nil, List.replicate_succ, List.replicate_zero, List.cons_append, List.nil_append, Nat.reduceAdd, Nat.reduceSub, Nat.zero_add,
    List.set_cons_zero, List.set_cons_succ, List.getElem?_cons_zero, List.getElem?_cons_succ, Option.some.injEq, V.int.injEq, V.ref.injEq, V.str.injEq, V.bl.injEq, exists_eq_left', exists_eq_left, exists_and_left, List.cons.injEq, and_true, true_and, decide_eq_true_eq, sc_ii, sc_ss, sc_bb, sc_ni, sc_in, sc_nn, sc_is, reduceCtorEq,
    Bool.not_eq_true', decide_eq_false_iff_not, if_true, if_false, Bool.false_eq_true, exists_eq', exists_const, false_and, and_false, or_false, false_or, exists_false, Bool.not_not, Bool.not_true, Bool.not_false, sUp_up, sFire_fire, sHigh_high, sPut_put, sZone_now, sBey_refuse, sBey_cut, tTup, tLst, sz0, sz1, sz2, sz3, sz4, sz5, sz6])
section
variable {K : Frag} {w : World}
end
end Tw
/-! Tw: delays of any size -/
namespace Tw
open TwM
section
variable {W : List Lv} {B : Bk} {lim : Option Int}
def stepM (W : List Lv) (B : Bk) : Int := ((rnd B.up (reach W - 1) (lv W (W.length - 1)).g - 1) % (lv W (W.length - 1)).s + 1) * (lv W (W.length - 1)).g
theorem stepM_va (ok : WOk W) {t : Int} (hg : (lv W (W.length - 1)).g ∣ t) : va (lv W (W.length - 1)) (rnd B.up (t + reach W - 1) (lv W (W.length - 1)).g) t = t + stepM W B := by
  have hall := ok.all (W.length - 1) (by have := ok.pos; omega)
  have e : rnd B.up (t + reach W - 1) (lv W (W.length - 1)).g = rnd B.up (reach W - 1) (lv W (W.length - 1)).g + t / (lv W (W.length - 1)).g := by
    rw [show t + reach W - 1 = (reach W - 1) + t by omega]
    exact rnd_shiftD (by omega) hg
  unfold va stepM
  rw [e]
  generalize rnd B.up (reach W - 1) (lv W (W.length - 1)).g = p
  obtain ⟨z, rfl⟩ := hg
  rw [Int.mul_ediv_cancel_left _ (by omega), show p + z - z - 1 = p - 1 by omega, show z + 1 + (p - 1) % (lv W (W.length - 1)).s = z + ((p - 1) % (lv W (W.length - 1)).s + 1) by omega, Int.add_mul, Int.mul_comm z]
theorem stepM_pos (ok : WOk W) : 1 ≤ stepM W B ∧ stepM W B ≤ 100000 ∧ (lv W (W.length - 1)).g ∣ stepM W B := by
  have hall := ok.all (W.length - 1) (by have := ok.pos; omega)
  unfold stepM
  have h0 := Int.emod_nonneg (rnd B.up (reach W - 1) (lv W (W.length - 1)).g - 1) (b := (lv W (W.length - 1)).s) (by omega)
  have h1 := Int.emod_lt_of_pos (rnd B.up (reach W - 1) (lv W (W.length - 1)).g - 1) (b := (lv W (W.length - 1)).s) (by omega)
  refine ⟨?_, ?_, Int.dvd_mul_left _ _⟩
  · have : 1 * 1 ≤ ((rnd B.up (reach W - 1) (lv W (W.length - 1)).g - 1) % (lv W (W.length - 1)).s + 1) * (lv W (W.length - 1)).g := Int.mul_le_mul (by omega) (by omega) (by omega) (by omega)
    omega
  · have : ((rnd B.up (reach W - 1) (lv W (W.length - 1)).g - 1) % (lv W (W.length - 1)).s + 1) * (lv W (W.length - 1)).g ≤ 100 * 1000 := Int.mul_le_mul (by omega) (by omega) (by omega) (by omega)
    omega
theorem wl_mv : ∀ (n : Nat) {sp : Spot} {tick mv c : Int} {r : Res}, wl W B lim n sp tick mv = some r → wl W B lim n sp tick (mv + c) = some (r.1, r.2.1, r.2.2 + c)
  | 0, _, _, _, _, _, h => by cases h
  | n + 1, sp, tick, mv, c, r, h => by
    unfold wl at h ⊢
    dsimp only at h ⊢
    split at h
    · rename_i ho
      rw [if_pos ho]
      cases h
      rfl
    · rename_i ho
      rw [if_neg ho]
      split at h
      · cases h
      · cases h
        dsimp only
        congr 3
        omega
      · have := wl_mv n (c := c) h
        rw [← this]
        congr 1
        omega
theorem visGo_none {b n : Int} : ∀ (is : List Nat) {sp : Spot}, taken W B sp n = none → sp.lv ∈ is → isVis (lv W sp.lv) sp.pt b n = true → visGo W B b n is sp = [none]
  | [], sp, _, h, _ => by simp at h
  | i :: is, sp, ht, h, hv => by
    unfold visGo
    by_cases e : sp.lv = i
    · rw [if_pos ⟨e, by rw [← e]; exact hv⟩, ht]
    · rw [if_neg (fun z => e z.1)]
      exact visGo_none is ht (by rcases List.mem_cons.mp h with q | q; exact absurd q e; exact q) hv
theorem fin_first (ok : WOk W) {start delay : Int} {sp : Spot} (hp : placeM W B start delay = some sp) (hk : sp.lv = 0 ∨ B.fire = true) : fin W B start delay = (va (lv W sp.lv) sp.pt start, 0) := by
  have hl := placeM_lt ok hp
  have hall := ok.all _ hl
  have ht : taken W B sp (va (lv W sp.lv) sp.pt start) = none := by unfold taken; rw [if_pos hk]
  have hv : visited W B sp (va (lv W sp.lv) sp.pt start - 1) (va (lv W sp.lv) sp.pt start) = [none] := visGo_none _ ht (mem_order.mpr hl) (va_vis (by omega) (by omega) _ _)
  have hf : fol W B none 1 sp start 0 = some (none, va (lv W sp.lv) sp.pt start, 0) := by
    unfold fol
    dsimp only
    rw [show over none (va (lv W sp.lv) sp.pt start) = false from rfl, if_neg Bool.false_ne_true, hv]
    rfl
  rw [fin_some hp ok hl hf]
theorem placeM_far (ok : WOk W) {start delay : Int} (h : reach W ≤ delay) : placeM W B start delay = if B.bey = 2 then some (spotAt W B start (reach W - 1) (start + (reach W - 1))) else some ⟨W.length - 1, rnd B.up (start + reach W - 1) (lv W (W.length - 1)).g, start + delay⟩ := by
  have hre : 2 ≤ reach W := (ok.all (W.length - 1) (by have := ok.pos; omega)).2.2.2.2
  unfold placeM
  rw [if_neg (fun z => by have := z.1; omega)]
  dsimp only
  rw [if_neg (show ¬ (1 : Int) > delay by omega)]
  by_cases hb : B.bey = 2
  · rw [if_pos ⟨h, hb⟩, if_pos hb]
  · rw [if_neg (fun z => hb z.2), if_neg hb, spotAt_far ok h]
theorem fin_same (ok : WOk W) {start d d' : Int} (h : reach W ≤ d) (h' : reach W ≤ d') (hk : B.bey = 2 ∨ B.fire = true ∨ W.length = 1) : fin W B start d = fin W B start d' := by
  by_cases hb : B.bey = 2
  · unfold fin
    rw [placeM_far ok h, placeM_far ok h', if_pos hb, if_pos hb]
  · have p1 := placeM_far (B := B) ok (start := start) h
    have p2 := placeM_far (B := B) ok (start := start) h'
    rw [if_neg hb] at p1 p2
    have hk' : (W.length - 1 = 0) ∨ B.fire = true := by
      rcases hk with z | z | z
      · exact absurd z hb
      · exact .inr z
      · exact .inl (by omega)
    rw [fin_first ok p1 hk', fin_first ok p2 hk']
theorem fin_more (ok : WOk W) {start d : Int} (many : Nat) (hf : B.fire = false) (h1 : 1 < W.length) (hb : B.bey ≠ 2) (hd : reach W + (lv W (W.length - 1)).g * (lv W (W.length - 1)).s ≤ d) :
    fin W B start (d + stepM W B * many) = ((fin W B start d).1 + stepM W B * many, (fin W B start d).2 + many) := by
  have hall := ok.all (W.length - 1) (by omega)
  have hgs0 : 1 * 1 ≤ (lv W (W.length - 1)).g * (lv W (W.length - 1)).s := Int.mul_le_mul (by omega) (by omega) (by omega) (by omega)
  obtain ⟨st1, st2, st3⟩ := stepM_pos (B := B) ok
  have hD0 : 0 ≤ stepM W B * many := Int.mul_nonneg (by omega) (by omega)
  have hre : 2 ≤ reach W := hall.2.2.2.2
  have p1 := placeM_far (B := B) ok (start := start) (delay := d) (by omega)
  have p2 := placeM_far (B := B) ok (start := start) (delay := d + stepM W B * many) (by omega)
  rw [if_neg hb] at p1 p2
  have l1 := placeM_lt ok p1
  have l2 := placeM_lt ok p2
  rw [← wfin_fin ok B (by omega), ← wfin_fin ok B (by omega)]
  have key : ∀ {d' : Int} {sp : Spot}, placeM W B start d' = some sp → ∀ {n r}, wl W B none n sp start 0 = some r → wfin W B start d' = r.2 := fun {d' sp} hp {n r} hw => by
    unfold wfin
    rw [hp]
    obtain ⟨r', hr'⟩ := wl_ends ok B none (mu sp start) sp start 0 (placeM_lt ok hp) (Nat.le_refl _)
    dsimp only
    rw [hr', wl_eq hr' hw]
  -- the first visit
  generalize ht : va (lv W (W.length - 1)) (rnd B.up (start + reach W - 1) (lv W (W.length - 1)).g) start = t
  have hgt : start < t ∧ t ≤ start + (lv W (W.length - 1)).g * (lv W (W.length - 1)).s := by
    rw [← ht, Int.mul_comm (lv W (W.length - 1)).g]
    exact ⟨va_gt (by omega) (by omega) _ _, va_most (by omega) (by omega) _ _⟩
  have hg : (lv W (W.length - 1)).g ∣ t := by rw [← ht]; exact Int.dvd_mul_left _ _
  have first : ∀ {d' : Int} (n : Nat), d ≤ d' → wl W B none (n + 1) ⟨W.length - 1, rnd B.up (start + reach W - 1) (lv W (W.length - 1)).g, start + d'⟩ start 0 = wl W B none n (spotAt W B t (start + d' - t) (start + d')) t 1 := fun {d'} n hd' => by
    have hv := visit_far ok hf (sp := ⟨W.length - 1, rnd B.up (start + reach W - 1) (lv W (W.length - 1)).g, start + d'⟩) h1 rfl (t := t) (by rw [← ht]; exact va_vis (l := lv W (W.length - 1)) (by omega) (by omega) _ _) (by show reach W ≤ start + d' - t; omega)
    conv => lhs; unfold wl
    dsimp only
    rw [ht, show over none t = false from rfl, if_neg Bool.false_ne_true, hv]
    rfl
  -- near, from the first visit on
  have hprop := spotAt_proper (B := B) ok t (start + d)
  have hsl := spotAt_lt ok B t (start + d - t) (start + d)
  obtain ⟨r, hr⟩ := fol_ends ok B none _ (spotAt W B t (start + d - t) (start + d)) t 1 hsl (Nat.le_refl _)
  obtain ⟨m, hm⟩ := fol_wl ok _ hprop hsl hr
  have hnear := key p1 (n := m + 1) (by rw [first m (Int.le_refl _)]; exact hm)
  -- far
  have hDv : Dv W (W.length - 1) (stepM W B * many) := by
    obtain ⟨z, hz⟩ := st3
    rw [hz, Int.mul_assoc]
    exact dv_of ok (by omega) _
  have hix : TwM.levelIx W (start + d - t) ≤ W.length - 1 := by have := levelIx_lt ok (start + d - t); omega
  have hsh := fol_shift (B := B) ok hDv (mu (spotAt W B t (start + d - t) (start + d)) t) (sp := spotAt W B t (start + d - t) (start + d)) (tick := t) (mv := 1) (by rw [spotAt_lv]; exact hix) hsl (by rw [spotAt_due]; exact hix)
  rw [hr, ← spotAt_shift ok hDv hix] at hsh
  have e1 : start + d - t = start + d + stepM W B * many - (t + stepM W B * many) := by omega
  have hprop2 : Proper W (spotAt W B (t + stepM W B * many) (start + d - t) (start + d + stepM W B * many)) (t + stepM W B * many) := by rw [e1]; exact spotAt_proper ok _ _
  obtain ⟨m2, hm2⟩ := fol_wl ok _ hprop2 (spotAt_lt ok _ _ _ _) hsh
  have hva : va (lv W (W.length - 1)) (spotAt W B t (start + (d + stepM W B * many) - t) (start + (d + stepM W B * many))).pt t = t + stepM W B := by
    rw [spotAt_far ok (by omega)]
    exact stepM_va ok hg
  have hcm : (many : Int) * stepM W B = stepM W B * many := Int.mul_comm _ _
  have hfar := wl_far (lim := none) ok hf h1 (due := start + (d + stepM W B * many)) (step := stepM W B) many (t := t) (mv := 1) m2 hg (by omega) hva (by omega) (fun l z => by cases z)
  rw [hcm] at hfar
  have e2 : start + (d + stepM W B * many) - (t + stepM W B * many) = start + d - t := by omega
  have e3 : start + (d + stepM W B * many) = start + d + stepM W B * many := by omega
  have hm3 := wl_mv _ (c := (many : Int)) hm2
  rw [e2] at hfar
  have hfin := key p2 (n := m2 + many + 1) (r := ((shR W (stepM W B * many) r).1, (shR W (stepM W B * many) r).2.1, (shR W (stepM W B * many) r).2.2 + many)) (by
    rw [first _ (by omega), hfar, e3]
    exact hm3)
  rw [hfin, hnear]
  rfl
theorem wl_stays (ok : WOk W) (hf : B.fire = false) (h1 : 1 < W.length) {l : Int} : ∀ (n : Nat) {sp : Spot} {tick mv : Int} {r : Res}, sp.lv = W.length - 1 → reach W ≤ sp.due - l → wl W B (some l) n sp tick mv = some r → ∃ sp', r.1 = some sp' ∧ sp'.lv = W.length - 1 ∧ sp'.due = sp.due
  | 0, _, _, _, _, _, _, h => by cases h
  | n + 1, sp, tick, mv, r, hl, hr, h => by
    have hall := ok.all (W.length - 1) (by omega)
    unfold wl at h
    dsimp only at h
    split at h
    · cases h
      exact ⟨sp, rfl, hl, rfl⟩
    · rename_i ho
      have hle : va (lv W sp.lv) sp.pt tick ≤ l := by
        rcases Int.lt_or_le l (va (lv W sp.lv) sp.pt tick) with z | z
        · exact absurd (decide_eq_true z) ho
        · exact z
      have hv := visit_far ok hf h1 hl (t := va (lv W sp.lv) sp.pt tick) (va_vis (by rw [hl]; omega) (by rw [hl]; omega) _ _) (by omega)
      rw [hv] at h
      have := wl_stays ok hf h1 n (sp := spotAt W B (va (lv W sp.lv) sp.pt tick) (sp.due - va (lv W sp.lv) sp.pt tick) sp.due) (by rw [spotAt_far ok (by omega)]) (by rw [spotAt_due]; exact hr) h
      rwa [spotAt_due] at this
end
end Tw
/-! Tw: walks that are cut and go on -/
namespace Tw
open TwM
section
variable {W : List Lv} {B : Bk} {lim : Option Int}
theorem va_keep {l : Lv} (hg : 0 < l.g) (hs : 0 < l.s) {pt a b : Int} (h1 : a ≤ b) (h2 : b < va l pt a) : va l pt b = va l pt a := by
  have d := va_dvd (l := l) hs pt a
  have c := va_most (l := l) hg hs pt a
  have e : b + (va l pt a - b) = va l pt a := by omega
  have := va_uniq (l := l) hg hs (pt := pt) (tick := b) (k := va l pt a - b) (by omega) (by rw [Int.mul_comm l.g]; omega) (by rw [e]; exact d)
  omega
def Alike (r r' : Res) : Prop := r.1 = r'.1 ∧ r.2.2 = r'.2.2 ∧ (r.1 = none → r.2.1 = r'.2.1)
theorem Alike.refl (r : Res) : Alike r r := ⟨rfl, rfl, fun _ => rfl⟩
theorem wl_from (ok : WOk W) {n : Nat} {sp : Spot} {a b mv : Int} {r : Res} (hl : sp.lv < W.length) (h1 : a ≤ b) (h2 : b < va (lv W sp.lv) sp.pt a) (h : wl W B lim n sp b mv = some r) : ∃ r', wl W B lim n sp a mv = some r' ∧ Alike r r' := by
  have hall := ok.all _ hl
  cases n with
  | zero => cases h
  | succ n =>
    have e := va_keep (l := lv W sp.lv) (by omega) (by omega) h1 h2
    unfold wl at h ⊢
    dsimp only at h ⊢
    rw [e] at h
    split at h
    · rename_i ho
      rw [if_pos ho]
      cases h
      exact ⟨_, rfl, ⟨rfl, rfl, fun z => by have z : (some sp : Option Spot) = none := z; cases z⟩⟩
    · rename_i ho
      rw [if_neg ho]
      exact ⟨r, h, Alike.refl r⟩
theorem wl_cut (ok : WOk W) {b : Int} (hb : ∀ c, lim = some c → b ≤ c) : ∀ (n : Nat) {sp : Spot} {a mv : Int} {r : Res}, sp.lv < W.length → a ≤ b → wl W B (some b) n sp a mv = some r →
    (r.1 = none → wl W B lim n sp a mv = some r) ∧ ∀ sp', r.1 = some sp' → sp'.lv < W.length ∧ ∀ m r2, wl W B lim m sp' b r.2.2 = some r2 → ∃ m' r3, wl W B lim m' sp a mv = some r3 ∧ Alike r2 r3
  | 0, _, _, _, _, _, _, h => by cases h
  | n + 1, sp, a, mv, r, hl, hab, h => by
    have hgt := va_step ok hl sp.pt a
    unfold wl at h
    dsimp only at h
    split at h
    · rename_i ho
      cases h
      refine ⟨fun z => (by cases z), fun sp' z => ?_⟩
      cases z
      refine ⟨hl, fun m r2 h2 => ?_⟩
      obtain ⟨r3, h3, h4⟩ := wl_from ok hl hab (of_decide_eq_true ho) h2
      exact ⟨m, r3, h3, h4⟩
    · rename_i ho
      have hle : va (lv W sp.lv) sp.pt a ≤ b := by
        rcases Int.lt_or_le b (va (lv W sp.lv) sp.pt a) with z | z
        · exact absurd (decide_eq_true z) ho
        · exact z
      have ho2 : over lim (va (lv W sp.lv) sp.pt a) = false := by
        cases hlim : lim with
        | none => rfl
        | some c =>
          have := hb c hlim
          exact decide_eq_false (by omega)
      cases hq : (visited W B sp (va (lv W sp.lv) sp.pt a - 1) (va (lv W sp.lv) sp.pt a)).getLast? with
      | none => rw [hq] at h; cases h
      | some o =>
        rw [hq] at h
        cases o with
        | none =>
          cases h
          refine ⟨fun _ => ?_, fun sp' z => (by cases z)⟩
          unfold wl
          dsimp only
          rw [ho2, if_neg Bool.false_ne_true, hq]
        | some sp1 =>
          dsimp only at h
          obtain ⟨c1, c2⟩ := visGo_last ok _ hq
          obtain ⟨g1, g2⟩ := wl_cut ok hb n c1 hle h
          have step : ∀ {m r3}, wl W B lim m sp1 (va (lv W sp.lv) sp.pt a) (mv + (visited W B sp (va (lv W sp.lv) sp.pt a - 1) (va (lv W sp.lv) sp.pt a)).length) = some r3 → wl W B lim (m + 1) sp a mv = some r3 := fun {m r3} z => by
            unfold wl
            dsimp only
            rw [ho2, if_neg Bool.false_ne_true, hq]
            exact z
          refine ⟨fun z => step (g1 z), fun sp' z => ?_⟩
          obtain ⟨k1, k2⟩ := g2 sp' z
          refine ⟨k1, fun m r2 h2 => ?_⟩
          obtain ⟨m', r3, h3, h4⟩ := k2 m r2 h2
          exact ⟨m' + 1, r3, step h3, h4⟩
def aft (W : List Lv) (B : Bk) (sp : Spot) (a b : Int) : Option Spot := match wl W B (some b) (mu sp a) sp a 0 with
  | some r => r.1
  | none => none
theorem aft_of (ok : WOk W) {sp : Spot} {a b mv : Int} {n : Nat} {r : Res} (hl : sp.lv < W.length) (h : wl W B (some b) n sp a mv = some r) : aft W B sp a b = r.1 := by
  unfold aft
  obtain ⟨r', h'⟩ := wl_ends ok B (some b) (mu sp a) sp a 0 hl (Nat.le_refl _)
  rw [h']
  have := wl_mv _ (c := mv) h'
  rw [Int.zero_add] at this
  have e := wl_eq this h
  rw [← e]
theorem aft_comp (ok : WOk W) {sp : Spot} {a b c : Int} (hl : sp.lv < W.length) (h1 : a ≤ b) (h2 : b ≤ c) : aft W B sp a c = match aft W B sp a b with
    | none => none
    | some sp' => aft W B sp' b c := by
  obtain ⟨r, hr⟩ := wl_ends ok B (some b) (mu sp a) sp a 0 hl (Nat.le_refl _)
  obtain ⟨g1, g2⟩ := wl_cut (lim := some c) ok (fun c' z => by cases z; exact h2) _ hl h1 hr
  rw [aft_of ok hl hr]
  cases hr1 : r.1 with
  | none => rw [aft_of ok hl (g1 hr1), hr1]
  | some sp' =>
    obtain ⟨k1, k2⟩ := g2 sp' hr1
    obtain ⟨r2, hr2⟩ := wl_ends ok B (some c) (mu sp' b) sp' b r.2.2 k1 (Nat.le_refl _)
    obtain ⟨m', r3, h3, h4⟩ := k2 _ _ hr2
    rw [aft_of ok hl h3, ← h4.1]
    exact (aft_of ok k1 hr2).symm
theorem aft_fire (ok : WOk W) {sp : Spot} {a b : Int} {n : Nat} {r : Res} (hl : sp.lv < W.length) (h1 : a ≤ b) (h : wl W B none n sp a 0 = some r) : (aft W B sp a b = none ↔ r.2.1 ≤ b) ∧ r.1 = none ∧ a < r.2.1 := by
  have hnone : ∀ (n : Nat) {sp : Spot} {a mv : Int} {r : Res}, sp.lv < W.length → wl W B none n sp a mv = some r → r.1 = none ∧ a < r.2.1 := by
    intro n
    induction n with
    | zero => intro sp a mv r _ h; cases h
    | succ n ih =>
      intro sp a mv r hl h
      have hgt := va_step ok hl sp.pt a
      unfold wl at h
      dsimp only at h
      rw [show over none (va (lv W sp.lv) sp.pt a) = false from rfl, if_neg Bool.false_ne_true] at h
      split at h
      · cases h
      · cases h
        exact ⟨rfl, hgt.1⟩
      · rename_i hq
        obtain ⟨c1, c2⟩ := visGo_last ok _ hq
        have := ih c1 h
        exact ⟨this.1, by omega⟩
  have hbnd : ∀ (n : Nat) {sp : Spot} {a mv : Int} {r : Res}, sp.lv < W.length → a ≤ b → wl W B (some b) n sp a mv = some r → r.2.1 ≤ b := by
    intro n
    induction n with
    | zero => intro sp a mv r _ _ h; cases h
    | succ n ih =>
      intro sp a mv r hl hab h
      unfold wl at h
      dsimp only at h
      split at h
      · cases h; exact hab
      · rename_i ho
        have hle : va (lv W sp.lv) sp.pt a ≤ b := by
          rcases Int.lt_or_le b (va (lv W sp.lv) sp.pt a) with z | z
          · exact absurd (decide_eq_true z) ho
          · exact z
        split at h
        · cases h
        · cases h; exact hle
        · rename_i hq
          obtain ⟨c1, c2⟩ := visGo_last ok _ hq
          exact ih c1 hle h
  obtain ⟨z1, z2⟩ := hnone n hl h
  refine ⟨?_, z1, z2⟩
  obtain ⟨r', hr'⟩ := wl_ends ok B (some b) (mu sp a) sp a 0 hl (Nat.le_refl _)
  obtain ⟨g1, g2⟩ := wl_cut (lim := none) ok (fun c z => by cases z) _ hl h1 hr'
  rw [aft_of ok hl hr']
  cases hr1 : r'.1 with
  | none =>
    have := wl_eq (g1 hr1) h
    rw [← this]
    exact ⟨fun _ => hbnd _ hl h1 hr', fun _ => rfl⟩
  | some sp' =>
    obtain ⟨k1, k2⟩ := g2 sp' hr1
    obtain ⟨r2, hr2⟩ := wl_ends ok B none (mu sp' b) sp' b r'.2.2 k1 (Nat.le_refl _)
    obtain ⟨m', r3, h3, h4⟩ := k2 _ _ hr2
    have e := wl_eq h3 h
    obtain ⟨y1, y2⟩ := hnone _ k1 hr2
    have := h4.2.2 y1
    rw [e] at this
    exact ⟨fun z => (by cases z), fun z => by omega⟩
theorem aft_ind (ok : WOk W) {b : Int} {P : Spot → Int → Prop} (hv : ∀ sp t sp', P sp t → t ≤ b → (visited W B sp (t - 1) t).getLast? = some (some sp') → P sp' t) (hm : ∀ sp t t', P sp t → t ≤ t' → t' ≤ b → P sp t') :
    ∀ (n : Nat) {sp : Spot} {a mv : Int} {r : Res} {sp' : Spot}, sp.lv < W.length → a ≤ b → P sp a → wl W B (some b) n sp a mv = some r → r.1 = some sp' → P sp' b
  | 0, _, _, _, _, _, _, _, _, h, _ => by cases h
  | n + 1, sp, a, mv, r, sp', hl, hab, hp, h, hr => by
    have hgt := va_step ok hl sp.pt a
    unfold wl at h
    dsimp only at h
    split at h
    · cases h
      cases hr
      exact hm _ _ _ hp hab (Int.le_refl _)
    · rename_i ho
      have hle : va (lv W sp.lv) sp.pt a ≤ b := by
        rcases Int.lt_or_le b (va (lv W sp.lv) sp.pt a) with z | z
        · exact absurd (decide_eq_true z) ho
        · exact z
      split at h
      · cases h
      · cases h; cases hr
      · rename_i hq
        obtain ⟨c1, c2⟩ := visGo_last ok _ hq
        exact aft_ind ok hv hm n c1 hle (hv _ _ _ (hm _ _ _ hp (by omega) hle) hle hq) h hr
structure SpB (N : Int) (sp : Spot) : Prop where
  p0 : 0 ≤ sp.pt
  p1 : sp.pt ≤ N
  d0 : 0 ≤ sp.due
  d1 : sp.due ≤ N
theorem TwM_vis {W : List Lv} {B : Bk} {b n : Int} : ∀ (is : List Nat) {sp : Spot}, visGo W B b n is sp ≠ [] → isVis (lv W sp.lv) sp.pt b n = true
  | [], sp, h => absurd rfl h
  | i :: is, sp, h => by
    unfold visGo at h
    split at h
    · rename_i hc
      rw [hc.1]; exact hc.2
    · exact TwM_vis is h
theorem TwM_no {l : Lv} (hg : 0 < l.g) (hs : 0 < l.s) (pt : Int) {a b n : Int} (h1 : a ≤ b) (h2 : n < va l pt a) (h : isVis l pt b n = true) : False := by
  unfold isVis at h
  have h := of_decide_eq_true h
  unfold va at h2
  have m1 : a / l.g ≤ b / l.g := Int.ediv_le_ediv hg h1
  have m2 : n / l.g < a / l.g + 1 + (pt - a / l.g - 1) % l.s := Int.ediv_lt_of_lt_mul hg h2
  have k0 := Int.emod_nonneg (pt - b / l.g - 1) (b := l.s) (by omega)
  have k1 := Int.emod_nonneg (pt - a / l.g - 1) (b := l.s) (by omega)
  have i1 := hit_iff (q := a / l.g + 1) (pt := pt) (s := l.s) (j := b / l.g - a / l.g + (pt - b / l.g - 1) % l.s) hs (by omega)
  have e1 : pt - (a / l.g + 1) = pt - a / l.g - 1 := by omega
  rw [e1] at i1
  have e2 : a / l.g + 1 + (b / l.g - a / l.g + (pt - b / l.g - 1) % l.s) - pt = -((pt - b / l.g - 1) - (pt - b / l.g - 1) % l.s) := by omega
  have e3 : (a / l.g + 1 + (b / l.g - a / l.g + (pt - b / l.g - 1) % l.s) - pt) % l.s = 0 := by
    rw [e2]
    have := Int.mul_ediv_add_emod (pt - b / l.g - 1) l.s
    rw [show (pt - b / l.g - 1) - (pt - b / l.g - 1) % l.s = l.s * ((pt - b / l.g - 1) / l.s) by omega, ← Int.mul_neg]
    exact Int.mul_emod_right _ _
  have := (i1 (by omega)).mp e3
  omega
theorem aft_one (ok : WOk W) {sp : Spot} {t : Int} (hl : sp.lv < W.length) : aft W B sp (t - 1) t = match (visited W B sp (t - 1) t).getLast? with
    | none => some sp
    | some o => o := by
  have hall := ok.all _ hl
  have hgt := va_step ok hl sp.pt (t - 1)
  obtain ⟨r, hr⟩ := wl_ends ok B (some t) (mu sp (t - 1)) sp (t - 1) 0 hl (Nat.le_refl _)
  have h0 := hr
  rw [aft_of ok hl hr]
  have hmu1 : 1 ≤ mu sp (t - 1) := by unfold mu; split <;> omega
  have hmu : ∃ n, mu sp (t - 1) = n + 1 := ⟨mu sp (t - 1) - 1, by omega⟩
  obtain ⟨n, hn⟩ := hmu
  rw [hn] at hr
  unfold wl at hr
  dsimp only at hr
  by_cases he : va (lv W sp.lv) sp.pt (t - 1) = t
  · rw [he] at hr
    rw [if_neg (by unfold over; simp)] at hr
    cases hq : (visited W B sp (t - 1) t).getLast? with
    | none =>
      have := visited_ne ok (B := B) hl (tick := t - 1)
      rw [he] at this
      exact absurd (List.getLast?_eq_none_iff.mp hq) this
    | some o =>
      rw [hq] at hr
      cases o with
      | none => cases hr; rfl
      | some sp' =>
        dsimp only at hr ⊢
        obtain ⟨c1, c2⟩ := visGo_last ok _ hq
        have hg2 := va_step ok c1 sp'.pt t
        cases n with
        | zero => cases hr
        | succ n =>
          unfold wl at hr
          dsimp only at hr
          rw [if_pos (by unfold over; exact decide_eq_true (by omega))] at hr
          cases hr
          rfl
  · rw [if_pos (by unfold over; exact decide_eq_true (by omega))] at hr
    cases hr
    have hnil : visited W B sp (t - 1) t = [] := by
      apply Classical.byContradiction
      intro hne
      have hvis := TwM_vis (W := W) (B := B) (order W B) hne
      exact TwM_no (by omega) (by omega) sp.pt (a := t - 1) (b := t - 1) (n := t) (Int.le_refl _) (by omega) hvis
    rw [hnil]
    rfl
end
end Tw
/-! Tw: texts of spots and of tuples of numbers -/
namespace Tw
open PySem PySem.Spec PyProof.Rows L2 He TwM StX
open PySem.W (Frag)
section
variable {K : Frag} {H : Hp}
theorem lg {x : Int} (h0 : 0 ≤ x) (h : x ≤ 2 ^ 250) : x.natAbs.log2 < 251 := PySem.Flt.log2_lt_of (k := 251) (by decide) (by
  have e : (2 : Int) ^ 250 = ((2 ^ 250 : Nat) : Int) := by norm_cast
  have : x.natAbs ≤ 2 ^ 250 := by omega
  exact Nat.lt_of_le_of_lt this (by decide +kernel))
theorem shown_ints_all : ∀ l : List Int, (∀ x ∈ l, x.natAbs.log2 < 1920) → PyData.showableAll (l.map PyData.int) = true
  | [], _ => rfl
  | x :: l, h => by
    rw [List.map_cons]
    show (PyData.showable (.int x) && PyData.showableAll (l.map PyData.int)) = true
    rw [shown_ints_all l fun y hy => h y (List.mem_cons_of_mem _ hy), Bool.and_true]
    exact decide_eq_true (h x (List.mem_cons_self ..))
theorem hasDict_ints : ∀ l : List Int, PyData.hasDictAll (l.map PyData.int) = false
  | [] => rfl
  | x :: l => by
    rw [List.map_cons]
    show (PyData.hasDict (.int x) || PyData.hasDictAll (l.map PyData.int)) = false
    rw [hasDict_ints l]
    rfl
theorem piled_ints : ∀ l : List Int, (∀ x ∈ l, x.natAbs.log2 < 1920) → piled (PyData.shownAll (l.map PyData.int)) ≤ 1923 * l.length
  | [], _ => Nat.le_refl _
  | x :: l, h => by
    have ih := piled_ints l fun y hy => h y (List.mem_cons_of_mem _ hy)
    have h1 := int_text_length_le (k := 1920) (by decide) (h x (List.mem_cons_self ..))
    rw [List.map_cons]
    show piled (Str.ofString (toString x) :: PyData.shownAll (l.map PyData.int)) ≤ _
    rw [piled_cons, PySem.ofString_length, List.length_cons]
    omega
theorem repr_ints {v : V} {l : List Int} {Q : VK} (hd : Dp K H v (.tuple (l.map PyData.int))) (hl : l.length ≤ 8000) (hb : ∀ x ∈ l, x.natAbs.log2 < 1920) (q : Q (.str (PyData.tuple (l.map PyData.int)).shown) H) : rReprG K [v] H Q := by
  refine ⟨v, _, rfl, hd, shown_ints_all l hb, hasDict_ints l, ?_, ?_, q⟩
  · have := depth_ints l
    show PyData.depthAll (l.map PyData.int) + 1 ≤ 16
    omega
  · have h1 := piled_ints l hb
    have h2 := fmt_text (PyData.shownAll (l.map PyData.int))
    have h3 : sizeLine = 16777216 := rfl
    show (tupleText (PyData.shownAll (l.map PyData.int))).length ≤ sizeLine
    omega
theorem repr_spot {v : V} {o : Option Spot} {Q : VK} (h : OSp H v o) (hb : ∀ sp, o = some sp → SpB (2 ^ 250) sp ∧ sp.lv < 100) (q : Q (.str (dSp o).shown) H) : rReprG K [v] H Q := by
  cases o with
  | none => exact ⟨v, .none, rfl, h.dp, rfl, rfl, Nat.zero_le _, by decide +kernel, q⟩
  | some sp =>
    obtain ⟨b, hl⟩ := hb sp rfl
    refine repr_ints (l := [(sp.lv : Int), sp.pt, sp.due]) h.dp (show 3 ≤ 8000 by decide) (fun x hx => ?_) q
    have b1 := lg b.p0 b.p1
    have b2 := lg b.d0 b.d1
    have b3 := lg (x := (sp.lv : Int)) (by omega) (by
      have : (100 : Int) ≤ 2 ^ 250 := by decide +kernel
      omega)
    simp only [List.mem_cons, List.not_mem_nil, or_false] at hx
    rcases hx with rfl | rfl | rfl <;> omega
end
end Tw
/-! Tw: the law's name of a caught error -/
namespace Tw
open PySem PySem.Spec PyProof.Rows L2 He TwM StX
open PySem.W (Frag)
local macro_rules | `(tactic| walk_at "rsl") => `(tactic| simp only [*, at3_0, at3_1, at3_2, at2_0, at2_1, updS, upd_two, gSub, rSetL, updN, tPar, tPar3, gTup, gCons, gNil, and_assoc, not_true_eq_false, not_false_eq_true, tNever, List.length_map, tFld, rIxTH, rIxLH, rLenTH, rLenLH, lk1, lfs_g, lfs_s, lfs_p, HO.ins.injEq, HO.tup.injEq, HO.lst.injEq, sp_Book_rounding, sp_Book_action, sp_Book_order, sp_Book_due, sp_Book_zero, sp_Book_beyond, Int.toNat_natCast, sp_visit_after, sp_is_visited, sp_Level_grain, sp_Level_slots, sp_Level_span, sp_Wheel_reach, sp_Wheel___len__, sp_is_integer, sp_is_count, sp_is_within, sp_rounded, tAsg, gName, tVar, tC, tOp, rI, rI0, rU, tUn, oAdd, oSub, oMul, oDiv, oMod, oNeg, oLt, oLe, oGt, oGe, oIsN, oNotN, tFn, tCons, tNil, tIfS, tIf, tTest, tB, tNot, tAnd, tOr, tAndV, tOrV, tNotV,
    tRet, tRetN, tNext, tCB, tDrop, tChain, rEq, rNe, oMax2, oMin2, oInt1, rLenF, L2.start, List.map_cons, List.map_nil, List.length_cons, List.length_nil, List.replicate_succ, List.replicate_zero, List.cons_append, List.nil_append, Nat.reduceAdd, Nat.reduceSub, Nat.zero_add,
    List.set_cons_zero, List.set_cons_succ, List.getElem?_cons_zero, List.getElem?_cons_succ, Option.some.injEq, V.int.injEq, V.ref.injEq, V.str.injEq, V.bl.injEq, exists_eq_left', exists_eq_left, exists_and_left, List.cons.injEq, and_true, true_and, decide_eq_true_eq, sc_ii, sc_ss, sc_bb, sc_ni, sc_in, sc_nn, sc_is, reduceCtorEq,
    Bool.not_eq_true', decide_eq_false_iff_not, if_true, if_false, Bool.false_eq_true, exists_eq', exists_const, false_and, and_false, or_false, false_or, exists_false, Bool.not_not, Bool.not_true, Bool.not_false, sUp_up, sFire_fire, sHigh_high, sPut_put, sZone_now, sBey_refuse, sBey_cut, tTup, tLst, sz0, sz1, sz2, sz3, sz4, sz5, sz6])
local macro_rules | `(tactic| walk_at "st") => `(tactic| ((try dsimp only); rw [seq1]; walk_at "rsl"))
section
variable {K : Frag} {w : World}
end
end Tw
/-! Tw: a lambda is called, an error that comes out is named and shown -/
namespace Tw
open PySem PySem.Spec PyProof.Rows L2 LamX He
open L2H (RoomH)
theorem call_reprU {X : Cx} (gd : X.A.guards = some []) (hu : X.A.units + 40 < cLine) : CallR X (.builtin "repr") (rReprG X.K) := by
  intro pins s σ H xs us Q I r h
  obtain ⟨x, d, rfl, hd, h1, h2, h3, h4, q⟩ := h
  obtain ⟨u, rfl, ru⟩ := vals1 r
  obtain ⟨as, hR⟩ := Dp.reads I d x u hd ru
  cases hR with
  | none => exact PySem.P.repr_of_none ⟨.str _, H, I.tok _, ⟨_, rfl⟩, q⟩
  | bool b => exact PySem.P.repr_of_bool ⟨.str _, H, I.tok _, ⟨_, rfl⟩, q⟩
  | int i t => exact PySem.P.repr_of_int (of_decide_eq_true h1) ⟨.str _, H, I.tok _, ⟨_, rfl⟩, q⟩
  | str y t => exact PySem.P.repr_of_str ⟨.str _, H, I.tok _, ⟨_, rfl⟩, q⟩ h4
  | list a1 a2 a3 a4 => exact repr_of_reads' (.list a1 a2 a3 a4) h1 (fun z => by rw [h2] at z; cases z) gd (by omega) (fun _ _ z => z) (fun h' u tk hk => ⟨.str _, H, I.kept hk, ⟨_, rfl⟩, q⟩) h4
  | tuple a1 a2 a3 a4 => exact repr_of_reads' (.tuple a1 a2 a3 a4) h1 (fun z => by rw [h2] at z; cases z) gd (by omega) (fun _ _ z => z) (fun h' u tk hk => ⟨.str _, H, I.kept hk, ⟨_, rfl⟩, q⟩) h4
  | dict => simp [PyData.hasDict] at h2
def rReprD0 : List V → Hp → VK → Prop := fun xs H Q => ∃ a, xs = [.ref a] ∧ H a = some (.dK []) ∧ Q (.str (PyData.dict []).shown) H
theorem call_reprD0 {X : Cx} (gd : X.A.guards = some []) (hu : X.A.units + 40 < cLine) : CallR X (.builtin "repr") rReprD0 := by
  intro pins s σ H xs us Q I r h
  obtain ⟨a, rfl, ha, q⟩ := h
  rw [Vals.ref1 r]
  have hx : ObjOk X.prog X.w H s.heap a (.dK []) := I.hok a _ ha
  obtain ⟨_, hn, vs, hkv, ho⟩ := hx
  cases hkv
  obtain ⟨o, es, ep, ho, hex, hd, _, hp, _⟩ := ho
  have hes : es = #[] := by
    cases h0 : es.toList with
    | nil => exact Array.toList_inj.mp h0
    | cons x l => rw [h0] at hp; cases hp
  subst hes
  have hr : Reads s.heap (.ref a) (.dict []) (a :: [] ++ []) := .dict (kvs := []) ho hex.1 hd .nil .nil
  have hdp : (PyData.dict []).depth ≤ 8 := by decide
  exact repr_of_reads' hr rfl (fun _ m => by
    have e : sysModules = a := by simpa using m
    rw [← e] at hn
    simp at hn) gd (by omega) (fun _ _ z => z) (fun h' u tk hk => ⟨.str _, H, I.kept hk, ⟨_, rfl⟩, q⟩) (by decide)
def rReprD1 : List V → Hp → VK → Prop := fun xs H Q => ∃ a i j, xs = [.ref a] ∧ H a = some (.dK [(Sum.inl i, .int j)]) ∧ i.natAbs.log2 < 1920 ∧ j.natAbs.log2 < 1920 ∧ (PyData.dict [(.int i, .int j)]).shown.length ≤ sizeLine ∧ Q (.str (PyData.dict [(.int i, .int j)]).shown) H
theorem call_reprD1 {X : Cx} (gd : X.A.guards = some []) (hu : X.A.units + 40 < cLine) : CallR X (.builtin "repr") rReprD1 := by
  intro pins s σ H xs us Q I r h
  obtain ⟨a, i, j, rfl, ha, hi, hj, hz, q⟩ := h
  rw [Vals.ref1 r]
  have hx : ObjOk X.prog X.w H s.heap a (.dK [(Sum.inl i, .int j)]) := I.hok a _ ha
  obtain ⟨hlen, hn, vs, hkv, ho⟩ := hx
  cases hkv with
  | cons h1 h2 =>
    cases h2
    obtain ⟨o, es, ep, ho, hex, hd, hko, hp, hnd⟩ := ho
    generalize hes : es.toList = el at hp
    cases hp with
    | cons k1 v1 r1 =>
      rename_i b e el2
      cases r1
      obtain ⟨bk, bv⟩ := b
      obtain ⟨e1, rv⟩ := h1
      have e1 : (Sum.inl i : Key) = bk := e1
      subst e1
      obtain ⟨t, ek⟩ : ∃ t, e.key = .int i t := by
        have k1 : keyIs (Sum.inl i) e.key = true := k1
        rcases keyIs_shape k1 with ⟨i', t, e1, e2⟩ | ⟨x, t, e1, e2⟩
        · cases e1
          exact ⟨t, e2⟩
        · cases e1
      obtain ⟨t2, ev⟩ : ∃ t, bv = .int j t := rv
      have ev2 : e.val = .int j t2 := v1.trans ev
      have hr : Reads s.heap (.ref a) (.dict [(.int i, .int j)]) (a :: ([] ++ []) ++ ([] ++ [])) := .dict (kvs := [(.int i, .int j)]) ho hex.1 hd (by rw [hes]; show ReadsAll _ [e.key] _ _; rw [ek]; exact .cons (.int i t) .nil) (by rw [hes]; show ReadsAll _ [e.val] _ _; rw [ev2]; exact .cons (.int j t2) .nil)
      have hs : (PyData.dict [(.int i, .int j)]).showable = true := by
        show (decide (i.natAbs.log2 < 1920) && decide (j.natAbs.log2 < 1920) && true) = true
        rw [decide_eq_true hi, decide_eq_true hj]
        rfl
      have hdp : (PyData.dict [(.int i, .int j)]).depth ≤ 8 := by
        show max 0 (max (max 0 0) 0) + 1 ≤ 8
        decide
      exact repr_of_reads' hr hs (fun _ m => by
        have e : sysModules = a := by simpa using m
        rw [← e] at hn
        simp at hn) gd (by omega) (fun _ _ z => z) (fun h' u tk hk => ⟨.str _, H, I.kept hk, ⟨_, rfl⟩, q⟩) hz
def rReprE (K : PySem.W.Frag) : List V → Hp → VK → Prop := fun xs H Q => rReprG K xs H Q ∨ rReprD0 xs H Q ∨ rReprD1 xs H Q
theorem call_reprE {X : Cx} (gd : X.A.guards = some []) (hu : X.A.units + 40 < cLine) : CallR X (.builtin "repr") (rReprE X.K) := fun pins s σ H xs us Q I r h => h.elim (fun z => call_reprU gd hu pins s σ H xs us Q I r z) fun z => z.elim (fun z => call_reprD0 gd hu pins s σ H xs us Q I r z) fun z => call_reprD1 gd hu pins s σ H xs us Q I r z
theorem rReprE.mono {K : PySem.W.Frag} {xs : List V} {H : Hp} {Q Q' : VK} (h : rReprE K xs H Q) (i : ∀ v, Q v H → Q' v H) : rReprE K xs H Q' := by
  rcases h with ⟨y, dat, e1, e2, e3, e4, e5, e6, e7⟩ | ⟨a, e1, e2, e3⟩ | ⟨a, k, j, e1, e2, e3, e4, e5, e6⟩
  · exact .inl ⟨y, dat, e1, e2, e3, e4, e5, e6, i _ e7⟩
  · exact .inr (.inl ⟨a, e1, e2, i _ e3⟩)
  · exact .inr (.inr ⟨a, k, j, e1, e2, e3, e4, e5, i _ e6⟩)
def tXfA (K : PySem.W.Frag) (a : Addr) (cls : Value) (d : Option Addr) (n : PySem.Str) (te : TE) : TE := fun σ H Q => te σ H fun x H1 => x = .ref a ∧ ∃ (C dd : Addr) (fs : List (PySem.Str × V)) (v : V), cls = .ref C ∧ XfC K C ∧ PySem.W.findIn K (.ref C) n = some none ∧ d = some dd ∧ H1 dd = some (.xd fs) ∧ fs.lookup n = some v ∧ Q v H1
def spK (K : PySem.W.Frag) (a : Addr) (cls : Value) (d : Option Addr) : Sp := fun vs H Q _ => ∃ (D : Addr) (i : Nat), vs = [.ref a] ∧ cls = .ref D ∧ KnF K D i ∧ DicO H d ∧ ∀ H', Same H H' → Q (.str (kdN.getD i "")) H'
def tsF (K : PySem.W.Frag) (fld : PySem.Str) (a : Addr) (cls : Value) (d : Option Addr) : TS := tRet (tLst (tCons (tFn (spK K a cls d) C8.E0 (tCons (tVar 1) tNil)) (tCons (tCB (rReprE K) (tCons (tXfA K a cls d fld (tVar 1)) tNil)) tNil)))
def tsU (K : PySem.W.Frag) (a : Addr) (cls : Value) (d : Option Addr) : TS := tRet (tLst (tCons (tFn (spK K a cls d) C8.E0 (tCons (tVar 1) tNil)) (tCons (tC (.str "")) tNil)))
def tsN : Addr → Value → Option Addr → TS := fun _ _ _ _ _ _ => False
def ErFld (K : PySem.W.Frag) (fld : PySem.Str) (D : Addr) (fs : List (PySem.Str × V)) (i : Nat) (H' : Hp) (Q : VK) : Prop := ∃ v : V, XfC K D ∧ PySem.W.findIn K (.ref D) fld = some none ∧ fs.lookup fld = some v ∧
  ∀ H2, Same H' H2 → rReprE K [v] H2 fun x H3 => ∀ R, H3 R = none → Q (.ref R) (upd H3 R (.lst [.str (kdN.getD i ""), x]))
def ErOutV (K : PySem.W.Frag) (Q : VK) : XK := fun cls d H' => ∃ (D dd : Addr) (fs : List (PySem.Str × V)) (i : Nat), cls = .ref D ∧ d = some dd ∧ KnF K D i ∧ H' dd = some (.xd fs) ∧
  ((exmN K D "WheelError" true ∧ ErFld K "value" D fs i H' Q) ∨ (exmN K D "WheelError" false ∧ exmN K D "TooLong" true ∧ ErFld K "delay" D fs i H' Q) ∨
    (exmN K D "WheelError" false ∧ exmN K D "TooLong" false ∧ exmN K D "TooMany" true ∧ ErFld K "limit" D fs i H' Q))
def ErOutU (K : PySem.W.Frag) (Q : VK) : XK := fun cls d H' => ∃ (D : Addr) (i : Nat), cls = .ref D ∧ d = none ∧ KnF K D i ∧ exmN K D "WheelError" false ∧ exmN K D "TooLong" false ∧ exmN K D "TooMany" false ∧ exmN K D "NothingToUndo" true ∧
  ∀ H2, Same H' H2 → ∀ R, H2 R = none → Q (.ref R) (upd H2 R (.lst [.str (kdN.getD i ""), .str ""]))
def ErOut (K : PySem.W.Frag) (Q : VK) : XK := fun cls d H' => ErOutV K Q cls d H' ∨ ErOutU K Q cls d H'
def TCg (K : PySem.W.Frag) : (XK → Hp → VK → Prop) → Hp → VK → Prop := fun tl H Q => tl (ErOut K Q) H fun _ H' => Q .non H'
end Tw
/-! Tw: own errors without a value: raised, caught -/
namespace Tw
open PySem PySem.Spec PyProof.Rows L2 He
section
variable {X : Cx} {pos : Pos}
theorem pmk_own0 {C : Addr} {bmB : List Value} {B newId initId : String} {x : PySem.Str} {p : Pos} (F : ExcBaseFacts B newId initId bmB) (q : PySem.W.excIn X.K C bmB newId = true) (gC : X.mg x = some (.ref C))
    (kC : PySem.W.keepIn X.K (.ref C) = true) (r : Raises X (.ref C)) (hg : Gl X x) (hdb : (x == ("__debug__" : PySem.Str)) = false := by decide) :
    PMk X (.Call (.Name x p) [] [] pos) (fun _ H Q => Q (.ref C) none H) := by
  intro pins s σ H Q I h
  refine wpAny_Call_Name_kw (ld_glob I hg gC (PySem.W.callWith_K0 I.kIn kC ?_) hdb)
  obtain ⟨bm, N, nm, qn, bs, hdct, sn, sub, ab, col, dd, k0, k1, k2, k3, k5, mN, hC, hN, hni, T⟩ := exc_obj I.kIn q
  refine wpAny_call_exc_subT F T hC hN hni (fun h' e hm => ?_) (Nat.zero_le _)
  exact mk_of I hm r h (I.hok.gone hm.new)
end
def tRz0 (E : XK) (C : Addr) : TS := fun _ _ H => E (.ref C) none H
structure KeU (K : PySem.W.Frag) : Prop where
  kn : KnO K "NothingToUndo" 11
  own : exmN K (ga K "NothingToUndo") "NothingToUndo" true
theorem KeU.out {K : PySem.W.Frag} (k : KeU K) {H : Hp} {Q : VK} (q : ∀ (H2 : Hp) (R : Addr), Same H H2 → H2 R = none → Q (.ref R) (upd H2 R (.lst [.str "undo", .str ""]))) : ErOut K Q (.ref (ga K "NothingToUndo")) none H :=
  .inr ⟨_, 11, rfl, rfl, k.kn.kn, k.kn.wh, k.kn.lo, k.kn.ma, k.own, fun H2 s R hR => q H2 R s hR⟩
end Tw
/-! Tw: errors as values: made, their field read, asked for their class -/
namespace Tw
open PySem PySem.Spec PyProof.Rows L2 He
open PySem.W (Frag)
structure ExMk (K : Frag) (C : Addr) : Prop where
  cls : ∃ (B nI iI : String) (bmB : List Value), ExcBaseFacts B nI iI bmB ∧ ∃ nm q N bs bm sn sub ab col dd k0 k1 k2 k3 k5, K.lookup C = some (excClassObj nm q C N bs bm true sn sub ab col dd k0 k1 k2 k3 k5 nI) ∧ ∀ Y : String, bm.contains (.type Y) = bmB.contains (.type Y)
  kp : PySem.W.keepIn K (.ref C) = true
theorem exMk_of {K : Frag} {C : Addr} (T : OexC K C) : ExMk K C := by
  obtain ⟨nm, q, N, bs, bm, sn, sub, ab, col, dd, k0, k1, k2, k3, k5, h1, h2⟩ := T.cls
  exact ⟨⟨_, _, _, _, F.excBase_ValueError, nm, q, N, bs, bm, sn, sub, ab, col, dd, k0, k1, k2, k3, k5, h1, fun Y => PySem.HandSPX.refsVE_contains Y bm h2⟩, T.kC⟩
theorem exMk_ofB {b : BaseD} {K : Frag} {C : Addr} (T : OexB b K C) : ExMk K C := by
  obtain ⟨nm, q, N, bs, bm, sn, sub, ab, col, dd, k0, k1, k2, k3, k5, h1, h2⟩ := T.cls
  exact ⟨⟨_, _, _, _, T.bf.xb, nm, q, N, bs, bm, sn, sub, ab, col, dd, k0, k1, k2, k3, k5, h1, fun Y => ovB_has Y bm h2⟩, T.kpt⟩
section
variable {X : Cx} {CX : CXT} {k : Nat} {C fI : Addr} {fd : FuncData} {fld par x : PySem.Str} {e : Expr} {te : TE} {p pos : Pos}
theorem run_mkV {pins : List (Addr × Obj)} {σ : L2.St} {H1 : Hp} {s1 : Shared} {Q : VK} {u : Value} {y : V} {us : List Value} {kw : List (PySem.Str × Value)} (T : ExMk X.K C) (ini : PySem.W.findIn X.K (.ref C) "__init__" = some (some (.ref fI)))
    (tyf : PySem.W.typeIn X.K (.ref fI) = some (.type "function")) (FI : FnOk X.prog X.w X.K X.mg X.base CX k fI fd ["self", par] (sp_er X.K C fld)) (rm : Room (k + 1) X.A) (pas : Passes CX X (fun _ _ _ => False))
    (bn : ∀ (s : Shared) (a : Addr), X.K.In s.heap → BindsTo s fd ⟨Value.ref a :: us, kw⟩ ((["self", par] : List PySem.Str).zip [Value.ref a, u])) (I1 : Inv X pins σ H1 s1) (ry : L2.RelV y u) (hl : us.length ≤ sizeLine)
    (h : ∀ a d, H1 a = none → H1 d = none → d ≠ a → Q (.ref a) (upd (upd H1 d (exd d [(fld, y)])) a (exo a C (some d)))) : wpAny (model X.prog X.w) X.A (call (.ref C) us kw) (EP X pins σ Q) X.xe s1 := by
  obtain ⟨B, nI, iI, bmB, FB, c1, c2, c3, c4, tl, c5, c6, c7, c8, c9, j0, j1, j2, j3, j5, lk, ov⟩ := T.cls
  obtain ⟨hv, gs, dr, tk, os⟩ := s1
  have szl : hv.objs.size ≤ hv.objs.size + 1 := Nat.le_succ _
  have nw : H1 (hv.objs.size + 1) = none := I1.hok.fresh szl
  have kept : ∀ c o, hv.get? c = some o → ((hv.push (PySem.W.kdv_tup us)).push (PySem.HandSPX.excO C hv.objs.size)).get? c = some o := fun c o z => Heap.get?_push_of_some _ (Heap.get?_push_of_some _ z)
  have there : ((hv.push (PySem.W.kdv_tup us)).push (PySem.HandSPX.excO C hv.objs.size)).get? (hv.objs.size + 1) = some (PySem.HandSPX.excO C hv.objs.size) := by heap_get
  have J2 : Inv X pins σ (upd H1 (hv.objs.size + 1) (exo (hv.objs.size + 1) C none)) ⟨(hv.push (PySem.W.kdv_tup us)).push (PySem.HandSPX.excO C hv.objs.size), gs, dr, tk, os⟩ :=
    I1.laid (t' := tk) (a := hv.objs.size + 1) (o := exo (hv.objs.size + 1) C none) (h' := (hv.push (PySem.W.kdv_tup us)).push (PySem.HandSPX.excO C hv.objs.size)) kept szl (exo_ok there)
  have wish : sp_er X.K C fld [.ref (hv.objs.size + 1), y] (upd H1 (hv.objs.size + 1) (exo (hv.objs.size + 1) C none)) (fun v H2 => v = .non ∧ Q (.ref (hv.objs.size + 1)) H2) (fun _ _ _ => False) := by
    refine ⟨_, _, rfl, upd_same, fun dx hd hne => ⟨rfl, ?_⟩⟩
    rw [upd_ne hne] at hd
    have e : upd (upd (upd H1 (hv.objs.size + 1) (exo (hv.objs.size + 1) C none)) dx (exd dx [(fld, y)])) (hv.objs.size + 1) (exo (hv.objs.size + 1) C (some dx)) = upd (upd H1 dx (exd dx [(fld, y)])) (hv.objs.size + 1) (exo (hv.objs.size + 1) C (some dx)) := by
      funext b
      by_cases hb : b = hv.objs.size + 1
      · rw [hb, upd_same, upd_same]
      · rw [upd_ne hb, upd_ne hb]
        by_cases hbd : b = dx
        · rw [hbd, upd_same, upd_same]
        · rw [upd_ne hbd, upd_ne hbd, upd_ne hb]
    rw [e]
    exact h _ dx nw hd hne
  have rel2 : Vals [V.ref (hv.objs.size + 1), y] [Value.ref (hv.objs.size + 1), u] := .cons rfl (.cons ry .nil)
  refine wpAny_call (call_kw FB ov (I1.kIn _ _ lk) (PySem.W.looks_findIn I1.kIn ini) (fun self => PySem.W.bind_fn I1.kIn self tyf) hl
    (codeAny_mono (FI.run _ X.stack _ _ ⟨Value.ref (hv.objs.size + 1) :: us, kw⟩ [Value.ref (hv.objs.size + 1), u] _ _ (fun _ _ _ => False) (rm.make C us kw) (J2.env0.make C us kw) (bn _ _ J2.kIn) rel2 wish) fun r s' got => ?_))
  match r, got with
  | .error er, got => exact pas pins σ _ _ er s' J2 got
  | .ok (.ret u'), got =>
    obtain ⟨v, H', I3, rv, ev, q3⟩ := J2.after got
    subst ev
    exact ⟨rv, ⟨V.ref (hv.objs.size + 1), H', I3, rfl, q3⟩⟩
  | .ok .next, got => exact got.elim
  | .ok .brk, got => exact got.elim
  | .ok .cont, got => exact got.elim
def tMkV (C : Addr) (fld : PySem.Str) (te : TE) : TE := fun σ H Q => te σ H fun y H1 => ∀ a d, H1 a = none → H1 d = none → d ≠ a → Q (.ref a) (upd (upd H1 d (exd d [(fld, y)])) a (exo a C (some d)))
theorem pe_mkV (T : ExMk X.K C) (ini : PySem.W.findIn X.K (.ref C) "__init__" = some (some (.ref fI))) (tyf : PySem.W.typeIn X.K (.ref fI) = some (.type "function"))
    (FI : FnOk X.prog X.w X.K X.mg X.base CX k fI fd ["self", par] (sp_er X.K C fld)) (rm : Room (k + 1) X.A) (hb : Binds X.K fd ["self", par] []) (pas : Passes CX X (fun _ _ _ => False)) (gx : Gl X x) (mx : X.mg x = some (.ref C)) (he : PE X e te)
    (hdb : (x == ("__debug__" : PySem.Str)) = false := by decide) (hs : starEach [e] X.env = (false, eval e X.env) :: starEach [] X.env := by rfl) : PE X (.Call (.Name x p) [e] [] pos) (tMkV C fld te) := by
  refine ⟨fun pins s σ H Q I h => ?_⟩
  refine wpAny_Call_Name_kw (ld_glob I gx mx ?_ hdb)
  refine PySem.W.callWith_K (h₀ := X.base) I.ok.mod.kin T.kp (thn ((pa_cons (pe_mono he) pa_nil hs).run pos pins s σ H (fun vs H1 => ∃ y, vs = [y] ∧ ∀ a d, H1 a = none → H1 d = none → d ≠ a → Q (.ref a) (upd (upd H1 d (exd d [(fld, y)])) a (exo a C (some d)))) I ⟨_, h, fun y H1 q => ⟨y, rfl, q⟩⟩) fun us s1 ⟨vs, H1, I1, r1, y, hvs, q1⟩ => ⟨I1.kIn, ?_⟩) hs (by rfl)
  · subst hvs
    cases r1 with
    | @cons _ u _ us' ry r2 =>
    cases r2
    refine run_mkV T ini tyf FI rm pas (fun s a hK => ?_) I1 ry (by show 1 ≤ 16777216; decide) q1
    have b := hb s [Value.ref a, u] hK rfl
    rw [List.append_nil] at b
    exact b
end
end Tw
namespace Tw
open PySem PySem.Spec PyProof.Rows L2 He
open PySem.W (Frag)
section
variable {X : Cx} {CX : CXT} {k : Nat} {C fI : Addr} {fd : FuncData} {fld par x : PySem.Str} {te : TE} {p pos : Pos} {kws : List Keyword} {tk : TA} {g : List Value → List Value → List Value} {gV : List V → List V → List V}
def tMkVK (C : Addr) (fld : PySem.Str) (tk : TA) : TE := fun σ H Q => tk σ H fun vs H1 => ∃ y, vs = [y] ∧ ∀ a d, H1 a = none → H1 d = none → d ≠ a → Q (.ref a) (upd (upd H1 d (exd d [(fld, y)])) a (exo a C (some d)))
theorem pe_mkVK (T : ExMk X.K C) (ini : PySem.W.findIn X.K (.ref C) "__init__" = some (some (.ref fI))) (tyf : PySem.W.typeIn X.K (.ref fI) = some (.type "function"))
    (FI : FnOk X.prog X.w X.K X.mg X.base CX k fI fd ["self", par] (sp_er X.K C fld)) (rm : Room (k + 1) X.A) (hb : ∀ (s : Shared) (a : Addr) (u : Value), X.K.In s.heap → BindsTo s fd ⟨[Value.ref a], [(par, u)]⟩ ((["self", par] : List PySem.Str).zip [Value.ref a, u]))
    (pas : Passes CX X (fun _ _ _ => False)) (gx : Gl X x) (mx : X.mg x = some (.ref C)) (hkw : PK X kws tk)
    (hall : (backToKw pos (keywordEach kws X.env)).all (·.1.isSome) = true := by rfl) (hks : (backToKw pos (keywordEach kws X.env)).filterMap (·.1) = [par] := by rfl) (hdb : (x == ("__debug__" : PySem.Str)) = false := by decide)
    (hpl : ((backTo pos (starEach [] X.env)).any (·.1) || (backToKw pos (keywordEach kws X.env)).any (·.1.isNone)) = false := by rfl) :
    PE X (.Call (.Name x p) [] kws pos) (tMkVK C fld tk) := by
  refine ⟨fun pins s σ H Q I h => ?_⟩
  refine wpAny_Call_Name_kw (ld_glob I gx mx ?_ hdb)
  refine PySem.W.callWith_KW0 (h₀ := X.base) I.ok.mod.kin T.kp hall ?_ hpl
  refine thn (hkw.run pos pins s σ H _ I h) fun ws s2 ⟨zs, H2, I2, rz, y, hzs, q2⟩ => ⟨I2.kIn, ?_⟩
  rw [hks]
  subst hzs
  cases rz with
  | @cons _ u _ us' ry r2 =>
  cases r2
  exact run_mkV (us := []) (kw := [(par, u)]) T ini tyf FI rm pas (fun s a hK => hb s a u hK) I2 ry (Nat.zero_le _) q2
def tXfV (K : Frag) (fld : PySem.Str) (te : TE) : TE := fun σ H Q => te σ H fun x H1 => ∃ (a C d : Addr) (fs : List (PySem.Str × V)) (v : V), x = .ref a ∧ H1 a = some (exo a C (some d)) ∧ H1 d = some (exd d fs) ∧ XfC K C ∧ PySem.W.findIn K (.ref C) fld = some none ∧ fs.lookup fld = some v ∧ Q v H1
theorem pe_xfV {e : Expr} (he : PE X e te) (hb : attributeBase e fld X.env (eval e X.env) = eval e X.env := by rfl) : PE X (.Attribute e fld pos) (tXfV X.K fld te) := by
  refine ⟨fun pins s σ H Q I h => attr_of hb (thn (he.run pins s σ H _ I h) fun u s1 gg => ?_)⟩
  obtain ⟨x, H1, I1, rx, a, D, d, fs, v, rfl, ha, hd, T, hno, l, q⟩ := gg
  obtain rfl : u = Value.ref a := rx
  obtain ⟨t1, hget⟩ := exo_at I1.hok ha
  obtain ⟨mA, hns, hr⟩ := exd_at I1.hok hd
  obtain ⟨od, ho, hl⟩ := lookIn_ns hns
  obtain ⟨u, hu, ru⟩ := RelO.some_of (v := v) (o := mA fld) (by rw [← l]; exact hr fld)
  have J : PySem.W.InstAt s1.heap a { cls := .ref D, dict := some d, data := .fields #[.ref t1, .none, .none, .none, .bool false, .none] } D (some od) := ⟨hget, rfl, rfl, ho⟩
  exact HandSPX.exc_get I1.kIn J T.ga T.gg T.exC (PySem.W.findObj_own T.hdC hno rfl (by rw [hl, hu])) (handed_of ru) ⟨v, H1, I1.tok _, ru, q⟩
def EvA (H : Hp) (a D : Addr) : Prop := ∃ od : Option Addr, H a = some (exo a D od) ∧ ∀ d, od = some d → ∃ fs, H d = some (exd d fs)
def rIsV (K : Frag) : List V → Hp → VK → Prop := fun xs H Q => ∃ (a D : Addr) (c : V) (cv : Value) (b : Bool), ExcC K D ∧ xs = [.ref a, c] ∧ EvA H a D ∧ (∀ u, L2.RelV c u → u = cv) ∧ PySem.W.kitOne K (.ref D) cv = some b ∧ Q (.bl b) H
theorem call_isV : CallR X (.builtin "isinstance") (rIsV X.K) := by
  intro pins s σ H xs us Q I r h
  obtain ⟨a, D, c, cv, b, T, rfl, ⟨od, ha, hod⟩, hcv, e, q⟩ := h
  cases r with
  | cons rx rr =>
    cases rr with
    | cons rt rr =>
      cases rr
      cases rx
      have ec := hcv _ rt
      subst ec
      obtain ⟨t1, hget⟩ := exo_at I.hok ha
      obtain ⟨oD, J⟩ : ∃ oD, PySem.W.InstAt s.heap a { cls := .ref D, dict := od, data := .fields #[.ref t1, .none, .none, .none, .bool false, .none] } D oD := by
        cases od with
        | none => exact ⟨none, hget, rfl, rfl, trivial⟩
        | some dd =>
          obtain ⟨fs, hdd⟩ := hod dd rfl
          obtain ⟨mA, hns, _⟩ := exd_at I.hok hdd
          obtain ⟨oD, ho, _⟩ := lookIn_ns hns
          exact ⟨some oD, hget, rfl, rfl, ho⟩
      exact PySem.W.kia_one (kit_err T) I.kIn J e (fun z => nomatch z) fun tk => ⟨.bl b, H, I.kept (t' := tk) fun _ _ z => z, rfl, q⟩
def tMkV0 (C : Addr) : TE := fun _ H Q => ∀ a, H a = none → Q (.ref a) (upd H a (exo a C none))
theorem pe_mkV0 {bmB : List Value} {B newId initId : String} (FB : ExcBaseFacts B newId initId bmB) (q : PySem.W.excIn X.K C bmB newId = true) (gC : X.mg x = some (.ref C)) (kC : PySem.W.keepIn X.K (.ref C) = true) (hg : Gl X x)
    (hdb : (x == ("__debug__" : PySem.Str)) = false := by decide) : PE X (.Call (.Name x p) [] [] pos) (tMkV0 C) := by
  refine ⟨fun pins s σ H Q I h => ?_⟩
  refine wpAny_Call_Name_kw (ld_glob I hg gC (PySem.W.callWith_K0 I.kIn kC ?_) hdb)
  obtain ⟨bm, N, nm, qn, bs, hdct, sn, sub, ab, col, dd, k0, k1, k2, k3, k5, mN, hC, hN, hni, T⟩ := exc_obj I.kIn q
  refine wpAny_call_exc_subT FB T hC hN hni (fun h' a hm => ?_) (Nat.zero_le _)
  have hn : H a = none := I.hok.gone hm.new
  obtain ⟨t, ht, _, _⟩ := hm.there
  exact ⟨.ref a, upd H a (exo a C none), I.laidN hm.keeps hm.new hn (exo_ok ht), rfl, h a hn⟩
end
end Tw
/-! Tw: own errors made by position and by name -/
namespace Tw
open PySem PySem.Spec PyProof.Rows L2 He PySem.W PySem.Calls NdefX
section
variable {CX : CXT} {P : Program} {w : World} {K : Frag} {mg : PySem.Str → Option Value} {base : Heap} {x fld par file qual name text : PySem.Str} {j : Nat} {p0 p1 p2 p3 p4 pc q1 q2 q3 q4 : Pos} {params : Arguments} {scope : Scope} {ar : Arg}
theorem ok_errK (F : ErrF K x fld file qual) (hf : (P.main.file : PySem.Str) = file) (htop : (P.main.scope.names.lookup ("super" : PySem.Str)).isSome = false)
    (e : fnC K (ma K (ga K x) "__init__") = some (name, qual, params, .stmts (erB text j p0 p1 p2 p3 p4 pc q1 q2 q3 q4 fld par), scope, mainGlobals, [], builtinsNs))
    (S : NScope ["self", par, "__class__"] ["self", par] ["__class__"] scope) (hpar : (params.posonlyargs ++ params.args).head? = some ar) (har : ar.arg = "self")
    (hks : scope.names.lookup ("super" : PySem.Str) = some .globalImplicit) (hms : mg "super" = none)
    (hd1 : (par == ("__debug__" : PySem.Str)) = false) (hd2 : (par == ("__classdict__" : PySem.Str)) = false)
    (hi : ∀ cc cda fI L, interactive (envF (erF name qual params (erB text j p0 p1 p2 p3 p4 pc q1 q2 q3 q4 fld par) scope cc cda) fI L) = false)
    (hsw : ∀ cc cda fI L, swapsWith (.Call (.Attribute (.Call (.Name "super" p0) [] [] p1) "__init__" p2) [.Constant (.str text) j pc] [] p3) none p4.line (envF (erF name qual params (erB text j p0 p1 p2 p3 p4 pc q1 q2 q3 q4 fld par) scope cc cda) fI L) = pure false)
    (hsw2 : ∀ cc cda fI L, swapsWith (.Name par q3) (some (.Attribute (.Name "self" q1) fld q2)) q4.line (envF (erF name qual params (erB text j p0 p1 p2 p3 p4 pc q1 q2 q3 q4 fld par) scope cc cda) fI L) = pure false)
    (hev : ∀ cc cda fI L, ∃ pl : Sem Bool, eval (.Call (.Attribute (.Call (.Name "super" p0) [] [] p1) "__init__" p2) [.Constant (.str text) j pc] [] p3) (envF (erF name qual params (erB text j p0 p1 p2 p3 p4 pc q1 q2 q3 q4 fld par) scope cc cda) fI L) = (do
      let ov ← attributeBase (.Call (.Name "super" p0) [] [] p1) "__init__" (envF (erF name qual params (erB text j p0 p1 p2 p3 p4 pc q1 q2 q3 q4 fld par) scope cc cda) fI L) (eval (.Call (.Name "super" p0) [] [] p1) (envF (erF name qual params (erB text j p0 p1 p2 p3 p4 pc q1 q2 q3 q4 fld par) scope cc cda) fI L))
      standAt p2.atName
      let (f, first) ← holding [ov] (getMethod ov "__init__" pl)
      callWith p3 f first (backTo p3 (starEach [.Constant (.str text) j pc] (envF (erF name qual params (erB text j p0 p1 p2 p3 p4 pc q1 q2 q3 q4 fld par) scope cc cda) fI L))) []))
    (hb : ∀ (kV doc pm : Value) (an : Option Addr) (cl : List (PySem.Str × Addr)) (cdv ct : Value) (us : List Value), us.length = 2 → bindArgs (fnX name qual params (erB text j p0 p1 p2 p3 p4 pc q1 q2 q3 q4 fld par) scope cl .none kV doc pm an cdv ct) ⟨us, []⟩ = pure ((["self", par] : List PySem.Str).zip us))
    (hk : ∀ (kV doc pm : Value) (an : Option Addr) (cl : List (PySem.Str × Addr)) (cdv ct : Value) (a : Addr) (u : Value), bindArgs (fnX name qual params (erB text j p0 p1 p2 p3 p4 pc q1 q2 q3 q4 fld par) scope cl .none kV doc pm an cdv ct) ⟨[Value.ref a], [(par, u)]⟩ = pure ((["self", par] : List PySem.Str).zip [Value.ref a, u])) :
    ∃ fd, FnOk P w K mg base CX 1 (ma K (ga K x) "__init__") fd ["self", par] (sp_er K (ga K x) fld) ∧ Binds K fd ["self", par] [] ∧ ∀ (s : Shared) (a : Addr) (u : Value), K.In s.heap → BindsTo s fd ⟨[Value.ref a], [(par, u)]⟩ ((["self", par] : List PySem.Str).zip [Value.ref a, u]) := by
  obtain ⟨⟨oc, od, kV, doc, pm, ct, an, osl, lk⟩, hcd, kp, hcell, ccl, cdd, vs, ccs, y, tf, hc1, hc2, hc3⟩ := fnE_ok F.fn e
  refine ⟨_, ok_er (k := 0) ⟨F.oex, F.opq, F.sup, F.sub, F.own, hcell, ⟨_, _, _, _, _, _, hc1, hc2, by rw [hf]; exact hc3⟩, htop⟩ lk hcd S hpar (by rw [har]; rfl) hks hms (hi _ _ _) (hsw _ _ _) (hev _ _ _) (fun vs H Q E h => ?_) (fun A outer s H vs Q E hr h => ?_), .all (hb kV doc pm an _ _ ct), fun s a u _ => .of_eq (hk kV doc pm an _ _ ct a u)⟩
  · obtain ⟨_, _, rfl, _⟩ := h
    rfl
  · obtain ⟨x', y', rfl, hx, q⟩ := h
    refine ⟨_, pss_one (ps_ost (pe_var (i := 0) rfl (.inl (S.par _ (by simp)))) (pe_var (i := 1) rfl (.inl (S.par _ (by simp))) hd1 hd2) (hsw2 _ _ _ _)), x', [y'], rfl, hx, ?_⟩
    exact ⟨_, rfl, _, rfl, x', ga K x, rfl, F.oex, F.no, .inl ⟨hx, fun dx h1 h2 => q dx h1 h2⟩⟩
theorem ok_erGK {bd : BaseD} (F : ErrG bd K x fld file qual) (hf : (P.main.file : PySem.Str) = file) (htop : (P.main.scope.names.lookup ("super" : PySem.Str)).isSome = false)
    (e : fnC K (ma K (ga K x) "__init__") = some (name, qual, params, .stmts (erB text j p0 p1 p2 p3 p4 pc q1 q2 q3 q4 fld par), scope, mainGlobals, [], builtinsNs))
    (S : NScope ["self", par, "__class__"] ["self", par] ["__class__"] scope) (hpar : (params.posonlyargs ++ params.args).head? = some ar) (har : ar.arg = "self")
    (hks : scope.names.lookup ("super" : PySem.Str) = some .globalImplicit) (hms : mg "super" = none)
    (hd1 : (par == ("__debug__" : PySem.Str)) = false) (hd2 : (par == ("__classdict__" : PySem.Str)) = false)
    (hi : ∀ cc cda fI L, interactive (envF (erF name qual params (erB text j p0 p1 p2 p3 p4 pc q1 q2 q3 q4 fld par) scope cc cda) fI L) = false)
    (hsw : ∀ cc cda fI L, swapsWith (.Call (.Attribute (.Call (.Name "super" p0) [] [] p1) "__init__" p2) [.Constant (.str text) j pc] [] p3) none p4.line (envF (erF name qual params (erB text j p0 p1 p2 p3 p4 pc q1 q2 q3 q4 fld par) scope cc cda) fI L) = pure false)
    (hsw2 : ∀ cc cda fI L, swapsWith (.Name par q3) (some (.Attribute (.Name "self" q1) fld q2)) q4.line (envF (erF name qual params (erB text j p0 p1 p2 p3 p4 pc q1 q2 q3 q4 fld par) scope cc cda) fI L) = pure false)
    (hev : ∀ cc cda fI L, ∃ pl : Sem Bool, eval (.Call (.Attribute (.Call (.Name "super" p0) [] [] p1) "__init__" p2) [.Constant (.str text) j pc] [] p3) (envF (erF name qual params (erB text j p0 p1 p2 p3 p4 pc q1 q2 q3 q4 fld par) scope cc cda) fI L) = (do
      let ov ← attributeBase (.Call (.Name "super" p0) [] [] p1) "__init__" (envF (erF name qual params (erB text j p0 p1 p2 p3 p4 pc q1 q2 q3 q4 fld par) scope cc cda) fI L) (eval (.Call (.Name "super" p0) [] [] p1) (envF (erF name qual params (erB text j p0 p1 p2 p3 p4 pc q1 q2 q3 q4 fld par) scope cc cda) fI L))
      standAt p2.atName
      let (f, first) ← holding [ov] (getMethod ov "__init__" pl)
      callWith p3 f first (backTo p3 (starEach [.Constant (.str text) j pc] (envF (erF name qual params (erB text j p0 p1 p2 p3 p4 pc q1 q2 q3 q4 fld par) scope cc cda) fI L))) []))
    (hb : ∀ (kV doc pm : Value) (an : Option Addr) (cl : List (PySem.Str × Addr)) (cdv ct : Value) (us : List Value), us.length = 2 → bindArgs (fnX name qual params (erB text j p0 p1 p2 p3 p4 pc q1 q2 q3 q4 fld par) scope cl .none kV doc pm an cdv ct) ⟨us, []⟩ = pure ((["self", par] : List PySem.Str).zip us))
    (hk : ∀ (kV doc pm : Value) (an : Option Addr) (cl : List (PySem.Str × Addr)) (cdv ct : Value) (a : Addr) (u : Value), bindArgs (fnX name qual params (erB text j p0 p1 p2 p3 p4 pc q1 q2 q3 q4 fld par) scope cl .none kV doc pm an cdv ct) ⟨[Value.ref a], [(par, u)]⟩ = pure ((["self", par] : List PySem.Str).zip [Value.ref a, u])) :
    ∃ fd, FnOk P w K mg base CX 1 (ma K (ga K x) "__init__") fd ["self", par] (sp_er K (ga K x) fld) ∧ Binds K fd ["self", par] [] ∧ ∀ (s : Shared) (a : Addr) (u : Value), K.In s.heap → BindsTo s fd ⟨[Value.ref a], [(par, u)]⟩ ((["self", par] : List PySem.Str).zip [Value.ref a, u]) := by
  obtain ⟨⟨oc, od, kV, doc, pm, ct, an, osl, lk⟩, hcd, kp, hcell, ccl, cdd, vs, ccs, y, tf, hc1, hc2, hc3⟩ := fnE_ok F.fn e
  refine ⟨_, ok_erB (k := 0) ⟨F.oex, F.opq, F.sup, F.sub, F.own, hcell, ⟨_, _, _, _, _, _, hc1, hc2, by rw [hf]; exact hc3⟩, htop⟩ lk hcd S hpar (by rw [har]; rfl) hks hms (hi _ _ _) (hsw _ _ _) (hev _ _ _) (fun vs H Q E h => ?_) (fun A outer s H vs Q E hr h => ?_), .all (hb kV doc pm an _ _ ct), fun s a u _ => .of_eq (hk kV doc pm an _ _ ct a u)⟩
  · obtain ⟨_, _, rfl, _⟩ := h
    rfl
  · obtain ⟨x', y', rfl, hx, q⟩ := h
    refine ⟨_, pss_one (ps_osB (b := bd) (pe_var (i := 0) rfl (.inl (S.par _ (by simp)))) (pe_var (i := 1) rfl (.inl (S.par _ (by simp))) hd1 hd2) (hsw2 _ _ _ _)), x', [y'], rfl, hx, ?_⟩
    exact ⟨_, rfl, _, rfl, x', ga K x, rfl, F.oex, F.no, hx, fun dx h1 h2 => q dx h1 h2⟩
end
end Tw
/-! Tw: a tuple times 0, 1 or more -/
namespace Tw
open PySem PySem.Spec PyProof.Rows L2
section
theorem mul_one (l : Addr) (items : Array Value) (n : Nat) (dd : Option Addr) (sl : Array (Option Value)) (u : Tok) :
    Meets (Builtin.«tuple.__mul__» ⟨[.ref l, .int 1 u], []⟩) (fun _ R s => s.heap.get? l = some { cls := .type "tuple", dict := dd, data := .seq items n, slots := sl } ∧ R (.ok (.ret (Value.ref l))) s) :=
  .of_wp fun prog w A R s h => by
    obtain ⟨hp, g, d, tk, os⟩ := s
    obtain ⟨hl, h⟩ := h
    have f1 := AutoSeq1.idx_int
    wp_walk using wpAny_loadPart' hl
    exact ⟨_, rfl, h⟩
theorem mul_zero (l : Addr) (items : Array Value) (n : Nat) (dd : Option Addr) (sl : Array (Option Value)) (u : Tok) :
    Meets (Builtin.«tuple.__mul__» ⟨[.ref l, .int 0 u], []⟩) (fun _ R s => s.heap.get? l = some { cls := .type "tuple", dict := dd, data := .seq items n, slots := sl } ∧
      (items.isEmpty = false ∧ R (.ok (.ret (Value.ref s.heap.objs.size))) { s with heap := s.heap.push { cls := Value.type "tuple", data := Data.seq #[] }, toks := s.toks })) :=
  .of_wp fun prog w A R s h => by
    obtain ⟨hp, g, d, tk, os⟩ := s
    obtain ⟨hl, he, h⟩ := h
    have f1 := AutoSeq1.idx_int
    wp_walk using wpAny_loadPart' hl
    exact ⟨_, rfl, h⟩
def rRepA (K : PySem.W.Frag) : R2 := fun x y H Q => ∃ l k xs, x = .ref l ∧ y = .int k ∧ SqT K H l xs ∧ xs ≠ [] ∧ 0 ≤ k ∧ k ≤ 1000 ∧ xs.length ≤ 1000 ∧ (k = 1 → Q (.ref l) H) ∧ (k ≠ 1 → ∀ p, H p = none → Q (.ref p) (upd H p (.tup (List.replicate k.toNat xs).flatten)))
theorem op_repA {X : Cx} : OpR X (binaryOp .Mult) (rRepA X.K) := by
  intro pins s σ H x y v u Q I rx ry h
  obtain ⟨l, k, xs, rfl, rfl, hT, hne, h1, h2, hz, q1, q⟩ := h
  by_cases k2 : 2 ≤ k
  · exact op_repT pins s σ H _ _ v u Q I rx ry ⟨l, k, xs, rfl, rfl, hT, hne, k2, h2, hz, q (by omega)⟩
  cases rx
  obtain ⟨t, rfl⟩ := ry
  obtain ⟨its, r, ⟨⟨cls, dd, data, sl⟩, ho, hc, n, hd⟩, hs⟩ := I.tuple hT
  simp only at hc hd
  subst hc hd
  have hi : its.toArray.isEmpty = false := by
    cases its with
    | nil =>
      cases xs with
      | nil => exact absurd rfl hne
      | cons a b => cases r
    | cons a b => rfl
  have cases2 : k = 0 ∨ k = 1 := by omega
  rcases cases2 with rfl | rfl
  · refine wpAny_binaryOp_repeat_ref (T := "tuple") (U := "int") (by decide) ⟨_, ho, rfl⟩ (fun s' => typeIs_int s' 0 t) noFill_tuple_mul F.fills_int_mul F.slot_int_rmul repeat_tuple F.slot_int_index.lookup
      (call_meets F.slot_int_rmul (typeIs_int s 0 t) F.entry_int_rmul (F.args_int_rmul_2 _ _) (int_rmul_tuple 0 t l its.toArray n dd sl)
        ⟨ho, rfl, ⟨_, ho, rfl⟩, call_meets F.slot_tuple_mul ⟨_, ho, rfl⟩ F.entry_tuple_mul (F.args_tuple_mul_2 _ _) (mul_zero l its.toArray n dd sl t) ⟨ho, hi, ?_⟩⟩)
    refine ⟨.ref s.heap.objs.size, _, I.laid (t' := s.toks) (o := .tup []) (fun b ob q => Heap.get?_push_of_some _ q) (Nat.le_refl _) ?_, rfl, q (by decide) _ (I.hok.fresh (Nat.le_refl _))⟩
    exact ⟨Nat.zero_le _, [], .nil, IsTup.new _ _⟩
  · refine wpAny_binaryOp_repeat_ref (T := "tuple") (U := "int") (by decide) ⟨_, ho, rfl⟩ (fun s' => typeIs_int s' 1 t) noFill_tuple_mul F.fills_int_mul F.slot_int_rmul repeat_tuple F.slot_int_index.lookup
      (call_meets F.slot_int_rmul (typeIs_int s 1 t) F.entry_int_rmul (F.args_int_rmul_2 _ _) (int_rmul_tuple 1 t l its.toArray n dd sl)
        ⟨ho, rfl, ⟨_, ho, rfl⟩, call_meets F.slot_tuple_mul ⟨_, ho, rfl⟩ F.entry_tuple_mul (F.args_tuple_mul_2 _ _) (mul_one l its.toArray n dd sl t) ⟨ho, ?_⟩⟩)
    exact ⟨.ref l, H, I, rfl, q1 rfl⟩
end
end Tw
/-! Tw: repr of a dict of one text -/
namespace Tw
open PySem PySem.Spec PyProof.Rows L2
def rReprDS : List V → Hp → VK → Prop := fun xs H Q => ∃ a y j, xs = [.ref a] ∧ H a = some (.dK [(Sum.inr y, .int j)]) ∧ (PyData.dict [(.str y, .int j)]).showable = true ∧ (PyData.dict [(.str y, .int j)]).shown.length ≤ sizeLine ∧ Q (.str (PyData.dict [(.str y, .int j)]).shown) H
theorem call_reprDS {X : Cx} (gd : X.A.guards = some []) (hu : X.A.units + 40 < cLine) : CallR X (.builtin "repr") rReprDS := by
  intro pins s σ H xs us Q I r h
  obtain ⟨a, y, j, rfl, ha, hs, hz, q⟩ := h
  rw [Vals.ref1 r]
  have hx : ObjOk X.prog X.w H s.heap a (.dK [(Sum.inr y, .int j)]) := I.hok a _ ha
  obtain ⟨hlen, hn, vs, hkv, ho⟩ := hx
  cases hkv with
  | cons h1 h2 =>
    cases h2
    obtain ⟨o, es, ep, ho, hex, hd, hko, hp, hnd⟩ := ho
    generalize hes : es.toList = el at hp
    cases hp with
    | cons k1 v1 r1 =>
      rename_i b e el2
      cases r1
      obtain ⟨bk, bv⟩ := b
      obtain ⟨e1, rv⟩ := h1
      have e1 : (Sum.inr y : Key) = bk := e1
      subst e1
      obtain ⟨t, ek⟩ : ∃ t, e.key = .str y t := by
        have k1 : keyIs (Sum.inr y) e.key = true := k1
        rcases keyIs_shape k1 with ⟨i', t, e1, e2⟩ | ⟨x, t, e1, e2⟩
        · cases e1
        · cases e1
          exact ⟨t, e2⟩
      obtain ⟨t2, ev⟩ : ∃ t, bv = .int j t := rv
      have ev2 : e.val = .int j t2 := v1.trans ev
      have hr : Reads s.heap (.ref a) (.dict [(.str y, .int j)]) (a :: ([] ++ []) ++ ([] ++ [])) := .dict (kvs := [(.str y, .int j)]) ho hex.1 hd (by rw [hes]; show ReadsAll _ [e.key] _ _; rw [ek]; exact .cons (.str y t) .nil) (by rw [hes]; show ReadsAll _ [e.val] _ _; rw [ev2]; exact .cons (.int j t2) .nil)
      have hdp : (PyData.dict [(.str y, .int j)]).depth ≤ 8 := by
        show max 0 (max (max 0 0) 0) + 1 ≤ 8
        decide
      exact repr_of_reads' hr hs (fun _ m => by
        have e : sysModules = a := by simpa using m
        rw [← e] at hn
        simp at hn) gd (by omega) (fun _ _ z => z) (fun h' u tk hk => ⟨.str _, H, I.kept hk, ⟨_, rfl⟩, q⟩) hz
def rRepr9 (K : PySem.W.Frag) : List V → Hp → VK → Prop := fun xs H Q => rReprE K xs H Q ∨ rReprDS xs H Q
theorem call_repr9 {X : Cx} (gd : X.A.guards = some []) (hu : X.A.units + 40 < cLine) : CallR X (.builtin "repr") (rRepr9 X.K) := fun pins s σ H xs us Q I r h => h.elim (fun z => call_reprE gd hu pins s σ H xs us Q I r z) fun z => call_reprDS gd hu pins s σ H xs us Q I r z
end Tw
/-! Tw: a def of the law that makes lambdas; _law_caught called with one -/
namespace Tw
open PySem PySem.Spec PyProof.Rows L2 LamX
section
variable {P : Program} {w : World} {K : PySem.W.Frag} {mg : Str → Option Value} {base : Heap} {CX : CXT} {k : Nat} {f : Addr} {sp : Sp}
theorem fnG_ofC {x qual : Str} {params : Arguments} {body : List Stmt} {scope : Scope} {kws : List (Str × V)} {fd : FuncData} {N ps : List Str} (F : FunD K x qual params body scope [] kws f fd) (S : FnScope N ps scope) (hb : Binds K fd ps [])
    (hl : ∀ vs H Q E, sp vs H Q E → vs.length = ps.length)
    (hbody : ∀ cdv A fs t H vs Q E, cdv = .ref (codA K f) → RmG k (A.deeper (envOfC qual scope t.heap.objs.size f cdv)) → sp vs H Q E → ∃ tt, PSs (cxOf CX P w K mg base N qual scope f cdv A fs t H E) body tt ∧ tt { nx := fun _ H' => Q .non H', rt := Q } (L2.start N vs) H) :
    FnG P w K mg base CX (k + 1) f sp := by
  intro A fs t H us vs Q E hr e0 rv h
  obtain ⟨oc, od, dV, kV, doc, pm, an, cdv, ct, osl, efd, lk, hcd, _, _⟩ := F.ex
  have hcv : cdv = .ref (codA K f) := by
    unfold codA
    rw [lk, efd]
    cases cdv with
    | ref c => rfl
    | _ => cases hcd
  have KX : K.In t.heap := e0.mod.kin.keeps fun b o z => (e0.bs b o z).1
  have hlen : us.length = ps.length := rv.length.symm.trans (hl _ _ _ _ h)
  have hbt := hb t us KX (by rw [List.append_nil]; exact hlen)
  rw [List.append_nil] at hbt
  rw [efd] at lk hbt
  refine codeAny_call_function hr.rm.depth (KX _ _ lk) rfl S.co S.gen rfl (PySem.W.codeRec_of KX hcd) (hbt _ _ _ _ ?_)
  refine wpAny_newFunctionEnv_cells S.kind (fun y hy => ?_) fun env he t1 inc => ?_
  · exact (S.par y.1 (List.of_mem_zip hy).1).elim .inl fun z => .inr ⟨z, PySem.W.cellsFrom_some _ _ _ (.inl z)⟩
  · subst he
    obtain ⟨tt, hp, hq⟩ := hbody cdv A fs t H vs Q E hcv (hr.deeper _) h
    have hnl : t.heap.NoLimit := e0.mod.nolimit.keeps fun b o z => (e0.bs b o z).1
    refine ⟨hnl.keeps inc.toInCall.keep, codeAny_func (wpAny_mono (hp.run [] t1 _ _ _ (inv_start S hr.rm.hd e0 (hl _ _ _ _ h) rv inc) hq) (fun fl t2 z => ?_) fun _ _ z => z)⟩
    cases fl with
    | ret u =>
      obtain ⟨v, _, H2, J, r2, q2⟩ := z
      exact ⟨v, H2, J.os, J.bare, J.base, J.hok, r2, q2⟩
    | next =>
      obtain ⟨_, H2, J, q2⟩ := z
      exact ⟨.non, H2, J.os, J.bare, J.base, J.hok, rfl, q2⟩
    | brk => exact z.elim fun _ z => z.elim fun _ z => z.2.elim
    | cont => exact z.elim fun _ z => z.elim fun _ z => z.2.elim
end
section
variable {X : Cx}
theorem pe_caughtT {T : List (Addr × Str)} {TT : (XK → Hp → VK → Prop) → Hp → VK → Prop} {x a : Str} {g c P : Addr} {k : Nat} {pg : Arguments} {bg : List Stmt} {sg : Scope} {kws : List (Str × V)} {fd : FuncData} {Ng : List Str} {params : Arguments} {body : Expr} {scope : Scope} {t : XK → TE} {p lpos pos : Pos}
    (F : FunD X.K x x pg bg sg [] kws g fd) (hb : ∀ (kV doc pm : Value) (an : Option Addr) (cdv ct : Value) (us : List Value), us.length = 1 → bindArgs (PySem.W.fnOf x x pg bg sg .none kV doc pm an cdv ct) ⟨us, []⟩ = pure ([a].zip us)) (Sg : FnScope Ng [a] sg) (hNg : Ng[0]? = some a) (hva : Vis sg a)
    (hg : Gl X x) (hm : X.mg x = some (.ref g)) (hG : ∀ cdg, GivesTo X Ng x sg g cdg bg a (X.env.qual ++ "<lambda>") TT) (TB : TabB X.base X.mg c P) (hmT : (P, X.env.qual ++ "<lambda>") ∈ T) (hu : ∀ p ∈ T, p.1 = P → p.2 = X.env.qual ++ "<lambda>") (hcode : X.env.code = .ref c) (hr : Room (k + 2) X.A) (L : LamS X.env.scope scope) (hdef : defaultsOf params X.env = ([], []))
    (hbind : ∀ (q : Str) (cl : List (Str × Addr)) (pm cv ctv : Value), bindArgs (PySem.W.kla_fn "<lambda>" q params body scope cl pm cv ctv) ⟨[], []⟩ = pure [])
    (hbody : ∀ (A : Around) (outer : List Env) (s : Shared) (H : Hp) (E : XK) (f c' : Addr), Room k (A.deeper (lamEnv X scope s.heap.objs.size f c')) → PE (lamCx X A outer s H E scope f c') body (t E))
    (hdb : (x == ("__debug__" : Str)) = false := by decide) (hd : (a == ("__debug__" : Str)) = false := by decide) (hcd : (a == ("__classdict__" : Str)) = false := by decide) :
    PE X (.Call (.Name x p) [.Lambda params body scope lpos] [] pos) (tLam T TT t) := by
  have hbn := F.bindsN (ps := [a]) hb
  have kp := F.kp
  obtain ⟨oc, od, dV, kV, doc, pm, an, cdv, ct, osl, rfl, lk, hcg, _, _⟩ := F.ex
  exact pe_lamcall (T := T) hg hm kp lk hcg hbn Sg hNg hva (hG cdv) TB hcode hmT hu hr L hdef hbind hbody hdb hd hcd
end
end Tw
/-! Tw: values of other kinds: whether they are integers -/
namespace Tw
open PySem PySem.Spec PyProof.Rows L2 He TwM StX
open PySem.W (Frag)
local macro_rules | `(tactic| walk_at "rsl") => `(tactic| simp only [*, at3_0, at3_1, at3_2, at2_0, at2_1, updS, upd_two, gSub, rSetL, updN, tPar, tPar3, gTup, gCons, gNil, and_assoc, not_true_eq_false, not_false_eq_true, tNever, List.length_map, tFld, rIxTH, rIxLH, rLenTH, rLenLH, lk1, lfs_g, lfs_s, lfs_p, HO.ins.injEq, HO.tup.injEq, HO.lst.injEq, sp_Book_rounding, sp_Book_action, sp_Book_order, sp_Book_due, sp_Book_zero, sp_Book_beyond, Int.toNat_natCast, sp_visit_after, sp_is_visited, sp_Level_grain, sp_Level_slots, sp_Level_span, sp_Wheel_reach, sp_Wheel___len__, sp_is_integer, sp_is_count, sp_is_within, sp_rounded, tAsg, gName, tVar, tC, tOp, rI, rI0, rU, tUn, oAdd, oSub, oMul, oDiv, oMod, oNeg, oLt, oLe, oGt, oGe, oIsN, oNotN, tFn, tCons, tNil, tIfS, tIf, tTest, tB, tNot, tAnd, tOr, tAndV, tOrV, tNotV,
    tRet, tRetN, tNext, tCB, tDrop, tChain, rEq, rNe, oMax2, oMin2, oInt1, rLenF, L2.start, List.map_cons, List.map_nil, List.length_cons, List.length_nil, List.replicate_succ, List.replicate_zero, List.cons_append, List.nil_append, Nat.reduceAdd, Nat.reduceSub, Nat.zero_add,
    List.set_cons_zero, List.set_cons_succ, List.getElem?_cons_zero, List.getElem?_cons_succ, Option.some.injEq, V.int.injEq, V.ref.injEq, V.str.injEq, V.bl.injEq, exists_eq_left', exists_eq_left, exists_and_left, List.cons.injEq, and_true, true_and, decide_eq_true_eq, sc_ii, sc_ss, sc_bb, sc_ni, sc_in, sc_nn, sc_is, reduceCtorEq,
    Bool.not_eq_true', decide_eq_false_iff_not, if_true, if_false, Bool.false_eq_true, exists_eq', exists_const, false_and, and_false, or_false, false_or, exists_false, Bool.not_not, Bool.not_true, Bool.not_false, sUp_up, sFire_fire, sHigh_high, sPut_put, sZone_now, sBey_refuse, sBey_cut, tTup, tLst, sz0, sz1, sz2, sz3, sz4, sz5, sz6])
local macro_rules | `(tactic| walk_at "st") => `(tactic| ((try dsimp only); rw [seq1]; walk_at "rsl"))
def rIsNB : R2 := fun x y H Q => ∃ a b, x = .bl a ∧ y = .bl b ∧ Q (.bl (!decide (a = b))) H
def rIsB : R2 := fun x y H Q => ∃ a b, x = .bl a ∧ y = .bl b ∧ Q (.bl (decide (a = b))) H
section
variable {K : Frag} {w : World}
def IsIntV (K : Frag) (H : Hp) (x : V) (b : Bool) : Prop := ∃ b1 b2 : Bool, (∀ (H' : Hp) (Q : VK), Same H H' → Q (.bl b1) H' → rIsi K [x, .ty "int"] H' Q) ∧ (b1 = true → ∀ (H' : Hp) (Q : VK), Same H H' → Q (.bl b2) H' → rIsi K [x, .ty "bool"] H' Q) ∧ b = (b1 && !b2)
theorem IsIntV.same {H H' : Hp} {x : V} {b : Bool} (h : IsIntV K H x b) (s : Same H H') : IsIntV K H' x b := by
  obtain ⟨b1, b2, h1, h2, e⟩ := h
  exact ⟨b1, b2, fun H2 Q s2 => h1 H2 Q (s.trans s2), fun z H2 Q s2 => h2 z H2 Q (s.trans s2), e⟩
end
end Tw
/-! Tw: values of any kind that a law hands in, as data; an error caught, compared with its name and the text of its value -/
namespace Tw
open PySem PySem.Spec PyProof.Rows L2 He TwM StX LamX
open PySem.W (Frag)
def ForL (K : Frag) (a : Addr) (g : TG) (tb : TS) (D : Ends) (σ : L2.St) (H : Hp) : Prop := tFor (fun σ H R => R (Itl K a) H) g tb D σ H
theorem forl_eq {K : Frag} {tl : TE} {g : TG} {tb : TS} {D : Ends} {σ : L2.St} {H : Hp} : tFor (iList K tl) g tb D σ H = tl σ H (fun x H1 => ∃ a, x = .ref a ∧ (∃ xs, SqL K H1 a xs) ∧ ForL K a g tb D σ H1) := rfl
theorem forL {K : Frag} {a : Addr} {g : TG} {tb : TS} {D : Ends} {σ : L2.St} {H : Hp} {xs : List V} (Pv : Nat → L2.St → Hp → Prop) (h0 : Pv 0 σ H) (hl : ∀ i σ H, Pv i σ H → SqL K H a xs)
    (hs : ∀ i x σ H, xs[i]? = some x → Pv i σ H → g x σ H fun σ2 H2 => tb { D with nx := Pv (i + 1), ct := Pv (i + 1), bk := D.nx } σ2 H2) (hd : ∀ σ H, Pv xs.length σ H → D.nx σ H) : ForL K a g tb D σ H := for_list Pv h0 (fun i σ H _ z => hl i σ H z) hs hd
def flD : V → Option PyData
  | .non => some .none
  | .bl b => some (.bool b)
  | .int i => some (.int i)
  | .str x => some (.str x)
  | _ => none
inductive Ov (H : Hp) : V → PyData → Prop
  | at_ {x : V} {d : PyData} (h : flD x = some d) : Ov H x d
  | tup {a : Addr} {xs : List V} {ds : List PyData} (h : H a = some (.tup xs)) (f : xs.map flD = ds.map some) : Ov H (.ref a) (.tuple ds)
  | lst {a : Addr} {xs : List V} {ds : List PyData} (h : H a = some (.lst xs)) (f : xs.map flD = ds.map some) : Ov H (.ref a) (.list ds)
  | dict {a : Addr} (h : H a = some (.dK [])) : Ov H (.ref a) (.dict [])
def intD : PyData → Bool
  | .int _ => true
  | _ => false
def strD : PyData → Bool
  | .str _ => true
  | _ => false
def ExtP (p l : Addr) (H H' : Hp) : Prop := ∀ b o, b ≠ p → b ≠ l → H b = some o → (∀ ps, o ≠ .tbl ps) → H' b = some o
theorem ExtP.refl (p l : Addr) (H : Hp) : ExtP p l H H := fun _ _ _ _ h _ => h
theorem ExtP.trans {p l : Addr} {H H1 H2 : Hp} (a : ExtP p l H H1) (b : ExtP p l H1 H2) : ExtP p l H H2 := fun c o n m h z => b c o n m (a c o n m h z) z
theorem ExtP.ofP {p l : Addr} {H H1 : Hp} (a : SameP p l H H1) : ExtP p l H H1 := fun c o n m h _ => a c o n m h
theorem Same.toN {H H1 : Hp} (a : Same H H1) : ExtN H H1 := fun c o h _ => a c o h
section
variable {K : Frag} {H H' : Hp} {x : V} {d : PyData} {p l : Addr}
theorem Ov.ext (h : Ov H x d) (e : ∀ b o, (∃ xs, o = HO.tup xs) ∨ (∃ xs, o = HO.lst xs ∧ ∃ ds : List PyData, xs.map flD = ds.map some) ∨ o = .dK [] → H b = some o → H' b = some o) : Ov H' x d := by
  cases h with
  | at_ h => exact .at_ h
  | tup h f => exact .tup (e _ _ (.inl ⟨_, rfl⟩) h) f
  | lst h f => exact .lst (e _ _ (.inr (.inl ⟨_, rfl, _, f⟩)) h) f
  | dict h => exact .dict (e _ _ (.inr (.inr rfl)) h)
theorem Ov.extN (h : Ov H x d) (e : ExtN H H') : Ov H' x d := h.ext fun b o z q => e b o q fun ps w => by
  subst w
  rcases z with ⟨_, z⟩ | ⟨_, z, _⟩ | z <;> cases z
theorem Ov.same (h : Ov H x d) (e : Same H H') : Ov H' x d := h.extN (Same.toN e)
theorem PoolAt.off (hp : PoolAt H p l) {b : Addr} {o : HO} (h : H b = some o) (z : (∃ xs, o = HO.tup xs) ∨ (∃ a C fs, o = HO.ins a C fs) ∨ o = .dK [] ∨ (∃ ps, o = .tbl ps) ∨ (∃ e, o = .ext e)) : b ≠ p ∧ b ≠ l := by
  obtain ⟨n, cs, i1, i2, i3, i4, h1, h2, h3⟩ := hp
  have ne : ∀ xs, o ≠ .lst xs := fun xs w => by
    subst w
    rcases z with ⟨_, z⟩ | ⟨_, _, _, z⟩ | z | ⟨_, z⟩ | ⟨_, z⟩ <;> cases z
  exact ⟨fun w => by rw [w, h1] at h; exact ne _ (Option.some.inj h).symm, fun w => by rw [w, h2] at h; exact ne _ (Option.some.inj h).symm⟩
theorem TabS.sameP {P : Addr} {q : PySem.Str} (hp : PoolAt H p l) (s : SameP p l H H') (t : TabS H P q) : TabS H' P q := by
  obtain ⟨ps, h1, h2, h3⟩ := t
  obtain ⟨n1, n2⟩ := hp.off h1 (.inr (.inr (.inr (.inl ⟨_, rfl⟩))))
  refine ⟨ps, s _ _ n1 n2 h1, h2, fun pos cv hc => ?_⟩
  obtain ⟨c, e1, e2⟩ := h3 pos cv hc
  obtain ⟨n1, n2⟩ := hp.off e2 (.inr (.inr (.inr (.inr ⟨_, rfl⟩))))
  exact ⟨c, e1, s _ _ n1 n2 e2⟩
theorem Tabs.sameP {T : List (Addr × PySem.Str)} (hp : PoolAt H p l) (s : SameP p l H H') (t : Tabs T H) : Tabs T H' := fun q hq => TabS.sameP hp s (t q hq)
theorem PoolAt.extN (hp : PoolAt H p l) (s : ExtN H H') : PoolAt H' p l := by
  obtain ⟨n, cs, i1, i2, i3, i4, h1, h2, h3⟩ := hp
  exact ⟨n, cs, i1, i2, i3, i4, s _ _ h1 (fun ps z => by cases z), s _ _ h2 (fun ps z => by cases z), h3⟩
theorem LvAt.extN {a : Addr} {v : Lv} (h : LvAt K H a v) (s : ExtN H H') : LvAt K H' a v := ⟨h.ok, h.at_.elim fun dx q => ⟨dx, s _ _ q fun ps z => by cases z⟩⟩
theorem WhAt.extN {a : Addr} {W : List Lv} (h : WhAt K H a W) (s : ExtN H H') : WhAt K H' a W := by
  obtain ⟨ok, dx, t, as, h1, h2, h3, h4⟩ := h
  exact ⟨ok, dx, t, as, s _ _ h1 fun ps z => (by cases z), s _ _ h2 fun ps z => (by cases z), h3, fun i c q => (h4 i c q).extN s⟩
theorem BkAt.extN {a : Addr} {B : Bk} (h : BkAt K H a B) (s : ExtN H H') : BkAt K H' a B := by
  obtain ⟨ok, dx, t, h1, h2⟩ := h
  exact ⟨ok, dx, t, s _ _ h1 fun ps z => (by cases z), s _ _ h2 fun ps z => (by cases z)⟩
theorem SpAt.extN {a : Addr} {sp : Spot} (h : SpAt H a sp) (s : ExtN H H') : SpAt H' a sp := s _ _ h fun ps z => by cases z
theorem Ov.int (h : Ov H x d) (z : intD d = true) : ∃ i, x = .int i ∧ d = .int i := by
  cases h with
  | at_ h =>
    cases x with
    | int i => cases h; exact ⟨i, rfl, rfl⟩
    | non => cases h; cases z
    | bl b => cases h; cases z
    | str y => cases h; cases z
    | _ => cases h
  | _ => cases z
theorem Ov.str (h : Ov H x d) (z : strD d = true) : ∃ i, x = .str i ∧ d = .str i := by
  cases h with
  | at_ h =>
    cases x with
    | str i => cases h; exact ⟨i, rfl, rfl⟩
    | non => cases h; cases z
    | bl b => cases h; cases z
    | int y => cases h; cases z
    | _ => cases h
  | _ => cases z
/-! ### its repr -/
def OkD (d : PyData) : Prop := (d = .dict [] ∨ (d.showable = true ∧ d.hasDict = false ∧ d.depth ≤ 16 ∧ d.shown.length ≤ sizeLine)) ∧ PySem.PyData.strOk d.shown = true
theorem flD_dp : ∀ {xs : List V} {ds : List PyData}, xs.map flD = ds.map some → DpAll K H xs ds
  | [], [], _ => .nil
  | [], _ :: _, h => by cases h
  | _ :: _, [], h => by cases h
  | x :: xs, d :: ds, h => by
    rw [List.map_cons, List.map_cons] at h
    injection h with h1 h2
    refine .cons ?_ (flD_dp h2)
    cases x with
    | non => cases h1; exact .non
    | bl b => cases h1; exact .bl b
    | int i => cases h1; exact .int i
    | str y => cases h1; exact .str y
    | _ => cases h1
theorem Ov.repr {Q : VK} (h : Ov H x d) (k : OkD d) (q : Q (.str d.shown) H) : rReprE K [x] H Q := by
  obtain ⟨k, _⟩ := k
  cases h with
  | at_ h =>
    have z : d.showable = true ∧ d.hasDict = false ∧ d.depth ≤ 16 ∧ d.shown.length ≤ sizeLine := k.elim (fun e => by subst e; cases x <;> cases h) id
    obtain ⟨z1, z2, z3, z4⟩ := z
    have hd : Dp K H x d := by
      cases x with
      | non => cases h; exact .non
      | bl b => cases h; exact .bl b
      | int i => cases h; exact .int i
      | str y => cases h; exact .str y
      | _ => cases h
    exact .inl ⟨x, d, rfl, hd, z1, z2, z3, z4, q⟩
  | tup h f =>
    obtain ⟨z1, z2, z3, z4⟩ := k.elim (fun e => by cases e) id
    exact .inl ⟨_, _, rfl, .tup (SqT.of h) (flD_dp f), z1, z2, z3, z4, q⟩
  | lst h f =>
    obtain ⟨z1, z2, z3, z4⟩ := k.elim (fun e => by cases e) id
    exact .inl ⟨_, _, rfl, .lst (.inl (.inl h)) (flD_dp f), z1, z2, z3, z4, q⟩
  | dict h => exact .inr (.inl ⟨_, rfl, h, q⟩)
theorem strOk_of (s : String) : PySem.PyData.strOk (Str.ofString s) = true := by
  rw [Str.ofString_eq_toList]
  unfold PySem.PyData.strOk
  rw [Array.all_eq_true]
  intro i hi
  simp only [List.size_toArray, List.length_map] at hi
  simp only [List.getElem_toArray, List.getElem_map, decide_eq_true_eq]
  have hv := (s.toList[i]).valid
  have e : (s.toList[i]).toNat = (s.toList[i]).val.toNat := rfl
  rw [e]
  rcases hv with h | ⟨_, h⟩
  · exact Nat.lt_trans h (by decide)
  · exact h
theorem okD_int {i : Int} (h : i.natAbs.log2 < 1920) : OkD (.int i) := by
  refine ⟨.inr ⟨decide_eq_true h, rfl, (show 0 ≤ 16 by decide), ?_⟩, strOk_of _⟩
  have h3 := int_text_length_le (k := 1920) (by decide) h
  show (Str.ofString (toString i)).length ≤ sizeLine
  rw [PySem.ofString_length]
  have h6 : sizeLine = 16777216 := rfl
  omega
theorem okD_i {i : Int} (h0 : -(2 ^ 100) < i) (h1 : i < 2 ^ 100) : OkD (.int i) := okD_int (by
  by_cases hz : i.natAbs = 0
  · rw [hz]; decide
  · have h2 : i.natAbs < 2 ^ 100 := by omega
    exact Nat.lt_trans ((Nat.log2_lt hz).mpr h2) (by decide))
def okB (d : PyData) : Bool := (d.showable && (!d.hasDict && (decide (d.depth ≤ 16) && decide (d.shown.length ≤ 16777216)))) && PySem.PyData.strOk d.shown
theorem okD_of (h : okB d = true) : OkD d := by
  unfold okB at h
  simp only [Bool.and_eq_true, decide_eq_true_eq, Bool.not_eq_true'] at h
  exact ⟨.inr ⟨h.1.1, h.1.2.1, h.1.2.2.1, h.1.2.2.2⟩, h.2⟩
def OvP (p l : Addr) (H : Hp) (x : V) (d : PyData) : Prop := Ov H x d ∧ ∀ a, x = .ref a → a ≠ p ∧ a ≠ l
theorem OvP.extP (h : OvP p l H x d) (s : ExtP p l H H') : OvP p l H' x d := by
  obtain ⟨h, n⟩ := h
  refine ⟨?_, n⟩
  cases h with
  | at_ h => exact .at_ h
  | tup h f => exact .tup (s _ _ (n _ rfl).1 (n _ rfl).2 h fun ps z => by cases z) f
  | lst h f => exact .lst (s _ _ (n _ rfl).1 (n _ rfl).2 h fun ps z => by cases z) f
  | dict h => exact .dict (s _ _ (n _ rfl).1 (n _ rfl).2 h fun ps z => by cases z)
theorem OvP.sameP (h : OvP p l H x d) (s : SameP p l H H') : OvP p l H' x d := h.extP (.ofP s)
theorem OvP.at_ (h : flD x = some d) : OvP p l H x d := ⟨.at_ h, fun a e => by subst e; cases h⟩
theorem drawOv {Pr : V → PyData → Prop} {L : Addr} {n : Int} {xs : List V} {Q : VK} (hp : PoolAt H p l) (hL : H L = some (.lst xs)) (n1 : L ≠ p) (n2 : L ≠ l) (hn : 0 < n) (hl : n.natAbs.log2 < 1920) (hx : n = xs.length) (hall : ∀ x ∈ xs, ∃ d, OvP p l H x d ∧ Pr x d)
    (q : ∀ x d H', SameP p l H H' → PoolAt H' p l → OvP p l H' x d → Pr x d → Q x H') :
    sp__law_draw K [.ref p, .int n] H (fun y H2 => ∃ x x_3, y = .int x_3 ∧ H2 L = some (.lst x) ∧ ∃ x_4, atI x x_3 = some x_4 ∧ Q x_4 H2) E0 := by
  refine draw hp hn hl fun i H1 s1 hp1 a b => ?_
  obtain ⟨v, hv, e⟩ := atV (xs := xs) a (by omega)
  obtain ⟨d, hd, hP⟩ := hall v (List.mem_of_getElem? hv)
  exact ⟨_, i, rfl, s1 _ _ n1 n2 hL, _, e, q v d H1 s1 hp1 (hd.sameP s1) hP⟩
/-! ### an error caught -/
structure KeC (K : Frag) (c nm : PySem.Str) : Prop where
  kn : ∃ i, KnF K (ga K c) i ∧ kdN.getD i "" = nm
  xf : XfC K (ga K c)
  no : PySem.W.findIn K (.ref (ga K c)) "value" = some none
  ex : PySem.W.exmOne K (.ref (ga K c)) (.ref (ga K "WheelError")) = some true
structure KeG (K : Frag) (c nm fld : PySem.Str) : Prop where
  kn : ∃ i, KnF K (ga K c) i ∧ kdN.getD i "" = nm
  xf : XfC K (ga K c)
  no : PySem.W.findIn K (.ref (ga K c)) fld = some none
  cl : (fld = "value" ∧ exmN K (ga K c) "WheelError" true) ∨ (fld = "delay" ∧ exmN K (ga K c) "WheelError" false ∧ exmN K (ga K c) "TooLong" true) ∨
    (fld = "limit" ∧ exmN K (ga K c) "WheelError" false ∧ exmN K (ga K c) "TooLong" false ∧ exmN K (ga K c) "TooMany" true)
theorem KeC.g {c nm : PySem.Str} (k : KeC K c nm) : KeG K c nm "value" := ⟨k.kn, k.xf, k.no, .inl ⟨rfl, k.ex⟩⟩
theorem KeG.out {c nm fld : PySem.Str} (k : KeG K c nm fld) {dd : Addr} (hd : H dd = none) (hv : Ov H x d) (ok : OkD d) {Q : VK} (q : ∀ (H2 : Hp) (R : Addr), Same H H2 → H2 R = none → Q (.ref R) (upd H2 R (.lst [.str nm, .str d.shown]))) :
    ErOut K Q (.ref (ga K c)) (some dd) (upd H dd (.xd [(fld, x)])) := by
  obtain ⟨⟨i, k1, k2⟩, k3, k4, k5⟩ := k
  have sn : Same H (upd H dd (.xd [(fld, x)])) := Same.new hd
  have hlk : ([(fld, x)] : List (PySem.Str × V)).lookup fld = some x := by simp [List.lookup]
  have hF : ErFld K fld (ga K c) [(fld, x)] i (upd H dd (.xd [(fld, x)])) Q := by
    refine ⟨x, k3, k4, hlk, fun H2 s2 => ?_⟩
    rw [k2]
    exact (hv.same (sn.trans s2)).repr ok fun R hR => q H2 R (sn.trans s2) hR
  refine .inl ⟨_, _, [(fld, x)], i, rfl, rfl, k1, upd_same, ?_⟩
  rcases k5 with ⟨rfl, w1⟩ | ⟨rfl, w1, w2⟩ | ⟨rfl, w1, w2, w3⟩
  · exact .inl ⟨w1, hF⟩
  · exact .inr (.inl ⟨w1, w2, hF⟩)
  · exact .inr (.inr ⟨w1, w2, w3, hF⟩)
theorem KeC.out {c nm : PySem.Str} (k : KeC K c nm) {dd : Addr} (hd : H dd = none) (hv : Ov H x d) (ok : OkD d) {Q : VK} (q : ∀ (H2 : Hp) (R : Addr), Same H H2 → H2 R = none → Q (.ref R) (upd H2 R (.lst [.str nm, .str d.shown]))) :
    ErOut K Q (.ref (ga K c)) (some dd) (upd H dd (.xd [("value", x)])) := k.g.out hd hv ok q
theorem pair_shaped {nm t : PySem.Str} (h1 : PySem.PyData.strOk nm = true) (h2 : PySem.PyData.strOk t = true) : SeqAt.shaped (.list [.str nm, .str t]) = true := by
  have e : PyData.canLay0 (.list [.str nm, .str t]) = true := by
    show (PySem.PyData.strOk nm && (PySem.PyData.strOk t && true)) = true
    rw [h1, h2]; rfl
  unfold SeqAt.shaped
  rw [e]
  rfl
theorem pair_eqv {nm t : PySem.Str} : PyData.eqv (.list [.str nm, .str t]) (.list [.str nm, .str t]) = true := by
  show ((nm == nm) && ((t == t) && true)) = true
  simp
theorem dp_pair {a : Addr} {nm t : PySem.Str} (h : H a = some (.lst [.str nm, .str t])) : Dp K H (.ref a) (.list [.str nm, .str t]) := .lst (.inl (.inl h)) (.cons (.str _) (.cons (.str _) .nil))
theorem lam_errG {fld : PySem.Str} {T : List (Addr × PySem.Str)} {te : XK → TE} {σ : L2.St} {Q : VK} {c nm : PySem.Str} (k : KeG K c nm fld) (hT : Tabs T H) (ok : OkD d) (hov : Ov H x d)
    (hcall : ∀ (H1 : Hp) (E : XK) (Q : VK), ExtN H H1 → (∀ H2 dd, Same H1 H2 → H2 dd = none → E (.ref (ga K c)) (some dd) (upd H2 dd (.xd [(fld, x)]))) → te E σ H1 Q)
    (q : ∀ (R : Addr) (H' : Hp), H' R = some (.lst [.str nm, .str d.shown]) → ExtN H H' → Tabs T H' → Q (.ref R) H') : tLam T (TCg K) te σ H Q := by
  refine ⟨hT, fun H1 e1 T1 => hcall H1 _ _ e1 fun H1' dd s1 hd => k.out hd (hov.extN (e1.trans (Same.toN s1))) ok fun H2 R s2 hR => ?_⟩
  have s3 := (s1.trans s2).trans (Same.new (o := .lst [.str nm, .str d.shown]) hR)
  exact q R _ (updS H2 R _) (e1.trans (Same.toN s3)) (T1.ext fun b o z => s3 _ _ z)
theorem lam_errS {T : List (Addr × PySem.Str)} {te : XK → TE} {σ : L2.St} {Q : VK} {c nm : PySem.Str} (k : KeC K c nm) (hT : Tabs T H) (ok : OkD d) (hov : Ov H x d)
    (hcall : ∀ (H1 : Hp) (E : XK) (Q : VK), ExtN H H1 → (∀ H2 dd, Same H1 H2 → H2 dd = none → E (.ref (ga K c)) (some dd) (upd H2 dd (.xd [("value", x)]))) → te E σ H1 Q)
    (q : ∀ (R : Addr) (H' : Hp), H' R = some (.lst [.str nm, .str d.shown]) → ExtN H H' → Tabs T H' → Q (.ref R) H') : tLam T (TCg K) te σ H Q := lam_errG k.g hT ok hov hcall q
theorem lam_err {T : List (Addr × PySem.Str)} {te : XK → TE} {σ : L2.St} {Q : VK} {c nm : PySem.Str} (k : KeC K c nm) (hT : Tabs T H) (ok : OkD d) (hov : Ov H x d)
    (hcall : ∀ (H1 : Hp) (E : XK) (Q : VK), ExtN H H1 → (∀ dd, H1 dd = none → E (.ref (ga K c)) (some dd) (upd H1 dd (.xd [("value", x)]))) → te E σ H1 Q)
    (q : ∀ (R : Addr) (H' : Hp), H' R = some (.lst [.str nm, .str d.shown]) → ExtN H H' → Tabs T H' → Q (.ref R) H') : tLam T (TCg K) te σ H Q := lam_errS k hT ok hov (fun H1 E Q e hE => hcall H1 E Q e fun dd hd => hE H1 dd (Same.refl _) hd) q
theorem lam_ok {T : List (Addr × PySem.Str)} {te : XK → TE} {σ : L2.St} {Q : VK} (hT : Tabs T H)
    (hcall : ∀ (H1 : Hp) (E : XK) (Q : VK), ExtN H H1 → (∀ v H', Same H1 H' → Q v H') → te E σ H1 Q)
    (q : ∀ (H' : Hp), ExtN H H' → Tabs T H' → Q .non H') : tLam T (TCg K) te σ H Q :=
  ⟨hT, fun H1 e1 T1 => hcall H1 _ _ e1 fun v H' s => q H' (e1.trans (Same.toN s)) (T1.ext fun b o z => s _ _ z)⟩
theorem pair_same {R R' : Addr} {nm t : PySem.Str} {Q : VK} (h1 : PySem.PyData.strOk nm = true) (h2 : PySem.PyData.strOk t = true) (a : H R = some (.lst [.str nm, .str t])) (b : H R' = some (.lst [.str nm, .str t])) (q : Q (.bl false) H) : rNeD K (.ref R) (.ref R') H Q :=
  ⟨_, _, dp_pair a, dp_pair b, pair_shaped h1 h2, pair_shaped h1 h2, by rw [pair_eqv]; exact q⟩
theorem caught_is {T : List (Addr × PySem.Str)} {te : XK → TE} {tb : TE} {σ : L2.St} {D : Ends} {c nm : PySem.Str} (k : KeC K c nm) (hn : PySem.PyData.strOk nm = true) (hT : Tabs T H) (ok : OkD d) (hov : Ov H x d)
    (hcall : ∀ (H1 : Hp) (E : XK) (Q : VK), ExtN H H1 → (∀ dd, H1 dd = none → E (.ref (ga K c)) (some dd) (upd H1 dd (.xd [("value", x)]))) → te E σ H1 Q)
    (htb : ∀ (H1 : Hp) (Q : VK), ExtN H H1 → (∀ (R : Addr) (H2 : Hp), Same H1 H2 → H2 R = none → Q (.ref R) (upd H2 R (.lst [.str nm, .str d.shown]))) → tb σ H1 Q)
    (hnx : ∀ H', ExtN H H' → Tabs T H' → D.nx σ H') :
    tIfS (tTest (tOp (rNeD K) (tLam T (TCg K) te) tb)) (tRet (tC (.bl false))) tNext D σ H := by
  refine lam_err k hT ok hov hcall fun R H3 a1 e3 T3 => htb H3 _ e3 fun R2 H4 s4 hR2 => ?_
  have s5 := s4.trans (Same.new (o := .lst [.str nm, .str d.shown]) hR2)
  exact pair_same hn ok.2 (s5 _ _ a1) (updS H4 R2 _) ⟨false, rfl, hnx _ (e3.trans (Same.toN s5)) (T3.ext fun b o z => s5 _ _ z)⟩
theorem lit_repr {i : Nat} {σ : L2.St} {nm : PySem.Str} {Q : VK} (h : σ[i]? = some (some x)) (hv : Ov H x d) (ok : OkD d) (q : ∀ (R : Addr) (H2 : Hp), Same H H2 → H2 R = none → Q (.ref R) (upd H2 R (.lst [.str nm, .str d.shown]))) :
    tLst (tCons (tC (.str nm)) (tCons (tCB (rReprE K) (tCons (tVar i) tNil)) tNil)) σ H Q := ⟨x, h, hv.repr ok ⟨(show 2 ≤ 16777216 by decide), fun R hR => q R H (Same.refl _) hR⟩⟩
end
end Tw
/-! Tw: the law of errors made (k29) -/
namespace Tw
open PySem PySem.Spec PyProof.Rows L2 He TwM StX
open PySem.W (Frag)
local macro_rules | `(tactic| walk_at "rsl") => `(tactic| simp only [*, at3_0, at3_1, at3_2, at2_0, at2_1, updS, upd_two, gSub, L2.rSetL, updN, tPar, tPar3, gTup, gCons, gNil, and_assoc, not_true_eq_false, not_false_eq_true, tNever, List.length_map, tFld, rIxTH, rIxLH, rLenTH, rLenLH, lk1, lfs_g, lfs_s, lfs_p, HO.ins.injEq, HO.tup.injEq, HO.lst.injEq, sp_Book_rounding, sp_Book_action, sp_Book_order, sp_Book_due, sp_Book_zero, sp_Book_beyond, Int.toNat_natCast, sp_visit_after, sp_is_visited, sp_Level_grain, sp_Level_slots, sp_Level_span, sp_Wheel_reach, sp_Wheel___len__, sp_is_integer, sp_is_count, sp_is_within, sp_rounded, tAsg, gName, tVar, tC, tOp, rI, rI0, rU, tUn, oAdd, oSub, oMul, oDiv, oMod, oNeg, oLt, oLe, oGt, oGe, oIsN, oNotN, tFn, tCons, tNil, tIfS, tIf, tTest, tB, tNot, tAnd, tOr, tAndV, tOrV, tNotV,
    tRet, tRetN, tNext, tCB, tDrop, tChain, rEq, rNe, oMax2, oMin2, oInt1, rLenF, L2.start, List.map_cons, List.map_nil, List.length_cons, List.length_nil, List.replicate_succ, List.replicate_zero, List.cons_append, List.nil_append, Nat.reduceAdd, Nat.reduceSub, Nat.zero_add,
    List.set_cons_zero, List.set_cons_succ, List.getElem?_cons_zero, List.getElem?_cons_succ, Option.some.injEq, V.int.injEq, V.ref.injEq, V.str.injEq, V.bl.injEq, exists_eq_left', exists_eq_left, exists_and_left, List.cons.injEq, and_true, true_and, decide_eq_true_eq, sc_ii, sc_ss, sc_bb, sc_ni, sc_in, sc_nn, sc_is, reduceCtorEq,
    Bool.not_eq_true', decide_eq_false_iff_not, if_true, if_false, Bool.false_eq_true, exists_eq', exists_const, false_and, and_false, or_false, false_or, exists_false, Bool.not_not, Bool.not_true, Bool.not_false, sUp_up, sFire_fire, sHigh_high, sPut_put, sZone_now, sBey_refuse, sBey_cut, tTup, tLst, sz0, sz1, sz2, sz3, sz4, sz5, sz6])
local macro_rules | `(tactic| walk_at "st") => `(tactic| ((try dsimp only); rw [seq1]; walk_at "rsl"))
section
variable {K : Frag} {w : World}
def evs : List (PySem.Str × PySem.Str) := [("InvalidNumber", "value"), ("InvalidText", "value"), ("InvalidName", "value"), ("InvalidLevels", "value"), ("InvalidSwitch", "value"), ("InvalidMode", "value"), ("InvalidMenu", "value"), ("InvalidPlan", "value"), ("InvalidCommand", "value"), ("TooLong", "delay"), ("TooMany", "limit")]
structure Kev (K : Frag) : Prop where
  xf : ∀ p ∈ evs, XfC K (ga K p.1) ∧ PySem.W.findIn K (.ref (ga K p.1)) p.2 = some none
  kn : ∀ i x, erN[i]? = some x → KnF K (ga K x) i ∧ KuF K (ga K x) i
theorem EvA.same {H H' : Hp} {a D : Addr} (h : EvA H a D) (s : Same H H') : EvA H' a D := by
  obtain ⟨od, h1, h2⟩ := h
  exact ⟨od, s _ _ h1, fun d e => (h2 d e).imp fun fs z => s _ _ z⟩
theorem fldV {c f : PySem.Str} {i : Nat} {σ : L2.St} {H : Hp} {Q : VK} {x : V} (T : Kev K) (hm : (c, f) ∈ evs) (h0 : σ[i]? = some (some x)) (q : ∀ H', Same H H' → Q x H') : tXfV K f (tMkV (ga K c) f (tVar i)) σ H Q := by
  obtain ⟨h1, h2⟩ := T.xf _ hm
  refine ⟨x, h0, fun a d ha hd hne => ⟨a, ga K c, d, [(f, x)], x, rfl, upd_same, by rw [upd_ne hne]; exact upd_same, h1, h2, by simp [List.lookup], q _ ?_⟩⟩
  exact (Same.new hd).trans (Same.new (by rw [upd_ne (Ne.symm hne)]; exact ha))
theorem fldVK {c f : PySem.Str} {i : Nat} {σ : L2.St} {H : Hp} {Q : VK} {x : V} (T : Kev K) (hm : (c, f) ∈ evs) (h0 : σ[i]? = some (some x)) (q : ∀ H', Same H H' → Q x H') : tXfV K f (tMkVK (ga K c) f (tCons (tVar i) tNil)) σ H Q := by
  obtain ⟨h1, h2⟩ := T.xf _ hm
  refine ⟨x, h0, x, rfl, fun a d ha hd hne => ⟨a, ga K c, d, [(f, x)], x, rfl, upd_same, by rw [upd_ne hne]; exact upd_same, h1, h2, by simp [List.lookup], q _ ?_⟩⟩
  exact (Same.new hd).trans (Same.new (by rw [upd_ne (Ne.symm hne)]; exact ha))
theorem mkV9 {c f : PySem.Str} {i : Nat} {σ : L2.St} {H : Hp} {Q : VK} {x : V} (h0 : σ[i]? = some (some x)) (q : ∀ a H', Same H H' → EvA H' a (ga K c) → Q (.ref a) H') : tMkV (ga K c) f (tVar i) σ H Q := by
  refine ⟨x, h0, fun a d ha hd hne => q a _ ((Same.new hd).trans (Same.new (by rw [upd_ne (Ne.symm hne)]; exact ha))) ⟨some d, upd_same, fun d' e => ?_⟩⟩
  cases e
  exact ⟨_, by rw [upd_ne hne]; exact upd_same⟩
theorem mkV09 {c : PySem.Str} {σ : L2.St} {H : Hp} {Q : VK} (q : ∀ a H', Same H H' → EvA H' a (ga K c) → Q (.ref a) H') : tMkV0 (ga K c) σ H Q := fun a ha => q a _ (Same.new ha) ⟨none, upd_same, fun d e => by cases e⟩
def sp__law_kindV (K : Frag) : Sp := fun vs H Q _ => ∃ (a : Addr) (i : Nat) (x : PySem.Str), vs = [.ref a] ∧ erN[i]? = some x ∧ EvA H a (ga K x) ∧ ∀ H', Same H H' → Q (.str (kdN.getD i "")) H'
def t__law_kindV (K : Frag) (w : World) : TS :=
  (tSeq (tAsg (tLst (tCons (tCB (rIsV K) (tCons (tVar 0) (tCons (tC (.ref (ga K "InvalidNumber"))) tNil))) (tCons (tCB (rIsV K) (tCons (tVar 0) (tCons (tC (.ref (ga K "InvalidText"))) tNil))) (tCons (tCB (rIsV K) (tCons (tVar 0) (tCons (tC (.ref (ga K "InvalidName"))) tNil))) tNil)))) (gName 1))
  (tSeq (tAsg (tOp rCat (tVar 1) (tLst (tCons (tCB (rIsV K) (tCons (tVar 0) (tCons (tC (.ref (ga K "InvalidLevels"))) tNil))) (tCons (tCB (rIsV K) (tCons (tVar 0) (tCons (tC (.ref (ga K "InvalidSwitch"))) tNil))) tNil)))) (gName 1))
  (tSeq (tAsg (tOp rCat (tVar 1) (tLst (tCons (tCB (rIsV K) (tCons (tVar 0) (tCons (tC (.ref (ga K "InvalidMode"))) tNil))) (tCons (tCB (rIsV K) (tCons (tVar 0) (tCons (tC (.ref (ga K "InvalidMenu"))) tNil))) (tCons (tCB (rIsV K) (tCons (tVar 0) (tCons (tC (.ref (ga K "InvalidPlan"))) tNil))) tNil))))) (gName 1))
  (tSeq (tAsg (tOp rCat (tVar 1) (tLst (tCons (tCB (rIsV K) (tCons (tVar 0) (tCons (tC (.ref (ga K "InvalidCommand"))) tNil))) (tCons (tCB (rIsV K) (tCons (tVar 0) (tCons (tC (.ref (ga K "TooLong"))) tNil))) (tCons (tCB (rIsV K) (tCons (tVar 0) (tCons (tC (.ref (ga K "TooMany"))) tNil))) tNil))))) (gName 1))
  (tSeq (tAsg (tOp rCat (tVar 1) (tLst (tCons (tCB (rIsV K) (tCons (tVar 0) (tCons (tC (.ref (ga K "NothingToUndo"))) tNil))) tNil))) (gName 1))
  (tSeq (tIfS (tOr (tTest (tOp rNe (tBM K "list" (rCntF K) (tVar 1) (tCons (tC (.bl true)) tNil)) (tC (.int 1)))) (tTest (tOp rNe (tCB (rIsV K) (tCons (tVar 0) (tCons (tC (.ref (ga K "WheelError"))) tNil))) (tOp oLt (tBM K "list" (rIndex K) (tVar 1) (tCons (tC (.bl true)) tNil)) (tC (.int 9)))))) (tRet (tC (.str "odd"))) tNext)
  (tSeq (tAsg (tLst (tCons (tC (.str "number")) (tCons (tC (.str "text")) (tCons (tC (.str "name")) (tCons (tC (.str "levels")) (tCons (tC (.str "switch")) (tCons (tC (.str "mode")) (tCons (tC (.str "menu")) (tCons (tC (.str "plan")) (tCons (tC (.str "command")) (tCons (tC (.str "long")) (tCons (tC (.str "many")) (tCons (tC (.str "undo")) tNil))))))))))))) (gName 2))
  (tRet (tOp rIxLH (tVar 2) (tBM K "list" (rIndex K) (tVar 1) (tCons (tC (.bl true)) tNil)))))))))))
def n__law_kindV : List Str := ["_law_error", "_law_kinds", "_law_names"]
theorem rd__law_kindV (T : Kev K) (vs : List V) (H : Hp) (Q : VK) (E : XK) (h : sp__law_kindV K vs H Q E) : t__law_kindV K w { nx := fun _ H' => Q .non H', rt := Q } (L2.start n__law_kindV vs) H := by
  obtain ⟨a, i, xc, rfl, hxc, hev, q⟩ := h
  obtain ⟨F, _⟩ := T.kn i xc hxc
  have isP : ∀ (j : Nat) {x : PySem.Str} {H' : Hp} {Q' : VK}, Same H H' → erN[j]? = some x → Q' (.bl (decide (j = i))) H' → rIsV K [.ref a, .ref (ga K x)] H' Q' := fun j {x H' Q'} s e q' => ⟨a, _, _, _, _, F.exc, rfl, hev.same s, fun u r => r, F.is j x e, q'⟩
  have isW : ∀ {H' : Hp} {Q' : VK}, Same H H' → Q' (.bl (decide (i < 9))) H' → rIsV K [.ref a, .ref (ga K "WheelError")] H' Q' := fun {H' Q'} s q' => ⟨a, _, _, _, _, F.exc, rfl, hev.same s, fun u r => r, F.wh, q'⟩
  unfold t__law_kindV n__law_kindV
  rw [seq1]
  walk_at "rsl"
  refine isP 0 (Same.refl _) rfl (isP 1 (Same.refl _) rfl (isP 2 (Same.refl _) rfl fun A hA => ?_))
  have s1 := Same.new (o := .lst [V.bl (decide (0 = i)), V.bl (decide (1 = i)), V.bl (decide (2 = i))]) hA
  have A1 := updS H A (.lst [V.bl (decide (0 = i)), V.bl (decide (1 = i)), V.bl (decide (2 = i))])
  generalize upd H A (.lst [V.bl (decide (0 = i)), V.bl (decide (1 = i)), V.bl (decide (2 = i))]) = H1 at *
  walk_at "st"
  refine isP 3 s1 rfl (isP 4 s1 rfl (fun B hB => ?_))
  refine ⟨A, B, _, _, rfl, rfl, Same.new hB _ _ A1, updS _ _ _, (show 5 ≤ 16777216 by decide), fun C hC => ?_⟩
  have s2 := s1.trans ((Same.new (o := .lst [V.bl (decide (3 = i)), V.bl (decide (4 = i))]) hB).trans (Same.new (o := .lst ([V.bl (decide (0 = i)), V.bl (decide (1 = i)), V.bl (decide (2 = i))] ++ [V.bl (decide (3 = i)), V.bl (decide (4 = i))])) hC))
  have C1 := updS (upd H1 B (.lst [V.bl (decide (3 = i)), V.bl (decide (4 = i))])) C (.lst ([V.bl (decide (0 = i)), V.bl (decide (1 = i)), V.bl (decide (2 = i))] ++ [V.bl (decide (3 = i)), V.bl (decide (4 = i))]))
  generalize upd (upd H1 B (.lst [V.bl (decide (3 = i)), V.bl (decide (4 = i))])) C (.lst ([V.bl (decide (0 = i)), V.bl (decide (1 = i)), V.bl (decide (2 = i))] ++ [V.bl (decide (3 = i)), V.bl (decide (4 = i))])) = H2 at *
  simp only [List.cons_append, List.nil_append] at C1
  walk_at "st"
  refine isP 5 s2 rfl (isP 6 s2 rfl (isP 7 s2 rfl (fun B2 hB2 => ?_)))
  refine ⟨C, B2, _, _, rfl, rfl, Same.new hB2 _ _ C1, updS _ _ _, (show 8 ≤ 16777216 by decide), fun C2 hC2 => ?_⟩
  have s3 := s2.trans ((Same.new (o := .lst [V.bl (decide (5 = i)), V.bl (decide (6 = i)), V.bl (decide (7 = i))]) hB2).trans (Same.new (o := .lst ([V.bl (decide (0 = i)), V.bl (decide (1 = i)), V.bl (decide (2 = i)), V.bl (decide (3 = i)), V.bl (decide (4 = i))] ++ [V.bl (decide (5 = i)), V.bl (decide (6 = i)), V.bl (decide (7 = i))])) hC2))
  have C21 := updS (upd H2 B2 (.lst [V.bl (decide (5 = i)), V.bl (decide (6 = i)), V.bl (decide (7 = i))])) C2 (.lst ([V.bl (decide (0 = i)), V.bl (decide (1 = i)), V.bl (decide (2 = i)), V.bl (decide (3 = i)), V.bl (decide (4 = i))] ++ [V.bl (decide (5 = i)), V.bl (decide (6 = i)), V.bl (decide (7 = i))]))
  generalize upd (upd H2 B2 (.lst [V.bl (decide (5 = i)), V.bl (decide (6 = i)), V.bl (decide (7 = i))])) C2 (.lst ([V.bl (decide (0 = i)), V.bl (decide (1 = i)), V.bl (decide (2 = i)), V.bl (decide (3 = i)), V.bl (decide (4 = i))] ++ [V.bl (decide (5 = i)), V.bl (decide (6 = i)), V.bl (decide (7 = i))])) = H3 at *
  simp only [List.cons_append, List.nil_append] at C21
  walk_at "st"
  refine isP 8 s3 rfl (isP 9 s3 rfl (isP 10 s3 rfl (fun B3 hB3 => ?_)))
  refine ⟨C2, B3, _, _, rfl, rfl, Same.new hB3 _ _ C21, updS _ _ _, (show 11 ≤ 16777216 by decide), fun C3 hC3 => ?_⟩
  have s4 := s3.trans ((Same.new (o := .lst [V.bl (decide (8 = i)), V.bl (decide (9 = i)), V.bl (decide (10 = i))]) hB3).trans (Same.new (o := .lst ([V.bl (decide (0 = i)), V.bl (decide (1 = i)), V.bl (decide (2 = i)), V.bl (decide (3 = i)), V.bl (decide (4 = i)), V.bl (decide (5 = i)), V.bl (decide (6 = i)), V.bl (decide (7 = i))] ++ [V.bl (decide (8 = i)), V.bl (decide (9 = i)), V.bl (decide (10 = i))])) hC3))
  have C31 := updS (upd H3 B3 (.lst [V.bl (decide (8 = i)), V.bl (decide (9 = i)), V.bl (decide (10 = i))])) C3 (.lst ([V.bl (decide (0 = i)), V.bl (decide (1 = i)), V.bl (decide (2 = i)), V.bl (decide (3 = i)), V.bl (decide (4 = i)), V.bl (decide (5 = i)), V.bl (decide (6 = i)), V.bl (decide (7 = i))] ++ [V.bl (decide (8 = i)), V.bl (decide (9 = i)), V.bl (decide (10 = i))]))
  generalize upd (upd H3 B3 (.lst [V.bl (decide (8 = i)), V.bl (decide (9 = i)), V.bl (decide (10 = i))])) C3 (.lst ([V.bl (decide (0 = i)), V.bl (decide (1 = i)), V.bl (decide (2 = i)), V.bl (decide (3 = i)), V.bl (decide (4 = i)), V.bl (decide (5 = i)), V.bl (decide (6 = i)), V.bl (decide (7 = i))] ++ [V.bl (decide (8 = i)), V.bl (decide (9 = i)), V.bl (decide (10 = i))])) = H4 at *
  simp only [List.cons_append, List.nil_append] at C31
  walk_at "st"
  refine isP 11 s4 rfl (fun B4 hB4 => ?_)
  refine ⟨C3, B4, _, _, rfl, rfl, Same.new hB4 _ _ C31, updS _ _ _, (show 12 ≤ 16777216 by decide), fun C4 hC4 => ?_⟩
  have s5 := s4.trans ((Same.new (o := .lst [V.bl (decide (11 = i))]) hB4).trans (Same.new (o := .lst ([V.bl (decide (0 = i)), V.bl (decide (1 = i)), V.bl (decide (2 = i)), V.bl (decide (3 = i)), V.bl (decide (4 = i)), V.bl (decide (5 = i)), V.bl (decide (6 = i)), V.bl (decide (7 = i)), V.bl (decide (8 = i)), V.bl (decide (9 = i)), V.bl (decide (10 = i))] ++ [V.bl (decide (11 = i))])) hC4))
  have C41 := updS (upd H4 B4 (.lst [V.bl (decide (11 = i))])) C4 (.lst ([V.bl (decide (0 = i)), V.bl (decide (1 = i)), V.bl (decide (2 = i)), V.bl (decide (3 = i)), V.bl (decide (4 = i)), V.bl (decide (5 = i)), V.bl (decide (6 = i)), V.bl (decide (7 = i)), V.bl (decide (8 = i)), V.bl (decide (9 = i)), V.bl (decide (10 = i))] ++ [V.bl (decide (11 = i))]))
  generalize upd (upd H4 B4 (.lst [V.bl (decide (11 = i))])) C4 (.lst ([V.bl (decide (0 = i)), V.bl (decide (1 = i)), V.bl (decide (2 = i)), V.bl (decide (3 = i)), V.bl (decide (4 = i)), V.bl (decide (5 = i)), V.bl (decide (6 = i)), V.bl (decide (7 = i)), V.bl (decide (8 = i)), V.bl (decide (9 = i)), V.bl (decide (10 = i))] ++ [V.bl (decide (11 = i))])) = H5 at *
  simp only [List.cons_append, List.nil_append] at C41
  have hi := F.lt
  have hi : i = 0 ∨ i = 1 ∨ i = 2 ∨ i = 3 ∨ i = 4 ∨ i = 5 ∨ i = 6 ∨ i = 7 ∨ i = 8 ∨ i = 9 ∨ i = 10 ∨ i = 11 := by omega
  have ix : ∀ {H' : Hp} {Q' : VK}, Same H5 H' → Q' (.int (i : Nat)) H' → rIndex K (.ref C4) [.bl true] H' Q' := fun {H' Q'} s q' => by
    refine ⟨C4, _, .bl true, i, .bl true, rfl, rfl, SqL.of (s _ _ C41), rfl, rfl, ?_, rfl, fun m z hm hz => ?_, q'⟩
    · rcases hi with rfl | rfl | rfl | rfl | rfl | rfl | rfl | rfl | rfl | rfl | rfl | rfl <;> rfl
    · have hb : z = .bl (decide (m = i)) := by
        have hm9 : m = 0 ∨ m = 1 ∨ m = 2 ∨ m = 3 ∨ m = 4 ∨ m = 5 ∨ m = 6 ∨ m = 7 ∨ m = 8 ∨ m = 9 ∨ m = 10 := by omega
        rcases hm9 with rfl | rfl | rfl | rfl | rfl | rfl | rfl | rfl | rfl | rfl | rfl <;> exact (Option.some.inj hz).symm
      rw [hb, decide_eq_false (by omega)]
      rfl
  have ct : ∀ {Q' : VK}, Q' (.int 1) H5 → rCntF K (.ref C4) [.bl true] H5 Q' := fun {Q'} q' => by
    refine ⟨C4, _, .bl true, rfl, rfl, SqL.of C41, rfl, rfl, ?_⟩
    have e : ([V.bl (decide (0 = i)), V.bl (decide (1 = i)), V.bl (decide (2 = i)), V.bl (decide (3 = i)), V.bl (decide (4 = i)), V.bl (decide (5 = i)), V.bl (decide (6 = i)), V.bl (decide (7 = i)), V.bl (decide (8 = i)), V.bl (decide (9 = i)), V.bl (decide (10 = i)), V.bl (decide (11 = i))] : List V).countP (fun z => eqV z (.bl true)) = 1 := by
      rcases hi with rfl | rfl | rfl | rfl | rfl | rfl | rfl | rfl | rfl | rfl | rfl | rfl <;> decide
    rw [e]
    exact q'
  have nm : kdN[i]? = some (kdN.getD i "") := by
    rcases hi with rfl | rfl | rfl | rfl | rfl | rfl | rfl | rfl | rfl | rfl | rfl | rfl <;> rfl
  unfold tBM
  walk_at "st"
  refine ⟨.inl ⟨rfl, _, SqL.of C41⟩, ct ⟨rfl, ?_⟩⟩
  rw [if_neg (fun z => z rfl)]
  refine isW s5 ⟨.inl ⟨rfl, _, SqL.of C41⟩, ix (Same.refl _) ⟨_, rfl, rfl, ?_⟩⟩
  have hlt : decide (((i : Nat) : Int) < 9) = decide (i < 9) := by
    by_cases h9 : i < 9
    · rw [decide_eq_true h9, decide_eq_true (show ((i : Nat) : Int) < 9 by omega)]
    · rw [decide_eq_false h9, decide_eq_false (show ¬ ((i : Nat) : Int) < 9 by omega)]
  rw [hlt, if_neg (fun z => z rfl)]
  walk_at "st"
  have h12 : (12 : Nat) ≤ sizeLine := by decide
  refine ⟨h12, fun L hL => ?_⟩
  have x6 := Same.new (o := .lst [V.str (Str.ofString "number"), V.str (Str.ofString "text"), V.str (Str.ofString "name"), V.str (Str.ofString "levels"), V.str (Str.ofString "switch"), V.str (Str.ofString "mode"), V.str (Str.ofString "menu"), V.str (Str.ofString "plan"), V.str (Str.ofString "command"), V.str (Str.ofString "long"), V.str (Str.ofString "many"), V.str (Str.ofString "undo")]) hL
  refine ⟨.inl ⟨rfl, _, SqL.of (x6 _ _ C41)⟩, ix x6 ⟨_, _, rfl, updS _ _ _, _, ?_, q _ (s5.trans x6)⟩⟩
  rcases hi with rfl | rfl | rfl | rfl | rfl | rfl | rfl | rfl | rfl | rfl | rfl | rfl <;> rfl
theorem catV {p q : Addr} {xs ys : List V} {H : Hp} {Q : VK} (hp : H p = some (.lst xs)) (hq : H q = some (.lst ys)) (hz : xs.length + ys.length ≤ 1000) (k : ∀ r H', Same H H' → H r = none → H' r = some (.lst (xs ++ ys)) → Q (.ref r) H') : rCat (.ref p) (.ref q) H Q :=
  ⟨p, q, _, _, rfl, rfl, hp, hq, (by have : sizeLine = 16777216 := rfl; omega), fun r hr => k r _ (Same.new hr) hr upd_same⟩
theorem inev {c f : PySem.Str} (h : (evs.contains (c, f)) = true) : (c, f) ∈ evs := List.contains_iff_mem.mp h
def sp__law_fields (K : Frag) : Sp := fun vs H Q _ => ∃ x : V, vs = [x] ∧ ∀ L H', Same H H' → H' L = some (.lst (List.replicate 11 x)) → Q (.ref L) H'
def t__law_fields (K : Frag) (w : World) : TS :=
  (tSeq (tAsg (tLst (tCons (tXfV K "value" (tMkV (ga K "InvalidNumber") "value" (tVar 0))) (tCons (tXfV K "value" (tMkV (ga K "InvalidText") "value" (tVar 0))) (tCons (tXfV K "value" (tMkV (ga K "InvalidName") "value" (tVar 0))) tNil)))) (gName 1))
  (tSeq (tAsg (tOp rCat (tVar 1) (tLst (tCons (tXfV K "value" (tMkV (ga K "InvalidLevels") "value" (tVar 0))) (tCons (tXfV K "value" (tMkV (ga K "InvalidSwitch") "value" (tVar 0))) (tCons (tXfV K "value" (tMkV (ga K "InvalidMode") "value" (tVar 0))) tNil))))) (gName 1))
  (tSeq (tAsg (tOp rCat (tVar 1) (tLst (tCons (tXfV K "value" (tMkV (ga K "InvalidMenu") "value" (tVar 0))) (tCons (tXfV K "value" (tMkV (ga K "InvalidPlan") "value" (tVar 0))) (tCons (tXfV K "value" (tMkV (ga K "InvalidCommand") "value" (tVar 0))) tNil))))) (gName 1))
  (tRet (tOp rCat (tVar 1) (tLst (tCons (tXfV K "delay" (tMkV (ga K "TooLong") "delay" (tVar 0))) (tCons (tXfV K "limit" (tMkV (ga K "TooMany") "limit" (tVar 0))) tNil))))))))
def n__law_fields : List Str := ["_law_thing", "_law_found"]
theorem rd__law_fields (T : Kev K) (vs : List V) (H : Hp) (Q : VK) (E : XK) (h : sp__law_fields K vs H Q E) : t__law_fields K w { nx := fun _ H' => Q .non H', rt := Q } (L2.start n__law_fields vs) H := by
  obtain ⟨x, rfl, q⟩ := h
  have ii : ∀ {c f : PySem.Str}, evs.contains (c, f) = true → (c, f) ∈ evs := inev
  unfold t__law_fields n__law_fields
  rw [seq1]
  walk_at "rsl"
  refine fldV T (inev (by decide +kernel)) rfl fun H1 s1 => fldV T (inev (by decide +kernel)) rfl fun H2 s2 => fldV T (inev (by decide +kernel)) rfl fun H3 s3 A hA => ?_
  have sA := s1.trans (s2.trans (s3.trans (Same.new (o := .lst [x, x, x]) hA)))
  have gA := updS H3 A (.lst [x, x, x])
  generalize upd H3 A (.lst [x, x, x]) = H4 at *
  rw [seq1]
  walk_at "rsl"
  refine fldV T (inev (by decide +kernel)) rfl fun H5 s5 => fldV T (inev (by decide +kernel)) rfl fun H6 s6 => fldV T (inev (by decide +kernel)) rfl fun H7 s7 => ?_
  refine fun B hB => catV (xs := [x, x, x]) (ys := [x, x, x]) (Same.new hB _ _ ((s5.trans (s6.trans s7)) _ _ gA)) (updS _ _ _) (show 6 ≤ 1000 by decide) fun C H8 s8 _ gC => ?_
  have sC := sA.trans (s5.trans (s6.trans (s7.trans ((Same.new (o := .lst [x, x, x]) hB).trans s8))))
  rw [seq1]
  walk_at "rsl"
  refine fldV T (inev (by decide +kernel)) rfl fun H1 s1 => fldV T (inev (by decide +kernel)) rfl fun H2 s2 => fldV T (inev (by decide +kernel)) rfl fun H3 s3 A2 hA2 => ?_
  refine catV (xs := [x, x, x] ++ [x, x, x]) (ys := [x, x, x]) (Same.new hA2 _ _ ((s1.trans (s2.trans s3)) _ _ gC)) (updS _ _ _) (show 9 ≤ 1000 by decide) fun D H9 s9 _ gD => ?_
  have sD := sC.trans (s1.trans (s2.trans (s3.trans ((Same.new (o := .lst [x, x, x]) hA2).trans s9))))
  refine fldV (c := "TooLong") (f := "delay") T (inev (by decide +kernel)) rfl fun H1 s1 => fldV (c := "TooMany") (f := "limit") T (inev (by decide +kernel)) rfl fun H2 s2 B2 hB2 => ?_
  refine catV (xs := [x, x, x] ++ [x, x, x] ++ [x, x, x]) (ys := [x, x]) (Same.new hB2 _ _ ((s1.trans s2) _ _ gD)) (updS _ _ _) (show 11 ≤ 1000 by decide) fun L H10 s10 _ gL => ?_
  exact q L H10 (sD.trans (s1.trans (s2.trans ((Same.new (o := .lst [x, x]) hB2).trans s10)))) gL
def sp__law_named_fields (K : Frag) : Sp := fun vs H Q _ => ∃ x : V, vs = [x] ∧ ∀ L H', Same H H' → H' L = some (.lst (List.replicate 11 x)) → Q (.ref L) H'
def t__law_named_fields (K : Frag) (w : World) : TS :=
  (tSeq (tAsg (tLst (tCons (tXfV K "value" (tMkVK (ga K "InvalidNumber") "value" (tCons (tVar 0) tNil))) (tCons (tXfV K "value" (tMkVK (ga K "InvalidText") "value" (tCons (tVar 0) tNil))) (tCons (tXfV K "value" (tMkVK (ga K "InvalidName") "value" (tCons (tVar 0) tNil))) tNil)))) (gName 1))
  (tSeq (tAsg (tOp rCat (tVar 1) (tLst (tCons (tXfV K "value" (tMkVK (ga K "InvalidLevels") "value" (tCons (tVar 0) tNil))) (tCons (tXfV K "value" (tMkVK (ga K "InvalidSwitch") "value" (tCons (tVar 0) tNil))) tNil)))) (gName 1))
  (tSeq (tAsg (tOp rCat (tVar 1) (tLst (tCons (tXfV K "value" (tMkVK (ga K "InvalidMode") "value" (tCons (tVar 0) tNil))) (tCons (tXfV K "value" (tMkVK (ga K "InvalidMenu") "value" (tCons (tVar 0) tNil))) (tCons (tXfV K "value" (tMkVK (ga K "InvalidPlan") "value" (tCons (tVar 0) tNil))) tNil))))) (gName 1))
  (tRet (tOp rCat (tVar 1) (tLst (tCons (tXfV K "value" (tMkVK (ga K "InvalidCommand") "value" (tCons (tVar 0) tNil))) (tCons (tXfV K "delay" (tMkVK (ga K "TooLong") "delay" (tCons (tVar 0) tNil))) (tCons (tXfV K "limit" (tMkVK (ga K "TooMany") "limit" (tCons (tVar 0) tNil))) tNil)))))))))
def n__law_named_fields : List Str := ["_law_thing", "_law_found"]
theorem rd__law_named_fields (T : Kev K) (vs : List V) (H : Hp) (Q : VK) (E : XK) (h : sp__law_named_fields K vs H Q E) : t__law_named_fields K w { nx := fun _ H' => Q .non H', rt := Q } (L2.start n__law_named_fields vs) H := by
  obtain ⟨x, rfl, q⟩ := h
  unfold t__law_named_fields n__law_named_fields
  rw [seq1]
  walk_at "rsl"
  refine fldVK T (inev (by decide +kernel)) rfl fun H1 s1 => fldVK T (inev (by decide +kernel)) rfl fun H2 s2 => fldVK T (inev (by decide +kernel)) rfl fun H3 s3 A hA => ?_
  have sA := s1.trans (s2.trans (s3.trans (Same.new (o := .lst [x, x, x]) hA)))
  have gA := updS H3 A (.lst [x, x, x])
  generalize upd H3 A (.lst [x, x, x]) = H4 at *
  rw [seq1]
  walk_at "rsl"
  refine fldVK T (inev (by decide +kernel)) rfl fun H5 s5 => fldVK T (inev (by decide +kernel)) rfl fun H6 s6 => ?_
  refine fun B hB => catV (xs := [x, x, x]) (ys := [x, x]) (Same.new hB _ _ ((s5.trans s6) _ _ gA)) (updS _ _ _) (show 5 ≤ 1000 by decide) fun C H8 s8 _ gC => ?_
  have sC := sA.trans (s5.trans (s6.trans ((Same.new (o := .lst [x, x]) hB).trans s8)))
  rw [seq1]
  walk_at "rsl"
  refine fldVK T (inev (by decide +kernel)) rfl fun H1 s1 => fldVK T (inev (by decide +kernel)) rfl fun H2 s2 => fldVK T (inev (by decide +kernel)) rfl fun H3 s3 A2 hA2 => ?_
  refine catV (xs := [x, x, x] ++ [x, x]) (ys := [x, x, x]) (Same.new hA2 _ _ ((s1.trans (s2.trans s3)) _ _ gC)) (updS _ _ _) (show 8 ≤ 1000 by decide) fun D H9 s9 _ gD => ?_
  have sD := sC.trans (s1.trans (s2.trans (s3.trans ((Same.new (o := .lst [x, x, x]) hA2).trans s9))))
  refine fldVK (c := "InvalidCommand") (f := "value") T (inev (by decide +kernel)) rfl fun H1 s1 => fldVK (c := "TooLong") (f := "delay") T (inev (by decide +kernel)) rfl fun H2 s2 => fldVK (c := "TooMany") (f := "limit") T (inev (by decide +kernel)) rfl fun H3 s3 B2 hB2 => ?_
  refine catV (xs := [x, x, x] ++ [x, x] ++ [x, x, x]) (ys := [x, x, x]) (Same.new hB2 _ _ ((s1.trans (s2.trans s3)) _ _ gD)) (updS _ _ _) (show 11 ≤ 1000 by decide) fun L H10 s10 _ gL => ?_
  exact q L H10 (sD.trans (s1.trans (s2.trans (s3.trans ((Same.new (o := .lst [x, x, x]) hB2).trans s10))))) gL
theorem lcL9 {td te : TE} {j : Nat} {a : Addr} {xs F : List V} {σ : L2.St} {H : Hp} {Q : VK} (hF : F.length = xs.length) (hd : ∀ R : VK, R (.ref a) H → td σ H R) (hz : xs.length ≤ 1000000) (hl : ∀ H', Same H H' → SqL K H' a xs)
    (st : ∀ (k : Nat) (x y : V) (H' : Hp) (R : VK), xs[k]? = some x → F[k]? = some y → Same H H' → (∀ H'', Same H' H'' → R y H'') → te ((wipe σ [j]).set j (some x)) H' R)
    (q : ∀ D H', Same H H' → H' D = some (.lst F) → Q (.ref D) H') : tLc (iList K td) (gName j) tYes te [j] σ H Q := by
  refine hd _ ⟨a, rfl, ⟨xs, hl H (Same.refl _)⟩, fun D hD => lc_list (K := K) (a := a) (xs := xs) (fun k H' => Same H H' ∧ H' D = some (.lst (F.take k))) ⟨Same.new hD, upd_same⟩ (fun k H' _ z => hl H' z.1) ?_ ?_⟩
  · rintro k x H1 hx ⟨s1, h1⟩
    have hk := (List.getElem?_eq_some_iff.mp hx).1
    obtain ⟨y, hy⟩ : ∃ y, F[k]? = some y := ⟨_, List.getElem?_eq_getElem (by omega)⟩
    rw [gName1]
    refine ⟨?_, ?_⟩
    · show ((σ.set j none).set j (some x)).set j none = σ.set j none
      rw [List.set_set, List.set_set]
    unfold tYes
    dsimp only
    rw [if_pos rfl]
    refine st k x y H1 _ hx hy s1 fun H2 s2 => ⟨_, s2 _ _ h1, ?_, Same.updN (s1.trans s2) hD, by rw [upd_same, List.take_add_one, hy]; rfl⟩
    rw [List.length_take]
    have : sizeLine = 16777216 := rfl
    omega
  · rintro H1 ⟨s1, h1⟩
    rw [← hF, List.take_length] at h1
    exact q D H1 s1 h1
theorem if9 {c : TT} {A B : TS} {D : Ends} {σ : L2.St} {H : Hp} (hc : ∀ Q : Bool → Hp → Prop, (∀ H', Same H H' → Q false H') → c σ H Q) (h0 : ∀ H', Same H H' → B D σ H') : tIfS c A B D σ H := by
  refine hc _ fun H' s => ?_
  exact h0 H' s
theorem dpB (K : Frag) (H : Hp) : ∀ bs : List Bool, DpAll K H (bs.map V.bl) (bs.map PyData.bool)
  | [] => .nil
  | b :: bs => .cons (.bl b) (dpB K H bs)
theorem dpS (K : Frag) (H : Hp) : ∀ bs : List PySem.Str, DpAll K H (bs.map V.str) (bs.map PyData.str)
  | [] => .nil
  | b :: bs => .cons (.str b) (dpS K H bs)
theorem repB {b : Bool} {k : Int} {σ : L2.St} {H : Hp} {R : VK} (h0 : 0 ≤ k) (h1 : k ≤ 100) (h : ∀ L H', Same H H' → H' L = some (.lst (List.replicate k.toNat (V.bl b))) → R (.ref L) H') : (tOp rRep (tLst (tCons (tC (.bl b)) tNil)) (tC (.int k))) σ H R := by
  refine ⟨(show 1 ≤ 16777216 by decide), fun l hl => ⟨l, k, [V.bl b], rfl, rfl, updS _ _ _, by omega, by omega, ?_, fun p hp => ?_⟩⟩
  · have : sizeLine = 16777216 := rfl
    show 1 * k.toNat ≤ _
    omega
  · have e : (List.replicate k.toNat [V.bl b]).flatten = List.replicate k.toNat (V.bl b) := by simp
    rw [e]
    exact h p _ ((Same.new (o := .lst [V.bl b]) hl).trans (Same.new hp)) upd_same
def Hall9 (K : Frag) (vs : List V) (H : Hp) : Prop := ∀ (i : Nat) (v : V), vs[i]? = some v → ∃ a x, v = .ref a ∧ erN[i]? = some x ∧ EvA H a (ga K x)
theorem Hall9.same {vs : List V} {H H' : Hp} (h : Hall9 K vs H) (s : Same H H') : Hall9 K vs H' := fun i v hv => by
  obtain ⟨a, x, e1, e2, e3⟩ := h i v hv
  exact ⟨a, x, e1, e2, e3.same s⟩
theorem cmp9 {c : V} {cv : Value} {M : Addr} {vs : List V} {bs : List Bool} {rhs : TE} {A B : TS} {D : Ends} {x : V} {H : Hp} (T : Kev K) (gM : H M = some (.lst vs)) (len : vs.length = 12) (hb : bs.length = 12) (sh : SeqAt.shaped (.list (bs.map PyData.bool)) = true) (eq : PyData.eqv (.list (bs.map PyData.bool)) (.list (bs.map PyData.bool)) = true) (hc : ∀ u, L2.RelV c u → u = cv)
    (hall : Hall9 K vs H) (hk : ∀ (i : Nat) (x : PySem.Str) (b : Bool), erN[i]? = some x → bs[i]? = some b → PySem.W.kitOne K (.ref (ga K x)) cv = some b)
    (hr : ∀ H' R, Same H H' → (∀ L H'', Same H' H'' → H'' L = some (.lst (bs.map V.bl)) → R (.ref L) H'') → rhs [some x, some (V.ref M), none] H' R) (h0 : ∀ H', Same H H' → B D [some x, some (V.ref M), none] H') :
    tIfS (tTest (tOp (rNeD K) (tLc (iList K (tVar 1)) (gName 2) tYes (tCB (rIsV K) (tCons (tVar 2) (tCons (tC c) tNil))) [2]) rhs)) A B D [some x, some (V.ref M), none] H := by
  refine if9 (fun Q' hq => ?_) h0
  unfold tTest tOp
  refine lcL9 (td := tVar 1) (te := tCB (rIsV K) (tCons (tVar 2) (tCons (tC c) tNil))) (j := 2) (a := M) (xs := vs) (F := bs.map V.bl) (by rw [List.length_map, hb, len]) (fun R h => ⟨_, rfl, h⟩) (by omega) (fun H' s => SqL.of (s _ _ gM)) (fun k v y H' R hv hy s hR => ?_) (fun L H' s hL => ?_)
  · obtain ⟨a, xc, rfl, hx, hev⟩ := hall k v hv
    obtain ⟨F, _⟩ := T.kn k xc hx
    rw [List.getElem?_map] at hy
    cases e : bs[k]? with
    | none => rw [e] at hy; cases hy
    | some b =>
      rw [e] at hy
      cases hy
      exact ⟨_, rfl, a, _, c, cv, b, F.exc, rfl, hev.same s, hc, hk k xc b hx e, hR H' (Same.refl _)⟩
  · refine hr H' _ s fun L2 H'' s2 hL2 => ?_
    refine ⟨.list (bs.map PyData.bool), .list (bs.map PyData.bool), .lst (SqL.of (s2 _ _ hL)) (dpB K _ bs), .lst (SqL.of hL2) (dpB K _ bs), sh, sh, false, ?_, hq _ (s.trans s2)⟩
    rw [eq]
    rfl
def sp__law_classes (K : Frag) : Sp := fun vs H Q _ => ∃ x : V, vs = [x] ∧ ∀ L H', Same H H' → H' L = some (.lst (kdN.map V.str)) → Q (.ref L) H'
def t__law_classes (K : Frag) (w : World) : TS :=
  (tSeq (tAsg (tLst (tCons (tMkV (ga K "InvalidNumber") "value" (tVar 0)) (tCons (tMkV (ga K "InvalidText") "value" (tVar 0)) (tCons (tMkV (ga K "InvalidName") "value" (tVar 0)) (tCons (tMkV (ga K "InvalidLevels") "value" (tVar 0)) (tCons (tMkV (ga K "InvalidSwitch") "value" (tVar 0)) tNil)))))) (gName 1))
  (tSeq (tAsg (tOp rCat (tVar 1) (tLst (tCons (tMkV (ga K "InvalidMode") "value" (tVar 0)) (tCons (tMkV (ga K "InvalidMenu") "value" (tVar 0)) (tCons (tMkV (ga K "InvalidPlan") "value" (tVar 0)) (tCons (tMkV (ga K "InvalidCommand") "value" (tVar 0)) tNil)))))) (gName 1))
  (tSeq (tAsg (tOp rCat (tVar 1) (tLst (tCons (tMkV (ga K "TooLong") "delay" (tVar 0)) (tCons (tMkV (ga K "TooMany") "limit" (tVar 0)) (tCons (tMkV0 (ga K "NothingToUndo")) tNil))))) (gName 1))
  (tSeq (tIfS (tTest (tOp (rNeD K) (tLc (iList K (tVar 1)) (gName 2) tYes (tCB (rIsV K) (tCons (tVar 2) (tCons (tC (.ref (ga K "WheelError"))) tNil))) [2]) (tOp rCat (tOp rRep (tLst (tCons (tC (.bl true)) tNil)) (tC (.int 9))) (tOp rRep (tLst (tCons (tC (.bl false)) tNil)) (tC (.int 3)))))) (tRet (tLst tNil)) tNext)
  (tSeq (tIfS (tTest (tOp (rNeD K) (tLc (iList K (tVar 1)) (gName 2) tYes (tCB (rIsV K) (tCons (tVar 2) (tCons (tC (.ty "ValueError")) tNil))) [2]) (tOp rCat (tOp rRep (tLst (tCons (tC (.bl true)) tNil)) (tC (.int 9))) (tOp rRep (tLst (tCons (tC (.bl false)) tNil)) (tC (.int 3)))))) (tRet (tLst tNil)) tNext)
  (tSeq (tIfS (tTest (tOp (rNeD K) (tLc (iList K (tVar 1)) (gName 2) tYes (tCB (rIsV K) (tCons (tVar 2) (tCons (tC (.ty "OverflowError")) tNil))) [2]) (tOp rCat (tOp rRep (tLst (tCons (tC (.bl false)) tNil)) (tC (.int 9))) (tLst (tCons (tC (.bl true)) (tCons (tC (.bl true)) (tCons (tC (.bl false)) tNil))))))) (tRet (tLst tNil)) tNext)
  (tSeq (tIfS (tTest (tOp (rNeD K) (tLc (iList K (tVar 1)) (gName 2) tYes (tCB (rIsV K) (tCons (tVar 2) (tCons (tC (.ty "LookupError")) tNil))) [2]) (tOp rCat (tOp rRep (tLst (tCons (tC (.bl false)) tNil)) (tC (.int 11))) (tLst (tCons (tC (.bl true)) tNil))))) (tRet (tLst tNil)) tNext)
  (tRet (tLc (iList K (tVar 1)) (gName 2) tYes (tFn (sp__law_kindV K) E0 (tCons (tVar 2) tNil)) [2])))))))))
def n__law_classes : List Str := ["_law_thing", "_law_found", "_law_one"]
theorem rd__law_classes (T : Kev K) (vs : List V) (H : Hp) (Q : VK) (E : XK) (h : sp__law_classes K vs H Q E) : t__law_classes K w { nx := fun _ H' => Q .non H', rt := Q } (L2.start n__law_classes vs) H := by
  obtain ⟨x, rfl, q⟩ := h
  unfold t__law_classes n__law_classes
  rw [seq1]
  walk_at "rsl"
  refine mkV9 rfl fun a0 H1 s1 e0 => mkV9 rfl fun a1 H2 s2 e1 => mkV9 rfl fun a2 H3 s3 e2 => mkV9 rfl fun a3 H4 s4 e3 => mkV9 rfl fun a4 H5 s5 e4 A hA => ?_
  have s35 := s4.trans s5
  have t4 := s5.trans (Same.new (o := .lst [V.ref a0, .ref a1, .ref a2, .ref a3, .ref a4]) hA)
  have t3 := s4.trans t4
  have t2 := s3.trans t3
  have t1 := s2.trans t2
  have sA := s1.trans t1
  have gA := updS H5 A (.lst [V.ref a0, .ref a1, .ref a2, .ref a3, .ref a4])
  replace e0 := e0.same t1
  replace e1 := e1.same t2
  replace e2 := e2.same t3
  replace e3 := e3.same t4
  replace e4 := e4.same (Same.new (o := .lst [V.ref a0, .ref a1, .ref a2, .ref a3, .ref a4]) hA)
  generalize upd H5 A (.lst [V.ref a0, .ref a1, .ref a2, .ref a3, .ref a4]) = HA at *
  clear s1 s2 s3 s4 s5 s35 t1 t2 t3 t4
  rw [seq1]
  walk_at "rsl"
  refine mkV9 rfl fun a5 H1 s1 e5 => mkV9 rfl fun a6 H2 s2 e6 => mkV9 rfl fun a7 H3 s3 e7 => mkV9 rfl fun a8 H4 s4 e8 B hB => ?_
  refine catV (xs := [V.ref a0, .ref a1, .ref a2, .ref a3, .ref a4]) (ys := [V.ref a5, .ref a6, .ref a7, .ref a8]) (Same.new hB _ _ ((s1.trans (s2.trans (s3.trans s4))) _ _ gA)) (updS _ _ _) (show 9 ≤ 1000 by decide) fun C H5 s5 _ gC => ?_
  have t4 := (Same.new (o := .lst [V.ref a5, .ref a6, .ref a7, .ref a8]) hB).trans s5
  have t3 := s4.trans t4
  have t2 := s3.trans t3
  have t1 := s2.trans t2
  have t0 := s1.trans t1
  have sC := sA.trans t0
  replace e0 := e0.same t0
  replace e1 := e1.same t0
  replace e2 := e2.same t0
  replace e3 := e3.same t0
  replace e4 := e4.same t0
  replace e5 := e5.same t1
  replace e6 := e6.same t2
  replace e7 := e7.same t3
  replace e8 := e8.same t4
  clear s1 s2 s3 s4 t0 t1 t2 t3 t4 hB sA gA
  rw [seq1]
  walk_at "rsl"
  refine mkV9 rfl fun a9 H1 s1 e9 => mkV9 rfl fun a10 H2 s2 e10 => mkV09 fun a11 H3 s3 e11 D hD => ?_
  refine catV (xs := [V.ref a0, .ref a1, .ref a2, .ref a3, .ref a4] ++ [V.ref a5, .ref a6, .ref a7, .ref a8]) (ys := [V.ref a9, .ref a10, .ref a11]) (Same.new hD _ _ ((s1.trans (s2.trans s3)) _ _ gC)) (updS _ _ _) (show 12 ≤ 1000 by decide) fun M H4 s4 _ gM => ?_
  have t3 := (Same.new (o := .lst [V.ref a9, .ref a10, .ref a11]) hD).trans s4
  have t2 := s3.trans t3
  have t1 := s2.trans t2
  have t0 := s1.trans t1
  have sM := sC.trans t0
  replace e0 := e0.same t0
  replace e1 := e1.same t0
  replace e2 := e2.same t0
  replace e3 := e3.same t0
  replace e4 := e4.same t0
  replace e5 := e5.same t0
  replace e6 := e6.same t0
  replace e7 := e7.same t0
  replace e8 := e8.same t0
  replace e9 := e9.same t1
  replace e10 := e10.same t2
  replace e11 := e11.same t3
  clear s1 s2 s3 s4 t0 t1 t2 t3 hD sC gC s5
  have hall : ∀ (i : Nat) (v : V), ([V.ref a0, .ref a1, .ref a2, .ref a3, .ref a4] ++ [V.ref a5, .ref a6, .ref a7, .ref a8] ++ [V.ref a9, .ref a10, .ref a11])[i]? = some v → ∃ a x, v = .ref a ∧ erN[i]? = some x ∧ EvA H4 a (ga K x) := fun i v hv => by
    match i, hv with
    | 0, hv => cases hv; exact ⟨_, _, rfl, rfl, e0⟩
    | 1, hv => cases hv; exact ⟨_, _, rfl, rfl, e1⟩
    | 2, hv => cases hv; exact ⟨_, _, rfl, rfl, e2⟩
    | 3, hv => cases hv; exact ⟨_, _, rfl, rfl, e3⟩
    | 4, hv => cases hv; exact ⟨_, _, rfl, rfl, e4⟩
    | 5, hv => cases hv; exact ⟨_, _, rfl, rfl, e5⟩
    | 6, hv => cases hv; exact ⟨_, _, rfl, rfl, e6⟩
    | 7, hv => cases hv; exact ⟨_, _, rfl, rfl, e7⟩
    | 8, hv => cases hv; exact ⟨_, _, rfl, rfl, e8⟩
    | 9, hv => cases hv; exact ⟨_, _, rfl, rfl, e9⟩
    | 10, hv => cases hv; exact ⟨_, _, rfl, rfl, e10⟩
    | 11, hv => cases hv; exact ⟨_, _, rfl, rfl, e11⟩
    | i + 12, hv => cases hv
  have len : ([V.ref a0, .ref a1, .ref a2, .ref a3, .ref a4] ++ [V.ref a5, .ref a6, .ref a7, .ref a8] ++ [V.ref a9, .ref a10, .ref a11]).length = 12 := rfl
  generalize [V.ref a0, .ref a1, .ref a2, .ref a3, .ref a4] ++ [V.ref a5, .ref a6, .ref a7, .ref a8] ++ [V.ref a9, .ref a10, .ref a11] = vs at *
  clear e0 e1 e2 e3 e4 e5 e6 e7 e8 e9 e10 e11
  rw [seq1]
  refine cmp9 (bs := [true, true, true, true, true, true, true, true, true, false, false, false]) (cv := (.ref (ga K "WheelError"))) T gM len rfl (by decide +kernel) (by decide +kernel) (fun u r => r) hall (fun i x b hx hb => ?_) (fun H' R s h => ?_) fun H0' s0 => ?_
  · rw [(T.kn i x hx).1.wh]
    have hi := (List.getElem?_eq_some_iff.mp hx).1
    have hi : i < 12 := hi
    rcases (by omega : i = 0 ∨ i = 1 ∨ i = 2 ∨ i = 3 ∨ i = 4 ∨ i = 5 ∨ i = 6 ∨ i = 7 ∨ i = 8 ∨ i = 9 ∨ i = 10 ∨ i = 11) with rfl | rfl | rfl | rfl | rfl | rfl | rfl | rfl | rfl | rfl | rfl | rfl <;> (cases hb; rfl)
  · refine repB (by decide) (by decide) fun L1 G1 z1 g1 => repB (by decide) (by decide) fun L2 G2 z2 g2 => catV (z2 _ _ g1) g2 (by simp) fun L3 G3 z3 _ g3 => h L3 G3 (z1.trans (z2.trans z3)) g3
  have gM := s0 _ _ gM
  replace hall := Hall9.same hall s0
  replace sM := sM.trans s0
  try unfold tNext
  dsimp only
  rw [seq1]
  refine cmp9 (bs := [true, true, true, true, true, true, true, true, true, false, false, false]) (cv := (.type "ValueError")) T gM len rfl (by decide +kernel) (by decide +kernel) (fun u r => r) hall (fun i x b hx hb => ?_) (fun H' R s h => ?_) fun H1' s1 => ?_
  · rw [(T.kn i x hx).2.ve]
    have hi := (List.getElem?_eq_some_iff.mp hx).1
    have hi : i < 12 := hi
    rcases (by omega : i = 0 ∨ i = 1 ∨ i = 2 ∨ i = 3 ∨ i = 4 ∨ i = 5 ∨ i = 6 ∨ i = 7 ∨ i = 8 ∨ i = 9 ∨ i = 10 ∨ i = 11) with rfl | rfl | rfl | rfl | rfl | rfl | rfl | rfl | rfl | rfl | rfl | rfl <;> (cases hb; rfl)
  · refine repB (by decide) (by decide) fun L1 G1 z1 g1 => repB (by decide) (by decide) fun L2 G2 z2 g2 => catV (z2 _ _ g1) g2 (by simp) fun L3 G3 z3 _ g3 => h L3 G3 (z1.trans (z2.trans z3)) g3
  have gM := s1 _ _ gM
  replace hall := Hall9.same hall s1
  replace sM := sM.trans s1
  try unfold tNext
  dsimp only
  rw [seq1]
  refine cmp9 (bs := [false, false, false, false, false, false, false, false, false, true, true, false]) (cv := (.type "OverflowError")) T gM len rfl (by decide +kernel) (by decide +kernel) (fun u r => r) hall (fun i x b hx hb => ?_) (fun H' R s h => ?_) fun H2' s2 => ?_
  · rw [(T.kn i x hx).2.oe]
    have hi := (List.getElem?_eq_some_iff.mp hx).1
    have hi : i < 12 := hi
    rcases (by omega : i = 0 ∨ i = 1 ∨ i = 2 ∨ i = 3 ∨ i = 4 ∨ i = 5 ∨ i = 6 ∨ i = 7 ∨ i = 8 ∨ i = 9 ∨ i = 10 ∨ i = 11) with rfl | rfl | rfl | rfl | rfl | rfl | rfl | rfl | rfl | rfl | rfl | rfl <;> (cases hb; rfl)
  · refine repB (by decide) (by decide) fun L1 G1 z1 g1 => ?_
    refine ⟨(show 3 ≤ 16777216 by decide), fun L2 hL2 => ?_⟩
    have z2 := Same.new (o := .lst [V.bl true, .bl true, .bl false]) hL2
    exact catV (z2 _ _ g1) (updS _ _ _) (by simp) fun L3 G3 z3 _ g3 => h L3 G3 (z1.trans (z2.trans z3)) g3
  have gM := s2 _ _ gM
  replace hall := Hall9.same hall s2
  replace sM := sM.trans s2
  try unfold tNext
  dsimp only
  rw [seq1]
  refine cmp9 (bs := [false, false, false, false, false, false, false, false, false, false, false, true]) (cv := (.type "LookupError")) T gM len rfl (by decide +kernel) (by decide +kernel) (fun u r => r) hall (fun i x b hx hb => ?_) (fun H' R s h => ?_) fun H3' s3 => ?_
  · rw [(T.kn i x hx).2.le]
    have hi := (List.getElem?_eq_some_iff.mp hx).1
    have hi : i < 12 := hi
    rcases (by omega : i = 0 ∨ i = 1 ∨ i = 2 ∨ i = 3 ∨ i = 4 ∨ i = 5 ∨ i = 6 ∨ i = 7 ∨ i = 8 ∨ i = 9 ∨ i = 10 ∨ i = 11) with rfl | rfl | rfl | rfl | rfl | rfl | rfl | rfl | rfl | rfl | rfl | rfl <;> (cases hb; rfl)
  · refine repB (by decide) (by decide) fun L1 G1 z1 g1 => ?_
    refine ⟨(show 1 ≤ 16777216 by decide), fun L2 hL2 => ?_⟩
    have z2 := Same.new (o := .lst [V.bl true]) hL2
    exact catV (z2 _ _ g1) (updS _ _ _) (by simp) fun L3 G3 z3 _ g3 => h L3 G3 (z1.trans (z2.trans z3)) g3
  have gM := s3 _ _ gM
  replace hall := Hall9.same hall s3
  replace sM := sM.trans s3
  try unfold tNext
  dsimp only
  unfold tRet
  refine lcL9 (td := tVar 1) (te := tFn (sp__law_kindV K) E0 (tCons (tVar 2) tNil)) (j := 2) (a := M) (xs := vs) (F := kdN.map V.str) (by rw [len]; rfl) (fun R h => ⟨_, rfl, h⟩) (by omega) (fun H' s => SqL.of (s _ _ gM)) (fun k v y H' R hv hy s hR => ?_) (fun L H' s hL => q L H' (sM.trans s) hL)
  obtain ⟨a, xc, rfl, hx, hev⟩ := hall k v hv
  refine ⟨_, rfl, a, k, xc, rfl, hx, hev.same s, fun H2 s2 => ?_⟩
  rw [List.getElem?_map] at hy
  cases e : kdN[k]? with
  | none => rw [e] at hy; cases hy
  | some z =>
    rw [e] at hy
    cases hy
    rw [List.getD_eq_getElem?_getD, e]
    exact hR H2 s2
theorem lcC9 {td te : TE} {j : Nat} {xs F : List V} {σ : L2.St} {H : Hp} {Q : VK} (hF : F.length = xs.length) (hd : ∀ R : VK, (∀ a H', Same H H' → H' a = some (.lst xs) → R (.ref a) H') → td σ H R) (hz : xs.length ≤ 1000000)
    (st : ∀ (k : Nat) (x y : V) (H' : Hp) (R : VK), xs[k]? = some x → F[k]? = some y → Same H H' → (∀ H'', Same H' H'' → R y H'') → te ((wipe σ [j]).set j (some x)) H' R)
    (q : ∀ D H', Same H H' → H' D = some (.lst F) → Q (.ref D) H') : tLc (iList K td) (gName j) tYes te [j] σ H Q := by
  refine hd _ fun a H0 s0 ha => ?_
  refine ⟨a, rfl, ⟨xs, SqL.of ha⟩, fun D hD => lc_list (K := K) (a := a) (xs := xs) (fun k H' => Same H0 H' ∧ H' D = some (.lst (F.take k))) ⟨Same.new hD, upd_same⟩ (fun k H' _ z => SqL.of (z.1 _ _ ha)) ?_ ?_⟩
  · rintro k x H1 hx ⟨s1, h1⟩
    have hk := (List.getElem?_eq_some_iff.mp hx).1
    obtain ⟨y, hy⟩ : ∃ y, F[k]? = some y := ⟨_, List.getElem?_eq_getElem (by omega)⟩
    rw [gName1]
    refine ⟨?_, ?_⟩
    · show ((σ.set j none).set j (some x)).set j none = σ.set j none
      rw [List.set_set, List.set_set]
    unfold tYes
    dsimp only
    rw [if_pos rfl]
    refine st k x y H1 _ hx hy (s0.trans s1) fun H2 s2 => ⟨_, s2 _ _ h1, ?_, Same.updN (s1.trans s2) hD, by rw [upd_same, List.take_add_one, hy]; rfl⟩
    rw [List.length_take]
    have : sizeLine = 16777216 := rfl
    omega
  · rintro H1 ⟨s1, h1⟩
    rw [← hF, List.take_length] at h1
    exact q D H1 (s0.trans s1) h1
def Rp9 (K : Frag) (p l : Addr) (H : Hp) (x : V) : Prop := ∃ t : PySem.Str, PySem.PyData.strOk t = true ∧ ∀ H', SameP p l H H' → ∀ Q : VK, Q (.str t) H' → rRepr9 K [x] H' Q
theorem Rp9.same {p l : Addr} {H H' : Hp} {x : V} (h : Rp9 K p l H x) (s : SameP p l H H') : Rp9 K p l H' x := h.imp fun t h => ⟨h.1, fun H2 s2 Q q => h.2 H2 (s.trans s2) Q q⟩
theorem rp9 {p l : Addr} {H : Hp} {x : V} {d : PyData} (ok : OkD d) (nd : d ≠ .dict []) (h : ∀ H', SameP p l H H' → Dp K H' x d) : Rp9 K p l H x := ⟨d.shown, ok.2, fun H' s Q q => by
  obtain ⟨z1, z2, z3, z4⟩ := ok.1.elim (fun e => absurd e nd) id
  exact .inl (.inl ⟨x, d, rfl, h H' s, z1, z2, z3, z4, q⟩)⟩
theorem shS {t : PySem.Str} (h : PySem.PyData.strOk t = true) : SeqAt.shaped (.list ((List.replicate 11 t).map PyData.str)) = true ∧ PyData.eqv (.list ((List.replicate 11 t).map PyData.str)) (.list ((List.replicate 11 t).map PyData.str)) = true := by
  constructor
  · show ((PySem.PyData.strOk t && (PySem.PyData.strOk t && (PySem.PyData.strOk t && (PySem.PyData.strOk t && (PySem.PyData.strOk t && (PySem.PyData.strOk t && (PySem.PyData.strOk t && (PySem.PyData.strOk t && (PySem.PyData.strOk t && (PySem.PyData.strOk t && (PySem.PyData.strOk t && true))))))))))) && decide (1 ≤ 64)) = true
    rw [h]
    rfl
  · show ((t == t) && ((t == t) && ((t == t) && ((t == t) && ((t == t) && ((t == t) && ((t == t) && ((t == t) && ((t == t) && ((t == t) && ((t == t) && true))))))))))) = true
    rw [show (t == t) = true from beq_self_eq_true t]
    rfl
theorem cmpF9 {td : TE} {a N p S : Addr} {z : V} {t : PySem.Str} {v6 : Option V} {H : Hp} (ok : PySem.PyData.strOk t = true) (hrp : ∀ H', Same H H' → ∀ Q : VK, Q (.str t) H' → rRepr9 K [z] H' Q)
    (hd : ∀ R : VK, (∀ L H', Same H H' → H' L = some (.lst (List.replicate 11 z)) → R (.ref L) H') → td [some (.ref a), some (.ref N), some (.ref p), some (.ref S), some z, some (.str t), v6] H R) (Q' : Bool → Hp → Prop) (hq : ∀ H', Same H H' → Q' false H') :
    (tTest (tOp (rNeD K) (tLc (iList K td) (gName 6) tYes (tCB (rRepr9 K) (tCons (tVar 6) tNil)) [6]) (tOp rRep (tLst (tCons (tVar 5) tNil)) (tC (.int 11))))) [some (.ref a), some (.ref N), some (.ref p), some (.ref S), some z, some (.str t), v6] H Q' := by
  unfold tTest tOp
  refine lcC9 (td := td) (te := tCB (rRepr9 K) (tCons (tVar 6) tNil)) (j := 6) (xs := List.replicate 11 z) (F := (List.replicate 11 t).map V.str) (by simp) hd (by simp) (fun k x y H' R hx hy s hR => ?_) (fun L H' s hL => ?_)
  · rw [List.getElem?_map] at hy
    have hk := (List.getElem?_eq_some_iff.mp hx).1
    rw [List.getElem?_replicate] at hx hy
    have hk : k < 11 := by simpa using hk
    rw [if_pos hk] at hx hy
    cases hx
    cases hy
    exact ⟨_, rfl, hrp H' s _ (hR H' (Same.refl _))⟩
  · refine ⟨_, rfl, (show 1 ≤ 16777216 by decide), fun l2 hl2 => ⟨l2, 11, [.str t], rfl, rfl, updS _ _ _, by decide, by decide, (show 1 * 11 ≤ 16777216 by decide), fun R hR => ?_⟩⟩
    have ef : (List.replicate (11 : Int).toNat [V.str t]).flatten = (List.replicate 11 t).map V.str := rfl
    rw [ef]
    have s2 := (Same.new (o := .lst [V.str t]) hl2).trans (Same.new (o := .lst ((List.replicate 11 t).map V.str)) hR)
    obtain ⟨e1, e2⟩ := shS ok
    refine ⟨.list ((List.replicate 11 t).map PyData.str), .list ((List.replicate 11 t).map PyData.str), .lst (SqL.of (s2 _ _ hL)) (dpS K _ _), .lst (SqL.of (updS _ _ _)) (dpS K _ _), e1, e1, false, ?_, hq _ (s.trans s2)⟩
    rw [e2]
    rfl
theorem shK : SeqAt.shaped (.list (kdN.map PyData.str)) = true ∧ PyData.eqv (.list (kdN.map PyData.str)) (.list (kdN.map PyData.str)) = true := by decide +kernel
def lawI9 (K : Frag) (a N p S l : Addr) (H0 : Hp) (σ : L2.St) (H' : Hp) : Prop := ∃ v4 v5 v6, σ = [some (.ref a), some (.ref N), some (.ref p), some (.ref S), v4, v5, v6] ∧ Same H0 H'
theorem repA9 {T1 : Addr} {k : Int} {H : Hp} {R : VK} (hT : H T1 = some (.tup [.str "a"])) (k0 : 0 ≤ k) (k4 : k < 4) (h : ∀ tt H', Same H H' → (tt = T1 ∨ H tt = none) → H' tt = some (.tup (List.replicate k.toNat (.str "a"))) → R (.ref tt) H') : rRepA K (.ref T1) (.int k) H R := by
  refine ⟨T1, k, [.str "a"], rfl, rfl, SqT.of hT, (fun e => by cases e), k0, by omega, by decide, fun e => ?_, fun _ T2 hT2 => ?_⟩
  · subst e
    exact h T1 H (Same.refl _) (.inl rfl) hT
  · have e : (List.replicate k.toNat [V.str "a"]).flatten = List.replicate k.toNat (V.str "a") := by simp
    rw [e]
    exact h T2 _ (Same.new hT2) (.inr hT2) upd_same
theorem repL9 {T1 : Addr} {k : Int} {H : Hp} {R : VK} (hT : H T1 = some (.lst [.str "a"])) (k0 : 0 ≤ k) (k4 : k < 4) (h : ∀ tt H', Same H H' → H tt = none → H' tt = some (.lst (List.replicate k.toNat (.str "a"))) → R (.ref tt) H') : rRep (.ref T1) (.int k) H R := by
  refine ⟨T1, k, [.str "a"], rfl, rfl, hT, by omega, by omega, ?_, fun T2 hT2 => ?_⟩
  · have : sizeLine = 16777216 := rfl
    show 1 * k.toNat ≤ _
    omega
  · have e : (List.replicate k.toNat [V.str "a"]).flatten = List.replicate k.toNat (V.str "a") := by simp
    rw [e]
    exact h T2 _ (Same.new hT2) hT2 upd_same
theorem okT9 {k : Int} (k0 : 0 ≤ k) (k4 : k < 4) : OkD (.tuple ((List.replicate k.toNat ("a" : PySem.Str)).map PyData.str)) ∧ OkD (.list ((List.replicate k.toNat ("a" : PySem.Str)).map PyData.str)) := by
  rcases (by omega : k = 0 ∨ k = 1 ∨ k = 2 ∨ k = 3) with rfl | rfl | rfl | rfl
  · exact ⟨okD_of (by decide +kernel), okD_of (by decide +kernel)⟩
  · exact ⟨okD_of (by decide +kernel), okD_of (by decide +kernel)⟩
  · exact ⟨okD_of (by decide +kernel), okD_of (by decide +kernel)⟩
  · exact ⟨okD_of (by decide +kernel), okD_of (by decide +kernel)⟩
theorem repM9 (k : Nat) : List.replicate k (V.str "a") = (List.replicate k ("a" : PySem.Str)).map V.str := by rw [List.map_replicate]
def kv9 : List (Key × V) := [(Sum.inr ("a" : PySem.Str), .int 1)]
theorem merge9 : mergeK [] kv9 = kv9 := by decide +kernel
def sp_law (K : Frag) : Sp := fun vs H Q _ => ∃ (a : Addr) (ns : List Int), vs = [.ref a] ∧ SqL K H a (ns.map V.int) ∧ ns.length ≤ 63 ∧ ∀ H', Q (.bl true) H'
def t_law (K : Frag) (w : World) : TS :=
  (tSeq (tAsg (tLst (tCons (tC (.str "number")) (tCons (tC (.str "text")) (tCons (tC (.str "name")) (tCons (tC (.str "levels")) (tCons (tC (.str "switch")) (tCons (tC (.str "mode")) (tCons (tC (.str "menu")) (tCons (tC (.str "plan")) (tCons (tC (.str "command")) (tCons (tC (.str "long")) (tCons (tC (.str "many")) (tCons (tC (.str "undo")) tNil))))))))))))) (gName 1))
  (tSeq (tAsg (tFn (sp__law_begin K) E0 (tCons (tVar 0) tNil)) (gName 2))
  (tSeq (tAsg (tLst (tCons (tC .non) (tCons (tC (.bl true)) (tCons (tC (.int 0)) (tCons (tC (.str "a")) (tCons (tTup (tCons (tC (.int 1)) (tCons (tC .non) tNil))) (tCons (tLst (tCons (tC (.int 1)) (tCons (tLst (tCons (tC (.int 2)) tNil)) tNil))) (tCons (tDisp [((tC (.str "a")), (tC (.int 1)))]) tNil)))))))) (gName 3))
  (tSeq (tAsg (tOp rCat (tVar 3) (tLst (tCons (tFn (sp__law_draw K) E0 (tCons (tVar 2) (tCons (tOp oPow (tC (.int 10)) (tC (.int 30))) tNil))) (tCons (tOp oSub (tUn oNeg (tC (.int 1))) (tFn (sp__law_draw K) E0 (tCons (tVar 2) (tCons (tOp oPow (tC (.int 10)) (tC (.int 30))) tNil)))) tNil)))) (gName 3))
  (tSeq (tFor (iList K (tOp rCat (tVar 3) (tLst (tCons (tOp (rRepA K) (tTup (tCons (tC (.str "a")) tNil)) (tFn (sp__law_draw K) E0 (tCons (tVar 2) (tCons (tC (.int 4)) tNil)))) (tCons (tOp rRep (tLst (tCons (tC (.str "a")) tNil)) (tFn (sp__law_draw K) E0 (tCons (tVar 2) (tCons (tC (.int 4)) tNil)))) tNil))))) (gName 4)
    (tSeq (tAsg (tCB (rRepr9 K) (tCons (tVar 4) tNil)) (gName 5))
  (tSeq (tIfS (tOr (tTest (tOp (rNeD K) (tLc (iList K (tFn (sp__law_fields K) E0 (tCons (tVar 4) tNil))) (gName 6) tYes (tCB (rRepr9 K) (tCons (tVar 6) tNil)) [6]) (tOp rRep (tLst (tCons (tVar 5) tNil)) (tC (.int 11))))) (tTest (tOp (rNeD K) (tFn (sp__law_classes K) E0 (tCons (tVar 4) tNil)) (tVar 1)))) (tRet (tC (.bl false))) tNext)
  (tIfS (tTest (tOp (rNeD K) (tLc (iList K (tFn (sp__law_named_fields K) E0 (tCons (tVar 4) tNil))) (gName 6) tYes (tCB (rRepr9 K) (tCons (tVar 6) tNil)) [6]) (tOp rRep (tLst (tCons (tVar 5) tNil)) (tC (.int 11))))) (tRet (tC (.bl false))) tNext))))
  (tRet (tC (.bl true))))))))
def n_law : List Str := ["_law_script", "_law_names", "_law_pool", "_law_some", "_law_thing", "_law_kept", "_law_one"]
theorem rd_law (T : Kev K) (vs : List V) (H : Hp) (Q : VK) (E : XK) (h : sp_law K vs H Q E) : t_law K w { nx := fun _ H' => Q .non H', rt := Q } (L2.start n_law vs) H := by
  obtain ⟨a, ns, rfl, ha, hl, q⟩ := h
  unfold t_law n_law
  rw [seq1]
  walk_at "rsl"
  refine ⟨(show 12 ≤ 16777216 by decide), fun N hN => ?_⟩
  have key : ∀ xs : List V, xs = kdN.map V.str → (tSeq (tAsg (tFn (sp__law_begin K) E0 (tCons (tVar 0) tNil)) (gName 2))
  (tSeq (tAsg (tLst (tCons (tC .non) (tCons (tC (.bl true)) (tCons (tC (.int 0)) (tCons (tC (.str "a")) (tCons (tTup (tCons (tC (.int 1)) (tCons (tC .non) tNil))) (tCons (tLst (tCons (tC (.int 1)) (tCons (tLst (tCons (tC (.int 2)) tNil)) tNil))) (tCons (tDisp [((tC (.str "a")), (tC (.int 1)))]) tNil)))))))) (gName 3))
  (tSeq (tAsg (tOp rCat (tVar 3) (tLst (tCons (tFn (sp__law_draw K) E0 (tCons (tVar 2) (tCons (tOp oPow (tC (.int 10)) (tC (.int 30))) tNil))) (tCons (tOp oSub (tUn oNeg (tC (.int 1))) (tFn (sp__law_draw K) E0 (tCons (tVar 2) (tCons (tOp oPow (tC (.int 10)) (tC (.int 30))) tNil)))) tNil)))) (gName 3))
  (tSeq (tFor (iList K (tOp rCat (tVar 3) (tLst (tCons (tOp (rRepA K) (tTup (tCons (tC (.str "a")) tNil)) (tFn (sp__law_draw K) E0 (tCons (tVar 2) (tCons (tC (.int 4)) tNil)))) (tCons (tOp rRep (tLst (tCons (tC (.str "a")) tNil)) (tFn (sp__law_draw K) E0 (tCons (tVar 2) (tCons (tC (.int 4)) tNil)))) tNil))))) (gName 4)
    (tSeq (tAsg (tCB (rRepr9 K) (tCons (tVar 4) tNil)) (gName 5))
  (tSeq (tIfS (tOr (tTest (tOp (rNeD K) (tLc (iList K (tFn (sp__law_fields K) E0 (tCons (tVar 4) tNil))) (gName 6) tYes (tCB (rRepr9 K) (tCons (tVar 6) tNil)) [6]) (tOp rRep (tLst (tCons (tVar 5) tNil)) (tC (.int 11))))) (tTest (tOp (rNeD K) (tFn (sp__law_classes K) E0 (tCons (tVar 4) tNil)) (tVar 1)))) (tRet (tC (.bl false))) tNext)
  (tIfS (tTest (tOp (rNeD K) (tLc (iList K (tFn (sp__law_named_fields K) E0 (tCons (tVar 4) tNil))) (gName 6) tYes (tCB (rRepr9 K) (tCons (tVar 6) tNil)) [6]) (tOp rRep (tLst (tCons (tVar 5) tNil)) (tC (.int 11))))) (tRet (tC (.bl false))) tNext))))
  (tRet (tC (.bl true))))))) { nx := fun _ H' => Q .non H', rt := Q } [some (.ref a), some (.ref N), none, none, none, none, none] (upd H N (.lst xs)) := by
    intro xs hxs
    have sN := Same.new (o := .lst xs) hN
    have gN := updS H N (.lst xs)
    have ha1 : SqL K (upd H N (.lst xs)) a (ns.map V.int) := ha.ext sN
    generalize upd H N (.lst xs) = H1 at *
    rw [seq1]
    refine ⟨_, rfl, a, ns, rfl, ha1, hl, fun p l H2 hp2 s2 => ?_⟩
    have gN2 := s2 _ _ gN
    have nNp : N ≠ p ∧ N ≠ l := by
      obtain ⟨n0, cs, i1, i2, i3, i4, h1, h2, h3⟩ := id hp2
      rw [hxs] at gN2
      refine ⟨fun e => ?_, fun e => ?_⟩
      · rw [e, h1] at gN2
        cases gN2
      · rw [e, h2] at gN2
        have e := HO.lst.inj (Option.some.inj gN2)
        cases cs with
        | nil => cases e
        | cons c cs => cases e
    try dsimp only
    rw [gName1]
    simp only [List.set_cons_zero, List.set_cons_succ]
    rw [seq1]
    walk_at "rsl"
    intro A hA B hB C hC D hD
    have nA := hp2.apart hA
    have s3 := Same.new (o := .tup [V.int 1, .non]) hA
    have gA := updS H2 A (.tup [V.int 1, .non])
    have hp3 := hp2.same s3
    generalize upd H2 A (.tup [V.int 1, .non]) = H3 at *
    have nB := hp3.apart hB
    have s4 := Same.new (o := .lst [V.int 2]) hB
    have gB := updS H3 B (.lst [V.int 2])
    have hp4 := hp3.same s4
    generalize upd H3 B (.lst [V.int 2]) = H4 at *
    have nC := hp4.apart hC
    have s5 := Same.new (o := .lst [V.int 1, .ref B]) hC
    have gC := updS H4 C (.lst [V.int 1, .ref B])
    have hp5 := hp4.same s5
    generalize upd H4 C (.lst [V.int 1, .ref B]) = H5 at *
    have nD := hp5.apart hD
    refine ⟨updS _ _ _, kv9, rfl, (show 1 ≤ 15 by decide), (show 7 ≤ 16777216 by decide), fun S hS => ?_⟩
    rw [upd_upd, merge9] at hS ⊢
    have s6 := Same.new (o := .dK kv9) hD
    have gD := updS H5 D (.dK kv9)
    have hp6 := hp5.same s6
    generalize upd H5 D (.dK kv9) = H6 at *
    have s7 := Same.new (o := .lst [V.non, .bl true, .int 0, .str "a", .ref A, .ref C, .ref D]) hS
    have gS := updS H6 S (.lst [V.non, .bl true, .int 0, .str "a", .ref A, .ref C, .ref D])
    have nS := hp6.apart hS
    have hp7 := hp6.same s7
    generalize upd H6 S (.lst [V.non, .bl true, .int 0, .str "a", .ref A, .ref C, .ref D]) = H7 at *
    have s47 := s5.trans (s6.trans s7)
    have gA7 := (s4.trans s47) _ _ gA
    have gB7 := s47 _ _ gB
    have gC7 := (s6.trans s7) _ _ gC
    have gD7 := s7 _ _ gD
    have gN7 := (s3.trans (s4.trans s47)) _ _ gN2
    have hall : ∀ x ∈ [V.non, .bl true, .int 0, .str "a", .ref A, .ref C, .ref D], Rp9 K p l H7 x := fun x hx => by
      simp only [List.mem_cons, List.not_mem_nil, or_false] at hx
      rcases hx with rfl | rfl | rfl | rfl | rfl | rfl | rfl
      · exact rp9 (okD_of (by decide +kernel)) (fun z => by cases z) fun H' s => .non
      · exact rp9 (okD_of (by decide +kernel)) (fun z => by cases z) fun H' s => .bl true
      · exact rp9 (okD_of (by decide +kernel)) (fun z => by cases z) fun H' s => .int 0
      · exact rp9 (d := .str "a") (okD_of (by decide +kernel)) (fun z => by cases z) fun H' s => .str "a"
      · exact rp9 (d := .tuple [.int 1, .none]) (okD_of (by decide +kernel)) (fun z => by cases z) fun H' s => .tup (SqT.of (s _ _ nA.1 nA.2 gA7)) (.cons (.int 1) (.cons .non .nil))
      · exact rp9 (d := .list [.int 1, .list [.int 2]]) (okD_of (by decide +kernel)) (fun z => by cases z) fun H' s => .lst (SqL.of (s _ _ nC.1 nC.2 gC7)) (.cons (.int 1) (.cons (.lst (SqL.of (s _ _ nB.1 nB.2 gB7)) (.cons (.int 2) .nil)) .nil))
      · exact ⟨(PyData.dict [(.str "a", .int 1)]).shown, by decide +kernel, fun H' s Q q => .inr ⟨D, "a", 1, rfl, s _ _ nD.1 nD.2 gD7, by decide +kernel, by decide +kernel, q⟩⟩
    clear gA gB gC gD hA hB hC hD hS gA7 gB7 gC7 gD7 hp2 hp3 hp4 hp5 hp6 nA nB nC nD gN gN2 s3 s4 s5 s6 s7 s47
    generalize hx7 : [V.non, .bl true, .int 0, .str "a", .ref A, .ref C, .ref D] = xs7 at *
    have l7 : xs7.length = 7 := by rw [← hx7]; rfl
    clear hx7
    rw [seq1]
    walk_at "rsl"
    have c30 : CPow 10 30 := ⟨by decide, by decide, by decide⟩
    refine ⟨c30, draw (K := K) hp7 (by decide) (by decide) fun x H8 s8 hp8 x0 x1 => ⟨c30, draw (K := K) hp8 (by decide) (by decide) fun y H9 s9 hp9 y0 y1 => ⟨_, rfl, fun S2 hS2 => ?_⟩⟩⟩
    have s79 := s8.trans s9
    have sb := Same.new (o := .lst [V.int x, .int (-1 - y)]) hS2
    refine catV (sb _ _ (s79 _ _ nS.1 nS.2 gS)) (updS _ _ _) (by rw [l7]; show 9 ≤ 1000; decide) fun S3 Ha sa eS3 gS3 => ?_
    have hpa := hp9.same (sb.trans sa)
    have s7a := s79.step (sb.trans sa)
    have gNa := s7a _ _ nNp.1 nNp.2 gN7
    have x1 : x < 2 ^ 100 := Int.lt_trans x1 (by decide)
    have y1 : y < 2 ^ 100 - 5 := Int.lt_trans y1 (by decide)
    replace hall : ∀ z ∈ xs7 ++ [V.int x, .int (-1 - y)], Rp9 K p l Ha z := fun z hz => by
      rcases List.mem_append.mp hz with hz | hz
      · exact (hall z hz).same s7a
      · simp only [List.mem_cons, List.not_mem_nil, or_false] at hz
        rcases hz with rfl | rfl
        · exact rp9 (okD_i (by omega) (by omega)) (fun z => by cases z) fun H' s => .int _
        · exact rp9 (okD_i (by omega) (by omega)) (fun z => by cases z) fun H' s => .int _
    have l9 : (xs7 ++ [V.int x, .int (-1 - y)]).length = 9 := by rw [List.length_append, l7]; rfl
    generalize xs7 ++ [V.int x, .int (-1 - y)] = xs9 at *
    clear x0 x1 y0 y1
    have nS3 := (hp9.same sb).apart eS3
    rw [seq1]
    rw [forl_eq]
    walk_at "rsl"
    intro T1 hT1
    have nT1 := hpa.apart hT1
    have sT := Same.new (o := .tup [V.str "a"]) hT1
    have gT := updS Ha T1 (.tup [V.str "a"])
    have hpb := hpa.same sT
    generalize upd Ha T1 (.tup [V.str "a"]) = Hb at *
    refine draw (K := K) hpb (by decide) (by decide) fun k Hc sc hpc k0 k4 => repA9 (sc _ _ nT1.1 nT1.2 gT) k0 k4 fun tt Hd sd hdt gt => ?_
    have hpd := hpc.same sd
    have nt : tt ≠ p ∧ tt ≠ l := by
      rcases hdt with e | e
      · rw [e]; exact nT1
      · exact hpc.apart e
    intro L1 hL1
    have nL1 := hpd.apart hL1
    have sL := Same.new (o := .lst [V.str "a"]) hL1
    have gL := updS Hd L1 (.lst [V.str "a"])
    have hpe := hpd.same sL
    generalize upd Hd L1 (.lst [V.str "a"]) = He at *
    refine draw (K := K) hpe (by decide) (by decide) fun k2 Hf sf hpf k20 k24 => repL9 (sf _ _ nL1.1 nL1.2 gL) k20 k24 fun LL Hg sg hLL gLL => ?_
    have nLL := hpf.apart hLL
    intro M hM
    have sM := Same.new (o := .lst [V.ref tt, .ref LL]) hM
    have sag : SameP p l Ha Hg := ((((Same.toP sT).trans sc).step (sd.trans sL)).trans sf).step sg
    have sdg : SameP p l Hd Hg := ((Same.toP sL).trans sf).step sg
    refine catV (sM _ _ (sag _ _ nS3.1 nS3.2 gS3)) (updS _ _ _) (by rw [l9]; show 11 ≤ 1000; decide) fun W H0 s0 _ gW => ?_
    have sg0 := sM.trans s0
    have gN0 := sg0 _ _ (sag _ _ nNp.1 nNp.2 gNa)
    replace hall : ∀ z ∈ xs9 ++ [V.ref tt, .ref LL], Rp9 K p l H0 z := fun z hz => by
      rcases List.mem_append.mp hz with hz | hz
      · exact (hall z hz).same (sag.step sg0)
      · simp only [List.mem_cons, List.not_mem_nil, or_false] at hz
        rcases hz with rfl | rfl
        · refine rp9 (okT9 k0 k4).1 (fun z => by cases z) fun H' s => ?_
          rw [repM9] at gt
          exact .tup (SqT.of (s _ _ nt.1 nt.2 (sg0 _ _ (sdg _ _ nt.1 nt.2 gt)))) (dpS K _ _)
        · refine rp9 (okT9 k20 k24).2 (fun z => by cases z) fun H' s => ?_
          rw [repM9] at gLL
          exact .lst (SqL.of (s _ _ nLL.1 nLL.2 (sg0 _ _ gLL))) (dpS K _ _)
    have lW : (xs9 ++ [V.ref tt, .ref LL]).length = 11 := by rw [List.length_append, l9]; rfl
    generalize xs9 ++ [V.ref tt, .ref LL] = zs at *
    refine ⟨W, rfl, ⟨_, SqL.of gW⟩, ?_⟩
    refine forL (xs := zs) (fun _ σ H' => lawI9 K a N p S3 l H0 σ H') ⟨none, none, none, rfl, Same.refl _⟩ (fun j σ H' ⟨_, _, _, _, s⟩ => SqL.of (s _ _ gW)) ?_ ?_
    · rintro j z σ H' hj ⟨v4, v5, v6, rfl, s1⟩
      obtain ⟨t, ok, hrp⟩ := (hall z (List.mem_of_getElem? hj))
      rw [gName1]
      simp only [List.set_cons_zero, List.set_cons_succ]
      rw [seq1]
      refine ⟨_, rfl, hrp H' (Same.toP s1) _ ?_⟩
      rw [gName1]
      simp only [List.set_cons_zero, List.set_cons_succ]
      rw [seq1]
      have rp1 : ∀ H2, Same H' H2 → ∀ H3, Same H2 H3 → ∀ Q : VK, Q (.str t) H3 → rRepr9 K [z] H3 Q := fun H2 s2 H3 s3 Q q => hrp H3 (Same.toP (s1.trans (s2.trans s3))) Q q
      refine if9 (fun Q' hq => ?_) fun H2 s2 => ?_
      · refine cmpF9 ok (rp1 H' (Same.refl _)) (fun R hR => ⟨_, rfl, z, rfl, fun L H2 s2 hL => hR L H2 s2 hL⟩) _ fun H2 s2 => ?_
        rw [if_neg Bool.noConfusion]
        refine ⟨_, rfl, z, rfl, fun L H3 s3 hL => ⟨_, rfl, ?_⟩⟩
        have gN3 := s3 _ _ (s2 _ _ (s1 _ _ gN0))
        rw [hxs] at gN3
        refine ⟨.list (kdN.map PyData.str), .list (kdN.map PyData.str), .lst (SqL.of hL) (dpS K _ _), .lst (SqL.of gN3) (dpS K _ _), shK.1, shK.1, false, ?_, hq _ (s2.trans s3)⟩
        rw [shK.2]
        rfl
      · try unfold tNext
        dsimp only
        refine if9 (fun Q' hq => cmpF9 ok (rp1 H2 s2) (fun R hR => ⟨_, rfl, z, rfl, fun L H3 s3 hL => hR L H3 s3 hL⟩) _ hq) fun H3 s3 => ?_
        exact ⟨_, _, _, rfl, s1.trans (s2.trans s3)⟩
    · rintro σ H' ⟨v4, v5, v6, rfl, s1⟩
      exact q _
  exact key _ rfl
end
end Tw
/-! the defs as they stand -/
namespace Tw
open PySem PySem.Spec PyProof.Rows L2 He TwM Hd PySem.W
section
variable {K : Frag} {w : World} {mg : PySem.Str → Option Value} {base : Heap}
theorem kev (T : Tx K mg w) : Kev K := by
  refine ⟨fun p hp => ?_, fun i x hx => ?_⟩
  · simp only [evs, List.mem_cons, List.not_mem_nil, or_false] at hp
    rcases hp with rfl | rfl | rfl | rfl | rfl | rfl | rfl | rfl | rfl | rfl | rfl
    · exact ⟨(er_InvalidNumber T).xf, (er_InvalidNumber T).no⟩
    · exact ⟨(er_InvalidText T).xf, (er_InvalidText T).no⟩
    · exact ⟨(er_InvalidName T).xf, (er_InvalidName T).no⟩
    · exact ⟨(er_InvalidLevels T).xf, (er_InvalidLevels T).no⟩
    · exact ⟨(er_InvalidSwitch T).xf, (er_InvalidSwitch T).no⟩
    · exact ⟨(er_InvalidMode T).xf, (er_InvalidMode T).no⟩
    · exact ⟨(er_InvalidMenu T).xf, (er_InvalidMenu T).no⟩
    · exact ⟨(er_InvalidPlan T).xf, (er_InvalidPlan T).no⟩
    · exact ⟨(er_InvalidCommand T).xf, (er_InvalidCommand T).no⟩
    · exact ⟨(er_TooLong T).xf, (er_TooLong T).no⟩
    · exact ⟨(er_TooMany T).xf, (er_TooMany T).no⟩
  · match i, hx with
    | 0, hx => cases hx; exact ⟨(kn_InvalidNumber T).1, ku_InvalidNumber T⟩
    | 1, hx => cases hx; exact ⟨(kn_InvalidText T).1, ku_InvalidText T⟩
    | 2, hx => cases hx; exact ⟨(kn_InvalidName T).1, ku_InvalidName T⟩
    | 3, hx => cases hx; exact ⟨(kn_InvalidLevels T).1, ku_InvalidLevels T⟩
    | 4, hx => cases hx; exact ⟨(kn_InvalidSwitch T).1, ku_InvalidSwitch T⟩
    | 5, hx => cases hx; exact ⟨(kn_InvalidMode T).1, ku_InvalidMode T⟩
    | 6, hx => cases hx; exact ⟨(kn_InvalidMenu T).1, ku_InvalidMenu T⟩
    | 7, hx => cases hx; exact ⟨(kn_InvalidPlan T).1, ku_InvalidPlan T⟩
    | 8, hx => cases hx; exact ⟨(kn_InvalidCommand T).1, ku_InvalidCommand T⟩
    | 9, hx => cases hx; exact ⟨(kn_TooLong T).kn, ku_TooLong T⟩
    | 10, hx => cases hx; exact ⟨(kn_TooMany T).kn, ku_TooMany T⟩
    | 11, hx => cases hx; exact ⟨(kn_NothingToUndo T).kn, ku_NothingToUndo T⟩
    | i + 12, hx => cases hx
theorem okE_InvalidCommand {CX : CXT} (T : Tx K mg w) : ∃ fd, FnOk (PySem.Challenge.rw_timerwheels_k29_errors_made).prog w K mg base CX 1 (ma K (ga K "InvalidCommand") "__init__") fd ["self", "value"] (sp_er K (ga K "InvalidCommand") "value") ∧ Binds K fd ["self", "value"] [] ∧ ∀ (s : Shared) (a : Addr) (u : Value), K.In s.heap → BindsTo s fd ⟨[Value.ref a], [("value", u)]⟩ ((["self", "value"] : List PySem.Str).zip [Value.ref a, u]) :=
  ok_errK (er_InvalidCommand T) rfl (by decide +kernel) (ef_InvalidCommand T) (NdefX.nscope_by (by decide +kernel)) rfl rfl (by decide +kernel) (free_super T) (by decide +kernel) (by decide +kernel) (fun _ _ _ _ => rfl) (fun _ _ _ _ => rfl) (fun _ _ _ _ => rfl) (fun _ _ _ _ => ⟨_, rfl⟩)
    (fun _ _ _ _ _ _ _ us hl => match us, hl with | [_, _], _ => rfl) (fun _ _ _ _ _ _ _ _ _ => rfl)
theorem okE_InvalidLevels {CX : CXT} (T : Tx K mg w) : ∃ fd, FnOk (PySem.Challenge.rw_timerwheels_k29_errors_made).prog w K mg base CX 1 (ma K (ga K "InvalidLevels") "__init__") fd ["self", "value"] (sp_er K (ga K "InvalidLevels") "value") ∧ Binds K fd ["self", "value"] [] ∧ ∀ (s : Shared) (a : Addr) (u : Value), K.In s.heap → BindsTo s fd ⟨[Value.ref a], [("value", u)]⟩ ((["self", "value"] : List PySem.Str).zip [Value.ref a, u]) :=
  ok_errK (er_InvalidLevels T) rfl (by decide +kernel) (ef_InvalidLevels T) (NdefX.nscope_by (by decide +kernel)) rfl rfl (by decide +kernel) (free_super T) (by decide +kernel) (by decide +kernel) (fun _ _ _ _ => rfl) (fun _ _ _ _ => rfl) (fun _ _ _ _ => rfl) (fun _ _ _ _ => ⟨_, rfl⟩)
    (fun _ _ _ _ _ _ _ us hl => match us, hl with | [_, _], _ => rfl) (fun _ _ _ _ _ _ _ _ _ => rfl)
theorem okE_InvalidMenu {CX : CXT} (T : Tx K mg w) : ∃ fd, FnOk (PySem.Challenge.rw_timerwheels_k29_errors_made).prog w K mg base CX 1 (ma K (ga K "InvalidMenu") "__init__") fd ["self", "value"] (sp_er K (ga K "InvalidMenu") "value") ∧ Binds K fd ["self", "value"] [] ∧ ∀ (s : Shared) (a : Addr) (u : Value), K.In s.heap → BindsTo s fd ⟨[Value.ref a], [("value", u)]⟩ ((["self", "value"] : List PySem.Str).zip [Value.ref a, u]) :=
  ok_errK (er_InvalidMenu T) rfl (by decide +kernel) (ef_InvalidMenu T) (NdefX.nscope_by (by decide +kernel)) rfl rfl (by decide +kernel) (free_super T) (by decide +kernel) (by decide +kernel) (fun _ _ _ _ => rfl) (fun _ _ _ _ => rfl) (fun _ _ _ _ => rfl) (fun _ _ _ _ => ⟨_, rfl⟩)
    (fun _ _ _ _ _ _ _ us hl => match us, hl with | [_, _], _ => rfl) (fun _ _ _ _ _ _ _ _ _ => rfl)
theorem okE_InvalidMode {CX : CXT} (T : Tx K mg w) : ∃ fd, FnOk (PySem.Challenge.rw_timerwheels_k29_errors_made).prog w K mg base CX 1 (ma K (ga K "InvalidMode") "__init__") fd ["self", "value"] (sp_er K (ga K "InvalidMode") "value") ∧ Binds K fd ["self", "value"] [] ∧ ∀ (s : Shared) (a : Addr) (u : Value), K.In s.heap → BindsTo s fd ⟨[Value.ref a], [("value", u)]⟩ ((["self", "value"] : List PySem.Str).zip [Value.ref a, u]) :=
  ok_errK (er_InvalidMode T) rfl (by decide +kernel) (ef_InvalidMode T) (NdefX.nscope_by (by decide +kernel)) rfl rfl (by decide +kernel) (free_super T) (by decide +kernel) (by decide +kernel) (fun _ _ _ _ => rfl) (fun _ _ _ _ => rfl) (fun _ _ _ _ => rfl) (fun _ _ _ _ => ⟨_, rfl⟩)
    (fun _ _ _ _ _ _ _ us hl => match us, hl with | [_, _], _ => rfl) (fun _ _ _ _ _ _ _ _ _ => rfl)
theorem okE_InvalidName {CX : CXT} (T : Tx K mg w) : ∃ fd, FnOk (PySem.Challenge.rw_timerwheels_k29_errors_made).prog w K mg base CX 1 (ma K (ga K "InvalidName") "__init__") fd ["self", "value"] (sp_er K (ga K "InvalidName") "value") ∧ Binds K fd ["self", "value"] [] ∧ ∀ (s : Shared) (a : Addr) (u : Value), K.In s.heap → BindsTo s fd ⟨[Value.ref a], [("value", u)]⟩ ((["self", "value"] : List PySem.Str).zip [Value.ref a, u]) :=
  ok_errK (er_InvalidName T) rfl (by decide +kernel) (ef_InvalidName T) (NdefX.nscope_by (by decide +kernel)) rfl rfl (by decide +kernel) (free_super T) (by decide +kernel) (by decide +kernel) (fun _ _ _ _ => rfl) (fun _ _ _ _ => rfl) (fun _ _ _ _ => rfl) (fun _ _ _ _ => ⟨_, rfl⟩)
    (fun _ _ _ _ _ _ _ us hl => match us, hl with | [_, _], _ => rfl) (fun _ _ _ _ _ _ _ _ _ => rfl)
theorem okE_InvalidNumber {CX : CXT} (T : Tx K mg w) : ∃ fd, FnOk (PySem.Challenge.rw_timerwheels_k29_errors_made).prog w K mg base CX 1 (ma K (ga K "InvalidNumber") "__init__") fd ["self", "value"] (sp_er K (ga K "InvalidNumber") "value") ∧ Binds K fd ["self", "value"] [] ∧ ∀ (s : Shared) (a : Addr) (u : Value), K.In s.heap → BindsTo s fd ⟨[Value.ref a], [("value", u)]⟩ ((["self", "value"] : List PySem.Str).zip [Value.ref a, u]) :=
  ok_errK (er_InvalidNumber T) rfl (by decide +kernel) (ef_InvalidNumber T) (NdefX.nscope_by (by decide +kernel)) rfl rfl (by decide +kernel) (free_super T) (by decide +kernel) (by decide +kernel) (fun _ _ _ _ => rfl) (fun _ _ _ _ => rfl) (fun _ _ _ _ => rfl) (fun _ _ _ _ => ⟨_, rfl⟩)
    (fun _ _ _ _ _ _ _ us hl => match us, hl with | [_, _], _ => rfl) (fun _ _ _ _ _ _ _ _ _ => rfl)
theorem okE_InvalidPlan {CX : CXT} (T : Tx K mg w) : ∃ fd, FnOk (PySem.Challenge.rw_timerwheels_k29_errors_made).prog w K mg base CX 1 (ma K (ga K "InvalidPlan") "__init__") fd ["self", "value"] (sp_er K (ga K "InvalidPlan") "value") ∧ Binds K fd ["self", "value"] [] ∧ ∀ (s : Shared) (a : Addr) (u : Value), K.In s.heap → BindsTo s fd ⟨[Value.ref a], [("value", u)]⟩ ((["self", "value"] : List PySem.Str).zip [Value.ref a, u]) :=
  ok_errK (er_InvalidPlan T) rfl (by decide +kernel) (ef_InvalidPlan T) (NdefX.nscope_by (by decide +kernel)) rfl rfl (by decide +kernel) (free_super T) (by decide +kernel) (by decide +kernel) (fun _ _ _ _ => rfl) (fun _ _ _ _ => rfl) (fun _ _ _ _ => rfl) (fun _ _ _ _ => ⟨_, rfl⟩)
    (fun _ _ _ _ _ _ _ us hl => match us, hl with | [_, _], _ => rfl) (fun _ _ _ _ _ _ _ _ _ => rfl)
theorem okE_InvalidSwitch {CX : CXT} (T : Tx K mg w) : ∃ fd, FnOk (PySem.Challenge.rw_timerwheels_k29_errors_made).prog w K mg base CX 1 (ma K (ga K "InvalidSwitch") "__init__") fd ["self", "value"] (sp_er K (ga K "InvalidSwitch") "value") ∧ Binds K fd ["self", "value"] [] ∧ ∀ (s : Shared) (a : Addr) (u : Value), K.In s.heap → BindsTo s fd ⟨[Value.ref a], [("value", u)]⟩ ((["self", "value"] : List PySem.Str).zip [Value.ref a, u]) :=
  ok_errK (er_InvalidSwitch T) rfl (by decide +kernel) (ef_InvalidSwitch T) (NdefX.nscope_by (by decide +kernel)) rfl rfl (by decide +kernel) (free_super T) (by decide +kernel) (by decide +kernel) (fun _ _ _ _ => rfl) (fun _ _ _ _ => rfl) (fun _ _ _ _ => rfl) (fun _ _ _ _ => ⟨_, rfl⟩)
    (fun _ _ _ _ _ _ _ us hl => match us, hl with | [_, _], _ => rfl) (fun _ _ _ _ _ _ _ _ _ => rfl)
theorem okE_InvalidText {CX : CXT} (T : Tx K mg w) : ∃ fd, FnOk (PySem.Challenge.rw_timerwheels_k29_errors_made).prog w K mg base CX 1 (ma K (ga K "InvalidText") "__init__") fd ["self", "value"] (sp_er K (ga K "InvalidText") "value") ∧ Binds K fd ["self", "value"] [] ∧ ∀ (s : Shared) (a : Addr) (u : Value), K.In s.heap → BindsTo s fd ⟨[Value.ref a], [("value", u)]⟩ ((["self", "value"] : List PySem.Str).zip [Value.ref a, u]) :=
  ok_errK (er_InvalidText T) rfl (by decide +kernel) (ef_InvalidText T) (NdefX.nscope_by (by decide +kernel)) rfl rfl (by decide +kernel) (free_super T) (by decide +kernel) (by decide +kernel) (fun _ _ _ _ => rfl) (fun _ _ _ _ => rfl) (fun _ _ _ _ => rfl) (fun _ _ _ _ => ⟨_, rfl⟩)
    (fun _ _ _ _ _ _ _ us hl => match us, hl with | [_, _], _ => rfl) (fun _ _ _ _ _ _ _ _ _ => rfl)
theorem okE_TooLong {CX : CXT} (T : Tx K mg w) : ∃ fd, FnOk (PySem.Challenge.rw_timerwheels_k29_errors_made).prog w K mg base CX 1 (ma K (ga K "TooLong") "__init__") fd ["self", "delay"] (sp_er K (ga K "TooLong") "delay") ∧ Binds K fd ["self", "delay"] [] ∧ ∀ (s : Shared) (a : Addr) (u : Value), K.In s.heap → BindsTo s fd ⟨[Value.ref a], [("delay", u)]⟩ ((["self", "delay"] : List PySem.Str).zip [Value.ref a, u]) :=
  ok_erGK (er_TooLong T) rfl (by decide +kernel) (ef_TooLong T) (NdefX.nscope_by (by decide +kernel)) rfl rfl (by decide +kernel) (free_super T) (by decide +kernel) (by decide +kernel) (fun _ _ _ _ => rfl) (fun _ _ _ _ => rfl) (fun _ _ _ _ => rfl) (fun _ _ _ _ => ⟨_, rfl⟩)
    (fun _ _ _ _ _ _ _ us hl => match us, hl with | [_, _], _ => rfl) (fun _ _ _ _ _ _ _ _ _ => rfl)
theorem okE_TooMany {CX : CXT} (T : Tx K mg w) : ∃ fd, FnOk (PySem.Challenge.rw_timerwheels_k29_errors_made).prog w K mg base CX 1 (ma K (ga K "TooMany") "__init__") fd ["self", "limit"] (sp_er K (ga K "TooMany") "limit") ∧ Binds K fd ["self", "limit"] [] ∧ ∀ (s : Shared) (a : Addr) (u : Value), K.In s.heap → BindsTo s fd ⟨[Value.ref a], [("limit", u)]⟩ ((["self", "limit"] : List PySem.Str).zip [Value.ref a, u]) :=
  ok_erGK (er_TooMany T) rfl (by decide +kernel) (ef_TooMany T) (NdefX.nscope_by (by decide +kernel)) rfl rfl (by decide +kernel) (free_super T) (by decide +kernel) (by decide +kernel) (fun _ _ _ _ => rfl) (fun _ _ _ _ => rfl) (fun _ _ _ _ => rfl) (fun _ _ _ _ => ⟨_, rfl⟩)
    (fun _ _ _ _ _ _ _ us hl => match us, hl with | [_, _], _ => rfl) (fun _ _ _ _ _ _ _ _ _ => rfl)
theorem sc__law_begin : FnScope n__law_begin ["_law_script"] (defScope s__law_begin) := ⟨rfl, rfl, rfl, by decide +kernel, rfl, by decide +kernel, by decide +kernel⟩
theorem ln0__law_begin (vs : List V) (H : Hp) (Q : VK) (E : XK) (h : sp__law_begin K vs H Q E) : vs.length = 1 := by
  unfold sp__law_begin at h
  repeat' (first | (exact (congrArg List.length h.1).trans rfl) | (refine Or.elim h (fun h => ?_) (fun h => ?_)) | (obtain ⟨_, h⟩ := h))
theorem okk__law_begin (T : Tx K mg w) : FnOk (PySem.Challenge.rw_timerwheels_k29_errors_made).prog w K mg base CX0 2 (ga K "_law_begin") (d__law_begin T).choose ["_law_script"] (sp__law_begin K) :=
  FunD.ok (k := 1) (N := n__law_begin) (d__law_begin T).choose_spec sc__law_begin ln0__law_begin fun cdv A outer s H vs Q E hr h => ⟨t__law_begin K w, PSs.nox (pss_cons (ps_set (i := 1) sc__law_begin.nd rfl (Or.inl rfl) pe_int)
  (pss_cons (ps_for PassesOwn.never rfl (pi_list (pe_slice sl_list (pv 0) po_none (po_some pe_int))) (pg_name (i := 2) sc__law_begin.nd rfl (Or.inl rfl))
    (pss_one (ps_set (i := 1) sc__law_begin.nd rfl (Or.inl rfl) (pe_op op_mod (pe_op op_add (pe_op op_add (pe_op op_mul (pv 1) pe_int) (pe_op op_mod (pe_callTy call_int1 (by rfl) (free_int T) (by decide +kernel) (pa_cons (pv 2) pa_nil)) pe_int)) pe_int) pe_int))))
  (pss_one (ps_ret (pe_lst (pa_cons (pe_lc (own := [("_law_cell", 2)]) (g := (gName 2)) (tt := tYes) rfl sc__law_begin.nd (pi_list (pv 0)) (blkOk_by (own := [("_law_cell", 2)]) (N := ["_law_script", "_law_seed", "_law_cell"]) (sc := defScope s__law_begin) (by decide +kernel)) (fun _ _ _ _ _ => (pg_name (i := 2) sc__law_begin.nd rfl (Or.inl rfl))) (fun _ _ _ _ _ => pts_nil) (fun _ _ _ _ _ => (pe_callB call_abs (by rfl) (free_abs T) (by decide +kernel) (pa_cons (pe_callTy call_int1 (by rfl) (free_int T) (by decide +kernel) (pa_cons (pv 2) pa_nil)) pa_nil)))) (pa_cons pe_int (pa_cons pe_int (pa_cons (pv 1) (pa_cons pe_int pa_nil)))))))))), rd__law_begin vs H Q E h⟩
theorem ok__law_begin (T : Tx K mg w) : FnR (PySem.Challenge.rw_timerwheels_k29_errors_made).prog w K mg base CX0 2 (ga K "_law_begin") (sp__law_begin K) :=
  fnR_of (okk__law_begin T) ((d__law_begin T).choose_spec.bindsN fun _ _ _ _ _ _ us hl => match us, hl with | [_], _ => rfl)
theorem kp__law_begin (T : Tx K mg w) : keepIn K (.ref (ga K "_law_begin")) = true := (d__law_begin T).choose_spec.kp
theorem sc__law_mixed : FnScope n__law_mixed ["_law_pool", "_law_many"] (defScope s__law_mixed) := ⟨rfl, rfl, rfl, by decide +kernel, rfl, by decide +kernel, by decide +kernel⟩
theorem ln0__law_mixed (vs : List V) (H : Hp) (Q : VK) (E : XK) (h : sp__law_mixed K vs H Q E) : vs.length = 2 := by
  unfold sp__law_mixed at h
  repeat' (first | (exact (congrArg List.length h.1).trans rfl) | (refine Or.elim h (fun h => ?_) (fun h => ?_)) | (obtain ⟨_, h⟩ := h))
theorem okk__law_mixed (T : Tx K mg w) : FnOk (PySem.Challenge.rw_timerwheels_k29_errors_made).prog w K mg base CX0 2 (ga K "_law_mixed") (d__law_mixed T).choose ["_law_pool", "_law_many"] (sp__law_mixed K) :=
  FunD.ok (k := 1) (N := n__law_mixed) (d__law_mixed T).choose_spec sc__law_mixed ln0__law_mixed fun cdv A outer s H vs Q E hr h => ⟨t__law_mixed K w, PSs.nox (pss_cons (ps_asg (pe_op op_add (pe_ix ix_lstH (pv 0) pe_int (fun _ _ => rfl)) pe_int) (pg_sub (pv 0) pe_int set_list))
  (pss_cons (ps_set (i := 2) sc__law_mixed.nd rfl (Or.inl rfl) (pe_ix ix_lstH (pv 0) pe_int (fun _ _ => rfl)))
  (pss_cons (ps_for PassesOwn.never rfl (pi_range1 rfl (free_range T) (pa_cons (pe_op op_add pe_int (pe_op op_fdiv (pe_callB call_len_str (by rfl) (free_len T) (by decide +kernel) (pa_cons (pe_callTy call_str_int (by rfl) (free_str T) (by decide +kernel) (pa_cons (pv 1) pa_nil)) pa_nil)) pe_int)) pa_nil)) (pg_name (i := 3) sc__law_mixed.nd rfl (Or.inl rfl))
    (pss_cons (ps_asg (pe_op op_mod (pe_op op_add (pe_op op_add (pe_op op_mul (pe_ix ix_lstH (pv 0) pe_int (fun _ _ => rfl)) pe_int) (pe_op op_mul (pe_ix ix_lstH (pv 0) pe_int (fun _ _ => rfl)) pe_int)) pe_int) pe_int) (pg_sub (pv 0) pe_int set_list))
  (pss_one (ps_set (i := 2) sc__law_mixed.nd rfl (Or.inl rfl) (pe_op op_add (pe_op op_mul (pv 2) pe_int) (pe_op op_fdiv (pe_ix ix_lstH (pv 0) pe_int (fun _ _ => rfl)) pe_int))))))
  (pss_one (ps_ret (pe_op op_mod (pv 2) (pv 1))))))), rd__law_mixed vs H Q E h⟩
theorem ok__law_mixed (T : Tx K mg w) : FnR (PySem.Challenge.rw_timerwheels_k29_errors_made).prog w K mg base CX0 2 (ga K "_law_mixed") (sp__law_mixed K) :=
  fnR_of (okk__law_mixed T) ((d__law_mixed T).choose_spec.bindsN fun _ _ _ _ _ _ us hl => match us, hl with | [_, _], _ => rfl)
theorem kp__law_mixed (T : Tx K mg w) : keepIn K (.ref (ga K "_law_mixed")) = true := (d__law_mixed T).choose_spec.kp
theorem sc__law_draw : FnScope n__law_draw ["_law_pool", "_law_many"] (defScope s__law_draw) := ⟨rfl, rfl, rfl, by decide +kernel, rfl, by decide +kernel, by decide +kernel⟩
theorem ln0__law_draw (vs : List V) (H : Hp) (Q : VK) (E : XK) (h : sp__law_draw K vs H Q E) : vs.length = 2 := by
  unfold sp__law_draw at h
  repeat' (first | (exact (congrArg List.length h.1).trans rfl) | (refine Or.elim h (fun h => ?_) (fun h => ?_)) | (obtain ⟨_, h⟩ := h))
theorem okk__law_draw (T : Tx K mg w) : FnOk (PySem.Challenge.rw_timerwheels_k29_errors_made).prog w K mg base CX0 4 (ga K "_law_draw") (d__law_draw T).choose ["_law_pool", "_law_many"] (sp__law_draw K) :=
  FunD.ok (k := 3) (N := n__law_draw) (d__law_draw T).choose_spec sc__law_draw ln0__law_draw fun cdv A outer s H vs Q E hr h => ⟨t__law_draw K w, PSs.nox (pss_cons (ps_if (PW.pt (pw_or (pt_cmpR op_ge (pe_ix ix_lstH (pv 0) pe_int (fun _ _ => rfl)) (pe_callB call_lenL (by rfl) (free_len T) (by decide +kernel) (pa_cons (pe_ix ix_lstH (pv 0) pe_int (fun _ _ => rfl)) pa_nil)) (nomark _)) (pw_or1 (pt_cmpR op_eq (pv 1) pe_int (nomark _))))) (pss_one (ps_ret (pe_ifExp (pt_cmpR op_gt (pv 1) pe_int (nomark _)) (pe_fn (ok__law_mixed T) (hr.mono (by decide)) rfl (glo__law_mixed T) (kp__law_mixed T) pass0 (pa_cons (pv 0) (pa_cons (pv 1) pa_nil))) pe_int))) pss_nil)
  (pss_cons (ps_if (pt_cmpR op_lt (pe_ix ix_lstH (pe_ix ix_lstH (pv 0) pe_int (fun _ _ => rfl)) (pe_ix ix_lstH (pv 0) pe_int (fun _ _ => rfl)) (fun _ _ => rfl)) (pe_op op_pow pe_int pe_int) (nomark _)) (pss_cons (ps_asg (pe_op op_mod (pe_op op_add (pe_op op_add (pe_op op_add (pe_op op_mul (pe_ix ix_lstH (pv 0) pe_int (fun _ _ => rfl)) pe_int) (pe_ix ix_lstH (pe_ix ix_lstH (pv 0) pe_int (fun _ _ => rfl)) (pe_ix ix_lstH (pv 0) pe_int (fun _ _ => rfl)) (fun _ _ => rfl))) (pe_ix ix_lstH (pv 0) pe_int (fun _ _ => rfl))) pe_int) pe_int) (pg_sub (pv 0) pe_int set_list))
  (pss_cons (ps_asg (pe_op op_add (pe_ix ix_lstH (pv 0) pe_int (fun _ _ => rfl)) pe_int) (pg_sub (pv 0) pe_int set_list))
  (pss_cons (ps_if (pt_cmpR op_eq (pe_op op_mod (pe_ix ix_lstH (pv 0) pe_int (fun _ _ => rfl)) pe_int) pe_int (nomark _)) (pss_one (ps_asg (pe_op op_add (pe_ix ix_lstH (pv 0) pe_int (fun _ _ => rfl)) pe_int) (pg_sub (pv 0) pe_int set_list))) pss_nil)
  (pss_one (ps_ret (pe_fn (ok__law_mixed T) (hr.mono (by decide)) rfl (glo__law_mixed T) (kp__law_mixed T) pass0 (pa_cons (pv 0) (pa_cons (pv 1) pa_nil)))))))) pss_nil)
  (pss_cons (ps_set (i := 2) sc__law_draw.nd rfl (Or.inl rfl) (pe_op op_mod (pe_ix ix_lstH (pe_ix ix_lstH (pv 0) pe_int (fun _ _ => rfl)) (pe_ix ix_lstH (pv 0) pe_int (fun _ _ => rfl)) (fun _ _ => rfl)) (pv 1)))
  (pss_cons (ps_asg (pe_op op_fdivW (pe_ix ix_lstH (pe_ix ix_lstH (pv 0) pe_int (fun _ _ => rfl)) (pe_ix ix_lstH (pv 0) pe_int (fun _ _ => rfl)) (fun _ _ => rfl)) (pv 1)) (pg_sub (pe_ix ix_lstH (pv 0) pe_int (fun _ _ => rfl)) (pe_ix ix_lstH (pv 0) pe_int (fun _ _ => rfl)) set_list))
  (pss_cons (ps_if (pt_cmpR op_eq (pe_ix ix_lstH (pe_ix ix_lstH (pv 0) pe_int (fun _ _ => rfl)) (pe_ix ix_lstH (pv 0) pe_int (fun _ _ => rfl)) (fun _ _ => rfl)) pe_int (nomark _)) (pss_one (ps_asg (pe_op op_add (pe_ix ix_lstH (pv 0) pe_int (fun _ _ => rfl)) pe_int) (pg_sub (pv 0) pe_int set_list))) pss_nil)
  (pss_one (ps_ret (pv 2)))))))), rd__law_draw vs H Q E h⟩
theorem ok__law_draw (T : Tx K mg w) : FnR (PySem.Challenge.rw_timerwheels_k29_errors_made).prog w K mg base CX0 4 (ga K "_law_draw") (sp__law_draw K) :=
  fnR_of (okk__law_draw T) ((d__law_draw T).choose_spec.bindsN fun _ _ _ _ _ _ us hl => match us, hl with | [_, _], _ => rfl)
theorem kp__law_draw (T : Tx K mg w) : keepIn K (.ref (ga K "_law_draw")) = true := (d__law_draw T).choose_spec.kp
theorem sc__law_fields : FnScope n__law_fields ["_law_thing"] (defScope s__law_fields) := ⟨rfl, rfl, rfl, by decide +kernel, rfl, by decide +kernel, by decide +kernel⟩
theorem ln0__law_fields (vs : List V) (H : Hp) (Q : VK) (E : XK) (h : sp__law_fields K vs H Q E) : vs.length = 1 := by
  unfold sp__law_fields at h
  repeat' (first | (exact (congrArg List.length h.1).trans rfl) | (refine Or.elim h (fun h => ?_) (fun h => ?_)) | (obtain ⟨_, h⟩ := h))
theorem okk__law_fields (T : Tx K mg w) : FnOk (PySem.Challenge.rw_timerwheels_k29_errors_made).prog w K mg base CX0 5 (ga K "_law_fields") (d__law_fields T).choose ["_law_thing"] (sp__law_fields K) :=
  FunD.ok (k := 4) (N := n__law_fields) (d__law_fields T).choose_spec sc__law_fields ln0__law_fields fun cdv A outer s H vs Q E hr h => ⟨t__law_fields K w, PSs.nox (pss_cons (ps_set (i := 1) sc__law_fields.nd rfl (Or.inl rfl) (pe_lst (pa_cons (pe_xfV (pe_mkV (exMk_of (er_InvalidNumber T).oex) (er_InvalidNumber T).ini (er_InvalidNumber T).tfn (okE_InvalidNumber (CX := C8.CX0) T).choose_spec.1 (hr.mono (by decide)) (okE_InvalidNumber (CX := C8.CX0) T).choose_spec.2.1 (fun _ _ _ _ _ _ _ z => z.elim) rfl (glo_InvalidNumber T) (pv 0))) (pa_cons (pe_xfV (pe_mkV (exMk_of (er_InvalidText T).oex) (er_InvalidText T).ini (er_InvalidText T).tfn (okE_InvalidText (CX := C8.CX0) T).choose_spec.1 (hr.mono (by decide)) (okE_InvalidText (CX := C8.CX0) T).choose_spec.2.1 (fun _ _ _ _ _ _ _ z => z.elim) rfl (glo_InvalidText T) (pv 0))) (pa_cons (pe_xfV (pe_mkV (exMk_of (er_InvalidName T).oex) (er_InvalidName T).ini (er_InvalidName T).tfn (okE_InvalidName (CX := C8.CX0) T).choose_spec.1 (hr.mono (by decide)) (okE_InvalidName (CX := C8.CX0) T).choose_spec.2.1 (fun _ _ _ _ _ _ _ z => z.elim) rfl (glo_InvalidName T) (pv 0))) pa_nil)))))
  (pss_cons (ps_set (i := 1) sc__law_fields.nd rfl (Or.inl rfl) (pe_op op_cat (pv 1) (pe_lst (pa_cons (pe_xfV (pe_mkV (exMk_of (er_InvalidLevels T).oex) (er_InvalidLevels T).ini (er_InvalidLevels T).tfn (okE_InvalidLevels (CX := C8.CX0) T).choose_spec.1 (hr.mono (by decide)) (okE_InvalidLevels (CX := C8.CX0) T).choose_spec.2.1 (fun _ _ _ _ _ _ _ z => z.elim) rfl (glo_InvalidLevels T) (pv 0))) (pa_cons (pe_xfV (pe_mkV (exMk_of (er_InvalidSwitch T).oex) (er_InvalidSwitch T).ini (er_InvalidSwitch T).tfn (okE_InvalidSwitch (CX := C8.CX0) T).choose_spec.1 (hr.mono (by decide)) (okE_InvalidSwitch (CX := C8.CX0) T).choose_spec.2.1 (fun _ _ _ _ _ _ _ z => z.elim) rfl (glo_InvalidSwitch T) (pv 0))) (pa_cons (pe_xfV (pe_mkV (exMk_of (er_InvalidMode T).oex) (er_InvalidMode T).ini (er_InvalidMode T).tfn (okE_InvalidMode (CX := C8.CX0) T).choose_spec.1 (hr.mono (by decide)) (okE_InvalidMode (CX := C8.CX0) T).choose_spec.2.1 (fun _ _ _ _ _ _ _ z => z.elim) rfl (glo_InvalidMode T) (pv 0))) pa_nil))))))
  (pss_cons (ps_set (i := 1) sc__law_fields.nd rfl (Or.inl rfl) (pe_op op_cat (pv 1) (pe_lst (pa_cons (pe_xfV (pe_mkV (exMk_of (er_InvalidMenu T).oex) (er_InvalidMenu T).ini (er_InvalidMenu T).tfn (okE_InvalidMenu (CX := C8.CX0) T).choose_spec.1 (hr.mono (by decide)) (okE_InvalidMenu (CX := C8.CX0) T).choose_spec.2.1 (fun _ _ _ _ _ _ _ z => z.elim) rfl (glo_InvalidMenu T) (pv 0))) (pa_cons (pe_xfV (pe_mkV (exMk_of (er_InvalidPlan T).oex) (er_InvalidPlan T).ini (er_InvalidPlan T).tfn (okE_InvalidPlan (CX := C8.CX0) T).choose_spec.1 (hr.mono (by decide)) (okE_InvalidPlan (CX := C8.CX0) T).choose_spec.2.1 (fun _ _ _ _ _ _ _ z => z.elim) rfl (glo_InvalidPlan T) (pv 0))) (pa_cons (pe_xfV (pe_mkV (exMk_of (er_InvalidCommand T).oex) (er_InvalidCommand T).ini (er_InvalidCommand T).tfn (okE_InvalidCommand (CX := C8.CX0) T).choose_spec.1 (hr.mono (by decide)) (okE_InvalidCommand (CX := C8.CX0) T).choose_spec.2.1 (fun _ _ _ _ _ _ _ z => z.elim) rfl (glo_InvalidCommand T) (pv 0))) pa_nil))))))
  (pss_one (ps_ret (pe_op op_cat (pv 1) (pe_lst (pa_cons (pe_xfV (pe_mkV (exMk_ofB (er_TooLong T).oex) (er_TooLong T).ini (er_TooLong T).tfn (okE_TooLong (CX := C8.CX0) T).choose_spec.1 (hr.mono (by decide)) (okE_TooLong (CX := C8.CX0) T).choose_spec.2.1 (fun _ _ _ _ _ _ _ z => z.elim) rfl (glo_TooLong T) (pv 0))) (pa_cons (pe_xfV (pe_mkV (exMk_ofB (er_TooMany T).oex) (er_TooMany T).ini (er_TooMany T).tfn (okE_TooMany (CX := C8.CX0) T).choose_spec.1 (hr.mono (by decide)) (okE_TooMany (CX := C8.CX0) T).choose_spec.2.1 (fun _ _ _ _ _ _ _ z => z.elim) rfl (glo_TooMany T) (pv 0))) pa_nil))))))))), rd__law_fields (kev T) vs H Q E h⟩
theorem ok__law_fields (T : Tx K mg w) : FnR (PySem.Challenge.rw_timerwheels_k29_errors_made).prog w K mg base CX0 5 (ga K "_law_fields") (sp__law_fields K) :=
  fnR_of (okk__law_fields T) ((d__law_fields T).choose_spec.bindsN fun _ _ _ _ _ _ us hl => match us, hl with | [_], _ => rfl)
theorem kp__law_fields (T : Tx K mg w) : keepIn K (.ref (ga K "_law_fields")) = true := (d__law_fields T).choose_spec.kp
theorem sc__law_kindV : FnScope n__law_kindV ["_law_error"] (defScope s__law_kind) := ⟨rfl, rfl, rfl, by decide +kernel, rfl, by decide +kernel, by decide +kernel⟩
theorem ln0__law_kindV (vs : List V) (H : Hp) (Q : VK) (E : XK) (h : sp__law_kindV K vs H Q E) : vs.length = 1 := by
  unfold sp__law_kindV at h
  repeat' (first | (exact (congrArg List.length h.1).trans rfl) | (refine Or.elim h (fun h => ?_) (fun h => ?_)) | (obtain ⟨_, h⟩ := h))
theorem okk__law_kindV (T : Tx K mg w) : FnOk (PySem.Challenge.rw_timerwheels_k29_errors_made).prog w K mg base CX0 2 (ga K "_law_kind") (d__law_kind T).choose ["_law_error"] (sp__law_kindV K) :=
  FunD.ok (k := 1) (N := n__law_kindV) (d__law_kind T).choose_spec sc__law_kindV ln0__law_kindV fun cdv A outer s H vs Q E hr h => ⟨t__law_kindV K w, PSs.nox (pss_cons (ps_set (i := 1) sc__law_kindV.nd rfl (Or.inl rfl) (pe_lst (pa_cons (pe_callB call_isV (by rfl) (free_isinstance T) (by decide +kernel) (pa_cons (pv 0) (pa_cons (pe_glob rfl (glo_InvalidNumber T) rfl) pa_nil))) (pa_cons (pe_callB call_isV (by rfl) (free_isinstance T) (by decide +kernel) (pa_cons (pv 0) (pa_cons (pe_glob rfl (glo_InvalidText T) rfl) pa_nil))) (pa_cons (pe_callB call_isV (by rfl) (free_isinstance T) (by decide +kernel) (pa_cons (pv 0) (pa_cons (pe_glob rfl (glo_InvalidName T) rfl) pa_nil))) pa_nil)))))
  (pss_cons (ps_set (i := 1) sc__law_kindV.nd rfl (Or.inl rfl) (pe_op op_cat (pv 1) (pe_lst (pa_cons (pe_callB call_isV (by rfl) (free_isinstance T) (by decide +kernel) (pa_cons (pv 0) (pa_cons (pe_glob rfl (glo_InvalidLevels T) rfl) pa_nil))) (pa_cons (pe_callB call_isV (by rfl) (free_isinstance T) (by decide +kernel) (pa_cons (pv 0) (pa_cons (pe_glob rfl (glo_InvalidSwitch T) rfl) pa_nil))) pa_nil)))))
  (pss_cons (ps_set (i := 1) sc__law_kindV.nd rfl (Or.inl rfl) (pe_op op_cat (pv 1) (pe_lst (pa_cons (pe_callB call_isV (by rfl) (free_isinstance T) (by decide +kernel) (pa_cons (pv 0) (pa_cons (pe_glob rfl (glo_InvalidMode T) rfl) pa_nil))) (pa_cons (pe_callB call_isV (by rfl) (free_isinstance T) (by decide +kernel) (pa_cons (pv 0) (pa_cons (pe_glob rfl (glo_InvalidMenu T) rfl) pa_nil))) (pa_cons (pe_callB call_isV (by rfl) (free_isinstance T) (by decide +kernel) (pa_cons (pv 0) (pa_cons (pe_glob rfl (glo_InvalidPlan T) rfl) pa_nil))) pa_nil))))))
  (pss_cons (ps_set (i := 1) sc__law_kindV.nd rfl (Or.inl rfl) (pe_op op_cat (pv 1) (pe_lst (pa_cons (pe_callB call_isV (by rfl) (free_isinstance T) (by decide +kernel) (pa_cons (pv 0) (pa_cons (pe_glob rfl (glo_InvalidCommand T) rfl) pa_nil))) (pa_cons (pe_callB call_isV (by rfl) (free_isinstance T) (by decide +kernel) (pa_cons (pv 0) (pa_cons (pe_glob rfl (glo_TooLong T) rfl) pa_nil))) (pa_cons (pe_callB call_isV (by rfl) (free_isinstance T) (by decide +kernel) (pa_cons (pv 0) (pa_cons (pe_glob rfl (glo_TooMany T) rfl) pa_nil))) pa_nil))))))
  (pss_cons (ps_set (i := 1) sc__law_kindV.nd rfl (Or.inl rfl) (pe_op op_cat (pv 1) (pe_lst (pa_cons (pe_callB call_isV (by rfl) (free_isinstance T) (by decide +kernel) (pa_cons (pv 0) (pa_cons (pe_glob rfl (glo_NothingToUndo T) rfl) pa_nil))) pa_nil))))
  (pss_cons (ps_if (PW.pt (pw_or (pt_cmpR op_ne (pe_bm PySem.F.plainAttrs_list PySem.F.slot_list_count PySem.F.type_list_count mt_countF (pv 1) (pa_cons pe_bl pa_nil)) pe_int (nomark _)) (pw_or1 (pt_cmpR op_ne (pe_callB call_isV (by rfl) (free_isinstance T) (by decide +kernel) (pa_cons (pv 0) (pa_cons (pe_glob rfl (glo_WheelError T) rfl) pa_nil))) (pe_cmpR op_lt (pe_bm PySem.F.plainAttrs_list PySem.F.slot_list_index PySem.F.type_list_index mt_index (pv 1) (pa_cons pe_bl pa_nil)) pe_int (nomark _)) (nomark _))))) (pss_one (ps_ret pe_str)) pss_nil)
  (pss_cons (ps_set (i := 2) sc__law_kindV.nd rfl (Or.inl rfl) (pe_lst (pa_cons pe_str (pa_cons pe_str (pa_cons pe_str (pa_cons pe_str (pa_cons pe_str (pa_cons pe_str (pa_cons pe_str (pa_cons pe_str (pa_cons pe_str (pa_cons pe_str (pa_cons pe_str (pa_cons pe_str pa_nil))))))))))))))
  (pss_one (ps_ret (pe_ix ix_lstH (pv 2) (pe_bm PySem.F.plainAttrs_list PySem.F.slot_list_index PySem.F.type_list_index mt_index (pv 1) (pa_cons pe_bl pa_nil)) (fun _ _ => rfl))))))))))), rd__law_kindV (kev T) vs H Q E h⟩
theorem ok__law_kindV (T : Tx K mg w) : FnR (PySem.Challenge.rw_timerwheels_k29_errors_made).prog w K mg base CX0 2 (ga K "_law_kind") (sp__law_kindV K) :=
  fnR_of (okk__law_kindV T) ((d__law_kind T).choose_spec.bindsN fun _ _ _ _ _ _ us hl => match us, hl with | [_], _ => rfl)
theorem kp__law_kind (T : Tx K mg w) : keepIn K (.ref (ga K "_law_kind")) = true := (d__law_kind T).choose_spec.kp
theorem sc__law_classes : FnScope n__law_classes ["_law_thing"] (defScope s__law_classes) := ⟨rfl, rfl, rfl, by decide +kernel, rfl, by decide +kernel, by decide +kernel⟩
theorem ln0__law_classes (vs : List V) (H : Hp) (Q : VK) (E : XK) (h : sp__law_classes K vs H Q E) : vs.length = 1 := by
  unfold sp__law_classes at h
  repeat' (first | (exact (congrArg List.length h.1).trans rfl) | (refine Or.elim h (fun h => ?_) (fun h => ?_)) | (obtain ⟨_, h⟩ := h))
theorem okk__law_classes (T : Tx K mg w) : FnOk (PySem.Challenge.rw_timerwheels_k29_errors_made).prog w K mg base CX0 5 (ga K "_law_classes") (d__law_classes T).choose ["_law_thing"] (sp__law_classes K) :=
  FunD.ok (k := 4) (N := n__law_classes) (d__law_classes T).choose_spec sc__law_classes ln0__law_classes fun cdv A outer s H vs Q E hr h => ⟨t__law_classes K w, PSs.nox (pss_cons (ps_set (i := 1) sc__law_classes.nd rfl (Or.inl rfl) (pe_lst (pa_cons (pe_mkV (exMk_of (er_InvalidNumber T).oex) (er_InvalidNumber T).ini (er_InvalidNumber T).tfn (okE_InvalidNumber (CX := C8.CX0) T).choose_spec.1 (hr.mono (by decide)) (okE_InvalidNumber (CX := C8.CX0) T).choose_spec.2.1 (fun _ _ _ _ _ _ _ z => z.elim) rfl (glo_InvalidNumber T) (pv 0)) (pa_cons (pe_mkV (exMk_of (er_InvalidText T).oex) (er_InvalidText T).ini (er_InvalidText T).tfn (okE_InvalidText (CX := C8.CX0) T).choose_spec.1 (hr.mono (by decide)) (okE_InvalidText (CX := C8.CX0) T).choose_spec.2.1 (fun _ _ _ _ _ _ _ z => z.elim) rfl (glo_InvalidText T) (pv 0)) (pa_cons (pe_mkV (exMk_of (er_InvalidName T).oex) (er_InvalidName T).ini (er_InvalidName T).tfn (okE_InvalidName (CX := C8.CX0) T).choose_spec.1 (hr.mono (by decide)) (okE_InvalidName (CX := C8.CX0) T).choose_spec.2.1 (fun _ _ _ _ _ _ _ z => z.elim) rfl (glo_InvalidName T) (pv 0)) (pa_cons (pe_mkV (exMk_of (er_InvalidLevels T).oex) (er_InvalidLevels T).ini (er_InvalidLevels T).tfn (okE_InvalidLevels (CX := C8.CX0) T).choose_spec.1 (hr.mono (by decide)) (okE_InvalidLevels (CX := C8.CX0) T).choose_spec.2.1 (fun _ _ _ _ _ _ _ z => z.elim) rfl (glo_InvalidLevels T) (pv 0)) (pa_cons (pe_mkV (exMk_of (er_InvalidSwitch T).oex) (er_InvalidSwitch T).ini (er_InvalidSwitch T).tfn (okE_InvalidSwitch (CX := C8.CX0) T).choose_spec.1 (hr.mono (by decide)) (okE_InvalidSwitch (CX := C8.CX0) T).choose_spec.2.1 (fun _ _ _ _ _ _ _ z => z.elim) rfl (glo_InvalidSwitch T) (pv 0)) pa_nil)))))))
  (pss_cons (ps_set (i := 1) sc__law_classes.nd rfl (Or.inl rfl) (pe_op op_cat (pv 1) (pe_lst (pa_cons (pe_mkV (exMk_of (er_InvalidMode T).oex) (er_InvalidMode T).ini (er_InvalidMode T).tfn (okE_InvalidMode (CX := C8.CX0) T).choose_spec.1 (hr.mono (by decide)) (okE_InvalidMode (CX := C8.CX0) T).choose_spec.2.1 (fun _ _ _ _ _ _ _ z => z.elim) rfl (glo_InvalidMode T) (pv 0)) (pa_cons (pe_mkV (exMk_of (er_InvalidMenu T).oex) (er_InvalidMenu T).ini (er_InvalidMenu T).tfn (okE_InvalidMenu (CX := C8.CX0) T).choose_spec.1 (hr.mono (by decide)) (okE_InvalidMenu (CX := C8.CX0) T).choose_spec.2.1 (fun _ _ _ _ _ _ _ z => z.elim) rfl (glo_InvalidMenu T) (pv 0)) (pa_cons (pe_mkV (exMk_of (er_InvalidPlan T).oex) (er_InvalidPlan T).ini (er_InvalidPlan T).tfn (okE_InvalidPlan (CX := C8.CX0) T).choose_spec.1 (hr.mono (by decide)) (okE_InvalidPlan (CX := C8.CX0) T).choose_spec.2.1 (fun _ _ _ _ _ _ _ z => z.elim) rfl (glo_InvalidPlan T) (pv 0)) (pa_cons (pe_mkV (exMk_of (er_InvalidCommand T).oex) (er_InvalidCommand T).ini (er_InvalidCommand T).tfn (okE_InvalidCommand (CX := C8.CX0) T).choose_spec.1 (hr.mono (by decide)) (okE_InvalidCommand (CX := C8.CX0) T).choose_spec.2.1 (fun _ _ _ _ _ _ _ z => z.elim) rfl (glo_InvalidCommand T) (pv 0)) pa_nil)))))))
  (pss_cons (ps_set (i := 1) sc__law_classes.nd rfl (Or.inl rfl) (pe_op op_cat (pv 1) (pe_lst (pa_cons (pe_mkV (exMk_ofB (er_TooLong T).oex) (er_TooLong T).ini (er_TooLong T).tfn (okE_TooLong (CX := C8.CX0) T).choose_spec.1 (hr.mono (by decide)) (okE_TooLong (CX := C8.CX0) T).choose_spec.2.1 (fun _ _ _ _ _ _ _ z => z.elim) rfl (glo_TooLong T) (pv 0)) (pa_cons (pe_mkV (exMk_ofB (er_TooMany T).oex) (er_TooMany T).ini (er_TooMany T).tfn (okE_TooMany (CX := C8.CX0) T).choose_spec.1 (hr.mono (by decide)) (okE_TooMany (CX := C8.CX0) T).choose_spec.2.1 (fun _ _ _ _ _ _ _ z => z.elim) rfl (glo_TooMany T) (pv 0)) (pa_cons (pe_mkV0 PySem.F.excBase_LookupError (xc_NothingToUndo T) (glo_NothingToUndo T) (kq_NothingToUndo T) rfl) pa_nil))))))
  (pss_cons (ps_if (pt_cmpR (op_neD (ul hr)) (pe_lc (own := [("_law_one", 2)]) (g := (gName 2)) (tt := tYes) rfl sc__law_classes.nd (pi_list (pv 1)) (blkOk_by (own := [("_law_one", 2)]) (N := ["_law_thing", "_law_found", "_law_one"]) (sc := defScope s__law_classes) (by decide +kernel)) (fun _ _ _ _ _ => (pg_name (i := 2) sc__law_classes.nd rfl (Or.inl rfl))) (fun _ _ _ _ _ => pts_nil) (fun _ _ _ _ _ => (pe_callB call_isV (by rfl) (free_isinstance T) (by decide +kernel) (pa_cons (pv 2) (pa_cons (pe_glob rfl (glo_WheelError T) rfl) pa_nil))))) (pe_op op_cat (pe_op op_rep (pe_lst (pa_cons pe_bl pa_nil)) pe_int) (pe_op op_rep (pe_lst (pa_cons pe_bl pa_nil)) pe_int)) (nomark _)) (pss_one (ps_ret (pe_lst pa_nil))) pss_nil)
  (pss_cons (ps_if (pt_cmpR (op_neD (ul hr)) (pe_lc (own := [("_law_one", 2)]) (g := (gName 2)) (tt := tYes) rfl sc__law_classes.nd (pi_list (pv 1)) (blkOk_by (own := [("_law_one", 2)]) (N := ["_law_thing", "_law_found", "_law_one"]) (sc := defScope s__law_classes) (by decide +kernel)) (fun _ _ _ _ _ => (pg_name (i := 2) sc__law_classes.nd rfl (Or.inl rfl))) (fun _ _ _ _ _ => pts_nil) (fun _ _ _ _ _ => (pe_callB call_isV (by rfl) (free_isinstance T) (by decide +kernel) (pa_cons (pv 2) (pa_cons (pe_bltn (v := .ty "ValueError") (by rfl) (free_ValueError T) (by decide +kernel) rfl) pa_nil))))) (pe_op op_cat (pe_op op_rep (pe_lst (pa_cons pe_bl pa_nil)) pe_int) (pe_op op_rep (pe_lst (pa_cons pe_bl pa_nil)) pe_int)) (nomark _)) (pss_one (ps_ret (pe_lst pa_nil))) pss_nil)
  (pss_cons (ps_if (pt_cmpR (op_neD (ul hr)) (pe_lc (own := [("_law_one", 2)]) (g := (gName 2)) (tt := tYes) rfl sc__law_classes.nd (pi_list (pv 1)) (blkOk_by (own := [("_law_one", 2)]) (N := ["_law_thing", "_law_found", "_law_one"]) (sc := defScope s__law_classes) (by decide +kernel)) (fun _ _ _ _ _ => (pg_name (i := 2) sc__law_classes.nd rfl (Or.inl rfl))) (fun _ _ _ _ _ => pts_nil) (fun _ _ _ _ _ => (pe_callB call_isV (by rfl) (free_isinstance T) (by decide +kernel) (pa_cons (pv 2) (pa_cons (pe_bltn (v := .ty "OverflowError") (by rfl) (free_OverflowError T) (by decide +kernel) rfl) pa_nil))))) (pe_op op_cat (pe_op op_rep (pe_lst (pa_cons pe_bl pa_nil)) pe_int) (pe_lst (pa_cons pe_bl (pa_cons pe_bl (pa_cons pe_bl pa_nil))))) (nomark _)) (pss_one (ps_ret (pe_lst pa_nil))) pss_nil)
  (pss_cons (ps_if (pt_cmpR (op_neD (ul hr)) (pe_lc (own := [("_law_one", 2)]) (g := (gName 2)) (tt := tYes) rfl sc__law_classes.nd (pi_list (pv 1)) (blkOk_by (own := [("_law_one", 2)]) (N := ["_law_thing", "_law_found", "_law_one"]) (sc := defScope s__law_classes) (by decide +kernel)) (fun _ _ _ _ _ => (pg_name (i := 2) sc__law_classes.nd rfl (Or.inl rfl))) (fun _ _ _ _ _ => pts_nil) (fun _ _ _ _ _ => (pe_callB call_isV (by rfl) (free_isinstance T) (by decide +kernel) (pa_cons (pv 2) (pa_cons (pe_bltn (v := .ty "LookupError") (by rfl) (free_LookupError T) (by decide +kernel) rfl) pa_nil))))) (pe_op op_cat (pe_op op_rep (pe_lst (pa_cons pe_bl pa_nil)) pe_int) (pe_lst (pa_cons pe_bl pa_nil))) (nomark _)) (pss_one (ps_ret (pe_lst pa_nil))) pss_nil)
  (pss_one (ps_ret (pe_lc (own := [("_law_one", 2)]) (g := (gName 2)) (tt := tYes) rfl sc__law_classes.nd (pi_list (pv 1)) (blkOk_by (own := [("_law_one", 2)]) (N := ["_law_thing", "_law_found", "_law_one"]) (sc := defScope s__law_classes) (by decide +kernel)) (fun _ _ _ _ _ => (pg_name (i := 2) sc__law_classes.nd rfl (Or.inl rfl))) (fun _ _ _ _ _ => pts_nil) (fun _ _ _ _ _ => (pe_fn (ok__law_kindV T) (hr.mono (by decide)) rfl (glo__law_kind T) (kp__law_kind T) pass0 (pa_cons (pv 2) pa_nil))))))))))))), rd__law_classes (kev T) vs H Q E h⟩
theorem ok__law_classes (T : Tx K mg w) : FnR (PySem.Challenge.rw_timerwheels_k29_errors_made).prog w K mg base CX0 5 (ga K "_law_classes") (sp__law_classes K) :=
  fnR_of (okk__law_classes T) ((d__law_classes T).choose_spec.bindsN fun _ _ _ _ _ _ us hl => match us, hl with | [_], _ => rfl)
theorem kp__law_classes (T : Tx K mg w) : keepIn K (.ref (ga K "_law_classes")) = true := (d__law_classes T).choose_spec.kp
theorem sc__law_named_fields : FnScope n__law_named_fields ["_law_thing"] (defScope s__law_named_fields) := ⟨rfl, rfl, rfl, by decide +kernel, rfl, by decide +kernel, by decide +kernel⟩
theorem ln0__law_named_fields (vs : List V) (H : Hp) (Q : VK) (E : XK) (h : sp__law_named_fields K vs H Q E) : vs.length = 1 := by
  unfold sp__law_named_fields at h
  repeat' (first | (exact (congrArg List.length h.1).trans rfl) | (refine Or.elim h (fun h => ?_) (fun h => ?_)) | (obtain ⟨_, h⟩ := h))
theorem okk__law_named_fields (T : Tx K mg w) : FnOk (PySem.Challenge.rw_timerwheels_k29_errors_made).prog w K mg base CX0 5 (ga K "_law_named_fields") (d__law_named_fields T).choose ["_law_thing"] (sp__law_named_fields K) :=
  FunD.ok (k := 4) (N := n__law_named_fields) (d__law_named_fields T).choose_spec sc__law_named_fields ln0__law_named_fields fun cdv A outer s H vs Q E hr h => ⟨t__law_named_fields K w, PSs.nox (pss_cons (ps_set (i := 1) sc__law_named_fields.nd rfl (Or.inl rfl) (pe_lst (pa_cons (pe_xfV (pe_mkVK (exMk_of (er_InvalidNumber T).oex) (er_InvalidNumber T).ini (er_InvalidNumber T).tfn (okE_InvalidNumber (CX := C8.CX0) T).choose_spec.1 (hr.mono (by decide)) (okE_InvalidNumber (CX := C8.CX0) T).choose_spec.2.2 (fun _ _ _ _ _ _ _ z => z.elim) rfl (glo_InvalidNumber T) (pk_cons (pv 0) pk_nil))) (pa_cons (pe_xfV (pe_mkVK (exMk_of (er_InvalidText T).oex) (er_InvalidText T).ini (er_InvalidText T).tfn (okE_InvalidText (CX := C8.CX0) T).choose_spec.1 (hr.mono (by decide)) (okE_InvalidText (CX := C8.CX0) T).choose_spec.2.2 (fun _ _ _ _ _ _ _ z => z.elim) rfl (glo_InvalidText T) (pk_cons (pv 0) pk_nil))) (pa_cons (pe_xfV (pe_mkVK (exMk_of (er_InvalidName T).oex) (er_InvalidName T).ini (er_InvalidName T).tfn (okE_InvalidName (CX := C8.CX0) T).choose_spec.1 (hr.mono (by decide)) (okE_InvalidName (CX := C8.CX0) T).choose_spec.2.2 (fun _ _ _ _ _ _ _ z => z.elim) rfl (glo_InvalidName T) (pk_cons (pv 0) pk_nil))) pa_nil)))))
  (pss_cons (ps_set (i := 1) sc__law_named_fields.nd rfl (Or.inl rfl) (pe_op op_cat (pv 1) (pe_lst (pa_cons (pe_xfV (pe_mkVK (exMk_of (er_InvalidLevels T).oex) (er_InvalidLevels T).ini (er_InvalidLevels T).tfn (okE_InvalidLevels (CX := C8.CX0) T).choose_spec.1 (hr.mono (by decide)) (okE_InvalidLevels (CX := C8.CX0) T).choose_spec.2.2 (fun _ _ _ _ _ _ _ z => z.elim) rfl (glo_InvalidLevels T) (pk_cons (pv 0) pk_nil))) (pa_cons (pe_xfV (pe_mkVK (exMk_of (er_InvalidSwitch T).oex) (er_InvalidSwitch T).ini (er_InvalidSwitch T).tfn (okE_InvalidSwitch (CX := C8.CX0) T).choose_spec.1 (hr.mono (by decide)) (okE_InvalidSwitch (CX := C8.CX0) T).choose_spec.2.2 (fun _ _ _ _ _ _ _ z => z.elim) rfl (glo_InvalidSwitch T) (pk_cons (pv 0) pk_nil))) pa_nil)))))
  (pss_cons (ps_set (i := 1) sc__law_named_fields.nd rfl (Or.inl rfl) (pe_op op_cat (pv 1) (pe_lst (pa_cons (pe_xfV (pe_mkVK (exMk_of (er_InvalidMode T).oex) (er_InvalidMode T).ini (er_InvalidMode T).tfn (okE_InvalidMode (CX := C8.CX0) T).choose_spec.1 (hr.mono (by decide)) (okE_InvalidMode (CX := C8.CX0) T).choose_spec.2.2 (fun _ _ _ _ _ _ _ z => z.elim) rfl (glo_InvalidMode T) (pk_cons (pv 0) pk_nil))) (pa_cons (pe_xfV (pe_mkVK (exMk_of (er_InvalidMenu T).oex) (er_InvalidMenu T).ini (er_InvalidMenu T).tfn (okE_InvalidMenu (CX := C8.CX0) T).choose_spec.1 (hr.mono (by decide)) (okE_InvalidMenu (CX := C8.CX0) T).choose_spec.2.2 (fun _ _ _ _ _ _ _ z => z.elim) rfl (glo_InvalidMenu T) (pk_cons (pv 0) pk_nil))) (pa_cons (pe_xfV (pe_mkVK (exMk_of (er_InvalidPlan T).oex) (er_InvalidPlan T).ini (er_InvalidPlan T).tfn (okE_InvalidPlan (CX := C8.CX0) T).choose_spec.1 (hr.mono (by decide)) (okE_InvalidPlan (CX := C8.CX0) T).choose_spec.2.2 (fun _ _ _ _ _ _ _ z => z.elim) rfl (glo_InvalidPlan T) (pk_cons (pv 0) pk_nil))) pa_nil))))))
  (pss_one (ps_ret (pe_op op_cat (pv 1) (pe_lst (pa_cons (pe_xfV (pe_mkVK (exMk_of (er_InvalidCommand T).oex) (er_InvalidCommand T).ini (er_InvalidCommand T).tfn (okE_InvalidCommand (CX := C8.CX0) T).choose_spec.1 (hr.mono (by decide)) (okE_InvalidCommand (CX := C8.CX0) T).choose_spec.2.2 (fun _ _ _ _ _ _ _ z => z.elim) rfl (glo_InvalidCommand T) (pk_cons (pv 0) pk_nil))) (pa_cons (pe_xfV (pe_mkVK (exMk_ofB (er_TooLong T).oex) (er_TooLong T).ini (er_TooLong T).tfn (okE_TooLong (CX := C8.CX0) T).choose_spec.1 (hr.mono (by decide)) (okE_TooLong (CX := C8.CX0) T).choose_spec.2.2 (fun _ _ _ _ _ _ _ z => z.elim) rfl (glo_TooLong T) (pk_cons (pv 0) pk_nil))) (pa_cons (pe_xfV (pe_mkVK (exMk_ofB (er_TooMany T).oex) (er_TooMany T).ini (er_TooMany T).tfn (okE_TooMany (CX := C8.CX0) T).choose_spec.1 (hr.mono (by decide)) (okE_TooMany (CX := C8.CX0) T).choose_spec.2.2 (fun _ _ _ _ _ _ _ z => z.elim) rfl (glo_TooMany T) (pk_cons (pv 0) pk_nil))) pa_nil)))))))))), rd__law_named_fields (kev T) vs H Q E h⟩
theorem ok__law_named_fields (T : Tx K mg w) : FnR (PySem.Challenge.rw_timerwheels_k29_errors_made).prog w K mg base CX0 5 (ga K "_law_named_fields") (sp__law_named_fields K) :=
  fnR_of (okk__law_named_fields T) ((d__law_named_fields T).choose_spec.bindsN fun _ _ _ _ _ _ us hl => match us, hl with | [_], _ => rfl)
theorem kp__law_named_fields (T : Tx K mg w) : keepIn K (.ref (ga K "_law_named_fields")) = true := (d__law_named_fields T).choose_spec.kp
theorem sc_law : FnScope n_law ["_law_script"] (defScope s_law) := ⟨rfl, rfl, rfl, by decide +kernel, rfl, by decide +kernel, by decide +kernel⟩
theorem ln0_law (vs : List V) (H : Hp) (Q : VK) (E : XK) (h : sp_law K vs H Q E) : vs.length = 1 := by
  unfold sp_law at h
  repeat' (first | (exact (congrArg List.length h.1).trans rfl) | (refine Or.elim h (fun h => ?_) (fun h => ?_)) | (obtain ⟨_, h⟩ := h))
theorem okG_law (T : Tx K mg w) : FnG (PySem.Challenge.rw_timerwheels_k29_errors_made).prog w K mg base CX0 7 (ga K "law") (sp_law K) := by
  obtain ⟨fd, F⟩ := d_law T
  exact fnG_of (k := 6) (N := n_law) F sc_law (F.bindsN fun _ _ _ _ _ _ us hl => match us, hl with | [_], _ => rfl) ln0_law fun cdv A outer s H vs Q E hr h => ⟨t_law K w, PSs.nox (pss_cons (ps_set (i := 1) sc_law.nd rfl (Or.inl rfl) (pe_lst (pa_cons pe_str (pa_cons pe_str (pa_cons pe_str (pa_cons pe_str (pa_cons pe_str (pa_cons pe_str (pa_cons pe_str (pa_cons pe_str (pa_cons pe_str (pa_cons pe_str (pa_cons pe_str (pa_cons pe_str pa_nil))))))))))))))
  (pss_cons (ps_set (i := 2) sc_law.nd rfl (Or.inl rfl) (pe_fn (ok__law_begin T) (hr.rm.mono (by decide)) rfl (glo__law_begin T) (kp__law_begin T) pass0 (pa_cons (pv 0) pa_nil)))
  (pss_cons (ps_set (i := 3) sc_law.nd rfl (Or.inl rfl) (pe_lst (pa_cons pe_non (pa_cons pe_bl (pa_cons pe_int (pa_cons pe_str (pa_cons (pe_tup (pa_cons pe_int (pa_cons pe_non pa_nil))) (pa_cons (pe_lst (pa_cons pe_int (pa_cons (pe_lst (pa_cons pe_int pa_nil)) pa_nil))) (pa_cons (pe_disp (pps_cons pe_str pe_int pps_nil) rfl rfl (by simp) (by decide)) pa_nil)))))))))
  (pss_cons (ps_set (i := 3) sc_law.nd rfl (Or.inl rfl) (pe_op op_cat (pv 3) (pe_lst (pa_cons (pe_fn (ok__law_draw T) (hr.rm.mono (by decide)) rfl (glo__law_draw T) (kp__law_draw T) pass0 (pa_cons (pv 2) (pa_cons (pe_op op_pow pe_int pe_int) pa_nil))) (pa_cons (pe_op op_sub (pe_un un_neg pe_int) (pe_fn (ok__law_draw T) (hr.rm.mono (by decide)) rfl (glo__law_draw T) (kp__law_draw T) pass0 (pa_cons (pv 2) (pa_cons (pe_op op_pow pe_int pe_int) pa_nil)))) pa_nil)))))
  (pss_cons (ps_for PassesOwn.never rfl (pi_list (pe_op op_cat (pv 3) (pe_lst (pa_cons (pe_op op_repA (pe_tup (pa_cons pe_str pa_nil)) (pe_fn (ok__law_draw T) (hr.rm.mono (by decide)) rfl (glo__law_draw T) (kp__law_draw T) pass0 (pa_cons (pv 2) (pa_cons pe_int pa_nil)))) (pa_cons (pe_op op_rep (pe_lst (pa_cons pe_str pa_nil)) (pe_fn (ok__law_draw T) (hr.rm.mono (by decide)) rfl (glo__law_draw T) (kp__law_draw T) pass0 (pa_cons (pv 2) (pa_cons pe_int pa_nil)))) pa_nil))))) (pg_name (i := 4) sc_law.nd rfl (Or.inl rfl))
    (pss_cons (ps_set (i := 5) sc_law.nd rfl (Or.inl rfl) (pe_callB (call_repr9 hr.gd (Nat.lt_of_le_of_lt (Nat.add_le_add_left (show 40 ≤ 64 by decide) _) (ul hr.rm))) (by rfl) (free_repr T) (by decide +kernel) (pa_cons (pv 4) pa_nil)))
  (pss_cons (ps_if (PW.pt (pw_or (pt_cmpR (op_neD (ul hr.rm)) (pe_lc (own := [("_law_one", 6)]) (g := (gName 6)) (tt := tYes) rfl sc_law.nd (pi_list (pe_fn (ok__law_fields T) (hr.rm.mono (by decide)) rfl (glo__law_fields T) (kp__law_fields T) pass0 (pa_cons (pv 4) pa_nil))) (blkOk_by (own := [("_law_one", 6)]) (N := ["_law_script", "_law_names", "_law_pool", "_law_some", "_law_thing", "_law_kept", "_law_one"]) (sc := defScope s_law) (by decide +kernel)) (fun _ _ _ _ _ => (pg_name (i := 6) sc_law.nd rfl (Or.inl rfl))) (fun _ _ _ _ _ => pts_nil) (fun _ _ _ _ _ => (pe_callB (call_repr9 hr.gd (Nat.lt_of_le_of_lt (Nat.add_le_add_left (show 40 ≤ 64 by decide) _) (ul hr.rm))) (by rfl) (free_repr T) (by decide +kernel) (pa_cons (pv 6) pa_nil)))) (pe_op op_rep (pe_lst (pa_cons (pv 5) pa_nil)) pe_int) (nomark _)) (pw_or1 (pt_cmpR (op_neD (ul hr.rm)) (pe_fn (ok__law_classes T) (hr.rm.mono (by decide)) rfl (glo__law_classes T) (kp__law_classes T) pass0 (pa_cons (pv 4) pa_nil)) (pv 1) (nomark _))))) (pss_one (ps_ret pe_bl)) pss_nil)
  (pss_one (ps_if (pt_cmpR (op_neD (ul hr.rm)) (pe_lc (own := [("_law_one", 6)]) (g := (gName 6)) (tt := tYes) rfl sc_law.nd (pi_list (pe_fn (ok__law_named_fields T) (hr.rm.mono (by decide)) rfl (glo__law_named_fields T) (kp__law_named_fields T) pass0 (pa_cons (pv 4) pa_nil))) (blkOk_by (own := [("_law_one", 6)]) (N := ["_law_script", "_law_names", "_law_pool", "_law_some", "_law_thing", "_law_kept", "_law_one"]) (sc := defScope s_law) (by decide +kernel)) (fun _ _ _ _ _ => (pg_name (i := 6) sc_law.nd rfl (Or.inl rfl))) (fun _ _ _ _ _ => pts_nil) (fun _ _ _ _ _ => (pe_callB (call_repr9 hr.gd (Nat.lt_of_le_of_lt (Nat.add_le_add_left (show 40 ≤ 64 by decide) _) (ul hr.rm))) (by rfl) (free_repr T) (by decide +kernel) (pa_cons (pv 6) pa_nil)))) (pe_op op_rep (pe_lst (pa_cons (pv 5) pa_nil)) pe_int) (nomark _)) (pss_one (ps_ret pe_bl)) pss_nil)))))
  (pss_one (ps_ret pe_bl))))))), rd_law (kev T) vs H Q E h⟩
end
end Tw
theorem PySem.Challenge.cw_timerwheels_k29_errors_made_holds : PySem.Challenge.rw_timerwheels_k29_errors_made.Holds := by
  exact Hd.holds (k := 7) (CX := L2.CX0) (fun _ _ _ _ z => z) ⟨⟨rfl, by decide, by decide⟩, rfl⟩ fun K mg w base T => Tw.okG_law T
