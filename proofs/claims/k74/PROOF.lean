import PyProof.Rows.All
import Wide.All
import OpenK.AllK
import Wide.FinOn
import KE.KStateDown
import KE.KOpsOwn
import HandS.ForMost
import HandS.ForExc
import HandS.Wide
import HandS.Defaults
import HandS.Star
import HandS.ClsMeth
import HandS.IsInst
import HandS.OwnEq
import HandS.Walk
import HandS.Zip
import HandS.Style
import HandS.Property
import HandS.Head0
import HandS.Head1
import HandS.Head2
import HandS.HeadEnd
import HandS.HeadHook1
import HandS.HeadHook2
import HandS.HeadNt
import HandS.SlotsOwn
import KE.GoesEnum
import KE.GoesMore
import HandS.MakeKw
import HandS.Evl
import PySem.Challenge.RW_edgesmeet_k74_lines_put_together
set_option Elab.async false
set_option linter.all false
set_option maxRecDepth 100000
set_option maxHeartbeats 4000000
/-! EM1: further rules over the hand layer: calls by positional promises, star calls, own operators, facts of the head by Bools. -/
namespace EM
open PySem PySem.Spec PyProof.Rows L2
/-! ### the Hook: facts as Bools of the written part -/
abbrev Fk := PySem.W.Frag → Bool
def obsF (fa : List Fk) (fn : List He5.DefA) (K : PySem.W.Frag) : He.AlD := ((fa.all fun f => f K) && fn.all fun d => d.ok K, fn.map fun d => He5.fnA K (d.at_ K))
def valF (fn : List He5.DefA) : He.AlD := (true, fn.map He5.DefA.val)
def SaysF (fa : List Fk) (fn : List He5.DefA) (K : PySem.W.Frag) : Prop := obsF fa fn K = valF fn
def obsFG (n : Nat) (fa : List Fk) (fn : List He5.DefA) (g : Addr → Option Obj) : He.AlD := obsF fa fn (He.frG g (He5.asA g n))
def hookF (n : Nat) (fa : List Fk) (fn : List He5.DefA) : PySem.W.Hook where
  α := He.AlD
  obs := fun s => obsFG n fa fn s.heap.get?
  val := fun _ => valF fn
  says := fun _ h => ∃ K : PySem.W.Frag, K.In h ∧ SaysF fa fn K
  of := fun _ _ e => ⟨_, He.frG_in, e⟩
  keeps := fun _ _ _ ⟨K, hK, c⟩ k => ⟨K, PySem.W.Frag.In.keeps hK k, c⟩
theorem obsFG_eq {n : Nat} {fa : List Fk} {fn : List He5.DefA} {g : Addr → Option Obj} {s : Shared} (h : ∀ a, g a = s.heap.get? a) : obsFG n fa fn g = (hookF n fa fn).obs s := by
  have e : g = s.heap.get? := funext h
  rw [e] <;> rfl
section
variable {fa : List Fk} {fn : List He5.DefA} {K : PySem.W.Frag}
theorem SaysF.fact (c : SaysF fa fn K) (i : Nat) {f : Fk} (h : fa[i]? = some f := by rfl) : f K = true := by
  have c1 := (He.ba (show ((fa.all fun f => f K) && fn.all fun d => d.ok K) = true from congrArg (fun z : He.AlD => z.1) c)).1
  exact List.all_eq_true.mp c1 f (List.mem_of_getElem? h)
theorem SaysF.def_ (c : SaysF fa fn K) (i : Nat) {d : He5.DefA} (h : fn[i]? = some d := by rfl) : ∃ fd, L2.FunD K d.name d.qual d.params d.body d.scope (d.dvs K) (d.kws K) (d.at_ K) fd := by
  have c2 := (He.ba (show ((fa.all fun f => f K) && fn.all fun d => d.ok K) = true from congrArg (fun z : He.AlD => z.1) c)).2
  have e : fn.map (fun d => He5.fnA K (d.at_ K)) = fn.map He5.DefA.val := congrArg (fun z : He.AlD => z.2) c
  have e2 : (fn.map fun d => He5.fnA K (d.at_ K))[i]? = (fn.map He5.DefA.val)[i]? := by rw [e]
  rw [List.getElem?_map, List.getElem?_map, h] at e2
  exact He5.DefA.funD (Option.some.inj e2) (List.all_eq_true.mp c2 d (List.mem_of_getElem? h))
end
/-! ### calls by a positional promise -/
abbrev CXp (X : Cx) : CXT := L2.CX X.prog X.w
def tCR (sp : Sp) (E : XK) (t : TA) : TE := fun σ H Q => t σ H fun vs H1 => sp vs H1 Q E
def tMR (C : Addr) (m : Str) (sp : Sp) (E : XK) (ta : TE) (t : TA) : TE := fun σ H Q => ta σ H fun x H1 => ∃ a dx fs, x = V.ref a ∧ H1 a = some (.ins C dx fs) ∧ fs.lookup m = none ∧ t σ H1 fun vs H2 => sp (x :: vs) H2 Q E
section
variable {X : Cx} {CX : CXT} {k : Nat} {f C : Addr} {sp : Sp} {E : XK} {x m : Str} {e o : Expr} {es : List Expr} {te ta : TE} {t : TA} {p sp_ pos apos : Pos}
/-- f(e, ..) -/
theorem pe_cR (F : FnR X.prog X.w X.K X.mg X.base CX k f sp) (hr : Room k X.A) (hk : PySem.W.keepIn X.K (.ref f) = true) (hm : X.mg x = some (.ref f)) (hx : Passes CX X E) (ha : PA X (e :: es) t) (hg : Gl X x := by rfl) (hd : (x == ("__debug__" : Str)) = false := by decide)
    (he : starEach (e :: es) X.env = (false, eval e X.env) :: starEach es X.env := by rfl) (hpl : (backTo pos (starEach es X.env)).any (·.1) = false := by rfl) :
    PE X (.Call (.Name x p) (e :: es) [] pos) (tCR sp E t) := by
  refine ⟨fun pins s σ H Q I h => ?_⟩
  refine wpAny_Call_Name_kw (ld_glob I hg hm ?_ hd)
  refine PySem.W.callWith_K (h₀ := X.base) I.ok.mod.kin hk (thn (ha.run pos pins s σ H _ I h) fun us s1 ⟨vs, H1, I1, r, q⟩ => ⟨I1.kIn, ?_⟩) he hpl
  exact wpAny_call (run_fnR F hr hx I1 r q)
/-- f() -/
theorem pe_cR0 (F : FnR X.prog X.w X.K X.mg X.base CX k f sp) (hr : Room k X.A) (hk : PySem.W.keepIn X.K (.ref f) = true) (hm : X.mg x = some (.ref f)) (hx : Passes CX X E) (hg : Gl X x := by rfl) (hd : (x == ("__debug__" : Str)) = false := by decide) :
    PE X (.Call (.Name x p) [] [] pos) (tCR sp E tNil) := by
  refine ⟨fun pins s σ H Q I h => ?_⟩
  refine wpAny_Call_Name_kw (ld_glob I hg hm ?_ hd)
  exact PySem.W.callWith_K0 I.kIn hk (wpAny_call (run_fnR (us := []) (vs := []) F hr hx I .nil h))
/-- C( *y): an instance made with what a list or tuple holds -/
theorem pe_mkS1 (M : Mk X.K C f) (F : FnR X.prog X.w X.K X.mg X.base CX k f sp) (hr : Room (k + 1) X.A) (hm : X.mg x = some (.ref C)) (hx : Passes CX X E) (he : PE X e te) (hg : Gl X x := by rfl) (hd : (x == ("__debug__" : Str)) = false := by decide)
    (hst : starEach [.Starred e sp_] X.env = [(true, eval e X.env)] := by rfl) :
    PE X (.Call (.Name x p) [.Starred e sp_] [] pos) (StX.tMakeR C sp E (StX.tStar X.K te tNil)) := by
  refine ⟨fun pins s σ H Q I h => ?_⟩
  refine wpAny_Call_Name_kw (ld_glob I hg hm ?_ hd)
  refine PySem.W.callWith_S (h₀ := X.base) I.ok.mod.kin M.kp (thn (he.run pins s σ H _ I h) fun v s1 ⟨y, H1, I1, ry, a, xs, ey, hxs, q⟩ => ?_) hst
  subst ey
  obtain rfl : v = Value.ref a := ry
  refine StX.star_any I1 hxs fun us s2 I2 rv => ⟨I2.kIn, ?_⟩
  have q2 := (show ∀ x dx, H1 x = Option.none → H1 dx = Option.none → dx ≠ x → sp (V.ref x :: (xs ++ [])) (upd (upd H1 dx (.own x)) x (.ins C dx [])) (fun v H2 => v = .non ∧ Q (.ref x) H2) E from q)
  rw [List.append_nil] at q2
  exact StX.run_makeR M F hr hx I2 rv q2
/-- o.m(e, ..) of an instance with a dict -/
theorem pe_mR {pl : Sem Bool} (he : PE X o ta) (c : Cls X.K C) (hm : Meth X.K C m f) (F : FnR X.prog X.w X.K X.mg X.base CX k f sp) (hr : Room k X.A) (hx : Passes CX X E) (ha : PA X (e :: es) t)
    (hst : starEach (e :: es) X.env = (false, eval e X.env) :: starEach es X.env := by rfl) (hpl : (backTo pos (starEach es X.env)).any (·.1) = false := by rfl)
    (ht : eval (.Call (.Attribute o m apos) (e :: es) [] pos) X.env = (do
      let ov ← eval o X.env
      standAt apos.atName
      let (f, first) ← holding [ov] (getMethod ov m pl)
      callWith pos f first (backTo pos (starEach (e :: es) X.env)) (backToKw pos (keywordEach [] X.env))) := by rfl) :
    PE X (.Call (.Attribute o m apos) (e :: es) [] pos) (tMR C m sp E ta t) := by
  refine ⟨fun pins s σ H Q I h => ?_⟩
  refine PySem.W.methodCall_KW (pl := pl) (thn (he.run pins s σ H _ I h) fun u s1 ⟨x, H1, I1, rx, a, dx, fs, ex, ea, l, q⟩ => ?_) ht
  subst ex
  obtain rfl : u = Value.ref a := rx
  refine getmeth_ok I1 ea c hm l ?_
  refine PySem.W.callWith_K (first := [.ref a]) (h₀ := X.base) I.ok.mod.kin hm.kp (thn (ha.run pos pins s1 σ H1 _ I1 q) fun us s2 ⟨vs, H2, I2, r, q2⟩ => ⟨I2.kIn, ?_⟩) hst hpl
  exact wpAny_call (run_fnR (us := .ref a :: us) (vs := .ref a :: vs) F hr hx I2 (.cons rfl r) q2)
/-- o.m() -/
theorem pe_mR0 {pl : Sem Bool} (he : PE X o ta) (c : Cls X.K C) (hm : Meth X.K C m f) (F : FnR X.prog X.w X.K X.mg X.base CX k f sp) (hr : Room k X.A) (hx : Passes CX X E)
    (ht : eval (.Call (.Attribute o m apos) [] [] pos) X.env = (do
      let ov ← eval o X.env
      standAt apos.atName
      let (f, first) ← holding [ov] (getMethod ov m pl)
      callWith pos f first (backTo pos (starEach [] X.env)) (backToKw pos (keywordEach [] X.env))) := by rfl) :
    PE X (.Call (.Attribute o m apos) [] [] pos) (tMR C m sp E ta tNil) := by
  refine ⟨fun pins s σ H Q I h => ?_⟩
  refine PySem.W.methodCall_KW (pl := pl) (thn (he.run pins s σ H _ I h) fun u s1 ⟨x, H1, I1, rx, a, dx, fs, ex, ea, l, q⟩ => ?_) ht
  subst ex
  obtain rfl : u = Value.ref a := rx
  refine getmeth_ok I1 ea c hm l ?_
  exact PySem.W.callWith_K0 (first := [.ref a]) I1.kIn hm.kp (wpAny_call (run_fnR (us := [.ref a]) (vs := [.ref a]) F hr hx I1 (.cons rfl .nil) q))
end
/-! ### from a def of the text to its positional promise -/
section
variable {P : Program} {w : World} {K : PySem.W.Frag} {mg : Str → Option Value} {base : Heap} {x qual : Str} {params : Arguments} {body : List Stmt} {scope : Scope} {dvs : List V} {kws : List (Str × V)} {f : Addr} {fd : FuncData}
/-- what is asked of a def's body -/
def Bod (P : Program) (w : World) (K : PySem.W.Frag) (mg : Str → Option Value) (base : Heap) (N : List Str) (qual : Str) (scope : Scope) (f : Addr) (body : List Stmt) (k : Nat) (sp : Sp) : Prop :=
  ∀ (cdv : Value) (A : Around) (outer : List Env) (s : Shared) (H : Hp) (vs : List V) (Q : VK) (E : XK), Room k (A.deeper (envOfC qual scope s.heap.objs.size f cdv)) → sp vs H Q E →
      ∃ t, PSs (cxOf (L2.CX P w) P w K mg base N qual scope f cdv A outer s H E) body t ∧ t { nx := fun _ H' => Q .non H', rt := Q } (start N vs) H
/-- a def without defaults -/
theorem fnr {N ps : List Str} {k : Nat} {sp : Sp} (F : FunD K x qual params body scope [] kws f fd) (S : FnScope N ps scope)
    (hb : ∀ (kV doc pm : Value) (an : Option Addr) (cdv ct : Value) (us : List Value), us.length = ps.length → bindArgs (PySem.W.fnOf x qual params body scope .none kV doc pm an cdv ct) ⟨us, []⟩ = pure (ps.zip us))
    (len : ∀ vs H Q E, sp vs H Q E → vs.length = ps.length) (hbody : Bod P w K mg base N qual scope f body k sp) : FnR P w K mg base (L2.CX P w) (k + 1) f sp := by
  have G := FunD.ok (P := P) (w := w) (mg := mg) (base := base) (CX := L2.CX P w) F S len hbody
  have B := F.bindsN hb
  have R := FnOk.raw (dvs := []) (ds := []) G B .nil
  refine R.imp fun vs H Q E h => ?_
  rw [List.append_nil]
  exact h
/-- def f( *v) and def f(a, *v) -/
theorem fnr_star {N ps : List Str} {pv : Str} {k : Nat} {sp : Sp} (F : FunD K x qual params body scope [] kws f fd) (S : FnScope N (ps ++ [pv]) scope)
    (hb : ∀ (kV doc pm : Value) (an : Option Addr) (cdv ct : Value) (us rest : List Value), us.length = ps.length → bindArgs (PySem.W.fnOf x qual params body scope .none kV doc pm an cdv ct) ⟨us ++ rest, []⟩ = (newTuple rest >>= fun t => pure (ps.zip us ++ [(pv, t)])))
    (hbody : Bod P w K mg base N qual scope f body k sp) :
    FnR P w K mg base (L2.CX P w) (k + 1) f (fun vs H Q E => ∃ ws rest, vs = ws ++ rest ∧ ws.length = ps.length ∧ rest.length ≤ sizeLine ∧ ∀ T, H T = none → sp (ws ++ [V.ref T]) (upd H T (.tup rest)) Q E) := by
  obtain ⟨oc, od, dV, kV, doc, pm, an, cdv, ct, osl, e, l, c, hd, _⟩ := F.ex
  rcases hd with ⟨_, e2⟩ | ⟨e2, _⟩
  · subst e2
    subst e
    exact StX.fn_star (sp := sp) l c S StX.cxUp (hb kV doc pm an cdv ct) (hbody cdv)
  · exact absurd rfl e2
end
end EM
/-! EM2: own operators, enumerate of a tuple, != of lists. -/
namespace PySem.W
open PyProof.Rows
section
variable {M : Model} {A : Around} {E : Value → Shared → Prop} {s : Shared} {K : Frag} {x C f : Addr} {ox : Obj} {od : Option Obj}
theorem em_ifBound {name : Str} {id : String} {args : List Value} {Q : Option Value → Shared → Prop} (X : K.In s.heap) (I : InstAt s.heap x ox C od) (hs : findIn K (.ref C) name = some (some (.builtin id)))
    (hb : ∀ self, bindSpecial (.builtin id) self = pure (.builtin id, [self])) (h : wpAny M A (call (.builtin id) (.ref x :: args)) (fun v => Q (some v)) E s) : wpAny M A (callSpecialIfBound? (.ref x) name args) Q E s := by
  simp only [callSpecialIfBound?, bindSpecialIfBound?]
  refine wpAny_holding (wpAny_bind (wpAny_bind (wpAny_bind (I.type.here ((looks_findIn X hs).here ?_)))))
  refine wpAny_bind (wpAny_askSetting (wpAny_ite ?_))
  have fin : wpAny M A (call (.builtin id) ([.ref x] ++ args) >>= fun v => pure (some v)) Q E s := wpAny_bind (wpAny_mono h (fun v s' h' => wpAny_pure h') fun _ _ h' => h')
  split
  · rw [hb]
    exact wpAny_bind (wpAny_pure (wpAny_pure (by exact fin)))
  · rw [hb]
    exact wpAny_tryCatch (wpAny_bind (wpAny_pure (wpAny_pure (by exact fin))))
end
section
variable {prog : Program} {w : World} {A : Around} {E : Value → Shared → Prop} {s : Shared} {K : Frag} {x C f L : Addr} {h₀ : Heap} {m : Str → Option Value} {ox : Obj} {od : Option Obj}
/-- x != b by the class's own == (object.__ne__ asks it) -/
theorem em_objNe {b : Value} {Q : Value → Shared → Prop} (hu : A.in1.units < cLine) (X : K.In s.heap) (I : InstAt s.heap x ox C od) (hm : mroIn K C (.type "object") = some true) (he : findIn K (.ref C) "__eq__" = some (some (.ref f))) (hf : isFn K (.ref f) = true)
    (h : wpAny (model prog w) A.in1 (call (.ref f) [.ref x, b]) (fun v s' => ∃ r, v = .bool r ∧ Q (.bool (!r)) s') E s) : wpAny (model prog w) A (call (.builtin "object.__ne__") [.ref x, b]) Q E s := by
  refine wpAny_call (codeAny_call_builtin PySem.F.slot_object_ne.plain PySem.F.entry_object_ne (check_slot (i := "object.__ne__") (owner := "object") (n := "__ne__") (by decide +kernel) (by decide +kernel) (I.type.andThen (looks_mroIn X hm)) (PySem.F.args_object_ne_2 _ _) ?_))
  unfold Builtin.«object.__ne__»
  refine wpAny_bind (m := slotArgs "__ne__" 1 _) (wpAny_pure ?_)
  refine wpAny_bind (m := cRoomFor _ _) (wpAny_cRoomFor hu ?_)
  refine wpAny_bind (m := callSpecialIfBound? (.ref x) (Str.ofString "__eq__") _) (ifBound_K X I he hf (wpAny_mono h (fun r s' hq => ?_) fun _ _ y => y))
  obtain ⟨r, rfl, q⟩ := hq
  exact wpAny_bind (m := truthy (.bool r)) (wpAny_truthy_bool (wpAny_pure q))
theorem em_ne {b tb : Value} {Q : Value → Shared → Prop} (hu : A.units + 1 < cLine) (F : Fr h₀ L s.heap m) (X₀ : K.In h₀) (I : InstAt s.heap x ox C od) (hb : Looks (model prog w) s.heap (typeOf b) tb) (hn : notFirst K C tb = true)
    (hs : findIn K (.ref C) "__ne__" = some (some (.builtin "object.__ne__"))) (hm : mroIn K C (.type "object") = some true) (he : findIn K (.ref C) "__eq__" = some (some (.ref f))) (hf : isFn K (.ref f) = true)
    (h : wpAny (model prog w) A.in1 (call (.ref f) [.ref x, b]) (fun v s' => ∃ r, v = .bool r ∧ Q (.bool (!r)) s') E s) : wpAny (model prog w) A (richCompare .NotEq (.ref x) b) Q E s := by
  have X := X₀.keeps F.keep
  have one : wpAny (model prog w) A (tryCompare (.ref x) "__ne__" b) (fun r s' => ∃ v, r = some v ∧ Q v s') E s := by
    unfold tryCompare
    refine wpAny_bind (em_ifBound X I hs PySem.F.slot_object_ne.bind (em_objNe hu X I hm he hf (wpAny_mono h (fun v s' hv => ?_) fun _ _ e => e)))
    obtain ⟨r, rfl, q⟩ := hv
    exact ⟨r, rfl, wpAny_pure ⟨_, rfl, q⟩⟩
  unfold richCompare
  simp only [oneThing_ref]
  refine wpAny_holding (wpAny_bind (wpAny_cRoomFor (Nat.lt_of_succ_lt hu) ?_))
  refine wpAny_bind (I.type.here (wpAny_bind (hb.here ?_)))
  split
  · rename_i q
    have e : subIn K tb (.ref C) = some false := by
      rcases Bool.or_eq_true_iff.mp hn with e | e
      · rw [beq_iff_eq.mp e] at q; simp at q
      · exact beq_iff_eq.mp e
    refine wpAny_bind ((looks_subIn X e).here ?_)
    simp only [Bool.false_eq_true, if_false]
    refine wpAny_bind (wpAny_mono one (fun r s' z => ?_) fun _ _ e => e)
    obtain ⟨v, rfl, hq⟩ := z
    exact wpAny_pure hq
  · refine wpAny_bind (wpAny_pure ?_)
    simp only [Bool.false_eq_true, if_false]
    refine wpAny_bind (wpAny_mono one (fun r s' z => ?_) fun _ _ e => e)
    obtain ⟨v, rfl, hq⟩ := z
    exact wpAny_pure hq
end
end PySem.W
namespace EM
open PySem PySem.Spec PyProof.Rows L2
/-! ### an instance with a dict, and what stands below it -/
section
variable {X : Cx} {pins : List (Addr × Obj)} {σ : L2.St} {H : Hp} {s : Shared} {a C dx : Addr} {fs : List (Str × V)}
theorem ins_at (I : Inv X pins σ H s) (h : H a = some (.ins C dx fs)) : ∃ ox od, PySem.W.InstAt s.heap a ox C (some od) ∧ ox.data = .plain := by
  obtain ⟨mA, O, _⟩ := ins_get I.hok h
  obtain ⟨od, J, _⟩ := O.look
  exact ⟨_, od, J, rfl⟩
end
/-- a one-place operator of the class's own -/
def rUnO (C : Addr) (sp : Sp) (E : XK) : V → Hp → VK → Prop := fun x H Q => ∃ a dx fs, x = .ref a ∧ H a = some (.ins C dx fs) ∧ sp [x] H Q E
section
variable {X : Cx} {CX : CXT} {n : Nat} {g C : Addr} {sp : Sp} {E : XK}
theorem un_invO (hs : PySem.W.findIn X.K (.ref C) "__invert__" = some (some (.ref g))) (hf : PySem.W.isFn X.K (.ref g) = true) (F : FnR X.prog X.w X.K X.mg X.base CX n g sp) (hr : Room n X.A) (hx : Passes CX X E) : UnR X (unaryOp .Invert) (rUnO C sp E) := by
  intro pins s σ H x v Q I rx h
  obtain ⟨a, dx, fs, rfl, ha, q⟩ := h
  cases (show v = Value.ref a from rx)
  obtain ⟨ox, od, J, _⟩ := ins_at I ha
  obtain ⟨m, hF⟩ := I.fr
  exact PySem.W.ksp_inv hF I.ok.mod.kin J hs hf (wpAny_call (run_fnR (us := [.ref a]) (vs := [.ref a]) F hr hx I (.cons rfl .nil) q))
theorem un_negO (hs : PySem.W.findIn X.K (.ref C) "__neg__" = some (some (.ref g))) (hf : PySem.W.isFn X.K (.ref g) = true) (F : FnR X.prog X.w X.K X.mg X.base CX n g sp) (hr : Room n X.A) (hx : Passes CX X E) : UnR X (unaryOp .USub) (rUnO C sp E) := by
  intro pins s σ H x v Q I rx h
  obtain ⟨a, dx, fs, rfl, ha, q⟩ := h
  cases (show v = Value.ref a from rx)
  obtain ⟨ox, od, J, _⟩ := ins_at I ha
  obtain ⟨m, hF⟩ := I.fr
  exact PySem.W.ksp_neg hF I.ok.mod.kin J hs hf (wpAny_call (run_fnR (us := [.ref a]) (vs := [.ref a]) F hr hx I (.cons rfl .nil) q))
/-- x op y of two instances of one class -/
def rCmpO (C : Addr) (sp : Sp) (E : XK) : R2 := fun x y H Q => ∃ a dx fs b dy gs, x = .ref a ∧ y = .ref b ∧ H a = some (.ins C dx fs) ∧ H b = some (.ins C dy gs) ∧ sp [x, y] H Q E
theorem notFirst_self {K : PySem.W.Frag} {C : Addr} : PySem.W.notFirst K C (.ref C) = true := by
  unfold PySem.W.notFirst
  simp
theorem op_cmpO {op : CmpOp} (hop : ∀ a b, compareOp op a b = richCompare op a b) (hs : PySem.W.findIn X.K (.ref C) (cmpInfo op).2.1 = some (some (.ref g))) (hf : PySem.W.isFn X.K (.ref g) = true) (F : FnR X.prog X.w X.K X.mg X.base CX n g sp)
    (hr : Room n X.A) (hx : Passes CX X E) : OpR X (compareOp op) (rCmpO C sp E) := by
  intro pins s σ H x y v u Q I rx ry h
  obtain ⟨a, dx, fs, b, dy, gs, rfl, rfl, ha, hb, q⟩ := h
  cases (show v = Value.ref a from rx)
  cases (show u = Value.ref b from ry)
  obtain ⟨ox, od, J, _⟩ := ins_at I ha
  obtain ⟨oy, od', J', _⟩ := ins_at I hb
  obtain ⟨m, hF⟩ := I.fr
  rw [hop]
  refine PySem.W.cmp_K (op := op) (tb := .ref C) hr.units0 hF I.ok.mod.kin J J'.type notFirst_self hs hf ?_
  refine wpAny_mono (wpAny_call (run_fnR (us := [.ref a, .ref b]) (vs := [.ref a, .ref b]) F hr hx I (.cons rfl (.cons rfl .nil)) q)) (fun w s' z => ?_) fun _ _ x => x
  obtain ⟨z', H', I', rz, qz⟩ := z
  exact SlX.cmpback rz ⟨z', H', I', rz, qz⟩
/-- x != y of two instances of one class whose == is its own -/
def rNeO (C : Addr) (sp : Sp) (E : XK) : R2 := fun x y H Q => ∃ a dx fs b dy gs, x = .ref a ∧ y = .ref b ∧ H a = some (.ins C dx fs) ∧ H b = some (.ins C dy gs) ∧ sp [x, y] H (fun z H' => ∃ r, z = .bl r ∧ Q (.bl (!r)) H') E
theorem op_neO (hs : PySem.W.findIn X.K (.ref C) "__ne__" = some (some (.builtin "object.__ne__"))) (hm : PySem.W.mroIn X.K C (.type "object") = some true) (he : PySem.W.findIn X.K (.ref C) "__eq__" = some (some (.ref g))) (hf : PySem.W.isFn X.K (.ref g) = true)
    (F : FnR X.prog X.w X.K X.mg X.base CX n g sp) (hr : Room (n + 1) X.A) (hx : Passes CX X E) : OpR X (compareOp .NotEq) (rNeO C sp E) := by
  intro pins s σ H x y v u Q I rx ry h
  obtain ⟨a, dx, fs, b, dy, gs, rfl, rfl, ha, hb, q⟩ := h
  cases (show v = Value.ref a from rx)
  cases (show u = Value.ref b from ry)
  obtain ⟨ox, od, J, _⟩ := ins_at I ha
  obtain ⟨oy, od', J', _⟩ := ins_at I hb
  obtain ⟨m, hF⟩ := I.fr
  show wpAny _ _ (richCompare .NotEq (.ref a) (.ref b)) _ _ _
  refine PySem.W.em_ne (tb := .ref C) (hu_of hr) hF I.ok.mod.kin J J'.type notFirst_self hs hm he hf ?_
  have c := SlX.run_at (us := [.ref a, .ref b]) (ws := [.ref a, .ref b]) F hr.in1 I.env0.in1 hx I (.cons rfl (.cons rfl .nil)) q
  refine wpAny_mono (wpAny_call c) (fun w s' z => ?_) fun _ _ x => x
  obtain ⟨z', H', I', rz, r, ez, qz⟩ := z
  subst ez
  cases (show w = Value.bool r from rz)
  exact ⟨r, rfl, .bl (!r), H', I', rfl, qz⟩
end
end EM
/-! EM3: enumerate of a tuple. -/
namespace PySem
open AutoSeq1 (wpAny_loadPart')
theorem em_enum_new1 {v : Value} {o : Obj} {H : Heap → Prop} (B : Begins v o H) :
    Meets (Builtin.«enumerate.__new__» ⟨[.type "enumerate", v], []⟩) (fun _ R s => H s.heap ∧
      R (.ok (.ret (.ref (s.heap.push o).objs.size))) { s with heap := (s.heap.push o).push { cls := .type "enumerate", data := .fields #[.none, .bool false, .ref s.heap.objs.size, rawInt 0, .none, .none] } }) :=
  .of_wp fun prog w A R s h => by
    obtain ⟨hp, g, d, tk, os⟩ := s; obtain ⟨h1, h⟩ := h
    have hsub := sub_enumerate
    have q1 : ∀ {A' : Around} {E : Value → Shared → Prop} {Q : Value → Shared → Prop}, Q (.ref hp.objs.size) ⟨hp.push o, g, d, tk, os⟩ → wpAny (model prog w) A' (pyIter v) Q E ⟨hp, g, d, tk, os⟩ :=
      fun q => B.iter prog w _ _ ⟨hp, g, d, tk, os⟩ _ h1 q
    wp_walk using q1
    refine wpAny_stack_any fun st => wpAny_pure ?_
    split
    · rename_i c _ _ _ _ _
      cases (c == Value.type "enumerate")
      · wp_walk using q1
        exact ⟨_, rfl, h⟩
      · wp_walk using q1
        exact ⟨_, rfl, h⟩
    · wp_walk using q1
      exact ⟨_, rfl, h⟩
section
variable {prog : Program} {w : World} {A : Around} {E : Value → Shared → Prop} {s : Shared}
theorem em_enum_begins {v : Value} {o : Obj} {H : Heap → Prop} {Q : Value → Shared → Prop} (B : Begins v o H) (h1 : H s.heap)
    (h : ∀ h', IsEnum h' (s.heap.objs.size + 1) s.heap.objs.size 0 .none → h'.get? s.heap.objs.size = some o → h'.objs.size = s.heap.objs.size + 2 →
      (∀ b o, s.heap.get? b = some o → h'.get? b = some o) → Q (.ref (s.heap.objs.size + 1)) { s with heap := h' }) :
    wpAny (model prog w) A (call (.type "enumerate") [v]) Q E s := by
  refine callType_new F.called_enumerate (by decide) (F.typeCall_enumerate_1 _) (F.newCall_enumerate_1 _) (fun obj => F.args_object_init_2 obj _) F.entry_enumerate_new
    (em_enum_new1 B) ⟨h1, ?_⟩
  have hz : (s.heap.push o).objs.size = s.heap.objs.size + 1 := Heap.size_push ..
  show _ ∧ _
  rw [hz]
  have he : IsEnum ((s.heap.push o).push { cls := .type "enumerate", data := .fields #[.none, .bool false, .ref s.heap.objs.size, rawInt 0, .none, .none] }) (s.heap.objs.size + 1) s.heap.objs.size 0 .none := by
    have := Heap.get?_push_size (s.heap.push o) (o := { cls := .type "enumerate", data := .fields #[.none, .bool false, .ref s.heap.objs.size, rawInt 0, .none, .none] }) rfl
    rw [hz] at this; exact this
  exact ⟨⟨_, he, rfl⟩, h _ he (Heap.get?_push_of_some _ (Heap.get?_push_size _ B.free)) (by rw [Heap.size_push, hz]) fun b o x => Heap.get?_push_of_some _ (Heap.get?_push_of_some _ x)⟩
end
end PySem
namespace EM
open PySem PySem.Spec PyProof.Rows L2
def IteT (K : PySem.W.Frag) (a : Addr) : It :=
  ⟨fun i H => ∃ (xs : List V) (x : V), SqT K H a xs ∧ xs[i]? = some x, fun i H v H' => ∃ T x, v = .ref T ∧ H T = none ∧ H' = upd H T (.tup [.int (i : Nat), x]) ∧ ∀ xs, SqT K H a xs → xs[i]? = some x, fun i H => ∃ xs : List V, SqT K H a xs ∧ xs.length ≤ i⟩
theorem turn_enumT {P : Program} {w : World} {K : PySem.W.Frag} {elts : List Expr} {kk : Nat} {tpos : Pos} (a e it : Addr) :
    Turn P w K (.Tuple elts kk tpos) (IteT K a) [e, it] e (fun i h => (∃ old, IsEnum h e it ((i : Nat) : Int) old) ∧ h.IsTupleIter it a i ∧ e ≠ it ∧ a ≠ it ∧ e ≠ a) where
  mem := by simp
  obj := fun i h st b hb => by
    obtain ⟨⟨old, he⟩, ⟨o, ho, hc, hd⟩, _⟩ := st
    have e' : b = e ∨ b = it := by simpa using hb
    rcases e' with z | z
    · rw [z]; exact ⟨_, he, fun v q => nomatch q⟩
    · rw [z]; exact ⟨o, ho, fun v q => by rw [hd] at q; cases q⟩
  keep := fun i h h' st k => let ⟨⟨old, he⟩, hi, hne⟩ := st; ⟨⟨old, k e (by simp) _ he⟩, hi.at fun o q => k it (by simp) o q, hne⟩
  item := by
    intro X hP hw hK hc i pins s σ H E I hf st hg
    subst hP hw hK
    obtain ⟨⟨old, he⟩, hit, hne, hai, hea⟩ := st
    obtain ⟨xs, x, hq, hx⟩ := hg
    obtain ⟨its, rv, p, hz⟩ := I.tuple hq
    obtain ⟨u, hu, ru⟩ := rv.get hx
    have hil2 : i < its.toArray.size := by
      have := (List.getElem?_eq_some_iff.mp hu).1
      simpa using this
    have hel : e < s.heap.objs.size := Heap.lt_size he
    have hil : it < s.heap.objs.size := by obtain ⟨_, q, _⟩ := hit; exact Heap.lt_size q
    have D := Draws.tuple (prog := X.prog) (w := X.w) (A := X.A.in1) (I.ok.hd hc) it a hai its.toArray
    refine wpAny_pyNext_enum_itemD D he ⟨hit, p⟩ hil2 hne (by simp [hne, hea]) fun y h' tk hy ho hst' hT hsz hk => ?_
    have ey : y = u := by
      have h1 : its.toArray[i]? = some u := by simpa using hu
      have h2 : its.toArray[i]? = some y := hy
      rw [h1] at h2
      exact (Option.some.inj h2).symm
    subst ey
    obtain ⟨hit', _⟩ := hst'
    refine ⟨_, rfl, wpAny_letOwnedTupleGo_enum (s := { s with heap := h', toks := tk + 1 }) ho fun h'' he' sb => ?_⟩
    have hT2 : h''.get? s.heap.objs.size = some { cls := .type "tuple", data := .seq #[.int i tk, y] } := (sb.2 _ (Nat.ne_of_gt hel)).trans hT
    have new : ObjOk X.prog X.w (upd H s.heap.objs.size (.tup [.int (i : Nat), x])) h'' s.heap.objs.size (.tup [.int (i : Nat), x]) :=
      ⟨by show 2 ≤ sizeLine; decide, [.int i tk, y], .cons ⟨_, rfl⟩ (.cons ru .nil), ⟨_, hT2, rfl, _, rfl⟩⟩
    have I1 : Inv X pins σ (upd H s.heap.objs.size (.tup [.int (i : Nat), x])) { s with heap := h'', toks := tk + 1 } :=
      I.turnedNew (ch := [e, it]) (fun b ob hb q => (sb.2 b (fun z => hb (by simp [z]))).trans (hk b ob (fun z => hb (by simp [z])) (fun z => hb (by simp [z])) q)) hf (Nat.le_refl _) new
    refine ⟨.ref s.heap.objs.size, _, I1, rfl, ⟨_, x, rfl, I.hok.fresh (Nat.le_refl _), rfl, fun ys hy => by rw [I.tuple_inj hy hq]; exact hx⟩, ⟨⟨y, ?_⟩, hit'.at fun o q => (sb.2 it (Ne.symm hne)).trans q, hne, hai, hea⟩, fun b hb => ?_⟩
    · have e1 : ((i + 1 : Nat) : Int) = (i : Int) + 1 := by omega
      rw [e1]; exact he'
    · have hb' : b < s.heap.objs.size := by
        have e' : b = e ∨ b = it := by simpa using hb
        rcases e' with z | z
        · rw [z]; exact hel
        · rw [z]; exact hil
      rw [upd_ne (Nat.ne_of_lt hb')]
      exact (hf b hb).1
  done := by
    intro X hP hw hK hc i pins s σ H E I hf st hg
    subst hP hw hK
    obtain ⟨⟨old, he⟩, hit, hne, hai, hea⟩ := st
    obtain ⟨xs, hq, hx⟩ := hg
    obtain ⟨its, rv, p, hz⟩ := I.tuple hq
    obtain ⟨f0, f1, f2, f3, f4, f5⟩ := hf it (by simp)
    have hl := rv.length
    have hT : s.TypeIs (.ref e) "enumerate" := ⟨_, he, rfl⟩
    unfold pyNext
    refine wpAny_bind (wpAny_attempt (wpAny_callSpecial?_slot (name := Str.ofString "__next__") hT F.slot_enumerate_next
      (wpAny_call_entry F.slot_enumerate_next hT F.entry_enumerate_next ?_ (F.args_enumerate_next_1 _))))
    show wpAny _ _ (field (.ref e) 2 >>= _) _ _ _
    refine wpAny_bind (wpAny_field he rfl (x := .ref it) rfl ?_)
    refine wpAny_bind (wpAny_nextOf_tuple_end (I.ok.hd hc) hit p (by simp; omega) fun h' x he' hx' => ?_)
    obtain ⟨o, ho, hc'⟩ := hx'
    refine wpAny_bind (wpAny_isInstance (T := "StopIteration") (b := true) ⟨o, ho, hc'⟩ isSubtype_stop ?_)
    exact wpAny_pure ⟨rfl, I.turned (t' := s.toks) (fun b o hb q => he' b o hb q) f0 f1 f3 f4 f5⟩
  self := fun A i s Q E st h => let ⟨⟨_, he⟩, _⟩ := st; wpAny_pyIter_enum he h
def iEnumT (K : PySem.W.Frag) (ta : TA) : TI := fun σ H R => ta σ H fun vs H1 => ∃ a xs, vs = [.ref a] ∧ SqT K H1 a xs ∧ R (IteT K a) H1
theorem pi_enumT {X : Cx} {e : Expr} {ta : TA} {p pos tpos : Pos} {elts : List Expr} {kk : Nat} (hg : Gl X "enumerate") (hm : X.mg "enumerate" = none) (ha : PA X [e] ta) (hs : starEach [e] X.env = [(false, eval e X.env)] := by rfl) :
    PI X (.Tuple elts kk tpos) (.Call (.Name "enumerate" p) [e] [] pos) (iEnumT X.K ta) := by
  refine ⟨fun pins s σ H R I h => ?_⟩
  refine Call_ (ld_blt I hg hm boot_enumerate (PyProof.Rows.callWith_type1 (thn (ha.run pos pins s σ H _ I h) fun us s1 ⟨vs, H1, I1, r1, q1⟩ => ?_) hs rfl))
  obtain ⟨a, xs, ex, hq, q⟩ := q1
  subst ex
  cases r1 with
  | cons r rr =>
    cases rr
    cases r
    obtain ⟨its, rv, p', hz⟩ := I1.tuple hq
    have hal : a < s1.heap.objs.size := by obtain ⟨_, q, _⟩ := p'; exact Heap.lt_size q
    refine em_enum_begins (begins_tuple a its.toArray) p' fun h' he hit hsz hk => wpAny_pyIter_enum he ?_
    have I2 : Inv X pins σ H1 { s1 with heap := h' } := I1.kept (t' := s1.toks) hk
    refine ⟨s1.heap.objs.size + 1, [s1.heap.objs.size + 1, s1.heap.objs.size], _, _, H1, rfl, I2, turn_enumT a (s1.heap.objs.size + 1) s1.heap.objs.size, ⟨⟨.none, he⟩, ⟨_, hit, rfl, rfl⟩, Nat.succ_ne_self _, Nat.ne_of_lt hal, Nat.ne_of_gt (Nat.lt_succ_of_lt hal)⟩, fun b hb => ?_, q⟩
    have e' : b = s1.heap.objs.size + 1 ∨ b = s1.heap.objs.size := by simpa using hb
    have hle : s1.heap.objs.size ≤ b := by
      rcases e' with z | z
      · rw [z]; exact Nat.le_add_right _ _
      · rw [z]; exact Nat.le_refl _
    exact I1.fpOk hle (I1.hok.fresh hle)
theorem walk_enumT {K : PySem.W.Frag} {a : Addr} {xs : List V} : Walk (IteT K a) xs.length (fun H => SqT K H a xs) (YPair (fun i => some (.int (i : Nat))) (fun i => xs[i]?)) :=
  ⟨fun i H hi g => ⟨xs, xs[i], g, List.getElem?_eq_getElem hi⟩, fun H g => ⟨xs, g, Nat.le_refl _⟩, fun i H x H' hi g ⟨T, y, e1, e2, e3, e4⟩ => ⟨T, .int (i : Nat), y, e1, e2, e3, rfl, e4 xs g⟩⟩
end EM
/-! EM4: calls with keywords, defaults, != of lists of the same objects, xs[::-1] of a tuple. -/
namespace EM
open PySem PySem.Spec PyProof.Rows L2
/-! ### keywords -/
abbrev Sp2 := List V → List V → Hp → VK → XK → Prop
def FnK (P : Program) (w : World) (K : PySem.W.Frag) (mg : Str → Option Value) (base : Heap) (CX : CXT) (k : Nat) (f : Addr) (ks : List Str) (sp : Sp2) : Prop :=
  ∀ (A : Around) (outer : List Env) (s : Shared) (H : Hp) (us ws : List Value) (vs zs : List V) (Q : VK) (E : XK), Room k A → Env0 P w K mg base A outer s H → Vals vs us → Vals zs ws → sp vs zs H Q E →
    codeAny (model P w) A (.call (.ref f) ⟨us, ks.zip ws⟩) (CR CX outer P w H s Q E) s
section
variable {P : Program} {w : World} {K : PySem.W.Frag} {mg : Str → Option Value} {base : Heap} {CX : CXT} {k n : Nat} {f : Addr} {fd : FuncData} {ps ks : List Str} {sp : Sp} {g : List Value → List Value → List Value} {gV : List V → List V → List V}
theorem fnk_of (F : FnOk P w K mg base CX k f fd ps sp) (hb : KBn K fd ps n ks g gV) : FnK P w K mg base CX k f ks (fun vs zs H Q E => vs.length = n ∧ zs.length = ks.length ∧ sp (gV vs zs) H Q E) := by
  intro A outer s H us ws vs zs Q E hr e0 r rz ⟨l1, l2, h⟩
  have r2 := hb.rel r rz
  have b := hb.to s us ws (e0.mod.kin.keeps fun b o e => (e0.bs b o e).1) (by rw [← r.length]; exact l1) (by rw [← rz.length]; exact l2)
  exact F.run A outer s H ⟨us, ks.zip ws⟩ (g us ws) (gV vs zs) Q E hr e0 b r2 h
end
def tCK (sp : Sp2) (E : XK) (t tk : TA) : TE := fun σ H Q => t σ H fun vs H1 => tk σ H1 fun zs H2 => sp vs zs H2 Q E
section
variable {X : Cx} {CX : CXT} {k n : Nat} {f : Addr} {ks : List Str} {sp : Sp2} {E : XK} {x : Str} {p pos : Pos} {e : Expr} {es : List Expr} {kws : List Keyword} {t tk : TA}
theorem run_fnK {pins : List (Addr × Obj)} {σ : L2.St} {H : Hp} {s : Shared} {Q : VK} {us ws : List Value} {vs zs : List V} (F : FnK X.prog X.w X.K X.mg X.base CX k f ks sp) (hr : Room k X.A) (hx : Passes CX X E)
    (I : Inv X pins σ H s) (r : Vals vs us) (rz : Vals zs ws) (h : sp vs zs H Q E) : wpAny (model X.prog X.w) X.A (call (.ref f) us (ks.zip ws)) (EP X pins σ Q) X.xe s := by
  refine wpAny_call (codeAny_mono (F X.A X.stack s H us ws vs zs Q E hr I.env0 r rz h) fun r s' hq => ?_)
  cases r with
  | error e => exact hx pins σ H s e s' I hq
  | ok fl =>
    cases fl with
    | ret u => exact I.after hq
    | next => exact False.elim hq
    | brk => exact False.elim hq
    | cont => exact False.elim hq
/-- f(e, .., k = v, ..) -/
theorem pe_cK (F : FnK X.prog X.w X.K X.mg X.base CX k f ks sp) (hr : Room k X.A) (hk : PySem.W.keepIn X.K (.ref f) = true) (hm : X.mg x = some (.ref f)) (hx : Passes CX X E)
    (ha : PA X (e :: es) t) (hkw : PK X kws tk) (hg : Gl X x := by rfl) (hall : (backToKw pos (keywordEach kws X.env)).all (·.1.isSome) = true := by rfl) (hks : (backToKw pos (keywordEach kws X.env)).filterMap (·.1) = ks := by rfl)
    (hdb : (x == ("__debug__" : Str)) = false := by decide) (he : starEach (e :: es) X.env = (false, eval e X.env) :: starEach es X.env := by rfl)
    (hpl : ((backTo pos (starEach (e :: es) X.env)).any (·.1) || (backToKw pos (keywordEach kws X.env)).any (·.1.isNone)) = false := by rfl) :
    PE X (.Call (.Name x p) (e :: es) kws pos) (tCK sp E t tk) := by
  refine ⟨fun pins s σ H Q I h => ?_⟩
  refine wpAny_Call_Name_kw (ld_glob I hg hm ?_ hdb)
  refine PySem.W.callWith_KW (h₀ := X.base) I.ok.mod.kin hk hall (thn (ha.run pos pins s σ H _ I h) fun us s1 ⟨vs, H1, I1, r, q⟩ => ?_) hpl he
  refine thn (hkw.run pos pins s1 σ H1 _ I1 q) fun ws s2 ⟨zs, H2, I2, rz, q2⟩ => ⟨I2.kIn, ?_⟩
  rw [hks]
  exact run_fnK F hr hx I2 r rz q2
/-- f(k = v, ..) -/
theorem pe_cK0 (F : FnK X.prog X.w X.K X.mg X.base CX k f ks sp) (hr : Room k X.A) (hk : PySem.W.keepIn X.K (.ref f) = true) (hm : X.mg x = some (.ref f)) (hx : Passes CX X E)
    (hkw : PK X kws tk) (hg : Gl X x := by rfl) (hall : (backToKw pos (keywordEach kws X.env)).all (·.1.isSome) = true := by rfl) (hks : (backToKw pos (keywordEach kws X.env)).filterMap (·.1) = ks := by rfl)
    (hdb : (x == ("__debug__" : Str)) = false := by decide)
    (hpl : ((backTo pos (starEach [] X.env)).any (·.1) || (backToKw pos (keywordEach kws X.env)).any (·.1.isNone)) = false := by rfl) :
    PE X (.Call (.Name x p) [] kws pos) (tCK sp E tNil tk) := by
  refine ⟨fun pins s σ H Q I h => ?_⟩
  refine wpAny_Call_Name_kw (ld_glob I hg hm ?_ hdb)
  refine PySem.W.callWith_KW0 (h₀ := X.base) I.ok.mod.kin hk hall ?_ hpl
  refine thn (hkw.run pos pins s σ H _ I h) fun ws s2 ⟨zs, H2, I2, rz, q2⟩ => ⟨I2.kIn, ?_⟩
  rw [hks]
  exact run_fnK (us := []) (vs := []) F hr hx I2 .nil rz q2
end
/-! ### a def with defaults, called by position -/
section
variable {P : Program} {w : World} {K : PySem.W.Frag} {mg : Str → Option Value} {base : Heap} {x qual : Str} {params : Arguments} {body : List Stmt} {scope : Scope} {dvs : List V} {kws : List (Str × V)} {f : Addr} {fd : FuncData}
/-- n values are written, the defaults behind the first j fill up -/
theorem fnr_dfl {N ps : List Str} {k : Nat} {sp : Sp} (n j : Nat) (F : FunD K x qual params body scope dvs kws f fd) (S : FnScope N ps scope) (hd : dvs ≠ []) (hn : n + (dvs.length - j) = ps.length)
    (h : ∀ (T : Addr) (kV doc pm : Value) (an : Option Addr) (cdv ct : Value) (us its : List Value), us.length = n → its.length = dvs.length →
      ∃ k, bindArgs (PySem.W.fnOf x qual params body scope (.ref T) kV doc pm an cdv ct) ⟨us, []⟩ = seqItems? (.ref T) >>= k ∧ k (some its.toArray) = pure (ps.zip (us ++ its.drop j)))
    (len : ∀ vs H Q E, sp vs H Q E → vs.length = ps.length) (hbody : Bod P w K mg base N qual scope f body k sp) : FnR P w K mg base (L2.CX P w) (k + 1) f (fun vs H Q E => sp (vs ++ dvs.drop j) H Q E) := by
  have G := FunD.ok (P := P) (w := w) (mg := mg) (base := base) (CX := L2.CX P w) F S len hbody
  obtain ⟨ds, hv, B⟩ := F.binds1 n j hd hn h
  exact FnOk.raw G B hv
/-- .. with keywords -/
theorem fnk_dfl {N ps : List Str} {k : Nat} {sp : Sp} (n : Nat) (ks : List Str) (g : {α : Type} → List α → List α → List α → List α) (F : FunD K x qual params body scope dvs kws f fd) (S : FnScope N ps scope) (hd : dvs ≠ [])
    (hrel : ∀ {vs ds zs : List V} {us its ws : List Value}, Vals vs us → Vals ds its → Vals zs ws → Vals (g vs ds zs) (g us its ws))
    (h : ∀ (T : Addr) (kV doc pm : Value) (an : Option Addr) (cdv ct : Value) (us its ws : List Value), us.length = n → its.length = dvs.length → ws.length = ks.length →
      ∃ k, bindArgs (PySem.W.fnOf x qual params body scope (.ref T) kV doc pm an cdv ct) ⟨us, ks.zip ws⟩ = seqItems? (.ref T) >>= k ∧ k (some its.toArray) = pure (ps.zip (g us its ws)))
    (len : ∀ vs H Q E, sp vs H Q E → vs.length = ps.length) (hbody : Bod P w K mg base N qual scope f body k sp) : FnK P w K mg base (L2.CX P w) (k + 1) f ks (fun vs zs H Q E => vs.length = n ∧ zs.length = ks.length ∧ sp (g vs dvs zs) H Q E) := by
  have G := FunD.ok (P := P) (w := w) (mg := mg) (base := base) (CX := L2.CX P w) F S len hbody
  obtain ⟨its, B⟩ := F.kbindsD n ks g hd hrel h
  exact fnk_of G B
end
end EM
/-! ### != of two lists whose items are equal -/
namespace GQ
open PySem PySem.SeqAt
open AutoSeq1 (wpAny_loadPart')
open MeetsSeq MeetsSeq2 MeetsSeq3 SeqRoads2
section
variable {prog : Program} {w : World} {A : Around} {R : Result → Shared → Prop}
theorem ne_loopG (l b : Addr) (N : Nat) (I : Nat → Shared → Prop) (hl : ListI prog w A (fun e s' => R (.error e) s') l b N I)
    (fin : ∀ s, I N s → R (.ok (.ret (.bool false))) s) (k : Nat) :
    ∀ i : Nat, N - i = k → i ≤ N → ∀ s, I i s →
      wpAny (model prog w) A.in1 (Builtin.«list.__eq__.loop» ⟨[.ref l, .ref b, rawInt i, rawInt 3], []⟩) (FinOf prog w A R) (fun e s' => R (.error e) s') s := by
  induction k with
  | zero =>
    intro i hk hi s h
    obtain ⟨items, items2, n, n2, hl1, hb1, hs1, hs2, _⟩ := hl _ _ h
    have hi' : i = N := by omega
    have hR : R (.ok (.ret (.bool false))) s := fin s (hi' ▸ h)
    obtain ⟨hp, g, d, tk, os⟩ := s
    wp_walk using wpAny_loadPart' hl1, wpAny_loadPart' hb1
    have hi1 : items[((i : Nat) : Int).toNat]? = none := by simp; omega
    have hi2 : items2[((i : Nat) : Int).toNat]? = none := by simp; omega
    rw [hi1, hi2]
    wp_walk using wpAny_loadPart' hl1, wpAny_loadPart' hb1
    show R (.ok (.ret (.bool (items.size != items2.size)))) _
    rw [hs1, hs2]
    simpa using hR
  | succ k ih =>
    intro i hk hi s h
    obtain ⟨items, items2, n, n2, hl1, hb1, hs1, hs2, turn⟩ := hl _ _ h
    have hlt : i < items.size := by omega
    have hlt2 : i < items2.size := by omega
    have ht := turn hlt hlt2
    obtain ⟨hp, g, d, tk, os⟩ := s
    wp_walk using wpAny_loadPart' hl1, wpAny_loadPart' hb1
    have hi1 : items[((i : Nat) : Int).toNat]? = some items[i] := by simp [hlt]
    have hi2 : items2[((i : Nat) : Int).toNat]? = some items2[i] := by simp [hlt2]
    have hc : ((i : Int) + 1) = ((i + 1 : Nat) : Int) := by omega
    rw [hi1, hi2]
    refine wpAny_bind (wpAny_mono ht (fun r s2 h2 => ?_) fun _ _ x => x)
    obtain ⟨hr, h2⟩ := h2
    subst hr
    have hrec := ih (i + 1) (by omega) (by omega) s2 h2
    obtain ⟨hp2, g2, d2, tk2, os2⟩ := s2
    wp_walk
    rw [hc]
    exact ⟨plainId_quiet plain_eq_loop _, codeAny_builtin entry_eq_loop (by
      rw [Around.under_plainId plain_eq_loop _]
      exact hrec)⟩
theorem list_neG (l b : Addr) (N : Nat) (I : Nat → Shared → Prop) (hl : ListI prog w A (fun e s' => R (.error e) s') l b N I)
    (fin : ∀ s, I N s → R (.ok (.ret (.bool false))) s) {s : Shared} (h : I 0 s) :
    wpAny (model prog w) A.in1 (Builtin.«list.__ne__» ⟨[.ref l, .ref b], []⟩) (FinOf prog w A R) (fun e s' => R (.error e) s') s := by
  obtain ⟨items, items2, n, n2, hl1, hb1, hs1, hs2, _⟩ := hl _ _ h
  have hrec := ne_loopG (A := A) (R := R) l b N I hl fin _ 0 rfl (Nat.zero_le _) s h
  obtain ⟨hp, g, d, tk, os⟩ := s
  have f3 := AutoSeq1.sub_list_list
  have hne : ¬ (items.size != items2.size) = true := by simp [hs1, hs2]
  wp_walk using wpAny_loadPart' hl1, wpAny_loadPart' hb1
  exact ⟨plainId_quiet plain_eq_loop _, codeAny_builtin entry_eq_loop (by
    rw [Around.under_plainId plain_eq_loop _]
    exact hrec)⟩
end
section
variable {prog : Program} {w : World} {A : Around} {E : Value → Shared → Prop} {s : Shared}
theorem rc_listNeG {l b : Addr} {N : Nat} {Q : Value → Shared → Prop} (hu : A.units < cLine) (I : Nat → Shared → Prop) (hl : ListI prog w A E l b N I)
    (fin : ∀ s, I N s → Q (.bool false) s) (h : I 0 s) : wpAny (model prog w) A (richCompare .NotEq (.ref l) (.ref b)) Q E s := by
  obtain ⟨items, items2, n, n2, hl1, hb1, _, _, _⟩ := hl _ _ h
  refine wpAny_richCompare_same_room (op := .NotEq) ⟨_, hl1, rfl⟩ ⟨_, hb1, rfl⟩ F.slot_list_ne (call_here F.slot_list_ne ⟨_, hl1, rfl⟩ F.entry_list_ne (F.args_list_ne_2 _ _) ?_) hu
  exact list_neG (R := wants (fun v s' => v ≠ .notImplemented ∧ Q v s') E) l b N I hl (fun s' q => ⟨(fun x => nomatch x), fin s' q⟩) h
end
end GQ
namespace EM
open PySem PySem.Spec PyProof.Rows L2
/-- the very same objects -/
def DSame : Eqv := fun x y _ => ∃ a, x = .ref a ∧ y = .ref a
theorem mon_same : Mon DSame := fun _ _ _ _ _ d => d
section
variable {X : Cx} {n : Nat} {D : Eqv}
theorem eqG_same : EqG X 0 DSame := by
  intro A pins s σ H x y u v sb I rx ry d
  obtain ⟨a, rfl, rfl⟩ := d
  cases rx
  cases ry
  unfold eqBool
  refine wpAny_holding ?_
  refine wpAny_ite_split (fun _ => ?_) (fun h => absurd (beq_self_eq_true _) h)
  exact wpAny_bind (wpAny_rule (wpAny_pure ⟨rfl, H, I, Ext.rfl'⟩))
/-- x != y of two lists whose items are seen to be equal -/
def rNeG (D : Eqv) : R2 := fun x y H Q => DList D x y H ∧ ∀ H', Ext H H' → Q (.bl false) H'
theorem op_neG (hD : Mon D) (h : EqG X n D) (hr : Room (n + 1) X.A) : OpR X (compareOp .NotEq) (rNeG D) := by
  intro pins s σ H x y v u Q I rx ry hq
  obtain ⟨d, q⟩ := hq
  obtain ⟨a, b, xs, ys, rfl, rfl, ha, hb, p⟩ := d
  cases rx
  cases ry
  have sb : Sub X (n + 1) X.A := ⟨hr, rfl⟩
  show wpAny (model X.prog X.w) X.A (richCompare .NotEq (.ref a) (.ref b)) (EP X pins σ Q) X.xe s
  refine GQ.rc_listNeG (N := xs.length) sb.room.units0 (fun _ s' => LoopI X pins σ H s') (fun i s' q => ?_) (fun s' ⟨H', I', e⟩ => ⟨.bl false, H', I', rfl, q H' e⟩) ⟨H, I, Ext.rfl'⟩
  obtain ⟨H1, I1, e1⟩ := id q
  obtain ⟨z, its, k, r, e⟩ := I1.hok a _ (e1 _ _ ha)
  obtain ⟨z2, its2, k2, r2, e2⟩ := I1.hok b _ (e1 _ _ hb)
  refine ⟨its.toArray, its2.toArray, k, k2, e, e2, by rw [List.size_toArray, ← r.length], by rw [List.size_toArray, ← r2.length, ← p.1], fun h1 h2 => ?_⟩
  exact turnG hD h sb p r r2 i h1 h2 s' q
end
end EM
/-! EM5: t[::-1] of a tuple. -/
namespace HT
open PySem PySem.Spec PyProof.Rows
section
variable {prog : Program} {w : World} {A : Around} {E : Value → Shared → Prop} {s : Shared}
theorem em_adjust (n : Nat) : Builtin.Slice.sliceAdjust none none (-1) (n : Int) = ((n : Int) - 1, -1) := by
  unfold Builtin.Slice.sliceAdjust
  simp
theorem em_places (n : Nat) : Builtin.Slice.slicePlaces ((n : Int) - 1) (-1) (-1) = n := by
  unfold Builtin.Slice.slicePlaces
  have h1 : ¬ ((-1 : Int) > 0) := by omega
  simp only [h1, if_false, Int.neg_neg, Int.ediv_one]
  split <;> omega
theorem em_pickG (f : Nat → Option Value) (l : List Value) (h : ∀ m, m < l.length → f m = l[m]?) : (List.range l.length).filterMap f = l := by
  induction l generalizing f with
  | nil => rfl
  | cons a r ih =>
    rw [List.length_cons, List.range_succ_eq_map, List.filterMap_cons]
    have h0 : f 0 = some a := by rw [h 0 (by simp)]; rfl
    rw [h0, List.filterMap_map]
    have := ih (f ∘ Nat.succ) (fun m hm => by
      show f (m + 1) = _
      rw [h (m + 1) (by simp; omega)]
      rfl)
    rw [this]
theorem em_pick (xs : Array Value) : ((List.range xs.size).filterMap fun (m : Nat) => xs[(((xs.size : Int) - 1) + (m : Int) * (-1)).toNat]?) = xs.toList.reverse := by
  have hl : xs.size = xs.toList.reverse.length := by simp
  have := em_pickG (fun (m : Nat) => xs[(((xs.size : Int) - 1) + (m : Int) * (-1)).toNat]?) xs.toList.reverse (fun m hm => by
    have hm' : m < xs.size := by simpa using hm
    have e1 : (((xs.size : Int) - 1) + (m : Int) * (-1)).toNat = xs.size - 1 - m := by omega
    show xs[(((xs.size : Int) - 1) + (m : Int) * (-1)).toNat]? = _
    rw [e1, List.getElem?_reverse (by simpa using hm')]
    simp)
  rw [← hl] at this
  exact this
theorem em_sliceApplied {sl : Addr} {vs : Value} {n : Nat} {Q : Int × Int × Nat → Shared → Prop} (hs : s.heap.IsSliceOf sl .none .none vs) (ps : IsPart vs (some (-1)))
    (h : Q ((n : Int) - 1, -1, n) s) : wpAny (model prog w) A (Builtin.Slice.sliceApplied (.ref sl) (pure (n : Int))) Q E s := by
  obtain ⟨os, hos, hcs, hds⟩ := id hs
  unfold Builtin.Slice.sliceApplied Builtin.Slice.sliceFields
  refine wpAny_bind (wpAny_bind (wpAny_field hos hds (x := .none) rfl (wpAny_bind (wpAny_field hos hds (x := .none) rfl (wpAny_bind (wpAny_field hos hds (x := vs) rfl (wpAny_pure ?_)))))))
  refine wpAny_bind (slicePart_ ps ?_)
  show wpAny _ _ (if ((-1 : Int) == 0) = true then _ else _) _ _ s
  rw [if_neg (by decide)]
  refine wpAny_bind (slicePart_none (wpAny_bind (slicePart_none (wpAny_bind (wpAny_pure ?_)))))
  show wpAny _ _ (match Builtin.Slice.sliceAdjust none none (-1) (n : Int) with | (lo, hi) => pure (lo, (-1 : Int), Builtin.Slice.slicePlaces lo hi (-1))) _ _ s
  rw [em_adjust n]
  show wpAny _ _ (pure ((n : Int) - 1, (-1 : Int), Builtin.Slice.slicePlaces ((n : Int) - 1) (-1) (-1))) _ _ s
  rw [em_places]
  exact wpAny_pure h
theorem em_revT {t sl : Addr} {items : Array Value} {vs : Value} {Q : Value → Shared → Prop} (ht : IsTup s.heap t items) (hs : s.heap.IsSliceOf sl .none .none vs) (ps : IsPart vs (some (-1)))
    (h : Q (.ref s.heap.objs.size) { s with heap := s.heap.push { cls := .type "tuple", data := .seq items.toList.reverse.toArray } })
    (hsz : items.size ≤ sizeLine) : wpAny (model prog w) A (getItem (.ref t) (.ref sl)) Q E s := by
  have htake : sizeOk (.seq items.toList.reverse.toArray) := by
    show items.toList.reverse.toArray.size ≤ sizeLine
    rw [List.size_toArray, List.length_reverse, Array.length_toList]
    exact hsz
  obtain ⟨os, hos, hcs, hds⟩ := id hs
  have hTs : s.TypeIs (.ref sl) "slice" := ⟨os, hos, hcs⟩
  unfold getItem
  try with_reducible refine wpAny_holding ?_
  first | refine wpAny_bind (wpAny_pure ?_) | skip
  refine wpAny_bind (wpAny_sequenceKey ht.typeIs (by decide) ?_)
  refine wpAny_bind (wpAny_callSpecial?_slot (name := Str.ofString "__getitem__") ht.typeIs PyProof.Rows.slot_tuple_getitem
    (wpAny_call_entry PyProof.Rows.slot_tuple_getitem ht.typeIs entry_tuple_getitem ?_ (args_tuple_getitem _ _)))
  show wpAny _ _ (Builtin.Tuple.tupleItemsOf (.ref t) >>= _) _ _ s
  refine wpAny_bind (tupleItemsOf_ ht ?_)
  refine wpAny_bind (wpAny_typeOf hTs ?_)
  rw [if_pos (by decide)]
  refine wpAny_bind (em_sliceApplied hs ps ?_)
  have hno : ¬ ((((items.size : Int) - 1) == 0 && (-1 : Int) == 1 && items.size == items.size) = true) := by
    intro q
    rw [Bool.and_eq_true, Bool.and_eq_true] at q
    exact absurd (eq_of_beq q.1.2) (by decide)
  show wpAny _ _ (if (((items.size : Int) - 1) == 0 && (-1 : Int) == 1 && items.size == items.size) = true then _ else _) _ _ s
  rw [if_neg hno, em_pick]
  first
    | exact wpAny_bind (m := Builtin.Tuple.tupleExact _) (wpAny_newObj_type (wpAny_pure ⟨_, rfl, wpAny_pure h⟩) htake)
    | exact wpAny_bind (m := Builtin.Tuple.tupleExact _) (wpAny_newObj_type (wpAny_bind (wpAny_pure (wpAny_pure ⟨_, rfl, wpAny_pure h⟩))) htake)
    | exact wpAny_bind (wpAny_bind (m := Builtin.Tuple.tupleExact _) (wpAny_newObj_type (wpAny_pure (wpAny_pure ⟨_, rfl, wpAny_pure h⟩)) htake))
    | exact wpAny_bind (wpAny_bind (m := Builtin.Tuple.tupleExact _) (wpAny_newObj_type (wpAny_pure ⟨_, rfl, wpAny_pure h⟩) htake))
end
end HT
namespace EM
open PySem PySem.Spec PyProof.Rows L2
section
variable {X : Cx}
def tRevT (K : PySem.W.Frag) (te : TE) : TE := fun σ H Q => te σ H fun x H1 => ∃ a xs, x = .ref a ∧ SqT K H1 a xs ∧ ∀ p, H1 p = none → Q (.ref p) (upd H1 p (.tup xs.reverse))
theorem pe_revT {e : Expr} {te : TE} {k : Nat} {p1 p2 p3 pos : Pos} (he : PE X e te) : PE X (.Subscript e (.Slice none none (some (.UnaryOp .USub (.Constant (.int 1) k p1) p2)) p3) pos) (tRevT X.K te) := by
  refine ⟨fun pins s σ H Q I h => ?_⟩
  refine Subscript_ (thn (he.run pins s σ H _ I h) fun v s1 ⟨x, H1, I1, r1, q1⟩ => ?_)
  obtain ⟨a, xs, ex, hx, q⟩ := q1
  subst ex
  cases r1
  have hst : PO X (some (.UnaryOp .USub (.Constant (.int 1) k p1) p2)) (tPart (tUn (rU fun i => .int (-i)) (tC (.int 1)))) := po_some (pe_un un_neg pe_int)
  refine wpAny_Slice (thn (po_none.run pins s1 σ H1 (fun o H2 => o = none ∧ H2 = H1) I1 ⟨rfl, rfl⟩) fun vl s2 ⟨l, H2, I2, pl, el, e2⟩ => ?_)
  subst el e2
  refine thn (po_none.run pins s2 σ H2 (fun o H3 => o = none ∧ H3 = H2) I2 ⟨rfl, rfl⟩) fun vu s3 ⟨u, H3, I3, pu, eu, e3⟩ => ?_
  subst eu e3
  refine thn (hst.run pins s3 σ H3 (fun o H4 => o = some (-1) ∧ H4 = H3) I3 ⟨1, rfl, -1, rfl, rfl, rfl⟩) fun vs s4 ⟨o, H4, I4, ps, eo, e4⟩ => ?_
  subst eo e4
  have I5 : Inv X pins σ H4 { s4 with heap := s4.heap.push { cls := .type "slice", data := .fields #[vl, vu, vs] } } := I4.kept (t' := s4.toks) fun b ob q => Heap.get?_push_of_some _ q
  obtain ⟨its, r, ht, hz⟩ := I5.tuple hx
  have hlen := r.length
  show wpAny (model X.prog X.w) X.A (subscriptTail e (.Slice none none (some (.UnaryOp .USub (.Constant (.int 1) k p1) p2)) p3) (.ref a) (.ref s4.heap.objs.size)) (EP X pins σ Q) X.xe { s4 with heap := s4.heap.push { cls := .type "slice", data := .fields #[vl, vu, vs] } }
  refine tail_any (ops := [.ref a, .ref s4.heap.objs.size]) ht.typeIs (PyProof.Rows.slot_tuple_getitem.lookup) ?_ (by with_unfolding_all rfl)
  cases pl
  cases pu
  refine HT.em_revT ht (Heap.IsSliceOf.new _ .none .none vs) ps ?_ (by rw [List.size_toArray]; omega)
  refine ⟨.ref _, _, I5.laid (t' := s4.toks) (o := .tup xs.reverse) (fun b ob q => Heap.get?_push_of_some _ q) (Nat.le_refl _) ?_, rfl, q _ (I5.hok.fresh (Nat.le_refl _))⟩
  exact ⟨by rw [List.length_reverse]; exact hz, _, r.reverse, IsTup.new _ _⟩
end
end EM
/-! EM6: constants of the module, facts of a class as Bools, heaps. -/
namespace EM
open PySem PySem.Spec PyProof.Rows L2
section
variable {X : Cx} {x : Str} {i : Int} {z : Str} {pos : Pos}
theorem pe_gI (hm : ∃ t, X.mg x = some (.int i t)) (hg : Gl X x := by rfl) (hd : (x == ("__debug__" : Str)) = false := by decide) : PE X (.Name x pos) (tC (.int i)) := by
  obtain ⟨t, h⟩ := hm
  exact pe_glob hg h ⟨t, rfl⟩ hd
theorem pe_gS (hm : ∃ t, X.mg x = some (.str z t)) (hg : Gl X x := by rfl) (hd : (x == ("__debug__" : Str)) = false := by decide) : PE X (.Name x pos) (tC (.str z)) := by
  obtain ⟨t, h⟩ := hm
  exact pe_glob hg h ⟨t, rfl⟩ hd
end
/-! ### facts of a class -/
/-- what isinstance asks of an instance of the class at C -/
def isiB (K : PySem.W.Frag) (C : Addr) : Bool := He.eqO (PySem.W.findIn K (.ref C) "__class__") (some (some (.builtin "object.__class__"))) && (He.eqO (PySem.W.specialIn K (.builtin "object.__class__") "__get__") (some (some (.builtin "getset_descriptor.__get__"))) &&
  (decide (PySem.W.takesIn K (.builtin "object.__class__") = some true) && decide (PySem.W.mroIn K C (.type "object") = some true)))
theorem isiB_ty {K : PySem.W.Frag} {C : Addr} (c : isiB K C = true) (cl : Cls K C) {H : Hp} {a dx : Addr} {fs : List (Str × V)} (e : H a = some (.ins C dx fs)) : TyX K H (.ref a) (.ref C) := by
  obtain ⟨c1, c⟩ := He.ba c
  obtain ⟨c2, c⟩ := He.ba c
  obtain ⟨c3, c4⟩ := He.ba c
  exact .base (.ins e cl (He.eqO_ok c1) (He.eqO_ok c2) (of_decide_eq_true c3) (of_decide_eq_true c4))
theorem isiB_mro {K : PySem.W.Frag} {C : Addr} (c : isiB K C = true) : PySem.W.mroIn K C (.type "object") = some true := by
  obtain ⟨c1, c⟩ := He.ba c
  obtain ⟨c2, c⟩ := He.ba c
  obtain ⟨c3, c4⟩ := He.ba c
  exact of_decide_eq_true c4
/-- attributes of the class itself are read plainly -/
def creadB (K : PySem.W.Frag) (C : Addr) : Bool := PySem.W.readsIn K C (.type "type") && He.eqO (PySem.W.specialIn K (.ref C) "__getattribute__") (some (some (.builtin "type.__getattribute__")))
theorem creadB_ok {K : PySem.W.Frag} {C : Addr} (c : creadB K C = true) : ClX.CRead K C (.type "type") := by
  obtain ⟨c1, c2⟩ := He.ba c
  exact ⟨c1, He.eqO_ok c2⟩
/-- a classmethod of the class -/
def cmetB (K : PySem.W.Frag) (C : Addr) (m : Str) : Bool := He5.wrapB K C "classmethod" "classmethod.__get__" m && PySem.W.fnIn K (He5.wf K C "classmethod" m)
theorem cmetB_ok {K : PySem.W.Frag} {C : Addr} {m : Str} (c : cmetB K C m = true) : ClX.CMet K C (.type "type") m (He.ma K C m) (He5.wf K C "classmethod" m) := by
  obtain ⟨c1, c2⟩ := He.ba c
  exact He5.cmet_of c1 c2
/-- a constant of the class, an int -/
def cintB (K : PySem.W.Frag) (C : Addr) (f : Str) (i : Int) : Bool := match PySem.W.findCls K (.ref C) (.type "type") f with
  | some (.val (.int j _)) => decide (j = i)
  | _ => false
theorem cintB_ok {K : PySem.W.Frag} {C : Addr} {f : Str} {i : Int} (c : cintB K C f i = true) : ∃ u, ClX.CVal K C (.type "type") f (.int i) u := by
  unfold cintB at c
  split at c
  · rename_i j t e
    have ej : j = i := of_decide_eq_true c
    subst ej
    exact ⟨_, e, ⟨t, rfl⟩⟩
  · cases c
/-- the getter of a property -/
def pf (K : PySem.W.Frag) (C : Addr) (f : Str) : Addr := match PySem.W.recIn K (He.ma K C f) "property" with
  | some (.ref g :: _) => g
  | _ => 0
def neB (K : PySem.W.Frag) (C : Addr) : Bool := He.eqO (PySem.W.findIn K (.ref C) "__ne__") (some (some (.builtin "object.__ne__")))
/-! ### heaps -/
theorem same_upd {H : Hp} {p : Addr} {o : HO} (h : H p = none) : Same H (upd H p o) := fun b u e => by
  rw [upd_ne (ne_of_none e h)]
  exact e
theorem same_upd' {H H1 : Hp} {p : Addr} {o : HO} (e : Same H H1) (h : H p = none) : Same H (upd H1 p o) := fun b u ha => by
  rw [upd_ne (ne_of_none ha h)]
  exact e b u ha
theorem _root_.L2.Same.sqT {K : PySem.W.Frag} {H H' : Hp} {a : Addr} {xs : List V} (e : Same H H') (h : SqT K H a xs) : SqT K H' a xs := Evl.ex_t e h
theorem atI_m {α : Type} {xs : List α} {v : α} {i : Int} {j : Nat} (h : i + (xs.length : Int) = (j : Int)) (h0 : i < 0) (e : xs[j]? = some v) : atI xs i = some v := by
  have hj : j < xs.length := (List.getElem?_eq_some_iff.mp e).1
  have q : ixN xs.length i = some j := by
    unfold ixN
    rw [if_neg (by omega)]
    have : (i + (xs.length : Int)).toNat = j := by omega
    first
      | (rw [if_pos (by omega), this])
      | (split <;> simp_all <;> omega)
  unfold atI
  rw [q]
  exact e
theorem kII {K : PySem.W.Frag} : PySem.W.kitOne K (.type "int") (.type "int") = some true := kit_ty (by decide +kernel)
theorem kIB {K : PySem.W.Frag} : PySem.W.kitOne K (.type "int") (.type "bool") = some false := kit_ty (by decide +kernel)
theorem ifN {c : Bool} {A B : Prop} (h : c = false) (q : B) : if c = true then A else B := by
  rw [h, if_neg Bool.false_ne_true]
  exact q
theorem ifP {c : Bool} {A B : Prop} (h : c = true) (q : A) : if c = true then A else B := by
  rw [if_pos h]
  exact q
theorem yes {σ : L2.St} {H : Hp} {A B : Hp → Prop} (h : A H) : tYes σ H (fun b H3 => if b = true then A H3 else B H3) := by
  show if true = true then A H else B H
  rw [if_pos rfl]
  exact h
theorem dVi {a b : Int} : decide (V.int a = V.int b) = decide (a = b) := by
  by_cases h : a = b
  · subst h; simp
  · have : ¬ V.int a = V.int b := fun q => h (V.int.inj q)
    rw [decide_eq_false h, decide_eq_false this]
theorem cut_from (xs : List V) (j : Nat) (h : j ≤ xs.length) : cutV xs (some (j : Int)) none = xs.drop j := by
  unfold cutV
  have e1 : HT.sIx xs.length 0 (some (j : Int)) = j := by
    show (if (j : Int) < 0 then ((j : Int) + (xs.length : Int)).toNat else min (j : Int).toNat xs.length) = j
    rw [if_neg (by omega)]
    omega
  have e2 : HT.sIx xs.length xs.length none = xs.length := rfl
  rw [e1, e2]
  exact List.take_of_length_le (by rw [List.length_drop]; exact Nat.le_refl _)
theorem sz {n : Nat} (h : n ≤ 100000) : n ≤ sizeLine := Nat.le_trans h (by decide)
theorem szl {n : Nat} (h : n < 100000) : n < sizeLine := Nat.lt_of_lt_of_le h (by decide)
/-! ### data of ints, at any depth -/
theorem dp_ints {K : PySem.W.Frag} {H : Hp} : ∀ ns : List Int, DpAll K H (ns.map V.int) (ns.map PyData.int)
  | [] => .nil
  | n :: r => .cons (.int n) (dp_ints r)
theorem dp_rep {K : PySem.W.Frag} {H : Hp} {v : V} {d : PyData} (h : Dp K H v d) : ∀ n : Nat, DpAll K H (List.replicate n v) (List.replicate n d)
  | 0 => .nil
  | n + 1 => .cons h (dp_rep h n)
theorem lay_ints : ∀ ns : List Int, PyData.canLayAll0 (ns.map PyData.int) = true
  | [] => rfl
  | n :: r => by
    show (PyData.canLay0 (.int n) && PyData.canLayAll0 (r.map PyData.int)) = true
    rw [lay_ints r]
    rfl
theorem dep_ints : ∀ ns : List Int, PyData.depthAll (ns.map PyData.int) = 0
  | [] => rfl
  | n :: r => by
    show max (PyData.depth (.int n)) (PyData.depthAll (r.map PyData.int)) = 0
    rw [dep_ints r]
    rfl
theorem eqv_ints : ∀ ns ms : List Int, PyData.eqvAll (ns.map PyData.int) (ms.map PyData.int) = decide (ns = ms)
  | [], [] => by simp [PyData.eqvAll]
  | [], m :: r => by simp [PyData.eqvAll]
  | n :: r, [] => by simp [PyData.eqvAll]
  | n :: r, m :: q => by
    show (PyData.eqv (.int n) (.int m) && PyData.eqvAll (r.map PyData.int) (q.map PyData.int)) = _
    rw [eqv_ints r q]
    show ((n == m) && decide (r = q)) = _
    by_cases h : n = m
    · subst h
      by_cases h2 : r = q
      · subst h2; simp
      · simp [h2]
    · simp [h]
abbrev dT (ns : List Int) : PyData := .tuple (ns.map PyData.int)
abbrev dL (ns : List Int) : PyData := .list (ns.map PyData.int)
theorem shT (ns : List Int) : SeqAt.shaped (dT ns) = true := by
  unfold SeqAt.shaped
  rw [show (dT ns).canLay0 = PyData.canLayAll0 (ns.map PyData.int) from rfl, lay_ints, show (dT ns).depth = PyData.depthAll (ns.map PyData.int) + 1 from rfl, dep_ints]
  rfl
theorem shL (ns : List Int) : SeqAt.shaped (dL ns) = true := by
  unfold SeqAt.shaped
  rw [show (dL ns).canLay0 = PyData.canLayAll0 (ns.map PyData.int) from rfl, lay_ints, show (dL ns).depth = PyData.depthAll (ns.map PyData.int) + 1 from rfl, dep_ints]
  rfl
theorem eqvT (ns ms : List Int) : PyData.eqv (dT ns) (dT ms) = decide (ns = ms) := eqv_ints ns ms
theorem eqvL (ns ms : List Int) : PyData.eqv (dL ns) (dL ms) = decide (ns = ms) := eqv_ints ns ms
/-! ### a for over a list or a tuple -/
section
variable {X : Cx} {tg : Expr}
def iSeq (tl : TE) : TI := fun σ H R => tl σ H fun x H1 => ∃ a xs, x = .ref a ∧ (H1 a = some (.lst xs) ∨ H1 a = some (.tup xs)) ∧ ∀ J, Walk J xs.length (fun H' => H' a = H1 a) (YAt xs) → R J H1
theorem pi_seq {l : Expr} {tl : TE} (hl : PE X l tl) : PI X tg l (iSeq tl) := by
  refine ⟨fun pins s σ H R I h => ?_⟩
  refine thn (hl.run pins s σ H _ I h) fun v s1 ⟨x, H1, I1, r1, q1⟩ => ?_
  obtain ⟨a, xs, e, hq, q⟩ := q1
  subst e
  cases r1
  rcases hq with hq | hq
  · have q := q _ ((walk_list (K := X.K) (a := a) (xs := xs)).mono (fun H' e => SqL.of (e.trans hq)) fun _ _ _ _ _ _ y => y)
    obtain ⟨its, rv, p, hz⟩ := I1.list (SqL.of hq)
    refine wpAny_pyIter_list p.isList ?_
    refine ⟨s1.heap.objs.size, [s1.heap.objs.size], _, _, H1, rfl, I1.kept (t' := s1.toks) fun b o e => Heap.get?_push_of_some _ e, turn_list a _, ⟨_, Heap.get?_push_size _ rfl, rfl, rfl⟩, fun b hb => ?_, q⟩
    have e : b = s1.heap.objs.size := by simpa using hb
    subst e
    exact I1.fpOk (Nat.le_refl _) (I1.hok.fresh (Nat.le_refl _))
  · have q := q _ ((walk_tup (K := X.K) (a := a) (xs := xs)).mono (fun H' e => SqT.of (e.trans hq)) fun _ _ _ _ _ _ y => y)
    obtain ⟨its, rv, p, hz⟩ := I1.tuple (SqT.of hq)
    refine wpAny_pyIter_tuple (show s1.heap.IsTuple a its.toArray from p) ?_
    refine ⟨s1.heap.objs.size, [s1.heap.objs.size], _, _, H1, rfl, I1.kept (t' := s1.toks) fun b o e => Heap.get?_push_of_some _ e, turn_tuple a _, ⟨_, Heap.get?_push_size _ rfl, rfl, rfl⟩, fun b hb => ?_, q⟩
    have e : b = s1.heap.objs.size := by simpa using hb
    subst e
    exact I1.fpOk (Nat.le_refl _) (I1.hok.fresh (Nat.le_refl _))
end
theorem walk_zipT {K : PySem.W.Frag} {a b : Addr} {xs ys : List V} {n : Nat} (hn : n = min xs.length ys.length) : Walk (RZ.ItzT K a b) n (fun H => SqT K H a xs ∧ SqT K H b ys) (YPair (fun i => xs[i]?) (fun i => ys[i]?)) :=
  ⟨fun i H hi g => ⟨xs, ys, xs[i]'(by omega), ys[i]'(by omega), g.1, g.2, List.getElem?_eq_getElem (by omega), List.getElem?_eq_getElem (by omega)⟩,
   fun H g => ⟨xs, ys, g.1, g.2, by omega⟩, fun i H x H' hi g ⟨T, x1, y1, e1, e2, e3, e4, e5⟩ => ⟨T, x1, y1, e1, e2, e3, e4 xs g.1, e5 ys g.2⟩⟩
end EM
namespace PySem.W
open PyProof.Rows
section
variable {M : Model} {A : Around} {E : Value → Shared → Prop} {s : Shared} {K : Frag} {h₀ : Heap} {env : Env}
theorem em_evalArgs {f : Value} {x y : Bool × Sem Value} {rest : List (Bool × Sem Value)} {Q : Args → Shared → Prop}
    (h : wpAny M A (spliced (x :: y :: rest)) (fun vs s' => Q ⟨vs, []⟩ s') E s) : wpAny M A (evalArgs f true (x :: y :: rest) []) Q E s := by
  obtain ⟨b, x⟩ := x
  cases b <;>
  · unfold evalArgs
    show wpAny M A (spliced (_ :: y :: rest) >>= _) Q E s
    refine wpAny_bind (wpAny_mono h (fun vs s' h' => ?_) fun _ _ x => x)
    refine wpAny_holding ?_
    exact wpAny_bind (wpAny_pure (wpAny_bind (wpAny_pure (wpAny_pure h'))))
theorem em_callWith {pos p : Pos} {f : Value} {first : List Value} {e e2 : Expr} {rest : List Expr} {Q : Value → Shared → Prop} (_X : K.In h₀) (hk : keepIn K f = true) (h : wpAny M A (spliced (backTo pos (starEach (.Starred e p :: e2 :: rest) env))) (fun vs s₁ => K.In s₁.heap ∧ wpAny M A (call f (first ++ vs)) Q E s₁) E s)
    (he : ∃ b : Bool × Sem Value, backTo pos (starEach (.Starred e p :: e2 :: rest) env) = (true, b.2) :: (b.1, (backTo pos (starEach (e2 :: rest) env)).head!.2) :: (backTo pos (starEach (e2 :: rest) env)).tail) :
    wpAny M A (callWith pos f first (backTo pos (starEach (.Starred e p :: e2 :: rest) env)) []) Q E s := by
  obtain ⟨b, he⟩ := he
  rw [he] at h ⊢
  exact ks_call rfl (keeps_K hk) (em_evalArgs h)
end
end PySem.W
namespace EM
open PySem PySem.Spec PyProof.Rows L2
section
variable {X : Cx} {CX : CXT} {k : Nat} {f C : Addr} {sp : Sp} {E : XK} {x : Str} {e e2 : Expr} {es : List Expr} {t : TA} {p sp_ pos : Pos}
/-- C( *y, e, ..) -/
theorem pe_mkS2 (M : Mk X.K C f) (F : FnR X.prog X.w X.K X.mg X.base CX k f sp) (hr : Room (k + 1) X.A) (hm : X.mg x = some (.ref C)) (hx : Passes CX X E) (ha : PA X (.Starred e sp_ :: e2 :: es) t) (hg : Gl X x := by rfl) (hd : (x == ("__debug__" : Str)) = false := by decide)
    (he : ∃ b : Bool × Sem Value, backTo pos (starEach (.Starred e sp_ :: e2 :: es) X.env) = (true, b.2) :: (b.1, (backTo pos (starEach (e2 :: es) X.env)).head!.2) :: (backTo pos (starEach (e2 :: es) X.env)).tail := by exact ⟨(false, _), rfl⟩) :
    PE X (.Call (.Name x p) (.Starred e sp_ :: e2 :: es) [] pos) (StX.tMakeR C sp E t) := by
  refine ⟨fun pins s σ H Q I h => ?_⟩
  refine wpAny_Call_Name_kw (ld_glob I hg hm ?_ hd)
  refine PySem.W.em_callWith (h₀ := X.base) I.ok.mod.kin M.kp (thn (ha.run pos pins s σ H _ I h) fun us s1 ⟨vs, H1, I1, r, q⟩ => ⟨I1.kIn, ?_⟩) he
  exact StX.run_makeR M F hr hx I1 r q
end
/-- a promise that says nothing of errors: none leaves -/
theorem fnok0 {P : Program} {w : World} {K : PySem.W.Frag} {mg : Str → Option Value} {base : Heap} {k : Nat} {f : Addr} {fd : FuncData} {ps : List Str} {sp : Sp} (F : FnOk P w K mg base (L2.CX P w) k f fd ps sp) (h : ∀ vs H Q E, sp vs H Q E → sp vs H Q E0) :
    FnOk P w K mg base CX0 k f fd ps sp := by
  refine ⟨F.len, fun A outer s H args us vs Q E hr e0 hb hv hs => codeAny_mono (F.run A outer s H args us vs Q E0 hr e0 hb hv (h _ _ _ _ hs)) fun r s' hq => ?_⟩
  cases r with
  | error e =>
    obtain ⟨_, _, _, _, _, _, _, _, _, _, _, _, z⟩ := hq
    exact z.elim
  | ok fl => cases fl <;> exact hq
end EM
set_option autoImplicit false
namespace K74
open PySem PySem.Spec PyProof.Rows L2
def top (i : Nat) : Stmt := PySem.Challenge.pw_edgesmeet_k74_lines_put_together.main.body.getD i (.Pass ⟨0, 0, 0, 0⟩)
abbrev s_is_integer : Stmt := top 12
theorem sc_is_integer : FnScope ["thing"] ["thing"] (defScope s_is_integer) := ⟨rfl, rfl, rfl, by decide +kernel, rfl, by decide +kernel, by decide +kernel⟩
abbrev s_is_between : Stmt := top 17
theorem sc_is_between : FnScope ["thing", "low", "high"] ["thing", "low", "high"] (defScope s_is_between) := ⟨rfl, rfl, rfl, by decide +kernel, rfl, by decide +kernel, by decide +kernel⟩
abbrev s_edges_of : Stmt := top 18
theorem sc_edges_of : FnScope ["widths", "found", "width"] ["widths"] (defScope s_edges_of) := ⟨rfl, rfl, rfl, by decide +kernel, rfl, by decide +kernel, by decide +kernel⟩
abbrev s_Mark_init : Stmt := inClass (top 19) 2
theorem sc_Mark_init : FnScope ["self", "widths", "at", "width", "one", "other"] ["self", "widths"] (defScope s_Mark_init) := ⟨rfl, rfl, rfl, by decide +kernel, rfl, by decide +kernel, by decide +kernel⟩
abbrev s_Mark_of : Stmt := inClass (top 19) 4
theorem sc_Mark_of : FnScope ["cls", "widths"] ["cls", "widths"] (defScope s_Mark_of) := ⟨rfl, rfl, rfl, by decide +kernel, rfl, by decide +kernel, by decide +kernel⟩
abbrev s_Mark_invert : Stmt := inClass (top 19) 13
theorem sc_Mark_invert : FnScope ["self"] ["self"] (defScope s_Mark_invert) := ⟨rfl, rfl, rfl, by decide +kernel, rfl, by decide +kernel, by decide +kernel⟩
abbrev s_Mark_eq : Stmt := inClass (top 19) 14
theorem sc_Mark_eq : FnScope ["self", "other"] ["self", "other"] (defScope s_Mark_eq) := ⟨rfl, rfl, rfl, by decide +kernel, rfl, by decide +kernel, by decide +kernel⟩
abbrev s_need_part : Stmt := top 22
theorem sc_need_part : FnScope ["width"] ["width"] (defScope s_need_part) := ⟨rfl, rfl, rfl, by decide +kernel, rfl, by decide +kernel, by decide +kernel⟩
abbrev s_need_line : Stmt := top 23
theorem sc_need_line : FnScope ["bars", "gap", "guard"] ["bars", "gap", "guard"] (defScope s_need_line) := ⟨rfl, rfl, rfl, by decide +kernel, rfl, by decide +kernel, by decide +kernel⟩
abbrev s_line_of : Stmt := top 24
theorem sc_line_of : FnScope ["marks", "gap", "guard", "mark", "widths"] ["marks", "gap", "guard"] (defScope s_line_of) := ⟨rfl, rfl, rfl, by decide +kernel, rfl, by decide +kernel, by decide +kernel⟩
abbrev s_Lpen : Stmt := top 26
theorem sc_Lpen : FnScope ["_law_script"] ["_law_script"] (defScope s_Lpen) := ⟨rfl, rfl, rfl, by decide +kernel, rfl, by decide +kernel, by decide +kernel⟩
abbrev s_Ldraw : Stmt := top 27
theorem sc_Ldraw : FnScope ["_law_pen_here", "_law_many", "_law_digit", "_law_at", "_law_cell", "_law_great", "_law_mixed"] ["_law_pen_here", "_law_many"] (defScope s_Ldraw) := ⟨rfl, rfl, rfl, by decide +kernel, rfl, by decide +kernel, by decide +kernel⟩
abbrev s_Lwidths : Stmt := top 29
theorem sc_Lwidths : FnScope ["_law_rows", "_law_wide", "_law_thick", "_law_found", "_law_row"] ["_law_rows", "_law_wide", "_law_thick"] (defScope s_Lwidths) := ⟨rfl, rfl, rfl, by decide +kernel, rfl, by decide +kernel, by decide +kernel⟩
abbrev s_Lright : Stmt := top 30
theorem sc_Lright : FnScope ["_law_rows", "_law_wide", "_law_thick", "_law_given", "_law_row", "_law_kept", "_law_due", "_law_made", "_law_found", "_law_back", "_law_one"] ["_law_rows", "_law_wide", "_law_thick"] (defScope s_Lright) := ⟨rfl, rfl, rfl, by decide +kernel, rfl, by decide +kernel, by decide +kernel⟩
abbrev s_law : Stmt := top 31
theorem sc_law : FnScope ["_law_script", "_law_pen_here", "_law_turn", "_law_sizes", "_law_k", "_law_most", "_law_rows", "_law_size", "_law_wide", "_law_thick", "_law_many", "_law_great"] ["_law_script"] (defScope s_law) := ⟨rfl, rfl, rfl, by decide +kernel, rfl, by decide +kernel, by decide +kernel⟩
def e_is_integer : He5.DefA := ⟨fun K => He.ga K "is_integer", "is_integer", "is_integer", defArgs s_is_integer, defBody s_is_integer, defScope s_is_integer, [], []⟩
def e_is_between : He5.DefA := ⟨fun K => He.ga K "is_between", "is_between", "is_between", defArgs s_is_between, defBody s_is_between, defScope s_is_between, [], []⟩
def e_edges_of : He5.DefA := ⟨fun K => He.ga K "edges_of", "edges_of", "edges_of", defArgs s_edges_of, defBody s_edges_of, defScope s_edges_of, [], []⟩
def e_Mark_init : He5.DefA := ⟨fun K => He.ma K (He.ga K "Mark") "__init__", "__init__", "Mark.__init__", defArgs s_Mark_init, defBody s_Mark_init, defScope s_Mark_init, [], []⟩
def e_Mark_of : He5.DefA := ⟨fun K => He5.wf K (He.ga K "Mark") "classmethod" "of", "of", "Mark.of", defArgs s_Mark_of, defBody s_Mark_of, defScope s_Mark_of, [], []⟩
def e_Mark_invert : He5.DefA := ⟨fun K => He.ma K (He.ga K "Mark") "__invert__", "__invert__", "Mark.__invert__", defArgs s_Mark_invert, defBody s_Mark_invert, defScope s_Mark_invert, [], []⟩
def e_Mark_eq : He5.DefA := ⟨fun K => He.ma K (He.ga K "Mark") "__eq__", "__eq__", "Mark.__eq__", defArgs s_Mark_eq, defBody s_Mark_eq, defScope s_Mark_eq, [], []⟩
def e_need_part : He5.DefA := ⟨fun K => He.ga K "need_part", "need_part", "need_part", defArgs s_need_part, defBody s_need_part, defScope s_need_part, [], []⟩
def e_need_line : He5.DefA := ⟨fun K => He.ga K "need_line", "need_line", "need_line", defArgs s_need_line, defBody s_need_line, defScope s_need_line, [], []⟩
def e_line_of : He5.DefA := ⟨fun K => He.ga K "line_of", "line_of", "line_of", defArgs s_line_of, defBody s_line_of, defScope s_line_of, [.int 1, .int 1], []⟩
def e_Lpen : He5.DefA := ⟨fun K => He.ga K "_law_pen", "_law_pen", "_law_pen", defArgs s_Lpen, defBody s_Lpen, defScope s_Lpen, [], []⟩
def e_Ldraw : He5.DefA := ⟨fun K => He.ga K "_law_draw", "_law_draw", "_law_draw", defArgs s_Ldraw, defBody s_Ldraw, defScope s_Ldraw, [], []⟩
def e_Lwidths : He5.DefA := ⟨fun K => He.ga K "_law_widths", "_law_widths", "_law_widths", defArgs s_Lwidths, defBody s_Lwidths, defScope s_Lwidths, [], []⟩
def e_Lright : He5.DefA := ⟨fun K => He.ga K "_law_right", "_law_right", "_law_right", defArgs s_Lright, defBody s_Lright, defScope s_Lright, [], []⟩
def e_law : He5.DefA := ⟨fun K => He.ga K "law", "law", "law", defArgs s_law, defBody s_law, defScope s_law, [], []⟩
def fn : List He5.DefA := [e_is_integer, e_is_between, e_edges_of, e_Mark_init, e_Mark_of, e_Mark_invert, e_Mark_eq, e_need_part, e_need_line, e_line_of, e_Lpen, e_Ldraw, e_Lwidths, e_Lright, e_law]
def fa0 : List EM.Fk := [fun K => (He.Fa.glo "is_integer").ok K,
  fun K => (He.Fa.glo "is_between").ok K,
  fun K => (He.Fa.glo "edges_of").ok K,
  fun K => (He.Fa.glo "Mark").ok K,
  fun K => (He.Fa.glo "need_part").ok K,
  fun K => (He.Fa.glo "need_line").ok K,
  fun K => (He.Fa.glo "line_of").ok K,
  fun K => (He.Fa.glo "_law_pen").ok K,
  fun K => (He.Fa.glo "_law_draw").ok K,
  fun K => (He.Fa.glo "_law_widths").ok K,
  fun K => (He.Fa.glo "_law_right").ok K,
  fun K => (He.Fa.glo "law").ok K,
  fun K => (He.Fa.free "len").ok K,
  fun K => (He.Fa.free "enumerate").ok K,
  fun K => (He.Fa.free "tuple").ok K,
  fun K => (He.Fa.free "zip").ok K,
  fun K => (He.Fa.free "isinstance").ok K,
  fun K => (He.Fa.free "int").ok K,
  fun K => (He.Fa.free "bool").ok K,
  fun K => (He.Fa.free "list").ok K]
def fa1 : List EM.Fk := [fun K => (He.Fa.free "sum").ok K,
  fun K => (He.Fa.free "abs").ok K,
  fun K => (He.Fa.free "range").ok K,
  fun K => (He.Fa.int "MOST_WIDTH" 1000).ok K,
  fun K => (He.Fa.int "MOST_WIDTHS" 127).ok K,
  fun K => (He.Fa.int "MOST_PART" 1000).ok K,
  fun K => (He.Fa.cls "Mark").ok K,
  fun K => (He.Fa.mkr "Mark").ok K,
  fun K => EM.isiB K (He.ga K "Mark"),
  fun K => EM.creadB K (He.ga K "Mark"),
  fun K => EM.cmetB K (He.ga K "Mark") "of",
  fun K => EM.cintB K (He.ga K "Mark") "BARS" 64,
  fun K => EM.neB K (He.ga K "Mark"),
  fun K => (He.Fa.meth "Mark" "__invert__").ok K,
  fun K => (He.Fa.meth "Mark" "__eq__").ok K,
  fun K => (He.Fa.noat "Mark" "widths").ok K,
  fun K => (He.Fa.noat "Mark" "edge_row").ok K,
  fun K => (He.Fa.noat "Mark" "sums").ok K,
  fun K => (He.Fa.noat "Mark" "bars").ok K,
  fun K => (He.Fa.noat "Mark" "total").ok K]
def fa2 : List EM.Fk := [fun K => (He.Fa.noat "Mark" "span").ok K]
def fa : List EM.Fk := fa0 ++ fa1 ++ fa2
structure Tx (K : PySem.W.Frag) (mg : Str → Option Value) : Prop where
  says : EM.SaysF fa fn K
  ex : ∃ h : Heap, K.In h ∧ h.Ns mainGlobals mg
section
variable {K : PySem.W.Frag} {mg : Str → Option Value}
theorem Tx.g_is_integer (T : Tx K mg) : mg "is_integer" = some (.ref (He.ga K "is_integer")) :=
  have c := T.says.fact 0 (f := fun K => (He.Fa.glo "is_integer").ok K) (by rfl)
  let ⟨_, X, G⟩ := T.ex; He.glo_ok X G c
theorem Tx.g_is_between (T : Tx K mg) : mg "is_between" = some (.ref (He.ga K "is_between")) :=
  have c := T.says.fact 1 (f := fun K => (He.Fa.glo "is_between").ok K) (by rfl)
  let ⟨_, X, G⟩ := T.ex; He.glo_ok X G c
theorem Tx.g_edges_of (T : Tx K mg) : mg "edges_of" = some (.ref (He.ga K "edges_of")) :=
  have c := T.says.fact 2 (f := fun K => (He.Fa.glo "edges_of").ok K) (by rfl)
  let ⟨_, X, G⟩ := T.ex; He.glo_ok X G c
theorem Tx.g_Mark (T : Tx K mg) : mg "Mark" = some (.ref (He.ga K "Mark")) :=
  have c := T.says.fact 3 (f := fun K => (He.Fa.glo "Mark").ok K) (by rfl)
  let ⟨_, X, G⟩ := T.ex; He.glo_ok X G c
theorem Tx.g_need_part (T : Tx K mg) : mg "need_part" = some (.ref (He.ga K "need_part")) :=
  have c := T.says.fact 4 (f := fun K => (He.Fa.glo "need_part").ok K) (by rfl)
  let ⟨_, X, G⟩ := T.ex; He.glo_ok X G c
theorem Tx.g_need_line (T : Tx K mg) : mg "need_line" = some (.ref (He.ga K "need_line")) :=
  have c := T.says.fact 5 (f := fun K => (He.Fa.glo "need_line").ok K) (by rfl)
  let ⟨_, X, G⟩ := T.ex; He.glo_ok X G c
theorem Tx.g_line_of (T : Tx K mg) : mg "line_of" = some (.ref (He.ga K "line_of")) :=
  have c := T.says.fact 6 (f := fun K => (He.Fa.glo "line_of").ok K) (by rfl)
  let ⟨_, X, G⟩ := T.ex; He.glo_ok X G c
theorem Tx.g__law_pen (T : Tx K mg) : mg "_law_pen" = some (.ref (He.ga K "_law_pen")) :=
  have c := T.says.fact 7 (f := fun K => (He.Fa.glo "_law_pen").ok K) (by rfl)
  let ⟨_, X, G⟩ := T.ex; He.glo_ok X G c
theorem Tx.g__law_draw (T : Tx K mg) : mg "_law_draw" = some (.ref (He.ga K "_law_draw")) :=
  have c := T.says.fact 8 (f := fun K => (He.Fa.glo "_law_draw").ok K) (by rfl)
  let ⟨_, X, G⟩ := T.ex; He.glo_ok X G c
theorem Tx.g__law_widths (T : Tx K mg) : mg "_law_widths" = some (.ref (He.ga K "_law_widths")) :=
  have c := T.says.fact 9 (f := fun K => (He.Fa.glo "_law_widths").ok K) (by rfl)
  let ⟨_, X, G⟩ := T.ex; He.glo_ok X G c
theorem Tx.g__law_right (T : Tx K mg) : mg "_law_right" = some (.ref (He.ga K "_law_right")) :=
  have c := T.says.fact 10 (f := fun K => (He.Fa.glo "_law_right").ok K) (by rfl)
  let ⟨_, X, G⟩ := T.ex; He.glo_ok X G c
theorem Tx.g_law (T : Tx K mg) : mg "law" = some (.ref (He.ga K "law")) :=
  have c := T.says.fact 11 (f := fun K => (He.Fa.glo "law").ok K) (by rfl)
  let ⟨_, X, G⟩ := T.ex; He.glo_ok X G c
theorem Tx.f_len (T : Tx K mg) : mg "len" = none :=
  have c := T.says.fact 12 (f := fun K => (He.Fa.free "len").ok K) (by rfl)
  let ⟨_, X, G⟩ := T.ex; He.free_ok X G c
theorem Tx.f_enumerate (T : Tx K mg) : mg "enumerate" = none :=
  have c := T.says.fact 13 (f := fun K => (He.Fa.free "enumerate").ok K) (by rfl)
  let ⟨_, X, G⟩ := T.ex; He.free_ok X G c
theorem Tx.f_tuple (T : Tx K mg) : mg "tuple" = none :=
  have c := T.says.fact 14 (f := fun K => (He.Fa.free "tuple").ok K) (by rfl)
  let ⟨_, X, G⟩ := T.ex; He.free_ok X G c
theorem Tx.f_zip (T : Tx K mg) : mg "zip" = none :=
  have c := T.says.fact 15 (f := fun K => (He.Fa.free "zip").ok K) (by rfl)
  let ⟨_, X, G⟩ := T.ex; He.free_ok X G c
theorem Tx.f_isinstance (T : Tx K mg) : mg "isinstance" = none :=
  have c := T.says.fact 16 (f := fun K => (He.Fa.free "isinstance").ok K) (by rfl)
  let ⟨_, X, G⟩ := T.ex; He.free_ok X G c
theorem Tx.f_int (T : Tx K mg) : mg "int" = none :=
  have c := T.says.fact 17 (f := fun K => (He.Fa.free "int").ok K) (by rfl)
  let ⟨_, X, G⟩ := T.ex; He.free_ok X G c
theorem Tx.f_bool (T : Tx K mg) : mg "bool" = none :=
  have c := T.says.fact 18 (f := fun K => (He.Fa.free "bool").ok K) (by rfl)
  let ⟨_, X, G⟩ := T.ex; He.free_ok X G c
theorem Tx.f_list (T : Tx K mg) : mg "list" = none :=
  have c := T.says.fact 19 (f := fun K => (He.Fa.free "list").ok K) (by rfl)
  let ⟨_, X, G⟩ := T.ex; He.free_ok X G c
theorem Tx.f_sum (T : Tx K mg) : mg "sum" = none :=
  have c := T.says.fact 20 (f := fun K => (He.Fa.free "sum").ok K) (by rfl)
  let ⟨_, X, G⟩ := T.ex; He.free_ok X G c
theorem Tx.f_abs (T : Tx K mg) : mg "abs" = none :=
  have c := T.says.fact 21 (f := fun K => (He.Fa.free "abs").ok K) (by rfl)
  let ⟨_, X, G⟩ := T.ex; He.free_ok X G c
theorem Tx.f_range (T : Tx K mg) : mg "range" = none :=
  have c := T.says.fact 22 (f := fun K => (He.Fa.free "range").ok K) (by rfl)
  let ⟨_, X, G⟩ := T.ex; He.free_ok X G c
theorem Tx.g_MOST_WIDTH (T : Tx K mg) : ∃ t, mg "MOST_WIDTH" = some (.int 1000 t) :=
  have c := T.says.fact 23 (f := fun K => (He.Fa.int "MOST_WIDTH" 1000).ok K) (by rfl)
  let ⟨_, X, G⟩ := T.ex; He.int_ok X G c
theorem Tx.g_MOST_WIDTHS (T : Tx K mg) : ∃ t, mg "MOST_WIDTHS" = some (.int 127 t) :=
  have c := T.says.fact 24 (f := fun K => (He.Fa.int "MOST_WIDTHS" 127).ok K) (by rfl)
  let ⟨_, X, G⟩ := T.ex; He.int_ok X G c
theorem Tx.g_MOST_PART (T : Tx K mg) : ∃ t, mg "MOST_PART" = some (.int 1000 t) :=
  have c := T.says.fact 25 (f := fun K => (He.Fa.int "MOST_PART" 1000).ok K) (by rfl)
  let ⟨_, X, G⟩ := T.ex; He.int_ok X G c
theorem Tx.cl_Mark (T : Tx K mg) : Cls K (He.ga K "Mark") :=
  have c := T.says.fact 26 (f := fun K => (He.Fa.cls "Mark").ok K) (by rfl)
  He.cls_ok c
theorem Tx.mk_Mark (T : Tx K mg) : Mk K (He.ga K "Mark") (He.ma K (He.ga K "Mark") "__init__") :=
  have c := T.says.fact 27 (f := fun K => (He.Fa.mkr "Mark").ok K) (by rfl)
  He.mkr_ok c
theorem Tx.isi_Mark (T : Tx K mg) : EM.isiB K (He.ga K "Mark") = true :=
  have c := T.says.fact 28 (f := fun K => EM.isiB K (He.ga K "Mark")) (by rfl)
  c
theorem Tx.cr_Mark (T : Tx K mg) : ClX.CRead K (He.ga K "Mark") (.type "type") :=
  have c := T.says.fact 29 (f := fun K => EM.creadB K (He.ga K "Mark")) (by rfl)
  EM.creadB_ok c
theorem Tx.cm_Mark_of (T : Tx K mg) : ClX.CMet K (He.ga K "Mark") (.type "type") "of" (He.ma K (He.ga K "Mark") "of") (He5.wf K (He.ga K "Mark") "classmethod" "of") :=
  have c := T.says.fact 30 (f := fun K => EM.cmetB K (He.ga K "Mark") "of") (by rfl)
  EM.cmetB_ok c
theorem Tx.cc_Mark_BARS (T : Tx K mg) : ∃ u, ClX.CVal K (He.ga K "Mark") (.type "type") "BARS" (.int 64) u :=
  have c := T.says.fact 31 (f := fun K => EM.cintB K (He.ga K "Mark") "BARS" 64) (by rfl)
  EM.cintB_ok c
theorem Tx.ne_Mark (T : Tx K mg) : PySem.W.findIn K (.ref (He.ga K "Mark")) "__ne__" = some (some (.builtin "object.__ne__")) :=
  have c := T.says.fact 32 (f := fun K => EM.neB K (He.ga K "Mark")) (by rfl)
  He.eqO_ok c
theorem Tx.m_Mark_invert (T : Tx K mg) : Meth K (He.ga K "Mark") "__invert__" (He.ma K (He.ga K "Mark") "__invert__") :=
  have c := T.says.fact 33 (f := fun K => (He.Fa.meth "Mark" "__invert__").ok K) (by rfl)
  He.meth_ok c
theorem Tx.m_Mark_eq (T : Tx K mg) : Meth K (He.ga K "Mark") "__eq__" (He.ma K (He.ga K "Mark") "__eq__") :=
  have c := T.says.fact 34 (f := fun K => (He.Fa.meth "Mark" "__eq__").ok K) (by rfl)
  He.meth_ok c
theorem Tx.na_Mark_widths (T : Tx K mg) : NoAttr K (He.ga K "Mark") "widths" :=
  have c := T.says.fact 35 (f := fun K => (He.Fa.noat "Mark" "widths").ok K) (by rfl)
  He.noat_ok c
theorem Tx.na_Mark_edge_row (T : Tx K mg) : NoAttr K (He.ga K "Mark") "edge_row" :=
  have c := T.says.fact 36 (f := fun K => (He.Fa.noat "Mark" "edge_row").ok K) (by rfl)
  He.noat_ok c
theorem Tx.na_Mark_sums (T : Tx K mg) : NoAttr K (He.ga K "Mark") "sums" :=
  have c := T.says.fact 37 (f := fun K => (He.Fa.noat "Mark" "sums").ok K) (by rfl)
  He.noat_ok c
theorem Tx.na_Mark_bars (T : Tx K mg) : NoAttr K (He.ga K "Mark") "bars" :=
  have c := T.says.fact 38 (f := fun K => (He.Fa.noat "Mark" "bars").ok K) (by rfl)
  He.noat_ok c
theorem Tx.na_Mark_total (T : Tx K mg) : NoAttr K (He.ga K "Mark") "total" :=
  have c := T.says.fact 39 (f := fun K => (He.Fa.noat "Mark" "total").ok K) (by rfl)
  He.noat_ok c
theorem Tx.na_Mark_span (T : Tx K mg) : NoAttr K (He.ga K "Mark") "span" :=
  have c := T.says.fact 40 (f := fun K => (He.Fa.noat "Mark" "span").ok K) (by rfl)
  He.noat_ok c
theorem Tx.d_is_integer (T : Tx K mg) : ∃ fd, FunD K "is_integer" "is_integer" (defArgs s_is_integer) (defBody s_is_integer) (defScope s_is_integer) [] [] (He.ga K "is_integer") fd := T.says.def_ 0 (d := e_is_integer) (by rfl)
theorem Tx.d_is_between (T : Tx K mg) : ∃ fd, FunD K "is_between" "is_between" (defArgs s_is_between) (defBody s_is_between) (defScope s_is_between) [] [] (He.ga K "is_between") fd := T.says.def_ 1 (d := e_is_between) (by rfl)
theorem Tx.d_edges_of (T : Tx K mg) : ∃ fd, FunD K "edges_of" "edges_of" (defArgs s_edges_of) (defBody s_edges_of) (defScope s_edges_of) [] [] (He.ga K "edges_of") fd := T.says.def_ 2 (d := e_edges_of) (by rfl)
theorem Tx.d_Mark_init (T : Tx K mg) : ∃ fd, FunD K "__init__" "Mark.__init__" (defArgs s_Mark_init) (defBody s_Mark_init) (defScope s_Mark_init) [] [] (He.ma K (He.ga K "Mark") "__init__") fd := T.says.def_ 3 (d := e_Mark_init) (by rfl)
theorem Tx.d_Mark_of (T : Tx K mg) : ∃ fd, FunD K "of" "Mark.of" (defArgs s_Mark_of) (defBody s_Mark_of) (defScope s_Mark_of) [] [] (He5.wf K (He.ga K "Mark") "classmethod" "of") fd := T.says.def_ 4 (d := e_Mark_of) (by rfl)
theorem Tx.d_Mark_invert (T : Tx K mg) : ∃ fd, FunD K "__invert__" "Mark.__invert__" (defArgs s_Mark_invert) (defBody s_Mark_invert) (defScope s_Mark_invert) [] [] (He.ma K (He.ga K "Mark") "__invert__") fd := T.says.def_ 5 (d := e_Mark_invert) (by rfl)
theorem Tx.d_Mark_eq (T : Tx K mg) : ∃ fd, FunD K "__eq__" "Mark.__eq__" (defArgs s_Mark_eq) (defBody s_Mark_eq) (defScope s_Mark_eq) [] [] (He.ma K (He.ga K "Mark") "__eq__") fd := T.says.def_ 6 (d := e_Mark_eq) (by rfl)
theorem Tx.d_need_part (T : Tx K mg) : ∃ fd, FunD K "need_part" "need_part" (defArgs s_need_part) (defBody s_need_part) (defScope s_need_part) [] [] (He.ga K "need_part") fd := T.says.def_ 7 (d := e_need_part) (by rfl)
theorem Tx.d_need_line (T : Tx K mg) : ∃ fd, FunD K "need_line" "need_line" (defArgs s_need_line) (defBody s_need_line) (defScope s_need_line) [] [] (He.ga K "need_line") fd := T.says.def_ 8 (d := e_need_line) (by rfl)
theorem Tx.d_line_of (T : Tx K mg) : ∃ fd, FunD K "line_of" "line_of" (defArgs s_line_of) (defBody s_line_of) (defScope s_line_of) [.int 1, .int 1] [] (He.ga K "line_of") fd := T.says.def_ 9 (d := e_line_of) (by rfl)
theorem Tx.d_Lpen (T : Tx K mg) : ∃ fd, FunD K "_law_pen" "_law_pen" (defArgs s_Lpen) (defBody s_Lpen) (defScope s_Lpen) [] [] (He.ga K "_law_pen") fd := T.says.def_ 10 (d := e_Lpen) (by rfl)
theorem Tx.d_Ldraw (T : Tx K mg) : ∃ fd, FunD K "_law_draw" "_law_draw" (defArgs s_Ldraw) (defBody s_Ldraw) (defScope s_Ldraw) [] [] (He.ga K "_law_draw") fd := T.says.def_ 11 (d := e_Ldraw) (by rfl)
theorem Tx.d_Lwidths (T : Tx K mg) : ∃ fd, FunD K "_law_widths" "_law_widths" (defArgs s_Lwidths) (defBody s_Lwidths) (defScope s_Lwidths) [] [] (He.ga K "_law_widths") fd := T.says.def_ 12 (d := e_Lwidths) (by rfl)
theorem Tx.d_Lright (T : Tx K mg) : ∃ fd, FunD K "_law_right" "_law_right" (defArgs s_Lright) (defBody s_Lright) (defScope s_Lright) [] [] (He.ga K "_law_right") fd := T.says.def_ 13 (d := e_Lright) (by rfl)
theorem Tx.d_law (T : Tx K mg) : ∃ fd, FunD K "law" "law" (defArgs s_law) (defBody s_law) (defScope s_law) [] [] (He.ga K "law") fd := T.says.def_ 14 (d := e_law) (by rfl)
theorem Tx.k_is_integer (T : Tx K mg) : PySem.W.keepIn K (.ref (He.ga K "is_integer")) = true := let ⟨_, F⟩ := T.d_is_integer; F.kp
theorem Tx.k_is_between (T : Tx K mg) : PySem.W.keepIn K (.ref (He.ga K "is_between")) = true := let ⟨_, F⟩ := T.d_is_between; F.kp
theorem Tx.k_edges_of (T : Tx K mg) : PySem.W.keepIn K (.ref (He.ga K "edges_of")) = true := let ⟨_, F⟩ := T.d_edges_of; F.kp
theorem Tx.k_need_part (T : Tx K mg) : PySem.W.keepIn K (.ref (He.ga K "need_part")) = true := let ⟨_, F⟩ := T.d_need_part; F.kp
theorem Tx.k_need_line (T : Tx K mg) : PySem.W.keepIn K (.ref (He.ga K "need_line")) = true := let ⟨_, F⟩ := T.d_need_line; F.kp
theorem Tx.k_line_of (T : Tx K mg) : PySem.W.keepIn K (.ref (He.ga K "line_of")) = true := let ⟨_, F⟩ := T.d_line_of; F.kp
theorem Tx.k__law_pen (T : Tx K mg) : PySem.W.keepIn K (.ref (He.ga K "_law_pen")) = true := let ⟨_, F⟩ := T.d_Lpen; F.kp
theorem Tx.k__law_draw (T : Tx K mg) : PySem.W.keepIn K (.ref (He.ga K "_law_draw")) = true := let ⟨_, F⟩ := T.d_Ldraw; F.kp
theorem Tx.k__law_widths (T : Tx K mg) : PySem.W.keepIn K (.ref (He.ga K "_law_widths")) = true := let ⟨_, F⟩ := T.d_Lwidths; F.kp
theorem Tx.k__law_right (T : Tx K mg) : PySem.W.keepIn K (.ref (He.ga K "_law_right")) = true := let ⟨_, F⟩ := T.d_Lright; F.kp
theorem Tx.k_law (T : Tx K mg) : PySem.W.keepIn K (.ref (He.ga K "law")) = true := let ⟨_, F⟩ := T.d_law; F.kp
end
end K74
namespace K74
open PySem PySem.Spec PyProof.Rows L2 EM
/-! ### plain -/
def scan (a : Int) : List Int → List Int
  | [] => [a]
  | w :: r => a :: scan (a + w) r
theorem scan_len (a : Int) (l : List Int) : (scan a l).length = l.length + 1 := by
  induction l generalizing a with
  | nil => rfl
  | cons w r ih => show (scan (a + w) r).length + 1 = r.length + 1 + 1; rw [ih]
theorem scan_snoc (a : Int) (l : List Int) (w : Int) : scan a (l ++ [w]) = scan a l ++ [a + l.sum + w] := by
  induction l generalizing a with
  | nil => simp [scan]
  | cons v r ih =>
    show a :: scan (a + v) (r ++ [w]) = a :: (scan (a + v) r ++ [a + (v :: r).sum + w])
    rw [ih, List.sum_cons]
    have : a + v + r.sum + w = a + (v + r.sum) + w := by omega
    rw [this]
theorem scan_last (a : Int) (l : List Int) : (scan a l)[l.length]? = some (a + l.sum) := by
  induction l generalizing a with
  | nil => simp [scan]
  | cons v r ih =>
    show (scan (a + v) r)[r.length]? = _
    rw [ih, List.sum_cons]
    congr 1
    omega
theorem take_snoc {α : Type} {l : List α} {i : Nat} {x : α} (h : l[i]? = some x) : l.take (i + 1) = l.take i ++ [x] := by
  rw [List.take_add_one, h]
  rfl
theorem map_at {l : List Int} {i : Nat} {y : V} (h : (l.map V.int)[i]? = some y) : ∃ z, l[i]? = some z ∧ y = .int z := by
  rw [List.getElem?_map] at h
  cases e : l[i]? with
  | none => rw [e] at h; cases h
  | some z => rw [e] at h; exact ⟨z, rfl, (Option.some.inj h).symm⟩
def good (ws : List Int) : Prop := ws.length % 2 = 1 ∧ 3 ≤ ws.length ∧ ws.length ≤ 127 ∧ ∀ x ∈ ws, 1 ≤ x ∧ x ≤ 1000
def mf (wp ep sp : Addr) (b t u : Int) : List (Str × V) := [("widths", .ref wp), ("edge_row", .ref ep), ("sums", .ref sp), ("bars", .int b), ("total", .int t), ("span", .int u)]
/-- a mark of these widths stands at p -/
def sumsOf (ws : List Int) : List Int := List.zipWith (· + ·) ws (ws.drop 1)
def MarkAt (K : PySem.W.Frag) (H : Hp) (p : Addr) (ws : List Int) : Prop := good ws ∧ ∃ dx wp ep sp, H p = some (.ins (He.ga K "Mark") dx (mf wp ep sp ((ws.length : Int) / 2 + 1) ws.sum (ws.take (ws.length - 1)).sum)) ∧ H wp = some (.tup (ws.map V.int)) ∧ H ep = some (.tup ((scan 0 ws).map V.int)) ∧ H sp = some (.tup ((sumsOf ws).map V.int))
theorem MarkAt.same {K : PySem.W.Frag} {H H' : Hp} {p : Addr} {ws : List Int} (h : MarkAt K H p ws) (e : Same H H') : MarkAt K H' p ws := by
  obtain ⟨g, dx, wp, ep, sp, h1, h2, h3, h4⟩ := h
  exact ⟨g, dx, wp, ep, sp, e _ _ h1, e _ _ h2, e _ _ h3, e _ _ h4⟩
/-! ### promises -/
def spIsInt (K : PySem.W.Frag) : Sp := fun vs H Q _ => ∃ x t b1 b2, vs = [x] ∧ TyX K H x t ∧ PySem.W.kitOne K t (.type "int") = some b1 ∧ PySem.W.kitOne K t (.type "bool") = some b2 ∧ Q (.bl (b1 && !b2)) H
theorem isInt_int {K : PySem.W.Frag} {H : Hp} {Q : VK} {E : XK} {i : Int} (q : Q (.bl true) H) : spIsInt K [.int i] H Q E := ⟨_, _, true, false, rfl, .base (.int i), kit_ty (by decide +kernel), kit_ty (by decide +kernel), q⟩
def spBetween : Sp := fun vs H Q _ => ∃ i lo hi : Int, vs = [.int i, .int lo, .int hi] ∧ Q (.bl (decide (lo ≤ i) && decide (i ≤ hi))) H
def spEdges (K : PySem.W.Frag) : Sp := fun vs H Q _ => ∃ (a : Addr) (ws : List Int), vs = [.ref a] ∧ SqT K H a (ws.map V.int) ∧ ws.length ≤ 1000 ∧ ∀ p H', Same H H' → H' p = some (.tup ((scan 0 ws).map V.int)) → Q (.ref p) H'
section
variable {P : Program} {w : World} {K : PySem.W.Frag} {mg : Str → Option Value} {base : Heap}
theorem ok_is_integer (T : Tx K mg) : FnR P w K mg base (L2.CX P w) 1 (He.ga K "is_integer") (spIsInt K) := by
  obtain ⟨fd, F⟩ := T.d_is_integer
  refine EM.fnr F sc_is_integer (fun _ _ _ _ _ _ us hl => match us, hl with | [_], _ => rfl) (fun vs H Q E h => ?_) (fun cdv A outer s H vs Q E hr h => ?_)
  · obtain ⟨x, t, b1, b2, rfl, _⟩ := h
    rfl
  · obtain ⟨x, t, b1, b2, rfl, ty, k1, k2, q⟩ := h
    refine ⟨_, (PSs.nox (pss_one (ps_ret (pe_and (pe_callB call_isi (by rfl) T.f_isinstance (by decide +kernel) (pa_cons (pv 0) (pa_cons (pe_bltn (v := .ty "int") (by rfl) T.f_int boot_int rfl) pa_nil))) (pe_one (pe_not (pe_callB call_isi (by rfl) T.f_isinstance (by decide +kernel) (pa_cons (pv 0) (pa_cons (pe_bltn (v := .ty "bool") (by rfl) T.f_bool boot_bool rfl) pa_nil))))))))), ?_⟩
    refine ⟨_, rfl, x, .ty "int", t, .type "int", b1, rfl, .ty "int", ty, k1, b1, rfl, ?_⟩
    cases b1 with
    | false => exact iteF q
    | true => exact iteT ⟨_, rfl, x, .ty "bool", t, .type "bool", b2, rfl, .ty "bool", ty, k2, b2, rfl, q⟩
theorem ok_is_between (T : Tx K mg) : FnR P w K mg base (L2.CX P w) 2 (He.ga K "is_between") (spBetween) := by
  obtain ⟨fd, F⟩ := T.d_is_between
  refine EM.fnr F sc_is_between (fun _ _ _ _ _ _ us hl => match us, hl with | [_, _, _], _ => rfl) (fun vs H Q E h => ?_) (fun cdv A outer s H vs Q E hr h => ?_)
  · obtain ⟨i, lo, hi, rfl, _⟩ := h
    rfl
  · obtain ⟨i, lo, hi, rfl, q⟩ := h
    refine ⟨_, (PSs.nox (pss_one (ps_ret (pe_and (EM.pe_cR (ok_is_integer T) (hr.mono (by decide)) T.k_is_integer T.g_is_integer passL (pa_cons (pv 0) pa_nil)) (pe_one (pe_chain op_le op_le (pv 1) (pv 0) (pv 2))))))), ?_⟩
    refine ⟨_, rfl, _, _, true, false, rfl, .base (.int i), kII, kIB, true, rfl, iteT ?_⟩
    refine ⟨_, rfl, _, rfl, _, _, rfl, rfl, _, rfl, ?_⟩
    refine ite2 (fun c => ?_) (fun c => ?_)
    · refine ⟨_, rfl, _, _, rfl, rfl, ?_⟩
      rw [c, Bool.true_and] at q
      exact q
    · have c' : decide (lo ≤ i) = false := by simpa using c
      rw [c', Bool.false_and] at q
      exact q
theorem ok_edges_of (T : Tx K mg) : FnR P w K mg base (L2.CX P w) 1 (He.ga K "edges_of") (spEdges K) := by
  obtain ⟨fd, F⟩ := T.d_edges_of
  refine EM.fnr F sc_edges_of (fun _ _ _ _ _ _ us hl => match us, hl with | [_], _ => rfl) (fun vs H Q E h => ?_) (fun cdv A outer s H vs Q E hr h => ?_)
  · obtain ⟨a, ws, rfl, _⟩ := h
    rfl
  · obtain ⟨a, ws, rfl, hS, hl, k⟩ := h
    refine ⟨_, (PSs.nox (pss_cons (ps_set (i := 1) sc_edges_of.nd rfl (Or.inl rfl) (pe_lst (pa_cons pe_int pa_nil)))
 (pss_cons (ps_for PassesOwn.never rfl (pi_tup (pv 0)) (pg_name (i := 2) sc_edges_of.nd rfl (Or.inl rfl))
  (pss_one (ps_expr (pe_bm PySem.F.plainAttrs_list PySem.F.slot_list_append PySem.F.type_list_append mt_append (pv 1) (pa_cons (pe_op op_add (pe_ix ix_list (pv 1) (pe_un un_neg pe_int) (fun _ _ => rfl)) (pv 2)) pa_nil)))))
 (pss_one (ps_ret (pe_callTy call_tuple_of (by rfl) T.f_tuple (by decide +kernel) (pa_cons (pv 1) pa_nil))))))), ?_⟩
    refine ⟨by decide, fun l hl0 => ?_⟩
    have s0 : Same H (upd H l (.lst [.int 0])) := same_upd hl0
    refine ⟨_, rfl, a, rfl, ⟨_, s0.sqT hS⟩, for_tup (K := K) (a := a) (xs := ws.map V.int) (fun i σ H2 => ∃ v : Option V, σ = [some (.ref a), some (.ref l), v] ∧ Same H H2 ∧ H2 l = some (.lst ((scan 0 (ws.take i)).map V.int)))
      ⟨none, rfl, s0, upd_same⟩ (fun i σ H2 _ ⟨_, _, s2, _⟩ => s2.sqT hS) ?_ ?_⟩
    · rintro i y σ H2 hi ⟨v, rfl, s2, h2⟩
      have hil : i < (ws.map V.int).length := (List.getElem?_eq_some_iff.mp hi).1
      rw [List.length_map] at hil
      obtain ⟨z, hz, rfl⟩ := map_at hi
      have hlen : (ws.take i).length = i := by rw [List.length_take]; omega
      refine ⟨_, rfl, .inl ⟨rfl, _, SqL.of h2⟩, _, rfl, 1, rfl, l, _, -1, .int (0 + (ws.take i).sum), rfl, rfl, SqL.of h2, ?_, _, rfl, _, _, rfl, rfl, l, _, _, rfl, rfl, h2, ?_, ?_⟩
      · refine atI_m (j := i) ?_ (by decide) ?_
        · rw [List.length_map, scan_len, hlen]
          omega
        · rw [List.getElem?_map]
          have e := scan_last 0 (ws.take i)
          rw [hlen] at e
          rw [e]
          rfl
      · rw [List.length_map, scan_len, hlen]
        exact szl (by omega)
      · refine ⟨_, rfl, same_upd' s2 hl0, ?_⟩
        rw [upd_same, take_snoc hz, scan_snoc, List.map_append]
        rfl
    · rintro σ H2 ⟨v, rfl, s2, h2⟩
      rw [List.take_of_length_le (by simp)] at h2
      refine ⟨_, rfl, l, _, rfl, .inl ⟨SqL.of h2, fun p hp => ?_⟩⟩
      exact k p _ (same_upd' s2 (s2.free hp)) upd_same
end
end K74
namespace K74
open PySem PySem.Spec PyProof.Rows L2 EM
theorem scan_at (l : List Int) (i : Nat) (h : i ≤ l.length) (a : Int) : (scan a l)[i]? = some (a + (l.take i).sum) := by
  induction l generalizing a i with
  | nil => 
    have : i = 0 := by simpa using h
    subst this
    simp [scan]
  | cons v r ih =>
    cases i with
    | zero => simp [scan]
    | succ i =>
      show (scan (a + v) r)[i]? = _
      rw [ih i (by simpa using h)]
      simp only [List.take_succ_cons, List.sum_cons]
      congr 1
      omega
theorem sums_len (ws : List Int) : (sumsOf ws).length = min ws.length (ws.length - 1) := by
  unfold sumsOf
  rw [List.length_zipWith, List.length_drop]
theorem sums_at {ws : List Int} {i : Nat} {a b : Int} (h1 : ws[i]? = some a) (h2 : (ws.drop 1)[i]? = some b) : (sumsOf ws)[i]? = some (a + b) := by
  unfold sumsOf
  rw [List.getElem?_zipWith, h1, h2]
def spInit0 (K : PySem.W.Frag) : Sp := fun vs H Q _ => ∃ (x dx T : Addr) (ws : List Int), vs = [.ref x, .ref T] ∧ H x = some (.ins (He.ga K "Mark") dx []) ∧ H T = some (.tup (ws.map V.int)) ∧ good ws ∧
  ∀ H', (∀ b o, H b = some o → b ≠ x → H' b = some o) → MarkAt K H' x ws → Q .non H'
section
variable {P : Program} {w : World} {K : PySem.W.Frag} {mg : Str → Option Value} {base : Heap}
theorem bod_Mark_init (T : Tx K mg) (f : Addr) : Bod P w K mg base ["self", "widths", "at", "width", "one", "other"] "Mark.__init__" (defScope s_Mark_init) f (defBody s_Mark_init) 2 (spInit0 K) := by
  intro cdv A outer s H vs Q E hr h
  obtain ⟨x, dx, W, ws, rfl, hx, hW, hg, k⟩ := h
  obtain ⟨g1, g2, g3, g4⟩ := id hg
  refine ⟨_, (PSs.nox (pss_cons (ps_if (PW.pt (pw_or (pt_cmpR op_eq (pe_op op_mod (pe_callB call_len (by rfl) T.f_len boot_len (pa_cons (pv 1) pa_nil)) pe_int) pe_int (nomark _)) (pw_or1 (pt_not (pt_chain op_le op_le pe_int (pe_callB call_len (by rfl) T.f_len boot_len (pa_cons (pv 1) pa_nil)) (EM.pe_gI T.g_MOST_WIDTHS))))))
  (pss_one ps_never) pss_nil)
 (pss_cons (ps_for PassesOwn.never rfl (EM.pi_enumT (by rfl) T.f_enumerate (pa_cons (pv 1) pa_nil)) (pg_tup (by rfl) (pgs_cons (pg_name (i := 2) sc_Mark_init.nd rfl (Or.inl rfl)) (pgs_cons (pg_name (i := 3) sc_Mark_init.nd rfl (Or.inl rfl)) pgs_nil)))
  (pss_one (ps_if (pt_not (pt_val (EM.pe_cR (ok_is_between T) (hr.mono (by decide)) T.k_is_between T.g_is_between passL (pa_cons (pv 3) (pa_cons pe_int (pa_cons (EM.pe_gI T.g_MOST_WIDTH) pa_nil))))))
  (pss_one ps_never) pss_nil)))
 (pss_cons (ps_fld (pv 0) (pv 1) rfl)
 (pss_cons (ps_fld (pv 0) (EM.pe_cR (ok_edges_of T) (hr.mono (by decide)) T.k_edges_of T.g_edges_of passL (pa_cons (pv 1) pa_nil)) rfl)
 (pss_cons (ps_fld (pv 0) (pe_callTy call_tuple_of (by rfl) T.f_tuple (by decide +kernel) (pa_cons (pe_lc (own := [("one", 4), ("other", 5)]) (g := gTup K 2 (gCons (gName 4) (gCons (gName 5) gNil))) rfl sc_Mark_init.nd (RZ.pi_zipA (by rfl) T.f_zip (pa_cons (pv 1) (pa_cons (pe_slice sl_tup (pv 1) (po_some pe_int) po_none) pa_nil))) (blkOk_by (N := ["self", "widths", "at", "width", "one", "other"]) (sc := defScope s_Mark_init) (by decide +kernel)) (fun _ _ _ _ _ => (pg_tup (by rfl) (pgs_cons (pg_name (i := 4) sc_Mark_init.nd rfl (Or.inl rfl)) (pgs_cons (pg_name (i := 5) sc_Mark_init.nd rfl (Or.inl rfl)) pgs_nil)))) (fun _ _ _ _ _ => pts_nil) (fun _ _ _ _ _ => (pe_op op_add (pv 4) (pv 5)))) pa_nil)) rfl)
 (pss_cons (ps_fld (pv 0) (pe_op op_add (pe_op op_fdiv (pe_callB call_len (by rfl) T.f_len boot_len (pa_cons (pv 1) pa_nil)) pe_int) pe_int) rfl)
 (pss_cons (ps_fld (pv 0) (pe_ix ix_tup (pe_fld (pv 0) rfl) (pe_un un_neg pe_int) (fun _ _ => rfl)) rfl)
 (pss_one (ps_fld (pv 0) (pe_ix ix_tup (pe_fld (pv 0) rfl) (pe_un un_neg pe_int) (fun _ _ => rfl)) rfl)))))))))), ?_⟩
  -- len(widths) % 2 == 0 or not 3 <= len(widths) <= MOST_WIDTHS
  refine ⟨_, rfl, _, _, rfl, .inr ⟨_, SqT.of hW, rfl⟩, _, _, rfl, rfl, (by show (0 : Int) < 2; decide), rfl, _, rfl, ifN ?_ ?_⟩
  · rw [dVi]
    simp only [List.length_map, decide_eq_false_iff_not]
    omega
  refine ⟨_, rfl, _, _, rfl, .inr ⟨_, SqT.of hW, rfl⟩, _, _, rfl, rfl, _, rfl, ifP ?_ ?_⟩
  · simp only [List.length_map, decide_eq_true_eq]
    omega
  refine ⟨_, _, rfl, rfl, _, rfl, ifN ?_ ?_⟩
  · simp only [List.length_map, Bool.not_eq_false', decide_eq_true_eq]
    omega
  -- for at, width in enumerate(widths)
  refine ⟨_, rfl, W, _, rfl, SqT.of hW, for_it walk_enumT (fun i σ H2 => ∃ v2 v3 : Option V, σ = [some (.ref x), some (.ref W), v2, v3, none, none] ∧ Same H H2)
    ⟨none, none, rfl, Same.refl H⟩ (fun i σ H2 _ ⟨_, _, _, s2⟩ => s2.sqT (SqT.of hW)) ?_ ?_⟩
  · rintro i y σ H2 H3 hi ⟨v2, v3, rfl, s2⟩ ⟨Tt, a, b, rfl, hT, rfl, ea, eb⟩
    cases ea
    obtain ⟨z, hz, rfl⟩ := map_at eb
    have hb := g4 z (List.mem_of_getElem? hz)
    refine ⟨Tt, _, rfl, SqT.of upd_same, rfl, _, _, rfl, _, _, rfl, rfl, ?_⟩
    refine ⟨_, rfl, _, _, _, rfl, _, rfl, ifN ?_ ?_⟩
    · simp only [Bool.not_eq_false', Bool.and_eq_true, decide_eq_true_eq]
      exact hb
    · exact ⟨_, _, rfl, same_upd' s2 (s2.free hT)⟩
  · rintro σ H2 ⟨v2, v3, rfl, s2⟩
    have hx2 := s2 _ _ hx
    have hW2 := s2 _ _ hW
    have nWx : W ≠ x := ne_of hW2 hx2 (by intro z; cases z)
    -- self.widths = widths
    refine ⟨_, rfl, _, rfl, x, _, dx, _, rfl, hx2, T.cl_Mark, T.na_Mark_widths, (by show 0 < 1000; decide), ?_⟩
    -- self.edge_row = edges_of(widths)
    have hWa : (upd H2 x (.ins (He.ga K "Mark") dx (putF "widths" (.ref W) []))) W = some (.tup (ws.map V.int)) := by rw [upd_ne nWx]; exact hW2
    refine ⟨_, rfl, W, ws, rfl, SqT.of hWa, by omega, fun ep H3 s3 h3 => ?_⟩
    have hx3 := s3 _ _ upd_same
    have hW3 := s3 _ _ hWa
    have nex : ep ≠ x := ne_of h3 hx3 (by intro z; cases z)
    refine ⟨_, rfl, x, _, dx, _, rfl, hx3, T.cl_Mark, T.na_Mark_edge_row, (by show 1 < 1000; decide), ?_⟩
    -- self.sums = tuple([one + other for one, other in zip(widths, widths[1:])])
    obtain ⟨Hb, eHb⟩ : ∃ Hb, Hb = upd H3 x (.ins (He.ga K "Mark") dx (putF "edge_row" (.ref ep) (putF "widths" (.ref W) []))) := ⟨_, rfl⟩
    rw [← eHb]
    have hWb : Hb W = some (.tup (ws.map V.int)) := by rw [eHb, upd_ne nWx]; exact hW3
    have heb : Hb ep = some (.tup ((scan 0 ws).map V.int)) := by rw [eHb, upd_ne nex]; exact h3
    have hxb : Hb x = some (.ins (He.ga K "Mark") dx (putF "edge_row" (.ref ep) (putF "widths" (.ref W) []))) := by rw [eHb]; exact upd_same
    have ecut : cutV (ws.map V.int) (some 1) none = (ws.drop 1).map V.int := by
      rw [show (some (1 : Int)) = some ((1 : Nat) : Int) from rfl, cut_from _ 1 (by rw [List.length_map]; omega), List.map_drop]
    have kb : ∀ b o, H b = some o → b ≠ x → Hb b = some o := fun b o e hb => by rw [eHb, upd_ne hb]; exact s3 _ _ (by rw [upd_ne hb]; exact s2 _ _ e)
    clear eHb
    refine ⟨_, rfl, _, rfl, 1, rfl, W, _, rfl, SqT.of hWb, ?_, fun q hq => ⟨W, q, _, _, rfl, .inr ⟨SqT.of (by rw [upd_ne (ne_of_none hWb hq)]; exact hWb), SqT.of upd_same, fun Dd hD => lc_it (walk_zipT rfl)
      (fun i H5 => Same (upd Hb q (.tup (cutV (ws.map V.int) (some 1) none))) H5 ∧ H5 Dd = some (.lst (((sumsOf ws).take i).map V.int))) ⟨same_upd hD, upd_same⟩
      (fun i H5 _ ⟨s5, _⟩ => ⟨s5.sqT (SqT.of (by rw [upd_ne (ne_of_none hWb hq)]; exact hWb)), s5.sqT (SqT.of upd_same)⟩) ?_ ?_⟩⟩⟩
    · rw [List.length_map]
      intro z
      have z1 : min 1 ws.length = 0 := z.1
      omega
    · rintro i y H5 H6 hi ⟨s5, h5⟩ ⟨Tt, a, b, rfl, hT, rfl, ea, eb⟩
      rw [ecut] at eb
      obtain ⟨za, hza, rfl⟩ := map_at ea
      obtain ⟨zb, hzb, rfl⟩ := map_at eb
      have nDT : Dd ≠ Tt := ne_of_none h5 hT
      have hsum := sums_at hza hzb
      refine ⟨Tt, _, rfl, SqT.of upd_same, rfl, _, _, rfl, _, _, rfl, rfl, rfl, yes ⟨_, rfl, _, rfl, _, _, rfl, rfl, _, (by rw [upd_ne nDT]; exact h5), ?_, ?_, ?_⟩⟩
      · rw [List.length_map, List.length_take, sums_len]
        exact szl (by omega)
      · intro b o e
        have e2 := s5 _ _ e
        by_cases hb : b = Dd
        · subst hb
          have e3 := (same_upd (o := HO.lst []) hD) _ _ e
          rw [upd_same] at e3
          exact absurd e (by rw [hD]; intro z; cases z)
        · rw [upd_ne hb, upd_ne (ne_of_none e2 hT)]
          exact e2
      · rw [upd_same, take_snoc hsum, List.map_append]
        rfl
    · rintro H5 ⟨s5, h5⟩
      have hn : min (ws.map V.int).length (cutV (ws.map V.int) (some 1) none).length = (sumsOf ws).length := by
        rw [ecut, sums_len, List.length_map, List.length_map, List.length_drop]
      rw [hn, List.take_of_length_le (Nat.le_refl _)] at h5
      have k5 : ∀ b o, Hb b = some o → H5 b = some o := fun b o e => s5 _ _ (same_upd hq _ _ e)
      refine ⟨Dd, _, rfl, .inl ⟨SqL.of h5, fun sp hsp => ?_⟩⟩
      have nspx : sp ≠ x := (ne_of_none (k5 _ _ hxb) hsp).symm
      have k6 : ∀ (o2 : HO) b o, Hb b = some o → b ≠ x → (upd (upd H5 sp (.tup ((sumsOf ws).map V.int))) x o2) b = some o := fun o2 b o e hb => by rw [upd_ne hb, upd_ne (ne_of_none (k5 _ _ e) hsp)]; exact k5 _ _ e
      refine ⟨_, rfl, x, _, dx, _, rfl, (by rw [upd_ne nspx.symm]; exact k5 _ _ hxb), T.cl_Mark, T.na_Mark_sums, (by show 2 < 1000; decide), ?_⟩
      -- self.bars = len(widths) // 2 + 1
      refine ⟨_, rfl, _, _, rfl, .inr ⟨_, SqT.of (k6 _ _ _ hWb nWx), rfl⟩, _, _, rfl, rfl, ⟨by decide, by decide⟩, _, _, rfl, rfl, _, rfl, x, _, dx, _, rfl, upd_same, T.cl_Mark, T.na_Mark_bars, (by show 3 < 1000; decide), ?_⟩
      rw [upd_upd]
      -- self.total = self.edge_row[-1]
      refine ⟨_, rfl, x, _, dx, _, .ref ep, rfl, upd_same, T.cl_Mark, T.na_Mark_edge_row, rfl, 1, rfl, ep, _, -1, .int (0 + (ws.take ws.length).sum), rfl, rfl, SqT.of (k6 _ _ _ heb nex), ?_, _, rfl, x, _, dx, _, rfl, upd_same, T.cl_Mark, T.na_Mark_total, (by show 4 < 1000; decide), ?_⟩
      · refine atI_m (j := ws.length) ?_ (by decide) ?_
        · rw [List.length_map, scan_len]
          omega
        · rw [List.getElem?_map, scan_at ws ws.length (Nat.le_refl _)]
          rfl
      rw [upd_upd]
      -- self.span = self.edge_row[-2]
      refine ⟨_, rfl, x, _, dx, _, .ref ep, rfl, upd_same, T.cl_Mark, T.na_Mark_edge_row, rfl, 2, rfl, ep, _, -2, .int (0 + (ws.take (ws.length - 1)).sum), rfl, rfl, SqT.of (k6 _ _ _ heb nex), ?_, _, rfl, x, _, dx, _, rfl, upd_same, T.cl_Mark, T.na_Mark_span, (by show 5 < 1000; decide), ?_⟩
      · refine atI_m (j := ws.length - 1) ?_ (by decide) ?_
        · rw [List.length_map, scan_len]
          omega
        · rw [List.getElem?_map, scan_at ws (ws.length - 1) (by omega)]
          rfl
      rw [upd_upd]
      refine k _ (fun b o e hb => k6 _ _ _ (kb b o e hb) hb) ⟨hg, dx, W, ep, sp, ?_, k6 _ _ _ hWb nWx, k6 _ _ _ heb nex, by rw [upd_ne nspx]; exact upd_same⟩
      rw [upd_same]
      rw [List.take_of_length_le (Nat.le_refl _), Int.zero_add, Int.zero_add, List.length_map]
      rfl
theorem ok_Mark_init (T : Tx K mg) : FnR P w K mg base (L2.CX P w) 3 (He.ma K (He.ga K "Mark") "__init__") (fun vs H Q E => ∃ ws rest, vs = ws ++ rest ∧ ws.length = ["self"].length ∧ rest.length ≤ sizeLine ∧ ∀ W, H W = none → spInit0 K (ws ++ [V.ref W]) (upd H W (.tup rest)) Q E) := by
  obtain ⟨fd, F⟩ := T.d_Mark_init
  exact EM.fnr_star (ps := ["self"]) (pv := "widths") F sc_Mark_init (fun kV doc pm an cdv ct => StX.bind_star1 (B := fun l => bindArgs _ ⟨l, []⟩) (fun a => by rfl) (fun a r rs => by rfl)) (bod_Mark_init T _)
end
end K74
namespace K74
open PySem PySem.Spec PyProof.Rows L2 EM
theorem good_rev {ws : List Int} (h : good ws) : good ws.reverse := by
  obtain ⟨h1, h2, h3, h4⟩ := h
  exact ⟨by rw [List.length_reverse]; exact h1, by rw [List.length_reverse]; exact h2, by rw [List.length_reverse]; exact h3, fun x hx => h4 x (List.mem_reverse.mp hx)⟩
abbrev spMI (K : PySem.W.Frag) : Sp := fun vs H Q E => ∃ ws rest, vs = ws ++ rest ∧ ws.length = ["self"].length ∧ rest.length ≤ sizeLine ∧ ∀ W, H W = none → spInit0 K (ws ++ [V.ref W]) (upd H W (.tup rest)) Q E
theorem mk_Mark {K : PySem.W.Frag} {H : Hp} {ws : List Int} {Q : VK} {E : XK} {vs : List V} (hv : vs = ws.map V.int) (hg : good ws) (q : ∀ p H', Same H H' → MarkAt K H' p ws → Q (.ref p) H') :
    ∀ x dx, H x = none → H dx = none → dx ≠ x → spMI K (V.ref x :: vs) (upd (upd H dx (.own x)) x (.ins (He.ga K "Mark") dx [])) (fun v H2 => v = .non ∧ Q (.ref x) H2) E := by
  intro x dx nx nd ne
  subst hv
  refine ⟨[.ref x], ws.map V.int, rfl, rfl, by rw [List.length_map]; exact sz (by have := hg.2.2.1; omega), fun W hW => ⟨x, dx, W, ws, rfl, ?_, upd_same, hg, fun H' k m => ⟨rfl, q x H' (fun b o e => ?_) m⟩⟩⟩
  · have nxW : x ≠ W := by
      intro z
      subst z
      rw [upd_same] at hW
      cases hW
    rw [upd_ne nxW, upd_same]
  · have n1 := ne_of_none e nx
    have n2 := ne_of_none e nd
    have nW : b ≠ W := by
      intro z
      subst z
      rw [upd_ne n1, upd_ne n2, e] at hW
      cases hW
    exact k b o (by rw [upd_ne nW, upd_ne n1, upd_ne n2]; exact e) n1
def spOf (K : PySem.W.Frag) : Sp := fun vs H Q _ => ∃ (c : V) (a : Addr) (ws : List Int), vs = [c, .ref a] ∧ (H a = some (.lst (ws.map V.int)) ∨ H a = some (.tup (ws.map V.int))) ∧ good ws ∧ ∀ p H', Same H H' → MarkAt K H' p ws → Q (.ref p) H'
def spInvert (K : PySem.W.Frag) : Sp := fun vs H Q _ => ∃ (p : Addr) (ws : List Int), vs = [.ref p] ∧ MarkAt K H p ws ∧ ∀ q H', Same H H' → MarkAt K H' q ws.reverse → Q (.ref q) H'
def spEqM (K : PySem.W.Frag) : Sp := fun vs H Q _ => ∃ (p q : Addr) (ws us : List Int), vs = [.ref p, .ref q] ∧ MarkAt K H p ws ∧ MarkAt K H q us ∧ Q (.bl (decide (ws = us))) H
def spPart : Sp := fun vs H Q _ => ∃ i : Int, vs = [.int i] ∧ 1 ≤ i ∧ i ≤ 1000 ∧ Q .non H
def spNeed : Sp := fun vs H Q _ => ∃ b g u : Int, vs = [.int b, .int g, .int u] ∧ (1 ≤ b ∧ b ≤ 62) ∧ (1 ≤ g ∧ g ≤ 1000) ∧ (1 ≤ u ∧ u ≤ 1000) ∧ Q .non H
theorem kSelf {K : PySem.W.Frag} {C : Addr} : PySem.W.kitOne K (.ref C) (.ref C) = some true := by
  unfold PySem.W.kitOne
  rw [if_pos (beq_self_eq_true _)]
section
variable {P : Program} {w : World} {K : PySem.W.Frag} {mg : Str → Option Value} {base : Heap}
theorem ok_Mark_of (T : Tx K mg) : FnR P w K mg base (L2.CX P w) 5 (He5.wf K (He.ga K "Mark") "classmethod" "of") (spOf K) := by
  obtain ⟨fd, F⟩ := T.d_Mark_of
  refine EM.fnr F sc_Mark_of (fun _ _ _ _ _ _ us hl => match us, hl with | [_, _], _ => rfl) (fun vs H Q E h => ?_) (fun cdv A outer s H vs Q E hr h => ?_)
  · obtain ⟨c, a, ws, rfl, _⟩ := h
    rfl
  · obtain ⟨c, a, ws, rfl, ha, hg, k⟩ := h
    refine ⟨_, (PSs.nox (pss_cons (ps_if (pt_not (pt_val (pe_callB call_isiT (by rfl) T.f_isinstance (by decide +kernel) (pa_cons (pv 1) (pa_cons (pe_tup (pa_cons (pe_bltn (v := .ty "list") (by rfl) T.f_list boot_list rfl) (pa_cons (pe_bltn (v := .ty "tuple") (by rfl) T.f_tuple boot_tuple rfl) pa_nil))) pa_nil)))))
  (pss_one ps_never) pss_nil)
 (pss_one (ps_ret (EM.pe_mkS1 T.mk_Mark (ok_Mark_init T) (hr.mono (by decide)) T.g_Mark passL (pv 1)))))), ?_⟩
    have fin : ∀ tp, H tp = none → (upd H tp (.tup [V.ty "list", V.ty "tuple"])) a = H a := fun tp htp => by
      rcases ha with ha | ha
      · rw [upd_ne (ne_of_none ha htp)]
      · rw [upd_ne (ne_of_none ha htp)]
    have key : ∃ (t : Value), (∀ tp, H tp = none → TyX K (upd H tp (.tup [V.ty "list", V.ty "tuple"])) (.ref a) t) ∧ PySem.W.kitAny K t [.type "list", .type "tuple"] = some true := by
      rcases ha with ha | ha
      · exact ⟨.type "list", fun tp htp => .base (.lst ((fin tp htp).trans ha)), kitAny_cons (b := true) (kit_ty (by decide +kernel)) (fun z => nomatch z) (fun _ => rfl)⟩
      · exact ⟨.type "tuple", fun tp htp => .base (.tup ((fin tp htp).trans ha)), kitAny_cons (b := false) (kit_ty (by decide +kernel)) (fun _ => kitAny_cons (b := true) (kit_ty (by decide +kernel)) (fun z => nomatch z) (fun _ => rfl)) (fun z => nomatch z)⟩
    obtain ⟨ty, hty, hk⟩ := key
    refine ⟨_, rfl, by decide, fun tp htp => ⟨.ref a, tp, _, ty, [.type "list", .type "tuple"], true, rfl, upd_same, .cons (.ty _) (.cons (.ty _) .nil), hty tp htp, hk, true, rfl, ifN rfl ?_⟩⟩
    refine ⟨_, rfl, a, ws.map V.int, rfl, ?_, mk_Mark (by simp) hg fun p H' s' m => k p H' (fun b o e => s' _ _ (same_upd htp _ _ e)) m⟩
    rcases ha with ha | ha
    · exact .inr (SqL.of ((fin tp htp).trans ha))
    · exact .inl (SqT.of ((fin tp htp).trans ha))
theorem ok_Mark_invert (T : Tx K mg) : FnR P w K mg base (L2.CX P w) 6 (He.ma K (He.ga K "Mark") "__invert__") (spInvert K) := by
  obtain ⟨fd, F⟩ := T.d_Mark_invert
  refine EM.fnr F sc_Mark_invert (fun _ _ _ _ _ _ us hl => match us, hl with | [_], _ => rfl) (fun vs H Q E h => ?_) (fun cdv A outer s H vs Q E hr h => ?_)
  · obtain ⟨p, ws, rfl, _⟩ := h
    rfl
  · obtain ⟨p, ws, rfl, m, k⟩ := h
    obtain ⟨hg, dx, wp, ep, sp, h1, h2, h3, h4⟩ := id m
    refine ⟨_, (PSs.nox (pss_one (ps_ret (ClX.pe_cmeth (pe_glob (v := .ref (He.ga K "Mark")) (by rfl) T.g_Mark rfl) T.cr_Mark T.cm_Mark_of (ok_Mark_of T) (hr.mono (by decide)) passL (pa_cons (EM.pe_revT (pe_fld (pv 0) rfl)) pa_nil))))), ?_⟩
    refine ⟨rfl, _, rfl, p, _, dx, _, .ref wp, rfl, h1, T.cl_Mark, T.na_Mark_widths, rfl, wp, _, rfl, SqT.of h2, fun r hr0 => ⟨_, r, ws.reverse, rfl, .inr ?_, good_rev hg, fun q H' s' m' => k q H' (fun b o e => s' _ _ (same_upd hr0 _ _ e)) m'⟩⟩
    rw [upd_same, List.map_reverse]
theorem ok_Mark_eq (T : Tx K mg) : FnR P w K mg base (L2.CX P w) 1 (He.ma K (He.ga K "Mark") "__eq__") (spEqM K) := by
  obtain ⟨fd, F⟩ := T.d_Mark_eq
  refine EM.fnr F sc_Mark_eq (fun _ _ _ _ _ _ us hl => match us, hl with | [_, _], _ => rfl) (fun vs H Q E h => ?_) (fun cdv A outer s H vs Q E hr h => ?_)
  · obtain ⟨p, q, ws, us, rfl, _⟩ := h
    rfl
  · obtain ⟨p, q, ws, us, rfl, m1, m2, k⟩ := h
    obtain ⟨hg, dx, wp, ep, sp, h1, h2, h3, h4⟩ := id m1
    obtain ⟨hg', dx', wp', ep', sp', h1', h2', h3', h4'⟩ := id m2
    refine ⟨_, (PSs.nox (pss_one (ps_ret (pe_and (pe_callB call_isi (by rfl) T.f_isinstance (by decide +kernel) (pa_cons (pv 1) (pa_cons (pe_glob (v := .ref (He.ga K "Mark")) (by rfl) T.g_Mark rfl) pa_nil))) (pe_one (pe_cmpR (op_eqD hr.units) (pe_fld (pv 0) rfl) (pe_fld (pv 1) rfl) (nomark _))))))), ?_⟩
    refine ⟨_, rfl, .ref q, .ref (He.ga K "Mark"), _, _, true, rfl, .own _, isiB_ty T.isi_Mark T.cl_Mark h1', kSelf, true, rfl, iteT ?_⟩
    refine ⟨_, rfl, p, _, dx, _, .ref wp, rfl, h1, T.cl_Mark, T.na_Mark_widths, rfl, _, rfl, q, _, dx', _, .ref wp', rfl, h1', T.cl_Mark, T.na_Mark_widths, rfl, dT ws, dT us, .tup (SqT.of h2) (dp_ints ws), .tup (SqT.of h2') (dp_ints us), shT ws, shT us, ?_⟩
    rw [eqvT]
    exact k
theorem ok_need_part (T : Tx K mg) : FnR P w K mg base (L2.CX P w) 2 (He.ga K "need_part") (spPart) := by
  obtain ⟨fd, F⟩ := T.d_need_part
  refine EM.fnr F sc_need_part (fun _ _ _ _ _ _ us hl => match us, hl with | [_], _ => rfl) (fun vs H Q E h => ?_) (fun cdv A outer s H vs Q E hr h => ?_)
  · obtain ⟨i, rfl, _⟩ := h
    rfl
  · obtain ⟨i, rfl, h1, h2, k⟩ := h
    refine ⟨_, (PSs.nox (pss_one (ps_if (PW.pt (pw_or (pt_not (pt_val (EM.pe_cR (ok_is_integer T) (hr.mono (by decide)) T.k_is_integer T.g_is_integer passL (pa_cons (pv 0) pa_nil)))) (pw_or1 (pt_not (pt_chain op_le op_le pe_int (pv 0) (EM.pe_gI T.g_MOST_PART))))))
  (pss_one ps_never) pss_nil))), ?_⟩
    refine ⟨_, rfl, _, _, true, false, rfl, .base (.int i), kII, kIB, true, rfl, ifN rfl ?_⟩
    refine ⟨_, rfl, _, _, rfl, rfl, _, rfl, ifP (decide_eq_true h1) ⟨_, _, rfl, rfl, _, rfl, ifN ?_ k⟩⟩
    rw [decide_eq_true h2]
    rfl
theorem ok_need_line (T : Tx K mg) : FnR P w K mg base (L2.CX P w) 3 (He.ga K "need_line") (spNeed) := by
  obtain ⟨fd, F⟩ := T.d_need_line
  refine EM.fnr F sc_need_line (fun _ _ _ _ _ _ us hl => match us, hl with | [_, _, _], _ => rfl) (fun vs H Q E h => ?_) (fun cdv A outer s H vs Q E hr h => ?_)
  · obtain ⟨b, g, u, rfl, _⟩ := h
    rfl
  · obtain ⟨b, g, u, rfl, ⟨b1, b2⟩, ⟨g1, g2⟩, ⟨u1, u2⟩, k⟩ := h
    obtain ⟨cu, hcu⟩ := T.cc_Mark_BARS
    refine ⟨_, (PSs.nox (pss_cons (ps_expr (EM.pe_cR (ok_need_part T) (hr.mono (by decide)) T.k_need_part T.g_need_part passL (pa_cons (pv 1) pa_nil)))
 (pss_cons (ps_expr (EM.pe_cR (ok_need_part T) (hr.mono (by decide)) T.k_need_part T.g_need_part passL (pa_cons (pv 2) pa_nil)))
 (pss_one (ps_if (pt_not (pt_chain op_le op_le pe_int (pv 0) (pe_op op_sub (ClX.pe_cval (pe_glob (v := .ref (He.ga K "Mark")) (by rfl) T.g_Mark rfl)) pe_int)))
  (pss_one ps_never) pss_nil))))), ?_⟩
    refine ⟨_, rfl, g, rfl, g1, g2, ?_⟩
    refine ⟨_, rfl, u, rfl, u1, u2, ?_⟩
    refine ⟨_, rfl, _, _, rfl, rfl, _, rfl, ifP (decide_eq_true b1) ⟨_, _, _, cu, rfl, T.cr_Mark, hcu, _, _, rfl, rfl, _, _, rfl, rfl, _, rfl, ifN ?_ k⟩⟩
    have : b ≤ 64 - 2 := by omega
    rw [decide_eq_true this]
    rfl
end
end K74
namespace K74
open PySem PySem.Spec PyProof.Rows L2 EM
def nbars : List (List Int) → Int
  | [] => 0
  | r :: q => ((r.length : Int) / 2 + 1) + nbars q
def lineW (rows : List (List Int)) (g u : Int) : List Int := (u :: rows.flatMap fun r => g :: r) ++ [g, u]
theorem flat_len (g : Int) : ∀ rows : List (List Int), (∀ r ∈ rows, good r) → ((rows.flatMap fun r => g :: r).length : Int) = 2 * nbars rows
  | [], _ => rfl
  | r :: q, h => by
    have ih := flat_len g q fun x hx => h x (List.mem_cons_of_mem _ hx)
    have hr := (h r List.mem_cons_self).1
    rw [List.flatMap_cons, List.length_append]
    show (((r.length + 1) + (q.flatMap fun r => g :: r).length : Nat) : Int) = 2 * (((r.length : Int) / 2 + 1) + nbars q)
    omega
theorem flat_mem {g : Int} (hg : 1 ≤ g ∧ g ≤ 1000) : ∀ rows : List (List Int), (∀ r ∈ rows, good r) → ∀ x ∈ (rows.flatMap fun r => g :: r), 1 ≤ x ∧ x ≤ 1000 := by
  intro rows h x hx
  obtain ⟨r, hr, hx⟩ := List.mem_flatMap.mp hx
  rcases List.mem_cons.mp hx with e | e
  · rw [e]; exact hg
  · exact (h r hr).2.2.2 x e
theorem good_line {rows : List (List Int)} {g u : Int} (h : ∀ r ∈ rows, good r) (hg : 1 ≤ g ∧ g ≤ 1000) (hu : 1 ≤ u ∧ u ≤ 1000) (hb : 1 ≤ nbars rows ∧ nbars rows ≤ 62) : good (lineW rows g u) := by
  have e := flat_len g rows h
  have l : (lineW rows g u).length = (rows.flatMap fun r => g :: r).length + 3 := by
    unfold lineW
    rw [List.length_append, List.length_cons]
    rfl
  refine ⟨by omega, by omega, by omega, fun x hx => ?_⟩
  unfold lineW at hx
  rcases List.mem_append.mp hx with e | e
  · rcases List.mem_cons.mp e with e | e
    · rw [e]; exact hu
    · exact flat_mem hg rows h x e
  · rcases List.mem_cons.mp e with e | e
    · rw [e]; exact hg
    · rw [List.mem_singleton.mp e]; exact hu
def refs (ms : List (Addr × List Int)) : List V := ms.map fun m => V.ref m.1
def spLine (K : PySem.W.Frag) : Sp := fun vs H Q _ => ∃ (a : Addr) (ms : List (Addr × List Int)) (g u : Int), vs = [.ref a, .int g, .int u] ∧ (H a = some (.lst (refs ms)) ∨ H a = some (.tup (refs ms))) ∧ (∀ m ∈ ms, MarkAt K H m.1 m.2) ∧ ms.length ≤ 100 ∧
  (1 ≤ g ∧ g ≤ 1000) ∧ (1 ≤ u ∧ u ≤ 1000) ∧ (1 ≤ nbars (ms.map (·.2)) ∧ nbars (ms.map (·.2)) ≤ 62) ∧ ∀ q H', Same H H' → MarkAt K H' q (lineW (ms.map (·.2)) g u) → Q (.ref q) H'
theorem len_line {K : PySem.W.Frag} : ∀ vs H Q E, spLine K vs H Q E → vs.length = ["marks", "gap", "guard"].length := by
  intro vs H Q E h
  obtain ⟨a, ms, g, u, rfl, _⟩ := h
  rfl
theorem ref_at {ms : List (Addr × List Int)} {i : Nat} {y : V} (h : (refs ms)[i]? = some y) : ∃ m, ms[i]? = some m ∧ y = .ref m.1 := by
  unfold refs at h
  rw [List.getElem?_map] at h
  cases e : ms[i]? with
  | none => rw [e] at h; cases h
  | some z => rw [e] at h; exact ⟨z, rfl, (Option.some.inj h).symm⟩
theorem nbars_sum (ms : List (Addr × List Int)) : (ms.map fun m => ((m.2.length : Int) / 2 + 1)).sum = nbars (ms.map (·.2)) := by
  induction ms with
  | nil => rfl
  | cons m r ih => rw [List.map_cons, List.sum_cons, ih]; rfl
section
variable {P : Program} {w : World} {K : PySem.W.Frag} {mg : Str → Option Value} {base : Heap}
theorem bod_line_of (T : Tx K mg) (f : Addr) : Bod P w K mg base ["marks", "gap", "guard", "mark", "widths"] "line_of" (defScope s_line_of) f (defBody s_line_of) 4 (spLine K) := by
  intro cdv A outer s H vs Q E hr h
  obtain ⟨a, ms, g, u, rfl, ha, hm, hl, hg, hu, hb, k⟩ := h
  have rl : (refs ms).length = ms.length := List.length_map ..
  have keep : ∀ H2, Same H H2 → H2 a = H a := fun H2 s2 => by
    rcases ha with ha | ha
    · rw [ha]; exact s2 _ _ ha
    · rw [ha]; exact s2 _ _ ha
  refine ⟨_, (PSs.nox (pss_cons (ps_expr (EM.pe_cR (ok_need_line T) (hr.mono (by decide)) T.k_need_line T.g_need_line passL (pa_cons (pe_callB (cr_sum rfl) (by rfl) T.f_sum (by decide +kernel) (pa_cons (pe_lc (own := [("mark", 3)]) (g := gName 3) (te := tFld K (tVar 3) "bars") rfl sc_line_of.nd (EM.pi_seq (pv 0)) (blkOk_by (N := ["marks", "gap", "guard", "mark", "widths"]) (sc := defScope s_line_of) (by decide +kernel)) (fun _ _ _ _ _ => (pg_name (i := 3) sc_line_of.nd rfl (Or.inl rfl))) (fun _ _ _ _ _ => pts_nil) (fun _ _ _ _ _ => (pe_fld (pv 3) rfl))) pa_nil)) (pa_cons (pv 1) (pa_cons (pv 2) pa_nil)))))
 (pss_cons (ps_set (i := 4) sc_line_of.nd rfl (Or.inl rfl) (pe_lst (pa_cons (pv 2) pa_nil)))
 (pss_cons (ps_for PassesOwn.never rfl (EM.pi_seq (pv 0)) (pg_name (i := 3) sc_line_of.nd rfl (Or.inl rfl))
  (pss_one (ps_expr (pe_bm PySem.F.plainAttrs_list PySem.F.slot_list_extend PySem.F.type_list_extend mt_extend (pv 4) (pa_cons (pe_lst (pa_cons (pv 1) (StX.pa_star (pe_fld (pv 3) rfl) pa_nil))) pa_nil)))))
 (pss_one (ps_ret (EM.pe_mkS2 T.mk_Mark (ok_Mark_init T) (hr.mono (by decide)) T.g_Mark passL (StX.pa_star (pv 4) (pa_cons (pv 1) (pa_cons (pv 2) pa_nil)))))))))), ?_⟩
  refine ⟨_, rfl, a, refs ms, rfl, ha, fun J wk Dd hD => lc_it wk
    (fun i H2 => Same H H2 ∧ H2 Dd = some (.lst (((ms.take i).map fun m => ((m.2.length : Int) / 2 + 1)).map V.int))) ⟨same_upd hD, upd_same⟩ (fun i H2 _ ⟨s2, _⟩ => keep H2 s2) ?_ ?_⟩
  · rintro i y H2 H3 hi ⟨s2, h2⟩ ⟨rfl, hy⟩
    obtain ⟨m, hmi, rfl⟩ := ref_at hy
    obtain ⟨hgm, dx, wp, ep, sp, h1, _⟩ := (hm m (List.mem_of_getElem? hmi)).same s2
    refine ⟨rfl, yes ⟨_, rfl, m.1, _, dx, _, _, rfl, h1, T.cl_Mark, T.na_Mark_bars, rfl, _, h2, ?_, same_upd' s2 hD, ?_⟩⟩
    · rw [List.length_map, List.length_map, List.length_take]
      exact szl (by omega)
    · rw [upd_same, take_snoc hmi, List.map_append, List.map_append]
      rfl
  · rintro H2 ⟨s2, h2⟩
    rw [rl, List.take_of_length_le (Nat.le_refl _)] at h2
    refine ⟨Dd, _, rfl, SqL.of h2, _, rfl, _, rfl, _, g, u, rfl, ?_, hg, hu, ?_⟩
    · rw [nbars_sum]; exact hb
    -- widths = [guard]
    refine ⟨_, rfl, (by show 1 ≤ sizeLine; decide), fun wl hwl => ?_⟩
    have s3 : Same H (upd H2 wl (.lst [.int u])) := same_upd' s2 (s2.free hwl)
    have nwl : H wl = none := s2.free hwl
    have ha3 : (upd H2 wl (.lst [.int u])) a = some (.lst (refs ms)) ∨ (upd H2 wl (.lst [.int u])) a = some (.tup (refs ms)) := by rw [keep _ s3]; exact ha
    refine ⟨_, rfl, a, refs ms, rfl, ha3, fun J wk => for_it wk (fun i σ H4 => ∃ v : Option V, σ = [some (.ref a), some (.int g), some (.int u), v, some (.ref wl)] ∧ Same H H4 ∧ H4 wl = some (.lst ((u :: (((ms.map (·.2)).take i).flatMap fun r => g :: r)).map V.int)))
      ⟨none, rfl, s3, upd_same⟩ (fun i σ H4 _ ⟨_, _, s4, _⟩ => (keep _ s4).trans (keep _ s3).symm) ?_ ?_⟩
    · rintro i y σ H4 H5 hi ⟨v, rfl, s4, h4⟩ ⟨rfl, hy⟩
      obtain ⟨m, hmi, rfl⟩ := ref_at hy
      obtain ⟨hgm, dx, wp, ep, sp, h1, hw, _⟩ := (hm m (List.mem_of_getElem? hmi)).same s4
      have hmi2 : (ms.map (·.2))[i]? = some m.2 := by rw [List.getElem?_map, hmi]; rfl
      refine ⟨_, rfl, .inl ⟨rfl, _, SqL.of h4⟩, _, rfl, _, rfl, m.1, _, dx, _, _, rfl, h1, T.cl_Mark, T.na_Mark_widths, rfl, wp, _, rfl, .inl (SqT.of hw), ?_, fun lq hlq => ?_⟩
      · simp only [List.length_cons, List.length_append, List.length_map, List.length_nil]
        exact sz (by have := hgm.2.2.1; omega)
      have nl : wl ≠ lq := ne_of_none h4 hlq
      refine ⟨wl, lq, _, _, rfl, rfl, (by rw [upd_ne nl]; exact h4), upd_same, ?_, ?_⟩
      · have fl := flat_len g ((ms.map (·.2)).take i) (fun r hr => by
          obtain ⟨m', hm', rfl⟩ := List.mem_map.mp (List.mem_of_mem_take hr)
          exact (hm m' hm').1)
        have fl2 : nbars ((ms.map (·.2)).take i) ≤ 127 * 100 := by
          have : ∀ (rows : List (List Int)) (n : Nat), (∀ r ∈ rows, good r) → rows.length ≤ n → nbars rows ≤ 127 * n := by
            intro rows
            induction rows with
            | nil => intro n _ _; show (0 : Int) ≤ _; omega
            | cons r q ih =>
              intro n h hn
              have hr := (h r List.mem_cons_self).2.2.1
              have := ih (n - 1) (fun x hx => h x (List.mem_cons_of_mem _ hx)) (by simp at hn; omega)
              simp at hn
              show ((r.length : Int) / 2 + 1) + nbars q ≤ 127 * n
              omega
          refine this _ 100 (fun r hr => ?_) ?_
          · obtain ⟨m', hm', rfl⟩ := List.mem_map.mp (List.mem_of_mem_take hr)
            exact (hm m' hm').1
          · rw [List.length_take, List.length_map]; omega
        simp only [List.length_cons, List.length_append, List.length_map, List.length_nil]
        refine sz ?_
        have := hgm.2.2.1
        omega
      · refine ⟨_, rfl, same_upd' (same_upd' s4 (s4.free hlq)) nwl, ?_⟩
        rw [upd_same, take_snoc hmi2, List.flatMap_append]
        simp
    · rintro σ H4 ⟨v, rfl, s4, h4⟩
      rw [rl, List.take_of_length_le (by rw [List.length_map]; exact Nat.le_refl _)] at h4
      refine ⟨_, rfl, wl, _, rfl, .inr (SqL.of h4), _, rfl, _, rfl, mk_Mark (ws := lineW (ms.map (·.2)) g u) ?_ (good_line ?_ hg hu hb) fun q H' s' m => k q H' (fun b o e => s' _ _ (s4 _ _ e)) m⟩
      · unfold lineW
        rw [List.map_append]
        rfl
      · intro r hr
        obtain ⟨m', hm', rfl⟩ := List.mem_map.mp hr
        exact (hm m' hm').1
theorem ok_line3 (T : Tx K mg) : FnR P w K mg base (L2.CX P w) 5 (He.ga K "line_of") (fun vs H Q E => spLine K (vs ++ []) H Q E) := by
  obtain ⟨fd, F⟩ := T.d_line_of
  exact EM.fnr_dfl 3 2 F sc_line_of (by intro z; cases z) rfl (fun T kV doc pm an cdv ct us its h1 h2 => match us, h1, its, h2 with | [_, _, _], _, [_, _], _ => ⟨_, rfl, rfl⟩) len_line (bod_line_of T _)
theorem ok_line1 (T : Tx K mg) : FnR P w K mg base (L2.CX P w) 5 (He.ga K "line_of") (fun vs H Q E => spLine K (vs ++ [.int 1, .int 1]) H Q E) := by
  obtain ⟨fd, F⟩ := T.d_line_of
  exact EM.fnr_dfl 1 0 F sc_line_of (by intro z; cases z) rfl (fun T kV doc pm an cdv ct us its h1 h2 => match us, h1, its, h2 with | [_], _, [_, _], _ => ⟨_, rfl, rfl⟩) len_line (bod_line_of T _)
theorem ok_lineGG (T : Tx K mg) : FnK P w K mg base (L2.CX P w) 5 (He.ga K "line_of") ["guard", "gap"] (fun vs zs H Q E => vs.length = 1 ∧ zs.length = ["guard", "gap"].length ∧ spLine K (vs ++ (zs.drop 1 ++ zs.take 1)) H Q E) := by
  obtain ⟨fd, F⟩ := T.d_line_of
  exact EM.fnk_dfl 1 ["guard", "gap"] (fun us its ws => us ++ (ws.drop 1 ++ ws.take 1)) F sc_line_of (by intro z; cases z) (fun h1 h2 h3 => h1.append ((h3.drop 1).append (h3.take 1)))
    (fun T kV doc pm an cdv ct us its ws h1 h2 h3 => match us, h1, its, h2, ws, h3 with | [_], _, [_, _], _, [_, _], _ => ⟨_, rfl, rfl⟩) len_line (bod_line_of T _)
theorem ok_lineMG (T : Tx K mg) : FnK P w K mg base (L2.CX P w) 5 (He.ga K "line_of") ["marks", "gap"] (fun vs zs H Q E => vs.length = 0 ∧ zs.length = ["marks", "gap"].length ∧ spLine K (zs ++ [.int 1]) H Q E) := by
  obtain ⟨fd, F⟩ := T.d_line_of
  exact EM.fnk_dfl 0 ["marks", "gap"] (fun us its ws => ws ++ its.drop 1) F sc_line_of (by intro z; cases z) (fun h1 h2 h3 => h3.append (h2.drop 1))
    (fun T kV doc pm an cdv ct us its ws h1 h2 h3 => match us, h1, its, h2, ws, h3 with | [], _, [_, _], _, [_, _], _ => ⟨_, rfl, rfl⟩) len_line (bod_line_of T _)
end
end K74
namespace K74
open PySem PySem.Spec PyProof.Rows L2 EM
/-- what draws: the cells, the index of the next one (at most n), the rest of a great cell -/
def Pen (H : Hp) (p l : Addr) (n : Nat) : Prop := ∃ (cells : List Int) (at_ rest : Int), H p = some (.lst [.ref l, .int at_, .int rest]) ∧ H l = some (.lst (cells.map V.int)) ∧ l ≠ p ∧ cells.length ≤ 63 ∧ 0 ≤ at_ ∧ at_ ≤ n
def spPen (K : PySem.W.Frag) : Sp := fun vs H Q _ => ∃ (a : Addr) (ns : List Int), vs = [.ref a] ∧ SqL K H a (ns.map V.int) ∧ ns.length ≤ 63 ∧ ∀ p l H', Same H H' → H p = none → Pen H' p l 0 → Q (.ref p) H'
def spDraw : Sp := fun vs H Q _ => ∃ (p l : Addr) (n : Nat) (many : Int), vs = [.ref p, .int many] ∧ Pen H p l n ∧ n ≤ 1000000 ∧ 1 ≤ many ∧ many < 2 ^ 64 ∧ ∀ d H', 0 ≤ d → d < many → (∀ b o, H b = some o → b ≠ p → H' b = some o) → Pen H' p l (n + 1) → Q (.int d) H'
theorem draw_bd {m a A B C : Int} (m0 : 0 ≤ m) (m1 : m < 2147483648) (a0 : 0 ≤ a) (a1 : a ≤ 1000000) (hA : 0 ≤ A ∧ A ≤ 1000000) (hB : 0 ≤ B ∧ B ≤ 1000000) (hC : 0 ≤ C ∧ C ≤ 1000000) :
    (m * (2 * a + A) + B * a * a + C).natAbs < 2 ^ 64 := by
  have h1 : m * (2 * a + A) ≤ 2147483648 * 3000000 := Int.mul_le_mul (by omega) (by omega) (by omega) (by omega)
  have h2 : 0 ≤ m * (2 * a + A) := Int.mul_nonneg m0 (by omega)
  have h3 : B * a ≤ 1000000 * 1000000 := Int.mul_le_mul hB.2 a1 a0 (by omega)
  have h4 : 0 ≤ B * a := Int.mul_nonneg hB.1 a0
  have h5 : B * a * a ≤ 1000000 * 1000000 * 1000000 := Int.mul_le_mul h3 a1 a0 (by omega)
  have h6 : 0 ≤ B * a * a := Int.mul_nonneg h4 a0
  omega
theorem mul_bd {B a : Int} (a0 : 0 ≤ a) (a1 : a ≤ 1000000) (hB : 0 ≤ B ∧ B ≤ 1000000) : -(2 ^ 64) < B * a ∧ B * a < 2 ^ 64 := by
  have h3 : B * a ≤ 1000000 * 1000000 := Int.mul_le_mul hB.2 a1 a0 (by omega)
  have h4 : 0 ≤ B * a := Int.mul_nonneg hB.1 a0
  constructor <;> omega
theorem cut_ints (ns : List Int) (lo hi : Option Int) : ∃ ms : List Int, cutV (ns.map V.int) lo hi = ms.map V.int ∧ ms.length ≤ ns.length := by
  refine ⟨(ns.drop (HT.sIx (ns.map V.int).length 0 lo)).take (HT.sIx (ns.map V.int).length (ns.map V.int).length hi - HT.sIx (ns.map V.int).length 0 lo), ?_, ?_⟩
  · unfold cutV
    rw [List.map_take, List.map_drop]
  · rw [List.length_take, List.length_drop]
    omega
section
variable {P : Program} {w : World} {K : PySem.W.Frag} {mg : Str → Option Value} {base : Heap}
theorem ok_Lpen (T : Tx K mg) : FnR P w K mg base (L2.CX P w) 1 (He.ga K "_law_pen") (spPen K) := by
  obtain ⟨fd, F⟩ := T.d_Lpen
  refine EM.fnr F sc_Lpen (fun _ _ _ _ _ _ us hl => match us, hl with | [_], _ => rfl) (fun vs H Q E h => ?_) (fun cdv A outer s H vs Q E hr h => ?_)
  · obtain ⟨a, ns, rfl, _⟩ := h
    rfl
  · obtain ⟨a, ns, rfl, hS, hl, k⟩ := h
    obtain ⟨ms, ems, hms⟩ := cut_ints ns none (some 63)
    refine ⟨_, (PSs.nox (pss_one (ps_ret (pe_lst (pa_cons (pe_callTy call_list_of (by rfl) T.f_list (by decide +kernel) (pa_cons (pe_slice sl_list (pv 0) po_none (po_some pe_int)) pa_nil)) (pa_cons pe_int (pa_cons pe_int pa_nil))))))), ?_⟩
    refine ⟨_, rfl, 63, rfl, a, _, rfl, hS, fun c hc => ⟨c, _, rfl, .inl (SqL.of upd_same), fun l hl2 => ⟨(by show 3 ≤ sizeLine; decide), fun p hp => ?_⟩⟩⟩
    have s1 : Same H _ := same_upd (o := .lst (cutV (ns.map V.int) none (some 63))) hc
    have s2 := same_upd' (o := .lst (cutV (ns.map V.int) none (some 63))) s1 (s1.free hl2)
    have n2 : H p = none := s2.free hp
    have nlp : l ≠ p := by
      intro z
      subst z
      rw [upd_same] at hp
      cases hp
    refine k p l _ (same_upd' s2 n2) n2 ⟨ms, 0, 0, upd_same, ?_, nlp, by omega, by omega, by omega⟩
    rw [upd_ne nlp, upd_same, ems]
theorem ok_Ldraw (T : Tx K mg) : FnR P w K mg base (L2.CX P w) 1 (He.ga K "_law_draw") (spDraw) := by
  obtain ⟨fd, F⟩ := T.d_Ldraw
  refine EM.fnr F sc_Ldraw (fun _ _ _ _ _ _ us hl => match us, hl with | [_, _], _ => rfl) (fun vs H Q E h => ?_) (fun cdv A outer s H vs Q E hr h => ?_)
  · obtain ⟨p, l, n, many, rfl, _⟩ := h
    rfl
  · obtain ⟨p, l, n, many, rfl, ⟨cells, at_, rest, hp, hlc, nlp, hcl, a0, a1⟩, hn, m1, m2, k⟩ := h
    have wm : CDivW 0 many := wide_div (b := 64) (by omega) (by omega) (by decide) (by decide)
    have wd : ∀ i, CDivW i many := fun i => wm
    have md : ∀ i : Int, 0 ≤ i % many ∧ i % many < many := fun i => ⟨Int.emod_nonneg _ (by omega), Int.emod_lt_of_pos _ (by omega)⟩
    refine ⟨_, (PSs.nox (pss_cons (ps_if (pt_cmpR op_gt (pe_ix ix_list (pv 0) pe_int (fun _ _ => rfl)) pe_int (nomark _))
  (pss_cons (ps_set (i := 2) sc_Ldraw.nd rfl (Or.inl rfl) (pe_op op_mod (pe_callTy call_int1 (by rfl) T.f_int (by decide +kernel) (pa_cons (pe_ix ix_list (pv 0) pe_int (fun _ _ => rfl)) pa_nil)) (pv 1)))
 (pss_cons (ps_asg (pe_op op_fdivW (pe_callTy call_int1 (by rfl) T.f_int (by decide +kernel) (pa_cons (pe_ix ix_list (pv 0) pe_int (fun _ _ => rfl)) pa_nil)) (pv 1)) (pg_sub (pv 0) pe_int set_list))
 (pss_one (ps_ret (pv 2))))) pss_nil)
 (pss_cons (ps_set (i := 3) sc_Ldraw.nd rfl (Or.inl rfl) (pe_ix ix_list (pv 0) pe_int (fun _ _ => rfl)))
 (pss_cons (ps_asg (pe_op op_add (pv 3) pe_int) (pg_sub (pv 0) pe_int set_list))
 (pss_cons (ps_set (i := 4) sc_Ldraw.nd rfl (Or.inl rfl) (pe_op op_add (pe_op op_mul pe_int (pv 3)) pe_int))
 (pss_cons (ps_if (pt_cmpR (op_neD hr.units) (pe_ix ix_list (pv 0) pe_int (fun _ _ => rfl)) (pe_lst pa_nil) (nomark _))
  (pss_one (ps_set (i := 4) sc_Ldraw.nd rfl (Or.inl rfl) (pe_ix ix_list (pe_ix ix_list (pv 0) pe_int (fun _ _ => rfl)) (pe_op op_mod (pe_callTy call_int1 (by rfl) T.f_int (by decide +kernel) (pa_cons (pv 3) pa_nil)) (pe_callB call_len (by rfl) T.f_len boot_len (pa_cons (pe_ix ix_list (pv 0) pe_int (fun _ _ => rfl)) pa_nil))) (fun _ _ => rfl)))) pss_nil)
 (pss_cons (ps_if (PW.pt (pw_and (pt_cmpR op_lt (pv 3) (pe_callB call_len (by rfl) T.f_len boot_len (pa_cons (pe_ix ix_list (pv 0) pe_int (fun _ _ => rfl)) pa_nil)) (nomark _)) (pw_and1 (pt_cmpR op_ge (pe_callB call_abs (by rfl) T.f_abs (by decide +kernel) (pa_cons (pv 4) pa_nil)) (pe_op op_pow pe_int pe_int) (nomark _)))))
  (pss_cons (ps_set (i := 5) sc_Ldraw.nd rfl (Or.inl rfl) (pe_op op_add (pe_op op_mul pe_int (pe_op op_sub (pe_callB call_abs (by rfl) T.f_abs (by decide +kernel) (pa_cons (pv 4) pa_nil)) (pe_op op_pow pe_int pe_int))) (pe_callTy call_int1 (by rfl) T.f_int (by decide +kernel) (pa_cons (pe_cmpR op_lt (pv 4) pe_int (nomark _)) pa_nil))))
 (pss_cons (ps_asg (pe_op op_fdivW (pe_callTy call_int1 (by rfl) T.f_int (by decide +kernel) (pa_cons (pv 5) pa_nil)) (pv 1)) (pg_sub (pv 0) pe_int set_list))
 (pss_one (ps_ret (pe_op op_mod (pe_callTy call_int1 (by rfl) T.f_int (by decide +kernel) (pa_cons (pv 5) pa_nil)) (pv 1)))))) pss_nil)
 (pss_cons (ps_set (i := 6) sc_Ldraw.nd rfl (Or.inl rfl) (pe_op op_mod (pe_callTy call_int1 (by rfl) T.f_int (by decide +kernel) (pa_cons (pe_op op_pow (pe_op op_add (pe_op op_add (pe_op op_mod (pe_callTy call_int1 (by rfl) T.f_int (by decide +kernel) (pa_cons (pv 4) pa_nil)) pe_int) (pe_op op_mul pe_int (pv 3))) pe_int) pe_int) pa_nil)) pe_int))
 (pss_cons (ps_set (i := 6) sc_Ldraw.nd rfl (Or.inl rfl) (pe_op op_mod (pe_callTy call_int1 (by rfl) T.f_int (by decide +kernel) (pa_cons (pe_op op_pow (pe_op op_add (pe_op op_add (pe_op op_mul (pv 6) (pe_op op_add (pe_op op_mul pe_int (pv 3)) pe_int)) (pe_op op_mul (pe_op op_mul pe_int (pv 3)) (pv 3))) pe_int) pe_int) pa_nil)) pe_int))
 (pss_one (ps_ret (pe_op op_mod (pe_callTy call_int1 (by rfl) T.f_int (by decide +kernel) (pa_cons (pe_op op_fdiv (pv 6) pe_int) pa_nil)) (pv 1))))))))))))), ?_⟩
    -- if pen[2] > 0
    refine ⟨_, rfl, p, _, 2, _, rfl, rfl, SqL.of hp, rfl, _, _, rfl, rfl, _, rfl, ite2 (fun c => ?_) (fun c => ?_)⟩
    · refine ⟨_, rfl, p, _, 2, _, rfl, rfl, SqL.of hp, rfl, .inl ⟨_, rfl, _, rfl, _, _, rfl, rfl, (by show (0 : Int) < many; omega), ?_⟩⟩
      refine ⟨_, rfl, p, _, 2, _, rfl, rfl, SqL.of hp, rfl, .inl ⟨_, rfl, _, rfl, _, _, rfl, rfl, wd _, ?_⟩⟩
      refine ⟨_, rfl, p, _, 2, 2, rfl, rfl, hp, rfl, ?_⟩
      refine ⟨_, rfl, k _ _ (md _).1 (md _).2 (fun b o e hb => by rw [upd_ne hb]; exact e) ⟨cells, at_, _, upd_same, by rw [upd_ne nlp]; exact hlc, nlp, hcl, a0, by omega⟩⟩
    · have a2 : at_ ≤ 1000000 := by omega
      -- at = pen[1]; pen[1] = at + 1; cell = ..
      refine ⟨_, rfl, p, _, 1, _, rfl, rfl, SqL.of hp, rfl, ?_⟩
      refine ⟨_, rfl, _, _, rfl, rfl, _, rfl, p, _, 1, 1, rfl, rfl, hp, rfl, ?_⟩
      refine ⟨_, rfl, _, _, rfl, rfl, .inl ⟨by decide, by decide⟩, _, _, rfl, rfl, ?_⟩
      obtain ⟨H1, eH1⟩ : ∃ H1, H1 = upd H p (.lst ([V.ref l, V.int at_, V.int rest].set 1 (.int (at_ + 1)))) := ⟨_, rfl⟩
      rw [← eH1]
      have hp1 : H1 p = some (.lst [.ref l, .int (at_ + 1), .int rest]) := by rw [eH1]; exact upd_same
      have hl1 : H1 l = some (.lst (cells.map V.int)) := by rw [eH1, upd_ne nlp]; exact hlc
      have k1 : ∀ b o, H b = some o → b ≠ p → H1 b = some o := fun b o e hb => by rw [eH1, upd_ne hb]; exact e
      clear eH1
      -- if pen[0] != []
      refine ⟨_, rfl, p, _, 0, _, rfl, rfl, SqL.of hp1, rfl, (by show 0 ≤ sizeLine; decide), fun q hq => ⟨dL cells, dL [], .lst (SqL.of (by rw [upd_ne (ne_of_none hl1 hq)]; exact hl1)) (dp_ints cells), .lst (SqL.of upd_same) .nil, shL cells, shL [], _, rfl, ?_⟩⟩
      obtain ⟨H2, eH2⟩ : ∃ H2, H2 = upd H1 q (.lst []) := ⟨_, rfl⟩
      rw [← eH2]
      have hp2 : H2 p = some (.lst [.ref l, .int (at_ + 1), .int rest]) := by rw [eH2, upd_ne (ne_of_none hp1 hq)]; exact hp1
      have hl2 : H2 l = some (.lst (cells.map V.int)) := by rw [eH2, upd_ne (ne_of_none hl1 hq)]; exact hl1
      have k2 : ∀ b o, H b = some o → b ≠ p → H2 b = some o := fun b o e hb => by rw [eH2, upd_ne (ne_of_none (k1 b o e hb) hq)]; exact k1 b o e hb
      clear eH2
      rw [eqvL]
      refine ite2 (fun c2 => ?_) (fun c2 => ?_)
      · have hc0 : 0 < cells.length := by
          cases cells with
          | nil => simp at c2
          | cons _ _ => simp
        have hm : 0 ≤ at_ % (cells.length : Int) ∧ at_ % (cells.length : Int) < cells.length := ⟨Int.emod_nonneg _ (by omega), Int.emod_lt_of_pos _ (by omega)⟩
        have hj : (at_ % (cells.length : Int)).toNat < cells.length := by omega
        refine ⟨_, rfl, p, _, 0, _, rfl, rfl, SqL.of hp2, rfl, _, rfl, .inl ⟨_, rfl, _, rfl, p, _, 0, _, rfl, rfl, SqL.of hp2, rfl, _, _, rfl, .inl ⟨_, SqL.of hl2, rfl⟩, _, _, rfl, rfl, ?_, l, _, _, .int (cells[(at_ % (cells.length : Int)).toNat]), rfl, rfl, SqL.of hl2, ?_, ?_⟩⟩
        · show (0 : Int) < ((cells.map V.int).length : Nat)
          rw [List.length_map]; omega
        · rw [List.length_map]
          exact at_of (j := (at_ % (cells.length : Int)).toNat) (by omega) (by rw [List.getElem?_map, List.getElem?_eq_getElem hj]; rfl)
        refine ⟨_, rfl, _, rfl, p, _, 0, _, rfl, rfl, SqL.of hp2, rfl, _, _, rfl, .inl ⟨_, SqL.of hl2, rfl⟩, _, _, rfl, rfl, _, rfl, ite2 (fun c3 => ?_) (fun c3 => ?_)⟩
        · refine ⟨_, rfl, _, rfl, _, _, rfl, rfl, ⟨by decide, by decide, by decide⟩, _, _, rfl, rfl, _, rfl, ite2 (fun c4 => ?_) (fun c4 => ?_)⟩
          · refine ⟨_, rfl, _, rfl, _, _, rfl, rfl, ⟨by decide, by decide, by decide⟩, _, _, rfl, rfl, _, _, rfl, rfl, .inl ⟨by decide, by decide⟩, _, rfl, _, _, rfl, rfl, .inr ⟨_, rfl, _, _, rfl, rfl, ?_⟩⟩
            refine ⟨_, rfl, .inl ⟨_, rfl, _, rfl, _, _, rfl, rfl, wd _, ?_⟩⟩
            refine ⟨_, rfl, p, _, 2, 2, rfl, rfl, hp2, rfl, ?_⟩
            refine ⟨_, rfl, .inl ⟨_, rfl, _, rfl, _, _, rfl, rfl, (by show (0 : Int) < many; omega), ?_⟩⟩
            exact k _ _ (md _).1 (md _).2 (fun b o e hb => by rw [upd_ne hb]; exact k2 b o e hb) ⟨cells, at_ + 1, _, upd_same, by rw [upd_ne nlp]; exact hl2, nlp, hcl, by omega, by omega⟩
          · refine ⟨_, rfl, .inl ⟨_, rfl, _, _, rfl, rfl, (by show (0 : Int) < _; decide), _, rfl, _, _, rfl, rfl, .inl ⟨by decide, by decide⟩, _, _, rfl, rfl, _, _, rfl, rfl, _, _, rfl, rfl, ⟨by decide, by decide, by omega⟩, .inl ⟨_, rfl, _, _, rfl, rfl, (by show (0 : Int) < _; decide), ?_⟩⟩⟩
            refine ⟨_, rfl, _, rfl, _, _, rfl, rfl, .inl ⟨by decide, by decide⟩, _, _, rfl, rfl, _, _, rfl, rfl, .inl ⟨by omega, by omega⟩, _, rfl, _, _, rfl, rfl, .inl ⟨by decide, by decide⟩, _, rfl, _, _, rfl, rfl, .inl (mul_bd a0 a2 ⟨by decide, by decide⟩), _, _, rfl, rfl, _, _, rfl, rfl, _, _, rfl, rfl, ⟨by decide, by decide, draw_bd (by omega) (by omega) a0 a2 ⟨by decide, by decide⟩ ⟨by decide, by decide⟩ ⟨by decide, by decide⟩⟩, .inl ⟨_, rfl, _, _, rfl, rfl, (by show (0 : Int) < _; decide), ?_⟩⟩
            refine ⟨_, rfl, _, _, rfl, rfl, ⟨by decide, by decide⟩, .inl ⟨_, rfl, _, rfl, _, _, rfl, rfl, (by show (0 : Int) < many; omega), ?_⟩⟩
            exact k _ _ (md _).1 (md _).2 k2 ⟨cells, at_ + 1, _, hp2, hl2, nlp, hcl, by omega, by omega⟩
        · refine ifN rfl ?_
          refine ⟨_, rfl, .inl ⟨_, rfl, _, _, rfl, rfl, (by show (0 : Int) < _; decide), _, rfl, _, _, rfl, rfl, .inl ⟨by decide, by decide⟩, _, _, rfl, rfl, _, _, rfl, rfl, _, _, rfl, rfl, ⟨by decide, by decide, by omega⟩, .inl ⟨_, rfl, _, _, rfl, rfl, (by show (0 : Int) < _; decide), ?_⟩⟩⟩
          refine ⟨_, rfl, _, rfl, _, _, rfl, rfl, .inl ⟨by decide, by decide⟩, _, _, rfl, rfl, _, _, rfl, rfl, .inl ⟨by omega, by omega⟩, _, rfl, _, _, rfl, rfl, .inl ⟨by decide, by decide⟩, _, rfl, _, _, rfl, rfl, .inl (mul_bd a0 a2 ⟨by decide, by decide⟩), _, _, rfl, rfl, _, _, rfl, rfl, _, _, rfl, rfl, ⟨by decide, by decide, draw_bd (by omega) (by omega) a0 a2 ⟨by decide, by decide⟩ ⟨by decide, by decide⟩ ⟨by decide, by decide⟩⟩, .inl ⟨_, rfl, _, _, rfl, rfl, (by show (0 : Int) < _; decide), ?_⟩⟩
          refine ⟨_, rfl, _, _, rfl, rfl, ⟨by decide, by decide⟩, .inl ⟨_, rfl, _, rfl, _, _, rfl, rfl, (by show (0 : Int) < many; omega), ?_⟩⟩
          exact k _ _ (md _).1 (md _).2 k2 ⟨cells, at_ + 1, _, hp2, hl2, nlp, hcl, by omega, by omega⟩
      · refine ⟨_, rfl, _, rfl, p, _, 0, _, rfl, rfl, SqL.of hp2, rfl, _, _, rfl, .inl ⟨_, SqL.of hl2, rfl⟩, _, _, rfl, rfl, _, rfl, ite2 (fun c3 => ?_) (fun c3 => ?_)⟩
        · refine ⟨_, rfl, _, rfl, _, _, rfl, rfl, ⟨by decide, by decide, by decide⟩, _, _, rfl, rfl, _, rfl, ite2 (fun c4 => ?_) (fun c4 => ?_)⟩
          · refine ⟨_, rfl, _, rfl, _, _, rfl, rfl, ⟨by decide, by decide, by decide⟩, _, _, rfl, rfl, _, _, rfl, rfl, .inl ⟨by decide, by decide⟩, _, rfl, _, _, rfl, rfl, .inr ⟨_, rfl, _, _, rfl, rfl, ?_⟩⟩
            refine ⟨_, rfl, .inl ⟨_, rfl, _, rfl, _, _, rfl, rfl, wd _, ?_⟩⟩
            refine ⟨_, rfl, p, _, 2, 2, rfl, rfl, hp2, rfl, ?_⟩
            refine ⟨_, rfl, .inl ⟨_, rfl, _, rfl, _, _, rfl, rfl, (by show (0 : Int) < many; omega), ?_⟩⟩
            exact k _ _ (md _).1 (md _).2 (fun b o e hb => by rw [upd_ne hb]; exact k2 b o e hb) ⟨cells, at_ + 1, _, upd_same, by rw [upd_ne nlp]; exact hl2, nlp, hcl, by omega, by omega⟩
          · refine ⟨_, rfl, .inl ⟨_, rfl, _, _, rfl, rfl, (by show (0 : Int) < _; decide), _, rfl, _, _, rfl, rfl, .inl ⟨by decide, by decide⟩, _, _, rfl, rfl, _, _, rfl, rfl, _, _, rfl, rfl, ⟨by decide, by decide, by omega⟩, .inl ⟨_, rfl, _, _, rfl, rfl, (by show (0 : Int) < _; decide), ?_⟩⟩⟩
            refine ⟨_, rfl, _, rfl, _, _, rfl, rfl, .inl ⟨by decide, by decide⟩, _, _, rfl, rfl, _, _, rfl, rfl, .inl ⟨by omega, by omega⟩, _, rfl, _, _, rfl, rfl, .inl ⟨by decide, by decide⟩, _, rfl, _, _, rfl, rfl, .inl (mul_bd a0 a2 ⟨by decide, by decide⟩), _, _, rfl, rfl, _, _, rfl, rfl, _, _, rfl, rfl, ⟨by decide, by decide, draw_bd (by omega) (by omega) a0 a2 ⟨by decide, by decide⟩ ⟨by decide, by decide⟩ ⟨by decide, by decide⟩⟩, .inl ⟨_, rfl, _, _, rfl, rfl, (by show (0 : Int) < _; decide), ?_⟩⟩
            refine ⟨_, rfl, _, _, rfl, rfl, ⟨by decide, by decide⟩, .inl ⟨_, rfl, _, rfl, _, _, rfl, rfl, (by show (0 : Int) < many; omega), ?_⟩⟩
            exact k _ _ (md _).1 (md _).2 k2 ⟨cells, at_ + 1, _, hp2, hl2, nlp, hcl, by omega, by omega⟩
        · refine ifN rfl ?_
          refine ⟨_, rfl, .inl ⟨_, rfl, _, _, rfl, rfl, (by show (0 : Int) < _; decide), _, rfl, _, _, rfl, rfl, .inl ⟨by decide, by decide⟩, _, _, rfl, rfl, _, _, rfl, rfl, _, _, rfl, rfl, ⟨by decide, by decide, by omega⟩, .inl ⟨_, rfl, _, _, rfl, rfl, (by show (0 : Int) < _; decide), ?_⟩⟩⟩
          refine ⟨_, rfl, _, rfl, _, _, rfl, rfl, .inl ⟨by decide, by decide⟩, _, _, rfl, rfl, _, _, rfl, rfl, .inl ⟨by omega, by omega⟩, _, rfl, _, _, rfl, rfl, .inl ⟨by decide, by decide⟩, _, rfl, _, _, rfl, rfl, .inl (mul_bd a0 a2 ⟨by decide, by decide⟩), _, _, rfl, rfl, _, _, rfl, rfl, _, _, rfl, rfl, ⟨by decide, by decide, draw_bd (by omega) (by omega) a0 a2 ⟨by decide, by decide⟩ ⟨by decide, by decide⟩ ⟨by decide, by decide⟩⟩, .inl ⟨_, rfl, _, _, rfl, rfl, (by show (0 : Int) < _; decide), ?_⟩⟩
          refine ⟨_, rfl, _, _, rfl, rfl, ⟨by decide, by decide⟩, .inl ⟨_, rfl, _, rfl, _, _, rfl, rfl, (by show (0 : Int) < many; omega), ?_⟩⟩
          exact k _ _ (md _).1 (md _).2 k2 ⟨cells, at_ + 1, _, hp2, hl2, nlp, hcl, by omega, by omega⟩
end
end K74
namespace K74
open PySem PySem.Spec PyProof.Rows L2 EM
theorem flat_rev (g : Int) (rows : List (List Int)) : ((rows.flatMap fun r => g :: r) ++ [g]).reverse = ((rows.reverse.map List.reverse).flatMap fun r => g :: r) ++ [g] := by
  induction rows with
  | nil => rfl
  | cons r q ih =>
    rw [List.flatMap_cons, List.append_assoc, List.reverse_append, ih, List.reverse_cons, List.reverse_cons, List.map_append, List.flatMap_append]
    simp
theorem lineW_rev (rows : List (List Int)) (g u : Int) : lineW (rows.reverse.map List.reverse) g u = (lineW rows g u).reverse := by
  have e : ∀ rows : List (List Int), lineW rows g u = u :: (((rows.flatMap fun r => g :: r) ++ [g]) ++ [u]) := fun rows => by
    unfold lineW
    simp
  rw [e, e, List.reverse_cons, List.reverse_append, flat_rev]
  simp
theorem nbars_app (a b : List (List Int)) : nbars (a ++ b) = nbars a + nbars b := by
  induction a with
  | nil => show nbars b = 0 + nbars b; omega
  | cons r q ih => show ((r.length : Int) / 2 + 1) + nbars (q ++ b) = ((r.length : Int) / 2 + 1) + nbars q + nbars b; rw [ih]; omega
theorem nbars_rev (rows : List (List Int)) : nbars (rows.reverse.map List.reverse) = nbars rows := by
  induction rows with
  | nil => rfl
  | cons r q ih =>
    rw [List.reverse_cons, List.map_append, nbars_app, ih]
    show nbars q + (((r.reverse.length : Int) / 2 + 1) + 0) = ((r.length : Int) / 2 + 1) + nbars q
    rw [List.length_reverse]
    omega
theorem MarkAt.lst {K : PySem.W.Frag} {H : Hp} {p D : Addr} {ws : List Int} {xs ys : List V} (h : MarkAt K H p ws) (hD : H D = some (.lst xs)) : MarkAt K (upd H D (.lst ys)) p ws := by
  obtain ⟨g, dx, wp, ep, sp, h1, h2, h3, h4⟩ := h
  refine ⟨g, dx, wp, ep, sp, ?_, ?_, ?_, ?_⟩
  · rw [upd_ne (ne_of h1 hD (by intro z; cases z))]; exact h1
  · rw [upd_ne (ne_of h2 hD (by intro z; cases z))]; exact h2
  · rw [upd_ne (ne_of h3 hD (by intro z; cases z))]; exact h3
  · rw [upd_ne (ne_of h4 hD (by intro z; cases z))]; exact h4
def spWidths : Sp := fun vs H Q _ => ∃ (a : Addr) (rs : List (Addr × List Int)) (g u : Int), vs = [.ref a, .int g, .int u] ∧ H a = some (.lst (refs rs)) ∧ (∀ r ∈ rs, H r.1 = some (.lst (r.2.map V.int)) ∧ good r.2) ∧ rs.length ≤ 100 ∧
  ∀ p H', Same H H' → H' p = some (.tup ((lineW (rs.map (·.2)) g u).map V.int)) → Q (.ref p) H'
theorem flat_small {g : Int} {rows : List (List Int)} {n : Nat} (h : ∀ r ∈ rows, good r) (hn : rows.length ≤ n) : ((rows.flatMap fun r => g :: r).length) ≤ 128 * n := by
  induction rows generalizing n with
  | nil => exact Nat.zero_le _
  | cons r q ih =>
    have hr := (h r List.mem_cons_self).2.2.1
    have := ih (n := n - 1) (fun x hx => h x (List.mem_cons_of_mem _ hx)) (by simp at hn; omega)
    rw [List.flatMap_cons, List.length_append, List.length_cons]
    simp at hn
    omega
section
variable {P : Program} {w : World} {K : PySem.W.Frag} {mg : Str → Option Value} {base : Heap}
theorem ok_Lwidths (T : Tx K mg) : FnR P w K mg base (L2.CX P w) 1 (He.ga K "_law_widths") (spWidths) := by
  obtain ⟨fd, F⟩ := T.d_Lwidths
  refine EM.fnr F sc_Lwidths (fun _ _ _ _ _ _ us hl => match us, hl with | [_, _, _], _ => rfl) (fun vs H Q E h => ?_) (fun cdv A outer s H vs Q E hr h => ?_)
  · obtain ⟨a, rs, g, u, rfl, _⟩ := h
    rfl
  · obtain ⟨a, rs, g, u, rfl, ha, hr1, hl, k⟩ := h
    have hg : ∀ r ∈ rs.map (·.2), good r := fun r hr => by
      obtain ⟨m, hm, rfl⟩ := List.mem_map.mp hr
      exact (hr1 m hm).2
    refine ⟨_, (PSs.nox (pss_cons (ps_set (i := 3) sc_Lwidths.nd rfl (Or.inl rfl) (pe_lst (pa_cons (pv 2) pa_nil)))
 (pss_cons (ps_for PassesOwn.never rfl (pi_list (pv 0)) (pg_name (i := 4) sc_Lwidths.nd rfl (Or.inl rfl))
  (pss_one (ps_set (i := 3) sc_Lwidths.nd rfl (Or.inl rfl) (pe_op op_cat (pe_op op_cat (pv 3) (pe_lst (pa_cons (pv 1) pa_nil))) (pv 4)))))
 (pss_one (ps_ret (pe_callTy call_tuple_of (by rfl) T.f_tuple (by decide +kernel) (pa_cons (pe_op op_cat (pv 3) (pe_lst (pa_cons (pv 1) (pa_cons (pv 2) pa_nil)))) pa_nil))))))), ?_⟩
    refine ⟨_, rfl, (by show 1 ≤ sizeLine; decide), fun f0 hf0 => ?_⟩
    have s0 : Same H (upd H f0 (.lst [.int u])) := same_upd hf0
    refine ⟨_, rfl, a, rfl, ⟨_, SqL.of (s0 _ _ ha)⟩, for_list (K := K) (a := a) (xs := refs rs) (fun i σ H2 => ∃ (v : Option V) (f : Addr), σ = [some (.ref a), some (.int g), some (.int u), some (.ref f), v] ∧ Same H H2 ∧ H2 f = some (.lst ((u :: (((rs.map (·.2)).take i).flatMap fun r => g :: r)).map V.int)))
      ⟨none, f0, rfl, s0, upd_same⟩ (fun i σ H2 _ ⟨_, _, _, s2, _⟩ => SqL.of (s2 _ _ ha)) ?_ ?_⟩
    · rintro i y σ H2 hi ⟨v, f, rfl, s2, h2⟩
      obtain ⟨m, hmi, rfl⟩ := ref_at hi
      have hm2 : (rs.map (·.2))[i]? = some m.2 := by rw [List.getElem?_map, hmi]; rfl
      have hmem := List.mem_of_getElem? hmi
      have hrow := s2 _ _ (hr1 m hmem).1
      have hgm := (hr1 m hmem).2
      have hsm := flat_small (g := g) (rows := (rs.map (·.2)).take i) (n := 100) (fun r hr => hg r (List.mem_of_mem_take hr)) (by rw [List.length_take, List.length_map]; omega)
      refine ⟨_, rfl, _, rfl, (by show 1 ≤ sizeLine; decide), fun l hl2 => ⟨f, l, _, _, rfl, rfl, (by rw [upd_ne (ne_of_none h2 hl2)]; exact h2), upd_same, ?_, fun f1 hf1 => ?_⟩⟩
      · simp only [List.length_cons, List.length_map, List.length_nil]
        exact sz (by omega)
      have s3 := same_upd' (o := .lst [V.int g]) s2 (s2.free hl2)
      have hrow3 := (same_upd (H := upd H2 l (.lst [V.int g])) (o := .lst (((u :: (((rs.map (·.2)).take i).flatMap fun r => g :: r)).map V.int) ++ [V.int g])) hf1) _ _ (same_upd (o := .lst [V.int g]) hl2 _ _ hrow)
      refine ⟨_, rfl, f1, m.1, _, _, rfl, rfl, upd_same, hrow3, ?_, fun f2 hf2 => ?_⟩
      · simp only [List.length_cons, List.length_map, List.length_nil, List.length_append]
        exact sz (by have := hgm.2.2.1; omega)
      have s4 := same_upd' (o := .lst (((u :: (((rs.map (·.2)).take i).flatMap fun r => g :: r)).map V.int) ++ [V.int g])) s3 (s3.free hf1)
      refine ⟨_, f2, rfl, same_upd' s4 (s4.free hf2), ?_⟩
      rw [upd_same, take_snoc hm2, List.flatMap_append]
      simp
    · rintro σ H2 ⟨v, f, rfl, s2, h2⟩
      rw [show (refs rs).length = rs.length from List.length_map .., List.take_of_length_le (by rw [List.length_map]; exact Nat.le_refl _)] at h2
      have hsm := flat_small (g := g) (rows := rs.map (·.2)) (n := 100) hg (by rw [List.length_map]; omega)
      refine ⟨_, rfl, _, rfl, _, rfl, (by show 2 ≤ sizeLine; decide), fun l hl2 => ⟨f, l, _, _, rfl, rfl, (by rw [upd_ne (ne_of_none h2 hl2)]; exact h2), upd_same, ?_, fun f1 hf1 => ⟨f1, _, rfl, .inl ⟨SqL.of upd_same, fun p hp => ?_⟩⟩⟩⟩
      · simp only [List.length_cons, List.length_map, List.length_nil]
        exact sz (by omega)
      have s3 := same_upd' (o := .lst [V.int g, V.int u]) s2 (s2.free hl2)
      have s4 := same_upd' (o := .lst ((u :: ((rs.map (·.2)).flatMap fun r => g :: r)).map V.int ++ [V.int g, V.int u])) s3 (s3.free hf1)
      refine k p _ (same_upd' s4 (s4.free hp)) ?_
      rw [upd_same]
      unfold lineW
      rw [List.map_append]
      rfl
end
end K74
namespace K74
open PySem PySem.Spec PyProof.Rows L2 EM
def spRight (K : PySem.W.Frag) : Sp := fun vs H Q _ => ∃ (a : Addr) (rs : List (Addr × List Int)) (g u : Int), vs = [.ref a, .int g, .int u] ∧ H a = some (.lst (refs rs)) ∧ (∀ r ∈ rs, H r.1 = some (.lst (r.2.map V.int)) ∧ good r.2) ∧ rs.length ≤ 100 ∧
  (1 ≤ g ∧ g ≤ 1000) ∧ (1 ≤ u ∧ u ≤ 1000) ∧ (1 ≤ nbars (rs.map (·.2)) ∧ nbars (rs.map (·.2)) ≤ 62) ∧ ∀ H', Same H H' → Q (.bl true) H'
theorem lay_rep (d : PyData) (h : d.canLay0 = true) : ∀ n, PyData.canLayAll0 (List.replicate n d) = true
  | 0 => rfl
  | n + 1 => by
    show (d.canLay0 && PyData.canLayAll0 (List.replicate n d)) = true
    rw [h, lay_rep d h n]
    rfl
theorem sh3 (L : List Int) : SeqAt.shaped (.list [dT L, dT L, dT L]) = true := by
  unfold SeqAt.shaped
  have h1 : (PyData.list [dT L, dT L, dT L]).canLay0 = true := by simp [PyData.canLay0, PyData.canLayAll0, lay_ints]
  have h2 : (PyData.list [dT L, dT L, dT L]).depth = 2 := by simp [PyData.depth, PyData.depthAll, dep_ints]
  rw [h1, h2]
  rfl
theorem eqv3 (L : List Int) : PyData.eqv (.list [dT L, dT L, dT L]) (.list [dT L, dT L, dT L]) = true := by
  simp [PyData.eqv, PyData.eqvAll, eqv_ints]
section
variable {P : Program} {w : World} {K : PySem.W.Frag} {mg : Str → Option Value} {base : Heap}
theorem ok_Lright (T : Tx K mg) : FnR P w K mg base (L2.CX P w) 7 (He.ga K "_law_right") (spRight K) := by
  obtain ⟨fd, F⟩ := T.d_Lright
  refine EM.fnr F sc_Lright (fun _ _ _ _ _ _ us hl => match us, hl with | [_, _, _], _ => rfl) (fun vs H Q E h => ?_) (fun cdv A outer s H vs Q E hr h => ?_)
  · obtain ⟨a, rs, g, u, rfl, _⟩ := h
    rfl
  · obtain ⟨a, rs, g, u, rfl, ha, hr1, hl, hg, hu, hb, k⟩ := h
    have hrl : (refs rs).length = rs.length := List.length_map ..
    refine ⟨_, (PSs.nox (pss_cons (ps_setLc (i := 3) (own := [("_law_row", 4)]) (g := gName 4) (te := ClX.tCMeth (He.ga K "Mark") (spOf K) E0 (tC (.ref (He.ga K "Mark"))) (tCons (tVar 4) tNil)) rfl sc_Lright.nd rfl rfl (sw_true rfl rfl rfl (by decide +kernel)) (pi_list (pv 0)) (blkOk_by (N := ["_law_rows", "_law_wide", "_law_thick", "_law_given", "_law_row", "_law_kept", "_law_due", "_law_made", "_law_found", "_law_back", "_law_one"]) (sc := defScope s_Lright) (by decide +kernel)) (fun _ _ _ _ _ => (pg_name (i := 4) sc_Lright.nd rfl (Or.inl rfl))) (fun _ _ _ _ _ => pts_nil) (fun _ _ _ _ _ => (ClX.pe_cmeth (pe_glob (v := .ref (He.ga K "Mark")) (by rfl) T.g_Mark rfl) T.cr_Mark T.cm_Mark_of (ok_Mark_of T) (hr.mono (by decide)) passL (pa_cons (pv 4) pa_nil))))
 (pss_cons (ps_par (by rfl) sc_Lright.nd (i := 5) (j := 6) rfl rfl (by decide) rfl rfl (pa_cons (pe_callTy call_list_of (by rfl) T.f_list (by decide +kernel) (pa_cons (pv 3) pa_nil)) (pa_cons (EM.pe_cR (ok_Lwidths T) (hr.mono (by decide)) T.k__law_widths T.g__law_widths passL (pa_cons (pv 0) (pa_cons (pv 1) (pa_cons (pv 2) pa_nil)))) pa_nil)) (by rfl))
 (pss_cons (ps_set (i := 7) sc_Lright.nd rfl (Or.inl rfl) (pe_lst (pa_cons (EM.pe_cR (ok_line3 T) (hr.mono (by decide)) T.k_line_of T.g_line_of passL (pa_cons (pv 3) (pa_cons (pv 1) (pa_cons (pv 2) pa_nil)))) (pa_cons (EM.pe_cR (ok_line3 T) (hr.mono (by decide)) T.k_line_of T.g_line_of passL (pa_cons (pe_callTy call_tuple_of (by rfl) T.f_tuple (by decide +kernel) (pa_cons (pv 3) pa_nil)) (pa_cons (pv 1) (pa_cons (pv 2) pa_nil)))) (pa_cons (EM.pe_cK (ok_lineGG T) (hr.mono (by decide)) T.k_line_of T.g_line_of passL (pa_cons (pv 3) pa_nil) (pk_cons (pv 2) (pk_cons (pv 1) pk_nil))) pa_nil)))))
 (pss_cons (ps_if (PW.pt (pw_or (pt_cmpR (op_neD hr.units) (pe_lc (own := [("_law_found", 8)]) (g := gName 8) (te := tFld K (tVar 8) "widths") rfl sc_Lright.nd (pi_list (pv 7)) (blkOk_by (N := ["_law_rows", "_law_wide", "_law_thick", "_law_given", "_law_row", "_law_kept", "_law_due", "_law_made", "_law_found", "_law_back", "_law_one"]) (sc := defScope s_Lright) (by decide +kernel)) (fun _ _ _ _ _ => (pg_name (i := 8) sc_Lright.nd rfl (Or.inl rfl))) (fun _ _ _ _ _ => pts_nil) (fun _ _ _ _ _ => (pe_fld (pv 8) rfl))) (pe_op op_rep (pe_lst (pa_cons (pv 6) pa_nil)) pe_int) (nomark _)) (pw_or1 (pt_cmpR (EM.op_neG EM.mon_same EM.eqG_same (hr.mono (by decide))) (pv 3) (pv 5) (nomark _)))))
  (pss_one (ps_ret pe_bl)) pss_nil)
 (pss_cons (ps_set (i := 9) sc_Lright.nd rfl (Or.inl rfl) (EM.pe_cR (ok_line3 T) (hr.mono (by decide)) T.k_line_of T.g_line_of passL (pa_cons (pe_lc (own := [("_law_one", 10)]) (g := gName 10) (te := tUn (EM.rUnO (He.ga K "Mark") (spInvert K) E0) (tVar 10)) rfl sc_Lright.nd (pi_list (pe_revL (pv 3))) (blkOk_by (N := ["_law_rows", "_law_wide", "_law_thick", "_law_given", "_law_row", "_law_kept", "_law_due", "_law_made", "_law_found", "_law_back", "_law_one"]) (sc := defScope s_Lright) (by decide +kernel)) (fun _ _ _ _ _ => (pg_name (i := 10) sc_Lright.nd rfl (Or.inl rfl))) (fun _ _ _ _ _ => pts_nil) (fun _ _ _ _ _ => (pe_un (EM.un_invO T.m_Mark_invert.at_ T.m_Mark_invert.fn (ok_Mark_invert T) (hr.mono (by decide)) passL) (pv 10)))) (pa_cons (pv 1) (pa_cons (pv 2) pa_nil)))))
 (pss_cons (ps_if (PW.pt (pw_or (pt_cmpR (EM.op_neO T.ne_Mark (EM.isiB_mro T.isi_Mark) T.m_Mark_eq.at_ T.m_Mark_eq.fn (ok_Mark_eq T) (hr.mono (by decide)) passL) (pv 9) (pe_un (EM.un_invO T.m_Mark_invert.at_ T.m_Mark_invert.fn (ok_Mark_invert T) (hr.mono (by decide)) passL) (pe_ix ix_list (pv 7) pe_int (fun _ _ => rfl))) (nomark _)) (pw_or1 (pt_cmpR (op_neD hr.units) (pe_fld (EM.pe_cR (ok_line1 T) (hr.mono (by decide)) T.k_line_of T.g_line_of passL (pa_cons (pv 3) pa_nil)) rfl) (EM.pe_cR (ok_Lwidths T) (hr.mono (by decide)) T.k__law_widths T.g__law_widths passL (pa_cons (pv 0) (pa_cons pe_int (pa_cons pe_int pa_nil)))) (nomark _)))))
  (pss_one (ps_ret pe_bl)) pss_nil)
 (pss_one (ps_ret (pe_cmpR (op_eqD hr.units) (pe_fld (EM.pe_cK0 (ok_lineMG T) (hr.mono (by decide)) T.k_line_of T.g_line_of passL (pk_cons (pv 3) (pk_cons (pv 1) pk_nil))) rfl) (EM.pe_cR (ok_Lwidths T) (hr.mono (by decide)) T.k__law_widths T.g__law_widths passL (pa_cons (pv 0) (pa_cons (pv 1) (pa_cons pe_int pa_nil)))) (nomark _))))))))))), ?_⟩
    -- given = [Mark.of(row) for row in rows]
    refine ⟨_, rfl, a, rfl, ⟨_, SqL.of ha⟩, fun Dg hDg => lc_it (walk_list (K := K) (a := a) (xs := refs rs))
      (fun i H2 => Same H H2 ∧ ∃ ms : List (Addr × List Int), ms.map (·.2) = (rs.map (·.2)).take i ∧ H2 Dg = some (.lst (refs ms)) ∧ ∀ m ∈ ms, MarkAt K H2 m.1 m.2) ⟨same_upd hDg, [], rfl, upd_same, fun m hm => absurd hm (by simp)⟩ (fun i H2 _ ⟨s2, _⟩ => SqL.of (s2 _ _ ha)) ?_ ?_⟩
    · rintro i y H2 H3 hi ⟨s2, ms, ems, hD, hms⟩ ⟨rfl, hy⟩
      obtain ⟨r, hri, rfl⟩ := ref_at hy
      obtain ⟨hrow, hgr⟩ := hr1 r (List.mem_of_getElem? hri)
      have hm2 : (rs.map (·.2))[i]? = some r.2 := by rw [List.getElem?_map, hri]; rfl
      have hlen : ms.length = i := by
        have := congrArg List.length ems
        rw [List.length_map, List.length_take, List.length_map] at this
        rw [hrl] at hi
        omega
      refine ⟨rfl, yes ⟨rfl, _, rfl, _, r.1, r.2, rfl, .inl (s2 _ _ hrow), hgr, fun p H' s' m' => ⟨refs ms, s' _ _ hD, ?_, same_upd' (fun b o e => s' _ _ (s2 _ _ e)) hDg, ms ++ [(p, r.2)], ?_, ?_, fun m hm => ?_⟩⟩⟩
      · rw [show (refs ms).length = ms.length from List.length_map ..]
        exact szl (by rw [hrl] at hi; omega)
      · rw [List.map_append, ems, take_snoc hm2]
        rfl
      · rw [upd_same]
        unfold refs
        rw [List.map_append]
        rfl
      · rcases List.mem_append.mp hm with hm | hm
        · exact ((hms m hm).same s').lst (s' _ _ hD)
        · rw [List.mem_singleton.mp hm]
          exact m'.lst (s' _ _ hD)
    rintro H2 ⟨s2, ms, ems, hD, hms⟩
    rw [hrl, List.take_of_length_le (by rw [List.length_map]; exact Nat.le_refl _)] at ems
    have hml : ms.length ≤ 100 := by
      have := congrArg List.length ems
      rw [List.length_map, List.length_map] at this
      omega
    have hbm : 1 ≤ nbars (ms.map (·.2)) ∧ nbars (ms.map (·.2)) ≤ 62 := by rw [ems]; exact hb
    -- kept, due = (list(given), _law_widths(rows, wide, thick))
    refine ⟨_, rfl, Dg, _, rfl, .inl (SqL.of hD), fun kp hkp => ?_⟩
    have s3 := same_upd (o := .lst (refs ms)) hkp
    refine ⟨_, rfl, _, rfl, _, rfl, a, rs, g, u, rfl, s3 _ _ (s2 _ _ ha), fun r hr => ⟨s3 _ _ (s2 _ _ (hr1 r hr).1), (hr1 r hr).2⟩, hl, fun du H4 s4 hdu => ⟨_, _, rfl, ?_⟩⟩
    have hkp4 := s4 _ _ (upd_same (H := H2) (a := kp) (o := .lst (refs ms)))
    have s24 : Same H2 H4 := fun b o e => s4 _ _ (s3 _ _ e)
    have hD4 := s24 _ _ hD
    have SH4 : Same H H4 := fun b o e => s24 _ _ (s2 _ _ e)
    rw [← ems] at hdu
    obtain ⟨L, eL⟩ : ∃ L, L = lineW (ms.map (·.2)) g u := ⟨_, rfl⟩
    -- made = [..]
    refine ⟨_, rfl, _, rfl, _, rfl, Dg, ms, g, u, rfl, .inl hD4, fun m hm => (hms m hm).same s24, hml, hg, hu, hbm, fun q1 H5 s5 m1 => ?_⟩
    have s25 : Same H2 H5 := s24.trans s5
    refine ⟨_, rfl, Dg, _, rfl, .inl ⟨SqL.of (s25 _ _ hD), fun tq htq => ?_⟩⟩
    have s2t : Same H2 _ := s25.trans (same_upd (o := .tup (refs ms)) htq)
    refine ⟨_, rfl, _, rfl, tq, ms, g, u, rfl, .inr upd_same, fun m hm => (hms m hm).same s2t, hml, hg, hu, hbm, fun q2 H6 s6 m2 => ?_⟩
    have s26 : Same H2 H6 := s2t.trans s6
    refine ⟨_, rfl, _, rfl, _, rfl, rfl, rfl, Dg, ms, g, u, rfl, .inl (s26 _ _ hD), fun m hm => (hms m hm).same s26, hml, hg, hu, hbm, fun q3 H7 s7 m3 => ⟨(by show 3 ≤ sizeLine; decide), fun mk hmk => ?_⟩⟩
    obtain ⟨H8, eH8⟩ : ∃ H8, H8 = upd H7 mk (.lst [V.ref q1, V.ref q2, V.ref q3]) := ⟨_, rfl⟩
    rw [← eH8]
    have s78 : Same H7 H8 := by rw [eH8]; exact same_upd hmk
    have hmk8 : H8 mk = some (.lst [V.ref q1, V.ref q2, V.ref q3]) := by rw [eH8]; exact upd_same
    clear eH8
    have s57 : Same H5 H7 := ((same_upd (o := .tup (refs ms)) htq).trans s6).trans s7
    have s28 : Same H2 H8 := (s26.trans s7).trans s78
    have s48 : Same H4 H8 := (s5.trans s57).trans s78
    have M1 := (m1.same s57).same s78
    have M2 := (m2.same s7).same s78
    have M3 := m3.same s78
    rw [← eL] at M1 M2 M3 hdu
    have hdu8 := s48 _ _ hdu
    have hkp8 := s48 _ _ hkp4
    have SH8 : Same H H8 := SH4.trans s48
    obtain ⟨hgL, dx1, wp1, ep1, sp1, a1, b1, _⟩ := id M1
    obtain ⟨_, dx2, wp2, ep2, sp2, a2, b2, _⟩ := id M2
    obtain ⟨_, dx3, wp3, ep3, sp3, a3, b3, _⟩ := id M3
    -- [found.widths for found in made] != [due] * 3
    refine ⟨_, rfl, mk, rfl, ⟨_, SqL.of hmk8⟩, fun Df hDf => lc_it (walk_list (K := K) (a := mk) (xs := [V.ref q1, V.ref q2, V.ref q3]))
      (fun i H9 => Same H8 H9 ∧ H9 Df = some (.lst ([V.ref wp1, V.ref wp2, V.ref wp3].take i))) ⟨same_upd hDf, upd_same⟩ (fun i H9 _ ⟨s9, _⟩ => SqL.of (s9 _ _ hmk8)) ?_ ?_⟩
    · rintro i y H9 H10 hi ⟨s9, h9⟩ ⟨rfl, hy⟩
      have hi3 : i = 0 ∨ i = 1 ∨ i = 2 := by
        have : i < 3 := hi
        omega
      rcases hi3 with rfl | rfl | rfl
      · cases hy
        exact ⟨rfl, yes ⟨_, rfl, q1, _, dx1, _, _, rfl, s9 _ _ a1, T.cl_Mark, T.na_Mark_widths, rfl, _, h9, (by show 0 < sizeLine; decide), same_upd' s9 hDf, by rw [upd_same]; rfl⟩⟩
      · cases hy
        exact ⟨rfl, yes ⟨_, rfl, q2, _, dx2, _, _, rfl, s9 _ _ a2, T.cl_Mark, T.na_Mark_widths, rfl, _, h9, (by show 1 < sizeLine; decide), same_upd' s9 hDf, by rw [upd_same]; rfl⟩⟩
      · cases hy
        exact ⟨rfl, yes ⟨_, rfl, q3, _, dx3, _, _, rfl, s9 _ _ a3, T.cl_Mark, T.na_Mark_widths, rfl, _, h9, (by show 2 < sizeLine; decide), same_upd' s9 hDf, by rw [upd_same]; rfl⟩⟩
    rintro H9 ⟨s9, h9⟩
    have h9' : H9 Df = some (.lst [V.ref wp1, V.ref wp2, V.ref wp3]) := h9
    refine ⟨_, rfl, (by show 1 ≤ sizeLine; decide), fun l1 hl1 => ⟨l1, 3, _, rfl, rfl, upd_same, by decide, by decide, (by show 1 * 3 ≤ sizeLine; decide), fun l2 hl2 => ?_⟩⟩
    obtain ⟨H10, eH10⟩ : ∃ H10, H10 = upd (upd H9 l1 (.lst [V.ref du])) l2 (.lst [V.ref du, V.ref du, V.ref du]) := ⟨_, rfl⟩
    have s910 : Same H9 H10 := by rw [eH10]; exact (same_upd hl1).trans (same_upd hl2)
    have hl210 : H10 l2 = some (.lst [V.ref du, V.ref du, V.ref du]) := by rw [eH10]; exact upd_same
    show rNeD _ _ _ (upd (upd H9 l1 (.lst [V.ref du])) l2 (.lst [V.ref du, V.ref du, V.ref du])) _
    rw [← eH10]
    clear eH10
    have s810 := s9.trans s910
    refine ⟨.list [dT L, dT L, dT L], .list [dT L, dT L, dT L], .lst (SqL.of (s910 _ _ h9')) (.cons (.tup (SqT.of (s810 _ _ b1)) (dp_ints L)) (.cons (.tup (SqT.of (s810 _ _ b2)) (dp_ints L)) (.cons (.tup (SqT.of (s810 _ _ b3)) (dp_ints L)) .nil))),
      .lst (SqL.of hl210) (.cons (.tup (SqT.of (s810 _ _ hdu8)) (dp_ints L)) (.cons (.tup (SqT.of (s810 _ _ hdu8)) (dp_ints L)) (.cons (.tup (SqT.of (s810 _ _ hdu8)) (dp_ints L)) .nil))), sh3 L, sh3 L, _, rfl, ifN (by rw [eqv3]; rfl) ?_⟩
    -- given != kept
    have s210 : Same H2 H10 := s28.trans s810
    refine ⟨_, rfl, _, rfl, ⟨Dg, kp, refs ms, refs ms, rfl, rfl, s210 _ _ hD, s810 _ _ hkp8, ⟨rfl, fun i x y hx hy => ?_⟩⟩, fun H11 e11 => ⟨_, rfl, ifN rfl ?_⟩⟩
    · obtain ⟨m, _, rfl⟩ := ref_at hx
      rw [hx] at hy
      exact ⟨m.1, rfl, (Option.some.inj hy).symm⟩
    have s211 : Same H2 H11 := s210.trans e11
    -- back = line_of([~one for one in given[::-1]], wide, thick)
    refine ⟨_, rfl, Dg, _, rfl, SqL.of (s211 _ _ hD), fun rv hrv => ?_⟩
    have er : (refs ms).reverse = refs ms.reverse := (List.map_reverse ..).symm
    rw [er]
    obtain ⟨H12, eH12⟩ : ∃ H12, H12 = upd H11 rv (.lst (refs ms.reverse)) := ⟨_, rfl⟩
    rw [← eH12]
    have s1112 : Same H11 H12 := by rw [eH12]; exact same_upd hrv
    have hrv12 : H12 rv = some (.lst (refs ms.reverse)) := by rw [eH12]; exact upd_same
    clear eH12
    have s212 : Same H2 H12 := s211.trans s1112
    have rrl : (refs ms.reverse).length = ms.length := by rw [show (refs ms.reverse).length = ms.reverse.length from List.length_map .., List.length_reverse]
    refine ⟨rv, rfl, ⟨_, SqL.of hrv12⟩, fun Db hDb => lc_it (walk_list (K := K) (a := rv) (xs := refs ms.reverse))
      (fun i H13 => Same H12 H13 ∧ ∃ bs : List (Addr × List Int), bs.map (·.2) = (ms.reverse.map fun m => m.2.reverse).take i ∧ H13 Db = some (.lst (refs bs)) ∧ ∀ m ∈ bs, MarkAt K H13 m.1 m.2) ⟨same_upd hDb, [], rfl, upd_same, fun m hm => absurd hm (by simp)⟩ (fun i H13 _ ⟨s13, _⟩ => SqL.of (s13 _ _ hrv12)) ?_ ?_⟩
    · rintro i y H13 H14 hi ⟨s13, bs, ebs, hDb13, hbs⟩ ⟨rfl, hy⟩
      obtain ⟨m, hmi, rfl⟩ := ref_at hy
      have hmm : m ∈ ms := List.mem_reverse.mp (List.mem_of_getElem? hmi)
      have MM := (hms m hmm).same (s212.trans s13)
      obtain ⟨_, dxm, _, _, _, am, _⟩ := id MM
      have hm2 : (ms.reverse.map fun m => m.2.reverse)[i]? = some m.2.reverse := by rw [List.getElem?_map, hmi]; rfl
      have hlen : bs.length = i := by
        have := congrArg List.length ebs
        rw [List.length_map, List.length_take, List.length_map, List.length_reverse] at this
        rw [rrl] at hi
        omega
      refine ⟨rfl, yes ⟨_, rfl, m.1, dxm, _, rfl, am, m.1, m.2, rfl, MM, fun q H15 s15 m15 => ⟨refs bs, s15 _ _ hDb13, ?_, same_upd' (s13.trans s15) hDb, bs ++ [(q, m.2.reverse)], ?_, ?_, fun z hz => ?_⟩⟩⟩
      · rw [show (refs bs).length = bs.length from List.length_map ..]
        exact szl (by rw [rrl] at hi; omega)
      · rw [List.map_append, ebs, take_snoc hm2]
        rfl
      · rw [upd_same]
        unfold refs
        rw [List.map_append]
        rfl
      · rcases List.mem_append.mp hz with hz | hz
        · exact ((hbs z hz).same s15).lst (s15 _ _ hDb13)
        · rw [List.mem_singleton.mp hz]
          exact m15.lst (s15 _ _ hDb13)
    rintro H13 ⟨s13, bs, ebs, hDb13, hbs⟩
    rw [rrl, List.take_of_length_le (by rw [List.length_map, List.length_reverse]; exact Nat.le_refl _)] at ebs
    have ebs2 : bs.map (·.2) = (ms.map (·.2)).reverse.map List.reverse := by rw [ebs, ← List.map_reverse, List.map_map]; rfl
    have hbl : bs.length ≤ 100 := by
      have := congrArg List.length ebs
      rw [List.length_map, List.length_map, List.length_reverse] at this
      omega
    have s213 : Same H2 H13 := s212.trans s13
    refine ⟨_, rfl, _, rfl, Db, bs, g, u, rfl, .inl hDb13, hbs, hbl, hg, hu, (by rw [ebs2, nbars_rev]; exact hbm), fun qb H14 s14 mb => ?_⟩
    rw [ebs2, lineW_rev, ← eL] at mb
    have s1114 : Same H11 H14 := (s1112.trans s13).trans s14
    have s814 : Same H8 H14 := (s810.trans e11).trans s1114
    have s214 : Same H2 H14 := s28.trans s814
    -- back != ~made[0]
    refine ⟨_, rfl, _, rfl, mk, _, 0, .ref q1, rfl, rfl, SqL.of (s814 _ _ hmk8), rfl, q1, dx1, _, rfl, s814 _ _ a1, q1, L, rfl, M1.same s814, fun qi H15 s15 mi => ?_⟩
    have mb15 := mb.same s15
    obtain ⟨_, dxb, _, _, _, ab, _⟩ := id mb15
    obtain ⟨_, dxi, _, _, _, ai, _⟩ := id mi
    refine ⟨qb, dxb, _, qi, dxi, _, rfl, rfl, ab, ai, qb, qi, L.reverse, L.reverse, rfl, mb15, mi, _, rfl, _, rfl, ifN (by rw [decide_eq_true rfl]; rfl) ?_⟩
    have s215 : Same H2 H15 := s214.trans s15
    have SH15 : Same H H15 := s2.trans s215
    have h1 : (1 : Int) ≤ 1 ∧ (1 : Int) ≤ 1000 := ⟨by decide, by decide⟩
    -- line_of(given).widths != _law_widths(rows, 1, 1)
    refine ⟨_, rfl, Dg, ms, 1, 1, rfl, .inl (s215 _ _ hD), fun m hm => (hms m hm).same s215, hml, h1, h1, hbm, fun q4 H16 s16 m4 => ?_⟩
    obtain ⟨_, dx4, wp4, ep4, sp4, a4, b4, _⟩ := id m4
    have SH16 : Same H H16 := SH15.trans s16
    refine ⟨q4, _, dx4, _, _, rfl, a4, T.cl_Mark, T.na_Mark_widths, rfl, _, rfl, a, rs, 1, 1, rfl, SH16 _ _ ha, fun r hr => ⟨SH16 _ _ (hr1 r hr).1, (hr1 r hr).2⟩, hl, fun d1 H17 s17 hd1 => ?_⟩
    rw [← ems] at hd1
    refine ⟨dT (lineW (ms.map (·.2)) 1 1), dT (lineW (ms.map (·.2)) 1 1), .tup (SqT.of (s17 _ _ b4)) (dp_ints _), .tup (SqT.of hd1) (dp_ints _), shT _, shT _, _, rfl, ifN (by rw [eqvT, decide_eq_true rfl]; rfl) ?_⟩
    have s217 : Same H2 H17 := (s215.trans s16).trans s17
    -- line_of(marks=given, gap=wide).widths == _law_widths(rows, wide, 1)
    refine ⟨_, rfl, _, rfl, rfl, rfl, Dg, ms, g, 1, rfl, .inl (s217 _ _ hD), fun m hm => (hms m hm).same s217, hml, hg, h1, hbm, fun q5 H18 s18 m5 => ?_⟩
    obtain ⟨_, dx5, wp5, ep5, sp5, a5, b5, _⟩ := id m5
    have SH18 : Same H H18 := (SH16.trans s17).trans s18
    refine ⟨q5, _, dx5, _, _, rfl, a5, T.cl_Mark, T.na_Mark_widths, rfl, _, rfl, _, rfl, a, rs, g, 1, rfl, SH18 _ _ ha, fun r hr => ⟨SH18 _ _ (hr1 r hr).1, (hr1 r hr).2⟩, hl, fun d2 H19 s19 hd2 => ?_⟩
    rw [← ems] at hd2
    refine ⟨dT (lineW (ms.map (·.2)) g 1), dT (lineW (ms.map (·.2)) g 1), .tup (SqT.of (s19 _ _ b5)) (dp_ints _), .tup (SqT.of hd2) (dp_ints _), shT _, shT _, ?_⟩
    rw [eqvT, decide_eq_true rfl]
    exact k H19 (SH18.trans s19)
end
end K74
namespace K74
open PySem PySem.Spec PyProof.Rows L2 EM
def Keep (p : Addr) (H H' : Hp) : Prop := ∀ b o, H b = some o → b ≠ p → H' b = some o
theorem Keep.refl {p : Addr} {H : Hp} : Keep p H H := fun _ _ e _ => e
theorem Keep.trans {p : Addr} {H H1 H2 : Hp} (a : Keep p H H1) (b : Keep p H1 H2) : Keep p H H2 := fun c o e n => b c o (a c o e n) n
theorem Keep.of {p : Addr} {H H1 : Hp} (a : Same H H1) : Keep p H H1 := fun c o e _ => a c o e
theorem Keep.mut {p : Addr} {H H1 : Hp} {D : Addr} {o : HO} (a : Keep p H H1) (h : H D = none) : Keep p H (upd H1 D o) := fun c u e n => by
  rw [upd_ne (ne_of_none e h)]
  exact a c u e n
theorem Pen.mono {H : Hp} {p l : Addr} {n m : Nat} (h : Pen H p l n) (e : n ≤ m) : Pen H p l m := by
  obtain ⟨c, a, r, h1, h2, h3, h4, h5, h6⟩ := h
  exact ⟨c, a, r, h1, h2, h3, h4, h5, by omega⟩
theorem Pen.same {H H' : Hp} {p l : Addr} {n : Nat} (h : Pen H p l n) (e : Same H H') : Pen H' p l n := by
  obtain ⟨c, a, r, h1, h2, h3, h4, h5, h6⟩ := h
  exact ⟨c, a, r, e _ _ h1, e _ _ h2, h3, h4, h5, h6⟩
theorem Pen.mut {H : Hp} {p l D : Addr} {o : HO} {n : Nat} (h : Pen H p l n) (n1 : D ≠ p) (n2 : D ≠ l) : Pen (upd H D o) p l n := by
  obtain ⟨c, a, r, h1, h2, h3, h4, h5, h6⟩ := h
  exact ⟨c, a, r, by rw [upd_ne n1.symm]; exact h1, by rw [upd_ne n2.symm]; exact h2, h3, h4, h5, h6⟩
theorem Pen.ne {H : Hp} {p l D : Addr} {n : Nat} (h : Pen H p l n) (hD : H D = none) : D ≠ p ∧ D ≠ l := by
  obtain ⟨c, a, r, h1, h2, _⟩ := h
  exact ⟨(ne_of_none h1 hD).symm, (ne_of_none h2 hD).symm⟩
theorem pick {xs : List V} {d : Int} (h0 : 0 ≤ d) (h1 : d < xs.length) : ∃ v, atI xs d = some v ∧ v ∈ xs := by
  have h : d.toNat < xs.length := by omega
  exact ⟨xs[d.toNat], at_of (j := d.toNat) (by omega) (List.getElem?_eq_getElem h), List.getElem_mem h⟩
theorem nbars_bd : ∀ (rows : List (List Int)), (∀ r ∈ rows, r.length ≤ 7) → (rows.length : Int) ≤ nbars rows ∧ nbars rows ≤ 4 * rows.length
  | [], _ => ⟨Int.le_refl _, Int.le_refl _⟩
  | r :: q, h => by
    have ih := nbars_bd q fun x hx => h x (List.mem_cons_of_mem _ hx)
    have hr := h r List.mem_cons_self
    have hr := h r List.mem_cons_self
    show ((q.length + 1 : Nat) : Int) ≤ ((r.length : Int) / 2 + 1) + nbars q ∧ ((r.length : Int) / 2 + 1) + nbars q ≤ 4 * ((q.length + 1 : Nat) : Int)
    omega
theorem nbars_rep (n : Nat) (r : List Int) : nbars (List.replicate n r) = n * ((r.length : Int) / 2 + 1) := by
  induction n with
  | zero => simp [nbars]
  | succ n ih =>
    show ((r.length : Int) / 2 + 1) + nbars (List.replicate n r) = _
    rw [ih, Int.natCast_succ, Int.add_mul]
    omega
def spLaw (K : PySem.W.Frag) : Sp := fun vs H Q _ => ∃ (a : Addr) (ns : List Int), vs = [.ref a] ∧ SqL K H a (ns.map V.int) ∧ ns.length ≤ 63 ∧ ∀ H', Q (.bl true) H'
theorem len_law {K : PySem.W.Frag} : ∀ vs H Q E, spLaw K vs H Q E → vs.length = ["_law_script"].length := by
  intro vs H Q E h
  obtain ⟨a, ns, rfl, _⟩ := h
  rfl
section
variable {P : Program} {w : World} {K : PySem.W.Frag} {mg : Str → Option Value} {base : Heap}
theorem bod_law (T : Tx K mg) : Bod P w K mg base ["_law_script", "_law_pen_here", "_law_turn", "_law_sizes", "_law_k", "_law_most", "_law_rows", "_law_size", "_law_wide", "_law_thick", "_law_many", "_law_great"] "law" (defScope s_law) (He.ga K "law") (defBody s_law) 7 (spLaw K) := by
  intro cdv A outer s H vs Q E hr h
  obtain ⟨a, ns, rfl, hS, hl, k⟩ := h
  refine ⟨_, (PSs.nox (pss_cons (ps_set (i := 1) sc_law.nd rfl (Or.inr rfl) (EM.pe_cR (ok_Lpen T) (hr.mono (by decide)) T.k__law_pen T.g__law_pen passL (pa_cons (pv 0) pa_nil)))
 (pss_cons (ps_for PassesOwn.never rfl (pi_range1 (by rfl) T.f_range (pa_cons pe_int pa_nil)) (pg_name (i := 2) sc_law.nd rfl (Or.inl rfl))
  (pss_cons (ps_setLc (i := 3) (own := [("_law_k", 4)]) (g := gName 4) (te := tOp (rI0 fun i j => .int (i + j)) (tC (.int 3)) (tOp (rI CMul fun i j => .int (i * j)) (tC (.int 2)) (tCR spDraw E0 (tCons (tVar 1) (tCons (tC (.int 3)) tNil))))) rfl sc_law.nd rfl rfl (sw_true rfl rfl rfl (by decide +kernel)) (pi_range1 (by rfl) T.f_range (pa_cons (pe_op op_add pe_int (EM.pe_cR (ok_Ldraw T) (hr.mono (by decide)) T.k__law_draw T.g__law_draw passL (pa_cons (pv 1) (pa_cons pe_int pa_nil)))) pa_nil)) (blkOk_by (N := ["_law_script", "_law_pen_here", "_law_turn", "_law_sizes", "_law_k", "_law_most", "_law_rows", "_law_size", "_law_wide", "_law_thick", "_law_many", "_law_great"]) (sc := defScope s_law) (by decide +kernel)) (fun _ _ _ _ _ => (pg_name (i := 4) sc_law.nd rfl (Or.inl rfl))) (fun _ _ _ _ _ => pts_nil) (fun _ _ _ _ _ => (pe_op op_add pe_int (pe_op op_mul pe_int (EM.pe_cR (ok_Ldraw T) (hr.mono (by decide)) T.k__law_draw T.g__law_draw passL (pa_cons (pv 1) (pa_cons pe_int pa_nil)))))))
 (pss_cons (ps_set (i := 5) sc_law.nd rfl (Or.inr rfl) (pe_ix ix_list (pe_lst (pa_cons pe_int (pa_cons pe_int (pa_cons pe_int pa_nil)))) (EM.pe_cR (ok_Ldraw T) (hr.mono (by decide)) T.k__law_draw T.g__law_draw passL (pa_cons (pv 1) (pa_cons pe_int pa_nil))) (fun _ _ => rfl)))
 (pss_cons (ps_setLc (i := 6) (own := [("_law_size", 7)]) (g := gName 7) (te := tLc (iRng1 (tCons (tVar 7) tNil)) (gName 4) tYes (tOp (rI0 fun i j => .int (i + j)) (tC (.int 1)) (tCR spDraw E0 (tCons (tVar 1) (tCons (tVar 5) tNil)))) [4]) rfl sc_law.nd rfl rfl (sw_true rfl rfl rfl (by decide +kernel)) (pi_list (pv 3)) (blkOk_by (N := ["_law_script", "_law_pen_here", "_law_turn", "_law_sizes", "_law_k", "_law_most", "_law_rows", "_law_size", "_law_wide", "_law_thick", "_law_many", "_law_great"]) (sc := defScope s_law) (by decide +kernel)) (fun _ _ _ _ _ => (pg_name (i := 7) sc_law.nd rfl (Or.inl rfl))) (fun _ _ _ _ _ => pts_nil) (fun _ _ _ _ _ => (pe_lc (own := [("_law_k", 4)]) (g := gName 4) (te := tOp (rI0 fun i j => .int (i + j)) (tC (.int 1)) (tCR spDraw E0 (tCons (tVar 1) (tCons (tVar 5) tNil)))) rfl sc_law.nd (pi_range1 (by rfl) T.f_range (pa_cons (pv 7) pa_nil)) (blkOk_by (N := ["_law_script", "_law_pen_here", "_law_turn", "_law_sizes", "_law_k", "_law_most", "_law_rows", "_law_size", "_law_wide", "_law_thick", "_law_many", "_law_great"]) (by kernel_rfl)) (fun _ _ _ _ _ => (pg_name (i := 4) sc_law.nd rfl (Or.inl rfl))) (fun _ _ _ _ _ => pts_nil) (fun _ _ _ _ _ => (pe_op op_add pe_int (EM.pe_cR (ok_Ldraw T) (hr.mono (by decide)) T.k__law_draw T.g__law_draw passL (pa_cons (pv 1) (pa_cons (pv 5) pa_nil))))))))
 (pss_cons (ps_set (i := 8) sc_law.nd rfl (Or.inl rfl) (pe_ix ix_list (pe_lst (pa_cons pe_int (pa_cons pe_int (pa_cons (pe_op op_add pe_int (EM.pe_cR (ok_Ldraw T) (hr.mono (by decide)) T.k__law_draw T.g__law_draw passL (pa_cons (pv 1) (pa_cons pe_int pa_nil)))) (pa_cons pe_int pa_nil))))) (EM.pe_cR (ok_Ldraw T) (hr.mono (by decide)) T.k__law_draw T.g__law_draw passL (pa_cons (pv 1) (pa_cons pe_int pa_nil))) (fun _ _ => rfl)))
 (pss_cons (ps_set (i := 9) sc_law.nd rfl (Or.inl rfl) (pe_ix ix_list (pe_lst (pa_cons pe_int (pa_cons pe_int (pa_cons (pe_op op_add pe_int (EM.pe_cR (ok_Ldraw T) (hr.mono (by decide)) T.k__law_draw T.g__law_draw passL (pa_cons (pv 1) (pa_cons pe_int pa_nil)))) (pa_cons pe_int pa_nil))))) (EM.pe_cR (ok_Ldraw T) (hr.mono (by decide)) T.k__law_draw T.g__law_draw passL (pa_cons (pv 1) (pa_cons pe_int pa_nil))) (fun _ _ => rfl)))
 (pss_one (ps_if (pt_not (pt_val (EM.pe_cR (ok_Lright T) (hr.mono (by decide)) T.k__law_right T.g__law_right passL (pa_cons (pv 6) (pa_cons (pv 8) (pa_cons (pv 9) pa_nil))))))
  (pss_one (ps_ret pe_bl)) pss_nil))))))))
 (pss_cons (ps_set (i := 10) sc_law.nd rfl (Or.inl rfl) (pe_op op_rep (pe_lst (pa_cons (pe_lst (pa_cons pe_int (pa_cons (pe_op op_add pe_int (EM.pe_cR (ok_Ldraw T) (hr.mono (by decide)) T.k__law_draw T.g__law_draw passL (pa_cons (pv 1) (pa_cons pe_int pa_nil)))) (pa_cons pe_int pa_nil)))) pa_nil)) pe_int))
 (pss_cons (ps_setLc (i := 11) (own := [("_law_k", 4)]) (g := gName 4) (te := tOp (rI0 fun i j => .int (i + j)) (tC (.int 1)) (tCR spDraw E0 (tCons (tVar 1) (tCons (tC (.int 9)) tNil)))) rfl sc_law.nd rfl rfl (sw_true rfl rfl rfl (by decide +kernel)) (pi_range1 (by rfl) T.f_range (pa_cons pe_int pa_nil)) (blkOk_by (N := ["_law_script", "_law_pen_here", "_law_turn", "_law_sizes", "_law_k", "_law_most", "_law_rows", "_law_size", "_law_wide", "_law_thick", "_law_many", "_law_great"]) (sc := defScope s_law) (by decide +kernel)) (fun _ _ _ _ _ => (pg_name (i := 4) sc_law.nd rfl (Or.inl rfl))) (fun _ _ _ _ _ => pts_nil) (fun _ _ _ _ _ => (pe_op op_add pe_int (EM.pe_cR (ok_Ldraw T) (hr.mono (by decide)) T.k__law_draw T.g__law_draw passL (pa_cons (pv 1) (pa_cons pe_int pa_nil))))))
 (pss_one (ps_ret (pe_and (EM.pe_cR (ok_Lright T) (hr.mono (by decide)) T.k__law_right T.g__law_right passL (pa_cons (pv 10) (pa_cons pe_int (pa_cons pe_int pa_nil)))) (pe_and (EM.pe_cR (ok_Lright T) (hr.mono (by decide)) T.k__law_right T.g__law_right passL (pa_cons (pe_lst (pa_cons (pv 11) pa_nil)) (pa_cons pe_int (pa_cons pe_int pa_nil)))) (pe_one (pe_cmpR op_eq (pe_fld (EM.pe_cR (ok_line1 T) (hr.mono (by decide)) T.k_line_of T.g_line_of passL (pa_cons (pe_lst (pa_cons (ClX.pe_cmeth (pe_glob (v := .ref (He.ga K "Mark")) (by rfl) T.g_Mark rfl) T.cr_Mark T.cm_Mark_of (ok_Mark_of T) (hr.mono (by decide)) passL (pa_cons (pv 11) pa_nil)) pa_nil)) pa_nil)) rfl) pe_int (nomark _)))))))))))), ?_⟩
  refine ⟨_, rfl, a, ns, rfl, hS, hl, fun p l H1 s1 np P1 => ?_⟩
  -- for turn in range(5)
  refine ⟨5, rfl, by decide, by decide, for_range (n := 5) (fun i σ H2 => ∃ v2 v3 v5 v6 v8 v9 : Option V, σ = [some (.ref a), some (.ref p), v2, v3, none, v5, v6, none, v8, v9, none, none] ∧ Pen H2 p l (100 * i)) ⟨none, none, none, none, none, none, rfl, P1⟩ ?_ ?_⟩
  · rintro i σ H2 hi ⟨v2, v3, v5, v6, v8, v9, rfl, P2⟩
    -- sizes = [3 + 2 * draw(pen, 3) for k in range(1 + draw(pen, 5))]
    refine ⟨_, rfl, p, l, 100 * i, 5, rfl, P2, by omega, by decide, by decide, fun d H3 d0 d1 k3 P3 => ⟨_, _, rfl, rfl, _, rfl, by omega, by omega, fun Ds hDs => lc_it walk_range
      (fun j H4 => Pen H4 p l (100 * i + 1 + j) ∧ ∃ sz : List Int, sz.length = j ∧ H4 Ds = some (.lst (sz.map V.int)) ∧ ∀ x ∈ sz, x = 3 ∨ x = 5 ∨ x = 7) ?_ (fun _ _ _ _ => trivial) ?_ ?_⟩⟩
    · obtain ⟨n1, n2⟩ := P3.ne hDs
      exact ⟨P3.mut n1 n2, [], rfl, upd_same, fun x hx => absurd hx (by simp)⟩
    · rintro j y H4 H5 hj ⟨P4, sz, hszl, hsz, hsa⟩ ⟨rfl, rfl⟩
      obtain ⟨n1, n2⟩ := P3.ne hDs
      refine ⟨rfl, yes ⟨_, rfl, p, l, _, 3, rfl, P4, by omega, by decide, by decide, fun e H6 e0 e1 k6 P6 => ⟨_, _, rfl, rfl, .inl ⟨by decide, by decide⟩, _, _, rfl, rfl, _, k6 _ _ hsz n1, ?_, P6.mut n1 n2, sz ++ [3 + 2 * e], ?_, ?_, fun x hx => ?_⟩⟩⟩
      · rw [List.length_map]; exact szl (by omega)
      · rw [List.length_append, hszl]; rfl
      · rw [upd_same, List.map_append]; rfl
      · rcases List.mem_append.mp hx with hx | hx
        · exact hsa x hx
        · rw [List.mem_singleton.mp hx]; omega
    rintro H4 ⟨P4, sz, hszl, hsz, hsa⟩
    have hsz5 : 1 ≤ sz.length ∧ sz.length ≤ 5 := by omega
    replace P4 := P4.mono (m := 100 * i + 10) (by omega)
    -- most = [1, 3, 1000][draw(pen, 3)]
    refine ⟨(by show 3 ≤ sizeLine; decide), fun l1 hl1 => ?_⟩
    have P4' := P4.same (same_upd (o := .lst [V.int 1, V.int 3, V.int 1000]) hl1)
    refine ⟨_, rfl, p, l, _, 3, rfl, P4', by omega, by decide, by decide, fun d2 H5 d20 d21 k5 P5 => ?_⟩
    have nl1 := P4.ne hl1
    have hl15 := k5 _ _ (upd_same (H := H4) (a := l1) (o := .lst [V.int 1, V.int 3, V.int 1000])) nl1.1
    obtain ⟨vm, hvm, hmem⟩ := pick (xs := [V.int 1, V.int 3, V.int 1000]) d20 d21
    obtain ⟨most, rfl, hm1⟩ : ∃ m : Int, vm = .int m ∧ (1 ≤ m ∧ m ≤ 1000) := by
      simp only [List.mem_cons, List.not_mem_nil, or_false] at hmem
      rcases hmem with rfl | rfl | rfl
      · exact ⟨1, rfl, by decide, by decide⟩
      · exact ⟨3, rfl, by decide, by decide⟩
      · exact ⟨1000, rfl, by decide, by decide⟩
    refine ⟨l1, _, _, _, rfl, rfl, SqL.of hl15, hvm, ?_⟩
    have nDs : Ds ≠ p := (P3.ne hDs).1
    have hsz5' : H5 Ds = some (.lst (sz.map V.int)) := k5 _ _ (same_upd (o := .lst [V.int 1, V.int 3, V.int 1000]) hl1 _ _ hsz) nDs
    -- rows = [[1 + draw(pen, most) for k in range(size)] for size in sizes]
    refine ⟨_, rfl, Ds, rfl, ⟨_, SqL.of hsz5'⟩, fun Dr hDr => lc_it (walk_list (K := K) (a := Ds) (xs := sz.map V.int))
      (fun j H6 => Keep p H5 H6 ∧ Pen H6 p l (100 * i + 11 + 7 * j) ∧ ∃ rs : List (Addr × List Int), rs.length = j ∧ H6 Dr = some (.lst (refs rs)) ∧ ∀ r ∈ rs, (H6 r.1 = some (.lst (r.2.map V.int)) ∧ r.1 ≠ p ∧ r.1 ≠ Dr) ∧ good r.2 ∧ r.2.length ≤ 7) ?_ (fun j H6 _ ⟨k6, _⟩ => SqL.of (k6 _ _ hsz5' nDs)) ?_ ?_⟩
    · obtain ⟨n1, n2⟩ := P5.ne hDr
      exact ⟨Keep.refl.mut hDr, P5.mut n1 n2, [], rfl, upd_same, fun x hx => absurd hx (by simp)⟩
    · rintro j y H6 H7 hj ⟨k6, P6, rs, hrl, hDr6, hrs⟩ ⟨rfl, hy⟩
      obtain ⟨size, hsi, rfl⟩ := map_at hy
      have hs3 := hsa size (List.mem_of_getElem? hsi)
      have hj5 : j < 5 := by rw [List.length_map] at hj; omega
      obtain ⟨n1, n2⟩ := P5.ne hDr
      refine ⟨rfl, yes ⟨_, rfl, size, rfl, by omega, by omega, fun Di hDi => lc_it walk_range
        (fun q H8 => Keep p H7 H8 ∧ Pen H8 p l (100 * i + 11 + 7 * j + q) ∧ ∃ ws : List Int, ws.length = q ∧ H8 Di = some (.lst (ws.map V.int)) ∧ ∀ x ∈ ws, 1 ≤ x ∧ x ≤ 1000) ?_ (fun _ _ _ _ => trivial) ?_ ?_⟩⟩
      · obtain ⟨n3, n4⟩ := P6.ne hDi
        exact ⟨Keep.refl.mut hDi, P6.mut n3 n4, [], rfl, upd_same, fun x hx => absurd hx (by simp)⟩
      · rintro q z H8 H9 hq ⟨k8, P8, ws, hwl, hDi8, hws⟩ ⟨rfl, rfl⟩
        obtain ⟨n3, n4⟩ := P6.ne hDi
        refine ⟨rfl, yes ⟨_, rfl, _, rfl, p, l, _, most, rfl, P8, by omega, by omega, by omega, fun e H10 e0 e1 k10 P10 => ⟨_, _, rfl, rfl, _, k10 _ _ hDi8 n3, ?_, (k8.trans k10).mut hDi, P10.mut n3 n4, ws ++ [1 + e], ?_, ?_, fun x hx => ?_⟩⟩⟩
        · rw [List.length_map]; exact szl (by omega)
        · rw [List.length_append, hwl]; rfl
        · rw [upd_same, List.map_append]; rfl
        · rcases List.mem_append.mp hx with hx | hx
          · exact hws x hx
          · rw [List.mem_singleton.mp hx]; omega
      rintro H8 ⟨k8, P8, ws, hwl, hDi8, hws⟩
      obtain ⟨n3, n4⟩ := P6.ne hDi
      have nDrDi : Dr ≠ Di := ne_of_none hDr6 hDi
      refine ⟨refs rs, k8 _ _ hDr6 n1, ?_, ((k6.trans k8).mut hDr), (P8.mut n1 n2).mono (by omega), rs ++ [(Di, ws)], ?_, ?_, fun r hr => ?_⟩
      · rw [show (refs rs).length = rs.length from List.length_map ..]; exact szl (by omega)
      · rw [List.length_append, hrl]; rfl
      · rw [upd_same]
        unfold refs
        rw [List.map_append]
        rfl
      · rcases List.mem_append.mp hr with hr | hr
        · obtain ⟨⟨h1, h2, h3⟩, h4⟩ := hrs r hr
          exact ⟨⟨by rw [upd_ne h3]; exact k8 _ _ h1 h2, h2, h3⟩, h4⟩
        · rw [List.mem_singleton.mp hr]
          refine ⟨⟨by rw [upd_ne nDrDi.symm]; exact hDi8, n3, nDrDi.symm⟩, ⟨?_, ?_, ?_, hws⟩, ?_⟩
          · show ws.length % 2 = 1
            omega
          · show 3 ≤ ws.length
            omega
          · show ws.length ≤ 127
            omega
          · show ws.length ≤ 7
            omega
    rintro H6 ⟨k6, P6, rs, hrl, hDr6, hrs⟩
    obtain ⟨n1, n2⟩ := P5.ne hDr
    rw [List.length_map] at hrl
    replace P6 := P6.mono (m := 100 * i + 50) (by rw [List.length_map]; omega)
    -- wide = [1, 2, 1 + draw(pen, 12), 1000][draw(pen, 4)]
    refine ⟨_, rfl, p, l, _, 12, rfl, P6, by omega, by decide, by decide, fun d3 H7 d30 d31 k7 P7 => ⟨_, _, rfl, rfl, (by show 4 ≤ sizeLine; decide), fun l3 hl3 => ?_⟩⟩
    have nl3 := P7.ne hl3
    refine ⟨_, rfl, p, l, _, 4, rfl, P7.same (same_upd hl3), by omega, by decide, by decide, fun d4 H8 d40 d41 k8 P8 => ?_⟩
    obtain ⟨vw, hvw, hmw⟩ := pick (xs := [V.int 1, V.int 2, V.int (1 + d3), V.int 1000]) d40 d41
    obtain ⟨wide, rfl, hw1⟩ : ∃ m : Int, vw = .int m ∧ (1 ≤ m ∧ m ≤ 1000) := by
      simp only [List.mem_cons, List.not_mem_nil, or_false] at hmw
      rcases hmw with rfl | rfl | rfl | rfl
      · exact ⟨1, rfl, by decide, by decide⟩
      · exact ⟨2, rfl, by decide, by decide⟩
      · exact ⟨1 + d3, rfl, by omega, by omega⟩
      · exact ⟨1000, rfl, by decide, by decide⟩
    refine ⟨l3, _, _, _, rfl, rfl, SqL.of (k8 _ _ upd_same nl3.1), hvw, ?_⟩
    have K68 : Keep p H6 H8 := (Keep.trans k7 (Keep.of (same_upd hl3))).trans k8
    -- thick = [1, 3, 1 + draw(pen, 12), 1000][draw(pen, 4)]
    refine ⟨_, rfl, p, l, _, 12, rfl, P8, by omega, by decide, by decide, fun d5 H9 d50 d51 k9 P9 => ⟨_, _, rfl, rfl, (by show 4 ≤ sizeLine; decide), fun l5 hl5 => ?_⟩⟩
    have nl5 := P9.ne hl5
    refine ⟨_, rfl, p, l, _, 4, rfl, P9.same (same_upd hl5), by omega, by decide, by decide, fun d6 H10 d60 d61 k10 P10 => ?_⟩
    obtain ⟨vt, hvt, hmt⟩ := pick (xs := [V.int 1, V.int 3, V.int (1 + d5), V.int 1000]) d60 d61
    obtain ⟨thick, rfl, ht1⟩ : ∃ m : Int, vt = .int m ∧ (1 ≤ m ∧ m ≤ 1000) := by
      simp only [List.mem_cons, List.not_mem_nil, or_false] at hmt
      rcases hmt with rfl | rfl | rfl | rfl
      · exact ⟨1, rfl, by decide, by decide⟩
      · exact ⟨3, rfl, by decide, by decide⟩
      · exact ⟨1 + d5, rfl, by omega, by omega⟩
      · exact ⟨1000, rfl, by decide, by decide⟩
    refine ⟨l5, _, _, _, rfl, rfl, SqL.of (k10 _ _ upd_same nl5.1), hvt, ?_⟩
    have K610 : Keep p H6 H10 := K68.trans ((Keep.trans k9 (Keep.of (same_upd hl5))).trans k10)
    -- if not _law_right(rows, wide, thick)
    have hnb := nbars_bd (rs.map (·.2)) (fun r hr => by
      obtain ⟨m, hm, rfl⟩ := List.mem_map.mp hr
      exact (hrs m hm).2.2)
    rw [List.length_map] at hnb
    refine ⟨_, rfl, _, rfl, _, rfl, Dr, rs, wide, thick, rfl, K610 _ _ hDr6 n1, fun r hr => ⟨K610 _ _ (hrs r hr).1.1 (hrs r hr).1.2.1, (hrs r hr).2.1⟩, by omega, hw1, ht1, by omega, fun H11 s11 => ⟨_, rfl, ifN rfl ?_⟩⟩
    exact ⟨_, _, _, _, _, _, rfl, (P10.same s11).mono (by omega)⟩
  · rintro σ H2 ⟨v2, v3, v5, v6, v8, v9, rfl, P2⟩
    -- many = [[1, 1 + draw(pen, 3), 2]] * 31
    refine ⟨_, rfl, p, l, _, 3, rfl, P2, by omega, by decide, by decide, fun d H3 d0 d1 k3 P3 => ⟨_, _, rfl, rfl, (by show 3 ≤ sizeLine; decide), fun il hil => ⟨(by show 1 ≤ sizeLine; decide), fun ol hol => ⟨ol, 31, _, rfl, rfl, upd_same, by decide, by decide, (by show 1 * 31 ≤ sizeLine; decide), fun ml hml => ?_⟩⟩⟩⟩
    have nil_ := P3.ne hil
    have P3' := ((P3.same (same_upd (o := .lst [V.int 1, V.int (1 + d), V.int 2]) hil)).same (same_upd (o := .lst [V.ref il]) hol)).same (same_upd (o := .lst (List.replicate (31 : Int).toNat [V.ref il]).flatten) hml)
    have nml := ((P3.same (same_upd (o := .lst [V.int 1, V.int (1 + d), V.int 2]) hil)).same (same_upd (o := .lst [V.ref il]) hol)).ne hml
    obtain ⟨H4, eH4⟩ : ∃ H4, H4 = upd (upd (upd H3 il (.lst [V.int 1, V.int (1 + d), V.int 2])) ol (.lst [V.ref il])) ml (.lst (List.replicate (31 : Int).toNat [V.ref il]).flatten) := ⟨_, rfl⟩
    have hml4 : H4 ml = some (.lst (refs (List.replicate 31 (il, [1, 1 + d, 2])))) := by rw [eH4]; exact upd_same
    have hil4 : H4 il = some (.lst (([1, 1 + d, 2] : List Int).map V.int)) := by rw [eH4]; exact same_upd hml _ _ (same_upd hol _ _ upd_same)
    rw [← eH4] at P3'
    rw [← eH4]
    clear eH4
    -- great = [1 + draw(pen, 9) for k in range(123)]
    refine ⟨123, rfl, by decide, by decide, fun Dg hDg => lc_it walk_range
      (fun q H8 => Keep p H4 H8 ∧ Pen H8 p l (600 + q) ∧ ∃ ws : List Int, ws.length = q ∧ H8 Dg = some (.lst (ws.map V.int)) ∧ ∀ x ∈ ws, 1 ≤ x ∧ x ≤ 1000) ?_ (fun _ _ _ _ => trivial) ?_ ?_⟩
    · obtain ⟨n3, n4⟩ := P3'.ne hDg
      exact ⟨Keep.refl.mut hDg, (P3'.mut n3 n4).mono (by omega), [], rfl, upd_same, fun x hx => absurd hx (by simp)⟩
    · rintro q z H8 H9 hq ⟨k8, P8, ws, hwl, hDi8, hws⟩ ⟨rfl, rfl⟩
      obtain ⟨n3, n4⟩ := P3'.ne hDg
      have hq' : q < 123 := hq
      refine ⟨rfl, yes ⟨_, rfl, p, l, _, 9, rfl, P8, by omega, by decide, by decide, fun e H10 e0 e1 k10 P10 => ⟨_, _, rfl, rfl, _, k10 _ _ hDi8 n3, ?_, (k8.trans k10).mut hDg, P10.mut n3 n4, ws ++ [1 + e], ?_, ?_, fun x hx => ?_⟩⟩⟩
      · rw [List.length_map]; exact szl (by omega)
      · rw [List.length_append, hwl]; rfl
      · rw [upd_same, List.map_append]; rfl
      · rcases List.mem_append.mp hx with hx | hx
        · exact hws x hx
        · rw [List.mem_singleton.mp hx]; omega
    rintro H8 ⟨k8, P8, ws, hwl, hDg8, hws⟩
    have hwl' : ws.length = 123 := hwl
    have hgw : good ws := ⟨by omega, by omega, by omega, hws⟩
    obtain ⟨n3, n4⟩ := P3'.ne hDg
    have h231 : good [1, 1 + d, 2] := ⟨by show 3 % 2 = 1; decide, by show 3 ≤ 3; decide, by show 3 ≤ 127; decide, fun x hx => by
      simp only [List.mem_cons, List.not_mem_nil, or_false] at hx
      omega⟩
    have hb31 : nbars ((List.replicate 31 (il, [1, 1 + d, 2])).map (·.2)) = 62 := by
      rw [List.map_replicate, nbars_rep]
      show 31 * (((3 : Nat) : Int) / 2 + 1) = 62
      decide
    refine ⟨_, rfl, ml, List.replicate 31 (il, [1, 1 + d, 2]), 2, 3, rfl, k8 _ _ hml4 nml.1, fun r hr => ?_, (by rw [List.length_replicate]; decide), by decide, by decide, (by rw [hb31]; decide), fun H9 s9 => ⟨true, rfl, iteT ?_⟩⟩
    · rw [List.eq_of_mem_replicate hr]
      exact ⟨k8 _ _ hil4 nil_.1, h231⟩
    -- _law_right([great], 1, 7)
    have hnb : nbars ([(Dg, ws)].map (·.2)) = 62 := by
      show ((ws.length : Int) / 2 + 1) + 0 = 62
      rw [hwl']
      rfl
    refine ⟨_, rfl, (by show 1 ≤ sizeLine; decide), fun gl hgl => ?_⟩
    refine ⟨gl, [(Dg, ws)], 1, 7, rfl, upd_same, fun r hr => ?_, (by show 1 ≤ 100; decide), by decide, by decide, (by rw [hnb]; decide), fun H10 s10 => ⟨true, rfl, iteT ?_⟩⟩
    · rw [List.mem_singleton.mp hr]
      exact ⟨same_upd hgl _ _ (s9 _ _ hDg8), hgw⟩
    have hDg10 : H10 Dg = some (.lst (ws.map V.int)) := s10 _ _ (same_upd hgl _ _ (s9 _ _ hDg8))
    -- line_of([Mark.of(great)]).bars == 64
    refine ⟨rfl, _, rfl, _, Dg, ws, rfl, .inl hDg10, hgw, fun mp H11 s11 mm => ⟨(by show 1 ≤ sizeLine; decide), fun ll hll => ?_⟩⟩
    have hnb2 : nbars ([(mp, ws)].map (·.2)) = 62 := hnb
    refine ⟨ll, [(mp, ws)], 1, 1, rfl, .inl upd_same, fun m hm => ?_, (by show 1 ≤ 100; decide), by decide, by decide, (by rw [hnb2]; decide), fun lq H12 s12 lm => ?_⟩
    · rw [List.mem_singleton.mp hm]
      exact mm.same (same_upd hll)
    obtain ⟨_, dxl, wpl, epl, spl, al, _⟩ := id lm
    refine ⟨lq, _, dxl, _, _, rfl, al, T.cl_Mark, T.na_Mark_bars, rfl, rfl, ?_⟩
    have hL : (lineW ([(mp, ws)].map (·.2)) 1 1).length = 127 := by
      show (((1 : Int) :: ([ws].flatMap fun r => 1 :: r)) ++ [1, 1]).length = 127
      simp [hwl']
    rw [hL]
    exact k H12
end
end K74
namespace K74
open PySem PySem.Spec PyProof.Rows L2
abbrev R : PySem.W.OpenRow := PySem.W.OpenLaw.row PySem.Challenge.rw_edgesmeet_k74_lines_put_together
abbrev hk : PySem.W.Hook := EM.hookF 5 fa fn
def ob (s : PySem.W.SharedT) : He.AlD := EM.obsFG 5 fa fn (HandSHeadRun.getT s)
theorem ob_eq (s : PySem.W.SharedT) : ob s = hk.obs s.abs := EM.obsFG_eq (HandSHeadRun.getT_eq s)
def nm0 : List PySem.Str := ["_wall", "__name__", "EdgeError", "BadMark", "NoEdge", "Unlike", "BadCount", "BadText", "FIGURES", "is_figures", "is_integer", "MOST_WIDTH", "MOST_WIDTHS", "WIDTH_DIGITS", "is_between", "edges_of", "Mark", "MOST_PART", "need_part", "need_line", "line_of", "_law_pen", "_law_draw", "_law_pick", "_law_widths", "_law_right"]
def names : List PySem.Str := nm0
set_option maxHeartbeats 0 in
theorem run (w : World) : HandSHeadRun.RunEq R (PySem.W.view R.prog [31]) hk ob 20000 names w := by
  intro os
  kernel_rfl
end K74
namespace K74
open PySem PySem.Spec PyProof.Rows L2
theorem facts {P : Program} {w : World} {K : PySem.W.Frag} {h : Heap} {mg : Str → Option Value} {f : Addr} (X : K.In h) (G : h.Ns mainGlobals mg) (hfa : mg ("law" : Str) = some (.ref f)) (c : EM.SaysF fa fn K) :
    ∃ fd : FuncData, (∀ (s : Shared) (v : Value), BindsTo s fd ⟨[v], []⟩ [("_law_script", v)]) ∧ ∀ base : Heap, K.In base → base.Ns mainGlobals mg → FnOk P w K mg base CX0 8 f fd ["_law_script"] (spLaw K) := by
  have T : Tx K mg := ⟨c, h, X, G⟩
  have e := hfa.symm.trans T.g_law
  cases e
  obtain ⟨fd, F⟩ := T.d_law
  have b := FunD.bindsA (ps := ["_law_script"]) F fun _ _ _ _ _ _ us hl => match us, hl with | [_], _ => rfl
  exact ⟨fd, fun s v => b s [v] rfl, fun base _ _ => EM.fnok0 (FunD.ok (CX := L2.CX P w) F sc_law (len_law) (bod_law T)) (fun _ _ _ _ h => h)⟩
end K74
open PySem PySem.W PySem.Calls PyProof.Rows
set_option maxHeartbeats 0 in
theorem PySem.Challenge.cw_edgesmeet_k74_lines_put_together_holds : PySem.Challenge.rw_edgesmeet_k74_lines_put_together.Holds := by
  w_on; o_law
  refine HandSHeadRun.head_any (r := OpenLaw.row PySem.Challenge.rw_edgesmeet_k74_lines_put_together) (q := view (OpenLaw.row PySem.Challenge.rw_edgesmeet_k74_lines_put_together).prog [31]) (H := K74.hk) (ob := K74.ob) (M := 20000) (loose := K74.names) (d := HandSHeadRun.topDef (OpenLaw.row PySem.Challenge.rw_edgesmeet_k74_lines_put_together).prog 31) (kwd := []) K74.ob_eq
    (by kernel_rfl) (fun s => by kernel_rfl) K74.run (by kernel_rfl) (by kernel_rfl) (by kernel_rfl) (by rfl) (by first | assumption | decide +kernel) (by decide +kernel) ⟨rfl, rfl, rfl, rfl, rfl, by decide +kernel⟩ ?hw ?hc
  case hw => w_witness2
  case hc =>
    refine L2.walk_ofE (l := PySem.Challenge.rw_edgesmeet_k74_lines_put_together) (n := 63) (k := 8) (x := "_law_script") (CX := L2.CX0) rfl (by decide) (by kernel_rfl) ⟨rfl, by decide, by decide⟩ ?F ?Z
    case Z => exact fun _ _ _ _ z => z
    intro w mg fa h Y G hmg0
    obtain ⟨K, KX, c⟩ := Y
    have hmg : mg ("law" : PySem.Str) = some (.ref fa) := by
      have e : (HandSHeadRun.topDef (OpenLaw.row PySem.Challenge.rw_edgesmeet_k74_lines_put_together).prog 31).name = ("law" : PySem.Str) := by kernel_rfl
      rw [← e]
      exact hmg0
    obtain ⟨fd, hb, hF⟩ := K74.facts (P := (PySem.Challenge.rw_edgesmeet_k74_lines_put_together).prog) (w := w) KX G hmg c
    exact ⟨K, fd, K74.spLaw K, KX, hb, fun H a ns hl _ hS => ⟨a, ns, rfl, hS, hl, fun _ => rfl⟩, hF⟩
