import PyProof.Rows.All
import Wide.All
import OpenK.AllK
import Wide.FinOn
import KE.KStateDown
import KE.KOpsOwn
import HandS.ForMost
import HandS.ForExc
import HandS.Wide
import HandS.Defaults
import HandS.Star
import HandS.ClsMeth
import HandS.IsInst
import HandS.OwnEq
import HandS.Walk
import HandS.Zip
import HandS.Style
import HandS.Property
import HandS.Head0
import HandS.Head1
import HandS.Head2
import HandS.HeadEnd
import HandS.HeadHook1
import HandS.HeadHook2
import HandS.HeadNt
import HandS.SlotsOwn
import KE.GoesEnum
import KE.GoesMore
import HandS.MakeKw
import HandS.Evl
import PyProof.ReprRoads
import PyProof.ReprReads
import HandS.ExcInit
import HandS.ExcField
import HandS.TryMany
import HandS.Small
import KE.IntTextText
import KE.IntTextLaws
import HandS.Text
import HandS.Codes
import HandS.AnyAll
import PyProof.NeKinds
import PyProof.EqAt
import KE.KCallOwn
import PyProof.StrBlockL
import PyProof.Rows.RegStrFacts
import HandS.ReplaceLit
import PySem.Challenge.RW_edgesmeet_k10_texts_of_marks
set_option Elab.async false
set_option linter.all false
set_option maxRecDepth 100000
set_option maxHeartbeats 4000000
/-! EM1: further rules over the hand layer: calls by positional promises, star calls, own operators, facts of the head by Bools. -/
namespace EM
open PySem PySem.Spec PyProof.Rows L2
/-! ### the Hook: facts as Bools of the written part -/
abbrev Fk := PySem.W.Frag → Bool
def obsF (fa : List Fk) (fn : List He5.DefA) (K : PySem.W.Frag) : He.AlD := ((fa.all fun f => f K) && fn.all fun d => d.ok K, fn.map fun d => He5.fnA K (d.at_ K))
def valF (fn : List He5.DefA) : He.AlD := (true, fn.map He5.DefA.val)
def SaysF (fa : List Fk) (fn : List He5.DefA) (K : PySem.W.Frag) : Prop := obsF fa fn K = valF fn
def obsFG (n : Nat) (fa : List Fk) (fn : List He5.DefA) (g : Addr → Option Obj) : He.AlD := obsF fa fn (He.frG g (He5.asA g n))
def hookF (n : Nat) (fa : List Fk) (fn : List He5.DefA) : PySem.W.Hook where
  α := He.AlD
  obs := fun s => obsFG n fa fn s.heap.get?
  val := fun _ => valF fn
  says := fun _ h => ∃ K : PySem.W.Frag, K.In h ∧ SaysF fa fn K
  of := fun _ _ e => ⟨_, He.frG_in, e⟩
  keeps := fun _ _ _ ⟨K, hK, c⟩ k => ⟨K, PySem.W.Frag.In.keeps hK k, c⟩
theorem obsFG_eq {n : Nat} {fa : List Fk} {fn : List He5.DefA} {g : Addr → Option Obj} {s : Shared} (h : ∀ a, g a = s.heap.get? a) : obsFG n fa fn g = (hookF n fa fn).obs s := by
  have e : g = s.heap.get? := funext h
  rw [e] <;> rfl
section
variable {fa : List Fk} {fn : List He5.DefA} {K : PySem.W.Frag}
theorem SaysF.fact (c : SaysF fa fn K) (i : Nat) {f : Fk} (h : fa[i]? = some f := by rfl) : f K = true := by
  have c1 := (He.ba (show ((fa.all fun f => f K) && fn.all fun d => d.ok K) = true from congrArg (fun z : He.AlD => z.1) c)).1
  exact List.all_eq_true.mp c1 f (List.mem_of_getElem? h)
theorem SaysF.def_ (c : SaysF fa fn K) (i : Nat) {d : He5.DefA} (h : fn[i]? = some d := by rfl) : ∃ fd, L2.FunD K d.name d.qual d.params d.body d.scope (d.dvs K) (d.kws K) (d.at_ K) fd := by
  have c2 := (He.ba (show ((fa.all fun f => f K) && fn.all fun d => d.ok K) = true from congrArg (fun z : He.AlD => z.1) c)).2
  have e : fn.map (fun d => He5.fnA K (d.at_ K)) = fn.map He5.DefA.val := congrArg (fun z : He.AlD => z.2) c
  have e2 : (fn.map fun d => He5.fnA K (d.at_ K))[i]? = (fn.map He5.DefA.val)[i]? := by rw [e]
  rw [List.getElem?_map, List.getElem?_map, h] at e2
  exact He5.DefA.funD (Option.some.inj e2) (List.all_eq_true.mp c2 d (List.mem_of_getElem? h))
end
/-! ### calls by a positional promise -/
abbrev CXp (X : Cx) : CXT := L2.CX X.prog X.w
def tCR (sp : Sp) (E : XK) (t : TA) : TE := fun σ H Q => t σ H fun vs H1 => sp vs H1 Q E
def tMR (C : Addr) (m : Str) (sp : Sp) (E : XK) (ta : TE) (t : TA) : TE := fun σ H Q => ta σ H fun x H1 => ∃ a dx fs, x = V.ref a ∧ H1 a = some (.ins C dx fs) ∧ fs.lookup m = none ∧ t σ H1 fun vs H2 => sp (x :: vs) H2 Q E
section
variable {X : Cx} {CX : CXT} {k : Nat} {f C : Addr} {sp : Sp} {E : XK} {x m : Str} {e o : Expr} {es : List Expr} {te ta : TE} {t : TA} {p sp_ pos apos : Pos}
/-- f(e, ..) -/
theorem pe_cR (F : FnR X.prog X.w X.K X.mg X.base CX k f sp) (hr : Room k X.A) (hk : PySem.W.keepIn X.K (.ref f) = true) (hm : X.mg x = some (.ref f)) (hx : Passes CX X E) (ha : PA X (e :: es) t) (hg : Gl X x := by rfl) (hd : (x == ("__debug__" : Str)) = false := by decide)
    (he : starEach (e :: es) X.env = (false, eval e X.env) :: starEach es X.env := by rfl) (hpl : (backTo pos (starEach es X.env)).any (·.1) = false := by rfl) :
    PE X (.Call (.Name x p) (e :: es) [] pos) (tCR sp E t) := by
  refine ⟨fun pins s σ H Q I h => ?_⟩
  refine wpAny_Call_Name_kw (ld_glob I hg hm ?_ hd)
  refine PySem.W.callWith_K (h₀ := X.base) I.ok.mod.kin hk (thn (ha.run pos pins s σ H _ I h) fun us s1 ⟨vs, H1, I1, r, q⟩ => ⟨I1.kIn, ?_⟩) he hpl
  exact wpAny_call (run_fnR F hr hx I1 r q)
/-- f() -/
theorem pe_cR0 (F : FnR X.prog X.w X.K X.mg X.base CX k f sp) (hr : Room k X.A) (hk : PySem.W.keepIn X.K (.ref f) = true) (hm : X.mg x = some (.ref f)) (hx : Passes CX X E) (hg : Gl X x := by rfl) (hd : (x == ("__debug__" : Str)) = false := by decide) :
    PE X (.Call (.Name x p) [] [] pos) (tCR sp E tNil) := by
  refine ⟨fun pins s σ H Q I h => ?_⟩
  refine wpAny_Call_Name_kw (ld_glob I hg hm ?_ hd)
  exact PySem.W.callWith_K0 I.kIn hk (wpAny_call (run_fnR (us := []) (vs := []) F hr hx I .nil h))
/-- C( *y): an instance made with what a list or tuple holds -/
theorem pe_mkS1 (M : Mk X.K C f) (F : FnR X.prog X.w X.K X.mg X.base CX k f sp) (hr : Room (k + 1) X.A) (hm : X.mg x = some (.ref C)) (hx : Passes CX X E) (he : PE X e te) (hg : Gl X x := by rfl) (hd : (x == ("__debug__" : Str)) = false := by decide)
    (hst : starEach [.Starred e sp_] X.env = [(true, eval e X.env)] := by rfl) :
    PE X (.Call (.Name x p) [.Starred e sp_] [] pos) (StX.tMakeR C sp E (StX.tStar X.K te tNil)) := by
  refine ⟨fun pins s σ H Q I h => ?_⟩
  refine wpAny_Call_Name_kw (ld_glob I hg hm ?_ hd)
  refine PySem.W.callWith_S (h₀ := X.base) I.ok.mod.kin M.kp (thn (he.run pins s σ H _ I h) fun v s1 ⟨y, H1, I1, ry, a, xs, ey, hxs, q⟩ => ?_) hst
  subst ey
  obtain rfl : v = Value.ref a := ry
  refine StX.star_any I1 hxs fun us s2 I2 rv => ⟨I2.kIn, ?_⟩
  have q2 := (show ∀ x dx, H1 x = Option.none → H1 dx = Option.none → dx ≠ x → sp (V.ref x :: (xs ++ [])) (upd (upd H1 dx (.own x)) x (.ins C dx [])) (fun v H2 => v = .non ∧ Q (.ref x) H2) E from q)
  rw [List.append_nil] at q2
  exact StX.run_makeR M F hr hx I2 rv q2
/-- o.m(e, ..) of an instance with a dict -/
theorem pe_mR {pl : Sem Bool} (he : PE X o ta) (c : Cls X.K C) (hm : Meth X.K C m f) (F : FnR X.prog X.w X.K X.mg X.base CX k f sp) (hr : Room k X.A) (hx : Passes CX X E) (ha : PA X (e :: es) t)
    (hst : starEach (e :: es) X.env = (false, eval e X.env) :: starEach es X.env := by rfl) (hpl : (backTo pos (starEach es X.env)).any (·.1) = false := by rfl)
    (ht : eval (.Call (.Attribute o m apos) (e :: es) [] pos) X.env = (do
      let ov ← eval o X.env
      standAt apos.atName
      let (f, first) ← holding [ov] (getMethod ov m pl)
      callWith pos f first (backTo pos (starEach (e :: es) X.env)) (backToKw pos (keywordEach [] X.env))) := by rfl) :
    PE X (.Call (.Attribute o m apos) (e :: es) [] pos) (tMR C m sp E ta t) := by
  refine ⟨fun pins s σ H Q I h => ?_⟩
  refine PySem.W.methodCall_KW (pl := pl) (thn (he.run pins s σ H _ I h) fun u s1 ⟨x, H1, I1, rx, a, dx, fs, ex, ea, l, q⟩ => ?_) ht
  subst ex
  obtain rfl : u = Value.ref a := rx
  refine getmeth_ok I1 ea c hm l ?_
  refine PySem.W.callWith_K (first := [.ref a]) (h₀ := X.base) I.ok.mod.kin hm.kp (thn (ha.run pos pins s1 σ H1 _ I1 q) fun us s2 ⟨vs, H2, I2, r, q2⟩ => ⟨I2.kIn, ?_⟩) hst hpl
  exact wpAny_call (run_fnR (us := .ref a :: us) (vs := .ref a :: vs) F hr hx I2 (.cons rfl r) q2)
/-- o.m() -/
theorem pe_mR0 {pl : Sem Bool} (he : PE X o ta) (c : Cls X.K C) (hm : Meth X.K C m f) (F : FnR X.prog X.w X.K X.mg X.base CX k f sp) (hr : Room k X.A) (hx : Passes CX X E)
    (ht : eval (.Call (.Attribute o m apos) [] [] pos) X.env = (do
      let ov ← eval o X.env
      standAt apos.atName
      let (f, first) ← holding [ov] (getMethod ov m pl)
      callWith pos f first (backTo pos (starEach [] X.env)) (backToKw pos (keywordEach [] X.env))) := by rfl) :
    PE X (.Call (.Attribute o m apos) [] [] pos) (tMR C m sp E ta tNil) := by
  refine ⟨fun pins s σ H Q I h => ?_⟩
  refine PySem.W.methodCall_KW (pl := pl) (thn (he.run pins s σ H _ I h) fun u s1 ⟨x, H1, I1, rx, a, dx, fs, ex, ea, l, q⟩ => ?_) ht
  subst ex
  obtain rfl : u = Value.ref a := rx
  refine getmeth_ok I1 ea c hm l ?_
  exact PySem.W.callWith_K0 (first := [.ref a]) I1.kIn hm.kp (wpAny_call (run_fnR (us := [.ref a]) (vs := [.ref a]) F hr hx I1 (.cons rfl .nil) q))
end
/-! ### from a def of the text to its positional promise -/
section
variable {P : Program} {w : World} {K : PySem.W.Frag} {mg : Str → Option Value} {base : Heap} {x qual : Str} {params : Arguments} {body : List Stmt} {scope : Scope} {dvs : List V} {kws : List (Str × V)} {f : Addr} {fd : FuncData}
/-- what is asked of a def's body -/
def Bod (P : Program) (w : World) (K : PySem.W.Frag) (mg : Str → Option Value) (base : Heap) (N : List Str) (qual : Str) (scope : Scope) (f : Addr) (body : List Stmt) (k : Nat) (sp : Sp) : Prop :=
  ∀ (cdv : Value) (A : Around) (outer : List Env) (s : Shared) (H : Hp) (vs : List V) (Q : VK) (E : XK), Room k (A.deeper (envOfC qual scope s.heap.objs.size f cdv)) → sp vs H Q E →
      ∃ t, PSs (cxOf (L2.CX P w) P w K mg base N qual scope f cdv A outer s H E) body t ∧ t { nx := fun _ H' => Q .non H', rt := Q } (start N vs) H
/-- a def without defaults -/
theorem fnr {N ps : List Str} {k : Nat} {sp : Sp} (F : FunD K x qual params body scope [] kws f fd) (S : FnScope N ps scope)
    (hb : ∀ (kV doc pm : Value) (an : Option Addr) (cdv ct : Value) (us : List Value), us.length = ps.length → bindArgs (PySem.W.fnOf x qual params body scope .none kV doc pm an cdv ct) ⟨us, []⟩ = pure (ps.zip us))
    (len : ∀ vs H Q E, sp vs H Q E → vs.length = ps.length) (hbody : Bod P w K mg base N qual scope f body k sp) : FnR P w K mg base (L2.CX P w) (k + 1) f sp := by
  have G := FunD.ok (P := P) (w := w) (mg := mg) (base := base) (CX := L2.CX P w) F S len hbody
  have B := F.bindsN hb
  have R := FnOk.raw (dvs := []) (ds := []) G B .nil
  refine R.imp fun vs H Q E h => ?_
  rw [List.append_nil]
  exact h
/-- def f( *v) and def f(a, *v) -/
theorem fnr_star {N ps : List Str} {pv : Str} {k : Nat} {sp : Sp} (F : FunD K x qual params body scope [] kws f fd) (S : FnScope N (ps ++ [pv]) scope)
    (hb : ∀ (kV doc pm : Value) (an : Option Addr) (cdv ct : Value) (us rest : List Value), us.length = ps.length → bindArgs (PySem.W.fnOf x qual params body scope .none kV doc pm an cdv ct) ⟨us ++ rest, []⟩ = (newTuple rest >>= fun t => pure (ps.zip us ++ [(pv, t)])))
    (hbody : Bod P w K mg base N qual scope f body k sp) :
    FnR P w K mg base (L2.CX P w) (k + 1) f (fun vs H Q E => ∃ ws rest, vs = ws ++ rest ∧ ws.length = ps.length ∧ rest.length ≤ sizeLine ∧ ∀ T, H T = none → sp (ws ++ [V.ref T]) (upd H T (.tup rest)) Q E) := by
  obtain ⟨oc, od, dV, kV, doc, pm, an, cdv, ct, osl, e, l, c, hd, _⟩ := F.ex
  rcases hd with ⟨_, e2⟩ | ⟨e2, _⟩
  · subst e2
    subst e
    exact StX.fn_star (sp := sp) l c S StX.cxUp (hb kV doc pm an cdv ct) (hbody cdv)
  · exact absurd rfl e2
end
end EM
/-! EM2: own operators, enumerate of a tuple, != of lists. -/
namespace PySem.W
open PyProof.Rows
section
variable {M : Model} {A : Around} {E : Value → Shared → Prop} {s : Shared} {K : Frag} {x C f : Addr} {ox : Obj} {od : Option Obj}
theorem em_ifBound {name : Str} {id : String} {args : List Value} {Q : Option Value → Shared → Prop} (X : K.In s.heap) (I : InstAt s.heap x ox C od) (hs : findIn K (.ref C) name = some (some (.builtin id)))
    (hb : ∀ self, bindSpecial (.builtin id) self = pure (.builtin id, [self])) (h : wpAny M A (call (.builtin id) (.ref x :: args)) (fun v => Q (some v)) E s) : wpAny M A (callSpecialIfBound? (.ref x) name args) Q E s := by
  simp only [callSpecialIfBound?, bindSpecialIfBound?]
  refine wpAny_holding (wpAny_bind (wpAny_bind (wpAny_bind (I.type.here ((looks_findIn X hs).here ?_)))))
  refine wpAny_bind (wpAny_askSetting (wpAny_ite ?_))
  have fin : wpAny M A (call (.builtin id) ([.ref x] ++ args) >>= fun v => pure (some v)) Q E s := wpAny_bind (wpAny_mono h (fun v s' h' => wpAny_pure h') fun _ _ h' => h')
  split
  · rw [hb]
    exact wpAny_bind (wpAny_pure (wpAny_pure (by exact fin)))
  · rw [hb]
    exact wpAny_tryCatch (wpAny_bind (wpAny_pure (wpAny_pure (by exact fin))))
end
section
variable {prog : Program} {w : World} {A : Around} {E : Value → Shared → Prop} {s : Shared} {K : Frag} {x C f L : Addr} {h₀ : Heap} {m : Str → Option Value} {ox : Obj} {od : Option Obj}
/-- x != b by the class's own == (object.__ne__ asks it) -/
theorem em_objNe {b : Value} {Q : Value → Shared → Prop} (hu : A.in1.units < cLine) (X : K.In s.heap) (I : InstAt s.heap x ox C od) (hm : mroIn K C (.type "object") = some true) (he : findIn K (.ref C) "__eq__" = some (some (.ref f))) (hf : isFn K (.ref f) = true)
    (h : wpAny (model prog w) A.in1 (call (.ref f) [.ref x, b]) (fun v s' => ∃ r, v = .bool r ∧ Q (.bool (!r)) s') E s) : wpAny (model prog w) A (call (.builtin "object.__ne__") [.ref x, b]) Q E s := by
  refine wpAny_call (codeAny_call_builtin PySem.F.slot_object_ne.plain PySem.F.entry_object_ne (check_slot (i := "object.__ne__") (owner := "object") (n := "__ne__") (by decide +kernel) (by decide +kernel) (I.type.andThen (looks_mroIn X hm)) (PySem.F.args_object_ne_2 _ _) ?_))
  unfold Builtin.«object.__ne__»
  refine wpAny_bind (m := slotArgs "__ne__" 1 _) (wpAny_pure ?_)
  refine wpAny_bind (m := cRoomFor _ _) (wpAny_cRoomFor hu ?_)
  refine wpAny_bind (m := callSpecialIfBound? (.ref x) (Str.ofString "__eq__") _) (ifBound_K X I he hf (wpAny_mono h (fun r s' hq => ?_) fun _ _ y => y))
  obtain ⟨r, rfl, q⟩ := hq
  exact wpAny_bind (m := truthy (.bool r)) (wpAny_truthy_bool (wpAny_pure q))
theorem em_ne {b tb : Value} {Q : Value → Shared → Prop} (hu : A.units + 1 < cLine) (F : Fr h₀ L s.heap m) (X₀ : K.In h₀) (I : InstAt s.heap x ox C od) (hb : Looks (model prog w) s.heap (typeOf b) tb) (hn : notFirst K C tb = true)
    (hs : findIn K (.ref C) "__ne__" = some (some (.builtin "object.__ne__"))) (hm : mroIn K C (.type "object") = some true) (he : findIn K (.ref C) "__eq__" = some (some (.ref f))) (hf : isFn K (.ref f) = true)
    (h : wpAny (model prog w) A.in1 (call (.ref f) [.ref x, b]) (fun v s' => ∃ r, v = .bool r ∧ Q (.bool (!r)) s') E s) : wpAny (model prog w) A (richCompare .NotEq (.ref x) b) Q E s := by
  have X := X₀.keeps F.keep
  have one : wpAny (model prog w) A (tryCompare (.ref x) "__ne__" b) (fun r s' => ∃ v, r = some v ∧ Q v s') E s := by
    unfold tryCompare
    refine wpAny_bind (em_ifBound X I hs PySem.F.slot_object_ne.bind (em_objNe hu X I hm he hf (wpAny_mono h (fun v s' hv => ?_) fun _ _ e => e)))
    obtain ⟨r, rfl, q⟩ := hv
    exact ⟨r, rfl, wpAny_pure ⟨_, rfl, q⟩⟩
  unfold richCompare
  simp only [oneThing_ref]
  refine wpAny_holding (wpAny_bind (wpAny_cRoomFor (Nat.lt_of_succ_lt hu) ?_))
  refine wpAny_bind (I.type.here (wpAny_bind (hb.here ?_)))
  split
  · rename_i q
    have e : subIn K tb (.ref C) = some false := by
      rcases Bool.or_eq_true_iff.mp hn with e | e
      · rw [beq_iff_eq.mp e] at q; simp at q
      · exact beq_iff_eq.mp e
    refine wpAny_bind ((looks_subIn X e).here ?_)
    simp only [Bool.false_eq_true, if_false]
    refine wpAny_bind (wpAny_mono one (fun r s' z => ?_) fun _ _ e => e)
    obtain ⟨v, rfl, hq⟩ := z
    exact wpAny_pure hq
  · refine wpAny_bind (wpAny_pure ?_)
    simp only [Bool.false_eq_true, if_false]
    refine wpAny_bind (wpAny_mono one (fun r s' z => ?_) fun _ _ e => e)
    obtain ⟨v, rfl, hq⟩ := z
    exact wpAny_pure hq
end
end PySem.W
namespace EM
open PySem PySem.Spec PyProof.Rows L2
/-! ### an instance with a dict, and what stands below it -/
section
variable {X : Cx} {pins : List (Addr × Obj)} {σ : L2.St} {H : Hp} {s : Shared} {a C dx : Addr} {fs : List (Str × V)}
theorem ins_at (I : Inv X pins σ H s) (h : H a = some (.ins C dx fs)) : ∃ ox od, PySem.W.InstAt s.heap a ox C (some od) ∧ ox.data = .plain := by
  obtain ⟨mA, O, _⟩ := ins_get I.hok h
  obtain ⟨od, J, _⟩ := O.look
  exact ⟨_, od, J, rfl⟩
end
/-- a one-place operator of the class's own -/
def rUnO (C : Addr) (sp : Sp) (E : XK) : V → Hp → VK → Prop := fun x H Q => ∃ a dx fs, x = .ref a ∧ H a = some (.ins C dx fs) ∧ sp [x] H Q E
section
variable {X : Cx} {CX : CXT} {n : Nat} {g C : Addr} {sp : Sp} {E : XK}
theorem un_invO (hs : PySem.W.findIn X.K (.ref C) "__invert__" = some (some (.ref g))) (hf : PySem.W.isFn X.K (.ref g) = true) (F : FnR X.prog X.w X.K X.mg X.base CX n g sp) (hr : Room n X.A) (hx : Passes CX X E) : UnR X (unaryOp .Invert) (rUnO C sp E) := by
  intro pins s σ H x v Q I rx h
  obtain ⟨a, dx, fs, rfl, ha, q⟩ := h
  cases (show v = Value.ref a from rx)
  obtain ⟨ox, od, J, _⟩ := ins_at I ha
  obtain ⟨m, hF⟩ := I.fr
  exact PySem.W.ksp_inv hF I.ok.mod.kin J hs hf (wpAny_call (run_fnR (us := [.ref a]) (vs := [.ref a]) F hr hx I (.cons rfl .nil) q))
theorem un_negO (hs : PySem.W.findIn X.K (.ref C) "__neg__" = some (some (.ref g))) (hf : PySem.W.isFn X.K (.ref g) = true) (F : FnR X.prog X.w X.K X.mg X.base CX n g sp) (hr : Room n X.A) (hx : Passes CX X E) : UnR X (unaryOp .USub) (rUnO C sp E) := by
  intro pins s σ H x v Q I rx h
  obtain ⟨a, dx, fs, rfl, ha, q⟩ := h
  cases (show v = Value.ref a from rx)
  obtain ⟨ox, od, J, _⟩ := ins_at I ha
  obtain ⟨m, hF⟩ := I.fr
  exact PySem.W.ksp_neg hF I.ok.mod.kin J hs hf (wpAny_call (run_fnR (us := [.ref a]) (vs := [.ref a]) F hr hx I (.cons rfl .nil) q))
/-- x op y of two instances of one class -/
def rCmpO (C : Addr) (sp : Sp) (E : XK) : R2 := fun x y H Q => ∃ a dx fs b dy gs, x = .ref a ∧ y = .ref b ∧ H a = some (.ins C dx fs) ∧ H b = some (.ins C dy gs) ∧ sp [x, y] H Q E
theorem notFirst_self {K : PySem.W.Frag} {C : Addr} : PySem.W.notFirst K C (.ref C) = true := by
  unfold PySem.W.notFirst
  simp
theorem op_cmpO {op : CmpOp} (hop : ∀ a b, compareOp op a b = richCompare op a b) (hs : PySem.W.findIn X.K (.ref C) (cmpInfo op).2.1 = some (some (.ref g))) (hf : PySem.W.isFn X.K (.ref g) = true) (F : FnR X.prog X.w X.K X.mg X.base CX n g sp)
    (hr : Room n X.A) (hx : Passes CX X E) : OpR X (compareOp op) (rCmpO C sp E) := by
  intro pins s σ H x y v u Q I rx ry h
  obtain ⟨a, dx, fs, b, dy, gs, rfl, rfl, ha, hb, q⟩ := h
  cases (show v = Value.ref a from rx)
  cases (show u = Value.ref b from ry)
  obtain ⟨ox, od, J, _⟩ := ins_at I ha
  obtain ⟨oy, od', J', _⟩ := ins_at I hb
  obtain ⟨m, hF⟩ := I.fr
  rw [hop]
  refine PySem.W.cmp_K (op := op) (tb := .ref C) hr.units0 hF I.ok.mod.kin J J'.type notFirst_self hs hf ?_
  refine wpAny_mono (wpAny_call (run_fnR (us := [.ref a, .ref b]) (vs := [.ref a, .ref b]) F hr hx I (.cons rfl (.cons rfl .nil)) q)) (fun w s' z => ?_) fun _ _ x => x
  obtain ⟨z', H', I', rz, qz⟩ := z
  exact SlX.cmpback rz ⟨z', H', I', rz, qz⟩
/-- x != y of two instances of one class whose == is its own -/
def rNeO (C : Addr) (sp : Sp) (E : XK) : R2 := fun x y H Q => ∃ a dx fs b dy gs, x = .ref a ∧ y = .ref b ∧ H a = some (.ins C dx fs) ∧ H b = some (.ins C dy gs) ∧ sp [x, y] H (fun z H' => ∃ r, z = .bl r ∧ Q (.bl (!r)) H') E
theorem op_neO (hs : PySem.W.findIn X.K (.ref C) "__ne__" = some (some (.builtin "object.__ne__"))) (hm : PySem.W.mroIn X.K C (.type "object") = some true) (he : PySem.W.findIn X.K (.ref C) "__eq__" = some (some (.ref g))) (hf : PySem.W.isFn X.K (.ref g) = true)
    (F : FnR X.prog X.w X.K X.mg X.base CX n g sp) (hr : Room (n + 1) X.A) (hx : Passes CX X E) : OpR X (compareOp .NotEq) (rNeO C sp E) := by
  intro pins s σ H x y v u Q I rx ry h
  obtain ⟨a, dx, fs, b, dy, gs, rfl, rfl, ha, hb, q⟩ := h
  cases (show v = Value.ref a from rx)
  cases (show u = Value.ref b from ry)
  obtain ⟨ox, od, J, _⟩ := ins_at I ha
  obtain ⟨oy, od', J', _⟩ := ins_at I hb
  obtain ⟨m, hF⟩ := I.fr
  show wpAny _ _ (richCompare .NotEq (.ref a) (.ref b)) _ _ _
  refine PySem.W.em_ne (tb := .ref C) (hu_of hr) hF I.ok.mod.kin J J'.type notFirst_self hs hm he hf ?_
  have c := SlX.run_at (us := [.ref a, .ref b]) (ws := [.ref a, .ref b]) F hr.in1 I.env0.in1 hx I (.cons rfl (.cons rfl .nil)) q
  refine wpAny_mono (wpAny_call c) (fun w s' z => ?_) fun _ _ x => x
  obtain ⟨z', H', I', rz, r, ez, qz⟩ := z
  subst ez
  cases (show w = Value.bool r from rz)
  exact ⟨r, rfl, .bl (!r), H', I', rfl, qz⟩
end
end EM
/-! EM3: enumerate of a tuple. -/
namespace PySem
open AutoSeq1 (wpAny_loadPart')
theorem em_enum_new1 {v : Value} {o : Obj} {H : Heap → Prop} (B : Begins v o H) :
    Meets (Builtin.«enumerate.__new__» ⟨[.type "enumerate", v], []⟩) (fun _ R s => H s.heap ∧
      R (.ok (.ret (.ref (s.heap.push o).objs.size))) { s with heap := (s.heap.push o).push { cls := .type "enumerate", data := .fields #[.none, .bool false, .ref s.heap.objs.size, rawInt 0, .none, .none] } }) :=
  .of_wp fun prog w A R s h => by
    obtain ⟨hp, g, d, tk, os⟩ := s; obtain ⟨h1, h⟩ := h
    have hsub := sub_enumerate
    have q1 : ∀ {A' : Around} {E : Value → Shared → Prop} {Q : Value → Shared → Prop}, Q (.ref hp.objs.size) ⟨hp.push o, g, d, tk, os⟩ → wpAny (model prog w) A' (pyIter v) Q E ⟨hp, g, d, tk, os⟩ :=
      fun q => B.iter prog w _ _ ⟨hp, g, d, tk, os⟩ _ h1 q
    wp_walk using q1
    refine wpAny_stack_any fun st => wpAny_pure ?_
    split
    · rename_i c _ _ _ _ _
      cases (c == Value.type "enumerate")
      · wp_walk using q1
        exact ⟨_, rfl, h⟩
      · wp_walk using q1
        exact ⟨_, rfl, h⟩
    · wp_walk using q1
      exact ⟨_, rfl, h⟩
section
variable {prog : Program} {w : World} {A : Around} {E : Value → Shared → Prop} {s : Shared}
theorem em_enum_begins {v : Value} {o : Obj} {H : Heap → Prop} {Q : Value → Shared → Prop} (B : Begins v o H) (h1 : H s.heap)
    (h : ∀ h', IsEnum h' (s.heap.objs.size + 1) s.heap.objs.size 0 .none → h'.get? s.heap.objs.size = some o → h'.objs.size = s.heap.objs.size + 2 →
      (∀ b o, s.heap.get? b = some o → h'.get? b = some o) → Q (.ref (s.heap.objs.size + 1)) { s with heap := h' }) :
    wpAny (model prog w) A (call (.type "enumerate") [v]) Q E s := by
  refine callType_new F.called_enumerate (by decide) (F.typeCall_enumerate_1 _) (F.newCall_enumerate_1 _) (fun obj => F.args_object_init_2 obj _) F.entry_enumerate_new
    (em_enum_new1 B) ⟨h1, ?_⟩
  have hz : (s.heap.push o).objs.size = s.heap.objs.size + 1 := Heap.size_push ..
  show _ ∧ _
  rw [hz]
  have he : IsEnum ((s.heap.push o).push { cls := .type "enumerate", data := .fields #[.none, .bool false, .ref s.heap.objs.size, rawInt 0, .none, .none] }) (s.heap.objs.size + 1) s.heap.objs.size 0 .none := by
    have := Heap.get?_push_size (s.heap.push o) (o := { cls := .type "enumerate", data := .fields #[.none, .bool false, .ref s.heap.objs.size, rawInt 0, .none, .none] }) rfl
    rw [hz] at this; exact this
  exact ⟨⟨_, he, rfl⟩, h _ he (Heap.get?_push_of_some _ (Heap.get?_push_size _ B.free)) (by rw [Heap.size_push, hz]) fun b o x => Heap.get?_push_of_some _ (Heap.get?_push_of_some _ x)⟩
end
end PySem
namespace EM
open PySem PySem.Spec PyProof.Rows L2
def IteT (K : PySem.W.Frag) (a : Addr) : It :=
  ⟨fun i H => ∃ (xs : List V) (x : V), SqT K H a xs ∧ xs[i]? = some x, fun i H v H' => ∃ T x, v = .ref T ∧ H T = none ∧ H' = upd H T (.tup [.int (i : Nat), x]) ∧ ∀ xs, SqT K H a xs → xs[i]? = some x, fun i H => ∃ xs : List V, SqT K H a xs ∧ xs.length ≤ i⟩
theorem turn_enumT {P : Program} {w : World} {K : PySem.W.Frag} {elts : List Expr} {kk : Nat} {tpos : Pos} (a e it : Addr) :
    Turn P w K (.Tuple elts kk tpos) (IteT K a) [e, it] e (fun i h => (∃ old, IsEnum h e it ((i : Nat) : Int) old) ∧ h.IsTupleIter it a i ∧ e ≠ it ∧ a ≠ it ∧ e ≠ a) where
  mem := by simp
  obj := fun i h st b hb => by
    obtain ⟨⟨old, he⟩, ⟨o, ho, hc, hd⟩, _⟩ := st
    have e' : b = e ∨ b = it := by simpa using hb
    rcases e' with z | z
    · rw [z]; exact ⟨_, he, fun v q => nomatch q⟩
    · rw [z]; exact ⟨o, ho, fun v q => by rw [hd] at q; cases q⟩
  keep := fun i h h' st k => let ⟨⟨old, he⟩, hi, hne⟩ := st; ⟨⟨old, k e (by simp) _ he⟩, hi.at fun o q => k it (by simp) o q, hne⟩
  item := by
    intro X hP hw hK hc i pins s σ H E I hf st hg
    subst hP hw hK
    obtain ⟨⟨old, he⟩, hit, hne, hai, hea⟩ := st
    obtain ⟨xs, x, hq, hx⟩ := hg
    obtain ⟨its, rv, p, hz⟩ := I.tuple hq
    obtain ⟨u, hu, ru⟩ := rv.get hx
    have hil2 : i < its.toArray.size := by
      have := (List.getElem?_eq_some_iff.mp hu).1
      simpa using this
    have hel : e < s.heap.objs.size := Heap.lt_size he
    have hil : it < s.heap.objs.size := by obtain ⟨_, q, _⟩ := hit; exact Heap.lt_size q
    have D := Draws.tuple (prog := X.prog) (w := X.w) (A := X.A.in1) (I.ok.hd hc) it a hai its.toArray
    refine wpAny_pyNext_enum_itemD D he ⟨hit, p⟩ hil2 hne (by simp [hne, hea]) fun y h' tk hy ho hst' hT hsz hk => ?_
    have ey : y = u := by
      have h1 : its.toArray[i]? = some u := by simpa using hu
      have h2 : its.toArray[i]? = some y := hy
      rw [h1] at h2
      exact (Option.some.inj h2).symm
    subst ey
    obtain ⟨hit', _⟩ := hst'
    refine ⟨_, rfl, wpAny_letOwnedTupleGo_enum (s := { s with heap := h', toks := tk + 1 }) ho fun h'' he' sb => ?_⟩
    have hT2 : h''.get? s.heap.objs.size = some { cls := .type "tuple", data := .seq #[.int i tk, y] } := (sb.2 _ (Nat.ne_of_gt hel)).trans hT
    have new : ObjOk X.prog X.w (upd H s.heap.objs.size (.tup [.int (i : Nat), x])) h'' s.heap.objs.size (.tup [.int (i : Nat), x]) :=
      ⟨by show 2 ≤ sizeLine; decide, [.int i tk, y], .cons ⟨_, rfl⟩ (.cons ru .nil), ⟨_, hT2, rfl, _, rfl⟩⟩
    have I1 : Inv X pins σ (upd H s.heap.objs.size (.tup [.int (i : Nat), x])) { s with heap := h'', toks := tk + 1 } :=
      I.turnedNew (ch := [e, it]) (fun b ob hb q => (sb.2 b (fun z => hb (by simp [z]))).trans (hk b ob (fun z => hb (by simp [z])) (fun z => hb (by simp [z])) q)) hf (Nat.le_refl _) new
    refine ⟨.ref s.heap.objs.size, _, I1, rfl, ⟨_, x, rfl, I.hok.fresh (Nat.le_refl _), rfl, fun ys hy => by rw [I.tuple_inj hy hq]; exact hx⟩, ⟨⟨y, ?_⟩, hit'.at fun o q => (sb.2 it (Ne.symm hne)).trans q, hne, hai, hea⟩, fun b hb => ?_⟩
    · have e1 : ((i + 1 : Nat) : Int) = (i : Int) + 1 := by omega
      rw [e1]; exact he'
    · have hb' : b < s.heap.objs.size := by
        have e' : b = e ∨ b = it := by simpa using hb
        rcases e' with z | z
        · rw [z]; exact hel
        · rw [z]; exact hil
      rw [upd_ne (Nat.ne_of_lt hb')]
      exact (hf b hb).1
  done := by
    intro X hP hw hK hc i pins s σ H E I hf st hg
    subst hP hw hK
    obtain ⟨⟨old, he⟩, hit, hne, hai, hea⟩ := st
    obtain ⟨xs, hq, hx⟩ := hg
    obtain ⟨its, rv, p, hz⟩ := I.tuple hq
    obtain ⟨f0, f1, f2, f3, f4, f5⟩ := hf it (by simp)
    have hl := rv.length
    have hT : s.TypeIs (.ref e) "enumerate" := ⟨_, he, rfl⟩
    unfold pyNext
    refine wpAny_bind (wpAny_attempt (wpAny_callSpecial?_slot (name := Str.ofString "__next__") hT F.slot_enumerate_next
      (wpAny_call_entry F.slot_enumerate_next hT F.entry_enumerate_next ?_ (F.args_enumerate_next_1 _))))
    show wpAny _ _ (field (.ref e) 2 >>= _) _ _ _
    refine wpAny_bind (wpAny_field he rfl (x := .ref it) rfl ?_)
    refine wpAny_bind (wpAny_nextOf_tuple_end (I.ok.hd hc) hit p (by simp; omega) fun h' x he' hx' => ?_)
    obtain ⟨o, ho, hc'⟩ := hx'
    refine wpAny_bind (wpAny_isInstance (T := "StopIteration") (b := true) ⟨o, ho, hc'⟩ isSubtype_stop ?_)
    exact wpAny_pure ⟨rfl, I.turned (t' := s.toks) (fun b o hb q => he' b o hb q) f0 f1 f3 f4 f5⟩
  self := fun A i s Q E st h => let ⟨⟨_, he⟩, _⟩ := st; wpAny_pyIter_enum he h
def iEnumT (K : PySem.W.Frag) (ta : TA) : TI := fun σ H R => ta σ H fun vs H1 => ∃ a xs, vs = [.ref a] ∧ SqT K H1 a xs ∧ R (IteT K a) H1
theorem pi_enumT {X : Cx} {e : Expr} {ta : TA} {p pos tpos : Pos} {elts : List Expr} {kk : Nat} (hg : Gl X "enumerate") (hm : X.mg "enumerate" = none) (ha : PA X [e] ta) (hs : starEach [e] X.env = [(false, eval e X.env)] := by rfl) :
    PI X (.Tuple elts kk tpos) (.Call (.Name "enumerate" p) [e] [] pos) (iEnumT X.K ta) := by
  refine ⟨fun pins s σ H R I h => ?_⟩
  refine Call_ (ld_blt I hg hm boot_enumerate (PyProof.Rows.callWith_type1 (thn (ha.run pos pins s σ H _ I h) fun us s1 ⟨vs, H1, I1, r1, q1⟩ => ?_) hs rfl))
  obtain ⟨a, xs, ex, hq, q⟩ := q1
  subst ex
  cases r1 with
  | cons r rr =>
    cases rr
    cases r
    obtain ⟨its, rv, p', hz⟩ := I1.tuple hq
    have hal : a < s1.heap.objs.size := by obtain ⟨_, q, _⟩ := p'; exact Heap.lt_size q
    refine em_enum_begins (begins_tuple a its.toArray) p' fun h' he hit hsz hk => wpAny_pyIter_enum he ?_
    have I2 : Inv X pins σ H1 { s1 with heap := h' } := I1.kept (t' := s1.toks) hk
    refine ⟨s1.heap.objs.size + 1, [s1.heap.objs.size + 1, s1.heap.objs.size], _, _, H1, rfl, I2, turn_enumT a (s1.heap.objs.size + 1) s1.heap.objs.size, ⟨⟨.none, he⟩, ⟨_, hit, rfl, rfl⟩, Nat.succ_ne_self _, Nat.ne_of_lt hal, Nat.ne_of_gt (Nat.lt_succ_of_lt hal)⟩, fun b hb => ?_, q⟩
    have e' : b = s1.heap.objs.size + 1 ∨ b = s1.heap.objs.size := by simpa using hb
    have hle : s1.heap.objs.size ≤ b := by
      rcases e' with z | z
      · rw [z]; exact Nat.le_add_right _ _
      · rw [z]; exact Nat.le_refl _
    exact I1.fpOk hle (I1.hok.fresh hle)
theorem walk_enumT {K : PySem.W.Frag} {a : Addr} {xs : List V} : Walk (IteT K a) xs.length (fun H => SqT K H a xs) (YPair (fun i => some (.int (i : Nat))) (fun i => xs[i]?)) :=
  ⟨fun i H hi g => ⟨xs, xs[i], g, List.getElem?_eq_getElem hi⟩, fun H g => ⟨xs, g, Nat.le_refl _⟩, fun i H x H' hi g ⟨T, y, e1, e2, e3, e4⟩ => ⟨T, .int (i : Nat), y, e1, e2, e3, rfl, e4 xs g⟩⟩
end EM
/-! EM4: calls with keywords, defaults, != of lists of the same objects, xs[::-1] of a tuple. -/
namespace EM
open PySem PySem.Spec PyProof.Rows L2
/-! ### keywords -/
abbrev Sp2 := List V → List V → Hp → VK → XK → Prop
def FnK (P : Program) (w : World) (K : PySem.W.Frag) (mg : Str → Option Value) (base : Heap) (CX : CXT) (k : Nat) (f : Addr) (ks : List Str) (sp : Sp2) : Prop :=
  ∀ (A : Around) (outer : List Env) (s : Shared) (H : Hp) (us ws : List Value) (vs zs : List V) (Q : VK) (E : XK), Room k A → Env0 P w K mg base A outer s H → Vals vs us → Vals zs ws → sp vs zs H Q E →
    codeAny (model P w) A (.call (.ref f) ⟨us, ks.zip ws⟩) (CR CX outer P w H s Q E) s
section
variable {P : Program} {w : World} {K : PySem.W.Frag} {mg : Str → Option Value} {base : Heap} {CX : CXT} {k n : Nat} {f : Addr} {fd : FuncData} {ps ks : List Str} {sp : Sp} {g : List Value → List Value → List Value} {gV : List V → List V → List V}
theorem fnk_of (F : FnOk P w K mg base CX k f fd ps sp) (hb : KBn K fd ps n ks g gV) : FnK P w K mg base CX k f ks (fun vs zs H Q E => vs.length = n ∧ zs.length = ks.length ∧ sp (gV vs zs) H Q E) := by
  intro A outer s H us ws vs zs Q E hr e0 r rz ⟨l1, l2, h⟩
  have r2 := hb.rel r rz
  have b := hb.to s us ws (e0.mod.kin.keeps fun b o e => (e0.bs b o e).1) (by rw [← r.length]; exact l1) (by rw [← rz.length]; exact l2)
  exact F.run A outer s H ⟨us, ks.zip ws⟩ (g us ws) (gV vs zs) Q E hr e0 b r2 h
end
def tCK (sp : Sp2) (E : XK) (t tk : TA) : TE := fun σ H Q => t σ H fun vs H1 => tk σ H1 fun zs H2 => sp vs zs H2 Q E
section
variable {X : Cx} {CX : CXT} {k n : Nat} {f : Addr} {ks : List Str} {sp : Sp2} {E : XK} {x : Str} {p pos : Pos} {e : Expr} {es : List Expr} {kws : List Keyword} {t tk : TA}
theorem run_fnK {pins : List (Addr × Obj)} {σ : L2.St} {H : Hp} {s : Shared} {Q : VK} {us ws : List Value} {vs zs : List V} (F : FnK X.prog X.w X.K X.mg X.base CX k f ks sp) (hr : Room k X.A) (hx : Passes CX X E)
    (I : Inv X pins σ H s) (r : Vals vs us) (rz : Vals zs ws) (h : sp vs zs H Q E) : wpAny (model X.prog X.w) X.A (call (.ref f) us (ks.zip ws)) (EP X pins σ Q) X.xe s := by
  refine wpAny_call (codeAny_mono (F X.A X.stack s H us ws vs zs Q E hr I.env0 r rz h) fun r s' hq => ?_)
  cases r with
  | error e => exact hx pins σ H s e s' I hq
  | ok fl =>
    cases fl with
    | ret u => exact I.after hq
    | next => exact False.elim hq
    | brk => exact False.elim hq
    | cont => exact False.elim hq
/-- f(e, .., k = v, ..) -/
theorem pe_cK (F : FnK X.prog X.w X.K X.mg X.base CX k f ks sp) (hr : Room k X.A) (hk : PySem.W.keepIn X.K (.ref f) = true) (hm : X.mg x = some (.ref f)) (hx : Passes CX X E)
    (ha : PA X (e :: es) t) (hkw : PK X kws tk) (hg : Gl X x := by rfl) (hall : (backToKw pos (keywordEach kws X.env)).all (·.1.isSome) = true := by rfl) (hks : (backToKw pos (keywordEach kws X.env)).filterMap (·.1) = ks := by rfl)
    (hdb : (x == ("__debug__" : Str)) = false := by decide) (he : starEach (e :: es) X.env = (false, eval e X.env) :: starEach es X.env := by rfl)
    (hpl : ((backTo pos (starEach (e :: es) X.env)).any (·.1) || (backToKw pos (keywordEach kws X.env)).any (·.1.isNone)) = false := by rfl) :
    PE X (.Call (.Name x p) (e :: es) kws pos) (tCK sp E t tk) := by
  refine ⟨fun pins s σ H Q I h => ?_⟩
  refine wpAny_Call_Name_kw (ld_glob I hg hm ?_ hdb)
  refine PySem.W.callWith_KW (h₀ := X.base) I.ok.mod.kin hk hall (thn (ha.run pos pins s σ H _ I h) fun us s1 ⟨vs, H1, I1, r, q⟩ => ?_) hpl he
  refine thn (hkw.run pos pins s1 σ H1 _ I1 q) fun ws s2 ⟨zs, H2, I2, rz, q2⟩ => ⟨I2.kIn, ?_⟩
  rw [hks]
  exact run_fnK F hr hx I2 r rz q2
/-- f(k = v, ..) -/
theorem pe_cK0 (F : FnK X.prog X.w X.K X.mg X.base CX k f ks sp) (hr : Room k X.A) (hk : PySem.W.keepIn X.K (.ref f) = true) (hm : X.mg x = some (.ref f)) (hx : Passes CX X E)
    (hkw : PK X kws tk) (hg : Gl X x := by rfl) (hall : (backToKw pos (keywordEach kws X.env)).all (·.1.isSome) = true := by rfl) (hks : (backToKw pos (keywordEach kws X.env)).filterMap (·.1) = ks := by rfl)
    (hdb : (x == ("__debug__" : Str)) = false := by decide)
    (hpl : ((backTo pos (starEach [] X.env)).any (·.1) || (backToKw pos (keywordEach kws X.env)).any (·.1.isNone)) = false := by rfl) :
    PE X (.Call (.Name x p) [] kws pos) (tCK sp E tNil tk) := by
  refine ⟨fun pins s σ H Q I h => ?_⟩
  refine wpAny_Call_Name_kw (ld_glob I hg hm ?_ hdb)
  refine PySem.W.callWith_KW0 (h₀ := X.base) I.ok.mod.kin hk hall ?_ hpl
  refine thn (hkw.run pos pins s σ H _ I h) fun ws s2 ⟨zs, H2, I2, rz, q2⟩ => ⟨I2.kIn, ?_⟩
  rw [hks]
  exact run_fnK (us := []) (vs := []) F hr hx I2 .nil rz q2
end
/-! ### a def with defaults, called by position -/
section
variable {P : Program} {w : World} {K : PySem.W.Frag} {mg : Str → Option Value} {base : Heap} {x qual : Str} {params : Arguments} {body : List Stmt} {scope : Scope} {dvs : List V} {kws : List (Str × V)} {f : Addr} {fd : FuncData}
/-- n values are written, the defaults behind the first j fill up -/
theorem fnr_dfl {N ps : List Str} {k : Nat} {sp : Sp} (n j : Nat) (F : FunD K x qual params body scope dvs kws f fd) (S : FnScope N ps scope) (hd : dvs ≠ []) (hn : n + (dvs.length - j) = ps.length)
    (h : ∀ (T : Addr) (kV doc pm : Value) (an : Option Addr) (cdv ct : Value) (us its : List Value), us.length = n → its.length = dvs.length →
      ∃ k, bindArgs (PySem.W.fnOf x qual params body scope (.ref T) kV doc pm an cdv ct) ⟨us, []⟩ = seqItems? (.ref T) >>= k ∧ k (some its.toArray) = pure (ps.zip (us ++ its.drop j)))
    (len : ∀ vs H Q E, sp vs H Q E → vs.length = ps.length) (hbody : Bod P w K mg base N qual scope f body k sp) : FnR P w K mg base (L2.CX P w) (k + 1) f (fun vs H Q E => sp (vs ++ dvs.drop j) H Q E) := by
  have G := FunD.ok (P := P) (w := w) (mg := mg) (base := base) (CX := L2.CX P w) F S len hbody
  obtain ⟨ds, hv, B⟩ := F.binds1 n j hd hn h
  exact FnOk.raw G B hv
/-- .. with keywords -/
theorem fnk_dfl {N ps : List Str} {k : Nat} {sp : Sp} (n : Nat) (ks : List Str) (g : {α : Type} → List α → List α → List α → List α) (F : FunD K x qual params body scope dvs kws f fd) (S : FnScope N ps scope) (hd : dvs ≠ [])
    (hrel : ∀ {vs ds zs : List V} {us its ws : List Value}, Vals vs us → Vals ds its → Vals zs ws → Vals (g vs ds zs) (g us its ws))
    (h : ∀ (T : Addr) (kV doc pm : Value) (an : Option Addr) (cdv ct : Value) (us its ws : List Value), us.length = n → its.length = dvs.length → ws.length = ks.length →
      ∃ k, bindArgs (PySem.W.fnOf x qual params body scope (.ref T) kV doc pm an cdv ct) ⟨us, ks.zip ws⟩ = seqItems? (.ref T) >>= k ∧ k (some its.toArray) = pure (ps.zip (g us its ws)))
    (len : ∀ vs H Q E, sp vs H Q E → vs.length = ps.length) (hbody : Bod P w K mg base N qual scope f body k sp) : FnK P w K mg base (L2.CX P w) (k + 1) f ks (fun vs zs H Q E => vs.length = n ∧ zs.length = ks.length ∧ sp (g vs dvs zs) H Q E) := by
  have G := FunD.ok (P := P) (w := w) (mg := mg) (base := base) (CX := L2.CX P w) F S len hbody
  obtain ⟨its, B⟩ := F.kbindsD n ks g hd hrel h
  exact fnk_of G B
end
end EM
/-! ### != of two lists whose items are equal -/
namespace GQ
open PySem PySem.SeqAt
open AutoSeq1 (wpAny_loadPart')
open MeetsSeq MeetsSeq2 MeetsSeq3 SeqRoads2
section
variable {prog : Program} {w : World} {A : Around} {R : Result → Shared → Prop}
theorem ne_loopG (l b : Addr) (N : Nat) (I : Nat → Shared → Prop) (hl : ListI prog w A (fun e s' => R (.error e) s') l b N I)
    (fin : ∀ s, I N s → R (.ok (.ret (.bool false))) s) (k : Nat) :
    ∀ i : Nat, N - i = k → i ≤ N → ∀ s, I i s →
      wpAny (model prog w) A.in1 (Builtin.«list.__eq__.loop» ⟨[.ref l, .ref b, rawInt i, rawInt 3], []⟩) (FinOf prog w A R) (fun e s' => R (.error e) s') s := by
  induction k with
  | zero =>
    intro i hk hi s h
    obtain ⟨items, items2, n, n2, hl1, hb1, hs1, hs2, _⟩ := hl _ _ h
    have hi' : i = N := by omega
    have hR : R (.ok (.ret (.bool false))) s := fin s (hi' ▸ h)
    obtain ⟨hp, g, d, tk, os⟩ := s
    wp_walk using wpAny_loadPart' hl1, wpAny_loadPart' hb1
    have hi1 : items[((i : Nat) : Int).toNat]? = none := by simp; omega
    have hi2 : items2[((i : Nat) : Int).toNat]? = none := by simp; omega
    rw [hi1, hi2]
    wp_walk using wpAny_loadPart' hl1, wpAny_loadPart' hb1
    show R (.ok (.ret (.bool (items.size != items2.size)))) _
    rw [hs1, hs2]
    simpa using hR
  | succ k ih =>
    intro i hk hi s h
    obtain ⟨items, items2, n, n2, hl1, hb1, hs1, hs2, turn⟩ := hl _ _ h
    have hlt : i < items.size := by omega
    have hlt2 : i < items2.size := by omega
    have ht := turn hlt hlt2
    obtain ⟨hp, g, d, tk, os⟩ := s
    wp_walk using wpAny_loadPart' hl1, wpAny_loadPart' hb1
    have hi1 : items[((i : Nat) : Int).toNat]? = some items[i] := by simp [hlt]
    have hi2 : items2[((i : Nat) : Int).toNat]? = some items2[i] := by simp [hlt2]
    have hc : ((i : Int) + 1) = ((i + 1 : Nat) : Int) := by omega
    rw [hi1, hi2]
    refine wpAny_bind (wpAny_mono ht (fun r s2 h2 => ?_) fun _ _ x => x)
    obtain ⟨hr, h2⟩ := h2
    subst hr
    have hrec := ih (i + 1) (by omega) (by omega) s2 h2
    obtain ⟨hp2, g2, d2, tk2, os2⟩ := s2
    wp_walk
    rw [hc]
    exact ⟨plainId_quiet plain_eq_loop _, codeAny_builtin entry_eq_loop (by
      rw [Around.under_plainId plain_eq_loop _]
      exact hrec)⟩
theorem list_neG (l b : Addr) (N : Nat) (I : Nat → Shared → Prop) (hl : ListI prog w A (fun e s' => R (.error e) s') l b N I)
    (fin : ∀ s, I N s → R (.ok (.ret (.bool false))) s) {s : Shared} (h : I 0 s) :
    wpAny (model prog w) A.in1 (Builtin.«list.__ne__» ⟨[.ref l, .ref b], []⟩) (FinOf prog w A R) (fun e s' => R (.error e) s') s := by
  obtain ⟨items, items2, n, n2, hl1, hb1, hs1, hs2, _⟩ := hl _ _ h
  have hrec := ne_loopG (A := A) (R := R) l b N I hl fin _ 0 rfl (Nat.zero_le _) s h
  obtain ⟨hp, g, d, tk, os⟩ := s
  have f3 := AutoSeq1.sub_list_list
  have hne : ¬ (items.size != items2.size) = true := by simp [hs1, hs2]
  wp_walk using wpAny_loadPart' hl1, wpAny_loadPart' hb1
  exact ⟨plainId_quiet plain_eq_loop _, codeAny_builtin entry_eq_loop (by
    rw [Around.under_plainId plain_eq_loop _]
    exact hrec)⟩
end
section
variable {prog : Program} {w : World} {A : Around} {E : Value → Shared → Prop} {s : Shared}
theorem rc_listNeG {l b : Addr} {N : Nat} {Q : Value → Shared → Prop} (hu : A.units < cLine) (I : Nat → Shared → Prop) (hl : ListI prog w A E l b N I)
    (fin : ∀ s, I N s → Q (.bool false) s) (h : I 0 s) : wpAny (model prog w) A (richCompare .NotEq (.ref l) (.ref b)) Q E s := by
  obtain ⟨items, items2, n, n2, hl1, hb1, _, _, _⟩ := hl _ _ h
  refine wpAny_richCompare_same_room (op := .NotEq) ⟨_, hl1, rfl⟩ ⟨_, hb1, rfl⟩ F.slot_list_ne (call_here F.slot_list_ne ⟨_, hl1, rfl⟩ F.entry_list_ne (F.args_list_ne_2 _ _) ?_) hu
  exact list_neG (R := wants (fun v s' => v ≠ .notImplemented ∧ Q v s') E) l b N I hl (fun s' q => ⟨(fun x => nomatch x), fin s' q⟩) h
end
end GQ
namespace EM
open PySem PySem.Spec PyProof.Rows L2
/-- the very same objects -/
def DSame : Eqv := fun x y _ => ∃ a, x = .ref a ∧ y = .ref a
theorem mon_same : Mon DSame := fun _ _ _ _ _ d => d
section
variable {X : Cx} {n : Nat} {D : Eqv}
theorem eqG_same : EqG X 0 DSame := by
  intro A pins s σ H x y u v sb I rx ry d
  obtain ⟨a, rfl, rfl⟩ := d
  cases rx
  cases ry
  unfold eqBool
  refine wpAny_holding ?_
  refine wpAny_ite_split (fun _ => ?_) (fun h => absurd (beq_self_eq_true _) h)
  exact wpAny_bind (wpAny_rule (wpAny_pure ⟨rfl, H, I, Ext.rfl'⟩))
/-- x != y of two lists whose items are seen to be equal -/
def rNeG (D : Eqv) : R2 := fun x y H Q => DList D x y H ∧ ∀ H', Ext H H' → Q (.bl false) H'
theorem op_neG (hD : Mon D) (h : EqG X n D) (hr : Room (n + 1) X.A) : OpR X (compareOp .NotEq) (rNeG D) := by
  intro pins s σ H x y v u Q I rx ry hq
  obtain ⟨d, q⟩ := hq
  obtain ⟨a, b, xs, ys, rfl, rfl, ha, hb, p⟩ := d
  cases rx
  cases ry
  have sb : Sub X (n + 1) X.A := ⟨hr, rfl⟩
  show wpAny (model X.prog X.w) X.A (richCompare .NotEq (.ref a) (.ref b)) (EP X pins σ Q) X.xe s
  refine GQ.rc_listNeG (N := xs.length) sb.room.units0 (fun _ s' => LoopI X pins σ H s') (fun i s' q => ?_) (fun s' ⟨H', I', e⟩ => ⟨.bl false, H', I', rfl, q H' e⟩) ⟨H, I, Ext.rfl'⟩
  obtain ⟨H1, I1, e1⟩ := id q
  obtain ⟨z, its, k, r, e⟩ := I1.hok a _ (e1 _ _ ha)
  obtain ⟨z2, its2, k2, r2, e2⟩ := I1.hok b _ (e1 _ _ hb)
  refine ⟨its.toArray, its2.toArray, k, k2, e, e2, by rw [List.size_toArray, ← r.length], by rw [List.size_toArray, ← r2.length, ← p.1], fun h1 h2 => ?_⟩
  exact turnG hD h sb p r r2 i h1 h2 s' q
end
end EM
/-! EM5: t[::-1] of a tuple. -/
namespace HT
open PySem PySem.Spec PyProof.Rows
section
variable {prog : Program} {w : World} {A : Around} {E : Value → Shared → Prop} {s : Shared}
theorem em_adjust (n : Nat) : Builtin.Slice.sliceAdjust none none (-1) (n : Int) = ((n : Int) - 1, -1) := by
  unfold Builtin.Slice.sliceAdjust
  simp
theorem em_places (n : Nat) : Builtin.Slice.slicePlaces ((n : Int) - 1) (-1) (-1) = n := by
  unfold Builtin.Slice.slicePlaces
  have h1 : ¬ ((-1 : Int) > 0) := by omega
  simp only [h1, if_false, Int.neg_neg, Int.ediv_one]
  split <;> omega
theorem em_pickG (f : Nat → Option Value) (l : List Value) (h : ∀ m, m < l.length → f m = l[m]?) : (List.range l.length).filterMap f = l := by
  induction l generalizing f with
  | nil => rfl
  | cons a r ih =>
    rw [List.length_cons, List.range_succ_eq_map, List.filterMap_cons]
    have h0 : f 0 = some a := by rw [h 0 (by simp)]; rfl
    rw [h0, List.filterMap_map]
    have := ih (f ∘ Nat.succ) (fun m hm => by
      show f (m + 1) = _
      rw [h (m + 1) (by simp; omega)]
      rfl)
    rw [this]
theorem em_pick (xs : Array Value) : ((List.range xs.size).filterMap fun (m : Nat) => xs[(((xs.size : Int) - 1) + (m : Int) * (-1)).toNat]?) = xs.toList.reverse := by
  have hl : xs.size = xs.toList.reverse.length := by simp
  have := em_pickG (fun (m : Nat) => xs[(((xs.size : Int) - 1) + (m : Int) * (-1)).toNat]?) xs.toList.reverse (fun m hm => by
    have hm' : m < xs.size := by simpa using hm
    have e1 : (((xs.size : Int) - 1) + (m : Int) * (-1)).toNat = xs.size - 1 - m := by omega
    show xs[(((xs.size : Int) - 1) + (m : Int) * (-1)).toNat]? = _
    rw [e1, List.getElem?_reverse (by simpa using hm')]
    simp)
  rw [← hl] at this
  exact this
theorem em_sliceApplied {sl : Addr} {vs : Value} {n : Nat} {Q : Int × Int × Nat → Shared → Prop} (hs : s.heap.IsSliceOf sl .none .none vs) (ps : IsPart vs (some (-1)))
    (h : Q ((n : Int) - 1, -1, n) s) : wpAny (model prog w) A (Builtin.Slice.sliceApplied (.ref sl) (pure (n : Int))) Q E s := by
  obtain ⟨os, hos, hcs, hds⟩ := id hs
  unfold Builtin.Slice.sliceApplied Builtin.Slice.sliceFields
  refine wpAny_bind (wpAny_bind (wpAny_field hos hds (x := .none) rfl (wpAny_bind (wpAny_field hos hds (x := .none) rfl (wpAny_bind (wpAny_field hos hds (x := vs) rfl (wpAny_pure ?_)))))))
  refine wpAny_bind (slicePart_ ps ?_)
  show wpAny _ _ (if ((-1 : Int) == 0) = true then _ else _) _ _ s
  rw [if_neg (by decide)]
  refine wpAny_bind (slicePart_none (wpAny_bind (slicePart_none (wpAny_bind (wpAny_pure ?_)))))
  show wpAny _ _ (match Builtin.Slice.sliceAdjust none none (-1) (n : Int) with | (lo, hi) => pure (lo, (-1 : Int), Builtin.Slice.slicePlaces lo hi (-1))) _ _ s
  rw [em_adjust n]
  show wpAny _ _ (pure ((n : Int) - 1, (-1 : Int), Builtin.Slice.slicePlaces ((n : Int) - 1) (-1) (-1))) _ _ s
  rw [em_places]
  exact wpAny_pure h
theorem em_revT {t sl : Addr} {items : Array Value} {vs : Value} {Q : Value → Shared → Prop} (ht : IsTup s.heap t items) (hs : s.heap.IsSliceOf sl .none .none vs) (ps : IsPart vs (some (-1)))
    (h : Q (.ref s.heap.objs.size) { s with heap := s.heap.push { cls := .type "tuple", data := .seq items.toList.reverse.toArray } })
    (hsz : items.size ≤ sizeLine) : wpAny (model prog w) A (getItem (.ref t) (.ref sl)) Q E s := by
  have htake : sizeOk (.seq items.toList.reverse.toArray) := by
    show items.toList.reverse.toArray.size ≤ sizeLine
    rw [List.size_toArray, List.length_reverse, Array.length_toList]
    exact hsz
  obtain ⟨os, hos, hcs, hds⟩ := id hs
  have hTs : s.TypeIs (.ref sl) "slice" := ⟨os, hos, hcs⟩
  unfold getItem
  try with_reducible refine wpAny_holding ?_
  first | refine wpAny_bind (wpAny_pure ?_) | skip
  refine wpAny_bind (wpAny_sequenceKey ht.typeIs (by decide) ?_)
  refine wpAny_bind (wpAny_callSpecial?_slot (name := Str.ofString "__getitem__") ht.typeIs PyProof.Rows.slot_tuple_getitem
    (wpAny_call_entry PyProof.Rows.slot_tuple_getitem ht.typeIs entry_tuple_getitem ?_ (args_tuple_getitem _ _)))
  show wpAny _ _ (Builtin.Tuple.tupleItemsOf (.ref t) >>= _) _ _ s
  refine wpAny_bind (tupleItemsOf_ ht ?_)
  refine wpAny_bind (wpAny_typeOf hTs ?_)
  rw [if_pos (by decide)]
  refine wpAny_bind (em_sliceApplied hs ps ?_)
  have hno : ¬ ((((items.size : Int) - 1) == 0 && (-1 : Int) == 1 && items.size == items.size) = true) := by
    intro q
    rw [Bool.and_eq_true, Bool.and_eq_true] at q
    exact absurd (eq_of_beq q.1.2) (by decide)
  show wpAny _ _ (if (((items.size : Int) - 1) == 0 && (-1 : Int) == 1 && items.size == items.size) = true then _ else _) _ _ s
  rw [if_neg hno, em_pick]
  first
    | exact wpAny_bind (m := Builtin.Tuple.tupleExact _) (wpAny_newObj_type (wpAny_pure ⟨_, rfl, wpAny_pure h⟩) htake)
    | exact wpAny_bind (m := Builtin.Tuple.tupleExact _) (wpAny_newObj_type (wpAny_bind (wpAny_pure (wpAny_pure ⟨_, rfl, wpAny_pure h⟩))) htake)
    | exact wpAny_bind (wpAny_bind (m := Builtin.Tuple.tupleExact _) (wpAny_newObj_type (wpAny_pure (wpAny_pure ⟨_, rfl, wpAny_pure h⟩)) htake))
    | exact wpAny_bind (wpAny_bind (m := Builtin.Tuple.tupleExact _) (wpAny_newObj_type (wpAny_pure ⟨_, rfl, wpAny_pure h⟩) htake))
end
end HT
namespace EM
open PySem PySem.Spec PyProof.Rows L2
section
variable {X : Cx}
def tRevT (K : PySem.W.Frag) (te : TE) : TE := fun σ H Q => te σ H fun x H1 => ∃ a xs, x = .ref a ∧ SqT K H1 a xs ∧ ∀ p, H1 p = none → Q (.ref p) (upd H1 p (.tup xs.reverse))
theorem pe_revT {e : Expr} {te : TE} {k : Nat} {p1 p2 p3 pos : Pos} (he : PE X e te) : PE X (.Subscript e (.Slice none none (some (.UnaryOp .USub (.Constant (.int 1) k p1) p2)) p3) pos) (tRevT X.K te) := by
  refine ⟨fun pins s σ H Q I h => ?_⟩
  refine Subscript_ (thn (he.run pins s σ H _ I h) fun v s1 ⟨x, H1, I1, r1, q1⟩ => ?_)
  obtain ⟨a, xs, ex, hx, q⟩ := q1
  subst ex
  cases r1
  have hst : PO X (some (.UnaryOp .USub (.Constant (.int 1) k p1) p2)) (tPart (tUn (rU fun i => .int (-i)) (tC (.int 1)))) := po_some (pe_un un_neg pe_int)
  refine wpAny_Slice (thn (po_none.run pins s1 σ H1 (fun o H2 => o = none ∧ H2 = H1) I1 ⟨rfl, rfl⟩) fun vl s2 ⟨l, H2, I2, pl, el, e2⟩ => ?_)
  subst el e2
  refine thn (po_none.run pins s2 σ H2 (fun o H3 => o = none ∧ H3 = H2) I2 ⟨rfl, rfl⟩) fun vu s3 ⟨u, H3, I3, pu, eu, e3⟩ => ?_
  subst eu e3
  refine thn (hst.run pins s3 σ H3 (fun o H4 => o = some (-1) ∧ H4 = H3) I3 ⟨1, rfl, -1, rfl, rfl, rfl⟩) fun vs s4 ⟨o, H4, I4, ps, eo, e4⟩ => ?_
  subst eo e4
  have I5 : Inv X pins σ H4 { s4 with heap := s4.heap.push { cls := .type "slice", data := .fields #[vl, vu, vs] } } := I4.kept (t' := s4.toks) fun b ob q => Heap.get?_push_of_some _ q
  obtain ⟨its, r, ht, hz⟩ := I5.tuple hx
  have hlen := r.length
  show wpAny (model X.prog X.w) X.A (subscriptTail e (.Slice none none (some (.UnaryOp .USub (.Constant (.int 1) k p1) p2)) p3) (.ref a) (.ref s4.heap.objs.size)) (EP X pins σ Q) X.xe { s4 with heap := s4.heap.push { cls := .type "slice", data := .fields #[vl, vu, vs] } }
  refine tail_any (ops := [.ref a, .ref s4.heap.objs.size]) ht.typeIs (PyProof.Rows.slot_tuple_getitem.lookup) ?_ (by with_unfolding_all rfl)
  cases pl
  cases pu
  refine HT.em_revT ht (Heap.IsSliceOf.new _ .none .none vs) ps ?_ (by rw [List.size_toArray]; omega)
  refine ⟨.ref _, _, I5.laid (t' := s4.toks) (o := .tup xs.reverse) (fun b ob q => Heap.get?_push_of_some _ q) (Nat.le_refl _) ?_, rfl, q _ (I5.hok.fresh (Nat.le_refl _))⟩
  exact ⟨by rw [List.length_reverse]; exact hz, _, r.reverse, IsTup.new _ _⟩
end
end EM
/-! EM6: constants of the module, facts of a class as Bools, heaps. -/
namespace EM
open PySem PySem.Spec PyProof.Rows L2
section
variable {X : Cx} {x : Str} {i : Int} {z : Str} {pos : Pos}
theorem pe_gI (hm : ∃ t, X.mg x = some (.int i t)) (hg : Gl X x := by rfl) (hd : (x == ("__debug__" : Str)) = false := by decide) : PE X (.Name x pos) (tC (.int i)) := by
  obtain ⟨t, h⟩ := hm
  exact pe_glob hg h ⟨t, rfl⟩ hd
theorem pe_gS (hm : ∃ t, X.mg x = some (.str z t)) (hg : Gl X x := by rfl) (hd : (x == ("__debug__" : Str)) = false := by decide) : PE X (.Name x pos) (tC (.str z)) := by
  obtain ⟨t, h⟩ := hm
  exact pe_glob hg h ⟨t, rfl⟩ hd
end
/-! ### facts of a class -/
/-- what isinstance asks of an instance of the class at C -/
def isiB (K : PySem.W.Frag) (C : Addr) : Bool := He.eqO (PySem.W.findIn K (.ref C) "__class__") (some (some (.builtin "object.__class__"))) && (He.eqO (PySem.W.specialIn K (.builtin "object.__class__") "__get__") (some (some (.builtin "getset_descriptor.__get__"))) &&
  (decide (PySem.W.takesIn K (.builtin "object.__class__") = some true) && decide (PySem.W.mroIn K C (.type "object") = some true)))
theorem isiB_ty {K : PySem.W.Frag} {C : Addr} (c : isiB K C = true) (cl : Cls K C) {H : Hp} {a dx : Addr} {fs : List (Str × V)} (e : H a = some (.ins C dx fs)) : TyX K H (.ref a) (.ref C) := by
  obtain ⟨c1, c⟩ := He.ba c
  obtain ⟨c2, c⟩ := He.ba c
  obtain ⟨c3, c4⟩ := He.ba c
  exact .base (.ins e cl (He.eqO_ok c1) (He.eqO_ok c2) (of_decide_eq_true c3) (of_decide_eq_true c4))
theorem isiB_mro {K : PySem.W.Frag} {C : Addr} (c : isiB K C = true) : PySem.W.mroIn K C (.type "object") = some true := by
  obtain ⟨c1, c⟩ := He.ba c
  obtain ⟨c2, c⟩ := He.ba c
  obtain ⟨c3, c4⟩ := He.ba c
  exact of_decide_eq_true c4
/-- attributes of the class itself are read plainly -/
def creadB (K : PySem.W.Frag) (C : Addr) : Bool := PySem.W.readsIn K C (.type "type") && He.eqO (PySem.W.specialIn K (.ref C) "__getattribute__") (some (some (.builtin "type.__getattribute__")))
theorem creadB_ok {K : PySem.W.Frag} {C : Addr} (c : creadB K C = true) : ClX.CRead K C (.type "type") := by
  obtain ⟨c1, c2⟩ := He.ba c
  exact ⟨c1, He.eqO_ok c2⟩
/-- a classmethod of the class -/
def cmetB (K : PySem.W.Frag) (C : Addr) (m : Str) : Bool := He5.wrapB K C "classmethod" "classmethod.__get__" m && PySem.W.fnIn K (He5.wf K C "classmethod" m)
theorem cmetB_ok {K : PySem.W.Frag} {C : Addr} {m : Str} (c : cmetB K C m = true) : ClX.CMet K C (.type "type") m (He.ma K C m) (He5.wf K C "classmethod" m) := by
  obtain ⟨c1, c2⟩ := He.ba c
  exact He5.cmet_of c1 c2
/-- a constant of the class, an int -/
def cintB (K : PySem.W.Frag) (C : Addr) (f : Str) (i : Int) : Bool := match PySem.W.findCls K (.ref C) (.type "type") f with
  | some (.val (.int j _)) => decide (j = i)
  | _ => false
theorem cintB_ok {K : PySem.W.Frag} {C : Addr} {f : Str} {i : Int} (c : cintB K C f i = true) : ∃ u, ClX.CVal K C (.type "type") f (.int i) u := by
  unfold cintB at c
  split at c
  · rename_i j t e
    have ej : j = i := of_decide_eq_true c
    subst ej
    exact ⟨_, e, ⟨t, rfl⟩⟩
  · cases c
/-- the getter of a property -/
def pf (K : PySem.W.Frag) (C : Addr) (f : Str) : Addr := match PySem.W.recIn K (He.ma K C f) "property" with
  | some (.ref g :: _) => g
  | _ => 0
def neB (K : PySem.W.Frag) (C : Addr) : Bool := He.eqO (PySem.W.findIn K (.ref C) "__ne__") (some (some (.builtin "object.__ne__")))
/-! ### heaps -/
theorem same_upd {H : Hp} {p : Addr} {o : HO} (h : H p = none) : Same H (upd H p o) := fun b u e => by
  rw [upd_ne (ne_of_none e h)]
  exact e
theorem same_upd' {H H1 : Hp} {p : Addr} {o : HO} (e : Same H H1) (h : H p = none) : Same H (upd H1 p o) := fun b u ha => by
  rw [upd_ne (ne_of_none ha h)]
  exact e b u ha
theorem _root_.L2.Same.sqT {K : PySem.W.Frag} {H H' : Hp} {a : Addr} {xs : List V} (e : Same H H') (h : SqT K H a xs) : SqT K H' a xs := Evl.ex_t e h
theorem atI_m {α : Type} {xs : List α} {v : α} {i : Int} {j : Nat} (h : i + (xs.length : Int) = (j : Int)) (h0 : i < 0) (e : xs[j]? = some v) : atI xs i = some v := by
  have hj : j < xs.length := (List.getElem?_eq_some_iff.mp e).1
  have q : ixN xs.length i = some j := by
    unfold ixN
    rw [if_neg (by omega)]
    have : (i + (xs.length : Int)).toNat = j := by omega
    first
      | (rw [if_pos (by omega), this])
      | (split <;> simp_all <;> omega)
  unfold atI
  rw [q]
  exact e
theorem kII {K : PySem.W.Frag} : PySem.W.kitOne K (.type "int") (.type "int") = some true := kit_ty (by decide +kernel)
theorem kIB {K : PySem.W.Frag} : PySem.W.kitOne K (.type "int") (.type "bool") = some false := kit_ty (by decide +kernel)
theorem ifN {c : Bool} {A B : Prop} (h : c = false) (q : B) : if c = true then A else B := by
  rw [h, if_neg Bool.false_ne_true]
  exact q
theorem ifP {c : Bool} {A B : Prop} (h : c = true) (q : A) : if c = true then A else B := by
  rw [if_pos h]
  exact q
theorem yes {σ : L2.St} {H : Hp} {A B : Hp → Prop} (h : A H) : tYes σ H (fun b H3 => if b = true then A H3 else B H3) := by
  show if true = true then A H else B H
  rw [if_pos rfl]
  exact h
theorem dVi {a b : Int} : decide (V.int a = V.int b) = decide (a = b) := by
  by_cases h : a = b
  · subst h; simp
  · have : ¬ V.int a = V.int b := fun q => h (V.int.inj q)
    rw [decide_eq_false h, decide_eq_false this]
theorem cut_from (xs : List V) (j : Nat) (h : j ≤ xs.length) : cutV xs (some (j : Int)) none = xs.drop j := by
  unfold cutV
  have e1 : HT.sIx xs.length 0 (some (j : Int)) = j := by
    show (if (j : Int) < 0 then ((j : Int) + (xs.length : Int)).toNat else min (j : Int).toNat xs.length) = j
    rw [if_neg (by omega)]
    omega
  have e2 : HT.sIx xs.length xs.length none = xs.length := rfl
  rw [e1, e2]
  exact List.take_of_length_le (by rw [List.length_drop]; exact Nat.le_refl _)
theorem sz {n : Nat} (h : n ≤ 100000) : n ≤ sizeLine := Nat.le_trans h (by decide)
theorem szl {n : Nat} (h : n < 100000) : n < sizeLine := Nat.lt_of_lt_of_le h (by decide)
/-! ### data of ints, at any depth -/
theorem dp_ints {K : PySem.W.Frag} {H : Hp} : ∀ ns : List Int, DpAll K H (ns.map V.int) (ns.map PyData.int)
  | [] => .nil
  | n :: r => .cons (.int n) (dp_ints r)
theorem dp_rep {K : PySem.W.Frag} {H : Hp} {v : V} {d : PyData} (h : Dp K H v d) : ∀ n : Nat, DpAll K H (List.replicate n v) (List.replicate n d)
  | 0 => .nil
  | n + 1 => .cons h (dp_rep h n)
theorem lay_ints : ∀ ns : List Int, PyData.canLayAll0 (ns.map PyData.int) = true
  | [] => rfl
  | n :: r => by
    show (PyData.canLay0 (.int n) && PyData.canLayAll0 (r.map PyData.int)) = true
    rw [lay_ints r]
    rfl
theorem dep_ints : ∀ ns : List Int, PyData.depthAll (ns.map PyData.int) = 0
  | [] => rfl
  | n :: r => by
    show max (PyData.depth (.int n)) (PyData.depthAll (r.map PyData.int)) = 0
    rw [dep_ints r]
    rfl
theorem eqv_ints : ∀ ns ms : List Int, PyData.eqvAll (ns.map PyData.int) (ms.map PyData.int) = decide (ns = ms)
  | [], [] => by simp [PyData.eqvAll]
  | [], m :: r => by simp [PyData.eqvAll]
  | n :: r, [] => by simp [PyData.eqvAll]
  | n :: r, m :: q => by
    show (PyData.eqv (.int n) (.int m) && PyData.eqvAll (r.map PyData.int) (q.map PyData.int)) = _
    rw [eqv_ints r q]
    show ((n == m) && decide (r = q)) = _
    by_cases h : n = m
    · subst h
      by_cases h2 : r = q
      · subst h2; simp
      · simp [h2]
    · simp [h]
abbrev dT (ns : List Int) : PyData := .tuple (ns.map PyData.int)
abbrev dL (ns : List Int) : PyData := .list (ns.map PyData.int)
theorem shT (ns : List Int) : SeqAt.shaped (dT ns) = true := by
  unfold SeqAt.shaped
  rw [show (dT ns).canLay0 = PyData.canLayAll0 (ns.map PyData.int) from rfl, lay_ints, show (dT ns).depth = PyData.depthAll (ns.map PyData.int) + 1 from rfl, dep_ints]
  rfl
theorem shL (ns : List Int) : SeqAt.shaped (dL ns) = true := by
  unfold SeqAt.shaped
  rw [show (dL ns).canLay0 = PyData.canLayAll0 (ns.map PyData.int) from rfl, lay_ints, show (dL ns).depth = PyData.depthAll (ns.map PyData.int) + 1 from rfl, dep_ints]
  rfl
theorem eqvT (ns ms : List Int) : PyData.eqv (dT ns) (dT ms) = decide (ns = ms) := eqv_ints ns ms
theorem eqvL (ns ms : List Int) : PyData.eqv (dL ns) (dL ms) = decide (ns = ms) := eqv_ints ns ms
/-! ### a for over a list or a tuple -/
section
variable {X : Cx} {tg : Expr}
def iSeq (tl : TE) : TI := fun σ H R => tl σ H fun x H1 => ∃ a xs, x = .ref a ∧ (H1 a = some (.lst xs) ∨ H1 a = some (.tup xs)) ∧ ∀ J, Walk J xs.length (fun H' => H' a = H1 a) (YAt xs) → R J H1
theorem pi_seq {l : Expr} {tl : TE} (hl : PE X l tl) : PI X tg l (iSeq tl) := by
  refine ⟨fun pins s σ H R I h => ?_⟩
  refine thn (hl.run pins s σ H _ I h) fun v s1 ⟨x, H1, I1, r1, q1⟩ => ?_
  obtain ⟨a, xs, e, hq, q⟩ := q1
  subst e
  cases r1
  rcases hq with hq | hq
  · have q := q _ ((walk_list (K := X.K) (a := a) (xs := xs)).mono (fun H' e => SqL.of (e.trans hq)) fun _ _ _ _ _ _ y => y)
    obtain ⟨its, rv, p, hz⟩ := I1.list (SqL.of hq)
    refine wpAny_pyIter_list p.isList ?_
    refine ⟨s1.heap.objs.size, [s1.heap.objs.size], _, _, H1, rfl, I1.kept (t' := s1.toks) fun b o e => Heap.get?_push_of_some _ e, turn_list a _, ⟨_, Heap.get?_push_size _ rfl, rfl, rfl⟩, fun b hb => ?_, q⟩
    have e : b = s1.heap.objs.size := by simpa using hb
    subst e
    exact I1.fpOk (Nat.le_refl _) (I1.hok.fresh (Nat.le_refl _))
  · have q := q _ ((walk_tup (K := X.K) (a := a) (xs := xs)).mono (fun H' e => SqT.of (e.trans hq)) fun _ _ _ _ _ _ y => y)
    obtain ⟨its, rv, p, hz⟩ := I1.tuple (SqT.of hq)
    refine wpAny_pyIter_tuple (show s1.heap.IsTuple a its.toArray from p) ?_
    refine ⟨s1.heap.objs.size, [s1.heap.objs.size], _, _, H1, rfl, I1.kept (t' := s1.toks) fun b o e => Heap.get?_push_of_some _ e, turn_tuple a _, ⟨_, Heap.get?_push_size _ rfl, rfl, rfl⟩, fun b hb => ?_, q⟩
    have e : b = s1.heap.objs.size := by simpa using hb
    subst e
    exact I1.fpOk (Nat.le_refl _) (I1.hok.fresh (Nat.le_refl _))
end
theorem walk_zipT {K : PySem.W.Frag} {a b : Addr} {xs ys : List V} {n : Nat} (hn : n = min xs.length ys.length) : Walk (RZ.ItzT K a b) n (fun H => SqT K H a xs ∧ SqT K H b ys) (YPair (fun i => xs[i]?) (fun i => ys[i]?)) :=
  ⟨fun i H hi g => ⟨xs, ys, xs[i]'(by omega), ys[i]'(by omega), g.1, g.2, List.getElem?_eq_getElem (by omega), List.getElem?_eq_getElem (by omega)⟩,
   fun H g => ⟨xs, ys, g.1, g.2, by omega⟩, fun i H x H' hi g ⟨T, x1, y1, e1, e2, e3, e4, e5⟩ => ⟨T, x1, y1, e1, e2, e3, e4 xs g.1, e5 ys g.2⟩⟩
end EM
namespace PySem.W
open PyProof.Rows
section
variable {M : Model} {A : Around} {E : Value → Shared → Prop} {s : Shared} {K : Frag} {h₀ : Heap} {env : Env}
theorem em_evalArgs {f : Value} {x y : Bool × Sem Value} {rest : List (Bool × Sem Value)} {Q : Args → Shared → Prop}
    (h : wpAny M A (spliced (x :: y :: rest)) (fun vs s' => Q ⟨vs, []⟩ s') E s) : wpAny M A (evalArgs f true (x :: y :: rest) []) Q E s := by
  obtain ⟨b, x⟩ := x
  cases b <;>
  · unfold evalArgs
    show wpAny M A (spliced (_ :: y :: rest) >>= _) Q E s
    refine wpAny_bind (wpAny_mono h (fun vs s' h' => ?_) fun _ _ x => x)
    refine wpAny_holding ?_
    exact wpAny_bind (wpAny_pure (wpAny_bind (wpAny_pure (wpAny_pure h'))))
theorem em_callWith {pos p : Pos} {f : Value} {first : List Value} {e e2 : Expr} {rest : List Expr} {Q : Value → Shared → Prop} (_X : K.In h₀) (hk : keepIn K f = true) (h : wpAny M A (spliced (backTo pos (starEach (.Starred e p :: e2 :: rest) env))) (fun vs s₁ => K.In s₁.heap ∧ wpAny M A (call f (first ++ vs)) Q E s₁) E s)
    (he : ∃ b : Bool × Sem Value, backTo pos (starEach (.Starred e p :: e2 :: rest) env) = (true, b.2) :: (b.1, (backTo pos (starEach (e2 :: rest) env)).head!.2) :: (backTo pos (starEach (e2 :: rest) env)).tail) :
    wpAny M A (callWith pos f first (backTo pos (starEach (.Starred e p :: e2 :: rest) env)) []) Q E s := by
  obtain ⟨b, he⟩ := he
  rw [he] at h ⊢
  exact ks_call rfl (keeps_K hk) (em_evalArgs h)
end
end PySem.W
namespace EM
open PySem PySem.Spec PyProof.Rows L2
section
variable {X : Cx} {CX : CXT} {k : Nat} {f C : Addr} {sp : Sp} {E : XK} {x : Str} {e e2 : Expr} {es : List Expr} {t : TA} {p sp_ pos : Pos}
/-- C( *y, e, ..) -/
theorem pe_mkS2 (M : Mk X.K C f) (F : FnR X.prog X.w X.K X.mg X.base CX k f sp) (hr : Room (k + 1) X.A) (hm : X.mg x = some (.ref C)) (hx : Passes CX X E) (ha : PA X (.Starred e sp_ :: e2 :: es) t) (hg : Gl X x := by rfl) (hd : (x == ("__debug__" : Str)) = false := by decide)
    (he : ∃ b : Bool × Sem Value, backTo pos (starEach (.Starred e sp_ :: e2 :: es) X.env) = (true, b.2) :: (b.1, (backTo pos (starEach (e2 :: es) X.env)).head!.2) :: (backTo pos (starEach (e2 :: es) X.env)).tail := by exact ⟨(false, _), rfl⟩) :
    PE X (.Call (.Name x p) (.Starred e sp_ :: e2 :: es) [] pos) (StX.tMakeR C sp E t) := by
  refine ⟨fun pins s σ H Q I h => ?_⟩
  refine wpAny_Call_Name_kw (ld_glob I hg hm ?_ hd)
  refine PySem.W.em_callWith (h₀ := X.base) I.ok.mod.kin M.kp (thn (ha.run pos pins s σ H _ I h) fun us s1 ⟨vs, H1, I1, r, q⟩ => ⟨I1.kIn, ?_⟩) he
  exact StX.run_makeR M F hr hx I1 r q
end
end EM
/-! EM7: defs called where no repr is under way (guards), repr of data. -/
namespace EM
open PySem PySem.Spec PyProof.Rows L2
/-- a promise by positional values, where no container is being shown -/
def FnG (P : Program) (w : World) (K : PySem.W.Frag) (mg : Str → Option Value) (base : Heap) (CX : CXT) (k : Nat) (f : Addr) (sp : Sp) : Prop :=
  ∀ (A : Around) (outer : List Env) (s : Shared) (H : Hp) (us : List Value) (vs : List V) (Q : VK) (E : XK), Room k A → A.guards = some [] → Env0 P w K mg base A outer s H → Vals vs us → sp vs H Q E →
    codeAny (model P w) A (.call (.ref f) ⟨us, []⟩) (CR CX outer P w H s Q E) s
theorem gOf {P : Program} {w : World} {K : PySem.W.Frag} {mg : Str → Option Value} {base : Heap} {CX : CXT} {k : Nat} {f : Addr} {sp : Sp} (F : FnR P w K mg base CX k f sp) : FnG P w K mg base CX k f sp :=
  fun A outer s H us vs Q E hr _ e0 r h => F A outer s H us vs Q E hr e0 r h
section
variable {X : Cx} {CX : CXT} {k : Nat} {f C : Addr} {sp : Sp} {E : XK} {x m : Str} {e o : Expr} {es : List Expr} {te ta : TE} {t : TA} {p sp_ pos apos : Pos}
theorem run_fnG {pins : List (Addr × Obj)} {σ : L2.St} {H : Hp} {s : Shared} {Q : VK} {us : List Value} {vs : List V} (F : FnG X.prog X.w X.K X.mg X.base CX k f sp) (hr : Room k X.A) (hG : X.A.guards = some []) (hx : Passes CX X E) (I : Inv X pins σ H s) (r : Vals vs us) (h : sp vs H Q E) :
    wpAny (model X.prog X.w) X.A (call (.ref f) us) (EP X pins σ Q) X.xe s := by
  refine wpAny_call (codeAny_mono (F X.A X.stack s H us vs Q E hr hG I.env0 r h) fun r s' hq => ?_)
  cases r with
  | error e => exact hx pins σ H s e s' I hq
  | ok fl =>
    cases fl with
    | ret u => exact I.after hq
    | next => exact False.elim hq
    | brk => exact False.elim hq
    | cont => exact False.elim hq
/-- f(e, ..) -/
theorem pe_cG (F : FnG X.prog X.w X.K X.mg X.base CX k f sp) (hr : Room k X.A) (hG : X.A.guards = some []) (hk : PySem.W.keepIn X.K (.ref f) = true) (hm : X.mg x = some (.ref f)) (hx : Passes CX X E) (ha : PA X (e :: es) t) (hg : Gl X x := by rfl) (hd : (x == ("__debug__" : Str)) = false := by decide)
    (he : starEach (e :: es) X.env = (false, eval e X.env) :: starEach es X.env := by rfl) (hpl : (backTo pos (starEach es X.env)).any (·.1) = false := by rfl) :
    PE X (.Call (.Name x p) (e :: es) [] pos) (tCR sp E t) := by
  refine ⟨fun pins s σ H Q I h => ?_⟩
  refine wpAny_Call_Name_kw (ld_glob I hg hm ?_ hd)
  refine PySem.W.callWith_K (h₀ := X.base) I.ok.mod.kin hk (thn (ha.run pos pins s σ H _ I h) fun us s1 ⟨vs, H1, I1, r, q⟩ => ⟨I1.kIn, ?_⟩) he hpl
  exact run_fnG F hr hG hx I1 r q
end
section
variable {P : Program} {w : World} {K : PySem.W.Frag} {mg : Str → Option Value} {base : Heap} {x qual : Str} {params : Arguments} {body : List Stmt} {scope : Scope} {kws : List (Str × V)} {f : Addr} {fd : FuncData}
def BodG (P : Program) (w : World) (K : PySem.W.Frag) (mg : Str → Option Value) (base : Heap) (N : List Str) (qual : Str) (scope : Scope) (f : Addr) (body : List Stmt) (k : Nat) (sp : Sp) : Prop :=
  ∀ (cdv : Value) (A : Around) (outer : List Env) (s : Shared) (H : Hp) (vs : List V) (Q : VK) (E : XK), Room k (A.deeper (envOfC qual scope s.heap.objs.size f cdv)) → (A.deeper (envOfC qual scope s.heap.objs.size f cdv)).guards = some [] → sp vs H Q E →
      ∃ t, PSs (cxOf (L2.CX P w) P w K mg base N qual scope f cdv A outer s H E) body t ∧ t { nx := fun _ H' => Q .non H', rt := Q } (start N vs) H
/-- a def without defaults -/
theorem fng {N ps : List Str} {k : Nat} {sp : Sp} (F : FunD K x qual params body scope [] kws f fd) (S : FnScope N ps scope)
    (hb : ∀ (kV doc pm : Value) (an : Option Addr) (cdv ct : Value) (us : List Value), us.length = ps.length → bindArgs (PySem.W.fnOf x qual params body scope .none kV doc pm an cdv ct) ⟨us, []⟩ = pure (ps.zip us))
    (len : ∀ vs H Q E, sp vs H Q E → vs.length = ps.length) (hbody : BodG P w K mg base N qual scope f body k sp) : FnG P w K mg base (L2.CX P w) (k + 1) f sp := by
  obtain ⟨oc, od, dV, kV, doc, pm, an, cdv, ct, osl, e, l, c, hd, _⟩ := F.ex
  rcases hd with ⟨_, e2⟩ | ⟨e2, _⟩
  · subst e2
    subst e
    intro A outer s H us vs Q E hr hG e0 r h
    have hl := len vs H Q E h
    refine StX.run_bnd (G := fun vs' H' => vs' = vs ∧ H' = H) l c S hr e0 (fun A' Ex Q' hQ => ?_) (fun s2 H2 vs2 hg2 hr2 => ?_)
    · rw [hb kV doc pm an cdv ct us (by rw [← r.length]; exact hl)]
      exact wpAny_pure (hQ s H vs us e0 Un.refl rfl (fun _ _ z => z) r hl ⟨rfl, rfl⟩)
    · obtain ⟨rfl, rfl⟩ := hg2
      exact hbody cdv A outer s2 H2 vs2 Q E hr2 hG h
  · exact absurd rfl e2
end
/-! ### repr of data -/
mutual
theorem dp_nodict {K : PySem.W.Frag} {H : Hp} : ∀ (d : PyData) (v : V), Dp K H v d → d.hasDict = false
  | .none, _, _ => rfl
  | .bool _, _, _ => rfl
  | .int _, _, _ => rfl
  | .str _, _, _ => rfl
  | .list ds, _, h => by
    cases h with
    | lst _ h => exact dp_nodictAll ds _ h
  | .tuple ds, _, h => by
    cases h with
    | tup _ h => exact dp_nodictAll ds _ h
  | .dict _, _, h => by cases h
theorem dp_nodictAll {K : PySem.W.Frag} {H : Hp} : ∀ (ds : List PyData) (vs : List V), DpAll K H vs ds → PyData.hasDictAll ds = false
  | [], _, _ => rfl
  | d :: ds, _, h => by
    cases h with
    | cons h1 h2 =>
      show (d.hasDict || PyData.hasDictAll ds) = false
      rw [dp_nodict d _ h1, dp_nodictAll ds _ h2]
      rfl
end
def rRepr (K : PySem.W.Frag) : List V → Hp → VK → Prop := fun xs H Q => ∃ (x : V) (d : PyData), xs = [x] ∧ Dp K H x d ∧ d.showable = true ∧ d.shown.length ≤ sizeLine ∧ d.depth ≤ 64 ∧ Q (.str d.shown) H
section
variable {X : Cx}
theorem call_reprD (hG : X.A.guards = some []) (hu : X.A.units + 70 < cLine) : CallR X (.builtin "repr") (rRepr X.K) := by
  intro pins s σ H xs us Q I r h
  obtain ⟨x, d, rfl, hd, hs, hz, hdep, q⟩ := h
  cases r with
  | cons rx rr =>
    cases rr
    rename_i u
    obtain ⟨as, rd⟩ := Dp.reads I d x u hd rx
    have nd := dp_nodict d x hd
    cases hd with
    | non =>
      cases rx
      exact PySem.P.repr_of_none ⟨.str _, H, I.tok _, ⟨_, rfl⟩, q⟩
    | bl b =>
      cases rx
      refine PySem.P.repr_of_bool ⟨.str _, H, I.tok _, ⟨_, rfl⟩, ?_⟩
      cases b <;> exact q
    | int i =>
      obtain ⟨t, rfl⟩ := rx
      refine PySem.P.repr_of_int (of_decide_eq_true hs) ⟨.str _, H, I.tok _, ⟨_, rfl⟩, q⟩
    | str z =>
      obtain ⟨t, rfl⟩ := rx
      exact PySem.P.repr_of_str ⟨.str _, H, I.tok _, ⟨_, rfl⟩, q⟩ hz
    | lst hx hds =>
      cases rx
      exact repr_of_reads' rd hs (fun z => by rw [nd] at z; cases z) hG (by omega) (fun _ _ e => e) (fun h' u tk hk => ⟨.str _, H, I.kept hk, ⟨_, rfl⟩, q⟩) hz
    | tup hx hds =>
      cases rx
      exact repr_of_reads' rd hs (fun z => by rw [nd] at z; cases z) hG (by omega) (fun _ _ e => e) (fun h' u tk hk => ⟨.str _, H, I.kept hk, ⟨_, rfl⟩, q⟩) hz
end
end EM
/-! EM8: own exceptions with fields: facts as Bools, raise, fields read in a suite. -/
namespace EM
open PySem PySem.Spec PyProof.Rows L2
/-- the class at C as an own exception class over ValueError whose instances have dicts -/
def oexB (K : PySem.W.Frag) (C : Addr) : Bool := (match K.lookup C with
    | some ⟨.type t, _, .cls cd, sl⟩ => decide (t = "type") && (cd.hasDict && (!cd.hasDel && match cd.mro, sl.toList with
      | .ref C' :: bm, [_, _, _, _, some (.builtin n), _] => decide (C' = C) && (decide (n = "ValueError.__new__") && PySem.HandSPX.refsVE bm)
      | _, _ => false))
    | _ => false) && (He.eqO (PySem.W.findIn K (.ref C) "__setattr__") (some (some (.builtin "object.__setattr__"))) && (decide (PySem.W.subIn K (.ref C) (.type "BaseException") = some true) && (decide (PySem.W.typeIn K (.ref C) = some (.type "type")) && PySem.W.keepIn K (.ref C))))
theorem oexB_ok {K : PySem.W.Frag} {C : Addr} (q : oexB K C = true) : OexC K C := by
  obtain ⟨q1, q⟩ := He.ba q
  obtain ⟨q2, q⟩ := He.ba q
  obtain ⟨q3, q⟩ := He.ba q
  obtain ⟨q4, q5⟩ := He.ba q
  refine ⟨?_, He.eqO_ok q2, of_decide_eq_true q3, of_decide_eq_true q4, q5⟩
  split at q1
  · rename_i t dd cd sl ho
    obtain ⟨a1, q1⟩ := He.ba q1
    obtain ⟨a2, q1⟩ := He.ba q1
    obtain ⟨a3, q1⟩ := He.ba q1
    split at q1
    · rename_i C' bm k0 k1 k2 k3 n k5 hm hs
      obtain ⟨b1, q1⟩ := He.ba q1
      obtain ⟨b2, b3⟩ := He.ba q1
      have e1 := of_decide_eq_true a1
      have e2 := of_decide_eq_true b1
      have e3 := of_decide_eq_true b2
      subst e1 e2 e3
      obtain ⟨nm, bs, mro, ns, qn, hd, sn, sub, ab, col, del⟩ := cd
      dsimp only at hm a2 a3
      have a3' : del = false := by simpa using a3
      subst hm a2 a3'
      have hsl : sl = #[k0, k1, k2, k3, some (.builtin "ValueError.__new__"), k5] := by
        obtain ⟨l⟩ := sl
        simp only at hs
        rw [hs]
      subst hsl
      exact ⟨nm, qn, ns, bs, bm, sn, sub, ab, col, dd, k0, k1, k2, k3, k5, ho, b3⟩
    · cases q1
  · cases q1
/-- its __init__ is a def -/
def oinB (K : PySem.W.Frag) (C : Addr) : Bool := He.eqO (PySem.W.findIn K (.ref C) "__init__") (some (some (.ref (He.ma K C "__init__")))) && decide (PySem.W.typeIn K (.ref (He.ma K C "__init__")) = some (.type "function"))
theorem oinB_ok {K : PySem.W.Frag} {C : Addr} (q : oinB K C = true) : PySem.W.findIn K (.ref C) "__init__" = some (some (.ref (He.ma K C "__init__"))) ∧ PySem.W.typeIn K (.ref (He.ma K C "__init__")) = some (.type "function") := by
  obtain ⟨a, b⟩ := He.ba q
  exact ⟨He.eqO_ok a, of_decide_eq_true b⟩
/-! ### __init__ of one field, of two -/
def spX1 (C : Addr) (f : Str) : Sp := fun vs H Q _ => ∃ (a : Addr) (v : V), vs = [.ref a, v] ∧ H a = some (exo a C none) ∧ ∀ dx, H dx = none → dx ≠ a → Q .non (upd (upd H dx (exd dx [(f, v)])) a (exo a C (some dx)))
def spX2 (C : Addr) (f g : Str) : Sp := fun vs H Q _ => ∃ (a : Addr) (v u : V), vs = [.ref a, v, u] ∧ H a = some (exo a C none) ∧ ∀ dx, H dx = none → dx ≠ a → Q .non (upd (upd (upd H dx (exd dx [(f, v)])) a (exo a C (some dx))) dx (exd dx [(g, u), (f, v)]))
theorem del_same_of {H : Hp} {a : Addr} {b : Addr} {o : HO} (e : H b = some o) (h : b ≠ a) : del H a b = some o := (del_ne h).trans e
def MonoA (ta : TA) : Prop := ∀ σ H Q Q', (∀ vs H1, Q vs H1 → Q' vs H1) → ta σ H Q → ta σ H Q'
def Mono (te : TE) : Prop := ∀ σ H Q Q', (∀ v H1, Q v H1 → Q' v H1) → te σ H Q → te σ H Q'
theorem m_var {i : Nat} : Mono (tVar i) := fun σ H Q Q' k ⟨v, e, q⟩ => ⟨v, e, k v H q⟩
theorem m_c {v : V} : Mono (tC v) := fun σ H Q Q' k q => k v H q
theorem ma_nil : MonoA tNil := fun σ H Q Q' k q => k [] H q
theorem ma_cons {te : TE} {ta : TA} (h1 : Mono te) (h2 : MonoA ta) : MonoA (tCons te ta) := fun σ H Q Q' k q => h1 σ H _ _ (fun v H1 q1 => h2 σ H1 _ _ (fun vs H2 q2 => k (v :: vs) H2 q2) q1) q
theorem ma_1c {v : V} : MonoA (tCons (tC v) tNil) := ma_cons m_c ma_nil
theorem ma_1v {i : Nat} : MonoA (tCons (tVar i) tNil) := ma_cons m_var ma_nil
theorem ma_2cc {v u : V} : MonoA (tCons (tC v) (tCons (tC u) tNil)) := ma_cons m_c ma_1c
theorem ma_2cv {v : V} {i : Nat} : MonoA (tCons (tC v) (tCons (tVar i) tNil)) := ma_cons m_c ma_1v
theorem ma_2vv {i j : Nat} : MonoA (tCons (tVar i) (tCons (tVar j) tNil)) := ma_cons m_var ma_1v
theorem m_cb {r : List V → Hp → VK → Prop} {ta : TA} (h : MonoA ta) (hr : ∀ vs H Q Q', (∀ v H1, Q v H1 → Q' v H1) → r vs H Q → r vs H Q') : Mono (tCB r ta) := fun σ H Q Q' k q => h σ H _ _ (fun vs H1 q1 => hr vs H1 Q Q' k q1) q
/-- the reading of raise C(..): the error's own dict is new, all else stays -/
def tRz (C : Addr) (fs : List V → List (Str × V)) (n : Nat) (W : WX) (ta : TA) : TS := fun _ σ H => ta σ H fun vs H1 => vs.length = n ∧ ∀ d H', Same H1 H' → H1 d = none → H' d = some (.xd (fs vs)) → W (.ref C) (some d) σ H'
section
variable {X : Cx} {CX : CXT} {x : Str} {C fI : Addr} {k : Nat} {fd : FuncData} {ps : List Str} {e : Expr} {es : List Expr} {ta : TA} {p pos pos2 : Pos} {W : WX} {f g : Str}
theorem ps_rz1 (hc : X.calm = true) (T : OexC X.K C) (iC : PySem.W.findIn X.K (.ref C) "__init__" = some (some (.ref fI)) ∧ PySem.W.typeIn X.K (.ref fI) = some (.type "function")) (F1 : FnOk X.prog X.w X.K X.mg X.base CX k fI fd ps (spX1 C f)) (hr : Room (k + 1) X.A) (hb : Binds X.K fd ps [])
    (hx : Passes CX X (fun _ _ _ => False)) (hm : X.mg x = some (.ref C)) (tk : Takes X W) (ha : PA X (e :: es) ta) (hg : Gl X x := by rfl)
    (hdb : (x == ("__debug__" : Str)) = false := by decide) (he : starEach (e :: es) X.env = (false, eval e X.env) :: starEach es X.env := by rfl) (hpl : (backTo pos (starEach es X.env)).any (·.1) = false := by rfl) (mono : MonoA ta := by first | exact ma_1c | exact ma_1v | exact ma_2cc | exact ma_2cv | exact ma_2vv | assumption) :
    PS X (.Raise (some (.Call (.Name x p) (e :: es) [] pos)) none pos2) (tRz C (fun vs => [(f, vs.headD .non)]) 1 W ta) := by
  have h := ps_raise (pos := pos2) hc tk (pmk_oex (p := p) (dvs := []) T iC.1 iC.2 F1 hr hb .nil hx hg hm ha hdb he hpl)
  refine ⟨fun pins s σ H D I hq => h.run pins s σ H D I (mono σ H _ _ (fun vs H1 q => ?_) hq)⟩
  obtain ⟨hl, q⟩ := q
  match vs, hl with
  | [v], _ =>
    refine ⟨by show 1 ≤ 1000; decide, fun a ha => ⟨a, v, rfl, upd_same, fun dx hdx hda => ⟨rfl, dx, [(f, v)], upd_same, ?_, ?_, ?_⟩⟩⟩
    · rw [upd_ne hda, upd_same]
    · rw [upd_ne hda] at hdx; exact hdx
    · have hdx' : H1 dx = none := by rw [upd_ne hda] at hdx; exact hdx
      refine q dx _ (fun b o eb => ?_) hdx' upd_same
      have n1 := ne_of_none eb hdx'
      have n2 := ne_of_none eb ha
      rw [upd_ne n1, del_ne n2, upd_ne n2, upd_ne n1, upd_ne n2]
      exact eb
theorem ps_rz2 (hc : X.calm = true) (T : OexC X.K C) (iC : PySem.W.findIn X.K (.ref C) "__init__" = some (some (.ref fI)) ∧ PySem.W.typeIn X.K (.ref fI) = some (.type "function")) (F1 : FnOk X.prog X.w X.K X.mg X.base CX k fI fd ps (spX2 C f g)) (hr : Room (k + 1) X.A) (hb : Binds X.K fd ps [])
    (hx : Passes CX X (fun _ _ _ => False)) (hm : X.mg x = some (.ref C)) (tk : Takes X W) (ha : PA X (e :: es) ta) (hg : Gl X x := by rfl)
    (hdb : (x == ("__debug__" : Str)) = false := by decide) (he : starEach (e :: es) X.env = (false, eval e X.env) :: starEach es X.env := by rfl) (hpl : (backTo pos (starEach es X.env)).any (·.1) = false := by rfl) (mono : MonoA ta := by first | exact ma_1c | exact ma_1v | exact ma_2cc | exact ma_2cv | exact ma_2vv | assumption) :
    PS X (.Raise (some (.Call (.Name x p) (e :: es) [] pos)) none pos2) (tRz C (fun vs => [(g, vs.getD 1 .non), (f, vs.headD .non)]) 2 W ta) := by
  have h := ps_raise (pos := pos2) hc tk (pmk_oex (p := p) (dvs := []) T iC.1 iC.2 F1 hr hb .nil hx hg hm ha hdb he hpl)
  refine ⟨fun pins s σ H D I hq => h.run pins s σ H D I (mono σ H _ _ (fun vs H1 q => ?_) hq)⟩
  obtain ⟨hl, q⟩ := q
  match vs, hl with
  | [v, u], _ =>
    refine ⟨by show 2 ≤ 1000; decide, fun a ha => ⟨a, v, u, rfl, upd_same, fun dx hdx hda => ⟨rfl, dx, [(g, u), (f, v)], ?_, upd_same, ?_, ?_⟩⟩⟩
    · rw [upd_ne hda.symm, upd_same]
    · rw [upd_ne hda] at hdx; exact hdx
    · have hdx' : H1 dx = none := by rw [upd_ne hda] at hdx; exact hdx
      refine q dx _ (fun b o eb => ?_) hdx' upd_same
      have n1 := ne_of_none eb hdx'
      have n2 := ne_of_none eb ha
      rw [upd_ne n1, del_ne n2, upd_ne n1, upd_ne n2, upd_ne n1, upd_ne n2]
      exact eb
end
end EM
/-! EM9: try with several except clauses, each with or without a name. -/
namespace EM
open PySem PySem.Spec PyProof.Rows L2
abbrev Hd := Value × Option Nat × (Addr → Value → Option Addr → TS)
/-- behind a suite that held its error in slot i -/
def gone (i : Nat) (D : Ends) : Ends := { nx := fun σ' H' => D.nx (σ'.set i none) H', rt := D.rt, bk := fun σ' H' => D.bk (σ'.set i none) H', ct := fun σ' H' => D.ct (σ'.set i none) H' }
def wHds (K : PySem.W.Frag) (Wout : WX) (D : Ends) : List Hd → WX
  | [] => Wout
  | (c, none, ts) :: r => fun cls d σ H => ∃ b, PySem.W.exmOne K cls c = some b ∧ (b = true → ∀ a, H a = none → ts a cls d D σ H) ∧ (b = false → wHds K Wout D r cls d σ H)
  | (c, some i, ts) :: r => fun cls d σ H => ∃ b, PySem.W.exmOne K cls c = some b ∧ (b = true → ∀ a, H a = none → ts a cls d (gone i D) (σ.set i (some (.ref a))) H) ∧ (b = false → wHds K Wout D r cls d σ H)
inductive HdsN (X : Cx) : List ExceptHandler → List Hd → Prop
  | nil : HdsN X [] []
  | cons {x : Str} {c : Value} {ts : Addr → Value → Option Addr → TS} {b₀ : Stmt} {suite : List Stmt} {np pos' : Pos} {hds : List ExceptHandler} {l : List Hd} (hc : Names X x c)
      (hsu : ∀ (a : Addr) (oe : Obj) (cls : Value) (d : Option Addr) (pn : List (Addr × Obj)), Zc cls d oe → (∃ vs, oe.data = .fields vs) → PSs (X.suite a ((a, oe) :: pn)) (b₀ :: suite) (ts a cls d)) (r : HdsN X hds l) :
      HdsN X (.ExceptHandler (some (.Name x np)) none (b₀ :: suite) pos' :: hds) ((c, none, ts) :: l)
  | named {x n : Str} {i : Nat} {c : Value} {ts : Addr → Value → Option Addr → TS} {b₀ : Stmt} {suite : List Stmt} {np pos' : Pos} {hds : List ExceptHandler} {l : List Hd} (hc : Names X x c) (hi : X.N[i]? = some n) (hln : X.env.kindOf n = some .local)
      (hsu : ∀ (a : Addr) (oe : Obj) (cls : Value) (d : Option Addr) (pn : List (Addr × Obj)), Zc cls d oe → (∃ vs, oe.data = .fields vs) → PSs (X.suite a ((a, oe) :: pn)) (b₀ :: suite) (ts a cls d)) (r : HdsN X hds l) :
      HdsN X (.ExceptHandler (some (.Name x np)) (some n) (b₀ :: suite) pos' :: hds) ((c, some i, ts) :: l)
section
variable {X : Cx} {body : List Stmt} {h₀ : ExceptHandler} {hds : List ExceptHandler} {l : List Hd} {pos : Pos} {tb : WX → TS} {Wout : WX}
theorem ps_try (hs : X.stack = X.env :: X.outer) (hf : X.env.frame = some X.env.locals) (hN : X.N.Nodup) (tk : Takes X Wout)
    (hb : ∀ (W : WX) (pn : List (Addr × Obj)) (xe : Value → Shared → Prop), Takes (X.tr pn xe) W → PassesOwn (model X.prog X.w) X.A X.env xe → PSs (X.tr pn xe) body (tb W))
    (hh : HdsN X (h₀ :: hds) l) : PS X (.Try body (h₀ :: hds) [] [] pos) (fun D σ H => tb (wHds X.K Wout D l) D σ H) := by
  refine ⟨fun pins s σ H D I h => ?_⟩
  have ok := I.ok
  have hfr : X.A.frames = some (X.env :: X.outer) := by rw [ok.frames, hs]
  refine wpAny_Try_except ?_
  refine wpAny_mono ((hb (wHds X.K Wout D l) (X.pn ++ pins) (fun e s₁ => wpAny (model X.prog X.w) X.A (noteFrame e X.env) (fun _ s₂ => wpAny (model X.prog X.w) X.A (setFlight e none) (fun _ s₃ =>
    wpAny (model X.prog X.w) X.A (handleBy e X.env (h₀ :: hds)) (SP X pins D) X.xe s₃) X.xe s₂) X.xe s₁) (fun u s' xx => ?_) PassesOwn.looking).run [] s σ H D (I.toTry _) h) (fun f s1 hsp => ?_) (fun e s1 he => he)
  · obtain ⟨a, B, sI, pins', σ', H', cls, d, rfl, J', nb, up, sky, na, os, ag, w⟩ := xx
    have J : Inv X pins σ' H' sI := J'.ofTry ok
    have sky' : Sky B (X.env :: X.outer) a (Zc cls d) X.env.locals s'.heap := by rw [← hs]; exact sky
    show wpAny (model X.prog X.w) X.A (noteFrame (.ref a) X.env) _ _ _
    refine Sky.land Zc.steady hfr hf sky' fun h3 fl3 up3 => ?_
    have J3 : Inv X pins σ' H' { s' with heap := h3 } := J.landed nb fl3.1 (up.trans up3) os ag
    obtain ⟨oe3, vs3, he3, hz3, hd3⟩ := fl3.there
    have nfr : a ∉ frs (X.env :: X.outer) := fun hm => by
      obtain ⟨_, o', e', hnf⟩ := fl3.2.2.1.mem hm
      rw [he3] at e'; cases e'
      exact hnf _ hd3
    have nL : a ≠ X.env.locals := fun z => nfr (List.mem_filterMap.mpr ⟨X.env, List.mem_cons_self, by rw [hf, z]⟩)
    have nF : a ∉ X.fs := fun hm => by
      obtain ⟨e, he, q⟩ := List.mem_filterMap.mp hm
      exact nfr (List.mem_filterMap.mpr ⟨e, List.mem_cons_of_mem _ he, q⟩)
    have S3 := J3.suite he3 hd3 na nL nF
    have LT : PySem.W.Looks (model X.prog X.w) h3 (typeOf (.ref a)) cls := fun A Q E s k q => wpAny_typeOf_ref (k _ _ he3) (by rw [hz3.1]; exact q)
    have test : ∀ {x : Str} {c : Value} {np : Pos}, Names X x c → ∀ {Q : Value → Shared → Prop} {E : Value → Shared → Prop}, Q c { s' with heap := h3 } → wpAny (model X.prog X.w) (X.A.mark (some (.ref a))) (eval (.Name x np) X.env) Q E { s' with heap := h3 } := fun {x c np} hc {Q E} q => by
      obtain ⟨hg, hdbg, hm | ⟨hm, hv, hnn⟩⟩ := hc
      · exact ld_glob (X := X.suite a ((a, oe3) :: (X.pn ++ pins))) S3 hg hm q hdbg
      · exact ld_blt (X := X.suite a ((a, oe3) :: (X.pn ++ pins))) S3 hg hm hv q hnn hdbg
    have go : ∀ {hds' : List ExceptHandler} {l' : List Hd}, HdsN X hds' l' → wHds X.K Wout D l' cls d σ' H' →
        wpAny (model X.prog X.w) X.A (handleBy (.ref a) X.env hds') (SP X pins D) X.xe { s' with heap := h3 } := by
      intro hds' l' hk
      induction hk with
      | nil =>
        intro w
        refine wpAny_handleBy_nil ?_
        obtain ⟨k1, k2, k3, oe, vs, T, oT, ts', he, hz, hd, h1, hr⟩ := id fl3
        unfold PySem.passOn
        refine wpAny_bind (wpAny_field he hd h1 ?_)
        rw [if_neg (show ¬ ((Value.ref T == Value.none) = true) from by simp)]
        have fin : wpAny (model X.prog X.w) X.A (setFlight (.ref a) X.env.frame) (fun _ s4 => wpAny (model X.prog X.w) X.A (throw (.ref a) : Sem Flow) (SP X pins D) X.xe s4) X.xe { s' with heap := h3 } := by
          rw [hf]
          refine HandSPX.setFlight_upZ fl3 fun h4 hh4 up4 => wpAny_throw (tk _ _ ?_)
          exact ⟨a, B, sI, pins, σ', H', cls, d, rfl, J, nb, (up.trans up3).trans up4, .inr (.inr (by rw [hs]; exact hh4)), na, os, ag, w⟩
        first
          | exact wpAny_bind (wpAny_pure (wpAny_bind fin))
          | exact wpAny_bind fin
      | @cons x c ts b₀ suite np pos' hds2 l2 hc hsu r ih =>
        intro w
        obtain ⟨b, hb1, hyes, hno⟩ := w
        refine wpAny_handleBy_cons (codeAny_handlers_test ?_) (by intro q; cases q)
        have LM := PySem.W.exm_one (M := model X.prog X.w) (J3.kIn) LT hb1
        refine test hc (LM.here ?_)
        cases b with
        | true =>
          refine codeAny_handlers_suite (HandSPX.lands_againZ fl3 fun h4 fl4 up4 => ?_)
          have J4 : Inv X pins σ' H' { s' with heap := h4 } := J.landed nb fl4.1 ((up.trans up3).trans up4) os ag
          obtain ⟨oe4, vs4, he4, hz4, hd4⟩ := fl4.there
          have S4 := J4.suite he4 hd4 na nL nF
          refine wpAny_mono ((hsu a oe4 cls d (X.pn ++ pins) hz4 ⟨_, hd4⟩).run [] _ _ H' _ S4 (hyes rfl a na)) (fun f s6 hsp => ?_) (fun _ _ z => False.elim z)
          cases f with
          | ret u =>
            obtain ⟨v6, σ6, H6, S6, r6, q6⟩ := hsp
            exact ⟨_, _, _, S6.unsuite ok, r6, q6⟩
          | next => obtain ⟨σ6, H6, S6, q6⟩ := hsp; exact ⟨_, _, S6.unsuite ok, q6⟩
          | brk => obtain ⟨σ6, H6, S6, q6⟩ := hsp; exact ⟨_, _, S6.unsuite ok, q6⟩
          | cont => obtain ⟨σ6, H6, S6, q6⟩ := hsp; exact ⟨_, _, S6.unsuite ok, q6⟩
        | false =>
          show wpAny _ X.A (handleBy (.ref a) X.env hds2) _ _ _
          exact ih (hno rfl)
      | @named x n i c ts b₀ suite np pos' hds2 l2 hc hi hln hsu r ih =>
        intro w
        obtain ⟨b, hb1, hyes, hno⟩ := w
        refine wpAny_handleBy_cons (codeAny_handlers_test ?_) (by intro q; cases q)
        have LM := PySem.W.exm_one (M := model X.prog X.w) (J3.kIn) LT hb1
        refine test hc (LM.here ?_)
        cases b with
        | true =>
          refine codeAny_handlers_suite_as (HandSPX.lands_againZ fl3 fun h4 fl4 up4 => ?_)
          have J4 : Inv X pins σ' H' { s' with heap := h4 } := J.landed nb fl4.1 ((up.trans up3).trans up4) os ag
          obtain ⟨oe4, vs4, he4, hz4, hd4⟩ := fl4.there
          have S4 := J4.suite he4 hd4 na nL nF
          refine store_ok (X := X.suite a ((a, oe4) :: (X.pn ++ pins))) (v := .ref a) S4 hN hi (Or.inl hln) rfl (fun s5 S5 => ?_) (.inr hln)
          refine wpAny_mono ((hsu a oe4 cls d (X.pn ++ pins) hz4 ⟨_, hd4⟩).run [] s5 _ H' _ S5 (hyes rfl a na)) (fun f s6 hsp => ?_) (fun _ _ z => False.elim z)
          have fin2 : ∀ {σ6 : L2.St} {H6 : Hp} {Q : Shared → Prop}, Inv (X.suite a ((a, oe4) :: (X.pn ++ pins))) [] σ6 H6 s6 → (∀ s7, Inv X pins (σ6.set i none) H6 s7 → Q s7) →
              wpAny (model X.prog X.w) X.A (do bindName X.env n .none; unbindBehindTheSuite X.env n pos') (fun _ s7 => Q s7) X.xe s6 := fun {σ6 H6 Q} S6 hq => gone_ok (S6.unsuite ok) hN hi hln hq
          cases f with
          | ret u =>
            obtain ⟨v6, σ6, H6, S6, r6, q6⟩ := hsp
            exact fin2 S6 fun s7 J7 => ⟨_, _, _, J7, r6, q6⟩
          | next => obtain ⟨σ6, H6, S6, q6⟩ := hsp; exact fin2 S6 fun s7 J7 => ⟨_, _, J7, q6⟩
          | brk => obtain ⟨σ6, H6, S6, q6⟩ := hsp; exact fin2 S6 fun s7 J7 => ⟨_, _, J7, q6⟩
          | cont => obtain ⟨σ6, H6, S6, q6⟩ := hsp; exact fin2 S6 fun s7 J7 => ⟨_, _, J7, q6⟩
        | false =>
          show wpAny _ X.A (handleBy (.ref a) X.env hds2) _ _ _
          exact ih (hno rfl)
    exact go hh w
  · cases f with
    | ret u =>
      obtain ⟨v, σ', H', J', r, q⟩ := hsp
      exact ⟨v, σ', H', J'.ofTry ok, r, q⟩
    | next => obtain ⟨σ', H', J', q⟩ := hsp; exact wpAny_execs_nil ⟨σ', H', J'.ofTry ok, q⟩
    | brk => obtain ⟨σ', H', J', q⟩ := hsp; exact ⟨σ', H', J'.ofTry ok, q⟩
    | cont => obtain ⟨σ', H', J', q⟩ := hsp; exact ⟨σ', H', J'.ofTry ok, q⟩
end
end EM
/-! EM10: what many laws share: the pen and its draws, plain rows of ints. -/
namespace EM
open PySem PySem.Spec PyProof.Rows L2
def scan (a : Int) : List Int → List Int
  | [] => [a]
  | w :: r => a :: scan (a + w) r
theorem scan_len (a : Int) (l : List Int) : (scan a l).length = l.length + 1 := by
  induction l generalizing a with
  | nil => rfl
  | cons w r ih => show (scan (a + w) r).length + 1 = r.length + 1 + 1; rw [ih]
theorem scan_snoc (a : Int) (l : List Int) (w : Int) : scan a (l ++ [w]) = scan a l ++ [a + l.sum + w] := by
  induction l generalizing a with
  | nil => simp [scan]
  | cons v r ih =>
    show a :: scan (a + v) (r ++ [w]) = a :: (scan (a + v) r ++ [a + (v :: r).sum + w])
    rw [ih, List.sum_cons]
    have : a + v + r.sum + w = a + (v + r.sum) + w := by omega
    rw [this]
theorem scan_last (a : Int) (l : List Int) : (scan a l)[l.length]? = some (a + l.sum) := by
  induction l generalizing a with
  | nil => simp [scan]
  | cons v r ih =>
    show (scan (a + v) r)[r.length]? = _
    rw [ih, List.sum_cons]
    congr 1
    omega
theorem take_snoc {α : Type} {l : List α} {i : Nat} {x : α} (h : l[i]? = some x) : l.take (i + 1) = l.take i ++ [x] := by
  rw [List.take_add_one, h]
  rfl
theorem map_at {l : List Int} {i : Nat} {y : V} (h : (l.map V.int)[i]? = some y) : ∃ z, l[i]? = some z ∧ y = .int z := by
  rw [List.getElem?_map] at h
  cases e : l[i]? with
  | none => rw [e] at h; cases h
  | some z => rw [e] at h; exact ⟨z, rfl, (Option.some.inj h).symm⟩
def good (ws : List Int) : Prop := ws.length % 2 = 1 ∧ 3 ≤ ws.length ∧ ws.length ≤ 127 ∧ ∀ x ∈ ws, 1 ≤ x ∧ x ≤ 1000
def sumsOf (ws : List Int) : List Int := List.zipWith (· + ·) ws (ws.drop 1)
theorem scan_at (l : List Int) (i : Nat) (h : i ≤ l.length) (a : Int) : (scan a l)[i]? = some (a + (l.take i).sum) := by
  induction l generalizing a i with
  | nil => 
    have : i = 0 := by simpa using h
    subst this
    simp [scan]
  | cons v r ih =>
    cases i with
    | zero => simp [scan]
    | succ i =>
      show (scan (a + v) r)[i]? = _
      rw [ih i (by simpa using h)]
      simp only [List.take_succ_cons, List.sum_cons]
      congr 1
      omega
theorem sums_len (ws : List Int) : (sumsOf ws).length = min ws.length (ws.length - 1) := by
  unfold sumsOf
  rw [List.length_zipWith, List.length_drop]
theorem sums_at {ws : List Int} {i : Nat} {a b : Int} (h1 : ws[i]? = some a) (h2 : (ws.drop 1)[i]? = some b) : (sumsOf ws)[i]? = some (a + b) := by
  unfold sumsOf
  rw [List.getElem?_zipWith, h1, h2]
/-- what draws: the cells, the index of the next one (at most n), the rest of a great cell -/
def Pen (H : Hp) (p l : Addr) (n : Nat) : Prop := ∃ (cells : List Int) (at_ rest : Int), H p = some (.lst [.ref l, .int at_, .int rest]) ∧ H l = some (.lst (cells.map V.int)) ∧ l ≠ p ∧ cells.length ≤ 63 ∧ 0 ≤ at_ ∧ at_ ≤ n
def spPen (K : PySem.W.Frag) : Sp := fun vs H Q _ => ∃ (a : Addr) (ns : List Int), vs = [.ref a] ∧ SqL K H a (ns.map V.int) ∧ ns.length ≤ 63 ∧ ∀ p l H', Same H H' → H p = none → Pen H' p l 0 → Q (.ref p) H'
def spDraw : Sp := fun vs H Q _ => ∃ (p l : Addr) (n : Nat) (many : Int), vs = [.ref p, .int many] ∧ Pen H p l n ∧ n ≤ 1000000 ∧ 1 ≤ many ∧ many < 2 ^ 64 ∧ ∀ d H', 0 ≤ d → d < many → (∀ b o, H b = some o → b ≠ p → H' b = some o) → Pen H' p l (n + 1) → Q (.int d) H'
theorem draw_bd {m a A B C : Int} (m0 : 0 ≤ m) (m1 : m < 2147483648) (a0 : 0 ≤ a) (a1 : a ≤ 1000000) (hA : 0 ≤ A ∧ A ≤ 1000000) (hB : 0 ≤ B ∧ B ≤ 1000000) (hC : 0 ≤ C ∧ C ≤ 1000000) :
    (m * (2 * a + A) + B * a * a + C).natAbs < 2 ^ 64 := by
  have h1 : m * (2 * a + A) ≤ 2147483648 * 3000000 := Int.mul_le_mul (by omega) (by omega) (by omega) (by omega)
  have h2 : 0 ≤ m * (2 * a + A) := Int.mul_nonneg m0 (by omega)
  have h3 : B * a ≤ 1000000 * 1000000 := Int.mul_le_mul hB.2 a1 a0 (by omega)
  have h4 : 0 ≤ B * a := Int.mul_nonneg hB.1 a0
  have h5 : B * a * a ≤ 1000000 * 1000000 * 1000000 := Int.mul_le_mul h3 a1 a0 (by omega)
  have h6 : 0 ≤ B * a * a := Int.mul_nonneg h4 a0
  omega
theorem mul_bd {B a : Int} (a0 : 0 ≤ a) (a1 : a ≤ 1000000) (hB : 0 ≤ B ∧ B ≤ 1000000) : -(2 ^ 64) < B * a ∧ B * a < 2 ^ 64 := by
  have h3 : B * a ≤ 1000000 * 1000000 := Int.mul_le_mul hB.2 a1 a0 (by omega)
  have h4 : 0 ≤ B * a := Int.mul_nonneg hB.1 a0
  constructor <;> omega
theorem cut_ints (ns : List Int) (lo hi : Option Int) : ∃ ms : List Int, cutV (ns.map V.int) lo hi = ms.map V.int ∧ ms.length ≤ ns.length := by
  refine ⟨(ns.drop (HT.sIx (ns.map V.int).length 0 lo)).take (HT.sIx (ns.map V.int).length (ns.map V.int).length hi - HT.sIx (ns.map V.int).length 0 lo), ?_, ?_⟩
  · unfold cutV
    rw [List.map_take, List.map_drop]
  · rw [List.length_take, List.length_drop]
    omega
def Keep (p : Addr) (H H' : Hp) : Prop := ∀ b o, H b = some o → b ≠ p → H' b = some o
theorem Keep.refl {p : Addr} {H : Hp} : Keep p H H := fun _ _ e _ => e
theorem Keep.trans {p : Addr} {H H1 H2 : Hp} (a : Keep p H H1) (b : Keep p H1 H2) : Keep p H H2 := fun c o e n => b c o (a c o e n) n
theorem Keep.of {p : Addr} {H H1 : Hp} (a : Same H H1) : Keep p H H1 := fun c o e _ => a c o e
theorem Keep.mut {p : Addr} {H H1 : Hp} {D : Addr} {o : HO} (a : Keep p H H1) (h : H D = none) : Keep p H (upd H1 D o) := fun c u e n => by
  rw [upd_ne (ne_of_none e h)]
  exact a c u e n
theorem Pen.mono {H : Hp} {p l : Addr} {n m : Nat} (h : Pen H p l n) (e : n ≤ m) : Pen H p l m := by
  obtain ⟨c, a, r, h1, h2, h3, h4, h5, h6⟩ := h
  exact ⟨c, a, r, h1, h2, h3, h4, h5, by omega⟩
theorem Pen.same {H H' : Hp} {p l : Addr} {n : Nat} (h : Pen H p l n) (e : Same H H') : Pen H' p l n := by
  obtain ⟨c, a, r, h1, h2, h3, h4, h5, h6⟩ := h
  exact ⟨c, a, r, e _ _ h1, e _ _ h2, h3, h4, h5, h6⟩
theorem Pen.mut {H : Hp} {p l D : Addr} {o : HO} {n : Nat} (h : Pen H p l n) (n1 : D ≠ p) (n2 : D ≠ l) : Pen (upd H D o) p l n := by
  obtain ⟨c, a, r, h1, h2, h3, h4, h5, h6⟩ := h
  exact ⟨c, a, r, by rw [upd_ne n1.symm]; exact h1, by rw [upd_ne n2.symm]; exact h2, h3, h4, h5, h6⟩
theorem Pen.ne {H : Hp} {p l D : Addr} {n : Nat} (h : Pen H p l n) (hD : H D = none) : D ≠ p ∧ D ≠ l := by
  obtain ⟨c, a, r, h1, h2, _⟩ := h
  exact ⟨(ne_of_none h1 hD).symm, (ne_of_none h2 hD).symm⟩
theorem pick {xs : List V} {d : Int} (h0 : 0 ≤ d) (h1 : d < xs.length) : ∃ v, atI xs d = some v ∧ v ∈ xs := by
  have h : d.toNat < xs.length := by omega
  exact ⟨xs[d.toNat], at_of (j := d.toNat) (by omega) (List.getElem?_eq_getElem h), List.getElem_mem h⟩
def spPick : Sp := fun vs H Q _ => ∃ (p l : Addr) (n : Nat) (a : Addr) (xs : List V), vs = [.ref p, .ref a] ∧ Pen H p l n ∧ n ≤ 1000000 ∧ H a = some (.lst xs) ∧ a ≠ p ∧ 1 ≤ xs.length ∧ xs.length ≤ 1000000 ∧
  ∀ v H', v ∈ xs → Keep p H H' → Pen H' p l (n + 1) → Q v H'
end EM
/-! EM11: plain facts of texts of figures; a callee's exceptions under a try. -/
namespace EM
open PySem PySem.Spec PyProof.Rows L2 PySem.NumText
abbrev sg (a : Str) : List Nat := a.cps.toList
theorem str_ext {a b : Str} (h : sg a = sg b) : a = b := by
  obtain ⟨⟨x⟩⟩ := a
  obtain ⟨⟨y⟩⟩ := b
  have h' : x = y := h
  rw [h']
theorem len_sg (a : Str) : a.length = (sg a).length := rfl
def isDig (c : Nat) : Bool := decide (48 ≤ c ∧ c ≤ 57)
theorem mem_figs (c : Nat) : decide (c ∈ ("0123456789" : Str).cps.toList) = isDig c := by
  have e : ("0123456789" : Str).cps.toList = [48, 49, 50, 51, 52, 53, 54, 55, 56, 57] := by decide +kernel
  rw [e]
  unfold isDig
  by_cases h : 48 ≤ c ∧ c ≤ 57
  · rw [decide_eq_true h, decide_eq_true_eq]
    simp only [List.mem_cons, List.not_mem_nil, or_false]
    omega
  · rw [decide_eq_false h, decide_eq_false_iff_not]
    simp only [List.mem_cons, List.not_mem_nil, or_false]
    omega
theorem dig_all {l : List Nat} (h : l.all isDig = true) : AllDigits l := fun c hc => of_decide_eq_true (List.all_eq_true.mp h c hc)
/-- the worth of a text of figures -/
def worthT (a : Str) : Int := (digitsVal (sg a) : Nat)
theorem int_of_figs {a : Str} (h : (sg a).all isDig = true) (h1 : sg a ≠ []) (h2 : a.length ≤ 640) : intText? a = some (worthT a) :=
  intText_digits (dig_all h) h1 (by omega)
theorem worth_pos {a : Str} (h1 : sg a ≠ []) (h0 : (sg a).head? ≠ some 48) (h : (sg a).all isDig = true) : 1 ≤ worthT a := by
  unfold worthT
  cases e : sg a with
  | nil => exact absurd e h1
  | cons c r =>
    rw [e] at h0 h
    have hc := (dig_all h).head
    have : c ≠ 48 := fun z => h0 (by rw [z]; rfl)
    have := digitsVal_pos (c := c) (cs := r) (by omega)
    omega
theorem toNat_ofNat {c : Nat} (h : c < 55296) : (Char.ofNat c).toNat = c := by
  have hv : Nat.isValidChar c := Or.inl (by omega)
  unfold Char.ofNat
  rw [dif_pos hv]
  show (UInt32.ofNatLT c _).toNat = c
  rfl
theorem worth_text {a : Str} (h1 : sg a ≠ []) (h0 : (sg a).head? ≠ some 48) (h : (sg a).all isDig = true) : (Str.ofString (toString (worthT a))) = a := by
  apply str_ext
  have hd := dig_all h
  have ht : Nat.toDigits 10 (digitsVal (sg a)) = (sg a).map Char.ofNat := by
    refine toDigits_digitsVal ((sg a).length - 1) (sg a) ?_ hd ?_
    · cases e : sg a with
      | nil => exact absurd e h1
      | cons c r => simp
    · cases e : sg a with
      | nil => exact absurd e h1
      | cons c r =>
        rw [e] at h0 hd
        have := hd.head
        have : c ≠ 48 := fun z => h0 (by rw [z]; rfl)
        exact .inr ⟨c, r, rfl, by omega⟩
  show (cpsOfBytes 0 0 (toString (worthT a)).toByteArray.data.toList).toArray.toList = _
  rw [cpsOfBytes_string]
  have e2 : toString (worthT a) = String.ofList (Nat.toDigits 10 (digitsVal (sg a))) := rfl
  rw [e2, String.toList_ofList, ht, List.map_map]
  have : ∀ l : List Nat, AllDigits l → l.map (Char.toNat ∘ Char.ofNat) = l := by
    intro l
    induction l with
    | nil => intro _; rfl
    | cons c r ih =>
      intro hl
      rw [List.map_cons, ih hl.tail]
      show (Char.ofNat c).toNat :: r = c :: r
      rw [toNat_ofNat (by have := hl.head; omega)]
  exact this _ hd
section
variable {X : Cx} {W : WX}
theorem passes_len (tk : Takes X W) : Passes (L2.CX X.prog X.w) X (fun cls d H => ∀ σ : L2.St, σ.length = X.N.length → W cls d σ H) := fun pins σ H s e s' I c =>
  tk e s' (XE.of_call I (fun cls d H' h => h σ I.len) c)
end
end EM
/-! EM12: a list beside an empty list. -/
namespace EM
open PySem PySem.Spec PyProof.Rows L2
def rNeNil (K : PySem.W.Frag) : R2 := fun x y H Q => ∃ a b xs, x = .ref a ∧ y = .ref b ∧ SqL K H a xs ∧ SqL K H b [] ∧ Q (.bl (!xs.isEmpty)) H
def rEqNil (K : PySem.W.Frag) : R2 := fun x y H Q => ∃ a b xs, x = .ref a ∧ y = .ref b ∧ SqL K H a xs ∧ SqL K H b [] ∧ Q (.bl xs.isEmpty) H
section
variable {X : Cx}
theorem op_neNil (hu : X.A.units + 64 < cLine) : OpR X (compareOp .NotEq) (rNeNil X.K) := by
  intro pins s σ H x y v u Q I rx ry h
  obtain ⟨a, b, xs, rfl, rfl, ha, hb, q⟩ := h
  cases rx
  cases ry
  obtain ⟨its, r, pl, _⟩ := I.list ha
  obtain ⟨its2, r2, pl2, _⟩ := I.list hb
  have e2 : its2 = [] := by cases r2; rfl
  subst e2
  have hl := r.length
  show wpAny (model X.prog X.w) X.A (richCompare .NotEq (.ref a) (.ref b)) (EP X pins σ Q) X.xe s
  cases xs with
  | nil =>
    cases r
    exact SeqAt.RcNeAt.lists (e := fun _ => true) pl.isList pl2.isList rfl (by omega) (fun j h1 _ => absurd h1 (by simp)) _ _ _ _ ⟨.bl false, H, I, rfl, q⟩
  | cons c r0 =>
    refine SeqAt.RcNeAt.lists_lengths pl.isList pl2.isList ?_ (by omega) _ _ _ _ ⟨.bl true, H, I, rfl, q⟩
    rw [List.size_toArray, ← hl]
    rfl
theorem op_eqNil (hu : X.A.units + 64 < cLine) : OpR X (compareOp .Eq) (rEqNil X.K) := by
  intro pins s σ H x y v u Q I rx ry h
  obtain ⟨a, b, xs, rfl, rfl, ha, hb, q⟩ := h
  cases rx
  cases ry
  obtain ⟨its, r, pl, _⟩ := I.list ha
  obtain ⟨its2, r2, pl2, _⟩ := I.list hb
  have e2 : its2 = [] := by cases r2; rfl
  subst e2
  have hl := r.length
  show wpAny (model X.prog X.w) X.A (richCompare .Eq (.ref a) (.ref b)) (EP X pins σ Q) X.xe s
  cases xs with
  | nil =>
    cases r
    exact SeqAt.RcAt.lists (e := fun _ => true) pl.isList pl2.isList rfl (by omega) (fun j h1 _ => absurd h1 (by simp)) _ _ _ _ ⟨.bl true, H, I, rfl, q⟩
  | cons c r0 =>
    refine SeqAt.RcAt.lists_lengths pl.isList pl2.isList ?_ (by omega) _ _ _ _ ⟨.bl false, H, I, rfl, q⟩
    rw [List.size_toArray, ← hl]
    rfl
end
end EM
/-! EM13: marks: what stands at an address, promises of their defs. -/
namespace EM
open PySem PySem.Spec PyProof.Rows L2
def mf (wp ep sp : Addr) (b t u : Int) : List (Str × V) := [("widths", .ref wp), ("edge_row", .ref ep), ("sums", .ref sp), ("bars", .int b), ("total", .int t), ("span", .int u)]
/-- a mark of these widths stands at p -/
def MarkAt (K : PySem.W.Frag) (H : Hp) (p : Addr) (ws : List Int) : Prop := good ws ∧ ∃ dx wp ep sp, H p = some (.ins (He.ga K "Mark") dx (mf wp ep sp ((ws.length : Int) / 2 + 1) ws.sum (ws.take (ws.length - 1)).sum)) ∧ H wp = some (.tup (ws.map V.int)) ∧ H ep = some (.tup ((scan 0 ws).map V.int)) ∧ H sp = some (.tup ((sumsOf ws).map V.int))
theorem MarkAt.same {K : PySem.W.Frag} {H H' : Hp} {p : Addr} {ws : List Int} (h : MarkAt K H p ws) (e : Same H H') : MarkAt K H' p ws := by
  obtain ⟨g, dx, wp, ep, sp, h1, h2, h3, h4⟩ := h
  exact ⟨g, dx, wp, ep, sp, e _ _ h1, e _ _ h2, e _ _ h3, e _ _ h4⟩
def spIsInt (K : PySem.W.Frag) : Sp := fun vs H Q _ => ∃ x t b1 b2, vs = [x] ∧ TyX K H x t ∧ PySem.W.kitOne K t (.type "int") = some b1 ∧ PySem.W.kitOne K t (.type "bool") = some b2 ∧ Q (.bl (b1 && !b2)) H
theorem isInt_int {K : PySem.W.Frag} {H : Hp} {Q : VK} {E : XK} {i : Int} (q : Q (.bl true) H) : spIsInt K [.int i] H Q E := ⟨_, _, true, false, rfl, .base (.int i), kit_ty (by decide +kernel), kit_ty (by decide +kernel), q⟩
def spBetween : Sp := fun vs H Q _ => ∃ i lo hi : Int, vs = [.int i, .int lo, .int hi] ∧ Q (.bl (decide (lo ≤ i) && decide (i ≤ hi))) H
def spEdges (K : PySem.W.Frag) : Sp := fun vs H Q _ => ∃ (a : Addr) (ws : List Int), vs = [.ref a] ∧ SqT K H a (ws.map V.int) ∧ ws.length ≤ 1000 ∧ ∀ p H', Same H H' → H' p = some (.tup ((scan 0 ws).map V.int)) → Q (.ref p) H'
def spInit0 (K : PySem.W.Frag) : Sp := fun vs H Q _ => ∃ (x dx T : Addr) (ws : List Int), vs = [.ref x, .ref T] ∧ H x = some (.ins (He.ga K "Mark") dx []) ∧ H T = some (.tup (ws.map V.int)) ∧ good ws ∧
  ∀ H', (∀ b o, H b = some o → b ≠ x → H' b = some o) → MarkAt K H' x ws → Q .non H'
theorem good_rev {ws : List Int} (h : good ws) : good ws.reverse := by
  obtain ⟨h1, h2, h3, h4⟩ := h
  exact ⟨by rw [List.length_reverse]; exact h1, by rw [List.length_reverse]; exact h2, by rw [List.length_reverse]; exact h3, fun x hx => h4 x (List.mem_reverse.mp hx)⟩
abbrev spMI (K : PySem.W.Frag) : Sp := fun vs H Q E => ∃ ws rest, vs = ws ++ rest ∧ ws.length = ["self"].length ∧ rest.length ≤ sizeLine ∧ ∀ W, H W = none → spInit0 K (ws ++ [V.ref W]) (upd H W (.tup rest)) Q E
theorem mk_Mark {K : PySem.W.Frag} {H : Hp} {ws : List Int} {Q : VK} {E : XK} {vs : List V} (hv : vs = ws.map V.int) (hg : good ws) (q : ∀ p H', Same H H' → MarkAt K H' p ws → Q (.ref p) H') :
    ∀ x dx, H x = none → H dx = none → dx ≠ x → spMI K (V.ref x :: vs) (upd (upd H dx (.own x)) x (.ins (He.ga K "Mark") dx [])) (fun v H2 => v = .non ∧ Q (.ref x) H2) E := by
  intro x dx nx nd ne
  subst hv
  refine ⟨[.ref x], ws.map V.int, rfl, rfl, by rw [List.length_map]; exact sz (by have := hg.2.2.1; omega), fun W hW => ⟨x, dx, W, ws, rfl, ?_, upd_same, hg, fun H' k m => ⟨rfl, q x H' (fun b o e => ?_) m⟩⟩⟩
  · have nxW : x ≠ W := by
      intro z
      subst z
      rw [upd_same] at hW
      cases hW
    rw [upd_ne nxW, upd_same]
  · have n1 := ne_of_none e nx
    have n2 := ne_of_none e nd
    have nW : b ≠ W := by
      intro z
      subst z
      rw [upd_ne n1, upd_ne n2, e] at hW
      cases hW
    exact k b o (by rw [upd_ne nW, upd_ne n1, upd_ne n2]; exact e) n1
def spOf (K : PySem.W.Frag) : Sp := fun vs H Q _ => ∃ (c : V) (a : Addr) (ws : List Int), vs = [c, .ref a] ∧ (H a = some (.lst (ws.map V.int)) ∨ H a = some (.tup (ws.map V.int))) ∧ good ws ∧ ∀ p H', Same H H' → MarkAt K H' p ws → Q (.ref p) H'
def spInvert (K : PySem.W.Frag) : Sp := fun vs H Q _ => ∃ (p : Addr) (ws : List Int), vs = [.ref p] ∧ MarkAt K H p ws ∧ ∀ q H', Same H H' → MarkAt K H' q ws.reverse → Q (.ref q) H'
def spEqM (K : PySem.W.Frag) : Sp := fun vs H Q _ => ∃ (p q : Addr) (ws us : List Int), vs = [.ref p, .ref q] ∧ MarkAt K H p ws ∧ MarkAt K H q us ∧ Q (.bl (decide (ws = us))) H
def spPart : Sp := fun vs H Q _ => ∃ i : Int, vs = [.int i] ∧ 1 ≤ i ∧ i ≤ 1000 ∧ Q .non H
def spNeed : Sp := fun vs H Q _ => ∃ b g u : Int, vs = [.int b, .int g, .int u] ∧ (1 ≤ b ∧ b ≤ 62) ∧ (1 ≤ g ∧ g ≤ 1000) ∧ (1 ≤ u ∧ u ≤ 1000) ∧ Q .non H
theorem kSelf {K : PySem.W.Frag} {C : Addr} : PySem.W.kitOne K (.ref C) (.ref C) = some true := by
  unfold PySem.W.kitOne
  rw [if_pos (beq_self_eq_true _)]
end EM
/-! EM14: str of an instance with its own __str__. -/
namespace EM
open PySem PySem.Spec PyProof.Rows L2
def rStrO (C : Addr) (sp : Sp) (E : XK) : List V → Hp → VK → Prop := fun xs H Q => ∃ a dx fs, xs = [.ref a] ∧ H a = some (.ins C dx fs) ∧ sp [.ref a] H (fun z H' => ∃ r, z = .str r ∧ Q (.str r) H') E
section
variable {X : Cx} {CX : CXT} {n : Nat} {g C : Addr} {sp : Sp} {E : XK}
theorem call_strO (hs : PySem.W.findIn X.K (.ref C) "__str__" = some (some (.ref g))) (hf : PySem.W.isFn X.K (.ref g) = true) (F : FnR X.prog X.w X.K X.mg X.base CX n g sp) (hr : Room (n + 2) X.A) (hx : Passes CX X E) : CallR X (.type "str") (rStrO C sp E) := by
  intro pins s σ H xs us Q I r h
  obtain ⟨a, dx, fs, rfl, ha, q⟩ := h
  cases r with
  | cons rx rr =>
    cases rr
    rename_i u
    cases (show u = Value.ref a from rx)
    obtain ⟨ox, od, J, _⟩ := ins_at I ha
    refine PySem.W.kso_call (hr.in1.in1).units0 I.kIn J hs hf ?_
    have c := SlX.run_at (us := [.ref a]) (ws := [.ref a]) F hr.in1.in1 I.env0.in1.in1 hx I (.cons rfl .nil) q
    refine wpAny_mono (wpAny_call c) (fun w s' z => ?_) fun _ _ x => x
    obtain ⟨z', H', I', rz, r, ez, qz⟩ := z
    subst ez
    obtain ⟨t, rfl⟩ := (show ∃ t, w = Value.str r t from rz)
    exact ⟨.str r, H', I', ⟨t, rfl⟩, qz⟩
end
end EM
/-! EM15: how long a shown list or tuple is. -/
namespace EM
open PySem PySem.Spec PyProof.Rows L2
theorem app_len (a b : Str) : (a ++ b).length = a.length + b.length := by
  obtain ⟨x⟩ := a
  obtain ⟨y⟩ := b
  exact Array.size_append
theorem from_le : ∀ (ts : List Str) (k : Nat) (acc : Str), (textFrom k acc ts).length ≤ acc.length + (ts.map (·.length)).sum + 2 * ts.length
  | [], k, acc => by show acc.length ≤ _; omega
  | t :: r, k, acc => by
    have ih := from_le r (k + 1) (acc ++ (if k > 0 then ", " else "" : String) ++ t)
    have hc : (Str.ofString (if k > 0 then ", " else "" : String)).length ≤ 2 := by split <;> decide +kernel
    rw [app_len, app_len] at ih
    show (textFrom (k + 1) (acc ++ (if k > 0 then ", " else "" : String) ++ t) r).length ≤ _
    simp only [List.map_cons, List.sum_cons, List.length_cons]
    omega
theorem shown_sum : ∀ xs : List PyData, (((PyData.shownAll xs).map (·.length)).sum) = (xs.map fun d => d.shown.length).sum
  | [] => rfl
  | x :: r => by
    show x.shown.length + ((PyData.shownAll r).map (·.length)).sum = x.shown.length + (r.map fun d => d.shown.length).sum
    rw [shown_sum r]
theorem shown_n : ∀ xs : List PyData, (PyData.shownAll xs).length = xs.length
  | [] => rfl
  | x :: r => by
    show (PyData.shownAll r).length + 1 = r.length + 1
    rw [shown_n r]
theorem shown_list (xs : List PyData) : (PyData.list xs).shown.length ≤ (xs.map fun d => d.shown.length).sum + 2 * xs.length + 2 := by
  have h := from_le (PyData.shownAll xs) 0 "["
  have h1 : (Str.ofString "[").length = 1 := by decide +kernel
  have h2 : (Str.ofString "]").length = 1 := by decide +kernel
  show (textFrom 0 "[" (PyData.shownAll xs) ++ Str.ofString "]").length ≤ _
  rw [app_len]
  rw [shown_sum, shown_n] at h
  omega
theorem shown_tuple (xs : List PyData) : (PyData.tuple xs).shown.length ≤ (xs.map fun d => d.shown.length).sum + 2 * xs.length + 3 := by
  have h := StrLaws.join_length_le ", " (PyData.shownAll xs)
  have h1 : (Str.ofString "(").length = 1 := by decide +kernel
  have h2 : (Str.ofString ", ").length = 2 := by decide +kernel
  have h3 : (Str.ofString (if (PyData.shownAll xs).length == 1 then ",)" else ")" : String)).length ≤ 2 := by split <;> decide +kernel
  show (Str.ofString "(" ++ Str.join ", " (PyData.shownAll xs) ++ Str.ofString (if (PyData.shownAll xs).length == 1 then ",)" else ")" : String)).length ≤ _
  rw [app_len, app_len]
  rw [shown_sum, shown_n, h2] at h
  omega
/-- repr of it is let -/
structure ROk (d : PyData) : Prop where
  sh : d.showable = true
  ln : d.shown.length ≤ sizeLine
  dp : d.depth ≤ 64
theorem show_ints : ∀ ns : List Int, (∀ x ∈ ns, x.natAbs.log2 < 1920) → PyData.showableAll (ns.map PyData.int) = true
  | [], _ => rfl
  | n :: r, h => by
    show (decide (n.natAbs.log2 < 1920) && PyData.showableAll (r.map PyData.int)) = true
    rw [show_ints r fun x hx => h x (List.mem_cons_of_mem _ hx), decide_eq_true (h n List.mem_cons_self)]
    rfl
theorem sum_ints : ∀ ns : List Int, (∀ x ∈ ns, x.natAbs.log2 < 1920) → ((ns.map PyData.int).map fun d => d.shown.length).sum ≤ 1921 * ns.length
  | [], _ => Nat.le_refl _
  | n :: r, h => by
    have ih := sum_ints r fun x hx => h x (List.mem_cons_of_mem _ hx)
    have h1 : (PyData.shown (.int n)).length ≤ 1921 := int_text_len_1921 (h n List.mem_cons_self)
    simp only [List.map_cons, List.sum_cons, List.length_cons] at ih ⊢
    omega
theorem rokL (ns : List Int) (h : ∀ x ∈ ns, x.natAbs.log2 < 1920) (hl : ns.length ≤ 5000) : ROk (dL ns) := by
  have h1 := shown_list (ns.map PyData.int)
  have h2 := sum_ints ns h
  rw [List.length_map] at h1
  refine ⟨show_ints ns h, Nat.le_trans (show (PyData.list (ns.map PyData.int)).shown.length ≤ 10000000 by omega) (by decide), ?_⟩
  rw [show (dL ns).depth = PyData.depthAll (ns.map PyData.int) + 1 from rfl, dep_ints]
  decide
theorem rokT (ns : List Int) (h : ∀ x ∈ ns, x.natAbs.log2 < 1920) (hl : ns.length ≤ 5000) : ROk (dT ns) := by
  have h1 := shown_tuple (ns.map PyData.int)
  have h2 := sum_ints ns h
  rw [List.length_map] at h1
  refine ⟨show_ints ns h, Nat.le_trans (show (PyData.tuple (ns.map PyData.int)).shown.length ≤ 10000000 by omega) (by decide), ?_⟩
  rw [show (dT ns).depth = PyData.depthAll (ns.map PyData.int) + 1 from rfl, dep_ints]
  decide
end EM
/-! EM16: replace of written texts behind a test with a written int (a token is out then). -/
namespace EM
open PySem PySem.Spec PyProof.Rows L2
section
variable {X : Cx} {CX : CXT} {k : Nat} {f : Addr} {sp : Sp} {E : XK} {x : Str} {a e : Expr} {es : List Expr} {ta : TE} {t : TA} {p pos pos' cp : Pos}
/-- f(e, ..), one token out -/
theorem pet_cR (F : FnR X.prog X.w X.K X.mg X.base CX k f sp) (hr : Room k X.A) (hk : PySem.W.keepIn X.K (.ref f) = true) (hm : X.mg x = some (.ref f)) (hx : Passes CX X E) (ha : PAT X (e :: es) t) (hg : Gl X x := by rfl) (hd : (x == ("__debug__" : Str)) = false := by decide)
    (he : starEach (e :: es) X.env = (false, eval e X.env) :: starEach es X.env := by rfl) (hpl : (backTo pos (starEach es X.env)).any (·.1) = false := by rfl) :
    PET X (.Call (.Name x p) (e :: es) [] pos) (tCR sp E t) := by
  intro pins s σ H Q h0 I h
  refine wpAny_Call_Name_kw (ld_glob I hg hm ?_ hd)
  refine PySem.W.callWith_K (h₀ := X.base) I.ok.mod.kin hk (thn (ha pos pins s σ H _ h0 I h) fun us s1 ⟨vs, H1, I1, r, q⟩ => ⟨I1.kIn, ?_⟩) he hpl
  exact wpAny_call (run_fnR F hr hx I1 r q)
/-- behind a test with a written int a token is out -/
theorem pss_ifT {op : CmpOp} {r : R2} {i : Int} {j : Nat} {b c rest : List Stmt} {tb tc v : TS} (ho : OpR X (compareOp op) r) (ha : PE X a ta) (hm : behindInMarks op (.Constant (.int i) j cp) = false) (hb : PSsT X b tb) (hc : PSsT X c tc) (hv : PSsT X rest v) :
    PSs X (.If (.Compare a [op] [.Constant (.int i) j cp] pos) b c pos' :: rest) (tSeq (tIfS (tTest (tOp r ta (tC (.int i)))) tb tc) v) := by
  refine ⟨fun pins s σ H D I h => ?_⟩
  refine wpAny_execs_cons (wpAny_mono (Q := fun f s1 => 1 ≤ s1.toks ∧ SP X pins { D with nx := v D } f s1) (wpAny_If (wpAny_isTrue_Compare1 (thn (ha.run pins s σ H _ I h) fun z s1 ⟨x, H1, I1, r1, q1⟩ => wpAny_Constant_int ?_) hm)) (fun f s1 q => ?_) fun _ _ x => x)
  · refine wpAny_mono (PySem.wpAny_toks (ho pins { s1 with toks := s1.toks + 1 } σ H1 x (.int i) z (.int i s1.toks) _ (I1.tok _) r1 ⟨_, rfl⟩ q1)) (fun d s3 q => ?_) fun _ _ x => x.2
    obtain ⟨hk, y, H3, I3, r3, kk, e, q3⟩ := q
    have hk' : s1.toks + 1 ≤ s3.toks := hk
    subst e
    cases r3
    refine wpAny_truthy_bool ?_
    cases kk with
    | true =>
      refine wpAny_mono (PySem.wpAny_toks (hb pins s3 σ H3 _ (by omega) I3 q3)) (fun f s4 q => ?_) fun _ _ x => x.2
      exact ⟨by have := q.1; omega, q.2⟩
    | false =>
      refine wpAny_mono (PySem.wpAny_toks (hc pins s3 σ H3 _ (by omega) I3 q3)) (fun f s4 q => ?_) fun _ _ x => x.2
      exact ⟨by have := q.1; omega, q.2⟩
  · obtain ⟨hk, q⟩ := q
    cases f with
    | next =>
      obtain ⟨σ', H', I', q⟩ := q
      exact hv pins s1 σ' H' D hk I' q
    | ret v => exact q
    | brk => exact q
    | cont => exact q
end
end EM
/-! EM17: ratios: the common divisor, ratios made. -/
namespace EM
open PySem PySem.Spec PyProof.Rows L2
section
variable {X : Cx} {CX : CXT} {k : Nat} {f C : Addr} {sp : Sp} {E : XK} {x : Str} {e : Expr} {es : List Expr} {t : TA} {p pos : Pos}
/-- // by a divisor of either sign -/
theorem op_fdivWN : OpR X (binaryOp .FloorDiv) (rI (fun _ j => j ≠ 0 ∧ j.natAbs.log2 < 9000) fun i j => .int (i.fdiv j)) := opI fun i j _ _ _ _ _ hc q =>
  floordiv_int hc.1 q (.inl (PyProof.noPylong_of_log2 hc.2))
/-- C(e, ..) by the promise of its __init__ -/
theorem pe_mkR (M : Mk X.K C f) (F : FnR X.prog X.w X.K X.mg X.base CX k f sp) (hr : Room (k + 1) X.A) (hm : X.mg x = some (.ref C)) (hx : Passes CX X E) (ha : PA X (e :: es) t) (hg : Gl X x := by rfl) (hd : (x == ("__debug__" : Str)) = false := by decide)
    (he : starEach (e :: es) X.env = (false, eval e X.env) :: starEach es X.env := by rfl) (hpl : (backTo pos (starEach es X.env)).any (·.1) = false := by rfl) :
    PE X (.Call (.Name x p) (e :: es) [] pos) (StX.tMakeR C sp E t) := by
  refine ⟨fun pins s σ H Q I h => ?_⟩
  refine wpAny_Call_Name_kw (ld_glob I hg hm ?_ hd)
  refine PySem.W.callWith_K (h₀ := X.base) I.ok.mod.kin M.kp (thn (ha.run pos pins s σ H _ I h) fun us s1 ⟨vs, H1, I1, r, q⟩ => ⟨I1.kIn, ?_⟩) he hpl
  exact StX.run_makeR M F hr hx I1 r q
end
theorem fmod_less (a b : Int) (h : b ≠ 0) : (a.fmod b).natAbs < b.natAbs := by
  rcases Int.lt_or_gt_of_ne h with h | h
  · have e : a.fmod b = -((-a).fmod (-b)) := by
      have := Int.neg_fmod_neg (a := a) (b := b)
      omega
    have h1 := Int.fmod_lt_of_pos (-a) (b := -b) (by omega)
    have h2 := Int.fmod_nonneg_of_pos (-a) (b := -b) (by omega)
    rw [e]
    omega
  · have h1 := Int.fmod_lt_of_pos a (b := b) h
    have h2 := Int.fmod_nonneg_of_pos a (b := b) h
    omega
theorem gcd_fmod (a b : Int) : Int.gcd b (a.fmod b) = Int.gcd a b := by
  rw [Int.fmod_def, Int.gcd_sub_mul_left_right, Int.gcd_comm]
def spGcd : Sp := fun vs H Q _ => ∃ a b : Int, vs = [.int a, .int b] ∧ Q (.int (Int.gcd a b : Int)) H
/-- the sign of the bottom, times the common divisor -/
def shr (t b : Int) : Int := if b < 0 then -(Int.gcd t b : Int) else (Int.gcd t b : Int)
def nTop (t b : Int) : Int := t.fdiv (shr t b)
def nBot (t b : Int) : Int := b.fdiv (shr t b)
theorem shr_ne {t b : Int} (h : b ≠ 0) : shr t b ≠ 0 := by
  have : Int.gcd t b ≠ 0 := fun z => h (Int.gcd_eq_zero_iff.mp z).2
  unfold shr
  split <;> omega
theorem shr_abs (t b : Int) : (shr t b).natAbs = Int.gcd t b := by
  unfold shr
  split <;> omega
theorem shr_le {t b : Int} (h : b ≠ 0) : (shr t b).natAbs ≤ b.natAbs := by
  rw [shr_abs]
  exact Nat.le_of_dvd (by omega) (Int.gcd_dvd_natAbs_right t b)
/-- the ratio of top t and bottom b stands at p -/
def rf (t b : Int) : List (Str × V) := [("top", .int t), ("bottom", .int b)]
def RatAt (K : PySem.W.Frag) (H : Hp) (p : Addr) (t b : Int) : Prop := ∃ dx, H p = some (.ins (He.ga K "Ratio") dx (rf t b))
theorem RatAt.same {K : PySem.W.Frag} {H H' : Hp} {p : Addr} {t b : Int} (h : RatAt K H p t b) (e : Same H H') : RatAt K H' p t b := by
  obtain ⟨dx, h⟩ := h
  exact ⟨dx, e _ _ h⟩
theorem log_le {a b : Nat} (h : a ≤ b) : a.log2 ≤ b.log2 := by
  by_cases h0 : a = 0
  · subst h0
    simp
  · exact (Nat.le_log2 (by omega)).mpr (Nat.le_trans (Nat.log2_self_le h0) h)
def spRat (K : PySem.W.Frag) : Sp := fun vs H Q _ => ∃ (x dx : Addr) (t b : Int), vs = [.ref x, .int t, .int b] ∧ H x = some (.ins (He.ga K "Ratio") dx []) ∧ b ≠ 0 ∧ b.natAbs.log2 < 9000 ∧
  ∀ H', (∀ c o, H c = some o → c ≠ x → H' c = some o) → RatAt K H' x (nTop t b) (nBot t b) → Q .non H'
end EM
/-! EM18: the end of a law whose promise wants that no guard is held (repr of data). -/
namespace EM
open PySem PySem.Spec PyProof.Rows L2
/-- behind an if whose else is left out the rest is read once -/
theorem ite_rest {c A : Prop} [Decidable c] {N : L2.St → Hp → Prop} {σ : L2.St} {H : Hp} (R : L2.St → Hp → Prop) (hr : ∀ σ H, R σ H → N σ H) (h1 : (∀ σ H, R σ H → N σ H) → c → A) (h2 : ¬ c → R σ H) : if c then A else N σ H := by
  by_cases h : c
  · rw [if_pos h]
    exact h1 hr h
  · rw [if_neg h]
    exact hr _ _ (h2 h)
section
variable {P : Program} {w : World} {K : PySem.W.Frag} {mg mb : Str → Option Value} {CX : CXT} {k : Nat} {fa a : Addr} {sp : Sp} {s1 : Shared} {us : List Value} {ns : List Int}
/-- what the script's heap is, seen from outside -/
def hp1 (a : Addr) (us : List Value) (ns : List Int) : Hp := fun b => if b = a then some (.frz { cls := .type "list", data := .seq us.toArray } (.lst (ns.map V.int))) else none
theorem callG (kx : K.In s1.heap) (gx : s1.heap.Ns mainGlobals mg) (bx : s1.heap.Ns builtinsNs mb) (b2 : ∀ x : Str, x ≠ "__name__" → mb x = bootBuiltins x) (nl : s1.heap.NoLimit) (ng : s1.gens = #[])
    (ha : s1.heap.get? a = some { cls := .type "list", data := .seq us.toArray }) (rm : Room k callerA)
    (F : ∀ base : Heap, K.In base → base.Ns mainGlobals mg → FnG P w K mg base CX k fa sp)
    (nx : ∀ H e s', CX [] H s1 (fun _ _ _ => False) e s' → False)
    (H : Hp) (hO : L2.Only H) (hS : sp [.ref a] H (fun v _ => v = .bl true) fun _ _ _ => False) (hok : HOk P w H s1.heap) (hA : ∀ b, H b ≠ none → b = a) (hK : H a ≠ none → K.lookup a = none) :
    codeAny (model P w) callerA (.call (.ref fa) ⟨[.ref a], []⟩) (fun r s' => r = .ok (.ret (.bool true)) ∧ OldK s1.heap s'.heap ∧ s'.os = s1.os ∧ AllBare s'.gens) s1 := by
  have out : ∀ {b : Addr} {o : Obj} {es : Array DictEntry} {n : Nat}, s1.heap.get? b = some o → o.data = .dict es n → H b = none := by
    intro b o es n e d
    apply Classical.byContradiction
    intro z
    have q := hA b z
    subst q
    rw [ha] at e
    cases e
    have d2 : Data.seq us.toArray _ = Data.dict es n := d
    cases d2
  have nsB : ∀ {b : Addr} {m : Str → Option Value}, s1.heap.Ns b m → (hidT s1.heap H).Ns b m := by
    intro b m ⟨o, es, n, e, d, r⟩
    exact ⟨o, es, n, hidT_get e (out e d), d, r⟩
  have inB : K.In (hidT s1.heap H) := by
    intro b o e
    refine hidT_get (kx b o e) (Classical.byContradiction fun z => ?_)
    have q := hA b z
    subst q
    rw [hK z] at e
    cases e
  have md : Mod K mg (hidT s1.heap H) := ⟨inB, nsB gx, ⟨mb, nsB bx, b2⟩, let ⟨mc, y1, y2⟩ := nl; ⟨mc, nsB y1, y2⟩⟩
  have ev : Env0 P w K mg (hidT s1.heap H) callerA [] s1 H :=
    ⟨rfl, md, fun b o e => of_hidT e, Nat.le_of_eq (hidT_size _ _), trivial, fun b hb => absurd (show b ∈ ([] : List Addr) from hb) (by simp), hok, .of_eq ng⟩
  refine codeAny_mono (F _ inB (nsB gx) callerA [] s1 H [.ref a] [.ref a] _ _ rm rfl ev (.cons rfl .nil) hS) fun r s2 h => ?_
  match r, h with
  | .error e, h => exact (nx H e s2 h).elim
  | .ok .next, h => exact False.elim h
  | .ok .brk, h => exact False.elim h
  | .ok .cont, h => exact False.elim h
  | .ok (.ret u), h =>
    obtain ⟨v, H2, os, bare, un, ok2, rv, q⟩ := h
    have q2 : v = .bl true := q
    subst q2
    obtain rfl : u = Value.bool true := rv
    refine ⟨rfl, OldK.of_keep fun b o e => ?_, os, bare⟩
    rcases hO b with z | ⟨ob, xs, z⟩
    · exact un.keep b o e z (fun y => absurd (show b ∈ ([] : List Addr) from y) (by simp)) (by simp)
    · have e1 := (hok b _ z).1
      have e2 := (ok2 b _ (un.frzs b ob _ z)).1
      rw [e] at e1
      cases e1
      exact e2
theorem lawG (kx : K.In s1.heap) (gx : s1.heap.Ns mainGlobals mg) (bx : s1.heap.Ns builtinsNs mb) (b2 : ∀ x : Str, x ≠ "__name__" → mb x = bootBuiltins x) (nl : s1.heap.NoLimit) (ng : s1.gens = #[])
    (ha : s1.heap.get? a = some { cls := .type "list", data := .seq us.toArray }) (hi : IntsAre us ns) (hl : ns.length ≤ sizeLine) (rm : Room k callerA)
    (F : ∀ base : Heap, K.In base → base.Ns mainGlobals mg → FnG P w K mg base CX k fa sp)
    (hS : ∀ H : Hp, L2.Only H → SqL K H a (ns.map V.int) → sp [.ref a] H (fun v _ => v = .bl true) fun _ _ _ => False)
    (nx : ∀ H e s', CX [] H s1 (fun _ _ _ => False) e s' → False) :
    codeAny (model P w) callerA (.call (.ref fa) ⟨[.ref a], []⟩) (fun r s' => r = .ok (.ret (.bool true)) ∧ OldK s1.heap s'.heap ∧ s'.os = s1.os ∧ AllBare s'.gens) s1 := by
  have rv := vals_ints hi
  have go := callG kx gx bx b2 nl ng ha rm F nx
  cases hk : K.lookup a with
  | some o =>
    have e := kx a o hk
    rw [ha] at e
    cases e
    have h1 : L2.Only (fun _ => none) := fun _ => .inl rfl
    refine go (fun _ => none) h1 (hS _ h1 (.inr ⟨_, us.toArray, _, hk, rfl, rfl, rfl, ?_, ?_⟩)) (fun b u z => ?_) (fun b z => absurd rfl z) fun z => absurd rfl z
    · rw [List.size_toArray, hi.length]
      exact hl
    · simpa using rv
    · cases z
  | none =>
    have at_a : hp1 a us ns a = some (.frz { cls := .type "list", data := .seq us.toArray } (.lst (ns.map V.int))) := if_pos rfl
    have off : ∀ {b}, b ≠ a → hp1 a us ns b = none := fun h => if_neg h
    have h1 : L2.Only (hp1 a us ns) := fun b => by
      by_cases h : b = a
      · subst h
        exact .inr ⟨_, _, at_a⟩
      · exact .inl (off h)
    refine go (hp1 a us ns) h1 (hS _ h1 (.inl (.inr ⟨_, at_a⟩))) (fun b u z => ?_) (fun b z => ?_) fun _ => hk
    · by_cases h : b = a
      · subst h
        rw [at_a] at z
        cases z
        exact ⟨ha, by rw [List.length_map]; exact hl, us, _, rv, ha⟩
      · rw [off h] at z
        cases z
    · exact Classical.byContradiction fun h => z (off h)
end
theorem walkG {l : PySem.W.OpenLaw} {n k : Nat} {q : Program} {loose : List Str} {XP : (Str → Option Value) → Heap → Prop} {YP : World → Heap → Prop} {d : DefRec}
    (hn : l.most = some n) (hn2 : n ≤ sizeLine) (hd : d.params.defaults = []) (rm : Room k callerA)
    (F : ∀ (w : World) (mg : Str → Option Value) (fa : Addr) (h : Heap), YP w h → h.Ns mainGlobals mg → mg d.name = some (.ref fa) →
      ∃ (K : PySem.W.Frag) (sp : Sp), K.In h ∧ (∀ (H : Hp) (a : Addr) (ns : List Int), ns.length ≤ n → SqL K H a (ns.map V.int) → sp [.ref a] H (fun v _ => v = .bl true) fun _ _ _ => False) ∧
        ∀ base : Heap, K.In base → base.Ns mainGlobals mg → FnG l.prog w K mg base (L2.CX l.prog w) k fa sp)
    (nx : ∀ (w : World) (H : Hp) (s : Shared) (e : Value) (s' : Shared), L2.CX l.prog w [] H s (fun _ _ _ => False) e s' → False) :
    PySem.W.WalkO q loose XP YP l.row.toRowW d [] (fun f vs => PySem.call f vs) := by
  refine Att.attach_call hn hd fun w s0 s1 mg mb fa o pm cd doc a us ns G Y ho hd hcd hmg hobj hints hlen hg => ?_
  obtain ⟨K, sp, kx, hS, hF⟩ := F w mg fa _ Y G.T.g hmg
  exact lawG kx G.T.g G.T.b G.T.builtins G.T.nolimit hg hobj hints (Nat.le_trans hlen hn2) rm hF (fun H _ hs => hS H a ns hlen hs) (nx w · s1)
end EM
set_option autoImplicit false
namespace K10
open PySem PySem.Spec PyProof.Rows L2
def top (i : Nat) : Stmt := PySem.Challenge.pw_edgesmeet_k10_texts_of_marks.main.body.getD i (.Pass ⟨0, 0, 0, 0⟩)
abbrev s_BadMark_init : Stmt := inClass (top 5) 0
theorem sc_BadMark_init : FnScope ["self", "at"] ["self", "at"] (defScope s_BadMark_init) := ⟨rfl, rfl, rfl, by decide +kernel, rfl, by decide +kernel, by decide +kernel⟩
abbrev s_BadText_init : Stmt := inClass (top 8) 0
theorem sc_BadText_init : FnScope ["self", "line", "word"] ["self", "line", "word"] (defScope s_BadText_init) := ⟨rfl, rfl, rfl, by decide +kernel, rfl, by decide +kernel, by decide +kernel⟩
abbrev s_is_figures : Stmt := top 11
theorem sc_is_figures : FnScope ["text", "most", "sign"] ["text", "most"] (defScope s_is_figures) := ⟨rfl, rfl, rfl, by decide +kernel, rfl, by decide +kernel, by decide +kernel⟩
abbrev s_is_integer : Stmt := top 14
theorem sc_is_integer : FnScope ["thing"] ["thing"] (defScope s_is_integer) := ⟨rfl, rfl, rfl, by decide +kernel, rfl, by decide +kernel, by decide +kernel⟩
abbrev s_common_divisor : Stmt := top 15
theorem sc_common_divisor : FnScope ["one", "other"] ["one", "other"] (defScope s_common_divisor) := ⟨rfl, rfl, rfl, by decide +kernel, rfl, by decide +kernel, by decide +kernel⟩
abbrev s_Ratio_init : Stmt := inClass (top 16) 0
theorem sc_Ratio_init : FnScope ["self", "top", "bottom", "shared"] ["self", "top", "bottom"] (defScope s_Ratio_init) := ⟨rfl, rfl, rfl, by decide +kernel, rfl, by decide +kernel, by decide +kernel⟩
abbrev s_is_between : Stmt := top 22
theorem sc_is_between : FnScope ["thing", "low", "high"] ["thing", "low", "high"] (defScope s_is_between) := ⟨rfl, rfl, rfl, by decide +kernel, rfl, by decide +kernel, by decide +kernel⟩
abbrev s_edges_of : Stmt := top 23
theorem sc_edges_of : FnScope ["widths", "found", "width"] ["widths"] (defScope s_edges_of) := ⟨rfl, rfl, rfl, by decide +kernel, rfl, by decide +kernel, by decide +kernel⟩
abbrev s_Mark_init : Stmt := inClass (top 24) 2
theorem sc_Mark_init : FnScope ["self", "widths", "at", "width", "one", "other"] ["self", "widths"] (defScope s_Mark_init) := ⟨rfl, rfl, rfl, by decide +kernel, rfl, by decide +kernel, by decide +kernel⟩
abbrev s_Mark_of : Stmt := inClass (top 24) 4
theorem sc_Mark_of : FnScope ["cls", "widths"] ["cls", "widths"] (defScope s_Mark_of) := ⟨rfl, rfl, rfl, by decide +kernel, rfl, by decide +kernel, by decide +kernel⟩
abbrev s_Mark_read : Stmt := inClass (top 24) 5
theorem sc_Mark_read : FnScope ["cls", "text", "parts", "at", "part"] ["cls", "text"] (defScope s_Mark_read) := ⟨rfl, rfl, rfl, by decide +kernel, rfl, by decide +kernel, by decide +kernel⟩
abbrev s_Mark_str : Stmt := inClass (top 24) 15
theorem sc_Mark_str : FnScope ["self", "width"] ["self"] (defScope s_Mark_str) := ⟨rfl, rfl, rfl, by decide +kernel, rfl, by decide +kernel, by decide +kernel⟩
abbrev s_Lpen : Stmt := top 26
theorem sc_Lpen : FnScope ["_law_script"] ["_law_script"] (defScope s_Lpen) := ⟨rfl, rfl, rfl, by decide +kernel, rfl, by decide +kernel, by decide +kernel⟩
abbrev s_Ldraw : Stmt := top 27
theorem sc_Ldraw : FnScope ["_law_pen_here", "_law_many", "_law_digit", "_law_begun", "_law_cell", "_law_great", "_law_mixed"] ["_law_pen_here", "_law_many"] (defScope s_Ldraw) := ⟨rfl, rfl, rfl, by decide +kernel, rfl, by decide +kernel, by decide +kernel⟩
abbrev s_Lpick : Stmt := top 28
theorem sc_Lpick : FnScope ["_law_pen_here", "_law_some"] ["_law_pen_here", "_law_some"] (defScope s_Lpick) := ⟨rfl, rfl, rfl, by decide +kernel, rfl, by decide +kernel, by decide +kernel⟩
abbrev s_Lwidths : Stmt := top 29
theorem sc_Lwidths : FnScope ["_law_pen_here", "_law_most", "_law_bars", "_law_wide", "_law_found", "_law_k", "_law_spot"] ["_law_pen_here", "_law_most"] (defScope s_Lwidths) := ⟨rfl, rfl, rfl, by decide +kernel, rfl, by decide +kernel, by decide +kernel⟩
abbrev s_Lis_width : Stmt := top 30
theorem sc_Lis_width : FnScope ["_law_part", "_law_sign"] ["_law_part"] (defScope s_Lis_width) := ⟨rfl, rfl, rfl, by decide +kernel, rfl, by decide +kernel, by decide +kernel⟩
abbrev s_Ldue : Stmt := top 31
theorem sc_Ldue : FnScope ["_law_text", "_law_parts", "_law_k", "_law_part"] ["_law_text"] (defScope s_Ldue) := ⟨rfl, rfl, rfl, by decide +kernel, rfl, by decide +kernel, by decide +kernel⟩
abbrev s_Lbent : Stmt := top 32
theorem sc_Lbent : FnScope ["_law_pen_here", "_law_text", "_law_spot", "_law_way", "_law_sign", "_law_swapped"] ["_law_pen_here", "_law_text"] (defScope s_Lbent) := ⟨rfl, rfl, rfl, by decide +kernel, rfl, by decide +kernel, by decide +kernel⟩
abbrev s_Llong : Stmt := top 33
theorem sc_Llong : FnScope ["_law_pen_here", "_law_parts", "_law_spot"] ["_law_pen_here"] (defScope s_Llong) := ⟨rfl, rfl, rfl, by decide +kernel, rfl, by decide +kernel, by decide +kernel⟩
abbrev s_Lheard : Stmt := top 34
theorem sc_Lheard : FnScope ["_law_text", "error"] ["_law_text"] (defScope s_Lheard) := ⟨rfl, rfl, rfl, by decide +kernel, rfl, by decide +kernel, by decide +kernel⟩
abbrev s_Lread_right : Stmt := top 35
theorem sc_Lread_right : FnScope ["_law_text", "_law_due_here"] ["_law_text"] (defScope s_Lread_right) := ⟨rfl, rfl, rfl, by decide +kernel, rfl, by decide +kernel, by decide +kernel⟩
abbrev s_law : Stmt := top 36
theorem sc_law : FnScope ["_law_script", "_law_pen_here", "_law_turn", "_law_row", "_law_k", "_law_written", "_law_width", "_law_again", "_law_bent_here", "_law_thing"] ["_law_script"] (defScope s_law) := ⟨rfl, rfl, rfl, by decide +kernel, rfl, by decide +kernel, by decide +kernel⟩
def e_BadMark_init : He5.DefA := ⟨fun K => He.ma K (He.ga K "BadMark") "__init__", "__init__", "BadMark.__init__", defArgs s_BadMark_init, defBody s_BadMark_init, defScope s_BadMark_init, [], []⟩
def e_BadText_init : He5.DefA := ⟨fun K => He.ma K (He.ga K "BadText") "__init__", "__init__", "BadText.__init__", defArgs s_BadText_init, defBody s_BadText_init, defScope s_BadText_init, [], []⟩
def e_is_figures : He5.DefA := ⟨fun K => He.ga K "is_figures", "is_figures", "is_figures", defArgs s_is_figures, defBody s_is_figures, defScope s_is_figures, [], []⟩
def e_is_integer : He5.DefA := ⟨fun K => He.ga K "is_integer", "is_integer", "is_integer", defArgs s_is_integer, defBody s_is_integer, defScope s_is_integer, [], []⟩
def e_common_divisor : He5.DefA := ⟨fun K => He.ga K "common_divisor", "common_divisor", "common_divisor", defArgs s_common_divisor, defBody s_common_divisor, defScope s_common_divisor, [], []⟩
def e_Ratio_init : He5.DefA := ⟨fun K => He.ma K (He.ga K "Ratio") "__init__", "__init__", "Ratio.__init__", defArgs s_Ratio_init, defBody s_Ratio_init, defScope s_Ratio_init, [.int 1], []⟩
def e_is_between : He5.DefA := ⟨fun K => He.ga K "is_between", "is_between", "is_between", defArgs s_is_between, defBody s_is_between, defScope s_is_between, [], []⟩
def e_edges_of : He5.DefA := ⟨fun K => He.ga K "edges_of", "edges_of", "edges_of", defArgs s_edges_of, defBody s_edges_of, defScope s_edges_of, [], []⟩
def e_Mark_init : He5.DefA := ⟨fun K => He.ma K (He.ga K "Mark") "__init__", "__init__", "Mark.__init__", defArgs s_Mark_init, defBody s_Mark_init, defScope s_Mark_init, [], []⟩
def e_Mark_of : He5.DefA := ⟨fun K => He5.wf K (He.ga K "Mark") "classmethod" "of", "of", "Mark.of", defArgs s_Mark_of, defBody s_Mark_of, defScope s_Mark_of, [], []⟩
def e_Mark_read : He5.DefA := ⟨fun K => He5.wf K (He.ga K "Mark") "classmethod" "read", "read", "Mark.read", defArgs s_Mark_read, defBody s_Mark_read, defScope s_Mark_read, [], []⟩
def e_Mark_str : He5.DefA := ⟨fun K => He.ma K (He.ga K "Mark") "__str__", "__str__", "Mark.__str__", defArgs s_Mark_str, defBody s_Mark_str, defScope s_Mark_str, [], []⟩
def e_Lpen : He5.DefA := ⟨fun K => He.ga K "_law_pen", "_law_pen", "_law_pen", defArgs s_Lpen, defBody s_Lpen, defScope s_Lpen, [], []⟩
def e_Ldraw : He5.DefA := ⟨fun K => He.ga K "_law_draw", "_law_draw", "_law_draw", defArgs s_Ldraw, defBody s_Ldraw, defScope s_Ldraw, [], []⟩
def e_Lpick : He5.DefA := ⟨fun K => He.ga K "_law_pick", "_law_pick", "_law_pick", defArgs s_Lpick, defBody s_Lpick, defScope s_Lpick, [], []⟩
def e_Lwidths : He5.DefA := ⟨fun K => He.ga K "_law_widths", "_law_widths", "_law_widths", defArgs s_Lwidths, defBody s_Lwidths, defScope s_Lwidths, [], []⟩
def e_Lis_width : He5.DefA := ⟨fun K => He.ga K "_law_is_width", "_law_is_width", "_law_is_width", defArgs s_Lis_width, defBody s_Lis_width, defScope s_Lis_width, [], []⟩
def e_Ldue : He5.DefA := ⟨fun K => He.ga K "_law_due", "_law_due", "_law_due", defArgs s_Ldue, defBody s_Ldue, defScope s_Ldue, [], []⟩
def e_Lbent : He5.DefA := ⟨fun K => He.ga K "_law_bent", "_law_bent", "_law_bent", defArgs s_Lbent, defBody s_Lbent, defScope s_Lbent, [], []⟩
def e_Llong : He5.DefA := ⟨fun K => He.ga K "_law_long", "_law_long", "_law_long", defArgs s_Llong, defBody s_Llong, defScope s_Llong, [], []⟩
def e_Lheard : He5.DefA := ⟨fun K => He.ga K "_law_heard", "_law_heard", "_law_heard", defArgs s_Lheard, defBody s_Lheard, defScope s_Lheard, [], []⟩
def e_Lread_right : He5.DefA := ⟨fun K => He.ga K "_law_read_right", "_law_read_right", "_law_read_right", defArgs s_Lread_right, defBody s_Lread_right, defScope s_Lread_right, [], []⟩
def e_law : He5.DefA := ⟨fun K => He.ga K "law", "law", "law", defArgs s_law, defBody s_law, defScope s_law, [], []⟩
def fn : List He5.DefA := [e_BadMark_init, e_BadText_init, e_is_figures, e_is_integer, e_common_divisor, e_Ratio_init, e_is_between, e_edges_of, e_Mark_init, e_Mark_of, e_Mark_read, e_Mark_str, e_Lpen, e_Ldraw, e_Lpick, e_Lwidths, e_Lis_width, e_Ldue, e_Lbent, e_Llong, e_Lheard, e_Lread_right, e_law]
def fa0 : List EM.Fk := [fun K => (He.Fa.glo "EdgeError").ok K,
  fun K => (He.Fa.glo "BadText").ok K,
  fun K => (He.Fa.glo "BadMark").ok K,
  fun K => (He.Fa.glo "is_figures").ok K,
  fun K => (He.Fa.glo "is_integer").ok K,
  fun K => (He.Fa.glo "common_divisor").ok K,
  fun K => (He.Fa.glo "Ratio").ok K,
  fun K => (He.Fa.glo "is_between").ok K,
  fun K => (He.Fa.glo "edges_of").ok K,
  fun K => (He.Fa.glo "Mark").ok K,
  fun K => (He.Fa.glo "_law_pen").ok K,
  fun K => (He.Fa.glo "_law_draw").ok K,
  fun K => (He.Fa.glo "_law_pick").ok K,
  fun K => (He.Fa.glo "_law_widths").ok K,
  fun K => (He.Fa.glo "_law_is_width").ok K,
  fun K => (He.Fa.glo "_law_due").ok K,
  fun K => (He.Fa.glo "_law_bent").ok K,
  fun K => (He.Fa.glo "_law_long").ok K,
  fun K => (He.Fa.glo "_law_heard").ok K,
  fun K => (He.Fa.glo "_law_read_right").ok K]
def fa1 : List EM.Fk := [fun K => (He.Fa.glo "law").ok K,
  fun K => (He.Fa.free "len").ok K,
  fun K => (He.Fa.free "enumerate").ok K,
  fun K => (He.Fa.free "tuple").ok K,
  fun K => (He.Fa.free "zip").ok K,
  fun K => (He.Fa.free "isinstance").ok K,
  fun K => (He.Fa.free "int").ok K,
  fun K => (He.Fa.free "bool").ok K,
  fun K => (He.Fa.free "list").ok K,
  fun K => (He.Fa.free "abs").ok K,
  fun K => (He.Fa.free "range").ok K,
  fun K => (He.Fa.free "all").ok K,
  fun K => (He.Fa.free "str").ok K,
  fun K => (He.Fa.free "repr").ok K,
  fun K => (He.Fa.int "MOST_WIDTH" 1000).ok K,
  fun K => (He.Fa.int "MOST_WIDTHS" 127).ok K,
  fun K => (He.Fa.int "WIDTH_DIGITS" 4).ok K,
  fun K => (He.Fa.str "FIGURES" "0123456789").ok K,
  fun K => (He.Fa.cls "Mark").ok K,
  fun K => (He.Fa.mkr "Mark").ok K]
def fa2 : List EM.Fk := [fun K => EM.isiB K (He.ga K "Mark"),
  fun K => EM.creadB K (He.ga K "Mark"),
  fun K => EM.cmetB K (He.ga K "Mark") "of",
  fun K => EM.cmetB K (He.ga K "Mark") "read",
  fun K => (He.Fa.meth "Mark" "__str__").ok K,
  fun K => (He.Fa.cls "Ratio").ok K,
  fun K => (He.Fa.mkr "Ratio").ok K,
  fun K => (He.Fa.noat "Mark" "widths").ok K,
  fun K => (He.Fa.noat "Mark" "edge_row").ok K,
  fun K => (He.Fa.noat "Mark" "sums").ok K,
  fun K => (He.Fa.noat "Mark" "bars").ok K,
  fun K => (He.Fa.noat "Mark" "total").ok K,
  fun K => (He.Fa.noat "Mark" "span").ok K,
  fun K => (He.Fa.noat "Ratio" "top").ok K,
  fun K => (He.Fa.noat "Ratio" "bottom").ok K,
  fun K => (He.Fa.noat "BadText" "line").ok K,
  fun K => (He.Fa.noat "BadText" "word").ok K,
  fun K => L2.xfB K (He.ga K "BadText"),
  fun K => EM.isiB K (He.ga K "Ratio"),
  fun K => decide (PySem.W.kitOne K (.ref (He.ga K "Mark")) (.type "str") = some false)]
def fa3 : List EM.Fk := [fun K => decide (PySem.W.kitOne K (.ref (He.ga K "Ratio")) (.type "str") = some false),
  fun K => EM.oexB K (He.ga K "BadMark"),
  fun K => EM.oexB K (He.ga K "BadText"),
  fun K => EM.oinB K (He.ga K "BadMark"),
  fun K => EM.oinB K (He.ga K "BadText"),
  fun K => decide (PySem.W.exmOne K (.ref (He.ga K "BadText")) (.ref (He.ga K "BadText")) = some true),
  fun K => decide (PySem.W.exmOne K (.ref (He.ga K "BadMark")) (.ref (He.ga K "BadText")) = some false),
  fun K => decide (PySem.W.exmOne K (.ref (He.ga K "BadMark")) (.ref (He.ga K "EdgeError")) = some true)]
def fa : List EM.Fk := fa0 ++ fa1 ++ fa2 ++ fa3
structure Tx (K : PySem.W.Frag) (mg : Str → Option Value) : Prop where
  says : EM.SaysF fa fn K
  ex : ∃ h : Heap, K.In h ∧ h.Ns mainGlobals mg
section
variable {K : PySem.W.Frag} {mg : Str → Option Value}
theorem Tx.g_EdgeError (T : Tx K mg) : mg "EdgeError" = some (.ref (He.ga K "EdgeError")) :=
  have c := T.says.fact 0 (f := fun K => (He.Fa.glo "EdgeError").ok K) (by rfl)
  let ⟨_, X, G⟩ := T.ex; He.glo_ok X G c
theorem Tx.g_BadText (T : Tx K mg) : mg "BadText" = some (.ref (He.ga K "BadText")) :=
  have c := T.says.fact 1 (f := fun K => (He.Fa.glo "BadText").ok K) (by rfl)
  let ⟨_, X, G⟩ := T.ex; He.glo_ok X G c
theorem Tx.g_BadMark (T : Tx K mg) : mg "BadMark" = some (.ref (He.ga K "BadMark")) :=
  have c := T.says.fact 2 (f := fun K => (He.Fa.glo "BadMark").ok K) (by rfl)
  let ⟨_, X, G⟩ := T.ex; He.glo_ok X G c
theorem Tx.g_is_figures (T : Tx K mg) : mg "is_figures" = some (.ref (He.ga K "is_figures")) :=
  have c := T.says.fact 3 (f := fun K => (He.Fa.glo "is_figures").ok K) (by rfl)
  let ⟨_, X, G⟩ := T.ex; He.glo_ok X G c
theorem Tx.g_is_integer (T : Tx K mg) : mg "is_integer" = some (.ref (He.ga K "is_integer")) :=
  have c := T.says.fact 4 (f := fun K => (He.Fa.glo "is_integer").ok K) (by rfl)
  let ⟨_, X, G⟩ := T.ex; He.glo_ok X G c
theorem Tx.g_common_divisor (T : Tx K mg) : mg "common_divisor" = some (.ref (He.ga K "common_divisor")) :=
  have c := T.says.fact 5 (f := fun K => (He.Fa.glo "common_divisor").ok K) (by rfl)
  let ⟨_, X, G⟩ := T.ex; He.glo_ok X G c
theorem Tx.g_Ratio (T : Tx K mg) : mg "Ratio" = some (.ref (He.ga K "Ratio")) :=
  have c := T.says.fact 6 (f := fun K => (He.Fa.glo "Ratio").ok K) (by rfl)
  let ⟨_, X, G⟩ := T.ex; He.glo_ok X G c
theorem Tx.g_is_between (T : Tx K mg) : mg "is_between" = some (.ref (He.ga K "is_between")) :=
  have c := T.says.fact 7 (f := fun K => (He.Fa.glo "is_between").ok K) (by rfl)
  let ⟨_, X, G⟩ := T.ex; He.glo_ok X G c
theorem Tx.g_edges_of (T : Tx K mg) : mg "edges_of" = some (.ref (He.ga K "edges_of")) :=
  have c := T.says.fact 8 (f := fun K => (He.Fa.glo "edges_of").ok K) (by rfl)
  let ⟨_, X, G⟩ := T.ex; He.glo_ok X G c
theorem Tx.g_Mark (T : Tx K mg) : mg "Mark" = some (.ref (He.ga K "Mark")) :=
  have c := T.says.fact 9 (f := fun K => (He.Fa.glo "Mark").ok K) (by rfl)
  let ⟨_, X, G⟩ := T.ex; He.glo_ok X G c
theorem Tx.g__law_pen (T : Tx K mg) : mg "_law_pen" = some (.ref (He.ga K "_law_pen")) :=
  have c := T.says.fact 10 (f := fun K => (He.Fa.glo "_law_pen").ok K) (by rfl)
  let ⟨_, X, G⟩ := T.ex; He.glo_ok X G c
theorem Tx.g__law_draw (T : Tx K mg) : mg "_law_draw" = some (.ref (He.ga K "_law_draw")) :=
  have c := T.says.fact 11 (f := fun K => (He.Fa.glo "_law_draw").ok K) (by rfl)
  let ⟨_, X, G⟩ := T.ex; He.glo_ok X G c
theorem Tx.g__law_pick (T : Tx K mg) : mg "_law_pick" = some (.ref (He.ga K "_law_pick")) :=
  have c := T.says.fact 12 (f := fun K => (He.Fa.glo "_law_pick").ok K) (by rfl)
  let ⟨_, X, G⟩ := T.ex; He.glo_ok X G c
theorem Tx.g__law_widths (T : Tx K mg) : mg "_law_widths" = some (.ref (He.ga K "_law_widths")) :=
  have c := T.says.fact 13 (f := fun K => (He.Fa.glo "_law_widths").ok K) (by rfl)
  let ⟨_, X, G⟩ := T.ex; He.glo_ok X G c
theorem Tx.g__law_is_width (T : Tx K mg) : mg "_law_is_width" = some (.ref (He.ga K "_law_is_width")) :=
  have c := T.says.fact 14 (f := fun K => (He.Fa.glo "_law_is_width").ok K) (by rfl)
  let ⟨_, X, G⟩ := T.ex; He.glo_ok X G c
theorem Tx.g__law_due (T : Tx K mg) : mg "_law_due" = some (.ref (He.ga K "_law_due")) :=
  have c := T.says.fact 15 (f := fun K => (He.Fa.glo "_law_due").ok K) (by rfl)
  let ⟨_, X, G⟩ := T.ex; He.glo_ok X G c
theorem Tx.g__law_bent (T : Tx K mg) : mg "_law_bent" = some (.ref (He.ga K "_law_bent")) :=
  have c := T.says.fact 16 (f := fun K => (He.Fa.glo "_law_bent").ok K) (by rfl)
  let ⟨_, X, G⟩ := T.ex; He.glo_ok X G c
theorem Tx.g__law_long (T : Tx K mg) : mg "_law_long" = some (.ref (He.ga K "_law_long")) :=
  have c := T.says.fact 17 (f := fun K => (He.Fa.glo "_law_long").ok K) (by rfl)
  let ⟨_, X, G⟩ := T.ex; He.glo_ok X G c
theorem Tx.g__law_heard (T : Tx K mg) : mg "_law_heard" = some (.ref (He.ga K "_law_heard")) :=
  have c := T.says.fact 18 (f := fun K => (He.Fa.glo "_law_heard").ok K) (by rfl)
  let ⟨_, X, G⟩ := T.ex; He.glo_ok X G c
theorem Tx.g__law_read_right (T : Tx K mg) : mg "_law_read_right" = some (.ref (He.ga K "_law_read_right")) :=
  have c := T.says.fact 19 (f := fun K => (He.Fa.glo "_law_read_right").ok K) (by rfl)
  let ⟨_, X, G⟩ := T.ex; He.glo_ok X G c
theorem Tx.g_law (T : Tx K mg) : mg "law" = some (.ref (He.ga K "law")) :=
  have c := T.says.fact 20 (f := fun K => (He.Fa.glo "law").ok K) (by rfl)
  let ⟨_, X, G⟩ := T.ex; He.glo_ok X G c
theorem Tx.f_len (T : Tx K mg) : mg "len" = none :=
  have c := T.says.fact 21 (f := fun K => (He.Fa.free "len").ok K) (by rfl)
  let ⟨_, X, G⟩ := T.ex; He.free_ok X G c
theorem Tx.f_enumerate (T : Tx K mg) : mg "enumerate" = none :=
  have c := T.says.fact 22 (f := fun K => (He.Fa.free "enumerate").ok K) (by rfl)
  let ⟨_, X, G⟩ := T.ex; He.free_ok X G c
theorem Tx.f_tuple (T : Tx K mg) : mg "tuple" = none :=
  have c := T.says.fact 23 (f := fun K => (He.Fa.free "tuple").ok K) (by rfl)
  let ⟨_, X, G⟩ := T.ex; He.free_ok X G c
theorem Tx.f_zip (T : Tx K mg) : mg "zip" = none :=
  have c := T.says.fact 24 (f := fun K => (He.Fa.free "zip").ok K) (by rfl)
  let ⟨_, X, G⟩ := T.ex; He.free_ok X G c
theorem Tx.f_isinstance (T : Tx K mg) : mg "isinstance" = none :=
  have c := T.says.fact 25 (f := fun K => (He.Fa.free "isinstance").ok K) (by rfl)
  let ⟨_, X, G⟩ := T.ex; He.free_ok X G c
theorem Tx.f_int (T : Tx K mg) : mg "int" = none :=
  have c := T.says.fact 26 (f := fun K => (He.Fa.free "int").ok K) (by rfl)
  let ⟨_, X, G⟩ := T.ex; He.free_ok X G c
theorem Tx.f_bool (T : Tx K mg) : mg "bool" = none :=
  have c := T.says.fact 27 (f := fun K => (He.Fa.free "bool").ok K) (by rfl)
  let ⟨_, X, G⟩ := T.ex; He.free_ok X G c
theorem Tx.f_list (T : Tx K mg) : mg "list" = none :=
  have c := T.says.fact 28 (f := fun K => (He.Fa.free "list").ok K) (by rfl)
  let ⟨_, X, G⟩ := T.ex; He.free_ok X G c
theorem Tx.f_abs (T : Tx K mg) : mg "abs" = none :=
  have c := T.says.fact 29 (f := fun K => (He.Fa.free "abs").ok K) (by rfl)
  let ⟨_, X, G⟩ := T.ex; He.free_ok X G c
theorem Tx.f_range (T : Tx K mg) : mg "range" = none :=
  have c := T.says.fact 30 (f := fun K => (He.Fa.free "range").ok K) (by rfl)
  let ⟨_, X, G⟩ := T.ex; He.free_ok X G c
theorem Tx.f_all (T : Tx K mg) : mg "all" = none :=
  have c := T.says.fact 31 (f := fun K => (He.Fa.free "all").ok K) (by rfl)
  let ⟨_, X, G⟩ := T.ex; He.free_ok X G c
theorem Tx.f_str (T : Tx K mg) : mg "str" = none :=
  have c := T.says.fact 32 (f := fun K => (He.Fa.free "str").ok K) (by rfl)
  let ⟨_, X, G⟩ := T.ex; He.free_ok X G c
theorem Tx.f_repr (T : Tx K mg) : mg "repr" = none :=
  have c := T.says.fact 33 (f := fun K => (He.Fa.free "repr").ok K) (by rfl)
  let ⟨_, X, G⟩ := T.ex; He.free_ok X G c
theorem Tx.g_MOST_WIDTH (T : Tx K mg) : ∃ t, mg "MOST_WIDTH" = some (.int 1000 t) :=
  have c := T.says.fact 34 (f := fun K => (He.Fa.int "MOST_WIDTH" 1000).ok K) (by rfl)
  let ⟨_, X, G⟩ := T.ex; He.int_ok X G c
theorem Tx.g_MOST_WIDTHS (T : Tx K mg) : ∃ t, mg "MOST_WIDTHS" = some (.int 127 t) :=
  have c := T.says.fact 35 (f := fun K => (He.Fa.int "MOST_WIDTHS" 127).ok K) (by rfl)
  let ⟨_, X, G⟩ := T.ex; He.int_ok X G c
theorem Tx.g_WIDTH_DIGITS (T : Tx K mg) : ∃ t, mg "WIDTH_DIGITS" = some (.int 4 t) :=
  have c := T.says.fact 36 (f := fun K => (He.Fa.int "WIDTH_DIGITS" 4).ok K) (by rfl)
  let ⟨_, X, G⟩ := T.ex; He.int_ok X G c
theorem Tx.g_FIGURES (T : Tx K mg) : ∃ t, mg "FIGURES" = some (.str "0123456789" t) :=
  have c := T.says.fact 37 (f := fun K => (He.Fa.str "FIGURES" "0123456789").ok K) (by rfl)
  let ⟨_, X, G⟩ := T.ex; He.str_ok X G c
theorem Tx.cl_Mark (T : Tx K mg) : Cls K (He.ga K "Mark") :=
  have c := T.says.fact 38 (f := fun K => (He.Fa.cls "Mark").ok K) (by rfl)
  He.cls_ok c
theorem Tx.mk_Mark (T : Tx K mg) : Mk K (He.ga K "Mark") (He.ma K (He.ga K "Mark") "__init__") :=
  have c := T.says.fact 39 (f := fun K => (He.Fa.mkr "Mark").ok K) (by rfl)
  He.mkr_ok c
theorem Tx.isi_Mark (T : Tx K mg) : EM.isiB K (He.ga K "Mark") = true :=
  have c := T.says.fact 40 (f := fun K => EM.isiB K (He.ga K "Mark")) (by rfl)
  c
theorem Tx.cr_Mark (T : Tx K mg) : ClX.CRead K (He.ga K "Mark") (.type "type") :=
  have c := T.says.fact 41 (f := fun K => EM.creadB K (He.ga K "Mark")) (by rfl)
  EM.creadB_ok c
theorem Tx.cm_Mark_of (T : Tx K mg) : ClX.CMet K (He.ga K "Mark") (.type "type") "of" (He.ma K (He.ga K "Mark") "of") (He5.wf K (He.ga K "Mark") "classmethod" "of") :=
  have c := T.says.fact 42 (f := fun K => EM.cmetB K (He.ga K "Mark") "of") (by rfl)
  EM.cmetB_ok c
theorem Tx.cm_Mark_read (T : Tx K mg) : ClX.CMet K (He.ga K "Mark") (.type "type") "read" (He.ma K (He.ga K "Mark") "read") (He5.wf K (He.ga K "Mark") "classmethod" "read") :=
  have c := T.says.fact 43 (f := fun K => EM.cmetB K (He.ga K "Mark") "read") (by rfl)
  EM.cmetB_ok c
theorem Tx.m_Mark_str (T : Tx K mg) : Meth K (He.ga K "Mark") "__str__" (He.ma K (He.ga K "Mark") "__str__") :=
  have c := T.says.fact 44 (f := fun K => (He.Fa.meth "Mark" "__str__").ok K) (by rfl)
  He.meth_ok c
theorem Tx.cl_Ratio (T : Tx K mg) : Cls K (He.ga K "Ratio") :=
  have c := T.says.fact 45 (f := fun K => (He.Fa.cls "Ratio").ok K) (by rfl)
  He.cls_ok c
theorem Tx.mk_Ratio (T : Tx K mg) : Mk K (He.ga K "Ratio") (He.ma K (He.ga K "Ratio") "__init__") :=
  have c := T.says.fact 46 (f := fun K => (He.Fa.mkr "Ratio").ok K) (by rfl)
  He.mkr_ok c
theorem Tx.na_Mark_widths (T : Tx K mg) : NoAttr K (He.ga K "Mark") "widths" :=
  have c := T.says.fact 47 (f := fun K => (He.Fa.noat "Mark" "widths").ok K) (by rfl)
  He.noat_ok c
theorem Tx.na_Mark_edge_row (T : Tx K mg) : NoAttr K (He.ga K "Mark") "edge_row" :=
  have c := T.says.fact 48 (f := fun K => (He.Fa.noat "Mark" "edge_row").ok K) (by rfl)
  He.noat_ok c
theorem Tx.na_Mark_sums (T : Tx K mg) : NoAttr K (He.ga K "Mark") "sums" :=
  have c := T.says.fact 49 (f := fun K => (He.Fa.noat "Mark" "sums").ok K) (by rfl)
  He.noat_ok c
theorem Tx.na_Mark_bars (T : Tx K mg) : NoAttr K (He.ga K "Mark") "bars" :=
  have c := T.says.fact 50 (f := fun K => (He.Fa.noat "Mark" "bars").ok K) (by rfl)
  He.noat_ok c
theorem Tx.na_Mark_total (T : Tx K mg) : NoAttr K (He.ga K "Mark") "total" :=
  have c := T.says.fact 51 (f := fun K => (He.Fa.noat "Mark" "total").ok K) (by rfl)
  He.noat_ok c
theorem Tx.na_Mark_span (T : Tx K mg) : NoAttr K (He.ga K "Mark") "span" :=
  have c := T.says.fact 52 (f := fun K => (He.Fa.noat "Mark" "span").ok K) (by rfl)
  He.noat_ok c
theorem Tx.na_Ratio_top (T : Tx K mg) : NoAttr K (He.ga K "Ratio") "top" :=
  have c := T.says.fact 53 (f := fun K => (He.Fa.noat "Ratio" "top").ok K) (by rfl)
  He.noat_ok c
theorem Tx.na_Ratio_bottom (T : Tx K mg) : NoAttr K (He.ga K "Ratio") "bottom" :=
  have c := T.says.fact 54 (f := fun K => (He.Fa.noat "Ratio" "bottom").ok K) (by rfl)
  He.noat_ok c
theorem Tx.na_BadText_line (T : Tx K mg) : NoAttr K (He.ga K "BadText") "line" :=
  have c := T.says.fact 55 (f := fun K => (He.Fa.noat "BadText" "line").ok K) (by rfl)
  He.noat_ok c
theorem Tx.na_BadText_word (T : Tx K mg) : NoAttr K (He.ga K "BadText") "word" :=
  have c := T.says.fact 56 (f := fun K => (He.Fa.noat "BadText" "word").ok K) (by rfl)
  He.noat_ok c
theorem Tx.xf_BadText (T : Tx K mg) : L2.XfC K (He.ga K "BadText") :=
  have c := T.says.fact 57 (f := fun K => L2.xfB K (He.ga K "BadText")) (by rfl)
  L2.xfB_ok c
theorem Tx.isi_Ratio (T : Tx K mg) : EM.isiB K (He.ga K "Ratio") = true :=
  have c := T.says.fact 58 (f := fun K => EM.isiB K (He.ga K "Ratio")) (by rfl)
  c
theorem Tx.kit_MarkStr (T : Tx K mg) : PySem.W.kitOne K (.ref (He.ga K "Mark")) (.type "str") = some false :=
  have c := T.says.fact 59 (f := fun K => decide (PySem.W.kitOne K (.ref (He.ga K "Mark")) (.type "str") = some false)) (by rfl)
  of_decide_eq_true c
theorem Tx.kit_RatioStr (T : Tx K mg) : PySem.W.kitOne K (.ref (He.ga K "Ratio")) (.type "str") = some false :=
  have c := T.says.fact 60 (f := fun K => decide (PySem.W.kitOne K (.ref (He.ga K "Ratio")) (.type "str") = some false)) (by rfl)
  of_decide_eq_true c
theorem Tx.ox_BadMark (T : Tx K mg) : OexC K (He.ga K "BadMark") :=
  have c := T.says.fact 61 (f := fun K => EM.oexB K (He.ga K "BadMark")) (by rfl)
  EM.oexB_ok c
theorem Tx.ox_BadText (T : Tx K mg) : OexC K (He.ga K "BadText") :=
  have c := T.says.fact 62 (f := fun K => EM.oexB K (He.ga K "BadText")) (by rfl)
  EM.oexB_ok c
theorem Tx.oi_BadMark (T : Tx K mg) : PySem.W.findIn K (.ref (He.ga K "BadMark")) "__init__" = some (some (.ref (He.ma K (He.ga K "BadMark") "__init__"))) ∧ PySem.W.typeIn K (.ref (He.ma K (He.ga K "BadMark") "__init__")) = some (.type "function") :=
  have c := T.says.fact 63 (f := fun K => EM.oinB K (He.ga K "BadMark")) (by rfl)
  EM.oinB_ok c
theorem Tx.oi_BadText (T : Tx K mg) : PySem.W.findIn K (.ref (He.ga K "BadText")) "__init__" = some (some (.ref (He.ma K (He.ga K "BadText") "__init__"))) ∧ PySem.W.typeIn K (.ref (He.ma K (He.ga K "BadText") "__init__")) = some (.type "function") :=
  have c := T.says.fact 64 (f := fun K => EM.oinB K (He.ga K "BadText")) (by rfl)
  EM.oinB_ok c
theorem Tx.xm_BadText_BadText (T : Tx K mg) : PySem.W.exmOne K (.ref (He.ga K "BadText")) (.ref (He.ga K "BadText")) = some true :=
  have c := T.says.fact 65 (f := fun K => decide (PySem.W.exmOne K (.ref (He.ga K "BadText")) (.ref (He.ga K "BadText")) = some true)) (by rfl)
  of_decide_eq_true c
theorem Tx.xm_BadMark_BadText (T : Tx K mg) : PySem.W.exmOne K (.ref (He.ga K "BadMark")) (.ref (He.ga K "BadText")) = some false :=
  have c := T.says.fact 66 (f := fun K => decide (PySem.W.exmOne K (.ref (He.ga K "BadMark")) (.ref (He.ga K "BadText")) = some false)) (by rfl)
  of_decide_eq_true c
theorem Tx.xm_BadMark_EdgeError (T : Tx K mg) : PySem.W.exmOne K (.ref (He.ga K "BadMark")) (.ref (He.ga K "EdgeError")) = some true :=
  have c := T.says.fact 67 (f := fun K => decide (PySem.W.exmOne K (.ref (He.ga K "BadMark")) (.ref (He.ga K "EdgeError")) = some true)) (by rfl)
  of_decide_eq_true c
theorem Tx.d_BadMark_init (T : Tx K mg) : ∃ fd, FunD K "__init__" "BadMark.__init__" (defArgs s_BadMark_init) (defBody s_BadMark_init) (defScope s_BadMark_init) [] [] (He.ma K (He.ga K "BadMark") "__init__") fd := T.says.def_ 0 (d := e_BadMark_init) (by rfl)
theorem Tx.d_BadText_init (T : Tx K mg) : ∃ fd, FunD K "__init__" "BadText.__init__" (defArgs s_BadText_init) (defBody s_BadText_init) (defScope s_BadText_init) [] [] (He.ma K (He.ga K "BadText") "__init__") fd := T.says.def_ 1 (d := e_BadText_init) (by rfl)
theorem Tx.d_is_figures (T : Tx K mg) : ∃ fd, FunD K "is_figures" "is_figures" (defArgs s_is_figures) (defBody s_is_figures) (defScope s_is_figures) [] [] (He.ga K "is_figures") fd := T.says.def_ 2 (d := e_is_figures) (by rfl)
theorem Tx.d_is_integer (T : Tx K mg) : ∃ fd, FunD K "is_integer" "is_integer" (defArgs s_is_integer) (defBody s_is_integer) (defScope s_is_integer) [] [] (He.ga K "is_integer") fd := T.says.def_ 3 (d := e_is_integer) (by rfl)
theorem Tx.d_common_divisor (T : Tx K mg) : ∃ fd, FunD K "common_divisor" "common_divisor" (defArgs s_common_divisor) (defBody s_common_divisor) (defScope s_common_divisor) [] [] (He.ga K "common_divisor") fd := T.says.def_ 4 (d := e_common_divisor) (by rfl)
theorem Tx.d_Ratio_init (T : Tx K mg) : ∃ fd, FunD K "__init__" "Ratio.__init__" (defArgs s_Ratio_init) (defBody s_Ratio_init) (defScope s_Ratio_init) [.int 1] [] (He.ma K (He.ga K "Ratio") "__init__") fd := T.says.def_ 5 (d := e_Ratio_init) (by rfl)
theorem Tx.d_is_between (T : Tx K mg) : ∃ fd, FunD K "is_between" "is_between" (defArgs s_is_between) (defBody s_is_between) (defScope s_is_between) [] [] (He.ga K "is_between") fd := T.says.def_ 6 (d := e_is_between) (by rfl)
theorem Tx.d_edges_of (T : Tx K mg) : ∃ fd, FunD K "edges_of" "edges_of" (defArgs s_edges_of) (defBody s_edges_of) (defScope s_edges_of) [] [] (He.ga K "edges_of") fd := T.says.def_ 7 (d := e_edges_of) (by rfl)
theorem Tx.d_Mark_init (T : Tx K mg) : ∃ fd, FunD K "__init__" "Mark.__init__" (defArgs s_Mark_init) (defBody s_Mark_init) (defScope s_Mark_init) [] [] (He.ma K (He.ga K "Mark") "__init__") fd := T.says.def_ 8 (d := e_Mark_init) (by rfl)
theorem Tx.d_Mark_of (T : Tx K mg) : ∃ fd, FunD K "of" "Mark.of" (defArgs s_Mark_of) (defBody s_Mark_of) (defScope s_Mark_of) [] [] (He5.wf K (He.ga K "Mark") "classmethod" "of") fd := T.says.def_ 9 (d := e_Mark_of) (by rfl)
theorem Tx.d_Mark_read (T : Tx K mg) : ∃ fd, FunD K "read" "Mark.read" (defArgs s_Mark_read) (defBody s_Mark_read) (defScope s_Mark_read) [] [] (He5.wf K (He.ga K "Mark") "classmethod" "read") fd := T.says.def_ 10 (d := e_Mark_read) (by rfl)
theorem Tx.d_Mark_str (T : Tx K mg) : ∃ fd, FunD K "__str__" "Mark.__str__" (defArgs s_Mark_str) (defBody s_Mark_str) (defScope s_Mark_str) [] [] (He.ma K (He.ga K "Mark") "__str__") fd := T.says.def_ 11 (d := e_Mark_str) (by rfl)
theorem Tx.d_Lpen (T : Tx K mg) : ∃ fd, FunD K "_law_pen" "_law_pen" (defArgs s_Lpen) (defBody s_Lpen) (defScope s_Lpen) [] [] (He.ga K "_law_pen") fd := T.says.def_ 12 (d := e_Lpen) (by rfl)
theorem Tx.d_Ldraw (T : Tx K mg) : ∃ fd, FunD K "_law_draw" "_law_draw" (defArgs s_Ldraw) (defBody s_Ldraw) (defScope s_Ldraw) [] [] (He.ga K "_law_draw") fd := T.says.def_ 13 (d := e_Ldraw) (by rfl)
theorem Tx.d_Lpick (T : Tx K mg) : ∃ fd, FunD K "_law_pick" "_law_pick" (defArgs s_Lpick) (defBody s_Lpick) (defScope s_Lpick) [] [] (He.ga K "_law_pick") fd := T.says.def_ 14 (d := e_Lpick) (by rfl)
theorem Tx.d_Lwidths (T : Tx K mg) : ∃ fd, FunD K "_law_widths" "_law_widths" (defArgs s_Lwidths) (defBody s_Lwidths) (defScope s_Lwidths) [] [] (He.ga K "_law_widths") fd := T.says.def_ 15 (d := e_Lwidths) (by rfl)
theorem Tx.d_Lis_width (T : Tx K mg) : ∃ fd, FunD K "_law_is_width" "_law_is_width" (defArgs s_Lis_width) (defBody s_Lis_width) (defScope s_Lis_width) [] [] (He.ga K "_law_is_width") fd := T.says.def_ 16 (d := e_Lis_width) (by rfl)
theorem Tx.d_Ldue (T : Tx K mg) : ∃ fd, FunD K "_law_due" "_law_due" (defArgs s_Ldue) (defBody s_Ldue) (defScope s_Ldue) [] [] (He.ga K "_law_due") fd := T.says.def_ 17 (d := e_Ldue) (by rfl)
theorem Tx.d_Lbent (T : Tx K mg) : ∃ fd, FunD K "_law_bent" "_law_bent" (defArgs s_Lbent) (defBody s_Lbent) (defScope s_Lbent) [] [] (He.ga K "_law_bent") fd := T.says.def_ 18 (d := e_Lbent) (by rfl)
theorem Tx.d_Llong (T : Tx K mg) : ∃ fd, FunD K "_law_long" "_law_long" (defArgs s_Llong) (defBody s_Llong) (defScope s_Llong) [] [] (He.ga K "_law_long") fd := T.says.def_ 19 (d := e_Llong) (by rfl)
theorem Tx.d_Lheard (T : Tx K mg) : ∃ fd, FunD K "_law_heard" "_law_heard" (defArgs s_Lheard) (defBody s_Lheard) (defScope s_Lheard) [] [] (He.ga K "_law_heard") fd := T.says.def_ 20 (d := e_Lheard) (by rfl)
theorem Tx.d_Lread_right (T : Tx K mg) : ∃ fd, FunD K "_law_read_right" "_law_read_right" (defArgs s_Lread_right) (defBody s_Lread_right) (defScope s_Lread_right) [] [] (He.ga K "_law_read_right") fd := T.says.def_ 21 (d := e_Lread_right) (by rfl)
theorem Tx.d_law (T : Tx K mg) : ∃ fd, FunD K "law" "law" (defArgs s_law) (defBody s_law) (defScope s_law) [] [] (He.ga K "law") fd := T.says.def_ 22 (d := e_law) (by rfl)
theorem Tx.k_is_figures (T : Tx K mg) : PySem.W.keepIn K (.ref (He.ga K "is_figures")) = true := let ⟨_, F⟩ := T.d_is_figures; F.kp
theorem Tx.k_is_integer (T : Tx K mg) : PySem.W.keepIn K (.ref (He.ga K "is_integer")) = true := let ⟨_, F⟩ := T.d_is_integer; F.kp
theorem Tx.k_common_divisor (T : Tx K mg) : PySem.W.keepIn K (.ref (He.ga K "common_divisor")) = true := let ⟨_, F⟩ := T.d_common_divisor; F.kp
theorem Tx.k_is_between (T : Tx K mg) : PySem.W.keepIn K (.ref (He.ga K "is_between")) = true := let ⟨_, F⟩ := T.d_is_between; F.kp
theorem Tx.k_edges_of (T : Tx K mg) : PySem.W.keepIn K (.ref (He.ga K "edges_of")) = true := let ⟨_, F⟩ := T.d_edges_of; F.kp
theorem Tx.k__law_pen (T : Tx K mg) : PySem.W.keepIn K (.ref (He.ga K "_law_pen")) = true := let ⟨_, F⟩ := T.d_Lpen; F.kp
theorem Tx.k__law_draw (T : Tx K mg) : PySem.W.keepIn K (.ref (He.ga K "_law_draw")) = true := let ⟨_, F⟩ := T.d_Ldraw; F.kp
theorem Tx.k__law_pick (T : Tx K mg) : PySem.W.keepIn K (.ref (He.ga K "_law_pick")) = true := let ⟨_, F⟩ := T.d_Lpick; F.kp
theorem Tx.k__law_widths (T : Tx K mg) : PySem.W.keepIn K (.ref (He.ga K "_law_widths")) = true := let ⟨_, F⟩ := T.d_Lwidths; F.kp
theorem Tx.k__law_is_width (T : Tx K mg) : PySem.W.keepIn K (.ref (He.ga K "_law_is_width")) = true := let ⟨_, F⟩ := T.d_Lis_width; F.kp
theorem Tx.k__law_due (T : Tx K mg) : PySem.W.keepIn K (.ref (He.ga K "_law_due")) = true := let ⟨_, F⟩ := T.d_Ldue; F.kp
theorem Tx.k__law_bent (T : Tx K mg) : PySem.W.keepIn K (.ref (He.ga K "_law_bent")) = true := let ⟨_, F⟩ := T.d_Lbent; F.kp
theorem Tx.k__law_long (T : Tx K mg) : PySem.W.keepIn K (.ref (He.ga K "_law_long")) = true := let ⟨_, F⟩ := T.d_Llong; F.kp
theorem Tx.k__law_heard (T : Tx K mg) : PySem.W.keepIn K (.ref (He.ga K "_law_heard")) = true := let ⟨_, F⟩ := T.d_Lheard; F.kp
theorem Tx.k__law_read_right (T : Tx K mg) : PySem.W.keepIn K (.ref (He.ga K "_law_read_right")) = true := let ⟨_, F⟩ := T.d_Lread_right; F.kp
theorem Tx.k_law (T : Tx K mg) : PySem.W.keepIn K (.ref (He.ga K "law")) = true := let ⟨_, F⟩ := T.d_law; F.kp
end
end K10
namespace K10
open PySem PySem.Spec PyProof.Rows L2 EM
section
variable {P : Program} {w : World} {K : PySem.W.Frag} {mg : Str → Option Value} {base : Heap}
theorem ok_Lpen (T : Tx K mg) : FnR P w K mg base (L2.CX P w) 1 (He.ga K "_law_pen") (spPen K) := by
  obtain ⟨fd, F⟩ := T.d_Lpen
  refine EM.fnr F sc_Lpen (fun _ _ _ _ _ _ us hl => match us, hl with | [_], _ => rfl) (fun vs H Q E h => ?_) (fun cdv A outer s H vs Q E hr h => ?_)
  · obtain ⟨a, ns, rfl, _⟩ := h
    rfl
  · obtain ⟨a, ns, rfl, hS, hl, k⟩ := h
    obtain ⟨ms, ems, hms⟩ := cut_ints ns none (some 63)
    refine ⟨_, (PSs.nox (pss_one (ps_ret (pe_lst (pa_cons (pe_callTy call_list_of (by rfl) T.f_list (by decide +kernel) (pa_cons (pe_slice sl_list (pv 0) po_none (po_some pe_int)) pa_nil)) (pa_cons pe_int (pa_cons pe_int pa_nil))))))), ?_⟩
    refine ⟨_, rfl, 63, rfl, a, _, rfl, hS, fun c hc => ⟨c, _, rfl, .inl (SqL.of upd_same), fun l hl2 => ⟨(by show 3 ≤ sizeLine; decide), fun p hp => ?_⟩⟩⟩
    have s1 : Same H _ := same_upd (o := .lst (cutV (ns.map V.int) none (some 63))) hc
    have s2 := same_upd' (o := .lst (cutV (ns.map V.int) none (some 63))) s1 (s1.free hl2)
    have n2 : H p = none := s2.free hp
    have nlp : l ≠ p := by
      intro z
      subst z
      rw [upd_same] at hp
      cases hp
    refine k p l _ (same_upd' s2 n2) n2 ⟨ms, 0, 0, upd_same, ?_, nlp, by omega, by omega, by omega⟩
    rw [upd_ne nlp, upd_same, ems]
theorem ok_Ldraw (T : Tx K mg) : FnR P w K mg base (L2.CX P w) 1 (He.ga K "_law_draw") (spDraw) := by
  obtain ⟨fd, F⟩ := T.d_Ldraw
  refine EM.fnr F sc_Ldraw (fun _ _ _ _ _ _ us hl => match us, hl with | [_, _], _ => rfl) (fun vs H Q E h => ?_) (fun cdv A outer s H vs Q E hr h => ?_)
  · obtain ⟨p, l, n, many, rfl, _⟩ := h
    rfl
  · obtain ⟨p, l, n, many, rfl, ⟨cells, at_, rest, hp, hlc, nlp, hcl, a0, a1⟩, hn, m1, m2, k⟩ := h
    have wm : CDivW 0 many := wide_div (b := 64) (by omega) (by omega) (by decide) (by decide)
    have wd : ∀ i, CDivW i many := fun i => wm
    have md : ∀ i : Int, 0 ≤ i % many ∧ i % many < many := fun i => ⟨Int.emod_nonneg _ (by omega), Int.emod_lt_of_pos _ (by omega)⟩
    refine ⟨_, (PSs.nox (pss_cons (ps_if (pt_cmpR op_gt (pe_ix ix_list (pv 0) pe_int (fun _ _ => rfl)) pe_int (nomark _))
  (pss_cons (ps_set (i := 2) sc_Ldraw.nd rfl (Or.inl rfl) (pe_op op_mod (pe_callTy call_int1 (by rfl) T.f_int (by decide +kernel) (pa_cons (pe_ix ix_list (pv 0) pe_int (fun _ _ => rfl)) pa_nil)) (pv 1)))
 (pss_cons (ps_asg (pe_op op_fdivW (pe_ix ix_list (pv 0) pe_int (fun _ _ => rfl)) (pv 1)) (pg_sub (pv 0) pe_int set_list))
 (pss_one (ps_ret (pv 2))))) pss_nil)
 (pss_cons (ps_set (i := 3) sc_Ldraw.nd rfl (Or.inl rfl) (pe_ix ix_list (pv 0) pe_int (fun _ _ => rfl)))
 (pss_cons (ps_asg (pe_op op_add (pv 3) pe_int) (pg_sub (pv 0) pe_int set_list))
 (pss_cons (ps_set (i := 4) sc_Ldraw.nd rfl (Or.inl rfl) (pe_op op_add (pe_op op_mul pe_int (pv 3)) pe_int))
 (pss_cons (ps_if (pt_cmpR (op_neD hr.units) (pe_ix ix_list (pv 0) pe_int (fun _ _ => rfl)) (pe_lst pa_nil) (nomark _))
  (pss_one (ps_set (i := 4) sc_Ldraw.nd rfl (Or.inl rfl) (pe_ix ix_list (pe_ix ix_list (pv 0) pe_int (fun _ _ => rfl)) (pe_op op_mod (pe_callTy call_int1 (by rfl) T.f_int (by decide +kernel) (pa_cons (pv 3) pa_nil)) (pe_callB call_len (by rfl) T.f_len boot_len (pa_cons (pe_ix ix_list (pv 0) pe_int (fun _ _ => rfl)) pa_nil))) (fun _ _ => rfl)))) pss_nil)
 (pss_cons (ps_if (PW.pt (pw_and (pt_cmpR op_lt (pv 3) (pe_callB call_len (by rfl) T.f_len boot_len (pa_cons (pe_ix ix_list (pv 0) pe_int (fun _ _ => rfl)) pa_nil)) (nomark _)) (pw_and1 (pt_cmpR op_ge (pe_callB call_abs (by rfl) T.f_abs (by decide +kernel) (pa_cons (pv 4) pa_nil)) (pe_op op_pow pe_int pe_int) (nomark _)))))
  (pss_cons (ps_set (i := 5) sc_Ldraw.nd rfl (Or.inl rfl) (pe_op op_add (pe_op op_mul pe_int (pe_op op_sub (pe_callB call_abs (by rfl) T.f_abs (by decide +kernel) (pa_cons (pv 4) pa_nil)) (pe_op op_pow pe_int pe_int))) (pe_callTy call_int1 (by rfl) T.f_int (by decide +kernel) (pa_cons (pe_cmpR op_lt (pv 4) pe_int (nomark _)) pa_nil))))
 (pss_cons (ps_asg (pe_op op_fdivW (pv 5) (pv 1)) (pg_sub (pv 0) pe_int set_list))
 (pss_one (ps_ret (pe_op op_mod (pe_callTy call_int1 (by rfl) T.f_int (by decide +kernel) (pa_cons (pv 5) pa_nil)) (pv 1)))))) pss_nil)
 (pss_cons (ps_set (i := 6) sc_Ldraw.nd rfl (Or.inl rfl) (pe_op op_mod (pe_callTy call_int1 (by rfl) T.f_int (by decide +kernel) (pa_cons (pe_op op_pow (pe_op op_add (pe_op op_add (pe_op op_mod (pe_callTy call_int1 (by rfl) T.f_int (by decide +kernel) (pa_cons (pv 4) pa_nil)) pe_int) (pe_op op_mul pe_int (pv 3))) pe_int) pe_int) pa_nil)) pe_int))
 (pss_cons (ps_set (i := 6) sc_Ldraw.nd rfl (Or.inl rfl) (pe_op op_mod (pe_callTy call_int1 (by rfl) T.f_int (by decide +kernel) (pa_cons (pe_op op_pow (pe_op op_add (pe_op op_add (pe_op op_mul (pv 6) (pe_op op_add (pe_op op_mul pe_int (pv 3)) pe_int)) (pe_op op_mul (pe_op op_mul pe_int (pv 3)) (pv 3))) pe_int) pe_int) pa_nil)) pe_int))
 (pss_one (ps_ret (pe_op op_mod (pe_callTy call_int1 (by rfl) T.f_int (by decide +kernel) (pa_cons (pe_op op_fdiv (pv 6) pe_int) pa_nil)) (pv 1))))))))))))), ?_⟩
    -- if pen[2] > 0
    refine ⟨_, rfl, p, _, 2, _, rfl, rfl, SqL.of hp, rfl, _, _, rfl, rfl, _, rfl, ite2 (fun c => ?_) (fun c => ?_)⟩
    · refine ⟨_, rfl, p, _, 2, _, rfl, rfl, SqL.of hp, rfl, .inl ⟨_, rfl, _, rfl, _, _, rfl, rfl, (by show (0 : Int) < many; omega), ?_⟩⟩
      refine ⟨_, rfl, p, _, 2, _, rfl, rfl, SqL.of hp, rfl, _, rfl, _, _, rfl, rfl, wd _, ?_⟩
      refine ⟨_, rfl, p, _, 2, 2, rfl, rfl, hp, rfl, ?_⟩
      refine ⟨_, rfl, k _ _ (md _).1 (md _).2 (fun b o e hb => by rw [upd_ne hb]; exact e) ⟨cells, at_, _, upd_same, by rw [upd_ne nlp]; exact hlc, nlp, hcl, a0, by omega⟩⟩
    · have a2 : at_ ≤ 1000000 := by omega
      -- at = pen[1]; pen[1] = at + 1; cell = ..
      refine ⟨_, rfl, p, _, 1, _, rfl, rfl, SqL.of hp, rfl, ?_⟩
      refine ⟨_, rfl, _, _, rfl, rfl, _, rfl, p, _, 1, 1, rfl, rfl, hp, rfl, ?_⟩
      refine ⟨_, rfl, _, _, rfl, rfl, .inl ⟨by decide, by decide⟩, _, _, rfl, rfl, ?_⟩
      obtain ⟨H1, eH1⟩ : ∃ H1, H1 = upd H p (.lst ([V.ref l, V.int at_, V.int rest].set 1 (.int (at_ + 1)))) := ⟨_, rfl⟩
      rw [← eH1]
      have hp1 : H1 p = some (.lst [.ref l, .int (at_ + 1), .int rest]) := by rw [eH1]; exact upd_same
      have hl1 : H1 l = some (.lst (cells.map V.int)) := by rw [eH1, upd_ne nlp]; exact hlc
      have k1 : ∀ b o, H b = some o → b ≠ p → H1 b = some o := fun b o e hb => by rw [eH1, upd_ne hb]; exact e
      clear eH1
      -- if pen[0] != []
      refine ⟨_, rfl, p, _, 0, _, rfl, rfl, SqL.of hp1, rfl, (by show 0 ≤ sizeLine; decide), fun q hq => ⟨dL cells, dL [], .lst (SqL.of (by rw [upd_ne (ne_of_none hl1 hq)]; exact hl1)) (dp_ints cells), .lst (SqL.of upd_same) .nil, shL cells, shL [], _, rfl, ?_⟩⟩
      obtain ⟨H2, eH2⟩ : ∃ H2, H2 = upd H1 q (.lst []) := ⟨_, rfl⟩
      rw [← eH2]
      have hp2 : H2 p = some (.lst [.ref l, .int (at_ + 1), .int rest]) := by rw [eH2, upd_ne (ne_of_none hp1 hq)]; exact hp1
      have hl2 : H2 l = some (.lst (cells.map V.int)) := by rw [eH2, upd_ne (ne_of_none hl1 hq)]; exact hl1
      have k2 : ∀ b o, H b = some o → b ≠ p → H2 b = some o := fun b o e hb => by rw [eH2, upd_ne (ne_of_none (k1 b o e hb) hq)]; exact k1 b o e hb
      clear eH2
      rw [eqvL]
      refine ite2 (fun c2 => ?_) (fun c2 => ?_)
      · have hc0 : 0 < cells.length := by
          cases cells with
          | nil => simp at c2
          | cons _ _ => simp
        have hm : 0 ≤ at_ % (cells.length : Int) ∧ at_ % (cells.length : Int) < cells.length := ⟨Int.emod_nonneg _ (by omega), Int.emod_lt_of_pos _ (by omega)⟩
        have hj : (at_ % (cells.length : Int)).toNat < cells.length := by omega
        refine ⟨_, rfl, p, _, 0, _, rfl, rfl, SqL.of hp2, rfl, _, rfl, .inl ⟨_, rfl, _, rfl, p, _, 0, _, rfl, rfl, SqL.of hp2, rfl, _, _, rfl, .inl ⟨_, SqL.of hl2, rfl⟩, _, _, rfl, rfl, ?_, l, _, _, .int (cells[(at_ % (cells.length : Int)).toNat]), rfl, rfl, SqL.of hl2, ?_, ?_⟩⟩
        · show (0 : Int) < ((cells.map V.int).length : Nat)
          rw [List.length_map]; omega
        · rw [List.length_map]
          exact at_of (j := (at_ % (cells.length : Int)).toNat) (by omega) (by rw [List.getElem?_map, List.getElem?_eq_getElem hj]; rfl)
        refine ⟨_, rfl, _, rfl, p, _, 0, _, rfl, rfl, SqL.of hp2, rfl, _, _, rfl, .inl ⟨_, SqL.of hl2, rfl⟩, _, _, rfl, rfl, _, rfl, ite2 (fun c3 => ?_) (fun c3 => ?_)⟩
        · refine ⟨_, rfl, _, rfl, _, _, rfl, rfl, ⟨by decide, by decide, by decide⟩, _, _, rfl, rfl, _, rfl, ite2 (fun c4 => ?_) (fun c4 => ?_)⟩
          · refine ⟨_, rfl, _, rfl, _, _, rfl, rfl, ⟨by decide, by decide, by decide⟩, _, _, rfl, rfl, _, _, rfl, rfl, .inl ⟨by decide, by decide⟩, _, rfl, _, _, rfl, rfl, .inr ⟨_, rfl, _, _, rfl, rfl, ?_⟩⟩
            refine ⟨_, rfl, _, rfl, _, _, rfl, rfl, wd _, ?_⟩
            refine ⟨_, rfl, p, _, 2, 2, rfl, rfl, hp2, rfl, ?_⟩
            refine ⟨_, rfl, .inl ⟨_, rfl, _, rfl, _, _, rfl, rfl, (by show (0 : Int) < many; omega), ?_⟩⟩
            exact k _ _ (md _).1 (md _).2 (fun b o e hb => by rw [upd_ne hb]; exact k2 b o e hb) ⟨cells, at_ + 1, _, upd_same, by rw [upd_ne nlp]; exact hl2, nlp, hcl, by omega, by omega⟩
          · refine ⟨_, rfl, .inl ⟨_, rfl, _, _, rfl, rfl, (by show (0 : Int) < _; decide), _, rfl, _, _, rfl, rfl, .inl ⟨by decide, by decide⟩, _, _, rfl, rfl, _, _, rfl, rfl, _, _, rfl, rfl, ⟨by decide, by decide, by omega⟩, .inl ⟨_, rfl, _, _, rfl, rfl, (by show (0 : Int) < _; decide), ?_⟩⟩⟩
            refine ⟨_, rfl, _, rfl, _, _, rfl, rfl, .inl ⟨by decide, by decide⟩, _, _, rfl, rfl, _, _, rfl, rfl, .inl ⟨by omega, by omega⟩, _, rfl, _, _, rfl, rfl, .inl ⟨by decide, by decide⟩, _, rfl, _, _, rfl, rfl, .inl (mul_bd a0 a2 ⟨by decide, by decide⟩), _, _, rfl, rfl, _, _, rfl, rfl, _, _, rfl, rfl, ⟨by decide, by decide, draw_bd (by omega) (by omega) a0 a2 ⟨by decide, by decide⟩ ⟨by decide, by decide⟩ ⟨by decide, by decide⟩⟩, .inl ⟨_, rfl, _, _, rfl, rfl, (by show (0 : Int) < _; decide), ?_⟩⟩
            refine ⟨_, rfl, _, _, rfl, rfl, ⟨by decide, by decide⟩, .inl ⟨_, rfl, _, rfl, _, _, rfl, rfl, (by show (0 : Int) < many; omega), ?_⟩⟩
            exact k _ _ (md _).1 (md _).2 k2 ⟨cells, at_ + 1, _, hp2, hl2, nlp, hcl, by omega, by omega⟩
        · refine ifN rfl ?_
          refine ⟨_, rfl, .inl ⟨_, rfl, _, _, rfl, rfl, (by show (0 : Int) < _; decide), _, rfl, _, _, rfl, rfl, .inl ⟨by decide, by decide⟩, _, _, rfl, rfl, _, _, rfl, rfl, _, _, rfl, rfl, ⟨by decide, by decide, by omega⟩, .inl ⟨_, rfl, _, _, rfl, rfl, (by show (0 : Int) < _; decide), ?_⟩⟩⟩
          refine ⟨_, rfl, _, rfl, _, _, rfl, rfl, .inl ⟨by decide, by decide⟩, _, _, rfl, rfl, _, _, rfl, rfl, .inl ⟨by omega, by omega⟩, _, rfl, _, _, rfl, rfl, .inl ⟨by decide, by decide⟩, _, rfl, _, _, rfl, rfl, .inl (mul_bd a0 a2 ⟨by decide, by decide⟩), _, _, rfl, rfl, _, _, rfl, rfl, _, _, rfl, rfl, ⟨by decide, by decide, draw_bd (by omega) (by omega) a0 a2 ⟨by decide, by decide⟩ ⟨by decide, by decide⟩ ⟨by decide, by decide⟩⟩, .inl ⟨_, rfl, _, _, rfl, rfl, (by show (0 : Int) < _; decide), ?_⟩⟩
          refine ⟨_, rfl, _, _, rfl, rfl, ⟨by decide, by decide⟩, .inl ⟨_, rfl, _, rfl, _, _, rfl, rfl, (by show (0 : Int) < many; omega), ?_⟩⟩
          exact k _ _ (md _).1 (md _).2 k2 ⟨cells, at_ + 1, _, hp2, hl2, nlp, hcl, by omega, by omega⟩
      · refine ⟨_, rfl, _, rfl, p, _, 0, _, rfl, rfl, SqL.of hp2, rfl, _, _, rfl, .inl ⟨_, SqL.of hl2, rfl⟩, _, _, rfl, rfl, _, rfl, ite2 (fun c3 => ?_) (fun c3 => ?_)⟩
        · refine ⟨_, rfl, _, rfl, _, _, rfl, rfl, ⟨by decide, by decide, by decide⟩, _, _, rfl, rfl, _, rfl, ite2 (fun c4 => ?_) (fun c4 => ?_)⟩
          · refine ⟨_, rfl, _, rfl, _, _, rfl, rfl, ⟨by decide, by decide, by decide⟩, _, _, rfl, rfl, _, _, rfl, rfl, .inl ⟨by decide, by decide⟩, _, rfl, _, _, rfl, rfl, .inr ⟨_, rfl, _, _, rfl, rfl, ?_⟩⟩
            refine ⟨_, rfl, _, rfl, _, _, rfl, rfl, wd _, ?_⟩
            refine ⟨_, rfl, p, _, 2, 2, rfl, rfl, hp2, rfl, ?_⟩
            refine ⟨_, rfl, .inl ⟨_, rfl, _, rfl, _, _, rfl, rfl, (by show (0 : Int) < many; omega), ?_⟩⟩
            exact k _ _ (md _).1 (md _).2 (fun b o e hb => by rw [upd_ne hb]; exact k2 b o e hb) ⟨cells, at_ + 1, _, upd_same, by rw [upd_ne nlp]; exact hl2, nlp, hcl, by omega, by omega⟩
          · refine ⟨_, rfl, .inl ⟨_, rfl, _, _, rfl, rfl, (by show (0 : Int) < _; decide), _, rfl, _, _, rfl, rfl, .inl ⟨by decide, by decide⟩, _, _, rfl, rfl, _, _, rfl, rfl, _, _, rfl, rfl, ⟨by decide, by decide, by omega⟩, .inl ⟨_, rfl, _, _, rfl, rfl, (by show (0 : Int) < _; decide), ?_⟩⟩⟩
            refine ⟨_, rfl, _, rfl, _, _, rfl, rfl, .inl ⟨by decide, by decide⟩, _, _, rfl, rfl, _, _, rfl, rfl, .inl ⟨by omega, by omega⟩, _, rfl, _, _, rfl, rfl, .inl ⟨by decide, by decide⟩, _, rfl, _, _, rfl, rfl, .inl (mul_bd a0 a2 ⟨by decide, by decide⟩), _, _, rfl, rfl, _, _, rfl, rfl, _, _, rfl, rfl, ⟨by decide, by decide, draw_bd (by omega) (by omega) a0 a2 ⟨by decide, by decide⟩ ⟨by decide, by decide⟩ ⟨by decide, by decide⟩⟩, .inl ⟨_, rfl, _, _, rfl, rfl, (by show (0 : Int) < _; decide), ?_⟩⟩
            refine ⟨_, rfl, _, _, rfl, rfl, ⟨by decide, by decide⟩, .inl ⟨_, rfl, _, rfl, _, _, rfl, rfl, (by show (0 : Int) < many; omega), ?_⟩⟩
            exact k _ _ (md _).1 (md _).2 k2 ⟨cells, at_ + 1, _, hp2, hl2, nlp, hcl, by omega, by omega⟩
        · refine ifN rfl ?_
          refine ⟨_, rfl, .inl ⟨_, rfl, _, _, rfl, rfl, (by show (0 : Int) < _; decide), _, rfl, _, _, rfl, rfl, .inl ⟨by decide, by decide⟩, _, _, rfl, rfl, _, _, rfl, rfl, _, _, rfl, rfl, ⟨by decide, by decide, by omega⟩, .inl ⟨_, rfl, _, _, rfl, rfl, (by show (0 : Int) < _; decide), ?_⟩⟩⟩
          refine ⟨_, rfl, _, rfl, _, _, rfl, rfl, .inl ⟨by decide, by decide⟩, _, _, rfl, rfl, _, _, rfl, rfl, .inl ⟨by omega, by omega⟩, _, rfl, _, _, rfl, rfl, .inl ⟨by decide, by decide⟩, _, rfl, _, _, rfl, rfl, .inl (mul_bd a0 a2 ⟨by decide, by decide⟩), _, _, rfl, rfl, _, _, rfl, rfl, _, _, rfl, rfl, ⟨by decide, by decide, draw_bd (by omega) (by omega) a0 a2 ⟨by decide, by decide⟩ ⟨by decide, by decide⟩ ⟨by decide, by decide⟩⟩, .inl ⟨_, rfl, _, _, rfl, rfl, (by show (0 : Int) < _; decide), ?_⟩⟩
          refine ⟨_, rfl, _, _, rfl, rfl, ⟨by decide, by decide⟩, .inl ⟨_, rfl, _, rfl, _, _, rfl, rfl, (by show (0 : Int) < many; omega), ?_⟩⟩
          exact k _ _ (md _).1 (md _).2 k2 ⟨cells, at_ + 1, _, hp2, hl2, nlp, hcl, by omega, by omega⟩
theorem ok_Lpick (T : Tx K mg) : FnR P w K mg base (L2.CX P w) 2 (He.ga K "_law_pick") (spPick) := by
  obtain ⟨fd, F⟩ := T.d_Lpick
  refine EM.fnr F sc_Lpick (fun _ _ _ _ _ _ us hl => match us, hl with | [_, _], _ => rfl) (fun vs H Q E h => ?_) (fun cdv A outer s H vs Q E hr h => ?_)
  · obtain ⟨p, l, n, a, xs, rfl, _⟩ := h
    rfl
  · obtain ⟨p, l, n, a, xs, rfl, hP, hn, ha, nap, hx, hx2, k⟩ := h
    refine ⟨_, (PSs.nox (pss_one (ps_ret (pe_ix ix_list (pv 1) (EM.pe_cR (ok_Ldraw T) (hr.mono (by decide)) T.k__law_draw T.g__law_draw passL (pa_cons (pv 0) (pa_cons (pe_callB call_len (by rfl) T.f_len boot_len (pa_cons (pv 1) pa_nil)) pa_nil))) (fun _ _ => rfl))))), ?_⟩
    refine ⟨_, rfl, _, rfl, _, rfl, _, _, rfl, .inl ⟨_, SqL.of ha, rfl⟩, p, l, n, xs.length, rfl, hP, hn, by omega, by omega, fun d H' d0 d1 k1 P1 => ?_⟩
    obtain ⟨v, hv, hmem⟩ := pick (xs := xs) d0 d1
    exact ⟨a, _, _, v, rfl, rfl, SqL.of (k1 _ _ ha nap), hv, k v H' hmem k1 P1⟩
end
end K10
namespace K10
open PySem PySem.Spec PyProof.Rows L2 EM
theorem chr_eq {c n : Nat} {z : Str} (hz : z = ⟨#[n]⟩) : decide (V.str ⟨#[c]⟩ = V.str z) = decide (c = n) := by
  subst hz
  by_cases h : c = n
  · subst h; simp
  · have : ¬ V.str ⟨#[c]⟩ = V.str ⟨#[n]⟩ := fun q => h (by simpa using V.str.inj q)
    simp [this, h]
theorem dVs {a b : Str} : decide (V.str a = V.str b) = decide (a = b) := by
  by_cases h : a = b
  · subst h; simp
  · have : ¬ V.str a = V.str b := fun q => h (V.str.inj q)
    simp [this, h]
theorem zero_chr : ("0" : Str) = ⟨#[48]⟩ := by decide +kernel
def figs (a : Str) (most : Int) : Bool := if ¬ (1 ≤ (a.length : Int)) then false else if ¬ ((a.length : Int) ≤ most) then false else if a ≠ "0" ∧ (sg a).head? = some 48 then false else (sg a).all isDig
def spFig : Sp := fun vs H Q _ => ∃ (a : Str) (most : Int), vs = [.str a, .int most] ∧ a.length ≤ 100000 ∧ ∀ H', Same H H' → Q (.bl (figs a most)) H'
def width (a : Str) : Bool := if a = "" then false else if (sg a).head? = some 48 then false else if 4 < (a.length : Int) then false else if (sg a).all isDig = false then false else decide (worthT a ≤ 1000)
def spWid : Sp := fun vs H Q _ => ∃ (a : Str), vs = [.str a] ∧ a.length ≤ 100000 ∧ ∀ H', Same H H' → Q (.bl (width a)) H'
section
variable {P : Program} {w : World} {K : PySem.W.Frag} {mg : Str → Option Value} {base : Heap}
theorem ok_is_figures (T : Tx K mg) : FnR P w K mg base (L2.CX P w) 1 (He.ga K "is_figures") (spFig) := by
  obtain ⟨fd, F⟩ := T.d_is_figures
  refine EM.fnr F sc_is_figures (fun _ _ _ _ _ _ us hl => match us, hl with | [_, _], _ => rfl) (fun vs H Q E h => ?_) (fun cdv A outer s H vs Q E hr h => ?_)
  · obtain ⟨a, most, rfl, _⟩ := h
    rfl
  · obtain ⟨a, most, rfl, hl, k⟩ := h
    refine ⟨_, (PSs.nox (pss_cons (ps_if (PW.pt (pw_or (pt_not (pt_chain op_le op_le pe_int (pe_callB call_len (by rfl) T.f_len boot_len (pa_cons (pv 0) pa_nil)) (pv 1))) (pw_or1 (PW.pt (pw_and (pt_cmpR op_ne (pv 0) pe_str (nomark _)) (pw_and1 (pt_cmpR op_eq (pe_ix ix_str (pv 0) pe_int (fun _ _ => rfl)) pe_str (nomark _))))))))
  (pss_one (ps_ret pe_bl)) pss_nil)
 (pss_one (ps_ret (pe_callB (cr_all rfl) (by rfl) T.f_all (by decide +kernel) (pa_cons (pe_lc (own := [("sign", 2)]) (g := gName 2) rfl sc_is_figures.nd (pi_str (pv 0)) (blkOk_by (N := ["text", "most", "sign"]) (sc := defScope s_is_figures) (by decide +kernel)) (fun _ _ _ _ _ => (pg_name (i := 2) sc_is_figures.nd rfl (Or.inl rfl))) (fun _ _ _ _ _ => pts_nil) (fun _ _ _ _ _ => (pe_cmpR op_in_sign (pv 2) (EM.pe_gS T.g_FIGURES) (by rfl)))) pa_nil)))))), ?_⟩
    have hz : a.length ≤ sizeLine := Nat.le_trans hl (by decide)
    refine ⟨_, rfl, _, _, rfl, ⟨hz, rfl⟩, ?_⟩
    refine ⟨_, _, rfl, rfl, _, rfl, ite2 (fun c1 => ?_) (fun c1 => ?_)⟩
    · have c1' := of_decide_eq_true c1
      refine ⟨_, rfl, _, _, rfl, rfl, _, rfl, ite2 (fun c2 => ?_) (fun c2 => ?_)⟩
      · refine iteT ?_
        have e : figs a most = false := by
          unfold figs
          rw [if_neg (by omega), if_pos (by simpa using c2)]
        rw [e] at k
        exact k H (Same.refl H)
      · have c2' : (a.length : Int) ≤ most := by simpa using c2
        have hne : sg a ≠ [] := by intro z; rw [len_sg, z] at c1'; simp at c1'
        obtain ⟨c0, r0, hcr⟩ := List.exists_cons_of_ne_nil hne
        refine ⟨_, rfl, rfl, _, rfl, ite2 (fun c3 => ?_) (fun c3 => ?_)⟩
        · rw [dVs] at c3
          have c3' : a ≠ "0" := by simpa using c3
          refine ⟨_, rfl, a, 0, c0, rfl, rfl, hz, atI_nat (j := 0) (by show (sg a)[0]? = _; rw [hcr]; rfl), rfl, _, rfl, ite2 (fun c4 => ?_) (fun c4 => ?_)⟩
          · rw [chr_eq zero_chr] at c4
            have e : figs a most = false := by
              unfold figs
              rw [if_neg (by omega), if_neg (by omega), if_pos ⟨c3', by rw [hcr]; exact congrArg some (of_decide_eq_true c4)⟩]
            rw [e] at k
            exact k H (Same.refl H)
          · rw [chr_eq zero_chr] at c4
            have e : figs a most = (sg a).all isDig := by
              unfold figs
              rw [if_neg (by omega), if_neg (by omega), if_neg (fun z => by rw [hcr] at z; simp at c4; exact c4 (Option.some.inj z.2))]
            refine ⟨_, rfl, _, rfl, fun D hD => lc_it (walk_str (z := a)) (fun i H5 => Same H H5 ∧ H5 D = some (.lst ((((sg a).take i).map isDig).map V.bl))) ⟨same_upd hD, upd_same⟩ (fun _ _ _ _ => trivial) ?_ ?_⟩
            · rintro i y H5 H6 hi ⟨s5, h5⟩ ⟨rfl, c, hc, rfl⟩
              rw [← Array.getElem?_toList] at hc
              refine ⟨rfl, yes ⟨_, rfl, _, _, rfl, rfl, _, h5, ?_, ?_, ?_⟩⟩
              · rw [List.length_map, List.length_map, List.length_take]
                have : 100000 < sizeLine := by decide
                rw [len_sg] at hl
                omega
              · exact same_upd' s5 hD
              · rw [upd_same, take_snoc hc, List.map_append, List.map_append, mem_figs]
                rfl
            · rintro H5 ⟨s5, h5⟩
              rw [List.take_of_length_le (by show (sg a).length ≤ a.cps.size; simp)] at h5
              refine ⟨D, _, rfl, SqL.of h5, ?_⟩
              rw [List.all_map]
              rw [e] at k
              exact k _ s5
        · refine iteF ?_
          rw [dVs] at c3
          have e : figs a most = (sg a).all isDig := by
            unfold figs
            rw [if_neg (by omega), if_neg (by omega), if_neg (fun z => by simp at c3; exact z.1 c3)]
          refine ⟨_, rfl, _, rfl, fun D hD => lc_it (walk_str (z := a)) (fun i H5 => Same H H5 ∧ H5 D = some (.lst ((((sg a).take i).map isDig).map V.bl))) ⟨same_upd hD, upd_same⟩ (fun _ _ _ _ => trivial) ?_ ?_⟩
          · rintro i y H5 H6 hi ⟨s5, h5⟩ ⟨rfl, c, hc, rfl⟩
            rw [← Array.getElem?_toList] at hc
            refine ⟨rfl, yes ⟨_, rfl, _, _, rfl, rfl, _, h5, ?_, ?_, ?_⟩⟩
            · rw [List.length_map, List.length_map, List.length_take]
              have : 100000 < sizeLine := by decide
              rw [len_sg] at hl
              omega
            · exact same_upd' s5 hD
            · rw [upd_same, take_snoc hc, List.map_append, List.map_append, mem_figs]
              rfl
          · rintro H5 ⟨s5, h5⟩
            rw [List.take_of_length_le (by show (sg a).length ≤ a.cps.size; simp)] at h5
            refine ⟨D, _, rfl, SqL.of h5, ?_⟩
            rw [List.all_map]
            rw [e] at k
            exact k _ s5
    · refine ⟨_, rfl, iteT (iteT ?_)⟩
      have e : figs a most = false := by
        unfold figs
        rw [if_pos (by simpa using c1)]
      rw [e] at k
      exact k H (Same.refl H)
end
end K10
namespace K10
open PySem PySem.Spec PyProof.Rows L2 EM
theorem odd_empty (l : List Nat) : (l.filter fun c => !isDig c).isEmpty = l.all isDig := by
  induction l with
  | nil => rfl
  | cons c r ih =>
    rw [List.filter_cons, List.all_cons]
    cases h : isDig c
    · rfl
    · simpa using ih
theorem empty_iff (a : Str) : a = "" ↔ sg a = [] := by
  constructor
  · intro h; subst h; decide +kernel
  · intro h; exact str_ext (h.trans (by decide +kernel))
section
variable {P : Program} {w : World} {K : PySem.W.Frag} {mg : Str → Option Value} {base : Heap}
theorem ok_Lis_width (T : Tx K mg) : FnR P w K mg base (L2.CX P w) 1 (He.ga K "_law_is_width") (spWid) := by
  obtain ⟨fd, F⟩ := T.d_Lis_width
  refine EM.fnr F sc_Lis_width (fun _ _ _ _ _ _ us hl => match us, hl with | [_], _ => rfl) (fun vs H Q E h => ?_) (fun cdv A outer s H vs Q E hr h => ?_)
  · obtain ⟨a, rfl, _⟩ := h
    rfl
  · obtain ⟨a, rfl, hl, k⟩ := h
    refine ⟨_, (PSs.nox (pss_cons (ps_if (PW.pt (pw_or (pt_cmpR op_eq (pv 0) pe_str (nomark _)) (pw_or (pt_cmpR op_eq (pe_ix ix_str (pv 0) pe_int (fun _ _ => rfl)) pe_str (nomark _)) (pw_or (pt_cmpR op_gt (pe_callB call_len (by rfl) T.f_len boot_len (pa_cons (pv 0) pa_nil)) pe_int (nomark _)) (pw_or1 (pt_cmpR (EM.op_neNil hr.units) (pe_lc (own := [("_law_sign", 1)]) (g := gName 1) rfl sc_Lis_width.nd (pi_str (pv 0)) (blkOk_by (N := ["_law_part", "_law_sign"]) (sc := defScope s_Lis_width) (by decide +kernel)) (fun _ _ _ _ _ => (pg_name (i := 1) sc_Lis_width.nd rfl (Or.inl rfl))) (fun _ _ _ _ _ => (pts_one (pt_cmpR op_notIn_sign (pv 1) pe_str (by rfl)))) (fun _ _ _ _ _ => (pv 1))) (pe_lst pa_nil) (nomark _)))))))
  (pss_one (ps_ret pe_bl)) pss_nil)
 (pss_one (ps_ret (pe_cmpR op_le (pe_callTy call_int_str (by rfl) T.f_int (by decide +kernel) (pa_cons (pv 0) pa_nil)) pe_int (nomark _)))))), ?_⟩
    have hz : a.length ≤ sizeLine := Nat.le_trans hl (by decide)
    refine ⟨_, rfl, rfl, _, rfl, ite2 (fun c1 => ?_) (fun c1 => ?_)⟩
    · rw [dVs] at c1
      have e : width a = false := by
        unfold width
        rw [if_pos (of_decide_eq_true c1)]
      rw [e] at k
      exact k H (Same.refl H)
    · rw [dVs] at c1
      have c1' : ¬ a = "" := by simpa using c1
      have hne : sg a ≠ [] := fun z => c1' ((empty_iff a).mpr z)
      obtain ⟨c0, r0, hcr⟩ := List.exists_cons_of_ne_nil hne
      refine ⟨_, rfl, a, 0, c0, rfl, rfl, hz, atI_nat (j := 0) (by show (sg a)[0]? = _; rw [hcr]; rfl), rfl, _, rfl, ite2 (fun c2 => ?_) (fun c2 => ?_)⟩
      · rw [chr_eq zero_chr] at c2
        have e : width a = false := by
          unfold width
          rw [if_neg c1', if_pos (by rw [hcr]; exact congrArg some (of_decide_eq_true c2))]
        rw [e] at k
        exact k H (Same.refl H)
      · rw [chr_eq zero_chr] at c2
        have c2' : ¬ (sg a).head? = some 48 := fun z => by rw [hcr] at z; simp at c2; exact c2 (Option.some.inj z)
        refine ⟨_, rfl, _, _, rfl, ⟨hz, rfl⟩, _, _, rfl, rfl, _, rfl, ite2 (fun c3 => ?_) (fun c3 => ?_)⟩
        · have e : width a = false := by
            unfold width
            rw [if_neg c1', if_neg c2', if_pos (of_decide_eq_true c3)]
          rw [e] at k
          exact k H (Same.refl H)
        · have c3' : ¬ 4 < (a.length : Int) := by simpa using c3
          refine ⟨_, rfl, _, rfl, fun D hD => lc_it (walk_str (z := a)) (fun i H5 => Same H H5 ∧ H5 D = some (.lst ((((sg a).take i).filter fun c => !isDig c).map fun c => V.str ⟨#[c]⟩))) ⟨same_upd hD, upd_same⟩ (fun _ _ _ _ => trivial) ?_ ?_⟩
          · rintro i y H5 H6 hi ⟨s5, h5⟩ ⟨rfl, c, hc, rfl⟩
            rw [← Array.getElem?_toList] at hc
            refine ⟨rfl, _, rfl, _, _, rfl, rfl, _, rfl, ?_⟩
            rw [mem_figs]
            refine ite2 (fun d1 => ?_) (fun d1 => ?_)
            · refine ⟨_, rfl, _, h5, ?_, same_upd' s5 hD, ?_⟩
              · rw [List.length_map]
                have : 100000 < sizeLine := by decide
                have := List.length_filter_le (fun c => !isDig c) ((sg a).take i)
                rw [List.length_take] at this
                rw [len_sg] at hl
                omega
              · rw [upd_same, take_snoc hc, List.filter_append, List.map_append]
                rw [show [c].filter (fun c => !isDig c) = [c] from by rw [List.filter_cons, if_pos d1]; rfl]
                rfl
            · refine ⟨s5, ?_⟩
              rw [take_snoc hc, List.filter_append, show [c].filter (fun c => !isDig c) = [] from by rw [List.filter_cons, if_neg d1]; rfl, List.append_nil]
              exact h5
          · rintro H5 ⟨s5, h5⟩
            rw [List.take_of_length_le (by show (sg a).length ≤ a.cps.size; simp)] at h5
            refine ⟨(by show 0 ≤ sizeLine; decide), fun q hq => ⟨D, q, _, rfl, rfl, SqL.of (by rw [upd_ne (ne_of_none h5 hq)]; exact h5), SqL.of upd_same, _, rfl, ?_⟩⟩
            have s6 := same_upd' (o := .lst []) s5 (s5.free hq)
            rw [List.isEmpty_map, odd_empty]
            refine ite2 (fun c4 => ?_) (fun c4 => ?_)
            · have e : width a = false := by
                unfold width
                rw [if_neg c1', if_neg c2', if_neg c3', if_pos (by simpa using c4)]
              rw [e] at k
              exact k _ s6
            · have c4' : (sg a).all isDig = true := by simpa using c4
              have e : width a = decide (worthT a ≤ 1000) := by
                unfold width
                rw [if_neg c1', if_neg c2', if_neg c3', if_neg (by rw [c4']; decide)]
              rw [e] at k
              have i1 := int_of_figs c4' hne (by omega)
              refine ⟨_, rfl, _, _, rfl, i1, by omega, _, _, rfl, rfl, k _ s6⟩
end
end K10
namespace K10
open PySem PySem.Spec PyProof.Rows L2 EM
def bad (i : Nat) (p : Str) : Prop := i = 127 ∨ width p = false
instance (i : Nat) (p : Str) : Decidable (bad i p) := by unfold bad; infer_instance
def firstBad (i : Nat) : List Str → Option Nat
  | [] => none
  | p :: r => if bad i p then some i else firstBad (i + 1) r
theorem first_at {ps : List Str} {i : Nat} {p : Str} (h : ps[i]? = some p) : firstBad i (ps.drop i) = if bad i p then some i else firstBad (i + 1) (ps.drop (i + 1)) := by
  have e := List.getElem?_eq_some_iff.mp h
  obtain ⟨hi, he⟩ := e
  rw [List.drop_eq_getElem_cons hi, he]
  rfl
theorem first_none : ∀ {ps : List Str} {i : Nat}, firstBad i ps = none → ∀ p ∈ ps, width p = true
  | [], _, _, p, h => absurd h (by simp)
  | q :: r, i, e, p, h => by
    unfold firstBad at e
    split at e
    · cases e
    · rename_i hb
      rcases List.mem_cons.mp h with rfl | h
      · have : ¬ width p = false := fun z => hb (.inr z)
        simpa using this
      · exact first_none e p h
theorem first_len : ∀ {ps : List Str} {i : Nat}, firstBad i ps = none → i ≤ 127 → i + ps.length ≤ 127
  | [], _, _, h => by simpa using h
  | q :: r, i, e, h => by
    unfold firstBad at e
    split at e
    · cases e
    · rename_i hb
      have hi : i ≠ 127 := fun z => hb (.inl z)
      have := first_len e (by omega)
      simp only [List.length_cons]
      omega
abbrev ptsOf (a : Str) : List Str := Txt.split a "-"
def dueOf (a : Str) : Nat ⊕ List Int := match firstBad 0 (ptsOf a) with
  | some k => .inl k
  | none => if (ptsOf a).length < 3 ∨ (ptsOf a).length % 2 = 0 then .inl (ptsOf a).length else .inr ((ptsOf a).map worthT)
theorem width_ok {p : Str} (h : width p = true) : sg p ≠ [] ∧ (sg p).head? ≠ some 48 ∧ p.length ≤ 4 ∧ (sg p).all isDig = true ∧ 1 ≤ worthT p ∧ worthT p ≤ 1000 := by
  unfold width at h
  split at h
  · cases h
  split at h
  · cases h
  split at h
  · cases h
  split at h
  · cases h
  rename_i h1 h2 h3 h4
  have hne : sg p ≠ [] := fun z => h1 ((empty_iff p).mpr z)
  have hd : (sg p).all isDig = true := by simpa using h4
  exact ⟨hne, h2, by omega, hd, worth_pos hne h2 hd, of_decide_eq_true h⟩
def dueV : Nat ⊕ List Int → HO
  | .inl k => .tup [.int 0, .int k]
  | .inr ws => .lst (ws.map V.int)
def spDue : Sp := fun vs H Q _ => ∃ (a : Str), vs = [.str a] ∧ a.length ≤ 10000 ∧ ∀ p H', Same H H' → H p = none → H' p = some (dueV (dueOf a)) → Q (.ref p) H'
theorem str_at {l : List Str} {i : Nat} {y : V} (h : (l.map V.str)[i]? = some y) : ∃ z, l[i]? = some z ∧ y = .str z := by
  rw [List.getElem?_map] at h
  cases e : l[i]? with
  | none => rw [e] at h; cases h
  | some z => rw [e] at h; exact ⟨z, rfl, (Option.some.inj h).symm⟩
section
variable {P : Program} {w : World} {K : PySem.W.Frag} {mg : Str → Option Value} {base : Heap}
theorem ok_Ldue (T : Tx K mg) : FnR P w K mg base (L2.CX P w) 2 (He.ga K "_law_due") (spDue) := by
  obtain ⟨fd, F⟩ := T.d_Ldue
  refine EM.fnr F sc_Ldue (fun _ _ _ _ _ _ us hl => match us, hl with | [_], _ => rfl) (fun vs H Q E h => ?_) (fun cdv A outer s H vs Q E hr h => ?_)
  · obtain ⟨a, rfl, _⟩ := h
    rfl
  · obtain ⟨a, rfl, hl, k⟩ := h
    refine ⟨_, (PSs.nox (pss_cons (ps_set (i := 1) sc_Ldue.nd rfl (Or.inl rfl) (pe_m1 PySem.F.slot_str_split PySem.F.type_str_split mt_split (pv 0) pe_str))
 (pss_cons (ps_for PassesOwn.never rfl ((pi_enum (by rfl) T.f_enumerate (pa_cons (pv 1) pa_nil))) (pg_tup (by rfl) (pgs_cons (pg_name (i := 2) sc_Ldue.nd rfl (Or.inl rfl)) (pgs_cons (pg_name (i := 3) sc_Ldue.nd rfl (Or.inl rfl)) pgs_nil)))
  (pss_one (ps_if (PW.pt (pw_or (pt_cmpR op_eq (pv 2) pe_int (nomark _)) (pw_or1 (pt_not (pt_val (EM.pe_cR (ok_Lis_width T) (hr.mono (by decide)) T.k__law_is_width T.g__law_is_width passL (pa_cons (pv 3) pa_nil)))))))
  (pss_one (ps_ret (pe_tup (pa_cons pe_int (pa_cons (pv 2) pa_nil))))) pss_nil)))
 (pss_cons (ps_if (PW.pt (pw_or (pt_cmpR op_lt (pe_callB call_len (by rfl) T.f_len boot_len (pa_cons (pv 1) pa_nil)) pe_int (nomark _)) (pw_or1 (pt_cmpR op_eq (pe_op op_mod (pe_callB call_len (by rfl) T.f_len boot_len (pa_cons (pv 1) pa_nil)) pe_int) pe_int (nomark _)))))
  (pss_one (ps_ret (pe_tup (pa_cons pe_int (pa_cons (pe_callB call_len (by rfl) T.f_len boot_len (pa_cons (pv 1) pa_nil)) pa_nil))))) pss_nil)
 (pss_one (ps_ret (pe_lc (own := [("_law_part", 3)]) (g := gName 3) rfl sc_Ldue.nd (pi_list (pv 1)) (blkOk_by (N := ["_law_text", "_law_parts", "_law_k", "_law_part"]) (sc := defScope s_Ldue) (by decide +kernel)) (fun _ _ _ _ _ => (pg_name (i := 3) sc_Ldue.nd rfl (Or.inl rfl))) (fun _ _ _ _ _ => pts_nil) (fun _ _ _ _ _ => (pe_callTy call_int_str (by rfl) T.f_int (by decide +kernel) (pa_cons (pv 3) pa_nil)))))))))), ?_⟩
    have hz : a.length + 2 ≤ sizeLine := Nat.le_trans (Nat.add_le_add_right hl 2) (by decide)
    refine ⟨_, rfl, ⟨_, rfl⟩, _, _, rfl, rfl, by decide +kernel, hz, fun q hq => ?_⟩
    have s0 : Same H (upd H q (.lst ((ptsOf a).map V.str))) := same_upd hq
    have hlen : (ptsOf a).length ≤ 10002 := Nat.le_trans (split_le a "-") (by omega)
    -- for k, part in enumerate(parts)
    refine ⟨_, rfl, q, _, rfl, SqL.of upd_same, for_it (walk_enum (xs := (ptsOf a).map V.str)) (fun i σ H2 => ∃ v2 v3 : Option V, σ = [some (.str a), some (.ref q), v2, v3] ∧ Same H H2 ∧ H2 q = some (.lst ((ptsOf a).map V.str)) ∧ firstBad 0 (ptsOf a) = firstBad i ((ptsOf a).drop i))
      ⟨none, none, rfl, s0, upd_same, by rw [List.drop_zero]⟩ (fun i σ H2 _ ⟨_, _, _, _, h2, _⟩ => SqL.of h2) ?_ ?_⟩
    · rintro i y σ H2 H3 hi ⟨v2, v3, rfl, s2, h2, hf⟩ ⟨Tt, x1, x2, rfl, hT, rfl, ea, eb⟩
      cases ea
      obtain ⟨p, hp, rfl⟩ := str_at eb
      have hpl : p.length ≤ a.length := part_short (List.mem_of_getElem? hp)
      have hf2 := hf.trans (first_at hp)
      refine ⟨Tt, _, rfl, SqT.of upd_same, rfl, _, _, rfl, _, _, rfl, rfl, ?_⟩
      have s3 := same_upd' (o := .tup [V.int i, V.str p]) s2 (s2.free hT)
      have h3 : (upd H2 Tt (.tup [V.int i, V.str p])) q = some (.lst ((ptsOf a).map V.str)) := by rw [upd_ne (ne_of_none h2 hT)]; exact h2
      refine ⟨_, rfl, rfl, _, rfl, ?_⟩
      rw [dVi]
      refine ite2 (fun c1 => ?_) (fun c1 => ?_)
      · have c1' : (i : Int) = 127 := of_decide_eq_true c1
        have e : dueOf a = .inl i := by
          unfold dueOf
          rw [hf2, if_pos (.inl (by omega))]
        refine ⟨_, rfl, (by show 2 ≤ sizeLine; decide), fun r hr2 => ?_⟩
        exact k r _ (same_upd' s3 (s3.free hr2)) (s3.free hr2) (by rw [upd_same, e]; rfl)
      · have c1' : ¬ (i : Int) = 127 := by simpa using c1
        refine ⟨_, rfl, p, rfl, by omega, fun H4 s4 => ⟨_, rfl, ite2 (fun c2 => ?_) (fun c2 => ?_)⟩⟩
        · have e : dueOf a = .inl i := by
            unfold dueOf
            rw [hf2, if_pos (.inr (by simpa using c2))]
          refine ⟨_, rfl, (by show 2 ≤ sizeLine; decide), fun r hr2 => ?_⟩
          have s5 := s3.trans s4
          exact k r _ (same_upd' s5 (s5.free hr2)) (s5.free hr2) (by rw [upd_same, e]; rfl)
        · refine ⟨_, _, rfl, s3.trans s4, s4 _ _ h3, ?_⟩
          rw [hf2, if_neg]
          rintro (z | z)
          · omega
          · rw [z] at c2
            exact c2 rfl
    · rintro σ H2 ⟨v2, v3, rfl, s2, h2, hf⟩
      have hnone : firstBad 0 (ptsOf a) = none := by
        rw [hf, List.length_map, List.drop_length]
        rfl
      have hw := first_none hnone
      have ln := first_len hnone (by omega)
      refine ⟨_, rfl, _, _, rfl, .inl ⟨_, SqL.of h2, rfl⟩, _, _, rfl, rfl, _, rfl, ite2 (fun c1 => ?_) (fun c1 => ?_)⟩
      · have e : dueOf a = .inl (ptsOf a).length := by
          unfold dueOf
          rw [hnone]
          refine if_pos (.inl ?_)
          simp only [List.length_map, decide_eq_true_eq] at c1
          omega
        refine ⟨_, rfl, _, _, rfl, .inl ⟨_, SqL.of h2, rfl⟩, (by show 2 ≤ sizeLine; decide), fun r hr2 => ?_⟩
        exact k r _ (same_upd' s2 (s2.free hr2)) (s2.free hr2) (by rw [upd_same, e, List.length_map]; rfl)
      · refine ⟨_, rfl, _, _, rfl, .inl ⟨_, SqL.of h2, rfl⟩, _, _, rfl, rfl, (by show (0 : Int) < 2; decide), rfl, _, rfl, ?_⟩
        rw [dVi]
        refine ite2 (fun c2 => ?_) (fun c2 => ?_)
        · have e : dueOf a = .inl (ptsOf a).length := by
            unfold dueOf
            rw [hnone]
            refine if_pos (.inr ?_)
            simp only [List.length_map, decide_eq_true_eq] at c2
            omega
          refine ⟨_, rfl, _, _, rfl, .inl ⟨_, SqL.of h2, rfl⟩, (by show 2 ≤ sizeLine; decide), fun r hr2 => ?_⟩
          exact k r _ (same_upd' s2 (s2.free hr2)) (s2.free hr2) (by rw [upd_same, e, List.length_map]; rfl)
        · have e : dueOf a = .inr ((ptsOf a).map worthT) := by
            unfold dueOf
            rw [hnone]
            refine if_neg ?_
            simp only [List.length_map, decide_eq_true_eq] at c1 c2
            omega
          refine ⟨_, rfl, q, rfl, ⟨_, SqL.of h2⟩, fun D hD => lc_it (walk_list (K := K) (a := q) (xs := (ptsOf a).map V.str)) (fun i H5 => Same H2 H5 ∧ H5 D = some (.lst ((((ptsOf a).take i).map worthT).map V.int))) ⟨same_upd hD, upd_same⟩ (fun _ _ _ ⟨s5, _⟩ => SqL.of (s5 _ _ h2)) ?_ ?_⟩
          · rintro i y H5 H6 hi ⟨s5, h5⟩ ⟨rfl, hy⟩
            obtain ⟨p, hp, rfl⟩ := str_at hy
            obtain ⟨w1, w2, w3, w4, w5, w6⟩ := width_ok (hw p (List.mem_of_getElem? hp))
            refine ⟨rfl, yes ⟨_, rfl, p, _, rfl, int_of_figs w4 w1 (by omega), by omega, _, h5, ?_, same_upd' s5 hD, ?_⟩⟩
            · rw [List.length_map, List.length_map, List.length_take]
              exact szl (by omega)
            · rw [upd_same, take_snoc hp, List.map_append, List.map_append]
              rfl
          · rintro H5 ⟨s5, h5⟩
            rw [List.take_of_length_le (by rw [List.length_map]; exact Nat.le_refl _)] at h5
            exact k D H5 (s2.trans s5) (s2.free hD) (by rw [h5, e]; rfl)
end
end K10
namespace K10
open PySem PySem.Spec PyProof.Rows L2 EM
section
variable {P : Program} {w : World} {K : PySem.W.Frag} {mg : Str → Option Value} {base : Heap}
theorem mk_BadText (T : Tx K mg) : ∃ fd, FnOk P w K mg base (L2.CX P w) 1 (He.ma K (He.ga K "BadText") "__init__") fd ["self", "line", "word"] (spX2 (He.ga K "BadText") "line" "word") ∧ Binds K fd ["self", "line", "word"] [] := by
  obtain ⟨fd, F⟩ := T.d_BadText_init
  refine ⟨fd, FunD.ok (CX := L2.CX P w) F sc_BadText_init (fun vs H Q E h => ?_) (fun cdv A outer s H vs Q E hr h => ?_), F.bindsN (fun _ _ _ _ _ _ us hl => match us, hl with | [_, _, _], _ => rfl)⟩
  · obtain ⟨a, v, u, rfl, _⟩ := h
    rfl
  · obtain ⟨a, v, u, rfl, ha, k⟩ := h
    refine ⟨_, (PSs.nox (pss_cons (ps_ost (pv 0) (pv 1))
 (pss_one (ps_ost (pv 0) (pv 2))))), ?_⟩
    refine ⟨_, rfl, _, rfl, a, He.ga K "BadText", rfl, T.ox_BadText, T.na_BadText_line, .inl ⟨ha, fun dx hdx hda => ?_⟩⟩
    refine ⟨_, rfl, _, rfl, a, He.ga K "BadText", rfl, T.ox_BadText, T.na_BadText_word, .inr ⟨dx, _, upd_same, by rw [upd_ne hda]; exact upd_same, (by show 1 ≤ 900; decide), k dx hdx hda⟩⟩
end
end K10
namespace K10
open PySem PySem.Spec PyProof.Rows L2 EM
section
variable {P : Program} {w : World} {K : PySem.W.Frag} {mg : Str → Option Value} {base : Heap}
theorem ok_is_integer (T : Tx K mg) : FnR P w K mg base (L2.CX P w) 1 (He.ga K "is_integer") (spIsInt K) := by
  obtain ⟨fd, F⟩ := T.d_is_integer
  refine EM.fnr F sc_is_integer (fun _ _ _ _ _ _ us hl => match us, hl with | [_], _ => rfl) (fun vs H Q E h => ?_) (fun cdv A outer s H vs Q E hr h => ?_)
  · obtain ⟨x, t, b1, b2, rfl, _⟩ := h
    rfl
  · obtain ⟨x, t, b1, b2, rfl, ty, k1, k2, q⟩ := h
    refine ⟨_, (PSs.nox (pss_one (ps_ret (pe_and (pe_callB call_isi (by rfl) T.f_isinstance (by decide +kernel) (pa_cons (pv 0) (pa_cons (pe_bltn (v := .ty "int") (by rfl) T.f_int boot_int rfl) pa_nil))) (pe_one (pe_not (pe_callB call_isi (by rfl) T.f_isinstance (by decide +kernel) (pa_cons (pv 0) (pa_cons (pe_bltn (v := .ty "bool") (by rfl) T.f_bool boot_bool rfl) pa_nil))))))))), ?_⟩
    refine ⟨_, rfl, x, .ty "int", t, .type "int", b1, rfl, .ty "int", ty, k1, b1, rfl, ?_⟩
    cases b1 with
    | false => exact iteF q
    | true => exact iteT ⟨_, rfl, x, .ty "bool", t, .type "bool", b2, rfl, .ty "bool", ty, k2, b2, rfl, q⟩
theorem ok_is_between (T : Tx K mg) : FnR P w K mg base (L2.CX P w) 2 (He.ga K "is_between") (spBetween) := by
  obtain ⟨fd, F⟩ := T.d_is_between
  refine EM.fnr F sc_is_between (fun _ _ _ _ _ _ us hl => match us, hl with | [_, _, _], _ => rfl) (fun vs H Q E h => ?_) (fun cdv A outer s H vs Q E hr h => ?_)
  · obtain ⟨i, lo, hi, rfl, _⟩ := h
    rfl
  · obtain ⟨i, lo, hi, rfl, q⟩ := h
    refine ⟨_, (PSs.nox (pss_one (ps_ret (pe_and (EM.pe_cR (ok_is_integer T) (hr.mono (by decide)) T.k_is_integer T.g_is_integer passL (pa_cons (pv 0) pa_nil)) (pe_one (pe_chain op_le op_le (pv 1) (pv 0) (pv 2))))))), ?_⟩
    refine ⟨_, rfl, _, _, true, false, rfl, .base (.int i), kII, kIB, true, rfl, iteT ?_⟩
    refine ⟨_, rfl, _, rfl, _, _, rfl, rfl, _, rfl, ?_⟩
    refine ite2 (fun c => ?_) (fun c => ?_)
    · refine ⟨_, rfl, _, _, rfl, rfl, ?_⟩
      rw [c, Bool.true_and] at q
      exact q
    · have c' : decide (lo ≤ i) = false := by simpa using c
      rw [c', Bool.false_and] at q
      exact q
theorem ok_edges_of (T : Tx K mg) : FnR P w K mg base (L2.CX P w) 1 (He.ga K "edges_of") (spEdges K) := by
  obtain ⟨fd, F⟩ := T.d_edges_of
  refine EM.fnr F sc_edges_of (fun _ _ _ _ _ _ us hl => match us, hl with | [_], _ => rfl) (fun vs H Q E h => ?_) (fun cdv A outer s H vs Q E hr h => ?_)
  · obtain ⟨a, ws, rfl, _⟩ := h
    rfl
  · obtain ⟨a, ws, rfl, hS, hl, k⟩ := h
    refine ⟨_, (PSs.nox (pss_cons (ps_set (i := 1) sc_edges_of.nd rfl (Or.inl rfl) (pe_lst (pa_cons pe_int pa_nil)))
 (pss_cons (ps_for PassesOwn.never rfl (pi_tup (pv 0)) (pg_name (i := 2) sc_edges_of.nd rfl (Or.inl rfl))
  (pss_one (ps_expr (pe_bm PySem.F.plainAttrs_list PySem.F.slot_list_append PySem.F.type_list_append mt_append (pv 1) (pa_cons (pe_op op_add (pe_ix ix_list (pv 1) (pe_un un_neg pe_int) (fun _ _ => rfl)) (pv 2)) pa_nil)))))
 (pss_one (ps_ret (pe_callTy call_tuple_of (by rfl) T.f_tuple (by decide +kernel) (pa_cons (pv 1) pa_nil))))))), ?_⟩
    refine ⟨by decide, fun l hl0 => ?_⟩
    have s0 : Same H (upd H l (.lst [.int 0])) := same_upd hl0
    refine ⟨_, rfl, a, rfl, ⟨_, s0.sqT hS⟩, for_tup (K := K) (a := a) (xs := ws.map V.int) (fun i σ H2 => ∃ v : Option V, σ = [some (.ref a), some (.ref l), v] ∧ Same H H2 ∧ H2 l = some (.lst ((scan 0 (ws.take i)).map V.int)))
      ⟨none, rfl, s0, upd_same⟩ (fun i σ H2 _ ⟨_, _, s2, _⟩ => s2.sqT hS) ?_ ?_⟩
    · rintro i y σ H2 hi ⟨v, rfl, s2, h2⟩
      have hil : i < (ws.map V.int).length := (List.getElem?_eq_some_iff.mp hi).1
      rw [List.length_map] at hil
      obtain ⟨z, hz, rfl⟩ := map_at hi
      have hlen : (ws.take i).length = i := by rw [List.length_take]; omega
      refine ⟨_, rfl, .inl ⟨rfl, _, SqL.of h2⟩, _, rfl, 1, rfl, l, _, -1, .int (0 + (ws.take i).sum), rfl, rfl, SqL.of h2, ?_, _, rfl, _, _, rfl, rfl, l, _, _, rfl, rfl, h2, ?_, ?_⟩
      · refine atI_m (j := i) ?_ (by decide) ?_
        · rw [List.length_map, EM.scan_len, hlen]
          omega
        · rw [List.getElem?_map]
          have e := scan_last 0 (ws.take i)
          rw [hlen] at e
          rw [e]
          rfl
      · rw [List.length_map, EM.scan_len, hlen]
        exact szl (by omega)
      · refine ⟨_, rfl, same_upd' s2 hl0, ?_⟩
        rw [upd_same, take_snoc hz, scan_snoc, List.map_append]
        rfl
    · rintro σ H2 ⟨v, rfl, s2, h2⟩
      rw [List.take_of_length_le (by simp)] at h2
      refine ⟨_, rfl, l, _, rfl, .inl ⟨SqL.of h2, fun p hp => ?_⟩⟩
      exact k p _ (same_upd' s2 (s2.free hp)) upd_same
theorem bod_Mark_init (T : Tx K mg) (f : Addr) : Bod P w K mg base ["self", "widths", "at", "width", "one", "other"] "Mark.__init__" (defScope s_Mark_init) f (defBody s_Mark_init) 2 (spInit0 K) := by
  intro cdv A outer s H vs Q E hr h
  obtain ⟨x, dx, W, ws, rfl, hx, hW, hg, k⟩ := h
  obtain ⟨g1, g2, g3, g4⟩ := id hg
  refine ⟨_, (PSs.nox (pss_cons (ps_if (PW.pt (pw_or (pt_cmpR op_eq (pe_op op_mod (pe_callB call_len (by rfl) T.f_len boot_len (pa_cons (pv 1) pa_nil)) pe_int) pe_int (nomark _)) (pw_or1 (pt_not (pt_chain op_le op_le pe_int (pe_callB call_len (by rfl) T.f_len boot_len (pa_cons (pv 1) pa_nil)) (EM.pe_gI T.g_MOST_WIDTHS))))))
  (pss_one ps_never) pss_nil)
 (pss_cons (ps_for PassesOwn.never rfl (EM.pi_enumT (by rfl) T.f_enumerate (pa_cons (pv 1) pa_nil)) (pg_tup (by rfl) (pgs_cons (pg_name (i := 2) sc_Mark_init.nd rfl (Or.inl rfl)) (pgs_cons (pg_name (i := 3) sc_Mark_init.nd rfl (Or.inl rfl)) pgs_nil)))
  (pss_one (ps_if (pt_not (pt_val (EM.pe_cR (ok_is_between T) (hr.mono (by decide)) T.k_is_between T.g_is_between passL (pa_cons (pv 3) (pa_cons pe_int (pa_cons (EM.pe_gI T.g_MOST_WIDTH) pa_nil))))))
  (pss_one ps_never) pss_nil)))
 (pss_cons (ps_fld (pv 0) (pv 1) rfl)
 (pss_cons (ps_fld (pv 0) (EM.pe_cR (ok_edges_of T) (hr.mono (by decide)) T.k_edges_of T.g_edges_of passL (pa_cons (pv 1) pa_nil)) rfl)
 (pss_cons (ps_fld (pv 0) (pe_callTy call_tuple_of (by rfl) T.f_tuple (by decide +kernel) (pa_cons (pe_lc (own := [("one", 4), ("other", 5)]) (g := gTup K 2 (gCons (gName 4) (gCons (gName 5) gNil))) rfl sc_Mark_init.nd (RZ.pi_zipA (by rfl) T.f_zip (pa_cons (pv 1) (pa_cons (pe_slice sl_tup (pv 1) (po_some pe_int) po_none) pa_nil))) (blkOk_by (N := ["self", "widths", "at", "width", "one", "other"]) (sc := defScope s_Mark_init) (by decide +kernel)) (fun _ _ _ _ _ => (pg_tup (by rfl) (pgs_cons (pg_name (i := 4) sc_Mark_init.nd rfl (Or.inl rfl)) (pgs_cons (pg_name (i := 5) sc_Mark_init.nd rfl (Or.inl rfl)) pgs_nil)))) (fun _ _ _ _ _ => pts_nil) (fun _ _ _ _ _ => (pe_op op_add (pv 4) (pv 5)))) pa_nil)) rfl)
 (pss_cons (ps_fld (pv 0) (pe_op op_add (pe_op op_fdiv (pe_callB call_len (by rfl) T.f_len boot_len (pa_cons (pv 1) pa_nil)) pe_int) pe_int) rfl)
 (pss_cons (ps_fld (pv 0) (pe_ix ix_tup (pe_fld (pv 0) rfl) (pe_un un_neg pe_int) (fun _ _ => rfl)) rfl)
 (pss_one (ps_fld (pv 0) (pe_ix ix_tup (pe_fld (pv 0) rfl) (pe_un un_neg pe_int) (fun _ _ => rfl)) rfl)))))))))), ?_⟩
  -- len(widths) % 2 == 0 or not 3 <= len(widths) <= MOST_WIDTHS
  refine ⟨_, rfl, _, _, rfl, .inr ⟨_, SqT.of hW, rfl⟩, _, _, rfl, rfl, (by show (0 : Int) < 2; decide), rfl, _, rfl, ifN ?_ ?_⟩
  · rw [dVi]
    simp only [List.length_map, decide_eq_false_iff_not]
    omega
  refine ⟨_, rfl, _, _, rfl, .inr ⟨_, SqT.of hW, rfl⟩, _, _, rfl, rfl, _, rfl, ifP ?_ ?_⟩
  · simp only [List.length_map, decide_eq_true_eq]
    omega
  refine ⟨_, _, rfl, rfl, _, rfl, ifN ?_ ?_⟩
  · simp only [List.length_map, Bool.not_eq_false', decide_eq_true_eq]
    omega
  -- for at, width in enumerate(widths)
  refine ⟨_, rfl, W, _, rfl, SqT.of hW, for_it walk_enumT (fun i σ H2 => ∃ v2 v3 : Option V, σ = [some (.ref x), some (.ref W), v2, v3, none, none] ∧ Same H H2)
    ⟨none, none, rfl, Same.refl H⟩ (fun i σ H2 _ ⟨_, _, _, s2⟩ => s2.sqT (SqT.of hW)) ?_ ?_⟩
  · rintro i y σ H2 H3 hi ⟨v2, v3, rfl, s2⟩ ⟨Tt, a, b, rfl, hT, rfl, ea, eb⟩
    cases ea
    obtain ⟨z, hz, rfl⟩ := map_at eb
    have hb := g4 z (List.mem_of_getElem? hz)
    refine ⟨Tt, _, rfl, SqT.of upd_same, rfl, _, _, rfl, _, _, rfl, rfl, ?_⟩
    refine ⟨_, rfl, _, _, _, rfl, _, rfl, ifN ?_ ?_⟩
    · simp only [Bool.not_eq_false', Bool.and_eq_true, decide_eq_true_eq]
      exact hb
    · exact ⟨_, _, rfl, same_upd' s2 (s2.free hT)⟩
  · rintro σ H2 ⟨v2, v3, rfl, s2⟩
    have hx2 := s2 _ _ hx
    have hW2 := s2 _ _ hW
    have nWx : W ≠ x := ne_of hW2 hx2 (by intro z; cases z)
    -- self.widths = widths
    refine ⟨_, rfl, _, rfl, x, _, dx, _, rfl, hx2, T.cl_Mark, T.na_Mark_widths, (by show 0 < 1000; decide), ?_⟩
    -- self.edge_row = edges_of(widths)
    have hWa : (upd H2 x (.ins (He.ga K "Mark") dx (putF "widths" (.ref W) []))) W = some (.tup (ws.map V.int)) := by rw [upd_ne nWx]; exact hW2
    refine ⟨_, rfl, W, ws, rfl, SqT.of hWa, by omega, fun ep H3 s3 h3 => ?_⟩
    have hx3 := s3 _ _ upd_same
    have hW3 := s3 _ _ hWa
    have nex : ep ≠ x := ne_of h3 hx3 (by intro z; cases z)
    refine ⟨_, rfl, x, _, dx, _, rfl, hx3, T.cl_Mark, T.na_Mark_edge_row, (by show 1 < 1000; decide), ?_⟩
    -- self.sums = tuple([one + other for one, other in zip(widths, widths[1:])])
    obtain ⟨Hb, eHb⟩ : ∃ Hb, Hb = upd H3 x (.ins (He.ga K "Mark") dx (putF "edge_row" (.ref ep) (putF "widths" (.ref W) []))) := ⟨_, rfl⟩
    rw [← eHb]
    have hWb : Hb W = some (.tup (ws.map V.int)) := by rw [eHb, upd_ne nWx]; exact hW3
    have heb : Hb ep = some (.tup ((scan 0 ws).map V.int)) := by rw [eHb, upd_ne nex]; exact h3
    have hxb : Hb x = some (.ins (He.ga K "Mark") dx (putF "edge_row" (.ref ep) (putF "widths" (.ref W) []))) := by rw [eHb]; exact upd_same
    have ecut : cutV (ws.map V.int) (some 1) none = (ws.drop 1).map V.int := by
      rw [show (some (1 : Int)) = some ((1 : Nat) : Int) from rfl, cut_from _ 1 (by rw [List.length_map]; omega), List.map_drop]
    have kb : ∀ b o, H b = some o → b ≠ x → Hb b = some o := fun b o e hb => by rw [eHb, upd_ne hb]; exact s3 _ _ (by rw [upd_ne hb]; exact s2 _ _ e)
    clear eHb
    refine ⟨_, rfl, _, rfl, 1, rfl, W, _, rfl, SqT.of hWb, ?_, fun q hq => ⟨W, q, _, _, rfl, .inr ⟨SqT.of (by rw [upd_ne (ne_of_none hWb hq)]; exact hWb), SqT.of upd_same, fun Dd hD => lc_it (walk_zipT rfl)
      (fun i H5 => Same (upd Hb q (.tup (cutV (ws.map V.int) (some 1) none))) H5 ∧ H5 Dd = some (.lst (((sumsOf ws).take i).map V.int))) ⟨same_upd hD, upd_same⟩
      (fun i H5 _ ⟨s5, _⟩ => ⟨s5.sqT (SqT.of (by rw [upd_ne (ne_of_none hWb hq)]; exact hWb)), s5.sqT (SqT.of upd_same)⟩) ?_ ?_⟩⟩⟩
    · rw [List.length_map]
      intro z
      have z1 : min 1 ws.length = 0 := z.1
      omega
    · rintro i y H5 H6 hi ⟨s5, h5⟩ ⟨Tt, a, b, rfl, hT, rfl, ea, eb⟩
      rw [ecut] at eb
      obtain ⟨za, hza, rfl⟩ := map_at ea
      obtain ⟨zb, hzb, rfl⟩ := map_at eb
      have nDT : Dd ≠ Tt := ne_of_none h5 hT
      have hsum := sums_at hza hzb
      refine ⟨Tt, _, rfl, SqT.of upd_same, rfl, _, _, rfl, _, _, rfl, rfl, rfl, yes ⟨_, rfl, _, rfl, _, _, rfl, rfl, _, (by rw [upd_ne nDT]; exact h5), ?_, ?_, ?_⟩⟩
      · rw [List.length_map, List.length_take, sums_len]
        exact szl (by omega)
      · intro b o e
        have e2 := s5 _ _ e
        by_cases hb : b = Dd
        · subst hb
          have e3 := (same_upd (o := HO.lst []) hD) _ _ e
          rw [upd_same] at e3
          exact absurd e (by rw [hD]; intro z; cases z)
        · rw [upd_ne hb, upd_ne (ne_of_none e2 hT)]
          exact e2
      · rw [upd_same, take_snoc hsum, List.map_append]
        rfl
    · rintro H5 ⟨s5, h5⟩
      have hn : min (ws.map V.int).length (cutV (ws.map V.int) (some 1) none).length = (sumsOf ws).length := by
        rw [ecut, sums_len, List.length_map, List.length_map, List.length_drop]
      rw [hn, List.take_of_length_le (Nat.le_refl _)] at h5
      have k5 : ∀ b o, Hb b = some o → H5 b = some o := fun b o e => s5 _ _ (same_upd hq _ _ e)
      refine ⟨Dd, _, rfl, .inl ⟨SqL.of h5, fun sp hsp => ?_⟩⟩
      have nspx : sp ≠ x := (ne_of_none (k5 _ _ hxb) hsp).symm
      have k6 : ∀ (o2 : HO) b o, Hb b = some o → b ≠ x → (upd (upd H5 sp (.tup ((sumsOf ws).map V.int))) x o2) b = some o := fun o2 b o e hb => by rw [upd_ne hb, upd_ne (ne_of_none (k5 _ _ e) hsp)]; exact k5 _ _ e
      refine ⟨_, rfl, x, _, dx, _, rfl, (by rw [upd_ne nspx.symm]; exact k5 _ _ hxb), T.cl_Mark, T.na_Mark_sums, (by show 2 < 1000; decide), ?_⟩
      -- self.bars = len(widths) // 2 + 1
      refine ⟨_, rfl, _, _, rfl, .inr ⟨_, SqT.of (k6 _ _ _ hWb nWx), rfl⟩, _, _, rfl, rfl, ⟨by decide, by decide⟩, _, _, rfl, rfl, _, rfl, x, _, dx, _, rfl, upd_same, T.cl_Mark, T.na_Mark_bars, (by show 3 < 1000; decide), ?_⟩
      rw [upd_upd]
      -- self.total = self.edge_row[-1]
      refine ⟨_, rfl, x, _, dx, _, .ref ep, rfl, upd_same, T.cl_Mark, T.na_Mark_edge_row, rfl, 1, rfl, ep, _, -1, .int (0 + (ws.take ws.length).sum), rfl, rfl, SqT.of (k6 _ _ _ heb nex), ?_, _, rfl, x, _, dx, _, rfl, upd_same, T.cl_Mark, T.na_Mark_total, (by show 4 < 1000; decide), ?_⟩
      · refine atI_m (j := ws.length) ?_ (by decide) ?_
        · rw [List.length_map, EM.scan_len]
          omega
        · rw [List.getElem?_map, scan_at ws ws.length (Nat.le_refl _)]
          rfl
      rw [upd_upd]
      -- self.span = self.edge_row[-2]
      refine ⟨_, rfl, x, _, dx, _, .ref ep, rfl, upd_same, T.cl_Mark, T.na_Mark_edge_row, rfl, 2, rfl, ep, _, -2, .int (0 + (ws.take (ws.length - 1)).sum), rfl, rfl, SqT.of (k6 _ _ _ heb nex), ?_, _, rfl, x, _, dx, _, rfl, upd_same, T.cl_Mark, T.na_Mark_span, (by show 5 < 1000; decide), ?_⟩
      · refine atI_m (j := ws.length - 1) ?_ (by decide) ?_
        · rw [List.length_map, EM.scan_len]
          omega
        · rw [List.getElem?_map, scan_at ws (ws.length - 1) (by omega)]
          rfl
      rw [upd_upd]
      refine k _ (fun b o e hb => k6 _ _ _ (kb b o e hb) hb) ⟨hg, dx, W, ep, sp, ?_, k6 _ _ _ hWb nWx, k6 _ _ _ heb nex, by rw [upd_ne nspx]; exact upd_same⟩
      rw [upd_same]
      rw [List.take_of_length_le (Nat.le_refl _), Int.zero_add, Int.zero_add, List.length_map]
      rfl
theorem ok_Mark_init (T : Tx K mg) : FnR P w K mg base (L2.CX P w) 3 (He.ma K (He.ga K "Mark") "__init__") (fun vs H Q E => ∃ ws rest, vs = ws ++ rest ∧ ws.length = ["self"].length ∧ rest.length ≤ sizeLine ∧ ∀ W, H W = none → spInit0 K (ws ++ [V.ref W]) (upd H W (.tup rest)) Q E) := by
  obtain ⟨fd, F⟩ := T.d_Mark_init
  exact EM.fnr_star (ps := ["self"]) (pv := "widths") F sc_Mark_init (fun kV doc pm an cdv ct => StX.bind_star1 (B := fun l => bindArgs _ ⟨l, []⟩) (fun a => by rfl) (fun a r rs => by rfl)) (bod_Mark_init T _)
theorem ok_Mark_of (T : Tx K mg) : FnR P w K mg base (L2.CX P w) 5 (He5.wf K (He.ga K "Mark") "classmethod" "of") (spOf K) := by
  obtain ⟨fd, F⟩ := T.d_Mark_of
  refine EM.fnr F sc_Mark_of (fun _ _ _ _ _ _ us hl => match us, hl with | [_, _], _ => rfl) (fun vs H Q E h => ?_) (fun cdv A outer s H vs Q E hr h => ?_)
  · obtain ⟨c, a, ws, rfl, _⟩ := h
    rfl
  · obtain ⟨c, a, ws, rfl, ha, hg, k⟩ := h
    refine ⟨_, (PSs.nox (pss_cons (ps_if (pt_not (pt_val (pe_callB call_isiT (by rfl) T.f_isinstance (by decide +kernel) (pa_cons (pv 1) (pa_cons (pe_tup (pa_cons (pe_bltn (v := .ty "list") (by rfl) T.f_list boot_list rfl) (pa_cons (pe_bltn (v := .ty "tuple") (by rfl) T.f_tuple boot_tuple rfl) pa_nil))) pa_nil)))))
  (pss_one ps_never) pss_nil)
 (pss_one (ps_ret (EM.pe_mkS1 T.mk_Mark (ok_Mark_init T) (hr.mono (by decide)) T.g_Mark passL (pv 1)))))), ?_⟩
    have fin : ∀ tp, H tp = none → (upd H tp (.tup [V.ty "list", V.ty "tuple"])) a = H a := fun tp htp => by
      rcases ha with ha | ha
      · rw [upd_ne (ne_of_none ha htp)]
      · rw [upd_ne (ne_of_none ha htp)]
    have key : ∃ (t : Value), (∀ tp, H tp = none → TyX K (upd H tp (.tup [V.ty "list", V.ty "tuple"])) (.ref a) t) ∧ PySem.W.kitAny K t [.type "list", .type "tuple"] = some true := by
      rcases ha with ha | ha
      · exact ⟨.type "list", fun tp htp => .base (.lst ((fin tp htp).trans ha)), kitAny_cons (b := true) (kit_ty (by decide +kernel)) (fun z => nomatch z) (fun _ => rfl)⟩
      · exact ⟨.type "tuple", fun tp htp => .base (.tup ((fin tp htp).trans ha)), kitAny_cons (b := false) (kit_ty (by decide +kernel)) (fun _ => kitAny_cons (b := true) (kit_ty (by decide +kernel)) (fun z => nomatch z) (fun _ => rfl)) (fun z => nomatch z)⟩
    obtain ⟨ty, hty, hk⟩ := key
    refine ⟨_, rfl, by decide, fun tp htp => ⟨.ref a, tp, _, ty, [.type "list", .type "tuple"], true, rfl, upd_same, .cons (.ty _) (.cons (.ty _) .nil), hty tp htp, hk, true, rfl, ifN rfl ?_⟩⟩
    refine ⟨_, rfl, a, ws.map V.int, rfl, ?_, mk_Mark (by simp) hg fun p H' s' m => k p H' (fun b o e => s' _ _ (same_upd htp _ _ e)) m⟩
    rcases ha with ha | ha
    · exact .inr (SqL.of ((fin tp htp).trans ha))
    · exact .inl (SqT.of ((fin tp htp).trans ha))
end
end K10
namespace K10
open PySem PySem.Spec PyProof.Rows L2 EM
theorem figs_ok {p : Str} (h : figs p 4 = true) : sg p ≠ [] ∧ p.length ≤ 4 ∧ (sg p).all isDig = true ∧ (p = "0" ∨ (sg p).head? ≠ some 48) := by
  unfold figs at h
  split at h
  · cases h
  split at h
  · cases h
  split at h
  · cases h
  rename_i h1 h2 h3
  refine ⟨fun z => ?_, by omega, h, ?_⟩
  · rw [len_sg, z] at h1
    simp at h1
  · by_cases hp : p = "0"
    · exact .inl hp
    · exact .inr fun z => h3 ⟨hp, z⟩
theorem width_of {p : Str} (h : figs p 4 = true) (h1 : 1 ≤ worthT p) (h2 : worthT p ≤ 1000) : width p = true := by
  obtain ⟨f1, f2, f3, f4⟩ := figs_ok h
  have hd : (sg p).head? ≠ some 48 := by
    rcases f4 with rfl | f4
    · exact absurd h1 (by decide +kernel)
    · exact f4
  unfold width
  rw [if_neg (fun z => f1 ((empty_iff p).mp z)), if_neg hd, if_neg (by omega), if_neg (by rw [f3]; decide)]
  exact decide_eq_true h2
theorem figs_of {p : Str} (h : width p = true) : figs p 4 = true := by
  obtain ⟨w1, w2, w3, w4, w5, w6⟩ := width_ok h
  have hl : 1 ≤ p.length := by
    rw [len_sg]
    cases e : sg p with
    | nil => exact absurd e w1
    | cons c r => simp
  unfold figs
  rw [if_neg (by omega), if_neg (by omega), if_neg (fun z => w2 z.2)]
  exact w4
def xdT (k : Int) : HO := .xd [("word", .int k), ("line", .int 0)]
def spRead (K : PySem.W.Frag) : Sp := fun vs H Q E => ∃ x : V, vs = [.ref (He.ga K "Mark"), x] ∧
  ((∃ a, x = .str a ∧ a.length ≤ 10000 ∧ ((∃ k, dueOf a = .inl k ∧ ∀ d H', Same H H' → H d = none → H' d = some (xdT k) → E (.ref (He.ga K "BadText")) (some d) H') ∨ ∃ ws, dueOf a = .inr ws ∧ ∀ p H', Same H H' → MarkAt K H' p ws → Q (.ref p) H')) ∨
   ∃ t, TyX K H x t ∧ PySem.W.kitOne K t (.type "str") = some false ∧ ∀ d H', Same H H' → H d = none → H' d = some (xdT 0) → E (.ref (He.ga K "BadText")) (some d) H')
theorem due_good {a : Str} {ws : List Int} (h : dueOf a = .inr ws) : good ws ∧ ws = (ptsOf a).map worthT ∧ ∀ p ∈ ptsOf a, width p = true := by
  unfold dueOf at h
  cases e : firstBad 0 (ptsOf a) with
  | some k => rw [e] at h; cases h
  | none =>
    rw [e] at h
    have h' : (if (ptsOf a).length < 3 ∨ (ptsOf a).length % 2 = 0 then Sum.inl (ptsOf a).length else Sum.inr ((ptsOf a).map worthT)) = Sum.inr ws := h
    split at h'
    · cases h'
    · rename_i hc
      have e2 := Sum.inr.inj h'
      have ln := first_len e (by omega)
      have hw := first_none e
      refine ⟨?_, e2.symm, hw⟩
      rw [← e2]
      refine ⟨by rw [List.length_map]; omega, by rw [List.length_map]; omega, by rw [List.length_map]; omega, fun x hx => ?_⟩
      obtain ⟨p, hp, rfl⟩ := List.mem_map.mp hx
      obtain ⟨w1, w2, w3, w4, w5, w6⟩ := width_ok (hw p hp)
      exact ⟨w5, w6⟩
section
variable {P : Program} {w : World} {K : PySem.W.Frag} {mg : Str → Option Value} {base : Heap}
theorem ok_Mark_read (T : Tx K mg) : FnR P w K mg base (L2.CX P w) 6 (He5.wf K (He.ga K "Mark") "classmethod" "read") (spRead K) := by
  obtain ⟨fd, F⟩ := T.d_Mark_read
  refine EM.fnr F sc_Mark_read (fun _ _ _ _ _ _ us hl => match us, hl with | [_, _], _ => rfl) (fun vs H Q E h => ?_) (fun cdv A outer s H vs Q E hr h => ?_)
  · obtain ⟨x, rfl, _⟩ := h
    rfl
  · obtain ⟨x, rfl, h⟩ := h
    obtain ⟨fdB, okB, bB⟩ := mk_BadText (P := P) (w := w) (base := base) T
    have tk := takes_of (X := cxOf (L2.CX P w) P w K mg base ["cls", "text", "parts", "at", "part"] "Mark.read" (defScope s_Mark_read) (He5.wf K (He.ga K "Mark") "classmethod" "read") cdv A outer s H E) (E := E) rfl rfl rfl rfl
    refine ⟨_, (pss_cons (ps_if (pt_not (pt_val (pe_callB call_isi (by rfl) T.f_isinstance (by decide +kernel) (pa_cons (pv 1) (pa_cons (pe_bltn (v := .ty "str") (by rfl) T.f_str boot_str rfl) pa_nil)))))
  (pss_one (EM.ps_rz2 rfl T.ox_BadText T.oi_BadText okB (hr.mono (by decide)) bB passL T.g_BadText tk (pa_cons pe_int (pa_cons pe_int pa_nil)))) pss_nil)
 (pss_cons (ps_set (i := 2) sc_Mark_read.nd rfl (Or.inl rfl) (pe_m1 PySem.F.slot_str_split PySem.F.type_str_split mt_split (pv 1) pe_str))
 (pss_cons (ps_for (passes_of rfl) rfl ((pi_enum (by rfl) T.f_enumerate (pa_cons (pv 2) pa_nil))) (pg_tup (by rfl) (pgs_cons (pg_name (i := 3) sc_Mark_read.nd rfl (Or.inl rfl)) (pgs_cons (pg_name (i := 4) sc_Mark_read.nd rfl (Or.inl rfl)) pgs_nil)))
  (pss_one (ps_if (PW.pt (pw_or (pt_cmpR op_eq (pv 3) (EM.pe_gI T.g_MOST_WIDTHS) (nomark _)) (pw_or (pt_not (pt_val (EM.pe_cR (ok_is_figures T) (hr.mono (by decide)) T.k_is_figures T.g_is_figures passL (pa_cons (pv 4) (pa_cons (EM.pe_gI T.g_WIDTH_DIGITS) pa_nil))))) (pw_or1 (pt_not (pt_chain op_le op_le pe_int (pe_callTy call_int_str (by rfl) T.f_int (by decide +kernel) (pa_cons (pv 4) pa_nil)) (EM.pe_gI T.g_MOST_WIDTH)))))))
  (pss_one (EM.ps_rz2 rfl T.ox_BadText T.oi_BadText okB (hr.mono (by decide)) bB passL T.g_BadText tk (pa_cons pe_int (pa_cons (pv 3) pa_nil)))) pss_nil)))
 (pss_cons (ps_if (PW.pt (pw_or (pt_cmpR op_eq (pe_op op_mod (pe_callB call_len (by rfl) T.f_len boot_len (pa_cons (pv 2) pa_nil)) pe_int) pe_int (nomark _)) (pw_or1 (pt_cmpR op_lt (pe_callB call_len (by rfl) T.f_len boot_len (pa_cons (pv 2) pa_nil)) pe_int (nomark _)))))
  (pss_one (EM.ps_rz2 rfl T.ox_BadText T.oi_BadText okB (hr.mono (by decide)) bB passL T.g_BadText tk (pa_cons pe_int (pa_cons (pe_callB call_len (by rfl) T.f_len boot_len (pa_cons (pv 2) pa_nil)) pa_nil)) (mono := ma_cons m_c (ma_cons (m_cb ma_1v (fun _ _ _ _ k ⟨x, n, h1, h2, q⟩ => ⟨x, n, h1, h2, k _ _ q⟩)) ma_nil)))) pss_nil)
 (pss_one (ps_ret (ClX.pe_cmeth (pv 0) T.cr_Mark T.cm_Mark_of (ok_Mark_of T) (hr.mono (by decide)) passL (pa_cons (pe_lc (own := [("part", 4)]) (g := gName 4) rfl sc_Mark_read.nd (pi_list (pv 2)) (blkOk_by (N := ["cls", "text", "parts", "at", "part"]) (sc := defScope s_Mark_read) (by decide +kernel)) (fun _ _ _ _ _ => (pg_name (i := 4) sc_Mark_read.nd rfl (Or.inl rfl))) (fun _ _ _ _ _ => pts_nil) (fun _ _ _ _ _ => (pe_callTy call_int_str (by rfl) T.f_int (by decide +kernel) (pa_cons (pv 4) pa_nil)))) pa_nil)))))))), ?_⟩
    rcases h with ⟨a, rfl, hl, h⟩ | ⟨t, ty, hk, h⟩
    · refine ⟨_, rfl, .str a, .ty "str", .type "str", .type "str", true, rfl, .ty "str", .base (.str a), kit_ty (by decide +kernel), true, rfl, ifN rfl ?_⟩
      have hz : a.length + 2 ≤ sizeLine := Nat.le_trans (Nat.add_le_add_right hl 2) (by decide)
      refine ⟨_, rfl, ⟨_, rfl⟩, _, _, rfl, rfl, by decide +kernel, hz, fun q hq => ?_⟩
      have s0 : Same H (upd H q (.lst ((ptsOf a).map V.str))) := same_upd hq
      have hlen : (ptsOf a).length ≤ 10002 := Nat.le_trans (split_le a "-") (by omega)
      refine ⟨_, rfl, q, _, rfl, SqL.of upd_same, for_it (walk_enum (xs := (ptsOf a).map V.str)) (fun i σ H2 => ∃ v2 v3 : Option V, σ = [some (.ref (He.ga K "Mark")), some (.str a), some (.ref q), v2, v3] ∧ Same H H2 ∧ H2 q = some (.lst ((ptsOf a).map V.str)) ∧ firstBad 0 (ptsOf a) = firstBad i ((ptsOf a).drop i))
        ⟨none, none, rfl, s0, upd_same, by rw [List.drop_zero]⟩ (fun i σ H2 _ ⟨_, _, _, _, h2, _⟩ => SqL.of h2) ?_ ?_⟩
      · rintro i y σ H2 H3 hi ⟨v2, v3, rfl, s2, h2, hf⟩ ⟨Tt, x1, x2, rfl, hT, rfl, ea, eb⟩
        cases ea
        obtain ⟨p, hp, rfl⟩ := str_at eb
        have hpl : p.length ≤ a.length := part_short (List.mem_of_getElem? hp)
        have hf2 := hf.trans (first_at hp)
        have out : bad i p → ∀ d H1 H', Same H H1 → Same H1 H' → H1 d = none → H' d = some (xdT i) → E (.ref (He.ga K "BadText")) (some d) H' := fun hb d H1 H' s1 s' hd hx => by
          have e : dueOf a = .inl i := by
            unfold dueOf
            rw [hf2, if_pos hb]
          rcases h with ⟨k, hk, h⟩ | ⟨ws, hk, _⟩
          · rw [e] at hk
            cases hk
            exact h d H' (s1.trans s') (s1.free hd) hx
          · rw [e] at hk
            cases hk
        refine ⟨Tt, _, rfl, SqT.of upd_same, rfl, _, _, rfl, _, _, rfl, rfl, ?_⟩
        have s3 := same_upd' (o := .tup [V.int i, V.str p]) s2 (s2.free hT)
        have h3 : (upd H2 Tt (.tup [V.int i, V.str p])) q = some (.lst ((ptsOf a).map V.str)) := by rw [upd_ne (ne_of_none h2 hT)]; exact h2
        refine ⟨_, rfl, rfl, _, rfl, ?_⟩
        rw [dVi]
        refine ite2 (fun c1 => ?_) (fun c1 => ?_)
        · have c1' : (i : Int) = 127 := of_decide_eq_true c1
          exact ⟨_, rfl, rfl, fun d H' s' hd hx => out (.inl (by omega)) d _ H' s3 s' hd hx⟩
        · have c1' : ¬ (i : Int) = 127 := by simpa using c1
          refine ⟨_, rfl, p, 4, rfl, by omega, fun H4 s4 => ⟨_, rfl, ite2 (fun c2 => ?_) (fun c2 => ?_)⟩⟩
          · refine ⟨_, rfl, rfl, fun d H' s' hd hx => out (.inr ?_) d _ H' (s3.trans s4) s' hd hx⟩
            cases hw : width p
            · rfl
            · rw [figs_of hw] at c2
              cases c2
          · have c2' : figs p 4 = true := by simpa using c2
            obtain ⟨f1, f2, f3, f4⟩ := figs_ok c2'
            refine ⟨_, rfl, p, _, rfl, int_of_figs f3 f1 (by omega), by omega, _, _, rfl, rfl, _, rfl, ite2 (fun c3 => ?_) (fun c3 => ?_)⟩
            · refine ⟨_, _, rfl, rfl, _, rfl, ite2 (fun c4 => ?_) (fun c4 => ?_)⟩
              · refine ⟨_, rfl, rfl, fun d H' s' hd hx => out (.inr ?_) d _ H' (s3.trans s4) s' hd hx⟩
                cases hw : width p
                · rfl
                · have := (width_ok hw).2.2.2.2.2
                  simp at c4
                  omega
              · refine ⟨_, _, rfl, s3.trans s4, s4 _ _ h3, ?_⟩
                have hw := width_of c2' (of_decide_eq_true c3) (by simpa using c4)
                rw [hf2, if_neg]
                rintro (z | z)
                · omega
                · rw [hw] at z
                  cases z
            · refine ⟨_, rfl, iteT ⟨_, rfl, rfl, fun d H' s' hd hx => out (.inr ?_) d _ H' (s3.trans s4) s' hd hx⟩⟩
              cases hw : width p
              · rfl
              · have := (width_ok hw).2.2.2.2.1
                simp at c3
                omega
      · rintro σ H2 ⟨v2, v3, rfl, s2, h2, hf⟩
        have hnone : firstBad 0 (ptsOf a) = none := by
          rw [hf, List.length_map, List.drop_length]
          rfl
        have hw := first_none hnone
        have ln := first_len hnone (by omega)
        have out : ((ptsOf a).length < 3 ∨ (ptsOf a).length % 2 = 0) → ∀ d H', Same H2 H' → H2 d = none → H' d = some (xdT ((ptsOf a).map V.str).length) → E (.ref (He.ga K "BadText")) (some d) H' := fun hb d H' s' hd hx => by
          have e : dueOf a = .inl (ptsOf a).length := by
            unfold dueOf
            rw [hnone]
            exact if_pos hb
          rcases h with ⟨k, hk, h⟩ | ⟨ws, hk, _⟩
          · rw [e] at hk
            cases hk
            rw [List.length_map] at hx
            exact h d H' (s2.trans s') (s2.free hd) hx
          · rw [e] at hk
            cases hk
        refine ⟨_, rfl, _, _, rfl, .inl ⟨_, SqL.of h2, rfl⟩, _, _, rfl, rfl, (by show (0 : Int) < 2; decide), rfl, _, rfl, ?_⟩
        rw [dVi]
        refine ite2 (fun c1 => ?_) (fun c1 => ?_)
        · simp only [List.length_map, decide_eq_true_eq] at c1
          exact ⟨_, rfl, _, _, rfl, .inl ⟨_, SqL.of h2, rfl⟩, rfl, fun d H' s' hd hx => out (.inr (by omega)) d H' s' hd hx⟩
        · refine ⟨_, rfl, _, _, rfl, .inl ⟨_, SqL.of h2, rfl⟩, _, _, rfl, rfl, _, rfl, ite2 (fun c2 => ?_) (fun c2 => ?_)⟩
          · simp only [List.length_map, decide_eq_true_eq] at c2
            exact ⟨_, rfl, _, _, rfl, .inl ⟨_, SqL.of h2, rfl⟩, rfl, fun d H' s' hd hx => out (.inl (by omega)) d H' s' hd hx⟩
          · simp only [List.length_map, decide_eq_true_eq] at c1 c2
            have e : dueOf a = .inr ((ptsOf a).map worthT) := by
              unfold dueOf
              rw [hnone]
              exact if_neg (by omega)
            rcases h with ⟨k, hk, h⟩ | ⟨ws, hk, h⟩
            · rw [e] at hk
              cases hk
            · have hg := (due_good hk).1
              rw [e] at hk
              cases hk
              refine ⟨_, rfl, rfl, _, rfl, q, rfl, ⟨_, SqL.of h2⟩, fun D hD => lc_it (walk_list (K := K) (a := q) (xs := (ptsOf a).map V.str)) (fun i H5 => Same H2 H5 ∧ H5 D = some (.lst ((((ptsOf a).take i).map worthT).map V.int))) ⟨same_upd hD, upd_same⟩ (fun _ _ _ ⟨s5, _⟩ => SqL.of (s5 _ _ h2)) ?_ ?_⟩
              · rintro i y H5 H6 hi ⟨s5, h5⟩ ⟨rfl, hy⟩
                obtain ⟨p, hp, rfl⟩ := str_at hy
                obtain ⟨w1, w2, w3, w4, w5, w6⟩ := width_ok (hw p (List.mem_of_getElem? hp))
                refine ⟨rfl, yes ⟨_, rfl, p, _, rfl, int_of_figs w4 w1 (by omega), by omega, _, h5, ?_, same_upd' s5 hD, ?_⟩⟩
                · rw [List.length_map, List.length_map, List.length_take]
                  exact szl (by omega)
                · rw [upd_same, take_snoc hp, List.map_append, List.map_append]
                  rfl
              · rintro H5 ⟨s5, h5⟩
                rw [List.take_of_length_le (by rw [List.length_map]; exact Nat.le_refl _)] at h5
                exact ⟨_, D, _, rfl, .inl h5, hg, fun p H' s' m => h p H' ((s2.trans s5).trans s') m⟩
    · refine ⟨_, rfl, x, .ty "str", t, .type "str", false, rfl, .ty "str", ty, hk, false, rfl, ifP rfl ?_⟩
      exact ⟨rfl, fun d H' s' hd hx => h d H' s' hd hx⟩
end
end K10
namespace K10
open PySem PySem.Spec PyProof.Rows L2 EM
theorem _root_.EM.mk2 {X : Cx} {b : List Stmt} {t : TS} {D : Ends} {σ : L2.St} {H : Hp} (d : PSs X b t) (h : t D σ H) : ∃ t, PSs X b t ∧ t D σ H := ⟨t, d, h⟩
def spHeard (K : PySem.W.Frag) : Sp := fun vs H Q _ => ∃ x : V, vs = [x] ∧
  ((∃ a, x = .str a ∧ a.length ≤ 10000 ∧ ∀ p H', Same H H' → H p = none → H' p = some (dueV (dueOf a)) → Q (.ref p) H') ∨
   ∃ t, TyX K H x t ∧ PySem.W.kitOne K t (.type "str") = some false ∧ ∀ p H', Same H H' → H p = none → H' p = some (.tup [.int 0, .int 0]) → Q (.ref p) H')
section
variable {P : Program} {w : World} {K : PySem.W.Frag} {mg : Str → Option Value} {base : Heap}
theorem ok_Lheard (T : Tx K mg) : FnR P w K mg base (L2.CX P w) 7 (He.ga K "_law_heard") (spHeard K) := by
  obtain ⟨fd, F⟩ := T.d_Lheard
  refine EM.fnr F sc_Lheard (fun _ _ _ _ _ _ us hl => match us, hl with | [_], _ => rfl) (fun vs H Q E h => ?_) (fun cdv A outer s H vs Q E hr h => ?_)
  · obtain ⟨x, rfl, _⟩ := h
    rfl
  · obtain ⟨x, rfl, h⟩ := h
    apply EM.mk2
    · apply pss_one
      apply EM.ps_try (X := cxOf (L2.CX P w) P w K mg base ["_law_text", "error"] "_law_heard" (defScope s_Lheard) (He.ga K "_law_heard") cdv A outer s H E) (tb := fun W => tRet (tCB (fun xs H Q => ∃ p ys, xs = [.ref p] ∧ (SqL K H p ys ∨ SqT K H p ys) ∧ ∀ l, H l = none → Q (.ref l) (upd H l (.lst ys))) (tCons (tFld K (ClX.tCMeth (He.ga K "Mark") (spRead K) (fun cls d H => ∀ σ : L2.St, σ.length = 2 → W cls d σ H) (tC (.ref (He.ga K "Mark"))) (tCons (tVar 0) tNil)) "widths") tNil)))
        (l := [(.ref (He.ga K "BadText"), some 1, fun a cls d => tRet (tTup (tCons (tXf a cls d (He.ga K "BadText") "line" (tVar 1)) (tCons (tXf a cls d (He.ga K "BadText") "word" (tVar 1)) tNil)))), (.ref (He.ga K "EdgeError"), none, fun a cls d => tRet (tTup (tCons (tC (.str "other")) tNil)))]) rfl rfl sc_Lheard.nd takes0
      · intro W pn xe tkW pw
        exact (pss_one (ps_ret (pe_callTy call_list_of (by rfl) T.f_list (by decide +kernel) (pa_cons (pe_fld (ClX.pe_cmeth (pe_glob (v := .ref (He.ga K "Mark")) (by rfl) T.g_Mark rfl) T.cr_Mark T.cm_Mark_read (ok_Mark_read T) (hr.mono (by decide)) (passes_len tkW) (pa_cons (pv 0) pa_nil)) rfl) pa_nil))))
      · exact (.named (c := .ref (He.ga K "BadText")) (i := 1) ⟨by rfl, by decide, .inl T.g_BadText⟩ rfl rfl (fun a oe cls d pn hz hf => (pss_one (ps_ret (pe_tup (pa_cons (pe_xf T.xf_BadText T.na_BadText_line hz hf (pv 1)) (pa_cons (pe_xf T.xf_BadText T.na_BadText_word hz hf (pv 1)) pa_nil))))))
          (.cons (c := .ref (He.ga K "EdgeError")) ⟨by rfl, by decide, .inl T.g_EdgeError⟩ (fun a oe cls d pn hz hf => (pss_one (ps_ret (pe_tup (pa_cons pe_str pa_nil))))) .nil))
    · have fin : ∀ (k : Nat), (∀ p H', Same H H' → H p = none → H' p = some (.tup [.int 0, .int k]) → Q (.ref p) H') → ∀ d H', Same H H' → H d = none → H' d = some (xdT k) → ∀ σ : L2.St, σ.length = 2 → wHds K (fun _ _ _ _ => False) { nx := fun _ H' => Q .non H', rt := Q } [(.ref (He.ga K "BadText"), some 1, fun a cls d => tRet (tTup (tCons (tXf a cls d (He.ga K "BadText") "line" (tVar 1)) (tCons (tXf a cls d (He.ga K "BadText") "word" (tVar 1)) tNil)))), (.ref (He.ga K "EdgeError"), none, fun a cls d => tRet (tTup (tCons (tC (.str "other")) tNil)))] (.ref (He.ga K "BadText")) (some d) σ H' := by
        intro k hk d H' s' hd hx σ hσ
        match σ, hσ with
        | [v0, v1], _ =>
          refine ⟨true, T.xm_BadText_BadText, fun _ a2 ha2 => ?_, fun z => nomatch z⟩
          refine ⟨_, rfl, rfl, rfl, d, _, .int 0, rfl, hx, rfl, _, rfl, rfl, rfl, d, _, .int k, rfl, hx, rfl, (by show 2 ≤ sizeLine; decide), fun r hr2 => ?_⟩
          exact hk r _ (same_upd' s' (s'.free hr2)) (s'.free hr2) upd_same
      refine ⟨rfl, _, rfl, x, rfl, ?_⟩
      rcases h with ⟨a, rfl, hl, h⟩ | ⟨t, ty, hk, h⟩
      · refine .inl ⟨a, rfl, hl, ?_⟩
        cases e : dueOf a with
        | inl k =>
          rw [e] at h
          exact .inl ⟨k, rfl, fin k h⟩
        | inr ws =>
          rw [e] at h
          refine .inr ⟨ws, rfl, fun p H' s' m => ?_⟩
          obtain ⟨hg, dx, wp, ep, sp, h1, h2, h3, h4⟩ := id m
          refine ⟨p, _, dx, _, .ref wp, rfl, h1, T.cl_Mark, T.na_Mark_widths, rfl, wp, _, rfl, .inr (SqT.of h2), fun l hl2 => ?_⟩
          exact h l _ (same_upd' s' (s'.free hl2)) (s'.free hl2) upd_same
      · exact .inr ⟨t, ty, hk, fin 0 h⟩
end
end K10
namespace K10
open PySem PySem.Spec PyProof.Rows L2 EM
/-- the text of a row of widths -/
def textOf (ws : List Int) : Str := Txt.join "-" (ws.map fun i => Str.ofString (toString i))
theorem num_all : ((List.range 1001).all fun n => decide ((Str.ofString (toString (n : Int))).length ≤ 4)) = true := by decide +kernel
theorem num_len {i : Int} (h0 : 0 ≤ i) (h1 : i ≤ 1000) : (Str.ofString (toString i)).length ≤ 4 := by
  have h := List.all_eq_true.mp num_all i.toNat (List.mem_range.mpr (by omega))
  have e : ((i.toNat : Nat) : Int) = i := by omega
  rw [e] at h
  exact of_decide_eq_true h
theorem num_log {i : Int} (h0 : 0 ≤ i) (h1 : i ≤ 1000) : i.natAbs.log2 < 1920 := by
  have : i.natAbs.log2 ≤ i.natAbs := Nat.log2_le_self _
  omega
theorem sum4 (ws : List Int) (h : ∀ x ∈ ws, 1 ≤ x ∧ x ≤ 1000) : ((ws.map fun i => Str.ofString (toString i)).map (·.length)).sum ≤ 4 * ws.length := by
  induction ws with
  | nil => simp
  | cons x r ih =>
    have h1 := h x List.mem_cons_self
    have h2 := num_len (i := x) (by omega) h1.2
    have h3 := ih fun y hy => h y (List.mem_cons_of_mem _ hy)
    simp only [List.map_cons, List.sum_cons, List.length_cons] at h3 ⊢
    omega
def spStr (K : PySem.W.Frag) : Sp := fun vs H Q _ => ∃ (p : Addr) (ws : List Int), vs = [.ref p] ∧ MarkAt K H p ws ∧ ∀ H', Same H H' → Q (.str (textOf ws)) H'
section
variable {P : Program} {w : World} {K : PySem.W.Frag} {mg : Str → Option Value} {base : Heap}
theorem ok_Mark_str (T : Tx K mg) : FnR P w K mg base (L2.CX P w) 1 (He.ma K (He.ga K "Mark") "__str__") (spStr K) := by
  obtain ⟨fd, F⟩ := T.d_Mark_str
  refine EM.fnr F sc_Mark_str (fun _ _ _ _ _ _ us hl => match us, hl with | [_], _ => rfl) (fun vs H Q E h => ?_) (fun cdv A outer s H vs Q E hr h => ?_)
  · obtain ⟨p, ws, rfl, _⟩ := h
    rfl
  · obtain ⟨p, ws, rfl, m, k⟩ := h
    obtain ⟨hg, dx, wp, ep, sp, h1, h2, h3, h4⟩ := id m
    refine ⟨_, (PSs.nox (pss_one (ps_ret (pe_m1 PySem.F.slot_str_join PySem.F.type_str_join mt_join pe_str (pe_lc (own := [("width", 1)]) (g := gName 1) rfl sc_Mark_str.nd (pi_tup (pe_fld (pv 0) rfl)) (blkOk_by (N := ["self", "width"]) (sc := defScope s_Mark_str) (by decide +kernel)) (fun _ _ _ _ _ => (pg_name (i := 1) sc_Mark_str.nd rfl (Or.inl rfl))) (fun _ _ _ _ _ => pts_nil) (fun _ _ _ _ _ => (pe_callTy call_str_int (by rfl) T.f_str (by decide +kernel) (pa_cons (pv 1) pa_nil)))))))), ?_⟩
    refine ⟨⟨_, rfl⟩, _, rfl, p, _, dx, _, .ref wp, rfl, h1, T.cl_Mark, T.na_Mark_widths, rfl, wp, rfl, ⟨_, SqT.of h2⟩, fun D hD => lc_it (walk_tup (K := K) (a := wp) (xs := ws.map V.int)) (fun i H5 => Same H H5 ∧ H5 D = some (.lst (((ws.take i).map fun i => Str.ofString (toString i)).map V.str))) ⟨same_upd hD, upd_same⟩ (fun _ _ _ ⟨s5, _⟩ => SqT.of (s5 _ _ h2)) ?_ ?_⟩
    · rintro i y H5 H6 hi ⟨s5, h5⟩ ⟨rfl, hy⟩
      obtain ⟨z, hz, rfl⟩ := map_at hy
      have hb := hg.2.2.2 z (List.mem_of_getElem? hz)
      refine ⟨rfl, yes ⟨_, rfl, z, rfl, num_log (by omega) hb.2, _, h5, ?_, same_upd' s5 hD, ?_⟩⟩
      · rw [List.length_map, List.length_map, List.length_take]
        exact szl (by have := hg.2.2.1; omega)
      · rw [upd_same, take_snoc hz, List.map_append, List.map_append]
        rfl
    · rintro H5 ⟨s5, h5⟩
      rw [List.take_of_length_le (by rw [List.length_map]; exact Nat.le_refl _)] at h5
      refine ⟨_, D, _, rfl, rfl, .inl (SqL.of h5), ?_, k H5 s5⟩
      have h6 := sum4 ws hg.2.2.2
      have h7 := hg.2.2.1
      have h8 : ("-" : Str).length = 1 := by decide +kernel
      rw [h8, List.length_map]
      omega
end
end K10
namespace K10
open PySem PySem.Spec PyProof.Rows L2 EM
def dueD : Nat ⊕ List Int → PyData
  | .inl k => dT [0, (k : Int)]
  | .inr ws => dL ws
theorem dp_due {K : PySem.W.Frag} {H : Hp} {p : Addr} {r : Nat ⊕ List Int} (h : H p = some (dueV r)) : Dp K H (.ref p) (dueD r) := by
  cases r with
  | inl k => exact .tup (SqT.of h) (dp_ints [0, (k : Int)])
  | inr ws => exact .lst (SqL.of h) (dp_ints ws)
theorem first_le : ∀ {ps : List Str} {i k : Nat}, firstBad i ps = some k → k < i + ps.length
  | [], _, _, e => by cases e
  | q :: r, i, k, e => by
    unfold firstBad at e
    split at e
    · cases e
      simp
    · have := first_le e
      simp only [List.length_cons]
      omega
theorem due_rok {a : Str} (hl : a.length ≤ 10000) : ROk (dueD (dueOf a)) := by
  have hlen : (ptsOf a).length ≤ 10002 := Nat.le_trans (split_le a "-") (by omega)
  cases e : dueOf a with
  | inl k =>
    have hk : k ≤ 10002 := by
      unfold dueOf at e
      cases e2 : firstBad 0 (ptsOf a) with
      | some j =>
        rw [e2] at e
        cases e
        have := first_le e2
        omega
      | none =>
        rw [e2] at e
        have e' : (if (ptsOf a).length < 3 ∨ (ptsOf a).length % 2 = 0 then Sum.inl (ptsOf a).length else Sum.inr ((ptsOf a).map worthT)) = Sum.inl k := e
        split at e'
        · cases e'
          exact hlen
        · cases e'
    refine rokT [0, (k : Int)] (fun x hx => ?_) (by show 2 ≤ 5000; decide)
    have : x.natAbs ≤ 10002 := by
      simp only [List.mem_cons, List.not_mem_nil, or_false] at hx
      omega
    by_cases h0 : x.natAbs = 0
    · rw [h0]
      decide
    · exact (Nat.log2_lt h0).mpr (Nat.lt_of_le_of_lt this (Nat.lt_of_lt_of_le (by decide : 10002 < 2 ^ 20) (Nat.pow_le_pow_right (by decide) (by decide))))
  | inr ws =>
    obtain ⟨hg, _, _⟩ := due_good e
    exact rokL ws (fun x hx => num_log (by have := hg.2.2.2 x hx; omega) (hg.2.2.2 x hx).2) (by have := hg.2.2.1; omega)
def spRight : Sp := fun vs H Q _ => ∃ (a : Str), vs = [.str a] ∧ a.length ≤ 10000 ∧ ∀ H', Same H H' → Q (.bl true) H'
section
variable {P : Program} {w : World} {K : PySem.W.Frag} {mg : Str → Option Value} {base : Heap}
theorem ok_Lread_right (T : Tx K mg) : FnG P w K mg base (L2.CX P w) 9 (He.ga K "_law_read_right") (spRight) := by
  obtain ⟨fd, F⟩ := T.d_Lread_right
  refine EM.fng F sc_Lread_right (fun _ _ _ _ _ _ us hl => match us, hl with | [_], _ => rfl) (fun vs H Q E h => ?_) (fun cdv A outer s H vs Q E hr hG h => ?_)
  · obtain ⟨a, rfl, _⟩ := h
    rfl
  · obtain ⟨a, rfl, hl, k⟩ := h
    have hu70 : (A.deeper (envOfC "_law_read_right" (defScope s_Lread_right) s.heap.objs.size (He.ga K "_law_read_right") cdv)).units + 70 < cLine := by have := hr.un; omega
    refine ⟨_, (PSs.nox (pss_cons (ps_set (i := 1) sc_Lread_right.nd rfl (Or.inl rfl) (EM.pe_cR (ok_Ldue T) (hr.mono (by decide)) T.k__law_due T.g__law_due passL (pa_cons (pv 0) pa_nil)))
 (pss_cons (ps_if (pt_cmpR op_ne (pe_callB (EM.call_reprD hG hu70) (by rfl) T.f_repr (by decide +kernel) (pa_cons (EM.pe_cR (ok_Lheard T) (hr.mono (by decide)) T.k__law_heard T.g__law_heard passL (pa_cons (pv 0) pa_nil)) pa_nil)) (pe_callB (EM.call_reprD hG hu70) (by rfl) T.f_repr (by decide +kernel) (pa_cons (pv 1) pa_nil)) (nomark _))
  (pss_one (ps_ret pe_bl)) pss_nil)
 (pss_one (ps_ret (pe_or (pe_callB call_isi (by rfl) T.f_isinstance (by decide +kernel) (pa_cons (pv 1) (pa_cons (pe_bltn (v := .ty "tuple") (by rfl) T.f_tuple boot_tuple rfl) pa_nil))) (pe_one (pe_cmpR op_eq (pe_callTy (EM.call_strO T.m_Mark_str.at_ T.m_Mark_str.fn (ok_Mark_str T) (hr.mono (by decide)) passL) (by rfl) T.f_str (by decide +kernel) (pa_cons (ClX.pe_cmeth (pe_glob (v := .ref (He.ga K "Mark")) (by rfl) T.g_Mark rfl) T.cr_Mark T.cm_Mark_read (ok_Mark_read T) (hr.mono (by decide)) passL (pa_cons (pv 0) pa_nil)) pa_nil)) (pv 0) (nomark _))))))))), ?_⟩
    have rk := due_rok hl
    refine ⟨_, rfl, a, rfl, hl, fun p H1 s1 np h1 => ?_⟩
    refine ⟨_, rfl, _, rfl, .inl ⟨a, rfl, hl, fun p2 H2 s2 np2 h2 => ?_⟩⟩
    refine ⟨_, dueD (dueOf a), rfl, dp_due h2, rk.sh, rk.ln, rk.dp, _, rfl, _, dueD (dueOf a), rfl, dp_due (s2 _ _ h1), rk.sh, rk.ln, rk.dp, rfl, _, rfl, ifN (by simp) ?_⟩
    have s12 := s1.trans s2
    have hp2 := s2 _ _ h1
    cases e : dueOf a with
    | inl k0 =>
      rw [e] at hp2
      refine ⟨_, rfl, .ref p, .ty "tuple", .type "tuple", .type "tuple", true, rfl, .ty "tuple", .base (.tup hp2), kit_ty (by decide +kernel), true, rfl, iteT ?_⟩
      exact k H2 s12
    | inr ws =>
      rw [e] at hp2
      obtain ⟨hg, ews, hw⟩ := due_good e
      refine ⟨_, rfl, .ref p, .ty "tuple", .type "list", .type "tuple", false, rfl, .ty "tuple", .base (.lst hp2), kit_ty (by decide +kernel), false, rfl, iteF ?_⟩
      refine ⟨rfl, _, rfl, _, rfl, .inl ⟨a, rfl, hl, .inr ⟨ws, e, fun m H3 s3 mm => ?_⟩⟩⟩
      obtain ⟨_, dx, wp, ep, sp, g1, g2, g3, g4⟩ := id mm
      refine ⟨m, dx, _, rfl, g1, m, ws, rfl, mm, fun H4 s4 => ⟨_, rfl, _, rfl, rfl, ?_⟩⟩
      have et : textOf ws = a := by
        unfold textOf
        rw [ews, List.map_map]
        have : (ptsOf a).map ((fun i => Str.ofString (toString i)) ∘ worthT) = ptsOf a := by
          refine (List.map_congr_left (g := id) fun x hx => ?_).trans (List.map_id _)
          obtain ⟨w1, w2, w3, w4, w5, w6⟩ := width_ok (hw x hx)
          exact worth_text w1 w2 w4
        rw [this]
        exact (StrLaws.glued_eq_join _ _).trans (StrLaws.join_split a "-")
      rw [et, decide_eq_true rfl]
      exact k H4 ((s12.trans s3).trans s4)
end
end K10
namespace K10
open PySem PySem.Spec PyProof.Rows L2 EM
def spWidths : Sp := fun vs H Q _ => ∃ (p l : Addr) (n : Nat) (most : Int), vs = [.ref p, .int most] ∧ Pen H p l n ∧ n ≤ 900000 ∧ 2 ≤ most ∧ most ≤ 10 ∧
  ∀ D ws H', good ws → ws.length ≤ 21 → Keep p H H' → H D = none → D ≠ p → H' D = some (.lst (ws.map V.int)) → Pen H' p l (n + 30) → Q (.ref D) H'
theorem memI {l : List Int} {v : V} {P : Int → Prop} (h : v ∈ l.map V.int) (hp : ∀ x ∈ l, P x) : ∃ i, v = .int i ∧ P i := by
  obtain ⟨i, hi, rfl⟩ := List.mem_map.mp h
  exact ⟨i, rfl, hp i hi⟩
theorem set_map (l : List Int) (j : Nat) (x : Int) : (l.map V.int).set j (.int x) = (l.set j x).map V.int := (List.map_set ..).symm
theorem ix_of {n j : Nat} {i : Int} (e : i = (j : Int)) (h : j < n) : ixN n i = some j := by
  subst e
  unfold ixN
  rw [if_pos (by omega), if_pos (by omega)]
  simp
theorem good_set {ws : List Int} {j : Nat} {x : Int} (h : good ws) (hx : 1 ≤ x ∧ x ≤ 1000) : good (ws.set j x) := by
  obtain ⟨h1, h2, h3, h4⟩ := h
  refine ⟨by rw [List.length_set]; exact h1, by rw [List.length_set]; exact h2, by rw [List.length_set]; exact h3, fun y hy => ?_⟩
  rcases List.mem_or_eq_of_mem_set hy with hy | rfl
  · exact h4 y hy
  · exact hx
section
variable {P : Program} {w : World} {K : PySem.W.Frag} {mg : Str → Option Value} {base : Heap}
theorem ok_Lwidths (T : Tx K mg) : FnR P w K mg base (L2.CX P w) 3 (He.ga K "_law_widths") (spWidths) := by
  obtain ⟨fd, F⟩ := T.d_Lwidths
  refine EM.fnr F sc_Lwidths (fun _ _ _ _ _ _ us hl => match us, hl with | [_, _], _ => rfl) (fun vs H Q E h => ?_) (fun cdv A outer s H vs Q E hr h => ?_)
  · obtain ⟨p, l, n, most, rfl, _⟩ := h
    rfl
  · obtain ⟨p, l, n, most, rfl, P0, hn, m0, m1, k⟩ := h
    refine ⟨_, (PSs.nox (pss_cons (ps_set (i := 2) sc_Lwidths.nd rfl (Or.inl rfl) (pe_op op_add pe_int (EM.pe_cR (ok_Ldraw T) (hr.mono (by decide)) T.k__law_draw T.g__law_draw passL (pa_cons (pv 0) (pa_cons (pe_op op_sub (pv 1) pe_int) pa_nil)))))
 (pss_cons (ps_set (i := 3) sc_Lwidths.nd rfl (Or.inr rfl) (EM.pe_cR (ok_Lpick T) (hr.mono (by decide)) T.k__law_pick T.g__law_pick passL (pa_cons (pv 0) (pa_cons (pe_lst (pa_cons pe_int (pa_cons pe_int (pa_cons pe_int (pa_cons pe_int pa_nil))))) pa_nil))))
 (pss_cons (ps_setLc (i := 4) (own := [("_law_k", 5)]) (g := gName 5) (te := tOp (rI0 fun i j => .int (i + j)) (tC (.int 1)) (tCR spDraw E0 (tCons (tVar 0) (tCons (tVar 3) tNil)))) rfl sc_Lwidths.nd rfl rfl (sw_true rfl rfl rfl (by decide +kernel)) (pi_range1 (by rfl) T.f_range (pa_cons (pe_op op_sub (pe_op op_mul pe_int (pv 2)) pe_int) pa_nil)) (blkOk_by (N := ["_law_pen_here", "_law_most", "_law_bars", "_law_wide", "_law_found", "_law_k", "_law_spot"]) (sc := defScope s_Lwidths) (by decide +kernel)) (fun _ _ _ _ _ => (pg_name (i := 5) sc_Lwidths.nd rfl (Or.inl rfl))) (fun _ _ _ _ _ => pts_nil) (fun _ _ _ _ _ => (pe_op op_add pe_int (EM.pe_cR (ok_Ldraw T) (hr.mono (by decide)) T.k__law_draw T.g__law_draw passL (pa_cons (pv 0) (pa_cons (pv 3) pa_nil))))))
 (pss_cons (ps_if (pt_cmpR op_eq (EM.pe_cR (ok_Ldraw T) (hr.mono (by decide)) T.k__law_draw T.g__law_draw passL (pa_cons (pv 0) (pa_cons pe_int pa_nil))) pe_int (nomark _))
  (pss_cons (ps_set (i := 6) sc_Lwidths.nd rfl (Or.inl rfl) (EM.pe_cR (ok_Ldraw T) (hr.mono (by decide)) T.k__law_draw T.g__law_draw passL (pa_cons (pv 0) (pa_cons (pe_callB call_len (by rfl) T.f_len boot_len (pa_cons (pv 4) pa_nil)) pa_nil))))
 (pss_one (ps_asg (EM.pe_cR (ok_Lpick T) (hr.mono (by decide)) T.k__law_pick T.g__law_pick passL (pa_cons (pv 0) (pa_cons (pe_lst (pa_cons pe_int (pa_cons pe_int (pa_cons pe_int pa_nil)))) pa_nil))) (pg_sub (pv 4) (pv 6) set_list)))) pss_nil)
 (pss_one (ps_ret (pv 4)))))))), ?_⟩
    refine ⟨_, rfl, _, rfl, _, _, rfl, rfl, p, l, n, most - 1, rfl, P0, by omega, by omega, by omega, fun d1 H1 d10 d11 k1 P1 => ⟨_, _, rfl, rfl, ?_⟩⟩
    -- wide = pick(pen, [2, 4, 12, 1000])
    refine ⟨_, rfl, (by show 4 ≤ sizeLine; decide), fun a2 h2 => ?_⟩
    have P1' := P1.same (same_upd (o := .lst [V.int 2, V.int 4, V.int 12, V.int 1000]) h2)
    refine ⟨p, l, n + 1, a2, _, rfl, P1', by omega, upd_same, (P1.ne h2).1, (by show 1 ≤ 4; decide), (by show 4 ≤ 1000000; decide), fun v H2 hv k2 P2 => ?_⟩
    obtain ⟨wide, rfl, w1⟩ := memI (l := [2, 4, 12, 1000]) (P := fun m => 1 ≤ m ∧ m ≤ 1000) hv (by decide)
    have K2 : Keep p H H2 := (Keep.trans k1 (Keep.of (same_upd h2))).trans k2
    refine ⟨_, rfl, _, _, rfl, rfl, .inl ⟨by omega, by omega⟩, _, _, rfl, rfl, _, rfl, by omega, by omega, fun D hD => lc_it walk_range
      (fun q H8 => Keep p H2 H8 ∧ Pen H8 p l (n + 2 + q) ∧ ∃ ws : List Int, ws.length = q ∧ H8 D = some (.lst (ws.map V.int)) ∧ ∀ x ∈ ws, 1 ≤ x ∧ x ≤ 1000) ?_ (fun _ _ _ _ => trivial) ?_ ?_⟩
    · obtain ⟨n3, n4⟩ := P2.ne hD
      exact ⟨Keep.refl.mut hD, P2.mut n3 n4, [], rfl, upd_same, fun x hx => absurd hx (by simp)⟩
    · rintro q z H8 H9 hq ⟨k8, P8, ws, hwl, hD8, hws⟩ ⟨rfl, rfl⟩
      obtain ⟨n3, n4⟩ := P2.ne hD
      refine ⟨rfl, yes ⟨_, rfl, _, rfl, p, l, _, wide, rfl, P8, by omega, by omega, by omega, fun e H10 e0 e1 k10 P10 => ⟨_, _, rfl, rfl, _, k10 _ _ hD8 n3, ?_, (k8.trans k10).mut hD, P10.mut n3 n4, ws ++ [1 + e], ?_, ?_, fun x hx => ?_⟩⟩⟩
      · rw [List.length_map]; exact szl (by omega)
      · rw [List.length_append, hwl]; rfl
      · rw [upd_same, List.map_append]; rfl
      · rcases List.mem_append.mp hx with hx | hx
        · exact hws x hx
        · rw [List.mem_singleton.mp hx]; omega
    rintro H8 ⟨k8, P8, ws, hwl, hD8, hws⟩
    obtain ⟨n3, n4⟩ := P2.ne hD
    have hgw : good ws := ⟨by omega, by omega, by omega, hws⟩
    have hD0 : H D = none := by
      cases e : H D with
      | none => rfl
      | some o => rw [K2 _ _ e n3] at hD; cases hD
    -- if draw(pen, 4) == 0
    refine ⟨_, rfl, p, l, _, 4, rfl, P8, by omega, by decide, by decide, fun d3 H9 d30 d31 k9 P9 => ⟨rfl, _, rfl, ite2 (fun c => ?_) (fun c => ?_)⟩⟩
    · have hD9 := k9 _ _ hD8 n3
      refine ⟨_, rfl, _, rfl, _, _, rfl, .inl ⟨_, SqL.of hD9, rfl⟩, p, l, _, _, rfl, P9, by omega, ?_, ?_, fun d4 H10 d40 d41 k10 P10 => ?_⟩
      · rw [List.length_map]; omega
      · rw [List.length_map]; omega
      have hD10 := k10 _ _ hD9 n3
      refine ⟨_, rfl, (by show 3 ≤ sizeLine; decide), fun a5 h5 => ?_⟩
      have P10' := P10.same (same_upd (o := .lst [V.int 1000, V.int 999, V.int 1]) h5)
      refine ⟨p, l, _, a5, _, rfl, P10', by omega, upd_same, (P10.ne h5).1, (by show 1 ≤ 3; decide), (by show 3 ≤ 1000000; decide), fun v H11 hv k11 P11 => ?_⟩
      obtain ⟨x, rfl, x1⟩ := memI (l := [1000, 999, 1]) (P := fun m => 1 ≤ m ∧ m ≤ 1000) hv (by decide)
      have hD11 := k11 _ _ (same_upd h5 _ _ hD10) n3
      rw [List.length_map] at d41
      refine ⟨_, rfl, _, rfl, D, _, d4, d4.toNat, rfl, rfl, hD11, ?_, ?_⟩
      · rw [List.length_map]; exact ix_of (by omega) (by omega)
      rw [set_map]
      refine ⟨_, rfl, k D _ _ (good_set hgw x1) (by rw [List.length_set]; omega) ?_ hD0 n3 upd_same ((P11.mut n3 n4).mono (by omega))⟩
      exact ((((K2.trans k8).trans k9).trans k10).trans ((Keep.of (same_upd h5)).trans k11)).mut hD0
    · exact ⟨_, rfl, k D ws H9 hgw (by omega) ((K2.trans k8).trans k9) hD0 n3 (k9 _ _ hD8 n3) (P9.mono (by omega))⟩
end
end K10
namespace K10
open PySem PySem.Spec PyProof.Rows L2 EM
theorem cut_len (z : Str) {i j : Int} (h0 : 0 ≤ i) (h1 : 0 ≤ j) : (cutS z (some i) (some j)).length ≤ (j - i).toNat := by
  show (((z.cps.toList.drop (HT.sIx z.length 0 (some i))).take (HT.sIx z.length z.length (some j) - HT.sIx z.length 0 (some i))).toArray).size ≤ _
  rw [List.size_toArray, List.length_take]
  have e1 : HT.sIx z.length 0 (some i) = min i.toNat z.length := by
    show (if i < 0 then _ else _) = _
    rw [if_neg (by omega)]
  have e2 : HT.sIx z.length z.length (some j) = min j.toNat z.length := by
    show (if j < 0 then _ else _) = _
    rw [if_neg (by omega)]
  rw [e1, e2]
  omega
theorem memS {l : List Str} {v : V} {P : Str → Prop} (h : v ∈ l.map V.str) (hp : ∀ x ∈ l, P x) : ∃ i, v = .str i ∧ P i := by
  obtain ⟨i, hi, rfl⟩ := List.mem_map.mp h
  exact ⟨i, rfl, hp i hi⟩
theorem sgn_all : ∀ x ∈ (["0", "1", "9", "-", "--", " ", "+", "/", "a", ".", "\n"] : List Str), x.length ≤ 2 := by decide +kernel
theorem end_all : ∀ x ∈ (["-1", "-2-3", "-1000", "-1001", "-0", "-", "-10000", "-01"] : List Str), x.length ≤ 6 := by decide +kernel
def spBent : Sp := fun vs H Q _ => ∃ (p l : Addr) (n : Nat) (a : Str), vs = [.ref p, .str a] ∧ Pen H p l n ∧ n ≤ 900000 ∧ a.length ≤ 5000 ∧
  ∀ b H', b.length ≤ 3 * a.length + 20 → Keep p H H' → Pen H' p l (n + 5) → Q (.str b) H'
section
variable {P : Program} {w : World} {K : PySem.W.Frag} {mg : Str → Option Value} {base : Heap}
theorem ok_Lbent (T : Tx K mg) : FnR P w K mg base (L2.CX P w) 3 (He.ga K "_law_bent") (spBent) := by
  obtain ⟨fd, F⟩ := T.d_Lbent
  refine EM.fnr F sc_Lbent (fun _ _ _ _ _ _ us hl => match us, hl with | [_, _], _ => rfl) (fun vs H Q E h => ?_) (fun cdv A outer s H vs Q E hr h => ?_)
  · obtain ⟨p, l, n, a, rfl, _⟩ := h
    rfl
  · obtain ⟨p, l, n, a, rfl, P0, hn, hl, k⟩ := h
    have zl : 50000 ≤ sizeLine := by decide
    have za : a.length ≤ sizeLine := by omega
    refine ⟨_, (PSs.nox (pss_cons (ps_par (by rfl) sc_Lbent.nd (i := 2) (j := 3) rfl rfl (by decide) rfl rfl (pa_cons (EM.pe_cR (ok_Ldraw T) (hr.mono (by decide)) T.k__law_draw T.g__law_draw passL (pa_cons (pv 0) (pa_cons (pe_op op_add (pe_callB call_len (by rfl) T.f_len boot_len (pa_cons (pv 1) pa_nil)) pe_int) pa_nil))) (pa_cons (EM.pe_cR (ok_Ldraw T) (hr.mono (by decide)) T.k__law_draw T.g__law_draw passL (pa_cons (pv 0) (pa_cons pe_int pa_nil))) pa_nil)) (by rfl))
 (pss_cons (ps_set (i := 4) sc_Lbent.nd rfl (Or.inl rfl) (EM.pe_cR (ok_Lpick T) (hr.mono (by decide)) T.k__law_pick T.g__law_pick passL (pa_cons (pv 0) (pa_cons (pe_lst (pa_cons pe_str (pa_cons pe_str (pa_cons pe_str (pa_cons pe_str (pa_cons pe_str (pa_cons pe_str (pa_cons pe_str (pa_cons pe_str (pa_cons pe_str (pa_cons pe_str (pa_cons pe_str pa_nil)))))))))))) pa_nil))))
 (pss_cons (ps_if (pt_cmpR op_eq (pv 3) pe_int (nomark _))
  (pss_one (ps_ret (pe_op op_add_str (pe_op op_add_str (pe_slice sl_str (pv 1) po_none (po_some (pv 2))) (pv 4)) (pe_slice sl_str (pv 1) (po_some (pv 2)) po_none)))) pss_nil)
 (pss_cons (ps_if (pt_cmpR op_eq (pv 3) pe_int (nomark _))
  (pss_one (ps_ret (pe_op op_add_str (pe_slice sl_str (pv 1) po_none (po_some (pv 2))) (pe_slice sl_str (pv 1) (po_some (pe_op op_add (pv 2) pe_int)) po_none)))) pss_nil)
 (pss_cons (ps_if (pt_cmpR op_eq (pv 3) pe_int (nomark _))
  (pss_one (ps_ret (pe_op op_add_str (pe_op op_add_str (pe_slice sl_str (pv 1) po_none (po_some (pv 2))) (pv 4)) (pe_slice sl_str (pv 1) (po_some (pe_op op_add (pv 2) pe_int)) po_none)))) pss_nil)
 (pss_cons (ps_if (pt_cmpR op_eq (pv 3) pe_int (nomark _))
  (pss_cons (ps_set (i := 5) sc_Lbent.nd rfl (Or.inl rfl) (pe_op op_add_str (pe_slice sl_str (pv 1) (po_some (pe_op op_add (pv 2) pe_int)) (po_some (pe_op op_add (pv 2) pe_int))) (pe_slice sl_str (pv 1) (po_some (pv 2)) (po_some (pe_op op_add (pv 2) pe_int)))))
 (pss_one (ps_ret (pe_op op_add_str (pe_op op_add_str (pe_slice sl_str (pv 1) po_none (po_some (pv 2))) (pv 5)) (pe_slice sl_str (pv 1) (po_some (pe_op op_add (pv 2) pe_int)) po_none))))) pss_nil)
 (pss_cons (ps_if (pt_cmpR op_eq (pv 3) pe_int (nomark _))
  (pss_one (ps_ret (pe_op op_add_str (pe_op op_add_str (pe_slice sl_str (pv 1) po_none (po_some (pv 2))) (pe_slice sl_str (pv 1) (po_some (pv 2)) (po_some (pe_op op_add (pv 2) pe_int)))) (pe_slice sl_str (pv 1) (po_some (pv 2)) po_none)))) pss_nil)
 (EM.pss_ifT op_eq (pv 3) (nomark _) (PSsT.of (pss_one (ps_ret (pe_op op_add_str (pv 1) (EM.pe_cR (ok_Lpick T) (hr.mono (by decide)) T.k__law_pick T.g__law_pick passL (pa_cons (pv 0) (pa_cons (pe_lst (pa_cons pe_str (pa_cons pe_str (pa_cons pe_str (pa_cons pe_str (pa_cons pe_str (pa_cons pe_str (pa_cons pe_str (pa_cons pe_str pa_nil))))))))) pa_nil))))))) (PSsT.of pss_nil)
  (CwR.psst_one (CwR.pst_ret (EM.pet_cR (ok_Lpick T) (hr.mono (by decide)) T.k__law_pick T.g__law_pick passL (pat_cons (CwR.PET.of (pv 0)) (pat_cons (pet_lst (pat_cons (CwR.pet_replC (pv 1)) (pat_cons (CwR.PET.of pe_str) (pat_cons (CwR.PET.of pe_str) (pat_cons (CwR.PET.of pe_str) (pat_cons (CwR.PET.of pe_str) (pat_cons (CwR.PET.of pe_str) (pat_cons (CwR.pet_replC (pv 1)) pat_nil)))))))) pat_nil)))))))))))))), ?_⟩
    refine ⟨_, rfl, _, rfl, _, _, rfl, ⟨za, rfl⟩, _, _, rfl, rfl, p, l, n, _, rfl, P0, by omega, by omega, by omega, fun spot H1 d10 d11 k1 P1 => ?_⟩
    refine ⟨_, rfl, p, l, _, 7, rfl, P1, by omega, by decide, by decide, fun way H2 d20 d21 k2 P2 => ?_⟩
    refine ⟨_, _, rfl, _, rfl, (by show 11 ≤ sizeLine; decide), fun a3 h3 => ?_⟩
    have s3 := same_upd (o := .lst ((["0", "1", "9", "-", "--", " ", "+", "/", "a", ".", "\n"] : List Str).map V.str)) h3
    refine ⟨p, l, _, a3, (["0", "1", "9", "-", "--", " ", "+", "/", "a", ".", "\n"] : List Str).map V.str, rfl, P2.same s3, by omega, upd_same, (P2.ne h3).1, (by show 1 ≤ 11; decide), (by show 11 ≤ 1000000; decide), fun v H3 hv k3 P3 => ?_⟩
    obtain ⟨sgn, rfl, hsg⟩ := memS hv sgn_all
    have K3 : Keep p H H3 := (Keep.trans k1 k2).trans ((Keep.of s3).trans k3)
    have c1 := cutS_length a none (some spot)
    have c2 := cutS_length a (some spot) none
    have c3 := cutS_length a (some (spot + 1)) none
    have c4 : (cutS a (some (spot + 1)) (some (spot + 2))).length ≤ 1 := by
      have := cut_len a (i := spot + 1) (j := spot + 2) (by omega) (by omega)
      omega
    have c5 : (cutS a (some spot) (some (spot + 1))).length ≤ 1 := by
      have := cut_len a (i := spot) (j := spot + 1) (by omega) (by omega)
      omega
    have c6 : (cutS a (some spot) (some (spot + 4))).length ≤ 4 := by
      have := cut_len a (i := spot) (j := spot + 4) (by omega) (by omega)
      omega
    have c7 := cutS_length a (some (spot + 2)) none
    have fin : ∀ b : Str, b.length ≤ 3 * a.length + 20 → Q (.str b) H3 := fun b hb => k b H3 hb K3 (P3.mono (by omega))
    refine ⟨_, rfl, rfl, _, rfl, ite2 (fun _ => ?_) (fun _ => ?_)⟩
    · refine ⟨_, rfl, _, rfl, _, rfl, a, rfl, za, _, rfl, _, _, rfl, rfl, ?_, _, rfl, _, rfl, _, rfl, a, rfl, za, _, _, rfl, rfl, ?_, fin _ ?_⟩
      all_goals ((try simp only [Str.length_append]); omega)
    refine ⟨_, rfl, rfl, _, rfl, ite2 (fun _ => ?_) (fun _ => ?_)⟩
    · refine ⟨_, rfl, _, rfl, _, rfl, a, rfl, za, _, rfl, _, rfl, _, _, rfl, rfl, _, rfl, a, rfl, za, _, _, rfl, rfl, ?_, fin _ ?_⟩
      all_goals ((try simp only [Str.length_append]); omega)
    refine ⟨_, rfl, rfl, _, rfl, ite2 (fun _ => ?_) (fun _ => ?_)⟩
    · refine ⟨_, rfl, _, rfl, _, rfl, a, rfl, za, _, rfl, _, _, rfl, rfl, ?_, _, rfl, _, rfl, _, _, rfl, rfl, _, rfl, a, rfl, za, _, _, rfl, rfl, ?_, fin _ ?_⟩
      all_goals ((try simp only [Str.length_append]); omega)
    refine ⟨_, rfl, rfl, _, rfl, ite2 (fun _ => ?_) (fun _ => ?_)⟩
    · refine ⟨_, rfl, _, rfl, _, _, rfl, rfl, _, rfl, _, rfl, _, _, rfl, rfl, _, rfl, a, rfl, za, _, rfl, _, rfl, _, rfl, _, rfl, _, _, rfl, rfl, _, rfl, a, rfl, za, _, _, rfl, rfl, ?_, ?_⟩
      · omega
      refine ⟨_, rfl, _, rfl, _, rfl, a, rfl, za, _, rfl, _, _, rfl, rfl, ?_, _, rfl, _, rfl, _, _, rfl, rfl, _, rfl, a, rfl, za, _, _, rfl, rfl, ?_, fin _ ?_⟩
      all_goals ((try simp only [Str.length_append]); omega)
    refine ⟨_, rfl, rfl, _, rfl, ite2 (fun _ => ?_) (fun _ => ?_)⟩
    · refine ⟨_, rfl, _, rfl, _, rfl, a, rfl, za, _, rfl, _, rfl, _, rfl, _, rfl, _, _, rfl, rfl, _, rfl, a, rfl, za, _, _, rfl, rfl, ?_, _, rfl, _, rfl, _, rfl, a, rfl, za, _, _, rfl, rfl, ?_, fin _ ?_⟩
      all_goals ((try simp only [Str.length_append]); omega)
    refine ⟨_, rfl, rfl, _, rfl, ite2 (fun _ => ?_) (fun _ => ?_)⟩
    · refine ⟨_, rfl, _, rfl, (by show 8 ≤ sizeLine; decide), fun a4 h4 => ?_⟩
      have s4 := same_upd (o := .lst ((["-1", "-2-3", "-1000", "-1001", "-0", "-", "-10000", "-01"] : List Str).map V.str)) h4
      refine ⟨p, l, _, a4, (["-1", "-2-3", "-1000", "-1001", "-0", "-", "-10000", "-01"] : List Str).map V.str, rfl, P3.same s4, by omega, upd_same, (P3.ne h4).1, (by show 1 ≤ 8; decide), (by show 8 ≤ 1000000; decide), fun v H4 hv k4 P4 => ?_⟩
      obtain ⟨e, rfl, he⟩ := memS hv end_all
      refine ⟨_, _, rfl, rfl, by omega, k _ H4 ?_ (K3.trans ((Keep.of s4).trans k4)) (P4.mono (by omega))⟩
      simp only [Str.length_append]; omega
    have r1 : (" " : Str).length = 1 := by decide +kernel
    have r2 : ("--" : Str).length = 2 := by decide +kernel
    refine ⟨_, rfl, _, rfl, a, rfl, ?_, _, rfl, a, rfl, ?_, (by show 7 ≤ sizeLine; decide), fun a4 h4 => ?_⟩
    · rw [r1]; omega
    · rw [r2]; omega
    have s4 := same_upd (o := .lst (([Txt.replace a "-" " ", "", "-", "1", "1-1", "1-1-1-1", Txt.replace a "-" "--"] : List Str).map V.str)) h4
    refine ⟨p, l, _, a4, ([Txt.replace a "-" " ", "", "-", "1", "1-1", "1-1-1-1", Txt.replace a "-" "--"] : List Str).map V.str, rfl, P3.same s4, by omega, upd_same, (P3.ne h4).1, (by show 1 ≤ 7; decide), (by show 7 ≤ 1000000; decide), fun v H4 hv k4 P4 => ?_⟩
    have t1 := TK.replace_len a "-" " "
    have t2 := TK.replace_len a "-" "--"
    rw [r1] at t1
    rw [r2] at t2
    have hall : ∀ x ∈ (["", "-", "1", "1-1", "1-1-1-1"] : List Str), x.length ≤ 20 := by decide +kernel
    obtain ⟨e, rfl, he⟩ := memS (P := fun b => b.length ≤ 3 * a.length + 20) hv (by
      intro x hx
      have : x = Txt.replace a "-" " " ∨ x = Txt.replace a "-" "--" ∨ x ∈ (["", "-", "1", "1-1", "1-1-1-1"] : List Str) := by
        simp only [List.mem_cons, List.not_mem_nil, or_false] at hx ⊢
        rcases hx with h | h | h | h | h | h | h
        · exact .inl h
        · exact .inr (.inr (.inl h))
        · exact .inr (.inr (.inr (.inl h)))
        · exact .inr (.inr (.inr (.inr (.inl h))))
        · exact .inr (.inr (.inr (.inr (.inr (.inl h)))))
        · exact .inr (.inr (.inr (.inr (.inr (.inr h)))))
        · exact .inr (.inl h)
      rcases this with rfl | rfl | h
      · omega
      · omega
      · have := hall x h
        omega)
    exact k e H4 he (K3.trans ((Keep.of s4).trans k4)) (P4.mono (by omega))
end
end K10
namespace K10
open PySem PySem.Spec PyProof.Rows L2 EM
theorem rep_str (n : Nat) (x : Str) : (List.replicate n [V.str x]).flatten = (List.replicate n x).map V.str := by
  induction n with
  | zero => rfl
  | succ n ih =>
    rw [List.replicate_succ, List.flatten_cons, ih, List.replicate_succ]
    rfl
theorem set_mapS (l : List Str) (j : Nat) (x : Str) : (l.map V.str).set j (.str x) = (l.set j x).map V.str := (List.map_set ..).symm
theorem sum1 (l : List Str) (h : ∀ x ∈ l, x.length ≤ 1) : (l.map (·.length)).sum ≤ l.length := by
  induction l with
  | nil => simp
  | cons x r ih =>
    have h1 := h x List.mem_cons_self
    have h3 := ih fun y hy => h y (List.mem_cons_of_mem _ hy)
    simp only [List.map_cons, List.sum_cons, List.length_cons] at h3 ⊢
    omega
theorem join_len (l : List Str) (h : ∀ x ∈ l, x.length ≤ 1) : (Txt.join "-" l).length ≤ 2 * l.length := by
  show (Builtin.Str.glued "-" l).length ≤ _
  rw [size_glued]
  have h1 := sum1 l h
  have h2 : ("-" : Str).length = 1 := by decide +kernel
  rw [h2]
  omega
theorem odd_all : ∀ x ∈ (["0", "", "x"] : List Str), x.length ≤ 1 := by decide +kernel
def spLong : Sp := fun vs H Q _ => ∃ (p l : Addr) (n : Nat), vs = [.ref p] ∧ Pen H p l n ∧ n ≤ 900000 ∧
  ∀ b H', b.length ≤ 300 → Keep p H H' → Pen H' p l (n + 5) → Q (.str b) H'
section
variable {P : Program} {w : World} {K : PySem.W.Frag} {mg : Str → Option Value} {base : Heap}
theorem ok_Llong (T : Tx K mg) : FnR P w K mg base (L2.CX P w) 3 (He.ga K "_law_long") (spLong) := by
  obtain ⟨fd, F⟩ := T.d_Llong
  refine EM.fnr F sc_Llong (fun _ _ _ _ _ _ us hl => match us, hl with | [_], _ => rfl) (fun vs H Q E h => ?_) (fun cdv A outer s H vs Q E hr h => ?_)
  · obtain ⟨p, l, n, rfl, _⟩ := h
    rfl
  · obtain ⟨p, l, n, rfl, P0, hn, k⟩ := h
    refine ⟨_, (PSs.nox (pss_cons (ps_set (i := 1) sc_Llong.nd rfl (Or.inl rfl) (pe_op op_rep (pe_lst (pa_cons pe_str pa_nil)) (pe_op op_add pe_int (EM.pe_cR (ok_Ldraw T) (hr.mono (by decide)) T.k__law_draw T.g__law_draw passL (pa_cons (pv 0) (pa_cons pe_int pa_nil))))))
 (pss_cons (ps_if (pt_cmpR op_eq (EM.pe_cR (ok_Ldraw T) (hr.mono (by decide)) T.k__law_draw T.g__law_draw passL (pa_cons (pv 0) (pa_cons pe_int pa_nil))) pe_int (nomark _))
  (pss_cons (ps_set (i := 2) sc_Llong.nd rfl (Or.inl rfl) (EM.pe_cR (ok_Lpick T) (hr.mono (by decide)) T.k__law_pick T.g__law_pick passL (pa_cons (pv 0) (pa_cons (pe_lst (pa_cons (pe_op op_sub (pe_callB call_len (by rfl) T.f_len boot_len (pa_cons (pv 1) pa_nil)) pe_int) (pa_cons (EM.pe_cR (ok_Ldraw T) (hr.mono (by decide)) T.k__law_draw T.g__law_draw passL (pa_cons (pv 0) (pa_cons (pe_callB call_len (by rfl) T.f_len boot_len (pa_cons (pv 1) pa_nil)) pa_nil))) (pa_cons pe_int pa_nil)))) pa_nil))))
 (pss_one (ps_asg (EM.pe_cR (ok_Lpick T) (hr.mono (by decide)) T.k__law_pick T.g__law_pick passL (pa_cons (pv 0) (pa_cons (pe_lst (pa_cons pe_str (pa_cons pe_str (pa_cons pe_str pa_nil)))) pa_nil))) (pg_sub (pv 1) (pv 2) set_list)))) pss_nil)
 (pss_one (ps_ret (pe_m1 PySem.F.slot_str_join PySem.F.type_str_join mt_join pe_str (pv 1))))))), ?_⟩
    refine ⟨(by show 1 ≤ sizeLine; decide), fun a1 h1 => ⟨_, rfl, p, l, n, 4, rfl, P0.same (same_upd h1), by omega, by decide, by decide, fun d H2 d0 d1 k2 P2 => ⟨_, _, rfl, rfl, ?_⟩⟩⟩
    have ha1 := k2 _ _ upd_same (P0.ne h1).1
    refine ⟨a1, _, _, rfl, rfl, ha1, by omega, by omega, ?_, fun D hD => ?_⟩
    · have e : sizeLine = 50000000 ∨ 1000 ≤ sizeLine := .inr (by decide)
      show 1 * _ ≤ _
      rcases e with e | e <;> omega
    rw [rep_str]
    have K2 : Keep p H H2 := Keep.trans (Keep.of (same_upd h1)) k2
    obtain ⟨nD, nDl⟩ := P2.ne hD
    have hD0 : H D = none := by
      cases e : H D with
      | none => rfl
      | some o => rw [K2 _ _ e nD] at hD; cases hD
    obtain ⟨ps, eps, hpl, hps⟩ : ∃ ps : List Str, ps = List.replicate (126 + d).toNat ("1" : Str) ∧ (126 ≤ ps.length ∧ ps.length ≤ 129) ∧ ∀ x ∈ ps, x.length ≤ 1 := by
      refine ⟨_, rfl, by rw [List.length_replicate]; omega, fun x hx => ?_⟩
      rw [List.eq_of_mem_replicate hx]
      decide +kernel
    rw [← eps]
    clear eps
    have K3 := (K2.mut (D := D) (o := .lst (ps.map V.str)) hD0)
    have P3 := P2.mut (o := .lst (ps.map V.str)) nD nDl
    have hD3 : upd H2 D (.lst (ps.map V.str)) D = some (.lst (ps.map V.str)) := upd_same
    obtain ⟨H3, eH3⟩ : ∃ H3, H3 = upd H2 D (.lst (ps.map V.str)) := ⟨_, rfl⟩
    rw [← eH3] at K3 P3 hD3 ⊢
    clear eH3
    have r1 : ("-" : Str).length = 1 := by decide +kernel
    refine ⟨_, rfl, p, l, _, 3, rfl, P3, by omega, by decide, by decide, fun d4 H4 d40 d41 k4 P4 => ⟨rfl, _, rfl, ite2 (fun c => ?_) (fun c => ?_)⟩⟩
    · have hD4 := k4 _ _ hD3 nD
      refine ⟨_, rfl, _, rfl, _, _, rfl, .inl ⟨_, SqL.of hD4, rfl⟩, _, _, rfl, rfl, _, rfl, _, rfl, _, _, rfl, .inl ⟨_, SqL.of hD4, rfl⟩, p, l, _, _, rfl, P4, by omega, ?_, ?_, fun d5 H5 d50 d51 k5 P5 => ?_⟩
      · rw [List.length_map]; omega
      · rw [List.length_map]; omega
      have hD5 := k5 _ _ hD4 nD
      rw [List.length_map] at d51 ⊢
      refine ⟨(by show 3 ≤ sizeLine; decide), fun a6 h6 => ?_⟩
      have s6 := same_upd (o := .lst ([(ps.length : Int) - 1, d5, 125].map V.int)) h6
      refine ⟨p, l, _, a6, [(ps.length : Int) - 1, d5, 125].map V.int, rfl, P5.same s6, by omega, upd_same, (P5.ne h6).1, (by show 1 ≤ 3; decide), (by show 3 ≤ 1000000; decide), fun v H6 hv k6 P6 => ?_⟩
      obtain ⟨spot, rfl, hs⟩ := memI (P := fun i => 0 ≤ i ∧ i < ps.length) hv (by
        intro x hx
        simp only [List.mem_cons, List.not_mem_nil, or_false] at hx
        omega)
      have hD6 := k6 _ _ (s6 _ _ hD5) nD
      refine ⟨_, rfl, (by show 3 ≤ sizeLine; decide), fun a7 h7 => ?_⟩
      have s7 := same_upd (o := .lst ((["0", "", "x"] : List Str).map V.str)) h7
      refine ⟨p, l, _, a7, (["0", "", "x"] : List Str).map V.str, rfl, P6.same s7, by omega, upd_same, (P6.ne h7).1, (by show 1 ≤ 3; decide), (by show 3 ≤ 1000000; decide), fun v H7 hv k7 P7 => ?_⟩
      obtain ⟨x, rfl, hx⟩ := memS hv odd_all
      have hD7 := k7 _ _ (s7 _ _ hD6) nD
      refine ⟨_, rfl, _, rfl, D, _, spot, spot.toNat, rfl, rfl, hD7, ?_, ?_⟩
      · rw [List.length_map]; exact ix_of (by omega) (by omega)
      rw [set_mapS]
      have hps' : ∀ y ∈ ps.set spot.toNat x, y.length ≤ 1 := fun y hy => by
        rcases List.mem_or_eq_of_mem_set hy with hy | rfl
        · exact hps y hy
        · exact hx
      have h8 := sum1 _ hps'
      have h9 := join_len _ hps'
      rw [List.length_set] at h8 h9
      refine ⟨⟨_, rfl⟩, _, rfl, _, D, _, rfl, rfl, .inl (SqL.of upd_same), ?_, k _ _ (by omega) ?_ ((P7.mut nD nDl).mono (by omega))⟩
      · rw [r1, List.length_set]; omega
      exact ((((K3.trans k4).trans k5).trans ((Keep.of s6).trans k6)).trans ((Keep.of s7).trans k7)).mut hD0
    · have h8 := sum1 _ hps
      have h9 := join_len _ hps
      refine ⟨⟨_, rfl⟩, _, rfl, _, D, _, rfl, rfl, .inl (SqL.of (k4 _ _ hD3 nD)), ?_, k _ _ (by omega) (K3.trans k4) (P4.mono (by omega))⟩
      rw [r1]; omega
end
end K10
namespace K10
open PySem PySem.Spec PyProof.Rows L2 EM
theorem len_rat {K : PySem.W.Frag} : ∀ vs H Q E, spRat K vs H Q E → vs.length = ["self", "top", "bottom"].length := by
  intro vs H Q E h
  obtain ⟨x, dx, t, b, rfl, _⟩ := h
  rfl
section
variable {P : Program} {w : World} {K : PySem.W.Frag} {mg : Str → Option Value} {base : Heap}
theorem ok_common_divisor (T : Tx K mg) : FnR P w K mg base (L2.CX P w) 1 (He.ga K "common_divisor") (spGcd) := by
  obtain ⟨fd, F⟩ := T.d_common_divisor
  refine EM.fnr F sc_common_divisor (fun _ _ _ _ _ _ us hl => match us, hl with | [_, _], _ => rfl) (fun vs H Q E h => ?_) (fun cdv A outer s H vs Q E hr h => ?_)
  · obtain ⟨a, b, rfl, _⟩ := h
    rfl
  · obtain ⟨a, b, rfl, k⟩ := h
    refine ⟨_, (PSs.nox (pss_cons (ps_while PassesOwn.never (pt_cmpR op_ne (pv 1) pe_int (nomark _))
  (pss_one (ps_par (by rfl) sc_common_divisor.nd (i := 0) (j := 1) rfl rfl (by decide) rfl rfl (pa_cons (pv 1) (pa_cons (pe_op op_modN (pv 0) (pv 1)) pa_nil)) (by rfl))))
 (pss_one (ps_ret (pe_callB call_abs (by rfl) T.f_abs (by decide +kernel) (pa_cons (pv 0) pa_nil)))))), ?_⟩
    refine ⟨fun m σ H' => ∃ a' b', σ = [some (.int a'), some (.int b')] ∧ H' = H ∧ Int.gcd a' b' = Int.gcd a b ∧ m = b'.natAbs, ⟨_, a, b, rfl, rfl, rfl, rfl⟩, ?_⟩
    rintro m σ H' ⟨a', b', rfl, rfl, hg, rfl⟩
    refine ⟨_, rfl, rfl, _, rfl, ite2 (fun c => ?_) (fun c => ?_)⟩
    · have hb : b' ≠ 0 := fun z => by
        subst z
        simp at c
      refine ⟨fun σ H1 => ∃ a1 b1, σ = [some (.int a1), some (.int b1)] ∧ H1 = H' ∧ Int.gcd a1 b1 = Int.gcd a b ∧ b1.natAbs < b'.natAbs, ?_, ?_⟩
      · rintro σ H1 ⟨a1, b1, e1, e2, e3, e4⟩
        exact ⟨_, e4, a1, b1, e1, e2, e3, rfl⟩
      · exact ⟨_, rfl, _, rfl, _, rfl, _, _, rfl, rfl, hb, _, _, rfl, b', _, rfl, rfl, by rw [gcd_fmod]; exact hg, fmod_less _ _ hb⟩
    · have hb : b' = 0 := by
        apply Classical.byContradiction
        intro z
        exact c (by simp [z])
      subst hb
      have e : ((Int.gcd a b : Nat) : Int) = if a' < 0 then -a' else a' := by
        rw [← hg, Int.gcd_zero_right]
        split <;> omega
      rw [e] at k
      exact ⟨_, rfl, _, rfl, k⟩
theorem bod_rat (T : Tx K mg) (f : Addr) : Bod P w K mg base ["self", "top", "bottom", "shared"] "Ratio.__init__" (defScope s_Ratio_init) f (defBody s_Ratio_init) 1 (spRat K) := by
  intro cdv A outer s H vs Q E hr h
  obtain ⟨x, dx, t, b, rfl, hx, b0, bl, k⟩ := h
  refine ⟨_, (PSs.nox (pss_cons (ps_if (pt_not (pt_val (EM.pe_cR (ok_is_integer T) (hr.mono (by decide)) T.k_is_integer T.g_is_integer passL (pa_cons (pv 1) pa_nil))))
  (pss_one ps_never) pss_nil)
 (pss_cons (ps_if (PW.pt (pw_or (pt_not (pt_val (EM.pe_cR (ok_is_integer T) (hr.mono (by decide)) T.k_is_integer T.g_is_integer passL (pa_cons (pv 2) pa_nil)))) (pw_or1 (pt_cmpR op_eq (pv 2) pe_int (nomark _)))))
  (pss_one ps_never) pss_nil)
 (pss_cons (ps_set (i := 3) sc_Ratio_init.nd rfl (Or.inl rfl) (EM.pe_cR (ok_common_divisor T) (hr.mono (by decide)) T.k_common_divisor T.g_common_divisor passL (pa_cons (pv 1) (pa_cons (pv 2) pa_nil))))
 (pss_cons (ps_if (pt_cmpR op_lt (pv 2) pe_int (nomark _))
  (pss_one (ps_set (i := 3) sc_Ratio_init.nd rfl (Or.inl rfl) (pe_un un_neg (pv 3)))) pss_nil)
 (pss_cons (ps_fld (pv 0) (pe_op op_fdivWN (pv 1) (pv 3)) rfl)
 (pss_one (ps_fld (pv 0) (pe_op op_fdivWN (pv 2) (pv 3)) rfl)))))))), ?_⟩
  refine ⟨_, rfl, _, _, true, false, rfl, .base (.int t), kit_ty (by decide +kernel), kit_ty (by decide +kernel), _, rfl, ifN rfl ?_⟩
  refine ⟨_, rfl, _, _, true, false, rfl, .base (.int b), kit_ty (by decide +kernel), kit_ty (by decide +kernel), _, rfl, ifN rfl ⟨_, rfl, rfl, _, rfl, ifN (by simp [b0]) ?_⟩⟩
  have hs0 := shr_ne (t := t) b0
  have hs1 : (shr t b).natAbs.log2 < 9000 := Nat.lt_of_le_of_lt (log_le (shr_le b0)) bl
  refine ⟨_, rfl, _, rfl, t, b, rfl, ?_⟩
  refine ⟨_, rfl, _, _, rfl, rfl, _, rfl, ite2 (fun c => ?_) (fun c => ?_)⟩
  · have e : shr t b = -(Int.gcd t b : Int) := if_pos (by simpa using c)
    refine ⟨_, rfl, _, rfl, ?_⟩
    refine ⟨_, rfl, _, rfl, _, _, rfl, rfl, ⟨by rw [← e]; exact hs0, by rw [← e]; exact hs1⟩, _, rfl, x, _, dx, _, rfl, hx, T.cl_Ratio, T.na_Ratio_top, (by show 0 < 1000; decide), ?_⟩
    refine ⟨_, rfl, _, rfl, _, _, rfl, rfl, ⟨by rw [← e]; exact hs0, by rw [← e]; exact hs1⟩, _, rfl, x, _, dx, _, rfl, upd_same, T.cl_Ratio, T.na_Ratio_bottom, (by show 1 < 1000; decide), ?_⟩
    refine k _ (fun c o h hc => by rw [upd_ne hc, upd_ne hc]; exact h) ⟨dx, ?_⟩
    rw [upd_same]
    unfold nTop nBot
    rw [e]
    rfl
  · have e : shr t b = (Int.gcd t b : Int) := if_neg (by simpa using c)
    refine ⟨_, rfl, _, rfl, _, _, rfl, rfl, ⟨by rw [← e]; exact hs0, by rw [← e]; exact hs1⟩, _, rfl, x, _, dx, _, rfl, hx, T.cl_Ratio, T.na_Ratio_top, (by show 0 < 1000; decide), ?_⟩
    refine ⟨_, rfl, _, rfl, _, _, rfl, rfl, ⟨by rw [← e]; exact hs0, by rw [← e]; exact hs1⟩, _, rfl, x, _, dx, _, rfl, upd_same, T.cl_Ratio, T.na_Ratio_bottom, (by show 1 < 1000; decide), ?_⟩
    refine k _ (fun c o h hc => by rw [upd_ne hc, upd_ne hc]; exact h) ⟨dx, ?_⟩
    rw [upd_same]
    unfold nTop nBot
    rw [e]
    rfl
theorem ok_Ratio2 (T : Tx K mg) : FnR P w K mg base (L2.CX P w) 2 (He.ma K (He.ga K "Ratio") "__init__") (fun vs H Q E => spRat K (vs ++ []) H Q E) := by
  obtain ⟨fd, F⟩ := T.d_Ratio_init
  exact EM.fnr_dfl 3 1 F sc_Ratio_init (by intro z; cases z) rfl (fun T kV doc pm an cdv ct us its h1 h2 => match us, h1, its, h2 with | [_, _, _], _, [_], _ => ⟨_, rfl, rfl⟩) len_rat (bod_rat T _)
theorem ok_Ratio1 (T : Tx K mg) : FnR P w K mg base (L2.CX P w) 2 (He.ma K (He.ga K "Ratio") "__init__") (fun vs H Q E => spRat K (vs ++ [.int 1]) H Q E) := by
  obtain ⟨fd, F⟩ := T.d_Ratio_init
  exact EM.fnr_dfl 2 0 F sc_Ratio_init (by intro z; cases z) rfl (fun T kV doc pm an cdv ct us its h1 h2 => match us, h1, its, h2 with | [_, _], _, [_], _ => ⟨_, rfl, rfl⟩) len_rat (bod_rat T _)
end
end K10
namespace K10
open PySem PySem.Spec PyProof.Rows L2 EM
theorem text_len {ws : List Int} (h : good ws) : (textOf ws).length ≤ 640 := by
  show (Builtin.Str.glued "-" (ws.map fun i => Str.ofString (toString i))).length ≤ _
  rw [size_glued]
  have h1 := sum4 ws h.2.2.2
  have h2 : ("-" : Str).length = 1 := by decide +kernel
  have h3 := h.2.2.1
  rw [h2, List.length_map]
  omega
def spLaw (K : PySem.W.Frag) : Sp := fun vs H Q _ => ∃ (a : Addr) (ns : List Int), vs = [.ref a] ∧ SqL K H a (ns.map V.int) ∧ ns.length ≤ 63 ∧ ∀ H', Q (.bl true) H'
section
variable {P : Program} {w : World} {K : PySem.W.Frag} {mg : Str → Option Value} {base : Heap}
theorem ok_law (T : Tx K mg) : FnG P w K mg base (L2.CX P w) 10 (He.ga K "law") (spLaw K) := by
  obtain ⟨fd, F⟩ := T.d_law
  refine EM.fng F sc_law (fun _ _ _ _ _ _ us hl => match us, hl with | [_], _ => rfl) (fun vs H Q E h => ?_) (fun cdv A outer s H vs Q E hr hG h => ?_)
  · obtain ⟨a, ns, rfl, _⟩ := h
    rfl
  · obtain ⟨a, ns, rfl, hS, hl, k⟩ := h
    have hu70 : (A.deeper (envOfC "law" (defScope s_law) s.heap.objs.size (He.ga K "law") cdv)).units + 70 < cLine := by have := hr.un; omega
    have r1 : ("-" : Str).length = 1 := by decide +kernel
    have rk := rokT [0, 0] (fun x hx => by
      simp only [List.mem_cons, List.not_mem_nil, or_false] at hx
      rcases hx with rfl | rfl <;> decide) (by show 2 ≤ 5000; decide)
    refine ⟨_, (PSs.nox (pss_cons (ps_set (i := 1) sc_law.nd rfl (Or.inr rfl) (EM.pe_cR (ok_Lpen T) (hr.mono (by decide)) T.k__law_pen T.g__law_pen passL (pa_cons (pv 0) pa_nil)))
 (pss_cons (ps_for PassesOwn.never rfl (pi_range1 (by rfl) T.f_range (pa_cons pe_int pa_nil)) (pg_name (i := 2) sc_law.nd rfl (Or.inl rfl))
  (pss_cons (ps_set (i := 3) sc_law.nd rfl (Or.inl rfl) (EM.pe_cR (ok_Lwidths T) (hr.mono (by decide)) T.k__law_widths T.g__law_widths passL (pa_cons (pv 1) (pa_cons pe_int pa_nil))))
 (pss_cons (ps_if (pt_cmpR op_eq (EM.pe_cR (ok_Ldraw T) (hr.mono (by decide)) T.k__law_draw T.g__law_draw passL (pa_cons (pv 1) (pa_cons pe_int pa_nil))) pe_int (nomark _))
  (pss_one (ps_setLc (i := 3) (own := [("_law_k", 4)]) (g := gName 4) (te := tOp (rI0 fun i j => .int (i + j)) (tC (.int 1)) (tCR spDraw E0 (tCons (tVar 1) (tCons (tC (.int 1000)) tNil)))) rfl sc_law.nd rfl rfl (sw_true rfl rfl rfl (by decide +kernel)) (pi_range1 (by rfl) T.f_range (pa_cons pe_int pa_nil)) (blkOk_by (N := ["_law_script", "_law_pen_here", "_law_turn", "_law_row", "_law_k", "_law_written", "_law_width", "_law_again", "_law_bent_here", "_law_thing"]) (sc := defScope s_law) (by decide +kernel)) (fun _ _ _ _ _ => (pg_name (i := 4) sc_law.nd rfl (Or.inl rfl))) (fun _ _ _ _ _ => pts_nil) (fun _ _ _ _ _ => (pe_op op_add pe_int (EM.pe_cR (ok_Ldraw T) (hr.mono (by decide)) T.k__law_draw T.g__law_draw passL (pa_cons (pv 1) (pa_cons pe_int pa_nil))))))) pss_nil)
 (pss_cons (ps_set (i := 5) sc_law.nd rfl (Or.inl rfl) (pe_m1 PySem.F.slot_str_join PySem.F.type_str_join mt_join pe_str (pe_lc (own := [("_law_width", 6)]) (g := gName 6) rfl sc_law.nd (pi_list (pv 3)) (blkOk_by (N := ["_law_script", "_law_pen_here", "_law_turn", "_law_row", "_law_k", "_law_written", "_law_width", "_law_again", "_law_bent_here", "_law_thing"]) (sc := defScope s_law) (by decide +kernel)) (fun _ _ _ _ _ => (pg_name (i := 6) sc_law.nd rfl (Or.inl rfl))) (fun _ _ _ _ _ => pts_nil) (fun _ _ _ _ _ => (pe_callTy call_str_int (by rfl) T.f_str (by decide +kernel) (pa_cons (pv 6) pa_nil))))))
 (pss_cons (ps_if (PW.pt (pw_or (pt_cmpR op_ne (pe_callTy (EM.call_strO T.m_Mark_str.at_ T.m_Mark_str.fn (ok_Mark_str T) (hr.mono (by decide)) passL) (by rfl) T.f_str (by decide +kernel) (pa_cons (ClX.pe_cmeth (pe_glob (v := .ref (He.ga K "Mark")) (by rfl) T.g_Mark rfl) T.cr_Mark T.cm_Mark_of (ok_Mark_of T) (hr.mono (by decide)) passL (pa_cons (pv 3) pa_nil)) pa_nil)) (pv 5) (nomark _)) (pw_or (pt_not (pt_val (EM.pe_cG (ok_Lread_right T) (hr.mono (by decide)) hG T.k__law_read_right T.g__law_read_right passL (pa_cons (pv 5) pa_nil)))) (pw_or1 (pt_not (pt_val (EM.pe_cG (ok_Lread_right T) (hr.mono (by decide)) hG T.k__law_read_right T.g__law_read_right passL (pa_cons (EM.pe_cR (ok_Llong T) (hr.mono (by decide)) T.k__law_long T.g__law_long passL (pa_cons (pv 1) pa_nil)) pa_nil))))))))
  (pss_one (ps_ret pe_bl)) pss_nil)
 (pss_cons (ps_for PassesOwn.never rfl (pi_range1 (by rfl) T.f_range (pa_cons pe_int pa_nil)) (pg_name (i := 7) sc_law.nd rfl (Or.inl rfl))
  (pss_cons (ps_set (i := 8) sc_law.nd rfl (Or.inl rfl) (EM.pe_cR (ok_Lbent T) (hr.mono (by decide)) T.k__law_bent T.g__law_bent passL (pa_cons (pv 1) (pa_cons (pv 5) pa_nil))))
 (pss_cons (ps_if (pt_cmpR op_eq (EM.pe_cR (ok_Ldraw T) (hr.mono (by decide)) T.k__law_draw T.g__law_draw passL (pa_cons (pv 1) (pa_cons pe_int pa_nil))) pe_int (nomark _))
  (pss_one (ps_set (i := 8) sc_law.nd rfl (Or.inl rfl) (EM.pe_cR (ok_Lbent T) (hr.mono (by decide)) T.k__law_bent T.g__law_bent passL (pa_cons (pv 1) (pa_cons (pv 8) pa_nil))))) pss_nil)
 (pss_one (ps_if (pt_not (pt_val (EM.pe_cG (ok_Lread_right T) (hr.mono (by decide)) hG T.k__law_read_right T.g__law_read_right passL (pa_cons (pv 8) pa_nil))))
  (pss_one (ps_ret pe_bl)) pss_nil)))))
 (pss_cons (ps_set (i := 9) sc_law.nd rfl (Or.inl rfl) (EM.pe_cR (ok_Lpick T) (hr.mono (by decide)) T.k__law_pick T.g__law_pick passL (pa_cons (pv 1) (pa_cons (pe_lst (pa_cons pe_non (pa_cons pe_int (pa_cons pe_int (pa_cons pe_bl (pa_cons (pe_tup (pa_cons pe_str (pa_cons pe_str (pa_cons pe_str pa_nil)))) (pa_cons (pe_lst (pa_cons pe_str pa_nil)) (pa_cons (pe_dnewK) (pa_cons (EM.pe_mkR T.mk_Ratio (ok_Ratio1 T) (hr.mono (by decide)) T.g_Ratio passL (pa_cons pe_int pa_nil)) (pa_cons (ClX.pe_cmeth (pe_glob (v := .ref (He.ga K "Mark")) (by rfl) T.g_Mark rfl) T.cr_Mark T.cm_Mark_of (ok_Mark_of T) (hr.mono (by decide)) passL (pa_cons (pv 3) pa_nil)) pa_nil)))))))))) pa_nil))))
 (pss_one (ps_if (pt_cmpR op_ne (pe_callB (EM.call_reprD hG hu70) (by rfl) T.f_repr (by decide +kernel) (pa_cons (EM.pe_cR (ok_Lheard T) (hr.mono (by decide)) T.k__law_heard T.g__law_heard passL (pa_cons (pv 9) pa_nil)) pa_nil)) (pe_callB (EM.call_reprD hG hu70) (by rfl) T.f_repr (by decide +kernel) (pa_cons (pe_tup (pa_cons pe_int (pa_cons pe_int pa_nil))) pa_nil)) (nomark _))
  (pss_one (ps_ret pe_bl)) pss_nil)))))))))
 (pss_one (ps_ret pe_bl))))), ?_⟩
    refine ⟨_, rfl, a, ns, rfl, hS, hl, fun p l H1 s1 np P1 => ?_⟩
    -- for turn in range(5)
    refine ⟨5, rfl, by decide, by decide, for_range (n := 5) (fun i σ H2 => ∃ v2 v3 v5 v7 v8 v9 : Option V, σ = [some (.ref a), some (.ref p), v2, v3, none, v5, none, v7, v8, v9] ∧ Pen H2 p l (400 * i)) ⟨none, none, none, none, none, none, rfl, P1⟩ ?_ ?_⟩
    · rintro i σ H2 hi ⟨v2, v3, v5, v7, v8, v9, rfl, P2⟩
      -- row = widths(pen, 5)
      refine ⟨_, rfl, p, l, 400 * i, 5, rfl, P2, by omega, by decide, by decide, fun D0 ws0 H3 hg0 hl0 k3 nD0 nDp0 hD0 P3 => ?_⟩
      refine ⟨_, rfl, p, l, _, 8, rfl, P3, by omega, by decide, by decide, fun d4 H4 d40 d41 k4 P4 => ⟨rfl, _, rfl, ite_rest (fun σ H5 => ∃ (D : Addr) (ws : List Int) (v2 v5 v7 v8 v9 : Option V), σ = [some (.ref a), some (.ref p), v2, some (.ref D), none, v5, none, v7, v8, v9] ∧ good ws ∧ D ≠ p ∧ H5 D = some (.lst (ws.map V.int)) ∧ Pen H5 p l (400 * i + 165)) ?_ (fun rest c => ?_) (fun c => ?_)⟩⟩
      · rintro σ H5 ⟨D, ws, v2, v5, v7, v8, v9, rfl, hg, nD, hD, P5⟩
        have tl := text_len hg
        -- written
        refine ⟨⟨_, rfl⟩, _, rfl, D, rfl, ⟨_, SqL.of hD⟩, fun L hL => lc_it (walk_list (K := K) (a := D) (xs := ws.map V.int)) (fun j H6 => Same H5 H6 ∧ H6 L = some (.lst (((ws.take j).map fun i => Str.ofString (toString i)).map V.str))) ⟨same_upd hL, upd_same⟩ (fun _ _ _ ⟨s6, _⟩ => SqL.of (s6 _ _ hD)) ?_ ?_⟩
        · rintro j y H6 H7 hj ⟨s6, h6⟩ ⟨rfl, hy⟩
          obtain ⟨z, hz, rfl⟩ := map_at hy
          have hb := hg.2.2.2 z (List.mem_of_getElem? hz)
          refine ⟨rfl, yes ⟨_, rfl, z, rfl, num_log (by omega) hb.2, _, h6, ?_, same_upd' s6 hL, ?_⟩⟩
          · rw [List.length_map, List.length_map, List.length_take]
            exact szl (by have := hg.2.2.1; omega)
          · rw [upd_same, take_snoc hz, List.map_append, List.map_append]
            rfl
        rintro H6 ⟨s6, h6⟩
        rw [List.take_of_length_le (by rw [List.length_map]; exact Nat.le_refl _)] at h6
        refine ⟨_, L, _, rfl, rfl, .inl (SqL.of h6), ?_, ?_⟩
        · have h7 := sum4 ws hg.2.2.2
          have h8 := hg.2.2.1
          rw [r1, List.length_map]
          omega
        -- the three tests
        refine ⟨rfl, _, rfl, _, D, ws, rfl, .inl (s6 _ _ hD), hg, fun m H7 s7 mm => ?_⟩
        obtain ⟨_, dx, wp, ep, sp, g1, _⟩ := id mm
        refine ⟨m, dx, _, rfl, g1, m, ws, rfl, mm, fun H8 s8 => ⟨_, rfl, _, rfl, rfl, _, rfl, ifN (by show (!decide (V.str (textOf ws) = V.str (textOf ws))) = false; simp) ?_⟩⟩
        refine ⟨_, rfl, textOf ws, rfl, by omega, fun H9 s9 => ⟨_, rfl, ifN rfl ?_⟩⟩
        have s59 := ((s6.trans s7).trans s8).trans s9
        refine ⟨_, rfl, p, l, _, rfl, P5.same s59, by omega, fun b H10 hb k10 P10 => ⟨b, rfl, by omega, fun H11 s11 => ⟨_, rfl, ifN rfl ?_⟩⟩⟩
        have hD11 : H11 D = some (.lst (ws.map V.int)) := s11 _ _ (k10 _ _ (s59 _ _ hD) nD)
        -- for again in range(6)
        refine ⟨6, rfl, by decide, by decide, for_range (n := 6) (fun j σ H' => ∃ v7 v8, σ = [some (.ref a), some (.ref p), v2, some (.ref D), none, some (.str (textOf ws)), none, v7, v8, v9] ∧ Keep p H11 H' ∧ Pen H' p l (400 * i + 170 + 20 * j)) ⟨_, _, rfl, Keep.refl, (P10.same s11).mono (by omega)⟩ ?_ ?_⟩
        · rintro j σ H12 hj ⟨v7, v8, rfl, k12, P12⟩
          refine ⟨_, rfl, _, rfl, p, l, _, textOf ws, rfl, P12, by omega, by omega, fun b1 H13 hb1 k13 P13 => ?_⟩
          refine ⟨_, rfl, p, l, _, 3, rfl, P13, by omega, by decide, by decide, fun d H14 _ _ k14 P14 => ⟨rfl, _, rfl, ite_rest (fun σ H' => ∃ b v7, σ = [some (.ref a), some (.ref p), v2, some (.ref D), none, some (.str (textOf ws)), none, v7, some (.str b), v9] ∧ b.length ≤ 9000 ∧ Keep p H11 H' ∧ Pen H' p l (400 * i + 170 + 20 * (j + 1))) ?_ (fun rest _ => ?_) (fun _ => ?_)⟩⟩
          · rintro σ H' ⟨b, v7, rfl, hb, k', P'⟩
            exact ⟨_, rfl, b, rfl, by omega, fun H2 s2 => ⟨_, rfl, ifN rfl ⟨_, _, rfl, k'.trans (Keep.of s2), P'.same s2⟩⟩⟩
          · exact ⟨_, rfl, _, rfl, p, l, _, b1, rfl, P14, by omega, by omega, fun b2 H15 hb2 k15 P15 => rest _ _ ⟨b2, _, rfl, by omega, ((k12.trans k13).trans k14).trans k15, P15.mono (by omega)⟩⟩
          · exact ⟨b1, _, rfl, by omega, (k12.trans k13).trans k14, P14.mono (by omega)⟩
        rintro σ H12 ⟨v7, v8, rfl, k12, P12⟩
        have hD12 := k12 _ _ hD11 nD
        -- thing = pick(pen, [..])
        refine ⟨_, rfl, (by show 3 ≤ sizeLine; decide), fun tp htp => ⟨(by show 1 ≤ sizeLine; decide), fun lp hlp dp hdp => ?_⟩⟩
        have s1 := same_upd (o := .tup [V.str "1", V.str "1", V.str "1"]) htp
        have s2 := same_upd (o := .lst [V.str "1-1-1"]) hlp
        have s3 := same_upd (o := .dK []) hdp
        have et := s3 _ _ (s2 _ _ (upd_same (H := H12) (a := tp) (o := .tup [V.str "1", V.str "1", V.str "1"])))
        have el := s3 _ _ (upd_same (H := upd H12 tp (.tup [V.str "1", V.str "1", V.str "1"])) (a := lp) (o := .lst [V.str "1-1-1"]))
        have ed := upd_same (H := upd (upd H12 tp (.tup [V.str "1", V.str "1", V.str "1"])) lp (.lst [V.str "1-1-1"])) (a := dp) (o := .dK [])
        have ntp := (P12.ne htp).1
        have nlp := ((P12.same s1).ne hlp).1
        have ndp := (((P12.same s1).same s2).ne hdp).1
        have P15 := ((P12.same s1).same s2).same s3
        have hD15 := s3 _ _ (s2 _ _ (s1 _ _ hD12))
        intro x dx hx hdx ndx
        refine ⟨x, dx, 1, 1, rfl, upd_same, by decide, by decide, fun H16 k16 rat => ⟨rfl, ?_⟩⟩
        have s16 : Same _ H16 := fun b o e => k16 b o (by rw [upd_ne (ne_of_none e hx), upd_ne (ne_of_none e hdx)]; exact e) (ne_of_none e hx)
        have P16 := P15.same s16
        have nxp := (P15.ne hx).1
        refine ⟨rfl, _, rfl, _, D, ws, rfl, .inl (s16 _ _ hD15), hg, fun m H17 s17 mm => ⟨(by show 9 ≤ sizeLine; decide), fun LL hLL => ?_⟩⟩
        have P17 := P16.same s17
        obtain ⟨_, dm, wp, ep, sp, g1, _⟩ := id mm
        obtain ⟨dr, rat⟩ := rat
        have nmp : m ≠ p := by
          obtain ⟨cells, at_, rest_, h1, _⟩ := P17
          exact ne_of g1 h1 (by intro z; cases z)
        refine ⟨p, l, _, LL, _, rfl, P17.same (same_upd hLL), by omega, upd_same, (P17.ne hLL).1, (by show 1 ≤ 9; decide), (by show 9 ≤ 1000000; decide), fun v H18 hv k18 P18 => ?_⟩
        obtain ⟨ty, hty, hkt⟩ : ∃ t, TyX K H18 v t ∧ PySem.W.kitOne K t (.type "str") = some false := by
          have up : ∀ {b : Addr} {o : HO}, H17 b = some o → b ≠ p → H18 b = some o := fun e n => k18 _ _ (same_upd hLL _ _ e) n
          simp only [List.mem_cons, List.not_mem_nil, or_false] at hv
          rcases hv with rfl | rfl | rfl | rfl | rfl | rfl | rfl | rfl | rfl
          · exact ⟨_, .base .non, kit_ty (by decide +kernel)⟩
          · exact ⟨_, .base (.int _), kit_ty (by decide +kernel)⟩
          · exact ⟨_, .base (.int _), kit_ty (by decide +kernel)⟩
          · exact ⟨_, .base (.bl _), kit_ty (by decide +kernel)⟩
          · exact ⟨_, .base (.tup (up (s17 _ _ (s16 _ _ et)) ntp)), kit_ty (by decide +kernel)⟩
          · exact ⟨_, .base (.lst (up (s17 _ _ (s16 _ _ el)) nlp)), kit_ty (by decide +kernel)⟩
          · exact ⟨_, .base (.dK (up (s17 _ _ (s16 _ _ ed)) ndp)), kit_ty (by decide +kernel)⟩
          · exact ⟨_, isiB_ty T.isi_Ratio T.cl_Ratio (up (s17 _ _ rat) nxp), T.kit_RatioStr⟩
          · exact ⟨_, isiB_ty T.isi_Mark T.cl_Mark (up g1 nmp), T.kit_MarkStr⟩
        -- repr(heard(thing)) != repr((0, 0))
        refine ⟨_, rfl, _, rfl, .inr ⟨ty, hty, hkt, fun q H19 s19 nq hq => ?_⟩⟩
        refine ⟨_, dT [0, 0], rfl, .tup (SqT.of hq) (dp_ints [0, 0]), rk.sh, rk.ln, rk.dp, (by show 2 ≤ sizeLine; decide), fun q2 hq2 => ?_⟩
        refine ⟨_, dT [0, 0], rfl, .tup (SqT.of upd_same) (dp_ints [0, 0]), rk.sh, rk.ln, rk.dp, rfl, _, rfl, ifN (by simp) ?_⟩
        exact ⟨_, _, _, _, _, _, rfl, ((P18.same s19).same (same_upd hq2)).mono (by omega)⟩
      · -- a row of 127 widths
        refine ⟨127, rfl, by decide, by decide, fun D hD => lc_it walk_range
          (fun q H8 => Pen H8 p l (400 * i + 31 + q) ∧ ∃ ws : List Int, ws.length = q ∧ H8 D = some (.lst (ws.map V.int)) ∧ ∀ x ∈ ws, 1 ≤ x ∧ x ≤ 1000) ?_ (fun _ _ _ _ => trivial) ?_ ?_⟩
        · obtain ⟨n3, n4⟩ := P4.ne hD
          exact ⟨P4.mut n3 n4, [], rfl, upd_same, fun x hx => absurd hx (by simp)⟩
        · rintro q z H8 H9 hq ⟨P8, ws, hwl, hD8, hws⟩ ⟨rfl, rfl⟩
          obtain ⟨n3, n4⟩ := P4.ne hD
          have hq' : q < 127 := hq
          refine ⟨rfl, yes ⟨_, rfl, p, l, _, 1000, rfl, P8, by omega, by decide, by decide, fun e H10 e0 e1 k10 P10 => ⟨_, _, rfl, rfl, _, k10 _ _ hD8 n3, ?_, P10.mut n3 n4, ws ++ [1 + e], ?_, ?_, fun x hx => ?_⟩⟩⟩
          · rw [List.length_map]; exact szl (by omega)
          · rw [List.length_append, hwl]; rfl
          · rw [upd_same, List.map_append]; rfl
          · rcases List.mem_append.mp hx with hx | hx
            · exact hws x hx
            · rw [List.mem_singleton.mp hx]; omega
        rintro H8 ⟨P8, ws, hwl, hD8, hws⟩
        have hwl' : ws.length = 127 := hwl
        exact rest _ _ ⟨D, ws, _, _, _, _, _, rfl, ⟨by omega, by omega, by omega, hws⟩, (P4.ne hD).1, hD8, P8.mono (by show _ + 127 ≤ _; omega)⟩
      · exact ⟨D0, ws0, _, _, _, _, _, rfl, hg0, nDp0, k4 _ _ hD0 nDp0, P4.mono (by omega)⟩
    · rintro σ H2 ⟨v2, v3, v5, v7, v8, v9, rfl, P2⟩
      exact k H2
end
end K10
namespace K10
open PySem PySem.Spec PyProof.Rows L2
abbrev R : PySem.W.OpenRow := PySem.W.OpenLaw.row PySem.Challenge.rw_edgesmeet_k10_texts_of_marks
abbrev hk : PySem.W.Hook := EM.hookF 5 fa fn
def ob (s : PySem.W.SharedT) : He.AlD := EM.obsFG 5 fa fn (HandSHeadRun.getT s)
theorem ob_eq (s : PySem.W.SharedT) : ob s = hk.obs s.abs := EM.obsFG_eq (HandSHeadRun.getT_eq s)
def nm0 : List PySem.Str := ["_wall", "__name__", "EdgeError", "BadRatio", "NoDivisor", "BadMark", "NoEdge", "Unlike", "BadText", "FIGURES", "is_figures", "MOST_DIGITS", "is_integer", "common_divisor", "Ratio", "numbers_of", "MOST_WIDTH", "MOST_WIDTHS", "WIDTH_DIGITS", "is_between", "edges_of", "Mark", "_law_pen", "_law_draw", "_law_pick", "_law_widths", "_law_is_width", "_law_due", "_law_bent", "_law_long"]
def nm1 : List PySem.Str := ["_law_heard", "_law_read_right"]
def names : List PySem.Str := nm0 ++ nm1
set_option maxHeartbeats 0 in
theorem run (w : World) : HandSHeadRun.RunEq R (PySem.W.view R.prog [36]) hk ob 20000 names w := by
  intro os
  kernel_rfl
end K10
open PySem PySem.W PySem.Calls PyProof.Rows
set_option maxHeartbeats 0 in
theorem PySem.Challenge.cw_edgesmeet_k10_texts_of_marks_holds : PySem.Challenge.rw_edgesmeet_k10_texts_of_marks.Holds := by
  w_on; o_law
  refine HandSHeadRun.head_any (r := OpenLaw.row PySem.Challenge.rw_edgesmeet_k10_texts_of_marks) (q := view (OpenLaw.row PySem.Challenge.rw_edgesmeet_k10_texts_of_marks).prog [36]) (H := K10.hk) (ob := K10.ob) (M := 20000) (loose := K10.names) (d := HandSHeadRun.topDef (OpenLaw.row PySem.Challenge.rw_edgesmeet_k10_texts_of_marks).prog 36) (kwd := []) K10.ob_eq
    (by kernel_rfl) (fun s => by kernel_rfl) K10.run (by kernel_rfl) (by kernel_rfl) (by kernel_rfl) (by rfl) (by first | assumption | decide +kernel) (by decide +kernel) ⟨rfl, rfl, rfl, rfl, rfl, by decide +kernel⟩ ?hw ?hc
  case hw => w_witness2
  case hc =>
    refine EM.walkG (l := PySem.Challenge.rw_edgesmeet_k10_texts_of_marks) (n := 63) (k := 10) rfl (by decide) (by kernel_rfl) ⟨rfl, by decide, by decide⟩ ?F ?Z
    case Z =>
      rintro w H s e s' ⟨_, _, _, _, _, _, _, _, _, _, _, _, z⟩
      exact z
    intro w mg fa h Y G hmg0
    obtain ⟨K, KX, c⟩ := Y
    have hmg : mg ("law" : PySem.Str) = some (.ref fa) := by
      have e : (HandSHeadRun.topDef (OpenLaw.row PySem.Challenge.rw_edgesmeet_k10_texts_of_marks).prog 36).name = ("law" : PySem.Str) := by kernel_rfl
      rw [← e]
      exact hmg0
    have T : K10.Tx K mg := ⟨c, h, KX, G⟩
    have e := hmg.symm.trans T.g_law
    cases e
    exact ⟨K, K10.spLaw K, KX, fun H a ns hl hS => ⟨a, ns, rfl, hS, hl, fun _ => rfl⟩, fun base _ _ => K10.ok_law T⟩
