import PyProof.Rows.All
import Wide.All
import OpenK.AllK
import Wide.FinOn
import KE.KStateDown
import KE.KOpsOwn
import HandS.ForMost
import HandS.ForExc
import HandS.Wide
import HandS.Defaults
import HandS.Star
import HandS.ClsMeth
import HandS.IsInst
import HandS.OwnEq
import HandS.Walk
import HandS.Zip
import HandS.Style
import HandS.Property
import HandS.Head0
import HandS.Head1
import HandS.Head2
import HandS.HeadEnd
import HandS.HeadHook1
import HandS.HeadHook2
import HandS.HeadNt
import HandS.SlotsOwn
import KE.GoesEnum
import KE.GoesMore
import HandS.MakeKw
import HandS.Evl
import PyProof.ReprRoads
import PyProof.ReprReads
import HandS.ExcInit
import HandS.ExcField
import HandS.TryMany
import HandS.Small
import KE.IntTextText
import KE.IntTextLaws
import HandS.Text
import HandS.Codes
import HandS.AnyAll
import PyProof.NeKinds
import PyProof.EqAt
import KE.KCallOwn
import PyProof.StrBlockL
import PyProof.Rows.RegStrFacts
import HandS.ReplaceLit
import KE.KFmtOwn
import HandS.FStr
import HandS.Lambda
import HandS.EndTab
import HandS.HeadHook4
import KE.KNestM
import HandS.MakeKwOnly
import OpenK.KMeth
import PyProof.TwoTypes
import OpenK.KOps
import PyProof.Rows.FactsN_abs
import PyProof.Rows.Range3
import HandS.ExcOwn
import HandS.ExcValue
import KE.KExcIs
import HandS.ExcIs
import KE.KEqNest
import PyProof.StrLawsRepr
import HandS.ExcBuiltin
import PySem.Challenge.RW_edgesmeet_k41_answers_of_duels
set_option Elab.async false
set_option linter.all false
set_option maxRecDepth 100000
set_option maxHeartbeats 4000000
namespace EM
open PySem PySem.Spec PyProof.Rows L2
abbrev Fk := PySem.W.Frag → Bool
def obsF (fa : List Fk) (fn : List He5.DefA) (K : PySem.W.Frag) : He.AlD := ((fa.all fun f => f K) && fn.all fun d => d.ok K, fn.map fun d => He5.fnA K (d.at_ K))
def valF (fn : List He5.DefA) : He.AlD := (true, fn.map He5.DefA.val)
def SaysF (fa : List Fk) (fn : List He5.DefA) (K : PySem.W.Frag) : Prop := obsF fa fn K = valF fn
def codeV (K : PySem.W.Frag) (f : Addr) : Value := match K.lookup f with
  | some ⟨_, _, .func fd, _⟩ => fd.code
  | _ => .none
def cA (K : PySem.W.Frag) (f : Addr) : Addr := match codeV K f with
  | .ref c => c
  | _ => 0
def tA (K : PySem.W.Frag) (f : Addr) : Addr := match K.lookup (cA K f) with
  | some ⟨_, _, .fields vs, _⟩ => (match (vs[11]? : Option Value) with
    | some (.ref q) => q
    | _ => 0)
  | _ => 0
def isR : Value → Bool
  | .ref _ => true
  | _ => false
theorem code_ref {K : PySem.W.Frag} {f : Addr} (h : isR (codeV K f) = true) : codeV K f = .ref (cA K f) := by
  unfold cA
  cases e : codeV K f <;> rw [e] at h <;> first | rfl | cases h
def tabB (g : Addr → Option Obj) (K : PySem.W.Frag) (f : Addr) : Bool := isR (codeV K f) && (PySem.W.codeHdIn K (cA K f) (tA K f) && (match g (tA K f) with
  | some o => He.emptyTab o
  | none => false))
/-- what is known of the def's table -/
structure TabK (K : PySem.W.Frag) (f : Addr) : Prop where
  code : codeV K f = .ref (cA K f)
  hd : PySem.W.codeHdIn K (cA K f) (tA K f) = true
  out : K.lookup (tA K f) = none
abbrev Tf := PySem.W.Frag → Addr
def SaysT (fa : List Fk) (fn : List He5.DefA) (tf : List Tf) (h : Heap) (K : PySem.W.Frag) : Prop := SaysF fa fn K ∧ ∀ t ∈ tf, TabK K (t K) ∧ h.get? (tA K (t K)) = some { cls := .none, data := .fields #[] }
def obsTG (n : Nat) (fa : List Fk) (fn : List He5.DefA) (tf : List Tf) (g : Addr → Option Obj) : He.AlD × Bool := (obsF fa fn (He.frT g (He5.asA g n)), tf.all fun t => tabB g (He.frT g (He5.asA g n)) (t (He.frT g (He5.asA g n))))
theorem saysT_of {n : Nat} {fa : List Fk} {fn : List He5.DefA} {tf : List Tf} {h : Heap} (e : obsTG n fa fn tf h.get? = (valF fn, true)) : SaysT fa fn tf h (He.frT h.get? (He5.asA h.get? n)) := by
  have e1 : obsF fa fn (He.frT h.get? (He5.asA h.get? n)) = valF fn := congrArg (fun z : He.AlD × Bool => z.1) e
  have e2 : (tf.all fun t => tabB h.get? (He.frT h.get? (He5.asA h.get? n)) (t (He.frT h.get? (He5.asA h.get? n)))) = true := congrArg (fun z : He.AlD × Bool => z.2) e
  refine ⟨e1, fun t ht => ?_⟩
  have h1 := List.all_eq_true.mp e2 t ht
  generalize t (He.frT h.get? (He5.asA h.get? n)) = f at h1 ⊢
  obtain ⟨h2, h1⟩ := He.ba h1
  obtain ⟨h3, h4⟩ := He.ba h1
  cases q : h.get? (tA (He.frT h.get? (He5.asA h.get? n)) f) with
  | none =>
    rw [q] at h4
    cases h4
  | some o =>
    rw [q] at h4
    exact ⟨⟨code_ref h2, h3, He.frT_none q h4⟩, by rw [He.emptyTab_eq h4]⟩
def hookT (n : Nat) (fa : List Fk) (fn : List He5.DefA) (tf : List Tf) : PySem.W.Hook where
  α := He.AlD × Bool
  obs := fun s => obsTG n fa fn tf s.heap.get?
  val := fun _ => (valF fn, true)
  says := fun _ h => ∃ K : PySem.W.Frag, K.In h ∧ SaysT fa fn tf h K
  of := fun _ _ e => ⟨_, He.frT_in, saysT_of e⟩
  keeps := fun _ _ _ ⟨K, hK, c⟩ k => ⟨K, PySem.W.Frag.In.keeps hK k, c.1, fun t ht => ⟨(c.2 t ht).1, k _ _ (c.2 t ht).2⟩⟩
theorem obsTG_eq {n : Nat} {fa : List Fk} {fn : List He5.DefA} {tf : List Tf} {g : Addr → Option Obj} {s : Shared} (h : ∀ a, g a = s.heap.get? a) : obsTG n fa fn tf g = (hookT n fa fn tf).obs s := by
  have e : g = s.heap.get? := funext h
  rw [e] <;> rfl
/-- what isinstance asks of an instance of the class at C -/
def isiB (K : PySem.W.Frag) (C : Addr) : Bool := He.eqO (PySem.W.findIn K (.ref C) "__class__") (some (some (.builtin "object.__class__"))) && (He.eqO (PySem.W.specialIn K (.builtin "object.__class__") "__get__") (some (some (.builtin "getset_descriptor.__get__"))) &&
  (decide (PySem.W.takesIn K (.builtin "object.__class__") = some true) && decide (PySem.W.mroIn K C (.type "object") = some true)))
/-- attributes of the class itself are read plainly -/
def creadB (K : PySem.W.Frag) (C : Addr) : Bool := PySem.W.readsIn K C (.type "type") && He.eqO (PySem.W.specialIn K (.ref C) "__getattribute__") (some (some (.builtin "type.__getattribute__")))
/-- a classmethod of the class -/
def cmetB (K : PySem.W.Frag) (C : Addr) (m : Str) : Bool := He5.wrapB K C "classmethod" "classmethod.__get__" m && PySem.W.fnIn K (He5.wf K C "classmethod" m)
/-- the getter of a property -/
def pf (K : PySem.W.Frag) (C : Addr) (f : Str) : Addr := match PySem.W.recIn K (He.ma K C f) "property" with
  | some (.ref g :: _) => g
  | _ => 0
def smetB (K : PySem.W.Frag) (C : Addr) (m : Str) : Bool := He5.wrapB K C "staticmethod" "staticmethod.__get__" m
def apartB (K : PySem.W.Frag) (C : Addr) : Bool := (["int", "NoneType", "bool", "str", "tuple", "list", "dict"] : List String).all fun T => decide (PySem.W.subIn K (.ref C) (.type T) = some false) && decide (PySem.W.subIn K (.type T) (.ref C) = some false)
def propB (K : PySem.W.Frag) (C : Addr) (f : Str) : Bool := decide (PySem.W.findIn K (.ref C) f = some (some (.ref (He.ma K C f)))) && decide (PySem.W.specialIn K (.ref (He.ma K C f)) "__get__" = some (some (.builtin "property.__get__"))) && decide (PySem.W.takesIn K (.ref (He.ma K C f)) = some true) &&
  (match PySem.W.recIn K (He.ma K C f) "property" with | some (.ref _ :: _) => true | _ => false)
def excB (K : PySem.W.Frag) (D : Addr) : Bool :=
  decide (PySem.W.findIn K (.ref D) "__getattribute__" = some (some (.builtin "BaseException.__getattribute__"))) && (decide (PySem.W.findIn K (.ref D) "__getattr__" = some none) && (decide (PySem.W.subIn K (.ref D) (.type "BaseException") = some true) && (PySem.W.hasDictIn K D && (decide (PySem.W.findIn K (.ref D) "__class__" = some (some (.builtin "object.__class__"))) &&
  (decide (PySem.W.specialIn K (.builtin "object.__class__") "__get__" = some (some (.builtin "getset_descriptor.__get__"))) && (decide (PySem.W.takesIn K (.builtin "object.__class__") = some true) && (decide (PySem.W.mroIn K D (.type "object") = some true) && (PySem.W.clsIn K D).isSome)))))))
theorem obsF_app (fa1 fa2 : List Fk) (fn1 fn2 : List He5.DefA) (K : PySem.W.Frag) : obsF (fa1 ++ fa2) (fn1 ++ fn2) K = ((obsF fa1 fn1 K).1 && (obsF fa2 fn2 K).1, (obsF fa1 fn1 K).2 ++ (obsF fa2 fn2 K).2) := by
  unfold obsF
  rw [List.all_append, List.all_append, List.map_append]
  congr 1
  cases fa1.all (fun f => f K) <;> cases fa2.all (fun f => f K) <;> simp
theorem obsF_join {fa1 fa2 : List Fk} {fn1 fn2 : List He5.DefA} {K : PySem.W.Frag} (h1 : obsF fa1 fn1 K = valF fn1) (h2 : obsF fa2 fn2 K = valF fn2) : obsF (fa1 ++ fa2) (fn1 ++ fn2) K = valF (fn1 ++ fn2) := by
  rw [obsF_app, h1, h2]
  unfold valF
  rw [List.map_append]
  rfl
theorem run_joinT {r : PySem.W.OpenRow} {q : Program} {M n : Nat} {loose : List Str} {w : World} {fa1 fa2 : List Fk} {fn1 fn2 : List He5.DefA} {tf : List Tf} (h1 : HandSHeadRun.RunEq r q (hookT n fa1 fn1 tf) (fun s => obsTG n fa1 fn1 tf (HandSHeadRun.getT s)) M loose w) (h2 : HandSHeadRun.RunEq r q (hookT n fa2 fn2 []) (fun s => obsTG n fa2 fn2 [] (HandSHeadRun.getT s)) M loose w) :
    HandSHeadRun.RunEq r q (hookT n (fa1 ++ fa2) (fn1 ++ fn2) tf) (fun s => obsTG n (fa1 ++ fa2) (fn1 ++ fn2) tf (HandSHeadRun.getT s)) M loose w := by
  intro os
  have a := h1 os
  have b := h2 os
  revert a b
  generalize HandSHeadRun.endF (HandSHeadRun.stepQ (HandSHeadRun.denQ HandSHeadRun.tabQ) r.prog w) M r.prog w os = z
  cases z with
  | none =>
    intro a
    cases a
  | some s =>
    intro a b
    have a' := Option.some.inj a
    have b' := Option.some.inj b
    injection a' with a1 a2
    injection a2 with a2 a3
    injection b' with b1 b2
    injection b2 with b2 b3
    have a4 : (obsF fa1 fn1 (He.frT (HandSHeadRun.getT s) (He5.asA (HandSHeadRun.getT s) n)), tf.all fun t => tabB (HandSHeadRun.getT s) (He.frT (HandSHeadRun.getT s) (He5.asA (HandSHeadRun.getT s) n)) (t (He.frT (HandSHeadRun.getT s) (He5.asA (HandSHeadRun.getT s) n)))) = (valF fn1, true) := a3
    have b4 : (obsF fa2 fn2 (He.frT (HandSHeadRun.getT s) (He5.asA (HandSHeadRun.getT s) n)), true) = (valF fn2, true) := b3
    injection a4 with a4 a5
    injection b4 with b4 _
    refine congrArg some ?_
    refine Prod.ext a1 (Prod.ext a2 ?_)
    show (obsF (fa1 ++ fa2) (fn1 ++ fn2) (He.frT (HandSHeadRun.getT s) (He5.asA (HandSHeadRun.getT s) n)), tf.all fun t => tabB (HandSHeadRun.getT s) (He.frT (HandSHeadRun.getT s) (He5.asA (HandSHeadRun.getT s) n)) (t (He.frT (HandSHeadRun.getT s) (He5.asA (HandSHeadRun.getT s) n)))) = (valF (fn1 ++ fn2), true)
    rw [obsF_join a4 b4, a5]
end EM
namespace K41
open PySem PySem.Spec PyProof.Rows L2
def top (i : Nat) : Stmt := PySem.Challenge.pw_edgesmeet_k41_answers_of_duels.main.body.getD i (.Pass ⟨0, 0, 0, 0⟩)
abbrev s_is_integer_ratios : Stmt := top 17
theorem sc_is_integer_ratios : FnScope ["thing"] ["thing"] (defScope s_is_integer_ratios) := ⟨rfl, rfl, rfl, by decide +kernel, rfl, by decide +kernel, by decide +kernel⟩
abbrev s_is_integer_fits : Stmt := top 35
theorem sc_is_integer_fits : FnScope ["value"] ["value"] (defScope s_is_integer_fits) := ⟨rfl, rfl, rfl, by decide +kernel, rfl, by decide +kernel, by decide +kernel⟩
abbrev s_common_divisor : Stmt := top 19
theorem sc_common_divisor : FnScope ["one", "other"] ["one", "other"] (defScope s_common_divisor) := ⟨rfl, rfl, rfl, by decide +kernel, rfl, by decide +kernel, by decide +kernel⟩
abbrev s_Ratio_init : Stmt := inClass (top 20) 0
theorem sc_Ratio_init : FnScope ["self", "top", "bottom", "shared"] ["self", "top", "bottom"] (defScope s_Ratio_init) := ⟨rfl, rfl, rfl, by decide +kernel, rfl, by decide +kernel, by decide +kernel⟩
abbrev s_Ratio_of : Stmt := inClass (top 20) 1
theorem sc_Ratio_of : FnScope ["number"] ["number"] (defScope s_Ratio_of) := ⟨rfl, rfl, rfl, by decide +kernel, rfl, by decide +kernel, by decide +kernel⟩
abbrev s_Ratio_is_number : Stmt := inClass (top 20) 2
theorem sc_Ratio_is_number : FnScope ["thing"] ["thing"] (defScope s_Ratio_is_number) := ⟨rfl, rfl, rfl, by decide +kernel, rfl, by decide +kernel, by decide +kernel⟩
abbrev s_Ratio_add : Stmt := inClass (top 20) 6
theorem sc_Ratio_add : FnScope ["self", "other", "right"] ["self", "other"] (defScope s_Ratio_add) := ⟨rfl, rfl, rfl, by decide +kernel, rfl, by decide +kernel, by decide +kernel⟩
abbrev s_Ratio_sub : Stmt := inClass (top 20) 8
theorem sc_Ratio_sub : FnScope ["self", "other"] ["self", "other"] (defScope s_Ratio_sub) := ⟨rfl, rfl, rfl, by decide +kernel, rfl, by decide +kernel, by decide +kernel⟩
abbrev s_Ratio_neg : Stmt := inClass (top 20) 16
theorem sc_Ratio_neg : FnScope ["self"] ["self"] (defScope s_Ratio_neg) := ⟨rfl, rfl, rfl, by decide +kernel, rfl, by decide +kernel, by decide +kernel⟩
abbrev s_Ratio_mul : Stmt := inClass (top 20) 10
theorem sc_Ratio_mul : FnScope ["self", "other", "right"] ["self", "other"] (defScope s_Ratio_mul) := ⟨rfl, rfl, rfl, by decide +kernel, rfl, by decide +kernel, by decide +kernel⟩
abbrev s_Ratio_radd : Stmt := inClass (top 20) 7
theorem sc_Ratio_radd : FnScope ["self", "other"] ["self", "other"] (defScope s_Ratio_radd) := ⟨rfl, rfl, rfl, by decide +kernel, rfl, by decide +kernel, by decide +kernel⟩
abbrev s_Ratio_rsub : Stmt := inClass (top 20) 9
theorem sc_Ratio_rsub : FnScope ["self", "other"] ["self", "other"] (defScope s_Ratio_rsub) := ⟨rfl, rfl, rfl, by decide +kernel, rfl, by decide +kernel, by decide +kernel⟩
abbrev s_Ratio_rmul : Stmt := inClass (top 20) 11
theorem sc_Ratio_rmul : FnScope ["self", "other"] ["self", "other"] (defScope s_Ratio_rmul) := ⟨rfl, rfl, rfl, by decide +kernel, rfl, by decide +kernel, by decide +kernel⟩
abbrev s_Ratio_eq : Stmt := inClass (top 20) 19
theorem sc_Ratio_eq : FnScope ["self", "other"] ["self", "other"] (defScope s_Ratio_eq) := ⟨rfl, rfl, rfl, by decide +kernel, rfl, by decide +kernel, by decide +kernel⟩
abbrev s_Ratio_lt : Stmt := inClass (top 20) 20
theorem sc_Ratio_lt : FnScope ["self", "other"] ["self", "other"] (defScope s_Ratio_lt) := ⟨rfl, rfl, rfl, by decide +kernel, rfl, by decide +kernel, by decide +kernel⟩
abbrev s_Ratio_le : Stmt := inClass (top 20) 21
theorem sc_Ratio_le : FnScope ["self", "other"] ["self", "other"] (defScope s_Ratio_le) := ⟨rfl, rfl, rfl, by decide +kernel, rfl, by decide +kernel, by decide +kernel⟩
abbrev s_Ratio_gt : Stmt := inClass (top 20) 22
theorem sc_Ratio_gt : FnScope ["self", "other"] ["self", "other"] (defScope s_Ratio_gt) := ⟨rfl, rfl, rfl, by decide +kernel, rfl, by decide +kernel, by decide +kernel⟩
abbrev s_Ratio_ge : Stmt := inClass (top 20) 23
theorem sc_Ratio_ge : FnScope ["self", "other"] ["self", "other"] (defScope s_Ratio_ge) := ⟨rfl, rfl, rfl, by decide +kernel, rfl, by decide +kernel, by decide +kernel⟩
abbrev s_Ratio_str : Stmt := inClass (top 20) 24
theorem sc_Ratio_str : FnScope ["self"] ["self"] (defScope s_Ratio_str) := ⟨rfl, rfl, rfl, by decide +kernel, rfl, by decide +kernel, by decide +kernel⟩
abbrev s_is_edge_count : Stmt := top 25
theorem sc_is_edge_count : FnScope ["many"] ["many"] (defScope s_is_edge_count) := ⟨rfl, rfl, rfl, by decide +kernel, rfl, by decide +kernel, by decide +kernel⟩
abbrev s_need_edge : Stmt := top 26
theorem sc_need_edge : FnScope ["thing", "many"] ["thing", "many"] (defScope s_need_edge) := ⟨rfl, rfl, rfl, by decide +kernel, rfl, by decide +kernel, by decide +kernel⟩
abbrev s_edges_of : Stmt := top 27
theorem sc_edges_of : FnScope ["numbers", "found", "at", "number"] ["numbers"] (defScope s_edges_of) := ⟨rfl, rfl, rfl, by decide +kernel, rfl, by decide +kernel, by decide +kernel⟩
abbrev s_moved : Stmt := top 29
theorem sc_moved : FnScope ["edges", "step", "edge"] ["edges", "step"] (defScope s_moved) := ⟨rfl, rfl, rfl, by decide +kernel, rfl, by decide +kernel, by decide +kernel⟩
abbrev s_stretched : Stmt := top 30
theorem sc_stretched : FnScope ["edges", "number", "factor", "edge"] ["edges", "number"] (defScope s_stretched) := ⟨rfl, rfl, rfl, by decide +kernel, rfl, by decide +kernel, by decide +kernel⟩
abbrev s_need_alike : Stmt := top 34
theorem sc_need_alike : FnScope ["one", "other"] ["one", "other"] (defScope s_need_alike) := ⟨rfl, rfl, rfl, by decide +kernel, rfl, by decide +kernel, by decide +kernel⟩
abbrev s_need_plain_weights : Stmt := top 37
theorem sc_need_plain_weights : FnScope ["weights", "count", "at", "weight"] ["weights", "count"] (defScope s_need_plain_weights) := ⟨rfl, rfl, rfl, by decide +kernel, rfl, by decide +kernel, by decide +kernel⟩
abbrev s_weighed : Stmt := top 38
theorem sc_weighed : FnScope ["weights", "numbers", "found", "weight", "number"] ["weights", "numbers"] (defScope s_weighed) := ⟨rfl, rfl, rfl, by decide +kernel, rfl, by decide +kernel, by decide +kernel⟩
abbrev s_Reading_init : Stmt := inClass (top 32) 0
theorem sc_Reading_init : FnScope ["self", "edges"] ["self", "edges"] (defScope s_Reading_init) := ⟨rfl, rfl, rfl, by decide +kernel, rfl, by decide +kernel, by decide +kernel⟩
abbrev s_Reading_of : Stmt := inClass (top 32) 1
theorem sc_Reading_of : FnScope ["cls", "edges"] ["cls", "edges"] (defScope s_Reading_of) := ⟨rfl, rfl, rfl, by decide +kernel, rfl, by decide +kernel, by decide +kernel⟩
abbrev s_Reading_edges : Stmt := inClass (top 32) 3
theorem sc_Reading_edges : FnScope ["self"] ["self"] (defScope s_Reading_edges) := ⟨rfl, rfl, rfl, by decide +kernel, rfl, by decide +kernel, by decide +kernel⟩
abbrev s_Reading_len : Stmt := inClass (top 32) 4
theorem sc_Reading_len : FnScope ["self"] ["self"] (defScope s_Reading_len) := ⟨rfl, rfl, rfl, by decide +kernel, rfl, by decide +kernel, by decide +kernel⟩
abbrev s_Reading_setitem : Stmt := inClass (top 32) 7
theorem sc_Reading_setitem : FnScope ["self", "at", "worth", "number"] ["self", "at", "worth"] (defScope s_Reading_setitem) := ⟨rfl, rfl, rfl, by decide +kernel, rfl, by decide +kernel, by decide +kernel⟩
abbrev s_Reading_iadd : Stmt := inClass (top 32) 13
theorem sc_Reading_iadd : FnScope ["self", "other"] ["self", "other"] (defScope s_Reading_iadd) := ⟨rfl, rfl, rfl, by decide +kernel, rfl, by decide +kernel, by decide +kernel⟩
abbrev s_Reading_imul : Stmt := inClass (top 32) 15
theorem sc_Reading_imul : FnScope ["self", "other"] ["self", "other"] (defScope s_Reading_imul) := ⟨rfl, rfl, rfl, by decide +kernel, rfl, by decide +kernel, by decide +kernel⟩
abbrev s_Reading_str : Stmt := inClass (top 32) 22
theorem sc_Reading_str : FnScope ["self", "edge"] ["self"] (defScope s_Reading_str) := ⟨rfl, rfl, rfl, by decide +kernel, rfl, by decide +kernel, by decide +kernel⟩
abbrev s_Duel_init : Stmt := inClass (top 42) 0
theorem sc_Duel_init : FnScope ["self", "weights", "level"] ["self", "weights", "level"] (defScope s_Duel_init) := ⟨rfl, rfl, rfl, by decide +kernel, rfl, by decide +kernel, by decide +kernel⟩
abbrev s_Duel_call : Stmt := inClass (top 42) 1
theorem sc_Duel_call : FnScope ["self", "reading", "measured"] ["self", "reading"] (defScope s_Duel_call) := ⟨rfl, rfl, rfl, by decide +kernel, rfl, by decide +kernel, by decide +kernel⟩
abbrev s_Duel_weigh : Stmt := inClass (top 42) 2
theorem sc_Duel_weigh : FnScope ["self", "reading"] ["self", "reading"] (defScope s_Duel_weigh) := ⟨rfl, rfl, rfl, by decide +kernel, rfl, by decide +kernel, by decide +kernel⟩
abbrev s_Duel_neg : Stmt := inClass (top 42) 3
theorem sc_Duel_neg : FnScope ["self", "weight"] ["self"] (defScope s_Duel_neg) := ⟨rfl, rfl, rfl, by decide +kernel, rfl, by decide +kernel, by decide +kernel⟩
abbrev s_Lpen : Stmt := top 44
theorem sc_Lpen : FnScope ["_law_script"] ["_law_script"] (defScope s_Lpen) := ⟨rfl, rfl, rfl, by decide +kernel, rfl, by decide +kernel, by decide +kernel⟩
abbrev s_Ldraw : Stmt := top 45
theorem sc_Ldraw : FnScope ["_law_pen_here", "_law_many", "_law_digit", "_law_at", "_law_cell", "_law_great", "_law_mixed"] ["_law_pen_here", "_law_many"] (defScope s_Ldraw) := ⟨rfl, rfl, rfl, by decide +kernel, rfl, by decide +kernel, by decide +kernel⟩
abbrev s_Lpick : Stmt := top 46
theorem sc_Lpick : FnScope ["_law_pen_here", "_law_some"] ["_law_pen_here", "_law_some"] (defScope s_Lpick) := ⟨rfl, rfl, rfl, by decide +kernel, rfl, by decide +kernel, by decide +kernel⟩
abbrev s_Lweights : Stmt := top 47
theorem sc_Lweights : FnScope ["_law_pen_here", "_law_many", "_law_found", "_law_k", "_law_one"] ["_law_pen_here", "_law_many"] (defScope s_Lweights) := ⟨rfl, rfl, rfl, by decide +kernel, rfl, by decide +kernel, by decide +kernel⟩
abbrev s_Ltops : Stmt := top 48
theorem sc_Ltops : FnScope ["_law_pen_here", "_law_many", "_law_at", "_law_found", "_law_k"] ["_law_pen_here", "_law_many"] (defScope s_Ltops) := ⟨rfl, rfl, rfl, by decide +kernel, rfl, by decide +kernel, by decide +kernel⟩
abbrev s_Ltext : Stmt := top 49
theorem sc_Ltext : FnScope ["_law_top", "_law_bottom", "_law_one", "_law_other"] ["_law_top", "_law_bottom"] (defScope s_Ltext) := ⟨rfl, rfl, rfl, by decide +kernel, rfl, by decide +kernel, by decide +kernel⟩
abbrev s_Lis_unlike : Stmt := top 50
theorem sc_Lis_unlike : FnScope ["_law_ask", "_law_caught", "error"] ["_law_ask"] (defScope s_Lis_unlike) := ⟨rfl, rfl, rfl, by decide +kernel, rfl, by decide +kernel, by decide +kernel⟩
abbrev s_Ltold_right : Stmt := top 51
theorem sc_Ltold_right : FnScope ["_law_row", "_law_tops_here", "_law_bottom", "_law_read", "_law_off", "_law_total", "_law_one", "_law_top", "_law_made", "_law_due", "_law_kept", "_law_told"] ["_law_row", "_law_tops_here", "_law_bottom", "_law_read", "_law_off"] (defScope s_Ltold_right) := ⟨rfl, rfl, rfl, by decide +kernel, rfl, by decide +kernel, by decide +kernel⟩
abbrev s_Lheld_right : Stmt := top 52
theorem sc_Lheld_right : FnScope ["_law_held", "_law_row", "_law_tops_here", "_law_bottom", "_law_read", "_law_total", "_law_one", "_law_top", "_law_due"] ["_law_held", "_law_row", "_law_tops_here", "_law_bottom", "_law_read"] (defScope s_Lheld_right) := ⟨rfl, rfl, rfl, by decide +kernel, rfl, by decide +kernel, by decide +kernel⟩
abbrev s_Lrefused_right : Stmt := top 53
theorem sc_Lrefused_right : FnScope ["_law_made", "_law_tops_here", "_law_bottom", "_law_rows", "_law_some", "_law_read", "_law_top"] ["_law_made", "_law_tops_here", "_law_bottom"] (defScope s_Lrefused_right) := ⟨rfl, rfl, rfl, by decide +kernel, rfl, by decide +kernel, by decide +kernel⟩
abbrev s_law : Stmt := top 54
theorem sc_law : FnScope ["_law_script", "_law_pen_here", "_law_turn", "_law_many", "_law_bottom", "_law_row", "_law_tops_here", "_law_off", "_law_read", "_law_top", "_law_held", "_law_step", "_law_times", "_law_more", "_law_at"] ["_law_script"] (defScope s_law) := ⟨rfl, rfl, rfl, by decide +kernel, rfl, by decide +kernel, by decide +kernel⟩
def e_is_integer_ratios : He5.DefA := ⟨fun K => He.ga K "is_integer_ratios", "is_integer", "is_integer", defArgs s_is_integer_ratios, defBody s_is_integer_ratios, defScope s_is_integer_ratios, [], []⟩
def e_is_integer_fits : He5.DefA := ⟨fun K => He.ga K "is_integer_fits", "is_integer", "is_integer", defArgs s_is_integer_fits, defBody s_is_integer_fits, defScope s_is_integer_fits, [], []⟩
def e_common_divisor : He5.DefA := ⟨fun K => He.ga K "common_divisor", "common_divisor", "common_divisor", defArgs s_common_divisor, defBody s_common_divisor, defScope s_common_divisor, [], []⟩
def e_Ratio_init : He5.DefA := ⟨fun K => He.ma K (He.ga K "Ratio") "__init__", "__init__", "Ratio.__init__", defArgs s_Ratio_init, defBody s_Ratio_init, defScope s_Ratio_init, [.int 1], []⟩
def e_Ratio_of : He5.DefA := ⟨fun K => He5.wf K (He.ga K "Ratio") "staticmethod" "of", "of", "Ratio.of", defArgs s_Ratio_of, defBody s_Ratio_of, defScope s_Ratio_of, [], []⟩
def e_Ratio_is_number : He5.DefA := ⟨fun K => He5.wf K (He.ga K "Ratio") "staticmethod" "is_number", "is_number", "Ratio.is_number", defArgs s_Ratio_is_number, defBody s_Ratio_is_number, defScope s_Ratio_is_number, [], []⟩
def e_Ratio_add : He5.DefA := ⟨fun K => He.ma K (He.ga K "Ratio") "__add__", "__add__", "Ratio.__add__", defArgs s_Ratio_add, defBody s_Ratio_add, defScope s_Ratio_add, [], []⟩
def e_Ratio_sub : He5.DefA := ⟨fun K => He.ma K (He.ga K "Ratio") "__sub__", "__sub__", "Ratio.__sub__", defArgs s_Ratio_sub, defBody s_Ratio_sub, defScope s_Ratio_sub, [], []⟩
def e_Ratio_neg : He5.DefA := ⟨fun K => He.ma K (He.ga K "Ratio") "__neg__", "__neg__", "Ratio.__neg__", defArgs s_Ratio_neg, defBody s_Ratio_neg, defScope s_Ratio_neg, [], []⟩
def e_Ratio_mul : He5.DefA := ⟨fun K => He.ma K (He.ga K "Ratio") "__mul__", "__mul__", "Ratio.__mul__", defArgs s_Ratio_mul, defBody s_Ratio_mul, defScope s_Ratio_mul, [], []⟩
def e_Ratio_radd : He5.DefA := ⟨fun K => He.ma K (He.ga K "Ratio") "__radd__", "__radd__", "Ratio.__radd__", defArgs s_Ratio_radd, defBody s_Ratio_radd, defScope s_Ratio_radd, [], []⟩
def e_Ratio_rsub : He5.DefA := ⟨fun K => He.ma K (He.ga K "Ratio") "__rsub__", "__rsub__", "Ratio.__rsub__", defArgs s_Ratio_rsub, defBody s_Ratio_rsub, defScope s_Ratio_rsub, [], []⟩
def e_Ratio_rmul : He5.DefA := ⟨fun K => He.ma K (He.ga K "Ratio") "__rmul__", "__rmul__", "Ratio.__rmul__", defArgs s_Ratio_rmul, defBody s_Ratio_rmul, defScope s_Ratio_rmul, [], []⟩
def e_Ratio_eq : He5.DefA := ⟨fun K => He.ma K (He.ga K "Ratio") "__eq__", "__eq__", "Ratio.__eq__", defArgs s_Ratio_eq, defBody s_Ratio_eq, defScope s_Ratio_eq, [], []⟩
def e_Ratio_lt : He5.DefA := ⟨fun K => He.ma K (He.ga K "Ratio") "__lt__", "__lt__", "Ratio.__lt__", defArgs s_Ratio_lt, defBody s_Ratio_lt, defScope s_Ratio_lt, [], []⟩
def e_Ratio_le : He5.DefA := ⟨fun K => He.ma K (He.ga K "Ratio") "__le__", "__le__", "Ratio.__le__", defArgs s_Ratio_le, defBody s_Ratio_le, defScope s_Ratio_le, [], []⟩
def e_Ratio_gt : He5.DefA := ⟨fun K => He.ma K (He.ga K "Ratio") "__gt__", "__gt__", "Ratio.__gt__", defArgs s_Ratio_gt, defBody s_Ratio_gt, defScope s_Ratio_gt, [], []⟩
def e_Ratio_ge : He5.DefA := ⟨fun K => He.ma K (He.ga K "Ratio") "__ge__", "__ge__", "Ratio.__ge__", defArgs s_Ratio_ge, defBody s_Ratio_ge, defScope s_Ratio_ge, [], []⟩
def e_Ratio_str : He5.DefA := ⟨fun K => He.ma K (He.ga K "Ratio") "__str__", "__str__", "Ratio.__str__", defArgs s_Ratio_str, defBody s_Ratio_str, defScope s_Ratio_str, [], []⟩
def e_is_edge_count : He5.DefA := ⟨fun K => He.ga K "is_edge_count", "is_edge_count", "is_edge_count", defArgs s_is_edge_count, defBody s_is_edge_count, defScope s_is_edge_count, [], []⟩
def e_need_edge : He5.DefA := ⟨fun K => He.ga K "need_edge", "need_edge", "need_edge", defArgs s_need_edge, defBody s_need_edge, defScope s_need_edge, [], []⟩
def e_edges_of : He5.DefA := ⟨fun K => He.ga K "edges_of", "edges_of", "edges_of", defArgs s_edges_of, defBody s_edges_of, defScope s_edges_of, [], []⟩
def e_moved : He5.DefA := ⟨fun K => He.ga K "moved", "moved", "moved", defArgs s_moved, defBody s_moved, defScope s_moved, [], []⟩
def e_stretched : He5.DefA := ⟨fun K => He.ga K "stretched", "stretched", "stretched", defArgs s_stretched, defBody s_stretched, defScope s_stretched, [], []⟩
def e_need_alike : He5.DefA := ⟨fun K => He.ga K "need_alike", "need_alike", "need_alike", defArgs s_need_alike, defBody s_need_alike, defScope s_need_alike, [], []⟩
def e_need_plain_weights : He5.DefA := ⟨fun K => He.ga K "need_plain_weights", "need_plain_weights", "need_plain_weights", defArgs s_need_plain_weights, defBody s_need_plain_weights, defScope s_need_plain_weights, [], []⟩
def e_weighed : He5.DefA := ⟨fun K => He.ga K "weighed", "weighed", "weighed", defArgs s_weighed, defBody s_weighed, defScope s_weighed, [], []⟩
def e_Reading_init : He5.DefA := ⟨fun K => He.ma K (He.ga K "Reading") "__init__", "__init__", "Reading.__init__", defArgs s_Reading_init, defBody s_Reading_init, defScope s_Reading_init, [], []⟩
def e_Reading_of : He5.DefA := ⟨fun K => He5.wf K (He.ga K "Reading") "classmethod" "of", "of", "Reading.of", defArgs s_Reading_of, defBody s_Reading_of, defScope s_Reading_of, [], []⟩
def e_Reading_edges : He5.DefA := ⟨fun K => EM.pf K (He.ga K "Reading") "edges", "edges", "Reading.edges", defArgs s_Reading_edges, defBody s_Reading_edges, defScope s_Reading_edges, [], []⟩
def e_Reading_len : He5.DefA := ⟨fun K => He.ma K (He.ga K "Reading") "__len__", "__len__", "Reading.__len__", defArgs s_Reading_len, defBody s_Reading_len, defScope s_Reading_len, [], []⟩
def e_Reading_setitem : He5.DefA := ⟨fun K => He.ma K (He.ga K "Reading") "__setitem__", "__setitem__", "Reading.__setitem__", defArgs s_Reading_setitem, defBody s_Reading_setitem, defScope s_Reading_setitem, [], []⟩
def e_Reading_iadd : He5.DefA := ⟨fun K => He.ma K (He.ga K "Reading") "__iadd__", "__iadd__", "Reading.__iadd__", defArgs s_Reading_iadd, defBody s_Reading_iadd, defScope s_Reading_iadd, [], []⟩
def e_Reading_imul : He5.DefA := ⟨fun K => He.ma K (He.ga K "Reading") "__imul__", "__imul__", "Reading.__imul__", defArgs s_Reading_imul, defBody s_Reading_imul, defScope s_Reading_imul, [], []⟩
def e_Reading_str : He5.DefA := ⟨fun K => He.ma K (He.ga K "Reading") "__str__", "__str__", "Reading.__str__", defArgs s_Reading_str, defBody s_Reading_str, defScope s_Reading_str, [], []⟩
def e_Duel_init : He5.DefA := ⟨fun K => He.ma K (He.ga K "Duel") "__init__", "__init__", "Duel.__init__", defArgs s_Duel_init, defBody s_Duel_init, defScope s_Duel_init, [.int 0], []⟩
def e_Duel_call : He5.DefA := ⟨fun K => He.ma K (He.ga K "Duel") "__call__", "__call__", "Duel.__call__", defArgs s_Duel_call, defBody s_Duel_call, defScope s_Duel_call, [], []⟩
def e_Duel_weigh : He5.DefA := ⟨fun K => He.ma K (He.ga K "Duel") "weigh", "weigh", "Duel.weigh", defArgs s_Duel_weigh, defBody s_Duel_weigh, defScope s_Duel_weigh, [], []⟩
def e_Duel_neg : He5.DefA := ⟨fun K => He.ma K (He.ga K "Duel") "__neg__", "__neg__", "Duel.__neg__", defArgs s_Duel_neg, defBody s_Duel_neg, defScope s_Duel_neg, [], []⟩
def e_Lpen : He5.DefA := ⟨fun K => He.ga K "_law_pen", "_law_pen", "_law_pen", defArgs s_Lpen, defBody s_Lpen, defScope s_Lpen, [], []⟩
def e_Ldraw : He5.DefA := ⟨fun K => He.ga K "_law_draw", "_law_draw", "_law_draw", defArgs s_Ldraw, defBody s_Ldraw, defScope s_Ldraw, [], []⟩
def e_Lpick : He5.DefA := ⟨fun K => He.ga K "_law_pick", "_law_pick", "_law_pick", defArgs s_Lpick, defBody s_Lpick, defScope s_Lpick, [], []⟩
def e_Lweights : He5.DefA := ⟨fun K => He.ga K "_law_weights", "_law_weights", "_law_weights", defArgs s_Lweights, defBody s_Lweights, defScope s_Lweights, [], []⟩
def e_Ltops : He5.DefA := ⟨fun K => He.ga K "_law_tops", "_law_tops", "_law_tops", defArgs s_Ltops, defBody s_Ltops, defScope s_Ltops, [], []⟩
def e_Ltext : He5.DefA := ⟨fun K => He.ga K "_law_text", "_law_text", "_law_text", defArgs s_Ltext, defBody s_Ltext, defScope s_Ltext, [], []⟩
def e_Lis_unlike : He5.DefA := ⟨fun K => He.ga K "_law_is_unlike", "_law_is_unlike", "_law_is_unlike", defArgs s_Lis_unlike, defBody s_Lis_unlike, defScope s_Lis_unlike, [], []⟩
def e_Ltold_right : He5.DefA := ⟨fun K => He.ga K "_law_told_right", "_law_told_right", "_law_told_right", defArgs s_Ltold_right, defBody s_Ltold_right, defScope s_Ltold_right, [], []⟩
def e_Lheld_right : He5.DefA := ⟨fun K => He.ga K "_law_held_right", "_law_held_right", "_law_held_right", defArgs s_Lheld_right, defBody s_Lheld_right, defScope s_Lheld_right, [], []⟩
def e_Lrefused_right : He5.DefA := ⟨fun K => He.ga K "_law_refused_right", "_law_refused_right", "_law_refused_right", defArgs s_Lrefused_right, defBody s_Lrefused_right, defScope s_Lrefused_right, [], []⟩
def e_law : He5.DefA := ⟨fun K => He.ga K "law", "law", "law", defArgs s_law, defBody s_law, defScope s_law, [], []⟩
def fnA : List He5.DefA := [e_is_integer_ratios, e_is_integer_fits, e_common_divisor, e_Ratio_init, e_Ratio_of, e_Ratio_is_number, e_Ratio_add, e_Ratio_sub, e_Ratio_neg, e_Ratio_mul, e_Ratio_radd, e_Ratio_rsub, e_Ratio_rmul, e_Ratio_eq, e_Ratio_lt, e_Ratio_le, e_Ratio_gt, e_Ratio_ge, e_Ratio_str, e_is_edge_count, e_need_edge, e_edges_of, e_moved, e_stretched, e_need_alike]
def fnB : List He5.DefA := [e_need_plain_weights, e_weighed, e_Reading_init, e_Reading_of, e_Reading_edges, e_Reading_len, e_Reading_setitem, e_Reading_iadd, e_Reading_imul, e_Reading_str, e_Duel_init, e_Duel_call, e_Duel_weigh, e_Duel_neg, e_Lpen, e_Ldraw, e_Lpick, e_Lweights, e_Ltops, e_Ltext, e_Lis_unlike, e_Ltold_right, e_Lheld_right, e_Lrefused_right, e_law]
def fn : List He5.DefA := fnA ++ fnB
def fa0 : List EM.Fk := [fun K => (He.Fa.glo "EdgeError").ok K,
  fun K => (He.Fa.glo "Unlike").ok K,
  fun K => (He.Fa.glo "Ratio").ok K,
  fun K => (He.Fa.glo "Reading").ok K,
  fun K => (He.Fa.glo "Duel").ok K,
  fun K => (He.Fa.glo "is_integer_ratios").ok K,
  fun K => (He.Fa.glo "is_integer_fits").ok K,
  fun K => (He.Fa.glo "common_divisor").ok K,
  fun K => (He.Fa.glo "is_edge_count").ok K,
  fun K => (He.Fa.glo "need_edge").ok K,
  fun K => (He.Fa.glo "edges_of").ok K,
  fun K => (He.Fa.glo "moved").ok K,
  fun K => (He.Fa.glo "stretched").ok K,
  fun K => (He.Fa.glo "need_alike").ok K,
  fun K => (He.Fa.glo "need_plain_weights").ok K,
  fun K => (He.Fa.glo "weighed").ok K,
  fun K => (He.Fa.glo "_law_pen").ok K,
  fun K => (He.Fa.glo "_law_draw").ok K,
  fun K => (He.Fa.glo "_law_pick").ok K,
  fun K => (He.Fa.glo "_law_weights").ok K]
def fa1 : List EM.Fk := [fun K => (He.Fa.glo "_law_tops").ok K,
  fun K => (He.Fa.glo "_law_text").ok K,
  fun K => (He.Fa.glo "_law_is_unlike").ok K,
  fun K => (He.Fa.glo "_law_told_right").ok K,
  fun K => (He.Fa.glo "_law_held_right").ok K,
  fun K => (He.Fa.glo "_law_refused_right").ok K,
  fun K => (He.Fa.glo "law").ok K,
  fun K => (He.Fa.free "len").ok K,
  fun K => (He.Fa.free "isinstance").ok K,
  fun K => (He.Fa.free "int").ok K,
  fun K => (He.Fa.free "bool").ok K,
  fun K => (He.Fa.free "abs").ok K,
  fun K => (He.Fa.free "range").ok K,
  fun K => (He.Fa.free "repr").ok K,
  fun K => (He.Fa.free "list").ok K,
  fun K => (He.Fa.free "tuple").ok K,
  fun K => (He.Fa.free "str").ok K,
  fun K => (He.Fa.free "zip").ok K,
  fun K => (He.Fa.free "enumerate").ok K,
  fun K => (He.Fa.free "sum").ok K]
def fa2 : List EM.Fk := [fun K => (He.Fa.free "any").ok K,
  fun K => (He.Fa.int "FEWEST_EDGES" 4).ok K,
  fun K => (He.Fa.int "MOST_EDGES_duels" 128).ok K,
  fun K => (He.Fa.int "LEAST_EDGES" 4).ok K,
  fun K => (He.Fa.int "MOST_EDGES_readings" 128).ok K,
  fun K => (He.Fa.cls "Ratio").ok K,
  fun K => (He.Fa.mkr "Ratio").ok K,
  fun K => EM.isiB K (He.ga K "Ratio"),
  fun K => EM.creadB K (He.ga K "Ratio"),
  fun K => EM.smetB K (He.ga K "Ratio") "of",
  fun K => EM.smetB K (He.ga K "Ratio") "is_number",
  fun K => PySem.W.selfFirst K (He.ga K "Ratio"),
  fun K => decide (PySem.W.subIn K (.type "int") (.ref (He.ga K "Ratio")) = some false),
  fun K => decide (PySem.W.subIn K (.ref (He.ga K "Ratio")) (.type "int") = some false),
  fun K => (He.Fa.cls "Duel").ok K,
  fun K => (He.Fa.mkr "Duel").ok K,
  fun K => (He.Fa.cls "Reading").ok K,
  fun K => (He.Fa.mkr "Reading").ok K,
  fun K => EM.creadB K (He.ga K "Reading"),
  fun K => EM.cmetB K (He.ga K "Reading") "of"]
def fa3 : List EM.Fk := [fun K => PySem.W.selfFirst K (He.ga K "Reading"),
  fun K => (He.Fa.noat "Ratio" "top").ok K,
  fun K => (He.Fa.noat "Ratio" "bottom").ok K,
  fun K => (He.Fa.noat "Duel" "weights").ok K,
  fun K => (He.Fa.noat "Duel" "level").ok K,
  fun K => (He.Fa.noat "Reading" "own_edges").ok K,
  fun K => (He.Fa.meth "Ratio" "__add__").ok K,
  fun K => (He.Fa.meth "Ratio" "__sub__").ok K,
  fun K => (He.Fa.meth "Ratio" "__neg__").ok K,
  fun K => (He.Fa.meth "Ratio" "__mul__").ok K,
  fun K => (He.Fa.meth "Ratio" "__eq__").ok K,
  fun K => (He.Fa.meth "Ratio" "__lt__").ok K,
  fun K => (He.Fa.meth "Ratio" "__le__").ok K,
  fun K => (He.Fa.meth "Ratio" "__gt__").ok K,
  fun K => (He.Fa.meth "Ratio" "__ge__").ok K,
  fun K => (He.Fa.meth "Ratio" "__str__").ok K,
  fun K => (He.Fa.meth "Ratio" "__radd__").ok K,
  fun K => (He.Fa.meth "Ratio" "__rsub__").ok K,
  fun K => (He.Fa.meth "Ratio" "__rmul__").ok K,
  fun K => (He.Fa.meth "Duel" "__call__").ok K]
def fa4 : List EM.Fk := [fun K => (He.Fa.meth "Duel" "weigh").ok K,
  fun K => (He.Fa.meth "Duel" "__neg__").ok K,
  fun K => (He.Fa.meth "Reading" "__len__").ok K,
  fun K => (He.Fa.meth "Reading" "__setitem__").ok K,
  fun K => (He.Fa.meth "Reading" "__iadd__").ok K,
  fun K => (He.Fa.meth "Reading" "__imul__").ok K,
  fun K => (He.Fa.meth "Reading" "__str__").ok K,
  fun K => EM.propB K (He.ga K "Reading") "edges",
  fun K => PySem.W.excIn K (He.ga K "Unlike") [.type "ValueError", .type "Exception", .type "BaseException", .type "object"] "ValueError.__new__",
  fun K => decide (PySem.W.subIn K (.ref (He.ga K "Unlike")) (.type "BaseException") = some true),
  fun K => decide (PySem.W.typeIn K (.ref (He.ga K "Unlike")) = some (.type "type")),
  fun K => PySem.W.keepIn K (.ref (He.ga K "Unlike")),
  fun K => decide (PySem.W.exmOne K (.ref (He.ga K "Unlike")) (.ref (He.ga K "EdgeError")) = some true),
  fun K => EM.excB K (He.ga K "Unlike"),
  fun K => decide (PySem.W.kitOne K (.ref (He.ga K "Unlike")) (.ref (He.ga K "Unlike")) = some true),
  fun K => PySem.W.noSeq K (He.ga K "Reading"),
  fun K => decide (PySem.W.kitOne K (.type "int") (.ref (He.ga K "Ratio")) = some false),
  fun K => decide (PySem.W.kitOne K (.ref (He.ga K "Ratio")) (.type "int") = some false),
  fun K => decide (PySem.W.kitOne K (.ref (He.ga K "Ratio")) (.type "bool") = some false),
  fun K => EM.apartB K (He.ga K "Ratio")]
def faA : List EM.Fk := fa0 ++ fa1
def faB : List EM.Fk := fa2 ++ fa3 ++ fa4
def fa : List EM.Fk := faA ++ faB
def tf : List EM.Tf := [fun K => He.ga K "_law_refused_right"]
end K41
namespace K41
open PySem PySem.Spec PyProof.Rows L2
abbrev R : PySem.W.OpenRow := PySem.W.OpenLaw.row PySem.Challenge.rw_edgesmeet_k41_answers_of_duels
abbrev hk : PySem.W.Hook := EM.hookT 5 fa fn tf
def ob (s : PySem.W.SharedT) : He.AlD × Bool := EM.obsTG 5 fa fn tf (HandSHeadRun.getT s)
theorem ob_eq (s : PySem.W.SharedT) : ob s = hk.obs s.abs := EM.obsTG_eq (HandSHeadRun.getT_eq s)
def nm0 : List PySem.Str := ["_wall", "__name__", "EdgeError", "BadRatio", "NoDivisor", "NoEdge", "Unlike", "BadReading", "NotRising", "NoStretch", "BadWeights", "BadText", "FIGURES", "is_figures", "MOST_DIGITS", "is_integer", "is_integer_ratios", "common_divisor", "Ratio", "numbers_of", "LEAST_EDGES", "MOST_EDGES_readings", "is_edge_count", "need_edge", "edges_of", "number_told", "moved", "stretched", "turned_edges", "Reading"]
def nm1 : List PySem.Str := ["need_alike", "is_integer_fits", "need_plain_weights", "weighed", "FEWEST_EDGES", "MOST_EDGES_duels", "Duel", "_law_pen", "_law_draw", "_law_pick", "_law_weights", "_law_tops", "_law_text", "_law_is_unlike", "_law_told_right", "_law_held_right", "_law_refused_right"]
def names : List PySem.Str := nm0 ++ nm1
set_option maxHeartbeats 0 in
theorem runA (w : World) : HandSHeadRun.RunEq R (PySem.W.view R.prog [54]) (EM.hookT 5 faA fnA tf) (fun s => EM.obsTG 5 faA fnA tf (HandSHeadRun.getT s)) 20000 names w := by
  intro os
  kernel_rfl
set_option maxHeartbeats 0 in
theorem runB (w : World) : HandSHeadRun.RunEq R (PySem.W.view R.prog [54]) (EM.hookT 5 faB fnB []) (fun s => EM.obsTG 5 faB fnB [] (HandSHeadRun.getT s)) 20000 names w := by
  intro os
  kernel_rfl
theorem run (w : World) : HandSHeadRun.RunEq R (PySem.W.view R.prog [54]) hk ob 20000 names w := EM.run_joinT (runA w) (runB w)
end K41
/-! EM1: further rules over the hand layer: calls by positional promises, star calls, own operators, facts of the head by Bools. -/
namespace EM
open PySem PySem.Spec PyProof.Rows L2
/-! ### the Hook: facts as Bools of the written part -/
section
variable {fa : List Fk} {fn : List He5.DefA} {K : PySem.W.Frag}
theorem SaysF.fact (c : SaysF fa fn K) (i : Nat) {f : Fk} (h : fa[i]? = some f := by rfl) : f K = true := by
  have c1 := (He.ba (show ((fa.all fun f => f K) && fn.all fun d => d.ok K) = true from congrArg (fun z : He.AlD => z.1) c)).1
  exact List.all_eq_true.mp c1 f (List.mem_of_getElem? h)
theorem SaysF.def_ (c : SaysF fa fn K) (i : Nat) {d : He5.DefA} (h : fn[i]? = some d := by rfl) : ∃ fd, L2.FunD K d.name d.qual d.params d.body d.scope (d.dvs K) (d.kws K) (d.at_ K) fd := by
  have c2 := (He.ba (show ((fa.all fun f => f K) && fn.all fun d => d.ok K) = true from congrArg (fun z : He.AlD => z.1) c)).2
  have e : fn.map (fun d => He5.fnA K (d.at_ K)) = fn.map He5.DefA.val := congrArg (fun z : He.AlD => z.2) c
  have e2 : (fn.map fun d => He5.fnA K (d.at_ K))[i]? = (fn.map He5.DefA.val)[i]? := by rw [e]
  rw [List.getElem?_map, List.getElem?_map, h] at e2
  exact He5.DefA.funD (Option.some.inj e2) (List.all_eq_true.mp c2 d (List.mem_of_getElem? h))
end
/-! ### calls by a positional promise -/
def tCR (sp : Sp) (E : XK) (t : TA) : TE := fun σ H Q => t σ H fun vs H1 => sp vs H1 Q E
def tMR (C : Addr) (m : Str) (sp : Sp) (E : XK) (ta : TE) (t : TA) : TE := fun σ H Q => ta σ H fun x H1 => ∃ a dx fs, x = V.ref a ∧ H1 a = some (.ins C dx fs) ∧ fs.lookup m = none ∧ t σ H1 fun vs H2 => sp (x :: vs) H2 Q E
section
variable {X : Cx} {CX : CXT} {k : Nat} {f C : Addr} {sp : Sp} {E : XK} {x m : Str} {e o : Expr} {es : List Expr} {te ta : TE} {t : TA} {p sp_ pos apos : Pos}
/-- f(e, ..) -/
theorem pe_cR (F : FnR X.prog X.w X.K X.mg X.base CX k f sp) (hr : Room k X.A) (hk : PySem.W.keepIn X.K (.ref f) = true) (hm : X.mg x = some (.ref f)) (hx : Passes CX X E) (ha : PA X (e :: es) t) (hg : Gl X x := by rfl) (hd : (x == ("__debug__" : Str)) = false := by decide)
    (he : starEach (e :: es) X.env = (false, eval e X.env) :: starEach es X.env := by rfl) (hpl : (backTo pos (starEach es X.env)).any (·.1) = false := by rfl) :
    PE X (.Call (.Name x p) (e :: es) [] pos) (tCR sp E t) := by
  refine ⟨fun pins s σ H Q I h => ?_⟩
  refine wpAny_Call_Name_kw (ld_glob I hg hm ?_ hd)
  refine PySem.W.callWith_K (h₀ := X.base) I.ok.mod.kin hk (thn (ha.run pos pins s σ H _ I h) fun us s1 ⟨vs, H1, I1, r, q⟩ => ⟨I1.kIn, ?_⟩) he hpl
  exact wpAny_call (run_fnR F hr hx I1 r q)
/-- C( *y): an instance made with what a list or tuple holds -/
theorem pe_mkS1 (M : Mk X.K C f) (F : FnR X.prog X.w X.K X.mg X.base CX k f sp) (hr : Room (k + 1) X.A) (hm : X.mg x = some (.ref C)) (hx : Passes CX X E) (he : PE X e te) (hg : Gl X x := by rfl) (hd : (x == ("__debug__" : Str)) = false := by decide)
    (hst : starEach [.Starred e sp_] X.env = [(true, eval e X.env)] := by rfl) :
    PE X (.Call (.Name x p) [.Starred e sp_] [] pos) (StX.tMakeR C sp E (StX.tStar X.K te tNil)) := by
  refine ⟨fun pins s σ H Q I h => ?_⟩
  refine wpAny_Call_Name_kw (ld_glob I hg hm ?_ hd)
  refine PySem.W.callWith_S (h₀ := X.base) I.ok.mod.kin M.kp (thn (he.run pins s σ H _ I h) fun v s1 ⟨y, H1, I1, ry, a, xs, ey, hxs, q⟩ => ?_) hst
  subst ey
  obtain rfl : v = Value.ref a := ry
  refine StX.star_any I1 hxs fun us s2 I2 rv => ⟨I2.kIn, ?_⟩
  have q2 := (show ∀ x dx, H1 x = Option.none → H1 dx = Option.none → dx ≠ x → sp (V.ref x :: (xs ++ [])) (upd (upd H1 dx (.own x)) x (.ins C dx [])) (fun v H2 => v = .non ∧ Q (.ref x) H2) E from q)
  rw [List.append_nil] at q2
  exact StX.run_makeR M F hr hx I2 rv q2
/-- o.m(e, ..) of an instance with a dict -/
theorem pe_mR {pl : Sem Bool} (he : PE X o ta) (c : Cls X.K C) (hm : Meth X.K C m f) (F : FnR X.prog X.w X.K X.mg X.base CX k f sp) (hr : Room k X.A) (hx : Passes CX X E) (ha : PA X (e :: es) t)
    (hst : starEach (e :: es) X.env = (false, eval e X.env) :: starEach es X.env := by rfl) (hpl : (backTo pos (starEach es X.env)).any (·.1) = false := by rfl)
    (ht : eval (.Call (.Attribute o m apos) (e :: es) [] pos) X.env = (do
      let ov ← eval o X.env
      standAt apos.atName
      let (f, first) ← holding [ov] (getMethod ov m pl)
      callWith pos f first (backTo pos (starEach (e :: es) X.env)) (backToKw pos (keywordEach [] X.env))) := by rfl) :
    PE X (.Call (.Attribute o m apos) (e :: es) [] pos) (tMR C m sp E ta t) := by
  refine ⟨fun pins s σ H Q I h => ?_⟩
  refine PySem.W.methodCall_KW (pl := pl) (thn (he.run pins s σ H _ I h) fun u s1 ⟨x, H1, I1, rx, a, dx, fs, ex, ea, l, q⟩ => ?_) ht
  subst ex
  obtain rfl : u = Value.ref a := rx
  refine getmeth_ok I1 ea c hm l ?_
  refine PySem.W.callWith_K (first := [.ref a]) (h₀ := X.base) I.ok.mod.kin hm.kp (thn (ha.run pos pins s1 σ H1 _ I1 q) fun us s2 ⟨vs, H2, I2, r, q2⟩ => ⟨I2.kIn, ?_⟩) hst hpl
  exact wpAny_call (run_fnR (us := .ref a :: us) (vs := .ref a :: vs) F hr hx I2 (.cons rfl r) q2)
end
/-! ### from a def of the text to its positional promise -/
section
variable {P : Program} {w : World} {K : PySem.W.Frag} {mg : Str → Option Value} {base : Heap} {x qual : Str} {params : Arguments} {body : List Stmt} {scope : Scope} {dvs : List V} {kws : List (Str × V)} {f : Addr} {fd : FuncData}
/-- what is asked of a def's body -/
def Bod (P : Program) (w : World) (K : PySem.W.Frag) (mg : Str → Option Value) (base : Heap) (N : List Str) (qual : Str) (scope : Scope) (f : Addr) (body : List Stmt) (k : Nat) (sp : Sp) : Prop :=
  ∀ (cdv : Value) (A : Around) (outer : List Env) (s : Shared) (H : Hp) (vs : List V) (Q : VK) (E : XK), Room k (A.deeper (envOfC qual scope s.heap.objs.size f cdv)) → sp vs H Q E →
      ∃ t, PSs (cxOf (L2.CX P w) P w K mg base N qual scope f cdv A outer s H E) body t ∧ t { nx := fun _ H' => Q .non H', rt := Q } (start N vs) H
/-- a def without defaults -/
theorem fnr {N ps : List Str} {k : Nat} {sp : Sp} (F : FunD K x qual params body scope [] kws f fd) (S : FnScope N ps scope)
    (hb : ∀ (kV doc pm : Value) (an : Option Addr) (cdv ct : Value) (us : List Value), us.length = ps.length → bindArgs (PySem.W.fnOf x qual params body scope .none kV doc pm an cdv ct) ⟨us, []⟩ = pure (ps.zip us))
    (len : ∀ vs H Q E, sp vs H Q E → vs.length = ps.length) (hbody : Bod P w K mg base N qual scope f body k sp) : FnR P w K mg base (L2.CX P w) (k + 1) f sp := by
  have G := FunD.ok (P := P) (w := w) (mg := mg) (base := base) (CX := L2.CX P w) F S len hbody
  have B := F.bindsN hb
  have R := FnOk.raw (dvs := []) (ds := []) G B .nil
  refine R.imp fun vs H Q E h => ?_
  rw [List.append_nil]
  exact h
/-- def f( *v) and def f(a, *v) -/
theorem fnr_star {N ps : List Str} {pv : Str} {k : Nat} {sp : Sp} (F : FunD K x qual params body scope [] kws f fd) (S : FnScope N (ps ++ [pv]) scope)
    (hb : ∀ (kV doc pm : Value) (an : Option Addr) (cdv ct : Value) (us rest : List Value), us.length = ps.length → bindArgs (PySem.W.fnOf x qual params body scope .none kV doc pm an cdv ct) ⟨us ++ rest, []⟩ = (newTuple rest >>= fun t => pure (ps.zip us ++ [(pv, t)])))
    (hbody : Bod P w K mg base N qual scope f body k sp) :
    FnR P w K mg base (L2.CX P w) (k + 1) f (fun vs H Q E => ∃ ws rest, vs = ws ++ rest ∧ ws.length = ps.length ∧ rest.length ≤ sizeLine ∧ ∀ T, H T = none → sp (ws ++ [V.ref T]) (upd H T (.tup rest)) Q E) := by
  obtain ⟨oc, od, dV, kV, doc, pm, an, cdv, ct, osl, e, l, c, hd, _⟩ := F.ex
  rcases hd with ⟨_, e2⟩ | ⟨e2, _⟩
  · subst e2
    subst e
    exact StX.fn_star (sp := sp) l c S StX.cxUp (hb kV doc pm an cdv ct) (hbody cdv)
  · exact absurd rfl e2
end
end EM
/-! EM2: own operators, enumerate of a tuple, != of lists. -/
namespace PySem.W
open PyProof.Rows
end PySem.W
namespace EM
open PySem PySem.Spec PyProof.Rows L2
/-! ### an instance with a dict, and what stands below it -/
section
variable {X : Cx} {pins : List (Addr × Obj)} {σ : L2.St} {H : Hp} {s : Shared} {a C dx : Addr} {fs : List (Str × V)}
theorem ins_at (I : Inv X pins σ H s) (h : H a = some (.ins C dx fs)) : ∃ ox od, PySem.W.InstAt s.heap a ox C (some od) ∧ ox.data = .plain := by
  obtain ⟨mA, O, _⟩ := ins_get I.hok h
  obtain ⟨od, J, _⟩ := O.look
  exact ⟨_, od, J, rfl⟩
end
/-- a one-place operator of the class's own -/
def rUnO (C : Addr) (sp : Sp) (E : XK) : V → Hp → VK → Prop := fun x H Q => ∃ a dx fs, x = .ref a ∧ H a = some (.ins C dx fs) ∧ sp [x] H Q E
section
variable {X : Cx} {CX : CXT} {n : Nat} {g C : Addr} {sp : Sp} {E : XK}
theorem un_negO (hs : PySem.W.findIn X.K (.ref C) "__neg__" = some (some (.ref g))) (hf : PySem.W.isFn X.K (.ref g) = true) (F : FnR X.prog X.w X.K X.mg X.base CX n g sp) (hr : Room n X.A) (hx : Passes CX X E) : UnR X (unaryOp .USub) (rUnO C sp E) := by
  intro pins s σ H x v Q I rx h
  obtain ⟨a, dx, fs, rfl, ha, q⟩ := h
  cases (show v = Value.ref a from rx)
  obtain ⟨ox, od, J, _⟩ := ins_at I ha
  obtain ⟨m, hF⟩ := I.fr
  exact PySem.W.ksp_neg hF I.ok.mod.kin J hs hf (wpAny_call (run_fnR (us := [.ref a]) (vs := [.ref a]) F hr hx I (.cons rfl .nil) q))
theorem notFirst_self {K : PySem.W.Frag} {C : Addr} : PySem.W.notFirst K C (.ref C) = true := by
  unfold PySem.W.notFirst
  simp
end
end EM
/-! EM3: enumerate of a tuple. -/
namespace PySem
open AutoSeq1 (wpAny_loadPart')
theorem em_enum_new1 {v : Value} {o : Obj} {H : Heap → Prop} (B : Begins v o H) :
    Meets (Builtin.«enumerate.__new__» ⟨[.type "enumerate", v], []⟩) (fun _ R s => H s.heap ∧
      R (.ok (.ret (.ref (s.heap.push o).objs.size))) { s with heap := (s.heap.push o).push { cls := .type "enumerate", data := .fields #[.none, .bool false, .ref s.heap.objs.size, rawInt 0, .none, .none] } }) :=
  .of_wp fun prog w A R s h => by
    obtain ⟨hp, g, d, tk, os⟩ := s; obtain ⟨h1, h⟩ := h
    have hsub := sub_enumerate
    have q1 : ∀ {A' : Around} {E : Value → Shared → Prop} {Q : Value → Shared → Prop}, Q (.ref hp.objs.size) ⟨hp.push o, g, d, tk, os⟩ → wpAny (model prog w) A' (pyIter v) Q E ⟨hp, g, d, tk, os⟩ :=
      fun q => B.iter prog w _ _ ⟨hp, g, d, tk, os⟩ _ h1 q
    wp_walk using q1
    refine wpAny_stack_any fun st => wpAny_pure ?_
    split
    · rename_i c _ _ _ _ _
      cases (c == Value.type "enumerate")
      · wp_walk using q1
        exact ⟨_, rfl, h⟩
      · wp_walk using q1
        exact ⟨_, rfl, h⟩
    · wp_walk using q1
      exact ⟨_, rfl, h⟩
section
variable {prog : Program} {w : World} {A : Around} {E : Value → Shared → Prop} {s : Shared}
theorem em_enum_begins {v : Value} {o : Obj} {H : Heap → Prop} {Q : Value → Shared → Prop} (B : Begins v o H) (h1 : H s.heap)
    (h : ∀ h', IsEnum h' (s.heap.objs.size + 1) s.heap.objs.size 0 .none → h'.get? s.heap.objs.size = some o → h'.objs.size = s.heap.objs.size + 2 →
      (∀ b o, s.heap.get? b = some o → h'.get? b = some o) → Q (.ref (s.heap.objs.size + 1)) { s with heap := h' }) :
    wpAny (model prog w) A (call (.type "enumerate") [v]) Q E s := by
  refine callType_new F.called_enumerate (by decide) (F.typeCall_enumerate_1 _) (F.newCall_enumerate_1 _) (fun obj => F.args_object_init_2 obj _) F.entry_enumerate_new
    (em_enum_new1 B) ⟨h1, ?_⟩
  have hz : (s.heap.push o).objs.size = s.heap.objs.size + 1 := Heap.size_push ..
  show _ ∧ _
  rw [hz]
  have he : IsEnum ((s.heap.push o).push { cls := .type "enumerate", data := .fields #[.none, .bool false, .ref s.heap.objs.size, rawInt 0, .none, .none] }) (s.heap.objs.size + 1) s.heap.objs.size 0 .none := by
    have := Heap.get?_push_size (s.heap.push o) (o := { cls := .type "enumerate", data := .fields #[.none, .bool false, .ref s.heap.objs.size, rawInt 0, .none, .none] }) rfl
    rw [hz] at this; exact this
  exact ⟨⟨_, he, rfl⟩, h _ he (Heap.get?_push_of_some _ (Heap.get?_push_size _ B.free)) (by rw [Heap.size_push, hz]) fun b o x => Heap.get?_push_of_some _ (Heap.get?_push_of_some _ x)⟩
end
end PySem
namespace EM
open PySem PySem.Spec PyProof.Rows L2
def IteT (K : PySem.W.Frag) (a : Addr) : It :=
  ⟨fun i H => ∃ (xs : List V) (x : V), SqT K H a xs ∧ xs[i]? = some x, fun i H v H' => ∃ T x, v = .ref T ∧ H T = none ∧ H' = upd H T (.tup [.int (i : Nat), x]) ∧ ∀ xs, SqT K H a xs → xs[i]? = some x, fun i H => ∃ xs : List V, SqT K H a xs ∧ xs.length ≤ i⟩
theorem turn_enumT {P : Program} {w : World} {K : PySem.W.Frag} {elts : List Expr} {kk : Nat} {tpos : Pos} (a e it : Addr) :
    Turn P w K (.Tuple elts kk tpos) (IteT K a) [e, it] e (fun i h => (∃ old, IsEnum h e it ((i : Nat) : Int) old) ∧ h.IsTupleIter it a i ∧ e ≠ it ∧ a ≠ it ∧ e ≠ a) where
  mem := by simp
  obj := fun i h st b hb => by
    obtain ⟨⟨old, he⟩, ⟨o, ho, hc, hd⟩, _⟩ := st
    have e' : b = e ∨ b = it := by simpa using hb
    rcases e' with z | z
    · rw [z]; exact ⟨_, he, fun v q => nomatch q⟩
    · rw [z]; exact ⟨o, ho, fun v q => by rw [hd] at q; cases q⟩
  keep := fun i h h' st k => let ⟨⟨old, he⟩, hi, hne⟩ := st; ⟨⟨old, k e (by simp) _ he⟩, hi.at fun o q => k it (by simp) o q, hne⟩
  item := by
    intro X hP hw hK hc i pins s σ H E I hf st hg
    subst hP hw hK
    obtain ⟨⟨old, he⟩, hit, hne, hai, hea⟩ := st
    obtain ⟨xs, x, hq, hx⟩ := hg
    obtain ⟨its, rv, p, hz⟩ := I.tuple hq
    obtain ⟨u, hu, ru⟩ := rv.get hx
    have hil2 : i < its.toArray.size := by
      have := (List.getElem?_eq_some_iff.mp hu).1
      simpa using this
    have hel : e < s.heap.objs.size := Heap.lt_size he
    have hil : it < s.heap.objs.size := by obtain ⟨_, q, _⟩ := hit; exact Heap.lt_size q
    have D := Draws.tuple (prog := X.prog) (w := X.w) (A := X.A.in1) (I.ok.hd hc) it a hai its.toArray
    refine wpAny_pyNext_enum_itemD D he ⟨hit, p⟩ hil2 hne (by simp [hne, hea]) fun y h' tk hy ho hst' hT hsz hk => ?_
    have ey : y = u := by
      have h1 : its.toArray[i]? = some u := by simpa using hu
      have h2 : its.toArray[i]? = some y := hy
      rw [h1] at h2
      exact (Option.some.inj h2).symm
    subst ey
    obtain ⟨hit', _⟩ := hst'
    refine ⟨_, rfl, wpAny_letOwnedTupleGo_enum (s := { s with heap := h', toks := tk + 1 }) ho fun h'' he' sb => ?_⟩
    have hT2 : h''.get? s.heap.objs.size = some { cls := .type "tuple", data := .seq #[.int i tk, y] } := (sb.2 _ (Nat.ne_of_gt hel)).trans hT
    have new : ObjOk X.prog X.w (upd H s.heap.objs.size (.tup [.int (i : Nat), x])) h'' s.heap.objs.size (.tup [.int (i : Nat), x]) :=
      ⟨by show 2 ≤ sizeLine; decide, [.int i tk, y], .cons ⟨_, rfl⟩ (.cons ru .nil), ⟨_, hT2, rfl, _, rfl⟩⟩
    have I1 : Inv X pins σ (upd H s.heap.objs.size (.tup [.int (i : Nat), x])) { s with heap := h'', toks := tk + 1 } :=
      I.turnedNew (ch := [e, it]) (fun b ob hb q => (sb.2 b (fun z => hb (by simp [z]))).trans (hk b ob (fun z => hb (by simp [z])) (fun z => hb (by simp [z])) q)) hf (Nat.le_refl _) new
    refine ⟨.ref s.heap.objs.size, _, I1, rfl, ⟨_, x, rfl, I.hok.fresh (Nat.le_refl _), rfl, fun ys hy => by rw [I.tuple_inj hy hq]; exact hx⟩, ⟨⟨y, ?_⟩, hit'.at fun o q => (sb.2 it (Ne.symm hne)).trans q, hne, hai, hea⟩, fun b hb => ?_⟩
    · have e1 : ((i + 1 : Nat) : Int) = (i : Int) + 1 := by omega
      rw [e1]; exact he'
    · have hb' : b < s.heap.objs.size := by
        have e' : b = e ∨ b = it := by simpa using hb
        rcases e' with z | z
        · rw [z]; exact hel
        · rw [z]; exact hil
      rw [upd_ne (Nat.ne_of_lt hb')]
      exact (hf b hb).1
  done := by
    intro X hP hw hK hc i pins s σ H E I hf st hg
    subst hP hw hK
    obtain ⟨⟨old, he⟩, hit, hne, hai, hea⟩ := st
    obtain ⟨xs, hq, hx⟩ := hg
    obtain ⟨its, rv, p, hz⟩ := I.tuple hq
    obtain ⟨f0, f1, f2, f3, f4, f5⟩ := hf it (by simp)
    have hl := rv.length
    have hT : s.TypeIs (.ref e) "enumerate" := ⟨_, he, rfl⟩
    unfold pyNext
    refine wpAny_bind (wpAny_attempt (wpAny_callSpecial?_slot (name := Str.ofString "__next__") hT F.slot_enumerate_next
      (wpAny_call_entry F.slot_enumerate_next hT F.entry_enumerate_next ?_ (F.args_enumerate_next_1 _))))
    show wpAny _ _ (field (.ref e) 2 >>= _) _ _ _
    refine wpAny_bind (wpAny_field he rfl (x := .ref it) rfl ?_)
    refine wpAny_bind (wpAny_nextOf_tuple_end (I.ok.hd hc) hit p (by simp; omega) fun h' x he' hx' => ?_)
    obtain ⟨o, ho, hc'⟩ := hx'
    refine wpAny_bind (wpAny_isInstance (T := "StopIteration") (b := true) ⟨o, ho, hc'⟩ isSubtype_stop ?_)
    exact wpAny_pure ⟨rfl, I.turned (t' := s.toks) (fun b o hb q => he' b o hb q) f0 f1 f3 f4 f5⟩
  self := fun A i s Q E st h => let ⟨⟨_, he⟩, _⟩ := st; wpAny_pyIter_enum he h
def iEnumT (K : PySem.W.Frag) (ta : TA) : TI := fun σ H R => ta σ H fun vs H1 => ∃ a xs, vs = [.ref a] ∧ SqT K H1 a xs ∧ R (IteT K a) H1
theorem pi_enumT {X : Cx} {e : Expr} {ta : TA} {p pos tpos : Pos} {elts : List Expr} {kk : Nat} (hg : Gl X "enumerate") (hm : X.mg "enumerate" = none) (ha : PA X [e] ta) (hs : starEach [e] X.env = [(false, eval e X.env)] := by rfl) :
    PI X (.Tuple elts kk tpos) (.Call (.Name "enumerate" p) [e] [] pos) (iEnumT X.K ta) := by
  refine ⟨fun pins s σ H R I h => ?_⟩
  refine Call_ (ld_blt I hg hm boot_enumerate (PyProof.Rows.callWith_type1 (thn (ha.run pos pins s σ H _ I h) fun us s1 ⟨vs, H1, I1, r1, q1⟩ => ?_) hs rfl))
  obtain ⟨a, xs, ex, hq, q⟩ := q1
  subst ex
  cases r1 with
  | cons r rr =>
    cases rr
    cases r
    obtain ⟨its, rv, p', hz⟩ := I1.tuple hq
    have hal : a < s1.heap.objs.size := by obtain ⟨_, q, _⟩ := p'; exact Heap.lt_size q
    refine em_enum_begins (begins_tuple a its.toArray) p' fun h' he hit hsz hk => wpAny_pyIter_enum he ?_
    have I2 : Inv X pins σ H1 { s1 with heap := h' } := I1.kept (t' := s1.toks) hk
    refine ⟨s1.heap.objs.size + 1, [s1.heap.objs.size + 1, s1.heap.objs.size], _, _, H1, rfl, I2, turn_enumT a (s1.heap.objs.size + 1) s1.heap.objs.size, ⟨⟨.none, he⟩, ⟨_, hit, rfl, rfl⟩, Nat.succ_ne_self _, Nat.ne_of_lt hal, Nat.ne_of_gt (Nat.lt_succ_of_lt hal)⟩, fun b hb => ?_, q⟩
    have e' : b = s1.heap.objs.size + 1 ∨ b = s1.heap.objs.size := by simpa using hb
    have hle : s1.heap.objs.size ≤ b := by
      rcases e' with z | z
      · rw [z]; exact Nat.le_add_right _ _
      · rw [z]; exact Nat.le_refl _
    exact I1.fpOk hle (I1.hok.fresh hle)
theorem walk_enumT {K : PySem.W.Frag} {a : Addr} {xs : List V} : Walk (IteT K a) xs.length (fun H => SqT K H a xs) (YPair (fun i => some (.int (i : Nat))) (fun i => xs[i]?)) :=
  ⟨fun i H hi g => ⟨xs, xs[i], g, List.getElem?_eq_getElem hi⟩, fun H g => ⟨xs, g, Nat.le_refl _⟩, fun i H x H' hi g ⟨T, y, e1, e2, e3, e4⟩ => ⟨T, .int (i : Nat), y, e1, e2, e3, rfl, e4 xs g⟩⟩
end EM
/-! EM4: calls with keywords, defaults, != of lists of the same objects, xs[::-1] of a tuple. -/
namespace EM
open PySem PySem.Spec PyProof.Rows L2
/-! ### keywords -/
abbrev Sp2 := List V → List V → Hp → VK → XK → Prop
def FnK (P : Program) (w : World) (K : PySem.W.Frag) (mg : Str → Option Value) (base : Heap) (CX : CXT) (k : Nat) (f : Addr) (ks : List Str) (sp : Sp2) : Prop :=
  ∀ (A : Around) (outer : List Env) (s : Shared) (H : Hp) (us ws : List Value) (vs zs : List V) (Q : VK) (E : XK), Room k A → Env0 P w K mg base A outer s H → Vals vs us → Vals zs ws → sp vs zs H Q E →
    codeAny (model P w) A (.call (.ref f) ⟨us, ks.zip ws⟩) (CR CX outer P w H s Q E) s
section
variable {P : Program} {w : World} {K : PySem.W.Frag} {mg : Str → Option Value} {base : Heap} {CX : CXT} {k n : Nat} {f : Addr} {fd : FuncData} {ps ks : List Str} {sp : Sp} {g : List Value → List Value → List Value} {gV : List V → List V → List V}
theorem fnk_of (F : FnOk P w K mg base CX k f fd ps sp) (hb : KBn K fd ps n ks g gV) : FnK P w K mg base CX k f ks (fun vs zs H Q E => vs.length = n ∧ zs.length = ks.length ∧ sp (gV vs zs) H Q E) := by
  intro A outer s H us ws vs zs Q E hr e0 r rz ⟨l1, l2, h⟩
  have r2 := hb.rel r rz
  have b := hb.to s us ws (e0.mod.kin.keeps fun b o e => (e0.bs b o e).1) (by rw [← r.length]; exact l1) (by rw [← rz.length]; exact l2)
  exact F.run A outer s H ⟨us, ks.zip ws⟩ (g us ws) (gV vs zs) Q E hr e0 b r2 h
end
section
variable {X : Cx} {CX : CXT} {k n : Nat} {f : Addr} {ks : List Str} {sp : Sp2} {E : XK} {x : Str} {p pos : Pos} {e : Expr} {es : List Expr} {kws : List Keyword} {t tk : TA}
theorem run_fnK {pins : List (Addr × Obj)} {σ : L2.St} {H : Hp} {s : Shared} {Q : VK} {us ws : List Value} {vs zs : List V} (F : FnK X.prog X.w X.K X.mg X.base CX k f ks sp) (hr : Room k X.A) (hx : Passes CX X E)
    (I : Inv X pins σ H s) (r : Vals vs us) (rz : Vals zs ws) (h : sp vs zs H Q E) : wpAny (model X.prog X.w) X.A (call (.ref f) us (ks.zip ws)) (EP X pins σ Q) X.xe s := by
  refine wpAny_call (codeAny_mono (F X.A X.stack s H us ws vs zs Q E hr I.env0 r rz h) fun r s' hq => ?_)
  cases r with
  | error e => exact hx pins σ H s e s' I hq
  | ok fl =>
    cases fl with
    | ret u => exact I.after hq
    | next => exact False.elim hq
    | brk => exact False.elim hq
    | cont => exact False.elim hq
end
/-! ### a def with defaults, called by position -/
section
variable {P : Program} {w : World} {K : PySem.W.Frag} {mg : Str → Option Value} {base : Heap} {x qual : Str} {params : Arguments} {body : List Stmt} {scope : Scope} {dvs : List V} {kws : List (Str × V)} {f : Addr} {fd : FuncData}
/-- n values are written, the defaults behind the first j fill up -/
theorem fnr_dfl {N ps : List Str} {k : Nat} {sp : Sp} (n j : Nat) (F : FunD K x qual params body scope dvs kws f fd) (S : FnScope N ps scope) (hd : dvs ≠ []) (hn : n + (dvs.length - j) = ps.length)
    (h : ∀ (T : Addr) (kV doc pm : Value) (an : Option Addr) (cdv ct : Value) (us its : List Value), us.length = n → its.length = dvs.length →
      ∃ k, bindArgs (PySem.W.fnOf x qual params body scope (.ref T) kV doc pm an cdv ct) ⟨us, []⟩ = seqItems? (.ref T) >>= k ∧ k (some its.toArray) = pure (ps.zip (us ++ its.drop j)))
    (len : ∀ vs H Q E, sp vs H Q E → vs.length = ps.length) (hbody : Bod P w K mg base N qual scope f body k sp) : FnR P w K mg base (L2.CX P w) (k + 1) f (fun vs H Q E => sp (vs ++ dvs.drop j) H Q E) := by
  have G := FunD.ok (P := P) (w := w) (mg := mg) (base := base) (CX := L2.CX P w) F S len hbody
  obtain ⟨ds, hv, B⟩ := F.binds1 n j hd hn h
  exact FnOk.raw G B hv
end
end EM
/-! ### != of two lists whose items are equal -/
namespace EM
open PySem PySem.Spec PyProof.Rows L2
end EM
/-! EM5: t[::-1] of a tuple. -/
namespace EM
open PySem PySem.Spec PyProof.Rows L2
end EM
/-! EM6: constants of the module, facts of a class as Bools, heaps. -/
namespace EM
open PySem PySem.Spec PyProof.Rows L2
section
variable {X : Cx} {x : Str} {i : Int} {z : Str} {pos : Pos}
theorem pe_gI (hm : ∃ t, X.mg x = some (.int i t)) (hg : Gl X x := by rfl) (hd : (x == ("__debug__" : Str)) = false := by decide) : PE X (.Name x pos) (tC (.int i)) := by
  obtain ⟨t, h⟩ := hm
  exact pe_glob hg h ⟨t, rfl⟩ hd
end
/-! ### facts of a class -/
theorem isiB_ty {K : PySem.W.Frag} {C : Addr} (c : isiB K C = true) (cl : Cls K C) {H : Hp} {a dx : Addr} {fs : List (Str × V)} (e : H a = some (.ins C dx fs)) : TyX K H (.ref a) (.ref C) := by
  obtain ⟨c1, c⟩ := He.ba c
  obtain ⟨c2, c⟩ := He.ba c
  obtain ⟨c3, c4⟩ := He.ba c
  exact .base (.ins e cl (He.eqO_ok c1) (He.eqO_ok c2) (of_decide_eq_true c3) (of_decide_eq_true c4))
theorem creadB_ok {K : PySem.W.Frag} {C : Addr} (c : creadB K C = true) : ClX.CRead K C (.type "type") := by
  obtain ⟨c1, c2⟩ := He.ba c
  exact ⟨c1, He.eqO_ok c2⟩
theorem cmetB_ok {K : PySem.W.Frag} {C : Addr} {m : Str} (c : cmetB K C m = true) : ClX.CMet K C (.type "type") m (He.ma K C m) (He5.wf K C "classmethod" m) := by
  obtain ⟨c1, c2⟩ := He.ba c
  exact He5.cmet_of c1 c2
/-! ### heaps -/
theorem same_upd {H : Hp} {p : Addr} {o : HO} (h : H p = none) : Same H (upd H p o) := fun b u e => by
  rw [upd_ne (ne_of_none e h)]
  exact e
theorem same_upd' {H H1 : Hp} {p : Addr} {o : HO} (e : Same H H1) (h : H p = none) : Same H (upd H1 p o) := fun b u ha => by
  rw [upd_ne (ne_of_none ha h)]
  exact e b u ha
theorem atI_m {α : Type} {xs : List α} {v : α} {i : Int} {j : Nat} (h : i + (xs.length : Int) = (j : Int)) (h0 : i < 0) (e : xs[j]? = some v) : atI xs i = some v := by
  have hj : j < xs.length := (List.getElem?_eq_some_iff.mp e).1
  have q : ixN xs.length i = some j := by
    unfold ixN
    rw [if_neg (by omega)]
    have : (i + (xs.length : Int)).toNat = j := by omega
    first
      | (rw [if_pos (by omega), this])
      | (split <;> simp_all <;> omega)
  unfold atI
  rw [q]
  exact e
theorem ifN {c : Bool} {A B : Prop} (h : c = false) (q : B) : if c = true then A else B := by
  rw [h, if_neg Bool.false_ne_true]
  exact q
theorem ifP {c : Bool} {A B : Prop} (h : c = true) (q : A) : if c = true then A else B := by
  rw [if_pos h]
  exact q
theorem dVi {a b : Int} : decide (V.int a = V.int b) = decide (a = b) := by
  by_cases h : a = b
  · subst h; simp
  · have : ¬ V.int a = V.int b := fun q => h (V.int.inj q)
    rw [decide_eq_false h, decide_eq_false this]
theorem cut_from (xs : List V) (j : Nat) (h : j ≤ xs.length) : cutV xs (some (j : Int)) none = xs.drop j := by
  unfold cutV
  have e1 : HT.sIx xs.length 0 (some (j : Int)) = j := by
    show (if (j : Int) < 0 then ((j : Int) + (xs.length : Int)).toNat else min (j : Int).toNat xs.length) = j
    rw [if_neg (by omega)]
    omega
  have e2 : HT.sIx xs.length xs.length none = xs.length := rfl
  rw [e1, e2]
  exact List.take_of_length_le (by rw [List.length_drop]; exact Nat.le_refl _)
theorem sz {n : Nat} (h : n ≤ 100000) : n ≤ sizeLine := Nat.le_trans h (by decide)
theorem szl {n : Nat} (h : n < 100000) : n < sizeLine := Nat.lt_of_lt_of_le h (by decide)
/-! ### data of ints, at any depth -/
theorem dp_ints {K : PySem.W.Frag} {H : Hp} : ∀ ns : List Int, DpAll K H (ns.map V.int) (ns.map PyData.int)
  | [] => .nil
  | n :: r => .cons (.int n) (dp_ints r)
theorem lay_ints : ∀ ns : List Int, PyData.canLayAll0 (ns.map PyData.int) = true
  | [] => rfl
  | n :: r => by
    show (PyData.canLay0 (.int n) && PyData.canLayAll0 (r.map PyData.int)) = true
    rw [lay_ints r]
    rfl
theorem dep_ints : ∀ ns : List Int, PyData.depthAll (ns.map PyData.int) = 0
  | [] => rfl
  | n :: r => by
    show max (PyData.depth (.int n)) (PyData.depthAll (r.map PyData.int)) = 0
    rw [dep_ints r]
    rfl
theorem eqv_ints : ∀ ns ms : List Int, PyData.eqvAll (ns.map PyData.int) (ms.map PyData.int) = decide (ns = ms)
  | [], [] => by simp [PyData.eqvAll]
  | [], m :: r => by simp [PyData.eqvAll]
  | n :: r, [] => by simp [PyData.eqvAll]
  | n :: r, m :: q => by
    show (PyData.eqv (.int n) (.int m) && PyData.eqvAll (r.map PyData.int) (q.map PyData.int)) = _
    rw [eqv_ints r q]
    show ((n == m) && decide (r = q)) = _
    by_cases h : n = m
    · subst h
      by_cases h2 : r = q
      · subst h2; simp
      · simp [h2]
    · simp [h]
abbrev dL (ns : List Int) : PyData := .list (ns.map PyData.int)
theorem shL (ns : List Int) : SeqAt.shaped (dL ns) = true := by
  unfold SeqAt.shaped
  rw [show (dL ns).canLay0 = PyData.canLayAll0 (ns.map PyData.int) from rfl, lay_ints, show (dL ns).depth = PyData.depthAll (ns.map PyData.int) + 1 from rfl, dep_ints]
  rfl
theorem eqvL (ns ms : List Int) : PyData.eqv (dL ns) (dL ms) = decide (ns = ms) := eqv_ints ns ms
/-! ### a for over a list or a tuple -/
section
variable {X : Cx} {tg : Expr}
def iSeq (tl : TE) : TI := fun σ H R => tl σ H fun x H1 => ∃ a xs, x = .ref a ∧ (H1 a = some (.lst xs) ∨ H1 a = some (.tup xs)) ∧ ∀ J, Walk J xs.length (fun H' => H' a = H1 a) (YAt xs) → R J H1
theorem pi_seq {l : Expr} {tl : TE} (hl : PE X l tl) : PI X tg l (iSeq tl) := by
  refine ⟨fun pins s σ H R I h => ?_⟩
  refine thn (hl.run pins s σ H _ I h) fun v s1 ⟨x, H1, I1, r1, q1⟩ => ?_
  obtain ⟨a, xs, e, hq, q⟩ := q1
  subst e
  cases r1
  rcases hq with hq | hq
  · have q := q _ ((walk_list (K := X.K) (a := a) (xs := xs)).mono (fun H' e => SqL.of (e.trans hq)) fun _ _ _ _ _ _ y => y)
    obtain ⟨its, rv, p, hz⟩ := I1.list (SqL.of hq)
    refine wpAny_pyIter_list p.isList ?_
    refine ⟨s1.heap.objs.size, [s1.heap.objs.size], _, _, H1, rfl, I1.kept (t' := s1.toks) fun b o e => Heap.get?_push_of_some _ e, turn_list a _, ⟨_, Heap.get?_push_size _ rfl, rfl, rfl⟩, fun b hb => ?_, q⟩
    have e : b = s1.heap.objs.size := by simpa using hb
    subst e
    exact I1.fpOk (Nat.le_refl _) (I1.hok.fresh (Nat.le_refl _))
  · have q := q _ ((walk_tup (K := X.K) (a := a) (xs := xs)).mono (fun H' e => SqT.of (e.trans hq)) fun _ _ _ _ _ _ y => y)
    obtain ⟨its, rv, p, hz⟩ := I1.tuple (SqT.of hq)
    refine wpAny_pyIter_tuple (show s1.heap.IsTuple a its.toArray from p) ?_
    refine ⟨s1.heap.objs.size, [s1.heap.objs.size], _, _, H1, rfl, I1.kept (t' := s1.toks) fun b o e => Heap.get?_push_of_some _ e, turn_tuple a _, ⟨_, Heap.get?_push_size _ rfl, rfl, rfl⟩, fun b hb => ?_, q⟩
    have e : b = s1.heap.objs.size := by simpa using hb
    subst e
    exact I1.fpOk (Nat.le_refl _) (I1.hok.fresh (Nat.le_refl _))
end
theorem walk_zipT {K : PySem.W.Frag} {a b : Addr} {xs ys : List V} {n : Nat} (hn : n = min xs.length ys.length) : Walk (RZ.ItzT K a b) n (fun H => SqT K H a xs ∧ SqT K H b ys) (YPair (fun i => xs[i]?) (fun i => ys[i]?)) :=
  ⟨fun i H hi g => ⟨xs, ys, xs[i]'(by omega), ys[i]'(by omega), g.1, g.2, List.getElem?_eq_getElem (by omega), List.getElem?_eq_getElem (by omega)⟩,
   fun H g => ⟨xs, ys, g.1, g.2, by omega⟩, fun i H x H' hi g ⟨T, x1, y1, e1, e2, e3, e4, e5⟩ => ⟨T, x1, y1, e1, e2, e3, e4 xs g.1, e5 ys g.2⟩⟩
end EM
namespace PySem.W
open PyProof.Rows
end PySem.W
namespace EM
open PySem PySem.Spec PyProof.Rows L2
end EM
/-! EM7: defs called where no repr is under way (guards), repr of data. -/
namespace EM
open PySem PySem.Spec PyProof.Rows L2
/-- a promise by positional values, where no container is being shown -/
def FnG (P : Program) (w : World) (K : PySem.W.Frag) (mg : Str → Option Value) (base : Heap) (CX : CXT) (k : Nat) (f : Addr) (sp : Sp) : Prop :=
  ∀ (A : Around) (outer : List Env) (s : Shared) (H : Hp) (us : List Value) (vs : List V) (Q : VK) (E : XK), Room k A → A.guards = some [] → Env0 P w K mg base A outer s H → Vals vs us → sp vs H Q E →
    codeAny (model P w) A (.call (.ref f) ⟨us, []⟩) (CR CX outer P w H s Q E) s
section
variable {X : Cx} {CX : CXT} {k : Nat} {f C : Addr} {sp : Sp} {E : XK} {x m : Str} {e o : Expr} {es : List Expr} {te ta : TE} {t : TA} {p sp_ pos apos : Pos}
theorem run_fnG {pins : List (Addr × Obj)} {σ : L2.St} {H : Hp} {s : Shared} {Q : VK} {us : List Value} {vs : List V} (F : FnG X.prog X.w X.K X.mg X.base CX k f sp) (hr : Room k X.A) (hG : X.A.guards = some []) (hx : Passes CX X E) (I : Inv X pins σ H s) (r : Vals vs us) (h : sp vs H Q E) :
    wpAny (model X.prog X.w) X.A (call (.ref f) us) (EP X pins σ Q) X.xe s := by
  refine wpAny_call (codeAny_mono (F X.A X.stack s H us vs Q E hr hG I.env0 r h) fun r s' hq => ?_)
  cases r with
  | error e => exact hx pins σ H s e s' I hq
  | ok fl =>
    cases fl with
    | ret u => exact I.after hq
    | next => exact False.elim hq
    | brk => exact False.elim hq
    | cont => exact False.elim hq
/-- f(e, ..) -/
theorem pe_cG (F : FnG X.prog X.w X.K X.mg X.base CX k f sp) (hr : Room k X.A) (hG : X.A.guards = some []) (hk : PySem.W.keepIn X.K (.ref f) = true) (hm : X.mg x = some (.ref f)) (hx : Passes CX X E) (ha : PA X (e :: es) t) (hg : Gl X x := by rfl) (hd : (x == ("__debug__" : Str)) = false := by decide)
    (he : starEach (e :: es) X.env = (false, eval e X.env) :: starEach es X.env := by rfl) (hpl : (backTo pos (starEach es X.env)).any (·.1) = false := by rfl) :
    PE X (.Call (.Name x p) (e :: es) [] pos) (tCR sp E t) := by
  refine ⟨fun pins s σ H Q I h => ?_⟩
  refine wpAny_Call_Name_kw (ld_glob I hg hm ?_ hd)
  refine PySem.W.callWith_K (h₀ := X.base) I.ok.mod.kin hk (thn (ha.run pos pins s σ H _ I h) fun us s1 ⟨vs, H1, I1, r, q⟩ => ⟨I1.kIn, ?_⟩) he hpl
  exact run_fnG F hr hG hx I1 r q
end
section
variable {P : Program} {w : World} {K : PySem.W.Frag} {mg : Str → Option Value} {base : Heap} {x qual : Str} {params : Arguments} {body : List Stmt} {scope : Scope} {kws : List (Str × V)} {f : Addr} {fd : FuncData}
def BodG (P : Program) (w : World) (K : PySem.W.Frag) (mg : Str → Option Value) (base : Heap) (N : List Str) (qual : Str) (scope : Scope) (f : Addr) (body : List Stmt) (k : Nat) (sp : Sp) : Prop :=
  ∀ (cdv : Value) (A : Around) (outer : List Env) (s : Shared) (H : Hp) (vs : List V) (Q : VK) (E : XK), Room k (A.deeper (envOfC qual scope s.heap.objs.size f cdv)) → (A.deeper (envOfC qual scope s.heap.objs.size f cdv)).guards = some [] → sp vs H Q E →
      ∃ t, PSs (cxOf (L2.CX P w) P w K mg base N qual scope f cdv A outer s H E) body t ∧ t { nx := fun _ H' => Q .non H', rt := Q } (start N vs) H
/-- a def without defaults -/
theorem fng {N ps : List Str} {k : Nat} {sp : Sp} (F : FunD K x qual params body scope [] kws f fd) (S : FnScope N ps scope)
    (hb : ∀ (kV doc pm : Value) (an : Option Addr) (cdv ct : Value) (us : List Value), us.length = ps.length → bindArgs (PySem.W.fnOf x qual params body scope .none kV doc pm an cdv ct) ⟨us, []⟩ = pure (ps.zip us))
    (len : ∀ vs H Q E, sp vs H Q E → vs.length = ps.length) (hbody : BodG P w K mg base N qual scope f body k sp) : FnG P w K mg base (L2.CX P w) (k + 1) f sp := by
  obtain ⟨oc, od, dV, kV, doc, pm, an, cdv, ct, osl, e, l, c, hd, _⟩ := F.ex
  rcases hd with ⟨_, e2⟩ | ⟨e2, _⟩
  · subst e2
    subst e
    intro A outer s H us vs Q E hr hG e0 r h
    have hl := len vs H Q E h
    refine StX.run_bnd (G := fun vs' H' => vs' = vs ∧ H' = H) l c S hr e0 (fun A' Ex Q' hQ => ?_) (fun s2 H2 vs2 hg2 hr2 => ?_)
    · rw [hb kV doc pm an cdv ct us (by rw [← r.length]; exact hl)]
      exact wpAny_pure (hQ s H vs us e0 Un.refl rfl (fun _ _ z => z) r hl ⟨rfl, rfl⟩)
    · obtain ⟨rfl, rfl⟩ := hg2
      exact hbody cdv A outer s2 H2 vs2 Q E hr2 hG h
  · exact absurd rfl e2
end
/-! ### repr of data -/
mutual
theorem dp_nodict {K : PySem.W.Frag} {H : Hp} : ∀ (d : PyData) (v : V), Dp K H v d → d.hasDict = false
  | .none, _, _ => rfl
  | .bool _, _, _ => rfl
  | .int _, _, _ => rfl
  | .str _, _, _ => rfl
  | .list ds, _, h => by
    cases h with
    | lst _ h => exact dp_nodictAll ds _ h
  | .tuple ds, _, h => by
    cases h with
    | tup _ h => exact dp_nodictAll ds _ h
  | .dict _, _, h => by cases h
theorem dp_nodictAll {K : PySem.W.Frag} {H : Hp} : ∀ (ds : List PyData) (vs : List V), DpAll K H vs ds → PyData.hasDictAll ds = false
  | [], _, _ => rfl
  | d :: ds, _, h => by
    cases h with
    | cons h1 h2 =>
      show (d.hasDict || PyData.hasDictAll ds) = false
      rw [dp_nodict d _ h1, dp_nodictAll ds _ h2]
      rfl
end
def rRepr (K : PySem.W.Frag) : List V → Hp → VK → Prop := fun xs H Q => ∃ (x : V) (d : PyData), xs = [x] ∧ Dp K H x d ∧ d.showable = true ∧ d.shown.length ≤ sizeLine ∧ d.depth ≤ 64 ∧ Q (.str d.shown) H
section
variable {X : Cx}
theorem call_reprD (hG : X.A.guards = some []) (hu : X.A.units + 70 < cLine) : CallR X (.builtin "repr") (rRepr X.K) := by
  intro pins s σ H xs us Q I r h
  obtain ⟨x, d, rfl, hd, hs, hz, hdep, q⟩ := h
  cases r with
  | cons rx rr =>
    cases rr
    rename_i u
    obtain ⟨as, rd⟩ := Dp.reads I d x u hd rx
    have nd := dp_nodict d x hd
    cases hd with
    | non =>
      cases rx
      exact PySem.P.repr_of_none ⟨.str _, H, I.tok _, ⟨_, rfl⟩, q⟩
    | bl b =>
      cases rx
      refine PySem.P.repr_of_bool ⟨.str _, H, I.tok _, ⟨_, rfl⟩, ?_⟩
      cases b <;> exact q
    | int i =>
      obtain ⟨t, rfl⟩ := rx
      refine PySem.P.repr_of_int (of_decide_eq_true hs) ⟨.str _, H, I.tok _, ⟨_, rfl⟩, q⟩
    | str z =>
      obtain ⟨t, rfl⟩ := rx
      exact PySem.P.repr_of_str ⟨.str _, H, I.tok _, ⟨_, rfl⟩, q⟩ hz
    | lst hx hds =>
      cases rx
      exact repr_of_reads' rd hs (fun z => by rw [nd] at z; cases z) hG (by omega) (fun _ _ e => e) (fun h' u tk hk => ⟨.str _, H, I.kept hk, ⟨_, rfl⟩, q⟩) hz
    | tup hx hds =>
      cases rx
      exact repr_of_reads' rd hs (fun z => by rw [nd] at z; cases z) hG (by omega) (fun _ _ e => e) (fun h' u tk hk => ⟨.str _, H, I.kept hk, ⟨_, rfl⟩, q⟩) hz
end
end EM
/-! EM8: own exceptions with fields: facts as Bools, raise, fields read in a suite. -/
namespace EM
open PySem PySem.Spec PyProof.Rows L2
/-! ### __init__ of one field, of two -/
end EM
/-! EM9: try with several except clauses, each with or without a name. -/
namespace EM
open PySem PySem.Spec PyProof.Rows L2
abbrev Hd := Value × Option Nat × (Addr → Value → Option Addr → TS)
/-- behind a suite that held its error in slot i -/
def gone (i : Nat) (D : Ends) : Ends := { nx := fun σ' H' => D.nx (σ'.set i none) H', rt := D.rt, bk := fun σ' H' => D.bk (σ'.set i none) H', ct := fun σ' H' => D.ct (σ'.set i none) H' }
inductive HdsN (X : Cx) : List ExceptHandler → List Hd → Prop
  | nil : HdsN X [] []
  | cons {x : Str} {c : Value} {ts : Addr → Value → Option Addr → TS} {b₀ : Stmt} {suite : List Stmt} {np pos' : Pos} {hds : List ExceptHandler} {l : List Hd} (hc : Names X x c)
      (hsu : ∀ (a : Addr) (oe : Obj) (cls : Value) (d : Option Addr) (pn : List (Addr × Obj)), Zc cls d oe → (∃ vs, oe.data = .fields vs) → PSs (X.suite a ((a, oe) :: pn)) (b₀ :: suite) (ts a cls d)) (r : HdsN X hds l) :
      HdsN X (.ExceptHandler (some (.Name x np)) none (b₀ :: suite) pos' :: hds) ((c, none, ts) :: l)
  | named {x n : Str} {i : Nat} {c : Value} {ts : Addr → Value → Option Addr → TS} {b₀ : Stmt} {suite : List Stmt} {np pos' : Pos} {hds : List ExceptHandler} {l : List Hd} (hc : Names X x c) (hi : X.N[i]? = some n) (hln : X.env.kindOf n = some .local)
      (hsu : ∀ (a : Addr) (oe : Obj) (cls : Value) (d : Option Addr) (pn : List (Addr × Obj)), Zc cls d oe → (∃ vs, oe.data = .fields vs) → PSs (X.suite a ((a, oe) :: pn)) (b₀ :: suite) (ts a cls d)) (r : HdsN X hds l) :
      HdsN X (.ExceptHandler (some (.Name x np)) (some n) (b₀ :: suite) pos' :: hds) ((c, some i, ts) :: l)
end EM
/-! EM10: what many laws share: the pen and its draws, plain rows of ints. -/
namespace EM
open PySem PySem.Spec PyProof.Rows L2
def scan (a : Int) : List Int → List Int
  | [] => [a]
  | w :: r => a :: scan (a + w) r
theorem take_snoc {α : Type} {l : List α} {i : Nat} {x : α} (h : l[i]? = some x) : l.take (i + 1) = l.take i ++ [x] := by
  rw [List.take_add_one, h]
  rfl
def good (ws : List Int) : Prop := ws.length % 2 = 1 ∧ 3 ≤ ws.length ∧ ws.length ≤ 127 ∧ ∀ x ∈ ws, 1 ≤ x ∧ x ≤ 1000
def sumsOf (ws : List Int) : List Int := List.zipWith (· + ·) ws (ws.drop 1)
/-- what draws: the cells, the index of the next one (at most n), the rest of a great cell -/
def Pen (H : Hp) (p l : Addr) (n : Nat) : Prop := ∃ (cells : List Int) (at_ rest : Int), H p = some (.lst [.ref l, .int at_, .int rest]) ∧ H l = some (.lst (cells.map V.int)) ∧ l ≠ p ∧ cells.length ≤ 63 ∧ 0 ≤ at_ ∧ at_ ≤ n
def spPen (K : PySem.W.Frag) : Sp := fun vs H Q _ => ∃ (a : Addr) (ns : List Int), vs = [.ref a] ∧ SqL K H a (ns.map V.int) ∧ ns.length ≤ 63 ∧ ∀ p l H', Same H H' → H p = none → Pen H' p l 0 → Q (.ref p) H'
def spDraw : Sp := fun vs H Q _ => ∃ (p l : Addr) (n : Nat) (many : Int), vs = [.ref p, .int many] ∧ Pen H p l n ∧ n ≤ 1000000 ∧ 1 ≤ many ∧ many < 10000000000000000000000000000000000000000000000000000000000000000000000000000000000000000000000000000 ∧ ∀ d H', 0 ≤ d → d < many → (∀ b o, H b = some o → b ≠ p → H' b = some o) → Pen H' p l (n + 1) → Q (.int d) H'
theorem draw_bd {m a A B C : Int} (m0 : 0 ≤ m) (m1 : m < 2147483648) (a0 : 0 ≤ a) (a1 : a ≤ 1000000) (hA : 0 ≤ A ∧ A ≤ 1000000) (hB : 0 ≤ B ∧ B ≤ 1000000) (hC : 0 ≤ C ∧ C ≤ 1000000) :
    (m * (2 * a + A) + B * a * a + C).natAbs < 2 ^ 64 := by
  have h1 : m * (2 * a + A) ≤ 2147483648 * 3000000 := Int.mul_le_mul (by omega) (by omega) (by omega) (by omega)
  have h2 : 0 ≤ m * (2 * a + A) := Int.mul_nonneg m0 (by omega)
  have h3 : B * a ≤ 1000000 * 1000000 := Int.mul_le_mul hB.2 a1 a0 (by omega)
  have h4 : 0 ≤ B * a := Int.mul_nonneg hB.1 a0
  have h5 : B * a * a ≤ 1000000 * 1000000 * 1000000 := Int.mul_le_mul h3 a1 a0 (by omega)
  have h6 : 0 ≤ B * a * a := Int.mul_nonneg h4 a0
  omega
theorem mul_bd {B a : Int} (a0 : 0 ≤ a) (a1 : a ≤ 1000000) (hB : 0 ≤ B ∧ B ≤ 1000000) : -(2 ^ 64) < B * a ∧ B * a < 2 ^ 64 := by
  have h3 : B * a ≤ 1000000 * 1000000 := Int.mul_le_mul hB.2 a1 a0 (by omega)
  have h4 : 0 ≤ B * a := Int.mul_nonneg hB.1 a0
  constructor <;> omega
theorem cut_ints (ns : List Int) (lo hi : Option Int) : ∃ ms : List Int, cutV (ns.map V.int) lo hi = ms.map V.int ∧ ms.length ≤ ns.length := by
  refine ⟨(ns.drop (HT.sIx (ns.map V.int).length 0 lo)).take (HT.sIx (ns.map V.int).length (ns.map V.int).length hi - HT.sIx (ns.map V.int).length 0 lo), ?_, ?_⟩
  · unfold cutV
    rw [List.map_take, List.map_drop]
  · rw [List.length_take, List.length_drop]
    omega
def Keep (p : Addr) (H H' : Hp) : Prop := ∀ b o, H b = some o → b ≠ p → H' b = some o
theorem Keep.refl {p : Addr} {H : Hp} : Keep p H H := fun _ _ e _ => e
theorem Keep.trans {p : Addr} {H H1 H2 : Hp} (a : Keep p H H1) (b : Keep p H1 H2) : Keep p H H2 := fun c o e n => b c o (a c o e n) n
theorem Keep.of {p : Addr} {H H1 : Hp} (a : Same H H1) : Keep p H H1 := fun c o e _ => a c o e
theorem Keep.mut {p : Addr} {H H1 : Hp} {D : Addr} {o : HO} (a : Keep p H H1) (h : H D = none) : Keep p H (upd H1 D o) := fun c u e n => by
  rw [upd_ne (ne_of_none e h)]
  exact a c u e n
theorem Pen.mono {H : Hp} {p l : Addr} {n m : Nat} (h : Pen H p l n) (e : n ≤ m) : Pen H p l m := by
  obtain ⟨c, a, r, h1, h2, h3, h4, h5, h6⟩ := h
  exact ⟨c, a, r, h1, h2, h3, h4, h5, by omega⟩
theorem Pen.same {H H' : Hp} {p l : Addr} {n : Nat} (h : Pen H p l n) (e : Same H H') : Pen H' p l n := by
  obtain ⟨c, a, r, h1, h2, h3, h4, h5, h6⟩ := h
  exact ⟨c, a, r, e _ _ h1, e _ _ h2, h3, h4, h5, h6⟩
theorem Pen.mut {H : Hp} {p l D : Addr} {o : HO} {n : Nat} (h : Pen H p l n) (n1 : D ≠ p) (n2 : D ≠ l) : Pen (upd H D o) p l n := by
  obtain ⟨c, a, r, h1, h2, h3, h4, h5, h6⟩ := h
  exact ⟨c, a, r, by rw [upd_ne n1.symm]; exact h1, by rw [upd_ne n2.symm]; exact h2, h3, h4, h5, h6⟩
theorem Pen.ne {H : Hp} {p l D : Addr} {n : Nat} (h : Pen H p l n) (hD : H D = none) : D ≠ p ∧ D ≠ l := by
  obtain ⟨c, a, r, h1, h2, _⟩ := h
  exact ⟨(ne_of_none h1 hD).symm, (ne_of_none h2 hD).symm⟩
theorem pick {xs : List V} {d : Int} (h0 : 0 ≤ d) (h1 : d < xs.length) : ∃ v, atI xs d = some v ∧ v ∈ xs := by
  have h : d.toNat < xs.length := by omega
  exact ⟨xs[d.toNat], at_of (j := d.toNat) (by omega) (List.getElem?_eq_getElem h), List.getElem_mem h⟩
def spPick : Sp := fun vs H Q _ => ∃ (p l : Addr) (n : Nat) (a : Addr) (xs : List V), vs = [.ref p, .ref a] ∧ Pen H p l n ∧ n ≤ 1000000 ∧ H a = some (.lst xs) ∧ a ≠ p ∧ 1 ≤ xs.length ∧ xs.length ≤ 1000000 ∧
  ∀ v H', v ∈ xs → Keep p H H' → Pen H' p l (n + 1) → Q v H'
end EM
/-! EM11: plain facts of texts of figures; a callee's exceptions under a try. -/
namespace EM
open PySem PySem.Spec PyProof.Rows L2 PySem.NumText
abbrev sg (a : Str) : List Nat := a.cps.toList
section
variable {X : Cx} {W : WX}
theorem passes_len (tk : Takes X W) : Passes (L2.CX X.prog X.w) X (fun cls d H => ∀ σ : L2.St, σ.length = X.N.length → W cls d σ H) := fun pins σ H s e s' I c =>
  tk e s' (XE.of_call I (fun cls d H' h => h σ I.len) c)
end
end EM
/-! EM12: a list beside an empty list. -/
namespace EM
open PySem PySem.Spec PyProof.Rows L2
def rEqNil (K : PySem.W.Frag) : R2 := fun x y H Q => ∃ a b xs, x = .ref a ∧ y = .ref b ∧ SqL K H a xs ∧ SqL K H b [] ∧ Q (.bl xs.isEmpty) H
section
variable {X : Cx}
theorem op_eqNil (hu : X.A.units + 64 < cLine) : OpR X (compareOp .Eq) (rEqNil X.K) := by
  intro pins s σ H x y v u Q I rx ry h
  obtain ⟨a, b, xs, rfl, rfl, ha, hb, q⟩ := h
  cases rx
  cases ry
  obtain ⟨its, r, pl, _⟩ := I.list ha
  obtain ⟨its2, r2, pl2, _⟩ := I.list hb
  have e2 : its2 = [] := by cases r2; rfl
  subst e2
  have hl := r.length
  show wpAny (model X.prog X.w) X.A (richCompare .Eq (.ref a) (.ref b)) (EP X pins σ Q) X.xe s
  cases xs with
  | nil =>
    cases r
    exact SeqAt.RcAt.lists (e := fun _ => true) pl.isList pl2.isList rfl (by omega) (fun j h1 _ => absurd h1 (by simp)) _ _ _ _ ⟨.bl true, H, I, rfl, q⟩
  | cons c r0 =>
    refine SeqAt.RcAt.lists_lengths pl.isList pl2.isList ?_ (by omega) _ _ _ _ ⟨.bl false, H, I, rfl, q⟩
    rw [List.size_toArray, ← hl]
    rfl
end
end EM
/-! EM13: marks: what stands at an address, promises of their defs. -/
namespace EM
open PySem PySem.Spec PyProof.Rows L2
def mf (wp ep sp : Addr) (b t u : Int) : List (Str × V) := [("widths", .ref wp), ("edge_row", .ref ep), ("sums", .ref sp), ("bars", .int b), ("total", .int t), ("span", .int u)]
/-- a mark of these widths stands at p -/
def MarkAt (K : PySem.W.Frag) (H : Hp) (p : Addr) (ws : List Int) : Prop := good ws ∧ ∃ dx wp ep sp, H p = some (.ins (He.ga K "Mark") dx (mf wp ep sp ((ws.length : Int) / 2 + 1) ws.sum (ws.take (ws.length - 1)).sum)) ∧ H wp = some (.tup (ws.map V.int)) ∧ H ep = some (.tup ((scan 0 ws).map V.int)) ∧ H sp = some (.tup ((sumsOf ws).map V.int))
theorem MarkAt.same {K : PySem.W.Frag} {H H' : Hp} {p : Addr} {ws : List Int} (h : MarkAt K H p ws) (e : Same H H') : MarkAt K H' p ws := by
  obtain ⟨g, dx, wp, ep, sp, h1, h2, h3, h4⟩ := h
  exact ⟨g, dx, wp, ep, sp, e _ _ h1, e _ _ h2, e _ _ h3, e _ _ h4⟩
def spIsInt (K : PySem.W.Frag) : Sp := fun vs H Q _ => ∃ x t b1 b2, vs = [x] ∧ TyX K H x t ∧ PySem.W.kitOne K t (.type "int") = some b1 ∧ PySem.W.kitOne K t (.type "bool") = some b2 ∧ Q (.bl (b1 && !b2)) H
theorem kSelf {K : PySem.W.Frag} {C : Addr} : PySem.W.kitOne K (.ref C) (.ref C) = some true := by
  unfold PySem.W.kitOne
  rw [if_pos (beq_self_eq_true _)]
end EM
/-! EM14: str of an instance with its own __str__. -/
namespace EM
open PySem PySem.Spec PyProof.Rows L2
def rStrO (C : Addr) (sp : Sp) (E : XK) : List V → Hp → VK → Prop := fun xs H Q => ∃ a dx fs, xs = [.ref a] ∧ H a = some (.ins C dx fs) ∧ sp [.ref a] H (fun z H' => ∃ r, z = .str r ∧ Q (.str r) H') E
section
variable {X : Cx} {CX : CXT} {n : Nat} {g C : Addr} {sp : Sp} {E : XK}
theorem call_strO (hs : PySem.W.findIn X.K (.ref C) "__str__" = some (some (.ref g))) (hf : PySem.W.isFn X.K (.ref g) = true) (F : FnR X.prog X.w X.K X.mg X.base CX n g sp) (hr : Room (n + 2) X.A) (hx : Passes CX X E) : CallR X (.type "str") (rStrO C sp E) := by
  intro pins s σ H xs us Q I r h
  obtain ⟨a, dx, fs, rfl, ha, q⟩ := h
  cases r with
  | cons rx rr =>
    cases rr
    rename_i u
    cases (show u = Value.ref a from rx)
    obtain ⟨ox, od, J, _⟩ := ins_at I ha
    refine PySem.W.kso_call (hr.in1.in1).units0 I.kIn J hs hf ?_
    have c := SlX.run_at (us := [.ref a]) (ws := [.ref a]) F hr.in1.in1 I.env0.in1.in1 hx I (.cons rfl .nil) q
    refine wpAny_mono (wpAny_call c) (fun w s' z => ?_) fun _ _ x => x
    obtain ⟨z', H', I', rz, r, ez, qz⟩ := z
    subst ez
    obtain ⟨t, rfl⟩ := (show ∃ t, w = Value.str r t from rz)
    exact ⟨.str r, H', I', ⟨t, rfl⟩, qz⟩
end
end EM
/-! EM15: how long a shown list or tuple is. -/
namespace EM
open PySem PySem.Spec PyProof.Rows L2
theorem app_len (a b : Str) : (a ++ b).length = a.length + b.length := by
  obtain ⟨x⟩ := a
  obtain ⟨y⟩ := b
  exact Array.size_append
theorem from_le : ∀ (ts : List Str) (k : Nat) (acc : Str), (textFrom k acc ts).length ≤ acc.length + (ts.map (·.length)).sum + 2 * ts.length
  | [], k, acc => by show acc.length ≤ _; omega
  | t :: r, k, acc => by
    have ih := from_le r (k + 1) (acc ++ (if k > 0 then ", " else "" : String) ++ t)
    have hc : (Str.ofString (if k > 0 then ", " else "" : String)).length ≤ 2 := by split <;> decide +kernel
    rw [app_len, app_len] at ih
    show (textFrom (k + 1) (acc ++ (if k > 0 then ", " else "" : String) ++ t) r).length ≤ _
    simp only [List.map_cons, List.sum_cons, List.length_cons]
    omega
theorem shown_sum : ∀ xs : List PyData, (((PyData.shownAll xs).map (·.length)).sum) = (xs.map fun d => d.shown.length).sum
  | [] => rfl
  | x :: r => by
    show x.shown.length + ((PyData.shownAll r).map (·.length)).sum = x.shown.length + (r.map fun d => d.shown.length).sum
    rw [shown_sum r]
theorem shown_n : ∀ xs : List PyData, (PyData.shownAll xs).length = xs.length
  | [] => rfl
  | x :: r => by
    show (PyData.shownAll r).length + 1 = r.length + 1
    rw [shown_n r]
theorem shown_list (xs : List PyData) : (PyData.list xs).shown.length ≤ (xs.map fun d => d.shown.length).sum + 2 * xs.length + 2 := by
  have h := from_le (PyData.shownAll xs) 0 "["
  have h1 : (Str.ofString "[").length = 1 := by decide +kernel
  have h2 : (Str.ofString "]").length = 1 := by decide +kernel
  show (textFrom 0 "[" (PyData.shownAll xs) ++ Str.ofString "]").length ≤ _
  rw [app_len]
  rw [shown_sum, shown_n] at h
  omega
theorem shown_tuple (xs : List PyData) : (PyData.tuple xs).shown.length ≤ (xs.map fun d => d.shown.length).sum + 2 * xs.length + 3 := by
  have h := StrLaws.join_length_le ", " (PyData.shownAll xs)
  have h1 : (Str.ofString "(").length = 1 := by decide +kernel
  have h2 : (Str.ofString ", ").length = 2 := by decide +kernel
  have h3 : (Str.ofString (if (PyData.shownAll xs).length == 1 then ",)" else ")" : String)).length ≤ 2 := by split <;> decide +kernel
  show (Str.ofString "(" ++ Str.join ", " (PyData.shownAll xs) ++ Str.ofString (if (PyData.shownAll xs).length == 1 then ",)" else ")" : String)).length ≤ _
  rw [app_len, app_len]
  rw [shown_sum, shown_n, h2] at h
  omega
end EM
/-! EM16: replace of written texts behind a test with a written int (a token is out then). -/
namespace EM
open PySem PySem.Spec PyProof.Rows L2
end EM
/-! EM17: ratios: the common divisor, ratios made. -/
namespace EM
open PySem PySem.Spec PyProof.Rows L2
section
variable {X : Cx} {CX : CXT} {k : Nat} {f C : Addr} {sp : Sp} {E : XK} {x : Str} {e : Expr} {es : List Expr} {t : TA} {p pos : Pos}
/-- // by a divisor of either sign -/
theorem op_fdivWN : OpR X (binaryOp .FloorDiv) (rI (fun _ j => j ≠ 0 ∧ j.natAbs.log2 < 9000) fun i j => .int (i.fdiv j)) := opI fun i j _ _ _ _ _ hc q =>
  floordiv_int hc.1 q (.inl (PyProof.noPylong_of_log2 hc.2))
/-- C(e, ..) by the promise of its __init__ -/
theorem pe_mkR (M : Mk X.K C f) (F : FnR X.prog X.w X.K X.mg X.base CX k f sp) (hr : Room (k + 1) X.A) (hm : X.mg x = some (.ref C)) (hx : Passes CX X E) (ha : PA X (e :: es) t) (hg : Gl X x := by rfl) (hd : (x == ("__debug__" : Str)) = false := by decide)
    (he : starEach (e :: es) X.env = (false, eval e X.env) :: starEach es X.env := by rfl) (hpl : (backTo pos (starEach es X.env)).any (·.1) = false := by rfl) :
    PE X (.Call (.Name x p) (e :: es) [] pos) (StX.tMakeR C sp E t) := by
  refine ⟨fun pins s σ H Q I h => ?_⟩
  refine wpAny_Call_Name_kw (ld_glob I hg hm ?_ hd)
  refine PySem.W.callWith_K (h₀ := X.base) I.ok.mod.kin M.kp (thn (ha.run pos pins s σ H _ I h) fun us s1 ⟨vs, H1, I1, r, q⟩ => ⟨I1.kIn, ?_⟩) he hpl
  exact StX.run_makeR M F hr hx I1 r q
end
theorem fmod_less (a b : Int) (h : b ≠ 0) : (a.fmod b).natAbs < b.natAbs := by
  rcases Int.lt_or_gt_of_ne h with h | h
  · have e : a.fmod b = -((-a).fmod (-b)) := by
      have := Int.neg_fmod_neg (a := a) (b := b)
      omega
    have h1 := Int.fmod_lt_of_pos (-a) (b := -b) (by omega)
    have h2 := Int.fmod_nonneg_of_pos (-a) (b := -b) (by omega)
    rw [e]
    omega
  · have h1 := Int.fmod_lt_of_pos a (b := b) h
    have h2 := Int.fmod_nonneg_of_pos a (b := b) h
    omega
theorem gcd_fmod (a b : Int) : Int.gcd b (a.fmod b) = Int.gcd a b := by
  rw [Int.fmod_def, Int.gcd_sub_mul_left_right, Int.gcd_comm]
def spGcd : Sp := fun vs H Q _ => ∃ a b : Int, vs = [.int a, .int b] ∧ Q (.int (Int.gcd a b : Int)) H
/-- the sign of the bottom, times the common divisor -/
def shr (t b : Int) : Int := if b < 0 then -(Int.gcd t b : Int) else (Int.gcd t b : Int)
def nTop (t b : Int) : Int := t.fdiv (shr t b)
def nBot (t b : Int) : Int := b.fdiv (shr t b)
theorem shr_ne {t b : Int} (h : b ≠ 0) : shr t b ≠ 0 := by
  have : Int.gcd t b ≠ 0 := fun z => h (Int.gcd_eq_zero_iff.mp z).2
  unfold shr
  split <;> omega
theorem shr_abs (t b : Int) : (shr t b).natAbs = Int.gcd t b := by
  unfold shr
  split <;> omega
theorem shr_le {t b : Int} (h : b ≠ 0) : (shr t b).natAbs ≤ b.natAbs := by
  rw [shr_abs]
  exact Nat.le_of_dvd (by omega) (Int.gcd_dvd_natAbs_right t b)
/-- the ratio of top t and bottom b stands at p -/
def rf (t b : Int) : List (Str × V) := [("top", .int t), ("bottom", .int b)]
def RatAt (K : PySem.W.Frag) (H : Hp) (p : Addr) (t b : Int) : Prop := ∃ dx, H p = some (.ins (He.ga K "Ratio") dx (rf t b))
theorem RatAt.same {K : PySem.W.Frag} {H H' : Hp} {p : Addr} {t b : Int} (h : RatAt K H p t b) (e : Same H H') : RatAt K H' p t b := by
  obtain ⟨dx, h⟩ := h
  exact ⟨dx, e _ _ h⟩
theorem log_le {a b : Nat} (h : a ≤ b) : a.log2 ≤ b.log2 := by
  by_cases h0 : a = 0
  · subst h0
    simp
  · exact (Nat.le_log2 (by omega)).mpr (Nat.le_trans (Nat.log2_self_le h0) h)
def spRat (K : PySem.W.Frag) : Sp := fun vs H Q _ => ∃ (x dx : Addr) (t b : Int), vs = [.ref x, .int t, .int b] ∧ H x = some (.ins (He.ga K "Ratio") dx []) ∧ b ≠ 0 ∧ b.natAbs.log2 < 9000 ∧
  ∀ H', (∀ c o, H c = some o → c ≠ x → H' c = some o) → RatAt K H' x (nTop t b) (nBot t b) → Q .non H'
end EM
/-! EM18: the end of a law whose promise wants that no guard is held (repr of data). -/
namespace EM
open PySem PySem.Spec PyProof.Rows L2
section
variable {P : Program} {w : World} {K : PySem.W.Frag} {mg mb : Str → Option Value} {CX : CXT} {k : Nat} {fa a : Addr} {sp : Sp} {s1 : Shared} {us : List Value} {ns : List Int}
/-- what the script's heap is, seen from outside -/
def hp1 (a : Addr) (us : List Value) (ns : List Int) : Hp := fun b => if b = a then some (.frz { cls := .type "list", data := .seq us.toArray } (.lst (ns.map V.int))) else none
end
end EM
/-! EM19: plain facts of texts with a stroke: split, partition; texts of numbers. -/
namespace EM
open PySem PySem.Spec PyProof.Rows L2 PySem.NumText Builtin Builtin.Str
theorem sg_app (a b : Str) : sg (a ++ b) = sg a ++ sg b := by
  show (a.cps ++ b.cps).toList = _
  rw [Array.toList_append]
/-! ### texts of numbers -/
theorem sg_of (s : String) : sg (Str.ofString s) = s.toList.map Char.toNat := by
  show (cpsOfBytes 0 0 s.toByteArray.data.toList).toArray.toList = _
  rw [cpsOfBytes_string]
end EM
namespace EM
open PySem PySem.Spec PyProof.Rows L2
theorem n_red {t b : Int} (h : Int.gcd t b = 1) (hb : 0 < b) : nTop t b = t ∧ nBot t b = b := by
  have e : shr t b = 1 := by
    unfold shr
    rw [if_neg (by omega), h]
    rfl
  unfold nTop nBot
  rw [e]
  exact ⟨Int.fdiv_one t, Int.fdiv_one b⟩
/-! ### slices at the first sign -/
end EM
namespace EM
open PySem PySem.Spec PyProof.Rows L2 PySem.NumText
end EM
/-! EM20: repr of an instance with its own __repr__. -/
namespace PySem.W
open PySem PySem.Calls PyProof.Rows Builtin
end PySem.W
namespace EM
open PySem PySem.Spec PyProof.Rows L2
end EM
/-! EM21: lowest terms. -/
namespace EM
open PySem PySem.Spec PyProof.Rows L2
theorem shr_pos {t b : Int} (h : 0 < b) : shr t b = (Int.gcd t b : Int) := if_neg (by omega)
theorem shr_neg {t b : Int} (h : b < 0) : shr t b = -(Int.gcd t b : Int) := if_pos h
theorem gcd_pos {t b : Int} (h : b ≠ 0) : 0 < (Int.gcd t b : Int) := by
  have : Int.gcd t b ≠ 0 := fun z => h (Int.gcd_eq_zero_iff.mp z).2
  omega
theorem top_pos {t b : Int} (h : 0 < b) : nTop t b = t / (Int.gcd t b : Int) := by
  unfold nTop
  rw [shr_pos h, Int.fdiv_eq_ediv_of_nonneg t (by have := gcd_pos (t := t) (b := b) (by omega); omega)]
theorem bot_pos {t b : Int} (h : 0 < b) : nBot t b = b / (Int.gcd t b : Int) := by
  unfold nBot
  rw [shr_pos h, Int.fdiv_eq_ediv_of_nonneg b (by have := gcd_pos (t := t) (b := b) (by omega); omega)]
theorem fdiv_exact {x g : Int} (hg : 0 < g) (hd : g ∣ x) : x.fdiv (-g) = 0 - x / g := by
  obtain ⟨m, rfl⟩ := hd
  rw [Int.mul_ediv_cancel_left m (by omega)]
  have e : g * m = (-g) * (-m) := by rw [Int.neg_mul_neg]
  rw [e, Int.mul_fdiv_cancel_left _ (by omega)]
  omega
theorem top_neg {t b : Int} (h : b < 0) : nTop t b = 0 - t / (Int.gcd t b : Int) := by
  unfold nTop
  rw [shr_neg h]
  exact fdiv_exact (gcd_pos (by omega)) (Int.gcd_dvd_left t b)
theorem bot_neg {t b : Int} (h : b < 0) : nBot t b = 0 - b / (Int.gcd t b : Int) := by
  unfold nBot
  rw [shr_neg h]
  exact fdiv_exact (gcd_pos (by omega)) (Int.gcd_dvd_right t b)
theorem div_abs_le (x g : Int) (hg : 0 < g) (hd : g ∣ x) : (x / g).natAbs ≤ x.natAbs := by
  obtain ⟨m, rfl⟩ := hd
  rw [Int.mul_ediv_cancel_left m (by omega), Int.natAbs_mul]
  exact Nat.le_mul_of_pos_left _ (by omega)
theorem n_abs {t b : Int} (h : b ≠ 0) : (nTop t b).natAbs ≤ t.natAbs ∧ (nBot t b).natAbs ≤ b.natAbs := by
  have hg := gcd_pos (t := t) h
  have h1 := div_abs_le t _ hg (Int.gcd_dvd_left t b)
  have h2 := div_abs_le b _ hg (Int.gcd_dvd_right t b)
  rcases Int.lt_or_gt_of_ne h with hn | hp
  · rw [top_neg hn, bot_neg hn]
    constructor <;> omega
  · rw [top_pos hp, bot_pos hp]
    exact ⟨h1, h2⟩
theorem bot_gt {t b : Int} (h : b ≠ 0) : 0 < nBot t b := by
  have hg := gcd_pos (t := t) h
  obtain ⟨m, hm⟩ := Int.gcd_dvd_right t b
  have e : b / (Int.gcd t b : Int) = m := by
    have : b / (Int.gcd t b : Int) = ((Int.gcd t b : Int) * m) / (Int.gcd t b : Int) := by rw [← hm]
    rw [this, Int.mul_ediv_cancel_left m (by omega)]
  rcases Int.lt_or_gt_of_ne h with hn | hp
  · rw [bot_neg hn, e]
    have : m < 0 := Int.neg_of_mul_neg_right (by rw [← hm]; exact hn) (by omega)
    omega
  · rw [bot_pos hp, e]
    exact Int.pos_of_mul_pos_right (by rw [← hm]; exact hp) (by omega)
theorem n_gcd {t b : Int} (h : b ≠ 0) : Int.gcd (nTop t b) (nBot t b) = 1 := by
  have hg := gcd_pos (t := t) h
  have e : Int.gcd (t / (Int.gcd t b : Int)) (b / (Int.gcd t b : Int)) = 1 := Int.gcd_ediv_gcd_ediv_gcd_of_ne_zero_right h
  rcases Int.lt_or_gt_of_ne h with hn | hp
  · rw [top_neg hn, bot_neg hn, Int.zero_sub, Int.zero_sub, Int.neg_gcd, Int.gcd_neg]
    exact e
  · rw [top_pos hp, bot_pos hp]
    exact e
theorem gcd_emod2 {a b : Int} (h : 0 < b) : Int.gcd b (a % b) = Int.gcd a b := by
  rw [← Int.fmod_eq_emod_of_nonneg a (by omega)]
  exact gcd_fmod a b
/-- the ints' tuple in lowest terms -/
def spCut : Sp := fun vs H Q _ => ∃ u l : Int, vs = [.int u, .int l] ∧ l ≠ 0 ∧ l.natAbs.log2 < 9000 ∧ ∀ p H', Same H H' → H p = none → H' p = some (.tup [.int (nTop u l), .int (nBot u l)]) → Q (.ref p) H'
end EM
namespace EM
open PySem PySem.Spec PyProof.Rows L2
end EM
/-! EM22: defs that make lambdas: the head with their tables, the end of such a law. -/
namespace EM
open PySem PySem.Spec PyProof.Rows L2
/-! ### the code object and the table of a def -/
/-! ### a def whose code object is told -/
section
variable {P : Program} {w : World} {K : PySem.W.Frag} {mg : Str → Option Value} {base : Heap} {x qual : Str} {params : Arguments} {body : List Stmt} {scope : Scope} {kws : List (Str × V)} {f : Addr} {fd : FuncData}
theorem fngC {N ps : List Str} {k : Nat} {sp : Sp} (F : FunD K x qual params body scope [] kws f fd) (S : FnScope N ps scope)
    (hb : ∀ (kV doc pm : Value) (an : Option Addr) (cdv ct : Value) (us : List Value), us.length = ps.length → bindArgs (PySem.W.fnOf x qual params body scope .none kV doc pm an cdv ct) ⟨us, []⟩ = pure (ps.zip us))
    (len : ∀ vs H Q E, sp vs H Q E → vs.length = ps.length)
    (hbody : ∀ (A : Around) (outer : List Env) (s : Shared) (H : Hp) (vs : List V) (Q : VK) (E : XK), Room k (A.deeper (envOfC qual scope s.heap.objs.size f (codeV K f))) → (A.deeper (envOfC qual scope s.heap.objs.size f (codeV K f))).guards = some [] → sp vs H Q E →
      ∃ t, PSs (cxOf (L2.CX P w) P w K mg base N qual scope f (codeV K f) A outer s H E) body t ∧ t { nx := fun _ H' => Q .non H', rt := Q } (start N vs) H) : FnG P w K mg base (L2.CX P w) (k + 1) f sp := by
  obtain ⟨oc, od, dV, kV, doc, pm, an, cdv, ct, osl, e, lk, hc, hd, _⟩ := F.ex
  have ec : codeV K f = cdv := by
    unfold codeV
    rw [lk, e]
  rcases hd with ⟨_, e2⟩ | ⟨e2, _⟩
  · subst e2
    subst e
    intro A outer s H us vs Q E rm hG ev rv hsp
    have nl := len vs H Q E hsp
    refine StX.run_bnd (G := fun vs' H' => vs' = vs ∧ H' = H) lk hc S rm ev (fun A' Ex Q' hQ => ?_) (fun s2 H2 vs2 hg2 hr2 => ?_)
    · rw [hb kV doc pm an cdv ct us (by rw [← rv.length]; exact nl)]
      exact wpAny_pure (hQ s H vs us ev Un.refl rfl (fun _ _ z => z) rv nl ⟨rfl, rfl⟩)
    · obtain ⟨rfl, rfl⟩ := hg2
      rw [← ec] at hr2 ⊢
      exact hbody A outer s2 H2 vs2 Q E hr2 hG hsp
  · exact absurd rfl e2
end
end EM
/-! EM23: x(lambda: body), where no guard is held. -/
namespace EM
open PySem PySem.Spec PyProof.Rows L2
section
variable {X : Cx} {pins : List (Addr × Obj)} {σ : L2.St} {H : Hp} {s : Shared}
abbrev wide (n : Nat) (W : WX) : XK := fun cls d H => ∀ σ : L2.St, σ.length = n → W cls d σ H
/-- a(): what was handed in is a lambda of X -/
theorem pe_actG {Ng : List Str} {qg : Str} {sg : Scope} {g f c2 : Addr} {cdg pm ct : Value} {params : Arguments} {body : Expr} {scope : Scope} {k i : Nat} {a : Str} {pn : List (Addr × Obj)} {xe : Value → Shared → Prop} {W : WX} {Eg : XK} {tb : TE} {p1 p2 : Pos}
    (I : Inv X pins σ H s) (L : LamX.LamS X.env.scope scope) (hG : X.A.guards = some [])
    (hf : s.heap.get? f = some (PySem.W.kla_obj "<lambda>" (X.env.qual ++ "<lambda>") params body scope (cloFrom X.env.cells scope.names []) pm c2 ct)) (n1 : H f = none) (n2 : f ∉ frs X.stack)
    (hbind : bindArgs (PySem.W.kla_fn "<lambda>" (X.env.qual ++ "<lambda>") params body scope (cloFrom X.env.cells scope.names []) pm (.ref c2) ct) ⟨[], []⟩ = pure [])
    (tk : Takes ((cxOf (L2.CX X.prog X.w) X.prog X.w X.K X.mg X.base Ng qg sg g cdg X.A X.stack s H Eg).tr pn xe) W) (rm : Room (k + 1) (X.A.deeper (envOfC qg sg s.heap.objs.size g cdg)))
    (hbody : ∀ (A : Around) (outer : List Env) (s : Shared) (H : Hp), Room k (A.deeper (LamX.lamEnv X scope s.heap.objs.size f c2)) → (A.deeper (LamX.lamEnv X scope s.heap.objs.size f c2)).guards = some [] → PE (LamX.lamCx X A outer s H (wide Ng.length W) scope f c2) body tb)
    (hN : Ng[i]? = some a) (hv : Vis sg a) (hd : (a == ("__debug__" : Str)) = false := by decide) (hcd : (a == ("__classdict__" : Str)) = false := by decide) :
    PE ((cxOf (L2.CX X.prog X.w) X.prog X.w X.K X.mg X.base Ng qg sg g cdg X.A X.stack s H Eg).tr pn xe) (.Call (.Name a p1) [] [] p2)
      (fun σZ HZ Q => σZ[i]? = some (some (.ref f)) ∧ HZ c2 = some (LamX.CodeO c2 (X.env.qual ++ "<lambda>")) ∧ tb σ HZ Q) := by
  refine ⟨fun pz sz σz HZ Q IZ h => ?_⟩
  obtain ⟨h1, h2, h3⟩ := h
  refine wpAny_Call_Name_kw (thn ((pe_var (pos := p1) (i := i) hN hv hd hcd).run pz sz σz HZ (fun v H1 => v = .ref f ∧ H1 = HZ) IZ ⟨.ref f, h1, rfl, rfl⟩) fun u s1 hu => ?_)
  obtain ⟨v, H1, I1, r1, ev, eH⟩ := hu
  subst ev
  rw [eH] at I1
  obtain rfl : u = Value.ref f := r1
  have of1 := I1.base.keep f _ hf n1 n2 (fun z => nomatch (show f ∈ ([] : List Addr) from z))
  refine PySem.W.callWith_F0 ⟨_, _, _, _, of1⟩ ?_
  have un : Un (frs X.stack) [] H HZ s.heap s1.heap := I1.base
  obtain ⟨⟨oc, vs, t, e1, e2, e3⟩, _, _⟩ := I1.hok c2 _ h2
  have rc : codeAny (model X.prog X.w) (X.A.deeper (envOfC qg sg s.heap.objs.size g cdg)) (.call (.ref f) ⟨[], []⟩) (CR (L2.CX X.prog X.w) (envOfC qg sg s.heap.objs.size g cdg :: X.stack) X.prog X.w HZ s1 Q (wide Ng.length W)) s1 := by
    refine PySem.W.kla_callFunE rm.depth of1 rfl L.co L.gen rfl ⟨c2, oc, vs, t, rfl, e1, e2, e3⟩ ?_
    rw [hbind]
    refine wpAny_pure (wpAny_newFunctionEnv (fun y hy => (L.own y hy).2) (fun y hy => absurd hy (by simp)) (fun h2 hns hsb => ⟨I1.nolimit.fresh _ hsb, ?_⟩) L.kind)
    show codeAny _ _ (.expr body (LamX.lamEnv X scope s1.heap.objs.size f c2)) _ _
    have kp : ∀ b o, s1.heap.get? b = some o → h2.get? b = some o := fun b o e => hsb.extBut b o (Nat.ne_of_lt (Heap.lt_size e)) (Heap.get?_push_of_some _ e)
    have J := LamX.lam_start2 (E := wide Ng.length W) (f := f) (c' := c2) (tk := s1.toks + ([] : List (Str × Value)).length) I L I1.env0 rm.hd un hns kp
    refine PySem.W.kla_codeExpr (wpAny_mono ((hbody _ _ s1 HZ (rm.deeper _) hG).run [] _ _ HZ Q J h3) (fun v s' hq => ?_) fun e s' hq => hq)
    obtain ⟨w', H', J', rv, q⟩ := hq
    exact ⟨w', H', J'.os, J'.bare, J'.base, J'.hok, rv, q⟩
  have hx : Passes (L2.CX X.prog X.w) ((cxOf (L2.CX X.prog X.w) X.prog X.w X.K X.mg X.base Ng qg sg g cdg X.A X.stack s H Eg).tr pn xe) (wide Ng.length W) := passes_len tk
  refine wpAny_call (codeAny_mono rc fun r s' hq => ?_)
  match r, hq with
  | .error e, hq => exact hx pz σz HZ s1 e s' I1 hq
  | .ok (.ret u), hq => exact I1.after hq
  | .ok .next, hq => exact False.elim hq
  | .ok .brk, hq => exact False.elim hq
  | .ok .cont, hq => exact False.elim hq
end
/-- what a def that calls what it gets makes of it -/
def GivesG (X : Cx) (Ng : List Str) (x : Str) (sg : Scope) (g : Addr) (cdg : Value) (bg : List Stmt) (a q : Str) (TT : (XK → Hp → VK → Prop) → Hp → VK → Prop) : Prop :=
  ∀ (f c2 : Addr) (s : Shared) (H : Hp) (Q : VK) (tl : XK → Hp → VK → Prop),
    (∀ (W : WX) (pn : List (Addr × Obj)) (xe : Value → Shared → Prop) (p1 p2 : Pos), Takes ((cxOf (L2.CX X.prog X.w) X.prog X.w X.K X.mg X.base Ng x sg g cdg X.A X.stack s H E0).tr pn xe) W →
      PE ((cxOf (L2.CX X.prog X.w) X.prog X.w X.K X.mg X.base Ng x sg g cdg X.A X.stack s H E0).tr pn xe) (.Call (.Name a p1) [] [] p2) (fun σZ HZ Q => σZ[0]? = some (some (.ref f)) ∧ HZ c2 = some (LamX.CodeO c2 q) ∧ tl (wide Ng.length W) HZ Q)) →
    H c2 = some (LamX.CodeO c2 q) → TT tl H Q →
    ∃ t, PSs (cxOf (L2.CX X.prog X.w) X.prog X.w X.K X.mg X.base Ng x sg g cdg X.A X.stack s H E0) bg t ∧ t { nx := fun _ H' => Q .non H', rt := Q } (L2.start Ng [.ref f]) H
section
variable {X : Cx}
/-- x(lambda: body) -/
theorem pe_lamG {T : List (Addr × Str)} {TT : (XK → Hp → VK → Prop) → Hp → VK → Prop} {x a : Str} {g c P : Addr} {k : Nat} {pg : Arguments} {bg : List Stmt} {sg : Scope} {fd : FuncData} {Ng : List Str}
    {params : Arguments} {body : Expr} {scope : Scope} {t : XK → TE} {p lpos pos : Pos} (F : FunD X.K x x pg bg sg [] [] g fd) (hm : X.mg x = some (.ref g))
    (hb : ∀ (kV doc pm : Value) (an : Option Addr) (cdv ct : Value) (us : List Value), us.length = [a].length → bindArgs (PySem.W.fnOf x x pg bg sg .none kV doc pm an cdv ct) ⟨us, []⟩ = pure ([a].zip us))
    (Sg : FnScope Ng [a] sg) (hNg : Ng[0]? = some a) (hva : Vis sg a) (hG : X.A.guards = some [])
    (gv : GivesG X Ng x sg g (codeV X.K g) bg a (X.env.qual ++ "<lambda>") TT)
    (TB : LamX.TabB X.base X.mg c P) (hcode : X.env.code = .ref c) (mT : (P, X.env.qual ++ "<lambda>") ∈ T) (uT : ∀ p ∈ T, p.1 = P → p.2 = X.env.qual ++ "<lambda>") (rm : Room (k + 2) X.A)
    (L : LamX.LamS X.env.scope scope) (hdef : defaultsOf params X.env = ([], []))
    (hbind : ∀ (q : Str) (cl : List (Str × Addr)) (pm cv ctv : Value), bindArgs (PySem.W.kla_fn "<lambda>" q params body scope cl pm cv ctv) ⟨[], []⟩ = pure [])
    (hbody : ∀ (A : Around) (outer : List Env) (s : Shared) (H : Hp) (E : XK) (f c2 : Addr), Room k (A.deeper (LamX.lamEnv X scope s.heap.objs.size f c2)) → (A.deeper (LamX.lamEnv X scope s.heap.objs.size f c2)).guards = some [] → PE (LamX.lamCx X A outer s H E scope f c2) body (t E))
    (hg : Gl X x := by rfl) (hdb : (x == ("__debug__" : Str)) = false := by decide) (hd : (a == ("__debug__" : Str)) = false := by decide) (hcd : (a == ("__classdict__" : Str)) = false := by decide) :
    PE X (.Call (.Name x p) [.Lambda params body scope lpos] [] pos) (LamX.tLam T TT t) := by
  refine ⟨fun pins s σ H Q I h => ?_⟩
  obtain ⟨hT, h⟩ := h
  have hk := F.kp
  have B := F.bindsN hb
  obtain ⟨oc, od, dV, kV, doc, pm, an, cdv, ct, osl, e, lk, hcg, _, _⟩ := F.ex
  have ec : codeV X.K g = cdv := by
    unfold codeV
    rw [lk, e]
  rw [ec] at gv
  subst e
  refine wpAny_Call_Name_kw (ld_glob I hg hm ?_ hdb)
  refine PySem.W.callWith_K (h₀ := X.base) I.ok.mod.kin hk ?_ (by rfl) (by rfl)
  show wpAny _ _ (spliced ((false, eval (.Lambda params body scope lpos) X.env) :: backTo pos (starEach [] X.env))) _ _ s
  refine Calls.spliced_cons (LamX.lam_make2 I TB hcode mT uT hT hdef (L.has I.ok) fun f c2 pm2 ctv H1 s2 I1 eN T1 hf n1 n2 hco => ?_)
  refine Calls.spliced_nil ⟨I1.kIn, ?_⟩
  have rc : codeAny (model X.prog X.w) X.A (.call (.ref g) ⟨[.ref f], []⟩) (CR (L2.CX X.prog X.w) X.stack X.prog X.w H1 s2 Q E0) s2 := by
    refine LamX.run_ofS (N := Ng) (ps := [a]) (us := [.ref f]) (vs := [.ref f]) lk hcg Sg rm I1.env0 (B s2 [.ref f] I1.kIn rfl) (.cons rfl .nil) rfl fun rm2 => ?_
    exact gv f c2 s2 H1 Q (fun E H' Q' => t E σ H' Q') (fun W pn xe p1 p2 tk => pe_actG (i := 0) I1 L hG hf n1 n2 (hbind _ _ _ _ _) tk rm2 (fun A outer s H rm3 hG3 => hbody A outer s H _ f c2 rm3 hG3) hNg hva hd hcd) hco (h H1 eN T1)
  refine wpAny_call (codeAny_mono rc fun r s3 hq => ?_)
  match r, hq with
  | .error e, hq =>
    obtain ⟨_, _, _, _, _, _, _, _, _, _, _, _, z⟩ := hq
    exact z.elim
  | .ok (.ret u), hq => exact I1.after hq
  | .ok .next, hq => exact False.elim hq
  | .ok .brk, hq => exact False.elim hq
  | .ok .cont, hq => exact False.elim hq
end
end EM
/-! EM24: the end of a law whose defs make lambdas, where no guard is held. -/
namespace EM
open PySem PySem.Spec PyProof.Rows L2
section
variable {P : Program} {w : World} {K : PySem.W.Frag} {mg mb : Str → Option Value} {CX : CXT} {k : Nat} {fa a : Addr} {sp : Sp} {s1 : Shared} {us : List Value} {ns : List Int} {cs : List (Addr × Addr)}
abbrev tabO : Obj := { cls := .none, data := .fields #[] }
theorem callGT (kx : K.In s1.heap) (gx : s1.heap.Ns mainGlobals mg) (bx : s1.heap.Ns builtinsNs mb) (b2 : ∀ x : Str, x ≠ "__name__" → mb x = bootBuiltins x) (nl : s1.heap.NoLimit) (ng : s1.gens = #[])
    (te : ∀ p ∈ cs, s1.heap.get? p.2 = some tabO) (to : ∀ p ∈ cs, K.lookup p.2 = none) (tc : ∀ p ∈ cs, PySem.W.CodeHd s1.heap p.1 p.2)
    (bm : ∃ (bm : Addr) (ob : Obj), mg "__builtins__" = some (.ref bm) ∧ bm ≠ builtinsNs ∧ s1.heap.get? bm = some ob ∧ ob.cls = .type "module" ∧ ob.dict = some builtinsNs ∧ ob.data = .plain)
    (ha : s1.heap.get? a = some { cls := .type "list", data := .seq us.toArray }) (rm : Room k callerA)
    (F : ∀ base : Heap, K.In base → base.Ns mainGlobals mg → (∀ p ∈ cs, LamX.TabB base mg p.1 p.2) → FnG P w K mg base CX k fa sp)
    (nx : ∀ H e s', CX [] H s1 (fun _ _ _ => False) e s' → False)
    (H : Hp) (hH : ∀ p ∈ cs, H p.2 = some (.tbl #[])) (hO : ∀ b, H b = none ∨ b ∈ cs.map (·.2) ∨ ∃ o xs, H b = some (.frz o (.lst xs))) (hS : sp [.ref a] H (fun v _ => v = .bl true) fun _ _ _ => False) (hok : HOk P w H s1.heap)
    (hA : ∀ b, H b ≠ none → b = a ∨ b ∈ cs.map (·.2)) (hK : H a ≠ none → K.lookup a = none) :
    codeAny (model P w) callerA (.call (.ref fa) ⟨[.ref a], []⟩) (fun r s' => r = .ok (.ret (.bool true)) ∧ OldK s1.heap s'.heap ∧ s'.os = s1.os ∧ AllBare s'.gens) s1 := by
  have isT : ∀ b : Addr, b ∈ cs.map (·.2) → s1.heap.get? b = some tabO := fun b hb => by
    obtain ⟨p, hp, e⟩ := List.mem_map.mp hb
    rw [← e]
    exact te p hp
  have free : ∀ {b : Addr} {o : Obj}, s1.heap.get? b = some o → (∀ vs n, o.data ≠ .seq vs n) → o.data ≠ .fields #[] → H b = none := by
    intro b o e h1 h2
    apply Classical.byContradiction
    intro z
    rcases hA b z with y | y
    · rw [y, ha] at e
      cases e
      exact h1 _ _ rfl
    · rw [isT b y] at e
      cases e
      exact h2 rfl
  have nsB : ∀ {b : Addr} {m : Str → Option Value}, s1.heap.Ns b m → (hidT s1.heap H).Ns b m := by
    intro b m ⟨o, es, n, e, d, r⟩
    exact ⟨o, es, n, hidT_get e (free e (fun vs n z => by rw [d] at z; cases z) fun z => by rw [d] at z; cases z), d, r⟩
  have inB : K.In (hidT s1.heap H) := by
    intro b o e
    refine hidT_get (kx b o e) (Classical.byContradiction fun z => ?_)
    rcases hA b z with y | y
    · subst y
      rw [hK z] at e
      cases e
    · obtain ⟨p, hp, ep⟩ := List.mem_map.mp y
      rw [← ep, to p hp] at e
      cases e
  have md : Mod K mg (hidT s1.heap H) := ⟨inB, nsB gx, ⟨mb, nsB bx, b2⟩, let ⟨mc, y1, y2⟩ := nl; ⟨mc, nsB y1, y2⟩⟩
  have tb : ∀ p ∈ cs, LamX.TabB (hidT s1.heap H) mg p.1 p.2 := by
    intro p hp
    have hTp := te p hp
    refine ⟨?_, ?_, fun z => ?_⟩
    · obtain ⟨o, vs, file, tf, flags, tg, inF, text, tt, e1, r1, r2, r3, rest⟩ := tc p hp
      refine ⟨o, vs, file, tf, flags, tg, inF, text, tt, hidT_get e1 (free e1 (fun vs n z => ?_) fun z => ?_), r1, r2, r3, rest⟩
      · rw [r2] at z
        cases z
      · rw [r2] at z
        cases z
        simp at r3
    · obtain ⟨m, ob, c1, c2, c3, c4, c5, c6⟩ := bm
      refine ⟨m, ob, c1, c2, fun q => ?_, fun q => ?_, hidT_get c3 (free c3 (fun vs n z => by rw [c6] at z; cases z) fun z => by rw [c6] at z; cases z), c4, c5, c6⟩
      · obtain ⟨o, es, ep, e, hd, _⟩ := gx
        rw [q, e] at c3
        cases c3
        rw [hd] at c6
        cases c6
      · rw [q, hTp] at c3
        cases c3
        cases c6
    · obtain ⟨o, es, ep, e, hd, _⟩ := gx
      rw [z, hTp] at e
      cases e
      cases hd
  have ev : Env0 P w K mg (hidT s1.heap H) callerA [] s1 H :=
    ⟨rfl, md, fun b o e => of_hidT e, Nat.le_of_eq (hidT_size _ _), trivial, fun b hb => absurd (show b ∈ ([] : List Addr) from hb) (by simp), hok, .of_eq ng⟩
  refine codeAny_mono (F _ inB (nsB gx) tb callerA [] s1 H [.ref a] [.ref a] _ _ rm rfl ev (.cons rfl .nil) hS) fun r s2 h => ?_
  match r, h with
  | .error e, h => exact (nx H e s2 h).elim
  | .ok .next, h => exact False.elim h
  | .ok .brk, h => exact False.elim h
  | .ok .cont, h => exact False.elim h
  | .ok (.ret u), h =>
    obtain ⟨v, H2, os, bare, un, ok2, rv, q⟩ := h
    have q2 : v = .bl true := q
    subst q2
    obtain rfl : u = Value.bool true := rv
    have same : ∀ b o, b ∉ cs.map (·.2) → s1.heap.get? b = some o → s2.heap.get? b = some o := by
      intro b o nb e
      rcases hO b with z | z | ⟨ob, xs, z⟩
      · exact un.keep b o e z (fun y => absurd (show b ∈ ([] : List Addr) from y) (by simp)) (by simp)
      · exact absurd z nb
      · have e1 := (hok b _ z).1
        have e2 := (ok2 b _ (un.frzs b ob _ z)).1
        rw [e] at e1
        cases e1
        exact e2
    have grown : ∀ p ∈ cs, ∃ more : Array Value, s2.heap.get? p.2 = some { cls := .none, data := .fields more } := by
      intro p hp
      obtain ⟨more, z⟩ := un.tbls p.2 #[] (hH p hp)
      exact ⟨_, ok2 p.2 _ z⟩
    refine ⟨rfl, ⟨fun b o e => ?_, fun b o e => ?_⟩, os, bare⟩
    · by_cases hb : b ∈ cs.map (·.2)
      · obtain ⟨p, hp, ep⟩ := List.mem_map.mp hb
        obtain ⟨more, hm⟩ := grown p hp
        subst ep
        rw [te p hp] at e
        cases e
        exact .inr (.inl ⟨((tc p hp).tab (te p hp)).isCodeTable, rfl, #[], more, rfl, by rw [Array.empty_append]; exact hm⟩)
      · exact .inl (same b o hb e)
    · by_cases hb : b ∈ cs.map (·.2)
      · obtain ⟨p, hp, ep⟩ := List.mem_map.mp hb
        obtain ⟨more, hm⟩ := grown p hp
        subst ep
        exact ⟨_, hm⟩
      · exact ⟨o, same b o hb e⟩
open Classical in
/-- the tables, the script or nothing -/
noncomputable def hp2 (cs : List (Addr × Addr)) (u : Option HO) (a : Addr) : Hp := fun b => if b ∈ cs.map (·.2) then some (.tbl #[]) else if b = a then u else none
theorem lawGT (kx : K.In s1.heap) (gx : s1.heap.Ns mainGlobals mg) (bx : s1.heap.Ns builtinsNs mb) (b2 : ∀ x : Str, x ≠ "__name__" → mb x = bootBuiltins x) (nl : s1.heap.NoLimit) (ng : s1.gens = #[])
    (te : ∀ p ∈ cs, s1.heap.get? p.2 = some tabO) (to : ∀ p ∈ cs, K.lookup p.2 = none) (tc : ∀ p ∈ cs, PySem.W.CodeHd s1.heap p.1 p.2)
    (bm : ∃ (bm : Addr) (ob : Obj), mg "__builtins__" = some (.ref bm) ∧ bm ≠ builtinsNs ∧ s1.heap.get? bm = some ob ∧ ob.cls = .type "module" ∧ ob.dict = some builtinsNs ∧ ob.data = .plain)
    (ha : s1.heap.get? a = some { cls := .type "list", data := .seq us.toArray }) (hi : IntsAre us ns) (hl : ns.length ≤ sizeLine) (rm : Room k callerA)
    (F : ∀ base : Heap, K.In base → base.Ns mainGlobals mg → (∀ p ∈ cs, LamX.TabB base mg p.1 p.2) → FnG P w K mg base CX k fa sp)
    (hS : ∀ H : Hp, (∀ p ∈ cs, H p.2 = some (.tbl #[])) → SqL K H a (ns.map V.int) → sp [.ref a] H (fun v _ => v = .bl true) fun _ _ _ => False)
    (nx : ∀ H e s', CX [] H s1 (fun _ _ _ => False) e s' → False) :
    codeAny (model P w) callerA (.call (.ref fa) ⟨[.ref a], []⟩) (fun r s' => r = .ok (.ret (.bool true)) ∧ OldK s1.heap s'.heap ∧ s'.os = s1.os ∧ AllBare s'.gens) s1 := by
  have rv := vals_ints hi
  have go := callGT kx gx bx b2 nl ng te to tc bm ha rm F nx
  have aT : a ∉ cs.map (·.2) := fun z => by
    obtain ⟨p, hp, e⟩ := List.mem_map.mp z
    have q := te p hp
    rw [e, ha] at q
    have q2 : Data.seq us.toArray _ = Data.fields #[] := congrArg Obj.data (Option.some.inj q)
    cases q2
  have at_t : ∀ u, ∀ p ∈ cs, hp2 cs u a p.2 = some (.tbl #[]) := fun u p hp => if_pos (List.mem_map.mpr ⟨p, hp, rfl⟩)
  have at_a : ∀ u, hp2 cs u a a = u := fun u => (if_neg aT).trans (if_pos rfl)
  have off : ∀ u b, b ∉ cs.map (·.2) → b ≠ a → hp2 cs u a b = none := fun u b h1 h2 => (if_neg h1).trans (if_neg h2)
  have at_b : ∀ u b, b ∈ cs.map (·.2) → hp2 cs u a b = some (.tbl #[]) := fun u b h => if_pos h
  cases hk : K.lookup a with
  | some o =>
    have e := kx a o hk
    rw [ha] at e
    cases e
    refine go (hp2 cs none a) (at_t none) (fun b => ?_) (hS _ (at_t none) (.inr ⟨_, us.toArray, _, hk, rfl, rfl, rfl, ?_, ?_⟩)) (fun b u z => ?_) (fun b z => ?_) fun z => absurd (at_a none) z
    · by_cases h : b ∈ cs.map (·.2)
      · exact .inr (.inl h)
      · by_cases h2 : b = a
        · subst h2
          exact .inl (at_a none)
        · exact .inl (off _ b h h2)
    · rw [List.size_toArray, hi.length]
      exact hl
    · simpa using rv
    · by_cases h : b ∈ cs.map (·.2)
      · rw [at_b _ b h] at z
        cases z
        obtain ⟨p, hp, e⟩ := List.mem_map.mp h
        rw [← e]
        exact te p hp
      · by_cases h2 : b = a
        · subst h2
          rw [at_a none] at z
          cases z
        · rw [off _ b h h2] at z
          cases z
    · apply Classical.byContradiction
      intro y
      exact z (off _ b (fun h => y (.inr h)) fun h => y (.inl h))
  | none =>
    obtain ⟨u, eu⟩ : ∃ u : Option HO, u = some (.frz { cls := .type "list", data := .seq us.toArray } (.lst (ns.map V.int))) := ⟨_, rfl⟩
    refine go (hp2 cs u a) (at_t u) (fun b => ?_) (hS _ (at_t u) (.inl (.inr ⟨_, (at_a u).trans eu⟩))) (fun b o z => ?_) (fun b z => ?_) fun _ => hk
    · by_cases h : b ∈ cs.map (·.2)
      · exact .inr (.inl h)
      · by_cases h2 : b = a
        · subst h2
          exact .inr (.inr ⟨_, _, (at_a u).trans eu⟩)
        · exact .inl (off _ b h h2)
    · by_cases h : b ∈ cs.map (·.2)
      · rw [at_b _ b h] at z
        cases z
        obtain ⟨p, hp, e⟩ := List.mem_map.mp h
        rw [← e]
        exact te p hp
      · by_cases h2 : b = a
        · subst h2
          rw [at_a u, eu] at z
          cases z
          exact ⟨ha, by rw [List.length_map]; exact hl, us, _, rv, ha⟩
        · rw [off _ b h h2] at z
          cases z
    · apply Classical.byContradiction
      intro y
      exact z (off _ b (fun h => y (.inr h)) fun h => y (.inl h))
end
theorem walkGT {l : PySem.W.OpenLaw} {n k : Nat} {q : Program} {loose : List Str} {XP : (Str → Option Value) → Heap → Prop} {YP : World → Heap → Prop} {d : DefRec}
    (hn : l.most = some n) (hn2 : n ≤ sizeLine) (hd : d.params.defaults = []) (rm : Room k callerA)
    (F : ∀ (w : World) (mg : Str → Option Value) (fa : Addr) (h : Heap), YP w h → h.Ns mainGlobals mg → mg d.name = some (.ref fa) →
      ∃ (K : PySem.W.Frag) (cs : List (Addr × Addr)) (sp : Sp), K.In h ∧ (∀ p ∈ cs, h.get? p.2 = some tabO) ∧ (∀ p ∈ cs, K.lookup p.2 = none) ∧ (∀ p ∈ cs, PySem.W.CodeHd h p.1 p.2) ∧
        (∀ (H : Hp) (a : Addr) (ns : List Int), ns.length ≤ n → (∀ p ∈ cs, H p.2 = some (.tbl #[])) → SqL K H a (ns.map V.int) → sp [.ref a] H (fun v _ => v = .bl true) fun _ _ _ => False) ∧
        ∀ base : Heap, K.In base → base.Ns mainGlobals mg → (∀ p ∈ cs, LamX.TabB base mg p.1 p.2) → FnG l.prog w K mg base (L2.CX l.prog w) k fa sp)
    (nx : ∀ (w : World) (H : Hp) (s : Shared) (e : Value) (s' : Shared), L2.CX l.prog w [] H s (fun _ _ _ => False) e s' → False) :
    PySem.W.WalkO q loose XP YP l.row.toRowW d [] (fun f vs => PySem.call f vs) := by
  refine Att.attach_callB hn hd fun w s0 s1 mg mb fa o pm cd doc a us ns G Y ho hd hcd hmg hobj hints hlen hbits hg => ?_
  obtain ⟨K, cs, sp, kx, te, to, tc, hS, hF⟩ := F w mg fa _ Y G.T.g hmg
  exact lawGT kx G.T.g G.T.b G.T.builtins G.T.nolimit hg te to tc G.T.bmain hobj hints (Nat.le_trans hlen hn2) rm hF (fun H ht hs => hS H a ns hlen ht hs) (nx w · s1)
end EM
/-! EM25: C.m(..), m a static method; C(k = v, ..). -/
namespace EM
open PySem PySem.Spec PyProof.Rows L2
/-- C.m is a static method, its def at g -/
structure SMet (K : PySem.W.Frag) (C : Addr) (m : Str) (g : Addr) : Prop where
  at_ : PySem.W.findCls K (.ref C) (.type "type") m = some (.get (.builtin "staticmethod.__get__") (.ref (He.ma K C m)) .none (.ref C))
  rc : ∃ rest, PySem.W.recIn K (He.ma K C m) "staticmethod" = some (.ref g :: rest)
theorem smetB_ok {K : PySem.W.Frag} {C : Addr} {m : Str} (c : smetB K C m = true) : SMet K C m (He5.wf K C "staticmethod" m) := by
  obtain ⟨h1, h2⟩ := He5.wrapB_ok c
  exact ⟨h1, h2⟩
def tSM (C : Addr) (sp : Sp) (E : XK) (ta : TE) (t : TA) : TE := fun σ H Q => ta σ H fun x H1 => x = .ref C ∧ t σ H1 fun vs H2 => sp vs H2 Q E
section
variable {X : Cx} {CX : CXT} {k : Nat} {C g : Addr} {sp : Sp} {sp2 : Sp2} {E : XK} {o e : Expr} {es : List Expr} {m : Str} {pos apos : Pos} {ta : TE} {t tk : TA} {pl : Sem Bool} {kws : List Keyword} {ks : List Str}
theorem getsm_ok {pins : List (Addr × Obj)} {σ : L2.St} {H : Hp} {s : Shared} {A : Around} {E : Value → Shared → Prop} {Q : Value × List Value → Shared → Prop} (I : Inv X pins σ H s) (r : ClX.CRead X.K C (.type "type")) (c : SMet X.K C m g)
    (h : ∀ s', Inv X pins σ H s' → Q (.ref g, []) s') : wpAny (model X.prog X.w) A (getMethod (.ref C) m pl) Q E s := by
  obtain ⟨rest, hp⟩ := c.rc
  refine PySem.W.method_cls I.kIn r.ga (PySem.W.cls_bind I.kIn r.rd c.at_ ?_)
  exact wpAny_call (PySem.W.sm_get (s := { s with toks := s.toks + 1 }) I.kIn hp (PySem.W.handed_on rfl (h _ (I.tok _))))
/-- C.m(e, ..) -/
theorem pe_smR (he : PE X o ta) (r : ClX.CRead X.K C (.type "type")) (c : SMet X.K C m g) (F : FnR X.prog X.w X.K X.mg X.base CX k g sp) (hr : Room k X.A) (hk : PySem.W.keepIn X.K (.ref g) = true) (hx : Passes CX X E) (ha : PA X (e :: es) t)
    (hst : starEach (e :: es) X.env = (false, eval e X.env) :: starEach es X.env := by rfl) (hpl : (backTo pos (starEach es X.env)).any (·.1) = false := by rfl)
    (ht : eval (.Call (.Attribute o m apos) (e :: es) [] pos) X.env = (do
      let ov ← eval o X.env
      standAt apos.atName
      let (f, first) ← holding [ov] (getMethod ov m pl)
      callWith pos f first (backTo pos (starEach (e :: es) X.env)) (backToKw pos (keywordEach [] X.env))) := by rfl) :
    PE X (.Call (.Attribute o m apos) (e :: es) [] pos) (tSM C sp E ta t) := by
  refine ⟨fun pins s σ H Q I h => ?_⟩
  refine PySem.W.methodCall_KW (pl := pl) (thn (he.run pins s σ H _ I h) fun u s1 hu => ?_) ht
  obtain ⟨x, H1, I1, rx, ex, q⟩ := hu
  subst ex
  obtain rfl : u = Value.ref C := rx
  refine getsm_ok I1 r c fun s2 I2 => ?_
  refine PySem.W.callWith_K (h₀ := X.base) (first := []) I2.ok.mod.kin hk (thn (ha.run pos pins s2 σ H1 _ I2 q) fun us s3 ⟨vs, H2, I3, rv, q2⟩ => ⟨I3.kIn, ?_⟩) hst hpl
  exact wpAny_call (run_fnR F hr hx I3 rv q2)
end
end EM
/-! EM26: Ratios made of anything. -/
namespace EM
open PySem PySem.Spec PyProof.Rows L2
/-- no integer -/
def oddI (K : PySem.W.Frag) (H : Hp) (v : V) : Prop := ∃ t b1 b2, TyX K H v t ∧ PySem.W.kitOne K t (.type "int") = some b1 ∧ PySem.W.kitOne K t (.type "bool") = some b2 ∧ (b1 && !b2) = false
/-- things that are no integers and no Ratios -/
def OddN (H : Hp) (p : Addr) (v : V) : Prop := v = .non ∨ (∃ b, v = .bl b) ∨ (∃ s, v = .str s) ∨ ∃ a, v = .ref a ∧ a ≠ p ∧ ((∃ xs, H a = some (.tup xs)) ∨ (∃ xs, H a = some (.lst xs)) ∨ ∃ kv, H a = some (.dK kv))
theorem OddN.keep {H H' : Hp} {p : Addr} {v : V} (h : OddN H p v) (k : Keep p H H') : OddN H' p v := by
  rcases h with h | h | h | ⟨a, e, n, h⟩
  · exact .inl h
  · exact .inr (.inl h)
  · exact .inr (.inr (.inl h))
  · refine .inr (.inr (.inr ⟨a, e, n, ?_⟩))
    rcases h with ⟨xs, h⟩ | ⟨xs, h⟩ | ⟨kv, h⟩
    · exact .inl ⟨xs, k _ _ h n⟩
    · exact .inr (.inl ⟨xs, k _ _ h n⟩)
    · exact .inr (.inr ⟨kv, k _ _ h n⟩)
theorem OddN.ext {H H' : Hp} {p : Addr} {v : V} (h : OddN H p v) (k : ∀ b o, H b = some o → b ≠ p → (∀ ps, o ≠ .tbl ps) → H' b = some o) : OddN H' p v := by
  rcases h with h | h | h | ⟨a, e, n, h⟩
  · exact .inl h
  · exact .inr (.inl h)
  · exact .inr (.inr (.inl h))
  · refine .inr (.inr (.inr ⟨a, e, n, ?_⟩))
    rcases h with ⟨xs, h⟩ | ⟨xs, h⟩ | ⟨kv, h⟩
    · exact .inl ⟨xs, k _ _ h n (fun _ z => by cases z)⟩
    · exact .inr (.inl ⟨xs, k _ _ h n (fun _ z => by cases z)⟩)
    · exact .inr (.inr ⟨kv, k _ _ h n (fun _ z => by cases z)⟩)
theorem OddN.ty {K : PySem.W.Frag} {H : Hp} {p : Addr} {v : V} (h : OddN H p v) : ∃ T b1 b2, TyX K H v (.type T) ∧ PySem.W.kitOne K (.type T) (.type "int") = some b1 ∧ PySem.W.kitOne K (.type T) (.type "bool") = some b2 ∧ (b1 && !b2) = false ∧ T ∈ ["bool", "NoneType", "str", "tuple", "list", "dict"] := by
  rcases h with rfl | ⟨b, rfl⟩ | ⟨s, rfl⟩ | ⟨a, rfl, n, h⟩
  · exact ⟨"NoneType", false, false, .base .non, kit_ty (by decide +kernel), kit_ty (by decide +kernel), rfl, by decide⟩
  · exact ⟨"bool", true, true, .base (.bl b), kit_ty (by decide +kernel), kit_ty (by decide +kernel), rfl, by decide⟩
  · exact ⟨"str", false, false, .base (.str s), kit_ty (by decide +kernel), kit_ty (by decide +kernel), rfl, by decide⟩
  · rcases h with ⟨xs, h⟩ | ⟨xs, h⟩ | ⟨kv, h⟩
    · exact ⟨"tuple", false, false, .base (.tup h), kit_ty (by decide +kernel), kit_ty (by decide +kernel), rfl, by decide⟩
    · exact ⟨"list", false, false, .base (.lst h), kit_ty (by decide +kernel), kit_ty (by decide +kernel), rfl, by decide⟩
    · exact ⟨"dict", false, false, .base (.dK h), kit_ty (by decide +kernel), kit_ty (by decide +kernel), rfl, by decide⟩
theorem OddN.int {K : PySem.W.Frag} {H : Hp} {p : Addr} {v : V} (h : OddN H p v) : oddI K H v := by
  obtain ⟨T, b1, b2, h1, h2, h3, h4, _⟩ := h.ty (K := K)
  exact ⟨_, b1, b2, h1, h2, h3, h4⟩
/-- x(..) under a lambda: nothing but tables and the pen is written -/
def KeepN (p : Addr) (H H' : Hp) : Prop := ∀ b o, H b = some o → b ≠ p → (∀ ps, o ≠ .tbl ps) → H' b = some o
theorem KeepN.of {p : Addr} {H H' : Hp} (k : Keep p H H') : KeepN p H H' := fun b o e n _ => k b o e n
theorem KeepN.ext {p : Addr} {H H' : Hp} (k : LamX.ExtN H H') : KeepN p H H' := fun b o e _ t => k b o e t
theorem KeepN.trans {p : Addr} {H H1 H2 : Hp} (a : KeepN p H H1) (b : KeepN p H1 H2) : KeepN p H H2 := fun c o e n t => b c o (a c o e n t) n t
theorem Pen.extN {H H' : Hp} {p l : Addr} {n : Nat} (h : Pen H p l n) (e : LamX.ExtN H H') : Pen H' p l n := by
  obtain ⟨c, a, r, h1, h2, h3, h4, h5, h6⟩ := h
  exact ⟨c, a, r, e _ _ h1 (fun _ z => by cases z), e _ _ h2 (fun _ z => by cases z), h3, h4, h5, h6⟩
end EM
/-! EM27: own binary operators: an instance with one of its class, with an int. -/
namespace EM
open PySem PySem.Spec PyProof.Rows L2
/-- what is asked of the class C for the operator named nm: its def at g, the reflected one at r -/
structure BinC (K : PySem.W.Frag) (C : Addr) (nm : String) (g r : Addr) : Prop where
  first : PySem.W.selfFirst K C = true
  at_ : PySem.W.findIn K (.ref C) (PySem.dunder nm) = some (some (.ref g))
  fn : PySem.W.isFn K (.ref g) = true
  rat : PySem.W.findIn K (.ref C) (dunderR nm) = some (some (.ref r))
  rfn : PySem.W.isFn K (.ref r) = true
  sub : PySem.W.subIn K (.type "int") (.ref C) = some false
def rBinO (C : Addr) (sp : Sp) (E : XK) : R2 := fun x y H Q => ∃ a dx fs, x = .ref a ∧ H a = some (.ins C dx fs) ∧ ((∃ b dy gs, y = .ref b ∧ H b = some (.ins C dy gs)) ∨ ∃ i, y = .int i) ∧ sp [.ref a, y] H Q E
section
variable {X : Cx} {CX : CXT} {n : Nat} {g r C : Addr} {sp : Sp} {E : XK}
theorem op_binO {op : Operator} {fo ro : Option Value} (B : BinC X.K C op.info.2 g r) (h1 : PySem.W.findIn X.K (.type "int") (PySem.dunder op.info.2) = some fo) (h2 : PySem.W.findIn X.K (.type "int") (dunderR op.info.2) = some ro)
    (F : FnR X.prog X.w X.K X.mg X.base CX n g sp) (rm : Room n X.A) (hx : Passes CX X E) : OpR X (binaryOp op) (rBinO C sp E) := by
  intro pins s σ H x y v u Q I rx ry h
  obtain ⟨a, dx, fs, rfl, ha, hy, q⟩ := h
  cases (show v = Value.ref a from rx)
  obtain ⟨ox, od, J, _⟩ := ins_at I ha
  obtain ⟨m, hF⟩ := I.fr
  have back : ∀ {w : Value} {s2 : Shared}, EP X pins σ Q w s2 → PySem.W.CmpBack (EP X pins σ Q) w s2 := fun {w s2} z => by
    obtain ⟨z', H', I', rz, qz⟩ := z
    exact SlX.cmpback rz ⟨z', H', I', rz, qz⟩
  have run : wpAny (model X.prog X.w) X.A (call (.ref g) [.ref a, u]) (PySem.W.CmpBack (EP X pins σ Q)) X.xe s :=
    wpAny_mono (wpAny_call (run_fnR (us := [.ref a, u]) (vs := [.ref a, y]) F rm hx I (.cons rfl (.cons ry .nil)) q)) (fun w s2 z => back z) fun _ _ x => x
  rcases hy with ⟨b, dy, gs, rfl, hb⟩ | ⟨i, rfl⟩
  · cases (show u = Value.ref b from ry)
    obtain ⟨oy, od', J', _⟩ := ins_at I hb
    exact PySem.W.binop_K hF I.ok.mod.kin J J'.type B.first B.at_ B.fn run
  · obtain ⟨t, rfl⟩ := ry
    exact PySem.W.ksp_binT (T := "int") hF I.ok.mod.kin J rfl B.first B.at_ B.fn B.rat (.inr ⟨_, rfl⟩) h1 h2 B.sub run
end
end EM
/-! EM28: i op x, x an instance with a reflected operator of its own. -/
namespace PySem.W
open Lean Elab Tactic Meta PySem PySem.Calls PyProof.Rows
section
variable {prog : Program} {w : World} {A : Around} {E : Value → Shared → Prop} {s : Shared} {K : Frag} {x C L f g : Addr} {h₀ : Heap} {m : Str → Option Value} {ox : Obj} {od : Option Obj}
theorem em_rbin {op : Operator} {i : Int} {t : Tok} {fo ro : Option Value} {Q : Value → Shared → Prop} (F : Fr h₀ L s.heap m) (X₀ : K.In h₀) (I : InstAt s.heap x ox C od) (hc : selfFirst K C = true)
    (hs : findIn K (.ref C) (PySem.dunder op.info.2) = some (some (.ref f))) (hr : findIn K (.ref C) (dunderR op.info.2) = some (some (.ref g))) (hg : isFn K (.ref g) = true)
    (h1 : findIn K (.type "int") (PySem.dunder op.info.2) = some fo) (h2 : findIn K (.type "int") (dunderR op.info.2) = some ro) (hl : ((fo.isSome && !isSeqSlot fo) || (ro.isSome && !isSeqSlot ro)) = true) (hsub : subIn K (.ref C) (.type "int") = some false)
    (hd : ∀ (E : Value → Shared → Prop) (Q' : Option Value → Shared → Prop), Q' none s → wpAny (model prog w) A (tryMethod (.int i t) (PySem.dunder op.info.2) (.ref x)) Q' E s)
    (h : wpAny (model prog w) A (call (.ref g) [.ref x, .int i t]) (CmpBack Q) E s) : wpAny (model prog w) A (binaryOp op (.int i t) (.ref x)) Q E s := by
  have X := X₀.keeps F.keep
  obtain ⟨cd, rest, hcd, hm⟩ := ksp_first hc
  rcases hi : op.info with ⟨sym, nm'⟩
  rw [hi] at hs hr h1 h2 hd
  dsimp only at hs hr h1 h2 hd
  have one := ksp_try X I hr hg h
  obtain ⟨hh, gg, d, tt, os⟩ := s
  have L1 : Looks (model prog w) hh (typeOf (.int i t)) (.type "int") := Looks.of_pure rfl
  have L2 : Looks (model prog w) hh (typeOf (.ref x)) (.ref C) := I.type
  have L3 : Looks (model prog w) hh (fillsNumberSlot (.type "int") nm') true := hl ▸ ksp_fillsT X h1 h2
  have L4 : Looks (model prog w) hh (fillsNumberSlot (.ref C) nm') true := fills_K X hcd hm hs
  have L5 : Looks (model prog w) hh (isSubtype (.ref C) (.type "int")) false := looks_subIn X hsub
  have L6 : Looks (model prog w) hh (numberSlotInPython (.type "int") nm') false := Looks.of_pure rfl
  have hne : (Value.type "int" == Value.ref C) = false := Bool.eq_false_iff.mpr fun q => by cases beq_iff_eq.mp q
  simp only [binaryOp, hi]
  refine wpAny_holding (wpAny_bind ?_)
  unfold binaryOp1
  refine wpAny_bind (L1.at (wpAny_bind (L2.at (wpAny_bind (L3.at ?_)))))
  simp only [hne, Bool.false_eq_true, if_false]
  ksp_lk
  refine hd _ _ ?_
  ksp_lk
  refine wpAny_mono one (fun r s' hr' => ?_) fun _ _ e => e
  obtain ⟨v, rfl, hq⟩ := hr'
  ksp_lk
  exact hq
end
end PySem.W
namespace PySem.W
open PySem PySem.Calls PyProof.Rows Builtin Builtin.Int
section
variable {prog : Program} {w : World} {A : Around} {E : Value → Shared → Prop} {s : Shared} {x C : Addr} {ox : Obj} {od : Option Obj}
theorem int_is (i : Int) (t : Tok) (h : Heap) : Looks (model prog w) h (isInstance (.int i t) (.type "int")) true := by
  intro A Q E s k q
  exact wpAny_isInstance (T := "int") (b := true) (typeIs_int _ _ _) (by rfl) q
theorem em_nobin {name : String} {fB : Int → Int → Sem Fin} {i : Int} {t : Tok} {Q : Fin → Shared → Prop} (I : InstAt s.heap x ox C od) (hd : ox.data = .plain) (h : wpAny (model prog w) A (ret .notImplemented) Q E s) :
    wpAny (model prog w) A (intBinary name fB false ⟨[.int i t, .ref x], []⟩) Q E s := by
  unfold intBinary
  refine wpAny_bind (m := slotArgs name 1 _) (wpAny_pure ?_)
  refine wpAny_bind (m := intOfSelf _) (wpAny_pure ?_)
  refine wpAny_bind (m := asInt? (.ref x)) ?_
  unfold asInt?
  refine wpAny_bind (wpAny_load I.at_ ?_)
  rw [hd]
  refine wpAny_pure ?_
  exact wpAny_bind (wpAny_rule h)
theorem em_decl {nm : Str} {id n name : String} {fB : Int → Int → Sem Fin} {bi : Builtin} {i : Int} {t : Tok} (S : Slot "int" nm id) (en : entryFor table id = some bi) (hk : builtinKind id = some .slot) (hsp : splitId id = some ("int", n)) (ha : ∀ a b : Value, argsOk id ⟨[a, b], []⟩)
    (hb : ∀ args, bi args = intBinary name fB false args) (I : InstAt s.heap x ox C od) (hd : ox.data = .plain) (E : Value → Shared → Prop) (Q : Option Value → Shared → Prop) (q : Q none s) : wpAny (model prog w) A (tryMethod (.int i t) nm (.ref x)) Q E s := by
  refine wpAny_tryMethod_declines (typeIs_int _ _ _) S (wpAny_call (codeAny_call_builtin S.plain en (check_slot hk hsp (int_is i t _) (ha _ _) ?_)))
  rw [hb]
  exact em_nobin I hd (wpAny_pure ⟨rfl, q⟩)
theorem decl_add {i : Int} {t : Tok} (I : InstAt s.heap x ox C od) (hd : ox.data = .plain) (E : Value → Shared → Prop) (Q : Option Value → Shared → Prop) (q : Q none s) : wpAny (model prog w) A (tryMethod (.int i t) (PySem.dunder "add") (.ref x)) Q E s :=
  em_decl (n := "__add__") F.slot_int_add F.entry_int_add (by decide +kernel) (by decide +kernel) F.args_int_add_2 (fun _ => rfl) I hd E Q q
theorem decl_sub {i : Int} {t : Tok} (I : InstAt s.heap x ox C od) (hd : ox.data = .plain) (E : Value → Shared → Prop) (Q : Option Value → Shared → Prop) (q : Q none s) : wpAny (model prog w) A (tryMethod (.int i t) (PySem.dunder "sub") (.ref x)) Q E s :=
  em_decl (n := "__sub__") F.slot_int_sub F.entry_int_sub (by decide +kernel) (by decide +kernel) F.args_int_sub_2 (fun _ => rfl) I hd E Q q
theorem decl_mul {i : Int} {t : Tok} (I : InstAt s.heap x ox C od) (hd : ox.data = .plain) (E : Value → Shared → Prop) (Q : Option Value → Shared → Prop) (q : Q none s) : wpAny (model prog w) A (tryMethod (.int i t) (PySem.dunder "mul") (.ref x)) Q E s :=
  em_decl (n := "__mul__") F.slot_int_mul F.entry_int_mul (by decide +kernel) (by decide +kernel) F.args_int_mul_2 (fun _ => rfl) I hd E Q q
end
end PySem.W
/-! EM29: i op x as a rule of the hand layer. -/
namespace EM
open PySem PySem.Spec PyProof.Rows L2
def rBinR (C : Addr) (sp : Sp) (E : XK) : R2 := fun x y H Q => ∃ i b dy gs, x = .int i ∧ y = .ref b ∧ H b = some (.ins C dy gs) ∧ sp [.ref b, .int i] H Q E
section
variable {X : Cx} {CX : CXT} {n : Nat} {g r C : Addr} {sp : Sp} {E : XK}
theorem op_binR {op : Operator} {fo ro : Option Value} (B : BinC X.K C op.info.2 g r) (h1 : PySem.W.findIn X.K (.type "int") (PySem.dunder op.info.2) = some fo) (h2 : PySem.W.findIn X.K (.type "int") (dunderR op.info.2) = some ro)
    (hl : ((fo.isSome && !isSeqSlot fo) || (ro.isSome && !isSeqSlot ro)) = true) (hsub : PySem.W.subIn X.K (.ref C) (.type "int") = some false)
    (hd : ∀ {s : Shared} {x : Addr} {ox : Obj} {od : Option Obj} {i : Int} {t : Tok}, PySem.W.InstAt s.heap x ox C od → ox.data = .plain → ∀ (E : Value → Shared → Prop) (Q : Option Value → Shared → Prop), Q none s → wpAny (model X.prog X.w) X.A (tryMethod (.int i t) (PySem.dunder op.info.2) (.ref x)) Q E s)
    (F : FnR X.prog X.w X.K X.mg X.base CX n r sp) (rm : Room n X.A) (hx : Passes CX X E) : OpR X (binaryOp op) (rBinR C sp E) := by
  intro pins s σ H x y v u Q I rx ry h
  obtain ⟨i, b, dy, gs, rfl, rfl, hb, q⟩ := h
  obtain ⟨t, rfl⟩ := rx
  cases (show u = Value.ref b from ry)
  obtain ⟨oy, od, J, hp⟩ := ins_at I hb
  obtain ⟨m, hF⟩ := I.fr
  have run : wpAny (model X.prog X.w) X.A (call (.ref r) [.ref b, .int i t]) (PySem.W.CmpBack (EP X pins σ Q)) X.xe s :=
    wpAny_mono (wpAny_call (run_fnR (us := [.ref b, .int i t]) (vs := [.ref b, .int i]) F rm hx I (.cons rfl (.cons ⟨t, rfl⟩ .nil)) q)) (fun w s2 z => by
      obtain ⟨z', H', I', rz, qz⟩ := z
      exact SlX.cmpback rz ⟨z', H', I', rz, qz⟩) fun _ _ x => x
  exact PySem.W.em_rbin hF I.ok.mod.kin J B.first B.at_ B.rat B.rfn h1 h2 hl hsub (fun E Q' q' => hd J (by first | exact hp | exact hp.1 | exact hp.2 | exact hp.1.1) E Q' q') run
end
end EM
/-! EM30: abs(x), not x of an instance with its own __abs__, __bool__. -/
namespace PySem.W
open PySem PySem.Calls PyProof.Rows Builtin
end PySem.W
namespace EM
open PySem PySem.Spec PyProof.Rows L2
end EM
/-! EM31: two readings of one operator; bool(x) of an instance; op= without an own one; C() of an own error; o.m(k = v). -/
namespace PySem.W
open PySem PySem.Calls PyProof.Rows Builtin
end PySem.W
namespace PySem.W
open PySem PySem.Calls PyProof.Rows
end PySem.W
namespace EM
open PySem PySem.Spec PyProof.Rows L2
section
variable {X : Cx} {CX : CXT} {n k : Nat} {g r C : Addr} {sp : Sp} {E : XK} {o e : Expr} {es : List Expr} {ta te : TE} {t tk : TA} {m : Str} {apos pos p : Pos}
/-- one of two readings -/
theorem op_two {f : Value → Value → Sem Value} {r1 r2 : R2} (h1 : OpR X f r1) (h2 : OpR X f r2) : OpR X f (fun x y H Q => r1 x y H Q ∨ r2 x y H Q) := by
  intro pins s σ H x y v u Q I rx ry h
  rcases h with h | h
  · exact h1 pins s σ H x y v u Q I rx ry h
  · exact h2 pins s σ H x y v u Q I rx ry h
theorem un_two {f : Value → Sem Value} {r1 r2 : V → Hp → VK → Prop} (h1 : UnR X f r1) (h2 : UnR X f r2) : UnR X f (fun x H Q => r1 x H Q ∨ r2 x H Q) := by
  intro pins s σ H x v Q I rx h
  rcases h with h | h
  · exact h1 pins s σ H x v Q I rx h
  · exact h2 pins s σ H x v Q I rx h
/-- C() of an own error without an own __init__ -/
theorem pmk_own0 {bmB : List Value} {B newId initId : String} {x : Str} (F : ExcBaseFacts B newId initId bmB) (q : PySem.W.excIn X.K C bmB newId = true) (gC : X.mg x = some (.ref C)) (kC : PySem.W.keepIn X.K (.ref C) = true) (rz : Raises X (.ref C)) (hg : Gl X x := by rfl)
    (hdb : (x == ("__debug__" : Str)) = false := by decide) : PMk X (.Call (.Name x p) [] [] pos) (fun _ H Q => Q (.ref C) none H) := by
  intro pins s σ H Q I h
  refine wpAny_Call_Name_kw (ld_glob I hg gC ?_ hdb)
  refine PySem.W.callWith_K0 I.kIn kC ?_
  obtain ⟨bm, N, nm, qn, bs, hdct, sn, sub, ab, col, dd, k0, k1, k2, k3, k5, mN, hC, hN, hni, T⟩ := exc_obj I.kIn q
  refine wpAny_call_exc_subT F T hC hN hni (fun h2 e hm => ?_) (by show 0 ≤ sizeLine; exact Nat.zero_le _)
  exact mk_of I hm rz h (I.hok.gone hm.new)
/-- o.m(k = v, ..) of an instance with a dict -/
def tMK (C : Addr) (m : Str) (sp : Sp2) (E : XK) (ta : TE) (tk : TA) : TE := fun σ H Q => ta σ H fun x H1 => ∃ a dx fs, x = V.ref a ∧ H1 a = some (.ins C dx fs) ∧ fs.lookup m = none ∧ tk σ H1 fun zs H2 => sp [x] zs H2 Q E
theorem pe_mK {f : Addr} {ks : List Str} {kws : List Keyword} {sp : Sp2} {pl : Sem Bool} (he : PE X o ta) (c : Cls X.K C) (hm : Meth X.K C m f) (F : FnK X.prog X.w X.K X.mg X.base CX k f ks sp) (hr : Room k X.A) (hx : Passes CX X E) (hkw : PK X kws tk)
    (hall : (backToKw pos (keywordEach kws X.env)).all (·.1.isSome) = true := by rfl) (hks : (backToKw pos (keywordEach kws X.env)).filterMap (·.1) = ks := by rfl)
    (hpl : ((backTo pos (starEach [] X.env)).any (·.1) || (backToKw pos (keywordEach kws X.env)).any (·.1.isNone)) = false := by rfl)
    (ht : eval (.Call (.Attribute o m apos) [] kws pos) X.env = (do
      let ov ← eval o X.env
      standAt apos.atName
      let (f, first) ← holding [ov] (getMethod ov m pl)
      callWith pos f first (backTo pos (starEach [] X.env)) (backToKw pos (keywordEach kws X.env))) := by rfl) :
    PE X (.Call (.Attribute o m apos) [] kws pos) (tMK C m sp E ta tk) := by
  refine ⟨fun pins s σ H Q I h => ?_⟩
  refine PySem.W.methodCall_KW (pl := pl) (thn (he.run pins s σ H _ I h) fun u s1 ⟨x, H1, I1, rx, a, dx, fs, ex, ea, l, q⟩ => ?_) ht
  subst ex
  obtain rfl : u = Value.ref a := rx
  refine getmeth_ok I1 ea c hm l ?_
  refine PySem.W.callWith_KW0 (first := [.ref a]) (h₀ := X.base) I.ok.mod.kin hm.kp hall ?_ hpl
  refine thn (hkw.run pos pins s1 σ H1 _ I1 q) fun ws s2 ⟨zs, H2, I2, rz, q2⟩ => ⟨I2.kIn, ?_⟩
  rw [hks]
  exact run_fnK (us := [.ref a]) (vs := [.ref a]) F hr hx I2 (.cons rfl .nil) rz q2
end
end EM
/-! EM32: numbers: Ratios in lowest terms and ints; what their operators promise. -/
namespace EM
open PySem PySem.Spec PyProof.Rows L2
structure Low (t b : Int) : Prop where
  pos : 0 < b
  red : Int.gcd t b = 1
def Bt (n : Nat) (i : Int) : Prop := i.natAbs < 2 ^ n
theorem Bt.mono {n m : Nat} {i : Int} (h : Bt n i) (e : n ≤ m) : Bt m i := Nat.lt_of_lt_of_le h (Nat.pow_le_pow_right (by decide) e)
theorem Bt.log {n : Nat} {i : Int} (h : Bt n i) (h0 : 0 < n) : i.natAbs.log2 < n := PySem.Flt.log2_lt_of h0 h
theorem Bt.le {n : Nat} {i j : Int} (h : Bt n i) (e : j.natAbs ≤ i.natAbs) : Bt n j := Nat.lt_of_le_of_lt e h
theorem Bt.mul {n m : Nat} {i j : Int} (h : Bt n i) (g : Bt m j) : Bt (n + m) (i * j) := wide_lt h g
theorem Bt.neg {n : Nat} {i : Int} (h : Bt n i) : Bt n (-i) := h.le (by omega)
theorem Bt.add {n : Nat} {i j : Int} (h : Bt n i) (g : Bt n j) : Bt (n + 1) (i + j) := by
  have h1 : i.natAbs < 2 ^ n := h
  have h2 : j.natAbs < 2 ^ n := g
  show (i + j).natAbs < 2 ^ (n + 1)
  rw [Nat.pow_succ]
  omega
theorem Bt.lt {n : Nat} {i : Int} (h : i < (2 : Int) ^ n) (g : -((2 : Int) ^ n) < i) : Bt n i := by
  have e : ((2 ^ n : Nat) : Int) = (2 : Int) ^ n := by
    rw [Int.natCast_pow]
    rfl
  show i.natAbs < 2 ^ n
  omega
theorem wideB {n m : Nat} {i j : Int} (h : Bt n i) (g : Bt m j) (h0 : 0 < n := by decide) (h1 : 0 < m := by decide) (e : n + m ≤ 1000000 := by decide) : CMulW i j := wide_mul h g h0 h1 e
theorem shr_dvd {t b : Int} : shr t b ∣ t ∧ shr t b ∣ b := by
  unfold shr
  split
  · exact ⟨Int.neg_dvd.mpr (Int.gcd_dvd_left ..), Int.neg_dvd.mpr (Int.gcd_dvd_right ..)⟩
  · exact ⟨Int.gcd_dvd_left .., Int.gcd_dvd_right ..⟩
theorem n_mul {t b : Int} : nTop t b * shr t b = t ∧ nBot t b * shr t b = b := by
  obtain ⟨h1, h2⟩ := shr_dvd (t := t) (b := b)
  exact ⟨Int.fdiv_mul_cancel h1, Int.fdiv_mul_cancel h2⟩
theorem n_low {t b : Int} (h : b ≠ 0) : Low (nTop t b) (nBot t b) := ⟨bot_gt h, n_gcd h⟩
theorem n_cross {t b : Int} : nTop t b * b = t * nBot t b := by
  obtain ⟨h1, h2⟩ := n_mul (t := t) (b := b)
  have e1 : nTop t b * b = nTop t b * (nBot t b * shr t b) := by rw [h2]
  have e2 : t * nBot t b = nTop t b * shr t b * nBot t b := by rw [h1]
  rw [e1, e2, Int.mul_assoc, Int.mul_comm (shr t b)]
theorem low_eq {t b u c : Int} (h : Low t b) (g : Low u c) (e : t * c = u * b) : t = u ∧ b = c := by
  have d1 : b ∣ c := by
    have : b ∣ t * c := ⟨u, by rw [e, Int.mul_comm]⟩
    have : b.natAbs ∣ t.natAbs * c.natAbs := by
      rw [← Int.natAbs_mul]
      exact Int.natAbs_dvd_natAbs.mpr this
    have co : Nat.Coprime b.natAbs t.natAbs := by
      rw [Nat.coprime_iff_gcd_eq_one, Nat.gcd_comm]
      exact h.red
    exact Int.natAbs_dvd_natAbs.mp (Nat.Coprime.dvd_of_dvd_mul_left co this)
  have d2 : c ∣ b := by
    have : c ∣ u * b := ⟨t, by rw [← e, Int.mul_comm]⟩
    have : c.natAbs ∣ u.natAbs * b.natAbs := by
      rw [← Int.natAbs_mul]
      exact Int.natAbs_dvd_natAbs.mpr this
    have co : Nat.Coprime c.natAbs u.natAbs := by
      rw [Nat.coprime_iff_gcd_eq_one, Nat.gcd_comm]
      exact g.red
    exact Int.natAbs_dvd_natAbs.mp (Nat.Coprime.dvd_of_dvd_mul_left co this)
  have p1 := h.pos
  have p2 := g.pos
  have eb : b = c := Int.le_antisymm (Int.le_of_dvd p2 d1) (Int.le_of_dvd p1 d2)
  subst eb
  exact ⟨Int.eq_of_mul_eq_mul_right (by omega) e, rfl⟩
theorem n_eq {t b u c : Int} (hb : b ≠ 0) (hc : c ≠ 0) (e : t * c = u * b) : nTop t b = nTop u c ∧ nBot t b = nBot u c := by
  refine low_eq (n_low hb) (n_low hc) ?_
  have h1 := n_cross (t := t) (b := b)
  have h2 := n_cross (t := u) (b := c)
  refine Int.eq_of_mul_eq_mul_right (a := b * c) (by simp [hb, hc]) ?_
  calc nTop t b * nBot u c * (b * c) = (nTop t b * b) * (nBot u c * c) := by ac_rfl
    _ = t * nBot t b * (nBot u c * c) := by rw [h1]
    _ = (t * c) * (nBot t b * nBot u c) := by ac_rfl
    _ = (u * b) * (nBot t b * nBot u c) := by rw [e]
    _ = (u * nBot u c) * nBot t b * b := by ac_rfl
    _ = (nTop u c * c) * nBot t b * b := by rw [h2]
    _ = nTop u c * nBot t b * (b * c) := by ac_rfl
theorem n_self {t b : Int} (h : Low t b) : nTop t b = t ∧ nBot t b = b := n_red h.red h.pos
theorem low_neg {t b : Int} (h : Low t b) : Low (-t) b := ⟨h.pos, by
  show Nat.gcd (-t).natAbs b.natAbs = 1
  rw [Int.natAbs_neg]
  exact h.red⟩
theorem low_one (i : Int) : Low i 1 := ⟨by decide, Int.gcd_one_right i⟩
/-! ### numbers -/
def Num (K : PySem.W.Frag) (H : Hp) (v : V) (t b : Int) : Prop := Low t b ∧ ((∃ a, v = .ref a ∧ RatAt K H a t b) ∨ (v = .int t ∧ b = 1))
theorem Num.same {K : PySem.W.Frag} {H H' : Hp} {v : V} {t b : Int} (h : Num K H v t b) (e : Same H H') : Num K H' v t b := by
  obtain ⟨l, h⟩ := h
  refine ⟨l, ?_⟩
  rcases h with ⟨a, rfl, r⟩ | h
  · exact .inl ⟨a, rfl, r.same e⟩
  · exact .inr h
theorem Num.rat {K : PySem.W.Frag} {H : Hp} {a : Addr} {t b : Int} (h : RatAt K H a t b) (l : Low t b) : Num K H (.ref a) t b := ⟨l, .inl ⟨a, rfl, h⟩⟩
theorem Num.int {K : PySem.W.Frag} {H : Hp} (i : Int) : Num K H (.int i) i 1 := ⟨low_one i, .inr ⟨rfl, rfl⟩⟩
/-- no number at all -/
def NoNum (K : PySem.W.Frag) (H : Hp) (v : V) : Prop := ∃ t b1 b2, TyX K H v t ∧ PySem.W.kitOne K t (.type "int") = some b1 ∧ PySem.W.kitOne K t (.type "bool") = some b2 ∧ (b1 && !b2) = false ∧ PySem.W.kitOne K t (.ref (He.ga K "Ratio")) = some false
/-- a new Ratio: x by y in lowest terms -/
def RatRes (K : PySem.W.Frag) (H : Hp) (Q : VK) (x y : Int) : Prop := ∀ p H', Same H H' → H p = none → RatAt K H' p (nTop x y) (nBot x y) → Q (.ref p) H'
def spIsNum (K : PySem.W.Frag) : Sp := fun vs H Q _ => ∃ v, vs = [v] ∧ ((((∃ a t b, v = .ref a ∧ RatAt K H a t b) ∨ ∃ i, v = .int i) ∧ Q (.bl true) H) ∨ (NoNum K H v ∧ Q (.bl false) H))
def spOfN (K : PySem.W.Frag) : Sp := fun vs H Q _ => ∃ v t b, vs = [v] ∧ Num K H v t b ∧ ∀ a H', Same H H' → RatAt K H' a t b → Q (.ref a) H'
theorem isNum {K : PySem.W.Frag} {H : Hp} {v : V} {t b : Int} {Q : VK} {E : XK} (h : Num K H v t b) (q : Q (.bl true) H) : spIsNum K [v] H Q E := by
  refine ⟨v, rfl, .inl ⟨?_, q⟩⟩
  rcases h with ⟨_, ⟨a, e, r⟩ | ⟨e, _⟩⟩
  · exact .inl ⟨a, t, b, e, r⟩
  · exact .inr ⟨t, e⟩
/-- two numbers, the first one a Ratio; all of at most n bits -/
structure Two (K : PySem.W.Frag) (H : Hp) (n : Nat) (x : Addr) (v : V) (t b u c : Int) : Prop where
  rat : RatAt K H x t b
  low : Low t b
  num : Num K H v u c
  bt : Bt n t
  bb : Bt n b
  bu : Bt n u
  bc : Bt n c
theorem Two.same {K : PySem.W.Frag} {H H' : Hp} {n : Nat} {x : Addr} {v : V} {t b u c : Int} (h : Two K H n x v t b u c) (e : Same H H') : Two K H' n x v t b u c := ⟨h.rat.same e, h.low, h.num.same e, h.bt, h.bb, h.bu, h.bc⟩
def spAdd (K : PySem.W.Frag) : Sp := fun vs H Q _ => ∃ x v t b u c, vs = [.ref x, v] ∧ Two K H 2000 x v t b u c ∧ RatRes K H Q (t * c + u * b) (b * c)
def spSub (K : PySem.W.Frag) : Sp := fun vs H Q _ => ∃ x v t b u c, vs = [.ref x, v] ∧ Two K H 2000 x v t b u c ∧ RatRes K H Q (t * c + -u * b) (b * c)
def spRsub (K : PySem.W.Frag) : Sp := fun vs H Q _ => ∃ x v t b u c, vs = [.ref x, v] ∧ Two K H 2000 x v t b u c ∧ RatRes K H Q (-t * c + u * b) (b * c)
def spMul (K : PySem.W.Frag) : Sp := fun vs H Q _ => ∃ x v t b u c, vs = [.ref x, v] ∧ Two K H 2000 x v t b u c ∧ RatRes K H Q (t * u) (b * c)
def spNeg (K : PySem.W.Frag) : Sp := fun vs H Q _ => ∃ x t b, vs = [.ref x] ∧ RatAt K H x t b ∧ Low t b ∧ b.natAbs.log2 < 9000 ∧ ∀ p H', Same H H' → H p = none → RatAt K H' p (-t) b → Q (.ref p) H'
end EM
namespace EM
open PySem PySem.Spec PyProof.Rows L2
theorem mk_Rat {K : PySem.W.Frag} {H : Hp} {Q : VK} {E : XK} {x y : Int} (hy : y ≠ 0) (hl : y.natAbs.log2 < 9000) (k : RatRes K H Q x y) (p dx : Addr) (hp : H p = none) (hdx : H dx = none) (ndx : dx ≠ p) :
    spRat K [.ref p, .int x, .int y] (upd (upd H dx (.own p)) p (.ins (He.ga K "Ratio") dx [])) (fun v H2 => v = .non ∧ Q (.ref p) H2) E :=
  ⟨p, dx, x, y, rfl, upd_same, hy, hl, fun H' k' rat => ⟨rfl, k p H' (fun b o e => k' b o (by rw [upd_ne (ne_of_none e hp), upd_ne (ne_of_none e hdx)]; exact e) (ne_of_none e hp)) hp rat⟩⟩
theorem same_new {H H' : Hp} {p dx : Addr} {o1 o2 : HO} (k : ∀ c o, upd (upd H dx o1) p o2 c = some o → c ≠ p → H' c = some o) (hp : H p = none) (hdx : H dx = none) : Same H H' :=
  fun b o e => k b o (by rw [upd_ne (ne_of_none e hp), upd_ne (ne_of_none e hdx)]; exact e) (ne_of_none e hp)
theorem Num.kind {K : PySem.W.Frag} {H : Hp} {v : V} {t b : Int} (h : Num K H v t b) : (∃ a t b, v = .ref a ∧ RatAt K H a t b) ∨ ∃ i, v = .int i := by
  rcases h with ⟨_, ⟨a, e, r⟩ | ⟨e, _⟩⟩
  · exact .inl ⟨a, t, b, e, r⟩
  · exact .inr ⟨t, e⟩
theorem two_y {K : PySem.W.Frag} {H : Hp} {n : Nat} {x : Addr} {v : V} {t b u c : Int} (W : Two K H n x v t b u c) : (∃ b dy gs, v = .ref b ∧ H b = some (.ins (He.ga K "Ratio") dy gs)) ∨ ∃ i, v = .int i := by
  rcases W.num.2 with ⟨a, e, da, ha⟩ | ⟨e, _⟩
  · exact .inl ⟨a, da, _, e, ha⟩
  · exact .inr ⟨_, e⟩
/-- a def without defaults, called with some values by position and the rest by keyword, in order -/
theorem fnk1 {P : Program} {w : World} {K : PySem.W.Frag} {mg : Str → Option Value} {base : Heap} {x qual : Str} {params : Arguments} {body : List Stmt} {scope : Scope} {kws : List (Str × V)} {f : Addr} {fd : FuncData} {N ps ks : List Str} {k n : Nat} {sp : Sp}
    (F : FunD K x qual params body scope [] kws f fd) (S : FnScope N ps scope)
    (h : ∀ (kV doc pm : Value) (an : Option Addr) (cdv ct : Value) (us ws : List Value), us.length = n → ws.length = ks.length → bindArgs (PySem.W.fnOf x qual params body scope .none kV doc pm an cdv ct) ⟨us, ks.zip ws⟩ = pure (ps.zip (us ++ ws)))
    (len : ∀ vs H Q E, sp vs H Q E → vs.length = ps.length) (hbody : Bod P w K mg base N qual scope f body k sp) : FnK P w K mg base (L2.CX P w) (k + 1) f ks (fun vs zs H Q E => vs.length = n ∧ zs.length = ks.length ∧ sp (vs ++ zs) H Q E) := by
  refine fnk_of (g := fun us ws => us ++ ws) (gV := fun vs zs => vs ++ zs) (FunD.ok (P := P) (w := w) (mg := mg) (base := base) (CX := L2.CX P w) F S len hbody) ⟨fun s us ws X l1 l2 => ?_, fun r1 r2 => r1.append r2⟩
  obtain ⟨oc, od, dV, kV, doc, pm, an, cdv, ct, osl, rfl, lk, hcd, hD, hK⟩ := F.ex
  rcases hD with ⟨_, rfl⟩ | ⟨e, _⟩
  · exact .of_eq (h kV doc pm an cdv ct us ws l1 l2)
  · exact absurd rfl e
end EM
/-! EM33: the state of a law's own code: what is kept (Ext), what stands (At), the pen and the tables (Bs); displays told by New. -/
namespace EM
open PySem PySem.Spec PyProof.Rows L2
theorem pr {P : Prop} (h : P) : P := h
/-- a promise, not to be opened by itself -/
structure Sw (sp : Sp) (vs : List V) (H : Hp) (Q : VK) (E : XK) : Prop where
  h : sp vs H Q E
structure Sw2 (sp : Sp2) (vs zs : List V) (H : Hp) (Q : VK) (E : XK) : Prop where
  h : sp vs zs H Q E
section
variable {P : Program} {w : World} {K : PySem.W.Frag} {mg : Str → Option Value} {base : Heap} {CX : CXT} {k : Nat} {f : Addr} {sp : Sp} {sp2 : Sp2} {ks : List Str}
theorem _root_.L2.FnR.sw (F : FnR P w K mg base CX k f sp) : FnR P w K mg base CX k f (Sw sp) := F.imp fun _ _ _ _ h => h.h
theorem FnG.sw (F : FnG P w K mg base CX k f sp) : FnG P w K mg base CX k f (Sw sp) := fun A outer s H us vs Q E hr hG e0 r h => F A outer s H us vs Q E hr hG e0 r h.h
theorem FnK.sw (F : FnK P w K mg base CX k f ks sp2) : FnK P w K mg base CX k f ks (Sw2 sp2) := fun A outer s H us ws vs zs Q E hr e0 r rz h => F A outer s H us ws vs zs Q E hr e0 r rz h.h
end
/-- all but the pen and the tables stays -/
structure Ext (p : Addr) (H H' : Hp) : Prop where
  k : KeepN p H H'
structure At (p : Addr) (H : Hp) (a : Addr) (o : HO) : Prop where
  at_ : H a = some o
  ne : a ≠ p
  nt : ∀ ps, o ≠ .tbl ps
structure Bs (T : List (Addr × Str)) (p l : Addr) (n : Nat) (H : Hp) : Prop where
  pen : Pen H p l n
  tab : LamX.Tabs T H
structure New (H : Hp) (q : Addr) (o : HO) (H' : Hp) : Prop where
  free : H q = none
  same : Same H H'
  at_ : H' q = some o
section
variable {T : List (Addr × Str)} {p l q a : Addr} {n m : Nat} {H H1 H2 H' : Hp} {o : HO} {K : PySem.W.Frag}
theorem Ext.refl : Ext p H H := ⟨fun _ _ e _ _ => e⟩
theorem Ext.trans (x : Ext p H H1) (y : Ext p H1 H2) : Ext p H H2 := ⟨x.k.trans y.k⟩
theorem Ext.same (s : Same H H') : Ext p H H' := ⟨KeepN.of (Keep.of s)⟩
theorem Ext.keep (s : Keep p H H') : Ext p H H' := ⟨KeepN.of s⟩
theorem Ext.extN (s : LamX.ExtN H H') : Ext p H H' := ⟨KeepN.ext s⟩
theorem At.ext (x : Ext p H H') (h : At p H a o) : At p H' a o := ⟨x.k _ _ h.at_ h.ne h.nt, h.ne, h.nt⟩
theorem At.get (h : At p H a o) : H a = some o := h.at_
theorem At.sqL {xs : List V} (h : At p H a (.lst xs)) : SqL K H a xs := SqL.of h.at_
theorem At.sqT {xs : List V} (h : At p H a (.tup xs)) : SqT K H a xs := SqT.of h.at_
theorem Bs.same (B : Bs T p l n H) (s : Same H H') : Bs T p l n H' := ⟨B.pen.same s, B.tab.ext s⟩
theorem Bs.mono (B : Bs T p l n H) (e : n ≤ m) : Bs T p l m H := ⟨B.pen.mono e, B.tab⟩
theorem Bs.ext (B : Bs T p l n H) (s : LamX.ExtN H H') (t : LamX.Tabs T H') : Bs T p l n H' := ⟨B.pen.extN s, t⟩
theorem Bs.ne (B : Bs T p l n H) (h : H a = none) : a ≠ p := (B.pen.ne h).1
theorem Bs.nel (B : Bs T p l n H) (h : H a = none) : a ≠ l := (B.pen.ne h).2
theorem tabs_keep (t : LamX.Tabs T H) (P : Pen H p l n) (k : Keep p H H') : LamX.Tabs T H' := by
  obtain ⟨cells, at_, r, hp, _⟩ := P
  intro q hq
  obtain ⟨ps, h1, h2, h3⟩ := t q hq
  refine ⟨ps, k _ _ h1 (ne_of h1 hp (by intro z; cases z)), h2, fun pos cv hc => ?_⟩
  obtain ⟨c, e1, e2⟩ := h3 pos cv hc
  exact ⟨c, e1, k _ _ e2 (ne_of e2 hp (by unfold LamX.CodeO; intro z; cases z))⟩
theorem tabs_mut {xs : List V} (t : LamX.Tabs T H) (hM : H a = some (.lst xs)) : LamX.Tabs T (upd H a o) := by
  intro q hq
  obtain ⟨ps, h1, h2, h3⟩ := t q hq
  refine ⟨ps, by rw [upd_ne (ne_of h1 hM (by intro z; cases z))]; exact h1, h2, fun pos cv hc => ?_⟩
  obtain ⟨c, e1, e2⟩ := h3 pos cv hc
  exact ⟨c, e1, by rw [upd_ne (ne_of e2 hM (by unfold LamX.CodeO; intro z; cases z))]; exact e2⟩
/-- what is no list is not the pen -/
theorem Bs.at_ (B : Bs T p l n H) (h : H a = some o) (hl : ∀ xs, o ≠ .lst xs) (ht : ∀ ps, o ≠ .tbl ps) : At p H a o := by
  obtain ⟨cells, at_, r, hp, _⟩ := B.pen
  exact ⟨h, ne_of h hp (hl _), ht⟩
theorem Bs.new (B : Bs T p l n H) (x : New H q o H') (ht : ∀ ps, o ≠ .tbl ps) : At p H' q o := ⟨x.at_, B.ne x.free, ht⟩
theorem New.bs {G : Addr → Hp → Prop} (B : Bs T p l n H) (ht : ∀ ps, o ≠ .tbl ps) (k : ∀ q H', Ext p H H' → Bs T p l n H' → At p H' q o → H q = none → G q H') : ∀ q H', New H q o H' → G q H' :=
  fun q H' x => k q H' (Ext.same x.same) (B.same x.same) (B.new x ht) x.free
theorem New.upd {G : Addr → Hp → Prop} (k : ∀ q H', New H q o H' → G q H') : ∀ q, H q = none → G q (L2.upd H q o) := fun q h => k q _ ⟨h, same_upd h, upd_same⟩
theorem draw_bs {Q : VK} {E : XK} {many : Int} (B : Bs T p l n H) (h1 : n ≤ 1000000) (h2 : 1 ≤ many) (h3 : many < 10000000000000000000000000000000000000000000000000000000000000000000000000000000000000000000000000000)
    (k : ∀ d H', 0 ≤ d → d < many → Ext p H H' → Bs T p l (n + 1) H' → Q (.int d) H') : Sw spDraw [.ref p, .int many] H Q E :=
  ⟨⟨p, l, n, many, rfl, B.pen, h1, h2, h3, fun d H' d0 d1 k1 P1 => k d H' d0 d1 (Ext.keep k1) ⟨P1, tabs_keep B.tab B.pen k1⟩⟩⟩
theorem pick_bs {Q : VK} {E : XK} {xs : List V} (B : Bs T p l n H) (h1 : n ≤ 1000000) (ha : At p H a (.lst xs)) (h2 : 1 ≤ xs.length) (h3 : xs.length ≤ 1000000)
    (k : ∀ v H', v ∈ xs → Ext p H H' → Bs T p l (n + 1) H' → Q v H') : Sw spPick [.ref p, .ref a] H Q E :=
  ⟨⟨p, l, n, a, xs, rfl, B.pen, h1, ha.at_, ha.ne, h2, h3, fun v H' hv k1 P1 => k v H' hv (Ext.keep k1) ⟨P1, tabs_keep B.tab B.pen k1⟩⟩⟩
/-! ### Ratios and numbers that are not the pen -/
structure RatP (K : PySem.W.Frag) (p : Addr) (H : Hp) (a : Addr) (t b : Int) : Prop where
  rat : RatAt K H a t b
  ne : a ≠ p
theorem RatP.ext {t b : Int} (x : Ext p H H') (h : RatP K p H a t b) : RatP K p H' a t b := by
  obtain ⟨⟨dx, h⟩, n⟩ := h
  exact ⟨⟨dx, x.k _ _ h n (fun _ z => by cases z)⟩, n⟩
theorem RatP.get {t b : Int} (h : RatP K p H a t b) : RatAt K H a t b := h.rat
theorem RatP.of {t b : Int} (B : Bs T p l n H) (h : RatAt K H a t b) : RatP K p H a t b := by
  obtain ⟨dx, h⟩ := h
  obtain ⟨cells, at_, r, hp, _⟩ := B.pen
  exact ⟨⟨dx, h⟩, ne_of h hp (by intro z; cases z)⟩
structure NumP (K : PySem.W.Frag) (p : Addr) (H : Hp) (v : V) (t b : Int) : Prop where
  num : Num K H v t b
  ne : v ≠ .ref p
theorem NumP.get {v : V} {t b : Int} (h : NumP K p H v t b) : Num K H v t b := h.num
theorem NumP.ext {v : V} {t b : Int} (x : Ext p H H') (h : NumP K p H v t b) : NumP K p H' v t b := by
  obtain ⟨⟨lo, h⟩, n⟩ := h
  refine ⟨⟨lo, ?_⟩, n⟩
  rcases h with ⟨a, rfl, r⟩ | h
  · exact .inl ⟨a, rfl, (RatP.ext x ⟨r, fun z => n (by rw [z])⟩).rat⟩
  · exact .inr h
theorem RatP.num {t b : Int} (h : RatP K p H a t b) (lo : Low t b) : NumP K p H (.ref a) t b := ⟨Num.rat h.rat lo, fun z => h.ne (by cases z; rfl)⟩
theorem NumP.int (i : Int) : NumP K p H (.int i) i 1 := ⟨Num.int i, fun z => by cases z⟩
theorem RatRes.bs {Q : VK} {x y : Int} (B : Bs T p l n H) (k : ∀ a H', Ext p H H' → Bs T p l n H' → RatP K p H' a (nTop x y) (nBot x y) → Q (.ref a) H') : RatRes K H Q x y :=
  fun a H' s _ r => k a H' (Ext.same s) (B.same s) (RatP.of (B.same s) r)
theorem RatRes.to {Q : VK} {x y x' y' : Int} (k : RatRes K H Q x y) (e1 : x = x') (e2 : y = y') : RatRes K H Q x' y' := by
  subst e1 e2
  exact k
end
/-! ### readings that may be weakened -/
section
variable {X : Cx} {e : Expr} {es : List Expr} {t t' : TE} {ta : TA} {pos : Pos}
theorem _root_.L2.PE.of (h : PE X e t) (w : ∀ σ H Q, t' σ H Q → t σ H Q) : PE X e t' := ⟨fun pins s σ H Q I q => h.run pins s σ H Q I (w σ H Q q)⟩
def mcA (ta : TA) : TA := fun σ H Q => ∃ R : List V → Hp → Prop, ta σ H R ∧ ∀ xs H1, R xs H1 → Q xs H1
def mcE (t : TE) : TE := fun σ H Q => ∃ R : VK, t σ H R ∧ ∀ v H1, R v H1 → Q v H1
theorem _root_.L2.PA.mc (h : PA X es ta) : PA X es (mcA ta) := by
  refine ⟨fun pos pins s σ H Q I hq => ?_⟩
  obtain ⟨R, hR, k⟩ := hq
  refine thn (h.run pos pins s σ H R I hR) fun us s1 z => ?_
  obtain ⟨vs, H', I', r, q⟩ := z
  exact ⟨vs, H', I', r, k _ _ q⟩
theorem _root_.L2.PE.mc (h : PE X e t) : PE X e (mcE t) := by
  refine ⟨fun pins s σ H Q I hq => ?_⟩
  obtain ⟨R, hR, k⟩ := hq
  refine thn (h.run pins s σ H R I hR) fun u s1 z => ?_
  obtain ⟨v, H', I', r, q⟩ := z
  exact ⟨v, H', I', r, k _ _ q⟩
def tTupN (t : TA) : TE := fun σ H Q => t σ H fun xs H1 => xs.length ≤ 100000 ∧ ∀ p H', New H1 p (.tup xs) H' → Q (.ref p) H'
def tLstN (t : TA) : TE := fun σ H Q => t σ H fun xs H1 => xs.length ≤ 100000 ∧ ∀ p H', New H1 p (.lst xs) H' → Q (.ref p) H'
theorem pe_tupN {x1} (h : PA X es ta) : PE X (.Tuple es x1 pos) (tTupN ta) :=
  (pe_tup h.mc).of fun σ H Q q => ⟨_, q, fun xs H1 ⟨z, k⟩ => ⟨sz z, New.upd k⟩⟩
theorem pe_lstN (h : PA X es ta) : PE X (.List es pos) (tLstN ta) :=
  (pe_lst h.mc).of fun σ H Q q => ⟨_, q, fun xs H1 ⟨z, k⟩ => ⟨sz z, New.upd k⟩⟩
/-- list + list -/
def rCatN : R2 := fun x y H Q => ∃ a b xs ys, x = .ref a ∧ y = .ref b ∧ H a = some (.lst xs) ∧ H b = some (.lst ys) ∧ xs.length + ys.length ≤ 100000 ∧ ∀ q H', New H q (.lst (xs ++ ys)) H' → Q (.ref q) H'
end
end EM
namespace EM
open PySem PySem.Spec PyProof.Rows L2
section
variable {X : Cx}
theorem _root_.L2.opR_of {f : Value → Value → Sem Value} {r r' : R2} (h : OpR X f r) (w : ∀ x y H Q, r' x y H Q → r x y H Q) : OpR X f r' := fun pins s σ H x y v u Q I rx ry q => h pins s σ H x y v u Q I rx ry (w _ _ _ _ q)
theorem _root_.L2.unR_of {f : Value → Sem Value} {r r' : V → Hp → VK → Prop} (h : UnR X f r) (w : ∀ x H Q, r' x H Q → r x H Q) : UnR X f r' := fun pins s σ H x v Q I rx q => h pins s σ H x v Q I rx (w _ _ _ q)
theorem _root_.L2.callR_of {f : Value} {r r' : List V → Hp → VK → Prop} (h : CallR X f r) (w : ∀ xs H Q, r' xs H Q → r xs H Q) : CallR X f r' := fun pins s σ H xs us Q I rx q => h pins s σ H xs us Q I rx (w _ _ _ q)
theorem op_catN : OpR X (binaryOp .Add) rCatN := opR_of op_cat fun x y H Q ⟨a, b, xs, ys, e1, e2, h1, h2, z, k⟩ => ⟨a, b, xs, ys, e1, e2, h1, h2, sz z, New.upd k⟩
/-! ### numbers under operators -/
structure Rw (K : PySem.W.Frag) (H : Hp) (Q : VK) (x y : Int) : Prop where
  h : RatRes K H Q x y
def rNumN (K : PySem.W.Frag) (F : Int → Int → Int → Int → Int) (G : Int → Int → Int → Int → Int) : R2 := fun x y H Q => ∃ t b u c, Num K H x t b ∧ Num K H y u c ∧ ((∃ a, x = .ref a) ∨ ∃ a, y = .ref a) ∧ Bt 2000 t ∧ Bt 2000 b ∧ Bt 2000 u ∧ Bt 2000 c ∧ Rw K H Q (F t b u c) (G t b u c)
def rNumL (K : PySem.W.Frag) (F : Int → Int → Int → Int → Int) (G : Int → Int → Int → Int → Int) : R2 := fun x y H Q => ∃ a t b u c, x = .ref a ∧ Num K H (.ref a) t b ∧ Num K H y u c ∧ Bt 2000 t ∧ Bt 2000 b ∧ Bt 2000 u ∧ Bt 2000 c ∧ Rw K H Q (F t b u c) (G t b u c)
theorem num_ref {K : PySem.W.Frag} {H : Hp} {a : Addr} {t b : Int} (h : Num K H (.ref a) t b) : RatAt K H a t b := by
  rcases h.2 with ⟨a', e, r⟩ | ⟨e, _⟩
  · cases e
    exact r
  · cases e
theorem op_numL {f : Value → Value → Sem Value} {F G : Int → Int → Int → Int → Int} {sp1 : Sp} {E : XK} (h1 : OpR X f (rBinO (He.ga X.K "Ratio") sp1 E))
    (c1 : ∀ a y t b u c H Q, Two X.K H 2000 a y t b u c → RatRes X.K H Q (F t b u c) (G t b u c) → sp1 [.ref a, y] H Q E) : OpR X f (rNumL X.K F G) := by
  refine opR_of h1 fun x y H Q h => ?_
  obtain ⟨a, t, b, u, c, rfl, n1, n2, bt, bb, bu, bc, ⟨k⟩⟩ := h
  have ra := num_ref n1
  have W : Two X.K H 2000 a y t b u c := ⟨ra, n1.1, n2, bt, bb, bu, bc⟩
  obtain ⟨dx, ra⟩ := ra
  exact ⟨a, dx, _, rfl, ra, two_y W, c1 _ _ _ _ _ _ _ _ W k⟩
theorem op_numN {f : Value → Value → Sem Value} {F G : Int → Int → Int → Int → Int} {sp1 sp2 : Sp} {E E' : XK} (h1 : OpR X f (rBinO (He.ga X.K "Ratio") sp1 E)) (h2 : OpR X f (rBinR (He.ga X.K "Ratio") sp2 E'))
    (c1 : ∀ a y t b u c H Q, Two X.K H 2000 a y t b u c → RatRes X.K H Q (F t b u c) (G t b u c) → sp1 [.ref a, y] H Q E)
    (c2 : ∀ a t u c H Q, Two X.K H 2000 a (.int t) u c t 1 → RatRes X.K H Q (F t 1 u c) (G t 1 u c) → sp2 [.ref a, .int t] H Q E') : OpR X f (rNumN X.K F G) := by
  refine opR_of (op_two (op_numL h1 c1) h2) fun x y H Q h => ?_
  obtain ⟨t, b, u, c, n1, n2, hr, bt, bb, bu, bc, ⟨k⟩⟩ := h
  rcases n1.2 with ⟨a, rfl, r⟩ | ⟨rfl, rfl⟩
  · exact .inl ⟨a, t, b, u, c, rfl, n1, n2, bt, bb, bu, bc, ⟨k⟩⟩
  · rcases n2.2 with ⟨a, rfl, r⟩ | ⟨rfl, rfl⟩
    · have W : Two X.K H 2000 a (.int t) u c t 1 := ⟨r, n2.1, n1, bu, bc, bt, bb⟩
      obtain ⟨dx, r⟩ := r
      exact .inr ⟨t, a, dx, _, rfl, rfl, r, c2 _ _ _ _ _ _ W k⟩
    · rcases hr with ⟨a, e⟩ | ⟨a, e⟩ <;> cases e
end
end EM
/-! EM34: what making a Ratio, negating it and showing its parts promise; lowest terms. -/
namespace EM
open PySem PySem.Spec PyProof.Rows L2
def spMkN (K : PySem.W.Frag) : Sp := fun vs H Q _ => ∃ t b, vs = [.int t, .int b] ∧ b ≠ 0 ∧ b.natAbs.log2 < 9000 ∧ RatRes K H Q t b
structure Su (r : V → Hp → VK → Prop) (x : V) (H : Hp) (Q : VK) : Prop where
  h : r x H Q
def rNegN (K : PySem.W.Frag) (F : Int → Int) : V → Hp → VK → Prop := fun x H Q => ∃ a t b, x = .ref a ∧ RatAt K H a t b ∧ Low t b ∧ Bt 2000 b ∧ ∀ p H', Same H H' → H p = none → RatAt K H' p (F t) b → Q (.ref p) H'
section
variable {T : List (Addr × Str)} {p l q a : Addr} {n m : Nat} {H H1 H2 H' : Hp} {o : HO} {K : PySem.W.Frag}
/-- a new Ratio of lowest terms (t, b) -/
theorem RatRes.low {Q : VK} {x y t b : Int} (B : Bs T p l n H) (lo : Low t b) (hy : y ≠ 0) (e : x * b = t * y) (k : ∀ a H', Ext p H H' → Bs T p l n H' → RatP K p H' a t b → Q (.ref a) H') : RatRes K H Q x y := by
  obtain ⟨e1, e2⟩ := low_eq (n_low (t := x) hy) lo (by
    have h1 := n_cross (t := x) (b := y)
    refine Int.eq_of_mul_eq_mul_right (a := y) hy ?_
    calc nTop x y * b * y = (nTop x y * y) * b := by ac_rfl
      _ = x * nBot x y * b := by rw [h1]
      _ = (x * b) * nBot x y := by ac_rfl
      _ = (t * y) * nBot x y := by rw [e]
      _ = t * nBot x y * y := by ac_rfl)
  refine RatRes.bs B fun a H' x1 B1 r => ?_
  rw [e1, e2] at r
  exact k a H' x1 B1 r
theorem Rw.bs {Q : VK} {x y : Int} (B : Bs T p l n H) (k : ∀ a H', Ext p H H' → Bs T p l n H' → RatP K p H' a (nTop x y) (nBot x y) → Q (.ref a) H') : Rw K H Q x y := ⟨RatRes.bs B k⟩
theorem Rw.low {Q : VK} {x y t b : Int} (B : Bs T p l n H) (lo : Low t b) (hy : y ≠ 0) (e : x * b = t * y) (k : ∀ a H', Ext p H H' → Bs T p l n H' → RatP K p H' a t b → Q (.ref a) H') : Rw K H Q x y := ⟨RatRes.low B lo hy e k⟩
/-- the same as another fraction in lowest terms -/
theorem Rw.to {Q : VK} {x y x' y' : Int} (B : Bs T p l n H) (h : y ≠ 0) (h' : y' ≠ 0) (e : x * y' = x' * y) (k : ∀ a H', Ext p H H' → Bs T p l n H' → RatP K p H' a (nTop x' y') (nBot x' y') → Q (.ref a) H') : Rw K H Q x y := by
  obtain ⟨e1, e2⟩ := n_eq h h' e
  exact Rw.bs B fun a H' x1 B1 r => k a H' x1 B1 (by rw [← e1, ← e2]; exact r)
theorem neg_bs {Q : VK} {F : Int → Int} {t b : Int} (B : Bs T p l n H) (ra : RatP K p H a t b) (lo : Low t b) (hb : Bt 2000 b) (k : ∀ q H', Ext p H H' → Bs T p l n H' → RatP K p H' q (F t) b → Q (.ref q) H') : Su (rNegN K F) (.ref a) H Q :=
  ⟨⟨a, t, b, rfl, ra.rat, lo, hb, fun q H' s _ r => k q H' (Ext.same s) (B.same s) (RatP.of (B.same s) r)⟩⟩
end
end EM
/-! EM35: helpers of the stepping words: guards of goals, powers of written ints, bounds by bits. -/
namespace EM
open PySem PySem.Spec PyProof.Rows L2
theorem gI {a b : Int} (h : a ≤ b) : a ≤ b := h
theorem gJ {a b : Int} (h : a < b) : a < b := h
theorem gN {a b : Nat} (h : a ≤ b) : a ≤ b := h
theorem gM {a b : Nat} (h : a < b) : a < b := h
theorem gE {a b : Int} (h : a ≠ b) : a ≠ b := h
theorem gB {n : Nat} {i : Int} (h : Bt n i) : Bt n i := h
theorem gIf {c : Bool} {A B : Prop} (h : if c = true then A else B) : if c = true then A else B := h
theorem gTru {K : PySem.W.Frag} {x : V} {H : Hp} {k : Bool} (h : TruV K x H k) : TruV K x H k := h
theorem ifNotT {A B : Prop} (h : B) : if (!true) = true then A else B := h
theorem ifNotF {A B : Prop} (h : A) : if (!false) = true then A else B := h
theorem gRef {x y : V} (h : (∃ a, x = .ref a) ∨ ∃ a, y = .ref a) : (∃ a, x = V.ref a) ∨ ∃ a, y = V.ref a := h
theorem gEq {α : Type} {a b : α} (h : a = b) : a = b := h
def rPowV (i j v : Int) : R2 := fun x y H Q => x = .int i ∧ y = .int j ∧ Q (.int v) H
theorem op_powV {X : Cx} (i j v : Int) (h : CPow i j) (h2 : i ^ j.toNat = v) : OpR X (binaryOp .Pow) (rPowV i j v) := opR_of op_pow fun x y H Q ⟨e1, e2, q⟩ => ⟨i, j, e1, e2, h, by show Q (.int (i ^ j.toNat)) H; rw [h2]; exact q⟩
theorem _root_.EM.Bt.add' {n m : Nat} {i j : Int} (h : Bt n i) (g : Bt m j) : Bt (max n m + 1) (i + j) := (h.mono (Nat.le_max_left ..)).add (g.mono (Nat.le_max_right ..))
theorem _root_.EM.Bt.sub' {n m : Nat} {i j : Int} (h : Bt n i) (g : Bt m j) : Bt (max n m + 1) (i - j) := by
  rw [Int.sub_eq_add_neg]
  exact h.add' g.neg
theorem _root_.EM.Bt.lit (n : Nat) (i : Int) (h : decide (i.natAbs < 2 ^ n) = true) : Bt n i := (of_decide_eq_true h : i.natAbs < 2 ^ n)
theorem _root_.EM.Bt.top {n : Nat} {t b : Int} (ht : Bt n t) (h : b ≠ 0) : Bt n (nTop t b) := ht.le (n_abs h).1
theorem _root_.EM.Bt.bot {n : Nat} {t b : Int} (hb : Bt n b) (h : b ≠ 0) : Bt n (nBot t b) := hb.le (n_abs h).2
theorem _root_.EM.Bt.rng {i : Int} (n : Nat) (h : -((2 : Int) ^ n) < i) (g : i < (2 : Int) ^ n) : Bt n i := .lt g h
theorem _root_.EM.Bt.rng32 {i : Int} (h : -4294967296 < i) (g : i < 4294967296) : Bt 32 i := .rng 32 (by omega) (by omega)
theorem _root_.EM.Bt.rng70 {i : Int} (h : -1180591620717411303424 < i) (g : i < 1180591620717411303424) : Bt 70 i := .rng 70 (by omega) (by omega)
theorem _root_.EM.Bt.rng200 {i : Int} (h : -1606938044258990275541962092341162602522202993782792835301376 < i) (g : i < 1606938044258990275541962092341162602522202993782792835301376) : Bt 200 i := .rng 200 (by omega) (by omega)
theorem wideM {n m : Nat} {i j : Int} (h : Bt n i) (g : Bt m j) (h0 : 0 < n ∧ 0 < m ∧ n + m ≤ 1000000) : CMulW i j := wide_mul h g h0.1 h0.2.1 h0.2.2
section
variable {T : List (Addr × Str)} {p l q a : Addr} {n m : Nat} {H H1 H2 H' : Hp} {o : HO} {K : PySem.W.Frag}
theorem cut_bs {Q : VK} {E : XK} {u c : Int} (B : Bs T p l n H) (h0 : c ≠ 0) (hb : Bt 2000 c) (k : ∀ q H', Ext p H H' → Bs T p l n H' → At p H' q (.tup [.int (nTop u c), .int (nBot u c)]) → Q (.ref q) H') : Sw spCut [.int u, .int c] H Q E :=
  ⟨⟨u, c, rfl, h0, Nat.lt_trans (hb.log (by decide)) (by decide), fun q H' s nq hq => k q H' (Ext.same s) (B.same s) ((B.same s).at_ hq (fun _ z => by cases z) (fun _ z => by cases z))⟩⟩
end
end EM
namespace EM
theorem Bt.mulM {n m k : Nat} {i j : Int} (h : Bt n i) (g : Bt m j) (e : n + m ≤ k) : Bt k (i * j) := (h.mul g).mono e
theorem Bt.addM {n m k : Nat} {i j : Int} (h : Bt n i) (g : Bt m j) (e : max n m + 1 ≤ k) : Bt k (i + j) := (h.add' g).mono e
theorem Bt.subM {n m k : Nat} {i j : Int} (h : Bt n i) (g : Bt m j) (e : max n m + 1 ≤ k) : Bt k (i - j) := (h.sub' g).mono e
theorem Bt.negM {n k : Nat} {i : Int} (h : Bt n i) (e : n ≤ k) : Bt k (-i) := h.neg.mono e
end EM
namespace EM
open PySem L2
theorem Ext.back {p : Addr} {H H1 H2 : Hp} (y : Ext p H1 H2) (x : Ext p H H1) : Ext p H H2 := x.trans y
end EM
namespace EM
open PySem PySem.Spec PyProof.Rows L2
theorem ifEqI {a b : Int} {A B : Prop} (h1 : a = b → A) (h2 : a ≠ b → B) : if decide (V.int a = V.int b) = true then A else B := by
  rw [dVi]
  exact ite2 (fun z => h1 (of_decide_eq_true z)) (fun z => h2 (by simpa using z))
theorem ifNeI {a b : Int} {A B : Prop} (h1 : a ≠ b → A) (h2 : a = b → B) : if (!decide (V.int a = V.int b)) = true then A else B := by
  rw [dVi]
  exact ite2 (fun z => h1 (by simpa using z)) (fun z => h2 (by simpa using z))
theorem ifLt {a b : Int} {A B : Prop} (h1 : a < b → A) (h2 : b ≤ a → B) : if decide (a < b) = true then A else B :=
  ite2 (fun z => h1 (of_decide_eq_true z)) (fun z => h2 (by simpa using z))
theorem ifLe {a b : Int} {A B : Prop} (h1 : a ≤ b → A) (h2 : b < a → B) : if decide (a ≤ b) = true then A else B :=
  ite2 (fun z => h1 (of_decide_eq_true z)) (fun z => h2 (by simpa using z))
end EM
/-! EM36: data that may be shown and compared (Fd), told in one word; repr and == as rules for the stepping words. -/
namespace EM
open PySem PySem.Spec PyProof.Rows L2
/-! ### signs within the line -/
def okS (x : Str) : Prop := ∀ c ∈ sg x, c < 1114112
theorem okS_of (s : String) : okS (Str.ofString s) := by
  intro c hc
  rw [sg_of] at hc
  obtain ⟨d, _, rfl⟩ := List.mem_map.mp hc
  have := d.valid
  show d.val.toNat < _
  rcases this with h | h
  · have h' : d.val.toNat < 0xd800 := h
    omega
  · exact h.2
theorem okS.app {a b : Str} (h1 : okS a) (h2 : okS b) : okS (a ++ b) := by
  intro c hc
  rw [sg_app] at hc
  rcases List.mem_append.mp hc with h | h
  · exact h1 c h
  · exact h2 c h
theorem okS.lay {x : Str} (h : okS x) : PyData.canLay0 (.str x) = true := by
  show (x.cps.all fun c => decide (c < 0x110000)) = true
  rw [Array.all_eq_true']
  intro c hc
  exact decide_eq_true (h c (Array.mem_toList_iff.mpr hc))
theorem okS_from : ∀ (ts : List Str) (k : Nat) (a : Str), okS a → (∀ t ∈ ts, okS t) → okS (textFrom k a ts)
  | [], _, _, h, _ => h
  | t :: r, k, a, h, hr => okS_from r (k + 1) _ ((h.app (okS_of _)).app (hr t List.mem_cons_self)) fun x hx => hr x (List.mem_cons_of_mem _ hx)
theorem okS_join (s : Str) (hs : okS s) : ∀ ts : List Str, (∀ t ∈ ts, okS t) → okS (Str.join s ts)
  | [], _ => okS_of ""
  | [x], h => h x List.mem_cons_self
  | x :: y :: r, h => by
    show okS (x ++ s ++ Str.join s (y :: r))
    exact ((h x List.mem_cons_self).app hs).app (okS_join s hs (y :: r) fun t ht => h t (List.mem_cons_of_mem _ ht))
theorem okS_list (ts : List Str) (h : ∀ t ∈ ts, okS t) : okS (listText ts) := (okS_from ts 0 _ (okS_of _) h).app (okS_of _)
theorem okS_tuple (ts : List Str) (h : ∀ t ∈ ts, okS t) : okS (tupleText ts) := ((okS_of _).app (okS_join _ (okS_of _) ts h)).app (okS_of _)
/-- a datum that may be shown and compared: its text has at most n signs, it is at most m deep -/
structure Fd (n m : Nat) (d : PyData) : Prop where
  lay : d.canLay0 = true
  sh : d.showable = true
  len : d.shown.length ≤ n
  dep : d.depth ≤ m
  self : PyData.eqv d d = true
  ok : okS d.shown
structure FdL (n m : Nat) (ds : List PyData) : Prop where
  lay : PyData.canLayAll0 ds = true
  sh : PyData.showableAll ds = true
  len : (ds.map fun d => d.shown.length).sum + 2 * ds.length ≤ n
  dep : PyData.depthAll ds ≤ m
  self : PyData.eqvAll ds ds = true
  ok : ∀ t ∈ PyData.shownAll ds, okS t
theorem Fd.int {i : Int} (h : Bt 1900 i) : Fd 1921 0 (.int i) := by
  have h1 : i.natAbs.log2 < 1920 := Nat.lt_trans (h.log (by decide)) (by decide)
  refine ⟨rfl, decide_eq_true h1, int_text_len_1921 h1, Nat.le_refl _, ?_, okS_of _⟩
  show (i == i) = true
  simp
theorem Fd.bool (b : Bool) : Fd 5 0 (.bool b) := by
  refine ⟨rfl, rfl, ?_, Nat.le_refl _, ?_, ?_⟩
  · cases b <;> decide +kernel
  · cases b <;> rfl
  · cases b <;> exact okS_of _
theorem Fd.non : Fd 4 0 .none := ⟨rfl, rfl, by decide +kernel, Nat.le_refl _, rfl, okS_of _⟩
theorem FdL.nil : FdL 0 0 [] := ⟨rfl, rfl, Nat.le_refl _, Nat.le_refl _, rfl, fun t h => by cases h⟩
theorem FdL.cons {n1 m1 n2 m2 : Nat} {d : PyData} {ds : List PyData} (h : Fd n1 m1 d) (g : FdL n2 m2 ds) : FdL (n1 + n2 + 2) (max m1 m2) (d :: ds) := by
  refine ⟨?_, ?_, ?_, ?_, ?_, ?_⟩
  · show (d.canLay0 && PyData.canLayAll0 ds) = true
    rw [h.lay, g.lay]
    rfl
  · show (d.showable && PyData.showableAll ds) = true
    rw [h.sh, g.sh]
    rfl
  · have := h.len
    have := g.len
    simp only [List.map_cons, List.sum_cons, List.length_cons]
    omega
  · show max d.depth (PyData.depthAll ds) ≤ _
    have := h.dep
    have := g.dep
    omega
  · show (PyData.eqv d d && PyData.eqvAll ds ds) = true
    rw [h.self, g.self]
    rfl
  · intro t ht
    rcases List.mem_cons.mp (show t ∈ d.shown :: PyData.shownAll ds from ht) with e | e
    · rw [e]
      exact h.ok
    · exact g.ok t e
theorem Fd.list {n m : Nat} {ds : List PyData} (g : FdL n m ds) : Fd (n + 3) (m + 1) (.list ds) := by
  have h1 := shown_list ds
  have h2 := g.len
  exact ⟨g.lay, g.sh, by omega, Nat.succ_le_succ g.dep, g.self, okS_list _ g.ok⟩
theorem Fd.tup {n m : Nat} {ds : List PyData} (g : FdL n m ds) : Fd (n + 3) (m + 1) (.tuple ds) := by
  have h1 := shown_tuple ds
  have h2 := g.len
  exact ⟨g.lay, g.sh, by omega, Nat.succ_le_succ g.dep, g.self, okS_tuple _ g.ok⟩
theorem Fd.mono {n m n' m' : Nat} {d : PyData} (h : Fd n m d) (e1 : n ≤ n') (e2 : m ≤ m') : Fd n' m' d := ⟨h.lay, h.sh, Nat.le_trans h.len e1, Nat.le_trans h.dep e2, h.self, h.ok⟩
theorem FdL.mono {n m n' m' : Nat} {d : List PyData} (h : FdL n m d) (e1 : n ≤ n') (e2 : m ≤ m') : FdL n' m' d := ⟨h.lay, h.sh, Nat.le_trans h.len e1, Nat.le_trans h.dep e2, h.self, h.ok⟩
theorem FdL.all {n m k : Nat} : ∀ {ds : List PyData}, (∀ d ∈ ds, Fd n m d) → ds.length ≤ k → FdL ((n + 2) * k) m ds
  | [], _, _ => FdL.nil.mono (Nat.zero_le _) (Nat.zero_le _)
  | d :: r, h, l => by
    cases k with
    | zero => simp at l
    | succ k =>
      refine (FdL.cons (h d List.mem_cons_self) (FdL.all (k := k) (fun x hx => h x (List.mem_cons_of_mem _ hx)) (by simpa using l))).mono ?_ ?_
      · rw [Nat.mul_succ]
        omega
      · omega
theorem FdL.ints {ns : List Int} {k : Nat} (h : ∀ x ∈ ns, Bt 1900 x) (l : ns.length ≤ k) : FdL (1923 * k) 0 (ns.map .int) := FdL.all (fun d hd => by
  obtain ⟨i, hi, rfl⟩ := List.mem_map.mp hd
  exact Fd.int (h i hi)) (by rw [List.length_map]; exact l)
theorem Fd.shaped {n m : Nat} {d : PyData} (h : Fd n m d) (e : m ≤ 64) : SeqAt.shaped d = true := by
  unfold SeqAt.shaped
  rw [h.lay, decide_eq_true (Nat.le_trans h.dep e)]
  rfl
/-- compared alone: no bound of the text is asked (texts within) -/
structure Fe (m : Nat) (d : PyData) : Prop where
  lay : d.canLay0 = true
  dep : d.depth ≤ m
  self : PyData.eqv d d = true
structure FeL (m : Nat) (ds : List PyData) : Prop where
  lay : PyData.canLayAll0 ds = true
  dep : PyData.depthAll ds ≤ m
  self : PyData.eqvAll ds ds = true
theorem Fe.str {x : Str} (h : okS x) : Fe 0 (.str x) := ⟨h.lay, Nat.le_refl _, by show (x == x) = true; simp⟩
theorem Fe.int (i : Int) : Fe 0 (.int i) := ⟨rfl, Nat.le_refl _, by show (i == i) = true; simp⟩
theorem Fe.bool (b : Bool) : Fe 0 (.bool b) := ⟨rfl, Nat.le_refl _, by cases b <;> rfl⟩
theorem Fe.non : Fe 0 .none := ⟨rfl, Nat.le_refl _, rfl⟩
theorem FeL.nil : FeL 0 [] := ⟨rfl, Nat.le_refl _, rfl⟩
theorem FeL.cons {m1 m2 : Nat} {d : PyData} {ds : List PyData} (h : Fe m1 d) (g : FeL m2 ds) : FeL (max m1 m2) (d :: ds) := by
  refine ⟨?_, ?_, ?_⟩
  · show (d.canLay0 && PyData.canLayAll0 ds) = true
    rw [h.lay, g.lay]
    rfl
  · show max d.depth (PyData.depthAll ds) ≤ _
    have := h.dep
    have := g.dep
    omega
  · show (PyData.eqv d d && PyData.eqvAll ds ds) = true
    rw [h.self, g.self]
    rfl
theorem Fe.list {m : Nat} {ds : List PyData} (g : FeL m ds) : Fe (m + 1) (.list ds) := ⟨g.lay, Nat.succ_le_succ g.dep, g.self⟩
theorem Fe.tup {m : Nat} {ds : List PyData} (g : FeL m ds) : Fe (m + 1) (.tuple ds) := ⟨g.lay, Nat.succ_le_succ g.dep, g.self⟩
theorem FeL.all {m : Nat} : ∀ {ds : List PyData}, (∀ d ∈ ds, Fe m d) → FeL m ds
  | [], _ => ⟨rfl, Nat.zero_le _, rfl⟩
  | d :: r, h => by
    have q := FeL.cons (h d List.mem_cons_self) (FeL.all fun x hx => h x (List.mem_cons_of_mem _ hx))
    rw [Nat.max_self] at q
    exact q
theorem Fe.shaped {m : Nat} {d : PyData} (h : Fe m d) (e : m ≤ 64) : SeqAt.shaped d = true := by
  unfold SeqAt.shaped
  rw [h.lay, decide_eq_true (Nat.le_trans h.dep e)]
  rfl
/-! ### readings that are opened by a lemma alone -/
structure Sr (r : List V → Hp → VK → Prop) (xs : List V) (H : Hp) (Q : VK) : Prop where
  h : r xs H Q
structure So (r : R2) (x y : V) (H : Hp) (Q : VK) : Prop where
  h : r x y H Q
section
variable {X : Cx}
theorem callR_sw {f : Value} {r : List V → Hp → VK → Prop} (h : CallR X f r) : CallR X f (Sr r) := callR_of h fun _ _ _ q => q.h
theorem op_sw {f : Value → Value → Sem Value} {r : R2} (h : OpR X f r) : OpR X f (So r) := opR_of h fun _ _ _ _ q => q.h
theorem un_sw {f : Value → Sem Value} {r : V → Hp → VK → Prop} (h : UnR X f r) : UnR X f (Su r) := unR_of h fun _ _ _ q => q.h
theorem pip_of {op : Operator} {r : R2} (h : OpR X (inplaceOp op) r) : PIp X op r := fun pins s σ H x y v u Q I rx ry q => h pins s σ H x y v u Q I rx ry q
end
section
variable {T : List (Addr × Str)} {p l q a b : Addr} {n m : Nat} {H H1 H2 H' : Hp} {o : HO} {K : PySem.W.Frag} {Q : VK} {x y : V} {d e : PyData}
theorem repr_sw (h : Dp K H x d) (g : Fd n m d) (e : n ≤ 10000000 ∧ m ≤ 64) (k : Q (.str d.shown) H) : Sr (rRepr K) [x] H Q :=
  ⟨x, d, rfl, h, g.sh, Nat.le_trans g.len (Nat.le_trans e.1 (by decide)), Nat.le_trans g.dep e.2, k⟩
theorem eqd_sw (h : Dp K H x d) (g : Dp K H y e) (f1 : Fe n d) (f2 : Fe m e) (z : n ≤ 64 ∧ m ≤ 64) (k : Q (.bl (PyData.eqv d e)) H) : So (rEqD K) x y H Q :=
  ⟨d, e, h, g, f1.shaped z.1, f2.shaped z.2, k⟩
theorem ned_sw (h : Dp K H x d) (g : Dp K H y e) (f1 : Fe n d) (f2 : Fe m e) (z : n ≤ 64 ∧ m ≤ 64) (k : Q (.bl (!PyData.eqv d e)) H) : So (rNeD K) x y H Q :=
  ⟨d, e, h, g, f1.shaped z.1, f2.shaped z.2, k⟩
/-- the same datum twice -/
theorem eqd_same (h : Dp K H x d) (g : Dp K H y d) (f : Fe n d) (z : n ≤ 64) (k : Q (.bl true) H) : So (rEqD K) x y H Q :=
  eqd_sw h g f f ⟨z, z⟩ (by rw [f.self]; exact k)
theorem ned_same (h : Dp K H x d) (g : Dp K H y d) (f : Fe n d) (z : n ≤ 64) (k : Q (.bl false) H) : So (rNeD K) x y H Q :=
  ned_sw h g f f ⟨z, z⟩ (by rw [f.self]; exact k)
theorem dp_lst {ds : List PyData} {xs : List V} (h : H a = some (.lst xs)) (g : DpAll K H xs ds) : Dp K H (.ref a) (.list ds) := .lst (SqL.of h) g
theorem dp_tup {ds : List PyData} {xs : List V} (h : H a = some (.tup xs)) (g : DpAll K H xs ds) : Dp K H (.ref a) (.tuple ds) := .tup (SqT.of h) g
end
end EM
namespace EM
open PySem PySem.Spec PyProof.Rows L2
section
variable {T : List (Addr × Str)} {p l q a b : Addr} {n m : Nat} {H H1 H2 H' : Hp} {o : HO} {K : PySem.W.Frag} {Q : VK} {E : XK}
theorem mk_low {t b : Int} (B : Bs T p l n H) (lo : Low t b) (hb : Bt 2000 b) (k : ∀ a H', Ext p H H' → Bs T p l n H' → RatP K p H' a t b → Q (.ref a) H') : Sw (spMkN K) [.int t, .int b] H Q E :=
  ⟨⟨t, b, rfl, by have := lo.pos; omega, Nat.lt_trans (hb.log (by decide)) (by decide), RatRes.low B lo (by have := lo.pos; omega) rfl k⟩⟩
theorem num_l {t b : Int} (h : NumP K p H (.ref a) t b) : RatP K p H a t b := ⟨num_ref h.num, fun z => h.ne (by rw [z])⟩
end
end EM
namespace EM
open PySem PySem.Spec PyProof.Rows L2
theorem RatP.getK {K K' : PySem.W.Frag} {p a : Addr} {H : Hp} {t b : Int} (h : RatP K p H a t b) (e : K = K') : RatAt K' H a t b := e ▸ h.rat
theorem NumP.getK {K K' : PySem.W.Frag} {p : Addr} {v : V} {H : Hp} {t b : Int} (h : NumP K p H v t b) (e : K = K') : Num K' H v t b := e ▸ h.num
end EM
namespace EM
open PySem PySem.Spec PyProof.Rows L2
theorem num_of_rat {K : PySem.W.Frag} {p a : Addr} {H : Hp} {t b : Int} (h : RatP K p H a t b) (lo : Low t b) : NumP K p H (.ref a) t b := h.num lo
end EM
namespace EM
open PySem PySem.Spec PyProof.Rows L2
theorem Bt.topL {n k : Nat} {t b : Int} (ht : Bt n t) (h : b ≠ 0) (e : n ≤ k) : Bt k (nTop t b) := (ht.top h).mono e
theorem Bt.botL {n k : Nat} {t b : Int} (hb : Bt n b) (h : b ≠ 0) (e : n ≤ k) : Bt k (nBot t b) := (hb.bot h).mono e
end EM
namespace EM
open PySem PySem.Spec PyProof.Rows L2
end EM
namespace EM
open PySem PySem.Spec PyProof.Rows L2
section
variable {T : List (Addr × Str)} {p l q a b : Addr} {n m : Nat} {H H1 H2 H' : Hp} {o : HO} {K : PySem.W.Frag} {Q : VK} {E : XK}
theorem RatP.at_ {t b : Int} (h : RatP K p H a t b) : ∃ dx, At p H a (.ins (He.ga K "Ratio") dx (rf t b)) := by
  obtain ⟨⟨dx, h⟩, n⟩ := h
  exact ⟨dx, h, n, fun _ z => by cases z⟩
end
end EM
namespace EM
open PySem PySem.Spec PyProof.Rows L2
theorem mk2 {X : Cx} {b : List Stmt} {t : TS} {D : Ends} {σ : L2.St} {H : Hp} (d : PSs X b t) (h : t D σ H) : ∃ t, PSs X b t ∧ t D σ H := ⟨t, d, h⟩
end EM
namespace EM
end EM
/-! EM37: int // x, int % x where x is an instance; == and the order of an instance with an int. -/
namespace PySem.W
open PySem PySem.Calls PyProof.Rows Builtin Builtin.Int
end PySem.W
namespace EM
open PySem PySem.Spec PyProof.Rows L2
end EM
/-! EM38: a Ratio's fields and methods by RatAt; of, is_number, over as steps. -/
namespace EM
open PySem PySem.Spec PyProof.Rows L2
section
variable {T : List (Addr × Str)} {p l q a b : Addr} {n m : Nat} {H H1 H2 H' : Hp} {o : HO} {K : PySem.W.Frag} {Q : VK} {E : XK}
theorem isNum_sw {v : V} {t b : Int} (h : NumP K p H v t b) (k : Q (.bl true) H) : Sw (spIsNum K) [v] H Q E := ⟨isNum h.num k⟩
theorem of_sw {v : V} {t b : Int} (B : Bs T p l n H) (h : NumP K p H v t b) (k : ∀ a H', Ext p H H' → Bs T p l n H' → RatP K p H' a t b → Q (.ref a) H') : Sw (spOfN K) [v] H Q E :=
  ⟨⟨v, t, b, rfl, h.num, fun a H' s r => k a H' (Ext.same s) (B.same s) (RatP.of (B.same s) r)⟩⟩
end
/-! ### promises of //, % and the roundings -/
structure TwoP (K : PySem.W.Frag) (T : List (Addr × Str)) (p l : Addr) (n : Nat) (H : Hp) (x : Addr) (v : V) (t b u c : Int) : Prop where
  B : Bs T p l n H
  rx : RatP K p H x t b
  lo : Low t b
  ny : NumP K p H v u c
  bt : Bt 400 t
  bb : Bt 400 b
  bu : Bt 400 u
  bc : Bt 400 c
end EM
namespace EM
open PySem PySem.Spec PyProof.Rows L2
section
variable {X : Cx} {e : Expr} {ta : TE} {pos : Pos}
def tRatF (K : PySem.W.Frag) (g : Int → Int → Int) (ta : TE) : TE := fun σ H Q => ta σ H fun x H1 => ∃ a t b, x = V.ref a ∧ RatAt K H1 a t b ∧ Q (.int (g t b)) H1
theorem pe_topN (he : PE X e ta) (c : Cls X.K (He.ga X.K "Ratio")) (na : NoAttr X.K (He.ga X.K "Ratio") "top") (hb : attributeBase e "top" X.env (eval e X.env) = eval e X.env) : PE X (.Attribute e "top" pos) (tRatF X.K (fun t _ => t) ta) :=
  (pe_fld he.mc hb).of fun σ H Q q => ⟨_, q, fun x H1 ⟨a, t, b, e, ⟨dx, r⟩, k⟩ => ⟨a, _, dx, _, .int t, e, r, c, na, rfl, k⟩⟩
end
end EM
namespace EM
open PySem PySem.Spec PyProof.Rows L2
end EM
namespace EM
theorem Bt.div {n : Nat} {i j : Int} (h : Bt n i) (hj : 0 < j) : Bt n (i / j) := by
  refine h.le ?_
  rcases Int.lt_or_le i 0 with hi | hi
  · have h1 : i ≤ i / j := Int.le_ediv_of_mul_le hj (by
      have : i * j ≤ i * 1 := Int.mul_le_mul_of_nonpos_left (by omega) (by omega)
      omega)
    have h2 : i / j < 0 := Int.ediv_neg_of_neg_of_pos hi hj
    omega
  · have h1 : i / j ≤ i := Int.ediv_le_self j hi
    have h2 : 0 ≤ i / j := Int.ediv_nonneg hi (by omega)
    omega
end EM
namespace EM
open PySem PySem.Spec PyProof.Rows L2
theorem Bt.divM {n k : Nat} {i j : Int} (h : Bt n i) (hj : 0 < j) (e : n ≤ k) : Bt k (i / j) := (h.div hj).mono e
end EM
namespace EM
open PySem PySem.Spec PyProof.Rows L2
theorem call_intN {X : Cx} : CallR X (.type "int") (fun xs H Q => ∃ i, xs = [.int i] ∧ Q (.int i) H) := callR_of call_int1 fun _ _ _ h => .inl h
end EM
/-! EM39: append in a law's own code: one object is written (Mu). -/
namespace EM
open PySem PySem.Spec PyProof.Rows L2
structure Mu (l : Addr) (H H' : Hp) (o : HO) : Prop where
  at_ : H' l = some o
  old : ∀ b, b ≠ l → H' b = H b
theorem Mu.upd {l : Addr} {H : Hp} {o : HO} : Mu l H (L2.upd H l o) o := ⟨upd_same, fun b n => upd_ne n⟩
section
variable {T : List (Addr × Str)} {p l0 l b : Addr} {n : Nat} {H H' : Hp} {o o2 : HO} {K : PySem.W.Frag} {xs ys : List V} {v : V} {t c : Int}
theorem Mu.eq (m : Mu l H H' o) : H' = L2.upd H l o := by
  funext b
  by_cases h : b = l
  · rw [h, m.at_, upd_same]
  · rw [m.old b h, upd_ne h]
theorem Mu.bs (m : Mu l H H' o) (B : Bs T p l0 n H) (h : At p H l (.lst xs)) (nl : l ≠ l0) : Bs T p l0 n H' := by
  rw [m.eq]
  exact ⟨B.pen.mut h.ne nl, tabs_mut B.tab h.at_⟩
theorem Mu.at_n (m : Mu l H H' o) (h : At p H b o2) (nb : b ≠ l) : At p H' b o2 := ⟨by rw [m.old b nb]; exact h.at_, h.ne, h.nt⟩
theorem Mu.at_k (m : Mu l H H' o) (h : At p H b o2) (g : At p H l (.lst xs)) (nk : ∀ xs, o2 ≠ .lst xs) : At p H' b o2 := m.at_n h (ne_of h.at_ g.at_ (nk _))
theorem Mu.here (m : Mu l H H' (.lst ys)) (g : At p H l (.lst xs)) : At p H' l (.lst ys) := ⟨m.at_, g.ne, fun _ z => by cases z⟩
theorem Mu.rat (m : Mu l H H' o) (h : RatP K p H b t c) (g : At p H l (.lst xs)) : RatP K p H' b t c := by
  obtain ⟨⟨dx, h⟩, n⟩ := h
  exact ⟨⟨dx, by rw [m.old b (ne_of h g.at_ (by intro z; cases z))]; exact h⟩, n⟩
theorem Mu.num (m : Mu l H H' o) (h : NumP K p H v t c) (g : At p H l (.lst xs)) : NumP K p H' v t c := by
  obtain ⟨⟨lo, h⟩, n⟩ := h
  refine ⟨⟨lo, ?_⟩, n⟩
  rcases h with ⟨a, rfl, r⟩ | h
  · exact .inl ⟨a, rfl, (m.rat (K := K) ⟨r, fun z => n (by rw [z])⟩ g).rat⟩
  · exact .inr h
end
section
variable {X : Cx} {o e : Expr} {to te : TE}
def tAppN (to te : TE) : TE := fun σ H Q => to σ H fun x H1 => ∃ l ys, x = V.ref l ∧ H1 l = some (.lst ys) ∧ te σ H1 fun v H2 => ∃ xs, H2 l = some (.lst xs) ∧ xs.length < 100000 ∧ ∀ H3, Mu l H2 H3 (.lst (xs ++ [v])) → Q .non H3
end
end EM
namespace EM
open PySem PySem.Spec PyProof.Rows L2
section
variable {X : Cx} {o e : Expr} {to te : TE} {apos cpos : Pos}
/-- o.append(e) -/
theorem pe_appN (ho : PE X o to) (he : PE X e te) (hbase : attributeBase o "append" X.env (eval o X.env) = eval o X.env := by rfl)
    (hfew : ((backTo cpos (starEach [e] X.env)).all (fun x => !x.1) && (backToKw cpos (keywordEach [] X.env)).all (fun x => x.1.isSome) && decide ([e].length + ([] : List Keyword).length + (if ([] : List Keyword).isEmpty then 0 else 1) < 30)) = true := by rfl)
    (hline : (apos.endLine == cpos.line) = true := by rfl) (hs : starEach [e] X.env = (false, eval e X.env) :: starEach [] X.env := by rfl) (hplain : (backTo cpos (starEach [] X.env)).any (·.1) = false := by rfl) :
    PE X (.Call (.Attribute o "append" apos) [e] [] cpos) (tAppN to te) :=
  (pe_bm PySem.F.plainAttrs_list PySem.F.slot_list_append PySem.F.type_list_append mt_append ho.mc (pa_cons he.mc pa_nil hs) hbase hfew hline hs hplain).of fun σ H Q q => ⟨_, q, fun x H1 ⟨l, ys, e1, h1, h2⟩ => by
    subst e1
    exact ⟨.inl ⟨rfl, ys, SqL.of h1⟩, _, h2, fun v H2 ⟨xs, h3, h4, h5⟩ => ⟨l, xs, v, rfl, rfl, h3, szl h4, h5 _ Mu.upd⟩⟩⟩
end
end EM
/-! EM40: y op x, a comparison whose left value's builtin declines an instance on the right. -/
namespace PySem.W
open PySem PySem.Calls PyProof.Rows Builtin
section
variable {prog : Program} {w : World} {A : Around} {E : Value → Shared → Prop} {s : Shared} {K : Frag} {x C L f : Addr} {h₀ : Heap} {m : Str → Option Value} {ox : Obj} {od : Option Obj}
theorem em_cmpR {op : CmpOp} {a : Value} {B : String} {Q : Value → Shared → Prop} (hu : A.units < cLine) (F : Fr h₀ L s.heap m) (X₀ : K.In h₀) (I : InstAt s.heap x ox C od) (ha : s.TypeIs a B) (ho : oneThing? op a (.ref x) = none) (hn : subIn K (.ref C) (.type B) = some false)
    (hd : ∀ (E : Value → Shared → Prop) (Q' : Option Value → Shared → Prop), Q' none s → wpAny (model prog w) A (tryCompare a (cmpInfo op).2.1 (.ref x)) Q' E s)
    (one : wpAny (model prog w) A (tryCompare (.ref x) (cmpInfo op).2.2 a) (fun r s' => ∃ v, r = some v ∧ Q v s') E s) : wpAny (model prog w) A (richCompare op a (.ref x)) Q E s := by
  have X := X₀.keeps F.keep
  have hne : (Value.type B != Value.ref C) = true := by
    simp
  unfold richCompare
  simp only [ho]
  refine wpAny_holding (wpAny_bind (wpAny_cRoomFor hu ?_))
  refine wpAny_bind (wpAny_typeOf ha (wpAny_bind (I.type.here ?_)))
  simp only [hne, if_true]
  refine wpAny_bind ((looks_subIn X hn).here ?_)
  simp only [Bool.false_eq_true, if_false]
  refine wpAny_bind (hd _ _ ?_)
  simp only [Bool.not_false, if_true]
  refine wpAny_bind (wpAny_mono one (fun r s' z => ?_) fun _ _ e => e)
  obtain ⟨v, rfl, hq⟩ := z
  exact wpAny_pure hq
/-- the own one answers from behind -/
theorem em_back {op : CmpOp} {a : Value} {Q : Value → Shared → Prop} (F : Fr h₀ L s.heap m) (X₀ : K.In h₀) (I : InstAt s.heap x ox C od) (hs : findIn K (.ref C) (cmpInfo op).2.2 = some (some (.ref f))) (hf : isFn K (.ref f) = true)
    (h : wpAny (model prog w) A (call (.ref f) [.ref x, a]) (CmpBack Q) E s) : wpAny (model prog w) A (tryCompare (.ref x) (cmpInfo op).2.2 a) (fun r s' => ∃ v, r = some v ∧ Q v s') E s := by
  unfold tryCompare
  refine wpAny_bind (ifBound_K (X₀.keeps F.keep) I hs hf (wpAny_mono h (fun v s' hv => ?_) fun _ _ e => e))
  cases v <;> first | exact hv.elim | exact wpAny_pure ⟨_, rfl, hv⟩
theorem typeIs_keep {s s' : Shared} {a : Value} {B : String} (h : s.TypeIs a B) (k : ∀ b o, s.heap.get? b = some o → s'.heap.get? b = some o) : s'.TypeIs a B := by
  cases a with
  | ref a =>
    obtain ⟨o, e, c⟩ := h
    exact ⟨o, k _ _ e, c⟩
  | _ => exact h
theorem decl_cmp {a : Value} {B id ow n : String} {nm : Str} {bi : Builtin} (hT : s.TypeIs a B) (S : Slot B nm id) (en : entryFor table id = some bi) (hk : builtinKind id = some .slot) (hsp : splitId id = some (ow, n)) (ha : argsOk id ⟨[a, .ref x], []⟩)
    (hs : isSubtype (.type B) (.type ow) = pure true)
    (hb : ∀ (A : Around) (E : Value → Shared → Prop) (Q : Fin → Shared → Prop), wpAny (model prog w) A (ret .notImplemented) Q E s → wpAny (model prog w) A (bi ⟨[a, .ref x], []⟩) Q E s) (E : Value → Shared → Prop) (Q : Option Value → Shared → Prop) (q : Q none s) : wpAny (model prog w) A (tryCompare a nm (.ref x)) Q E s := by
  refine wpAny_tryCompare_declines hT S (wpAny_call (codeAny_call_builtin S.plain en (check_slot hk hsp (fun A Q E s' k q => ?_) ha (hb _ _ _ (wpAny_pure ⟨rfl, q⟩)))))
  exact wpAny_isInstance (typeIs_keep hT k) hs q
theorem dec_list_eq {a : Addr} {oa : Obj} (X : K.In s.heap) (I : InstAt s.heap x ox C od) (ha : s.heap.get? a = some oa) (hc : oa.cls = .type "list") (hm : mroIn K C (.type "list") = some false) (E : Value → Shared → Prop) (Q : Option Value → Shared → Prop) (q : Q none s) : wpAny (model prog w) A (tryCompare (.ref a) (cmpInfo .Eq).2.1 (.ref x)) Q E s :=
  decl_cmp (s := s) (a := .ref a) (B := "list") (ow := "list") (n := "__eq__") (show s.TypeIs (.ref a) "list" from ⟨_, ha, hc⟩) F.slot_list_eq F.entry_list_eq (by decide +kernel) (by decide +kernel) (F.args_list_eq_2 _ _) (by rw [isSubtype_type]; kernel_rfl) (fun A E Q h => by
    have L : Looks (model prog w) s.heap (isInstance (.ref x) (.type "list")) false := I.type.andThen (looks_mroIn X hm)
    unfold Builtin.«list.__eq__»
    refine wpAny_bind (m := slotArgs "__eq__" 1 _) (wpAny_pure ?_)
    refine wpAny_bind (m := isInstance (.ref x) (.type "list")) (L.here ?_)
    exact h) E Q q
theorem dec_list_ne {a : Addr} {oa : Obj} (X : K.In s.heap) (I : InstAt s.heap x ox C od) (ha : s.heap.get? a = some oa) (hc : oa.cls = .type "list") (hm : mroIn K C (.type "list") = some false) (E : Value → Shared → Prop) (Q : Option Value → Shared → Prop) (q : Q none s) : wpAny (model prog w) A (tryCompare (.ref a) (cmpInfo .NotEq).2.1 (.ref x)) Q E s :=
  decl_cmp (s := s) (a := .ref a) (B := "list") (ow := "list") (n := "__ne__") (show s.TypeIs (.ref a) "list" from ⟨_, ha, hc⟩) F.slot_list_ne F.entry_list_ne (by decide +kernel) (by decide +kernel) (F.args_list_ne_2 _ _) (by rw [isSubtype_type]; kernel_rfl) (fun A E Q h => by
    have L : Looks (model prog w) s.heap (isInstance (.ref x) (.type "list")) false := I.type.andThen (looks_mroIn X hm)
    unfold Builtin.«list.__ne__»
    refine wpAny_bind (m := slotArgs "__ne__" 1 _) (wpAny_pure ?_)
    refine wpAny_bind (m := isInstance (.ref x) (.type "list")) (L.here ?_)
    exact h) E Q q
theorem dec_tuple_eq {a : Addr} {oa : Obj} (X : K.In s.heap) (I : InstAt s.heap x ox C od) (ha : s.heap.get? a = some oa) (hc : oa.cls = .type "tuple") (hm : mroIn K C (.type "tuple") = some false) (E : Value → Shared → Prop) (Q : Option Value → Shared → Prop) (q : Q none s) : wpAny (model prog w) A (tryCompare (.ref a) (cmpInfo .Eq).2.1 (.ref x)) Q E s :=
  decl_cmp (s := s) (a := .ref a) (B := "tuple") (ow := "tuple") (n := "__eq__") (show s.TypeIs (.ref a) "tuple" from ⟨_, ha, hc⟩) F.slot_tuple_eq F.entry_tuple_eq (by decide +kernel) (by decide +kernel) (F.args_tuple_eq_2 _ _) (by rw [isSubtype_type]; kernel_rfl) (fun A E Q h => by
    have L : Looks (model prog w) s.heap (isInstance (.ref x) (.type "tuple")) false := I.type.andThen (looks_mroIn X hm)
    unfold Builtin.«tuple.__eq__»
    refine wpAny_bind (m := slotArgs "__eq__" 1 _) (wpAny_pure ?_)
    refine wpAny_bind (m := isInstance (.ref x) (.type "tuple")) (L.here ?_)
    exact h) E Q q
theorem dec_tuple_ne {a : Addr} {oa : Obj} (X : K.In s.heap) (I : InstAt s.heap x ox C od) (ha : s.heap.get? a = some oa) (hc : oa.cls = .type "tuple") (hm : mroIn K C (.type "tuple") = some false) (E : Value → Shared → Prop) (Q : Option Value → Shared → Prop) (q : Q none s) : wpAny (model prog w) A (tryCompare (.ref a) (cmpInfo .NotEq).2.1 (.ref x)) Q E s :=
  decl_cmp (s := s) (a := .ref a) (B := "tuple") (ow := "tuple") (n := "__ne__") (show s.TypeIs (.ref a) "tuple" from ⟨_, ha, hc⟩) F.slot_tuple_ne F.entry_tuple_ne (by decide +kernel) (by decide +kernel) (F.args_tuple_ne_2 _ _) (by rw [isSubtype_type]; kernel_rfl) (fun A E Q h => by
    have L : Looks (model prog w) s.heap (isInstance (.ref x) (.type "tuple")) false := I.type.andThen (looks_mroIn X hm)
    unfold Builtin.«tuple.__ne__»
    refine wpAny_bind (m := slotArgs "__ne__" 1 _) (wpAny_pure ?_)
    refine wpAny_bind (m := isInstance (.ref x) (.type "tuple")) (L.here ?_)
    exact h) E Q q
theorem dec_dict_eq {a : Addr} {oa : Obj} (X : K.In s.heap) (I : InstAt s.heap x ox C od) (ha : s.heap.get? a = some oa) (hc : oa.cls = .type "dict") (hm : mroIn K C (.type "dict") = some false) (E : Value → Shared → Prop) (Q : Option Value → Shared → Prop) (q : Q none s) : wpAny (model prog w) A (tryCompare (.ref a) (cmpInfo .Eq).2.1 (.ref x)) Q E s :=
  decl_cmp (s := s) (a := .ref a) (B := "dict") (ow := "dict") (n := "__eq__") (show s.TypeIs (.ref a) "dict" from ⟨_, ha, hc⟩) F.slot_dict_eq F.entry_dict_eq (by decide +kernel) (by decide +kernel) (F.args_dict_eq_2 _ _) (by rw [isSubtype_type]; kernel_rfl) (fun A E Q h => by
    have L : Looks (model prog w) s.heap (isInstance (.ref x) (.type "dict")) false := I.type.andThen (looks_mroIn X hm)
    unfold Builtin.«dict.__eq__»
    refine wpAny_bind (m := Builtin.Dict.dictSlotArgs "__eq__" _) (wpAny_pure ?_)
    refine wpAny_bind (m := isInstance (.ref x) (.type "dict")) (L.here ?_)
    exact wpAny_bind (wpAny_rule h)) E Q q
theorem dec_dict_ne {a : Addr} {oa : Obj} (X : K.In s.heap) (I : InstAt s.heap x ox C od) (ha : s.heap.get? a = some oa) (hc : oa.cls = .type "dict") (hm : mroIn K C (.type "dict") = some false) (E : Value → Shared → Prop) (Q : Option Value → Shared → Prop) (q : Q none s) : wpAny (model prog w) A (tryCompare (.ref a) (cmpInfo .NotEq).2.1 (.ref x)) Q E s :=
  decl_cmp (s := s) (a := .ref a) (B := "dict") (ow := "dict") (n := "__ne__") (show s.TypeIs (.ref a) "dict" from ⟨_, ha, hc⟩) F.slot_dict_ne F.entry_dict_ne (by decide +kernel) (by decide +kernel) (F.args_dict_ne_2 _ _) (by rw [isSubtype_type]; kernel_rfl) (fun A E Q h => by
    have L : Looks (model prog w) s.heap (isInstance (.ref x) (.type "dict")) false := I.type.andThen (looks_mroIn X hm)
    unfold Builtin.«dict.__ne__»
    refine wpAny_bind (m := Builtin.Dict.dictSlotArgs "__ne__" _) (wpAny_pure ?_)
    refine wpAny_bind (m := isInstance (.ref x) (.type "dict")) (L.here ?_)
    exact wpAny_bind (wpAny_rule h)) E Q q
theorem dec_non_eq  (I : InstAt s.heap x ox C od) (hd : ox.data = .plain) (E : Value → Shared → Prop) (Q : Option Value → Shared → Prop) (q : Q none s) : wpAny (model prog w) A (tryCompare .none (cmpInfo .Eq).2.1 (.ref x)) Q E s :=
  decl_cmp (s := s) (a := .none) (B := "NoneType") (ow := "NoneType") (n := "__eq__") (show s.TypeIs .none "NoneType" from rfl) F.slot_NoneType_eq F.entry_NoneType_eq (by decide +kernel) (by decide +kernel) (F.args_NoneType_eq_2 _ _) (by rw [isSubtype_type]; kernel_rfl) (fun A E Q h => by
    unfold Builtin.«NoneType.__eq__»
    exact wpAny_bind (m := slotArgs "__eq__" 1 _) (wpAny_pure h)) E Q q
theorem dec_non_ne  (I : InstAt s.heap x ox C od) (hd : ox.data = .plain) (E : Value → Shared → Prop) (Q : Option Value → Shared → Prop) (q : Q none s) : wpAny (model prog w) A (tryCompare .none (cmpInfo .NotEq).2.1 (.ref x)) Q E s :=
  decl_cmp (s := s) (a := .none) (B := "NoneType") (ow := "NoneType") (n := "__ne__") (show s.TypeIs .none "NoneType" from rfl) F.slot_NoneType_ne F.entry_NoneType_ne (by decide +kernel) (by decide +kernel) (F.args_NoneType_ne_2 _ _) (by rw [isSubtype_type]; kernel_rfl) (fun A E Q h => by
    unfold Builtin.«NoneType.__ne__»
    exact wpAny_bind (m := slotArgs "__ne__" 1 _) (wpAny_pure h)) E Q q
theorem dec_bl_eq {b : Bool} (I : InstAt s.heap x ox C od) (hd : ox.data = .plain) (E : Value → Shared → Prop) (Q : Option Value → Shared → Prop) (q : Q none s) : wpAny (model prog w) A (tryCompare (.bool b) (cmpInfo .Eq).2.1 (.ref x)) Q E s :=
  decl_cmp (s := s) (a := (.bool b)) (B := "bool") (ow := "int") (n := "__eq__") (show s.TypeIs (.bool b) "bool" from rfl) F.slot_bool_eq F.entry_int_eq (by decide +kernel) (by decide +kernel) (F.args_int_eq_2 _ _) (by rw [isSubtype_type]; kernel_rfl) (fun A E Q h => by
    unfold Builtin.«int.__eq__»
    refine wpAny_bind (m := slotArgs "__eq__" 1 _) (wpAny_pure ?_)
    refine wpAny_bind (m := Builtin.Int.intOfSelf _) (wpAny_pure ?_)
    refine wpAny_bind (m := asInt? (.ref x)) ?_
    unfold asInt?
    refine wpAny_bind (wpAny_load I.at_ ?_)
    rw [hd]
    refine wpAny_pure ?_
    exact wpAny_bind (wpAny_rule h)) E Q q
theorem dec_bl_ne {b : Bool} (I : InstAt s.heap x ox C od) (hd : ox.data = .plain) (E : Value → Shared → Prop) (Q : Option Value → Shared → Prop) (q : Q none s) : wpAny (model prog w) A (tryCompare (.bool b) (cmpInfo .NotEq).2.1 (.ref x)) Q E s :=
  decl_cmp (s := s) (a := (.bool b)) (B := "bool") (ow := "int") (n := "__ne__") (show s.TypeIs (.bool b) "bool" from rfl) F.slot_bool_ne F.entry_int_ne (by decide +kernel) (by decide +kernel) (F.args_int_ne_2 _ _) (by rw [isSubtype_type]; kernel_rfl) (fun A E Q h => by
    unfold Builtin.«int.__ne__»
    refine wpAny_bind (m := slotArgs "__ne__" 1 _) (wpAny_pure ?_)
    refine wpAny_bind (m := Builtin.Int.intOfSelf _) (wpAny_pure ?_)
    refine wpAny_bind (m := asInt? (.ref x)) ?_
    unfold asInt?
    refine wpAny_bind (wpAny_load I.at_ ?_)
    rw [hd]
    refine wpAny_pure ?_
    exact wpAny_bind (wpAny_rule h)) E Q q
theorem dec_int_eq {i : Int} {t : Tok} (I : InstAt s.heap x ox C od) (hd : ox.data = .plain) (E : Value → Shared → Prop) (Q : Option Value → Shared → Prop) (q : Q none s) : wpAny (model prog w) A (tryCompare (.int i t) (cmpInfo .Eq).2.1 (.ref x)) Q E s :=
  decl_cmp (s := s) (a := (.int i t)) (B := "int") (ow := "int") (n := "__eq__") (show s.TypeIs (.int i t) "int" from (typeIs_int _ _ _)) F.slot_int_eq F.entry_int_eq (by decide +kernel) (by decide +kernel) (F.args_int_eq_2 _ _) (by rw [isSubtype_type]; kernel_rfl) (fun A E Q h => by
    unfold Builtin.«int.__eq__»
    refine wpAny_bind (m := slotArgs "__eq__" 1 _) (wpAny_pure ?_)
    refine wpAny_bind (m := Builtin.Int.intOfSelf _) (wpAny_pure ?_)
    refine wpAny_bind (m := asInt? (.ref x)) ?_
    unfold asInt?
    refine wpAny_bind (wpAny_load I.at_ ?_)
    rw [hd]
    refine wpAny_pure ?_
    exact wpAny_bind (wpAny_rule h)) E Q q
theorem dec_int_ne {i : Int} {t : Tok} (I : InstAt s.heap x ox C od) (hd : ox.data = .plain) (E : Value → Shared → Prop) (Q : Option Value → Shared → Prop) (q : Q none s) : wpAny (model prog w) A (tryCompare (.int i t) (cmpInfo .NotEq).2.1 (.ref x)) Q E s :=
  decl_cmp (s := s) (a := (.int i t)) (B := "int") (ow := "int") (n := "__ne__") (show s.TypeIs (.int i t) "int" from (typeIs_int _ _ _)) F.slot_int_ne F.entry_int_ne (by decide +kernel) (by decide +kernel) (F.args_int_ne_2 _ _) (by rw [isSubtype_type]; kernel_rfl) (fun A E Q h => by
    unfold Builtin.«int.__ne__»
    refine wpAny_bind (m := slotArgs "__ne__" 1 _) (wpAny_pure ?_)
    refine wpAny_bind (m := Builtin.Int.intOfSelf _) (wpAny_pure ?_)
    refine wpAny_bind (m := asInt? (.ref x)) ?_
    unfold asInt?
    refine wpAny_bind (wpAny_load I.at_ ?_)
    rw [hd]
    refine wpAny_pure ?_
    exact wpAny_bind (wpAny_rule h)) E Q q
theorem dec_int_lt {i : Int} {t : Tok} (I : InstAt s.heap x ox C od) (hd : ox.data = .plain) (E : Value → Shared → Prop) (Q : Option Value → Shared → Prop) (q : Q none s) : wpAny (model prog w) A (tryCompare (.int i t) (cmpInfo .Lt).2.1 (.ref x)) Q E s :=
  decl_cmp (s := s) (a := (.int i t)) (B := "int") (ow := "int") (n := "__lt__") (show s.TypeIs (.int i t) "int" from (typeIs_int _ _ _)) F.slot_int_lt F.entry_int_lt (by decide +kernel) (by decide +kernel) (F.args_int_lt_2 _ _) (by rw [isSubtype_type]; kernel_rfl) (fun A E Q h => by
    unfold Builtin.«int.__lt__»
    refine wpAny_bind (m := slotArgs "__lt__" 1 _) (wpAny_pure ?_)
    refine wpAny_bind (m := Builtin.Int.intOfSelf _) (wpAny_pure ?_)
    refine wpAny_bind (m := asInt? (.ref x)) ?_
    unfold asInt?
    refine wpAny_bind (wpAny_load I.at_ ?_)
    rw [hd]
    refine wpAny_pure ?_
    exact wpAny_bind (wpAny_rule h)) E Q q
theorem dec_int_le {i : Int} {t : Tok} (I : InstAt s.heap x ox C od) (hd : ox.data = .plain) (E : Value → Shared → Prop) (Q : Option Value → Shared → Prop) (q : Q none s) : wpAny (model prog w) A (tryCompare (.int i t) (cmpInfo .LtE).2.1 (.ref x)) Q E s :=
  decl_cmp (s := s) (a := (.int i t)) (B := "int") (ow := "int") (n := "__le__") (show s.TypeIs (.int i t) "int" from (typeIs_int _ _ _)) F.slot_int_le F.entry_int_le (by decide +kernel) (by decide +kernel) (F.args_int_le_2 _ _) (by rw [isSubtype_type]; kernel_rfl) (fun A E Q h => by
    unfold Builtin.«int.__le__»
    refine wpAny_bind (m := slotArgs "__le__" 1 _) (wpAny_pure ?_)
    refine wpAny_bind (m := Builtin.Int.intOfSelf _) (wpAny_pure ?_)
    refine wpAny_bind (m := asInt? (.ref x)) ?_
    unfold asInt?
    refine wpAny_bind (wpAny_load I.at_ ?_)
    rw [hd]
    refine wpAny_pure ?_
    exact wpAny_bind (wpAny_rule h)) E Q q
theorem dec_int_gt {i : Int} {t : Tok} (I : InstAt s.heap x ox C od) (hd : ox.data = .plain) (E : Value → Shared → Prop) (Q : Option Value → Shared → Prop) (q : Q none s) : wpAny (model prog w) A (tryCompare (.int i t) (cmpInfo .Gt).2.1 (.ref x)) Q E s :=
  decl_cmp (s := s) (a := (.int i t)) (B := "int") (ow := "int") (n := "__gt__") (show s.TypeIs (.int i t) "int" from (typeIs_int _ _ _)) F.slot_int_gt F.entry_int_gt (by decide +kernel) (by decide +kernel) (F.args_int_gt_2 _ _) (by rw [isSubtype_type]; kernel_rfl) (fun A E Q h => by
    unfold Builtin.«int.__gt__»
    refine wpAny_bind (m := slotArgs "__gt__" 1 _) (wpAny_pure ?_)
    refine wpAny_bind (m := Builtin.Int.intOfSelf _) (wpAny_pure ?_)
    refine wpAny_bind (m := asInt? (.ref x)) ?_
    unfold asInt?
    refine wpAny_bind (wpAny_load I.at_ ?_)
    rw [hd]
    refine wpAny_pure ?_
    exact wpAny_bind (wpAny_rule h)) E Q q
theorem dec_int_ge {i : Int} {t : Tok} (I : InstAt s.heap x ox C od) (hd : ox.data = .plain) (E : Value → Shared → Prop) (Q : Option Value → Shared → Prop) (q : Q none s) : wpAny (model prog w) A (tryCompare (.int i t) (cmpInfo .GtE).2.1 (.ref x)) Q E s :=
  decl_cmp (s := s) (a := (.int i t)) (B := "int") (ow := "int") (n := "__ge__") (show s.TypeIs (.int i t) "int" from (typeIs_int _ _ _)) F.slot_int_ge F.entry_int_ge (by decide +kernel) (by decide +kernel) (F.args_int_ge_2 _ _) (by rw [isSubtype_type]; kernel_rfl) (fun A E Q h => by
    unfold Builtin.«int.__ge__»
    refine wpAny_bind (m := slotArgs "__ge__" 1 _) (wpAny_pure ?_)
    refine wpAny_bind (m := Builtin.Int.intOfSelf _) (wpAny_pure ?_)
    refine wpAny_bind (m := asInt? (.ref x)) ?_
    unfold asInt?
    refine wpAny_bind (wpAny_load I.at_ ?_)
    rw [hd]
    refine wpAny_pure ?_
    exact wpAny_bind (wpAny_rule h)) E Q q
theorem dec_str_eq {z : Str} {t : Tok} (I : InstAt s.heap x ox C od) (hd : ox.data = .plain) (E : Value → Shared → Prop) (Q : Option Value → Shared → Prop) (q : Q none s) : wpAny (model prog w) A (tryCompare (.str z t) (cmpInfo .Eq).2.1 (.ref x)) Q E s :=
  decl_cmp (s := s) (a := (.str z t)) (B := "str") (ow := "str") (n := "__eq__") (show s.TypeIs (.str z t) "str" from (typeIs_str _ _ _)) F.slot_str_eq F.entry_str_eq (by decide +kernel) (by decide +kernel) (F.args_str_eq_2 _ _) (by rw [isSubtype_type]; kernel_rfl) (fun A E Q h => by
    unfold Builtin.«str.__eq__»
    refine wpAny_bind (m := Builtin.Str.strSlot "__eq__" 1 _) (wpAny_pure ?_)
    refine wpAny_bind (m := asStr? (.ref x)) ?_
    unfold asStr?
    refine wpAny_bind (wpAny_load I.at_ ?_)
    rw [hd]
    refine wpAny_pure ?_
    exact wpAny_bind (wpAny_rule h)) E Q q
theorem dec_str_ne {z : Str} {t : Tok} (I : InstAt s.heap x ox C od) (hd : ox.data = .plain) (E : Value → Shared → Prop) (Q : Option Value → Shared → Prop) (q : Q none s) : wpAny (model prog w) A (tryCompare (.str z t) (cmpInfo .NotEq).2.1 (.ref x)) Q E s :=
  decl_cmp (s := s) (a := (.str z t)) (B := "str") (ow := "str") (n := "__ne__") (show s.TypeIs (.str z t) "str" from (typeIs_str _ _ _)) F.slot_str_ne F.entry_str_ne (by decide +kernel) (by decide +kernel) (F.args_str_ne_2 _ _) (by rw [isSubtype_type]; kernel_rfl) (fun A E Q h => by
    unfold Builtin.«str.__ne__»
    refine wpAny_bind (m := Builtin.Str.strSlot "__ne__" 1 _) (wpAny_pure ?_)
    refine wpAny_bind (m := asStr? (.ref x)) ?_
    unfold asStr?
    refine wpAny_bind (wpAny_load I.at_ ?_)
    rw [hd]
    refine wpAny_pure ?_
    exact wpAny_bind (wpAny_rule h)) E Q q
end
end PySem.W
/-! EM41: comparisons of an instance with anything, on either side. -/
namespace EM
open PySem PySem.Spec PyProof.Rows L2
/-- values of Python's own kinds -/
inductive DecT (H : Hp) : V → String → Prop
  | int (i : Int) : DecT H (.int i) "int"
  | non : DecT H .non "NoneType"
  | bl (b : Bool) : DecT H (.bl b) "bool"
  | str (z : Str) : DecT H (.str z) "str"
  | tup {a : Addr} {xs : List V} (h : H a = some (.tup xs)) : DecT H (.ref a) "tuple"
  | lst {a : Addr} {xs : List V} (h : H a = some (.lst xs)) : DecT H (.ref a) "list"
  | dct {a : Addr} {kv : List (Key × V)} (h : H a = some (.dK kv)) : DecT H (.ref a) "dict"
/-- a class that is below none of Python's own kinds, and none of these below it -/
structure Apart (K : PySem.W.Frag) (C : Addr) : Prop where
  dn : ∀ T ∈ ["int", "NoneType", "bool", "str", "tuple", "list", "dict"], PySem.W.subIn K (.ref C) (.type T) = some false
  up : ∀ T ∈ ["int", "NoneType", "bool", "str", "tuple", "list", "dict"], PySem.W.subIn K (.type T) (.ref C) = some false
theorem apartB_ok {K : PySem.W.Frag} {C : Addr} (h : apartB K C = true) : Apart K C := by
  have q := List.all_eq_true.mp h
  exact ⟨fun T hT => of_decide_eq_true (Bool.and_eq_true_iff.mp (q T hT)).1, fun T hT => of_decide_eq_true (Bool.and_eq_true_iff.mp (q T hT)).2⟩
theorem DecT.mem {H : Hp} {v : V} {T : String} (d : DecT H v T) : T ∈ ["int", "NoneType", "bool", "str", "tuple", "list", "dict"] := by
  cases d <;> simp
section
variable {X : Cx} {CX : CXT} {n : Nat} {g C : Addr} {sp : Sp} {E : XK} {pins : List (Addr × Obj)} {σ : L2.St} {H : Hp} {s : Shared}
theorem DecT.is {v : V} {u : Value} {T : String} (I : Inv X pins σ H s) (r : RelV v u) (d : DecT H v T) : s.TypeIs u T := by
  cases d with
  | int i =>
    obtain ⟨t, rfl⟩ := r
    exact typeIs_int _ _ _
  | non =>
    cases (show u = Value.none from r)
    exact rfl
  | bl b =>
    cases (show u = Value.bool b from r)
    exact rfl
  | str z =>
    obtain ⟨t, rfl⟩ := r
    exact typeIs_str _ _ _
  | tup h =>
    cases (show u = Value.ref _ from r)
    obtain ⟨its, rv, ⟨o, e, c, _⟩, hz⟩ := I.tuple (SqT.of h)
    exact ⟨o, e, c⟩
  | lst h =>
    cases (show u = Value.ref _ from r)
    obtain ⟨z, its, k, r, e⟩ := I.hok _ _ h
    exact ⟨_, e, rfl⟩
  | @dct a kv h =>
    cases (show u = Value.ref _ from r)
    obtain ⟨_, _, vs, _, o, es, ep, h1, h2, _⟩ := (show ObjOk X.prog X.w H s.heap a (.dK kv) from I.hok a _ h)
    exact ⟨o, h1, h2.1⟩
theorem DecT.one {v : V} {u : Value} {T : String} (op : CmpOp) (a : Addr) (I : Inv X pins σ H s) (r : RelV v u) (d : DecT H v T) : oneThing? op u (.ref a) = none := (d.is I r).oneThing_none op _
/-- the builtin == and != decline -/
theorem DecT.eq {v : V} {u : Value} {T : String} {x : Addr} {ox : Obj} {od : Option Obj} (I : Inv X pins σ H s) (r : RelV v u) (d : DecT H v T) (A : Apart X.K C) (J : PySem.W.InstAt s.heap x ox C od) (hd : ox.data = .plain) (A' : Around) (E : Value → Shared → Prop) (Q : Option Value → Shared → Prop) (q : Q none s) :
    wpAny (model X.prog X.w) A' (tryCompare u (cmpInfo .Eq).2.1 (.ref x)) Q E s := by
  have XK := I.kIn
  cases d with
  | int i =>
    obtain ⟨t, rfl⟩ := r
    exact PySem.W.dec_int_eq J hd E Q q
  | non =>
    cases (show u = Value.none from r)
    exact PySem.W.dec_non_eq J hd E Q q
  | bl b =>
    cases (show u = Value.bool b from r)
    exact PySem.W.dec_bl_eq J hd E Q q
  | str z =>
    obtain ⟨t, rfl⟩ := r
    exact PySem.W.dec_str_eq J hd E Q q
  | tup h =>
    cases (show u = Value.ref _ from r)
    obtain ⟨o, e, c⟩ := (show ∃ o, s.heap.get? _ = some o ∧ o.cls = Value.type "tuple" from (DecT.tup h).is I r)
    exact PySem.W.dec_tuple_eq XK J e c (A.dn _ (by decide)) E Q q
  | lst h =>
    cases (show u = Value.ref _ from r)
    obtain ⟨o, e, c⟩ := (show ∃ o, s.heap.get? _ = some o ∧ o.cls = Value.type "list" from (DecT.lst h).is I r)
    exact PySem.W.dec_list_eq XK J e c (A.dn _ (by decide)) E Q q
  | dct h =>
    cases (show u = Value.ref _ from r)
    obtain ⟨o, e, c⟩ := (show ∃ o, s.heap.get? _ = some o ∧ o.cls = Value.type "dict" from (DecT.dct h).is I r)
    exact PySem.W.dec_dict_eq XK J e c (A.dn _ (by decide)) E Q q
theorem DecT.ne {v : V} {u : Value} {T : String} {x : Addr} {ox : Obj} {od : Option Obj} (I : Inv X pins σ H s) (r : RelV v u) (d : DecT H v T) (A : Apart X.K C) (J : PySem.W.InstAt s.heap x ox C od) (hd : ox.data = .plain) (A' : Around) (E : Value → Shared → Prop) (Q : Option Value → Shared → Prop) (q : Q none s) :
    wpAny (model X.prog X.w) A' (tryCompare u (cmpInfo .NotEq).2.1 (.ref x)) Q E s := by
  have XK := I.kIn
  cases d with
  | int i =>
    obtain ⟨t, rfl⟩ := r
    exact PySem.W.dec_int_ne J hd E Q q
  | non =>
    cases (show u = Value.none from r)
    exact PySem.W.dec_non_ne J hd E Q q
  | bl b =>
    cases (show u = Value.bool b from r)
    exact PySem.W.dec_bl_ne J hd E Q q
  | str z =>
    obtain ⟨t, rfl⟩ := r
    exact PySem.W.dec_str_ne J hd E Q q
  | tup h =>
    cases (show u = Value.ref _ from r)
    obtain ⟨o, e, c⟩ := (show ∃ o, s.heap.get? _ = some o ∧ o.cls = Value.type "tuple" from (DecT.tup h).is I r)
    exact PySem.W.dec_tuple_ne XK J e c (A.dn _ (by decide)) E Q q
  | lst h =>
    cases (show u = Value.ref _ from r)
    obtain ⟨o, e, c⟩ := (show ∃ o, s.heap.get? _ = some o ∧ o.cls = Value.type "list" from (DecT.lst h).is I r)
    exact PySem.W.dec_list_ne XK J e c (A.dn _ (by decide)) E Q q
  | dct h =>
    cases (show u = Value.ref _ from r)
    obtain ⟨o, e, c⟩ := (show ∃ o, s.heap.get? _ = some o ∧ o.cls = Value.type "dict" from (DecT.dct h).is I r)
    exact PySem.W.dec_dict_ne XK J e c (A.dn _ (by decide)) E Q q
/-- x op y: an instance on the left, on the right one of its class or a value of Python's own kinds -/
def rCmpL (C : Addr) (sp : Sp) (E : XK) : R2 := fun x y H Q => ∃ a dx fs, x = .ref a ∧ H a = some (.ins C dx fs) ∧ ((∃ b dy gs, y = .ref b ∧ H b = some (.ins C dy gs)) ∨ ∃ T, DecT H y T) ∧ sp [.ref a, y] H Q E
/-- y op x: a value of Python's own kinds on the left, an instance on the right -/
def rCmpR (P : V → Prop) (C : Addr) (sp : Sp) (E : XK) : R2 := fun y x H Q => ∃ a dx fs, x = .ref a ∧ H a = some (.ins C dx fs) ∧ (∃ T, DecT H y T) ∧ P y ∧ sp [.ref a, y] H Q E
theorem notFirst_of {K : PySem.W.Frag} {t : Value} (h : PySem.W.subIn K t (.ref C) = some false) : PySem.W.notFirst K C t = true := by
  unfold PySem.W.notFirst
  rw [h]
  simp
theorem tyLooks {v : V} {u : Value} {T : String} (I : Inv X pins σ H s) (r : RelV v u) (d : DecT H v T) : PySem.W.Looks (model X.prog X.w) s.heap (typeOf u) (.type T) := by
  have q := d.is I r
  intro A Q E s' k hq
  exact wpAny_typeOf (PySem.W.typeIs_keep q k) hq
theorem op_cmpL {op : CmpOp} (hop : ∀ a b, compareOp op a b = richCompare op a b) (hs : PySem.W.findIn X.K (.ref C) (cmpInfo op).2.1 = some (some (.ref g))) (hf : PySem.W.isFn X.K (.ref g) = true) (A : Apart X.K C) (F : FnR X.prog X.w X.K X.mg X.base CX n g sp)
    (hr : Room n X.A) (hx : Passes CX X E) : OpR X (compareOp op) (rCmpL C sp E) := by
  intro pins s σ H x y v u Q I rx ry h
  obtain ⟨a, dx, fs, rfl, ha, hy, q⟩ := h
  cases (show v = Value.ref a from rx)
  obtain ⟨ox, od, J, _⟩ := ins_at I ha
  obtain ⟨m, hF⟩ := I.fr
  have run : wpAny (model X.prog X.w) X.A (call (.ref g) [.ref a, u]) (PySem.W.CmpBack (EP X pins σ Q)) X.xe s :=
    wpAny_mono (wpAny_call (run_fnR (us := [.ref a, u]) (vs := [.ref a, y]) F hr hx I (.cons rfl (.cons ry .nil)) q)) (fun w s2 z => by
      obtain ⟨z', H', I', rz, qz⟩ := z
      exact SlX.cmpback rz ⟨z', H', I', rz, qz⟩) fun _ _ x => x
  rw [hop]
  rcases hy with ⟨b, dy, gs, rfl, hb⟩ | ⟨T, hd⟩
  · cases (show u = Value.ref b from ry)
    obtain ⟨oy, od', J', _⟩ := ins_at I hb
    exact PySem.W.cmp_K (op := op) (tb := .ref C) hr.units0 hF I.ok.mod.kin J J'.type notFirst_self hs hf run
  · exact PySem.W.cmp_K (op := op) (tb := .type T) hr.units0 hF I.ok.mod.kin J (tyLooks I ry hd) (notFirst_of (A.up _ hd.mem)) hs hf run
theorem op_cmpR {op : CmpOp} {P : V → Prop} (hop : ∀ a b, compareOp op a b = richCompare op a b) (hs : PySem.W.findIn X.K (.ref C) (cmpInfo op).2.2 = some (some (.ref g))) (hf : PySem.W.isFn X.K (.ref g) = true) (A : Apart X.K C)
    (hd : ∀ {pins : List (Addr × Obj)} {σ : L2.St} {H : Hp} {s : Shared} {v : V} {u : Value} {T : String} {x : Addr} {ox : Obj} {od : Option Obj}, Inv X pins σ H s → RelV v u → DecT H v T → P v → PySem.W.InstAt s.heap x ox C od → ox.data = .plain → ∀ (A' : Around) (E : Value → Shared → Prop) (Q : Option Value → Shared → Prop), Q none s →
      wpAny (model X.prog X.w) A' (tryCompare u (cmpInfo op).2.1 (.ref x)) Q E s)
    (F : FnR X.prog X.w X.K X.mg X.base CX n g sp) (hr : Room n X.A) (hx : Passes CX X E) : OpR X (compareOp op) (rCmpR P C sp E) := by
  intro pins s σ H y x u v Q I ry rx h
  obtain ⟨a, dx, fs, rfl, ha, ⟨T, d⟩, hp, q⟩ := h
  cases (show v = Value.ref a from rx)
  obtain ⟨ox, od, J, pl⟩ := ins_at I ha
  obtain ⟨m, hF⟩ := I.fr
  have run : wpAny (model X.prog X.w) X.A (call (.ref g) [.ref a, u]) (PySem.W.CmpBack (EP X pins σ Q)) X.xe s :=
    wpAny_mono (wpAny_call (run_fnR (us := [.ref a, u]) (vs := [.ref a, y]) F hr hx I (.cons rfl (.cons ry .nil)) q)) (fun w s2 z => by
      obtain ⟨z', H', I', rz, qz⟩ := z
      exact SlX.cmpback rz ⟨z', H', I', rz, qz⟩) fun _ _ x => x
  rw [hop]
  exact PySem.W.em_cmpR hr.units0 hF I.ok.mod.kin J (d.is I ry) (d.one op a I ry) (A.dn _ d.mem) (fun E Q' q' => hd I ry d hp J pl _ E Q' q') (PySem.W.em_back hF I.ok.mod.kin J hs hf run)
theorem op_eqR (hs : PySem.W.findIn X.K (.ref C) "__eq__" = some (some (.ref g))) (hf : PySem.W.isFn X.K (.ref g) = true) (A : Apart X.K C) (F : FnR X.prog X.w X.K X.mg X.base CX n g sp) (hr : Room n X.A) (hx : Passes CX X E) : OpR X (compareOp .Eq) (rCmpR (fun _ => True) C sp E) :=
  op_cmpR (op := .Eq) (fun _ _ => rfl) hs hf A (fun I r d _ J pl A' E Q q => d.eq I r A J pl A' E Q q) F hr hx
theorem op_ltR {op : CmpOp} (hop : op = .Lt ∨ op = .LtE ∨ op = .Gt ∨ op = .GtE) (hs : PySem.W.findIn X.K (.ref C) (cmpInfo op).2.2 = some (some (.ref g))) (hf : PySem.W.isFn X.K (.ref g) = true) (A : Apart X.K C) (F : FnR X.prog X.w X.K X.mg X.base CX n g sp) (hr : Room n X.A) (hx : Passes CX X E) : OpR X (compareOp op) (rCmpR (fun v => ∃ i, v = .int i) C sp E) := by
  refine op_cmpR (op := op) (by rcases hop with rfl | rfl | rfl | rfl <;> exact fun _ _ => rfl) hs hf A (fun I r d hp J pl A' E Q q => ?_) F hr hx
  obtain ⟨i, rfl⟩ := hp
  obtain ⟨t, rfl⟩ := r
  rcases hop with rfl | rfl | rfl | rfl
  · exact PySem.W.dec_int_lt J pl E Q q
  · exact PySem.W.dec_int_le J pl E Q q
  · exact PySem.W.dec_int_gt J pl E Q q
  · exact PySem.W.dec_int_ge J pl E Q q
end
end EM
/-! EM42: behind an append: stepping; merging behind three statements. -/
namespace EM
open PySem PySem.Spec PyProof.Rows L2
section
variable {T : List (Addr × Str)} {p l0 l b : Addr} {n : Nat} {H H1 H' : Hp} {o o2 : HO} {xs ys : List V}
theorem nel2 (h : H b = none) (B : Bs T p l0 n H) : b ≠ l0 := B.nel h
theorem gMu {R : Hp → Prop} (h : ∀ H', Mu l H H' o → R H') : ∀ H', Mu l H H' o → R H' := h
theorem mu_bs {R : Hp → Prop} (B : Bs T p l0 n H) (g : At p H l (.lst xs)) (nl : l ≠ l0) (k : ∀ H', Mu l H H' (.lst ys) → Bs T p l0 n H' → R H') : ∀ H', Mu l H H' (.lst ys) → R H' :=
  fun H' m => k H' m (m.bs B g nl)
/-- what stood ahead of a new list stays behind an append to it -/
theorem Ext.mu {p : Addr} {H0 Hn H1 H2 : Hp} (x : Ext p H0 Hn) (hn : Hn l = none) (y : Ext p Hn H1) (m : Mu l H1 H2 o) : Ext p H0 H2 := ⟨fun b ob e nb nt => by
  have h1 := x.k b ob e nb nt
  have h2 := y.k b ob h1 nb nt
  have nl : b ≠ l := fun z => by rw [z, hn] at h1; cases h1
  rw [m.old b nl]
  exact h2⟩
/-- (kept out of the way of the stepping words) -/
structure XtM (p : Addr) (H H' : Hp) : Prop where
  x : Ext p H H'
theorem nn1 (h : H l = none) (g : At p H b o) : b ≠ l := ne_of_none g.at_ h
theorem nn2 (h : H b = none) (g : At p H l o) : b ≠ l := fun z => (ne_of_none g.at_ h) z.symm
theorem gAt (h : At p H b o) : At p H b o := h
theorem gRat {K : PySem.W.Frag} {t c : Int} (h : RatP K p H b t c) : RatP K p H b t c := h
theorem gNum {K : PySem.W.Frag} {v : V} {t c : Int} (h : NumP K p H v t c) : NumP K p H v t c := h
end
end EM
/-! EM43: the order of numbers: own comparisons of Ratios, with an int on either side, told in one word. -/
namespace EM
open PySem PySem.Spec PyProof.Rows L2
/-- what a comparison of two ints tells -/
def relB : CmpOp → Int → Int → Bool
  | .Lt, x, y => decide (x < y)
  | .LtE, x, y => decide (x ≤ y)
  | .Gt, x, y => decide (y < x)
  | .GtE, x, y => decide (y ≤ x)
  | .Eq, x, y => decide (V.int x = V.int y)
  | .NotEq, x, y => !decide (V.int x = V.int y)
  | _, _, _ => false
theorem relB_of {op : CmpOp} {x y x' y' : Int} (h : x' < y' ↔ x < y) (g : y' < x' ↔ y < x) : relB op x' y' = relB op x y := by
  have e : x' = y' ↔ x = y := by omega
  have h2 : x' ≤ y' ↔ x ≤ y := by omega
  have g2 : y' ≤ x' ↔ y ≤ x := by omega
  cases op <;> simp only [relB, dVi] <;> first | rfl | (simp [e]; done) | (simp [h, g]; done) | (simp [h2, g2]; done)
/-- the sign of a fraction is that of its top -/
theorem top_sign {z d : Int} (h : 0 < d) : (nTop z d < 0 ↔ z < 0) ∧ (0 < nTop z d ↔ 0 < z) := by
  have e := n_cross (t := z) (b := d)
  have p := (n_low (t := z) (by omega : d ≠ 0)).pos
  generalize nTop z d = x at *
  generalize nBot z d = y at *
  constructor
  · constructor
    · intro hx
      have : x * d < 0 := Int.mul_neg_of_neg_of_pos hx h
      rw [e] at this
      apply Classical.byContradiction
      intro q
      have := Int.mul_nonneg (by omega : 0 ≤ z) (by omega : 0 ≤ y)
      omega
    · intro hz
      have : z * y < 0 := Int.mul_neg_of_neg_of_pos hz p
      rw [← e] at this
      apply Classical.byContradiction
      intro q
      have := Int.mul_nonneg (by omega : 0 ≤ x) (by omega : 0 ≤ d)
      omega
  · constructor
    · intro hx
      have : 0 < x * d := Int.mul_pos hx h
      rw [e] at this
      apply Classical.byContradiction
      intro q
      have : z * y ≤ 0 := Int.mul_nonpos_of_nonpos_of_nonneg (by omega) (by omega)
      omega
    · intro hz
      have : 0 < z * y := Int.mul_pos hz p
      rw [← e] at this
      apply Classical.byContradiction
      intro q
      have : x * d ≤ 0 := Int.mul_nonpos_of_nonpos_of_nonneg (by omega) (by omega)
      omega
/-- two fractions told otherwise are compared alike -/
theorem cross_lt {t b u c T B U C : Int} (b0 : 0 < b) (c0 : 0 < c) (B0 : 0 < B) (C0 : 0 < C) (e1 : t * B = T * b) (e2 : u * C = U * c) : t * c < u * b ↔ T * C < U * B := by
  have p1 : t * c * (B * C) = T * C * (b * c) := by
    calc t * c * (B * C) = (t * B) * (c * C) := by ac_rfl
      _ = T * b * (c * C) := by rw [e1]
      _ = T * C * (b * c) := by ac_rfl
  have p2 : u * b * (B * C) = U * B * (b * c) := by
    calc u * b * (B * C) = (u * C) * (b * B) := by ac_rfl
      _ = U * c * (b * B) := by rw [e2]
      _ = U * B * (b * c) := by ac_rfl
  have q1 : 0 < B * C := Int.mul_pos B0 C0
  have q2 : 0 < b * c := Int.mul_pos b0 c0
  constructor
  · intro h
    have := Int.mul_lt_mul_of_pos_right h q1
    rw [p1, p2] at this
    exact Int.lt_of_mul_lt_mul_right this (by omega)
  · intro h
    have := Int.mul_lt_mul_of_pos_right h q2
    rw [← p1, ← p2] at this
    exact Int.lt_of_mul_lt_mul_right this (by omega)
/-! ### own comparisons -/
def relZ : CmpOp → Int → Bool := fun op z => relB op z 0
theorem rel_top {op : CmpOp} {z d : Int} (h : 0 < d) : relB op (nTop z d) 0 = relB op z 0 := by
  have := top_sign (z := z) h
  exact relB_of this.1 this.2
theorem rel_sub {op : CmpOp} {x y : Int} : relB op (x - y) 0 = relB op x y := relB_of (by omega) (by omega)
def flip : CmpOp → CmpOp
  | .Lt => .Gt | .LtE => .GtE | .Gt => .Lt | .GtE => .LtE | x => x
theorem rel_flip {op : CmpOp} {x y : Int} : relB (flip op) y x = relB op x y := by
  cases op <;> simp only [flip, relB, dVi] <;> first | rfl | (rw [Bool.beq_comm]) | (congr 1; rw [Bool.beq_comm]) | skip
  all_goals simp [eq_comm]
theorem rel_val {op : CmpOp} {t b u c : Int} (lo : Low t b) (lo2 : Low u c) : relZ op (nTop (t * c + -u * b) (b * c)) = relB op (t * c) (u * b) := by
  unfold relZ
  rw [rel_top (Int.mul_pos lo.pos lo2.pos), Int.neg_mul, ← Int.sub_eq_add_neg, rel_sub]
end EM
/-! EM44: a pick among ints. -/
namespace EM
open PySem PySem.Spec PyProof.Rows L2
inductive AllI : List V → List Int → Prop
  | nil : AllI [] []
  | cons {xs : List V} {ns : List Int} (i : Int) (h : AllI xs ns) : AllI (.int i :: xs) (i :: ns)
theorem AllI.map {xs : List V} {ns : List Int} (h : AllI xs ns) : xs = ns.map V.int := by
  induction h with
  | nil => rfl
  | cons i h ih => rw [ih]; rfl
section
variable {T : List (Addr × Str)} {p l q a : Addr} {n m : Nat} {H H1 H2 H' : Hp}
theorem pick_int {Q : VK} {E : XK} {xs : List V} {ns : List Int} (B : Bs T p l n H) (h1 : n ≤ 1000000) (ha : At p H a (.lst xs)) (hi : AllI xs ns) (h2 : 1 ≤ xs.length) (h3 : xs.length ≤ 1000000)
    (k : ∀ i H', i ∈ ns → Ext p H H' → Bs T p l (n + 1) H' → Q (.int i) H') : Sw spPick [.ref p, .ref a] H Q E :=
  pick_bs B h1 ha h2 h3 fun v H' hv x1 B1 => by
    rw [hi.map] at hv
    obtain ⟨i, hm, rfl⟩ := List.mem_map.mp hv
    exact k i H' hm x1 B1
end
end EM
namespace EM
open PySem PySem.Spec PyProof.Rows L2
/-! ### texts that are the same; if on them -/
structure EqS (x y : V) (H : Hp) (Q : VK) : Prop where
  h : ∃ z, x = .str z ∧ y = .str z ∧ Q (.bl true) H
structure NeS (x y : V) (H : Hp) (Q : VK) : Prop where
  h : ∃ z, x = .str z ∧ y = .str z ∧ Q (.bl false) H
theorem EqS.mk' {H : Hp} {Q : VK} {z : Str} (q : Q (.bl true) H) : EqS (.str z) (.str z) H Q := ⟨z, rfl, rfl, q⟩
theorem NeS.mk' {H : Hp} {Q : VK} {z : Str} (q : Q (.bl false) H) : NeS (.str z) (.str z) H Q := ⟨z, rfl, rfl, q⟩
theorem op_eqS {X : Cx} : OpR X (compareOp .Eq) EqS := opR_of op_eq fun x y H Q ⟨z, e1, e2, q⟩ => by
  subst e1 e2
  exact ⟨rfl, by rw [decide_eq_true rfl]; exact q⟩
theorem op_neS {X : Cx} : OpR X (compareOp .NotEq) NeS := opR_of op_ne fun x y H Q ⟨z, e1, e2, q⟩ => by
  subst e1 e2
  exact ⟨rfl, by rw [decide_eq_true rfl]; exact q⟩
/-! ### a sum or product of two numbers, either may be an int -/
end EM
/-! EM45: loops and comprehensions at which the stepping words stop. -/
namespace EM
open PySem PySem.Spec PyProof.Rows L2
/-- a loop at which the stepping words stop -/
structure FoS (J : It) (g : TG) (tb : TS) (D : Ends) (σ : L2.St) (H1 : Hp) : Prop where
  h : ∃ W : Nat → Nat → L2.St → Hp → Prop, (∃ m, W 0 m σ H1) ∧ ∀ i m σ H, W i m σ H →
    (J.stop i H ∧ D.nx σ H) ∨ (J.go i H ∧ ∃ N : L2.St → Hp → Prop, (∀ σ' H', N σ' H' → ∃ m', m' < m ∧ W (i + 1) m' σ' H') ∧ ∀ x H', J.yld i H x H' → g x σ H' fun σ2 H2 => tb { D with nx := N, ct := N, bk := D.nx } σ2 H2)
/-- a comprehension at which the stepping words stop -/
structure LcS (J : It) (g : TG) (tt : TT) (te : TE) (vs : List Nat) (σ : L2.St) (H1 : Hp) (Q : VK) : Prop where
  h : ∀ D, H1 D = none → ∃ W : Nat → Nat → Hp → Prop, (∃ m, W 0 m (upd H1 D (.lst []))) ∧ ∀ i m H, W i m H →
    (J.stop i H ∧ Q (.ref D) H) ∨ (J.go i H ∧ ∃ Nx : Hp → Prop, (∀ H', Nx H' → ∃ m', m' < m ∧ W (i + 1) m' H') ∧ ∀ x H', J.yld i H x H' → g x (wipe σ vs) H' fun σ2 H2 => wipe σ2 vs = wipe σ vs ∧ tt σ2 H2 fun b H3 =>
      if b = true then te σ2 H3 fun y H4 => ∃ acc, H4 D = some (.lst acc) ∧ acc.length < sizeLine ∧ Nx (upd H4 D (.lst (acc ++ [y]))) else Nx H3)
theorem _root_.L2.PS.of {X : Cx} {st : Stmt} {t t' : TS} (h : PS X st t) (w : ∀ D σ H, t' D σ H → t D σ H) : PS X st t' := ⟨fun pins s σ H D I q => h.run pins s σ H D I (w D σ H q)⟩
def tForN (wi : TI) (g : TG) (tb : TS) : TS := fun D σ H => wi σ H fun J H1 => FoS J g tb D σ H1
def tLcN (wi : TI) (g : TG) (tt : TT) (te : TE) (vs : List Nat) : TE := fun σ H Q => wi σ H fun J H1 => LcS J g tt te vs σ H1 Q
def mcI (wi : TI) : TI := fun σ H R => ∃ R' : It → Hp → Prop, wi σ H R' ∧ ∀ J H1, R' J H1 → R J H1
section
variable {X : Cx}
theorem _root_.L2.PI.mc {tg iter : Expr} {wi : TI} (h : PI X tg iter wi) : PI X tg iter (mcI wi) := by
  refine ⟨fun pins s σ H R I hq => ?_⟩
  obtain ⟨R', hR, k⟩ := hq
  refine thn (h.run pins s σ H R' I hR) fun u s1 z => thn z fun v s2 z2 => ?_
  obtain ⟨it, fp, tn, J, H2, e, I2, T, st2, f2, q⟩ := z2
  exact ⟨it, fp, tn, J, H2, e, I2, T, st2, f2, k _ _ q⟩
theorem forN {st : Stmt} {wi : TI} {g : TG} {tb : TS} (h : PS X st (tFor (mcI wi) g tb)) : PS X st (tForN wi g tb) := h.of fun D σ H q => ⟨_, q, fun J H1 z => z.h⟩
theorem lcN {e : Expr} {wi : TI} {g : TG} {tt : TT} {te : TE} {vs : List Nat} (h : PE X e (tLc (mcI wi) g tt te vs)) : PE X e (tLcN wi g tt te vs) := h.of fun σ H Q q => ⟨_, q, fun J H1 z => z.h⟩
theorem setLcN {st : Stmt} {wi : TI} {g g2 : TG} {tt : TT} {te : TE} {vs : List Nat} (h : PS X st (tAsg (tLc (mcI wi) g tt te vs) g2)) : PS X st (tAsg (tLcN wi g tt te vs) g2) := h.of fun D σ H q => ⟨_, q, fun J H1 z => z.h⟩
end
end EM
namespace EM
open PySem PySem.Spec PyProof.Rows L2
theorem move_lt {t b u c s f : Int} (hf : 0 < f) : (t * f + s * b) * (c * f) < (u * f + s * c) * (b * f) ↔ t * c < u * b := by
  have e1 : (t * f + s * b) * (c * f) = (t * c) * (f * f) + s * b * c * f := by
    rw [Int.add_mul]
    congr 1 <;> ac_rfl
  have e2 : (u * f + s * c) * (b * f) = (u * b) * (f * f) + s * b * c * f := by
    rw [Int.add_mul]
    congr 1 <;> ac_rfl
  have q : 0 < f * f := Int.mul_pos hf hf
  rw [e1, e2]
  constructor
  · intro h
    exact Int.lt_of_mul_lt_mul_right (show t * c * (f * f) < u * b * (f * f) by omega) (by omega)
  · intro h
    have := Int.mul_lt_mul_of_pos_right h q
    omega
theorem times_lt {t b u c m k : Int} (hm : 0 < m) (hk : 0 < k) : (t * m) * (c * k) < (u * m) * (b * k) ↔ t * c < u * b := by
  have e1 : (t * m) * (c * k) = (t * c) * (m * k) := by ac_rfl
  have e2 : (u * m) * (b * k) = (u * b) * (m * k) := by ac_rfl
  have q : 0 < m * k := Int.mul_pos hm hk
  rw [e1, e2]
  exact ⟨fun h => Int.lt_of_mul_lt_mul_right h (by omega), fun h => Int.mul_lt_mul_of_pos_right h q⟩
end EM
/-! EM46: comprehensions in one word. -/
namespace EM
open PySem PySem.Spec PyProof.Rows L2
/-- a comprehension: each turn draws at most c times; f tells of the values, in the heap as it then is -/
theorem lc_scH {T : List (Addr × Str)} {p l : Addr} {m : Nat} (c : Nat) {J : It} {n : Nat} {G : Hp → Prop} {Y : Nat → Hp → V → Hp → Prop} (w : Walk J n G Y) {g : TG} {tt : TT} {te : TE} {vs : List Nat} {σ : L2.St} {H1 : Hp} {D : Addr} {Q : VK} (hD : H1 D = none)
    (B : Bs T p l m H1) (f : Nat → V → Hp → Prop) (fx : ∀ i y H H', f i y H → Ext p H H' → f i y H') (fm : ∀ i y D xs ys H H', f i y H → Mu D H H' (.lst ys) → At p H D (.lst xs) → f i y H') (hn : n ≤ 100000) (hG : ∀ H, Ext p H1 H → G H)
    (hs : ∀ i x H H', i < n → Ext p H1 H → Bs T p l (m + c * i) H → Y i H x H' → g x (wipe σ vs) H' fun σ2 H2 => wipe σ2 vs = wipe σ vs ∧ tt σ2 H2 fun b H3 => b = true ∧ te σ2 H3 fun y H4 => Ext p H H4 ∧ Bs T p l (m + c * (i + 1)) H4 ∧ f i y H4)
    (mg : ∀ x σ H (R R' : L2.St → Hp → Prop), (∀ σ H, R σ H → R' σ H) → g x σ H R → g x σ H R') (mt : ∀ σ H (R R' : Bool → Hp → Prop), (∀ b H, R b H → R' b H) → tt σ H R → tt σ H R')
    (hd : ∀ ys H', ys.length = n → (∀ i y, ys[i]? = some y → f i y H') → Ext p H1 H' → Bs T p l (m + c * n) H' → At p H' D (.lst ys) → Q (.ref D) H') :
    ∃ W : Nat → Nat → Hp → Prop, (∃ m, W 0 m (upd H1 D (.lst []))) ∧ ∀ i m H, W i m H →
      (J.stop i H ∧ Q (.ref D) H) ∨ (J.go i H ∧ ∃ Nx : Hp → Prop, (∀ H', Nx H' → ∃ m', m' < m ∧ W (i + 1) m' H') ∧ ∀ x H', J.yld i H x H' → g x (wipe σ vs) H' fun σ2 H2 => wipe σ2 vs = wipe σ vs ∧ tt σ2 H2 fun b H3 =>
        if b = true then mcE te σ2 H3 fun y H4 => ∃ acc, H4 D = some (.lst acc) ∧ acc.length < sizeLine ∧ Nx (upd H4 D (.lst (acc ++ [y]))) else Nx H3) := by
  have nDp := B.ne hD
  have nDl := B.nel hD
  refine lc_it w (fun i H => ∃ acc, At p H D (.lst acc) ∧ acc.length = i ∧ (∀ j y, acc[j]? = some y → f j y H) ∧ Ext p H1 H ∧ Bs T p l (m + c * i) H) ⟨[], ⟨upd_same, nDp, fun _ z => by cases z⟩, rfl, fun j y z => by simp at z, Ext.same (same_upd hD), B.same (same_upd hD)⟩ (fun i H hi ⟨acc, _, _, _, x, _⟩ => hG H x) ?_ ?_
  · rintro i x H H' hi ⟨acc, hA, hl, hf, x1, B1⟩ y
    refine mg _ _ _ _ _ (fun σ2 H2 h => ⟨h.1, mt _ _ _ _ (fun b H3 h3 => ?_) h.2⟩) (hs i x H H' hi x1 B1 y)
    obtain ⟨rfl, h4⟩ := h3
    rw [if_pos rfl]
    refine ⟨_, h4, fun v H4 h5 => ?_⟩
    obtain ⟨x4, B4, hv⟩ := h5
    have hA4 := hA.ext x4
    have mu : Mu D H4 (upd H4 D (.lst (acc ++ [v]))) (.lst (acc ++ [v])) := Mu.upd
    refine ⟨acc, hA4.at_, by rw [hl]; exact szl (by omega), acc ++ [v], ⟨upd_same, nDp, fun _ z => by cases z⟩, by simp [hl], fun j y hj => ?_, ⟨fun b o e nb nt => ?_⟩, ⟨?_, tabs_mut B4.tab hA4.at_⟩⟩
    · rcases Nat.lt_or_ge j acc.length with h | h
      · rw [List.getElem?_append_left h] at hj
        exact fm _ _ _ _ _ _ _ (fx _ _ _ _ (hf j y hj) x4) mu hA4
      · rw [List.getElem?_append_right h] at hj
        have : j - acc.length = 0 := by
          apply Classical.byContradiction
          intro z
          rw [List.getElem?_eq_none (by simp; omega)] at hj
          cases hj
        rw [this] at hj
        have e : j = i := by omega
        subst e
        cases hj
        exact fm _ _ _ _ _ _ _ hv mu hA4
    · have e4 := x4.k _ _ (x1.k _ _ e nb nt) nb nt
      rw [upd_ne (ne_of_none e hD)]
      exact e4
    · exact B4.pen.mut nDp nDl
  · rintro H ⟨acc, hA, hl, hf, x1, B1⟩
    exact hd acc H hl hf x1 B1 hA
theorem LcS.lc {T : List (Addr × Str)} {p l : Addr} {m : Nat} (c : Nat) {J : It} {n : Nat} {G : Hp → Prop} {Y : Nat → Hp → V → Hp → Prop} (w : Walk J n G Y) {k : Nat} {te : TE} {vs : List Nat} {σ : L2.St} {H1 : Hp} {Q : VK}
    (B : Bs T p l m H1) (f : Nat → V → Hp → Prop) (hn : n ≤ 100000) (hG : ∀ H, Ext p H1 H → G H)
    (hs : ∀ i x H H', i < n → Ext p H1 H → Bs T p l (m + c * i) H → Y i H x H' → gName k x (wipe σ vs) H' fun σ2 H2 => wipe σ2 vs = wipe σ vs ∧ te σ2 H2 fun y H4 => Ext p H H4 ∧ Bs T p l (m + c * (i + 1)) H4 ∧ f i y H4)
    (hd : ∀ D ys H', H1 D = none → ys.length = n → (∀ i y, ys[i]? = some y → f i y H') → Ext p H1 H' → Bs T p l (m + c * n) H' → At p H' D (.lst ys) → Q (.ref D) H')
    (fx : ∀ i y H H', f i y H → Ext p H H' → f i y H' := by exact fun _ _ _ _ h _ => h) (fm : ∀ i y D xs ys H H', f i y H → Mu D H H' (.lst ys) → At p H D (.lst xs) → f i y H' := by exact fun _ _ _ _ _ _ _ h _ _ => h) :
    LcS J (gName k) tYes (mcE te) vs σ H1 Q :=
  ⟨fun D hD => lc_scH (g := gName k) (tt := tYes) c w hD B f fx fm hn hG (fun i x H H' h1 h2 h3 h4 => by
    have q := hs i x H H' h1 h2 h3 h4
    exact ⟨q.1, rfl, q.2⟩) (fun _ _ _ _ _ h q => h _ _ q) (fun _ _ _ _ h q => h _ _ q) (fun ys H' => hd D ys H' hD)⟩
end EM
/-! EM47: isinstance of a list or a tuple; rows of numbers. -/
namespace EM
open PySem PySem.Spec PyProof.Rows L2
section
variable {T : List (Addr × Str)} {p l q a tp : Addr} {n m : Nat} {H H1 H2 H' : Hp} {o : HO} {K : PySem.W.Frag} {Q : VK} {x v : V} {xs : List V}
def rLenN (K : PySem.W.Frag) : List V → Hp → VK → Prop := fun vs H Q => ∃ x n, vs = [x] ∧ LenV K x H n ∧ Q (.int n) H
theorem call_lenN {X : Cx} : CallR X (.builtin "len") (Sr (rLenN X.K)) := callR_sw call_len
theorem lenL (h : At p H a (.lst xs)) (q : Q (.int xs.length) H) : Sr (rLenN K) [.ref a] H Q := ⟨.ref a, xs.length, rfl, .inl ⟨xs, SqL.of h.at_, rfl⟩, q⟩
theorem lenT (h : At p H a (.tup xs)) (q : Q (.int xs.length) H) : Sr (rLenN K) [.ref a] H Q := ⟨.ref a, xs.length, rfl, .inr ⟨xs, SqT.of h.at_, rfl⟩, q⟩
def NotSeqT (K : PySem.W.Frag) (H : Hp) (x : V) : Prop := ∃ t, TyX K H x t ∧ PySem.W.kitAny K t [.type "list", .type "tuple"] = some false
def rIsSeq (K : PySem.W.Frag) : List V → Hp → VK → Prop := fun vs H Q => ∃ x tp, vs = [x, .ref tp] ∧ H tp = some (.tup [.ty "list", .ty "tuple"]) ∧ (((∃ a xs, x = .ref a ∧ (H a = some (.lst xs) ∨ H a = some (.tup xs))) ∧ Q (.bl true) H) ∨ (NotSeqT K H x ∧ Q (.bl false) H))
theorem call_isSeq {X : Cx} : CallR X (.builtin "isinstance") (rIsSeq X.K) := callR_of call_isiT fun vs H Q ⟨x, tp, e, h, z⟩ => by
  rcases z with ⟨⟨a, xs, rfl, ha⟩, q⟩ | ⟨⟨t, ty, k⟩, q⟩
  · rcases ha with ha | ha
    · exact ⟨.ref a, tp, _, .type "list", [.type "list", .type "tuple"], true, e, h, .cons (.ty _) (.cons (.ty _) .nil), .base (.lst ha), kitAny_cons (b := true) (kit_ty (by decide +kernel)) (fun z => nomatch z) (fun _ => rfl), q⟩
    · exact ⟨.ref a, tp, _, .type "tuple", [.type "list", .type "tuple"], true, e, h, .cons (.ty _) (.cons (.ty _) .nil), .base (.tup ha), kitAny_cons (b := false) (kit_ty (by decide +kernel)) (fun _ => kitAny_cons (b := true) (kit_ty (by decide +kernel)) (fun z => nomatch z) (fun _ => rfl)) (fun z => nomatch z), q⟩
  · exact ⟨x, tp, _, t, [.type "list", .type "tuple"], false, e, h, .cons (.ty _) (.cons (.ty _) .nil), ty, k, q⟩
theorem isSeqL (ht : At p H tp (.tup [.ty "list", .ty "tuple"])) (ha : At p H a (.lst xs)) (q : Q (.bl true) H) : Sr (rIsSeq K) [.ref a, .ref tp] H Q := ⟨_, tp, rfl, ht.at_, .inl ⟨⟨a, xs, rfl, .inl ha.at_⟩, q⟩⟩
theorem isSeqT (ht : At p H tp (.tup [.ty "list", .ty "tuple"])) (ha : At p H a (.tup xs)) (q : Q (.bl true) H) : Sr (rIsSeq K) [.ref a, .ref tp] H Q := ⟨_, tp, rfl, ht.at_, .inl ⟨⟨a, xs, rfl, .inr ha.at_⟩, q⟩⟩
/-- a list or a tuple -/
def SeqV (p : Addr) (H : Hp) (a : Addr) (xs : List V) : Prop := At p H a (.lst xs) ∨ At p H a (.tup xs)
theorem SeqV.ext (h : SeqV p H a xs) (y : Ext p H H') : SeqV p H' a xs := by
  rcases h with h | h
  · exact .inl (h.ext y)
  · exact .inr (h.ext y)
theorem SeqV.or (h : SeqV p H a xs) : H a = some (.lst xs) ∨ H a = some (.tup xs) := by
  rcases h with h | h
  · exact .inl h.at_
  · exact .inr h.at_
/-- the numbers of a row -/
structure NumsP (K : PySem.W.Frag) (p : Addr) (H : Hp) (xs : List V) (ts : List (Int × Int)) : Prop where
  len : xs.length = ts.length
  h : ∀ (i : Nat) (x : V) (t : Int × Int), xs[i]? = some x → ts[i]? = some t → NumP K p H x t.1 t.2
theorem NumsP.ext {ts : List (Int × Int)} (h : NumsP K p H xs ts) (y : Ext p H H') : NumsP K p H' xs ts := ⟨h.len, fun i x t e1 e2 => NumP.ext y (h.h i x t e1 e2)⟩
/-- a row of Ratios -/
structure RatsP (K : PySem.W.Frag) (p : Addr) (H : Hp) (xs : List V) (ts : List (Int × Int)) : Prop where
  len : xs.length = ts.length
  h : ∀ (i : Nat) (x : V) (t : Int × Int), xs[i]? = some x → ts[i]? = some t → ∃ a, x = .ref a ∧ RatP K p H a t.1 t.2
end
end EM
/-! EM48: a for over a list or a tuple, in one word; lists of Bools. -/
namespace EM
open PySem PySem.Spec PyProof.Rows L2
section
variable {T : List (Addr × Str)} {p l q a tp : Addr} {n m : Nat} {H H1 H2 H' : Hp} {o : HO} {K : PySem.W.Frag} {Q : VK} {x v : V} {xs : List V}
structure SqW (x : V) (H : Hp) (R : It → Hp → Prop) : Prop where
  h : ∃ a xs, x = V.ref a ∧ (H a = some (.lst xs) ∨ H a = some (.tup xs)) ∧ ∀ J, Walk J xs.length (fun H' => H' a = H a) (YAt xs) → R J H
def iSeqN (tl : TE) : TI := fun σ H R => tl σ H fun x H1 => SqW x H1 R
theorem pi_seqN {X : Cx} {tg l : Expr} {tl : TE} (hl : PE X l tl) : PI X tg l (iSeqN tl) := ⟨fun pins s σ H R I h => (pi_seq hl.mc).run pins s σ H R I ⟨_, h, fun v H1 z => z.h⟩⟩
theorem seqL {R : It → Hp → Prop} (h : At p H a (.lst xs)) (k : ∀ J, Walk J xs.length (fun H' => H' a = H a) (YAt xs) → R J H) : SqW (.ref a) H R := ⟨a, xs, rfl, .inl h.at_, k⟩
theorem seqT {R : It → Hp → Prop} (h : At p H a (.tup xs)) (k : ∀ J, Walk J xs.length (fun H' => H' a = H a) (YAt xs) → R J H) : SqW (.ref a) H R := ⟨a, xs, rfl, .inr h.at_, k⟩
theorem At.eq (h : At p H a o) (x : Ext p H H') : H' a = H a := (h.ext x).at_.trans h.at_.symm
theorem bls_of {ys : List V} {bs : List Bool} (h : ys.length = bs.length) (g : ∀ (i : Nat) (y : V), ys[i]? = some y → ∃ b, bs[i]? = some b ∧ y = .bl b) : ys = bs.map V.bl := by
  apply List.ext_getElem?
  intro i
  rw [List.getElem?_map]
  rcases Nat.lt_or_ge i ys.length with hi | hi
  · obtain ⟨b, e1, e2⟩ := g i ys[i] (List.getElem?_eq_getElem hi)
    rw [List.getElem?_eq_getElem hi, e1, e2]
    rfl
  · rw [List.getElem?_eq_none hi, List.getElem?_eq_none (by omega)]
    rfl
end
end EM
/-! EM49: a for in one word; folds; a first item. -/
namespace EM
open PySem PySem.Spec PyProof.Rows L2
theorem FoS.it {J : It} {n : Nat} {G : Hp → Prop} {Y : Nat → Hp → V → Hp → Prop} (w : Walk J n G Y) {g : TG} {tb : TS} {D : Ends} {σ : L2.St} {H : Hp} (Pv : Nat → L2.St → Hp → Prop) (h0 : Pv 0 σ H) (hG : ∀ i σ H, i ≤ n → Pv i σ H → G H)
    (hs : ∀ i x σ H H', i < n → Pv i σ H → Y i H x H' → g x σ H' fun σ2 H2 => tb { D with nx := Pv (i + 1), ct := Pv (i + 1), bk := D.nx } σ2 H2) (hd : ∀ σ H, Pv n σ H → D.nx σ H) : FoS J g tb D σ H := ⟨for_it w Pv h0 hG hs hd⟩
end EM
namespace EM
/-- an invariant at which the stepping words stop -/
structure Hold (P : Prop) : Prop where
  h : P
end EM
/-! EM50: dicts laid; == and != of an instance with what is none. -/
namespace EM
open PySem PySem.Spec PyProof.Rows L2
section
variable {T : List (Addr × Str)} {p l q a tp : Addr} {n m : Nat} {H H1 H2 H' : Hp} {o : HO} {K : PySem.W.Frag} {Q : VK} {x v y : V} {xs : List V}
structure DnS (o : HO) (H : Hp) (Q : VK) : Prop where
  h : ∀ p H', New H p o H' → Q (.ref p) H'
theorem DnS.bs (B : Bs T p l n H) (hk : ∀ ps, o ≠ .tbl ps) (k : ∀ q H', Ext p H H' → Bs T p l n H' → At p H' q o → H q = none → Q (.ref q) H') : DnS o H Q := ⟨New.bs B hk k⟩
end
end EM
namespace EM
open PySem L2
end EM
/-! EM51: tuple of a list; isinstance of a Ratio; lists of texts. -/
namespace EM
open PySem PySem.Spec PyProof.Rows L2
section
variable {T : List (Addr × Str)} {p l q a tp : Addr} {n m : Nat} {H H1 H2 H' : Hp} {o : HO} {K : PySem.W.Frag} {Q : VK} {x v y : V} {xs : List V}
def rTupN : List V → Hp → VK → Prop := fun vs H Q => ∃ a xs, vs = [.ref a] ∧ H a = some (.lst xs) ∧ DnS (.tup xs) H Q
theorem call_tupN {X : Cx} : CallR X (.type "tuple") (Sr rTupN) := callR_sw (callR_of call_tuple_of fun vs H Q ⟨a, xs, e, h, z⟩ => ⟨a, xs, e, .inl ⟨SqL.of h, New.upd z.h⟩⟩)
theorem tupL (h : At p H a (.lst xs)) (k : DnS (.tup xs) H Q) : Sr rTupN [.ref a] H Q := ⟨a, xs, rfl, h.at_, k⟩
/-- the pairs of a row -/
structure PairsP (p : Addr) (H : Hp) (xs : List V) (ts : List (Int × Int)) : Prop where
  len : xs.length = ts.length
  h : ∀ (i : Nat) (x : V) (t : Int × Int), xs[i]? = some x → ts[i]? = some t → ∃ q, x = .ref q ∧ At p H q (.tup [.int t.1, .int t.2])
theorem PairsP.ext {ts : List (Int × Int)} (h : PairsP p H xs ts) (y : Ext p H H') : PairsP p H' xs ts := ⟨h.len, fun i x t e1 e2 => by
  obtain ⟨q, e, a⟩ := h.h i x t e1 e2
  exact ⟨q, e, a.ext y⟩⟩
end
end EM
/-! EM52: marks that are not the pen; what makes no mark. -/
namespace EM
open PySem PySem.Spec PyProof.Rows L2
structure MarkP (K : PySem.W.Frag) (p : Addr) (H : Hp) (a : Addr) (ws : List Int) : Prop where
  good : good ws
  h : ∃ dx wp ep sp, At p H a (.ins (He.ga K "Mark") dx (mf wp ep sp ((ws.length : Int) / 2 + 1) ws.sum (ws.take (ws.length - 1)).sum)) ∧ At p H wp (.tup (ws.map V.int)) ∧ At p H ep (.tup ((scan 0 ws).map V.int)) ∧ At p H sp (.tup ((sumsOf ws).map V.int))
section
variable {T : List (Addr × Str)} {p l q a tp : Addr} {n m : Nat} {H H1 H2 H' : Hp} {o : HO} {K : PySem.W.Frag} {Q : VK} {x v y : V} {xs : List V} {ws : List Int}
theorem MarkP.ext (h : MarkP K p H a ws) (x : Ext p H H') : MarkP K p H' a ws := by
  obtain ⟨g, dx, wp, ep, sp, h1, h2, h3, h4⟩ := h
  exact ⟨g, dx, wp, ep, sp, h1.ext x, h2.ext x, h3.ext x, h4.ext x⟩
theorem MarkP.of (B : Bs T p l n H) (h : MarkAt K H a ws) : MarkP K p H a ws := by
  obtain ⟨g, dx, wp, ep, sp, h1, h2, h3, h4⟩ := h
  exact ⟨g, dx, wp, ep, sp, B.at_ h1 (fun _ z => by cases z) (fun _ z => by cases z), B.at_ h2 (fun _ z => by cases z) (fun _ z => by cases z), B.at_ h3 (fun _ z => by cases z) (fun _ z => by cases z), B.at_ h4 (fun _ z => by cases z) (fun _ z => by cases z)⟩
theorem MarkP.at_ (h : MarkP K p H a ws) : MarkAt K H a ws := by
  obtain ⟨g, dx, wp, ep, sp, h1, h2, h3, h4⟩ := h
  exact ⟨g, dx, wp, ep, sp, h1.at_, h2.at_, h3.at_, h4.at_⟩
/-- no integer -/
def OddM (K : PySem.W.Frag) (p : Addr) (H : Hp) (y : V) : Prop := OddN H p y ∨ ∃ a t b, y = .ref a ∧ RatP K p H a t b
theorem OddM.ext (h : OddM K p H y) (x : Ext p H H') : OddM K p H' y := by
  rcases h with h | ⟨a, t, b, e, h⟩
  · exact .inl (h.ext x.k)
  · exact .inr ⟨a, t, b, e, h.ext x⟩
def okW (y : V) : Prop := ∃ w : Int, y = .int w ∧ 1 ≤ w ∧ w ≤ 1000
def noW (K : PySem.W.Frag) (p : Addr) (H : Hp) (y : V) : Prop := (∃ w : Int, y = .int w ∧ ¬ (1 ≤ w ∧ w ≤ 1000)) ∨ OddM K p H y
theorem noW.ext (h : noW K p H y) (x : Ext p H H') : noW K p H' y := by
  rcases h with h | h
  · exact .inl h
  · exact .inr (h.ext x)
/-- these widths make no mark: what BadMark tells -/
def BadW (K : PySem.W.Frag) (p : Addr) (H : Hp) (xs : List V) (at_ : V) : Prop :=
  (at_ = .non ∧ (xs.length % 2 = 0 ∨ xs.length < 3 ∨ 127 < xs.length)) ∨
  ∃ i : Nat, at_ = .int i ∧ xs.length % 2 = 1 ∧ 3 ≤ xs.length ∧ xs.length ≤ 127 ∧ (∀ j : Nat, j < i → ∃ y, xs[j]? = some y ∧ okW y) ∧ ∃ y, xs[i]? = some y ∧ noW K p H y
theorem BadW.ext {at_ : V} (h : BadW K p H xs at_) (x : Ext p H H') : BadW K p H' xs at_ := by
  rcases h with h | ⟨i, e, h1, h2, h3, h4, y, e2, h5⟩
  · exact .inl h
  · exact .inr ⟨i, e, h1, h2, h3, h4, y, e2, h5.ext x⟩
def xdA (v : V) : HO := .xd [("at", v)]
end
end EM
/-! EM53: classmethods by keyword; properties; what a row of widths comes to. -/
namespace PySem.W
open PySem PySem.Calls PyProof.Rows
end PySem.W
namespace EM
open PySem PySem.Spec PyProof.Rows L2
/-! ### properties -/
theorem propB_ok {K : PySem.W.Frag} {C : Addr} {f : Str} (h : propB K C f = true) : PropOf K C f (He.ma K C f) (EM.pf K C f) := by
  unfold propB at h
  obtain ⟨h, h4⟩ := Bool.and_eq_true_iff.mp h
  obtain ⟨h, h3⟩ := Bool.and_eq_true_iff.mp h
  obtain ⟨h1, h2⟩ := Bool.and_eq_true_iff.mp h
  refine ⟨of_decide_eq_true h1, of_decide_eq_true h2, of_decide_eq_true h3, ?_⟩
  unfold EM.pf
  split at h4
  · rename_i g r e
    exact ⟨r, by rw [e]⟩
  · cases h4
/-! ### C.m(k = v), m a classmethod -/
section
variable {T : List (Addr × Str)} {p l q a tp : Addr} {n m : Nat} {H H1 H2 H' : Hp} {o : HO} {K : PySem.W.Frag} {Q : VK} {E : XK} {x v y : V} {xs : List V} {ws : List Int}
/-- what Mark of these widths comes to -/
def MarkOut (K : PySem.W.Frag) (T : List (Addr × Str)) (p l : Addr) (n : Nat) (H : Hp) (xs : List V) (Q : VK) (E : XK) : Prop :=
  (∃ ws, xs = ws.map V.int ∧ good ws ∧ ∀ a H', Ext p H H' → Bs T p l n H' → MarkP K p H' a ws → Q (.ref a) H') ∨
  ∃ at_, BadW K p H xs at_ ∧ ∀ d H', Ext p H H' → Bs T p l n H' → At p H' d (xdA at_) → E (.ref (He.ga K "BadMark")) (some d) H'
theorem MarkOut.ext (h : MarkOut K T p l n H xs Q E) (x : Ext p H H1) : MarkOut K T p l n H1 xs Q E := by
  rcases h with ⟨ws, e, g, k⟩ | ⟨at_, b, k⟩
  · exact .inl ⟨ws, e, g, fun a H' x1 B1 m => k a H' (x.trans x1) B1 m⟩
  · exact .inr ⟨at_, b.ext x, fun d H' x1 B1 m => k d H' (x.trans x1) B1 m⟩
end
end EM
/-! EM54: what a mark tells of itself, as data; lists of ints. -/
namespace EM
open PySem PySem.Spec PyProof.Rows L2
theorem ints_of {P : Int → Prop} : ∀ {ys : List V}, (∀ y ∈ ys, ∃ w : Int, y = V.int w ∧ P w) → ∃ ws : List Int, ys = ws.map V.int ∧ ∀ x ∈ ws, P x
  | [], _ => ⟨[], rfl, fun x h => by cases h⟩
  | y :: r, h => by
    obtain ⟨w, rfl, hw⟩ := h y List.mem_cons_self
    obtain ⟨ws, e, g⟩ := ints_of fun z hz => h z (List.mem_cons_of_mem _ hz)
    exact ⟨w :: ws, by rw [e]; rfl, fun x hx => by
      rcases List.mem_cons.mp hx with rfl | hx
      · exact hw
      · exact g x hx⟩
theorem sum_bd : ∀ {l : List Int}, (∀ x ∈ l, 1 ≤ x ∧ x ≤ 1000) → 0 ≤ l.sum ∧ l.sum ≤ 1000 * (l.length : Int)
  | [], _ => ⟨by simp, by simp⟩
  | x :: r, h => by
    have h1 := h x List.mem_cons_self
    have h2 := sum_bd (l := r) fun y hy => h y (List.mem_cons_of_mem _ hy)
    simp only [List.sum_cons, List.length_cons]
    omega
section
variable {T : List (Addr × Str)} {p l q a tp : Addr} {n m : Nat} {H H1 H2 H' : Hp} {o : HO} {K : PySem.W.Frag} {Q : VK} {E : XK} {x v y : V} {xs : List V} {ws : List Int}
/-- a store by place -/
def rSetN : V → V → V → Hp → (Hp → Prop) → Prop := fun o i v H Q => ∃ p xs k j, o = V.ref p ∧ i = V.int k ∧ H p = some (.lst xs) ∧ ixN xs.length k = some j ∧ ∀ H3, Mu p H H3 (.lst (xs.set j v)) → Q H3
theorem set_listN {X : Cx} : PSet X rSetN := by
  intro pins s σ H o i v ov iv u Q I ro ri rv h
  obtain ⟨p, xs, k, j, e1, e2, h1, h2, q⟩ := h
  exact set_list pins s σ H o i v ov iv u Q I ro ri rv ⟨p, xs, k, j, e1, e2, h1, h2, q _ Mu.upd⟩
end
end EM
/-! EM55: an instance made with no argument. -/
namespace EM
open PySem PySem.Spec PyProof.Rows L2
end EM
/-! EM56: slices of lists, a dict of three, what stands in a menu. -/
namespace EM
open PySem PySem.Spec PyProof.Rows L2
def rSlN : V → Option Int → Option Int → Hp → VK → Prop := fun x lo hi H Q => ∃ a xs, x = .ref a ∧ H a = some (.lst xs) ∧ ∀ q H', New H q (.lst (cutV xs lo hi)) H' → Q (.ref q) H'
theorem sl_listN {X : Cx} : SlR X rSlN := by
  intro pins s σ H x v vl vu lo hi sl Q I rx hs pl pu q
  obtain ⟨a, xs, e, h, k⟩ := q
  exact sl_list pins s σ H x v vl vu lo hi sl Q I rx hs pl pu ⟨a, xs, e, SqL.of h, New.upd k⟩
def spMkN1 (K : PySem.W.Frag) : Sp := fun vs H Q _ => ∃ t, vs = [.int t] ∧ RatRes K H Q t 1
theorem mk1_bs {T : List (Addr × Str)} {p l : Addr} {n : Nat} {H : Hp} {K : PySem.W.Frag} {Q : VK} {E : XK} {t : Int} (B : Bs T p l n H) (k : ∀ a H', Ext p H H' → Bs T p l n H' → RatP K p H' a (nTop t 1) (nBot t 1) → Q (.ref a) H') : Sw (spMkN1 K) [.int t] H Q E := ⟨⟨t, rfl, RatRes.bs B k⟩⟩
end EM
/-! EM57: an instance's operator with anything on the right; anything times an instance; == and != of two own classes. -/
namespace PySem.W
open PySem PySem.Calls PyProof.Rows Builtin
end PySem.W
namespace EM
open PySem PySem.Spec PyProof.Rows L2
section
variable {X : Cx} {CX : CXT} {n : Nat} {g r g' r' C D : Addr} {sp : Sp} {E : XK}
theorem run1 {pins : List (Addr × Obj)} {s : Shared} {σ : L2.St} {H : Hp} {a : Addr} {y : V} {u : Value} {Q : VK} (F : FnR X.prog X.w X.K X.mg X.base CX n g sp) (rm : Room n X.A) (hx : Passes CX X E) (I : Inv X pins σ H s) (ry : RelV y u) (q : sp [.ref a, y] H Q E) :
    wpAny (model X.prog X.w) X.A (call (.ref g) [.ref a, u]) (PySem.W.CmpBack (EP X pins σ Q)) X.xe s :=
  wpAny_mono (wpAny_call (run_fnR (us := [.ref a, u]) (vs := [.ref a, y]) F rm hx I (.cons rfl (.cons ry .nil)) q)) (fun w s2 z => by
    obtain ⟨z', H', I', rz, qz⟩ := z
    exact SlX.cmpback rz ⟨z', H', I', rz, qz⟩) fun _ _ x => x
end
end EM
/-! EM58: comprehensions with a test, over anything; sums and multiples of marks. -/
namespace EM
open PySem PySem.Spec PyProof.Rows L2
/-- a comprehension that draws nothing: P tells of the list so far -/
theorem LcS.lcP {T : List (Addr × Str)} {p l : Addr} {m : Nat} {J : It} {n : Nat} {G : Hp → Prop} {Y : Nat → Hp → V → Hp → Prop} (w : Walk J n G Y) {g : TG} {tt : TT} {te : TE} {vs : List Nat} {σ : L2.St} {H1 : Hp} {Q : VK}
    (B : Bs T p l m H1) (P : Nat → List V → Prop) (h0 : P 0 []) (hn : n ≤ 100000) (hG : ∀ H, Ext p H1 H → G H)
    (hs : ∀ i x acc H H' (Rf : Hp → Prop) (Rt : V → Hp → Prop), i < n → P i acc → Ext p H1 H → Bs T p l m H → Y i H x H' → (∀ H3, Ext p H H3 → Bs T p l m H3 → P (i + 1) acc → Rf H3) → (∀ y H4, Ext p H H4 → Bs T p l m H4 → P (i + 1) (acc ++ [y]) → Rt y H4) →
      g x (wipe σ vs) H' fun σ2 H2 => wipe σ2 vs = wipe σ vs ∧ tt σ2 H2 fun b H3 => if b = true then mcE te σ2 H3 Rt else Rf H3)
    (hd : ∀ D ys H', H1 D = none → P n ys → ys.length ≤ n → Ext p H1 H' → Bs T p l m H' → At p H' D (.lst ys) → Q (.ref D) H') : LcS J g tt (mcE te) vs σ H1 Q := by
  refine ⟨fun D hD => ?_⟩
  have nDp := B.ne hD
  have nDl := B.nel hD
  refine lc_it w (fun i H => ∃ acc, At p H D (.lst acc) ∧ acc.length ≤ i ∧ P i acc ∧ Ext p H1 H ∧ Bs T p l m H) ⟨[], ⟨upd_same, nDp, fun _ z => by cases z⟩, Nat.le_refl _, h0, Ext.same (same_upd hD), B.same (same_upd hD)⟩ (fun i H hi ⟨acc, _, _, _, x, _⟩ => hG H x) ?_ ?_
  · rintro i x H H' hi ⟨acc, hA, hl, hf, x1, B1⟩ y
    refine hs i x acc H H' _ _ hi hf x1 B1 y (fun H3 x3 B3 h3 => ⟨acc, hA.ext x3, by omega, h3, x1.trans x3, B3⟩) (fun v H4 x4 B4 h4 => ?_)
    have hA4 := hA.ext x4
    refine ⟨acc, hA4.at_, szl (by omega), acc ++ [v], ⟨upd_same, nDp, fun _ z => by cases z⟩, by simp; omega, h4, ⟨fun b o e nb nt => ?_⟩, ⟨?_, tabs_mut B4.tab hA4.at_⟩⟩
    · have e4 := x4.k _ _ (x1.k _ _ e nb nt) nb nt
      rw [upd_ne (ne_of_none e hD)]
      exact e4
    · exact B4.pen.mut nDp nDl
  · rintro H ⟨acc, hA, hl, hf, x1, B1⟩
    exact hd D acc H hD hf hl x1 B1 hA
section
variable {T : List (Addr × Str)} {p l q a b tp : Addr} {n m : Nat} {H H1 H2 H' : Hp} {o : HO} {K : PySem.W.Frag} {Q : VK} {E : XK} {x v y : V} {xs : List V} {ws us : List Int}
/-- what is no mark -/
def NoMk (K : PySem.W.Frag) (p : Addr) (H : Hp) (y : V) : Prop := (∃ i, y = .int i) ∨ OddM K p H y
theorem NoMk.ext (h : NoMk K p H y) (x : Ext p H H') : NoMk K p H' y := by
  rcases h with h | h
  · exact .inl h
  · exact .inr (h.ext x)
/-- BadMark(None) -/
def BadOut (K : PySem.W.Frag) (T : List (Addr × Str)) (p l : Addr) (n : Nat) (H : Hp) (E : XK) : Prop := ∀ d H', Ext p H H' → Bs T p l n H' → At p H' d (xdA .non) → E (.ref (He.ga K "BadMark")) (some d) H'
theorem BadOut.ext (h : BadOut K T p l n H E) (x : Ext p H H1) : BadOut K T p l n H1 E := fun d H' x1 B1 a1 => h d H' (x.trans x1) B1 a1
theorem NoMk.int {i : Int} : NoMk K p H (.int i) := .inl ⟨i, rfl⟩
theorem MarkP.mu {c : Addr} {ys : List V} (h : MarkP K p H a ws) (g : At p H c (.lst xs)) (m : Mu c H H' (.lst ys)) : MarkP K p H' a ws := by
  obtain ⟨gd, dx, wp, ep, sp, h1, h2, h3, h4⟩ := h
  exact ⟨gd, dx, wp, ep, sp, m.at_k h1 g (fun _ z => by cases z), m.at_k h2 g (fun _ z => by cases z), m.at_k h3 g (fun _ z => by cases z), m.at_k h4 g (fun _ z => by cases z)⟩
theorem Mu.mark {c : Addr} {ys : List V} (m : Mu c H H' (.lst ys)) (h : MarkP K p H a ws) (g : At p H c (.lst xs)) : MarkP K p H' a ws := h.mu g m
/-- what a call tells: [text], ("mark", i), ("mark", None), ("unlike",) -/
inductive Tl (p : Addr) (H : Hp) (q : Addr) : PyData → Prop
  | txt {z : Str} (ok : okS z) (h : At p H q (.lst [.str z])) : Tl p H q (.list [.str z])
  | mk {i : Nat} (hi : i < 4000) (h : At p H q (.tup [.str "mark", .int (i : Nat)])) : Tl p H q (.tuple [.str "mark", .int (i : Nat)])
  | non (h : At p H q (.tup [.str "mark", .non])) : Tl p H q (.tuple [.str "mark", .none])
  | unl (h : At p H q (.tup [.str "unlike"])) : Tl p H q (.tuple [.str "unlike"])
theorem Tl.ext {d : PyData} (h : Tl p H q d) (x : Ext p H H') : Tl p H' q d := by
  cases h with
  | txt ok h => exact .txt ok (h.ext x)
  | mk hi h => exact .mk hi (h.ext x)
  | non h => exact .non (h.ext x)
  | unl h => exact .unl (h.ext x)
theorem Tl.dp {d : PyData} (h : Tl p H q d) : Dp K H (.ref q) d := by
  cases h with
  | txt ok h => exact dp_lst h.at_ (.cons (.str _) .nil)
  | mk hi h => exact dp_tup h.at_ (.cons (.str _) (.cons (.int _) .nil))
  | non h => exact dp_tup h.at_ (.cons (.str _) (.cons .non .nil))
  | unl h => exact dp_tup h.at_ (.cons (.str _) .nil)
end
/-! xs[::-1] -/
end EM
/-! EM59: zip of two tuples, in one word; what a pair of a zip or an enumerate is. -/
namespace EM
open PySem PySem.Spec PyProof.Rows L2
structure ZpT (K : PySem.W.Frag) (vs : List V) (H : Hp) (R : It → Hp → Prop) : Prop where
  h : ∃ a b xs ys, vs = [.ref a, .ref b] ∧ H a = some (.tup xs) ∧ H b = some (.tup ys) ∧ R (RZ.ItzT K a b) H
def iZpTN (K : PySem.W.Frag) (ta : TA) : TI := fun σ H R => ta σ H fun vs H1 => ZpT K vs H1 R
theorem pi_zipTN {X : Cx} {e e2 : Expr} {ta : TA} {p pos tpos : Pos} {elts : List Expr} {kk : Nat} (hg : Gl X "zip") (hm : X.mg "zip" = none) (ha : PA X [e, e2] ta)
    (hs : starEach [e, e2] X.env = (false, eval e X.env) :: starEach [e2] X.env := by rfl) (hpl : (backTo pos (starEach [e2] X.env)).any (·.1) = false := by rfl) :
    PI X (.Tuple elts kk tpos) (.Call (.Name "zip" p) [e, e2] [] pos) (iZpTN X.K ta) := ⟨fun pins s σ H R I h => (RZ.pi_zipA hg hm ha.mc hs hpl).run pins s σ H R I ⟨_, h, fun vs H1 ⟨⟨a, b, xs, ys, e, h1, h2, k⟩⟩ => ⟨a, b, xs, ys, e, .inr ⟨SqT.of h1, SqT.of h2, k⟩⟩⟩⟩
section
variable {T : List (Addr × Str)} {p l a b : Addr} {n : Nat} {H H' : Hp} {K : PySem.W.Frag} {xs ys : List V} {R : It → Hp → Prop}
theorem zpT (h : At p H a (.tup xs)) (g : At p H b (.tup ys)) (k : R (RZ.ItzT K a b) H) : ZpT K [.ref a, .ref b] H R := ⟨a, b, xs, ys, rfl, h.at_, g.at_, k⟩
theorem yp_open {f g : Nat → Option V} {i : Nat} {x : V} (B : Bs T p l n H) (y : YPair f g i H x H') : ∃ W a b, x = .ref W ∧ f i = some a ∧ g i = some b ∧ Ext p H H' ∧ Bs T p l n H' ∧ At p H' W (.tup [a, b]) := by
  obtain ⟨W, a, b, rfl, hW, e, ea, eb⟩ := y
  have s : Same H H' := by rw [e]; exact same_upd hW
  exact ⟨W, a, b, rfl, ea, eb, Ext.same s, B.same s, (B.same s).at_ (by rw [e]; exact upd_same) (fun _ z => by cases z) (fun _ z => by cases z)⟩
end
end EM
namespace EM
open PySem PySem.Spec PyProof.Rows L2
section
variable {p q c : Addr} {H H' : Hp} {d : PyData} {x : Addr} {r ys : List V}
theorem Tl.ne (h : Tl p H q d) (g : At p H c (.lst (.ref x :: r))) : q ≠ c := by
  intro e
  subst e
  have ga := g.at_
  cases h with
  | txt ok h =>
    rw [h.at_] at ga
    cases ga
  | mk hi h =>
    rw [h.at_] at ga
    cases ga
  | non h =>
    rw [h.at_] at ga
    cases ga
  | unl h =>
    rw [h.at_] at ga
    cases ga
end
end EM
/-! EM60: repr of a tuple of a text and an instance with its own __repr__; of a text and a dict with nothing in it. -/
namespace PySem.W
open PySem PySem.Calls PyProof.Rows Builtin Builtin.Tuple
end PySem.W
namespace EM
open PySem PySem.Spec PyProof.Rows L2
end EM
/-! EM61: len of an instance, an instance subscripted, by its own defs. -/
namespace EM
open PySem PySem.Spec PyProof.Rows L2
def rLenO (C : Addr) (sp : Sp) (E : XK) : List V → Hp → VK → Prop := fun xs H Q => ∃ a dx fs, xs = [.ref a] ∧ H a = some (.ins C dx fs) ∧ sp [.ref a] H (fun v H' => ∃ n : Nat, v = .int n ∧ n < 1000000 ∧ Q (.int n) H') E
section
variable {X : Cx} {CX : CXT} {n : Nat} {g C : Addr} {sp : Sp} {E : XK} {a b : Expr} {ta tb : TE} {pos : Pos}
theorem call_lenO (hs : PySem.W.findIn X.K (.ref C) "__len__" = some (some (.ref g))) (hf : PySem.W.isFn X.K (.ref g) = true) (F : FnR X.prog X.w X.K X.mg X.base CX n g sp) (hr : Room (n + 1) X.A) (hx : Passes CX X E) : CallR X (.builtin "len") (rLenO C sp E) := by
  intro pins s σ H xs us Q I r h
  obtain ⟨a, dx, fs, rfl, ha, q⟩ := h
  cases r with
  | cons rx rr =>
    cases rr
    rename_i u
    cases (show u = Value.ref a from rx)
    obtain ⟨ox, od, J, _⟩ := ins_at I ha
    obtain ⟨m, hF⟩ := I.fr
    refine PySem.W.len_K hF I.ok.mod.kin J hs hf ?_
    have c := SlX.run_at (us := [.ref a]) (ws := [.ref a]) F hr.in1 I.env0.in1 hx I (.cons rfl .nil) q
    refine wpAny_mono (wpAny_call c) (fun w s' z => ?_) fun _ _ x => x
    obtain ⟨z', H', I', rz, k, ez, hk, qz⟩ := z
    subst ez
    obtain ⟨t, rfl⟩ := (show ∃ t, w = Value.int k t from rz)
    exact ⟨⟨by omega, by omega⟩, ⟨.int k, H', I'.tok _, ⟨_, rfl⟩, qz⟩⟩
end
end EM
/-! EM62: an error kept in a name behind its except suite. -/
namespace EM
open PySem PySem.Spec PyProof.Rows L2
/-- a caught error of the class cls with the dict d, kept at a -/
def exK (a : Addr) (cls : Value) (d : Option Addr) : HO := .ext fun h => ∃ (oe : Obj) (vs : Array Value), h.get? a = some oe ∧ Zc cls d oe ∧ oe.data = .fields vs
theorem exK_ok {P : Program} {w : World} {H : Hp} {h : Heap} {a : Addr} {cls : Value} {d : Option Addr} {oe : Obj} (e : h.get? a = some oe) (z : Zc cls d oe) (f : ∃ vs, oe.data = .fields vs) : ObjOk P w H h a (exK a cls d) := by
  obtain ⟨vs, hv⟩ := f
  exact ⟨⟨oe, vs, e, z, hv⟩, ⟨oe, e⟩, fun _ _ ⟨o, v, q, r⟩ k => ⟨o, v, k o q, r⟩⟩
theorem _root_.L2.Inv.trackX {X : Cx} {pins : List (Addr × Obj)} {σ : L2.St} {H : Hp} {s : Shared} {a : Addr} {cls : Value} {d : Option Addr} {oe : Obj} (I : Inv X pins σ H s) (e : s.heap.get? a = some oe) (hn : H a = none) (z : Zc cls d oe) (f : ∃ vs, oe.data = .fields vs) (n0 : X.s_0.heap.get? a = none) (nL : a ≠ X.env.locals)
    (npin : ∀ p ∈ X.pn ++ pins, p.1 ≠ a) (ncell : ∀ x c, X.env.cells.lookup x = some c → c ≠ a) : Inv X pins σ (upd H a (exK a cls d)) s where
  ok := I.ok
  os := I.os
  bare := I.bare
  base := {
    keep := I.base.keep
    slot := I.base.slot
    free := fun b o q n hx => by rw [upd_ne (fun z => by rw [z, n0] at q; cases q)]; exact I.base.free b o q n hx
    there := I.base.there
    tups := fun b xs q => by
      have := I.base.tups b xs q
      rw [upd_ne (ne_of_none this hn)]
      exact this
    frzs := fun b o u q => by
      have := I.base.frzs b o u q
      rw [upd_ne (ne_of_none this hn)]
      exact this
    tbls := fun b ps q => by
      obtain ⟨more, this⟩ := I.base.tbls b ps q
      exact ⟨more, by rw [upd_ne (ne_of_none this hn)]; exact this⟩ }
  loc := I.loc
  cell := I.cell
  free := by rw [upd_ne nL.symm]; exact I.free
  freeC := fun x c hc => by rw [upd_ne (ncell x c hc)]; exact I.freeC x c hc
  pin := fun p hp => by
    obtain ⟨h1, h2, h3⟩ := I.pin p hp
    exact ⟨h1, by rw [upd_ne (npin p hp)]; exact h2, h3⟩
  hok := L2.HOk.laidN I.hok (fun _ _ q => q) hn (exK_ok e z f)
  len := I.len
theorem sky_none {B : Heap} {l : List Env} {a : Addr} {Z : Obj → Prop} {L : Addr} {h : Heap} (s : Sky B l a Z L h) : B.get? a = none := by
  rcases s with s | s | s
  · exact s.2.1
  · exact s.2.1
  · exact s.2.1
/-- behind a suite that held its error in slot i: the error stays -/
def goneK (i : Nat) (a : Addr) (cls : Value) (d : Option Addr) (D : Ends) : Ends := { nx := fun σ' H' => D.nx (σ'.set i none) (upd H' a (exK a cls d)), rt := D.rt, bk := fun σ' H' => D.bk (σ'.set i none) H', ct := fun σ' H' => D.ct (σ'.set i none) H' }
def wHdsK (K : PySem.W.Frag) (Wout : WX) (D : Ends) : List Hd → WX
  | [] => Wout
  | (c, none, ts) :: r => fun cls d σ H => ∃ b, PySem.W.exmOne K cls c = some b ∧ (b = true → ∀ a, H a = none → ts a cls d D σ H) ∧ (b = false → wHdsK K Wout D r cls d σ H)
  | (c, some i, ts) :: r => fun cls d σ H => ∃ b, PySem.W.exmOne K cls c = some b ∧ (b = true → ∀ a, H a = none → ts a cls d (goneK i a cls d D) (σ.set i (some (.ref a))) H) ∧ (b = false → wHdsK K Wout D r cls d σ H)
section
variable {X : Cx} {body : List Stmt} {h₀ : ExceptHandler} {hds : List ExceptHandler} {l : List Hd} {pos : Pos} {tb : WX → TS} {Wout : WX}
theorem ps_tryK (hs : X.stack = X.env :: X.outer) (hf : X.env.frame = some X.env.locals) (hN : X.N.Nodup) (hx : X.ex = []) (tk : Takes X Wout)
    (hb : ∀ (W : WX) (pn : List (Addr × Obj)) (xe : Value → Shared → Prop), Takes (X.tr pn xe) W → PassesOwn (model X.prog X.w) X.A X.env xe → PSs (X.tr pn xe) body (tb W))
    (hh : HdsN X (h₀ :: hds) l) : PS X (.Try body (h₀ :: hds) [] [] pos) (fun D σ H => tb (wHdsK X.K Wout D l) D σ H) := by
  refine ⟨fun pins s σ H D I h => ?_⟩
  have ok := I.ok
  have hfr : X.A.frames = some (X.env :: X.outer) := by rw [ok.frames, hs]
  refine wpAny_Try_except ?_
  refine wpAny_mono ((hb (wHdsK X.K Wout D l) (X.pn ++ pins) (fun e s₁ => wpAny (model X.prog X.w) X.A (noteFrame e X.env) (fun _ s₂ => wpAny (model X.prog X.w) X.A (setFlight e none) (fun _ s₃ =>
    wpAny (model X.prog X.w) X.A (handleBy e X.env (h₀ :: hds)) (SP X pins D) X.xe s₃) X.xe s₂) X.xe s₁) (fun u s' xx => ?_) PassesOwn.looking).run [] s σ H D (I.toTry _) h) (fun f s1 hsp => ?_) (fun e s1 he => he)
  · obtain ⟨a, B, sI, pins', σ', H', cls, d, rfl, J', nb, up, sky, na, os, ag, w⟩ := xx
    have J : Inv X pins σ' H' sI := J'.ofTry ok
    have sky' : Sky B (X.env :: X.outer) a (Zc cls d) X.env.locals s'.heap := by rw [← hs]; exact sky
    show wpAny (model X.prog X.w) X.A (noteFrame (.ref a) X.env) _ _ _
    refine Sky.land Zc.steady hfr hf sky' fun h3 fl3 up3 => ?_
    have J3 : Inv X pins σ' H' { s' with heap := h3 } := J.landed nb fl3.1 (up.trans up3) os ag
    obtain ⟨oe3, vs3, he3, hz3, hd3⟩ := fl3.there
    have nfr : a ∉ frs (X.env :: X.outer) := fun hm => by
      obtain ⟨_, o', e', hnf⟩ := fl3.2.2.1.mem hm
      rw [he3] at e'; cases e'
      exact hnf _ hd3
    have nL : a ≠ X.env.locals := fun z => nfr (List.mem_filterMap.mpr ⟨X.env, List.mem_cons_self, by rw [hf, z]⟩)
    have nF : a ∉ X.fs := fun hm => by
      obtain ⟨e, he, q⟩ := List.mem_filterMap.mp hm
      exact nfr (List.mem_filterMap.mpr ⟨e, List.mem_cons_of_mem _ he, q⟩)
    have S3 := J3.suite he3 hd3 na nL nF
    have nI : sI.heap.get? a = none := by
      cases z : sI.heap.get? a with
      | none => rfl
      | some o =>
        have e1 := nb a o z (by rw [hs]; exact nfr)
        have e2 := sky_none sky
        rw [e1] at e2
        cases e2
    have n0 : X.s_0.heap.get? a = none := by
      cases z : X.s_0.heap.get? a with
      | none => rfl
      | some o =>
        obtain ⟨o', e'⟩ := J.base.there a o z (by rw [hx]; exact List.not_mem_nil)
        rw [nI] at e'
        cases e'
    have npin : ∀ p ∈ X.pn ++ pins, p.1 ≠ a := fun p hp z => by
      have e1 := (J.pin p hp).1
      rw [z, nI] at e1
      cases e1
    have ncell : ∀ x c, X.env.cells.lookup x = some c → c ≠ a := fun x c hc z => by
      obtain ⟨v, hv⟩ := J.cell x c hc
      obtain ⟨o, ho, _⟩ := hv
      rw [z, nI] at ho
      cases ho
    have LT : PySem.W.Looks (model X.prog X.w) h3 (typeOf (.ref a)) cls := fun A Q E s k q => wpAny_typeOf_ref (k _ _ he3) (by rw [hz3.1]; exact q)
    have test : ∀ {x : Str} {c : Value} {np : Pos}, Names X x c → ∀ {Q : Value → Shared → Prop} {E : Value → Shared → Prop}, Q c { s' with heap := h3 } → wpAny (model X.prog X.w) (X.A.mark (some (.ref a))) (eval (.Name x np) X.env) Q E { s' with heap := h3 } := fun {x c np} hc {Q E} q => by
      obtain ⟨hg, hdbg, hm | ⟨hm, hv, hnn⟩⟩ := hc
      · exact ld_glob (X := X.suite a ((a, oe3) :: (X.pn ++ pins))) S3 hg hm q hdbg
      · exact ld_blt (X := X.suite a ((a, oe3) :: (X.pn ++ pins))) S3 hg hm hv q hnn hdbg
    have go : ∀ {hds' : List ExceptHandler} {l' : List Hd}, HdsN X hds' l' → wHdsK X.K Wout D l' cls d σ' H' →
        wpAny (model X.prog X.w) X.A (handleBy (.ref a) X.env hds') (SP X pins D) X.xe { s' with heap := h3 } := by
      intro hds' l' hk
      induction hk with
      | nil =>
        intro w
        refine wpAny_handleBy_nil ?_
        obtain ⟨k1, k2, k3, oe, vs, T, oT, ts', he, hz, hd, h1, hr⟩ := id fl3
        unfold PySem.passOn
        refine wpAny_bind (wpAny_field he hd h1 ?_)
        rw [if_neg (show ¬ ((Value.ref T == Value.none) = true) from by simp)]
        have fin : wpAny (model X.prog X.w) X.A (setFlight (.ref a) X.env.frame) (fun _ s4 => wpAny (model X.prog X.w) X.A (throw (.ref a) : Sem Flow) (SP X pins D) X.xe s4) X.xe { s' with heap := h3 } := by
          rw [hf]
          refine HandSPX.setFlight_upZ fl3 fun h4 hh4 up4 => wpAny_throw (tk _ _ ?_)
          exact ⟨a, B, sI, pins, σ', H', cls, d, rfl, J, nb, (up.trans up3).trans up4, .inr (.inr (by rw [hs]; exact hh4)), na, os, ag, w⟩
        first
          | exact wpAny_bind (wpAny_pure (wpAny_bind fin))
          | exact wpAny_bind fin
      | @cons x c ts b₀ suite np pos' hds2 l2 hc hsu r ih =>
        intro w
        obtain ⟨b, hb1, hyes, hno⟩ := w
        refine wpAny_handleBy_cons (codeAny_handlers_test ?_) (by intro q; cases q)
        have LM := PySem.W.exm_one (M := model X.prog X.w) (J3.kIn) LT hb1
        refine test hc (LM.here ?_)
        cases b with
        | true =>
          refine codeAny_handlers_suite (HandSPX.lands_againZ fl3 fun h4 fl4 up4 => ?_)
          have J4 : Inv X pins σ' H' { s' with heap := h4 } := J.landed nb fl4.1 ((up.trans up3).trans up4) os ag
          obtain ⟨oe4, vs4, he4, hz4, hd4⟩ := fl4.there
          have S4 := J4.suite he4 hd4 na nL nF
          refine wpAny_mono ((hsu a oe4 cls d (X.pn ++ pins) hz4 ⟨_, hd4⟩).run [] _ _ H' _ S4 (hyes rfl a na)) (fun f s6 hsp => ?_) (fun _ _ z => False.elim z)
          cases f with
          | ret u =>
            obtain ⟨v6, σ6, H6, S6, r6, q6⟩ := hsp
            exact ⟨_, _, _, S6.unsuite ok, r6, q6⟩
          | next => obtain ⟨σ6, H6, S6, q6⟩ := hsp; exact ⟨_, _, S6.unsuite ok, q6⟩
          | brk => obtain ⟨σ6, H6, S6, q6⟩ := hsp; exact ⟨_, _, S6.unsuite ok, q6⟩
          | cont => obtain ⟨σ6, H6, S6, q6⟩ := hsp; exact ⟨_, _, S6.unsuite ok, q6⟩
        | false =>
          show wpAny _ X.A (handleBy (.ref a) X.env hds2) _ _ _
          exact ih (hno rfl)
      | @named x n i c ts b₀ suite np pos' hds2 l2 hc hi hln hsu r ih =>
        intro w
        obtain ⟨b, hb1, hyes, hno⟩ := w
        refine wpAny_handleBy_cons (codeAny_handlers_test ?_) (by intro q; cases q)
        have LM := PySem.W.exm_one (M := model X.prog X.w) (J3.kIn) LT hb1
        refine test hc (LM.here ?_)
        cases b with
        | true =>
          refine codeAny_handlers_suite_as (HandSPX.lands_againZ fl3 fun h4 fl4 up4 => ?_)
          have J4 : Inv X pins σ' H' { s' with heap := h4 } := J.landed nb fl4.1 ((up.trans up3).trans up4) os ag
          obtain ⟨oe4, vs4, he4, hz4, hd4⟩ := fl4.there
          have S4 := J4.suite he4 hd4 na nL nF
          refine store_ok (X := X.suite a ((a, oe4) :: (X.pn ++ pins))) (v := .ref a) S4 hN hi (Or.inl hln) rfl (fun s5 S5 => ?_) (.inr hln)
          refine wpAny_mono ((hsu a oe4 cls d (X.pn ++ pins) hz4 ⟨_, hd4⟩).run [] s5 _ H' _ S5 (hyes rfl a na)) (fun f s6 hsp => ?_) (fun _ _ z => False.elim z)
          have finK : ∀ {σ6 : L2.St} {H6 : Hp} {Q : Shared → Prop}, Inv (X.suite a ((a, oe4) :: (X.pn ++ pins))) [] σ6 H6 s6 → (∀ s7, Inv X pins (σ6.set i none) (upd H6 a (exK a cls d)) s7 → Q s7) →
              wpAny (model X.prog X.w) X.A (do bindName X.env n .none; unbindBehindTheSuite X.env n pos') (fun _ s7 => Q s7) X.xe s6 := fun {σ6 H6 Q} S6 hq => by
            obtain ⟨p1, p2, p3, p4, _⟩ := S6.pin (a, oe4) (List.mem_append.mpr (.inl List.mem_cons_self))
            exact gone_ok ((S6.unsuite ok).trackX p1 p2 hz4 ⟨_, hd4⟩ n0 nL npin ncell) hN hi hln hq
          have fin2 : ∀ {σ6 : L2.St} {H6 : Hp} {Q : Shared → Prop}, Inv (X.suite a ((a, oe4) :: (X.pn ++ pins))) [] σ6 H6 s6 → (∀ s7, Inv X pins (σ6.set i none) H6 s7 → Q s7) →
              wpAny (model X.prog X.w) X.A (do bindName X.env n .none; unbindBehindTheSuite X.env n pos') (fun _ s7 => Q s7) X.xe s6 := fun {σ6 H6 Q} S6 hq => gone_ok (S6.unsuite ok) hN hi hln hq
          cases f with
          | ret u =>
            obtain ⟨v6, σ6, H6, S6, r6, q6⟩ := hsp
            exact fin2 S6 fun s7 J7 => ⟨_, _, _, J7, r6, q6⟩
          | next => obtain ⟨σ6, H6, S6, q6⟩ := hsp; exact finK S6 fun s7 J7 => ⟨_, _, J7, q6⟩
          | brk => obtain ⟨σ6, H6, S6, q6⟩ := hsp; exact fin2 S6 fun s7 J7 => ⟨_, _, J7, q6⟩
          | cont => obtain ⟨σ6, H6, S6, q6⟩ := hsp; exact fin2 S6 fun s7 J7 => ⟨_, _, J7, q6⟩
        | false =>
          show wpAny _ X.A (handleBy (.ref a) X.env hds2) _ _ _
          exact ih (hno rfl)
    exact go hh w
  · cases f with
    | ret u =>
      obtain ⟨v, σ', H', J', r, q⟩ := hsp
      exact ⟨v, σ', H', J'.ofTry ok, r, q⟩
    | next => obtain ⟨σ', H', J', q⟩ := hsp; exact wpAny_execs_nil ⟨σ', H', J'.ofTry ok, q⟩
    | brk => obtain ⟨σ', H', J', q⟩ := hsp; exact ⟨σ', H', J'.ofTry ok, q⟩
    | cont => obtain ⟨σ', H', J', q⟩ := hsp; exact ⟨σ', H', J'.ofTry ok, q⟩
end
end EM
/-! EM63: isinstance and the fields of an error that is kept in a name. -/
namespace EM
open PySem PySem.Spec PyProof.Rows L2
structure ExcK (K : PySem.W.Frag) (D : Addr) : Prop where
  c : ExcC K D
  cl : (PySem.W.clsIn K D).isSome = true
theorem excB_ok {K : PySem.W.Frag} {D : Addr} (h : excB K D = true) : ExcK K D := by
  obtain ⟨h1, h⟩ := Bool.and_eq_true_iff.mp h
  obtain ⟨h2, h⟩ := Bool.and_eq_true_iff.mp h
  obtain ⟨h3, h⟩ := Bool.and_eq_true_iff.mp h
  obtain ⟨h4, h⟩ := Bool.and_eq_true_iff.mp h
  obtain ⟨h5, h⟩ := Bool.and_eq_true_iff.mp h
  obtain ⟨h6, h⟩ := Bool.and_eq_true_iff.mp h
  obtain ⟨h7, h⟩ := Bool.and_eq_true_iff.mp h
  obtain ⟨h8, h9⟩ := Bool.and_eq_true_iff.mp h
  exact ⟨⟨of_decide_eq_true h1, of_decide_eq_true h2, of_decide_eq_true h3, h4, of_decide_eq_true h5, of_decide_eq_true h6, of_decide_eq_true h7, of_decide_eq_true h8⟩, h9⟩
/-- an error of the class C with the fields fs is kept at a -/
structure ErrP (p : Addr) (H : Hp) (a C d : Addr) (fs : List (Str × V)) : Prop where
  at_ : At p H a (exK a (.ref C) (some d))
  xd : At p H d (.xd fs)
theorem exK_ntbl {a : Addr} {cls : Value} {d : Option Addr} : ∀ ps, exK a cls d ≠ .tbl ps := fun ps z => by
  unfold exK at z
  cases z
theorem ErrP.ext {p : Addr} {H H' : Hp} {a C d : Addr} {fs : List (Str × V)} (h : ErrP p H a C d fs) (x : Ext p H H') : ErrP p H' a C d fs := ⟨h.at_.ext x, h.xd.ext x⟩
/-- the kept error is tracked from here on -/
theorem Bs.keepX {T : List (Addr × Str)} {p l a : Addr} {n : Nat} {H : Hp} {cls : Value} {d : Option Addr} (B : Bs T p l n H) (h : H a = none) : New H a (exK a cls d) (upd H a (exK a cls d)) := ⟨h, same_upd h, upd_same⟩
end EM
/-! EM64: an instance whose field is written; readings: rows of rising fractions. -/
namespace EM
open PySem PySem.Spec PyProof.Rows L2
/-- all but the pen, the tables and the instance r stays -/
structure XtR (p r : Addr) (H H' : Hp) : Prop where
  k : ∀ b o, H b = some o → b ≠ p → b ≠ r → (∀ ps, o ≠ .tbl ps) → H' b = some o
section
variable {T : List (Addr × Str)} {p l l0 r a b : Addr} {n : Nat} {H H1 H2 H' : Hp} {o o2 : HO} {K : PySem.W.Frag} {xs ys : List V} {v : V} {t c : Int} {C dx : Addr} {fs gs : List (Str × V)}
theorem XtR.refl : XtR p r H H := ⟨fun _ _ e _ _ _ => e⟩
theorem XtR.of (x : Ext p H H') : XtR p r H H' := ⟨fun b o e n1 _ n3 => x.k b o e n1 n3⟩
theorem XtR.trans (x : XtR p r H H1) (y : XtR p r H1 H2) : XtR p r H H2 := ⟨fun b o e n1 n2 n3 => y.k b o (x.k b o e n1 n2 n3) n1 n2 n3⟩
theorem XtR.mu (m : Mu r H H' o) : XtR p r H H' := ⟨fun b u e _ n2 _ => by rw [m.old b n2]; exact e⟩
theorem XtR.at_n (x : XtR p r H H') (h : At p H a o) (nr : a ≠ r) : At p H' a o := ⟨x.k a o h.at_ h.ne nr h.nt, h.ne, h.nt⟩
theorem XtR.at_ (x : XtR p r H H') (h : At p H a o) (g : At p H r (.ins C dx fs)) (ne : o ≠ .ins C dx fs) : At p H' a o := x.at_n h (ne_of h.at_ g.at_ ne)
theorem XtR.rat (x : XtR p r H H') (h : RatP K p H a t c) (g : At p H r (.ins C dx fs)) (ne : fs ≠ rf t c) : RatP K p H' a t c := by
  obtain ⟨⟨d, h⟩, n⟩ := h
  exact ⟨⟨d, x.k a _ h n (ne_of h g.at_ (by intro z; injection z with _ _ z; exact ne z.symm)) (fun _ z => by cases z)⟩, n⟩
theorem XtR.num (x : XtR p r H H') (h : NumP K p H v t c) (g : At p H r (.ins C dx fs)) (ne : fs ≠ rf t c) : NumP K p H' v t c := by
  obtain ⟨⟨lo, h⟩, n⟩ := h
  refine ⟨⟨lo, ?_⟩, n⟩
  rcases h with ⟨a, rfl, q⟩ | h
  · exact .inl ⟨a, rfl, (x.rat (K := K) ⟨q, fun z => n (by rw [z])⟩ g ne).rat⟩
  · exact .inr h
theorem tabs_mutI (t : LamX.Tabs T H) (hM : H a = some (.ins C dx fs)) : LamX.Tabs T (upd H a o) := by
  intro q hq
  obtain ⟨ps, h1, h2, h3⟩ := t q hq
  refine ⟨ps, by rw [upd_ne (ne_of h1 hM (by intro z; cases z))]; exact h1, h2, fun pos cv hc => ?_⟩
  obtain ⟨c, e1, e2⟩ := h3 pos cv hc
  exact ⟨c, e1, by rw [upd_ne (ne_of e2 hM (by unfold LamX.CodeO; intro z; cases z))]; exact e2⟩
theorem Mu.bsI (m : Mu r H H' o) (B : Bs T p l0 n H) (h : At p H r (.ins C dx fs)) : Bs T p l0 n H' := by
  rw [m.eq]
  obtain ⟨cells, at_, q, hp, hl, _⟩ := id B.pen
  exact ⟨B.pen.mut h.ne (ne_of h.at_ hl (by intro z; cases z)), tabs_mutI B.tab h.at_⟩
theorem Mu.hereI (m : Mu r H H' (.ins C dx gs)) (g : At p H r (.ins C dx fs)) : At p H' r (.ins C dx gs) := ⟨m.at_, g.ne, fun _ z => by cases z⟩
end
section
variable {X : Cx} {o e : Expr} {to te : TE} {f : Str} {pos pos' : Pos}
/-- o.f = e -/
def sFldN (K : PySem.W.Frag) (to tv : TE) (f : Str) : TS := fun D σ H => tv σ H fun y H1 => to σ H1 fun x H2 => ∃ a C dx fs, x = .ref a ∧ H2 a = some (.ins C dx fs) ∧ Cls K C ∧ NoAttr K C f ∧ fs.length < 1000 ∧
  ∀ H3, Mu a H2 H3 (.ins C dx (putF f y fs)) → D.nx σ H3
theorem ps_fldN (ha : PE X o to) (hv : PE X e te) (hs : swapsWith e (some (.Attribute o f pos')) pos.line X.env = pure false) : PS X (.Assign [.Attribute o f pos'] e pos) (sFldN X.K to te f) :=
  (ps_fld ha.mc hv.mc hs).of fun D σ H q => ⟨_, q, fun y H1 r1 => ⟨_, r1, fun x H2 ⟨a, C, dx, fs, e1, e2, e3, e4, e5, k⟩ => ⟨a, C, dx, fs, e1, e2, e3, e4, e5, k _ Mu.upd⟩⟩⟩
end
/-! ### readings -/
abbrev rdf (q : Addr) : List (Str × V) := [("own_edges", .ref q)]
/-- the reading at r holds the tuple q of the Ratios es -/
structure RdP (K : PySem.W.Frag) (p : Addr) (H : Hp) (r q : Addr) (es : List (Int × Int)) : Prop where
  h : ∃ dx xs, At p H r (.ins (He.ga K "Reading") dx (rdf q)) ∧ At p H q (.tup xs) ∧ RatsP K p H xs es
section
variable {T : List (Addr × Str)} {p l r q a b : Addr} {n : Nat} {H H1 H2 H' : Hp} {K : PySem.W.Frag} {xs ys : List V} {es : List (Int × Int)}
theorem RatsP.ext (h : RatsP K p H xs es) (x : Ext p H H') : RatsP K p H' xs es := ⟨h.len, fun i y t e1 e2 => by
  obtain ⟨a, e, r⟩ := h.h i y t e1 e2
  exact ⟨a, e, r.ext x⟩⟩
theorem RdP.ext (h : RdP K p H r q es) (x : Ext p H H') : RdP K p H' r q es := by
  obtain ⟨dx, xs, h1, h2, h3⟩ := h
  exact ⟨dx, xs, h1.ext x, h2.ext x, h3.ext x⟩
theorem rdf_ne {t b : Int} : rdf q ≠ rf t b := by
  intro z
  injection z with _ z
  cases z
theorem XtR.rats {C dx : Addr} (x : XtR p r H H') (h : RatsP K p H xs es) (g : At p H r (.ins C dx (rdf q))) : RatsP K p H' xs es := ⟨h.len, fun i y t e1 e2 => by
  obtain ⟨a, e, ra⟩ := h.h i y t e1 e2
  exact ⟨a, e, x.rat ra g rdf_ne⟩⟩
theorem Mu.rats {c : Addr} (m : Mu c H H' (.lst ys)) {zs : List V} (h : RatsP K p H xs es) (g : At p H c (.lst zs)) : RatsP K p H' xs es := ⟨h.len, fun i y t e1 e2 => by
  obtain ⟨a, e, ra⟩ := h.h i y t e1 e2
  exact ⟨a, e, m.rat ra g⟩⟩
theorem Mu.pairs {c : Addr} (m : Mu c H H' (.lst ys)) {zs : List V} (h : PairsP p H xs es) (g : At p H c (.lst zs)) : PairsP p H' xs es := ⟨h.len, fun i y t e1 e2 => by
  obtain ⟨a, e, ra⟩ := h.h i y t e1 e2
  exact ⟨a, e, m.at_k ra g (by intro _ z; cases z)⟩⟩
theorem Mu.rdp {c : Addr} (m : Mu c H H' (.lst ys)) {zs : List V} (h : RdP K p H r q es) (g : At p H c (.lst zs)) : RdP K p H' r q es := by
  obtain ⟨dx, xs, h1, h2, h3⟩ := h
  exact ⟨dx, xs, m.at_k h1 g (by intro _ z; cases z), m.at_k h2 g (by intro _ z; cases z), m.rats h3 g⟩
theorem RdP.at_ (h : RdP K p H r q es) : ∃ dx, At p H r (.ins (He.ga K "Reading") dx (rdf q)) := let ⟨dx, _, h1, _⟩ := h.h; ⟨dx, h1⟩
/-- the field of a reading is written -/
theorem RdP.put {q' dx : Addr} (m : Mu r H H' (.ins (He.ga K "Reading") dx (rdf q'))) (g : At p H r (.ins (He.ga K "Reading") dx (rdf q))) (h2 : At p H q' (.tup xs)) (h3 : RatsP K p H xs es) : RdP K p H' r q' es :=
  have x : XtR p r H H' := XtR.mu m
  ⟨dx, xs, m.hereI g, x.at_ h2 g (by intro z; cases z), x.rats h3 g⟩
end
/-! ### rows, plainly -/
/-- a rising row of fractions in lowest terms, of at most n bits -/
structure RowOk (n : Nat) (es : List (Int × Int)) : Prop where
  low : ∀ e ∈ es, Low e.1 e.2
  bt : ∀ e ∈ es, Bt n e.1 ∧ Bt n e.2
  rise : ∀ (i : Nat) e f, es[i]? = some e → es[i + 1]? = some f → e.1 * f.2 < f.1 * e.2
def addF (b : Int × Int) (e : Int × Int) : Int × Int := (nTop (e.1 * b.2 + b.1 * e.2) (e.2 * b.2), nBot (e.1 * b.2 + b.1 * e.2) (e.2 * b.2))
def mulF (b : Int × Int) (e : Int × Int) : Int × Int := (nTop (e.1 * b.1) (e.2 * b.2), nBot (e.1 * b.1) (e.2 * b.2))
theorem RowOk.mono {n m : Nat} {es : List (Int × Int)} (h : RowOk n es) (e : n ≤ m) : RowOk m es := ⟨h.low, fun e he => ⟨(h.bt e he).1.mono ‹_›, (h.bt e he).2.mono ‹_›⟩, h.rise⟩
theorem addF_low {b e : Int × Int} (hb : Low b.1 b.2) (he : Low e.1 e.2) : Low (addF b e).1 (addF b e).2 := n_low (Int.mul_ne_zero (by have := he.pos; omega) (by have := hb.pos; omega))
theorem mulF_low {b e : Int × Int} (hb : Low b.1 b.2) (he : Low e.1 e.2) : Low (mulF b e).1 (mulF b e).2 := n_low (Int.mul_ne_zero (by have := he.pos; omega) (by have := hb.pos; omega))
theorem addF_bt {b e : Int × Int} {n m k : Nat} (hb : Low b.1 b.2) (he : Low e.1 e.2) (h1 : Bt n e.1 ∧ Bt n e.2) (h2 : Bt m b.1 ∧ Bt m b.2) (hk : n + m + 1 ≤ k) : Bt k (addF b e).1 ∧ Bt k (addF b e).2 := by
  have h0 : e.2 * b.2 ≠ 0 := Int.mul_ne_zero (by have := he.pos; omega) (by have := hb.pos; omega)
  have t1 : Bt (n + m + 1) (e.1 * b.2 + b.1 * e.2) := ((h1.1.mul h2.2).add' (h2.1.mul h1.2)).mono (by omega)
  have t2 : Bt (n + m) (e.2 * b.2) := h1.2.mul h2.2
  exact ⟨(t1.top h0).mono hk, (t2.bot h0).mono (by omega)⟩
theorem mulF_bt {b e : Int × Int} {n m k : Nat} (hb : Low b.1 b.2) (he : Low e.1 e.2) (h1 : Bt n e.1 ∧ Bt n e.2) (h2 : Bt m b.1 ∧ Bt m b.2) (hk : n + m ≤ k) : Bt k (mulF b e).1 ∧ Bt k (mulF b e).2 := by
  have h0 : e.2 * b.2 ≠ 0 := Int.mul_ne_zero (by have := he.pos; omega) (by have := hb.pos; omega)
  exact ⟨((h1.1.mul h2.1).top h0).mono hk, ((h1.2.mul h2.2).bot h0).mono hk⟩
theorem addF_lt {b e f : Int × Int} (hb : Low b.1 b.2) (he : Low e.1 e.2) (hf : Low f.1 f.2) : (addF b e).1 * (addF b f).2 < (addF b f).1 * (addF b e).2 ↔ e.1 * f.2 < f.1 * e.2 := by
  have b0 := hb.pos
  have e0 := he.pos
  have f0 := hf.pos
  have p1 : 0 < e.2 * b.2 := Int.mul_pos e0 b0
  have p2 : 0 < f.2 * b.2 := Int.mul_pos f0 b0
  refine (cross_lt (addF_low hb he).pos (addF_low hb hf).pos p1 p2 n_cross n_cross).trans ?_
  exact move_lt b0
theorem mulF_lt {b e f : Int × Int} (hb : Low b.1 b.2) (h0 : 0 < b.1) (he : Low e.1 e.2) (hf : Low f.1 f.2) : (mulF b e).1 * (mulF b f).2 < (mulF b f).1 * (mulF b e).2 ↔ e.1 * f.2 < f.1 * e.2 := by
  have b0 := hb.pos
  have e0 := he.pos
  have f0 := hf.pos
  have p1 : 0 < e.2 * b.2 := Int.mul_pos e0 b0
  have p2 : 0 < f.2 * b.2 := Int.mul_pos f0 b0
  refine (cross_lt (mulF_low hb he).pos (mulF_low hb hf).pos p1 p2 n_cross n_cross).trans ?_
  exact times_lt h0 b0
theorem RowOk.map {n k : Nat} {es : List (Int × Int)} {F : Int × Int → Int × Int} (h : RowOk n es) (hl : ∀ e ∈ es, Low (F e).1 (F e).2) (hb : ∀ e ∈ es, Bt k (F e).1 ∧ Bt k (F e).2) (hr : ∀ e ∈ es, ∀ f ∈ es, e.1 * f.2 < f.1 * e.2 → (F e).1 * (F f).2 < (F f).1 * (F e).2) : RowOk k (es.map F) := by
  refine ⟨fun e he => ?_, fun e he => ?_, fun i e f h1 h2 => ?_⟩
  · obtain ⟨e0, h0, rfl⟩ := List.mem_map.mp he
    exact hl _ h0
  · obtain ⟨e0, h0, rfl⟩ := List.mem_map.mp he
    exact hb _ h0
  · rw [List.getElem?_map] at h1 h2
    obtain ⟨e0, g1, rfl⟩ := Option.map_eq_some_iff.mp h1
    obtain ⟨f0, g2, rfl⟩ := Option.map_eq_some_iff.mp h2
    exact hr _ (List.mem_of_getElem? g1) _ (List.mem_of_getElem? g2) (h.rise i _ _ g1 g2)
theorem RowOk.add {n m k : Nat} {es : List (Int × Int)} {b : Int × Int} (h : RowOk n es) (hb : Low b.1 b.2) (h2 : Bt m b.1 ∧ Bt m b.2) (hk : n + m + 1 ≤ k) : RowOk k (es.map (addF b)) :=
  h.map (fun e he => addF_low hb (h.low e he)) (fun e he => addF_bt hb (h.low e he) (h.bt e he) h2 hk) (fun e he f hf z => (addF_lt hb (h.low e he) (h.low f hf)).mpr z)
theorem RowOk.mul {n m k : Nat} {es : List (Int × Int)} {b : Int × Int} (h : RowOk n es) (hb : Low b.1 b.2) (h0 : 0 < b.1) (h2 : Bt m b.1 ∧ Bt m b.2) (hk : n + m ≤ k) : RowOk k (es.map (mulF b)) :=
  h.map (fun e he => mulF_low hb (h.low e he)) (fun e he => mulF_bt hb (h.low e he) (h.bt e he) h2 hk) (fun e he f hf z => (mulF_lt hb h0 (h.low e he) (h.low f hf)).mpr z)
end EM
/-! EM65: the order of great numbers (EM43 with more bits). -/
namespace EM
open PySem PySem.Spec PyProof.Rows L2
structure TwoW (K : PySem.W.Frag) (T : List (Addr × Str)) (p l : Addr) (n : Nat) (H : Hp) (x : Addr) (v : V) (t b u c : Int) : Prop where
  B : Bs T p l n H
  rx : RatP K p H x t b
  lo : Low t b
  ny : NumP K p H v u c
  bt : Bt 2000 t
  bb : Bt 2000 b
  bu : Bt 2000 u
  bc : Bt 2000 c
def spRelW (K : PySem.W.Frag) (f : Int → Bool) : Sp := fun vs H Q _ => ∃ T p l n x v t b u c, vs = [.ref x, v] ∧ TwoW K T p l n H x v t b u c ∧ ∀ H', Ext p H H' → Bs T p l n H' → Q (.bl (f (nTop (t * c + -u * b) (b * c)))) H'
def spEqXW (K : PySem.W.Frag) : Sp := fun vs H Q E => spRelW K (relZ .Eq) vs H Q E ∨ ∃ x v, vs = [.ref x, v] ∧ NoNum K H v ∧ Q (.bl false) H
structure RelW (K : PySem.W.Frag) (op : CmpOp) (x y : V) (H : Hp) (Q : VK) : Prop where
  h : ∃ T p l n t b u c, Bs T p l n H ∧ NumP K p H x t b ∧ NumP K p H y u c ∧ ((∃ a, x = V.ref a) ∨ ∃ a, y = V.ref a) ∧ Bt 2000 t ∧ Bt 2000 b ∧ Bt 2000 u ∧ Bt 2000 c ∧ ∀ H', Ext p H H' → Bs T p l n H' → Q (.bl (relB op (t * c) (u * b))) H'
theorem relw_bs {K : PySem.W.Frag} {op : CmpOp} {x y : V} {H : Hp} {Q : VK} {T : List (Addr × Str)} {p l : Addr} {n : Nat} {t b u c : Int} (B : Bs T p l n H) (nx : NumP K p H x t b) (ny : NumP K p H y u c) (hr : (∃ a, x = V.ref a) ∨ ∃ a, y = V.ref a) (bt : Bt 2000 t) (bb : Bt 2000 b) (bu : Bt 2000 u) (bc : Bt 2000 c)
    (k : ∀ H', Ext p H H' → Bs T p l n H' → Q (.bl (relB op (t * c) (u * b))) H') : RelW K op x y H Q := ⟨T, p, l, n, t, b, u, c, B, nx, ny, hr, bt, bb, bu, bc, k⟩
section
variable {X : Cx} {n : Nat} {g gr : Addr} {E : XK}
/-- <, <=, >, >= of numbers, one of them at least a Ratio -/
theorem op_relW {op : CmpOp} (hop : op = .Lt ∨ op = .LtE ∨ op = .Gt ∨ op = .GtE) (hs : PySem.W.findIn X.K (.ref (He.ga X.K "Ratio")) (cmpInfo op).2.1 = some (some (.ref g))) (hf : PySem.W.isFn X.K (.ref g) = true) (hs2 : PySem.W.findIn X.K (.ref (He.ga X.K "Ratio")) (cmpInfo op).2.2 = some (some (.ref gr))) (hf2 : PySem.W.isFn X.K (.ref gr) = true)
    (A : Apart X.K (He.ga X.K "Ratio")) (F : FnR X.prog X.w X.K X.mg X.base (L2.CX X.prog X.w) n g (Sw (spRelW X.K (relZ op)))) (F2 : FnR X.prog X.w X.K X.mg X.base (L2.CX X.prog X.w) n gr (Sw (spRelW X.K (relZ (flip op))))) (hr : Room n X.A) : OpR X (compareOp op) (RelW X.K op) := by
  have h1 := op_cmpL (E := E0) (op := op) (by rcases hop with rfl | rfl | rfl | rfl <;> exact fun _ _ => rfl) hs hf A F hr passL
  have h2 := op_ltR (E := E0) hop hs2 hf2 A F2 hr passL
  refine opR_of (op_two h1 h2) fun x y H Q ⟨h⟩ => ?_
  obtain ⟨T, p, l, m, t, b, u, c, B, nx, ny, hor, bt, bb, bu, bc, k⟩ := h
  have lo := nx.num.1
  have lo2 := ny.num.1
  rcases nx.num.2 with ⟨a, rfl, dx, ra⟩ | ⟨rfl, rfl⟩
  · refine .inl ⟨a, dx, _, rfl, ra, ?_, ⟨⟨T, p, l, m, a, y, t, b, u, c, rfl, ⟨B, num_l nx, lo, ny, bt, bb, bu, bc⟩, fun H' x1 B1 => by rw [rel_val lo lo2]; exact k H' x1 B1⟩⟩⟩
    rcases ny.num.2 with ⟨a2, rfl, dy, rb⟩ | ⟨rfl, _⟩
    · exact .inl ⟨a2, dy, _, rfl, rb⟩
    · exact .inr ⟨_, .int _⟩
  · rcases ny.num.2 with ⟨a2, rfl, dy, rb⟩ | ⟨rfl, rfl⟩
    · refine .inr ⟨a2, dy, _, rfl, rb, ⟨_, .int t⟩, ⟨t, rfl⟩, ⟨⟨T, p, l, m, a2, .int t, u, c, t, 1, rfl, ⟨B, num_l ny, lo2, nx, bu, bc, bt, bb⟩, fun H' x1 B1 => by rw [rel_val lo2 lo, rel_flip]; exact k H' x1 B1⟩⟩⟩
    · rcases hor with ⟨a, e⟩ | ⟨a, e⟩ <;> cases e
theorem op_relEW (hs : PySem.W.findIn X.K (.ref (He.ga X.K "Ratio")) "__eq__" = some (some (.ref g))) (hf : PySem.W.isFn X.K (.ref g) = true) (A : Apart X.K (He.ga X.K "Ratio")) (F : FnR X.prog X.w X.K X.mg X.base (L2.CX X.prog X.w) n g (Sw (spEqXW X.K))) (hr : Room n X.A) : OpR X (compareOp .Eq) (RelW X.K .Eq) := by
  have h1 := op_cmpL (E := E0) (op := .Eq) (fun _ _ => rfl) hs hf A F hr passL
  have h2 := op_eqR (E := E0) hs hf A F hr passL
  refine opR_of (op_two h1 h2) fun x y H Q ⟨h⟩ => ?_
  obtain ⟨T, p, l, m, t, b, u, c, B, nx, ny, hor, bt, bb, bu, bc, k⟩ := h
  have lo := nx.num.1
  have lo2 := ny.num.1
  rcases nx.num.2 with ⟨a, rfl, dx, ra⟩ | ⟨rfl, rfl⟩
  · refine .inl ⟨a, dx, _, rfl, ra, ?_, ⟨.inl ⟨T, p, l, m, a, y, t, b, u, c, rfl, ⟨B, num_l nx, lo, ny, bt, bb, bu, bc⟩, fun H' x1 B1 => by rw [rel_val lo lo2]; exact k H' x1 B1⟩⟩⟩
    rcases ny.num.2 with ⟨a2, rfl, dy, rb⟩ | ⟨rfl, _⟩
    · exact .inl ⟨a2, dy, _, rfl, rb⟩
    · exact .inr ⟨_, .int _⟩
  · rcases ny.num.2 with ⟨a2, rfl, dy, rb⟩ | ⟨rfl, rfl⟩
    · refine .inr ⟨a2, dy, _, rfl, rb, ⟨_, .int t⟩, trivial, ⟨.inl ⟨T, p, l, m, a2, .int t, u, c, t, 1, rfl, ⟨B, num_l ny, lo2, nx, bu, bc, bt, bb⟩, fun H' x1 B1 => by rw [(rel_val (op := .Eq) lo2 lo).trans (rel_flip (op := .Eq))]; exact k H' x1 B1⟩⟩⟩
    · rcases hor with ⟨a, e⟩ | ⟨a, e⟩ <;> cases e
end
end EM
/-! EM66: == of tuples whose items are compared by defs of the program. -/
namespace PySem.SeqAt
open AutoSeq1 (wpAny_loadPart')
open MeetsSeq MeetsSeq2 MeetsSeq3 SeqRoads2
end PySem.SeqAt
/-! EM67: promises of readings; fields read anew; a subscript of an instance that is set; tuples of Ratios compared. -/
namespace EM
open PySem PySem.Spec PyProof.Rows L2
/-! ### fields -/
structure FldS (K : PySem.W.Frag) (f : Str) (x : V) (H : Hp) (Q : VK) : Prop where
  h : ∃ a C dx fs v, x = .ref a ∧ H a = some (.ins C dx fs) ∧ Cls K C ∧ NoAttr K C f ∧ fs.lookup f = some v ∧ Q v H
def tFldN (K : PySem.W.Frag) (f : Str) (te : TE) : TE := fun σ H Q => te σ H fun x H1 => FldS K f x H1 Q
theorem pe_fldN {X : Cx} {e : Expr} {te : TE} {pos : Pos} {f : Str} (he : PE X e te) (hab : attributeBase e f X.env (eval e X.env) = eval e X.env := by rfl) : PE X (.Attribute e f pos) (tFldN X.K f te) :=
  (pe_fld he.mc hab).of fun σ H Q q => ⟨_, q, fun x H1 ⟨⟨a, C, dx, fs, v, e, h, c, n, l, k⟩⟩ => ⟨a, C, dx, fs, v, e, h, c, n, l, k⟩⟩
theorem fld_bs {K : PySem.W.Frag} {f : Str} {p a C dx : Addr} {H : Hp} {fs : List (Str × V)} {v : V} {Q : VK} (h : At p H a (.ins C dx fs)) (c : Cls K C) (n : NoAttr K C f) (e : fs.lookup f = some v) (k : Q v H) : FldS K f (.ref a) H Q := ⟨a, C, dx, fs, v, rfl, h.at_, c, n, e, k⟩
/-! ### isinstance of kept errors, told -/
/-! ### promises of readings -/
/-- an index that is none -/
def NoIxR (K : PySem.W.Frag) (p : Addr) (H : Hp) (m : Nat) (y : V) : Prop := (∃ i, y = .int i ∧ ¬ (0 ≤ i ∧ i < (m : Int))) ∨ OddM K p H y
theorem NoIxR.ext {K : PySem.W.Frag} {p : Addr} {H H' : Hp} {m : Nat} {y : V} (h : NoIxR K p H m y) (x : Ext p H H') : NoIxR K p H' m y := by
  rcases h with h | h
  · exact .inl h
  · exact .inr (h.ext x)
/-- an own error with one field -/
def ErrOut (K : PySem.W.Frag) (T : List (Addr × Str)) (p l : Addr) (n : Nat) (H : Hp) (E : XK) (C f : Str) (v : V) : Prop := ∀ d H', Ext p H H' → Bs T p l n H' → At p H' d (.xd [(f, v)]) → E (.ref (He.ga K C)) (some d) H'
theorem ErrOut.ext {K : PySem.W.Frag} {T : List (Addr × Str)} {p l : Addr} {n : Nat} {H H1 : Hp} {E : XK} {C f : Str} {v : V} (h : ErrOut K T p l n H E C f v) (x : Ext p H H1) : ErrOut K T p l n H1 E C f v := fun d H' x1 B1 a1 => h d H' (x.trans x1) B1 a1
def spCountR : Sp := fun vs H Q _ => ∃ m : Nat, vs = [.int m] ∧ Q (.bl (decide (m % 2 = 0 ∧ 4 ≤ m ∧ m ≤ 128))) H
def okLen (n : Nat) : Prop := n % 2 = 0 ∧ 4 ≤ n ∧ n ≤ 128
def spEdgesR (K : PySem.W.Frag) : Sp := fun vs H Q _ => ∃ (T : List (Addr × Str)) (p l a : Addr) (n : Nat) (xs : List V) (es : List (Int × Int)), vs = [.ref a] ∧ Bs T p l n H ∧ At p H a (.tup xs) ∧ NumsP K p H xs es ∧ RowOk 2000 es ∧ es.length ≤ 128 ∧
  ∀ q ys H', Ext p H H' → Bs T p l n H' → At p H' q (.tup ys) → RatsP K p H' ys es → Q (.ref q) H'
def spInitR (K : PySem.W.Frag) : Sp := fun vs H Q _ => ∃ (T : List (Addr × Str)) (p l x dx W : Addr) (n : Nat) (xs : List V) (es : List (Int × Int)), vs = [.ref x, .ref W] ∧ Bs T p l n H ∧ H x = some (.ins (He.ga K "Reading") dx []) ∧ At p H W (.tup xs) ∧ NumsP K p H xs es ∧ RowOk 2000 es ∧ okLen es.length ∧
  ∀ H' q, XtR p x H H' → Bs T p l n H' → RdP K p H' x q es → Q .non H'
abbrev spInitRS (K : PySem.W.Frag) : Sp := fun vs H Q E => ∃ ws rest, vs = ws ++ rest ∧ ws.length = ["self"].length ∧ rest.length ≤ sizeLine ∧ ∀ W, H W = none → spInitR K (ws ++ [V.ref W]) (upd H W (.tup rest)) Q E
/-- nothing that is kept stood at r -/
structure Fresh (p : Addr) (H : Hp) (r : Addr) : Prop where
  h : ∀ o, H r = some o → r = p ∨ ∃ ps, o = .tbl ps
theorem Fresh.none {p r : Addr} {H : Hp} (h : H r = none) : Fresh p H r := ⟨fun o e => by rw [h] at e; cases e⟩
theorem Fresh.back {p r : Addr} {H H1 : Hp} (f : Fresh p H1 r) (x : Ext p H H1) : Fresh p H r := ⟨fun o e => Classical.byContradiction fun z => by
  have n1 : r ≠ p := fun y => z (.inl y)
  have n2 : ∀ ps, o ≠ .tbl ps := fun ps y => z (.inr ⟨ps, y⟩)
  exact z (f.h o (x.k r o e n1 n2))⟩
theorem Fresh.ne {p r a : Addr} {H : Hp} {o : HO} (f : Fresh p H r) (h : At p H a o) : r ≠ a := fun z => by
  subst z
  rcases f.h o h.at_ with e | ⟨ps, e⟩
  · exact h.ne e
  · exact h.nt ps e
/-- Reading(..) of rising numbers -/
def spReadX (K : PySem.W.Frag) : Sp := fun vs H Q _ => ∃ (T : List (Addr × Str)) (p l : Addr) (n : Nat) (es : List (Int × Int)), Bs T p l n H ∧ NumsP K p H vs es ∧ RowOk 2000 es ∧ okLen es.length ∧
  ∀ r q H', Ext p H H' → Bs T p l n H' → RdP K p H' r q es → Fresh p H r → Q (.ref r) H'
theorem XtR.toExt {p x : Addr} {H0 H H' : Hp} (x1 : Ext p H0 H) (y : XtR p x H H') (nx : H0 x = none) : Ext p H0 H' := ⟨fun b o e n1 n3 => y.k b o (x1.k b o e n1 n3) n1 (ne_of_none e nx) n3⟩
theorem mk_ReadX {K : PySem.W.Frag} {H : Hp} {Q : VK} {vs : List V} {E : XK} (h : spReadX K vs H Q E) : ∀ x dx, H x = none → H dx = none → dx ≠ x → spInitRS K (V.ref x :: vs) (upd (upd H dx (.own x)) x (.ins (He.ga K "Reading") dx [])) (fun v H2 => v = .non ∧ Q (.ref x) H2) E := by
  intro x dx nx nd ne
  obtain ⟨T, p, l, n, es, B, hv, ho, hl, k⟩ := h
  refine ⟨[.ref x], vs, rfl, rfl, sz (by rw [hv.len]; have := hl.2.2; omega), fun W hW => ?_⟩
  have s1 : Same H (upd H dx (.own x)) := same_upd nd
  have nx1 : upd H dx (.own x) x = none := by rw [upd_ne ne.symm]; exact nx
  have s2 : Same (upd H dx (.own x)) (upd (upd H dx (.own x)) x (.ins (He.ga K "Reading") dx [])) := same_upd nx1
  have s3 := same_upd (o := HO.tup vs) hW
  have s : Same H (upd (upd (upd H dx (.own x)) x (.ins (He.ga K "Reading") dx [])) W (.tup vs)) := (s1.trans s2).trans s3
  have B3 := B.same s
  have x3 : Ext p H _ := Ext.same s
  have nxW : x ≠ W := by
    intro z
    subst z
    rw [upd_same] at hW
    cases hW
  exact ⟨T, p, l, x, dx, W, n, vs, es, rfl, B3, by rw [upd_ne nxW, upd_same], B3.at_ upd_same (fun _ z => by cases z) (fun _ z => by cases z), hv.ext x3, ho, hl, fun H' q y B' rd => ⟨rfl, k x q H' (XtR.toExt x3 y nx) B' rd (Fresh.none nx)⟩⟩
def spOfR (K : PySem.W.Frag) : Sp := fun vs H Q _ => ∃ (T : List (Addr × Str)) (p l a : Addr) (n : Nat) (c : V) (xs : List V) (es : List (Int × Int)), vs = [c, .ref a] ∧ Bs T p l n H ∧ SeqV p H a xs ∧ NumsP K p H xs es ∧ RowOk 2000 es ∧ okLen es.length ∧
  ∀ r q H', Ext p H H' → Bs T p l n H' → RdP K p H' r q es → Fresh p H r → Q (.ref r) H'
def spRdEdges (K : PySem.W.Frag) : Sp := fun vs H Q _ => ∃ (p r q : Addr) (es : List (Int × Int)), vs = [.ref r] ∧ RdP K p H r q es ∧ Q (.ref q) H
structure RdgS (K : PySem.W.Frag) (x : V) (H : Hp) (Q : VK) : Prop where
  h : ∃ (p r q : Addr) (es : List (Int × Int)), x = .ref r ∧ RdP K p H r q es ∧ Q (.ref q) H
def tRdg (K : PySem.W.Frag) (te : TE) : TE := fun σ H Q => te σ H fun x H1 => RdgS K x H1 Q
theorem rdg_bs {K : PySem.W.Frag} {p r q : Addr} {es : List (Int × Int)} {H : Hp} {Q : VK} (h : RdP K p H r q es) (k : Q (.ref q) H) : RdgS K (.ref r) H Q := ⟨p, r, q, es, rfl, h, k⟩
/-- Reading( *e) -/
def tStarR (K : PySem.W.Frag) (E : XK) (te : TE) : TE := fun σ H Q => te σ H fun v H1 => ∃ a xs, v = V.ref a ∧ (SqT K H1 a xs ∨ SqL K H1 a xs) ∧ Sw (spReadX K) xs H1 Q E
/-! ### r[i] = v by an own __setitem__ -/
def rSetO (C : Addr) (sp : Sp) (E : XK) : V → V → V → Hp → (Hp → Prop) → Prop := fun o i v H Q => ∃ a dx fs, o = .ref a ∧ H a = some (.ins C dx fs) ∧ sp [.ref a, i, v] H (fun _ H' => Q H') E
section
variable {X : Cx} {CX : CXT} {n : Nat} {g C : Addr} {sp : Sp} {E : XK}
theorem set_own (hq : PySem.W.noSeq X.K C = true) (hs : PySem.W.findIn X.K (.ref C) "__setitem__" = some (some (.ref g))) (hf : PySem.W.isFn X.K (.ref g) = true) (F : FnR X.prog X.w X.K X.mg X.base CX n g sp) (hr : Room n X.A) (hx : Passes CX X E) : PSet X (rSetO C sp E) := by
  intro pins s σ H o i v ov iv u Q I ro ri rv h
  obtain ⟨a, dx, fs, rfl, hA, q⟩ := h
  cases (show ov = Value.ref a from ro)
  obtain ⟨ox, od, J, _⟩ := ins_at I hA
  obtain ⟨m, hF⟩ := I.fr
  have c := run_fnR (us := [.ref a, iv, u]) (vs := [.ref a, i, v]) F hr hx I (.cons rfl (.cons ri (.cons rv .nil))) q
  refine PySem.W.ksp_setItem hF I.ok.mod.kin J hq hs hf (wpAny_mono (wpAny_call c) (fun w s' z => ?_) fun _ _ z => z)
  obtain ⟨z', H', I', rz, qz⟩ := z
  exact ⟨H', I', qz⟩
end
/-! ### tuples of Ratios compared -/
theorem rel_eq {t b u c : Int} (h : Low t b) (g : Low u c) : relB .Eq (t * c) (u * b) = decide ((t, b) = (u, c)) := by
  show decide (V.int (t * c) = V.int (u * b)) = _
  rw [dVi]
  by_cases z : (t, b) = (u, c)
  · injection z with e1 e2
    subst e1 e2
    simp
  · rw [decide_eq_false z]
    refine decide_eq_false (fun e => ?_)
    obtain ⟨e1, e2⟩ := low_eq h g e
    exact z (by rw [e1, e2])
end EM
/-! EM68: enumerate of a tuple, told; rows grown item by item. -/
namespace EM
open PySem PySem.Spec PyProof.Rows L2
structure EnT (K : PySem.W.Frag) (vs : List V) (H : Hp) (R : It → Hp → Prop) : Prop where
  h : ∃ a xs, vs = [.ref a] ∧ H a = some (.tup xs) ∧ R (IteT K a) H
def iEnTN (K : PySem.W.Frag) (ta : TA) : TI := fun σ H R => ta σ H fun vs H1 => EnT K vs H1 R
theorem pi_enumTN {X : Cx} {e : Expr} {ta : TA} {p pos tpos : Pos} {elts : List Expr} {kk : Nat} (hg : Gl X "enumerate") (hm : X.mg "enumerate" = none) (ha : PA X [e] ta) (hs : starEach [e] X.env = [(false, eval e X.env)] := by rfl) :
    PI X (.Tuple elts kk tpos) (.Call (.Name "enumerate" p) [e] [] pos) (iEnTN X.K ta) := ⟨fun pins s σ H R I h => (pi_enumT hg hm ha.mc hs).run pins s σ H R I ⟨_, h, fun vs H1 ⟨⟨a, xs, e, h1, k⟩⟩ => ⟨a, xs, e, SqT.of h1, k⟩⟩⟩
section
variable {T : List (Addr × Str)} {p l a b : Addr} {n : Nat} {H H' : Hp} {K : PySem.W.Frag} {xs ys : List V} {R : It → Hp → Prop} {es fs : List (Int × Int)}
theorem enT (h : At p H a (.tup xs)) (k : R (IteT K a) H) : EnT K [.ref a] H R := ⟨a, xs, rfl, h.at_, k⟩
theorem Mu.nums {c : Addr} {zs us : List V} (m : Mu c H H' (.lst us)) (h : NumsP K p H xs es) (g : At p H c (.lst zs)) : NumsP K p H' xs es := ⟨h.len, fun i x t e1 e2 => m.num (h.h i x t e1 e2) g⟩
theorem RatsP.nil : RatsP K p H [] [] := ⟨rfl, fun i x t e => by simp at e⟩
theorem RatsP.snoc {e : Int × Int} (h : RatsP K p H xs es) (g : RatP K p H a e.1 e.2) : RatsP K p H (xs ++ [.ref a]) (es ++ [e]) := by
  refine ⟨by simp [h.len], fun i x t e1 e2 => ?_⟩
  rcases Nat.lt_or_ge i xs.length with z | z
  · rw [List.getElem?_append_left z] at e1
    rw [List.getElem?_append_left (by rw [← h.len]; exact z)] at e2
    exact h.h i x t e1 e2
  · rw [List.getElem?_append_right z] at e1
    rw [List.getElem?_append_right (by rw [← h.len]; exact z)] at e2
    rw [← h.len] at e2
    rcases Nat.eq_zero_or_pos (i - xs.length) with z0 | z0
    · rw [z0] at e1 e2
      cases e1
      cases e2
      exact ⟨a, rfl, g⟩
    · rw [List.getElem?_eq_none (by simp; omega)] at e1
      cases e1
theorem PairsP.nil : PairsP p H [] [] := ⟨rfl, fun i x t e => by simp at e⟩
theorem PairsP.snoc {e : Int × Int} (h : PairsP p H xs es) (g : At p H a (.tup [.int e.1, .int e.2])) : PairsP p H (xs ++ [.ref a]) (es ++ [e]) := by
  refine ⟨by simp [h.len], fun i x t e1 e2 => ?_⟩
  rcases Nat.lt_or_ge i xs.length with z | z
  · rw [List.getElem?_append_left z] at e1
    rw [List.getElem?_append_left (by rw [← h.len]; exact z)] at e2
    exact h.h i x t e1 e2
  · rw [List.getElem?_append_right z] at e1
    rw [List.getElem?_append_right (by rw [← h.len]; exact z)] at e2
    rw [← h.len] at e2
    rcases Nat.eq_zero_or_pos (i - xs.length) with z0 | z0
    · rw [z0] at e1 e2
      cases e1
      cases e2
      exact ⟨a, rfl, g⟩
    · rw [List.getElem?_eq_none (by simp; omega)] at e1
      cases e1
/-- an item of a row -/
theorem RatsP.get {i : Nat} {e : Int × Int} (h : RatsP K p H xs es) (g : es[i]? = some e) : ∃ a, xs[i]? = some (.ref a) ∧ RatP K p H a e.1 e.2 := by
  have hi : i < xs.length := by rw [h.len]; exact (List.getElem?_eq_some_iff.mp g).1
  obtain ⟨a, ea, r⟩ := h.h i _ e (List.getElem?_eq_getElem hi) g
  exact ⟨a, by rw [List.getElem?_eq_getElem hi, ea], r⟩
theorem PairsP.get {i : Nat} {e : Int × Int} (h : PairsP p H xs es) (g : es[i]? = some e) : ∃ a, xs[i]? = some (.ref a) ∧ At p H a (.tup [.int e.1, .int e.2]) := by
  have hi : i < xs.length := by rw [h.len]; exact (List.getElem?_eq_some_iff.mp g).1
  obtain ⟨a, ea, r⟩ := h.h i _ e (List.getElem?_eq_getElem hi) g
  exact ⟨a, by rw [List.getElem?_eq_getElem hi, ea], r⟩
theorem NumsP.get {i : Nat} {e : Int × Int} (h : NumsP K p H xs es) (g : es[i]? = some e) : ∃ v, xs[i]? = some v ∧ NumP K p H v e.1 e.2 := by
  have hi : i < xs.length := by rw [h.len]; exact (List.getElem?_eq_some_iff.mp g).1
  exact ⟨_, List.getElem?_eq_getElem hi, h.h i _ e (List.getElem?_eq_getElem hi) g⟩
theorem RatsP.nums {n : Nat} (h : RatsP K p H xs es) (o : RowOk n es) : NumsP K p H xs es := ⟨h.len, fun i x t e1 e2 => by
  obtain ⟨a, rfl, r⟩ := h.h i x t e1 e2
  exact r.num (o.low t (List.mem_of_getElem? e2))⟩
theorem RdP.put0 {r q' dx : Addr} {fs : List (Str × V)} (m : Mu r H H' (.ins (He.ga K "Reading") dx (rdf q'))) (g : At p H r (.ins (He.ga K "Reading") dx fs)) (h2 : At p H q' (.tup xs)) (h3 : RatsP K p H xs es) (hne : ∀ t b, fs ≠ rf t b) : RdP K p H' r q' es :=
  have x : XtR p r H H' := XtR.mu m
  ⟨dx, xs, m.hereI g, x.at_ h2 g (by intro z; cases z), ⟨h3.len, fun i y t e1 e2 => by
    obtain ⟨a, e, ra⟩ := h3.h i y t e1 e2
    exact ⟨a, e, x.rat ra g (hne _ _)⟩⟩⟩
theorem take_snocE {α : Type} {l : List α} {i : Nat} {x : α} (h : l[i]? = some x) : l.take (i + 1) = l.take i ++ [x] := by
  rw [List.take_add_one, h]
  rfl
theorem RowOk.not_le {n i : Nat} {e f : Int × Int} (o : RowOk n es) (h1 : es[i]? = some e) (h2 : es[i + 1]? = some f) : relB .LtE (f.1 * e.2) (e.1 * f.2) = false := by
  have := o.rise i e f h1 h2
  show decide (f.1 * e.2 ≤ e.1 * f.2) = false
  exact decide_eq_false (by omega)
end
/-! ### starred items of a display, slices of tuples -/
structure StrS (x : V) (H : Hp) (k : List V → Prop) : Prop where
  h : ∃ p xs, x = .ref p ∧ H p = some (.tup xs) ∧ k xs
def tStarN (te : TE) (t : TA) : TA := fun σ H Q => te σ H fun x H1 => StrS x H1 fun xs => t σ H1 fun ys H2 => Q (xs ++ ys) H2
theorem pa_starN {X : Cx} {e : Expr} {es : List Expr} {te : TE} {t : TA} {p : Pos} (he : PE X e te) (hr : PA X es t) (hs : starEach (.Starred e p :: es) X.env = (true, eval e X.env) :: starEach es X.env := by rfl) : PA X (.Starred e p :: es) (tStarN te t) :=
  ⟨fun pos pins s σ H Q I h => (StX.pa_star he.mc hr.mc hs).run pos pins s σ H Q I ⟨_, h, fun x H1 ⟨⟨q, xs, e, hx, k⟩⟩ => ⟨q, xs, e, .inl (SqT.of hx), _, k, fun _ _ z => z⟩⟩⟩
theorem strT {p a : Addr} {H : Hp} {xs : List V} {k : List V → Prop} (h : At p H a (.tup xs)) (q : k xs) : StrS (.ref a) H k := ⟨a, xs, rfl, h.at_, q⟩
structure SlT (x : V) (lo hi : Option Int) (H : Hp) (Q : VK) : Prop where
  h : ∃ a xs, x = .ref a ∧ H a = some (.tup xs) ∧ ¬ (HT.sIx xs.length 0 lo = 0 ∧ HT.sIx xs.length xs.length hi = xs.length) ∧ DnS (.tup (cutV xs lo hi)) H Q
theorem sl_tupN {X : Cx} : SlR X SlT := by
  intro pins s σ H x v vl vu lo hi sl Q I rx hs pl pu q
  obtain ⟨a, xs, e, h, z, k⟩ := q
  exact sl_tup pins s σ H x v vl vu lo hi sl Q I rx hs pl pu ⟨a, xs, e, SqT.of h, z, New.upd k.h⟩
theorem cut_to (xs : List V) (j : Nat) (h : j ≤ xs.length) : cutV xs none (some (j : Int)) = xs.take j := by
  unfold cutV
  rw [HT.sIx_nat, Nat.min_eq_left h]
  simp [HT.sIx_none]
theorem slT_to {p a : Addr} {H : Hp} {xs : List V} {j : Nat} {Q : VK} (h : At p H a (.tup xs)) (hj : j < xs.length) (k : DnS (.tup (xs.take j)) H Q) : SlT (.ref a) none (some (j : Int)) H Q :=
  ⟨a, xs, rfl, h.at_, by rw [HT.sIx_nat]; omega, by rw [cut_to xs j (by omega)]; exact k⟩
theorem slT_from {p a : Addr} {H : Hp} {xs : List V} {j : Nat} {Q : VK} (h : At p H a (.tup xs)) (hj : j ≤ xs.length) (h0 : 0 < j) (k : DnS (.tup (xs.drop j)) H Q) : SlT (.ref a) (some (j : Int)) none H Q :=
  ⟨a, xs, rfl, h.at_, by rw [HT.sIx_nat]; omega, by rw [cut_from xs j hj]; exact k⟩
theorem RatsP.set {K : PySem.W.Frag} {p a : Addr} {H : Hp} {xs : List V} {es : List (Int × Int)} {i : Nat} {e : Int × Int} (h : RatsP K p H xs es) (g : RatP K p H a e.1 e.2) : RatsP K p H (xs.set i (.ref a)) (es.set i e) := by
  refine ⟨by simp [h.len], fun j x t e1 e2 => ?_⟩
  rw [List.getElem?_set] at e1 e2
  by_cases z : i = j
  · subst z
    by_cases hl : i < xs.length
    · rw [if_pos rfl, if_pos hl] at e1
      rw [if_pos rfl, if_pos (by rw [← h.len]; exact hl)] at e2
      cases e1
      cases e2
      exact ⟨a, rfl, g⟩
    · rw [if_pos rfl, if_neg hl] at e1
      cases e1
  · rw [if_neg z] at e1 e2
    exact h.h j x t e1 e2
theorem set_cut {α : Type} (xs : List α) (i : Nat) (x : α) (h : i < xs.length) : xs.set i x = xs.take i ++ ([x] ++ xs.drop (i + 1)) := by
  rw [List.set_eq_take_append_cons_drop, if_pos h]
  rfl
section
variable {p r q a C d : Addr} {H H' : Hp} {K : PySem.W.Frag} {xs : List V} {es : List (Int × Int)} {fs : List (Str × V)}
theorem RatsP.xt (x : Ext p H H') (h : RatsP K p H xs es) : RatsP K p H' xs es := h.ext x
theorem NumsP.xt (x : Ext p H H') (h : NumsP K p H xs es) : NumsP K p H' xs es := h.ext x
theorem PairsP.xt (x : Ext p H H') (h : PairsP p H xs es) : PairsP p H' xs es := h.ext x
theorem RdP.xt (x : Ext p H H') (h : RdP K p H r q es) : RdP K p H' r q es := h.ext x
end
end EM
/-! EM69: fractions over one bottom: bounds that do not grow with every sum. -/
namespace EM
open PySem PySem.Spec PyProof.Rows L2
/-- in lowest terms, the bottom divides D, the value is at most M -/
structure Dv (D M : Nat) (e : Int × Int) : Prop where
  low : Low e.1 e.2
  dvd : e.2 ∣ (D : Int)
  le : (e.1.natAbs : Int) ≤ M * e.2
theorem Dv.mono {D M D' M' : Nat} {e : Int × Int} (h : Dv D M e) (h1 : D ∣ D') (h2 : M ≤ M') : Dv D' M' e :=
  ⟨h.low, Int.dvd_trans h.dvd (Int.natCast_dvd_natCast.mpr h1), Int.le_trans h.le (Int.mul_le_mul_of_nonneg_right (by omega) (Int.le_of_lt h.low.pos))⟩
theorem dvd_cop {a b : Int} {D : Int} (h : Low a b) (g : b ∣ a * D) : b ∣ D := by
  have h1 : b.natAbs ∣ a.natAbs * D.natAbs := by
    have := Int.natAbs_dvd_natAbs.mpr g
    rwa [Int.natAbs_mul] at this
  have h2 : Nat.Coprime b.natAbs a.natAbs := by
    have := h.red
    rw [Int.gcd_comm] at this
    exact this
  exact Int.natAbs_dvd_natAbs.mp (h2.dvd_of_dvd_mul_left h1)
theorem n_dvd {x y X : Int} {D : Nat} (hy : y ≠ 0) (e : x * D = X * y) : nBot x y ∣ (D : Int) := by
  refine dvd_cop (n_low (t := x) hy) ?_
  have h1 := n_cross (t := x) (b := y)
  have h2 : nTop x y * (D : Int) = X * nBot x y := by
    refine Int.eq_of_mul_eq_mul_right (a := y) hy ?_
    calc nTop x y * D * y = (nTop x y * y) * D := by ac_rfl
      _ = x * nBot x y * D := by rw [h1]
      _ = (x * D) * nBot x y := by ac_rfl
      _ = (X * y) * nBot x y := by rw [e]
      _ = X * nBot x y * y := by ac_rfl
  rw [h2]
  exact Int.dvd_mul_left _ _
theorem n_le {x y : Int} {M : Nat} (hy : 0 < y) (h : (x.natAbs : Int) ≤ M * y) : ((nTop x y).natAbs : Int) ≤ M * nBot x y := by
  have lo := n_low (t := x) (show y ≠ 0 by omega)
  have h1 := n_cross (t := x) (b := y)
  have e : ((nTop x y).natAbs : Int) * y = (x.natAbs : Int) * nBot x y := by
    have := congrArg Int.natAbs h1
    rw [Int.natAbs_mul, Int.natAbs_mul] at this
    have z := congrArg (Nat.cast : Nat → Int) this
    rw [Int.natCast_mul, Int.natCast_mul] at z
    rw [show ((y.natAbs : Nat) : Int) = y from by omega, show (((nBot x y).natAbs : Nat) : Int) = nBot x y from by have := lo.pos; omega] at z
    exact z
  refine Int.le_of_mul_le_mul_right (a := y) ?_ hy
  rw [e]
  calc (x.natAbs : Int) * nBot x y ≤ (M * y) * nBot x y := Int.mul_le_mul_of_nonneg_right h (Int.le_of_lt lo.pos)
    _ = M * nBot x y * y := by ac_rfl
theorem Dv.frac {x y : Int} {D M : Nat} (hy : 0 < y) (hd : y ∣ (D : Int)) (h : (x.natAbs : Int) ≤ M * y) : Dv D M (nTop x y, nBot x y) := by
  refine ⟨n_low (by omega), ?_, n_le hy h⟩
  obtain ⟨k, hk⟩ := hd
  exact n_dvd (X := x * k) (by omega) (by rw [hk]; ac_rfl)
theorem Dv.add {D M N : Nat} {b e : Int × Int} (hb : Dv D N b) (he : Dv D M e) : Dv D (M + N) (addF b e) := by
  have b0 := hb.low.pos
  have e0 := he.low.pos
  have y0 : 0 < e.2 * b.2 := Int.mul_pos e0 b0
  refine ⟨addF_low hb.low he.low, ?_, ?_⟩
  · obtain ⟨k1, h1⟩ := he.dvd
    obtain ⟨k2, h2⟩ := hb.dvd
    refine n_dvd (X := e.1 * k1 + b.1 * k2) (by omega) ?_
    calc (e.1 * b.2 + b.1 * e.2) * (D : Int) = e.1 * b.2 * D + b.1 * e.2 * D := Int.add_mul ..
      _ = e.1 * b.2 * (e.2 * k1) + b.1 * e.2 * (b.2 * k2) := by rw [← h1, ← h2]
      _ = (e.1 * k1 + b.1 * k2) * (e.2 * b.2) := by rw [Int.add_mul]; congr 1 <;> ac_rfl
  · refine n_le y0 ?_
    have h1 : ((e.1 * b.2).natAbs : Int) ≤ M * e.2 * b.2 := by
      rw [Int.natAbs_mul, Int.natCast_mul, show ((b.2.natAbs : Nat) : Int) = b.2 from by omega]
      exact Int.mul_le_mul_of_nonneg_right he.le (by omega)
    have h2 : ((b.1 * e.2).natAbs : Int) ≤ N * b.2 * e.2 := by
      rw [Int.natAbs_mul, Int.natCast_mul, show ((e.2.natAbs : Nat) : Int) = e.2 from by omega]
      exact Int.mul_le_mul_of_nonneg_right hb.le (by omega)
    have h3 : (((e.1 * b.2 + b.1 * e.2).natAbs : Nat) : Int) ≤ ((e.1 * b.2).natAbs : Int) + ((b.1 * e.2).natAbs : Int) := by omega
    have h4 : ((M + N : Nat) : Int) * (e.2 * b.2) = M * e.2 * b.2 + N * b.2 * e.2 := by
      rw [Int.natCast_add, Int.add_mul]
      congr 1 <;> ac_rfl
    rw [h4]
    omega
theorem Dv.mul {D D2 M N : Nat} {b e : Int × Int} (hb : Dv D2 N b) (he : Dv D M e) : Dv (D * D2) (M * N) (mulF b e) := by
  have b0 := hb.low.pos
  have e0 := he.low.pos
  have y0 : 0 < e.2 * b.2 := Int.mul_pos e0 b0
  refine ⟨mulF_low hb.low he.low, ?_, ?_⟩
  · obtain ⟨k1, h1⟩ := he.dvd
    obtain ⟨k2, h2⟩ := hb.dvd
    refine n_dvd (X := e.1 * b.1 * (k1 * k2)) (by omega) ?_
    rw [Int.natCast_mul, h1, h2]
    ac_rfl
  · refine n_le y0 ?_
    rw [Int.natAbs_mul, Int.natCast_mul, Int.natCast_mul]
    calc (e.1.natAbs : Int) * (b.1.natAbs : Int) ≤ (M * e.2) * (N * b.2) := Int.mul_le_mul he.le hb.le (by omega) (Int.le_trans (by omega) he.le)
      _ = M * N * (e.2 * b.2) := by ac_rfl
theorem Dv.neg {D M : Nat} {e : Int × Int} (h : Dv D M e) : Dv D M (-e.1, e.2) := ⟨low_neg h.low, h.dvd, by rw [show (-e.1, e.2).1 = -e.1 from rfl, Int.natAbs_neg]; exact h.le⟩
theorem Dv.bt {D M k m : Nat} {e : Int × Int} (h : Dv D M e) (hD : 0 < D) (h1 : D < 2 ^ k) (h2 : M < 2 ^ m) : Bt (k + m) e.1 ∧ Bt (k + m) e.2 := by
  have e0 := h.low.pos
  have h3 : e.2.natAbs ≤ D := by
    have := Nat.le_of_dvd hD (Int.natCast_dvd_natCast.mp (by rw [Int.dvd_natAbs.symm] at *; exact (Int.natAbs_dvd.mpr h.dvd)))
    exact this
  have k2 : Bt k e.2 := Nat.lt_of_le_of_lt h3 h1
  refine ⟨?_, k2.mono (by omega)⟩
  have h4 := h.le
  have h5 : e.1.natAbs ≤ M * e.2.natAbs := by
    have : ((M * e.2.natAbs : Nat) : Int) = M * e.2 := by
      rw [Int.natCast_mul, show ((e.2.natAbs : Nat) : Int) = e.2 from by omega]
    omega
  show e.1.natAbs < 2 ^ (k + m)
  rw [Nat.pow_add]
  refine Nat.lt_of_le_of_lt h5 ?_
  rw [Nat.mul_comm (2 ^ k)]
  exact Nat.mul_lt_mul'' h2 k2
/-- a rising row over the bottom D -/
structure RowD (D M : Nat) (es : List (Int × Int)) : Prop where
  dv : ∀ e ∈ es, Dv D M e
  rise : ∀ (i : Nat) e f, es[i]? = some e → es[i + 1]? = some f → e.1 * f.2 < f.1 * e.2
theorem RowD.mono {D M D' M' : Nat} {es : List (Int × Int)} (h : RowD D M es) (h1 : D ∣ D') (h2 : M ≤ M') : RowD D' M' es := ⟨fun e he => (h.dv e he).mono h1 h2, h.rise⟩
theorem RowD.ok {D M k m n : Nat} {es : List (Int × Int)} (h : RowD D M es) (hD : 0 < D) (h1 : D < 2 ^ k) (h2 : M < 2 ^ m) (hn : k + m ≤ n) : RowOk n es :=
  ⟨fun e he => (h.dv e he).low, fun e he => ⟨((h.dv e he).bt hD h1 h2).1.mono hn, ((h.dv e he).bt hD h1 h2).2.mono hn⟩, h.rise⟩
theorem RowD.add {D M N : Nat} {es : List (Int × Int)} {b : Int × Int} (h : RowD D M es) (hb : Dv D N b) : RowD D (M + N) (es.map (addF b)) := by
  refine ⟨fun e he => ?_, fun i e f h1 h2 => ?_⟩
  · obtain ⟨e0, h0, rfl⟩ := List.mem_map.mp he
    exact hb.add (h.dv _ h0)
  · rw [List.getElem?_map] at h1 h2
    obtain ⟨e0, g1, rfl⟩ := Option.map_eq_some_iff.mp h1
    obtain ⟨f0, g2, rfl⟩ := Option.map_eq_some_iff.mp h2
    exact (addF_lt hb.low (h.dv _ (List.mem_of_getElem? g1)).low (h.dv _ (List.mem_of_getElem? g2)).low).mpr (h.rise i _ _ g1 g2)
theorem RowD.mul {D D2 M N : Nat} {es : List (Int × Int)} {b : Int × Int} (h : RowD D M es) (hb : Dv D2 N b) (h0 : 0 < b.1) : RowD (D * D2) (M * N) (es.map (mulF b)) := by
  refine ⟨fun e he => ?_, fun i e f h1 h2 => ?_⟩
  · obtain ⟨e0, h0, rfl⟩ := List.mem_map.mp he
    exact hb.mul (h.dv _ h0)
  · rw [List.getElem?_map] at h1 h2
    obtain ⟨e0, g1, rfl⟩ := Option.map_eq_some_iff.mp h1
    obtain ⟨f0, g2, rfl⟩ := Option.map_eq_some_iff.mp h2
    exact (mulF_lt hb.low h0 (h.dv _ (List.mem_of_getElem? g1)).low (h.dv _ (List.mem_of_getElem? g2)).low).mpr (h.rise i _ _ g1 g2)
theorem RowD.snoc {D M : Nat} {es : List (Int × Int)} {e f : Int × Int} (h : RowD D M es) (hf : Dv D M f) (hl : ∀ e, es[es.length - 1]? = some e → e.1 * f.2 < f.1 * e.2) : RowD D M (es ++ [f]) := by
  refine ⟨fun x hx => ?_, fun i x y h1 h2 => ?_⟩
  · rcases List.mem_append.mp hx with z | z
    · exact h.dv x z
    · rw [List.mem_singleton.mp z]
      exact hf
  · rcases Nat.lt_or_ge (i + 1) es.length with z | z
    · rw [List.getElem?_append_left (by omega)] at h1
      rw [List.getElem?_append_left z] at h2
      exact h.rise i x y h1 h2
    · rw [List.getElem?_append_right z] at h2
      rcases Nat.eq_zero_or_pos (i + 1 - es.length) with z0 | z0
      · rw [z0] at h2
        cases h2
        rw [List.getElem?_append_left (by omega)] at h1
        rw [show i = es.length - 1 by omega] at h1
        exact hl x h1
      · rw [List.getElem?_eq_none (by simp; omega)] at h2
        cases h2
theorem Ext.muF {p F : Addr} {H H1 H2 : Hp} {o : HO} (f : Fresh p H F) (y : Ext p H H1) (m : Mu F H1 H2 o) : Ext p H H2 := ⟨fun b u e nb nt => by
  have hb : b ≠ F := fun z => by
    subst z
    rcases f.h u e with h | ⟨ps, h⟩
    · exact nb h
    · exact nt ps h
  rw [m.old b hb]
  exact y.k b u e nb nt⟩
end EM
/-! EM70: a statement at which the stepping word stops, what stands behind it read once. -/
namespace EM
open PySem PySem.Spec PyProof.Rows L2
structure StopS (t : TS) (D : Ends) (σ : L2.St) (H : Hp) : Prop where
  h : t D σ H
def tStop (t : TS) : TS := fun D σ H => StopS t D σ H
theorem ps_stop {X : Cx} {st : Stmt} {t : TS} (h : PS X st t) : PS X st (tStop t) := h.of fun _ _ _ q => q.h
theorem stop_go {t : TS} {D : Ends} {σ : L2.St} {H : Hp} (h : t D σ H) : StopS t D σ H := ⟨h⟩
end EM
/-! EM71: list(list), rows of pairs as data. -/
namespace EM
open PySem PySem.Spec PyProof.Rows L2
end EM
/-! EM72: an instance whose class has an operator but no reflected one, with an int; an operator in place by its own def. -/
namespace EM
open PySem PySem.Spec PyProof.Rows L2
def rIopO (C : Addr) (sp : Sp) (E : XK) : R2 := fun x y H Q => ∃ a dx fs, x = .ref a ∧ H a = some (.ins C dx fs) ∧ sp [.ref a, y] H Q E
section
variable {X : Cx} {CX : CXT} {n : Nat} {g C : Addr} {sp : Sp} {E : XK}
theorem iop_own {op : Operator} (hc : PySem.W.selfFirst X.K C = true) (hs : PySem.W.findIn X.K (.ref C) (dunderI op.info.2) = some (some (.ref g))) (hf : PySem.W.isFn X.K (.ref g) = true)
    (F : FnR X.prog X.w X.K X.mg X.base CX n g sp) (rm : Room n X.A) (hx : Passes CX X E) : OpR X (inplaceOp op) (rIopO C sp E) := by
  intro pins s σ H x y v u Q I rx ry h
  obtain ⟨a, dx, fs, rfl, ha, q⟩ := h
  cases (show v = Value.ref a from rx)
  obtain ⟨ox, od, J, _⟩ := ins_at I ha
  obtain ⟨m, hF⟩ := I.fr
  exact PySem.W.ksp_inplace hF I.ok.mod.kin J hc hs hf (run1 F rm hx I ry q)
end
end EM
/-! EM73: targets of two names hand on what is wanted. -/
namespace EM
open PySem PySem.Spec PyProof.Rows L2
end EM
/-! EM74: fractions over one bottom as whole numbers. -/
namespace EM
open PySem PySem.Spec PyProof.Rows L2
/-- the number of D-th parts -/
def sc (D : Nat) (e : Int × Int) : Int := e.1 * ((D : Int) / e.2)
section
variable {D M N : Nat} {b e f : Int × Int}
theorem Dv.sc_mul (h : Dv D M e) : sc D e * e.2 = e.1 * D := by
  unfold sc
  rw [Int.mul_assoc, Int.ediv_mul_cancel h.dvd]
theorem Dv.sc_add (hb : Dv D N b) (he : Dv D M e) : sc D (addF b e) = sc D e + sc D b := by
  have ha := hb.add he
  have b0 := hb.low.pos
  have e0 := he.low.pos
  have a0 := ha.low.pos
  have h1 := ha.sc_mul
  have h2 := hb.sc_mul
  have h3 := he.sc_mul
  have h4 : (addF b e).1 * (e.2 * b.2) = (e.1 * b.2 + b.1 * e.2) * (addF b e).2 := n_cross
  generalize addF b e = a at *
  generalize sc D a = A at *
  generalize sc D b = B at *
  generalize sc D e = E at *
  obtain ⟨a1, a2⟩ := a
  obtain ⟨b1, b2⟩ := b
  obtain ⟨e1, e2⟩ := e
  simp only at *
  have z : (A - (E + B)) * (a2 * (e2 * b2)) = 0 := by
    have e1' : (A - (E + B)) * (a2 * (e2 * b2)) = (A * a2) * (e2 * b2) - (E * e2) * (b2 * a2) - (B * b2) * (e2 * a2) := by grind
    rw [e1', h1, h2, h3]
    have : a1 * D * (e2 * b2) = (a1 * (e2 * b2)) * D := by grind
    rw [this, h4]
    grind
  have p : a2 * (e2 * b2) ≠ 0 := Int.mul_ne_zero (by omega) (Int.mul_ne_zero (by omega) (by omega))
  rcases Int.mul_eq_zero.mp z with z | z
  · omega
  · exact absurd z p
theorem Dv.sc_cross (he : Dv D M e) (hf : Dv D N f) : (e.1 * f.2) * D = sc D e * (e.2 * f.2) ∧ (f.1 * e.2) * D = sc D f * (e.2 * f.2) := by
  have h1 := he.sc_mul
  have h2 := hf.sc_mul
  constructor
  · rw [← Int.mul_assoc, h1]; ac_rfl
  · rw [Int.mul_comm e.2, ← Int.mul_assoc, h2]; ac_rfl
theorem Dv.sc_lt (hD : 0 < D) (he : Dv D M e) (hf : Dv D N f) : e.1 * f.2 < f.1 * e.2 ↔ sc D e < sc D f := by
  obtain ⟨h1, h2⟩ := he.sc_cross hf
  have p : 0 < e.2 * f.2 := Int.mul_pos he.low.pos hf.low.pos
  have d : (0 : Int) < D := by omega
  constructor
  · intro h
    have := Int.mul_lt_mul_of_pos_right h d
    rw [h1, h2] at this
    exact Int.lt_of_mul_lt_mul_right this (Int.le_of_lt p)
  · intro h
    have := Int.mul_lt_mul_of_pos_right h p
    rw [← h1, ← h2] at this
    exact Int.lt_of_mul_lt_mul_right this (Int.le_of_lt d)
theorem Dv.sc_inj (hD : 0 < D) (he : Dv D M e) (hf : Dv D N f) (h : sc D e = sc D f) : e = f := by
  obtain ⟨h1, h2⟩ := he.sc_cross hf
  rw [h, ← h2] at h1
  have d : (D : Int) ≠ 0 := by omega
  obtain ⟨z1, z2⟩ := low_eq he.low hf.low (Int.eq_of_mul_eq_mul_right d h1)
  exact Prod.ext z1 z2
end
theorem sc_neg {D : Nat} {x y : Int} : sc D (-x, y) = -sc D (x, y) := by
  unfold sc
  exact Int.neg_mul ..
end EM
/-! EM75: lambdas that are kept: the function object is tracked from its making on; a def is called with it later. -/
namespace EM
open PySem PySem.Spec PyProof.Rows L2
/-! ### the rules -/
section
variable {X : Cx}
/-- one of two readings -/
theorem _root_.L2.PE.or {e : Expr} {t1 t2 : TE} (h1 : PE X e t1) (h2 : PE X e t2) : PE X e (fun σ H Q => t1 σ H Q ∨ t2 σ H Q) := ⟨fun pins s σ H Q I h => h.elim (h1.run pins s σ H Q I) (h2.run pins s σ H Q I)⟩
end
end EM
/-! EM76: w in (i, j, ..) for ints; texts of numbers. -/
namespace EM
open PySem PySem.Spec PyProof.Rows L2
end EM
/-! EM77: an operator whose left side's own def declines (NotImplemented), the right side's reflected def answers; an instance op one of another class, without a reflected def. -/
namespace PySem.W
open PySem PySem.Calls PyProof.Rows Builtin
end PySem.W
namespace EM
open PySem PySem.Spec PyProof.Rows L2
end EM
/-! EM78: enumerate, list(..), tuple(..) of a list or a tuple; integers among other items. -/
namespace EM
open PySem PySem.Spec PyProof.Rows L2
theorem walk_weak {J : It} {n : Nat} {G G' : Hp → Prop} {Y : Nat → Hp → V → Hp → Prop} (w : Walk J n G Y) (c : ∀ H, G' H → G H) : Walk J n G' Y := ⟨fun i H hi g => w.goes i H hi (c H g), fun H g => w.stops H (c H g), fun i H x H' hi g y => w.yields i H x H' hi (c H g) y⟩
structure EnS (K : PySem.W.Frag) (vs : List V) (H : Hp) (R : It → Hp → Prop) : Prop where
  h : ∃ a xs, vs = [.ref a] ∧ (H a = some (.lst xs) ∨ H a = some (.tup xs)) ∧ ∀ J, Walk J xs.length (fun H' => H' a = H a) (YPair (fun i => some (.int (i : Nat))) (fun i => xs[i]?)) → R J H
def iEnSN (K : PySem.W.Frag) (ta : TA) : TI := fun σ H R => ta σ H fun vs H1 => EnS K vs H1 R
theorem pi_enumSN {X : Cx} {e : Expr} {ta : TA} {p pos tpos : Pos} {elts : List Expr} {kk : Nat} (hg : Gl X "enumerate") (hm : X.mg "enumerate" = none) (ha0 : PA X [e] ta) (hs : starEach [e] X.env = [(false, eval e X.env)] := by rfl) :
    PI X (.Tuple elts kk tpos) (.Call (.Name "enumerate" p) [e] [] pos) (iEnSN X.K ta) := by
  have ha := ha0.mc
  refine ⟨fun pins s σ H R I h => ?_⟩
  refine Call_ (ld_blt I hg hm boot_enumerate (PyProof.Rows.callWith_type1 (thn (ha.run pos pins s σ H _ I ⟨_, h, fun _ _ z => z⟩) fun us s1 hz => ?_) hs rfl))
  obtain ⟨vs, H1, I1, r1, ⟨a, xs, ex, hq, q⟩⟩ := hz
  subst ex
  cases r1 with
  | cons r rr =>
    cases rr
    cases r
    have fp : ∀ {h2 : Heap} (J : Inv X pins σ H1 { s1 with heap := h2 }) (b : Addr), b ∈ [s1.heap.objs.size + 1, s1.heap.objs.size] → s1.heap.objs.size ≤ b := fun J b hb => by
      have z : b = s1.heap.objs.size + 1 ∨ b = s1.heap.objs.size := by simpa using hb
      rcases z with z | z
      · rw [z]; exact Nat.le_succ _
      · rw [z]; exact Nat.le_refl _
    rcases hq with hq | hq
    · obtain ⟨its, rv, pl, _⟩ := I1.list (SqL.of hq)
      refine call_enumerate_list pl.isList fun h2 e1 e2 e3 kp => wpAny_pyIter_enum e1 ?_
      have J : Inv X pins σ H1 { s1 with heap := h2 } := I1.kept (t' := s1.toks) kp
      exact ⟨s1.heap.objs.size + 1, [s1.heap.objs.size + 1, s1.heap.objs.size], _, _, H1, rfl, J, turn_enum a (s1.heap.objs.size + 1) s1.heap.objs.size, ⟨⟨.none, e1⟩, e2, Nat.succ_ne_self _⟩, fun b hb => I1.fpOk (fp J b hb) (I1.hok.fresh (fp J b hb)),
        q _ (walk_weak (walk_enum (K := X.K)) fun H' e => SqL.of (e.trans hq))⟩
    · obtain ⟨its, rv, pt, _⟩ := I1.tuple (SqT.of hq)
      have al : a < s1.heap.objs.size := by obtain ⟨_, z, _⟩ := pt; exact Heap.lt_size z
      refine em_enum_begins (begins_tuple a its.toArray) pt fun h2 e1 e2 e3 kp => wpAny_pyIter_enum e1 ?_
      have J : Inv X pins σ H1 { s1 with heap := h2 } := I1.kept (t' := s1.toks) kp
      exact ⟨s1.heap.objs.size + 1, [s1.heap.objs.size + 1, s1.heap.objs.size], _, _, H1, rfl, J, turn_enumT a (s1.heap.objs.size + 1) s1.heap.objs.size, ⟨⟨.none, e1⟩, ⟨_, e2, rfl, rfl⟩, Nat.succ_ne_self _, Nat.ne_of_lt al, Nat.ne_of_gt (Nat.lt_succ_of_lt al)⟩, fun b hb => I1.fpOk (fp J b hb) (I1.hok.fresh (fp J b hb)),
        q _ (walk_weak (walk_enumT (K := X.K)) fun H' e => SqT.of (e.trans hq))⟩
structure LstS (vs : List V) (H : Hp) (Q : VK) : Prop where
  h : ∃ a xs, vs = [.ref a] ∧ (H a = some (.lst xs) ∨ H a = some (.tup xs)) ∧ DnS (.lst xs) H Q
structure TupS (vs : List V) (H : Hp) (Q : VK) : Prop where
  h : ∃ a xs, vs = [.ref a] ∧ ((H a = some (.lst xs) ∧ DnS (.tup xs) H Q) ∨ (H a = some (.tup xs) ∧ Q (.ref a) H))
theorem call_listSN {X : Cx} : CallR X (.type "list") LstS := callR_of call_list_of fun vs H Q ⟨⟨a, xs, e, h, z⟩⟩ => ⟨a, xs, e, h.imp SqL.of SqT.of, New.upd z.h⟩
theorem call_tupSN {X : Cx} : CallR X (.type "tuple") TupS := callR_of call_tuple_of fun vs H Q ⟨⟨a, xs, e, h⟩⟩ => ⟨a, xs, e, h.imp (fun z => ⟨SqL.of z.1, New.upd z.2.h⟩) fun z => ⟨SqT.of z.1, z.2⟩⟩
structure SumS (vs : List V) (H : Hp) (Q : VK) : Prop where
  h : ∃ (a : Addr) (ns : List Int), vs = [V.ref a] ∧ H a = some (.lst (ns.map V.int)) ∧ Q (.int ns.sum) H
structure AnyS (vs : List V) (H : Hp) (Q : VK) : Prop where
  h : ∃ (a : Addr) (bs : List Bool), vs = [V.ref a] ∧ H a = some (.lst (bs.map V.bl)) ∧ Q (.bl (bs.any id)) H
theorem call_sumSN {X : Cx} (hc : X.calm = true) : CallR X (.builtin "sum") SumS := callR_of (cr_sum hc) fun vs H Q ⟨⟨a, ns, e, h, z⟩⟩ => ⟨a, ns, e, SqL.of h, z⟩
theorem call_anySN {X : Cx} (hc : X.calm = true) : CallR X (.builtin "any") AnyS := callR_of (cr_any hc) fun vs H Q ⟨⟨a, ns, e, h, z⟩⟩ => ⟨a, ns, e, SqL.of h, z⟩
section
variable {K : PySem.W.Frag} {T : List (Addr × Str)} {p l a b : Addr} {n : Nat} {H H' : Hp} {xs ys : List V} {Q : VK}
theorem enS {R : It → Hp → Prop} (h : SeqV p H a xs) (k : ∀ J, Walk J xs.length (fun H' => H' a = H a) (YPair (fun i => some (.int (i : Nat))) (fun i => xs[i]?)) → R J H) : EnS K [.ref a] H R := ⟨a, xs, rfl, h.or, k⟩
theorem seqS {R : It → Hp → Prop} (h : SeqV p H a xs) (k : ∀ J, Walk J xs.length (fun H' => H' a = H a) (YAt xs) → R J H) : SqW (.ref a) H R := ⟨a, xs, rfl, h.or, k⟩
theorem lstS (h : SeqV p H a xs) (k : DnS (.lst xs) H Q) : LstS [.ref a] H Q := ⟨a, xs, rfl, h.or, k⟩
theorem tupSL (h : At p H a (.lst xs)) (k : DnS (.tup xs) H Q) : TupS [.ref a] H Q := ⟨a, xs, rfl, .inl ⟨h.at_, k⟩⟩
theorem tupST (h : At p H a (.tup xs)) (k : Q (.ref a) H) : TupS [.ref a] H Q := ⟨a, xs, rfl, .inr ⟨h.at_, k⟩⟩
theorem SeqV.xt (x : Ext p H H') (h : SeqV p H a xs) : SeqV p H' a xs := h.ext x
theorem SeqV.eq (h : SeqV p H a xs) (x : Ext p H H') : H' a = H a := h.elim (·.eq x) (·.eq x)
theorem isSeqS {tp : Addr} (ht : At p H tp (.tup [.ty "list", .ty "tuple"])) (ha : SeqV p H a xs) (q : Q (.bl true) H) : Sr (rIsSeq K) [.ref a, .ref tp] H Q := ha.elim (fun z => isSeqL ht z q) (fun z => isSeqT ht z q)
theorem lenS (ha : SeqV p H a xs) (q : Q (.int xs.length) H) : Sr (rLenN K) [.ref a] H Q := ha.elim (fun z => lenL z q) (fun z => lenT z q)
theorem sumS {ns : List Int} (h : At p H a (.lst (ns.map V.int))) (k : Q (.int ns.sum) H) : SumS [.ref a] H Q := ⟨a, ns, rfl, h.at_, k⟩
theorem anyS {bs : List Bool} (h : At p H a (.lst (bs.map V.bl))) (k : Q (.bl (bs.any id)) H) : AnyS [.ref a] H Q := ⟨a, bs, rfl, h.at_, k⟩
end
/-! ### integers among other items -/
/-- a value that is the integer o, or is none -/
def ItI (K : PySem.W.Frag) (p : Addr) (H : Hp) (v : V) : Option Int → Prop
  | some i => v = .int i
  | none => OddM K p H v
theorem ItI.ext {K : PySem.W.Frag} {p : Addr} {H H' : Hp} {v : V} {o : Option Int} (h : ItI K p H v o) (x : Ext p H H') : ItI K p H' v o := by
  cases o with
  | some e => exact h
  | none => exact OddM.ext h x
structure ItsI (K : PySem.W.Frag) (p : Addr) (H : Hp) (xs : List V) (os : List (Option Int)) : Prop where
  len : xs.length = os.length
  h : ∀ (i : Nat) (v : V) (o : Option Int), xs[i]? = some v → os[i]? = some o → ItI K p H v o
theorem ItsI.ext {K : PySem.W.Frag} {p : Addr} {H H' : Hp} {xs : List V} {os : List (Option Int)} (h : ItsI K p H xs os) (x : Ext p H H') : ItsI K p H' xs os := ⟨h.len, fun i v o a b => (h.h i v o a b).ext x⟩
theorem ItsI.all {K : PySem.W.Frag} {p : Addr} {H : Hp} {ws : List Int} : ItsI K p H (ws.map V.int) (ws.map some) := ⟨by simp, fun i v o a b => by
  rw [List.getElem?_map] at a b
  cases e : ws[i]? with
  | none => rw [e] at a; cases a
  | some w =>
    rw [e] at a b
    cases a
    cases b
    exact (rfl : V.int w = V.int w)⟩
end EM
/-! EM79: the head's run told in two parts (each part is a run of the kernel of its own, with less memory). -/
namespace EM
open PySem PySem.Spec PyProof.Rows L2
end EM
/-! EM80: x(e, ..) and x(k = v, ..) of an instance with its own __call__. -/
namespace PySem.W
open PySem PySem.Spec PySem.Calls PyProof.Rows
theorem em_callI {M : Model} {A : Around} {E : Value → Shared → Prop} {s : Shared} {pos : Pos} {x : Addr} {first : List Value} {ts : List (Bool × Sem Value)} {kl : List (Option Str × Sem Value)} {Q : Value → Shared → Prop}
    (hp : (ts.any (·.1) || kl.any (·.1.isNone)) = false)
    (h : wpAny M A (evalArgs (.ref x) true ts kl) (fun a s1 => (∃ C ox od, InstAt s1.heap x ox C od ∧ ox.data = .plain) ∧ wpAny M A (call (.ref x) (first ++ a.pos) a.kw) Q E s1) E s) : wpAny M A (callWith pos (.ref x) first ts kl) Q E s := by
  unfold callWith
  refine wpAny_bind (wpAny_holding (wpAny_mono h (fun a s1 ⟨⟨C, ox, od, I, pl⟩, g⟩ => wpAny_bind (wpAny_standAt ?_)) fun _ _ z => z))
  have L : Looks M s1.heap (keeperOf (.ref x)) .caller := kco_keeper I pl
  simp only [hp]
  refine wpAny_bind (L.here ?_)
  exact wpAny_bind (wpAny_mono (wpAny_operateT g) (fun r s2 q => wpAny_bind (wpAny_holding (wpAny_point (wpAny_pure q)))) fun _ _ z => z)
end PySem.W
namespace EM
open PySem PySem.Spec PyProof.Rows L2
theorem fnIn_of {K : PySem.W.Frag} {x qual : Str} {params : Arguments} {body : List Stmt} {scope : Scope} {dvs : List V} {kws : List (Str × V)} {f : Addr} {fd : FuncData} (F : FunD K x qual params body scope dvs kws f fd) : PySem.W.fnIn K f = true := by
  obtain ⟨oc, od, dV, kV, doc, pm, an, cdv, ct, osl, e, lk, _⟩ := F.ex
  unfold PySem.W.fnIn
  rw [lk]
/-- x(e, ..) of an instance -/
def tCallI (C : Addr) (sp : Sp) (E : XK) (te : TE) (t : TA) : TE := fun σ H Q => te σ H fun x H1 => ∃ a, x = V.ref a ∧ t σ H1 fun vs H2 => ∃ dx fs, H2 a = some (.ins C dx fs) ∧ sp (x :: vs) H2 Q E
/-- x(k = v, ..) of an instance -/
def tCallIK (C : Addr) (sp : Sp2) (E : XK) (te : TE) (tk : TA) : TE := fun σ H Q => te σ H fun x H1 => ∃ a, x = V.ref a ∧ tk σ H1 fun zs H2 => ∃ dx fs, H2 a = some (.ins C dx fs) ∧ sp [x] zs H2 Q E
section
variable {X : Cx} {CX : CXT} {k : Nat} {f C : Addr} {sp : Sp} {E : XK} {e o : Expr} {es : List Expr} {te : TE} {t tk : TA} {pos : Pos}
theorem pe_callI (he : PE X o te) (hs : PySem.W.findIn X.K (.ref C) "__call__" = some (some (.ref f))) (hf : PySem.W.isFn X.K (.ref f) = true) (hi : PySem.W.fnIn X.K f = true) (F : FnR X.prog X.w X.K X.mg X.base CX k f sp) (hr : Room k X.A) (hx : Passes CX X E) (ha : PA X (e :: es) t)
    (hst : starEach (e :: es) X.env = (false, eval e X.env) :: starEach es X.env := by rfl) (hpl : (backTo pos (starEach es X.env)).any (·.1) = false := by rfl)
    (hev : eval (.Call o (e :: es) [] pos) X.env = (do callWith pos (← eval o X.env) [] (backTo pos (starEach (e :: es) X.env)) (backToKw pos (keywordEach [] X.env))) := by rfl) :
    PE X (.Call o (e :: es) [] pos) (tCallI C sp E te t) := by
  refine ⟨fun pins s σ H Q I h => ?_⟩
  rw [hev]
  refine wpAny_bind (thn (he.run pins s σ H _ I h) fun u s1 ⟨x, H1, I1, rx, a, ex, q⟩ => ?_)
  subst ex
  obtain rfl : u = Value.ref a := rx
  have R := ha.run pos pins s1 σ H1 _ I1 q
  rw [hst] at R ⊢
  refine PySem.W.em_callI (by show ((false || (backTo pos (starEach es X.env)).any (·.1)) || false) = false; rw [hpl]; rfl) ?_
  refine Calls.evalArgs_plain (thn R fun us s2 ⟨vs, H2, I2, r, dx, fs, h2, q2⟩ => ?_)
  obtain ⟨ox, od, J, pl⟩ := ins_at I2 h2
  exact ⟨⟨C, ox, some od, J, pl⟩, wpAny_call (PySem.W.kco_code I2.kIn J pl hs hf hi (SlX.run_at (us := .ref a :: us) (ws := .ref a :: vs) F hr I2.env0 hx I2 (.cons rfl r) q2))⟩
theorem pe_callIK {ks : List Str} {kws : List Keyword} {sp : Sp2} (he : PE X o te) (hs : PySem.W.findIn X.K (.ref C) "__call__" = some (some (.ref f))) (hf : PySem.W.isFn X.K (.ref f) = true) (hi : PySem.W.fnIn X.K f = true) (F : FnK X.prog X.w X.K X.mg X.base CX k f ks sp) (hr : Room k X.A) (hx : Passes CX X E) (hkw : PK X kws tk)
    (hall : (backToKw pos (keywordEach kws X.env)).all (·.1.isSome) = true := by rfl) (hks : (backToKw pos (keywordEach kws X.env)).filterMap (·.1) = ks := by rfl)
    (hpl : ((backTo pos (starEach [] X.env)).any (·.1) || (backToKw pos (keywordEach kws X.env)).any (·.1.isNone)) = false := by rfl)
    (hev : eval (.Call o [] kws pos) X.env = (do callWith pos (← eval o X.env) [] (backTo pos (starEach [] X.env)) (backToKw pos (keywordEach kws X.env))) := by rfl) :
    PE X (.Call o [] kws pos) (tCallIK C sp E te tk) := by
  refine ⟨fun pins s σ H Q I h => ?_⟩
  rw [hev]
  refine wpAny_bind (thn (he.run pins s σ H _ I h) fun u s1 ⟨x, H1, I1, rx, a, ex, q⟩ => ?_)
  subst ex
  obtain rfl : u = Value.ref a := rx
  refine PySem.W.em_callI hpl ?_
  refine evalArgs_kw2_nil hall (thn (hkw.run pos pins s1 σ H1 _ I1 q) fun us s2 ⟨zs, H2, I2, r, dx, fs, h2, q2⟩ => ?_)
  obtain ⟨ox, od, J, pl⟩ := ins_at I2 h2
  refine ⟨⟨C, ox, some od, J, pl⟩, wpAny_call (PySem.W.kco_code I2.kIn J pl hs hf hi ?_)⟩
  rw [hks]
  refine codeAny_mono (F X.A X.stack s2 H2 [.ref a] us [.ref a] zs Q E hr I2.env0 (.cons rfl .nil) r q2) fun r s' hq => ?_
  cases r with
  | error e => exact hx pins σ H2 s2 e s' I2 hq
  | ok fl =>
    cases fl with
    | ret u => exact I2.after hq
    | next => exact False.elim hq
    | brk => exact False.elim hq
    | cont => exact False.elim hq
end
end EM
/-! EM81: isinstance of a kept error without fields. -/
namespace EM
open PySem PySem.Spec PyProof.Rows L2
/-- isinstance(e, C) of an error without a dict that is kept in a name -/
structure IsX0 (K : PySem.W.Frag) (xs : List V) (H : Hp) (Q : VK) : Prop where
  h : ∃ p a C c cv b, xs = [.ref a, c] ∧ At p H a (exK a (.ref C) none) ∧ ExcK K C ∧ ClsV c cv ∧ PySem.W.kitOne K (.ref C) cv = some b ∧ Q (.bl b) H
section
variable {X : Cx}
theorem call_isX0 : CallR X (.builtin "isinstance") (IsX0 X.K) := by
  rintro pins s σ H xs us Q I r ⟨⟨p, a, C, c, cv, b, rfl, he, K1, k, e, q⟩⟩
  obtain ⟨⟨oe, vs, h1, hz, hd⟩, _⟩ := I.hok a _ he.at_
  have J : PySem.W.InstAt s.heap a oe C none := ⟨h1, hz.1, by unfold PySem.W.notCls; rw [hd] <;> rfl, by rw [hz.2]; exact trivial⟩
  obtain ⟨u1, u2, rfl, r1, r2⟩ := vals2 r
  cases (show u1 = Value.ref a from r1)
  have e2 := k.eq r2
  subst e2
  have Z := PySem.W.kitx_exc (x := a) (ox := oe) (od := none) K1.cl K1.c.hg K1.c.hk K1.c.hs K1.c.ha K1.c.hn K1.c.ht K1.c.hm
  exact PySem.W.kia_one Z I.kIn J e (fun z => nomatch z) fun tk => ⟨.bl b, H, I.tok tk, rfl, q⟩
end
end EM
/-! EM82: repr of data that holds texts; zip of two lists. -/
namespace EM
open PySem PySem.Spec PyProof.Rows L2
/-- a datum that may be shown: its text has at most n signs, it is at most m deep -/
structure Fr (n m : Nat) (d : PyData) : Prop where
  sh : d.showable = true
  len : d.shown.length ≤ n
  dep : d.depth ≤ m
structure FrL (n m : Nat) (ds : List PyData) : Prop where
  sh : PyData.showableAll ds = true
  len : (ds.map fun d => d.shown.length).sum + 2 * ds.length ≤ n
  dep : PyData.depthAll ds ≤ m
theorem FrL.nil : FrL 0 0 [] := ⟨rfl, Nat.le_refl _, Nat.le_refl _⟩
theorem FrL.cons {n1 m1 n2 m2 : Nat} {d : PyData} {ds : List PyData} (h : Fr n1 m1 d) (g : FrL n2 m2 ds) : FrL (n1 + n2 + 2) (max m1 m2) (d :: ds) := by
  refine ⟨?_, ?_, ?_⟩
  · show (d.showable && PyData.showableAll ds) = true
    rw [h.sh, g.sh]
    rfl
  · have h1 := h.len
    have h2 := g.len
    simp only [List.map_cons, List.sum_cons, List.length_cons]
    omega
  · show max d.depth (PyData.depthAll ds) ≤ _
    have h1 := h.dep
    have h2 := g.dep
    omega
theorem Fr.list {n m : Nat} {ds : List PyData} (g : FrL n m ds) : Fr (n + 3) (m + 1) (.list ds) := by
  have h1 := shown_list ds
  have h2 := g.len
  exact ⟨g.sh, by omega, Nat.succ_le_succ g.dep⟩
theorem Fr.of {n m : Nat} {d : PyData} (h : Fd n m d) : Fr n m d := ⟨h.sh, h.len, h.dep⟩
theorem Fr.int {i : Int} (h : Bt 1900 i) : Fr 1921 0 (.int i) := .of (Fd.int h)
theorem Fr.str {z : Str} {k : Nat} (h : okS z) (l : z.length ≤ k) : Fr (10 * k + 2) 0 (.str z) := by
  refine ⟨rfl, ?_, Nat.le_refl _⟩
  have := StrLaws.reprText_len z fun c hc => Nat.lt_of_lt_of_le (h c hc) (by decide)
  show (reprText z).length ≤ _
  omega
theorem repr_fr {K : PySem.W.Frag} {H : Hp} {x : V} {d : PyData} {n m : Nat} {Q : VK} (h : Dp K H x d) (g : Fr n m d) (e : n ≤ 10000000 ∧ m ≤ 64) (k : Q (.str d.shown) H) : Sr (rRepr K) [x] H Q :=
  ⟨x, d, rfl, h, g.sh, Nat.le_trans g.len (Nat.le_trans e.1 (by decide)), Nat.le_trans g.dep e.2, k⟩
theorem okS_int {i : Int} (h : Bt 1900 i) : okS (Str.ofString (toString i)) := (Fd.int h).ok
theorem okS_txt (s : Str) (hs : okS s) (ts : List Str) (h : ∀ t ∈ ts, okS t) : okS (Txt.join s ts) := by
  show okS (Builtin.Str.glued s ts)
  rw [StrLaws.glued_eq_join]
  exact okS_join s hs ts h
/-! ### zip of two lists -/
structure ZpL (K : PySem.W.Frag) (vs : List V) (H : Hp) (R : It → Hp → Prop) : Prop where
  h : ∃ a b xs ys, vs = [.ref a, .ref b] ∧ H a = some (.lst xs) ∧ H b = some (.lst ys) ∧ R (Itz K a b) H
def iZpLN (K : PySem.W.Frag) (ta : TA) : TI := fun σ H R => ta σ H fun vs H1 => ZpL K vs H1 R
theorem pi_zipLN {X : Cx} {e e2 : Expr} {ta : TA} {p pos tpos : Pos} {elts : List Expr} {kk : Nat} (hg : Gl X "zip") (hm : X.mg "zip" = none) (ha : PA X [e, e2] ta)
    (hs : starEach [e, e2] X.env = (false, eval e X.env) :: starEach [e2] X.env := by rfl) (hpl : (backTo pos (starEach [e2] X.env)).any (·.1) = false := by rfl) :
    PI X (.Tuple elts kk tpos) (.Call (.Name "zip" p) [e, e2] [] pos) (iZpLN X.K ta) := ⟨fun pins s σ H R I h => (RZ.pi_zipA hg hm ha.mc hs hpl).run pins s σ H R I ⟨_, h, fun vs H1 ⟨⟨a, b, xs, ys, e, h1, h2, k⟩⟩ => ⟨a, b, xs, ys, e, .inl ⟨SqL.of h1, SqL.of h2, k⟩⟩⟩⟩
theorem zpL {K : PySem.W.Frag} {p a b : Addr} {H : Hp} {xs ys : List V} {R : It → Hp → Prop} (h : At p H a (.lst xs)) (g : At p H b (.lst ys)) (k : R (Itz K a b) H) : ZpL K [.ref a, .ref b] H R := ⟨a, b, xs, ys, rfl, h.at_, g.at_, k⟩
end EM
namespace K41
open PySem PySem.Spec PyProof.Rows L2
structure Tx (K : PySem.W.Frag) (mg : Str → Option Value) : Prop where
  says : EM.SaysF fa fn K
  ex : ∃ h : Heap, K.In h ∧ h.Ns mainGlobals mg
  tab : ∀ t ∈ tf, EM.TabK K (t K)
section
variable {K : PySem.W.Frag} {mg : Str → Option Value}
theorem Tx.g_EdgeError (T : Tx K mg) : mg "EdgeError" = some (.ref (He.ga K "EdgeError")) :=
  have c := T.says.fact 0 (f := fun K => (He.Fa.glo "EdgeError").ok K) (by rfl)
  let ⟨_, X, G⟩ := T.ex; He.glo_ok X G c
theorem Tx.g_Unlike (T : Tx K mg) : mg "Unlike" = some (.ref (He.ga K "Unlike")) :=
  have c := T.says.fact 1 (f := fun K => (He.Fa.glo "Unlike").ok K) (by rfl)
  let ⟨_, X, G⟩ := T.ex; He.glo_ok X G c
theorem Tx.g_Ratio (T : Tx K mg) : mg "Ratio" = some (.ref (He.ga K "Ratio")) :=
  have c := T.says.fact 2 (f := fun K => (He.Fa.glo "Ratio").ok K) (by rfl)
  let ⟨_, X, G⟩ := T.ex; He.glo_ok X G c
theorem Tx.g_Reading (T : Tx K mg) : mg "Reading" = some (.ref (He.ga K "Reading")) :=
  have c := T.says.fact 3 (f := fun K => (He.Fa.glo "Reading").ok K) (by rfl)
  let ⟨_, X, G⟩ := T.ex; He.glo_ok X G c
theorem Tx.g_Duel (T : Tx K mg) : mg "Duel" = some (.ref (He.ga K "Duel")) :=
  have c := T.says.fact 4 (f := fun K => (He.Fa.glo "Duel").ok K) (by rfl)
  let ⟨_, X, G⟩ := T.ex; He.glo_ok X G c
theorem Tx.g_is_integer_ratios (T : Tx K mg) : mg "is_integer_ratios" = some (.ref (He.ga K "is_integer_ratios")) :=
  have c := T.says.fact 5 (f := fun K => (He.Fa.glo "is_integer_ratios").ok K) (by rfl)
  let ⟨_, X, G⟩ := T.ex; He.glo_ok X G c
theorem Tx.g_is_integer_fits (T : Tx K mg) : mg "is_integer_fits" = some (.ref (He.ga K "is_integer_fits")) :=
  have c := T.says.fact 6 (f := fun K => (He.Fa.glo "is_integer_fits").ok K) (by rfl)
  let ⟨_, X, G⟩ := T.ex; He.glo_ok X G c
theorem Tx.g_common_divisor (T : Tx K mg) : mg "common_divisor" = some (.ref (He.ga K "common_divisor")) :=
  have c := T.says.fact 7 (f := fun K => (He.Fa.glo "common_divisor").ok K) (by rfl)
  let ⟨_, X, G⟩ := T.ex; He.glo_ok X G c
theorem Tx.g_is_edge_count (T : Tx K mg) : mg "is_edge_count" = some (.ref (He.ga K "is_edge_count")) :=
  have c := T.says.fact 8 (f := fun K => (He.Fa.glo "is_edge_count").ok K) (by rfl)
  let ⟨_, X, G⟩ := T.ex; He.glo_ok X G c
theorem Tx.g_need_edge (T : Tx K mg) : mg "need_edge" = some (.ref (He.ga K "need_edge")) :=
  have c := T.says.fact 9 (f := fun K => (He.Fa.glo "need_edge").ok K) (by rfl)
  let ⟨_, X, G⟩ := T.ex; He.glo_ok X G c
theorem Tx.g_edges_of (T : Tx K mg) : mg "edges_of" = some (.ref (He.ga K "edges_of")) :=
  have c := T.says.fact 10 (f := fun K => (He.Fa.glo "edges_of").ok K) (by rfl)
  let ⟨_, X, G⟩ := T.ex; He.glo_ok X G c
theorem Tx.g_moved (T : Tx K mg) : mg "moved" = some (.ref (He.ga K "moved")) :=
  have c := T.says.fact 11 (f := fun K => (He.Fa.glo "moved").ok K) (by rfl)
  let ⟨_, X, G⟩ := T.ex; He.glo_ok X G c
theorem Tx.g_stretched (T : Tx K mg) : mg "stretched" = some (.ref (He.ga K "stretched")) :=
  have c := T.says.fact 12 (f := fun K => (He.Fa.glo "stretched").ok K) (by rfl)
  let ⟨_, X, G⟩ := T.ex; He.glo_ok X G c
theorem Tx.g_need_alike (T : Tx K mg) : mg "need_alike" = some (.ref (He.ga K "need_alike")) :=
  have c := T.says.fact 13 (f := fun K => (He.Fa.glo "need_alike").ok K) (by rfl)
  let ⟨_, X, G⟩ := T.ex; He.glo_ok X G c
theorem Tx.g_need_plain_weights (T : Tx K mg) : mg "need_plain_weights" = some (.ref (He.ga K "need_plain_weights")) :=
  have c := T.says.fact 14 (f := fun K => (He.Fa.glo "need_plain_weights").ok K) (by rfl)
  let ⟨_, X, G⟩ := T.ex; He.glo_ok X G c
theorem Tx.g_weighed (T : Tx K mg) : mg "weighed" = some (.ref (He.ga K "weighed")) :=
  have c := T.says.fact 15 (f := fun K => (He.Fa.glo "weighed").ok K) (by rfl)
  let ⟨_, X, G⟩ := T.ex; He.glo_ok X G c
theorem Tx.g__law_pen (T : Tx K mg) : mg "_law_pen" = some (.ref (He.ga K "_law_pen")) :=
  have c := T.says.fact 16 (f := fun K => (He.Fa.glo "_law_pen").ok K) (by rfl)
  let ⟨_, X, G⟩ := T.ex; He.glo_ok X G c
theorem Tx.g__law_draw (T : Tx K mg) : mg "_law_draw" = some (.ref (He.ga K "_law_draw")) :=
  have c := T.says.fact 17 (f := fun K => (He.Fa.glo "_law_draw").ok K) (by rfl)
  let ⟨_, X, G⟩ := T.ex; He.glo_ok X G c
theorem Tx.g__law_pick (T : Tx K mg) : mg "_law_pick" = some (.ref (He.ga K "_law_pick")) :=
  have c := T.says.fact 18 (f := fun K => (He.Fa.glo "_law_pick").ok K) (by rfl)
  let ⟨_, X, G⟩ := T.ex; He.glo_ok X G c
theorem Tx.g__law_weights (T : Tx K mg) : mg "_law_weights" = some (.ref (He.ga K "_law_weights")) :=
  have c := T.says.fact 19 (f := fun K => (He.Fa.glo "_law_weights").ok K) (by rfl)
  let ⟨_, X, G⟩ := T.ex; He.glo_ok X G c
theorem Tx.g__law_tops (T : Tx K mg) : mg "_law_tops" = some (.ref (He.ga K "_law_tops")) :=
  have c := T.says.fact 20 (f := fun K => (He.Fa.glo "_law_tops").ok K) (by rfl)
  let ⟨_, X, G⟩ := T.ex; He.glo_ok X G c
theorem Tx.g__law_text (T : Tx K mg) : mg "_law_text" = some (.ref (He.ga K "_law_text")) :=
  have c := T.says.fact 21 (f := fun K => (He.Fa.glo "_law_text").ok K) (by rfl)
  let ⟨_, X, G⟩ := T.ex; He.glo_ok X G c
theorem Tx.g__law_is_unlike (T : Tx K mg) : mg "_law_is_unlike" = some (.ref (He.ga K "_law_is_unlike")) :=
  have c := T.says.fact 22 (f := fun K => (He.Fa.glo "_law_is_unlike").ok K) (by rfl)
  let ⟨_, X, G⟩ := T.ex; He.glo_ok X G c
theorem Tx.g__law_told_right (T : Tx K mg) : mg "_law_told_right" = some (.ref (He.ga K "_law_told_right")) :=
  have c := T.says.fact 23 (f := fun K => (He.Fa.glo "_law_told_right").ok K) (by rfl)
  let ⟨_, X, G⟩ := T.ex; He.glo_ok X G c
theorem Tx.g__law_held_right (T : Tx K mg) : mg "_law_held_right" = some (.ref (He.ga K "_law_held_right")) :=
  have c := T.says.fact 24 (f := fun K => (He.Fa.glo "_law_held_right").ok K) (by rfl)
  let ⟨_, X, G⟩ := T.ex; He.glo_ok X G c
theorem Tx.g__law_refused_right (T : Tx K mg) : mg "_law_refused_right" = some (.ref (He.ga K "_law_refused_right")) :=
  have c := T.says.fact 25 (f := fun K => (He.Fa.glo "_law_refused_right").ok K) (by rfl)
  let ⟨_, X, G⟩ := T.ex; He.glo_ok X G c
theorem Tx.g_law (T : Tx K mg) : mg "law" = some (.ref (He.ga K "law")) :=
  have c := T.says.fact 26 (f := fun K => (He.Fa.glo "law").ok K) (by rfl)
  let ⟨_, X, G⟩ := T.ex; He.glo_ok X G c
theorem Tx.f_len (T : Tx K mg) : mg "len" = none :=
  have c := T.says.fact 27 (f := fun K => (He.Fa.free "len").ok K) (by rfl)
  let ⟨_, X, G⟩ := T.ex; He.free_ok X G c
theorem Tx.f_isinstance (T : Tx K mg) : mg "isinstance" = none :=
  have c := T.says.fact 28 (f := fun K => (He.Fa.free "isinstance").ok K) (by rfl)
  let ⟨_, X, G⟩ := T.ex; He.free_ok X G c
theorem Tx.f_int (T : Tx K mg) : mg "int" = none :=
  have c := T.says.fact 29 (f := fun K => (He.Fa.free "int").ok K) (by rfl)
  let ⟨_, X, G⟩ := T.ex; He.free_ok X G c
theorem Tx.f_bool (T : Tx K mg) : mg "bool" = none :=
  have c := T.says.fact 30 (f := fun K => (He.Fa.free "bool").ok K) (by rfl)
  let ⟨_, X, G⟩ := T.ex; He.free_ok X G c
theorem Tx.f_abs (T : Tx K mg) : mg "abs" = none :=
  have c := T.says.fact 31 (f := fun K => (He.Fa.free "abs").ok K) (by rfl)
  let ⟨_, X, G⟩ := T.ex; He.free_ok X G c
theorem Tx.f_range (T : Tx K mg) : mg "range" = none :=
  have c := T.says.fact 32 (f := fun K => (He.Fa.free "range").ok K) (by rfl)
  let ⟨_, X, G⟩ := T.ex; He.free_ok X G c
theorem Tx.f_repr (T : Tx K mg) : mg "repr" = none :=
  have c := T.says.fact 33 (f := fun K => (He.Fa.free "repr").ok K) (by rfl)
  let ⟨_, X, G⟩ := T.ex; He.free_ok X G c
theorem Tx.f_list (T : Tx K mg) : mg "list" = none :=
  have c := T.says.fact 34 (f := fun K => (He.Fa.free "list").ok K) (by rfl)
  let ⟨_, X, G⟩ := T.ex; He.free_ok X G c
theorem Tx.f_tuple (T : Tx K mg) : mg "tuple" = none :=
  have c := T.says.fact 35 (f := fun K => (He.Fa.free "tuple").ok K) (by rfl)
  let ⟨_, X, G⟩ := T.ex; He.free_ok X G c
theorem Tx.f_str (T : Tx K mg) : mg "str" = none :=
  have c := T.says.fact 36 (f := fun K => (He.Fa.free "str").ok K) (by rfl)
  let ⟨_, X, G⟩ := T.ex; He.free_ok X G c
theorem Tx.f_zip (T : Tx K mg) : mg "zip" = none :=
  have c := T.says.fact 37 (f := fun K => (He.Fa.free "zip").ok K) (by rfl)
  let ⟨_, X, G⟩ := T.ex; He.free_ok X G c
theorem Tx.f_enumerate (T : Tx K mg) : mg "enumerate" = none :=
  have c := T.says.fact 38 (f := fun K => (He.Fa.free "enumerate").ok K) (by rfl)
  let ⟨_, X, G⟩ := T.ex; He.free_ok X G c
theorem Tx.f_sum (T : Tx K mg) : mg "sum" = none :=
  have c := T.says.fact 39 (f := fun K => (He.Fa.free "sum").ok K) (by rfl)
  let ⟨_, X, G⟩ := T.ex; He.free_ok X G c
theorem Tx.f_any (T : Tx K mg) : mg "any" = none :=
  have c := T.says.fact 40 (f := fun K => (He.Fa.free "any").ok K) (by rfl)
  let ⟨_, X, G⟩ := T.ex; He.free_ok X G c
theorem Tx.g_FEWEST_EDGES (T : Tx K mg) : ∃ t, mg "FEWEST_EDGES" = some (.int 4 t) :=
  have c := T.says.fact 41 (f := fun K => (He.Fa.int "FEWEST_EDGES" 4).ok K) (by rfl)
  let ⟨_, X, G⟩ := T.ex; He.int_ok X G c
theorem Tx.g_MOST_EDGES_duels (T : Tx K mg) : ∃ t, mg "MOST_EDGES_duels" = some (.int 128 t) :=
  have c := T.says.fact 42 (f := fun K => (He.Fa.int "MOST_EDGES_duels" 128).ok K) (by rfl)
  let ⟨_, X, G⟩ := T.ex; He.int_ok X G c
theorem Tx.g_LEAST_EDGES (T : Tx K mg) : ∃ t, mg "LEAST_EDGES" = some (.int 4 t) :=
  have c := T.says.fact 43 (f := fun K => (He.Fa.int "LEAST_EDGES" 4).ok K) (by rfl)
  let ⟨_, X, G⟩ := T.ex; He.int_ok X G c
theorem Tx.g_MOST_EDGES_readings (T : Tx K mg) : ∃ t, mg "MOST_EDGES_readings" = some (.int 128 t) :=
  have c := T.says.fact 44 (f := fun K => (He.Fa.int "MOST_EDGES_readings" 128).ok K) (by rfl)
  let ⟨_, X, G⟩ := T.ex; He.int_ok X G c
theorem Tx.cl_Ratio (T : Tx K mg) : Cls K (He.ga K "Ratio") :=
  have c := T.says.fact 45 (f := fun K => (He.Fa.cls "Ratio").ok K) (by rfl)
  He.cls_ok c
theorem Tx.mk_Ratio (T : Tx K mg) : Mk K (He.ga K "Ratio") (He.ma K (He.ga K "Ratio") "__init__") :=
  have c := T.says.fact 46 (f := fun K => (He.Fa.mkr "Ratio").ok K) (by rfl)
  He.mkr_ok c
theorem Tx.isi_Ratio (T : Tx K mg) : EM.isiB K (He.ga K "Ratio") = true :=
  have c := T.says.fact 47 (f := fun K => EM.isiB K (He.ga K "Ratio")) (by rfl)
  c
theorem Tx.cr_Ratio (T : Tx K mg) : ClX.CRead K (He.ga K "Ratio") (.type "type") :=
  have c := T.says.fact 48 (f := fun K => EM.creadB K (He.ga K "Ratio")) (by rfl)
  EM.creadB_ok c
theorem Tx.sm_Ratio_of (T : Tx K mg) : EM.SMet K (He.ga K "Ratio") "of" (He5.wf K (He.ga K "Ratio") "staticmethod" "of") :=
  have c := T.says.fact 49 (f := fun K => EM.smetB K (He.ga K "Ratio") "of") (by rfl)
  EM.smetB_ok c
theorem Tx.sm_Ratio_is_number (T : Tx K mg) : EM.SMet K (He.ga K "Ratio") "is_number" (He5.wf K (He.ga K "Ratio") "staticmethod" "is_number") :=
  have c := T.says.fact 50 (f := fun K => EM.smetB K (He.ga K "Ratio") "is_number") (by rfl)
  EM.smetB_ok c
theorem Tx.sf_Ratio (T : Tx K mg) : PySem.W.selfFirst K (He.ga K "Ratio") = true :=
  have c := T.says.fact 51 (f := fun K => PySem.W.selfFirst K (He.ga K "Ratio")) (by rfl)
  c
theorem Tx.si_Ratio (T : Tx K mg) : PySem.W.subIn K (.type "int") (.ref (He.ga K "Ratio")) = some false :=
  have c := T.says.fact 52 (f := fun K => decide (PySem.W.subIn K (.type "int") (.ref (He.ga K "Ratio")) = some false)) (by rfl)
  of_decide_eq_true c
theorem Tx.is_Ratio (T : Tx K mg) : PySem.W.subIn K (.ref (He.ga K "Ratio")) (.type "int") = some false :=
  have c := T.says.fact 53 (f := fun K => decide (PySem.W.subIn K (.ref (He.ga K "Ratio")) (.type "int") = some false)) (by rfl)
  of_decide_eq_true c
theorem Tx.cl_Duel (T : Tx K mg) : Cls K (He.ga K "Duel") :=
  have c := T.says.fact 54 (f := fun K => (He.Fa.cls "Duel").ok K) (by rfl)
  He.cls_ok c
theorem Tx.mk_Duel (T : Tx K mg) : Mk K (He.ga K "Duel") (He.ma K (He.ga K "Duel") "__init__") :=
  have c := T.says.fact 55 (f := fun K => (He.Fa.mkr "Duel").ok K) (by rfl)
  He.mkr_ok c
theorem Tx.cl_Reading (T : Tx K mg) : Cls K (He.ga K "Reading") :=
  have c := T.says.fact 56 (f := fun K => (He.Fa.cls "Reading").ok K) (by rfl)
  He.cls_ok c
theorem Tx.mk_Reading (T : Tx K mg) : Mk K (He.ga K "Reading") (He.ma K (He.ga K "Reading") "__init__") :=
  have c := T.says.fact 57 (f := fun K => (He.Fa.mkr "Reading").ok K) (by rfl)
  He.mkr_ok c
theorem Tx.cr_Reading (T : Tx K mg) : ClX.CRead K (He.ga K "Reading") (.type "type") :=
  have c := T.says.fact 58 (f := fun K => EM.creadB K (He.ga K "Reading")) (by rfl)
  EM.creadB_ok c
theorem Tx.cm_Reading_of (T : Tx K mg) : ClX.CMet K (He.ga K "Reading") (.type "type") "of" (He.ma K (He.ga K "Reading") "of") (He5.wf K (He.ga K "Reading") "classmethod" "of") :=
  have c := T.says.fact 59 (f := fun K => EM.cmetB K (He.ga K "Reading") "of") (by rfl)
  EM.cmetB_ok c
theorem Tx.sf_Reading (T : Tx K mg) : PySem.W.selfFirst K (He.ga K "Reading") = true :=
  have c := T.says.fact 60 (f := fun K => PySem.W.selfFirst K (He.ga K "Reading")) (by rfl)
  c
theorem Tx.na_Ratio_top (T : Tx K mg) : NoAttr K (He.ga K "Ratio") "top" :=
  have c := T.says.fact 61 (f := fun K => (He.Fa.noat "Ratio" "top").ok K) (by rfl)
  He.noat_ok c
theorem Tx.na_Ratio_bottom (T : Tx K mg) : NoAttr K (He.ga K "Ratio") "bottom" :=
  have c := T.says.fact 62 (f := fun K => (He.Fa.noat "Ratio" "bottom").ok K) (by rfl)
  He.noat_ok c
theorem Tx.na_Duel_weights (T : Tx K mg) : NoAttr K (He.ga K "Duel") "weights" :=
  have c := T.says.fact 63 (f := fun K => (He.Fa.noat "Duel" "weights").ok K) (by rfl)
  He.noat_ok c
theorem Tx.na_Duel_level (T : Tx K mg) : NoAttr K (He.ga K "Duel") "level" :=
  have c := T.says.fact 64 (f := fun K => (He.Fa.noat "Duel" "level").ok K) (by rfl)
  He.noat_ok c
theorem Tx.na_Reading_own_edges (T : Tx K mg) : NoAttr K (He.ga K "Reading") "own_edges" :=
  have c := T.says.fact 65 (f := fun K => (He.Fa.noat "Reading" "own_edges").ok K) (by rfl)
  He.noat_ok c
theorem Tx.m_Ratio_add (T : Tx K mg) : Meth K (He.ga K "Ratio") "__add__" (He.ma K (He.ga K "Ratio") "__add__") :=
  have c := T.says.fact 66 (f := fun K => (He.Fa.meth "Ratio" "__add__").ok K) (by rfl)
  He.meth_ok c
theorem Tx.m_Ratio_sub (T : Tx K mg) : Meth K (He.ga K "Ratio") "__sub__" (He.ma K (He.ga K "Ratio") "__sub__") :=
  have c := T.says.fact 67 (f := fun K => (He.Fa.meth "Ratio" "__sub__").ok K) (by rfl)
  He.meth_ok c
theorem Tx.m_Ratio_neg (T : Tx K mg) : Meth K (He.ga K "Ratio") "__neg__" (He.ma K (He.ga K "Ratio") "__neg__") :=
  have c := T.says.fact 68 (f := fun K => (He.Fa.meth "Ratio" "__neg__").ok K) (by rfl)
  He.meth_ok c
theorem Tx.m_Ratio_mul (T : Tx K mg) : Meth K (He.ga K "Ratio") "__mul__" (He.ma K (He.ga K "Ratio") "__mul__") :=
  have c := T.says.fact 69 (f := fun K => (He.Fa.meth "Ratio" "__mul__").ok K) (by rfl)
  He.meth_ok c
theorem Tx.m_Ratio_eq (T : Tx K mg) : Meth K (He.ga K "Ratio") "__eq__" (He.ma K (He.ga K "Ratio") "__eq__") :=
  have c := T.says.fact 70 (f := fun K => (He.Fa.meth "Ratio" "__eq__").ok K) (by rfl)
  He.meth_ok c
theorem Tx.m_Ratio_lt (T : Tx K mg) : Meth K (He.ga K "Ratio") "__lt__" (He.ma K (He.ga K "Ratio") "__lt__") :=
  have c := T.says.fact 71 (f := fun K => (He.Fa.meth "Ratio" "__lt__").ok K) (by rfl)
  He.meth_ok c
theorem Tx.m_Ratio_le (T : Tx K mg) : Meth K (He.ga K "Ratio") "__le__" (He.ma K (He.ga K "Ratio") "__le__") :=
  have c := T.says.fact 72 (f := fun K => (He.Fa.meth "Ratio" "__le__").ok K) (by rfl)
  He.meth_ok c
theorem Tx.m_Ratio_gt (T : Tx K mg) : Meth K (He.ga K "Ratio") "__gt__" (He.ma K (He.ga K "Ratio") "__gt__") :=
  have c := T.says.fact 73 (f := fun K => (He.Fa.meth "Ratio" "__gt__").ok K) (by rfl)
  He.meth_ok c
theorem Tx.m_Ratio_ge (T : Tx K mg) : Meth K (He.ga K "Ratio") "__ge__" (He.ma K (He.ga K "Ratio") "__ge__") :=
  have c := T.says.fact 74 (f := fun K => (He.Fa.meth "Ratio" "__ge__").ok K) (by rfl)
  He.meth_ok c
theorem Tx.m_Ratio_str (T : Tx K mg) : Meth K (He.ga K "Ratio") "__str__" (He.ma K (He.ga K "Ratio") "__str__") :=
  have c := T.says.fact 75 (f := fun K => (He.Fa.meth "Ratio" "__str__").ok K) (by rfl)
  He.meth_ok c
theorem Tx.m_Ratio_radd (T : Tx K mg) : Meth K (He.ga K "Ratio") "__radd__" (He.ma K (He.ga K "Ratio") "__radd__") :=
  have c := T.says.fact 76 (f := fun K => (He.Fa.meth "Ratio" "__radd__").ok K) (by rfl)
  He.meth_ok c
theorem Tx.m_Ratio_rsub (T : Tx K mg) : Meth K (He.ga K "Ratio") "__rsub__" (He.ma K (He.ga K "Ratio") "__rsub__") :=
  have c := T.says.fact 77 (f := fun K => (He.Fa.meth "Ratio" "__rsub__").ok K) (by rfl)
  He.meth_ok c
theorem Tx.m_Ratio_rmul (T : Tx K mg) : Meth K (He.ga K "Ratio") "__rmul__" (He.ma K (He.ga K "Ratio") "__rmul__") :=
  have c := T.says.fact 78 (f := fun K => (He.Fa.meth "Ratio" "__rmul__").ok K) (by rfl)
  He.meth_ok c
theorem Tx.m_Duel_call (T : Tx K mg) : Meth K (He.ga K "Duel") "__call__" (He.ma K (He.ga K "Duel") "__call__") :=
  have c := T.says.fact 79 (f := fun K => (He.Fa.meth "Duel" "__call__").ok K) (by rfl)
  He.meth_ok c
theorem Tx.m_Duel_weigh (T : Tx K mg) : Meth K (He.ga K "Duel") "weigh" (He.ma K (He.ga K "Duel") "weigh") :=
  have c := T.says.fact 80 (f := fun K => (He.Fa.meth "Duel" "weigh").ok K) (by rfl)
  He.meth_ok c
theorem Tx.m_Duel_neg (T : Tx K mg) : Meth K (He.ga K "Duel") "__neg__" (He.ma K (He.ga K "Duel") "__neg__") :=
  have c := T.says.fact 81 (f := fun K => (He.Fa.meth "Duel" "__neg__").ok K) (by rfl)
  He.meth_ok c
theorem Tx.m_Reading_len (T : Tx K mg) : Meth K (He.ga K "Reading") "__len__" (He.ma K (He.ga K "Reading") "__len__") :=
  have c := T.says.fact 82 (f := fun K => (He.Fa.meth "Reading" "__len__").ok K) (by rfl)
  He.meth_ok c
theorem Tx.m_Reading_setitem (T : Tx K mg) : Meth K (He.ga K "Reading") "__setitem__" (He.ma K (He.ga K "Reading") "__setitem__") :=
  have c := T.says.fact 83 (f := fun K => (He.Fa.meth "Reading" "__setitem__").ok K) (by rfl)
  He.meth_ok c
theorem Tx.m_Reading_iadd (T : Tx K mg) : Meth K (He.ga K "Reading") "__iadd__" (He.ma K (He.ga K "Reading") "__iadd__") :=
  have c := T.says.fact 84 (f := fun K => (He.Fa.meth "Reading" "__iadd__").ok K) (by rfl)
  He.meth_ok c
theorem Tx.m_Reading_imul (T : Tx K mg) : Meth K (He.ga K "Reading") "__imul__" (He.ma K (He.ga K "Reading") "__imul__") :=
  have c := T.says.fact 85 (f := fun K => (He.Fa.meth "Reading" "__imul__").ok K) (by rfl)
  He.meth_ok c
theorem Tx.m_Reading_str (T : Tx K mg) : Meth K (He.ga K "Reading") "__str__" (He.ma K (He.ga K "Reading") "__str__") :=
  have c := T.says.fact 86 (f := fun K => (He.Fa.meth "Reading" "__str__").ok K) (by rfl)
  He.meth_ok c
theorem Tx.p_Reading_edges (T : Tx K mg) : PropOf K (He.ga K "Reading") "edges" (He.ma K (He.ga K "Reading") "edges") (EM.pf K (He.ga K "Reading") "edges") :=
  have c := T.says.fact 87 (f := fun K => EM.propB K (He.ga K "Reading") "edges") (by rfl)
  EM.propB_ok c
theorem Tx.xi_Unlike (T : Tx K mg) : PySem.W.excIn K (He.ga K "Unlike") [.type "ValueError", .type "Exception", .type "BaseException", .type "object"] "ValueError.__new__" = true :=
  have c := T.says.fact 88 (f := fun K => PySem.W.excIn K (He.ga K "Unlike") [.type "ValueError", .type "Exception", .type "BaseException", .type "object"] "ValueError.__new__") (by rfl)
  c
theorem Tx.xb_Unlike (T : Tx K mg) : PySem.W.subIn K (.ref (He.ga K "Unlike")) (.type "BaseException") = some true :=
  have c := T.says.fact 89 (f := fun K => decide (PySem.W.subIn K (.ref (He.ga K "Unlike")) (.type "BaseException") = some true)) (by rfl)
  of_decide_eq_true c
theorem Tx.xt_Unlike (T : Tx K mg) : PySem.W.typeIn K (.ref (He.ga K "Unlike")) = some (.type "type") :=
  have c := T.says.fact 90 (f := fun K => decide (PySem.W.typeIn K (.ref (He.ga K "Unlike")) = some (.type "type"))) (by rfl)
  of_decide_eq_true c
theorem Tx.xk_Unlike (T : Tx K mg) : PySem.W.keepIn K (.ref (He.ga K "Unlike")) = true :=
  have c := T.says.fact 91 (f := fun K => PySem.W.keepIn K (.ref (He.ga K "Unlike"))) (by rfl)
  c
theorem Tx.xm_Unlike_EdgeError (T : Tx K mg) : PySem.W.exmOne K (.ref (He.ga K "Unlike")) (.ref (He.ga K "EdgeError")) = some true :=
  have c := T.says.fact 92 (f := fun K => decide (PySem.W.exmOne K (.ref (He.ga K "Unlike")) (.ref (He.ga K "EdgeError")) = some true)) (by rfl)
  of_decide_eq_true c
theorem Tx.xc_Unlike (T : Tx K mg) : EM.ExcK K (He.ga K "Unlike") :=
  have c := T.says.fact 93 (f := fun K => EM.excB K (He.ga K "Unlike")) (by rfl)
  EM.excB_ok c
theorem Tx.kit_Unlike_Unlike (T : Tx K mg) : PySem.W.kitOne K (.ref (He.ga K "Unlike")) (.ref (He.ga K "Unlike")) = some true :=
  have c := T.says.fact 94 (f := fun K => decide (PySem.W.kitOne K (.ref (He.ga K "Unlike")) (.ref (He.ga K "Unlike")) = some true)) (by rfl)
  of_decide_eq_true c
theorem Tx.ns_Reading (T : Tx K mg) : PySem.W.noSeq K (He.ga K "Reading") = true :=
  have c := T.says.fact 95 (f := fun K => PySem.W.noSeq K (He.ga K "Reading")) (by rfl)
  c
theorem Tx.kit_int_Ratio (T : Tx K mg) : PySem.W.kitOne K (.type "int") (.ref (He.ga K "Ratio")) = some false :=
  have c := T.says.fact 96 (f := fun K => decide (PySem.W.kitOne K (.type "int") (.ref (He.ga K "Ratio")) = some false)) (by rfl)
  of_decide_eq_true c
theorem Tx.ap_Ratio (T : Tx K mg) : EM.Apart K (He.ga K "Ratio") :=
  have c := T.says.fact 99 (f := fun K => EM.apartB K (He.ga K "Ratio")) (by rfl)
  EM.apartB_ok c
theorem Tx.d_is_integer_ratios (T : Tx K mg) : ∃ fd, FunD K "is_integer" "is_integer" (defArgs s_is_integer_ratios) (defBody s_is_integer_ratios) (defScope s_is_integer_ratios) [] [] (He.ga K "is_integer_ratios") fd := T.says.def_ 0 (d := e_is_integer_ratios) (by rfl)
theorem Tx.d_is_integer_fits (T : Tx K mg) : ∃ fd, FunD K "is_integer" "is_integer" (defArgs s_is_integer_fits) (defBody s_is_integer_fits) (defScope s_is_integer_fits) [] [] (He.ga K "is_integer_fits") fd := T.says.def_ 1 (d := e_is_integer_fits) (by rfl)
theorem Tx.d_common_divisor (T : Tx K mg) : ∃ fd, FunD K "common_divisor" "common_divisor" (defArgs s_common_divisor) (defBody s_common_divisor) (defScope s_common_divisor) [] [] (He.ga K "common_divisor") fd := T.says.def_ 2 (d := e_common_divisor) (by rfl)
theorem Tx.d_Ratio_init (T : Tx K mg) : ∃ fd, FunD K "__init__" "Ratio.__init__" (defArgs s_Ratio_init) (defBody s_Ratio_init) (defScope s_Ratio_init) [.int 1] [] (He.ma K (He.ga K "Ratio") "__init__") fd := T.says.def_ 3 (d := e_Ratio_init) (by rfl)
theorem Tx.d_Ratio_of (T : Tx K mg) : ∃ fd, FunD K "of" "Ratio.of" (defArgs s_Ratio_of) (defBody s_Ratio_of) (defScope s_Ratio_of) [] [] (He5.wf K (He.ga K "Ratio") "staticmethod" "of") fd := T.says.def_ 4 (d := e_Ratio_of) (by rfl)
theorem Tx.d_Ratio_is_number (T : Tx K mg) : ∃ fd, FunD K "is_number" "Ratio.is_number" (defArgs s_Ratio_is_number) (defBody s_Ratio_is_number) (defScope s_Ratio_is_number) [] [] (He5.wf K (He.ga K "Ratio") "staticmethod" "is_number") fd := T.says.def_ 5 (d := e_Ratio_is_number) (by rfl)
theorem Tx.d_Ratio_add (T : Tx K mg) : ∃ fd, FunD K "__add__" "Ratio.__add__" (defArgs s_Ratio_add) (defBody s_Ratio_add) (defScope s_Ratio_add) [] [] (He.ma K (He.ga K "Ratio") "__add__") fd := T.says.def_ 6 (d := e_Ratio_add) (by rfl)
theorem Tx.d_Ratio_sub (T : Tx K mg) : ∃ fd, FunD K "__sub__" "Ratio.__sub__" (defArgs s_Ratio_sub) (defBody s_Ratio_sub) (defScope s_Ratio_sub) [] [] (He.ma K (He.ga K "Ratio") "__sub__") fd := T.says.def_ 7 (d := e_Ratio_sub) (by rfl)
theorem Tx.d_Ratio_neg (T : Tx K mg) : ∃ fd, FunD K "__neg__" "Ratio.__neg__" (defArgs s_Ratio_neg) (defBody s_Ratio_neg) (defScope s_Ratio_neg) [] [] (He.ma K (He.ga K "Ratio") "__neg__") fd := T.says.def_ 8 (d := e_Ratio_neg) (by rfl)
theorem Tx.d_Ratio_mul (T : Tx K mg) : ∃ fd, FunD K "__mul__" "Ratio.__mul__" (defArgs s_Ratio_mul) (defBody s_Ratio_mul) (defScope s_Ratio_mul) [] [] (He.ma K (He.ga K "Ratio") "__mul__") fd := T.says.def_ 9 (d := e_Ratio_mul) (by rfl)
theorem Tx.d_Ratio_radd (T : Tx K mg) : ∃ fd, FunD K "__radd__" "Ratio.__radd__" (defArgs s_Ratio_radd) (defBody s_Ratio_radd) (defScope s_Ratio_radd) [] [] (He.ma K (He.ga K "Ratio") "__radd__") fd := T.says.def_ 10 (d := e_Ratio_radd) (by rfl)
theorem Tx.d_Ratio_rsub (T : Tx K mg) : ∃ fd, FunD K "__rsub__" "Ratio.__rsub__" (defArgs s_Ratio_rsub) (defBody s_Ratio_rsub) (defScope s_Ratio_rsub) [] [] (He.ma K (He.ga K "Ratio") "__rsub__") fd := T.says.def_ 11 (d := e_Ratio_rsub) (by rfl)
theorem Tx.d_Ratio_rmul (T : Tx K mg) : ∃ fd, FunD K "__rmul__" "Ratio.__rmul__" (defArgs s_Ratio_rmul) (defBody s_Ratio_rmul) (defScope s_Ratio_rmul) [] [] (He.ma K (He.ga K "Ratio") "__rmul__") fd := T.says.def_ 12 (d := e_Ratio_rmul) (by rfl)
theorem Tx.d_Ratio_eq (T : Tx K mg) : ∃ fd, FunD K "__eq__" "Ratio.__eq__" (defArgs s_Ratio_eq) (defBody s_Ratio_eq) (defScope s_Ratio_eq) [] [] (He.ma K (He.ga K "Ratio") "__eq__") fd := T.says.def_ 13 (d := e_Ratio_eq) (by rfl)
theorem Tx.d_Ratio_lt (T : Tx K mg) : ∃ fd, FunD K "__lt__" "Ratio.__lt__" (defArgs s_Ratio_lt) (defBody s_Ratio_lt) (defScope s_Ratio_lt) [] [] (He.ma K (He.ga K "Ratio") "__lt__") fd := T.says.def_ 14 (d := e_Ratio_lt) (by rfl)
theorem Tx.d_Ratio_le (T : Tx K mg) : ∃ fd, FunD K "__le__" "Ratio.__le__" (defArgs s_Ratio_le) (defBody s_Ratio_le) (defScope s_Ratio_le) [] [] (He.ma K (He.ga K "Ratio") "__le__") fd := T.says.def_ 15 (d := e_Ratio_le) (by rfl)
theorem Tx.d_Ratio_gt (T : Tx K mg) : ∃ fd, FunD K "__gt__" "Ratio.__gt__" (defArgs s_Ratio_gt) (defBody s_Ratio_gt) (defScope s_Ratio_gt) [] [] (He.ma K (He.ga K "Ratio") "__gt__") fd := T.says.def_ 16 (d := e_Ratio_gt) (by rfl)
theorem Tx.d_Ratio_ge (T : Tx K mg) : ∃ fd, FunD K "__ge__" "Ratio.__ge__" (defArgs s_Ratio_ge) (defBody s_Ratio_ge) (defScope s_Ratio_ge) [] [] (He.ma K (He.ga K "Ratio") "__ge__") fd := T.says.def_ 17 (d := e_Ratio_ge) (by rfl)
theorem Tx.d_Ratio_str (T : Tx K mg) : ∃ fd, FunD K "__str__" "Ratio.__str__" (defArgs s_Ratio_str) (defBody s_Ratio_str) (defScope s_Ratio_str) [] [] (He.ma K (He.ga K "Ratio") "__str__") fd := T.says.def_ 18 (d := e_Ratio_str) (by rfl)
theorem Tx.d_is_edge_count (T : Tx K mg) : ∃ fd, FunD K "is_edge_count" "is_edge_count" (defArgs s_is_edge_count) (defBody s_is_edge_count) (defScope s_is_edge_count) [] [] (He.ga K "is_edge_count") fd := T.says.def_ 19 (d := e_is_edge_count) (by rfl)
theorem Tx.d_need_edge (T : Tx K mg) : ∃ fd, FunD K "need_edge" "need_edge" (defArgs s_need_edge) (defBody s_need_edge) (defScope s_need_edge) [] [] (He.ga K "need_edge") fd := T.says.def_ 20 (d := e_need_edge) (by rfl)
theorem Tx.d_edges_of (T : Tx K mg) : ∃ fd, FunD K "edges_of" "edges_of" (defArgs s_edges_of) (defBody s_edges_of) (defScope s_edges_of) [] [] (He.ga K "edges_of") fd := T.says.def_ 21 (d := e_edges_of) (by rfl)
theorem Tx.d_moved (T : Tx K mg) : ∃ fd, FunD K "moved" "moved" (defArgs s_moved) (defBody s_moved) (defScope s_moved) [] [] (He.ga K "moved") fd := T.says.def_ 22 (d := e_moved) (by rfl)
theorem Tx.d_stretched (T : Tx K mg) : ∃ fd, FunD K "stretched" "stretched" (defArgs s_stretched) (defBody s_stretched) (defScope s_stretched) [] [] (He.ga K "stretched") fd := T.says.def_ 23 (d := e_stretched) (by rfl)
theorem Tx.d_need_alike (T : Tx K mg) : ∃ fd, FunD K "need_alike" "need_alike" (defArgs s_need_alike) (defBody s_need_alike) (defScope s_need_alike) [] [] (He.ga K "need_alike") fd := T.says.def_ 24 (d := e_need_alike) (by rfl)
theorem Tx.d_need_plain_weights (T : Tx K mg) : ∃ fd, FunD K "need_plain_weights" "need_plain_weights" (defArgs s_need_plain_weights) (defBody s_need_plain_weights) (defScope s_need_plain_weights) [] [] (He.ga K "need_plain_weights") fd := T.says.def_ 25 (d := e_need_plain_weights) (by rfl)
theorem Tx.d_weighed (T : Tx K mg) : ∃ fd, FunD K "weighed" "weighed" (defArgs s_weighed) (defBody s_weighed) (defScope s_weighed) [] [] (He.ga K "weighed") fd := T.says.def_ 26 (d := e_weighed) (by rfl)
theorem Tx.d_Reading_init (T : Tx K mg) : ∃ fd, FunD K "__init__" "Reading.__init__" (defArgs s_Reading_init) (defBody s_Reading_init) (defScope s_Reading_init) [] [] (He.ma K (He.ga K "Reading") "__init__") fd := T.says.def_ 27 (d := e_Reading_init) (by rfl)
theorem Tx.d_Reading_of (T : Tx K mg) : ∃ fd, FunD K "of" "Reading.of" (defArgs s_Reading_of) (defBody s_Reading_of) (defScope s_Reading_of) [] [] (He5.wf K (He.ga K "Reading") "classmethod" "of") fd := T.says.def_ 28 (d := e_Reading_of) (by rfl)
theorem Tx.d_Reading_edges (T : Tx K mg) : ∃ fd, FunD K "edges" "Reading.edges" (defArgs s_Reading_edges) (defBody s_Reading_edges) (defScope s_Reading_edges) [] [] (EM.pf K (He.ga K "Reading") "edges") fd := T.says.def_ 29 (d := e_Reading_edges) (by rfl)
theorem Tx.d_Reading_len (T : Tx K mg) : ∃ fd, FunD K "__len__" "Reading.__len__" (defArgs s_Reading_len) (defBody s_Reading_len) (defScope s_Reading_len) [] [] (He.ma K (He.ga K "Reading") "__len__") fd := T.says.def_ 30 (d := e_Reading_len) (by rfl)
theorem Tx.d_Reading_setitem (T : Tx K mg) : ∃ fd, FunD K "__setitem__" "Reading.__setitem__" (defArgs s_Reading_setitem) (defBody s_Reading_setitem) (defScope s_Reading_setitem) [] [] (He.ma K (He.ga K "Reading") "__setitem__") fd := T.says.def_ 31 (d := e_Reading_setitem) (by rfl)
theorem Tx.d_Reading_iadd (T : Tx K mg) : ∃ fd, FunD K "__iadd__" "Reading.__iadd__" (defArgs s_Reading_iadd) (defBody s_Reading_iadd) (defScope s_Reading_iadd) [] [] (He.ma K (He.ga K "Reading") "__iadd__") fd := T.says.def_ 32 (d := e_Reading_iadd) (by rfl)
theorem Tx.d_Reading_imul (T : Tx K mg) : ∃ fd, FunD K "__imul__" "Reading.__imul__" (defArgs s_Reading_imul) (defBody s_Reading_imul) (defScope s_Reading_imul) [] [] (He.ma K (He.ga K "Reading") "__imul__") fd := T.says.def_ 33 (d := e_Reading_imul) (by rfl)
theorem Tx.d_Reading_str (T : Tx K mg) : ∃ fd, FunD K "__str__" "Reading.__str__" (defArgs s_Reading_str) (defBody s_Reading_str) (defScope s_Reading_str) [] [] (He.ma K (He.ga K "Reading") "__str__") fd := T.says.def_ 34 (d := e_Reading_str) (by rfl)
theorem Tx.d_Duel_init (T : Tx K mg) : ∃ fd, FunD K "__init__" "Duel.__init__" (defArgs s_Duel_init) (defBody s_Duel_init) (defScope s_Duel_init) [.int 0] [] (He.ma K (He.ga K "Duel") "__init__") fd := T.says.def_ 35 (d := e_Duel_init) (by rfl)
theorem Tx.d_Duel_call (T : Tx K mg) : ∃ fd, FunD K "__call__" "Duel.__call__" (defArgs s_Duel_call) (defBody s_Duel_call) (defScope s_Duel_call) [] [] (He.ma K (He.ga K "Duel") "__call__") fd := T.says.def_ 36 (d := e_Duel_call) (by rfl)
theorem Tx.d_Duel_weigh (T : Tx K mg) : ∃ fd, FunD K "weigh" "Duel.weigh" (defArgs s_Duel_weigh) (defBody s_Duel_weigh) (defScope s_Duel_weigh) [] [] (He.ma K (He.ga K "Duel") "weigh") fd := T.says.def_ 37 (d := e_Duel_weigh) (by rfl)
theorem Tx.d_Duel_neg (T : Tx K mg) : ∃ fd, FunD K "__neg__" "Duel.__neg__" (defArgs s_Duel_neg) (defBody s_Duel_neg) (defScope s_Duel_neg) [] [] (He.ma K (He.ga K "Duel") "__neg__") fd := T.says.def_ 38 (d := e_Duel_neg) (by rfl)
theorem Tx.d_Lpen (T : Tx K mg) : ∃ fd, FunD K "_law_pen" "_law_pen" (defArgs s_Lpen) (defBody s_Lpen) (defScope s_Lpen) [] [] (He.ga K "_law_pen") fd := T.says.def_ 39 (d := e_Lpen) (by rfl)
theorem Tx.d_Ldraw (T : Tx K mg) : ∃ fd, FunD K "_law_draw" "_law_draw" (defArgs s_Ldraw) (defBody s_Ldraw) (defScope s_Ldraw) [] [] (He.ga K "_law_draw") fd := T.says.def_ 40 (d := e_Ldraw) (by rfl)
theorem Tx.d_Lpick (T : Tx K mg) : ∃ fd, FunD K "_law_pick" "_law_pick" (defArgs s_Lpick) (defBody s_Lpick) (defScope s_Lpick) [] [] (He.ga K "_law_pick") fd := T.says.def_ 41 (d := e_Lpick) (by rfl)
theorem Tx.d_Lweights (T : Tx K mg) : ∃ fd, FunD K "_law_weights" "_law_weights" (defArgs s_Lweights) (defBody s_Lweights) (defScope s_Lweights) [] [] (He.ga K "_law_weights") fd := T.says.def_ 42 (d := e_Lweights) (by rfl)
theorem Tx.d_Ltops (T : Tx K mg) : ∃ fd, FunD K "_law_tops" "_law_tops" (defArgs s_Ltops) (defBody s_Ltops) (defScope s_Ltops) [] [] (He.ga K "_law_tops") fd := T.says.def_ 43 (d := e_Ltops) (by rfl)
theorem Tx.d_Ltext (T : Tx K mg) : ∃ fd, FunD K "_law_text" "_law_text" (defArgs s_Ltext) (defBody s_Ltext) (defScope s_Ltext) [] [] (He.ga K "_law_text") fd := T.says.def_ 44 (d := e_Ltext) (by rfl)
theorem Tx.d_Lis_unlike (T : Tx K mg) : ∃ fd, FunD K "_law_is_unlike" "_law_is_unlike" (defArgs s_Lis_unlike) (defBody s_Lis_unlike) (defScope s_Lis_unlike) [] [] (He.ga K "_law_is_unlike") fd := T.says.def_ 45 (d := e_Lis_unlike) (by rfl)
theorem Tx.d_Ltold_right (T : Tx K mg) : ∃ fd, FunD K "_law_told_right" "_law_told_right" (defArgs s_Ltold_right) (defBody s_Ltold_right) (defScope s_Ltold_right) [] [] (He.ga K "_law_told_right") fd := T.says.def_ 46 (d := e_Ltold_right) (by rfl)
theorem Tx.d_Lheld_right (T : Tx K mg) : ∃ fd, FunD K "_law_held_right" "_law_held_right" (defArgs s_Lheld_right) (defBody s_Lheld_right) (defScope s_Lheld_right) [] [] (He.ga K "_law_held_right") fd := T.says.def_ 47 (d := e_Lheld_right) (by rfl)
theorem Tx.d_Lrefused_right (T : Tx K mg) : ∃ fd, FunD K "_law_refused_right" "_law_refused_right" (defArgs s_Lrefused_right) (defBody s_Lrefused_right) (defScope s_Lrefused_right) [] [] (He.ga K "_law_refused_right") fd := T.says.def_ 48 (d := e_Lrefused_right) (by rfl)
theorem Tx.d_law (T : Tx K mg) : ∃ fd, FunD K "law" "law" (defArgs s_law) (defBody s_law) (defScope s_law) [] [] (He.ga K "law") fd := T.says.def_ 49 (d := e_law) (by rfl)
theorem Tx.k_is_integer_ratios (T : Tx K mg) : PySem.W.keepIn K (.ref (He.ga K "is_integer_ratios")) = true := let ⟨_, F⟩ := T.d_is_integer_ratios; F.kp
theorem Tx.k_is_integer_fits (T : Tx K mg) : PySem.W.keepIn K (.ref (He.ga K "is_integer_fits")) = true := let ⟨_, F⟩ := T.d_is_integer_fits; F.kp
theorem Tx.k_common_divisor (T : Tx K mg) : PySem.W.keepIn K (.ref (He.ga K "common_divisor")) = true := let ⟨_, F⟩ := T.d_common_divisor; F.kp
theorem Tx.k_is_edge_count (T : Tx K mg) : PySem.W.keepIn K (.ref (He.ga K "is_edge_count")) = true := let ⟨_, F⟩ := T.d_is_edge_count; F.kp
theorem Tx.k_need_edge (T : Tx K mg) : PySem.W.keepIn K (.ref (He.ga K "need_edge")) = true := let ⟨_, F⟩ := T.d_need_edge; F.kp
theorem Tx.k_edges_of (T : Tx K mg) : PySem.W.keepIn K (.ref (He.ga K "edges_of")) = true := let ⟨_, F⟩ := T.d_edges_of; F.kp
theorem Tx.k_moved (T : Tx K mg) : PySem.W.keepIn K (.ref (He.ga K "moved")) = true := let ⟨_, F⟩ := T.d_moved; F.kp
theorem Tx.k_stretched (T : Tx K mg) : PySem.W.keepIn K (.ref (He.ga K "stretched")) = true := let ⟨_, F⟩ := T.d_stretched; F.kp
theorem Tx.k_need_alike (T : Tx K mg) : PySem.W.keepIn K (.ref (He.ga K "need_alike")) = true := let ⟨_, F⟩ := T.d_need_alike; F.kp
theorem Tx.k_need_plain_weights (T : Tx K mg) : PySem.W.keepIn K (.ref (He.ga K "need_plain_weights")) = true := let ⟨_, F⟩ := T.d_need_plain_weights; F.kp
theorem Tx.k_weighed (T : Tx K mg) : PySem.W.keepIn K (.ref (He.ga K "weighed")) = true := let ⟨_, F⟩ := T.d_weighed; F.kp
theorem Tx.k__law_pen (T : Tx K mg) : PySem.W.keepIn K (.ref (He.ga K "_law_pen")) = true := let ⟨_, F⟩ := T.d_Lpen; F.kp
theorem Tx.k__law_draw (T : Tx K mg) : PySem.W.keepIn K (.ref (He.ga K "_law_draw")) = true := let ⟨_, F⟩ := T.d_Ldraw; F.kp
theorem Tx.k__law_pick (T : Tx K mg) : PySem.W.keepIn K (.ref (He.ga K "_law_pick")) = true := let ⟨_, F⟩ := T.d_Lpick; F.kp
theorem Tx.k__law_weights (T : Tx K mg) : PySem.W.keepIn K (.ref (He.ga K "_law_weights")) = true := let ⟨_, F⟩ := T.d_Lweights; F.kp
theorem Tx.k__law_tops (T : Tx K mg) : PySem.W.keepIn K (.ref (He.ga K "_law_tops")) = true := let ⟨_, F⟩ := T.d_Ltops; F.kp
theorem Tx.k__law_text (T : Tx K mg) : PySem.W.keepIn K (.ref (He.ga K "_law_text")) = true := let ⟨_, F⟩ := T.d_Ltext; F.kp
theorem Tx.k__law_told_right (T : Tx K mg) : PySem.W.keepIn K (.ref (He.ga K "_law_told_right")) = true := let ⟨_, F⟩ := T.d_Ltold_right; F.kp
theorem Tx.k__law_held_right (T : Tx K mg) : PySem.W.keepIn K (.ref (He.ga K "_law_held_right")) = true := let ⟨_, F⟩ := T.d_Lheld_right; F.kp
theorem Tx.k__law_refused_right (T : Tx K mg) : PySem.W.keepIn K (.ref (He.ga K "_law_refused_right")) = true := let ⟨_, F⟩ := T.d_Lrefused_right; F.kp
theorem Tx.k_Ratio_of (T : Tx K mg) : PySem.W.keepIn K (.ref (He5.wf K (He.ga K "Ratio") "staticmethod" "of")) = true := let ⟨_, F⟩ := T.d_Ratio_of; F.kp
theorem Tx.k_Ratio_is_number (T : Tx K mg) : PySem.W.keepIn K (.ref (He5.wf K (He.ga K "Ratio") "staticmethod" "is_number")) = true := let ⟨_, F⟩ := T.d_Ratio_is_number; F.kp
theorem Tx.t_Lrefused_right (T : Tx K mg) : EM.TabK K (He.ga K "_law_refused_right") := T.tab _ (List.mem_of_getElem? (i := 0) (by rfl))
end
end K41
namespace K41
open PySem PySem.Spec PyProof.Rows L2 EM
section
variable {P : Program} {w : World} {K : PySem.W.Frag} {mg : Str → Option Value} {base : Heap}
theorem ok_Lpen (T : Tx K mg) : FnR P w K mg base (L2.CX P w) 1 (He.ga K "_law_pen") (spPen K) := by
  obtain ⟨fd, F⟩ := T.d_Lpen
  refine EM.fnr F sc_Lpen (fun _ _ _ _ _ _ us hl => match us, hl with | [_], _ => rfl) (fun vs H Q E h => ?_) (fun cdv A outer s H vs Q E hr h => ?_)
  · obtain ⟨a, ns, rfl, _⟩ := h
    rfl
  · obtain ⟨a, ns, rfl, hS, hl, k⟩ := h
    obtain ⟨ms, ems, hms⟩ := cut_ints ns none (some 63)
    refine ⟨_, (PSs.nox (pss_one (ps_ret (pe_lst (pa_cons (pe_callTy call_list_of (by rfl) T.f_list (by decide +kernel) (pa_cons (pe_slice sl_list (pv 0) po_none (po_some pe_int)) pa_nil)) (pa_cons pe_int (pa_cons pe_int pa_nil))))))), ?_⟩
    refine ⟨_, rfl, 63, rfl, a, _, rfl, hS, fun c hc => ⟨c, _, rfl, .inl (SqL.of upd_same), fun l hl2 => ⟨(by show 3 ≤ sizeLine; decide), fun p hp => ?_⟩⟩⟩
    have s1 : Same H _ := same_upd (o := .lst (cutV (ns.map V.int) none (some 63))) hc
    have s2 := same_upd' (o := .lst (cutV (ns.map V.int) none (some 63))) s1 (s1.free hl2)
    have n2 : H p = none := s2.free hp
    have nlp : l ≠ p := by
      intro z
      subst z
      rw [upd_same] at hp
      cases hp
    refine k p l _ (same_upd' s2 n2) n2 ⟨ms, 0, 0, upd_same, ?_, nlp, by omega, by omega, by omega⟩
    rw [upd_ne nlp, upd_same, ems]
theorem ok_Ldraw (T : Tx K mg) : FnR P w K mg base (L2.CX P w) 1 (He.ga K "_law_draw") (spDraw) := by
  obtain ⟨fd, F⟩ := T.d_Ldraw
  refine EM.fnr F sc_Ldraw (fun _ _ _ _ _ _ us hl => match us, hl with | [_, _], _ => rfl) (fun vs H Q E h => ?_) (fun cdv A outer s H vs Q E hr h => ?_)
  · obtain ⟨p, l, n, many, rfl, _⟩ := h
    rfl
  · obtain ⟨p, l, n, many, rfl, ⟨cells, at_, rest, hp, hlc, nlp, hcl, a0, a1⟩, hn, m1, m2, k⟩ := h
    have wm : CDivW 0 many := wide_div (b := 400) (by omega) (by omega) (by decide) (by decide)
    have wd : ∀ i, CDivW i many := fun i => wm
    have md : ∀ i : Int, 0 ≤ i % many ∧ i % many < many := fun i => ⟨Int.emod_nonneg _ (by omega), Int.emod_lt_of_pos _ (by omega)⟩
    refine ⟨_, (PSs.nox (pss_cons (ps_if (pt_cmpR op_gt (pe_ix ix_list (pv 0) pe_int (fun _ _ => rfl)) pe_int (nomark _))
  (pss_cons (ps_set (i := 2) sc_Ldraw.nd rfl (Or.inl rfl) (pe_op op_mod (pe_callTy call_int1 (by rfl) T.f_int (by decide +kernel) (pa_cons (pe_ix ix_list (pv 0) pe_int (fun _ _ => rfl)) pa_nil)) (pv 1)))
 (pss_cons (ps_asg (pe_op op_fdivW (pe_callTy call_int1 (by rfl) T.f_int (by decide +kernel) (pa_cons (pe_ix ix_list (pv 0) pe_int (fun _ _ => rfl)) pa_nil)) (pv 1)) (pg_sub (pv 0) pe_int set_list))
 (pss_one (ps_ret (pv 2))))) pss_nil)
 (pss_cons (ps_set (i := 3) sc_Ldraw.nd rfl (Or.inl rfl) (pe_ix ix_list (pv 0) pe_int (fun _ _ => rfl)))
 (pss_cons (ps_asg (pe_op op_add (pv 3) pe_int) (pg_sub (pv 0) pe_int set_list))
 (pss_cons (ps_set (i := 4) sc_Ldraw.nd rfl (Or.inl rfl) (pe_op op_add (pe_op op_mul pe_int (pv 3)) pe_int))
 (pss_cons (ps_if (pt_cmpR (op_neD hr.units) (pe_ix ix_list (pv 0) pe_int (fun _ _ => rfl)) (pe_lst pa_nil) (nomark _))
  (pss_one (ps_set (i := 4) sc_Ldraw.nd rfl (Or.inl rfl) (pe_ix ix_list (pe_ix ix_list (pv 0) pe_int (fun _ _ => rfl)) (pe_op op_mod (pe_callTy call_int1 (by rfl) T.f_int (by decide +kernel) (pa_cons (pv 3) pa_nil)) (pe_callB call_len (by rfl) T.f_len boot_len (pa_cons (pe_ix ix_list (pv 0) pe_int (fun _ _ => rfl)) pa_nil))) (fun _ _ => rfl)))) pss_nil)
 (pss_cons (ps_if (PW.pt (pw_and (pt_cmpR op_lt (pv 3) (pe_callB call_len (by rfl) T.f_len boot_len (pa_cons (pe_ix ix_list (pv 0) pe_int (fun _ _ => rfl)) pa_nil)) (nomark _)) (pw_and1 (pt_cmpR op_ge (pe_callB call_abs (by rfl) T.f_abs (by decide +kernel) (pa_cons (pv 4) pa_nil)) (pe_op op_pow pe_int pe_int) (nomark _)))))
  (pss_cons (ps_set (i := 5) sc_Ldraw.nd rfl (Or.inl rfl) (pe_op op_add (pe_op op_mul pe_int (pe_op op_sub (pe_callB call_abs (by rfl) T.f_abs (by decide +kernel) (pa_cons (pv 4) pa_nil)) (pe_op op_pow pe_int pe_int))) (pe_callTy call_int1 (by rfl) T.f_int (by decide +kernel) (pa_cons (pe_cmpR op_lt (pv 4) pe_int (nomark _)) pa_nil))))
 (pss_cons (ps_asg (pe_op op_fdivW (pe_callTy call_int1 (by rfl) T.f_int (by decide +kernel) (pa_cons (pv 5) pa_nil)) (pv 1)) (pg_sub (pv 0) pe_int set_list))
 (pss_one (ps_ret (pe_op op_mod (pe_callTy call_int1 (by rfl) T.f_int (by decide +kernel) (pa_cons (pv 5) pa_nil)) (pv 1)))))) pss_nil)
 (pss_cons (ps_set (i := 6) sc_Ldraw.nd rfl (Or.inl rfl) (pe_op op_mod (pe_callTy call_int1 (by rfl) T.f_int (by decide +kernel) (pa_cons (pe_op op_pow (pe_op op_add (pe_op op_add (pe_op op_mod (pe_callTy call_int1 (by rfl) T.f_int (by decide +kernel) (pa_cons (pv 4) pa_nil)) pe_int) (pe_op op_mul pe_int (pv 3))) pe_int) pe_int) pa_nil)) pe_int))
 (pss_cons (ps_set (i := 6) sc_Ldraw.nd rfl (Or.inl rfl) (pe_op op_mod (pe_callTy call_int1 (by rfl) T.f_int (by decide +kernel) (pa_cons (pe_op op_pow (pe_op op_add (pe_op op_add (pe_op op_mul (pv 6) (pe_op op_add (pe_op op_mul pe_int (pv 3)) pe_int)) (pe_op op_mul (pe_op op_mul pe_int (pv 3)) (pv 3))) pe_int) pe_int) pa_nil)) pe_int))
 (pss_one (ps_ret (pe_op op_mod (pe_callTy call_int1 (by rfl) T.f_int (by decide +kernel) (pa_cons (pe_op op_fdiv (pv 6) pe_int) pa_nil)) (pv 1))))))))))))), ?_⟩
    -- if pen[2] > 0
    refine ⟨_, rfl, p, _, 2, _, rfl, rfl, SqL.of hp, rfl, _, _, rfl, rfl, _, rfl, ite2 (fun c => ?_) (fun c => ?_)⟩
    · refine ⟨_, rfl, p, _, 2, _, rfl, rfl, SqL.of hp, rfl, .inl ⟨_, rfl, _, rfl, _, _, rfl, rfl, (by show (0 : Int) < many; omega), ?_⟩⟩
      refine ⟨_, rfl, p, _, 2, _, rfl, rfl, SqL.of hp, rfl, .inl ⟨_, rfl, _, rfl, _, _, rfl, rfl, wd _, ?_⟩⟩
      refine ⟨_, rfl, p, _, 2, 2, rfl, rfl, hp, rfl, ?_⟩
      refine ⟨_, rfl, k _ _ (md _).1 (md _).2 (fun b o e hb => by rw [upd_ne hb]; exact e) ⟨cells, at_, _, upd_same, by rw [upd_ne nlp]; exact hlc, nlp, hcl, a0, by omega⟩⟩
    · have a2 : at_ ≤ 1000000 := by omega
      -- at = pen[1]; pen[1] = at + 1; cell = ..
      refine ⟨_, rfl, p, _, 1, _, rfl, rfl, SqL.of hp, rfl, ?_⟩
      refine ⟨_, rfl, _, _, rfl, rfl, _, rfl, p, _, 1, 1, rfl, rfl, hp, rfl, ?_⟩
      refine ⟨_, rfl, _, _, rfl, rfl, .inl ⟨by decide, by decide⟩, _, _, rfl, rfl, ?_⟩
      obtain ⟨H1, eH1⟩ : ∃ H1, H1 = upd H p (.lst ([V.ref l, V.int at_, V.int rest].set 1 (.int (at_ + 1)))) := ⟨_, rfl⟩
      rw [← eH1]
      have hp1 : H1 p = some (.lst [.ref l, .int (at_ + 1), .int rest]) := by rw [eH1]; exact upd_same
      have hl1 : H1 l = some (.lst (cells.map V.int)) := by rw [eH1, upd_ne nlp]; exact hlc
      have k1 : ∀ b o, H b = some o → b ≠ p → H1 b = some o := fun b o e hb => by rw [eH1, upd_ne hb]; exact e
      clear eH1
      -- if pen[0] != []
      refine ⟨_, rfl, p, _, 0, _, rfl, rfl, SqL.of hp1, rfl, (by show 0 ≤ sizeLine; decide), fun q hq => ⟨dL cells, dL [], .lst (SqL.of (by rw [upd_ne (ne_of_none hl1 hq)]; exact hl1)) (dp_ints cells), .lst (SqL.of upd_same) .nil, shL cells, shL [], _, rfl, ?_⟩⟩
      obtain ⟨H2, eH2⟩ : ∃ H2, H2 = upd H1 q (.lst []) := ⟨_, rfl⟩
      rw [← eH2]
      have hp2 : H2 p = some (.lst [.ref l, .int (at_ + 1), .int rest]) := by rw [eH2, upd_ne (ne_of_none hp1 hq)]; exact hp1
      have hl2 : H2 l = some (.lst (cells.map V.int)) := by rw [eH2, upd_ne (ne_of_none hl1 hq)]; exact hl1
      have k2 : ∀ b o, H b = some o → b ≠ p → H2 b = some o := fun b o e hb => by rw [eH2, upd_ne (ne_of_none (k1 b o e hb) hq)]; exact k1 b o e hb
      clear eH2
      rw [eqvL]
      refine ite2 (fun c2 => ?_) (fun c2 => ?_)
      · have hc0 : 0 < cells.length := by
          cases cells with
          | nil => simp at c2
          | cons _ _ => simp
        have hm : 0 ≤ at_ % (cells.length : Int) ∧ at_ % (cells.length : Int) < cells.length := ⟨Int.emod_nonneg _ (by omega), Int.emod_lt_of_pos _ (by omega)⟩
        have hj : (at_ % (cells.length : Int)).toNat < cells.length := by omega
        refine ⟨_, rfl, p, _, 0, _, rfl, rfl, SqL.of hp2, rfl, _, rfl, .inl ⟨_, rfl, _, rfl, p, _, 0, _, rfl, rfl, SqL.of hp2, rfl, _, _, rfl, .inl ⟨_, SqL.of hl2, rfl⟩, _, _, rfl, rfl, ?_, l, _, _, .int (cells[(at_ % (cells.length : Int)).toNat]), rfl, rfl, SqL.of hl2, ?_, ?_⟩⟩
        · show (0 : Int) < ((cells.map V.int).length : Nat)
          rw [List.length_map]; omega
        · rw [List.length_map]
          exact at_of (j := (at_ % (cells.length : Int)).toNat) (by omega) (by rw [List.getElem?_map, List.getElem?_eq_getElem hj]; rfl)
        refine ⟨_, rfl, _, rfl, p, _, 0, _, rfl, rfl, SqL.of hp2, rfl, _, _, rfl, .inl ⟨_, SqL.of hl2, rfl⟩, _, _, rfl, rfl, _, rfl, ite2 (fun c3 => ?_) (fun c3 => ?_)⟩
        · refine ⟨_, rfl, _, rfl, _, _, rfl, rfl, ⟨by decide, by decide, by decide⟩, _, _, rfl, rfl, _, rfl, ite2 (fun c4 => ?_) (fun c4 => ?_)⟩
          · refine ⟨_, rfl, _, rfl, _, _, rfl, rfl, ⟨by decide, by decide, by decide⟩, _, _, rfl, rfl, _, _, rfl, rfl, .inl ⟨by decide, by decide⟩, _, rfl, _, _, rfl, rfl, .inr ⟨_, rfl, _, _, rfl, rfl, ?_⟩⟩
            refine ⟨_, rfl, .inl ⟨_, rfl, _, rfl, _, _, rfl, rfl, wd _, ?_⟩⟩
            refine ⟨_, rfl, p, _, 2, 2, rfl, rfl, hp2, rfl, ?_⟩
            refine ⟨_, rfl, .inl ⟨_, rfl, _, rfl, _, _, rfl, rfl, (by show (0 : Int) < many; omega), ?_⟩⟩
            exact k _ _ (md _).1 (md _).2 (fun b o e hb => by rw [upd_ne hb]; exact k2 b o e hb) ⟨cells, at_ + 1, _, upd_same, by rw [upd_ne nlp]; exact hl2, nlp, hcl, by omega, by omega⟩
          · refine ⟨_, rfl, .inl ⟨_, rfl, _, _, rfl, rfl, (by show (0 : Int) < _; decide), _, rfl, _, _, rfl, rfl, .inl ⟨by decide, by decide⟩, _, _, rfl, rfl, _, _, rfl, rfl, _, _, rfl, rfl, ⟨by decide, by decide, by omega⟩, .inl ⟨_, rfl, _, _, rfl, rfl, (by show (0 : Int) < _; decide), ?_⟩⟩⟩
            refine ⟨_, rfl, _, rfl, _, _, rfl, rfl, .inl ⟨by decide, by decide⟩, _, _, rfl, rfl, _, _, rfl, rfl, .inl ⟨by omega, by omega⟩, _, rfl, _, _, rfl, rfl, .inl ⟨by decide, by decide⟩, _, rfl, _, _, rfl, rfl, .inl (mul_bd a0 a2 ⟨by decide, by decide⟩), _, _, rfl, rfl, _, _, rfl, rfl, _, _, rfl, rfl, ⟨by decide, by decide, draw_bd (by omega) (by omega) a0 a2 ⟨by decide, by decide⟩ ⟨by decide, by decide⟩ ⟨by decide, by decide⟩⟩, .inl ⟨_, rfl, _, _, rfl, rfl, (by show (0 : Int) < _; decide), ?_⟩⟩
            refine ⟨_, rfl, _, _, rfl, rfl, ⟨by decide, by decide⟩, .inl ⟨_, rfl, _, rfl, _, _, rfl, rfl, (by show (0 : Int) < many; omega), ?_⟩⟩
            exact k _ _ (md _).1 (md _).2 k2 ⟨cells, at_ + 1, _, hp2, hl2, nlp, hcl, by omega, by omega⟩
        · refine ifN rfl ?_
          refine ⟨_, rfl, .inl ⟨_, rfl, _, _, rfl, rfl, (by show (0 : Int) < _; decide), _, rfl, _, _, rfl, rfl, .inl ⟨by decide, by decide⟩, _, _, rfl, rfl, _, _, rfl, rfl, _, _, rfl, rfl, ⟨by decide, by decide, by omega⟩, .inl ⟨_, rfl, _, _, rfl, rfl, (by show (0 : Int) < _; decide), ?_⟩⟩⟩
          refine ⟨_, rfl, _, rfl, _, _, rfl, rfl, .inl ⟨by decide, by decide⟩, _, _, rfl, rfl, _, _, rfl, rfl, .inl ⟨by omega, by omega⟩, _, rfl, _, _, rfl, rfl, .inl ⟨by decide, by decide⟩, _, rfl, _, _, rfl, rfl, .inl (mul_bd a0 a2 ⟨by decide, by decide⟩), _, _, rfl, rfl, _, _, rfl, rfl, _, _, rfl, rfl, ⟨by decide, by decide, draw_bd (by omega) (by omega) a0 a2 ⟨by decide, by decide⟩ ⟨by decide, by decide⟩ ⟨by decide, by decide⟩⟩, .inl ⟨_, rfl, _, _, rfl, rfl, (by show (0 : Int) < _; decide), ?_⟩⟩
          refine ⟨_, rfl, _, _, rfl, rfl, ⟨by decide, by decide⟩, .inl ⟨_, rfl, _, rfl, _, _, rfl, rfl, (by show (0 : Int) < many; omega), ?_⟩⟩
          exact k _ _ (md _).1 (md _).2 k2 ⟨cells, at_ + 1, _, hp2, hl2, nlp, hcl, by omega, by omega⟩
      · refine ⟨_, rfl, _, rfl, p, _, 0, _, rfl, rfl, SqL.of hp2, rfl, _, _, rfl, .inl ⟨_, SqL.of hl2, rfl⟩, _, _, rfl, rfl, _, rfl, ite2 (fun c3 => ?_) (fun c3 => ?_)⟩
        · refine ⟨_, rfl, _, rfl, _, _, rfl, rfl, ⟨by decide, by decide, by decide⟩, _, _, rfl, rfl, _, rfl, ite2 (fun c4 => ?_) (fun c4 => ?_)⟩
          · refine ⟨_, rfl, _, rfl, _, _, rfl, rfl, ⟨by decide, by decide, by decide⟩, _, _, rfl, rfl, _, _, rfl, rfl, .inl ⟨by decide, by decide⟩, _, rfl, _, _, rfl, rfl, .inr ⟨_, rfl, _, _, rfl, rfl, ?_⟩⟩
            refine ⟨_, rfl, .inl ⟨_, rfl, _, rfl, _, _, rfl, rfl, wd _, ?_⟩⟩
            refine ⟨_, rfl, p, _, 2, 2, rfl, rfl, hp2, rfl, ?_⟩
            refine ⟨_, rfl, .inl ⟨_, rfl, _, rfl, _, _, rfl, rfl, (by show (0 : Int) < many; omega), ?_⟩⟩
            exact k _ _ (md _).1 (md _).2 (fun b o e hb => by rw [upd_ne hb]; exact k2 b o e hb) ⟨cells, at_ + 1, _, upd_same, by rw [upd_ne nlp]; exact hl2, nlp, hcl, by omega, by omega⟩
          · refine ⟨_, rfl, .inl ⟨_, rfl, _, _, rfl, rfl, (by show (0 : Int) < _; decide), _, rfl, _, _, rfl, rfl, .inl ⟨by decide, by decide⟩, _, _, rfl, rfl, _, _, rfl, rfl, _, _, rfl, rfl, ⟨by decide, by decide, by omega⟩, .inl ⟨_, rfl, _, _, rfl, rfl, (by show (0 : Int) < _; decide), ?_⟩⟩⟩
            refine ⟨_, rfl, _, rfl, _, _, rfl, rfl, .inl ⟨by decide, by decide⟩, _, _, rfl, rfl, _, _, rfl, rfl, .inl ⟨by omega, by omega⟩, _, rfl, _, _, rfl, rfl, .inl ⟨by decide, by decide⟩, _, rfl, _, _, rfl, rfl, .inl (mul_bd a0 a2 ⟨by decide, by decide⟩), _, _, rfl, rfl, _, _, rfl, rfl, _, _, rfl, rfl, ⟨by decide, by decide, draw_bd (by omega) (by omega) a0 a2 ⟨by decide, by decide⟩ ⟨by decide, by decide⟩ ⟨by decide, by decide⟩⟩, .inl ⟨_, rfl, _, _, rfl, rfl, (by show (0 : Int) < _; decide), ?_⟩⟩
            refine ⟨_, rfl, _, _, rfl, rfl, ⟨by decide, by decide⟩, .inl ⟨_, rfl, _, rfl, _, _, rfl, rfl, (by show (0 : Int) < many; omega), ?_⟩⟩
            exact k _ _ (md _).1 (md _).2 k2 ⟨cells, at_ + 1, _, hp2, hl2, nlp, hcl, by omega, by omega⟩
        · refine ifN rfl ?_
          refine ⟨_, rfl, .inl ⟨_, rfl, _, _, rfl, rfl, (by show (0 : Int) < _; decide), _, rfl, _, _, rfl, rfl, .inl ⟨by decide, by decide⟩, _, _, rfl, rfl, _, _, rfl, rfl, _, _, rfl, rfl, ⟨by decide, by decide, by omega⟩, .inl ⟨_, rfl, _, _, rfl, rfl, (by show (0 : Int) < _; decide), ?_⟩⟩⟩
          refine ⟨_, rfl, _, rfl, _, _, rfl, rfl, .inl ⟨by decide, by decide⟩, _, _, rfl, rfl, _, _, rfl, rfl, .inl ⟨by omega, by omega⟩, _, rfl, _, _, rfl, rfl, .inl ⟨by decide, by decide⟩, _, rfl, _, _, rfl, rfl, .inl (mul_bd a0 a2 ⟨by decide, by decide⟩), _, _, rfl, rfl, _, _, rfl, rfl, _, _, rfl, rfl, ⟨by decide, by decide, draw_bd (by omega) (by omega) a0 a2 ⟨by decide, by decide⟩ ⟨by decide, by decide⟩ ⟨by decide, by decide⟩⟩, .inl ⟨_, rfl, _, _, rfl, rfl, (by show (0 : Int) < _; decide), ?_⟩⟩
          refine ⟨_, rfl, _, _, rfl, rfl, ⟨by decide, by decide⟩, .inl ⟨_, rfl, _, rfl, _, _, rfl, rfl, (by show (0 : Int) < many; omega), ?_⟩⟩
          exact k _ _ (md _).1 (md _).2 k2 ⟨cells, at_ + 1, _, hp2, hl2, nlp, hcl, by omega, by omega⟩
theorem ok_Lpick (T : Tx K mg) : FnR P w K mg base (L2.CX P w) 2 (He.ga K "_law_pick") (spPick) := by
  obtain ⟨fd, F⟩ := T.d_Lpick
  refine EM.fnr F sc_Lpick (fun _ _ _ _ _ _ us hl => match us, hl with | [_, _], _ => rfl) (fun vs H Q E h => ?_) (fun cdv A outer s H vs Q E hr h => ?_)
  · obtain ⟨p, l, n, a, xs, rfl, _⟩ := h
    rfl
  · obtain ⟨p, l, n, a, xs, rfl, hP, hn, ha, nap, hx, hx2, k⟩ := h
    refine ⟨_, (PSs.nox (pss_one (ps_ret (pe_ix ix_list (pv 1) (EM.pe_cR (ok_Ldraw T) (hr.mono (by decide)) T.k__law_draw T.g__law_draw passL (pa_cons (pv 0) (pa_cons (pe_callB call_len (by rfl) T.f_len boot_len (pa_cons (pv 1) pa_nil)) pa_nil))) (fun _ _ => rfl))))), ?_⟩
    refine ⟨_, rfl, _, rfl, _, rfl, _, _, rfl, .inl ⟨_, SqL.of ha, rfl⟩, p, l, n, xs.length, rfl, hP, hn, by omega, by omega, fun d H' d0 d1 k1 P1 => ?_⟩
    obtain ⟨v, hv, hmem⟩ := pick (xs := xs) d0 d1
    exact ⟨a, _, _, v, rfl, rfl, SqL.of (k1 _ _ ha nap), hv, k v H' hmem k1 P1⟩
end
end K41
namespace K41
open PySem PySem.Spec PyProof.Rows L2 EM
section
variable {P : Program} {w : World} {K : PySem.W.Frag} {mg : Str → Option Value} {base : Heap}
theorem ok_is_integer_ratios (T : Tx K mg) : FnR P w K mg base (L2.CX P w) 1 (He.ga K "is_integer_ratios") (spIsInt K) := by
  obtain ⟨fd, F⟩ := T.d_is_integer_ratios
  refine EM.fnr F sc_is_integer_ratios (fun _ _ _ _ _ _ us hl => match us, hl with | [_], _ => rfl) (fun vs H Q E h => ?_) (fun cdv A outer s H vs Q E hr h => ?_)
  · obtain ⟨x, t, b1, b2, rfl, _⟩ := h
    rfl
  · obtain ⟨x, t, b1, b2, rfl, ty, k1, k2, q⟩ := h
    refine ⟨_, (PSs.nox (pss_one (ps_ret (pe_and (pe_callB call_isi (by rfl) T.f_isinstance (by decide +kernel) (pa_cons (pv 0) (pa_cons (pe_bltn (v := .ty "int") (by rfl) T.f_int boot_int rfl) pa_nil))) (pe_one (pe_not (pe_callB call_isi (by rfl) T.f_isinstance (by decide +kernel) (pa_cons (pv 0) (pa_cons (pe_bltn (v := .ty "bool") (by rfl) T.f_bool boot_bool rfl) pa_nil))))))))), ?_⟩
    refine ⟨_, rfl, x, .ty "int", t, .type "int", b1, rfl, .ty "int", ty, k1, b1, rfl, ?_⟩
    cases b1 with
    | false => exact iteF q
    | true => exact iteT ⟨_, rfl, x, .ty "bool", t, .type "bool", b2, rfl, .ty "bool", ty, k2, b2, rfl, q⟩
end
end K41
namespace K41
open PySem PySem.Spec PyProof.Rows L2 EM
section
variable {P : Program} {w : World} {K : PySem.W.Frag} {mg : Str → Option Value} {base : Heap}
theorem ok_is_integer_fits (T : Tx K mg) : FnR P w K mg base (L2.CX P w) 1 (He.ga K "is_integer_fits") (spIsInt K) := by
  obtain ⟨fd, F⟩ := T.d_is_integer_fits
  refine EM.fnr F sc_is_integer_fits (fun _ _ _ _ _ _ us hl => match us, hl with | [_], _ => rfl) (fun vs H Q E h => ?_) (fun cdv A outer s H vs Q E hr h => ?_)
  · obtain ⟨x, t, b1, b2, rfl, _⟩ := h
    rfl
  · obtain ⟨x, t, b1, b2, rfl, ty, k1, k2, q⟩ := h
    refine ⟨_, (PSs.nox (pss_one (ps_ret (pe_and (pe_callB call_isi (by rfl) T.f_isinstance (by decide +kernel) (pa_cons (pv 0) (pa_cons (pe_bltn (v := .ty "int") (by rfl) T.f_int boot_int rfl) pa_nil))) (pe_one (pe_not (pe_callB call_isi (by rfl) T.f_isinstance (by decide +kernel) (pa_cons (pv 0) (pa_cons (pe_bltn (v := .ty "bool") (by rfl) T.f_bool boot_bool rfl) pa_nil))))))))), ?_⟩
    refine ⟨_, rfl, x, .ty "int", t, .type "int", b1, rfl, .ty "int", ty, k1, b1, rfl, ?_⟩
    cases b1 with
    | false => exact iteF q
    | true => exact iteT ⟨_, rfl, x, .ty "bool", t, .type "bool", b2, rfl, .ty "bool", ty, k2, b2, rfl, q⟩
end
end K41
namespace K41
open PySem PySem.Spec PyProof.Rows L2 EM
theorem len_rat {K : PySem.W.Frag} : ∀ vs H Q E, spRat K vs H Q E → vs.length = ["self", "top", "bottom"].length := by
  intro vs H Q E h
  obtain ⟨x, dx, t, b, rfl, _⟩ := h
  rfl
section
variable {P : Program} {w : World} {K : PySem.W.Frag} {mg : Str → Option Value} {base : Heap}
theorem ok_common_divisor (T : Tx K mg) : FnR P w K mg base (L2.CX P w) 1 (He.ga K "common_divisor") (spGcd) := by
  obtain ⟨fd, F⟩ := T.d_common_divisor
  refine EM.fnr F sc_common_divisor (fun _ _ _ _ _ _ us hl => match us, hl with | [_, _], _ => rfl) (fun vs H Q E h => ?_) (fun cdv A outer s H vs Q E hr h => ?_)
  · obtain ⟨a, b, rfl, _⟩ := h
    rfl
  · obtain ⟨a, b, rfl, k⟩ := h
    refine ⟨_, (PSs.nox (pss_cons (ps_while PassesOwn.never (pt_cmpR op_ne (pv 1) pe_int (nomark _))
  (pss_one (ps_par (by rfl) sc_common_divisor.nd (i := 0) (j := 1) rfl rfl (by decide) rfl rfl (pa_cons (pv 1) (pa_cons (pe_op op_modN (pv 0) (pv 1)) pa_nil)) (by rfl))))
 (pss_one (ps_ret (pe_callB call_abs (by rfl) T.f_abs (by decide +kernel) (pa_cons (pv 0) pa_nil)))))), ?_⟩
    refine ⟨fun m σ H' => ∃ a' b', σ = [some (.int a'), some (.int b')] ∧ H' = H ∧ Int.gcd a' b' = Int.gcd a b ∧ m = b'.natAbs, ⟨_, a, b, rfl, rfl, rfl, rfl⟩, ?_⟩
    rintro m σ H' ⟨a', b', rfl, rfl, hg, rfl⟩
    refine ⟨_, rfl, rfl, _, rfl, ite2 (fun c => ?_) (fun c => ?_)⟩
    · have hb : b' ≠ 0 := fun z => by
        subst z
        simp at c
      refine ⟨fun σ H1 => ∃ a1 b1, σ = [some (.int a1), some (.int b1)] ∧ H1 = H' ∧ Int.gcd a1 b1 = Int.gcd a b ∧ b1.natAbs < b'.natAbs, ?_, ?_⟩
      · rintro σ H1 ⟨a1, b1, e1, e2, e3, e4⟩
        exact ⟨_, e4, a1, b1, e1, e2, e3, rfl⟩
      · exact ⟨_, rfl, _, rfl, _, rfl, _, _, rfl, rfl, hb, _, _, rfl, b', _, rfl, rfl, by rw [gcd_fmod]; exact hg, fmod_less _ _ hb⟩
    · have hb : b' = 0 := by
        apply Classical.byContradiction
        intro z
        exact c (by simp [z])
      subst hb
      have e : ((Int.gcd a b : Nat) : Int) = if a' < 0 then -a' else a' := by
        rw [← hg, Int.gcd_zero_right]
        split <;> omega
      rw [e] at k
      exact ⟨_, rfl, _, rfl, k⟩
theorem bod_rat (T : Tx K mg) (f : Addr) : Bod P w K mg base ["self", "top", "bottom", "shared"] "Ratio.__init__" (defScope s_Ratio_init) f (defBody s_Ratio_init) 1 (spRat K) := by
  intro cdv A outer s H vs Q E hr h
  obtain ⟨x, dx, t, b, rfl, hx, b0, bl, k⟩ := h
  refine ⟨_, (PSs.nox (pss_cons (ps_if (pt_not (pt_val (EM.pe_cR (ok_is_integer_ratios T) (hr.mono (by decide)) T.k_is_integer_ratios T.g_is_integer_ratios passL (pa_cons (pv 1) pa_nil))))
  (pss_one ps_never) pss_nil)
 (pss_cons (ps_if (PW.pt (pw_or (pt_not (pt_val (EM.pe_cR (ok_is_integer_ratios T) (hr.mono (by decide)) T.k_is_integer_ratios T.g_is_integer_ratios passL (pa_cons (pv 2) pa_nil)))) (pw_or1 (pt_cmpR op_eq (pv 2) pe_int (nomark _)))))
  (pss_one ps_never) pss_nil)
 (pss_cons (ps_set (i := 3) sc_Ratio_init.nd rfl (Or.inl rfl) (EM.pe_cR (ok_common_divisor T) (hr.mono (by decide)) T.k_common_divisor T.g_common_divisor passL (pa_cons (pv 1) (pa_cons (pv 2) pa_nil))))
 (pss_cons (ps_if (pt_cmpR op_lt (pv 2) pe_int (nomark _))
  (pss_one (ps_set (i := 3) sc_Ratio_init.nd rfl (Or.inl rfl) (pe_un un_neg (pv 3)))) pss_nil)
 (pss_cons (ps_fld (pv 0) (pe_op op_fdivWN (pv 1) (pv 3)) rfl)
 (pss_one (ps_fld (pv 0) (pe_op op_fdivWN (pv 2) (pv 3)) rfl)))))))), ?_⟩
  refine ⟨_, rfl, _, _, true, false, rfl, .base (.int t), kit_ty (by decide +kernel), kit_ty (by decide +kernel), _, rfl, ifN rfl ?_⟩
  refine ⟨_, rfl, _, _, true, false, rfl, .base (.int b), kit_ty (by decide +kernel), kit_ty (by decide +kernel), _, rfl, ifN rfl ⟨_, rfl, rfl, _, rfl, ifN (by simp [b0]) ?_⟩⟩
  have hs0 := shr_ne (t := t) b0
  have hs1 : (shr t b).natAbs.log2 < 9000 := Nat.lt_of_le_of_lt (log_le (shr_le b0)) bl
  refine ⟨_, rfl, _, rfl, t, b, rfl, ?_⟩
  refine ⟨_, rfl, _, _, rfl, rfl, _, rfl, ite2 (fun c => ?_) (fun c => ?_)⟩
  · have e : shr t b = -(Int.gcd t b : Int) := if_pos (by simpa using c)
    refine ⟨_, rfl, _, rfl, ?_⟩
    refine ⟨_, rfl, _, rfl, _, _, rfl, rfl, ⟨by rw [← e]; exact hs0, by rw [← e]; exact hs1⟩, _, rfl, x, _, dx, _, rfl, hx, T.cl_Ratio, T.na_Ratio_top, (by show 0 < 1000; decide), ?_⟩
    refine ⟨_, rfl, _, rfl, _, _, rfl, rfl, ⟨by rw [← e]; exact hs0, by rw [← e]; exact hs1⟩, _, rfl, x, _, dx, _, rfl, upd_same, T.cl_Ratio, T.na_Ratio_bottom, (by show 1 < 1000; decide), ?_⟩
    refine k _ (fun c o h hc => by rw [upd_ne hc, upd_ne hc]; exact h) ⟨dx, ?_⟩
    rw [upd_same]
    unfold nTop nBot
    rw [e]
    rfl
  · have e : shr t b = (Int.gcd t b : Int) := if_neg (by simpa using c)
    refine ⟨_, rfl, _, rfl, _, _, rfl, rfl, ⟨by rw [← e]; exact hs0, by rw [← e]; exact hs1⟩, _, rfl, x, _, dx, _, rfl, hx, T.cl_Ratio, T.na_Ratio_top, (by show 0 < 1000; decide), ?_⟩
    refine ⟨_, rfl, _, rfl, _, _, rfl, rfl, ⟨by rw [← e]; exact hs0, by rw [← e]; exact hs1⟩, _, rfl, x, _, dx, _, rfl, upd_same, T.cl_Ratio, T.na_Ratio_bottom, (by show 1 < 1000; decide), ?_⟩
    refine k _ (fun c o h hc => by rw [upd_ne hc, upd_ne hc]; exact h) ⟨dx, ?_⟩
    rw [upd_same]
    unfold nTop nBot
    rw [e]
    rfl
theorem ok_Ratio2 (T : Tx K mg) : FnR P w K mg base (L2.CX P w) 2 (He.ma K (He.ga K "Ratio") "__init__") (fun vs H Q E => spRat K (vs ++ []) H Q E) := by
  obtain ⟨fd, F⟩ := T.d_Ratio_init
  exact EM.fnr_dfl 3 1 F sc_Ratio_init (by intro z; cases z) rfl (fun T kV doc pm an cdv ct us its h1 h2 => match us, h1, its, h2 with | [_, _, _], _, [_], _ => ⟨_, rfl, rfl⟩) len_rat (bod_rat T _)
theorem ok_Ratio1 (T : Tx K mg) : FnR P w K mg base (L2.CX P w) 2 (He.ma K (He.ga K "Ratio") "__init__") (fun vs H Q E => spRat K (vs ++ [.int 1]) H Q E) := by
  obtain ⟨fd, F⟩ := T.d_Ratio_init
  exact EM.fnr_dfl 2 0 F sc_Ratio_init (by intro z; cases z) rfl (fun T kV doc pm an cdv ct us its h1 h2 => match us, h1, its, h2 with | [_, _], _, [_], _ => ⟨_, rfl, rfl⟩) len_rat (bod_rat T _)
end
end K41
namespace K41
open PySem PySem.Spec PyProof.Rows L2 EM
theorem binC_add {K : PySem.W.Frag} {mg : Str → Option Value} (T : Tx K mg) : BinC K (He.ga K "Ratio") "add" (He.ma K (He.ga K "Ratio") "__add__") (He.ma K (He.ga K "Ratio") "__radd__") := ⟨T.sf_Ratio, T.m_Ratio_add.at_, T.m_Ratio_add.fn, T.m_Ratio_radd.at_, T.m_Ratio_radd.fn, T.si_Ratio⟩
theorem binC_sub {K : PySem.W.Frag} {mg : Str → Option Value} (T : Tx K mg) : BinC K (He.ga K "Ratio") "sub" (He.ma K (He.ga K "Ratio") "__sub__") (He.ma K (He.ga K "Ratio") "__rsub__") := ⟨T.sf_Ratio, T.m_Ratio_sub.at_, T.m_Ratio_sub.fn, T.m_Ratio_rsub.at_, T.m_Ratio_rsub.fn, T.si_Ratio⟩
theorem binC_mul {K : PySem.W.Frag} {mg : Str → Option Value} (T : Tx K mg) : BinC K (He.ga K "Ratio") "mul" (He.ma K (He.ga K "Ratio") "__mul__") (He.ma K (He.ga K "Ratio") "__rmul__") := ⟨T.sf_Ratio, T.m_Ratio_mul.at_, T.m_Ratio_mul.fn, T.m_Ratio_rmul.at_, T.m_Ratio_rmul.fn, T.si_Ratio⟩
section
variable {P : Program} {w : World} {K : PySem.W.Frag} {mg : Str → Option Value} {base : Heap}
theorem ok_Ratio_is_number (T : Tx K mg) : FnR P w K mg base (L2.CX P w) 2 (He5.wf K (He.ga K "Ratio") "staticmethod" "is_number") (spIsNum K) := by
  obtain ⟨fd, F⟩ := T.d_Ratio_is_number
  refine EM.fnr F sc_Ratio_is_number (fun _ _ _ _ _ _ us hl => match us, hl with | [_], _ => rfl) (fun vs H Q E h => ?_) (fun cdv A outer s H vs Q E hr h => ?_)
  · obtain ⟨v, rfl, _⟩ := h
    rfl
  · obtain ⟨v, rfl, h⟩ := h
    refine ⟨_, (PSs.nox (pss_one (ps_ret (pe_or (pe_callB call_isi (by rfl) T.f_isinstance (by decide +kernel) (pa_cons (pv 0) (pa_cons (pe_glob (v := .ref (He.ga K "Ratio")) (by rfl) T.g_Ratio rfl) pa_nil))) (pe_one (EM.pe_cR (ok_is_integer_ratios T) (hr.mono (by decide)) T.k_is_integer_ratios T.g_is_integer_ratios passL (pa_cons (pv 0) pa_nil))))))), ?_⟩
    rcases h with ⟨⟨a, t, b, rfl, dx, hp⟩ | ⟨i, rfl⟩, q⟩ | ⟨⟨ty, b1, b2, tx, k1, k2, hb, kr⟩, q⟩
    · exact ⟨_, rfl, .ref a, .ref (He.ga K "Ratio"), _, _, true, rfl, .own _, isiB_ty T.isi_Ratio T.cl_Ratio hp, kSelf, true, rfl, iteT q⟩
    · exact ⟨_, rfl, .int i, .ref (He.ga K "Ratio"), .type "int", .ref (He.ga K "Ratio"), false, rfl, .own _, .base (.int i), T.kit_int_Ratio, false, rfl, iteF ⟨_, rfl, _, _, true, false, rfl, .base (.int i), kit_ty (by decide +kernel), kit_ty (by decide +kernel), q⟩⟩
    · refine ⟨_, rfl, v, .ref (He.ga K "Ratio"), ty, .ref (He.ga K "Ratio"), false, rfl, .own _, tx, kr, false, rfl, iteF ⟨_, rfl, _, _, b1, b2, rfl, tx, k1, k2, ?_⟩⟩
      rw [hb]
      exact q
theorem ok_Ratio_of (T : Tx K mg) : FnR P w K mg base (L2.CX P w) 4 (He5.wf K (He.ga K "Ratio") "staticmethod" "of") (spOfN K) := by
  obtain ⟨fd, F⟩ := T.d_Ratio_of
  refine EM.fnr F sc_Ratio_of (fun _ _ _ _ _ _ us hl => match us, hl with | [_], _ => rfl) (fun vs H Q E h => ?_) (fun cdv A outer s H vs Q E hr h => ?_)
  · obtain ⟨v, t, b, rfl, _⟩ := h
    rfl
  · obtain ⟨v, t, b, rfl, ⟨low, hv⟩, k⟩ := h
    refine ⟨_, (PSs.nox (pss_one (ps_ret (pe_ifExp (pt_val (pe_callB call_isi (by rfl) T.f_isinstance (by decide +kernel) (pa_cons (pv 0) (pa_cons (pe_glob (v := .ref (He.ga K "Ratio")) (by rfl) T.g_Ratio rfl) pa_nil)))) (pv 0) (EM.pe_mkR T.mk_Ratio (ok_Ratio1 T) (hr.mono (by decide)) T.g_Ratio passL (pa_cons (pv 0) pa_nil)))))), ?_⟩
    rcases hv with ⟨a, rfl, dx, hp⟩ | ⟨rfl, rfl⟩
    · exact ⟨_, rfl, .ref a, .ref (He.ga K "Ratio"), _, _, true, rfl, .own _, isiB_ty T.isi_Ratio T.cl_Ratio hp, kSelf, true, rfl, iteT ⟨_, rfl, k a H (Same.refl _) ⟨dx, hp⟩⟩⟩
    · refine ⟨_, rfl, .int t, .ref (He.ga K "Ratio"), .type "int", .ref (He.ga K "Ratio"), false, rfl, .own _, .base (.int t), T.kit_int_Ratio, false, rfl, iteF ⟨_, rfl, fun p dx np hdx ndx => ⟨p, dx, _, _, rfl, upd_same, by decide, by decide, fun H' k' rat => ⟨rfl, ?_⟩⟩⟩⟩
      obtain ⟨n1, n2⟩ := n_self (low_one t)
      rw [n1, n2] at rat
      exact k p H' (same_new k' np hdx) rat
theorem ok_Ratio_add (T : Tx K mg) : FnR P w K mg base (L2.CX P w) 5 (He.ma K (He.ga K "Ratio") "__add__") (spAdd K) := by
  obtain ⟨fd, F⟩ := T.d_Ratio_add
  refine EM.fnr F sc_Ratio_add (fun _ _ _ _ _ _ us hl => match us, hl with | [_, _], _ => rfl) (fun vs H Q E h => ?_) (fun cdv A outer s H vs Q E hr h => ?_)
  · obtain ⟨x, v, t, b, u, c, rfl, _⟩ := h
    rfl
  · obtain ⟨x, v, t, b, u, c, rfl, W, k⟩ := h
    have bc0 : b * c ≠ 0 := Int.mul_ne_zero (by have := W.low.pos; omega) (by have := W.num.1.pos; omega)
    have bcl : (b * c).natAbs.log2 < 9000 := Nat.lt_trans ((W.bb.mul W.bc).log (by decide)) (by decide)
    refine ⟨_, (PSs.nox (pss_cons (ps_if (pt_not (pt_val (EM.pe_smR (pe_glob (v := .ref (He.ga K "Ratio")) (by rfl) T.g_Ratio rfl) T.cr_Ratio T.sm_Ratio_is_number (ok_Ratio_is_number T) (hr.mono (by decide)) T.k_Ratio_is_number passL (pa_cons (pv 1) pa_nil))))
  (pss_one (ps_never)) pss_nil)
 (pss_cons (ps_set (i := 2) sc_Ratio_add.nd rfl (Or.inl rfl) (EM.pe_smR (pe_glob (v := .ref (He.ga K "Ratio")) (by rfl) T.g_Ratio rfl) T.cr_Ratio T.sm_Ratio_of (ok_Ratio_of T) (hr.mono (by decide)) T.k_Ratio_of passL (pa_cons (pv 1) pa_nil)))
 (pss_one (ps_ret (EM.pe_mkR T.mk_Ratio (ok_Ratio2 T) (hr.mono (by decide)) T.g_Ratio passL (pa_cons (pe_op op_add (pe_op op_mulW (pe_fld (pv 0) rfl) (pe_fld (pv 2) rfl)) (pe_op op_mulW (pe_fld (pv 2) rfl) (pe_fld (pv 0) rfl))) (pa_cons (pe_op op_mulW (pe_fld (pv 0) rfl) (pe_fld (pv 2) rfl)) pa_nil)))))))), ?_⟩
    obtain ⟨dx, hx⟩ := W.rat
    refine ⟨rfl, _, rfl, v, rfl, .inl ⟨W.num.kind, _, rfl, ifN rfl ?_⟩⟩
    refine ⟨rfl, _, rfl, v, u, c, rfl, W.num, fun r H1 s1 rr => ?_⟩
    have hx1 := s1 _ _ hx
    obtain ⟨dr, hr1⟩ := rr
    have k1 : RatRes K H1 Q (t * c + u * b) (b * c) := fun p H2 s2 np rat => k p H2 (s1.trans s2) (s1.free np) rat
    exact ⟨_, rfl, x, _, dx, _, _, rfl, hx1, T.cl_Ratio, T.na_Ratio_top, rfl, _, rfl, r, _, dr, _, _, rfl, hr1, T.cl_Ratio, T.na_Ratio_bottom, rfl, _, _, rfl, rfl, wideB W.bt W.bc,
      _, rfl, r, _, dr, _, _, rfl, hr1, T.cl_Ratio, T.na_Ratio_top, rfl, _, rfl, x, _, dx, _, _, rfl, hx1, T.cl_Ratio, T.na_Ratio_bottom, rfl, _, _, rfl, rfl, wideB W.bu W.bb, _, _, rfl, rfl,
      _, rfl, x, _, dx, _, _, rfl, hx1, T.cl_Ratio, T.na_Ratio_bottom, rfl, _, rfl, r, _, dr, _, _, rfl, hr1, T.cl_Ratio, T.na_Ratio_bottom, rfl, _, _, rfl, rfl, wideB W.bb W.bc, fun p dx hp hdx ndx => ⟨p, dx, _, _, rfl, upd_same, bc0, bcl, fun H' k' rat => ⟨rfl, k1 p H' (same_new k' hp hdx) hp rat⟩⟩⟩
theorem ok_Ratio_radd (T : Tx K mg) : FnR P w K mg base (L2.CX P w) 6 (He.ma K (He.ga K "Ratio") "__radd__") (spAdd K) := by
  obtain ⟨fd, F⟩ := T.d_Ratio_radd
  refine EM.fnr F sc_Ratio_radd (fun _ _ _ _ _ _ us hl => match us, hl with | [_, _], _ => rfl) (fun vs H Q E h => ?_) (fun cdv A outer s H vs Q E hr h => ?_)
  · obtain ⟨x, v, t, b, u, c, rfl, _⟩ := h
    rfl
  · obtain ⟨x, v, t, b, u, c, rfl, W, k⟩ := h
    have bc0 : b * c ≠ 0 := Int.mul_ne_zero (by have := W.low.pos; omega) (by have := W.num.1.pos; omega)
    have bcl : (b * c).natAbs.log2 < 9000 := Nat.lt_trans ((W.bb.mul W.bc).log (by decide)) (by decide)
    refine ⟨_, (PSs.nox (pss_one (ps_ret (pe_op (EM.op_binO (binC_add T) rfl rfl (ok_Ratio_add T) (hr.mono (by decide)) passL) (pv 0) (pv 1))))), ?_⟩
    obtain ⟨dx, hx⟩ := W.rat
    exact ⟨_, rfl, _, rfl, x, dx, _, rfl, hx, two_y W, x, v, t, b, u, c, rfl, ⟨⟨dx, hx⟩, W.low, W.num, W.bt, W.bb, W.bu, W.bc⟩, k⟩
theorem ok_Ratio_mul (T : Tx K mg) : FnR P w K mg base (L2.CX P w) 5 (He.ma K (He.ga K "Ratio") "__mul__") (spMul K) := by
  obtain ⟨fd, F⟩ := T.d_Ratio_mul
  refine EM.fnr F sc_Ratio_mul (fun _ _ _ _ _ _ us hl => match us, hl with | [_, _], _ => rfl) (fun vs H Q E h => ?_) (fun cdv A outer s H vs Q E hr h => ?_)
  · obtain ⟨x, v, t, b, u, c, rfl, _⟩ := h
    rfl
  · obtain ⟨x, v, t, b, u, c, rfl, W, k⟩ := h
    have bc0 : b * c ≠ 0 := Int.mul_ne_zero (by have := W.low.pos; omega) (by have := W.num.1.pos; omega)
    have bcl : (b * c).natAbs.log2 < 9000 := Nat.lt_trans ((W.bb.mul W.bc).log (by decide)) (by decide)
    refine ⟨_, (PSs.nox (pss_cons (ps_if (pt_not (pt_val (EM.pe_smR (pe_glob (v := .ref (He.ga K "Ratio")) (by rfl) T.g_Ratio rfl) T.cr_Ratio T.sm_Ratio_is_number (ok_Ratio_is_number T) (hr.mono (by decide)) T.k_Ratio_is_number passL (pa_cons (pv 1) pa_nil))))
  (pss_one (ps_never)) pss_nil)
 (pss_cons (ps_set (i := 2) sc_Ratio_mul.nd rfl (Or.inl rfl) (EM.pe_smR (pe_glob (v := .ref (He.ga K "Ratio")) (by rfl) T.g_Ratio rfl) T.cr_Ratio T.sm_Ratio_of (ok_Ratio_of T) (hr.mono (by decide)) T.k_Ratio_of passL (pa_cons (pv 1) pa_nil)))
 (pss_one (ps_ret (EM.pe_mkR T.mk_Ratio (ok_Ratio2 T) (hr.mono (by decide)) T.g_Ratio passL (pa_cons (pe_op op_mulW (pe_fld (pv 0) rfl) (pe_fld (pv 2) rfl)) (pa_cons (pe_op op_mulW (pe_fld (pv 0) rfl) (pe_fld (pv 2) rfl)) pa_nil)))))))), ?_⟩
    obtain ⟨dx, hx⟩ := W.rat
    refine ⟨rfl, _, rfl, v, rfl, .inl ⟨W.num.kind, _, rfl, ifN rfl ?_⟩⟩
    refine ⟨rfl, _, rfl, v, u, c, rfl, W.num, fun r H1 s1 rr => ?_⟩
    have hx1 := s1 _ _ hx
    obtain ⟨dr, hr1⟩ := rr
    have k1 : RatRes K H1 Q (t * u) (b * c) := fun p H2 s2 np rat => k p H2 (s1.trans s2) (s1.free np) rat
    exact ⟨_, rfl, x, _, dx, _, _, rfl, hx1, T.cl_Ratio, T.na_Ratio_top, rfl, _, rfl, r, _, dr, _, _, rfl, hr1, T.cl_Ratio, T.na_Ratio_top, rfl, _, _, rfl, rfl, wideB W.bt W.bu,
      _, rfl, x, _, dx, _, _, rfl, hx1, T.cl_Ratio, T.na_Ratio_bottom, rfl, _, rfl, r, _, dr, _, _, rfl, hr1, T.cl_Ratio, T.na_Ratio_bottom, rfl, _, _, rfl, rfl, wideB W.bb W.bc, fun p dx hp hdx ndx => ⟨p, dx, _, _, rfl, upd_same, bc0, bcl, fun H' k' rat => ⟨rfl, k1 p H' (same_new k' hp hdx) hp rat⟩⟩⟩
theorem ok_Ratio_rmul (T : Tx K mg) : FnR P w K mg base (L2.CX P w) 6 (He.ma K (He.ga K "Ratio") "__rmul__") (spMul K) := by
  obtain ⟨fd, F⟩ := T.d_Ratio_rmul
  refine EM.fnr F sc_Ratio_rmul (fun _ _ _ _ _ _ us hl => match us, hl with | [_, _], _ => rfl) (fun vs H Q E h => ?_) (fun cdv A outer s H vs Q E hr h => ?_)
  · obtain ⟨x, v, t, b, u, c, rfl, _⟩ := h
    rfl
  · obtain ⟨x, v, t, b, u, c, rfl, W, k⟩ := h
    have bc0 : b * c ≠ 0 := Int.mul_ne_zero (by have := W.low.pos; omega) (by have := W.num.1.pos; omega)
    have bcl : (b * c).natAbs.log2 < 9000 := Nat.lt_trans ((W.bb.mul W.bc).log (by decide)) (by decide)
    refine ⟨_, (PSs.nox (pss_one (ps_ret (pe_op (EM.op_binO (binC_mul T) rfl rfl (ok_Ratio_mul T) (hr.mono (by decide)) passL) (pv 0) (pv 1))))), ?_⟩
    obtain ⟨dx, hx⟩ := W.rat
    exact ⟨_, rfl, _, rfl, x, dx, _, rfl, hx, two_y W, x, v, t, b, u, c, rfl, ⟨⟨dx, hx⟩, W.low, W.num, W.bt, W.bb, W.bu, W.bc⟩, k⟩
theorem ok_Ratio_neg (T : Tx K mg) : FnR P w K mg base (L2.CX P w) 4 (He.ma K (He.ga K "Ratio") "__neg__") (spNeg K) := by
  obtain ⟨fd, F⟩ := T.d_Ratio_neg
  refine EM.fnr F sc_Ratio_neg (fun _ _ _ _ _ _ us hl => match us, hl with | [_], _ => rfl) (fun vs H Q E h => ?_) (fun cdv A outer s H vs Q E hr h => ?_)
  · obtain ⟨x, t, b, rfl, _⟩ := h
    rfl
  · obtain ⟨x, t, b, rfl, ⟨dx, hx⟩, low, lb, k⟩ := h
    refine ⟨_, (PSs.nox (pss_one (ps_ret (EM.pe_mkR T.mk_Ratio (ok_Ratio2 T) (hr.mono (by decide)) T.g_Ratio passL (pa_cons (pe_un un_neg (pe_fld (pv 0) rfl)) (pa_cons (pe_fld (pv 0) rfl) pa_nil)))))), ?_⟩
    have lw : Low (-t) b := low_neg low
    refine ⟨_, rfl, x, _, dx, _, _, rfl, hx, T.cl_Ratio, T.na_Ratio_top, rfl, _, rfl, _, rfl, x, _, dx, _, _, rfl, hx, T.cl_Ratio, T.na_Ratio_bottom, rfl, fun p dx np hdx ndx => ⟨p, dx, _, _, rfl, upd_same, by have := low.pos; omega, lb, fun H' k' rat => ⟨rfl, ?_⟩⟩⟩
    obtain ⟨n1, n2⟩ := n_self lw
    rw [n1, n2] at rat
    exact k p H' (same_new k' np hdx) np rat
theorem ok_Ratio_sub (T : Tx K mg) : FnR P w K mg base (L2.CX P w) 6 (He.ma K (He.ga K "Ratio") "__sub__") (spSub K) := by
  obtain ⟨fd, F⟩ := T.d_Ratio_sub
  refine EM.fnr F sc_Ratio_sub (fun _ _ _ _ _ _ us hl => match us, hl with | [_, _], _ => rfl) (fun vs H Q E h => ?_) (fun cdv A outer s H vs Q E hr h => ?_)
  · obtain ⟨x, v, t, b, u, c, rfl, _⟩ := h
    rfl
  · obtain ⟨x, v, t, b, u, c, rfl, W, k⟩ := h
    have bc0 : b * c ≠ 0 := Int.mul_ne_zero (by have := W.low.pos; omega) (by have := W.num.1.pos; omega)
    have bcl : (b * c).natAbs.log2 < 9000 := Nat.lt_trans ((W.bb.mul W.bc).log (by decide)) (by decide)
    refine ⟨_, (PSs.nox (pss_cons (ps_if (pt_not (pt_val (EM.pe_smR (pe_glob (v := .ref (He.ga K "Ratio")) (by rfl) T.g_Ratio rfl) T.cr_Ratio T.sm_Ratio_is_number (ok_Ratio_is_number T) (hr.mono (by decide)) T.k_Ratio_is_number passL (pa_cons (pv 1) pa_nil))))
  (pss_one (ps_never)) pss_nil)
 (pss_one (ps_ret (pe_op (EM.op_binO (binC_add T) rfl rfl (ok_Ratio_add T) (hr.mono (by decide)) passL) (pv 0) (pe_un (EM.un_two un_neg (EM.un_negO T.m_Ratio_neg.at_ T.m_Ratio_neg.fn (ok_Ratio_neg T) (hr.mono (by decide)) passL)) (pv 1))))))), ?_⟩
    obtain ⟨dx, hx⟩ := W.rat
    refine ⟨rfl, _, rfl, v, rfl, .inl ⟨W.num.kind, _, rfl, ifN rfl ?_⟩⟩
    refine ⟨_, rfl, _, rfl, ?_⟩
    rcases W.num.2 with ⟨a, rfl, da, ha⟩ | ⟨rfl, rfl⟩
    · refine .inr ⟨a, da, _, rfl, ha, a, u, c, rfl, ⟨da, ha⟩, W.num.1, Nat.lt_trans (W.bc.log (by decide)) (by decide), fun p H1 s1 np rat => ?_⟩
      obtain ⟨dp, hp⟩ := rat
      exact ⟨x, dx, _, rfl, s1 _ _ hx, .inl ⟨p, dp, _, rfl, hp⟩, x, .ref p, t, b, -u, c, rfl, ⟨⟨dx, s1 _ _ hx⟩, W.low, Num.rat ⟨dp, hp⟩ (low_neg W.num.1), W.bt, W.bb, W.bu.neg, W.bc⟩, fun q H2 s2 nq rat2 => k q H2 (s1.trans s2) (s1.free nq) rat2⟩
    · exact .inl ⟨u, rfl, x, dx, _, rfl, hx, .inr ⟨_, rfl⟩, x, .int (-u), t, b, -u, 1, rfl, ⟨⟨dx, hx⟩, W.low, Num.int _, W.bt, W.bb, W.bu.neg, W.bc⟩, k⟩
theorem ok_Ratio_rsub (T : Tx K mg) : FnR P w K mg base (L2.CX P w) 6 (He.ma K (He.ga K "Ratio") "__rsub__") (spRsub K) := by
  obtain ⟨fd, F⟩ := T.d_Ratio_rsub
  refine EM.fnr F sc_Ratio_rsub (fun _ _ _ _ _ _ us hl => match us, hl with | [_, _], _ => rfl) (fun vs H Q E h => ?_) (fun cdv A outer s H vs Q E hr h => ?_)
  · obtain ⟨x, v, t, b, u, c, rfl, _⟩ := h
    rfl
  · obtain ⟨x, v, t, b, u, c, rfl, W, k⟩ := h
    have bc0 : b * c ≠ 0 := Int.mul_ne_zero (by have := W.low.pos; omega) (by have := W.num.1.pos; omega)
    have bcl : (b * c).natAbs.log2 < 9000 := Nat.lt_trans ((W.bb.mul W.bc).log (by decide)) (by decide)
    refine ⟨_, (PSs.nox (pss_one (ps_ret (pe_op (EM.op_binO (binC_add T) rfl rfl (ok_Ratio_add T) (hr.mono (by decide)) passL) (pe_un (EM.un_negO T.m_Ratio_neg.at_ T.m_Ratio_neg.fn (ok_Ratio_neg T) (hr.mono (by decide)) passL) (pv 0)) (pv 1))))), ?_⟩
    obtain ⟨dx, hx⟩ := W.rat
    refine ⟨_, rfl, x, dx, _, rfl, hx, x, t, b, rfl, ⟨dx, hx⟩, W.low, Nat.lt_trans (W.bb.log (by decide)) (by decide), fun p H1 s1 np rat => ?_⟩
    obtain ⟨dp, hp⟩ := rat
    have W1 : Two K H1 2000 p v (-t) b u c := ⟨⟨dp, hp⟩, low_neg W.low, W.num.same s1, W.bt.neg, W.bb, W.bu, W.bc⟩
    exact ⟨_, rfl, p, dp, _, rfl, hp, two_y W1, p, v, -t, b, u, c, rfl, W1, fun q H2 s2 nq rat2 => k q H2 (s1.trans s2) (s1.free nq) rat2⟩
end
end K41
namespace K41
open PySem PySem.Spec PyProof.Rows L2 EM
section
variable {X : Cx}
theorem op_addN (T : Tx X.K X.mg) (hr : Room 6 X.A) : OpR X (binaryOp .Add) (rNumN X.K (fun t b u c => t * c + u * b) (fun _ b _ c => b * c)) :=
  op_numN (E := E0) (E' := E0) (op_binO (binC_add T) rfl rfl (ok_Ratio_add T) (hr.mono (by decide)) passL)
    (op_binR (binC_add T) rfl rfl (by decide +kernel) T.is_Ratio PySem.W.decl_add (ok_Ratio_radd T) hr passL)
    (fun a y t b u c H Q W k => ⟨a, y, t, b, u, c, rfl, W, k⟩)
    (fun a t u c H Q W k => ⟨a, .int t, u, c, t, 1, rfl, W, k.to (by rw [Int.add_comm]) (Int.mul_comm ..)⟩)
theorem op_subN (T : Tx X.K X.mg) (hr : Room 6 X.A) : OpR X (binaryOp .Sub) (rNumN X.K (fun t b u c => t * c + -u * b) (fun _ b _ c => b * c)) :=
  op_numN (E := E0) (E' := E0) (op_binO (binC_sub T) rfl rfl (ok_Ratio_sub T) (hr.mono (by decide)) passL)
    (op_binR (binC_sub T) rfl rfl (by decide +kernel) T.is_Ratio PySem.W.decl_sub (ok_Ratio_rsub T) hr passL)
    (fun a y t b u c H Q W k => ⟨a, y, t, b, u, c, rfl, W, k⟩)
    (fun a t u c H Q W k => ⟨a, .int t, u, c, t, 1, rfl, W, k.to (by rw [Int.add_comm]) (Int.mul_comm ..)⟩)
theorem op_mulN (T : Tx X.K X.mg) (hr : Room 6 X.A) : OpR X (binaryOp .Mult) (rNumN X.K (fun t _ u _ => t * u) (fun _ b _ c => b * c)) :=
  op_numN (E := E0) (E' := E0) (op_binO (binC_mul T) rfl rfl (ok_Ratio_mul T) (hr.mono (by decide)) passL)
    (op_binR (binC_mul T) rfl rfl (by decide +kernel) T.is_Ratio PySem.W.decl_mul (ok_Ratio_rmul T) hr passL)
    (fun a y t b u c H Q W k => ⟨a, y, t, b, u, c, rfl, W, k⟩)
    (fun a t u c H Q W k => ⟨a, .int t, u, c, t, 1, rfl, W, k.to (Int.mul_comm ..) (Int.mul_comm ..)⟩)
theorem un_negN (T : Tx X.K X.mg) (hr : Room 5 X.A) : UnR X (unaryOp .USub) (Su (rNegN X.K (fun t => -t))) :=
  un_sw (unR_of (EM.un_negO (E := E0) T.m_Ratio_neg.at_ T.m_Ratio_neg.fn (ok_Ratio_neg T) (hr.mono (by decide)) passL) fun x H Q ⟨a, t, b, e, ⟨dx, ra⟩, lo, lb, k⟩ => ⟨a, dx, _, e, ra, e ▸ ⟨a, t, b, rfl, ⟨dx, ra⟩, lo, Nat.lt_trans (lb.log (by decide)) (by decide), k⟩⟩)
theorem pe_mkN (T : Tx X.K X.mg) (hr : Room 3 X.A) {e1 : Expr} {es : List Expr} {ta : TA} {p pos : Pos} (ha : PA X (e1 :: es) ta) (hg : Gl X "Ratio" := by rfl) (he : starEach (e1 :: es) X.env = (false, eval e1 X.env) :: starEach es X.env := by rfl) (hpl : (backTo pos (starEach es X.env)).any (·.1) = false := by rfl) :
    PE X (.Call (.Name "Ratio" p) (e1 :: es) [] pos) (tCR (Sw (spMkN X.K)) E0 ta) :=
  (EM.pe_mkR (E := E0) T.mk_Ratio (ok_Ratio2 T) hr T.g_Ratio passL ha.mc hg (by decide) he hpl).of fun σ H Q q => ⟨_, q, fun vs H1 ⟨⟨t, b, e, b0, lb, k⟩⟩ x dx hx hdx ndx => by
    subst e
    exact mk_Rat b0 lb k x dx hx hdx ndx⟩
theorem op_addN_ {K : PySem.W.Frag} {mg : Str → Option Value} (T : Tx K mg) (hr : Room 6 X.A) (e1 : X.K = K := by rfl) (e2 : X.mg = mg := by rfl) : OpR X (binaryOp .Add) (rNumN K (fun t b u c => t * c + u * b) (fun _ b _ c => b * c)) := by
  subst e1 e2
  exact op_addN T hr
theorem op_subN_ {K : PySem.W.Frag} {mg : Str → Option Value} (T : Tx K mg) (hr : Room 6 X.A) (e1 : X.K = K := by rfl) (e2 : X.mg = mg := by rfl) : OpR X (binaryOp .Sub) (rNumN K (fun t b u c => t * c + -u * b) (fun _ b _ c => b * c)) := by
  subst e1 e2
  exact op_subN T hr
theorem op_mulN_ {K : PySem.W.Frag} {mg : Str → Option Value} (T : Tx K mg) (hr : Room 6 X.A) (e1 : X.K = K := by rfl) (e2 : X.mg = mg := by rfl) : OpR X (binaryOp .Mult) (rNumN K (fun t _ u _ => t * u) (fun _ b _ c => b * c)) := by
  subst e1 e2
  exact op_mulN T hr
theorem un_negN_ {K : PySem.W.Frag} {mg : Str → Option Value} (T : Tx K mg) (hr : Room 5 X.A) (e1 : X.K = K := by rfl) (e2 : X.mg = mg := by rfl) : UnR X (unaryOp .USub) (Su (rNegN K (fun t => -t))) := by
  subst e1 e2
  exact un_negN T hr
theorem pe_mkN_ {K : PySem.W.Frag} {mg : Str → Option Value} (T : Tx K mg) (hr : Room 3 X.A) {e1 : Expr} {es : List Expr} {ta : TA} {p pos : Pos} (ha : PA X (e1 :: es) ta) (hg : Gl X "Ratio" := by rfl) (he : starEach (e1 :: es) X.env = (false, eval e1 X.env) :: starEach es X.env := by rfl) (hpl : (backTo pos (starEach es X.env)).any (·.1) = false := by rfl) (eK : X.K = K := by rfl) (eM : X.mg = mg := by rfl) :
    PE X (.Call (.Name "Ratio" p) (e1 :: es) [] pos) (tCR (Sw (spMkN K)) E0 ta) := by
  subst eK eM
  exact pe_mkN T hr ha hg he hpl
end
end K41
namespace K41
open PySem PySem.Spec PyProof.Rows L2 EM
local macro_rules | `(tactic| sizeOf_list_dec) => `(tactic| first
  | with_reducible assumption
  | ((with_reducible apply EM.At.ext); (focus (with_reducible assumption)); (focus sizeOf_list_dec))
  | ((with_reducible apply EM.RatP.ext); (focus (with_reducible assumption)); (focus sizeOf_list_dec))
  | ((with_reducible apply EM.NumP.ext); (focus (with_reducible assumption)); (focus sizeOf_list_dec))
  | (with_reducible exact EM.Ext.refl)
  | ((with_reducible apply EM.Ext.back); (focus (with_reducible assumption)); (focus sizeOf_list_dec))
  | exact EM.NumP.int _
  | ((with_reducible apply EM.Mu.at_k); (focus (with_reducible assumption)); (focus sizeOf_list_dec); (focus sizeOf_list_dec); (focus (intro _ z; cases z; done)))
  | ((with_reducible apply EM.Mu.at_n); (focus (with_reducible assumption)); (focus sizeOf_list_dec); (focus (first | with_reducible assumption | ((apply EM.nn1); (focus (with_reducible assumption)); (focus sizeOf_list_dec)) | ((apply EM.nn2); (focus (with_reducible assumption)); (focus sizeOf_list_dec)))))
  | ((with_reducible apply EM.Mu.here); (focus (with_reducible assumption)); (focus sizeOf_list_dec))
  | ((with_reducible apply EM.Mu.rat); (focus (with_reducible assumption)); (focus sizeOf_list_dec); (focus sizeOf_list_dec))
  | ((with_reducible apply EM.Mu.num); (focus (with_reducible assumption)); (focus sizeOf_list_dec); (focus sizeOf_list_dec))
  | ((with_reducible apply EM.num_of_rat); (focus sizeOf_list_dec); (focus (first | with_reducible assumption | (apply EM.n_low; assumption))))
  | ((with_reducible apply EM.RatsP.xt); (focus (with_reducible assumption)); (focus sizeOf_list_dec))
  | ((with_reducible apply EM.NumsP.xt); (focus (with_reducible assumption)); (focus sizeOf_list_dec))
  | ((with_reducible apply EM.PairsP.xt); (focus (with_reducible assumption)); (focus sizeOf_list_dec))
  | ((with_reducible apply EM.RdP.xt); (focus (with_reducible assumption)); (focus sizeOf_list_dec))
  | ((with_reducible apply EM.Mu.rats); (focus (with_reducible assumption)); (focus sizeOf_list_dec); (focus sizeOf_list_dec))
  | ((with_reducible apply EM.Mu.pairs); (focus (with_reducible assumption)); (focus sizeOf_list_dec); (focus sizeOf_list_dec))
  | ((with_reducible apply EM.Mu.rdp); (focus (with_reducible assumption)); (focus sizeOf_list_dec); (focus sizeOf_list_dec)))
local macro_rules | `(tactic| decreasing_trivial_pre_omega) => `(tactic| first
  | with_reducible assumption
  | exact EM.Bt.mono (by with_reducible assumption) (by decide)
  | exact EM.Bt.lit _ _ (by decide +kernel)
  | ((with_reducible refine EM.Bt.rng32 ?_ ?_) <;> omega)
  | ((with_reducible refine EM.Bt.rng70 ?_ ?_) <;> omega)
  | ((with_reducible refine EM.Bt.rng200 ?_ ?_) <;> omega)
  | ((with_reducible apply EM.Bt.mulM); (focus decreasing_trivial_pre_omega); (focus decreasing_trivial_pre_omega); (focus (first | decide | exact Nat.le_refl _)))
  | ((with_reducible apply EM.Bt.addM); (focus decreasing_trivial_pre_omega); (focus decreasing_trivial_pre_omega); (focus (first | decide | exact Nat.le_refl _)))
  | ((with_reducible apply EM.Bt.subM); (focus decreasing_trivial_pre_omega); (focus decreasing_trivial_pre_omega); (focus (first | decide | exact Nat.le_refl _)))
  | ((with_reducible apply EM.Bt.topL); (focus decreasing_trivial_pre_omega); (focus assumption); (focus (first | decide | exact Nat.le_refl _)))
  | ((with_reducible apply EM.Bt.botL); (focus decreasing_trivial_pre_omega); (focus assumption); (focus (first | decide | exact Nat.le_refl _)))
  | ((with_reducible apply EM.Bt.divM); (focus decreasing_trivial_pre_omega); (focus assumption); (focus (first | decide | exact Nat.le_refl _)))
  | ((with_reducible apply EM.Bt.negM); (focus decreasing_trivial_pre_omega); (focus (first | decide | exact Nat.le_refl _))))
local macro_rules | `(tactic| array_get_dec) => `(tactic| first
  | with_reducible assumption
  | ((with_reducible refine EM.gEq ?_); exact rfl)
  | ((with_reducible refine EM.gTru ?_); exact rfl)
  | ((with_reducible refine EM.gRef ?_); first | exact Or.inl ⟨_, rfl⟩ | exact Or.inr ⟨_, rfl⟩)
  | ((with_reducible apply EM.At.get); sizeOf_list_dec)
  | ((with_reducible apply EM.At.sqL); sizeOf_list_dec)
  | ((with_reducible apply EM.At.sqT); sizeOf_list_dec)
  | ((with_reducible apply EM.RatP.getK); (focus sizeOf_list_dec); (focus (exact rfl)))
  | (with_reducible exact EM.Num.int _)
  | ((with_reducible apply EM.NumP.getK); (focus sizeOf_list_dec); (focus (exact rfl)))
  | ((with_reducible apply EM.At.ext); (focus (with_reducible assumption)); (focus sizeOf_list_dec))
  | ((with_reducible apply EM.RatP.ext); (focus (with_reducible assumption)); (focus sizeOf_list_dec))
  | ((with_reducible apply EM.NumP.ext); (focus (with_reducible assumption)); (focus sizeOf_list_dec))
  | with_reducible exact Tx.cl_Ratio (by assumption)
  | with_reducible exact Tx.cl_Reading (by assumption)
  | with_reducible exact Tx.na_Ratio_top (by assumption)
  | with_reducible exact Tx.na_Ratio_bottom (by assumption)
  | with_reducible exact Tx.na_Reading_own_edges (by assumption)
  | ((with_reducible refine EM.gAt ?_); sizeOf_list_dec)
  | ((with_reducible refine EM.gRat ?_); sizeOf_list_dec)
  | ((with_reducible refine EM.gNum ?_); sizeOf_list_dec)
  | ((with_reducible apply EM.TwoP.mk); (focus (with_reducible assumption)); (focus sizeOf_list_dec); (focus (first | with_reducible assumption | (apply EM.n_low; assumption))); (focus sizeOf_list_dec); (focus decreasing_trivial_pre_omega); (focus decreasing_trivial_pre_omega); (focus decreasing_trivial_pre_omega); (focus decreasing_trivial_pre_omega))
  | (with_reducible exact EM.Ext.refl)
  | ((with_reducible apply EM.Ext.back); (focus (with_reducible assumption)); (focus sizeOf_list_dec))
  | ((with_reducible apply EM.Bs.mono); (focus (with_reducible assumption)); omega)
  | ((with_reducible refine EM.gN ?_); first | decide | omega | exact Nat.le_of_ble_eq_true rfl | (simp only [List.length_cons, List.length_nil, List.length_append]; omega))
  | ((with_reducible refine EM.gM ?_); first | decide | omega | exact Nat.le_of_ble_eq_true rfl)
  | ((with_reducible refine EM.gI ?_); first | decide | omega)
  | ((with_reducible refine EM.gJ ?_); first | decide | omega)
  | ((with_reducible refine EM.gE ?_); first | decide | omega)
  | ((with_reducible refine EM.gB ?_); decreasing_trivial_pre_omega)
  | ((with_reducible apply EM.wideM); (focus decreasing_trivial_pre_omega); (focus decreasing_trivial_pre_omega); (focus decide)))
local macro_rules | `(tactic| infer_instance) => `(tactic| first
  | with_reducible assumption
  | exact DpAll.nil
  | (apply DpAll.cons; (focus infer_instance); (focus infer_instance))
  | with_reducible exact Dp.int _
  | exact Dp.int _
  | with_reducible exact Dp.str _
  | exact Dp.bl _
  | exact Dp.non
  | ((with_reducible apply EM.dp_lst); (focus array_get_dec); (focus infer_instance))
  | ((with_reducible apply EM.dp_tup); (focus array_get_dec); (focus infer_instance))
  | exact EM.dp_ints _)
local macro_rules | `(tactic| nofun) => `(tactic| first
  | with_reducible assumption
  | exact EM.FeL.nil
  | exact EM.FdL.nil
  | (apply EM.FeL.cons; (focus nofun); (focus nofun))
  | (apply EM.FdL.cons; (focus nofun); (focus nofun))
  | exact EM.Fe.int _
  | exact EM.Fe.bool _
  | exact EM.Fe.non
  | exact EM.Fe.str (EM.okS_of _)
  | (apply EM.Fe.str; apply EM.Fd.ok; (focus nofun))
  | (apply EM.Fe.list; (focus nofun))
  | (apply EM.Fe.tup; (focus nofun))
  | (apply EM.Fd.int; (focus decreasing_trivial_pre_omega))
  | exact EM.Fd.bool _
  | exact EM.Fd.non
  | (refine EM.Fd.bool _)
  | (apply EM.Fd.list; (focus nofun))
  | (apply EM.Fd.tup; (focus nofun)))
local macro_rules | `(tactic| array_mem_dec) => `(tactic| ((with_reducible refine EM.pr ?_); first
  | (with_reducible refine L2.iteT ?_)
  | (with_reducible refine L2.iteF ?_)
  | (with_reducible refine EM.ifNotT ?_)
  | (with_reducible refine EM.ifNotF ?_)
  | ((fail_if_success (with_reducible refine EM.gIf ?_)); first
  | array_get_dec
  | (refine EM.mk_low (by with_reducible assumption) (by with_reducible assumption) ?_ ?_; (focus array_get_dec))
  | (apply EM.isNum_sw; (focus sizeOf_list_dec))
  | (apply EM.of_sw; (focus (with_reducible assumption)); (focus sizeOf_list_dec))
  | (apply EM.neg_bs; (focus (with_reducible assumption)); (focus sizeOf_list_dec); (focus array_get_dec); (focus array_get_dec))
  | (apply EM.relw_bs; (focus (with_reducible assumption)); (focus sizeOf_list_dec); (focus sizeOf_list_dec); (focus array_get_dec); (focus decreasing_trivial_pre_omega); (focus decreasing_trivial_pre_omega); (focus decreasing_trivial_pre_omega); (focus decreasing_trivial_pre_omega))
  | ((with_reducible refine EM.New.bs (by with_reducible assumption) ?_ ?_); (focus (intro _ z; cases z; done)))
  | ((with_reducible refine EM.gMu ?_); (with_reducible apply EM.mu_bs); (focus (with_reducible assumption)); (focus sizeOf_list_dec); (focus (apply EM.nel2; (focus (with_reducible assumption)); (focus (with_reducible assumption)))); intro _ _ _)
  | intro _
  | (apply And.intro; (focus array_get_dec))
  | apply Exists.intro
  | (refine EM.draw_bs (by with_reducible assumption) ?_ ?_ ?_ ?_; (focus array_get_dec); (focus array_get_dec); (focus (first | decide | omega)))
  | (apply EM.pick_bs; (focus (with_reducible assumption)); (focus array_get_dec); (focus sizeOf_list_dec); (focus (exact Nat.le_of_ble_eq_true rfl)); (focus (exact Nat.le_of_ble_eq_true rfl)))
  | ((apply EM.repr_sw); (focus infer_instance); (focus nofun); (focus decide))
  | ((apply EM.eqd_same); (focus infer_instance); (focus infer_instance); (focus nofun); (focus decide))
  | ((apply EM.ned_same); (focus infer_instance); (focus infer_instance); (focus nofun); (focus decide))
  | ((apply EM.eqd_sw); (focus infer_instance); (focus infer_instance); (focus nofun); (focus nofun); (focus decide))
  | ((apply EM.ned_sw); (focus infer_instance); (focus infer_instance); (focus nofun); (focus nofun); (focus decide))
  | (refine EM.cut_bs (by with_reducible assumption) ?_ ?_ ?_; (focus array_get_dec); (focus array_get_dec)))))
section
variable {P : Program} {w : World} {K : PySem.W.Frag} {mg : Str → Option Value} {base : Heap}
theorem ok_Ratio_lt (T : Tx K mg) : FnR P w K mg base (L2.CX P w) 7 (He.ma K (He.ga K "Ratio") "__lt__") (spRelW K (relZ .Lt)) := by
  obtain ⟨fd, F⟩ := T.d_Ratio_lt
  refine EM.fnr F sc_Ratio_lt (fun _ _ _ _ _ _ us hl => match us, hl with | [_, _], _ => rfl) (fun vs H Q E h => ?_) (fun cdv A outer s H vs Q E hr h => ?_)
  · obtain ⟨T0, p, l, n, x, v, t, b, u, c, rfl, _⟩ := h
    rfl
  · obtain ⟨T0, p, l, n, x, v, t, b, u, c, rfl, ⟨B0, rx, lo, ny, bt, bb, bu, bc⟩, k⟩ := h
    refine ⟨_, (PSs.nox (pss_cons (ps_if (pt_not (pt_val (EM.pe_smR (pe_glob (v := .ref (He.ga K "Ratio")) (by rfl) T.g_Ratio rfl) T.cr_Ratio T.sm_Ratio_is_number ((ok_Ratio_is_number T).sw) (hr.mono (by decide)) T.k_Ratio_is_number passL (pa_cons (pv 1) pa_nil))))
  (pss_one (ps_never)) pss_nil)
 (pss_one (ps_ret (pe_cmpR op_lt (EM.pe_topN (pe_op (op_subN_ T (hr.mono (by decide))) (pv 0) (pv 1)) T.cl_Ratio T.na_Ratio_top rfl) pe_int (nomark _)))))), ?_⟩
    repeat' array_mem_dec
    refine Rw.bs (x := t * c + -u * b) (y := b * c) B0 fun a H1 x1 B1 r1 => ?_
    repeat' array_mem_dec
    exact k _ x1 B1
theorem ok_Ratio_le (T : Tx K mg) : FnR P w K mg base (L2.CX P w) 7 (He.ma K (He.ga K "Ratio") "__le__") (spRelW K (relZ .LtE)) := by
  obtain ⟨fd, F⟩ := T.d_Ratio_le
  refine EM.fnr F sc_Ratio_le (fun _ _ _ _ _ _ us hl => match us, hl with | [_, _], _ => rfl) (fun vs H Q E h => ?_) (fun cdv A outer s H vs Q E hr h => ?_)
  · obtain ⟨T0, p, l, n, x, v, t, b, u, c, rfl, _⟩ := h
    rfl
  · obtain ⟨T0, p, l, n, x, v, t, b, u, c, rfl, ⟨B0, rx, lo, ny, bt, bb, bu, bc⟩, k⟩ := h
    refine ⟨_, (PSs.nox (pss_cons (ps_if (pt_not (pt_val (EM.pe_smR (pe_glob (v := .ref (He.ga K "Ratio")) (by rfl) T.g_Ratio rfl) T.cr_Ratio T.sm_Ratio_is_number ((ok_Ratio_is_number T).sw) (hr.mono (by decide)) T.k_Ratio_is_number passL (pa_cons (pv 1) pa_nil))))
  (pss_one (ps_never)) pss_nil)
 (pss_one (ps_ret (pe_cmpR op_le (EM.pe_topN (pe_op (op_subN_ T (hr.mono (by decide))) (pv 0) (pv 1)) T.cl_Ratio T.na_Ratio_top rfl) pe_int (nomark _)))))), ?_⟩
    repeat' array_mem_dec
    refine Rw.bs (x := t * c + -u * b) (y := b * c) B0 fun a H1 x1 B1 r1 => ?_
    repeat' array_mem_dec
    exact k _ x1 B1
theorem ok_Ratio_gt (T : Tx K mg) : FnR P w K mg base (L2.CX P w) 7 (He.ma K (He.ga K "Ratio") "__gt__") (spRelW K (relZ .Gt)) := by
  obtain ⟨fd, F⟩ := T.d_Ratio_gt
  refine EM.fnr F sc_Ratio_gt (fun _ _ _ _ _ _ us hl => match us, hl with | [_, _], _ => rfl) (fun vs H Q E h => ?_) (fun cdv A outer s H vs Q E hr h => ?_)
  · obtain ⟨T0, p, l, n, x, v, t, b, u, c, rfl, _⟩ := h
    rfl
  · obtain ⟨T0, p, l, n, x, v, t, b, u, c, rfl, ⟨B0, rx, lo, ny, bt, bb, bu, bc⟩, k⟩ := h
    refine ⟨_, (PSs.nox (pss_cons (ps_if (pt_not (pt_val (EM.pe_smR (pe_glob (v := .ref (He.ga K "Ratio")) (by rfl) T.g_Ratio rfl) T.cr_Ratio T.sm_Ratio_is_number ((ok_Ratio_is_number T).sw) (hr.mono (by decide)) T.k_Ratio_is_number passL (pa_cons (pv 1) pa_nil))))
  (pss_one (ps_never)) pss_nil)
 (pss_one (ps_ret (pe_cmpR op_gt (EM.pe_topN (pe_op (op_subN_ T (hr.mono (by decide))) (pv 0) (pv 1)) T.cl_Ratio T.na_Ratio_top rfl) pe_int (nomark _)))))), ?_⟩
    repeat' array_mem_dec
    refine Rw.bs (x := t * c + -u * b) (y := b * c) B0 fun a H1 x1 B1 r1 => ?_
    repeat' array_mem_dec
    exact k _ x1 B1
theorem ok_Ratio_ge (T : Tx K mg) : FnR P w K mg base (L2.CX P w) 7 (He.ma K (He.ga K "Ratio") "__ge__") (spRelW K (relZ .GtE)) := by
  obtain ⟨fd, F⟩ := T.d_Ratio_ge
  refine EM.fnr F sc_Ratio_ge (fun _ _ _ _ _ _ us hl => match us, hl with | [_, _], _ => rfl) (fun vs H Q E h => ?_) (fun cdv A outer s H vs Q E hr h => ?_)
  · obtain ⟨T0, p, l, n, x, v, t, b, u, c, rfl, _⟩ := h
    rfl
  · obtain ⟨T0, p, l, n, x, v, t, b, u, c, rfl, ⟨B0, rx, lo, ny, bt, bb, bu, bc⟩, k⟩ := h
    refine ⟨_, (PSs.nox (pss_cons (ps_if (pt_not (pt_val (EM.pe_smR (pe_glob (v := .ref (He.ga K "Ratio")) (by rfl) T.g_Ratio rfl) T.cr_Ratio T.sm_Ratio_is_number ((ok_Ratio_is_number T).sw) (hr.mono (by decide)) T.k_Ratio_is_number passL (pa_cons (pv 1) pa_nil))))
  (pss_one (ps_never)) pss_nil)
 (pss_one (ps_ret (pe_cmpR op_ge (EM.pe_topN (pe_op (op_subN_ T (hr.mono (by decide))) (pv 0) (pv 1)) T.cl_Ratio T.na_Ratio_top rfl) pe_int (nomark _)))))), ?_⟩
    repeat' array_mem_dec
    refine Rw.bs (x := t * c + -u * b) (y := b * c) B0 fun a H1 x1 B1 r1 => ?_
    repeat' array_mem_dec
    exact k _ x1 B1
theorem ok_Ratio_eq (T : Tx K mg) : FnR P w K mg base (L2.CX P w) 7 (He.ma K (He.ga K "Ratio") "__eq__") (spEqXW K) := by
  obtain ⟨fd, F⟩ := T.d_Ratio_eq
  refine EM.fnr F sc_Ratio_eq (fun _ _ _ _ _ _ us hl => match us, hl with | [_, _], _ => rfl) (fun vs H Q E h => ?_) (fun cdv A outer s H vs Q E hr h => ?_)
  · rcases h with ⟨T0, p, l, n, x, v, t, b, u, c, rfl, _⟩ | ⟨x, v, rfl, _⟩ <;> rfl
  · rcases h with ⟨T0, p, l, n, x, v, t, b, u, c, rfl, ⟨B0, rx, lo, ny, bt, bb, bu, bc⟩, k⟩ | ⟨x, v, rfl, nn, k⟩
    · skip
      refine ⟨_, (PSs.nox (pss_one (ps_ret (pe_and (EM.pe_smR (pe_glob (v := .ref (He.ga K "Ratio")) (by rfl) T.g_Ratio rfl) T.cr_Ratio T.sm_Ratio_is_number ((ok_Ratio_is_number T).sw) (hr.mono (by decide)) T.k_Ratio_is_number passL (pa_cons (pv 1) pa_nil)) (pe_one (pe_cmpR op_eq (EM.pe_topN (pe_op (op_subN_ T (hr.mono (by decide))) (pv 0) (pv 1)) T.cl_Ratio T.na_Ratio_top rfl) pe_int (nomark _))))))), ?_⟩
      repeat' array_mem_dec
      refine Rw.bs (x := t * c + -u * b) (y := b * c) B0 fun a H1 x1 B1 r1 => ?_
      repeat' array_mem_dec
      exact k _ x1 B1
    · refine ⟨_, (PSs.nox (pss_one (ps_ret (pe_and (EM.pe_smR (pe_glob (v := .ref (He.ga K "Ratio")) (by rfl) T.g_Ratio rfl) T.cr_Ratio T.sm_Ratio_is_number ((ok_Ratio_is_number T).sw) (hr.mono (by decide)) T.k_Ratio_is_number passL (pa_cons (pv 1) pa_nil)) (pe_one (pe_cmpR op_eq (EM.pe_topN (pe_op (op_subN_ T (hr.mono (by decide))) (pv 0) (pv 1)) T.cl_Ratio T.na_Ratio_top rfl) pe_int (nomark _))))))), ?_⟩
      repeat' array_mem_dec
      refine ⟨⟨v, rfl, .inr ⟨nn, ?_⟩⟩⟩
      repeat' array_mem_dec
theorem op_rLtE (T : Tx K mg) {X : Cx} (hr : Room 8 X.A) (e1 : X.K = K := by rfl) (e2 : X.mg = mg := by rfl) : OpR X (compareOp .LtE) (RelW K .LtE) := by
  subst e1 e2
  exact op_relW (.inr (.inl rfl)) T.m_Ratio_le.at_ T.m_Ratio_le.fn T.m_Ratio_ge.at_ T.m_Ratio_ge.fn T.ap_Ratio (ok_Ratio_le T).sw (ok_Ratio_ge T).sw (hr.mono (by decide))
theorem op_rGt (T : Tx K mg) {X : Cx} (hr : Room 8 X.A) (e1 : X.K = K := by rfl) (e2 : X.mg = mg := by rfl) : OpR X (compareOp .Gt) (RelW K .Gt) := by
  subst e1 e2
  exact op_relW (.inr (.inr (.inl rfl))) T.m_Ratio_gt.at_ T.m_Ratio_gt.fn T.m_Ratio_lt.at_ T.m_Ratio_lt.fn T.ap_Ratio (ok_Ratio_gt T).sw (ok_Ratio_lt T).sw (hr.mono (by decide))
theorem op_rEq (T : Tx K mg) {X : Cx} (hr : Room 8 X.A) (e1 : X.K = K := by rfl) (e2 : X.mg = mg := by rfl) : OpR X (compareOp .Eq) (RelW K .Eq) := by
  subst e1 e2
  exact op_relEW T.m_Ratio_eq.at_ T.m_Ratio_eq.fn T.ap_Ratio (ok_Ratio_eq T).sw (hr.mono (by decide))
end
end K41
namespace K41
open PySem PySem.Spec PyProof.Rows L2 EM
theorem cnt_bs {H : Hp} {Q : VK} {E : XK} {m : Nat} (k : Q (.bl (decide (m % 2 = 0 ∧ 4 ≤ m ∧ m ≤ 128))) H) : Sw spCountR [.int m] H Q E := ⟨⟨m, rfl, k⟩⟩
local macro_rules | `(tactic| sizeOf_list_dec) => `(tactic| first
  | with_reducible assumption
  | ((with_reducible apply EM.At.ext); (focus (with_reducible assumption)); (focus sizeOf_list_dec))
  | ((with_reducible apply EM.RatP.ext); (focus (with_reducible assumption)); (focus sizeOf_list_dec))
  | ((with_reducible apply EM.NumP.ext); (focus (with_reducible assumption)); (focus sizeOf_list_dec))
  | (with_reducible exact EM.Ext.refl)
  | ((with_reducible apply EM.Ext.back); (focus (with_reducible assumption)); (focus sizeOf_list_dec))
  | exact EM.NumP.int _
  | ((with_reducible apply EM.Mu.at_k); (focus (with_reducible assumption)); (focus sizeOf_list_dec); (focus sizeOf_list_dec); (focus (intro _ z; cases z; done)))
  | ((with_reducible apply EM.Mu.at_n); (focus (with_reducible assumption)); (focus sizeOf_list_dec); (focus (first | with_reducible assumption | ((apply EM.nn1); (focus (with_reducible assumption)); (focus sizeOf_list_dec)) | ((apply EM.nn2); (focus (with_reducible assumption)); (focus sizeOf_list_dec)))))
  | ((with_reducible apply EM.Mu.here); (focus (with_reducible assumption)); (focus sizeOf_list_dec))
  | ((with_reducible apply EM.Mu.rat); (focus (with_reducible assumption)); (focus sizeOf_list_dec); (focus sizeOf_list_dec))
  | ((with_reducible apply EM.Mu.num); (focus (with_reducible assumption)); (focus sizeOf_list_dec); (focus sizeOf_list_dec))
  | ((with_reducible apply EM.num_of_rat); (focus sizeOf_list_dec); (focus (first | with_reducible assumption | (apply EM.n_low; assumption))))
  | ((with_reducible apply EM.RatsP.xt); (focus (with_reducible assumption)); (focus sizeOf_list_dec))
  | ((with_reducible apply EM.NumsP.xt); (focus (with_reducible assumption)); (focus sizeOf_list_dec))
  | ((with_reducible apply EM.PairsP.xt); (focus (with_reducible assumption)); (focus sizeOf_list_dec))
  | ((with_reducible apply EM.RdP.xt); (focus (with_reducible assumption)); (focus sizeOf_list_dec))
  | ((with_reducible apply EM.Mu.rats); (focus (with_reducible assumption)); (focus sizeOf_list_dec); (focus sizeOf_list_dec))
  | ((with_reducible apply EM.Mu.pairs); (focus (with_reducible assumption)); (focus sizeOf_list_dec); (focus sizeOf_list_dec))
  | ((with_reducible apply EM.Mu.rdp); (focus (with_reducible assumption)); (focus sizeOf_list_dec); (focus sizeOf_list_dec)))
local macro_rules | `(tactic| decreasing_trivial_pre_omega) => `(tactic| first
  | with_reducible assumption
  | exact EM.Bt.mono (by with_reducible assumption) (by decide)
  | exact EM.Bt.lit _ _ (by decide +kernel)
  | ((with_reducible refine EM.Bt.rng32 ?_ ?_) <;> omega)
  | ((with_reducible refine EM.Bt.rng70 ?_ ?_) <;> omega)
  | ((with_reducible refine EM.Bt.rng200 ?_ ?_) <;> omega)
  | ((with_reducible apply EM.Bt.mulM); (focus decreasing_trivial_pre_omega); (focus decreasing_trivial_pre_omega); (focus (first | decide | exact Nat.le_refl _)))
  | ((with_reducible apply EM.Bt.addM); (focus decreasing_trivial_pre_omega); (focus decreasing_trivial_pre_omega); (focus (first | decide | exact Nat.le_refl _)))
  | ((with_reducible apply EM.Bt.subM); (focus decreasing_trivial_pre_omega); (focus decreasing_trivial_pre_omega); (focus (first | decide | exact Nat.le_refl _)))
  | ((with_reducible apply EM.Bt.topL); (focus decreasing_trivial_pre_omega); (focus assumption); (focus (first | decide | exact Nat.le_refl _)))
  | ((with_reducible apply EM.Bt.botL); (focus decreasing_trivial_pre_omega); (focus assumption); (focus (first | decide | exact Nat.le_refl _)))
  | ((with_reducible apply EM.Bt.divM); (focus decreasing_trivial_pre_omega); (focus assumption); (focus (first | decide | exact Nat.le_refl _)))
  | ((with_reducible apply EM.Bt.negM); (focus decreasing_trivial_pre_omega); (focus (first | decide | exact Nat.le_refl _))))
local macro_rules | `(tactic| array_get_dec) => `(tactic| first
  | with_reducible assumption
  | ((with_reducible refine EM.gEq ?_); exact rfl)
  | ((with_reducible refine EM.gTru ?_); exact rfl)
  | ((with_reducible refine EM.gRef ?_); first | exact Or.inl ⟨_, rfl⟩ | exact Or.inr ⟨_, rfl⟩)
  | ((with_reducible apply EM.At.get); sizeOf_list_dec)
  | ((with_reducible apply EM.At.sqL); sizeOf_list_dec)
  | ((with_reducible apply EM.At.sqT); sizeOf_list_dec)
  | ((with_reducible apply EM.RatP.getK); (focus sizeOf_list_dec); (focus (exact rfl)))
  | (with_reducible exact EM.Num.int _)
  | ((with_reducible apply EM.NumP.getK); (focus sizeOf_list_dec); (focus (exact rfl)))
  | ((with_reducible apply EM.At.ext); (focus (with_reducible assumption)); (focus sizeOf_list_dec))
  | ((with_reducible apply EM.RatP.ext); (focus (with_reducible assumption)); (focus sizeOf_list_dec))
  | ((with_reducible apply EM.NumP.ext); (focus (with_reducible assumption)); (focus sizeOf_list_dec))
  | with_reducible exact Tx.cl_Ratio (by assumption)
  | with_reducible exact Tx.cl_Reading (by assumption)
  | with_reducible exact Tx.na_Ratio_top (by assumption)
  | with_reducible exact Tx.na_Ratio_bottom (by assumption)
  | with_reducible exact Tx.na_Reading_own_edges (by assumption)
  | ((with_reducible refine EM.gAt ?_); sizeOf_list_dec)
  | ((with_reducible refine EM.gRat ?_); sizeOf_list_dec)
  | ((with_reducible refine EM.gNum ?_); sizeOf_list_dec)
  | ((with_reducible apply EM.TwoP.mk); (focus (with_reducible assumption)); (focus sizeOf_list_dec); (focus (first | with_reducible assumption | (apply EM.n_low; assumption))); (focus sizeOf_list_dec); (focus decreasing_trivial_pre_omega); (focus decreasing_trivial_pre_omega); (focus decreasing_trivial_pre_omega); (focus decreasing_trivial_pre_omega))
  | (with_reducible exact EM.Ext.refl)
  | ((with_reducible apply EM.Ext.back); (focus (with_reducible assumption)); (focus sizeOf_list_dec))
  | ((with_reducible apply EM.Bs.mono); (focus (with_reducible assumption)); omega)
  | ((with_reducible refine EM.gN ?_); first | decide | omega | exact Nat.le_of_ble_eq_true rfl | (simp only [List.length_cons, List.length_nil, List.length_append]; omega))
  | ((with_reducible refine EM.gM ?_); first | decide | omega | exact Nat.le_of_ble_eq_true rfl)
  | ((with_reducible refine EM.gI ?_); first | decide | omega)
  | ((with_reducible refine EM.gJ ?_); first | decide | omega)
  | ((with_reducible refine EM.gE ?_); first | decide | omega)
  | ((with_reducible refine EM.gB ?_); decreasing_trivial_pre_omega)
  | ((with_reducible apply EM.wideM); (focus decreasing_trivial_pre_omega); (focus decreasing_trivial_pre_omega); (focus decide)))
local macro_rules | `(tactic| infer_instance) => `(tactic| first
  | with_reducible assumption
  | exact DpAll.nil
  | (apply DpAll.cons; (focus infer_instance); (focus infer_instance))
  | with_reducible exact Dp.int _
  | exact Dp.int _
  | with_reducible exact Dp.str _
  | exact Dp.bl _
  | exact Dp.non
  | ((with_reducible apply EM.dp_lst); (focus array_get_dec); (focus infer_instance))
  | ((with_reducible apply EM.dp_tup); (focus array_get_dec); (focus infer_instance))
  | exact EM.dp_ints _)
local macro_rules | `(tactic| nofun) => `(tactic| first
  | with_reducible assumption
  | exact EM.FeL.nil
  | exact EM.FdL.nil
  | (apply EM.FeL.cons; (focus nofun); (focus nofun))
  | (apply EM.FdL.cons; (focus nofun); (focus nofun))
  | exact EM.Fe.int _
  | exact EM.Fe.bool _
  | exact EM.Fe.non
  | exact EM.Fe.str (EM.okS_of _)
  | (apply EM.Fe.str; apply EM.Fd.ok; (focus nofun))
  | (apply EM.Fe.list; (focus nofun))
  | (apply EM.Fe.tup; (focus nofun))
  | (apply EM.Fd.int; (focus decreasing_trivial_pre_omega))
  | exact EM.Fd.bool _
  | exact EM.Fd.non
  | (refine EM.Fd.bool _)
  | (apply EM.Fd.list; (focus nofun))
  | (apply EM.Fd.tup; (focus nofun)))
local macro_rules | `(tactic| array_mem_dec) => `(tactic| ((with_reducible refine EM.pr ?_); first
  | (with_reducible refine L2.iteT ?_)
  | (with_reducible refine L2.iteF ?_)
  | (with_reducible refine EM.ifNotT ?_)
  | (with_reducible refine EM.ifNotF ?_)
  | ((fail_if_success (with_reducible refine EM.gIf ?_)); first
  | array_get_dec
  | (refine EM.mk_low (by with_reducible assumption) (by with_reducible assumption) ?_ ?_; (focus array_get_dec))
  | (apply EM.isNum_sw; (focus sizeOf_list_dec))
  | (apply EM.of_sw; (focus (with_reducible assumption)); (focus sizeOf_list_dec))
  | (apply EM.neg_bs; (focus (with_reducible assumption)); (focus sizeOf_list_dec); (focus array_get_dec); (focus array_get_dec))
  | (apply EM.relw_bs; (focus (with_reducible assumption)); (focus sizeOf_list_dec); (focus sizeOf_list_dec); (focus array_get_dec); (focus decreasing_trivial_pre_omega); (focus decreasing_trivial_pre_omega); (focus decreasing_trivial_pre_omega); (focus decreasing_trivial_pre_omega))
  | ((apply EM.DnS.bs); (focus (with_reducible assumption)); (focus (intro _ z; cases z; done)))
  | ((apply EM.seqL); (focus sizeOf_list_dec))
  | ((apply EM.seqT); (focus sizeOf_list_dec))
  | ((apply EM.lenL); (focus sizeOf_list_dec))
  | ((apply EM.lenT); (focus sizeOf_list_dec))
  | ((apply EM.isSeqL); (focus sizeOf_list_dec); (focus sizeOf_list_dec))
  | ((apply EM.isSeqT); (focus sizeOf_list_dec); (focus sizeOf_list_dec))
  | ((apply EM.tupL); (focus sizeOf_list_dec))
  | ((apply EM.fld_bs); (focus sizeOf_list_dec); (focus (exact Tx.cl_Reading (by assumption))); (focus (exact Tx.na_Reading_own_edges (by assumption))); (focus (exact rfl)))
  | ((apply EM.enT); (focus sizeOf_list_dec))
  | (apply cnt_bs)
  | ((with_reducible refine EM.New.bs (by with_reducible assumption) ?_ ?_); (focus (intro _ z; cases z; done)))
  | ((with_reducible refine EM.gMu ?_); (with_reducible apply EM.mu_bs); (focus (with_reducible assumption)); (focus sizeOf_list_dec); (focus (apply EM.nel2; (focus (with_reducible assumption)); (focus (with_reducible assumption)))); intro _ _ _)
  | intro _
  | (apply And.intro; (focus array_get_dec))
  | apply Exists.intro
  | (refine EM.draw_bs (by with_reducible assumption) ?_ ?_ ?_ ?_; (focus array_get_dec); (focus array_get_dec); (focus (first | decide | omega)))
  | (apply EM.pick_bs; (focus (with_reducible assumption)); (focus array_get_dec); (focus sizeOf_list_dec); (focus (exact Nat.le_of_ble_eq_true rfl)); (focus (exact Nat.le_of_ble_eq_true rfl)))
  | ((apply EM.repr_sw); (focus infer_instance); (focus nofun); (focus decide))
  | ((apply EM.eqd_same); (focus infer_instance); (focus infer_instance); (focus nofun); (focus decide))
  | ((apply EM.ned_same); (focus infer_instance); (focus infer_instance); (focus nofun); (focus decide))
  | ((apply EM.eqd_sw); (focus infer_instance); (focus infer_instance); (focus nofun); (focus nofun); (focus decide))
  | ((apply EM.ned_sw); (focus infer_instance); (focus infer_instance); (focus nofun); (focus nofun); (focus decide))
  | (refine EM.cut_bs (by with_reducible assumption) ?_ ?_ ?_; (focus array_get_dec); (focus array_get_dec))
  | refine EM.Sw.mk (sp := spCountR) ?_
  | refine EM.Sw.mk (sp := (spEdgesR _)) ?_)))
section
variable {P : Program} {w : World} {K : PySem.W.Frag} {mg : Str → Option Value} {base : Heap}
theorem ok_is_edge_count (T : Tx K mg) : FnR P w K mg base (L2.CX P w) 1 (He.ga K "is_edge_count") (spCountR) := by
  obtain ⟨fd, F⟩ := T.d_is_edge_count
  refine EM.fnr F sc_is_edge_count (fun _ _ _ _ _ _ us hl => match us, hl with | [_], _ => rfl) (fun vs H Q E h => ?_) (fun cdv A outer s H vs Q E hr h => ?_)
  · obtain ⟨m, rfl, _⟩ := h
    rfl
  · obtain ⟨m, rfl, k⟩ := h
    refine ⟨_, (PSs.nox (pss_one (ps_ret (pe_and (pe_cmpR op_eq (pe_op op_mod (pv 0) pe_int) pe_int (nomark _)) (pe_one (pe_chain op_le op_le (EM.pe_gI T.g_LEAST_EDGES) (pv 0) (EM.pe_gI T.g_MOST_EDGES_readings))))))), ?_⟩
    repeat' array_mem_dec
    refine ifEqI (fun z => ?_) (fun z => ?_)
    · repeat' array_mem_dec
      refine ifLe (fun z2 => ?_) (fun z2 => ?_)
      · repeat' array_mem_dec
        show Q (.bl (decide ((m : Int) ≤ 128))) H
        by_cases z3 : (m : Int) ≤ 128
        · rw [decide_eq_true z3]
          rwa [decide_eq_true (show m % 2 = 0 ∧ 4 ≤ m ∧ m ≤ 128 by omega)] at k
        · rw [decide_eq_false z3]
          rwa [decide_eq_false (show ¬ (m % 2 = 0 ∧ 4 ≤ m ∧ m ≤ 128) by omega)] at k
      · repeat' array_mem_dec
        rwa [decide_eq_false (show ¬ (m % 2 = 0 ∧ 4 ≤ m ∧ m ≤ 128) by omega)] at k
    · repeat' array_mem_dec
      rwa [decide_eq_false (show ¬ (m % 2 = 0 ∧ 4 ≤ m ∧ m ≤ 128) by omega)] at k
theorem ok_edges_of (T : Tx K mg) : FnR P w K mg base (L2.CX P w) 9 (He.ga K "edges_of") (spEdgesR K) := by
  obtain ⟨fd, F⟩ := T.d_edges_of
  refine EM.fnr F sc_edges_of (fun _ _ _ _ _ _ us hl => match us, hl with | [_], _ => rfl) (fun vs H Q E h => ?_) (fun cdv A outer s H vs Q E hr h => ?_)
  · obtain ⟨T0, p, l, a, n, xs, es, rfl, _⟩ := h
    rfl
  · obtain ⟨T0, p, l, a, n, xs, es, rfl, B0, aX, hN, ho, hl, k⟩ := h
    refine ⟨_, (PSs.nox (pss_cons (ps_set (i := 1) sc_edges_of.nd rfl (Or.inl rfl) (EM.pe_lstN pa_nil))
 (pss_cons (EM.forN (ps_for PassesOwn.never rfl (EM.pi_enumTN (by rfl) T.f_enumerate (pa_cons (pv 0) pa_nil)).mc (pg_tup (by rfl) (pgs_cons (pg_name (i := 2) sc_edges_of.nd rfl (Or.inl rfl)) (pgs_cons (pg_name (i := 3) sc_edges_of.nd rfl (Or.inl rfl)) pgs_nil)))
  (pss_cons (ps_if (pt_not (pt_val (EM.pe_smR (pe_glob (v := .ref (He.ga K "Ratio")) (by rfl) T.g_Ratio rfl) T.cr_Ratio T.sm_Ratio_is_number ((ok_Ratio_is_number T).sw) (hr.mono (by decide)) T.k_Ratio_is_number passL (pa_cons (pv 3) pa_nil))))
  (pss_one ps_never) pss_nil)
 (pss_cons (ps_expr (EM.pe_appN (pv 1) (EM.pe_smR (pe_glob (v := .ref (He.ga K "Ratio")) (by rfl) T.g_Ratio rfl) T.cr_Ratio T.sm_Ratio_of ((ok_Ratio_of T).sw) (hr.mono (by decide)) T.k_Ratio_of passL (pa_cons (pv 3) pa_nil))))
 (pss_one (ps_if (PW.pt (pw_and (pt_cmpR op_gt (pv 2) pe_int (nomark _)) (pw_and1 (pt_cmpR (op_rLtE T (hr.mono (by decide))) (pe_ix ix_list (pv 1) (pv 2) (fun _ _ => rfl)) (pe_ix ix_list (pv 1) (pe_op op_sub (pv 2) pe_int) (fun _ _ => rfl)) (nomark _)))))
  (pss_one ps_never) pss_nil))))))
 (pss_one (ps_ret (pe_callTy EM.call_tupN (by rfl) T.f_tuple (by decide +kernel) (pa_cons (pv 1) pa_nil))))))), ?_⟩
    repeat' array_mem_dec
    rename_i F H1 x1 B1 aF nF
    refine FoS.it walk_enumT (fun i σ H2 => Hold (∃ ys v2 v3, σ = [some (.ref a), some (.ref F), v2, v3] ∧ At p H2 a (.tup xs) ∧ At p H2 F (.lst ys) ∧ ys.length = i ∧ RatsP K p H2 ys (es.take i) ∧ NumsP K p H2 xs es ∧ XtM p H H2 ∧ Bs T0 p l n H2))
      ⟨⟨[], _, _, rfl, aX.ext x1, aF, rfl, RatsP.nil, hN.ext x1, ⟨x1⟩, B1⟩⟩ (fun _ _ _ _ ⟨⟨_, _, _, _, h, _⟩⟩ => SqT.of h.at_) ?_ ?_
    · rintro i y σ H2 H3 hi ⟨⟨ys, v2, v3, rfl, aX2, aF2, hlen, hR, hN2, ⟨x02⟩, B2⟩⟩ hy
      obtain ⟨W, a', b', rfl, ea, eb, x3, B3, aW⟩ := yp_open B2 hy
      cases ea
      have hie : i < es.length := by rw [← hN.len]; exact hi
      obtain ⟨e, ee⟩ : ∃ e, es[i]? = some e := ⟨_, List.getElem?_eq_getElem hie⟩
      obtain ⟨b2, eb2, nb⟩ := (hN2.ext x3).get ee
      cases (eb.symm.trans eb2)
      clear hy eb eb2
      have aX3 := aX2.ext x3
      have aF3 := aF2.ext x3
      have hR3 := hR.ext x3
      have hN3 := hN2.ext x3
      have x03 := x02.trans x3
      clear aX2 aF2 hR hN2 x02 B2 x3
      repeat' array_mem_dec
      rename_i a4 H4 x4 B4 r4 H5 mu B5
      have aX5 : At p H5 a (.tup xs) := mu.at_k (aX3.ext x4) (aF3.ext x4) (by intro _ z; cases z)
      have aF5 : At p H5 F (.lst (ys ++ [.ref a4])) := mu.here (aF3.ext x4)
      have hR5 : RatsP K p H5 (ys ++ [.ref a4]) (es.take (i + 1)) := by
        rw [take_snocE ee]
        exact mu.rats ((hR3.ext x4).snoc r4) (aF3.ext x4)
      have hN5 : NumsP K p H5 xs es := mu.nums (hN3.ext x4) (aF3.ext x4)
      have x05 : XtM p H H5 := ⟨Ext.mu Ext.refl nF (x03.trans x4) mu⟩
      have fin : ∀ H6, Ext p H5 H6 → Bs T0 p l n H6 → Hold (∃ ys' v2' v3', [some (V.ref a), some (V.ref F), some (.int (i : Int)), some b'] = [some (.ref a), some (.ref F), v2', v3'] ∧ At p H6 a (.tup xs) ∧ At p H6 F (.lst ys') ∧ ys'.length = i + 1 ∧ RatsP K p H6 ys' (es.take (i + 1)) ∧ NumsP K p H6 xs es ∧ XtM p H H6 ∧ Bs T0 p l n H6) := fun H6 x6 B6 => ⟨⟨_, _, _, rfl, aX5.ext x6, aF5.ext x6, by simp [hlen], hR5.ext x6, hN5.ext x6, ⟨x05.x.trans x6⟩, B6⟩⟩
      clear mu r4 x4 B4 aX3 aF3 hR3 hN3 x03
      refine ifLt (a := 0) (b := (i : Int)) (fun c => ?_) (fun c => ?_)
      · obtain ⟨f, ef⟩ : ∃ f, es[i - 1]? = some f := ⟨_, List.getElem?_eq_getElem (by omega)⟩
        have ei : es[i - 1 + 1]? = some e := by rw [show i - 1 + 1 = i by omega]; exact ee
        obtain ⟨c1, ec1, rc1⟩ := hR5.get (i := i) (e := e) (by rw [List.getElem?_take, if_pos (by omega)]; exact ee)
        obtain ⟨c2, ec2, rc2⟩ := hR5.get (i := i - 1) (e := f) (by rw [List.getElem?_take, if_pos (by omega)]; exact ef)
        have m1 := List.mem_of_getElem? ee
        have m2 := List.mem_of_getElem? ef
        have l1 := ho.low e m1
        have l2 := ho.low f m2
        obtain ⟨b1, b2⟩ := ho.bt e m1
        obtain ⟨b3, b4⟩ := ho.bt f m2
        have n1 := rc1.num l1
        have n2 := rc2.num l2
        have ix1 : atI (ys ++ [.ref a4]) (i : Int) = some (.ref c1) := at_of (j := i) rfl ec1
        have ix2 : atI (ys ++ [.ref a4]) ((i : Int) - 1) = some (.ref c2) := at_of (j := i - 1) (by omega) ec2
        repeat' array_mem_dec
        rename_i H6 x6 B6
        exact ifN (ho.not_le ef ei) (fin _ x6 B6)
      · exact fin _ Ext.refl B5
    · rintro σ H2 ⟨⟨ys, v2, v3, rfl, aX2, aF2, hlen, hR, hN2, ⟨x02⟩, B2⟩⟩
      repeat' array_mem_dec
      rename_i q H3 x3 B3 a3 n3
      refine k q ys H3 (x02.trans x3) B3 a3 ?_
      have := hR.ext x3
      rwa [List.take_of_length_le (by rw [← hN.len]; exact Nat.le_refl _)] at this
theorem bod_Reading_init (T : Tx K mg) (f : Addr) : Bod P w K mg base ["self", "edges"] "Reading.__init__" (defScope s_Reading_init) f (defBody s_Reading_init) 9 (spInitR K) := by
  intro cdv A outer s H vs Q E hr h
  obtain ⟨T0, p, l, x, dx, W, n, xs, es, rfl, B0, hx, aW, hN, ho, ⟨l1, l2, l3⟩, k⟩ := h
  have aX : At p H x (.ins (He.ga K "Reading") dx []) := B0.at_ hx (by intro _ z; cases z) (by intro _ z; cases z)
  refine ⟨_, (PSs.nox (pss_cons (ps_if (pt_not (pt_val (EM.pe_cR ((ok_is_edge_count T).sw) (hr.mono (by decide)) T.k_is_edge_count T.g_is_edge_count passL (pa_cons (pe_callB EM.call_lenN (by rfl) T.f_len boot_len (pa_cons (pv 1) pa_nil)) pa_nil))))
  (pss_one ps_never) pss_nil)
 (pss_one (EM.ps_fldN (pv 0) (EM.pe_cR ((ok_edges_of T).sw) (hr.mono (by decide)) T.k_edges_of T.g_edges_of passL (pa_cons (pv 1) pa_nil)) rfl)))), ?_⟩
  repeat' array_mem_dec
  rw [hN.len, decide_eq_true (show es.length % 2 = 0 ∧ 4 ≤ es.length ∧ es.length ≤ 128 from ⟨l1, l2, l3⟩)]
  repeat' array_mem_dec
  rename_i q ys H1 x1 B1 a1 r1
  refine ⟨T.cl_Reading, T.na_Reading_own_edges, by decide, fun H3 m => ?_⟩
  have aX1 := aX.ext x1
  exact k H3 q ((XtR.of x1).trans (XtR.mu m)) (m.bsI B1 aX1) (RdP.put0 m aX1 a1 r1 (fun _ _ z => by cases z))
theorem ok_Reading_init (T : Tx K mg) : FnR P w K mg base (L2.CX P w) 10 (He.ma K (He.ga K "Reading") "__init__") (spInitRS K) := by
  obtain ⟨fd, F⟩ := T.d_Reading_init
  exact EM.fnr_star (ps := ["self"]) (pv := "edges") F sc_Reading_init (fun kV doc pm an cdv ct => StX.bind_star1 (B := fun l => bindArgs _ ⟨l, []⟩) (fun a => by rfl) (fun a r rs => by rfl)) (bod_Reading_init T _)
theorem pe_mkRS {K : PySem.W.Frag} {mg : Str → Option Value} (T : Tx K mg) {X : Cx} {E : XK} (hr : Room 11 X.A) (hx : Passes (L2.CX X.prog X.w) X E) {e : Expr} {te : TE} {p pos sp_ : Pos} (he : PE X e te) (hg : Gl X "Reading" := by rfl) (hst : starEach [.Starred e sp_] X.env = [(true, eval e X.env)] := by rfl) (eK : X.K = K := by rfl) (eM : X.mg = mg := by rfl) :
    PE X (.Call (.Name "Reading" p) [.Starred e sp_] [] pos) (tStarR K E te) := by
  subst eK eM
  exact (EM.pe_mkS1 (E := E) T.mk_Reading (ok_Reading_init T) hr T.g_Reading hx he.mc hg (by decide) hst).of fun σ H Q q => ⟨_, q, fun v H1 ⟨a, xs, e, hs, ⟨h⟩⟩ => ⟨a, xs, e, hs, fun x dx hx hdx ndx => by
    rw [List.append_nil]
    exact mk_ReadX h x dx hx hdx ndx⟩⟩
theorem bod_Reading_of (T : Tx K mg) (f : Addr) : Bod P w K mg base ["cls", "edges"] "Reading.of" (defScope s_Reading_of) f (defBody s_Reading_of) 11 (spOfR K) := by
  intro cdv A outer s H vs Q E hr h
  obtain ⟨T0, p, l, a, n, c, xs, es, rfl, B0, sq, hN, ho, hl, k⟩ := h
  refine ⟨_, (PSs.nox (pss_cons (ps_if (pt_not (pt_val (pe_callB (callR_sw EM.call_isSeq) (by rfl) T.f_isinstance (by decide +kernel) (pa_cons (pv 1) (pa_cons (EM.pe_tupN (pa_cons (pe_bltn (v := .ty "list") (by rfl) T.f_list boot_list rfl) (pa_cons (pe_bltn (v := .ty "tuple") (by rfl) T.f_tuple boot_tuple rfl) pa_nil))) pa_nil)))))
  (pss_one ps_never) pss_nil)
 (pss_one (ps_ret (pe_mkRS T (hr.mono (by decide)) passL (pv 1)))))), ?_⟩
  rcases sq with sq | sq
  · repeat' array_mem_dec
    rename_i tp H1 x1 B1 a1 n1
    refine ⟨.inr (SqL.of (sq.ext x1).at_), ⟨⟨T0, p, l, n, es, B1, hN.ext x1, ho, hl, fun r q H2 x2 B2 rd fr => k r q H2 (x1.trans x2) B2 rd (fr.back x1)⟩⟩⟩
  · repeat' array_mem_dec
    rename_i tp H1 x1 B1 a1 n1
    refine ⟨.inl (SqT.of (sq.ext x1).at_), ⟨⟨T0, p, l, n, es, B1, hN.ext x1, ho, hl, fun r q H2 x2 B2 rd fr => k r q H2 (x1.trans x2) B2 rd (fr.back x1)⟩⟩⟩
theorem len_ofR : ∀ vs H Q E, spOfR K vs H Q E → vs.length = ["cls", "edges"].length := by
  rintro vs H Q E ⟨T0, p, l, a, n, c, xs, es, rfl, _⟩
  rfl
theorem ok_Reading_of (T : Tx K mg) : FnR P w K mg base (L2.CX P w) 12 (He5.wf K (He.ga K "Reading") "classmethod" "of") (spOfR K) := by
  obtain ⟨fd, F⟩ := T.d_Reading_of
  exact EM.fnr F sc_Reading_of (fun _ _ _ _ _ _ us hl => match us, hl with | [_, _], _ => rfl) len_ofR (bod_Reading_of T _)
theorem mk_redges (T : Tx K mg) : ∃ fd, FnOk P w K mg base (L2.CX P w) 1 (EM.pf K (He.ga K "Reading") "edges") fd ["self"] (spRdEdges K) ∧ Binds K fd ["self"] [] := by
  obtain ⟨fd, F⟩ := T.d_Reading_edges
  refine ⟨fd, FunD.ok (CX := L2.CX P w) F sc_Reading_edges (fun vs H Q E h => ?_) (fun cdv A outer s H vs Q E hr h => ?_), F.bindsN (fun _ _ _ _ _ _ us hl => match us, hl with | [_], _ => rfl)⟩
  · obtain ⟨p, r, q, es, rfl, _⟩ := h
    rfl
  · obtain ⟨p, r, q, es, rfl, ⟨dx, xs, h1, h2, h3⟩, k⟩ := h
    refine ⟨_, (PSs.nox (pss_one (ps_ret (pe_fld (pv 0) rfl)))), ?_⟩
    exact ⟨_, rfl, r, _, dx, _, _, rfl, h1.at_, T.cl_Reading, T.na_Reading_own_edges, rfl, k⟩
theorem pe_redges {K : PySem.W.Frag} {mg : Str → Option Value} (T : Tx K mg) {X : Cx} {e : Expr} {te : TE} {pos : Pos} (hr : Room 2 X.A) (he : PE X e te) (hab : attributeBase e "edges" X.env (eval e X.env) = eval e X.env := by rfl) (eK : X.K = K := by rfl) (eM : X.mg = mg := by rfl) : PE X (.Attribute e "edges" pos) (tRdg K te) := by
  subst eK eM
  obtain ⟨fd, F, b⟩ := mk_redges (P := X.prog) (w := X.w) (base := X.base) T
  exact (pe_prop (E := E0) he.mc T.cl_Reading T.p_Reading_edges F hr b .nil passL hab).of fun σ H Q q => ⟨_, q, fun x H1 ⟨⟨p, r, q, es, e, m, k⟩⟩ => by
    subst e
    obtain ⟨dx, xs, h1, h2, h3⟩ := id m
    exact ⟨r, dx, _, rfl, h1.at_, p, r, q, es, rfl, m, k⟩⟩
end
end K41
namespace K41
open PySem PySem.Spec PyProof.Rows L2 EM
def spMovedR (K : PySem.W.Frag) : Sp := fun vs H Q _ => ∃ (T : List (Addr × Str)) (p l q s : Addr) (n : Nat) (xs : List V) (es : List (Int × Int)) (b : Int × Int), vs = [.ref q, .ref s] ∧ Bs T p l n H ∧ At p H q (.tup xs) ∧ RatsP K p H xs es ∧ RatP K p H s b.1 b.2 ∧ Low b.1 b.2 ∧ Bt 2000 b.1 ∧ Bt 2000 b.2 ∧ (∀ e ∈ es, Low e.1 e.2 ∧ Bt 2000 e.1 ∧ Bt 2000 e.2) ∧ es.length ≤ 1000 ∧
  ∀ q' ys H', Ext p H H' → Bs T p l n H' → At p H' q' (.tup ys) → RatsP K p H' ys (es.map (addF b)) → Q (.ref q') H'
def negF (e : Int × Int) : Int × Int := (-e.1, e.2)
def spStretchG (K : PySem.W.Frag) : Sp := fun vs H Q _ => ∃ (T : List (Addr × Str)) (p l q : Addr) (n : Nat) (xs : List V) (es : List (Int × Int)) (v : V) (t b : Int), vs = [.ref q, v] ∧ Bs T p l n H ∧ At p H q (.tup xs) ∧ RatsP K p H xs es ∧ NumP K p H v t b ∧ Bt 2000 t ∧ Bt 2000 b ∧ (∀ e ∈ es, Low e.1 e.2 ∧ Bt 2000 e.1 ∧ Bt 2000 e.2) ∧ es.length ≤ 1000 ∧
  0 < t ∧ ∀ q' ys H', Ext p H H' → Bs T p l n H' → At p H' q' (.tup ys) → RatsP K p H' ys (es.map (mulF (t, b))) → Q (.ref q') H'
/-- moved in place -/
def spMvI (K : PySem.W.Frag) : Sp := fun vs H Q _ => ∃ (T : List (Addr × Str)) (p l r q : Addr) (n : Nat) (es : List (Int × Int)) (v : V) (t b : Int), vs = [.ref r, v] ∧ Bs T p l n H ∧ RdP K p H r q es ∧ RowOk 2000 es ∧ okLen es.length ∧ NumP K p H v t b ∧ Bt 2000 t ∧ Bt 2000 b ∧
  ∀ q' H', XtR p r H H' → Bs T p l n H' → RdP K p H' r q' (es.map (addF (t, b))) → Q (.ref r) H'
/-- stretched in place -/
def spStI (K : PySem.W.Frag) : Sp := fun vs H Q _ => ∃ (T : List (Addr × Str)) (p l r q : Addr) (n : Nat) (es : List (Int × Int)) (v : V) (t b : Int), vs = [.ref r, v] ∧ Bs T p l n H ∧ RdP K p H r q es ∧ RowOk 2000 es ∧ okLen es.length ∧ NumP K p H v t b ∧ Bt 2000 t ∧ Bt 2000 b ∧
  0 < t ∧ ∀ q' H', XtR p r H H' → Bs T p l n H' → RdP K p H' r q' (es.map (mulF (t, b))) → Q (.ref r) H'
def spLenR (K : PySem.W.Frag) : Sp := fun vs H Q _ => ∃ (p r q : Addr) (es : List (Int × Int)), vs = [.ref r] ∧ RdP K p H r q es ∧ Q (.int es.length) H
def spNeedE0 : Sp := fun vs H Q _ => ∃ (i m : Nat), vs = [.int i, .int m] ∧ i < m ∧ Q .non H
theorem needE_bs {i m : Nat} {H : Hp} {Q : VK} {E : XK} (h : i < m) (k : Q .non H) : Sw spNeedE0 [.int i, .int m] H Q E := ⟨⟨i, m, rfl, h, k⟩⟩
/-- the last edge is set -/
def spSetL (K : PySem.W.Frag) : Sp := fun vs H Q _ => ∃ (T : List (Addr × Str)) (p l r q : Addr) (n i : Nat) (es : List (Int × Int)) (v : V) (t b : Int), vs = [.ref r, .int i, v] ∧ Bs T p l n H ∧ RdP K p H r q es ∧ RowOk 2000 es ∧ es.length ≤ 128 ∧ 0 < i ∧ i + 1 = es.length ∧ NumP K p H v t b ∧ Bt 2000 t ∧ Bt 2000 b ∧
  (∀ e, es[i - 1]? = some e → e.1 * b < t * e.2) ∧ ∀ q' H', XtR p r H H' → Bs T p l n H' → RdP K p H' r q' (es.set i (t, b)) → Q .non H'
local macro_rules | `(tactic| sizeOf_list_dec) => `(tactic| first
  | with_reducible assumption
  | ((with_reducible apply EM.At.ext); (focus (with_reducible assumption)); (focus sizeOf_list_dec))
  | ((with_reducible apply EM.RatP.ext); (focus (with_reducible assumption)); (focus sizeOf_list_dec))
  | ((with_reducible apply EM.NumP.ext); (focus (with_reducible assumption)); (focus sizeOf_list_dec))
  | (with_reducible exact EM.Ext.refl)
  | ((with_reducible apply EM.Ext.back); (focus (with_reducible assumption)); (focus sizeOf_list_dec))
  | exact EM.NumP.int _
  | ((with_reducible apply EM.Mu.at_k); (focus (with_reducible assumption)); (focus sizeOf_list_dec); (focus sizeOf_list_dec); (focus (intro _ z; cases z; done)))
  | ((with_reducible apply EM.Mu.at_n); (focus (with_reducible assumption)); (focus sizeOf_list_dec); (focus (first | with_reducible assumption | ((apply EM.nn1); (focus (with_reducible assumption)); (focus sizeOf_list_dec)) | ((apply EM.nn2); (focus (with_reducible assumption)); (focus sizeOf_list_dec)))))
  | ((with_reducible apply EM.Mu.here); (focus (with_reducible assumption)); (focus sizeOf_list_dec))
  | ((with_reducible apply EM.Mu.rat); (focus (with_reducible assumption)); (focus sizeOf_list_dec); (focus sizeOf_list_dec))
  | ((with_reducible apply EM.Mu.num); (focus (with_reducible assumption)); (focus sizeOf_list_dec); (focus sizeOf_list_dec))
  | ((with_reducible apply EM.num_of_rat); (focus sizeOf_list_dec); (focus (first | with_reducible assumption | (apply EM.n_low; assumption))))
  | ((with_reducible apply EM.RatsP.xt); (focus (with_reducible assumption)); (focus sizeOf_list_dec))
  | ((with_reducible apply EM.NumsP.xt); (focus (with_reducible assumption)); (focus sizeOf_list_dec))
  | ((with_reducible apply EM.PairsP.xt); (focus (with_reducible assumption)); (focus sizeOf_list_dec))
  | ((with_reducible apply EM.RdP.xt); (focus (with_reducible assumption)); (focus sizeOf_list_dec))
  | ((with_reducible apply EM.Mu.rats); (focus (with_reducible assumption)); (focus sizeOf_list_dec); (focus sizeOf_list_dec))
  | ((with_reducible apply EM.Mu.pairs); (focus (with_reducible assumption)); (focus sizeOf_list_dec); (focus sizeOf_list_dec))
  | ((with_reducible apply EM.Mu.rdp); (focus (with_reducible assumption)); (focus sizeOf_list_dec); (focus sizeOf_list_dec))
  | ((with_reducible apply EM.SeqV.xt); (focus (with_reducible assumption)); (focus sizeOf_list_dec)))
local macro_rules | `(tactic| decreasing_trivial_pre_omega) => `(tactic| first
  | with_reducible assumption
  | exact EM.Bt.mono (by with_reducible assumption) (by decide)
  | exact EM.Bt.lit _ _ (by decide +kernel)
  | ((with_reducible refine EM.Bt.rng32 ?_ ?_) <;> omega)
  | ((with_reducible refine EM.Bt.rng70 ?_ ?_) <;> omega)
  | ((with_reducible refine EM.Bt.rng200 ?_ ?_) <;> omega)
  | ((with_reducible apply EM.Bt.mulM); (focus decreasing_trivial_pre_omega); (focus decreasing_trivial_pre_omega); (focus (first | decide | exact Nat.le_refl _)))
  | ((with_reducible apply EM.Bt.addM); (focus decreasing_trivial_pre_omega); (focus decreasing_trivial_pre_omega); (focus (first | decide | exact Nat.le_refl _)))
  | ((with_reducible apply EM.Bt.subM); (focus decreasing_trivial_pre_omega); (focus decreasing_trivial_pre_omega); (focus (first | decide | exact Nat.le_refl _)))
  | ((with_reducible apply EM.Bt.topL); (focus decreasing_trivial_pre_omega); (focus assumption); (focus (first | decide | exact Nat.le_refl _)))
  | ((with_reducible apply EM.Bt.botL); (focus decreasing_trivial_pre_omega); (focus assumption); (focus (first | decide | exact Nat.le_refl _)))
  | ((with_reducible apply EM.Bt.divM); (focus decreasing_trivial_pre_omega); (focus assumption); (focus (first | decide | exact Nat.le_refl _)))
  | ((with_reducible apply EM.Bt.negM); (focus decreasing_trivial_pre_omega); (focus (first | decide | exact Nat.le_refl _))))
local macro_rules | `(tactic| array_get_dec) => `(tactic| first
  | with_reducible assumption
  | ((with_reducible refine EM.gEq ?_); exact rfl)
  | ((with_reducible refine EM.gTru ?_); exact rfl)
  | ((with_reducible refine EM.gRef ?_); first | exact Or.inl ⟨_, rfl⟩ | exact Or.inr ⟨_, rfl⟩)
  | ((with_reducible apply EM.At.get); sizeOf_list_dec)
  | ((with_reducible apply EM.At.sqL); sizeOf_list_dec)
  | ((with_reducible apply EM.At.sqT); sizeOf_list_dec)
  | ((with_reducible apply EM.RatP.getK); (focus sizeOf_list_dec); (focus (exact rfl)))
  | (with_reducible exact EM.Num.int _)
  | ((with_reducible apply EM.NumP.getK); (focus sizeOf_list_dec); (focus (exact rfl)))
  | ((with_reducible apply EM.At.ext); (focus (with_reducible assumption)); (focus sizeOf_list_dec))
  | ((with_reducible apply EM.RatP.ext); (focus (with_reducible assumption)); (focus sizeOf_list_dec))
  | ((with_reducible apply EM.NumP.ext); (focus (with_reducible assumption)); (focus sizeOf_list_dec))
  | with_reducible exact Tx.cl_Ratio (by assumption)
  | with_reducible exact Tx.cl_Reading (by assumption)
  | with_reducible exact Tx.cl_Duel (by assumption)
  | with_reducible exact Tx.na_Ratio_top (by assumption)
  | with_reducible exact Tx.na_Ratio_bottom (by assumption)
  | with_reducible exact Tx.na_Reading_own_edges (by assumption)
  | with_reducible exact Tx.na_Duel_weights (by assumption)
  | with_reducible exact Tx.na_Duel_level (by assumption)
  | ((with_reducible refine EM.gAt ?_); sizeOf_list_dec)
  | ((with_reducible refine EM.gRat ?_); sizeOf_list_dec)
  | ((with_reducible refine EM.gNum ?_); sizeOf_list_dec)
  | ((with_reducible apply EM.TwoP.mk); (focus (with_reducible assumption)); (focus sizeOf_list_dec); (focus (first | with_reducible assumption | (apply EM.n_low; assumption))); (focus sizeOf_list_dec); (focus decreasing_trivial_pre_omega); (focus decreasing_trivial_pre_omega); (focus decreasing_trivial_pre_omega); (focus decreasing_trivial_pre_omega))
  | (with_reducible exact EM.Ext.refl)
  | ((with_reducible apply EM.Ext.back); (focus (with_reducible assumption)); (focus sizeOf_list_dec))
  | ((with_reducible apply EM.Bs.mono); (focus (with_reducible assumption)); omega)
  | ((with_reducible refine EM.gN ?_); first | decide | omega | exact Nat.le_of_ble_eq_true rfl | (simp only [List.length_cons, List.length_nil, List.length_append]; omega))
  | ((with_reducible refine EM.gM ?_); first | decide | omega | exact Nat.le_of_ble_eq_true rfl)
  | ((with_reducible refine EM.gI ?_); first | decide | omega)
  | ((with_reducible refine EM.gJ ?_); first | decide | omega)
  | ((with_reducible refine EM.gE ?_); first | decide | omega)
  | ((with_reducible refine EM.gB ?_); decreasing_trivial_pre_omega)
  | ((with_reducible apply EM.wideM); (focus decreasing_trivial_pre_omega); (focus decreasing_trivial_pre_omega); (focus decide)))
local macro_rules | `(tactic| infer_instance) => `(tactic| first
  | with_reducible assumption
  | exact DpAll.nil
  | (apply DpAll.cons; (focus infer_instance); (focus infer_instance))
  | with_reducible exact Dp.int _
  | exact Dp.int _
  | with_reducible exact Dp.str _
  | exact Dp.bl _
  | exact Dp.non
  | ((with_reducible apply EM.dp_lst); (focus array_get_dec); (focus infer_instance))
  | ((with_reducible apply EM.dp_tup); (focus array_get_dec); (focus infer_instance))
  | exact EM.dp_ints _)
local macro_rules | `(tactic| nofun) => `(tactic| first
  | with_reducible assumption
  | exact EM.FeL.nil
  | exact EM.FdL.nil
  | (apply EM.FeL.cons; (focus nofun); (focus nofun))
  | (apply EM.FdL.cons; (focus nofun); (focus nofun))
  | exact EM.Fe.int _
  | exact EM.Fe.bool _
  | exact EM.Fe.non
  | exact EM.Fe.str (EM.okS_of _)
  | (apply EM.Fe.str; apply EM.Fd.ok; (focus nofun))
  | (apply EM.Fe.list; (focus nofun))
  | (apply EM.Fe.tup; (focus nofun))
  | (apply EM.Fd.int; (focus decreasing_trivial_pre_omega))
  | exact EM.Fd.bool _
  | exact EM.Fd.non
  | (refine EM.Fd.bool _)
  | (apply EM.Fd.list; (focus nofun))
  | (apply EM.Fd.tup; (focus nofun)))
local macro_rules | `(tactic| array_mem_dec) => `(tactic| ((with_reducible refine EM.pr ?_); first
  | (with_reducible refine L2.iteT ?_)
  | (with_reducible refine L2.iteF ?_)
  | (with_reducible refine EM.ifNotT ?_)
  | (with_reducible refine EM.ifNotF ?_)
  | ((fail_if_success (with_reducible refine EM.gIf ?_)); first
  | array_get_dec
  | (refine EM.mk_low (by with_reducible assumption) (by with_reducible assumption) ?_ ?_; (focus array_get_dec))
  | (apply EM.isNum_sw; (focus sizeOf_list_dec))
  | (apply EM.of_sw; (focus (with_reducible assumption)); (focus sizeOf_list_dec))
  | (apply EM.neg_bs; (focus (with_reducible assumption)); (focus sizeOf_list_dec); (focus array_get_dec); (focus array_get_dec))
  | (apply EM.relw_bs; (focus (with_reducible assumption)); (focus sizeOf_list_dec); (focus sizeOf_list_dec); (focus array_get_dec); (focus decreasing_trivial_pre_omega); (focus decreasing_trivial_pre_omega); (focus decreasing_trivial_pre_omega); (focus decreasing_trivial_pre_omega))
  | ((apply EM.DnS.bs); (focus (with_reducible assumption)); (focus (intro _ z; cases z; done)))
  | ((apply EM.seqL); (focus sizeOf_list_dec))
  | ((apply EM.seqT); (focus sizeOf_list_dec))
  | ((apply EM.lenL); (focus sizeOf_list_dec))
  | ((apply EM.lenT); (focus sizeOf_list_dec))
  | ((apply EM.isSeqL); (focus sizeOf_list_dec); (focus sizeOf_list_dec))
  | ((apply EM.isSeqT); (focus sizeOf_list_dec); (focus sizeOf_list_dec))
  | ((apply EM.tupL); (focus sizeOf_list_dec))
  | ((apply EM.fld_bs); (focus sizeOf_list_dec); (focus (first | exact Tx.cl_Reading (by assumption) | exact Tx.cl_Duel (by assumption))); (focus (first | exact Tx.na_Reading_own_edges (by assumption) | exact Tx.na_Duel_weights (by assumption) | exact Tx.na_Duel_level (by assumption))); (focus (exact rfl)))
  | ((apply EM.seqS); (focus sizeOf_list_dec))
  | ((apply EM.enS); (focus sizeOf_list_dec))
  | ((apply EM.lenS); (focus sizeOf_list_dec))
  | ((apply EM.isSeqS); (focus sizeOf_list_dec); (focus sizeOf_list_dec))
  | ((apply EM.lstS); (focus sizeOf_list_dec))
  | ((apply EM.sumS); (focus sizeOf_list_dec))
  | ((apply EM.tupSL); (focus sizeOf_list_dec))
  | ((apply EM.tupST); (focus sizeOf_list_dec))
  | ((with_reducible refine EM.New.bs (by with_reducible assumption) ?_ ?_); (focus (intro _ z; cases z; done)))
  | ((with_reducible refine EM.gMu ?_); (with_reducible apply EM.mu_bs); (focus (with_reducible assumption)); (focus sizeOf_list_dec); (focus (apply EM.nel2; (focus (with_reducible assumption)); (focus (with_reducible assumption)))); intro _ _ _)
  | intro _
  | (apply And.intro; (focus array_get_dec))
  | apply Exists.intro
  | (refine EM.draw_bs (by with_reducible assumption) ?_ ?_ ?_ ?_; (focus array_get_dec); (focus array_get_dec); (focus (first | decide | omega)))
  | (apply EM.pick_bs; (focus (with_reducible assumption)); (focus array_get_dec); (focus sizeOf_list_dec); (focus (exact Nat.le_of_ble_eq_true rfl)); (focus (exact Nat.le_of_ble_eq_true rfl)))
  | ((apply EM.repr_sw); (focus infer_instance); (focus nofun); (focus decide))
  | ((apply EM.eqd_same); (focus infer_instance); (focus infer_instance); (focus nofun); (focus decide))
  | ((apply EM.ned_same); (focus infer_instance); (focus infer_instance); (focus nofun); (focus decide))
  | ((apply EM.eqd_sw); (focus infer_instance); (focus infer_instance); (focus nofun); (focus nofun); (focus decide))
  | ((apply EM.ned_sw); (focus infer_instance); (focus infer_instance); (focus nofun); (focus nofun); (focus decide))
  | (refine EM.cut_bs (by with_reducible assumption) ?_ ?_ ?_; (focus array_get_dec); (focus array_get_dec)))))
section
variable {P : Program} {w : World} {K : PySem.W.Frag} {mg : Str → Option Value} {base : Heap}
theorem ok_moved (T : Tx K mg) : FnR P w K mg base (L2.CX P w) 7 (He.ga K "moved") (spMovedR K) := by
  obtain ⟨fd, F⟩ := T.d_moved
  refine EM.fnr F sc_moved (fun _ _ _ _ _ _ us hl => match us, hl with | [_, _], _ => rfl) (fun vs H Q E h => ?_) (fun cdv A outer s H vs Q E hr h => ?_)
  · obtain ⟨T0, p, l, q, s, n, xs, es, b, rfl, _⟩ := h
    rfl
  · obtain ⟨T0, p, l, q, s, n, xs, es, b, rfl, B0, aq, rr, rs, lb, bb1, bb2, hb, hl, k⟩ := h
    have hx := rr.len
    refine ⟨_, (PSs.nox (pss_one (ps_ret (pe_callTy EM.call_tupN (by rfl) T.f_tuple (by decide +kernel) (pa_cons (EM.lcN (pe_lc (own := [("edge", 2)]) (g := gName 2) (te := mcE (tOp (rNumN K (fun t b u c => t * c + u * b) (fun _ b _ c => b * c)) (tVar 2) (tVar 1))) rfl sc_moved.nd (EM.pi_seqN (pv 0)).mc (blkOk_by (N := ["edges", "step", "edge"]) (sc := defScope s_moved) (by decide +kernel)) (fun _ _ _ _ _ => (pg_name (i := 2) sc_moved.nd rfl (Or.inl rfl))) (fun _ _ _ _ _ => pts_nil) (fun _ _ _ _ _ => (PE.mc (pe_op (op_addN_ T (hr.mono (by decide))) (pv 2) (pv 1)))))) pa_nil))))), ?_⟩
    repeat' array_mem_dec
    rename_i J wk
    refine LcS.lc 0 wk B0 (fun j y H' => Hold (∃ e a, (es.map (addF b))[j]? = some e ∧ y = .ref a ∧ RatP K p H' a e.1 e.2)) (by omega) (fun H' x => aq.eq x) ?_ ?_ (fun j y Ha Hb ⟨⟨e, a, e1, e2, e3⟩⟩ x => ⟨⟨e, a, e1, e2, e3.ext x⟩⟩) (fun j y D xs ys Ha Hb ⟨⟨e, a, e1, e2, e3⟩⟩ m g => ⟨⟨e, a, e1, e2, m.rat e3 g⟩⟩)
    · rintro j y K2 K3 hk y2 C2 ⟨rfl, hv⟩
      obtain ⟨e, ee⟩ : ∃ e, es[j]? = some e := ⟨_, List.getElem?_eq_getElem (by omega)⟩
      obtain ⟨a, ea, ra⟩ := (rr.ext y2).get ee
      cases (hv.symm.trans ea)
      obtain ⟨l1, b1, b2⟩ := hb e (List.mem_of_getElem? ee)
      have n1 := ra.num l1
      have n2 := (rs.ext y2).num lb
      repeat' array_mem_dec
      refine Rw.bs (x := e.1 * b.2 + b.1 * e.2) (y := e.2 * b.2) C2 fun a2 H4 x4 B4 r4 => ?_
      exact ⟨x4, B4.mono (by omega), ⟨⟨addF b e, a2, by rw [List.getElem?_map, ee]; rfl, rfl, r4⟩⟩⟩
    rintro D ys H1 hD hyl hf x1 B1 aD
    have rats : RatsP K p H1 ys (es.map (addF b)) := ⟨by rw [List.length_map]; omega, fun j x t e1 e2 => by
      obtain ⟨⟨e, a, e3, e4, nv⟩⟩ := hf j x e1
      rw [e2] at e3
      cases e3
      exact ⟨a, e4, nv⟩⟩
    have B1' : Bs T0 p l n H1 := B1.mono (by omega)
    clear B1
    repeat' array_mem_dec
    rename_i q2 H2 x2 B2 a2 n2
    exact k q2 ys H2 (x1.trans x2) B2 a2 (rats.ext x2)
theorem ok_stretched (T : Tx K mg) : FnR P w K mg base (L2.CX P w) 9 (He.ga K "stretched") (spStretchG K) := by
  obtain ⟨fd, F⟩ := T.d_stretched
  refine EM.fnr F sc_stretched (fun _ _ _ _ _ _ us hl => match us, hl with | [_, _], _ => rfl) (fun vs H Q E h => ?_) (fun cdv A outer s H vs Q E hr h => ?_)
  · obtain ⟨T0, p, l, q, n, xs, es, v, t, b, rfl, _⟩ := h
    rfl
  · obtain ⟨T0, p, l, q, n, xs, es, v, t, b, rfl, B0, aq, rr, nv, bt, bb, hb, hl, h0, k⟩ := h
    have hx := rr.len
    have lov := nv.num.1
    refine ⟨_, (PSs.nox (pss_cons (ps_set (i := 2) sc_stretched.nd rfl (Or.inr rfl) (EM.pe_smR (pe_glob (v := .ref (He.ga K "Ratio")) (by rfl) T.g_Ratio rfl) T.cr_Ratio T.sm_Ratio_of ((ok_Ratio_of T).sw) (hr.mono (by decide)) T.k_Ratio_of passL (pa_cons (pv 1) pa_nil)))
 (pss_cons (ps_if (pt_cmpR (op_rLtE T (hr.mono (by decide))) (pv 2) pe_int (nomark _))
  (pss_one ps_never) pss_nil)
 (pss_one (ps_ret (pe_callTy EM.call_tupN (by rfl) T.f_tuple (by decide +kernel) (pa_cons (EM.lcN (pe_lc (own := [("edge", 3)]) (g := gName 3) (te := mcE (tOp (rNumN K (fun t b u c => t * u) (fun _ b _ c => b * c)) (tVar 3) (tVar 2))) rfl sc_stretched.nd (EM.pi_seqN (pv 0)).mc (blkOk_by (N := ["edges", "number", "factor", "edge"]) (sc := defScope s_stretched) (by decide +kernel)) (fun _ _ _ _ _ => (pg_name (i := 3) sc_stretched.nd rfl (Or.inl rfl))) (fun _ _ _ _ _ => pts_nil) (fun _ _ _ _ _ => (PE.mc (pe_op (op_mulN_ T (hr.mono (by decide))) (pv 3) (pv 2)))))) pa_nil))))))), ?_⟩
    repeat' array_mem_dec
    rename_i a1 H0 x0 B00 r1 H1 x2 B1
    have x1 := x0.trans x2
    have n1 : NumP K p H1 (.ref a1) t b := (r1.num lov).ext x2
    have rs := r1.ext x2
    have aq1 := aq.ext x1
    have rr1 := rr.ext x1
    clear r1 x0 x2 B00
    refine ite2 (fun c => ?_) (fun c => ?_)
    · have c2 : t * 1 ≤ 0 * b := of_decide_eq_true c
      omega
    · repeat' array_mem_dec
      rename_i J wk
      refine LcS.lc 0 wk B1 (fun j y H' => Hold (∃ e a, (es.map (mulF (t, b)))[j]? = some e ∧ y = .ref a ∧ RatP K p H' a e.1 e.2)) (by omega) (fun H' x => aq1.eq x) ?_ ?_ (fun j y Ha Hb ⟨⟨e, a, e1, e2, e3⟩⟩ x => ⟨⟨e, a, e1, e2, e3.ext x⟩⟩) (fun j y D xs ys Ha Hb ⟨⟨e, a, e1, e2, e3⟩⟩ m g => ⟨⟨e, a, e1, e2, m.rat e3 g⟩⟩)
      · rintro j y K2 K3 hk y2 C2 ⟨rfl, hv⟩
        obtain ⟨e, ee⟩ : ∃ e, es[j]? = some e := ⟨_, List.getElem?_eq_getElem (by omega)⟩
        obtain ⟨a, ea, ra⟩ := (rr1.ext y2).get ee
        cases (hv.symm.trans ea)
        obtain ⟨l1, b1, b2⟩ := hb e (List.mem_of_getElem? ee)
        have n1' := ra.num l1
        have n2 := (rs.ext y2).num lov
        repeat' array_mem_dec
        refine Rw.bs (x := e.1 * t) (y := e.2 * b) C2 fun a2 H4 x4 B4 r4 => ?_
        exact ⟨x4, B4.mono (by omega), ⟨⟨mulF (t, b) e, a2, by rw [List.getElem?_map, ee]; rfl, rfl, r4⟩⟩⟩
      rintro D ys H2 hD hyl hf x2 B2 aD
      have rats : RatsP K p H2 ys (es.map (mulF (t, b))) := ⟨by rw [List.length_map]; omega, fun j x t e1 e2 => by
        obtain ⟨⟨e, a, e3, e4, nv⟩⟩ := hf j x e1
        rw [e2] at e3
        cases e3
        exact ⟨a, e4, nv⟩⟩
      have B2' : Bs T0 p l n H2 := B2.mono (by omega)
      clear B2
      repeat' array_mem_dec
      rename_i q2 H3 x3 B3 a2 n2
      exact k q2 ys H3 (x1.trans (x2.trans x3)) B3 a2 (rats.ext x3)
theorem ok_Reading_iadd (T : Tx K mg) : FnR P w K mg base (L2.CX P w) 9 (He.ma K (He.ga K "Reading") "__iadd__") (spMvI K) := by
  obtain ⟨fd, F⟩ := T.d_Reading_iadd
  refine EM.fnr F sc_Reading_iadd (fun _ _ _ _ _ _ us hl => match us, hl with | [_, _], _ => rfl) (fun vs H Q E h => ?_) (fun cdv A outer s H vs Q E hr h => ?_)
  · obtain ⟨T0, p, l, r, q, n, es, v, t, b, rfl, _⟩ := h
    rfl
  · obtain ⟨T0, p, l, r, q, n, es, v, t, b, rfl, B0, ⟨dx, xs, h1, h2, h3⟩, ho, hl, nv, bt, bb, k⟩ := h
    refine ⟨_, (PSs.nox (pss_cons (EM.ps_fldN (pv 0) (EM.pe_cR ((ok_moved T).sw) (hr.mono (by decide)) T.k_moved T.g_moved passL (pa_cons (EM.pe_fldN (pv 0)) (pa_cons (EM.pe_smR (pe_glob (v := .ref (He.ga K "Ratio")) (by rfl) T.g_Ratio rfl) T.cr_Ratio T.sm_Ratio_of ((ok_Ratio_of T).sw) (hr.mono (by decide)) T.k_Ratio_of passL (pa_cons (pv 1) pa_nil)) pa_nil))) rfl)
 (pss_one (ps_ret (pv 0))))), ?_⟩
    have hlx := h3.len
    have lov := nv.num.1
    repeat' array_mem_dec
    rename_i a1 H1 x1 B1 r1
    refine ⟨_, _, _, _, _, _, _, _, (t, b), rfl, B1, h2.ext x1, h3.ext x1, r1, lov, bt, bb, fun e m => ⟨ho.low e m, ho.bt e m⟩, by have := hl.2.2; omega, fun q' ys H' x2 B2 a2 r2 => ?_⟩
    have gr := (h1.ext x1).ext x2
    have x12 := x1.trans x2
    clear h1 h2 h3 x1 x2 r1
    repeat' array_mem_dec
    refine ⟨T.cl_Reading, T.na_Reading_own_edges, by show 1 < 1000; decide, fun Hm mm => ?_⟩
    have mm' : Mu r H' Hm (.ins (He.ga K "Reading") dx (rdf q')) := mm
    exact ⟨_, rfl, k q' Hm ((XtR.of x12).trans (XtR.mu mm')) (mm'.bsI B2 gr) (RdP.put mm' gr a2 r2)⟩
theorem ok_Reading_imul (T : Tx K mg) : FnR P w K mg base (L2.CX P w) 11 (He.ma K (He.ga K "Reading") "__imul__") (spStI K) := by
  obtain ⟨fd, F⟩ := T.d_Reading_imul
  refine EM.fnr F sc_Reading_imul (fun _ _ _ _ _ _ us hl => match us, hl with | [_, _], _ => rfl) (fun vs H Q E h => ?_) (fun cdv A outer s H vs Q E hr h => ?_)
  · obtain ⟨T0, p, l, r, q, n, es, v, t, b, rfl, _⟩ := h
    rfl
  · obtain ⟨T0, p, l, r, q, n, es, v, t, b, rfl, B0, ⟨dx, xs, h1, h2, h3⟩, ho, hl, nv, bt, bb, t0, k⟩ := h
    refine ⟨_, (PSs.nox (pss_cons (EM.ps_fldN (pv 0) (EM.pe_cR ((ok_stretched T).sw) (hr.mono (by decide)) T.k_stretched T.g_stretched passL (pa_cons (EM.pe_fldN (pv 0)) (pa_cons (pv 1) pa_nil))) rfl)
 (pss_one (ps_ret (pv 0))))), ?_⟩
    have hlx := h3.len
    repeat' array_mem_dec
    refine ⟨⟨_, _, _, _, _, _, _, _, t, b, rfl, B0, h2, h3, nv, bt, bb, fun e m => ⟨ho.low e m, ho.bt e m⟩, by have := hl.2.2; omega, t0, fun q' ys H' x2 B2 a2 r2 => ?_⟩⟩
    have gr := h1.ext x2
    clear h1 h2 h3
    repeat' array_mem_dec
    refine ⟨T.cl_Reading, T.na_Reading_own_edges, by show 1 < 1000; decide, fun Hm mm => ?_⟩
    have mm' : Mu r H' Hm (.ins (He.ga K "Reading") dx (rdf q')) := mm
    exact ⟨_, rfl, k q' Hm ((XtR.of x2).trans (XtR.mu mm')) (mm'.bsI B2 gr) (RdP.put mm' gr a2 r2)⟩
theorem ok_Reading_len (T : Tx K mg) : FnR P w K mg base (L2.CX P w) 1 (He.ma K (He.ga K "Reading") "__len__") (spLenR K) := by
  obtain ⟨fd, F⟩ := T.d_Reading_len
  refine EM.fnr F sc_Reading_len (fun _ _ _ _ _ _ us hl => match us, hl with | [_], _ => rfl) (fun vs H Q E h => ?_) (fun cdv A outer s H vs Q E hr h => ?_)
  · obtain ⟨p, r, q, es, rfl, _⟩ := h
    rfl
  · obtain ⟨p, r, q, es, rfl, ⟨dx, xs, h1, h2, h3⟩, k⟩ := h
    rw [← h3.len] at k
    refine ⟨_, (PSs.nox (pss_one (ps_ret (pe_callB EM.call_lenN (by rfl) T.f_len boot_len (pa_cons (EM.pe_fldN (pv 0)) pa_nil))))), ?_⟩
    repeat' array_mem_dec
end
end K41
namespace K41
open PySem PySem.Spec PyProof.Rows L2 EM
local macro_rules | `(tactic| sizeOf_list_dec) => `(tactic| first
  | with_reducible assumption
  | ((with_reducible apply EM.At.ext); (focus (with_reducible assumption)); (focus sizeOf_list_dec))
  | ((with_reducible apply EM.RatP.ext); (focus (with_reducible assumption)); (focus sizeOf_list_dec))
  | ((with_reducible apply EM.NumP.ext); (focus (with_reducible assumption)); (focus sizeOf_list_dec))
  | (with_reducible exact EM.Ext.refl)
  | ((with_reducible apply EM.Ext.back); (focus (with_reducible assumption)); (focus sizeOf_list_dec))
  | exact EM.NumP.int _
  | ((with_reducible apply EM.Mu.at_k); (focus (with_reducible assumption)); (focus sizeOf_list_dec); (focus sizeOf_list_dec); (focus (intro _ z; cases z; done)))
  | ((with_reducible apply EM.Mu.at_n); (focus (with_reducible assumption)); (focus sizeOf_list_dec); (focus (first | with_reducible assumption | ((apply EM.nn1); (focus (with_reducible assumption)); (focus sizeOf_list_dec)) | ((apply EM.nn2); (focus (with_reducible assumption)); (focus sizeOf_list_dec)))))
  | ((with_reducible apply EM.Mu.here); (focus (with_reducible assumption)); (focus sizeOf_list_dec))
  | ((with_reducible apply EM.Mu.rat); (focus (with_reducible assumption)); (focus sizeOf_list_dec); (focus sizeOf_list_dec))
  | ((with_reducible apply EM.Mu.num); (focus (with_reducible assumption)); (focus sizeOf_list_dec); (focus sizeOf_list_dec))
  | ((with_reducible apply EM.num_of_rat); (focus sizeOf_list_dec); (focus (first | with_reducible assumption | (apply EM.n_low; assumption))))
  | ((with_reducible apply EM.RatsP.xt); (focus (with_reducible assumption)); (focus sizeOf_list_dec))
  | ((with_reducible apply EM.NumsP.xt); (focus (with_reducible assumption)); (focus sizeOf_list_dec))
  | ((with_reducible apply EM.PairsP.xt); (focus (with_reducible assumption)); (focus sizeOf_list_dec))
  | ((with_reducible apply EM.RdP.xt); (focus (with_reducible assumption)); (focus sizeOf_list_dec))
  | ((with_reducible apply EM.Mu.rats); (focus (with_reducible assumption)); (focus sizeOf_list_dec); (focus sizeOf_list_dec))
  | ((with_reducible apply EM.Mu.pairs); (focus (with_reducible assumption)); (focus sizeOf_list_dec); (focus sizeOf_list_dec))
  | ((with_reducible apply EM.Mu.rdp); (focus (with_reducible assumption)); (focus sizeOf_list_dec); (focus sizeOf_list_dec))
  | ((with_reducible apply EM.SeqV.xt); (focus (with_reducible assumption)); (focus sizeOf_list_dec)))
local macro_rules | `(tactic| decreasing_trivial_pre_omega) => `(tactic| first
  | with_reducible assumption
  | exact EM.Bt.mono (by with_reducible assumption) (by decide)
  | exact EM.Bt.lit _ _ (by decide +kernel)
  | ((with_reducible refine EM.Bt.rng32 ?_ ?_) <;> omega)
  | ((with_reducible refine EM.Bt.rng70 ?_ ?_) <;> omega)
  | ((with_reducible refine EM.Bt.rng200 ?_ ?_) <;> omega)
  | ((with_reducible apply EM.Bt.mulM); (focus decreasing_trivial_pre_omega); (focus decreasing_trivial_pre_omega); (focus (first | decide | exact Nat.le_refl _)))
  | ((with_reducible apply EM.Bt.addM); (focus decreasing_trivial_pre_omega); (focus decreasing_trivial_pre_omega); (focus (first | decide | exact Nat.le_refl _)))
  | ((with_reducible apply EM.Bt.subM); (focus decreasing_trivial_pre_omega); (focus decreasing_trivial_pre_omega); (focus (first | decide | exact Nat.le_refl _)))
  | ((with_reducible apply EM.Bt.topL); (focus decreasing_trivial_pre_omega); (focus assumption); (focus (first | decide | exact Nat.le_refl _)))
  | ((with_reducible apply EM.Bt.botL); (focus decreasing_trivial_pre_omega); (focus assumption); (focus (first | decide | exact Nat.le_refl _)))
  | ((with_reducible apply EM.Bt.divM); (focus decreasing_trivial_pre_omega); (focus assumption); (focus (first | decide | exact Nat.le_refl _)))
  | ((with_reducible apply EM.Bt.negM); (focus decreasing_trivial_pre_omega); (focus (first | decide | exact Nat.le_refl _))))
local macro_rules | `(tactic| array_get_dec) => `(tactic| first
  | with_reducible assumption
  | ((with_reducible refine EM.gEq ?_); exact rfl)
  | ((with_reducible refine EM.gTru ?_); exact rfl)
  | ((with_reducible refine EM.gRef ?_); first | exact Or.inl ⟨_, rfl⟩ | exact Or.inr ⟨_, rfl⟩)
  | ((with_reducible apply EM.At.get); sizeOf_list_dec)
  | ((with_reducible apply EM.At.sqL); sizeOf_list_dec)
  | ((with_reducible apply EM.At.sqT); sizeOf_list_dec)
  | ((with_reducible apply EM.RatP.getK); (focus sizeOf_list_dec); (focus (exact rfl)))
  | (with_reducible exact EM.Num.int _)
  | ((with_reducible apply EM.NumP.getK); (focus sizeOf_list_dec); (focus (exact rfl)))
  | ((with_reducible apply EM.At.ext); (focus (with_reducible assumption)); (focus sizeOf_list_dec))
  | ((with_reducible apply EM.RatP.ext); (focus (with_reducible assumption)); (focus sizeOf_list_dec))
  | ((with_reducible apply EM.NumP.ext); (focus (with_reducible assumption)); (focus sizeOf_list_dec))
  | with_reducible exact Tx.cl_Ratio (by assumption)
  | with_reducible exact Tx.cl_Reading (by assumption)
  | with_reducible exact Tx.cl_Duel (by assumption)
  | with_reducible exact Tx.na_Ratio_top (by assumption)
  | with_reducible exact Tx.na_Ratio_bottom (by assumption)
  | with_reducible exact Tx.na_Reading_own_edges (by assumption)
  | with_reducible exact Tx.na_Duel_weights (by assumption)
  | with_reducible exact Tx.na_Duel_level (by assumption)
  | ((with_reducible refine EM.gAt ?_); sizeOf_list_dec)
  | ((with_reducible refine EM.gRat ?_); sizeOf_list_dec)
  | ((with_reducible refine EM.gNum ?_); sizeOf_list_dec)
  | ((with_reducible apply EM.TwoP.mk); (focus (with_reducible assumption)); (focus sizeOf_list_dec); (focus (first | with_reducible assumption | (apply EM.n_low; assumption))); (focus sizeOf_list_dec); (focus decreasing_trivial_pre_omega); (focus decreasing_trivial_pre_omega); (focus decreasing_trivial_pre_omega); (focus decreasing_trivial_pre_omega))
  | (with_reducible exact EM.Ext.refl)
  | ((with_reducible apply EM.Ext.back); (focus (with_reducible assumption)); (focus sizeOf_list_dec))
  | ((with_reducible apply EM.Bs.mono); (focus (with_reducible assumption)); omega)
  | ((with_reducible refine EM.gN ?_); first | decide | omega | exact Nat.le_of_ble_eq_true rfl | (simp only [List.length_cons, List.length_nil, List.length_append]; omega))
  | ((with_reducible refine EM.gM ?_); first | decide | omega | exact Nat.le_of_ble_eq_true rfl)
  | ((with_reducible refine EM.gI ?_); first | decide | omega)
  | ((with_reducible refine EM.gJ ?_); first | decide | omega)
  | ((with_reducible refine EM.gE ?_); first | decide | omega)
  | ((with_reducible refine EM.gB ?_); decreasing_trivial_pre_omega)
  | ((with_reducible apply EM.wideM); (focus decreasing_trivial_pre_omega); (focus decreasing_trivial_pre_omega); (focus decide)))
local macro_rules | `(tactic| infer_instance) => `(tactic| first
  | with_reducible assumption
  | exact DpAll.nil
  | (apply DpAll.cons; (focus infer_instance); (focus infer_instance))
  | with_reducible exact Dp.int _
  | exact Dp.int _
  | with_reducible exact Dp.str _
  | exact Dp.bl _
  | exact Dp.non
  | ((with_reducible apply EM.dp_lst); (focus array_get_dec); (focus infer_instance))
  | ((with_reducible apply EM.dp_tup); (focus array_get_dec); (focus infer_instance))
  | exact EM.dp_ints _)
local macro_rules | `(tactic| nofun) => `(tactic| first
  | with_reducible assumption
  | exact EM.FeL.nil
  | exact EM.FdL.nil
  | (apply EM.FeL.cons; (focus nofun); (focus nofun))
  | (apply EM.FdL.cons; (focus nofun); (focus nofun))
  | exact EM.Fe.int _
  | exact EM.Fe.bool _
  | exact EM.Fe.non
  | exact EM.Fe.str (EM.okS_of _)
  | (apply EM.Fe.str; apply EM.Fd.ok; (focus nofun))
  | (apply EM.Fe.list; (focus nofun))
  | (apply EM.Fe.tup; (focus nofun))
  | (apply EM.Fd.int; (focus decreasing_trivial_pre_omega))
  | exact EM.Fd.bool _
  | exact EM.Fd.non
  | (refine EM.Fd.bool _)
  | (apply EM.Fd.list; (focus nofun))
  | (apply EM.Fd.tup; (focus nofun)))
local macro_rules | `(tactic| array_mem_dec) => `(tactic| ((with_reducible refine EM.pr ?_); first
  | (with_reducible refine L2.iteT ?_)
  | (with_reducible refine L2.iteF ?_)
  | (with_reducible refine EM.ifNotT ?_)
  | (with_reducible refine EM.ifNotF ?_)
  | ((fail_if_success (with_reducible refine EM.gIf ?_)); first
  | array_get_dec
  | (refine EM.mk_low (by with_reducible assumption) (by with_reducible assumption) ?_ ?_; (focus array_get_dec))
  | (apply EM.isNum_sw; (focus sizeOf_list_dec))
  | (apply EM.of_sw; (focus (with_reducible assumption)); (focus sizeOf_list_dec))
  | (apply EM.neg_bs; (focus (with_reducible assumption)); (focus sizeOf_list_dec); (focus array_get_dec); (focus array_get_dec))
  | (apply EM.relw_bs; (focus (with_reducible assumption)); (focus sizeOf_list_dec); (focus sizeOf_list_dec); (focus array_get_dec); (focus decreasing_trivial_pre_omega); (focus decreasing_trivial_pre_omega); (focus decreasing_trivial_pre_omega); (focus decreasing_trivial_pre_omega))
  | ((apply EM.DnS.bs); (focus (with_reducible assumption)); (focus (intro _ z; cases z; done)))
  | ((apply EM.seqL); (focus sizeOf_list_dec))
  | ((apply EM.seqT); (focus sizeOf_list_dec))
  | ((apply EM.lenL); (focus sizeOf_list_dec))
  | ((apply EM.lenT); (focus sizeOf_list_dec))
  | ((apply EM.isSeqL); (focus sizeOf_list_dec); (focus sizeOf_list_dec))
  | ((apply EM.isSeqT); (focus sizeOf_list_dec); (focus sizeOf_list_dec))
  | ((apply EM.tupL); (focus sizeOf_list_dec))
  | ((apply EM.fld_bs); (focus sizeOf_list_dec); (focus (first | exact Tx.cl_Reading (by assumption) | exact Tx.cl_Duel (by assumption))); (focus (first | exact Tx.na_Reading_own_edges (by assumption) | exact Tx.na_Duel_weights (by assumption) | exact Tx.na_Duel_level (by assumption))); (focus (exact rfl)))
  | ((apply EM.seqS); (focus sizeOf_list_dec))
  | ((apply EM.enS); (focus sizeOf_list_dec))
  | ((apply EM.lenS); (focus sizeOf_list_dec))
  | ((apply EM.isSeqS); (focus sizeOf_list_dec); (focus sizeOf_list_dec))
  | ((apply EM.lstS); (focus sizeOf_list_dec))
  | ((apply EM.sumS); (focus sizeOf_list_dec))
  | ((apply EM.tupSL); (focus sizeOf_list_dec))
  | ((apply EM.tupST); (focus sizeOf_list_dec))
  | ((apply EM.strT); (focus sizeOf_list_dec))
  | ((with_reducible refine EM.New.bs (by with_reducible assumption) ?_ ?_); (focus (intro _ z; cases z; done)))
  | ((with_reducible refine EM.gMu ?_); (with_reducible apply EM.mu_bs); (focus (with_reducible assumption)); (focus sizeOf_list_dec); (focus (apply EM.nel2; (focus (with_reducible assumption)); (focus (with_reducible assumption)))); intro _ _ _)
  | intro _
  | (apply And.intro; (focus array_get_dec))
  | apply Exists.intro
  | (refine EM.draw_bs (by with_reducible assumption) ?_ ?_ ?_ ?_; (focus array_get_dec); (focus array_get_dec); (focus (first | decide | omega)))
  | (apply EM.pick_bs; (focus (with_reducible assumption)); (focus array_get_dec); (focus sizeOf_list_dec); (focus (exact Nat.le_of_ble_eq_true rfl)); (focus (exact Nat.le_of_ble_eq_true rfl)))
  | ((apply EM.repr_sw); (focus infer_instance); (focus nofun); (focus decide))
  | ((apply EM.eqd_same); (focus infer_instance); (focus infer_instance); (focus nofun); (focus decide))
  | ((apply EM.ned_same); (focus infer_instance); (focus infer_instance); (focus nofun); (focus decide))
  | ((apply EM.eqd_sw); (focus infer_instance); (focus infer_instance); (focus nofun); (focus nofun); (focus decide))
  | ((apply EM.ned_sw); (focus infer_instance); (focus infer_instance); (focus nofun); (focus nofun); (focus decide))
  | (refine EM.cut_bs (by with_reducible assumption) ?_ ?_ ?_; (focus array_get_dec); (focus array_get_dec)))))
section
variable {P : Program} {w : World} {K : PySem.W.Frag} {mg : Str → Option Value} {base : Heap}
theorem ok_need_edge (T : Tx K mg) : FnR P w K mg base (L2.CX P w) 3 (He.ga K "need_edge") (spNeedE0) := by
  obtain ⟨fd, F⟩ := T.d_need_edge
  refine EM.fnr F sc_need_edge (fun _ _ _ _ _ _ us hl => match us, hl with | [_, _], _ => rfl) (fun vs H Q E h => ?_) (fun cdv A outer s H vs Q E hr h => ?_)
  · obtain ⟨i, m, rfl, _⟩ := h
    rfl
  · obtain ⟨i, m, rfl, hi, k⟩ := h
    refine ⟨_, (PSs.nox (pss_one (ps_if (PW.pt (pw_or (pt_not (pt_val (pe_callB call_isi (by rfl) T.f_isinstance (by decide +kernel) (pa_cons (pv 0) (pa_cons (pe_bltn (v := .ty "int") (by rfl) T.f_int boot_int rfl) pa_nil))))) (pw_or (pt_val (pe_callB call_isi (by rfl) T.f_isinstance (by decide +kernel) (pa_cons (pv 0) (pa_cons (pe_bltn (v := .ty "bool") (by rfl) T.f_bool boot_bool rfl) pa_nil)))) (pw_or1 (pt_not (pt_chain op_le op_lt pe_int (pv 0) (pv 1)))))))
  (pss_one ps_never) pss_nil))), ?_⟩
    refine ⟨_, rfl, .int i, .ty "int", .type "int", .type "int", true, rfl, .ty "int", .base (.int i), kit_ty (by decide +kernel), true, rfl, EM.ifNotT ?_⟩
    refine ⟨_, rfl, .int i, .ty "bool", .type "int", .type "bool", false, rfl, .ty "bool", .base (.int i), kit_ty (by decide +kernel), false, rfl, iteF ?_⟩
    repeat' array_mem_dec
    refine ifLe (fun c => ?_) (fun c => by omega)
    repeat' array_mem_dec
    refine ifN ?_ ?_
    · show (!decide ((i : Int) < (m : Int))) = false
      rw [decide_eq_true (by omega)]
      rfl
    · exact k
theorem ok_Reading_setitem (T : Tx K mg) : FnR P w K mg base (L2.CX P w) 9 (He.ma K (He.ga K "Reading") "__setitem__") (spSetL K) := by
  obtain ⟨fd, F⟩ := T.d_Reading_setitem
  refine EM.fnr F sc_Reading_setitem (fun _ _ _ _ _ _ us hl => match us, hl with | [_, _, _], _ => rfl) (fun vs H Q E h => ?_) (fun cdv A outer s H vs Q E hr h => ?_)
  · obtain ⟨T0, p, l, r, q, n, i, es, v, t, b, rfl, _⟩ := h
    rfl
  · obtain ⟨T0, p, l, r, q, n, i, es, v, t, b, rfl, B0, ⟨dx, xs, h1, h2, h3⟩, ho, hl, i0, il, nv, bt, bb, h, k⟩ := h
    refine ⟨_, (PSs.nox (pss_cons (ps_expr (EM.pe_cR ((ok_need_edge T).sw) (hr.mono (by decide)) T.k_need_edge T.g_need_edge passL (pa_cons (pv 1) (pa_cons (pe_callB EM.call_lenN (by rfl) T.f_len boot_len (pa_cons (EM.pe_fldN (pv 0)) pa_nil)) pa_nil))))
 (pss_cons (ps_if (pt_not (pt_val (EM.pe_smR (pe_glob (v := .ref (He.ga K "Ratio")) (by rfl) T.g_Ratio rfl) T.cr_Ratio T.sm_Ratio_is_number ((ok_Ratio_is_number T).sw) (hr.mono (by decide)) T.k_Ratio_is_number passL (pa_cons (pv 2) pa_nil))))
  (pss_one ps_never) pss_nil)
 (pss_cons (ps_set (i := 3) sc_Reading_setitem.nd rfl (Or.inl rfl) (EM.pe_smR (pe_glob (v := .ref (He.ga K "Ratio")) (by rfl) T.g_Ratio rfl) T.cr_Ratio T.sm_Ratio_of ((ok_Ratio_of T).sw) (hr.mono (by decide)) T.k_Ratio_of passL (pa_cons (pv 2) pa_nil)))
 (pss_cons (ps_if (PW.pt (pw_and (pt_cmpR op_gt (pv 1) pe_int (nomark _)) (pw_and1 (pt_cmpR (op_rLtE T (hr.mono (by decide))) (pv 3) (pe_ix ix_tup (EM.pe_fldN (pv 0)) (pe_op op_sub (pv 1) pe_int) (fun _ _ => rfl)) (nomark _)))))
  (pss_one ps_never) pss_nil)
 (pss_cons (ps_if (PW.pt (pw_and (pt_cmpR op_lt (pe_op op_add (pv 1) pe_int) (pe_callB EM.call_lenN (by rfl) T.f_len boot_len (pa_cons (EM.pe_fldN (pv 0)) pa_nil)) (nomark _)) (pw_and1 (pt_cmpR (op_rLtE T (hr.mono (by decide))) (pe_ix ix_tup (EM.pe_fldN (pv 0)) (pe_op op_add (pv 1) pe_int) (fun _ _ => rfl)) (pv 3) (nomark _)))))
  (pss_one ps_never) pss_nil)
 (pss_one (EM.ps_fldN (pv 0) (EM.pe_tupN (EM.pa_starN (pe_slice sl_tupN (EM.pe_fldN (pv 0)) po_none (po_some (pv 1))) (pa_cons (pv 3) (EM.pa_starN (pe_slice sl_tupN (EM.pe_fldN (pv 0)) (po_some (pe_op op_add (pv 1) pe_int)) po_none) pa_nil)))) rfl)))))))), ?_⟩
    have hlx := h3.len
    have lov := nv.num.1
    repeat' array_mem_dec
    refine needE_bs (by omega) ?_
    repeat' array_mem_dec
    rename_i a1 H1 x1 B1 r1
    have n1 : NumP K p H1 (.ref a1) t b := r1.num lov
    have g1 := h1.ext x1
    have g2 := h2.ext x1
    have g3 := h3.ext x1
    refine ifLt (a := 0) (b := (i : Int)) (fun c => ?_) (fun c => by omega)
    obtain ⟨e, ee⟩ : ∃ e, es[i - 1]? = some e := ⟨_, List.getElem?_eq_getElem (by omega)⟩
    obtain ⟨c1, ec1, rc1⟩ := g3.get ee
    have m1 := List.mem_of_getElem? ee
    have l1 := ho.low e m1
    obtain ⟨b1, b2⟩ := ho.bt e m1
    have nc1 := rc1.num l1
    have ix1 : atI xs ((i : Int) - 1) = some (.ref c1) := at_of (j := i - 1) (by omega) ec1
    repeat' array_mem_dec
    rename_i H2 x2 B2
    have x02 := x1.trans x2
    have g12 := g1.ext x2
    have g22 := g2.ext x2
    have g32 := g3.ext x2
    have n2 := n1.ext x2
    refine ite2 (fun c2 => ?_) (fun c2 => ?_)
    · have c3 : t * e.2 ≤ e.1 * b := of_decide_eq_true c2
      have := h e ee
      omega
    clear g1 g2 g3 n1 nc1 rc1 ix1 x1 x2
    repeat' array_mem_dec
    refine ifLt (a := (i : Int) + 1) (b := (xs.length : Int)) (fun d1 => by omega) (fun d1 => ?_)
    repeat' array_mem_dec
    refine slT_to g22 (by omega) ?_
    repeat' array_mem_dec
    rename_i s1 Ha xa Ba sa na_
    refine slT_from (j := i + 1) (g22.ext xa) (by omega) (by omega) ?_
    repeat' array_mem_dec
    rename_i s2 Hb xb Bb sb nb_
    have sab := sa.ext xb
    repeat' array_mem_dec
    refine ⟨by simp only [List.length_append, List.length_take, List.length_cons, List.length_drop, List.length_nil]; omega, New.bs Bb (by intro _ z; cases z) fun tq Hc xc Bc tc nc_ => ?_⟩
    repeat' array_mem_dec
    refine ⟨T.cl_Reading, T.na_Reading_own_edges, by show 1 < 1000; decide, fun Hm mm => ?_⟩
    have x3c : Ext p H2 Hc := xa.trans (xb.trans xc)
    have gr := g12.ext x3c
    have eset : xs.set i (.ref a1) = xs.take i ++ ([.ref a1] ++ xs.drop (i + 1)) := set_cut xs i _ (by omega)
    have tc' : At p Hc tq (.tup (xs.set i (.ref a1))) := by
      rw [eset]
      simpa using tc
    have ra : RatP K p Hc a1 t b := (num_l n2).ext x3c
    have rs := (g32.ext x3c).set (i := i) (e := (t, b)) ra
    have mm' : Mu r Hc Hm (.ins (He.ga K "Reading") dx (rdf tq)) := mm
    exact k tq Hm ((XtR.of (x02.trans x3c)).trans (XtR.mu mm')) (mm'.bsI Bc gr) (RdP.put mm' gr tc' rs)
end
end K41
namespace K41
open PySem PySem.Spec PyProof.Rows L2 EM
/-- right weights -/
structure GoodW (ws : List Int) : Prop where
  len : okLen ws.length
  sum : ws.sum = 0
  some : ∃ w ∈ ws, w ≠ 0
theorem sum_neg (ws : List Int) : (ws.map fun w => -w).sum = -ws.sum := by
  induction ws with
  | nil => rfl
  | cons w r ih => rw [List.map_cons, List.sum_cons, List.sum_cons, ih]; omega
theorem GoodW.neg {ws : List Int} (h : GoodW ws) : GoodW (ws.map fun w => -w) := by
  obtain ⟨h1, h2, w, hw, n⟩ := h
  exact ⟨by rw [List.length_map]; exact h1, by rw [sum_neg, h2]; rfl, ⟨-w, List.mem_map.mpr ⟨w, hw, rfl⟩, by omega⟩⟩
structure DuelP (K : PySem.W.Frag) (p : Addr) (H : Hp) (d : Addr) (ws : List Int) (e : Int × Int) : Prop where
  h : ∃ dx q a, At p H d (.ins (He.ga K "Duel") dx [("weights", .ref q), ("level", .ref a)]) ∧ At p H q (.tup (ws.map V.int)) ∧ RatP K p H a e.1 e.2 ∧ Low e.1 e.2
theorem DuelP.ext {K : PySem.W.Frag} {p : Addr} {H H' : Hp} {d : Addr} {ws : List Int} {e : Int × Int} (h : DuelP K p H d ws e) (x : Ext p H H') : DuelP K p H' d ws e := by
  obtain ⟨dx, q, a, h1, h2, h3, h4⟩ := h
  exact ⟨dx, q, a, h1.ext x, h2.ext x, h3.ext x, h4⟩
theorem DuelP.xt {K : PySem.W.Frag} {p : Addr} {H H' : Hp} {d : Addr} {ws : List Int} {e : Int × Int} (x : Ext p H H') (h : DuelP K p H d ws e) : DuelP K p H' d ws e := h.ext x
theorem ints_at {ys : List V} {ws : List Int} (h : ys.length = ws.length) (g : ∀ (i : Nat) (y : V), ys[i]? = some y → ∃ w, ws[i]? = some w ∧ y = .int w) : ys = ws.map V.int := by
  apply List.ext_getElem?
  intro i
  rw [List.getElem?_map]
  rcases Nat.lt_or_ge i ys.length with hi | hi
  · obtain ⟨b, e1, e2⟩ := g i ys[i] (List.getElem?_eq_getElem hi)
    rw [List.getElem?_eq_getElem hi, e1, e2]
    rfl
  · rw [List.getElem?_eq_none hi, List.getElem?_eq_none (by omega)]
    rfl
def spNeedG (K : PySem.W.Frag) : Sp := fun vs H Q _ => ∃ (T : List (Addr × Str)) (p l a : Addr) (n : Nat) (ws : List Int), vs = [.ref a, .int (ws.length : Nat)] ∧ Bs T p l n H ∧ SeqV p H a (ws.map V.int) ∧ GoodW ws ∧ ∀ H', Ext p H H' → Bs T p l n H' → Q .non H'
def spInitD (K : PySem.W.Frag) : Sp := fun vs H Q _ => ∃ (T : List (Addr × Str)) (p l x dx a : Addr) (n : Nat) (ws : List Int) (lv : V) (t b : Int), vs = [.ref x, .ref a, lv] ∧ Bs T p l n H ∧ H x = some (.ins (He.ga K "Duel") dx []) ∧ SeqV p H a (ws.map V.int) ∧ GoodW ws ∧ NumP K p H lv t b ∧ Bt 2000 t ∧ Bt 2000 b ∧
  ∀ H', XtR p x H H' → Bs T p l n H' → DuelP K p H' x ws (t, b) → Q .non H'
/-- Duel(weights, level) -/
def spDuel (K : PySem.W.Frag) : Sp := fun vs H Q _ => ∃ (T : List (Addr × Str)) (p l a : Addr) (n : Nat) (ws : List Int) (lv : V) (t b : Int), vs = [.ref a, lv] ∧ Bs T p l n H ∧ SeqV p H a (ws.map V.int) ∧ GoodW ws ∧ NumP K p H lv t b ∧ Bt 2000 t ∧ Bt 2000 b ∧
  ∀ d H', Ext p H H' → Bs T p l n H' → DuelP K p H' d ws (t, b) → Fresh p H d → Q (.ref d) H'
theorem mk_Duel {K : PySem.W.Frag} {H : Hp} {Q : VK} {vs : List V} {E : XK} (h : spDuel K vs H Q E) : ∀ x dx, H x = none → H dx = none → dx ≠ x → spInitD K (V.ref x :: vs) (upd (upd H dx (.own x)) x (.ins (He.ga K "Duel") dx [])) (fun v H2 => v = .non ∧ Q (.ref x) H2) E := by
  intro x dx nx nd ne
  obtain ⟨T, p, l, a, n, ws, lv, t, b, rfl, B, h1, h2, h3, h4, h5, k⟩ := h
  have s1 : Same H (upd H dx (.own x)) := same_upd nd
  have nx1 : upd H dx (.own x) x = none := by rw [upd_ne ne.symm]; exact nx
  have s2 : Same (upd H dx (.own x)) (upd (upd H dx (.own x)) x (.ins (He.ga K "Duel") dx [])) := same_upd nx1
  have s := s1.trans s2
  exact ⟨T, p, l, x, dx, a, n, ws, lv, t, b, rfl, B.same s, upd_same, h1.ext (Ext.same s), h2, h3.ext (Ext.same s), h4, h5, fun H' y B' d => ⟨rfl, k x H' (XtR.toExt (Ext.same s) y nx) B' d (Fresh.none nx)⟩⟩
/-- Duel(weights): the level is 0 -/
def spDuel1 (K : PySem.W.Frag) : Sp := fun vs H Q E => spDuel K (vs ++ [.int 0]) H Q E
theorem mkD_good {K : PySem.W.Frag} {T : List (Addr × Str)} {p l a : Addr} {n : Nat} {H : Hp} {ws : List Int} {lv : V} {t b : Int} {Q : VK} {E : XK} (B : Bs T p l n H) (h : SeqV p H a (ws.map V.int)) (g : GoodW ws) (nv : NumP K p H lv t b) (bt : Bt 2000 t) (bb : Bt 2000 b)
    (k : ∀ d H', Ext p H H' → Bs T p l n H' → DuelP K p H' d ws (t, b) → Fresh p H d → Q (.ref d) H') : Sw (spDuel K) [.ref a, lv] H Q E := ⟨⟨T, p, l, a, n, ws, lv, t, b, rfl, B, h, g, nv, bt, bb, k⟩⟩
theorem mkD1_good {K : PySem.W.Frag} {T : List (Addr × Str)} {p l a : Addr} {n : Nat} {H : Hp} {ws : List Int} {Q : VK} {E : XK} (B : Bs T p l n H) (h : SeqV p H a (ws.map V.int)) (g : GoodW ws)
    (k : ∀ d H', Ext p H H' → Bs T p l n H' → DuelP K p H' d ws (0, 1) → Fresh p H d → Q (.ref d) H') : Sw (spDuel1 K) [.ref a] H Q E := ⟨⟨T, p, l, a, n, ws, .int 0, 0, 1, rfl, B, h, g, NumP.int 0, Bt.lit _ _ (by decide +kernel), Bt.lit _ _ (by decide +kernel), k⟩⟩
def spNegD (K : PySem.W.Frag) : Sp := fun vs H Q _ => ∃ (T : List (Addr × Str)) (p l d : Addr) (n : Nat) (ws : List Int) (e : Int × Int), vs = [.ref d] ∧ Bs T p l n H ∧ DuelP K p H d ws e ∧ GoodW ws ∧ Bt 1900 e.1 ∧ Bt 1900 e.2 ∧
  ∀ d' H', Ext p H H' → Bs T p l n H' → DuelP K p H' d' (ws.map fun w => -w) (negF e) → Fresh p H d' → Q (.ref d') H'
local macro_rules | `(tactic| sizeOf_list_dec) => `(tactic| first
  | with_reducible assumption
  | ((with_reducible apply EM.At.ext); (focus (with_reducible assumption)); (focus sizeOf_list_dec))
  | ((with_reducible apply EM.RatP.ext); (focus (with_reducible assumption)); (focus sizeOf_list_dec))
  | ((with_reducible apply EM.NumP.ext); (focus (with_reducible assumption)); (focus sizeOf_list_dec))
  | (with_reducible exact EM.Ext.refl)
  | ((with_reducible apply EM.Ext.back); (focus (with_reducible assumption)); (focus sizeOf_list_dec))
  | exact EM.NumP.int _
  | ((with_reducible apply EM.Mu.at_k); (focus (with_reducible assumption)); (focus sizeOf_list_dec); (focus sizeOf_list_dec); (focus (intro _ z; cases z; done)))
  | ((with_reducible apply EM.Mu.at_n); (focus (with_reducible assumption)); (focus sizeOf_list_dec); (focus (first | with_reducible assumption | ((apply EM.nn1); (focus (with_reducible assumption)); (focus sizeOf_list_dec)) | ((apply EM.nn2); (focus (with_reducible assumption)); (focus sizeOf_list_dec)))))
  | ((with_reducible apply EM.Mu.here); (focus (with_reducible assumption)); (focus sizeOf_list_dec))
  | ((with_reducible apply EM.Mu.rat); (focus (with_reducible assumption)); (focus sizeOf_list_dec); (focus sizeOf_list_dec))
  | ((with_reducible apply EM.Mu.num); (focus (with_reducible assumption)); (focus sizeOf_list_dec); (focus sizeOf_list_dec))
  | ((with_reducible apply EM.num_of_rat); (focus sizeOf_list_dec); (focus (first | with_reducible assumption | (apply EM.n_low; assumption))))
  | ((with_reducible apply EM.RatsP.xt); (focus (with_reducible assumption)); (focus sizeOf_list_dec))
  | ((with_reducible apply EM.NumsP.xt); (focus (with_reducible assumption)); (focus sizeOf_list_dec))
  | ((with_reducible apply EM.PairsP.xt); (focus (with_reducible assumption)); (focus sizeOf_list_dec))
  | ((with_reducible apply EM.RdP.xt); (focus (with_reducible assumption)); (focus sizeOf_list_dec))
  | ((with_reducible apply EM.Mu.rats); (focus (with_reducible assumption)); (focus sizeOf_list_dec); (focus sizeOf_list_dec))
  | ((with_reducible apply EM.Mu.pairs); (focus (with_reducible assumption)); (focus sizeOf_list_dec); (focus sizeOf_list_dec))
  | ((with_reducible apply EM.Mu.rdp); (focus (with_reducible assumption)); (focus sizeOf_list_dec); (focus sizeOf_list_dec))
  | ((with_reducible apply EM.SeqV.xt); (focus (with_reducible assumption)); (focus sizeOf_list_dec)))
local macro_rules | `(tactic| decreasing_trivial_pre_omega) => `(tactic| first
  | with_reducible assumption
  | exact EM.Bt.mono (by with_reducible assumption) (by decide)
  | exact EM.Bt.lit _ _ (by decide +kernel)
  | ((with_reducible refine EM.Bt.rng32 ?_ ?_) <;> omega)
  | ((with_reducible refine EM.Bt.rng70 ?_ ?_) <;> omega)
  | ((with_reducible refine EM.Bt.rng200 ?_ ?_) <;> omega)
  | ((with_reducible apply EM.Bt.mulM); (focus decreasing_trivial_pre_omega); (focus decreasing_trivial_pre_omega); (focus (first | decide | exact Nat.le_refl _)))
  | ((with_reducible apply EM.Bt.addM); (focus decreasing_trivial_pre_omega); (focus decreasing_trivial_pre_omega); (focus (first | decide | exact Nat.le_refl _)))
  | ((with_reducible apply EM.Bt.subM); (focus decreasing_trivial_pre_omega); (focus decreasing_trivial_pre_omega); (focus (first | decide | exact Nat.le_refl _)))
  | ((with_reducible apply EM.Bt.topL); (focus decreasing_trivial_pre_omega); (focus assumption); (focus (first | decide | exact Nat.le_refl _)))
  | ((with_reducible apply EM.Bt.botL); (focus decreasing_trivial_pre_omega); (focus assumption); (focus (first | decide | exact Nat.le_refl _)))
  | ((with_reducible apply EM.Bt.divM); (focus decreasing_trivial_pre_omega); (focus assumption); (focus (first | decide | exact Nat.le_refl _)))
  | ((with_reducible apply EM.Bt.negM); (focus decreasing_trivial_pre_omega); (focus (first | decide | exact Nat.le_refl _))))
local macro_rules | `(tactic| array_get_dec) => `(tactic| first
  | with_reducible assumption
  | ((with_reducible refine EM.gEq ?_); exact rfl)
  | ((with_reducible refine EM.gTru ?_); exact rfl)
  | ((with_reducible refine EM.gRef ?_); first | exact Or.inl ⟨_, rfl⟩ | exact Or.inr ⟨_, rfl⟩)
  | ((with_reducible apply EM.At.get); sizeOf_list_dec)
  | ((with_reducible apply EM.At.sqL); sizeOf_list_dec)
  | ((with_reducible apply EM.At.sqT); sizeOf_list_dec)
  | ((with_reducible apply EM.RatP.getK); (focus sizeOf_list_dec); (focus (exact rfl)))
  | (with_reducible exact EM.Num.int _)
  | ((with_reducible apply EM.NumP.getK); (focus sizeOf_list_dec); (focus (exact rfl)))
  | ((with_reducible apply EM.At.ext); (focus (with_reducible assumption)); (focus sizeOf_list_dec))
  | ((with_reducible apply EM.RatP.ext); (focus (with_reducible assumption)); (focus sizeOf_list_dec))
  | ((with_reducible apply EM.NumP.ext); (focus (with_reducible assumption)); (focus sizeOf_list_dec))
  | with_reducible exact Tx.cl_Ratio (by assumption)
  | with_reducible exact Tx.cl_Reading (by assumption)
  | with_reducible exact Tx.cl_Duel (by assumption)
  | with_reducible exact Tx.na_Ratio_top (by assumption)
  | with_reducible exact Tx.na_Ratio_bottom (by assumption)
  | with_reducible exact Tx.na_Reading_own_edges (by assumption)
  | with_reducible exact Tx.na_Duel_weights (by assumption)
  | with_reducible exact Tx.na_Duel_level (by assumption)
  | ((with_reducible refine EM.gAt ?_); sizeOf_list_dec)
  | ((with_reducible refine EM.gRat ?_); sizeOf_list_dec)
  | ((with_reducible refine EM.gNum ?_); sizeOf_list_dec)
  | ((with_reducible apply EM.TwoP.mk); (focus (with_reducible assumption)); (focus sizeOf_list_dec); (focus (first | with_reducible assumption | (apply EM.n_low; assumption))); (focus sizeOf_list_dec); (focus decreasing_trivial_pre_omega); (focus decreasing_trivial_pre_omega); (focus decreasing_trivial_pre_omega); (focus decreasing_trivial_pre_omega))
  | (with_reducible exact EM.Ext.refl)
  | ((with_reducible apply EM.Ext.back); (focus (with_reducible assumption)); (focus sizeOf_list_dec))
  | ((with_reducible apply EM.Bs.mono); (focus (with_reducible assumption)); omega)
  | ((with_reducible refine EM.gN ?_); first | decide | omega | exact Nat.le_of_ble_eq_true rfl | (simp only [List.length_cons, List.length_nil, List.length_append]; omega))
  | ((with_reducible refine EM.gM ?_); first | decide | omega | exact Nat.le_of_ble_eq_true rfl)
  | ((with_reducible refine EM.gI ?_); first | decide | omega)
  | ((with_reducible refine EM.gJ ?_); first | decide | omega)
  | ((with_reducible refine EM.gE ?_); first | decide | omega)
  | ((with_reducible refine EM.gB ?_); decreasing_trivial_pre_omega)
  | ((with_reducible apply EM.wideM); (focus decreasing_trivial_pre_omega); (focus decreasing_trivial_pre_omega); (focus decide)))
local macro_rules | `(tactic| infer_instance) => `(tactic| first
  | with_reducible assumption
  | exact DpAll.nil
  | (apply DpAll.cons; (focus infer_instance); (focus infer_instance))
  | with_reducible exact Dp.int _
  | exact Dp.int _
  | with_reducible exact Dp.str _
  | exact Dp.bl _
  | exact Dp.non
  | ((with_reducible apply EM.dp_lst); (focus array_get_dec); (focus infer_instance))
  | ((with_reducible apply EM.dp_tup); (focus array_get_dec); (focus infer_instance))
  | exact EM.dp_ints _)
local macro_rules | `(tactic| nofun) => `(tactic| first
  | with_reducible assumption
  | exact EM.FeL.nil
  | exact EM.FdL.nil
  | (apply EM.FeL.cons; (focus nofun); (focus nofun))
  | (apply EM.FdL.cons; (focus nofun); (focus nofun))
  | exact EM.Fe.int _
  | exact EM.Fe.bool _
  | exact EM.Fe.non
  | exact EM.Fe.str (EM.okS_of _)
  | (apply EM.Fe.str; apply EM.Fd.ok; (focus nofun))
  | (apply EM.Fe.list; (focus nofun))
  | (apply EM.Fe.tup; (focus nofun))
  | (apply EM.Fd.int; (focus decreasing_trivial_pre_omega))
  | exact EM.Fd.bool _
  | exact EM.Fd.non
  | (refine EM.Fd.bool _)
  | (apply EM.Fd.list; (focus nofun))
  | (apply EM.Fd.tup; (focus nofun)))
local macro_rules | `(tactic| array_mem_dec) => `(tactic| ((with_reducible refine EM.pr ?_); first
  | (with_reducible refine L2.iteT ?_)
  | (with_reducible refine L2.iteF ?_)
  | (with_reducible refine EM.ifNotT ?_)
  | (with_reducible refine EM.ifNotF ?_)
  | ((fail_if_success (with_reducible refine EM.gIf ?_)); first
  | array_get_dec
  | (refine EM.mk_low (by with_reducible assumption) (by with_reducible assumption) ?_ ?_; (focus array_get_dec))
  | (apply EM.isNum_sw; (focus sizeOf_list_dec))
  | (apply EM.of_sw; (focus (with_reducible assumption)); (focus sizeOf_list_dec))
  | (apply EM.neg_bs; (focus (with_reducible assumption)); (focus sizeOf_list_dec); (focus array_get_dec); (focus array_get_dec))
  | (apply EM.relw_bs; (focus (with_reducible assumption)); (focus sizeOf_list_dec); (focus sizeOf_list_dec); (focus array_get_dec); (focus decreasing_trivial_pre_omega); (focus decreasing_trivial_pre_omega); (focus decreasing_trivial_pre_omega); (focus decreasing_trivial_pre_omega))
  | ((apply EM.DnS.bs); (focus (with_reducible assumption)); (focus (intro _ z; cases z; done)))
  | ((apply EM.seqL); (focus sizeOf_list_dec))
  | ((apply EM.seqT); (focus sizeOf_list_dec))
  | ((apply EM.lenL); (focus sizeOf_list_dec))
  | ((apply EM.lenT); (focus sizeOf_list_dec))
  | ((apply EM.isSeqL); (focus sizeOf_list_dec); (focus sizeOf_list_dec))
  | ((apply EM.isSeqT); (focus sizeOf_list_dec); (focus sizeOf_list_dec))
  | ((apply EM.tupL); (focus sizeOf_list_dec))
  | ((apply EM.fld_bs); (focus sizeOf_list_dec); (focus (first | exact Tx.cl_Reading (by assumption) | exact Tx.cl_Duel (by assumption))); (focus (first | exact Tx.na_Reading_own_edges (by assumption) | exact Tx.na_Duel_weights (by assumption) | exact Tx.na_Duel_level (by assumption))); (focus (exact rfl)))
  | ((apply EM.seqS); (focus sizeOf_list_dec))
  | ((apply EM.enS); (focus sizeOf_list_dec))
  | ((apply EM.lenS); (focus sizeOf_list_dec))
  | ((apply EM.isSeqS); (focus sizeOf_list_dec); (focus sizeOf_list_dec))
  | ((apply EM.lstS); (focus sizeOf_list_dec))
  | ((apply EM.sumS); (focus sizeOf_list_dec))
  | ((apply EM.tupSL); (focus sizeOf_list_dec))
  | ((apply EM.tupST); (focus sizeOf_list_dec))
  | ((apply EM.anyS); (focus sizeOf_list_dec))
  | ((with_reducible refine EM.New.bs (by with_reducible assumption) ?_ ?_); (focus (intro _ z; cases z; done)))
  | ((with_reducible refine EM.gMu ?_); (with_reducible apply EM.mu_bs); (focus (with_reducible assumption)); (focus sizeOf_list_dec); (focus (apply EM.nel2; (focus (with_reducible assumption)); (focus (with_reducible assumption)))); intro _ _ _)
  | intro _
  | (apply And.intro; (focus array_get_dec))
  | apply Exists.intro
  | (refine EM.draw_bs (by with_reducible assumption) ?_ ?_ ?_ ?_; (focus array_get_dec); (focus array_get_dec); (focus (first | decide | omega)))
  | (apply EM.pick_bs; (focus (with_reducible assumption)); (focus array_get_dec); (focus sizeOf_list_dec); (focus (exact Nat.le_of_ble_eq_true rfl)); (focus (exact Nat.le_of_ble_eq_true rfl)))
  | ((apply EM.repr_sw); (focus infer_instance); (focus nofun); (focus decide))
  | ((apply EM.eqd_same); (focus infer_instance); (focus infer_instance); (focus nofun); (focus decide))
  | ((apply EM.ned_same); (focus infer_instance); (focus infer_instance); (focus nofun); (focus decide))
  | ((apply EM.eqd_sw); (focus infer_instance); (focus infer_instance); (focus nofun); (focus nofun); (focus decide))
  | ((apply EM.ned_sw); (focus infer_instance); (focus infer_instance); (focus nofun); (focus nofun); (focus decide))
  | (refine EM.cut_bs (by with_reducible assumption) ?_ ?_ ?_; (focus array_get_dec); (focus array_get_dec)))))
section
variable {P : Program} {w : World} {K : PySem.W.Frag} {mg : Str → Option Value} {base : Heap}
theorem ok_need_plain_weights (T : Tx K mg) : FnR P w K mg base (L2.CX P w) 6 (He.ga K "need_plain_weights") (spNeedG K) := by
  obtain ⟨fd, F⟩ := T.d_need_plain_weights
  refine EM.fnr F sc_need_plain_weights (fun _ _ _ _ _ _ us hl => match us, hl with | [_, _], _ => rfl) (fun vs H Q E h => ?_) (fun cdv A outer s H vs Q E hr h => ?_)
  · obtain ⟨T0, p, l, a, n, ws, rfl, _⟩ := h
    rfl
  · obtain ⟨T0, p, l, a, n, ws, rfl, B0, aX, g, k⟩ := h
    have hl := g.len.2.2
    refine ⟨_, (PSs.nox (pss_cons (ps_if (PW.pt (pw_or (pt_not (pt_val (pe_callB (callR_sw EM.call_isSeq) (by rfl) T.f_isinstance (by decide +kernel) (pa_cons (pv 0) (pa_cons (EM.pe_tupN (pa_cons (pe_bltn (v := .ty "list") (by rfl) T.f_list boot_list rfl) (pa_cons (pe_bltn (v := .ty "tuple") (by rfl) T.f_tuple boot_tuple rfl) pa_nil))) pa_nil))))) (pw_or1 (pt_cmpR op_ne (pe_callB EM.call_lenN (by rfl) T.f_len boot_len (pa_cons (pv 0) pa_nil)) (pv 1) (nomark _)))))
  (pss_one ps_never) pss_nil)
 (pss_cons (EM.forN (ps_for PassesOwn.never rfl (EM.pi_enumSN (by rfl) T.f_enumerate (pa_cons (pv 0) pa_nil)).mc (pg_tup (by rfl) (pgs_cons (pg_name (i := 2) sc_need_plain_weights.nd rfl (Or.inl rfl)) (pgs_cons (pg_name (i := 3) sc_need_plain_weights.nd rfl (Or.inl rfl)) pgs_nil)))
  (pss_one (ps_if (pt_not (pt_val (EM.pe_cR ((ok_is_integer_fits T).sw) (hr.mono (by decide)) T.k_is_integer_fits T.g_is_integer_fits passL (pa_cons (pv 3) pa_nil))))
  (pss_one ps_never) pss_nil))))
 (pss_cons (ps_if (pt_cmpR op_ne (pe_callB (EM.call_sumSN rfl) (by rfl) T.f_sum (by decide +kernel) (pa_cons (pe_callTy EM.call_listSN (by rfl) T.f_list (by decide +kernel) (pa_cons (pv 0) pa_nil)) pa_nil)) pe_int (nomark _))
  (pss_one ps_never) pss_nil)
 (pss_one (ps_if (pt_not (pt_val (pe_callB (EM.call_anySN rfl) (by rfl) T.f_any (by decide +kernel) (pa_cons (EM.lcN (pe_lc (own := [("weight", 3)]) (g := gName 3) rfl sc_need_plain_weights.nd (EM.pi_seqN (pv 0)).mc (blkOk_by (N := ["weights", "count", "at", "weight"]) (sc := defScope s_need_plain_weights) (by decide +kernel)) (fun _ _ _ _ _ => (pg_name (i := 3) sc_need_plain_weights.nd rfl (Or.inl rfl))) (fun _ _ _ _ _ => pts_nil) (fun _ _ _ _ _ => (PE.mc (pe_cmpR op_ne (pv 3) pe_int (nomark _)))))) pa_nil))))
  (pss_one ps_never) pss_nil)))))), ?_⟩
    repeat' array_mem_dec
    rename_i q1 H1 x1 B1 a1 n1
    rw [List.length_map]
    refine ifNeI (fun z => absurd rfl z) (fun _ => ?_)
    clear a1 n1
    repeat' array_mem_dec
    rename_i J wk
    refine FoS.it wk (fun i σ H2 => Hold (∃ v2 v3, σ = [some (.ref a), some (.int (ws.length : Nat)), v2, v3] ∧ Ext p H H2 ∧ Bs T0 p l n H2)) ⟨⟨_, _, rfl, x1, B1⟩⟩ (fun i σ H2 _ ⟨⟨_, _, _, x, _⟩⟩ => (aX.eq x).trans (aX.eq x1).symm) ?_ ?_
    · rintro i y σ H2 H3 hi ⟨⟨v2, v3, rfl, x02, B2⟩⟩ hy
      obtain ⟨W, a', b', rfl, ea, eb, x3, B3, aW⟩ := yp_open B2 hy
      cases ea
      rw [List.getElem?_map] at eb
      obtain ⟨w, ew, rfl⟩ := Option.map_eq_some_iff.mp eb
      have x03 := x02.trans x3
      clear x02 B2 x3
      repeat' array_mem_dec
      refine ⟨⟨.int w, _, true, false, rfl, .base (.int w), kit_ty (by decide +kernel), kit_ty (by decide +kernel), ?_⟩⟩
      repeat' array_mem_dec
      exact ⟨⟨_, _, rfl, x03, B3⟩⟩
    · rintro σ H2 ⟨⟨v2, v3, rfl, x02, B2⟩⟩
      have aX2 := aX.ext x02
      repeat' array_mem_dec
      rename_i q3 H3 x3 B3 a3 n3
      refine ifNeI (fun z => absurd g.sum z) (fun _ => ?_)
      have aX3 := aX2.ext x3
      repeat' array_mem_dec
      rename_i J2 wk2
      refine LcS.lc 0 wk2 B3 (fun j y H' => Hold (∃ w, ws[j]? = some w ∧ y = .bl (!decide (w = 0)))) (by rw [List.length_map]; omega) (fun H' x => aX3.eq x) ?_ ?_
      · rintro j y K2 K3 hk y2 C2 ⟨rfl, hv⟩
        rw [List.getElem?_map] at hv
        obtain ⟨w, ew, rfl⟩ := Option.map_eq_some_iff.mp hv
        repeat' array_mem_dec
        exact ⟨⟨w, ew, by rw [dVi]⟩⟩
      rintro D ys H4 hD hyl hf x4 B4 aD
      have eys : ys = (ws.map fun w => !decide (w = 0)).map V.bl := bls_of (by rw [hyl, List.length_map, List.length_map]) (fun i y e => by
        obtain ⟨⟨w, e1, e2⟩⟩ := hf i y e
        exact ⟨_, by rw [List.getElem?_map, e1]; rfl, e2⟩)
      rw [eys] at aD
      have x04 := x02.trans (x3.trans x4)
      have B4' : Bs T0 p l n H4 := B4.mono (by omega)
      clear B4
      obtain ⟨w, hw, nw⟩ := g.some
      have ea : ((ws.map fun w => !decide (w = 0)).any id) = true := List.any_eq_true.mpr ⟨_, List.mem_map.mpr ⟨w, hw, rfl⟩, by rw [decide_eq_false nw]; rfl⟩
      repeat' array_mem_dec
      rw [ea]
      refine ifN rfl ?_
      repeat' array_mem_dec
      exact k H4 x04 B4'
end
end K41
namespace K41
open PySem PySem.Spec PyProof.Rows L2 EM
local macro_rules | `(tactic| sizeOf_list_dec) => `(tactic| first
  | with_reducible assumption
  | ((with_reducible apply EM.At.ext); (focus (with_reducible assumption)); (focus sizeOf_list_dec))
  | ((with_reducible apply EM.RatP.ext); (focus (with_reducible assumption)); (focus sizeOf_list_dec))
  | ((with_reducible apply EM.NumP.ext); (focus (with_reducible assumption)); (focus sizeOf_list_dec))
  | (with_reducible exact EM.Ext.refl)
  | ((with_reducible apply EM.Ext.back); (focus (with_reducible assumption)); (focus sizeOf_list_dec))
  | exact EM.NumP.int _
  | ((with_reducible apply EM.Mu.at_k); (focus (with_reducible assumption)); (focus sizeOf_list_dec); (focus sizeOf_list_dec); (focus (intro _ z; cases z; done)))
  | ((with_reducible apply EM.Mu.at_n); (focus (with_reducible assumption)); (focus sizeOf_list_dec); (focus (first | with_reducible assumption | ((apply EM.nn1); (focus (with_reducible assumption)); (focus sizeOf_list_dec)) | ((apply EM.nn2); (focus (with_reducible assumption)); (focus sizeOf_list_dec)))))
  | ((with_reducible apply EM.Mu.here); (focus (with_reducible assumption)); (focus sizeOf_list_dec))
  | ((with_reducible apply EM.Mu.rat); (focus (with_reducible assumption)); (focus sizeOf_list_dec); (focus sizeOf_list_dec))
  | ((with_reducible apply EM.Mu.num); (focus (with_reducible assumption)); (focus sizeOf_list_dec); (focus sizeOf_list_dec))
  | ((with_reducible apply EM.num_of_rat); (focus sizeOf_list_dec); (focus (first | with_reducible assumption | (apply EM.n_low; assumption))))
  | ((with_reducible apply EM.RatsP.xt); (focus (with_reducible assumption)); (focus sizeOf_list_dec))
  | ((with_reducible apply EM.NumsP.xt); (focus (with_reducible assumption)); (focus sizeOf_list_dec))
  | ((with_reducible apply EM.PairsP.xt); (focus (with_reducible assumption)); (focus sizeOf_list_dec))
  | ((with_reducible apply EM.RdP.xt); (focus (with_reducible assumption)); (focus sizeOf_list_dec))
  | ((with_reducible apply EM.Mu.rats); (focus (with_reducible assumption)); (focus sizeOf_list_dec); (focus sizeOf_list_dec))
  | ((with_reducible apply EM.Mu.pairs); (focus (with_reducible assumption)); (focus sizeOf_list_dec); (focus sizeOf_list_dec))
  | ((with_reducible apply EM.Mu.rdp); (focus (with_reducible assumption)); (focus sizeOf_list_dec); (focus sizeOf_list_dec))
  | ((with_reducible apply EM.SeqV.xt); (focus (with_reducible assumption)); (focus sizeOf_list_dec)))
local macro_rules | `(tactic| decreasing_trivial_pre_omega) => `(tactic| first
  | with_reducible assumption
  | exact EM.Bt.mono (by with_reducible assumption) (by decide)
  | exact EM.Bt.lit _ _ (by decide +kernel)
  | ((with_reducible refine EM.Bt.rng32 ?_ ?_) <;> omega)
  | ((with_reducible refine EM.Bt.rng70 ?_ ?_) <;> omega)
  | ((with_reducible refine EM.Bt.rng200 ?_ ?_) <;> omega)
  | ((with_reducible apply EM.Bt.mulM); (focus decreasing_trivial_pre_omega); (focus decreasing_trivial_pre_omega); (focus (first | decide | exact Nat.le_refl _)))
  | ((with_reducible apply EM.Bt.addM); (focus decreasing_trivial_pre_omega); (focus decreasing_trivial_pre_omega); (focus (first | decide | exact Nat.le_refl _)))
  | ((with_reducible apply EM.Bt.subM); (focus decreasing_trivial_pre_omega); (focus decreasing_trivial_pre_omega); (focus (first | decide | exact Nat.le_refl _)))
  | ((with_reducible apply EM.Bt.topL); (focus decreasing_trivial_pre_omega); (focus assumption); (focus (first | decide | exact Nat.le_refl _)))
  | ((with_reducible apply EM.Bt.botL); (focus decreasing_trivial_pre_omega); (focus assumption); (focus (first | decide | exact Nat.le_refl _)))
  | ((with_reducible apply EM.Bt.divM); (focus decreasing_trivial_pre_omega); (focus assumption); (focus (first | decide | exact Nat.le_refl _)))
  | ((with_reducible apply EM.Bt.negM); (focus decreasing_trivial_pre_omega); (focus (first | decide | exact Nat.le_refl _))))
local macro_rules | `(tactic| array_get_dec) => `(tactic| first
  | with_reducible assumption
  | ((with_reducible refine EM.gEq ?_); exact rfl)
  | ((with_reducible refine EM.gTru ?_); exact rfl)
  | ((with_reducible refine EM.gRef ?_); first | exact Or.inl ⟨_, rfl⟩ | exact Or.inr ⟨_, rfl⟩)
  | ((with_reducible apply EM.At.get); sizeOf_list_dec)
  | ((with_reducible apply EM.At.sqL); sizeOf_list_dec)
  | ((with_reducible apply EM.At.sqT); sizeOf_list_dec)
  | ((with_reducible apply EM.RatP.getK); (focus sizeOf_list_dec); (focus (exact rfl)))
  | (with_reducible exact EM.Num.int _)
  | ((with_reducible apply EM.NumP.getK); (focus sizeOf_list_dec); (focus (exact rfl)))
  | ((with_reducible apply EM.At.ext); (focus (with_reducible assumption)); (focus sizeOf_list_dec))
  | ((with_reducible apply EM.RatP.ext); (focus (with_reducible assumption)); (focus sizeOf_list_dec))
  | ((with_reducible apply EM.NumP.ext); (focus (with_reducible assumption)); (focus sizeOf_list_dec))
  | with_reducible exact Tx.cl_Ratio (by assumption)
  | with_reducible exact Tx.cl_Reading (by assumption)
  | with_reducible exact Tx.cl_Duel (by assumption)
  | with_reducible exact Tx.na_Ratio_top (by assumption)
  | with_reducible exact Tx.na_Ratio_bottom (by assumption)
  | with_reducible exact Tx.na_Reading_own_edges (by assumption)
  | with_reducible exact Tx.na_Duel_weights (by assumption)
  | with_reducible exact Tx.na_Duel_level (by assumption)
  | ((with_reducible refine EM.gAt ?_); sizeOf_list_dec)
  | ((with_reducible refine EM.gRat ?_); sizeOf_list_dec)
  | ((with_reducible refine EM.gNum ?_); sizeOf_list_dec)
  | ((with_reducible apply EM.TwoP.mk); (focus (with_reducible assumption)); (focus sizeOf_list_dec); (focus (first | with_reducible assumption | (apply EM.n_low; assumption))); (focus sizeOf_list_dec); (focus decreasing_trivial_pre_omega); (focus decreasing_trivial_pre_omega); (focus decreasing_trivial_pre_omega); (focus decreasing_trivial_pre_omega))
  | (with_reducible exact EM.Ext.refl)
  | ((with_reducible apply EM.Ext.back); (focus (with_reducible assumption)); (focus sizeOf_list_dec))
  | ((with_reducible apply EM.Bs.mono); (focus (with_reducible assumption)); omega)
  | ((with_reducible refine EM.gN ?_); first | decide | omega | exact Nat.le_of_ble_eq_true rfl | (simp only [List.length_cons, List.length_nil, List.length_append]; omega))
  | ((with_reducible refine EM.gM ?_); first | decide | omega | exact Nat.le_of_ble_eq_true rfl)
  | ((with_reducible refine EM.gI ?_); first | decide | omega)
  | ((with_reducible refine EM.gJ ?_); first | decide | omega)
  | ((with_reducible refine EM.gE ?_); first | decide | omega)
  | ((with_reducible refine EM.gB ?_); decreasing_trivial_pre_omega)
  | ((with_reducible apply EM.wideM); (focus decreasing_trivial_pre_omega); (focus decreasing_trivial_pre_omega); (focus decide)))
local macro_rules | `(tactic| infer_instance) => `(tactic| first
  | with_reducible assumption
  | exact DpAll.nil
  | (apply DpAll.cons; (focus infer_instance); (focus infer_instance))
  | with_reducible exact Dp.int _
  | exact Dp.int _
  | with_reducible exact Dp.str _
  | exact Dp.bl _
  | exact Dp.non
  | ((with_reducible apply EM.dp_lst); (focus array_get_dec); (focus infer_instance))
  | ((with_reducible apply EM.dp_tup); (focus array_get_dec); (focus infer_instance))
  | exact EM.dp_ints _)
local macro_rules | `(tactic| nofun) => `(tactic| first
  | with_reducible assumption
  | exact EM.FeL.nil
  | exact EM.FdL.nil
  | (apply EM.FeL.cons; (focus nofun); (focus nofun))
  | (apply EM.FdL.cons; (focus nofun); (focus nofun))
  | exact EM.Fe.int _
  | exact EM.Fe.bool _
  | exact EM.Fe.non
  | exact EM.Fe.str (EM.okS_of _)
  | (apply EM.Fe.str; apply EM.Fd.ok; (focus nofun))
  | (apply EM.Fe.list; (focus nofun))
  | (apply EM.Fe.tup; (focus nofun))
  | (apply EM.Fd.int; (focus decreasing_trivial_pre_omega))
  | exact EM.Fd.bool _
  | exact EM.Fd.non
  | (refine EM.Fd.bool _)
  | (apply EM.Fd.list; (focus nofun))
  | (apply EM.Fd.tup; (focus nofun)))
local macro_rules | `(tactic| array_mem_dec) => `(tactic| ((with_reducible refine EM.pr ?_); first
  | (with_reducible refine L2.iteT ?_)
  | (with_reducible refine L2.iteF ?_)
  | (with_reducible refine EM.ifNotT ?_)
  | (with_reducible refine EM.ifNotF ?_)
  | ((fail_if_success (with_reducible refine EM.gIf ?_)); first
  | array_get_dec
  | (refine EM.mk_low (by with_reducible assumption) (by with_reducible assumption) ?_ ?_; (focus array_get_dec))
  | (apply EM.isNum_sw; (focus sizeOf_list_dec))
  | (apply EM.of_sw; (focus (with_reducible assumption)); (focus sizeOf_list_dec))
  | (apply EM.neg_bs; (focus (with_reducible assumption)); (focus sizeOf_list_dec); (focus array_get_dec); (focus array_get_dec))
  | (apply EM.relw_bs; (focus (with_reducible assumption)); (focus sizeOf_list_dec); (focus sizeOf_list_dec); (focus array_get_dec); (focus decreasing_trivial_pre_omega); (focus decreasing_trivial_pre_omega); (focus decreasing_trivial_pre_omega); (focus decreasing_trivial_pre_omega))
  | ((apply EM.DnS.bs); (focus (with_reducible assumption)); (focus (intro _ z; cases z; done)))
  | ((apply EM.seqL); (focus sizeOf_list_dec))
  | ((apply EM.seqT); (focus sizeOf_list_dec))
  | ((apply EM.lenL); (focus sizeOf_list_dec))
  | ((apply EM.lenT); (focus sizeOf_list_dec))
  | ((apply EM.isSeqL); (focus sizeOf_list_dec); (focus sizeOf_list_dec))
  | ((apply EM.isSeqT); (focus sizeOf_list_dec); (focus sizeOf_list_dec))
  | ((apply EM.tupL); (focus sizeOf_list_dec))
  | ((apply EM.fld_bs); (focus sizeOf_list_dec); (focus (first | exact Tx.cl_Reading (by assumption) | exact Tx.cl_Duel (by assumption))); (focus (first | exact Tx.na_Reading_own_edges (by assumption) | exact Tx.na_Duel_weights (by assumption) | exact Tx.na_Duel_level (by assumption))); (focus (exact rfl)))
  | ((apply EM.seqS); (focus sizeOf_list_dec))
  | ((apply EM.enS); (focus sizeOf_list_dec))
  | ((apply EM.lenS); (focus sizeOf_list_dec))
  | ((apply EM.isSeqS); (focus sizeOf_list_dec); (focus sizeOf_list_dec))
  | ((apply EM.lstS); (focus sizeOf_list_dec))
  | ((apply EM.sumS); (focus sizeOf_list_dec))
  | ((apply EM.tupSL); (focus sizeOf_list_dec))
  | ((apply EM.tupST); (focus sizeOf_list_dec))
  | ((with_reducible refine EM.New.bs (by with_reducible assumption) ?_ ?_); (focus (intro _ z; cases z; done)))
  | ((with_reducible refine EM.gMu ?_); (with_reducible apply EM.mu_bs); (focus (with_reducible assumption)); (focus sizeOf_list_dec); (focus (apply EM.nel2; (focus (with_reducible assumption)); (focus (with_reducible assumption)))); intro _ _ _)
  | intro _
  | (apply And.intro; (focus array_get_dec))
  | apply Exists.intro
  | (refine EM.draw_bs (by with_reducible assumption) ?_ ?_ ?_ ?_; (focus array_get_dec); (focus array_get_dec); (focus (first | decide | omega)))
  | (apply EM.pick_bs; (focus (with_reducible assumption)); (focus array_get_dec); (focus sizeOf_list_dec); (focus (exact Nat.le_of_ble_eq_true rfl)); (focus (exact Nat.le_of_ble_eq_true rfl)))
  | ((apply EM.repr_sw); (focus infer_instance); (focus nofun); (focus decide))
  | ((apply EM.eqd_same); (focus infer_instance); (focus infer_instance); (focus nofun); (focus decide))
  | ((apply EM.ned_same); (focus infer_instance); (focus infer_instance); (focus nofun); (focus decide))
  | ((apply EM.eqd_sw); (focus infer_instance); (focus infer_instance); (focus nofun); (focus nofun); (focus decide))
  | ((apply EM.ned_sw); (focus infer_instance); (focus infer_instance); (focus nofun); (focus nofun); (focus decide))
  | (refine EM.cut_bs (by with_reducible assumption) ?_ ?_ ?_; (focus array_get_dec); (focus array_get_dec)))))
section
variable {P : Program} {w : World} {K : PySem.W.Frag} {mg : Str → Option Value} {base : Heap}
theorem len_initD {K : PySem.W.Frag} : ∀ vs H Q E, spInitD K vs H Q E → vs.length = ["self", "weights", "level"].length := by
  intro vs H Q E h
  obtain ⟨T, p, l, x, dx, a, n, ws, lv, t, b, rfl, _⟩ := h
  rfl
theorem bod_Duel_init (T : Tx K mg) (f : Addr) : Bod P w K mg base ["self", "weights", "level"] "Duel.__init__" (defScope s_Duel_init) f (defBody s_Duel_init) 9 (spInitD K) := by
  intro cdv A outer s H vs Q E hr h
  obtain ⟨T0, p, l, x, dx, a, n, ws, lv, t, b, rfl, B0, hx, aS, g, nv, bt, bb, k⟩ := h
  have aX : At p H x (.ins (He.ga K "Duel") dx []) := B0.at_ hx (by intro _ z; cases z) (by intro _ z; cases z)
  have lo := nv.num.1
  obtain ⟨g1, g2, g3⟩ := id g.len
  refine ⟨_, (PSs.nox (pss_cons (ps_if (PW.pt (pw_or (pt_not (pt_val (pe_callB (callR_sw EM.call_isSeq) (by rfl) T.f_isinstance (by decide +kernel) (pa_cons (pv 1) (pa_cons (EM.pe_tupN (pa_cons (pe_bltn (v := .ty "list") (by rfl) T.f_list boot_list rfl) (pa_cons (pe_bltn (v := .ty "tuple") (by rfl) T.f_tuple boot_tuple rfl) pa_nil))) pa_nil))))) (pw_or1 (pt_cmpR op_eq (pe_op op_mod (pe_callB EM.call_lenN (by rfl) T.f_len boot_len (pa_cons (pv 1) pa_nil)) pe_int) pe_int (nomark _)))))
  (pss_one ps_never) pss_nil)
 (pss_cons (ps_if (pt_not (pt_chain op_le op_le (EM.pe_gI T.g_FEWEST_EDGES) (pe_callB EM.call_lenN (by rfl) T.f_len boot_len (pa_cons (pv 1) pa_nil)) (EM.pe_gI T.g_MOST_EDGES_duels)))
  (pss_one ps_never) pss_nil)
 (pss_cons (ps_expr (EM.pe_cR ((ok_need_plain_weights T).sw) (hr.mono (by decide)) T.k_need_plain_weights T.g_need_plain_weights passL (pa_cons (pv 1) (pa_cons (pe_callB EM.call_lenN (by rfl) T.f_len boot_len (pa_cons (pv 1) pa_nil)) pa_nil))))
 (pss_cons (ps_if (pt_not (pt_val (EM.pe_smR (pe_glob (v := .ref (He.ga K "Ratio")) (by rfl) T.g_Ratio rfl) T.cr_Ratio T.sm_Ratio_is_number ((ok_Ratio_is_number T).sw) (hr.mono (by decide)) T.k_Ratio_is_number passL (pa_cons (pv 2) pa_nil))))
  (pss_one ps_never) pss_nil)
 (pss_cons (EM.ps_fldN (pv 0) (pe_callTy EM.call_tupSN (by rfl) T.f_tuple (by decide +kernel) (pa_cons (pv 1) pa_nil)) rfl)
 (pss_one (EM.ps_fldN (pv 0) (EM.pe_smR (pe_glob (v := .ref (He.ga K "Ratio")) (by rfl) T.g_Ratio rfl) T.cr_Ratio T.sm_Ratio_of ((ok_Ratio_of T).sw) (hr.mono (by decide)) T.k_Ratio_of passL (pa_cons (pv 2) pa_nil)) rfl)))))))), ?_⟩
  repeat' array_mem_dec
  rename_i q1 H1 x1 B1 a1 n1
  rw [List.length_map]
  refine ifEqI (fun z => by omega) (fun z => ?_)
  repeat' array_mem_dec
  rw [List.length_map]
  refine ifLe (fun z2 => ?_) (fun z2 => by omega)
  repeat' array_mem_dec
  refine ifN (by rw [decide_eq_true (show (ws.length : Int) ≤ 128 by omega)]; rfl) ?_
  repeat' array_mem_dec
  rw [List.length_map]
  refine ⟨⟨T0, p, l, a, n, ws, rfl, B1, aS.ext x1, g, fun H2 x2 B2 => ?_⟩⟩
  have x02 := x1.trans x2
  have aS2 := aS.ext x02
  have aX2 := aX.ext x02
  have nv2 := nv.ext x02
  have fin : ∀ (q : Addr) (H3 : Hp), Ext p H H3 → Bs T0 p l n H3 → At p H3 q (.tup (ws.map V.int)) → ∀ H4, Mu x H3 H4 (.ins (He.ga K "Duel") dx [("weights", .ref q)]) → ∀ a5 H5, Ext p H4 H5 → Bs T0 p l n H5 → RatP K p H5 a5 t b → ∀ H6, Mu x H5 H6 (.ins (He.ga K "Duel") dx [("weights", .ref q), ("level", .ref a5)]) → Q .non H6 := fun q H3 x3 B3 aq H4 m4 a5 H5 x5 B5 r5 H6 m6 => by
    have aX3 := aX.ext x3
    have aX4 : At p H4 x (.ins (He.ga K "Duel") dx [("weights", .ref q)]) := m4.hereI aX3
    have aX5 := aX4.ext x5
    have B6 := m6.bsI B5 aX5
    have X36 : XtR p x H3 H6 := ((XtR.mu m4).trans (XtR.of x5)).trans (XtR.mu m6)
    have r6 : RatP K p H6 a5 t b := (XtR.mu m6).rat r5 aX5 (by intro z; injection z with z _; injection z with z _; exact absurd z (by decide +kernel))
    exact k H6 ((XtR.of x3).trans X36) B6 ⟨dx, q, a5, m6.hereI aX5, X36.at_ aq aX3 (by intro z; cases z), r6, lo⟩
  clear a1 n1 x1 x2 B1 hx
  rcases aS2 with aL | aL
  · repeat' array_mem_dec
    rename_i q3 H3 x3 B3 a3 n3
    refine ⟨T.cl_Duel, T.na_Duel_weights, by decide, fun H4 m4 => ?_⟩
    have aX3 := aX2.ext x3
    have B4 := m4.bsI B3 aX3
    have nv4 : NumP K p H4 lv t b := (XtR.mu m4).num (nv2.ext x3) aX3 (by intro z; cases z)
    have aX4 : At p H4 x (.ins (He.ga K "Duel") dx [("weights", .ref q3)]) := m4.hereI aX3
    repeat' array_mem_dec
    rename_i a5 H5 x5 B5 r5
    refine ⟨T.cl_Duel, T.na_Duel_level, by show 1 < 1000; decide, fun H6 m6 => ?_⟩
    exact fin q3 H3 (x02.trans x3) B3 a3 H4 m4 a5 H5 x5 B5 r5 H6 m6
  · repeat' array_mem_dec
    refine ⟨T.cl_Duel, T.na_Duel_weights, by decide, fun H4 m4 => ?_⟩
    have B4 := m4.bsI B2 aX2
    have nv4 : NumP K p H4 lv t b := (XtR.mu m4).num nv2 aX2 (by intro z; cases z)
    have aX4 : At p H4 x (.ins (He.ga K "Duel") dx [("weights", .ref a)]) := m4.hereI aX2
    repeat' array_mem_dec
    rename_i a5 H5 x5 B5 r5
    refine ⟨T.cl_Duel, T.na_Duel_level, by show 1 < 1000; decide, fun H6 m6 => ?_⟩
    exact fin a H2 x02 B2 aL H4 m4 a5 H5 x5 B5 r5 H6 m6
end
end K41
namespace K41
open PySem PySem.Spec PyProof.Rows L2 EM
theorem ok_Duel2 {P : Program} {w : World} {K : PySem.W.Frag} {mg : Str → Option Value} {base : Heap} (T : Tx K mg) : FnR P w K mg base (L2.CX P w) 10 (He.ma K (He.ga K "Duel") "__init__") (fun vs H Q E => spInitD K (vs ++ []) H Q E) := by
  obtain ⟨fd, F⟩ := T.d_Duel_init
  exact EM.fnr_dfl 3 1 F sc_Duel_init (by intro z; cases z) rfl (fun T kV doc pm an cdv ct us its h1 h2 => match us, h1, its, h2 with | [_, _, _], _, [_], _ => ⟨_, rfl, rfl⟩) len_initD (bod_Duel_init T _)
theorem ok_Duel1 {P : Program} {w : World} {K : PySem.W.Frag} {mg : Str → Option Value} {base : Heap} (T : Tx K mg) : FnR P w K mg base (L2.CX P w) 10 (He.ma K (He.ga K "Duel") "__init__") (fun vs H Q E => spInitD K (vs ++ [.int 0]) H Q E) := by
  obtain ⟨fd, F⟩ := T.d_Duel_init
  exact EM.fnr_dfl 2 0 F sc_Duel_init (by intro z; cases z) rfl (fun T kV doc pm an cdv ct us its h1 h2 => match us, h1, its, h2 with | [_, _], _, [_], _ => ⟨_, rfl, rfl⟩) len_initD (bod_Duel_init T _)
theorem pe_mkD {K : PySem.W.Frag} {mg : Str → Option Value} (T : Tx K mg) {X : Cx} {E : XK} {e1 : Expr} {es : List Expr} {ta : TA} {p pos : Pos} (hr : Room 11 X.A) (hx : Passes (L2.CX X.prog X.w) X E) (ha : PA X (e1 :: es) ta) (hg : Gl X "Duel" := by rfl) (he : starEach (e1 :: es) X.env = (false, eval e1 X.env) :: starEach es X.env := by rfl) (hpl : (backTo pos (starEach es X.env)).any (·.1) = false := by rfl) (eK : X.K = K := by rfl) (eM : X.mg = mg := by rfl) :
    PE X (.Call (.Name "Duel" p) (e1 :: es) [] pos) (tCR (Sw (spDuel K)) E ta) := by
  subst eK eM
  exact (EM.pe_mkR (E := E) T.mk_Duel (ok_Duel2 T) hr T.g_Duel hx ha.mc hg (by decide) he hpl).of fun σ H Q q => ⟨_, q, fun vs H1 ⟨h⟩ x dx hx hdx ndx => by
    show spInitD _ ((V.ref x :: vs) ++ []) _ _ _
    rw [List.append_nil]
    exact mk_Duel h x dx hx hdx ndx⟩
theorem pe_mkD1 {K : PySem.W.Frag} {mg : Str → Option Value} (T : Tx K mg) {X : Cx} {E : XK} {e1 : Expr} {es : List Expr} {ta : TA} {p pos : Pos} (hr : Room 11 X.A) (hx : Passes (L2.CX X.prog X.w) X E) (ha : PA X (e1 :: es) ta) (hg : Gl X "Duel" := by rfl) (he : starEach (e1 :: es) X.env = (false, eval e1 X.env) :: starEach es X.env := by rfl) (hpl : (backTo pos (starEach es X.env)).any (·.1) = false := by rfl) (eK : X.K = K := by rfl) (eM : X.mg = mg := by rfl) :
    PE X (.Call (.Name "Duel" p) (e1 :: es) [] pos) (tCR (Sw (spDuel1 K)) E ta) := by
  subst eK eM
  exact (EM.pe_mkR (E := E) T.mk_Duel (ok_Duel1 T) hr T.g_Duel hx ha.mc hg (by decide) he hpl).of fun σ H Q q => ⟨_, q, fun vs H1 ⟨h⟩ x dx hx hdx ndx => mk_Duel h x dx hx hdx ndx⟩
local macro_rules | `(tactic| sizeOf_list_dec) => `(tactic| first
  | with_reducible assumption
  | ((with_reducible apply EM.At.ext); (focus (with_reducible assumption)); (focus sizeOf_list_dec))
  | ((with_reducible apply EM.RatP.ext); (focus (with_reducible assumption)); (focus sizeOf_list_dec))
  | ((with_reducible apply EM.NumP.ext); (focus (with_reducible assumption)); (focus sizeOf_list_dec))
  | (with_reducible exact EM.Ext.refl)
  | ((with_reducible apply EM.Ext.back); (focus (with_reducible assumption)); (focus sizeOf_list_dec))
  | exact EM.NumP.int _
  | ((with_reducible apply EM.Mu.at_k); (focus (with_reducible assumption)); (focus sizeOf_list_dec); (focus sizeOf_list_dec); (focus (intro _ z; cases z; done)))
  | ((with_reducible apply EM.Mu.at_n); (focus (with_reducible assumption)); (focus sizeOf_list_dec); (focus (first | with_reducible assumption | ((apply EM.nn1); (focus (with_reducible assumption)); (focus sizeOf_list_dec)) | ((apply EM.nn2); (focus (with_reducible assumption)); (focus sizeOf_list_dec)))))
  | ((with_reducible apply EM.Mu.here); (focus (with_reducible assumption)); (focus sizeOf_list_dec))
  | ((with_reducible apply EM.Mu.rat); (focus (with_reducible assumption)); (focus sizeOf_list_dec); (focus sizeOf_list_dec))
  | ((with_reducible apply EM.Mu.num); (focus (with_reducible assumption)); (focus sizeOf_list_dec); (focus sizeOf_list_dec))
  | ((with_reducible apply EM.num_of_rat); (focus sizeOf_list_dec); (focus (first | with_reducible assumption | (apply EM.n_low; assumption))))
  | ((with_reducible apply EM.RatsP.xt); (focus (with_reducible assumption)); (focus sizeOf_list_dec))
  | ((with_reducible apply EM.NumsP.xt); (focus (with_reducible assumption)); (focus sizeOf_list_dec))
  | ((with_reducible apply EM.PairsP.xt); (focus (with_reducible assumption)); (focus sizeOf_list_dec))
  | ((with_reducible apply EM.RdP.xt); (focus (with_reducible assumption)); (focus sizeOf_list_dec))
  | ((with_reducible apply EM.Mu.rats); (focus (with_reducible assumption)); (focus sizeOf_list_dec); (focus sizeOf_list_dec))
  | ((with_reducible apply EM.Mu.pairs); (focus (with_reducible assumption)); (focus sizeOf_list_dec); (focus sizeOf_list_dec))
  | ((with_reducible apply EM.Mu.rdp); (focus (with_reducible assumption)); (focus sizeOf_list_dec); (focus sizeOf_list_dec))
  | ((with_reducible apply EM.SeqV.xt); (focus (with_reducible assumption)); (focus sizeOf_list_dec)))
local macro_rules | `(tactic| decreasing_trivial_pre_omega) => `(tactic| first
  | with_reducible assumption
  | exact EM.Bt.mono (by with_reducible assumption) (by decide)
  | exact EM.Bt.lit _ _ (by decide +kernel)
  | ((with_reducible refine EM.Bt.rng32 ?_ ?_) <;> omega)
  | ((with_reducible refine EM.Bt.rng70 ?_ ?_) <;> omega)
  | ((with_reducible refine EM.Bt.rng200 ?_ ?_) <;> omega)
  | ((with_reducible apply EM.Bt.mulM); (focus decreasing_trivial_pre_omega); (focus decreasing_trivial_pre_omega); (focus (first | decide | exact Nat.le_refl _)))
  | ((with_reducible apply EM.Bt.addM); (focus decreasing_trivial_pre_omega); (focus decreasing_trivial_pre_omega); (focus (first | decide | exact Nat.le_refl _)))
  | ((with_reducible apply EM.Bt.subM); (focus decreasing_trivial_pre_omega); (focus decreasing_trivial_pre_omega); (focus (first | decide | exact Nat.le_refl _)))
  | ((with_reducible apply EM.Bt.topL); (focus decreasing_trivial_pre_omega); (focus assumption); (focus (first | decide | exact Nat.le_refl _)))
  | ((with_reducible apply EM.Bt.botL); (focus decreasing_trivial_pre_omega); (focus assumption); (focus (first | decide | exact Nat.le_refl _)))
  | ((with_reducible apply EM.Bt.divM); (focus decreasing_trivial_pre_omega); (focus assumption); (focus (first | decide | exact Nat.le_refl _)))
  | ((with_reducible apply EM.Bt.negM); (focus decreasing_trivial_pre_omega); (focus (first | decide | exact Nat.le_refl _))))
local macro_rules | `(tactic| array_get_dec) => `(tactic| first
  | with_reducible assumption
  | ((with_reducible refine EM.gEq ?_); exact rfl)
  | ((with_reducible refine EM.gTru ?_); exact rfl)
  | ((with_reducible refine EM.gRef ?_); first | exact Or.inl ⟨_, rfl⟩ | exact Or.inr ⟨_, rfl⟩)
  | ((with_reducible apply EM.At.get); sizeOf_list_dec)
  | ((with_reducible apply EM.At.sqL); sizeOf_list_dec)
  | ((with_reducible apply EM.At.sqT); sizeOf_list_dec)
  | ((with_reducible apply EM.RatP.getK); (focus sizeOf_list_dec); (focus (exact rfl)))
  | (with_reducible exact EM.Num.int _)
  | ((with_reducible apply EM.NumP.getK); (focus sizeOf_list_dec); (focus (exact rfl)))
  | ((with_reducible apply EM.At.ext); (focus (with_reducible assumption)); (focus sizeOf_list_dec))
  | ((with_reducible apply EM.RatP.ext); (focus (with_reducible assumption)); (focus sizeOf_list_dec))
  | ((with_reducible apply EM.NumP.ext); (focus (with_reducible assumption)); (focus sizeOf_list_dec))
  | with_reducible exact Tx.cl_Ratio (by assumption)
  | with_reducible exact Tx.cl_Reading (by assumption)
  | with_reducible exact Tx.cl_Duel (by assumption)
  | with_reducible exact Tx.na_Ratio_top (by assumption)
  | with_reducible exact Tx.na_Ratio_bottom (by assumption)
  | with_reducible exact Tx.na_Reading_own_edges (by assumption)
  | with_reducible exact Tx.na_Duel_weights (by assumption)
  | with_reducible exact Tx.na_Duel_level (by assumption)
  | ((with_reducible refine EM.gAt ?_); sizeOf_list_dec)
  | ((with_reducible refine EM.gRat ?_); sizeOf_list_dec)
  | ((with_reducible refine EM.gNum ?_); sizeOf_list_dec)
  | ((with_reducible apply EM.TwoP.mk); (focus (with_reducible assumption)); (focus sizeOf_list_dec); (focus (first | with_reducible assumption | (apply EM.n_low; assumption))); (focus sizeOf_list_dec); (focus decreasing_trivial_pre_omega); (focus decreasing_trivial_pre_omega); (focus decreasing_trivial_pre_omega); (focus decreasing_trivial_pre_omega))
  | (with_reducible exact EM.Ext.refl)
  | ((with_reducible apply EM.Ext.back); (focus (with_reducible assumption)); (focus sizeOf_list_dec))
  | ((with_reducible apply EM.Bs.mono); (focus (with_reducible assumption)); omega)
  | ((with_reducible refine EM.gN ?_); first | decide | omega | exact Nat.le_of_ble_eq_true rfl | (simp only [List.length_cons, List.length_nil, List.length_append]; omega))
  | ((with_reducible refine EM.gM ?_); first | decide | omega | exact Nat.le_of_ble_eq_true rfl)
  | ((with_reducible refine EM.gI ?_); first | decide | omega)
  | ((with_reducible refine EM.gJ ?_); first | decide | omega)
  | ((with_reducible refine EM.gE ?_); first | decide | omega)
  | ((with_reducible refine EM.gB ?_); decreasing_trivial_pre_omega)
  | ((with_reducible apply EM.wideM); (focus decreasing_trivial_pre_omega); (focus decreasing_trivial_pre_omega); (focus decide)))
local macro_rules | `(tactic| infer_instance) => `(tactic| first
  | with_reducible assumption
  | exact DpAll.nil
  | (apply DpAll.cons; (focus infer_instance); (focus infer_instance))
  | with_reducible exact Dp.int _
  | exact Dp.int _
  | with_reducible exact Dp.str _
  | exact Dp.bl _
  | exact Dp.non
  | ((with_reducible apply EM.dp_lst); (focus array_get_dec); (focus infer_instance))
  | ((with_reducible apply EM.dp_tup); (focus array_get_dec); (focus infer_instance))
  | exact EM.dp_ints _)
local macro_rules | `(tactic| nofun) => `(tactic| first
  | with_reducible assumption
  | exact EM.FeL.nil
  | exact EM.FdL.nil
  | (apply EM.FeL.cons; (focus nofun); (focus nofun))
  | (apply EM.FdL.cons; (focus nofun); (focus nofun))
  | exact EM.Fe.int _
  | exact EM.Fe.bool _
  | exact EM.Fe.non
  | exact EM.Fe.str (EM.okS_of _)
  | (apply EM.Fe.str; apply EM.Fd.ok; (focus nofun))
  | (apply EM.Fe.list; (focus nofun))
  | (apply EM.Fe.tup; (focus nofun))
  | (apply EM.Fd.int; (focus decreasing_trivial_pre_omega))
  | exact EM.Fd.bool _
  | exact EM.Fd.non
  | (refine EM.Fd.bool _)
  | (apply EM.Fd.list; (focus nofun))
  | (apply EM.Fd.tup; (focus nofun)))
local macro_rules | `(tactic| array_mem_dec) => `(tactic| ((with_reducible refine EM.pr ?_); first
  | (with_reducible refine L2.iteT ?_)
  | (with_reducible refine L2.iteF ?_)
  | (with_reducible refine EM.ifNotT ?_)
  | (with_reducible refine EM.ifNotF ?_)
  | ((fail_if_success (with_reducible refine EM.gIf ?_)); first
  | array_get_dec
  | (refine EM.mk_low (by with_reducible assumption) (by with_reducible assumption) ?_ ?_; (focus array_get_dec))
  | (apply EM.isNum_sw; (focus sizeOf_list_dec))
  | (apply EM.of_sw; (focus (with_reducible assumption)); (focus sizeOf_list_dec))
  | (apply EM.neg_bs; (focus (with_reducible assumption)); (focus sizeOf_list_dec); (focus array_get_dec); (focus array_get_dec))
  | (apply EM.relw_bs; (focus (with_reducible assumption)); (focus sizeOf_list_dec); (focus sizeOf_list_dec); (focus array_get_dec); (focus decreasing_trivial_pre_omega); (focus decreasing_trivial_pre_omega); (focus decreasing_trivial_pre_omega); (focus decreasing_trivial_pre_omega))
  | ((apply EM.DnS.bs); (focus (with_reducible assumption)); (focus (intro _ z; cases z; done)))
  | ((apply EM.seqL); (focus sizeOf_list_dec))
  | ((apply EM.seqT); (focus sizeOf_list_dec))
  | ((apply EM.lenL); (focus sizeOf_list_dec))
  | ((apply EM.lenT); (focus sizeOf_list_dec))
  | ((apply EM.isSeqL); (focus sizeOf_list_dec); (focus sizeOf_list_dec))
  | ((apply EM.isSeqT); (focus sizeOf_list_dec); (focus sizeOf_list_dec))
  | ((apply EM.tupL); (focus sizeOf_list_dec))
  | ((apply EM.fld_bs); (focus sizeOf_list_dec); (focus (first | exact Tx.cl_Reading (by assumption) | exact Tx.cl_Duel (by assumption))); (focus (first | exact Tx.na_Reading_own_edges (by assumption) | exact Tx.na_Duel_weights (by assumption) | exact Tx.na_Duel_level (by assumption))); (focus (exact rfl)))
  | ((apply EM.seqS); (focus sizeOf_list_dec))
  | ((apply EM.enS); (focus sizeOf_list_dec))
  | ((apply EM.lenS); (focus sizeOf_list_dec))
  | ((apply EM.isSeqS); (focus sizeOf_list_dec); (focus sizeOf_list_dec))
  | ((apply EM.lstS); (focus sizeOf_list_dec))
  | ((apply EM.sumS); (focus sizeOf_list_dec))
  | ((apply EM.tupSL); (focus sizeOf_list_dec))
  | ((apply EM.tupST); (focus sizeOf_list_dec))
  | ((with_reducible refine EM.New.bs (by with_reducible assumption) ?_ ?_); (focus (intro _ z; cases z; done)))
  | ((with_reducible refine EM.gMu ?_); (with_reducible apply EM.mu_bs); (focus (with_reducible assumption)); (focus sizeOf_list_dec); (focus (apply EM.nel2; (focus (with_reducible assumption)); (focus (with_reducible assumption)))); intro _ _ _)
  | intro _
  | (apply And.intro; (focus array_get_dec))
  | apply Exists.intro
  | (refine EM.draw_bs (by with_reducible assumption) ?_ ?_ ?_ ?_; (focus array_get_dec); (focus array_get_dec); (focus (first | decide | omega)))
  | (apply EM.pick_bs; (focus (with_reducible assumption)); (focus array_get_dec); (focus sizeOf_list_dec); (focus (exact Nat.le_of_ble_eq_true rfl)); (focus (exact Nat.le_of_ble_eq_true rfl)))
  | ((apply EM.repr_sw); (focus infer_instance); (focus nofun); (focus decide))
  | ((apply EM.eqd_same); (focus infer_instance); (focus infer_instance); (focus nofun); (focus decide))
  | ((apply EM.ned_same); (focus infer_instance); (focus infer_instance); (focus nofun); (focus decide))
  | ((apply EM.eqd_sw); (focus infer_instance); (focus infer_instance); (focus nofun); (focus nofun); (focus decide))
  | ((apply EM.ned_sw); (focus infer_instance); (focus infer_instance); (focus nofun); (focus nofun); (focus decide))
  | (refine EM.cut_bs (by with_reducible assumption) ?_ ?_ ?_; (focus array_get_dec); (focus array_get_dec)))))
section
variable {P : Program} {w : World} {K : PySem.W.Frag} {mg : Str → Option Value} {base : Heap}
theorem ok_Duel_neg (T : Tx K mg) : FnR P w K mg base (L2.CX P w) 12 (He.ma K (He.ga K "Duel") "__neg__") (spNegD K) := by
  obtain ⟨fd, F⟩ := T.d_Duel_neg
  refine EM.fnr F sc_Duel_neg (fun _ _ _ _ _ _ us hl => match us, hl with | [_], _ => rfl) (fun vs H Q E h => ?_) (fun cdv A outer s H vs Q E hr h => ?_)
  · obtain ⟨T0, p, l, d, n, ws, e, rfl, _⟩ := h
    rfl
  · obtain ⟨T0, p, l, d, n, ws, e, rfl, B0, ⟨dx, q, a, h1, h2, h3, h4⟩, g, bt, bb, k⟩ := h
    refine ⟨_, (PSs.nox (pss_one (ps_ret (pe_mkD T (hr.mono (by decide)) passL (pa_cons (EM.lcN (pe_lc (own := [("weight", 1)]) (g := gName 1) rfl sc_Duel_neg.nd (EM.pi_seqN (EM.pe_fldN (pv 0))).mc (blkOk_by (N := ["self", "weight"]) (sc := defScope s_Duel_neg) (by decide +kernel)) (fun _ _ _ _ _ => (pg_name (i := 1) sc_Duel_neg.nd rfl (Or.inl rfl))) (fun _ _ _ _ _ => pts_nil) (fun _ _ _ _ _ => (PE.mc (pe_un un_neg (pv 1)))))) (pa_cons (pe_un (un_negN_ T (hr.mono (by decide))) (EM.pe_fldN (pv 0))) pa_nil)))))), ?_⟩
    repeat' array_mem_dec
    rename_i J wk
    refine LcS.lc 0 wk B0 (fun j y H' => Hold (∃ w, (ws.map fun w => -w)[j]? = some w ∧ y = .int w)) (by rw [List.length_map]; have := g.len.2.2; omega) (fun H' x => h2.eq x) ?_ ?_
    · rintro j y K2 K3 hk y2 C2 ⟨rfl, hv⟩
      rw [List.getElem?_map] at hv
      obtain ⟨w, ew, rfl⟩ := Option.map_eq_some_iff.mp hv
      repeat' array_mem_dec
      exact ⟨⟨_, by rw [List.getElem?_map, ew]; rfl, rfl⟩⟩
    rintro D ys H4 hD hyl hf x4 B4' aD
    have B4 : Bs T0 p l n H4 := B4'.mono (by omega)
    clear B4'
    have eys : ys = (ws.map fun w => -w).map V.int := ints_at (by rw [hyl, List.length_map, List.length_map]) (fun i y e => by
      obtain ⟨⟨w, e1, e2⟩⟩ := hf i y e
      exact ⟨w, e1, e2⟩)
    rw [eys] at aD
    have r4 := h3.ext x4
    have h14 := h1.ext x4
    repeat' array_mem_dec
    rename_i q5 H5 x5 B5 r5
    refine mkD_good B5 (.inl (aD.ext x5)) g.neg (r5.num (low_neg h4)) (bt.neg.mono (by decide)) (bb.mono (by decide)) fun d' H6 x6 B6 d6 f6 => ?_
    exact k d' H6 (x4.trans (x5.trans x6)) B6 d6 (f6.back (x4.trans x5))
end
end K41
namespace K41
open PySem PySem.Spec PyProof.Rows L2 EM
theorem Dv.one {w : Int} {W : Nat} (h : w.natAbs ≤ W) : Dv 1 W (w, 1) := ⟨low_one w, Int.one_dvd _, by
  show (w.natAbs : Int) ≤ W * 1
  omega⟩
theorem sc_muli {D M : Nat} {e : Int × Int} (hD : 0 < D) (he : Dv D M e) (w : Int) : sc D (mulF (w, 1) e) = sc D e * w := by
  have hf : Dv (D * 1) (M * w.natAbs) (mulF (w, 1) e) := (Dv.one (Nat.le_refl _)).mul he
  rw [Nat.mul_one] at hf
  have e0 := he.low.pos
  have f0 := hf.low.pos
  have h1 := he.sc_mul
  have h2 := hf.sc_mul
  have h3 : (mulF (w, 1) e).1 * (e.2 * 1) = (e.1 * w) * (mulF (w, 1) e).2 := n_cross
  generalize mulF (w, 1) e = f at *
  generalize sc D e = E at *
  generalize sc D f = F at *
  obtain ⟨e1, e2⟩ := e
  obtain ⟨f1, f2⟩ := f
  simp only at *
  have z : (F - E * w) * (f2 * e2) = 0 := by
    have a1 : (F - E * w) * (f2 * e2) = (F * f2) * e2 - (E * e2) * (w * f2) := by grind
    rw [a1, h1, h2]
    have a2 : f1 * D * e2 = (f1 * (e2 * 1)) * D := by grind
    rw [a2, h3]
    grind
  rcases Int.mul_eq_zero.mp z with z | z
  · omega
  · exact absurd z (Int.mul_ne_zero (by omega) (by omega))
def dotI (ws ts : List Int) : Int := (List.zipWith (· * ·) ws ts).sum
def dotN (n : Nat) (ws ts : List Int) : Int := ((List.zipWith (· * ·) ws ts).take n).sum
theorem dotN_zero (ws ts : List Int) : dotN 0 ws ts = 0 := rfl
theorem dotN_succ {i : Nat} {ws ts : List Int} {w t : Int} (h1 : ws[i]? = some w) (h2 : ts[i]? = some t) : dotN (i + 1) ws ts = dotN i ws ts + w * t := by
  unfold dotN
  have e : (List.zipWith (· * ·) ws ts)[i]? = some (w * t) := by rw [List.getElem?_zipWith, h1, h2]
  rw [take_snoc e, List.sum_append]
  simp
theorem dotN_all {n : Nat} {ws ts : List Int} (h : ws.length ≤ n) : dotN n ws ts = dotI ws ts := by
  unfold dotN dotI
  rw [List.take_of_length_le (by rw [List.length_zipWith]; omega)]
theorem dotI_neg (ws ts : List Int) : dotI (ws.map fun w => -w) ts = -dotI ws ts := by
  unfold dotI
  induction ws generalizing ts with
  | nil => rfl
  | cons w r ih =>
    cases ts with
    | nil => rfl
    | cons t s =>
      rw [List.map_cons, List.zipWith_cons_cons, List.zipWith_cons_cons, List.sum_cons, List.sum_cons, ih, Int.neg_mul]
      omega
/-- a duel and a row of edges that may be weighed -/
structure WOk (ws : List Int) (es : List (Int × Int)) (D M W : Nat) : Prop where
  len : ws.length = es.length
  l128 : ws.length ≤ 128
  wb : ∀ w ∈ ws, w.natAbs ≤ W
  dv : ∀ e ∈ es, Dv D M e
  d0 : 0 < D
  dB : D < 2 ^ 300
  mB : M < 2 ^ 300
  wB : W < 2 ^ 290
theorem WOk.mw {ws : List Int} {es : List (Int × Int)} {D M W : Nat} (h : WOk ws es D M W) : M * W < 2 ^ 590 := by
  rcases Nat.eq_zero_or_pos W with z | z
  · rw [z, Nat.mul_zero]; exact Nat.pow_pos (by decide)
  · calc M * W < 2 ^ 300 * W := Nat.mul_lt_mul_of_pos_right h.mB z
      _ ≤ 2 ^ 300 * 2 ^ 290 := Nat.mul_le_mul_left _ (Nat.le_of_lt h.wB)
      _ = 2 ^ 590 := by rw [← Nat.pow_add]
theorem WOk.imw {ws : List Int} {es : List (Int × Int)} {D M W i : Nat} (h : WOk ws es D M W) (hi : i ≤ 128) : i * (M * W) < 2 ^ 598 := by
  have := h.mw
  calc i * (M * W) ≤ 128 * (M * W) := Nat.mul_le_mul_right _ hi
    _ < 2 ^ 7 * 2 ^ 590 + 1 := by
      rw [show (128 : Nat) = 2 ^ 7 from rfl]
      exact Nat.lt_succ_of_le (Nat.mul_le_mul_left _ (Nat.le_of_lt this))
    _ ≤ 2 ^ 598 := by
      rw [← Nat.pow_add]
      exact Nat.pow_lt_pow_right (by decide) (by decide)
theorem WOk.neg {ws : List Int} {es : List (Int × Int)} {D M W : Nat} (h : WOk ws es D M W) : WOk (ws.map fun w => -w) es D M W :=
  ⟨by rw [List.length_map]; exact h.len, by rw [List.length_map]; exact h.l128, fun w hw => by
    obtain ⟨v, hv, rfl⟩ := List.mem_map.mp hw
    rw [Int.natAbs_neg]
    exact h.wb v hv, h.dv, h.d0, h.dB, h.mB, h.wB⟩
/-- above, at or below -/
def sgn (a b : Int) : Int := if a = b then 0 else if b < a then 1 else -1
def spAlike (K : PySem.W.Frag) : Sp := fun vs H Q E => ∃ (p q r rq : Addr) (xs : List V) (es : List (Int × Int)), vs = [.ref q, .ref r] ∧ At p H q (.tup xs) ∧ RdP K p H r rq es ∧ xs.length ≤ 1000 ∧ es.length ≤ 1000 ∧ ((xs.length = es.length ∧ Q .non H) ∨ (xs.length ≠ es.length ∧ E (.ref (He.ga K "Unlike")) none H))
def spWeighed (K : PySem.W.Frag) : Sp := fun vs H Q _ => ∃ (T : List (Addr × Str)) (p l a q : Addr) (n : Nat) (ws : List Int) (xs : List V) (es : List (Int × Int)) (D M W : Nat), vs = [.ref a, .ref q] ∧ Bs T p l n H ∧ At p H a (.tup (ws.map V.int)) ∧ At p H q (.tup xs) ∧ RatsP K p H xs es ∧ WOk ws es D M W ∧
  ∀ c f H', Ext p H H' → Bs T p l n H' → RatP K p H' c f.1 f.2 → Dv D (128 * (M * W)) f → sc D f = dotI ws (es.map (sc D)) → Q (.ref c) H'
def spWeigh (K : PySem.W.Frag) : Sp := fun vs H Q E => ∃ (T : List (Addr × Str)) (p l d r rq : Addr) (n : Nat) (ws : List Int) (e : Int × Int) (es : List (Int × Int)), vs = [.ref d, .ref r] ∧ Bs T p l n H ∧ DuelP K p H d ws e ∧ RdP K p H r rq es ∧ es.length ≤ 128 ∧ ws.length ≤ 128 ∧
  ((ws.length ≠ es.length ∧ E (.ref (He.ga K "Unlike")) none H) ∨ ∃ D M W, WOk ws es D M W ∧ ∀ c f H', Ext p H H' → Bs T p l n H' → RatP K p H' c f.1 f.2 → Dv D (128 * (M * W)) f → sc D f = dotI ws (es.map (sc D)) → Q (.ref c) H')
def spCall (K : PySem.W.Frag) : Sp := fun vs H Q E => ∃ (T : List (Addr × Str)) (p l d r rq : Addr) (n : Nat) (ws : List Int) (e : Int × Int) (es : List (Int × Int)), vs = [.ref d, .ref r] ∧ Bs T p l n H ∧ DuelP K p H d ws e ∧ RdP K p H r rq es ∧ es.length ≤ 128 ∧ ws.length ≤ 128 ∧
  ((ws.length ≠ es.length ∧ E (.ref (He.ga K "Unlike")) none H) ∨ ∃ D M W N, WOk ws es D M W ∧ Dv D N e ∧ N < 2 ^ 600 ∧ ∀ H', Ext p H H' → Bs T p l n H' → Q (.int (sgn (dotI ws (es.map (sc D))) (sc D e))) H')
structure LenR (K : PySem.W.Frag) (xs : List V) (H : Hp) (Q : VK) : Prop where
  h : ∃ p r q es, xs = [.ref r] ∧ RdP K p H r q es ∧ es.length < 1000000 ∧ Q (.int (es.length : Nat)) H
theorem lenR {K : PySem.W.Frag} {p r q : Addr} {es : List (Int × Int)} {H : Hp} {Q : VK} (h : RdP K p H r q es) (hl : es.length < 1000000) (k : Q (.int (es.length : Nat)) H) : LenR K [.ref r] H Q := ⟨p, r, q, es, rfl, h, hl, k⟩
theorem call_lenR {K : PySem.W.Frag} {mg : Str → Option Value} (T : Tx K mg) {X : Cx} (hr : Room 2 X.A) (e1 : X.K = K := by rfl) (e2 : X.mg = mg := by rfl) : CallR X (.builtin "len") (LenR K) := by
  subst e1 e2
  refine callR_of (call_lenO (E := E0) T.m_Reading_len.at_ T.m_Reading_len.fn (ok_Reading_len (P := X.prog) (w := X.w) (base := X.base) T) hr passL) fun xs H Q ⟨⟨p, r, q, es, ex, m, hl, k⟩⟩ => ?_
  subst ex
  obtain ⟨dx, ys, i1, i2, i3⟩ := id m
  exact ⟨r, dx, _, rfl, i1.at_, p, r, q, es, rfl, m, _, rfl, hl, k⟩
local macro_rules | `(tactic| sizeOf_list_dec) => `(tactic| first
  | with_reducible assumption
  | ((with_reducible apply EM.At.ext); (focus (with_reducible assumption)); (focus sizeOf_list_dec))
  | ((with_reducible apply EM.RatP.ext); (focus (with_reducible assumption)); (focus sizeOf_list_dec))
  | ((with_reducible apply EM.NumP.ext); (focus (with_reducible assumption)); (focus sizeOf_list_dec))
  | (with_reducible exact EM.Ext.refl)
  | ((with_reducible apply EM.Ext.back); (focus (with_reducible assumption)); (focus sizeOf_list_dec))
  | exact EM.NumP.int _
  | ((with_reducible apply EM.Mu.at_k); (focus (with_reducible assumption)); (focus sizeOf_list_dec); (focus sizeOf_list_dec); (focus (intro _ z; cases z; done)))
  | ((with_reducible apply EM.Mu.at_n); (focus (with_reducible assumption)); (focus sizeOf_list_dec); (focus (first | with_reducible assumption | ((apply EM.nn1); (focus (with_reducible assumption)); (focus sizeOf_list_dec)) | ((apply EM.nn2); (focus (with_reducible assumption)); (focus sizeOf_list_dec)))))
  | ((with_reducible apply EM.Mu.here); (focus (with_reducible assumption)); (focus sizeOf_list_dec))
  | ((with_reducible apply EM.Mu.rat); (focus (with_reducible assumption)); (focus sizeOf_list_dec); (focus sizeOf_list_dec))
  | ((with_reducible apply EM.Mu.num); (focus (with_reducible assumption)); (focus sizeOf_list_dec); (focus sizeOf_list_dec))
  | ((with_reducible apply EM.num_of_rat); (focus sizeOf_list_dec); (focus (first | with_reducible assumption | (apply EM.n_low; assumption))))
  | ((with_reducible apply EM.RatsP.xt); (focus (with_reducible assumption)); (focus sizeOf_list_dec))
  | ((with_reducible apply EM.NumsP.xt); (focus (with_reducible assumption)); (focus sizeOf_list_dec))
  | ((with_reducible apply EM.PairsP.xt); (focus (with_reducible assumption)); (focus sizeOf_list_dec))
  | ((with_reducible apply EM.RdP.xt); (focus (with_reducible assumption)); (focus sizeOf_list_dec))
  | ((with_reducible apply EM.Mu.rats); (focus (with_reducible assumption)); (focus sizeOf_list_dec); (focus sizeOf_list_dec))
  | ((with_reducible apply EM.Mu.pairs); (focus (with_reducible assumption)); (focus sizeOf_list_dec); (focus sizeOf_list_dec))
  | ((with_reducible apply EM.Mu.rdp); (focus (with_reducible assumption)); (focus sizeOf_list_dec); (focus sizeOf_list_dec))
  | ((with_reducible apply EM.SeqV.xt); (focus (with_reducible assumption)); (focus sizeOf_list_dec)))
local macro_rules | `(tactic| decreasing_trivial_pre_omega) => `(tactic| first
  | with_reducible assumption
  | exact EM.Bt.mono (by with_reducible assumption) (by decide)
  | exact EM.Bt.lit _ _ (by decide +kernel)
  | ((with_reducible refine EM.Bt.rng32 ?_ ?_) <;> omega)
  | ((with_reducible refine EM.Bt.rng70 ?_ ?_) <;> omega)
  | ((with_reducible refine EM.Bt.rng200 ?_ ?_) <;> omega)
  | ((with_reducible apply EM.Bt.mulM); (focus decreasing_trivial_pre_omega); (focus decreasing_trivial_pre_omega); (focus (first | decide | exact Nat.le_refl _)))
  | ((with_reducible apply EM.Bt.addM); (focus decreasing_trivial_pre_omega); (focus decreasing_trivial_pre_omega); (focus (first | decide | exact Nat.le_refl _)))
  | ((with_reducible apply EM.Bt.subM); (focus decreasing_trivial_pre_omega); (focus decreasing_trivial_pre_omega); (focus (first | decide | exact Nat.le_refl _)))
  | ((with_reducible apply EM.Bt.topL); (focus decreasing_trivial_pre_omega); (focus assumption); (focus (first | decide | exact Nat.le_refl _)))
  | ((with_reducible apply EM.Bt.botL); (focus decreasing_trivial_pre_omega); (focus assumption); (focus (first | decide | exact Nat.le_refl _)))
  | ((with_reducible apply EM.Bt.divM); (focus decreasing_trivial_pre_omega); (focus assumption); (focus (first | decide | exact Nat.le_refl _)))
  | ((with_reducible apply EM.Bt.negM); (focus decreasing_trivial_pre_omega); (focus (first | decide | exact Nat.le_refl _))))
local macro_rules | `(tactic| array_get_dec) => `(tactic| first
  | with_reducible assumption
  | ((with_reducible refine EM.gEq ?_); exact rfl)
  | ((with_reducible refine EM.gTru ?_); exact rfl)
  | ((with_reducible refine EM.gRef ?_); first | exact Or.inl ⟨_, rfl⟩ | exact Or.inr ⟨_, rfl⟩)
  | ((with_reducible apply EM.At.get); sizeOf_list_dec)
  | ((with_reducible apply EM.At.sqL); sizeOf_list_dec)
  | ((with_reducible apply EM.At.sqT); sizeOf_list_dec)
  | ((with_reducible apply EM.RatP.getK); (focus sizeOf_list_dec); (focus (exact rfl)))
  | (with_reducible exact EM.Num.int _)
  | ((with_reducible apply EM.NumP.getK); (focus sizeOf_list_dec); (focus (exact rfl)))
  | ((with_reducible apply EM.At.ext); (focus (with_reducible assumption)); (focus sizeOf_list_dec))
  | ((with_reducible apply EM.RatP.ext); (focus (with_reducible assumption)); (focus sizeOf_list_dec))
  | ((with_reducible apply EM.NumP.ext); (focus (with_reducible assumption)); (focus sizeOf_list_dec))
  | with_reducible exact Tx.cl_Ratio (by assumption)
  | with_reducible exact Tx.cl_Reading (by assumption)
  | with_reducible exact Tx.cl_Duel (by assumption)
  | with_reducible exact Tx.na_Ratio_top (by assumption)
  | with_reducible exact Tx.na_Ratio_bottom (by assumption)
  | with_reducible exact Tx.na_Reading_own_edges (by assumption)
  | with_reducible exact Tx.na_Duel_weights (by assumption)
  | with_reducible exact Tx.na_Duel_level (by assumption)
  | ((with_reducible refine EM.gAt ?_); sizeOf_list_dec)
  | ((with_reducible refine EM.gRat ?_); sizeOf_list_dec)
  | ((with_reducible refine EM.gNum ?_); sizeOf_list_dec)
  | ((with_reducible apply EM.TwoP.mk); (focus (with_reducible assumption)); (focus sizeOf_list_dec); (focus (first | with_reducible assumption | (apply EM.n_low; assumption))); (focus sizeOf_list_dec); (focus decreasing_trivial_pre_omega); (focus decreasing_trivial_pre_omega); (focus decreasing_trivial_pre_omega); (focus decreasing_trivial_pre_omega))
  | (with_reducible exact EM.Ext.refl)
  | ((with_reducible apply EM.Ext.back); (focus (with_reducible assumption)); (focus sizeOf_list_dec))
  | ((with_reducible apply EM.Bs.mono); (focus (with_reducible assumption)); omega)
  | ((with_reducible refine EM.gN ?_); first | decide | omega | exact Nat.le_of_ble_eq_true rfl | (simp only [List.length_cons, List.length_nil, List.length_append]; omega))
  | ((with_reducible refine EM.gM ?_); first | decide | omega | exact Nat.le_of_ble_eq_true rfl)
  | ((with_reducible refine EM.gI ?_); first | decide | omega)
  | ((with_reducible refine EM.gJ ?_); first | decide | omega)
  | ((with_reducible refine EM.gE ?_); first | decide | omega)
  | ((with_reducible refine EM.gB ?_); decreasing_trivial_pre_omega)
  | ((with_reducible apply EM.wideM); (focus decreasing_trivial_pre_omega); (focus decreasing_trivial_pre_omega); (focus decide)))
local macro_rules | `(tactic| infer_instance) => `(tactic| first
  | with_reducible assumption
  | exact DpAll.nil
  | (apply DpAll.cons; (focus infer_instance); (focus infer_instance))
  | with_reducible exact Dp.int _
  | exact Dp.int _
  | with_reducible exact Dp.str _
  | exact Dp.bl _
  | exact Dp.non
  | ((with_reducible apply EM.dp_lst); (focus array_get_dec); (focus infer_instance))
  | ((with_reducible apply EM.dp_tup); (focus array_get_dec); (focus infer_instance))
  | exact EM.dp_ints _)
local macro_rules | `(tactic| nofun) => `(tactic| first
  | with_reducible assumption
  | exact EM.FeL.nil
  | exact EM.FdL.nil
  | (apply EM.FeL.cons; (focus nofun); (focus nofun))
  | (apply EM.FdL.cons; (focus nofun); (focus nofun))
  | exact EM.Fe.int _
  | exact EM.Fe.bool _
  | exact EM.Fe.non
  | exact EM.Fe.str (EM.okS_of _)
  | (apply EM.Fe.str; apply EM.Fd.ok; (focus nofun))
  | (apply EM.Fe.list; (focus nofun))
  | (apply EM.Fe.tup; (focus nofun))
  | (apply EM.Fd.int; (focus decreasing_trivial_pre_omega))
  | exact EM.Fd.bool _
  | exact EM.Fd.non
  | (refine EM.Fd.bool _)
  | (apply EM.Fd.list; (focus nofun))
  | (apply EM.Fd.tup; (focus nofun)))
local macro_rules | `(tactic| array_mem_dec) => `(tactic| ((with_reducible refine EM.pr ?_); first
  | (with_reducible refine L2.iteT ?_)
  | (with_reducible refine L2.iteF ?_)
  | (with_reducible refine EM.ifNotT ?_)
  | (with_reducible refine EM.ifNotF ?_)
  | ((fail_if_success (with_reducible refine EM.gIf ?_)); first
  | array_get_dec
  | (refine EM.mk_low (by with_reducible assumption) (by with_reducible assumption) ?_ ?_; (focus array_get_dec))
  | (apply EM.isNum_sw; (focus sizeOf_list_dec))
  | (apply EM.of_sw; (focus (with_reducible assumption)); (focus sizeOf_list_dec))
  | (apply EM.neg_bs; (focus (with_reducible assumption)); (focus sizeOf_list_dec); (focus array_get_dec); (focus array_get_dec))
  | (apply EM.relw_bs; (focus (with_reducible assumption)); (focus sizeOf_list_dec); (focus sizeOf_list_dec); (focus array_get_dec); (focus decreasing_trivial_pre_omega); (focus decreasing_trivial_pre_omega); (focus decreasing_trivial_pre_omega); (focus decreasing_trivial_pre_omega))
  | ((apply EM.DnS.bs); (focus (with_reducible assumption)); (focus (intro _ z; cases z; done)))
  | ((apply EM.seqL); (focus sizeOf_list_dec))
  | ((apply EM.seqT); (focus sizeOf_list_dec))
  | ((apply EM.lenL); (focus sizeOf_list_dec))
  | ((apply EM.lenT); (focus sizeOf_list_dec))
  | ((apply EM.isSeqL); (focus sizeOf_list_dec); (focus sizeOf_list_dec))
  | ((apply EM.isSeqT); (focus sizeOf_list_dec); (focus sizeOf_list_dec))
  | ((apply EM.tupL); (focus sizeOf_list_dec))
  | ((apply EM.fld_bs); (focus sizeOf_list_dec); (focus (first | exact Tx.cl_Reading (by assumption) | exact Tx.cl_Duel (by assumption))); (focus (first | exact Tx.na_Reading_own_edges (by assumption) | exact Tx.na_Duel_weights (by assumption) | exact Tx.na_Duel_level (by assumption))); (focus (exact rfl)))
  | ((apply EM.seqS); (focus sizeOf_list_dec))
  | ((apply EM.enS); (focus sizeOf_list_dec))
  | ((apply EM.lenS); (focus sizeOf_list_dec))
  | ((apply EM.isSeqS); (focus sizeOf_list_dec); (focus sizeOf_list_dec))
  | ((apply EM.lstS); (focus sizeOf_list_dec))
  | ((apply EM.sumS); (focus sizeOf_list_dec))
  | ((apply EM.tupSL); (focus sizeOf_list_dec))
  | ((apply EM.tupST); (focus sizeOf_list_dec))
  | ((apply EM.mk1_bs); (focus (with_reducible assumption)))
  | ((apply lenR); (focus sizeOf_list_dec); (focus omega))
  | ((apply EM.zpT); (focus sizeOf_list_dec); (focus sizeOf_list_dec))
  | ((apply EM.rdg_bs); (focus sizeOf_list_dec))
  | ((with_reducible refine EM.New.bs (by with_reducible assumption) ?_ ?_); (focus (intro _ z; cases z; done)))
  | ((with_reducible refine EM.gMu ?_); (with_reducible apply EM.mu_bs); (focus (with_reducible assumption)); (focus sizeOf_list_dec); (focus (apply EM.nel2; (focus (with_reducible assumption)); (focus (with_reducible assumption)))); intro _ _ _)
  | intro _
  | (apply And.intro; (focus array_get_dec))
  | apply Exists.intro
  | (refine EM.draw_bs (by with_reducible assumption) ?_ ?_ ?_ ?_; (focus array_get_dec); (focus array_get_dec); (focus (first | decide | omega)))
  | (apply EM.pick_bs; (focus (with_reducible assumption)); (focus array_get_dec); (focus sizeOf_list_dec); (focus (exact Nat.le_of_ble_eq_true rfl)); (focus (exact Nat.le_of_ble_eq_true rfl)))
  | ((apply EM.repr_sw); (focus infer_instance); (focus nofun); (focus decide))
  | ((apply EM.eqd_same); (focus infer_instance); (focus infer_instance); (focus nofun); (focus decide))
  | ((apply EM.ned_same); (focus infer_instance); (focus infer_instance); (focus nofun); (focus decide))
  | ((apply EM.eqd_sw); (focus infer_instance); (focus infer_instance); (focus nofun); (focus nofun); (focus decide))
  | ((apply EM.ned_sw); (focus infer_instance); (focus infer_instance); (focus nofun); (focus nofun); (focus decide))
  | (refine EM.cut_bs (by with_reducible assumption) ?_ ?_ ?_; (focus array_get_dec); (focus array_get_dec)))))
section
variable {P : Program} {w : World} {K : PySem.W.Frag} {mg : Str → Option Value} {base : Heap}
theorem pe_mkR1 {K : PySem.W.Frag} {mg : Str → Option Value} (T : Tx K mg) {X : Cx} (hr : Room 3 X.A) {e1 : Expr} {es : List Expr} {ta : TA} {p pos : Pos} (ha : PA X (e1 :: es) ta) (hg : Gl X "Ratio" := by rfl) (he : starEach (e1 :: es) X.env = (false, eval e1 X.env) :: starEach es X.env := by rfl) (hpl : (backTo pos (starEach es X.env)).any (·.1) = false := by rfl) (eK : X.K = K := by rfl) (eM : X.mg = mg := by rfl) :
    PE X (.Call (.Name "Ratio" p) (e1 :: es) [] pos) (tCR (Sw (spMkN1 K)) E0 ta) := by
  subst eK eM
  exact (EM.pe_mkR (E := E0) T.mk_Ratio (ok_Ratio1 T) hr T.g_Ratio passL ha.mc hg (by decide) he hpl).of fun σ H Q q => ⟨_, q, fun vs H1 ⟨⟨t, e, k⟩⟩ x dx hx hdx ndx => by
    subst e
    exact mk_Rat (by decide) (by decide) k x dx hx hdx ndx⟩
theorem ok_need_alike (T : Tx K mg) : FnR P w K mg base (L2.CX P w) 3 (He.ga K "need_alike") (spAlike K) := by
  obtain ⟨fd, F⟩ := T.d_need_alike
  refine EM.fnr F sc_need_alike (fun _ _ _ _ _ _ us hl => match us, hl with | [_, _], _ => rfl) (fun vs H Q E h => ?_) (fun cdv A outer s H vs Q E hr h => ?_)
  · obtain ⟨p, q, r, rq, xs, es, rfl, _⟩ := h
    rfl
  · obtain ⟨p, q, r, rq, xs, es, rfl, aq, rd, l1, l2, h⟩ := h
    have tk := takes_of (X := cxOf (L2.CX P w) P w K mg base ["one", "other"] "need_alike" (defScope s_need_alike) (He.ga K "need_alike") cdv A outer s H E) (E := E) rfl rfl rfl rfl
    refine ⟨_, (pss_one (ps_if (pt_cmpR op_ne (pe_callB EM.call_lenN (by rfl) T.f_len boot_len (pa_cons (pv 0) pa_nil)) (pe_callB (call_lenR T (hr.mono (by decide))) (by rfl) T.f_len boot_len (pa_cons (pv 1) pa_nil)) (nomark _))
  (pss_one (ps_raise rfl tk (EM.pmk_own0 PySem.F.excBase_ValueError T.xi_Unlike T.g_Unlike T.xk_Unlike (raises_own T.xb_Unlike T.xt_Unlike)))) pss_nil)), ?_⟩
    repeat' array_mem_dec
    refine ifNeI (fun z => ?_) (fun z => ?_)
    · rcases h with ⟨e, _⟩ | ⟨_, bad⟩
      · exact absurd (by rw [e]) z
      · repeat' array_mem_dec
        --A1
        all_goals exact bad
    · rcases h with ⟨_, k⟩ | ⟨e, _⟩
      · repeat' array_mem_dec
        all_goals exact k
      · omega
theorem ok_weighed (T : Tx K mg) : FnR P w K mg base (L2.CX P w) 7 (He.ga K "weighed") (spWeighed K) := by
  obtain ⟨fd, F⟩ := T.d_weighed
  refine EM.fnr F sc_weighed (fun _ _ _ _ _ _ us hl => match us, hl with | [_, _], _ => rfl) (fun vs H Q E h => ?_) (fun cdv A outer s H vs Q E hr h => ?_)
  · obtain ⟨T0, p, l, a, q, n, ws, xs, es, D, M, W, rfl, _⟩ := h
    rfl
  · obtain ⟨T0, p, l, a, q, n, ws, xs, es, D, M, W, rfl, B0, aW, aq, rr, ok, k⟩ := h
    have hx := rr.len
    have hl := ok.len
    have hl2 := ok.l128
    have zm : ((0 : Int), (1 : Int)) = (0, 1) := rfl
    refine ⟨_, (PSs.nox (pss_cons (ps_set (i := 2) sc_weighed.nd rfl (Or.inl rfl) (pe_mkR1 T (hr.mono (by decide)) (pa_cons pe_int pa_nil)))
 (pss_cons (EM.forN (ps_for PassesOwn.never rfl (EM.pi_zipTN (by rfl) T.f_zip (pa_cons (pv 0) (pa_cons (pv 1) pa_nil))).mc (pg_tup (by rfl) (pgs_cons (pg_name (i := 3) sc_weighed.nd rfl (Or.inl rfl)) (pgs_cons (pg_name (i := 4) sc_weighed.nd rfl (Or.inl rfl)) pgs_nil)))
  (pss_one (ps_if (pt_cmpR op_ne (pv 3) pe_int (nomark _))
  (pss_one (ps_set (i := 2) sc_weighed.nd rfl (Or.inl rfl) (pe_op (op_addN_ T (hr.mono (by decide))) (pv 2) (pe_op (op_mulN_ T (hr.mono (by decide))) (pv 4) (pv 3))))) pss_nil))))
 (pss_one (ps_ret (pv 2)))))), ?_⟩
    repeat' array_mem_dec
    --W1
    rename_i c0 H1 x1 B1 r1
    have dv0 : Dv D (0 * (M * W)) ((0 : Int), (1 : Int)) := ⟨low_one 0, Int.one_dvd _, by show ((0 : Int).natAbs : Int) ≤ _; rw [Nat.zero_mul]; decide⟩
    refine FoS.it (walk_zipT rfl) (fun i σ H2 => Hold (∃ c f v3 v4, σ = [some (.ref a), some (.ref q), some (.ref c), v3, v4] ∧ RatP K p H2 c f.1 f.2 ∧ Dv D (i * (M * W)) f ∧ sc D f = dotN i ws (es.map (sc D)) ∧ Ext p H H2 ∧ Bs T0 p l n H2)) ⟨⟨c0, (0, 1), _, _, rfl, r1, dv0, by rw [dotN_zero]; exact Int.zero_mul _, x1, B1⟩⟩ (fun i σ H2 _ ⟨⟨_, _, _, _, _, _, _, _, x, _⟩⟩ => ⟨SqT.of (aW.ext x).at_, SqT.of (aq.ext x).at_⟩) ?_ ?_
    · rintro i y σ H2 H3 hi ⟨⟨c, f, v3, v4, rfl, rc, dvf, scf, x02, B2⟩⟩ hy
      obtain ⟨Wp, a', b', rfl, ea, eb, x3, B3, aWp⟩ := yp_open B2 hy
      rw [List.getElem?_map] at ea
      obtain ⟨w, ew, rfl⟩ := Option.map_eq_some_iff.mp ea
      have il : i < ws.length := (List.getElem?_eq_some_iff.mp ew).1
      obtain ⟨e, ee⟩ : ∃ e, es[i]? = some e := ⟨_, List.getElem?_eq_getElem (by omega)⟩
      have x03 := x02.trans x3
      obtain ⟨b2, eb2, rb⟩ := (rr.ext x03).get ee
      cases (eb.symm.trans eb2)
      have dve := ok.dv e (List.mem_of_getElem? ee)
      have dvw := Dv.one (ok.wb w (List.mem_of_getElem? ew))
      have dvp : Dv D (M * W) (mulF (w, 1) e) := by
        have := dvw.mul dve
        rwa [Nat.mul_one] at this
      have scp := sc_muli ok.d0 dve w
      have rc3 := rc.ext x3
      have nb := rb.num dve.low
      have ec : (es.map (sc D))[i]? = some (sc D e) := by rw [List.getElem?_map, ee]; rfl
      have dn := dotN_succ ew ec
      have bf := dvf.bt (k := 300) (m := 598) ok.d0 ok.dB (ok.imw (i := i) (by omega))
      have be := dve.bt (k := 300) (m := 300) ok.d0 ok.dB ok.mB
      have bp := dvp.bt (k := 300) (m := 590) ok.d0 ok.dB ok.mw
      have bw : Bt 290 w := by
        have := ok.wb w (List.mem_of_getElem? ew)
        exact Nat.lt_of_le_of_lt this ok.wB
      have be1 := be.1
      have be2 := be.2
      have bf1 := bf.1
      have bf2 := bf.2
      have bp1 := bp.1
      have bp2 := bp.2
      have lof := dvf.low
      have nf := rc3.num lof
      clear hy eb eb2 x02 B2 x3 rc be bf bp ea
      repeat' array_mem_dec
      --W2
      refine ifNeI (fun z => ?_) (fun z => ?_)
      · repeat' array_mem_dec
        refine Rw.bs (x := e.1 * w) (y := e.2 * 1) B3 fun a2 H4 x4 B4 r4 => ?_
        have r4' : RatP K p H4 a2 (mulF (w, 1) e).1 (mulF (w, 1) e).2 := r4
        have n4 := r4'.num dvp.low
        have nf4 := nf.ext x4
        have rc4 := rc3.ext x4
        clear r4
        repeat' array_mem_dec
        --W3
        refine Rw.bs (x := f.1 * (mulF (w, 1) e).2 + (mulF (w, 1) e).1 * f.2) (y := f.2 * (mulF (w, 1) e).2) B4 fun a5 H5 x5 B5 r5 => ?_
        repeat' array_mem_dec
        exact ⟨⟨a5, addF (mulF (w, 1) e) f, _, _, rfl, r5, (dvp.add dvf).mono (Nat.dvd_refl _) (by rw [Nat.add_mul, Nat.one_mul]; exact Nat.le_refl _), by rw [dvp.sc_add dvf, scf, scp, dn, Int.mul_comm w], x03.trans (x4.trans x5), B5⟩⟩
      · subst z
        repeat' array_mem_dec
        exact ⟨⟨c, f, _, _, rfl, rc3, dvf.mono (Nat.dvd_refl _) (Nat.mul_le_mul_right _ (Nat.le_succ i)), by rw [scf, dn, Int.zero_mul, Int.add_zero], x03, B3⟩⟩
    · rintro σ H2 ⟨⟨c, f, v3, v4, rfl, rc, dvf, scf, x02, B2⟩⟩
      repeat' array_mem_dec
      have me : min (ws.map V.int).length xs.length = ws.length := by rw [List.length_map]; omega
      exact k c f H2 x02 B2 rc (dvf.mono (Nat.dvd_refl _) (Nat.mul_le_mul_right _ (by omega))) (by rw [scf]; exact dotN_all (by omega))
theorem len_Duel_weigh {K : PySem.W.Frag} : ∀ vs H Q E, (spWeigh K) vs H Q E → vs.length = ["self", "reading"].length := by
  rintro vs H Q E ⟨T0, p, l, d, r, rq, n, ws, e, es, rfl, _⟩
  rfl
theorem bod_Duel_weigh (T : Tx K mg) (f : Addr) : Bod P w K mg base ["self", "reading"] "Duel.weigh" (defScope s_Duel_weigh) f (defBody s_Duel_weigh) 8 (spWeigh K) := by
  intro cdv A outer s H vs Q E hr h
  · obtain ⟨T0, p, l, d, r, rq, n, ws, e, es, rfl, B0, ⟨dx, q, a, h1, h2, h3, h4⟩, rd, l1, l2, h⟩ := h
    have tk := takes_of (X := cxOf (L2.CX P w) P w K mg base ["self", "reading"] "Duel.weigh" (defScope s_Duel_weigh) (f) cdv A outer s H E) (E := E) rfl rfl rfl rfl
    obtain ⟨dr, xs, i1, i2, i3⟩ := id rd
    refine ⟨_, (pss_cons (ps_expr (EM.pe_cR ((ok_need_alike T).sw) (hr.mono (by decide)) T.k_need_alike T.g_need_alike (passes_call tk (fun _ _ _ _ h => h)) (pa_cons (EM.pe_fldN (pv 0)) (pa_cons (pv 1) pa_nil))))
 (pss_one (ps_ret (EM.pe_cR ((ok_weighed T).sw) (hr.mono (by decide)) T.k_weighed T.g_weighed passL (pa_cons (EM.pe_fldN (pv 0)) (pa_cons (pe_redges T (hr.mono (by decide)) (pv 1)) pa_nil)))))), ?_⟩
    repeat' array_mem_dec
    --X1
    refine ⟨⟨p, q, r, rq, _, es, rfl, h2, rd, by rw [List.length_map]; omega, by omega, ?_⟩⟩
    rw [List.length_map]
    rcases h with ⟨ne, bad⟩ | ⟨D, M, W, ok, k⟩
    · exact .inr ⟨ne, bad⟩
    refine .inl ⟨ok.len, ?_⟩
    repeat' array_mem_dec
    --X2
    exact ⟨⟨T0, p, l, q, rq, n, ws, xs, es, D, M, W, rfl, B0, h2, i2, i3, ok, k⟩⟩
theorem ok_Duel_weigh (T : Tx K mg) : FnR P w K mg base (L2.CX P w) 9 (He.ma K (He.ga K "Duel") "weigh") (spWeigh K) := by
  obtain ⟨fd, F⟩ := T.d_Duel_weigh
  exact EM.fnr F sc_Duel_weigh (fun _ _ _ _ _ _ us hl => match us, hl with | [_, _], _ => rfl) len_Duel_weigh (bod_Duel_weigh T _)
theorem ok_Duel_weighK (T : Tx K mg) : FnK P w K mg base (L2.CX P w) 9 (He.ma K (He.ga K "Duel") "weigh") ["reading"] (fun vs zs H Q E => vs.length = 1 ∧ zs.length = ["reading"].length ∧ (spWeigh K) (vs ++ zs) H Q E) := by
  obtain ⟨fd, F⟩ := T.d_Duel_weigh
  exact EM.fnk1 F sc_Duel_weigh (fun _ _ _ _ _ _ us ws h1 h2 => match us, h1, ws, h2 with | [_], _, [_], _ => rfl) len_Duel_weigh (bod_Duel_weigh T _)
theorem len_Duel_call {K : PySem.W.Frag} : ∀ vs H Q E, (spCall K) vs H Q E → vs.length = ["self", "reading"].length := by
  rintro vs H Q E ⟨T0, p, l, d, r, rq, n, ws, e, es, rfl, _⟩
  rfl
theorem bod_Duel_call (T : Tx K mg) (f : Addr) : Bod P w K mg base ["self", "reading", "measured"] "Duel.__call__" (defScope s_Duel_call) f (defBody s_Duel_call) 10 (spCall K) := by
  intro cdv A outer s H vs Q E hr h
  · obtain ⟨T0, p, l, d, r, rq, n, ws, e, es, rfl, B0, dp, rd, l1, l2, h⟩ := h
    have tk := takes_of (X := cxOf (L2.CX P w) P w K mg base ["self", "reading", "measured"] "Duel.__call__" (defScope s_Duel_call) (f) cdv A outer s H E) (E := E) rfl rfl rfl rfl
    obtain ⟨dx, q, a, h1, h2, h3, h4⟩ := id dp
    refine ⟨_, (pss_cons (ps_set (i := 2) sc_Duel_call.nd rfl (Or.inl rfl) ((EM.pe_mR (pv 0) T.cl_Duel T.m_Duel_weigh (ok_Duel_weigh T).sw (hr.mono (by decide)) (passes_call tk (fun _ _ _ _ h => h)) (pa_cons (pv 1) pa_nil))))
 (pss_cons (ps_if (pt_cmpR (op_rEq T (hr.mono (by decide))) (pv 2) (EM.pe_fldN (pv 0)) (nomark _))
  (pss_one (ps_ret pe_int)) pss_nil)
 (pss_one (ps_ret (pe_ifExp (pt_cmpR (op_rGt T (hr.mono (by decide))) (pv 2) (EM.pe_fldN (pv 0)) (nomark _)) pe_int (pe_un un_neg pe_int)))))), ?_⟩
    repeat' array_mem_dec
    --Y1
    refine ⟨⟨T0, p, l, d, r, rq, n, ws, e, es, rfl, B0, dp, rd, l1, l2, ?_⟩⟩
    rcases h with ⟨ne, bad⟩ | ⟨D, M, W, N, ok, dve, nB, k⟩
    · exact .inl ⟨ne, bad⟩
    refine .inr ⟨D, M, W, ok, fun c f H1 x1 B1 rc dvf scf => ?_⟩
    have bf := dvf.bt (k := 300) (m := 598) ok.d0 ok.dB (ok.imw (Nat.le_refl _))
    have be := dve.bt (k := 300) (m := 600) ok.d0 ok.dB nB
    have bf1 := bf.1
    have bf2 := bf.2
    have be1 := be.1
    have be2 := be.2
    have lof := dvf.low
    have nf := rc.num lof
    have g1 := h1.ext x1
    have nl := (h3.ext x1).num h4
    clear bf be h1 h2 h3 dp rd
    repeat' array_mem_dec
    --Y2
    rename_i H2 x2 B2
    rw [rel_eq lof h4]
    by_cases z : (f.1, f.2) = (e.1, e.2)
    · rw [decide_eq_true z]
      have : f = e := z
      refine ite2 (fun _ => ?_) (fun z => absurd rfl z)
      have k2 := k H2 (x1.trans x2) B2
      rw [← scf, this] at k2
      unfold sgn at k2
      rw [if_pos rfl] at k2
      repeat' array_mem_dec
      all_goals exact k2
    · rw [decide_eq_false z]
      refine ite2 (fun z => absurd z Bool.false_ne_true) (fun _ => ?_)
      have ne : sc D f ≠ sc D e := fun w => z (Dv.sc_inj ok.d0 dvf dve w)
      have g2 := g1.ext x2
      have nf2 := nf.ext x2
      have nl2 := nl.ext x2
      repeat' array_mem_dec
      --Y3
      rename_i H3 x3 B3
      have k3 := k H3 (x1.trans (x2.trans x3)) B3
      rw [← scf] at k3
      unfold sgn at k3
      rw [if_neg ne] at k3
      by_cases w : e.1 * f.2 < f.1 * e.2
      · have w2 := (Dv.sc_lt ok.d0 dve dvf).mp w
        rw [if_pos w2] at k3
        refine ite2 (fun _ => ?_) (fun z => absurd (decide_eq_true w) z)
        repeat' array_mem_dec
        all_goals exact k3
      · have w2 : ¬ sc D e < sc D f := fun y => w ((Dv.sc_lt ok.d0 dve dvf).mpr y)
        rw [if_neg w2] at k3
        refine ite2 (fun z => absurd (of_decide_eq_true z) w) (fun _ => ?_)
        repeat' array_mem_dec
        all_goals exact k3
theorem ok_Duel_call (T : Tx K mg) : FnR P w K mg base (L2.CX P w) 11 (He.ma K (He.ga K "Duel") "__call__") (spCall K) := by
  obtain ⟨fd, F⟩ := T.d_Duel_call
  exact EM.fnr F sc_Duel_call (fun _ _ _ _ _ _ us hl => match us, hl with | [_, _], _ => rfl) len_Duel_call (bod_Duel_call T _)
theorem ok_Duel_callK (T : Tx K mg) : FnK P w K mg base (L2.CX P w) 11 (He.ma K (He.ga K "Duel") "__call__") ["reading"] (fun vs zs H Q E => vs.length = 1 ∧ zs.length = ["reading"].length ∧ (spCall K) (vs ++ zs) H Q E) := by
  obtain ⟨fd, F⟩ := T.d_Duel_call
  exact EM.fnk1 F sc_Duel_call (fun _ _ _ _ _ _ us ws h1 h2 => match us, h1, ws, h2 with | [_], _, [_], _ => rfl) len_Duel_call (bod_Duel_call T _)
end
end K41
namespace K41
open PySem PySem.Spec PyProof.Rows L2 EM
abbrev tx (i : Int) : Str := Str.ofString (toString i)
/-- the text of a fraction -/
def rtx (e : Int × Int) : Str := if e.2 = 1 then tx e.1 else tx e.1 ++ ("/" ++ tx e.2)
/-- the text of a row -/
def rdtx (es : List (Int × Int)) : Str := Txt.join " " (es.map rtx)
theorem tx_len {i : Int} (h : Bt 1900 i) : (tx i).length ≤ 1921 := int_text_len_1921 (Nat.lt_trans (h.log (by decide)) (by decide))
theorem rtx_len {e : Int × Int} (h1 : Bt 1900 e.1) (h2 : Bt 1900 e.2) : (rtx e).length ≤ 3843 := by
  have a := tx_len h1
  have b := tx_len h2
  unfold rtx
  split
  · omega
  · rw [Str.length_append, Str.length_append, show ("/" : Str).length = 1 from by decide +kernel]
    omega
theorem rtx_sum (es : List (Int × Int)) (h : ∀ e ∈ es, Bt 1900 e.1 ∧ Bt 1900 e.2) : ((es.map rtx).map (·.length)).sum ≤ 3843 * es.length := by
  induction es with
  | nil => simp
  | cons x r ih =>
    have h1 := h x List.mem_cons_self
    have h2 := rtx_len h1.1 h1.2
    have h3 := ih fun y hy => h y (List.mem_cons_of_mem _ hy)
    simp only [List.map_cons, List.sum_cons, List.length_cons] at h3 ⊢
    omega
def spRStr (K : PySem.W.Frag) : Sp := fun vs H Q _ => ∃ (p : Addr) (t b : Int), vs = [.ref p] ∧ RatAt K H p t b ∧ Bt 1900 t ∧ Bt 1900 b ∧ Q (.str (rtx (t, b))) H
structure StrT (K : PySem.W.Frag) (vs : List V) (H : Hp) (Q : VK) : Prop where
  h : ∃ a t b, vs = [.ref a] ∧ RatAt K H a t b ∧ Bt 1900 t ∧ Bt 1900 b ∧ Q (.str (rtx (t, b))) H
theorem str_bs {K : PySem.W.Frag} {p a : Addr} {H : Hp} {t b : Int} {Q : VK} (ra : RatP K p H a t b) (bt : Bt 1900 t) (bb : Bt 1900 b) (k : Q (.str (rtx (t, b))) H) : StrT K [.ref a] H Q := ⟨a, t, b, rfl, ra.rat, bt, bb, k⟩
def spRdStr (K : PySem.W.Frag) : Sp := fun vs H Q _ => ∃ (T : List (Addr × Str)) (p l r q : Addr) (n : Nat) (es : List (Int × Int)), vs = [.ref r] ∧ Bs T p l n H ∧ RdP K p H r q es ∧ (∀ e ∈ es, Bt 1900 e.1 ∧ Bt 1900 e.2) ∧ es.length ≤ 128 ∧ ∀ H', Ext p H H' → Bs T p l n H' → Q (.str (rdtx es)) H'
structure StrR (K : PySem.W.Frag) (vs : List V) (H : Hp) (Q : VK) : Prop where
  h : spRdStr K vs H Q E0
def spTextF : Sp := fun vs H Q _ => ∃ u l : Int, vs = [.int u, .int l] ∧ 0 < l ∧ Bt 1900 u ∧ Bt 1900 l ∧ Q (.str (rtx (nTop u l, nBot u l))) H
theorem textF_bs {u l : Int} {H : Hp} {Q : VK} {E : XK} (l0 : 0 < l) (bu : Bt 1900 u) (bl : Bt 1900 l) (k : Q (.str (rtx (nTop u l, nBot u l))) H) : Sw spTextF [.int u, .int l] H Q E := ⟨⟨u, l, rfl, l0, bu, bl, k⟩⟩
/-- the text of what was reckoned -/
theorem dv_text {D M : Nat} {f : Int × Int} (hD : 0 < D) (h : Dv D M f) : f = (nTop (sc D f) D, nBot (sc D f) D) := by
  have d0 : (D : Int) ≠ 0 := by omega
  have h1 := h.sc_mul
  have lo := n_low (t := sc D f) d0
  have c := n_cross (t := sc D f) (b := (D : Int))
  have e : f.1 * nBot (sc D f) D = nTop (sc D f) D * f.2 := by
    have z : (f.1 * nBot (sc D f) D - nTop (sc D f) D * f.2) * D = 0 := by
      have a1 : (f.1 * nBot (sc D f) D - nTop (sc D f) D * f.2) * D = (f.1 * D) * nBot (sc D f) D - (nTop (sc D f) D * D) * f.2 := by grind
      rw [a1, c, ← h1]
      grind
    rcases Int.mul_eq_zero.mp z with z | z
    · omega
    · exact absurd z d0
  obtain ⟨e1, e2⟩ := low_eq h.low lo e
  exact Prod.ext e1 e2
section
variable {P : Program} {w : World} {K : PySem.W.Frag} {mg : Str → Option Value} {base : Heap}
theorem ok_Ratio_str (T : Tx K mg) : FnR P w K mg base (L2.CX P w) 1 (He.ma K (He.ga K "Ratio") "__str__") (spRStr K) := by
  obtain ⟨fd, F⟩ := T.d_Ratio_str
  refine EM.fnr F sc_Ratio_str (fun _ _ _ _ _ _ us hl => match us, hl with | [_], _ => rfl) (fun vs H Q E h => ?_) (fun cdv A outer s H vs Q E hr h => ?_)
  · obtain ⟨p, t, b, rfl, _⟩ := h
    rfl
  · obtain ⟨p, t, b, rfl, ⟨dx, hp⟩, st, sb, k⟩ := h
    have lt := tx_len st
    have lb := tx_len sb
    have zl : 50000 ≤ sizeLine := by decide
    refine ⟨_, (PSs.nox (pss_cons (ps_if (pt_cmpR op_eq (pe_fld (pv 0) rfl) pe_int (nomark _))
  (pss_one (ps_ret (pe_callTy call_str_int (by rfl) T.f_str (by decide +kernel) (pa_cons (pe_fld (pv 0) rfl) pa_nil)))) pss_nil)
 (pss_one (ps_ret (pe_joined (.cons (pe_fmt (pe_fld (pv 0) rfl)) (.cons pe_str (.cons (pe_fmt (pe_fld (pv 0) rfl)) .nil)))))))), ?_⟩
    refine ⟨_, rfl, p, _, dx, _, .int b, rfl, hp, T.cl_Ratio, T.na_Ratio_bottom, rfl, rfl, _, rfl, ite2 (fun c => ?_) (fun c => ?_)⟩
    · have b1 : b = 1 := by simpa using c
      have e : rtx (t, b) = tx t := if_pos b1
      rw [e] at k
      exact ⟨_, rfl, p, _, dx, _, .int t, rfl, hp, T.cl_Ratio, T.na_Ratio_top, rfl, t, rfl, Nat.lt_trans (st.log (by decide)) (by decide), k⟩
    · have b1 : ¬ b = 1 := by simpa using c
      have e : rtx (t, b) = Str.empty ++ tx t ++ "/" ++ tx b := by
        rw [Str.empty_append, Str.append_assoc]
        exact if_neg b1
      rw [e] at k
      refine ⟨_, rfl, p, _, dx, _, .int t, rfl, hp, T.cl_Ratio, T.na_Ratio_top, rfl, .inr ⟨t, rfl, Nat.lt_trans (st.log (by decide)) (by decide), _, rfl, ?_, _, rfl, ?_, _, rfl, p, _, dx, _, .int b, rfl, hp, T.cl_Ratio, T.na_Ratio_bottom, rfl, .inr ⟨b, rfl, Nat.lt_trans (sb.log (by decide)) (by decide), _, rfl, ?_, k⟩⟩⟩
      · rw [Str.empty_append]
        show (tx t).length ≤ _
        omega
      · rw [Str.empty_append, Str.length_append, show ("/" : Str).length = 1 from by decide +kernel]
        show (tx t).length + 1 ≤ _
        omega
      · rw [Str.empty_append, Str.length_append, Str.length_append, show ("/" : Str).length = 1 from by decide +kernel]
        show (tx t).length + 1 + (tx b).length ≤ _
        omega
theorem call_strT {K : PySem.W.Frag} {mg : Str → Option Value} (T : Tx K mg) {X : Cx} (hr : Room 4 X.A) (e1 : X.K = K := by rfl) (e2 : X.mg = mg := by rfl) : CallR X (.type "str") (StrT K) := by
  subst e1 e2
  exact callR_of (EM.call_strO (E := E0) T.m_Ratio_str.at_ T.m_Ratio_str.fn (ok_Ratio_str (P := X.prog) (w := X.w) (base := X.base) T) (hr.mono (by decide)) passL) fun xs H Q ⟨⟨a, t, b, e, ⟨dx, ra⟩, bt, bb, k⟩⟩ => ⟨a, dx, _, e, ra, a, t, b, rfl, ⟨dx, ra⟩, bt, bb, _, rfl, k⟩
local macro_rules | `(tactic| sizeOf_list_dec) => `(tactic| first
  | with_reducible assumption
  | ((with_reducible apply EM.At.ext); (focus (with_reducible assumption)); (focus sizeOf_list_dec))
  | ((with_reducible apply EM.RatP.ext); (focus (with_reducible assumption)); (focus sizeOf_list_dec))
  | ((with_reducible apply EM.NumP.ext); (focus (with_reducible assumption)); (focus sizeOf_list_dec))
  | (with_reducible exact EM.Ext.refl)
  | ((with_reducible apply EM.Ext.back); (focus (with_reducible assumption)); (focus sizeOf_list_dec))
  | exact EM.NumP.int _
  | ((with_reducible apply EM.Mu.at_k); (focus (with_reducible assumption)); (focus sizeOf_list_dec); (focus sizeOf_list_dec); (focus (intro _ z; cases z; done)))
  | ((with_reducible apply EM.Mu.at_n); (focus (with_reducible assumption)); (focus sizeOf_list_dec); (focus (first | with_reducible assumption | ((apply EM.nn1); (focus (with_reducible assumption)); (focus sizeOf_list_dec)) | ((apply EM.nn2); (focus (with_reducible assumption)); (focus sizeOf_list_dec)))))
  | ((with_reducible apply EM.Mu.here); (focus (with_reducible assumption)); (focus sizeOf_list_dec))
  | ((with_reducible apply EM.Mu.rat); (focus (with_reducible assumption)); (focus sizeOf_list_dec); (focus sizeOf_list_dec))
  | ((with_reducible apply EM.Mu.num); (focus (with_reducible assumption)); (focus sizeOf_list_dec); (focus sizeOf_list_dec))
  | ((with_reducible apply EM.num_of_rat); (focus sizeOf_list_dec); (focus (first | with_reducible assumption | (apply EM.n_low; assumption))))
  | ((with_reducible apply EM.RatsP.xt); (focus (with_reducible assumption)); (focus sizeOf_list_dec))
  | ((with_reducible apply EM.NumsP.xt); (focus (with_reducible assumption)); (focus sizeOf_list_dec))
  | ((with_reducible apply EM.PairsP.xt); (focus (with_reducible assumption)); (focus sizeOf_list_dec))
  | ((with_reducible apply EM.RdP.xt); (focus (with_reducible assumption)); (focus sizeOf_list_dec))
  | ((with_reducible apply EM.Mu.rats); (focus (with_reducible assumption)); (focus sizeOf_list_dec); (focus sizeOf_list_dec))
  | ((with_reducible apply EM.Mu.pairs); (focus (with_reducible assumption)); (focus sizeOf_list_dec); (focus sizeOf_list_dec))
  | ((with_reducible apply EM.Mu.rdp); (focus (with_reducible assumption)); (focus sizeOf_list_dec); (focus sizeOf_list_dec))
  | ((with_reducible apply EM.SeqV.xt); (focus (with_reducible assumption)); (focus sizeOf_list_dec)))
local macro_rules | `(tactic| decreasing_trivial_pre_omega) => `(tactic| first
  | with_reducible assumption
  | exact EM.Bt.mono (by with_reducible assumption) (by decide)
  | exact EM.Bt.lit _ _ (by decide +kernel)
  | ((with_reducible refine EM.Bt.rng32 ?_ ?_) <;> omega)
  | ((with_reducible refine EM.Bt.rng70 ?_ ?_) <;> omega)
  | ((with_reducible refine EM.Bt.rng200 ?_ ?_) <;> omega)
  | ((with_reducible apply EM.Bt.mulM); (focus decreasing_trivial_pre_omega); (focus decreasing_trivial_pre_omega); (focus (first | decide | exact Nat.le_refl _)))
  | ((with_reducible apply EM.Bt.addM); (focus decreasing_trivial_pre_omega); (focus decreasing_trivial_pre_omega); (focus (first | decide | exact Nat.le_refl _)))
  | ((with_reducible apply EM.Bt.subM); (focus decreasing_trivial_pre_omega); (focus decreasing_trivial_pre_omega); (focus (first | decide | exact Nat.le_refl _)))
  | ((with_reducible apply EM.Bt.topL); (focus decreasing_trivial_pre_omega); (focus assumption); (focus (first | decide | exact Nat.le_refl _)))
  | ((with_reducible apply EM.Bt.botL); (focus decreasing_trivial_pre_omega); (focus assumption); (focus (first | decide | exact Nat.le_refl _)))
  | ((with_reducible apply EM.Bt.divM); (focus decreasing_trivial_pre_omega); (focus assumption); (focus (first | decide | exact Nat.le_refl _)))
  | ((with_reducible apply EM.Bt.negM); (focus decreasing_trivial_pre_omega); (focus (first | decide | exact Nat.le_refl _))))
local macro_rules | `(tactic| array_get_dec) => `(tactic| first
  | with_reducible assumption
  | ((with_reducible refine EM.gEq ?_); exact rfl)
  | ((with_reducible refine EM.gTru ?_); exact rfl)
  | ((with_reducible refine EM.gRef ?_); first | exact Or.inl ⟨_, rfl⟩ | exact Or.inr ⟨_, rfl⟩)
  | ((with_reducible apply EM.At.get); sizeOf_list_dec)
  | ((with_reducible apply EM.At.sqL); sizeOf_list_dec)
  | ((with_reducible apply EM.At.sqT); sizeOf_list_dec)
  | ((with_reducible apply EM.RatP.getK); (focus sizeOf_list_dec); (focus (exact rfl)))
  | (with_reducible exact EM.Num.int _)
  | ((with_reducible apply EM.NumP.getK); (focus sizeOf_list_dec); (focus (exact rfl)))
  | ((with_reducible apply EM.At.ext); (focus (with_reducible assumption)); (focus sizeOf_list_dec))
  | ((with_reducible apply EM.RatP.ext); (focus (with_reducible assumption)); (focus sizeOf_list_dec))
  | ((with_reducible apply EM.NumP.ext); (focus (with_reducible assumption)); (focus sizeOf_list_dec))
  | with_reducible exact Tx.cl_Ratio (by assumption)
  | with_reducible exact Tx.cl_Reading (by assumption)
  | with_reducible exact Tx.cl_Duel (by assumption)
  | with_reducible exact Tx.na_Ratio_top (by assumption)
  | with_reducible exact Tx.na_Ratio_bottom (by assumption)
  | with_reducible exact Tx.na_Reading_own_edges (by assumption)
  | with_reducible exact Tx.na_Duel_weights (by assumption)
  | with_reducible exact Tx.na_Duel_level (by assumption)
  | ((with_reducible refine EM.gAt ?_); sizeOf_list_dec)
  | ((with_reducible refine EM.gRat ?_); sizeOf_list_dec)
  | ((with_reducible refine EM.gNum ?_); sizeOf_list_dec)
  | ((with_reducible apply EM.TwoP.mk); (focus (with_reducible assumption)); (focus sizeOf_list_dec); (focus (first | with_reducible assumption | (apply EM.n_low; assumption))); (focus sizeOf_list_dec); (focus decreasing_trivial_pre_omega); (focus decreasing_trivial_pre_omega); (focus decreasing_trivial_pre_omega); (focus decreasing_trivial_pre_omega))
  | (with_reducible exact EM.Ext.refl)
  | ((with_reducible apply EM.Ext.back); (focus (with_reducible assumption)); (focus sizeOf_list_dec))
  | ((with_reducible apply EM.Bs.mono); (focus (with_reducible assumption)); omega)
  | ((with_reducible refine EM.gN ?_); first | decide | omega | exact Nat.le_of_ble_eq_true rfl | (simp only [List.length_cons, List.length_nil, List.length_append]; omega))
  | ((with_reducible refine EM.gM ?_); first | decide | omega | exact Nat.le_of_ble_eq_true rfl)
  | ((with_reducible refine EM.gI ?_); first | decide | omega)
  | ((with_reducible refine EM.gJ ?_); first | decide | omega)
  | ((with_reducible refine EM.gE ?_); first | decide | omega)
  | ((with_reducible refine EM.gB ?_); decreasing_trivial_pre_omega)
  | ((with_reducible apply EM.wideM); (focus decreasing_trivial_pre_omega); (focus decreasing_trivial_pre_omega); (focus decide)))
local macro_rules | `(tactic| infer_instance) => `(tactic| first
  | with_reducible assumption
  | exact DpAll.nil
  | (apply DpAll.cons; (focus infer_instance); (focus infer_instance))
  | with_reducible exact Dp.int _
  | exact Dp.int _
  | with_reducible exact Dp.str _
  | exact Dp.bl _
  | exact Dp.non
  | ((with_reducible apply EM.dp_lst); (focus array_get_dec); (focus infer_instance))
  | ((with_reducible apply EM.dp_tup); (focus array_get_dec); (focus infer_instance))
  | exact EM.dp_ints _)
local macro_rules | `(tactic| nofun) => `(tactic| first
  | with_reducible assumption
  | exact EM.FeL.nil
  | exact EM.FdL.nil
  | (apply EM.FeL.cons; (focus nofun); (focus nofun))
  | (apply EM.FdL.cons; (focus nofun); (focus nofun))
  | exact EM.Fe.int _
  | exact EM.Fe.bool _
  | exact EM.Fe.non
  | exact EM.Fe.str (EM.okS_of _)
  | (apply EM.Fe.str; apply EM.Fd.ok; (focus nofun))
  | (apply EM.Fe.list; (focus nofun))
  | (apply EM.Fe.tup; (focus nofun))
  | (apply EM.Fd.int; (focus decreasing_trivial_pre_omega))
  | exact EM.Fd.bool _
  | exact EM.Fd.non
  | (refine EM.Fd.bool _)
  | (apply EM.Fd.list; (focus nofun))
  | (apply EM.Fd.tup; (focus nofun)))
local macro_rules | `(tactic| array_mem_dec) => `(tactic| ((with_reducible refine EM.pr ?_); first
  | (with_reducible refine L2.iteT ?_)
  | (with_reducible refine L2.iteF ?_)
  | (with_reducible refine EM.ifNotT ?_)
  | (with_reducible refine EM.ifNotF ?_)
  | ((fail_if_success (with_reducible refine EM.gIf ?_)); first
  | array_get_dec
  | (refine EM.mk_low (by with_reducible assumption) (by with_reducible assumption) ?_ ?_; (focus array_get_dec))
  | (apply EM.isNum_sw; (focus sizeOf_list_dec))
  | (apply EM.of_sw; (focus (with_reducible assumption)); (focus sizeOf_list_dec))
  | (apply EM.neg_bs; (focus (with_reducible assumption)); (focus sizeOf_list_dec); (focus array_get_dec); (focus array_get_dec))
  | (apply EM.relw_bs; (focus (with_reducible assumption)); (focus sizeOf_list_dec); (focus sizeOf_list_dec); (focus array_get_dec); (focus decreasing_trivial_pre_omega); (focus decreasing_trivial_pre_omega); (focus decreasing_trivial_pre_omega); (focus decreasing_trivial_pre_omega))
  | ((apply EM.DnS.bs); (focus (with_reducible assumption)); (focus (intro _ z; cases z; done)))
  | ((apply EM.seqL); (focus sizeOf_list_dec))
  | ((apply EM.seqT); (focus sizeOf_list_dec))
  | ((apply EM.lenL); (focus sizeOf_list_dec))
  | ((apply EM.lenT); (focus sizeOf_list_dec))
  | ((apply EM.isSeqL); (focus sizeOf_list_dec); (focus sizeOf_list_dec))
  | ((apply EM.isSeqT); (focus sizeOf_list_dec); (focus sizeOf_list_dec))
  | ((apply EM.tupL); (focus sizeOf_list_dec))
  | ((apply EM.fld_bs); (focus sizeOf_list_dec); (focus (first | exact Tx.cl_Reading (by assumption) | exact Tx.cl_Duel (by assumption))); (focus (first | exact Tx.na_Reading_own_edges (by assumption) | exact Tx.na_Duel_weights (by assumption) | exact Tx.na_Duel_level (by assumption))); (focus (exact rfl)))
  | ((apply EM.seqS); (focus sizeOf_list_dec))
  | ((apply EM.enS); (focus sizeOf_list_dec))
  | ((apply EM.lenS); (focus sizeOf_list_dec))
  | ((apply EM.isSeqS); (focus sizeOf_list_dec); (focus sizeOf_list_dec))
  | ((apply EM.lstS); (focus sizeOf_list_dec))
  | ((apply EM.sumS); (focus sizeOf_list_dec))
  | ((apply EM.tupSL); (focus sizeOf_list_dec))
  | ((apply EM.tupST); (focus sizeOf_list_dec))
  | ((apply str_bs); (focus sizeOf_list_dec); (focus decreasing_trivial_pre_omega); (focus decreasing_trivial_pre_omega))
  | ((with_reducible refine EM.New.bs (by with_reducible assumption) ?_ ?_); (focus (intro _ z; cases z; done)))
  | ((with_reducible refine EM.gMu ?_); (with_reducible apply EM.mu_bs); (focus (with_reducible assumption)); (focus sizeOf_list_dec); (focus (apply EM.nel2; (focus (with_reducible assumption)); (focus (with_reducible assumption)))); intro _ _ _)
  | intro _
  | (apply And.intro; (focus array_get_dec))
  | apply Exists.intro
  | (refine EM.draw_bs (by with_reducible assumption) ?_ ?_ ?_ ?_; (focus array_get_dec); (focus array_get_dec); (focus (first | decide | omega)))
  | (apply EM.pick_bs; (focus (with_reducible assumption)); (focus array_get_dec); (focus sizeOf_list_dec); (focus (exact Nat.le_of_ble_eq_true rfl)); (focus (exact Nat.le_of_ble_eq_true rfl)))
  | ((apply EM.repr_sw); (focus infer_instance); (focus nofun); (focus decide))
  | ((apply EM.eqd_same); (focus infer_instance); (focus infer_instance); (focus nofun); (focus decide))
  | ((apply EM.ned_same); (focus infer_instance); (focus infer_instance); (focus nofun); (focus decide))
  | ((apply EM.eqd_sw); (focus infer_instance); (focus infer_instance); (focus nofun); (focus nofun); (focus decide))
  | ((apply EM.ned_sw); (focus infer_instance); (focus infer_instance); (focus nofun); (focus nofun); (focus decide))
  | (refine EM.cut_bs (by with_reducible assumption) ?_ ?_ ?_; (focus array_get_dec); (focus array_get_dec)))))
theorem ok_Reading_str (T : Tx K mg) : FnR P w K mg base (L2.CX P w) 6 (He.ma K (He.ga K "Reading") "__str__") (spRdStr K) := by
  obtain ⟨fd, F⟩ := T.d_Reading_str
  refine EM.fnr F sc_Reading_str (fun _ _ _ _ _ _ us hl => match us, hl with | [_], _ => rfl) (fun vs H Q E h => ?_) (fun cdv A outer s H vs Q E hr h => ?_)
  · obtain ⟨T0, p, l, r, q, n, es, rfl, _⟩ := h
    rfl
  · obtain ⟨T0, p, l, r, q, n, es, rfl, B0, ⟨dx, xs, h1, h2, h3⟩, hb, hl, k⟩ := h
    have hx := h3.len
    refine ⟨_, (PSs.nox (pss_one (ps_ret (pe_m1 PySem.F.slot_str_join PySem.F.type_str_join mt_join pe_str (EM.lcN (pe_lc (own := [("edge", 1)]) (g := gName 1) rfl sc_Reading_str.nd (EM.pi_seqN (EM.pe_fldN (pv 0))).mc (blkOk_by (N := ["self", "edge"]) (sc := defScope s_Reading_str) (by decide +kernel)) (fun _ _ _ _ _ => (pg_name (i := 1) sc_Reading_str.nd rfl (Or.inl rfl))) (fun _ _ _ _ _ => pts_nil) (fun _ _ _ _ _ => (PE.mc (pe_callTy (call_strT T (hr.mono (by decide))) (by rfl) T.f_str (by decide +kernel) (pa_cons (pv 1) pa_nil)))))))))), ?_⟩
    refine ⟨⟨_, rfl⟩, ?_⟩
    repeat' array_mem_dec
    --S1
    rename_i J wk
    refine LcS.lc 0 wk B0 (fun j y H' => Hold (∃ z, (es.map rtx)[j]? = some z ∧ y = .str z)) (by omega) (fun H' x => h2.eq x) ?_ ?_
    · rintro j y K2 K3 hk y2 C2 ⟨rfl, hv⟩
      obtain ⟨e, ee⟩ : ∃ e, es[j]? = some e := ⟨_, List.getElem?_eq_getElem (by omega)⟩
      obtain ⟨a, ea, ra⟩ := (h3.ext y2).get ee
      cases (hv.symm.trans ea)
      obtain ⟨b1, b2⟩ := hb e (List.mem_of_getElem? ee)
      repeat' array_mem_dec
      exact ⟨⟨_, by rw [List.getElem?_map, ee]; rfl, rfl⟩⟩
    rintro D ys H4 hD hyl hf x4 B4' aD
    have eys : ys = (es.map rtx).map V.str := by
      apply List.ext_getElem?
      intro i
      rw [List.getElem?_map]
      rcases Nat.lt_or_ge i ys.length with hi | hi
      · obtain ⟨⟨z, e1, e2⟩⟩ := hf i ys[i] (List.getElem?_eq_getElem hi)
        rw [List.getElem?_eq_getElem hi, e1, e2]
        rfl
      · rw [List.getElem?_eq_none hi, List.getElem?_eq_none (by rw [List.length_map]; omega)]
        rfl
    rw [eys] at aD
    refine ⟨_, D, _, rfl, rfl, .inl (SqL.of aD.at_), ?_, k H4 x4 (B4'.mono (by omega))⟩
    have h6 := rtx_sum es hb
    have h8 : (" " : Str).length = 1 := by decide +kernel
    rw [h8, List.length_map]
    omega
theorem call_strR {K : PySem.W.Frag} {mg : Str → Option Value} (T : Tx K mg) {X : Cx} (hr : Room 9 X.A) (e1 : X.K = K := by rfl) (e2 : X.mg = mg := by rfl) : CallR X (.type "str") (StrR K) := by
  subst e1 e2
  refine callR_of (EM.call_strO (E := E0) T.m_Reading_str.at_ T.m_Reading_str.fn (ok_Reading_str (P := X.prog) (w := X.w) (base := X.base) T) (hr.mono (by decide)) passL) fun xs H Q ⟨h⟩ => ?_
  obtain ⟨T0, p, l, r, q, n, es, rfl, B, rd, hb, hl, k⟩ := h
  obtain ⟨dx, ys, i1, i2, i3⟩ := id rd
  exact ⟨r, dx, _, rfl, i1.at_, T0, p, l, r, q, n, es, rfl, B, rd, hb, hl, fun H' x B' => ⟨_, rfl, k H' x B'⟩⟩
theorem ok_Ltext (T : Tx K mg) : FnR P w K mg base (L2.CX P w) 1 (He.ga K "_law_text") (spTextF) := by
  obtain ⟨fd, F⟩ := T.d_Ltext
  refine EM.fnr F sc_Ltext (fun _ _ _ _ _ _ us hl => match us, hl with | [_, _], _ => rfl) (fun vs H Q E h => ?_) (fun cdv A outer s H vs Q E hr h => ?_)
  · obtain ⟨u, l, rfl, _⟩ := h
    rfl
  · obtain ⟨u, l, rfl, l0, bu, bl, k⟩ := h
    have hgp := gcd_pos (t := u) (show l ≠ 0 by omega)
    have cd : ∀ i, CDivW i (Int.gcd u l : Int) := fun i => ⟨hgp, Nat.lt_of_le_of_lt (log_le (by
      have := shr_le (t := u) (show l ≠ 0 by omega)
      rw [shr_abs] at this
      exact this)) (Nat.lt_trans (bl.log (by decide)) (by decide))⟩
    have cd1 := cd u
    have cd2 := cd l
    have btop : Bt 1900 (u / (Int.gcd u l : Int)) := by rw [← top_pos l0]; exact bu.top (by omega)
    have bbot : Bt 1900 (l / (Int.gcd u l : Int)) := by rw [← bot_pos l0]; exact bl.bot (by omega)
    have lg1 : (u / (Int.gcd u l : Int)).natAbs.log2 < 1920 := Nat.lt_trans (btop.log (by decide)) (by decide)
    have lg2 : (l / (Int.gcd u l : Int)).natAbs.log2 < 1920 := Nat.lt_trans (bbot.log (by decide)) (by decide)
    have ln1 := tx_len btop
    have ln2 := tx_len bbot
    have zl : 50000 ≤ sizeLine := by decide
    refine ⟨_, (PSs.nox (pss_cons (ps_par (by rfl) sc_Ltext.nd (i := 2) (j := 3) rfl rfl (by decide) rfl rfl (pa_cons (pe_callB call_abs (by rfl) T.f_abs (by decide +kernel) (pa_cons (pv 0) pa_nil)) (pa_cons (pv 1) pa_nil)) (by rfl))
 (pss_cons (EM.ps_stop (ps_while PassesOwn.never (pt_cmpR op_ne (pv 3) pe_int (nomark _))
  (pss_one (ps_par (by rfl) sc_Ltext.nd (i := 2) (j := 3) rfl rfl (by decide) rfl rfl (pa_cons (pv 3) (pa_cons (pe_op op_mod (pe_callTy EM.call_intN (by rfl) T.f_int (by decide +kernel) (pa_cons (pv 2) pa_nil)) (pv 3)) pa_nil)) (by rfl)))))
 (pss_one (ps_ret (pe_op op_add_str (pe_callTy call_str_int (by rfl) T.f_str (by decide +kernel) (pa_cons (pe_op op_fdivW (pv 0) (pv 2)) pa_nil)) (pe_ifExp (pt_cmpR op_eq (pv 1) (pv 2) (nomark _)) pe_str (pe_op op_add_str pe_str (pe_callTy call_str_int (by rfl) T.f_str (by decide +kernel) (pa_cons (pe_op op_fdivW (pv 1) (pv 2)) pa_nil)))))))))), ?_⟩
    repeat' array_mem_dec
    --T1
    refine stop_go ?_
    refine ⟨fun m σ H' => ∃ f s : Int, σ = [some (.int u), some (.int l), some (.int f), some (.int s)] ∧ H' = H ∧ 0 ≤ f ∧ 0 ≤ s ∧ Int.gcd f s = Int.gcd u l ∧ m = s.natAbs, ⟨_, _, _, rfl, rfl, by split <;> omega, by omega, by split <;> simp only [Int.gcd_neg, Int.neg_gcd], rfl⟩, ?_⟩
    rintro m σ H' ⟨f, s, rfl, rfl, f0, s0, hg, rfl⟩
    repeat' array_mem_dec
    --T2
    refine ifNeI (fun z => ?_) (fun z => ?_)
    · have hs : 0 < s := by omega
      --T3
      refine ⟨fun σ' H'' => ∃ f1 s1 : Int, σ' = [some (.int u), some (.int l), some (.int f1), some (.int s1)] ∧ H'' = H' ∧ 0 ≤ f1 ∧ 0 ≤ s1 ∧ Int.gcd f1 s1 = Int.gcd u l ∧ s1.natAbs < s.natAbs, ?_, ?_⟩
      · rintro σ' H'' ⟨f1, s1, e1, e2, e3, e4, e5, e6⟩
        exact ⟨_, e6, f1, s1, e1, e2, e3, e4, e5, rfl⟩
      · have h1 := Int.emod_nonneg f (show s ≠ 0 by omega)
        have h2 := Int.emod_lt_of_pos f hs
        repeat' array_mem_dec
        exact ⟨by rw [gcd_emod2 hs]; exact hg, by omega⟩
    · subst z
      have e : f = (Int.gcd u l : Int) := by
        rw [← hg, Int.gcd_zero_right]
        omega
      subst e
      repeat' array_mem_dec
      --T4
      have hgl : (Int.gcd u l : Int) ∣ l := Int.gcd_dvd_right ..
      have L1 : ("/" : Str).length = 1 := by decide +kernel
      have L0 : ("" : Str).length = 0 := by decide +kernel
      have E0' : ("" : Str) = Str.empty := by decide +kernel
      refine ifEqI (fun z => ?_) (fun z => ?_)
      · have e1 : nBot u l = 1 := by
          rw [bot_pos l0, ← z]
          exact Int.ediv_self (by omega)
        have e : rtx (nTop u l, nBot u l) = tx (u / (Int.gcd u l : Int)) ++ "" := by
          rw [E0', Str.append_empty, ← top_pos l0]
          exact if_pos e1
        rw [e] at k
        refine ⟨_, _, rfl, rfl, ?_, k⟩
        rw [L0]
        show (tx _).length + 0 ≤ _
        omega
      · have e1 : ¬ nBot u l = 1 := fun h => z (by
          rw [bot_pos l0] at h
          have := Int.ediv_mul_cancel hgl
          rw [h] at this
          omega)
        have e : rtx (nTop u l, nBot u l) = tx (u / (Int.gcd u l : Int)) ++ ("/" ++ tx (l / (Int.gcd u l : Int))) := by
          rw [← top_pos l0, ← bot_pos l0]
          exact if_neg e1
        rw [e] at k
        repeat' array_mem_dec
        --T5
        refine ⟨?_, _, _, rfl, rfl, ?_, k⟩
        · rw [L1]
          show 1 + (tx _).length ≤ _
          omega
        · rw [Str.length_append, L1]
          show (tx _).length + (1 + (tx _).length) ≤ _
          omega
end
end K41
namespace K41
open PySem PySem.Spec PyProof.Rows L2 EM
/-- t parts of the size 1/D -/
def lowF (D : Nat) (t : Int) : Int × Int := (nTop t D, nBot t D)
def RiseI (ts : List Int) : Prop := ∀ (i : Nat) (a b : Int), ts[i]? = some a → ts[i + 1]? = some b → a < b
section
variable {D M N : Nat} {t s k : Int} {ts ws : List Int}
theorem lowF_dv (hD : 0 < D) (h : t.natAbs ≤ M) : Dv D M (lowF D t) := Dv.frac (by omega) (Int.dvd_refl _) (by
  have h1 : (t.natAbs : Int) ≤ M := by omega
  have h2 : (M : Int) * 1 ≤ M * D := Int.mul_le_mul_of_nonneg_left (by omega) (by omega)
  omega)
theorem lowF_sc (hD : 0 < D) : sc D (lowF D t) = t := by
  have d0 : (D : Int) ≠ 0 := by omega
  have h := (lowF_dv (t := t) hD (Nat.le_refl _)).sc_mul
  have c : (lowF D t).1 * (D : Int) = t * (lowF D t).2 := n_cross (t := t) (b := (D : Int))
  rw [c] at h
  exact Int.eq_of_mul_eq_mul_right (by have := (lowF_dv (t := t) hD (Nat.le_refl _)).low.pos; omega) h
theorem lowF_eq {f : Int × Int} (hD : 0 < D) (h : Dv D M f) : f = lowF D (sc D f) := dv_text hD h
theorem lowF_add (hD : 0 < D) : addF (lowF D s) (lowF D t) = lowF D (t + s) := by
  have h1 := lowF_dv (t := s) hD (Nat.le_refl _)
  have h2 := lowF_dv (t := t) hD (Nat.le_refl _)
  rw [lowF_eq hD (h1.add h2), h1.sc_add h2, lowF_sc hD, lowF_sc hD]
theorem lowF_mul (hD : 0 < D) : mulF (k, 1) (lowF D t) = lowF D (t * k) := by
  have h2 := lowF_dv (t := t) hD (Nat.le_refl _)
  have h3 := (Dv.one (w := k) (Nat.le_refl _)).mul h2
  rw [Nat.mul_one] at h3
  rw [lowF_eq hD h3, sc_muli hD h2, lowF_sc hD]
theorem lowF_lt (hD : 0 < D) : (lowF D s).1 * (lowF D t).2 < (lowF D t).1 * (lowF D s).2 ↔ s < t := by
  rw [(lowF_dv (t := s) hD (Nat.le_refl _)).sc_lt hD (lowF_dv (t := t) hD (Nat.le_refl _)), lowF_sc hD, lowF_sc hD]
theorem lowF_neg (hD : 0 < D) : negF (lowF D t) = lowF D (-t) := by
  have h2 := (lowF_dv (t := t) hD (Nat.le_refl _)).neg
  have e := lowF_eq hD h2
  rw [sc_neg, show ((lowF D t).1, (lowF D t).2) = lowF D t from rfl, lowF_sc hD] at e
  exact e
theorem sc_row (hD : 0 < D) : (ts.map (lowF D)).map (sc D) = ts := by
  rw [List.map_map]
  conv => rhs; rw [← List.map_id ts]
  exact List.map_congr_left fun t _ => lowF_sc hD
theorem row_add (hD : 0 < D) : (ts.map (lowF D)).map (addF (lowF D s)) = (ts.map fun t => t + s).map (lowF D) := by
  rw [List.map_map, List.map_map]
  exact List.map_congr_left fun t _ => lowF_add hD
theorem row_mul (hD : 0 < D) : (ts.map (lowF D)).map (mulF (k, 1)) = (ts.map fun t => t * k).map (lowF D) := by
  rw [List.map_map, List.map_map]
  exact List.map_congr_left fun t _ => lowF_mul hD
theorem row_ok {a b n : Nat} (hD : 0 < D) (h1 : D < 2 ^ a) (h2 : M < 2 ^ b) (hn : a + b ≤ n) (hb : ∀ t ∈ ts, t.natAbs ≤ M) (hr : RiseI ts) : RowOk n (ts.map (lowF D)) := by
  refine ⟨fun e he => ?_, fun e he => ?_, fun i e f he hf => ?_⟩
  · obtain ⟨t, ht, rfl⟩ := List.mem_map.mp he
    exact (lowF_dv hD (hb t ht)).low
  · obtain ⟨t, ht, rfl⟩ := List.mem_map.mp he
    have := (lowF_dv hD (hb t ht)).bt hD h1 h2
    exact ⟨this.1.mono hn, this.2.mono hn⟩
  · rw [List.getElem?_map] at he hf
    obtain ⟨s, es, rfl⟩ := Option.map_eq_some_iff.mp he
    obtain ⟨t, et, rfl⟩ := Option.map_eq_some_iff.mp hf
    exact (lowF_lt hD).mpr (hr i s t es et)
theorem RiseI.map {f : Int → Int} (h : RiseI ts) (hf : ∀ a b, a < b → f a < f b) : RiseI (ts.map f) := by
  intro i a b ha hb
  rw [List.getElem?_map] at ha hb
  obtain ⟨s, es, rfl⟩ := Option.map_eq_some_iff.mp ha
  obtain ⟨t, et, rfl⟩ := Option.map_eq_some_iff.mp hb
  exact hf _ _ (h i s t es et)
theorem RiseI.snoc {x : Int} (h : RiseI ts) (hx : ∀ a, ts[ts.length - 1]? = some a → a < x) : RiseI (ts ++ [x]) := by
  intro i a b ha hb
  rcases Nat.lt_or_ge (i + 1) ts.length with c | c
  · rw [List.getElem?_append_left (by omega)] at ha
    rw [List.getElem?_append_left c] at hb
    exact h i a b ha hb
  · have l1 := (List.getElem?_eq_some_iff.mp hb).1
    rw [List.length_append] at l1
    simp only [List.length_cons, List.length_nil] at l1
    have : i + 1 = ts.length := by omega
    rw [this, List.getElem?_append_right (Nat.le_refl _), Nat.sub_self] at hb
    cases hb
    rw [List.getElem?_append_left (by omega)] at ha
    exact hx a (by rw [show ts.length - 1 = i by omega]; exact ha)
theorem RiseI.take {n : Nat} (h : RiseI ts) : RiseI (ts.take n) := by
  intro i a b ha hb
  rw [List.getElem?_take] at ha hb
  split at ha
  · split at hb
    · exact h i a b ha hb
    · cases hb
  · cases ha
theorem dot_le {W : Nat} (hw : ∀ w ∈ ws, w.natAbs ≤ W) (ht : ∀ t ∈ ts, t.natAbs ≤ M) : (dotI ws ts).natAbs ≤ ws.length * (W * M) := by
  unfold dotI
  induction ws generalizing ts with
  | nil => exact Nat.zero_le _
  | cons w r ih =>
    cases ts with
    | nil => exact Nat.zero_le _
    | cons t s =>
      rw [List.zipWith_cons_cons, List.sum_cons, List.length_cons, Nat.add_mul, Nat.one_mul]
      have h1 := ih (ts := s) (fun x hx => hw x (List.mem_cons_of_mem _ hx)) (fun x hx => ht x (List.mem_cons_of_mem _ hx))
      have h2 : (w * t).natAbs ≤ W * M := by
        rw [Int.natAbs_mul]
        exact Nat.mul_le_mul (hw w List.mem_cons_self) (ht t List.mem_cons_self)
      have h3 := Int.natAbs_add_le (w * t) (List.zipWith (· * ·) r s).sum
      omega
end
/-- bounds of weights and of edges -/
def W0 : Nat := 24000000000
def M0 : Nat := 100000000000000000000000000000000
theorem W0_lt : W0 < 2 ^ 290 := by decide +kernel
theorem M0_lt : M0 < 2 ^ 110 := by decide +kernel
theorem wok {D : Nat} {ws ts : List Int} (hl : ws.length = ts.length) (h128 : ws.length ≤ 128) (hw : ∀ w ∈ ws, w.natAbs ≤ W0) (ht : ∀ t ∈ ts, t.natAbs ≤ M0) (d0 : 0 < D) (d1 : D ≤ 97) : WOk ws (ts.map (lowF D)) D M0 W0 :=
  ⟨by rw [List.length_map]; exact hl, h128, hw, fun e he => by
    obtain ⟨t, m, rfl⟩ := List.mem_map.mp he
    exact lowF_dv d0 (ht t m), d0, Nat.lt_of_le_of_lt d1 (by decide +kernel), Nat.lt_of_lt_of_le M0_lt (Nat.pow_le_pow_right (by decide) (by decide)), W0_lt⟩
theorem dot_b {ws ts : List Int} (h128 : ws.length ≤ 128) (hw : ∀ w ∈ ws, w.natAbs ≤ W0) (ht : ∀ t ∈ ts, t.natAbs ≤ M0) : (dotI ws ts).natAbs < 2 ^ 160 := by
  have h := dot_le hw ht
  have : ws.length * (W0 * M0) ≤ 128 * (W0 * M0) := Nat.mul_le_mul_right _ h128
  have e : 128 * (W0 * M0) < 2 ^ 160 := by decide +kernel
  omega
theorem sum_set : ∀ {l : List Int} {i : Nat} {x v : Int}, l[i]? = some x → (l.set i v).sum = l.sum - x + v
  | [], i, x, v, h => by simp at h
  | y :: r, 0, x, v, h => by
    have : y = x := by simpa using h
    subst this
    rw [List.set_cons_zero, List.sum_cons, List.sum_cons]
    omega
  | y :: r, i + 1, x, v, h => by
    have h2 : r[i]? = some x := by simpa using h
    rw [List.set_cons_succ, List.sum_cons, List.sum_cons, sum_set h2]
    omega
theorem sum_bd {B : Int} : ∀ {l : List Int}, (∀ w ∈ l, -B ≤ w ∧ w ≤ B) → -(l.length * B) ≤ l.sum ∧ l.sum ≤ l.length * B
  | [], _ => by simp
  | y :: r, h => by
    have h1 := h y List.mem_cons_self
    have h2 := sum_bd (l := r) fun w hw => h w (List.mem_cons_of_mem _ hw)
    rw [List.sum_cons, List.length_cons]
    have e : ((r.length + 1 : Nat) : Int) * B = r.length * B + B := by
      rw [Int.natCast_add, Int.add_mul]
      simp
    rw [e]
    omega
theorem sum_snoc (l : List Int) (x : Int) : (l ++ [x]).sum = l.sum + x := by rw [List.sum_append]; simp
def spWeights : Sp := fun vs H Q _ => ∃ (T : List (Addr × Str)) (p l : Addr) (n m : Nat), vs = [.ref p, .int (m : Nat)] ∧ okLen m ∧ m ≤ 24 ∧ Bs T p l n H ∧ n ≤ 800000 ∧ ∀ q ws H', GoodW ws → ws.length = m → (∀ w ∈ ws, w.natAbs ≤ W0) → Ext p H H' → Bs T p l (n + 60) H' → At p H' q (.lst (ws.map V.int)) → Q (.ref q) H'
def spTops : Sp := fun vs H Q _ => ∃ (T : List (Addr × Str)) (p l : Addr) (n m : Nat), vs = [.ref p, .int (m : Nat)] ∧ m ≤ 24 ∧ Bs T p l n H ∧ n ≤ 800000 ∧ ∀ q ts H', ts.length = m → RiseI ts → (∀ t ∈ ts, t.natAbs ≤ 2000000000000000000000000000000) → Ext p H H' → Bs T p l (n + 100) H' → At p H' q (.lst (ts.map V.int)) → Q (.ref q) H'
local macro_rules | `(tactic| sizeOf_list_dec) => `(tactic| first
  | with_reducible assumption
  | ((with_reducible apply EM.At.ext); (focus (with_reducible assumption)); (focus sizeOf_list_dec))
  | ((with_reducible apply EM.RatP.ext); (focus (with_reducible assumption)); (focus sizeOf_list_dec))
  | ((with_reducible apply EM.NumP.ext); (focus (with_reducible assumption)); (focus sizeOf_list_dec))
  | (with_reducible exact EM.Ext.refl)
  | ((with_reducible apply EM.Ext.back); (focus (with_reducible assumption)); (focus sizeOf_list_dec))
  | exact EM.NumP.int _
  | ((with_reducible apply EM.Mu.at_k); (focus (with_reducible assumption)); (focus sizeOf_list_dec); (focus sizeOf_list_dec); (focus (intro _ z; cases z; done)))
  | ((with_reducible apply EM.Mu.at_n); (focus (with_reducible assumption)); (focus sizeOf_list_dec); (focus (first | with_reducible assumption | ((apply EM.nn1); (focus (with_reducible assumption)); (focus sizeOf_list_dec)) | ((apply EM.nn2); (focus (with_reducible assumption)); (focus sizeOf_list_dec)))))
  | ((with_reducible apply EM.Mu.here); (focus (with_reducible assumption)); (focus sizeOf_list_dec))
  | ((with_reducible apply EM.Mu.rat); (focus (with_reducible assumption)); (focus sizeOf_list_dec); (focus sizeOf_list_dec))
  | ((with_reducible apply EM.Mu.num); (focus (with_reducible assumption)); (focus sizeOf_list_dec); (focus sizeOf_list_dec))
  | ((with_reducible apply EM.num_of_rat); (focus sizeOf_list_dec); (focus (first | with_reducible assumption | (apply EM.n_low; assumption))))
  | ((with_reducible apply EM.RatsP.xt); (focus (with_reducible assumption)); (focus sizeOf_list_dec))
  | ((with_reducible apply EM.NumsP.xt); (focus (with_reducible assumption)); (focus sizeOf_list_dec))
  | ((with_reducible apply EM.PairsP.xt); (focus (with_reducible assumption)); (focus sizeOf_list_dec))
  | ((with_reducible apply EM.RdP.xt); (focus (with_reducible assumption)); (focus sizeOf_list_dec))
  | ((with_reducible apply EM.Mu.rats); (focus (with_reducible assumption)); (focus sizeOf_list_dec); (focus sizeOf_list_dec))
  | ((with_reducible apply EM.Mu.pairs); (focus (with_reducible assumption)); (focus sizeOf_list_dec); (focus sizeOf_list_dec))
  | ((with_reducible apply EM.Mu.rdp); (focus (with_reducible assumption)); (focus sizeOf_list_dec); (focus sizeOf_list_dec))
  | ((with_reducible apply EM.SeqV.xt); (focus (with_reducible assumption)); (focus sizeOf_list_dec)))
local macro_rules | `(tactic| decreasing_trivial_pre_omega) => `(tactic| first
  | with_reducible assumption
  | exact EM.Bt.mono (by with_reducible assumption) (by decide)
  | exact EM.Bt.lit _ _ (by decide +kernel)
  | ((with_reducible refine EM.Bt.rng32 ?_ ?_) <;> omega)
  | ((with_reducible refine EM.Bt.rng70 ?_ ?_) <;> omega)
  | ((with_reducible refine EM.Bt.rng200 ?_ ?_) <;> omega)
  | ((with_reducible apply EM.Bt.mulM); (focus decreasing_trivial_pre_omega); (focus decreasing_trivial_pre_omega); (focus (first | decide | exact Nat.le_refl _)))
  | ((with_reducible apply EM.Bt.addM); (focus decreasing_trivial_pre_omega); (focus decreasing_trivial_pre_omega); (focus (first | decide | exact Nat.le_refl _)))
  | ((with_reducible apply EM.Bt.subM); (focus decreasing_trivial_pre_omega); (focus decreasing_trivial_pre_omega); (focus (first | decide | exact Nat.le_refl _)))
  | ((with_reducible apply EM.Bt.topL); (focus decreasing_trivial_pre_omega); (focus assumption); (focus (first | decide | exact Nat.le_refl _)))
  | ((with_reducible apply EM.Bt.botL); (focus decreasing_trivial_pre_omega); (focus assumption); (focus (first | decide | exact Nat.le_refl _)))
  | ((with_reducible apply EM.Bt.divM); (focus decreasing_trivial_pre_omega); (focus assumption); (focus (first | decide | exact Nat.le_refl _)))
  | ((with_reducible apply EM.Bt.negM); (focus decreasing_trivial_pre_omega); (focus (first | decide | exact Nat.le_refl _))))
local macro_rules | `(tactic| array_get_dec) => `(tactic| first
  | with_reducible assumption
  | ((with_reducible refine EM.gEq ?_); exact rfl)
  | ((with_reducible refine EM.gTru ?_); exact rfl)
  | ((with_reducible refine EM.gRef ?_); first | exact Or.inl ⟨_, rfl⟩ | exact Or.inr ⟨_, rfl⟩)
  | ((with_reducible apply EM.At.get); sizeOf_list_dec)
  | ((with_reducible apply EM.At.sqL); sizeOf_list_dec)
  | ((with_reducible apply EM.At.sqT); sizeOf_list_dec)
  | ((with_reducible apply EM.RatP.getK); (focus sizeOf_list_dec); (focus (exact rfl)))
  | (with_reducible exact EM.Num.int _)
  | ((with_reducible apply EM.NumP.getK); (focus sizeOf_list_dec); (focus (exact rfl)))
  | ((with_reducible apply EM.At.ext); (focus (with_reducible assumption)); (focus sizeOf_list_dec))
  | ((with_reducible apply EM.RatP.ext); (focus (with_reducible assumption)); (focus sizeOf_list_dec))
  | ((with_reducible apply EM.NumP.ext); (focus (with_reducible assumption)); (focus sizeOf_list_dec))
  | with_reducible exact Tx.cl_Ratio (by assumption)
  | with_reducible exact Tx.cl_Reading (by assumption)
  | with_reducible exact Tx.cl_Duel (by assumption)
  | with_reducible exact Tx.na_Ratio_top (by assumption)
  | with_reducible exact Tx.na_Ratio_bottom (by assumption)
  | with_reducible exact Tx.na_Reading_own_edges (by assumption)
  | with_reducible exact Tx.na_Duel_weights (by assumption)
  | with_reducible exact Tx.na_Duel_level (by assumption)
  | ((with_reducible refine EM.gAt ?_); sizeOf_list_dec)
  | ((with_reducible refine EM.gRat ?_); sizeOf_list_dec)
  | ((with_reducible refine EM.gNum ?_); sizeOf_list_dec)
  | ((with_reducible apply EM.TwoP.mk); (focus (with_reducible assumption)); (focus sizeOf_list_dec); (focus (first | with_reducible assumption | (apply EM.n_low; assumption))); (focus sizeOf_list_dec); (focus decreasing_trivial_pre_omega); (focus decreasing_trivial_pre_omega); (focus decreasing_trivial_pre_omega); (focus decreasing_trivial_pre_omega))
  | (with_reducible exact EM.Ext.refl)
  | ((with_reducible apply EM.Ext.back); (focus (with_reducible assumption)); (focus sizeOf_list_dec))
  | ((with_reducible apply EM.Bs.mono); (focus (with_reducible assumption)); omega)
  | ((with_reducible refine EM.gN ?_); first | decide | omega | exact Nat.le_of_ble_eq_true rfl | (simp only [List.length_cons, List.length_nil, List.length_append]; omega))
  | ((with_reducible refine EM.gM ?_); first | decide | omega | exact Nat.le_of_ble_eq_true rfl)
  | ((with_reducible refine EM.gI ?_); first | decide | omega)
  | ((with_reducible refine EM.gJ ?_); first | decide | omega)
  | ((with_reducible refine EM.gE ?_); first | decide | omega)
  | ((with_reducible refine EM.gB ?_); decreasing_trivial_pre_omega)
  | ((with_reducible apply EM.wideM); (focus decreasing_trivial_pre_omega); (focus decreasing_trivial_pre_omega); (focus decide)))
local macro_rules | `(tactic| infer_instance) => `(tactic| first
  | with_reducible assumption
  | exact DpAll.nil
  | (apply DpAll.cons; (focus infer_instance); (focus infer_instance))
  | with_reducible exact Dp.int _
  | exact Dp.int _
  | with_reducible exact Dp.str _
  | exact Dp.bl _
  | exact Dp.non
  | ((with_reducible apply EM.dp_lst); (focus array_get_dec); (focus infer_instance))
  | ((with_reducible apply EM.dp_tup); (focus array_get_dec); (focus infer_instance))
  | exact EM.dp_ints _)
local macro_rules | `(tactic| nofun) => `(tactic| first
  | with_reducible assumption
  | exact EM.FeL.nil
  | exact EM.FdL.nil
  | (apply EM.FeL.cons; (focus nofun); (focus nofun))
  | (apply EM.FdL.cons; (focus nofun); (focus nofun))
  | exact EM.Fe.int _
  | exact EM.Fe.bool _
  | exact EM.Fe.non
  | exact EM.Fe.str (EM.okS_of _)
  | (apply EM.Fe.str; apply EM.Fd.ok; (focus nofun))
  | (apply EM.Fe.list; (focus nofun))
  | (apply EM.Fe.tup; (focus nofun))
  | (apply EM.Fd.int; (focus decreasing_trivial_pre_omega))
  | exact EM.Fd.bool _
  | exact EM.Fd.non
  | (refine EM.Fd.bool _)
  | (apply EM.Fd.list; (focus nofun))
  | (apply EM.Fd.tup; (focus nofun)))
local macro_rules | `(tactic| array_mem_dec) => `(tactic| ((with_reducible refine EM.pr ?_); first
  | (with_reducible refine L2.iteT ?_)
  | (with_reducible refine L2.iteF ?_)
  | (with_reducible refine EM.ifNotT ?_)
  | (with_reducible refine EM.ifNotF ?_)
  | ((fail_if_success (with_reducible refine EM.gIf ?_)); first
  | array_get_dec
  | (refine EM.mk_low (by with_reducible assumption) (by with_reducible assumption) ?_ ?_; (focus array_get_dec))
  | (apply EM.isNum_sw; (focus sizeOf_list_dec))
  | (apply EM.of_sw; (focus (with_reducible assumption)); (focus sizeOf_list_dec))
  | (apply EM.neg_bs; (focus (with_reducible assumption)); (focus sizeOf_list_dec); (focus array_get_dec); (focus array_get_dec))
  | (apply EM.relw_bs; (focus (with_reducible assumption)); (focus sizeOf_list_dec); (focus sizeOf_list_dec); (focus array_get_dec); (focus decreasing_trivial_pre_omega); (focus decreasing_trivial_pre_omega); (focus decreasing_trivial_pre_omega); (focus decreasing_trivial_pre_omega))
  | ((apply EM.DnS.bs); (focus (with_reducible assumption)); (focus (intro _ z; cases z; done)))
  | ((apply EM.seqL); (focus sizeOf_list_dec))
  | ((apply EM.seqT); (focus sizeOf_list_dec))
  | ((apply EM.lenL); (focus sizeOf_list_dec))
  | ((apply EM.lenT); (focus sizeOf_list_dec))
  | ((apply EM.isSeqL); (focus sizeOf_list_dec); (focus sizeOf_list_dec))
  | ((apply EM.isSeqT); (focus sizeOf_list_dec); (focus sizeOf_list_dec))
  | ((apply EM.tupL); (focus sizeOf_list_dec))
  | ((apply EM.fld_bs); (focus sizeOf_list_dec); (focus (first | exact Tx.cl_Reading (by assumption) | exact Tx.cl_Duel (by assumption))); (focus (first | exact Tx.na_Reading_own_edges (by assumption) | exact Tx.na_Duel_weights (by assumption) | exact Tx.na_Duel_level (by assumption))); (focus (exact rfl)))
  | ((apply EM.seqS); (focus sizeOf_list_dec))
  | ((apply EM.enS); (focus sizeOf_list_dec))
  | ((apply EM.lenS); (focus sizeOf_list_dec))
  | ((apply EM.isSeqS); (focus sizeOf_list_dec); (focus sizeOf_list_dec))
  | ((apply EM.lstS); (focus sizeOf_list_dec))
  | ((apply EM.sumS); (focus sizeOf_list_dec))
  | ((apply EM.tupSL); (focus sizeOf_list_dec))
  | ((apply EM.tupST); (focus sizeOf_list_dec))
  | ((with_reducible refine EM.New.bs (by with_reducible assumption) ?_ ?_); (focus (intro _ z; cases z; done)))
  | ((with_reducible refine EM.gMu ?_); (with_reducible apply EM.mu_bs); (focus (with_reducible assumption)); (focus sizeOf_list_dec); (focus (apply EM.nel2; (focus (with_reducible assumption)); (focus (with_reducible assumption)))); intro _ _ _)
  | intro _
  | (apply And.intro; (focus array_get_dec))
  | apply Exists.intro
  | (refine EM.draw_bs (by with_reducible assumption) ?_ ?_ ?_ ?_; (focus array_get_dec); (focus array_get_dec); (focus (first | decide | omega)))
  | (apply EM.pick_int; (focus (with_reducible assumption)); (focus array_get_dec); (focus sizeOf_list_dec); (focus ((repeat' (first | exact EM.AllI.nil | apply EM.AllI.cons)); done)); (focus (exact Nat.le_of_ble_eq_true rfl)); (focus (exact Nat.le_of_ble_eq_true rfl)))
  | (apply EM.pick_bs; (focus (with_reducible assumption)); (focus array_get_dec); (focus sizeOf_list_dec); (focus (exact Nat.le_of_ble_eq_true rfl)); (focus (exact Nat.le_of_ble_eq_true rfl)))
  | ((apply EM.repr_sw); (focus infer_instance); (focus nofun); (focus decide))
  | ((apply EM.eqd_same); (focus infer_instance); (focus infer_instance); (focus nofun); (focus decide))
  | ((apply EM.ned_same); (focus infer_instance); (focus infer_instance); (focus nofun); (focus decide))
  | ((apply EM.eqd_sw); (focus infer_instance); (focus infer_instance); (focus nofun); (focus nofun); (focus decide))
  | ((apply EM.ned_sw); (focus infer_instance); (focus infer_instance); (focus nofun); (focus nofun); (focus decide))
  | (refine EM.cut_bs (by with_reducible assumption) ?_ ?_ ?_; (focus array_get_dec); (focus array_get_dec)))))
section
variable {P : Program} {w : World} {K : PySem.W.Frag} {mg : Str → Option Value} {base : Heap}
theorem ok_Lweights (T : Tx K mg) : FnR P w K mg base (L2.CX P w) 3 (He.ga K "_law_weights") (spWeights) := by
  obtain ⟨fd, F⟩ := T.d_Lweights
  refine EM.fnr F sc_Lweights (fun _ _ _ _ _ _ us hl => match us, hl with | [_, _], _ => rfl) (fun vs H Q E h => ?_) (fun cdv A outer s H vs Q E hr h => ?_)
  · obtain ⟨T0, p, l, n, m, rfl, _⟩ := h
    rfl
  · obtain ⟨T0, p, l, n, mn, rfl, ⟨m2, m4, m128⟩, m24, B0, hn, k⟩ := h
    refine ⟨_, (PSs.nox (pss_cons (EM.setLcN (ps_setLc (i := 2) (own := [("_law_k", 3)]) (g := gName 3) rfl sc_Lweights.nd rfl rfl (sw_true rfl rfl rfl (by decide +kernel)) (pi_range1 (by rfl) T.f_range (pa_cons (pe_op op_sub (pv 1) pe_int) pa_nil)).mc (blkOk_by (N := ["_law_pen_here", "_law_many", "_law_found", "_law_k", "_law_one"]) (sc := defScope s_Lweights) (by decide +kernel)) (fun _ _ _ _ _ => (pg_name (i := 3) sc_Lweights.nd rfl (Or.inl rfl))) (fun _ _ _ _ _ => pts_nil) (fun _ _ _ _ _ => (PE.mc (EM.pe_cR ((ok_Lpick T).sw) (hr.mono (by decide)) T.k__law_pick T.g__law_pick passL (pa_cons (pv 0) (pa_cons (EM.pe_lstN (pa_cons pe_int (pa_cons pe_int (pa_cons pe_int (pa_cons (pe_un un_neg pe_int) (pa_cons pe_int (pa_cons (pe_op op_sub (EM.pe_cR ((ok_Ldraw T).sw) (hr.mono (by decide)) T.k__law_draw T.g__law_draw passL (pa_cons (pv 0) (pa_cons pe_int pa_nil))) pe_int) (pa_cons (pe_op (EM.op_powV 10 9 1000000000 ⟨by decide, by decide, by decide⟩ (by decide +kernel)) pe_int pe_int) pa_nil)))))))) pa_nil)))))))
 (pss_cons (ps_expr (EM.pe_appN (pv 2) (pe_op op_sub pe_int (pe_callB (EM.call_sumSN rfl) (by rfl) T.f_sum (by decide +kernel) (pa_cons (pv 2) pa_nil)))))
 (pss_cons (ps_if (pt_cmpR (EM.op_eqNil hr.units) (EM.lcN (pe_lc (own := [("_law_one", 4)]) (g := gName 4) rfl sc_Lweights.nd (EM.pi_seqN (pv 2)).mc (blkOk_by (N := ["_law_pen_here", "_law_many", "_law_found", "_law_k", "_law_one"]) (sc := defScope s_Lweights) (by decide +kernel)) (fun _ _ _ _ _ => (pg_name (i := 4) sc_Lweights.nd rfl (Or.inl rfl))) (fun _ _ _ _ _ => (pts_one (pt_cmpR op_ne (pv 4) pe_int (nomark _)))) (fun _ _ _ _ _ => (PE.mc (pv 4))))) (EM.pe_lstN pa_nil) (nomark _))
  (pss_cons (ps_asg (pe_un un_neg pe_int) (pg_sub (pv 2) pe_int EM.set_listN))
 (pss_one (ps_asg pe_int (pg_sub (pv 2) pe_int EM.set_listN)))) pss_nil)
 (pss_one (ps_ret (pv 2))))))), ?_⟩
    repeat' array_mem_dec
    --A1
    refine LcS.lc 2 walk_range B0 (fun i y _ => ∃ w : Int, y = .int w ∧ -1000000000 ≤ w ∧ w ≤ 1000000000) (by omega) (fun _ _ => trivial) ?_ ?_
    · rintro i y K2 K3 hi y2 C2 ⟨rfl, rfl⟩
      repeat' array_mem_dec
      rename_i d H5 d0 d1 x5 B5 q6 H6 x6 B6 a6 n6 z H7 hz x7 B7
      have hz2 : ∃ w : Int, z = w ∧ -1000000000 ≤ w ∧ w ≤ 1000000000 := by
        simp only [List.mem_cons, List.not_mem_nil, or_false] at hz
        rcases hz with rfl | rfl | rfl | rfl | rfl | rfl | rfl <;> exact ⟨_, rfl, by omega, by omega⟩
      obtain ⟨w, rfl, w0, w1⟩ := hz2
      exact ⟨w0, w1⟩
    rintro D ys H4 hD hlen hf x4 B4 aD
    obtain ⟨ws, rfl, hw5⟩ := ints_of (P := fun w => -1000000000 ≤ w ∧ w ≤ 1000000000) (ys := ys) (fun y hy => by
      obtain ⟨i, hi⟩ := List.mem_iff_getElem?.mp hy
      exact hf i y hi)
    have hm : (ws.map V.int).length = ws.length := List.length_map ..
    have hl : ws.length = mn - 1 := by rw [← hm, hlen]; omega
    clear hf
    repeat' array_mem_dec
    --A2
    rename_i H10 mu0 Bq J wk
    have bds := sum_bd hw5
    have e3 : ws.map V.int ++ [V.int (0 - ws.sum)] = (ws ++ [0 - ws.sum]).map V.int := by rw [List.map_append]; rfl
    have mu : Mu D H4 H10 (.lst ((ws ++ [0 - ws.sum]).map V.int)) := by rw [← e3]; exact mu0
    have wk2 : Walk J ((ws ++ [0 - ws.sum]).map V.int).length (fun H' => H' D = H10 D) (YAt ((ws ++ [0 - ws.sum]).map V.int)) := by rw [← e3]; exact wk
    clear mu0 wk e3
    have x010 : Ext p H H10 := Ext.mu (Hn := H) Ext.refl hD x4 mu
    have aD10 : At p H10 D (.lst ((ws ++ [0 - ws.sum]).map V.int)) := mu.here aD
    have B10 : Bs T0 p l (n + 60) H10 := (mu.bs B4 aD (nel2 hD B0)).mono (by omega)
    have vl : (ws ++ [0 - ws.sum]).length = mn := by rw [List.length_append]; simp; omega
    have vs0 : (ws ++ [0 - ws.sum]).sum = 0 := by rw [sum_snoc]; omega
    have vb : ∀ w ∈ ws ++ [0 - ws.sum], w.natAbs ≤ W0 := fun w hw => by
      show w.natAbs ≤ 24000000000
      rcases List.mem_append.mp hw with h | h
      · have := hw5 w h
        omega
      · rw [List.mem_singleton.mp h]
        omega
    obtain ⟨fs, hfs⟩ : ∃ fs, fs = ws ++ [0 - ws.sum] := ⟨_, rfl⟩
    rw [← hfs] at aD10 vl vs0 vb wk2
    clear mu aD B4 x4 bds hfs hm hlen hl hw5
    --A3
    refine LcS.lcP wk2 B10 (fun i acc => acc = [] ↔ ∀ (j : Nat) (w : Int), j < i → fs[j]? = some w → w = 0) ⟨fun _ j w z => absurd z (Nat.not_lt_zero j), fun _ => rfl⟩ (by rw [List.length_map]; omega) (fun H' x => aD10.eq x) ?_ ?_
    · rintro i y acc K2 K3 Rf Rt hk hP y2 C2 ⟨rfl, hv⟩ kf kt
      rw [List.getElem?_map] at hv
      obtain ⟨w, ew, rfl⟩ := Option.map_eq_some_iff.mp hv
      repeat' array_mem_dec
      refine ifNeI (fun z => ?_) (fun z => ?_)
      · exact ⟨Rt, ⟨.int w, rfl, kt _ _ Ext.refl C2 ⟨fun h => absurd h (by simp), fun h => absurd (h i w (by omega) ew) z⟩⟩, fun _ _ q => q⟩
      · refine kf _ Ext.refl C2 ⟨fun h j v hj e => ?_, fun h => hP.mpr fun j v hj e => h j v (by omega) e⟩
        rcases Nat.lt_or_ge j i with c | c
        · exact hP.mp h j v c e
        · have : j = i := by omega
          subst this
          rw [ew] at e
          cases e
          exact z
    rintro E2 ys H11 hE hP hyl x11 B11 aE
    rw [List.length_map, vl] at hP
    repeat' array_mem_dec
    rename_i q12 H12 x12 B12 a12 n12
    have x112 := x11.trans x12
    have aD12 := aD10.ext x112
    have xH12 : Ext p H H12 := x010.trans x112
    cases hy : ys.isEmpty with
    | true =>
      have hz := hP.mp (List.isEmpty_iff.mp hy)
      have f0 : fs[0]? = some 0 := by
        have e : fs[0]? = some (fs[0]'(by omega)) := List.getElem?_eq_getElem (by omega)
        rw [e, hz 0 _ (by omega) e]
      have f1 : fs[1]? = some 0 := by
        have e : fs[1]? = some (fs[1]'(by omega)) := List.getElem?_eq_getElem (by omega)
        rw [e, hz _ _ (by omega) e]
      have f2 : (fs.set 0 (-1))[1]? = some 0 := by
        rw [List.getElem?_set_ne (by omega)]
        exact f1
      have s1 := sum_set (v := -1) f0
      have s2 := sum_set (v := 1) f2
      have gw : GoodW ((fs.set 0 (-1)).set 1 1) := ⟨by rw [List.length_set, List.length_set, vl]; exact ⟨m2, m4, m128⟩, by rw [s2, s1, vs0]; decide, ⟨1, List.mem_iff_getElem?.mpr ⟨1, by rw [List.getElem?_set_self (by rw [List.length_set]; omega)]⟩, by decide⟩⟩
      have gb : ∀ w ∈ (fs.set 0 (-1)).set 1 1, w.natAbs ≤ W0 := fun w hw => by
        rcases List.mem_or_eq_of_mem_set hw with h | rfl
        · rcases List.mem_or_eq_of_mem_set h with h | rfl
          · exact vb w h
          · decide
        · decide
      have j0 : ixN (fs.map V.int).length 0 = some 0 := by
        unfold ixN
        rw [if_pos (by decide), if_pos (by rw [List.length_map]; omega)]
        rfl
      have j1 : ixN ((fs.map V.int).set 0 (.int (-1))).length 1 = some 1 := by
        unfold ixN
        rw [if_pos (by decide), if_pos (by rw [List.length_set, List.length_map]; omega)]
        rfl
      refine ifP rfl ?_
      repeat' array_mem_dec
      --A4
      rename_i H13 mu1 B13 H14 mu2 B14
      have e1 : ((fs.map V.int).set 0 (.int (-1))).set 1 (.int 1) = ((fs.set 0 (-1)).set 1 1).map V.int := by rw [List.map_set, List.map_set]
      have aD14 : At p H14 D (.lst (((fs.set 0 (-1)).set 1 1).map V.int)) := by
        rw [← e1]
        exact mu2.here (mu1.here aD12)
      have x13 : Ext p H H13 := Ext.mu (Hn := H) Ext.refl hD xH12 mu1
      have x14 : Ext p H H14 := Ext.mu (Hn := H) Ext.refl hD x13 mu2
      exact k D _ H14 gw (by rw [List.length_set, List.length_set, vl]) gb x14 (B14.mono (by omega)) aD14
    | false =>
      refine ifN rfl ?_
      repeat' array_mem_dec
      have gw : GoodW fs := ⟨by rw [vl]; exact ⟨m2, m4, m128⟩, vs0, Classical.byContradiction fun z => by
        have : ys = [] := hP.mpr fun j w hj e => Classical.byContradiction fun y => z ⟨w, List.mem_of_getElem? e, y⟩
        rw [this] at hy
        cases hy⟩
      exact k D _ H12 gw vl vb xH12 (B12.mono (by omega)) aD12
theorem ok_Ltops (T : Tx K mg) : FnR P w K mg base (L2.CX P w) 3 (He.ga K "_law_tops") (spTops) := by
  obtain ⟨fd, F⟩ := T.d_Ltops
  refine EM.fnr F sc_Ltops (fun _ _ _ _ _ _ us hl => match us, hl with | [_, _], _ => rfl) (fun vs H Q E h => ?_) (fun cdv A outer s H vs Q E hr h => ?_)
  · obtain ⟨T0, p, l, n, m, rfl, _⟩ := h
    rfl
  · obtain ⟨T0, p, l, n, mn, rfl, m24, B0, hn, k⟩ := h
    refine ⟨_, (PSs.nox (pss_cons (ps_set (i := 2) sc_Ltops.nd rfl (Or.inl rfl) (EM.pe_cR ((ok_Lpick T).sw) (hr.mono (by decide)) T.k__law_pick T.g__law_pick passL (pa_cons (pv 0) (pa_cons (EM.pe_lstN (pa_cons pe_int (pa_cons (pe_op op_sub pe_int (EM.pe_cR ((ok_Ldraw T).sw) (hr.mono (by decide)) T.k__law_draw T.g__law_draw passL (pa_cons (pv 0) (pa_cons pe_int pa_nil)))) (pa_cons (pe_op (EM.op_powV 10 30 1000000000000000000000000000000 ⟨by decide, by decide, by decide⟩ (by decide +kernel)) pe_int pe_int) (pa_cons (pe_op op_sub pe_int (pe_op (EM.op_powV 10 30 1000000000000000000000000000000 ⟨by decide, by decide, by decide⟩ (by decide +kernel)) pe_int pe_int)) pa_nil))))) pa_nil))))
 (pss_cons (ps_set (i := 3) sc_Ltops.nd rfl (Or.inl rfl) (EM.pe_lstN pa_nil))
 (pss_cons (EM.forN (ps_for PassesOwn.never rfl (pi_range1 (by rfl) T.f_range (pa_cons (pv 1) pa_nil)).mc (pg_name (i := 4) sc_Ltops.nd rfl (Or.inl rfl))
  (pss_cons (ps_expr (EM.pe_appN (pv 3) (pv 2)))
 (pss_one (ps_set (i := 2) sc_Ltops.nd rfl (Or.inl rfl) (pe_op op_add (pv 2) (EM.pe_cR ((ok_Lpick T).sw) (hr.mono (by decide)) T.k__law_pick T.g__law_pick passL (pa_cons (pv 0) (pa_cons (EM.pe_lstN (pa_cons pe_int (pa_cons (pe_op op_add pe_int (EM.pe_cR ((ok_Ldraw T).sw) (hr.mono (by decide)) T.k__law_draw T.g__law_draw passL (pa_cons (pv 0) (pa_cons pe_int pa_nil)))) (pa_cons (pe_op op_add pe_int (EM.pe_cR ((ok_Ldraw T).sw) (hr.mono (by decide)) T.k__law_draw T.g__law_draw passL (pa_cons (pv 0) (pa_cons pe_int pa_nil)))) pa_nil)))) pa_nil)))))))))
 (pss_one (ps_ret (pv 3))))))), ?_⟩
    repeat' array_mem_dec
    --B1
    rename_i d H1 d0 d1 x1 B1 q2 H2 x2 B2 a2 n2 z H3 hz x3 B3 F H4 x4 B4 aF nF
    have hz2 : ∃ w : Int, z = w ∧ w.natAbs ≤ 1000000000000000000000000000000 := by
      simp only [List.mem_cons, List.not_mem_nil, or_false] at hz
      rcases hz with rfl | rfl | rfl | rfl <;> exact ⟨_, rfl, by omega⟩
    obtain ⟨w, rfl, wb⟩ := hz2
    have x04 := x1.trans (x2.trans (x3.trans x4))
    have nFl : F ≠ l := B3.nel nF
    have fF : Fresh p H F := (Fresh.none nF).back (x1.trans (x2.trans x3))
    clear hz x1 x2 x3 x4 a2 n2 B1 B2 B3
    refine FoS.it walk_range (fun i σ H5 => Hold (∃ (ts : List Int) (c : Int) (v4 : Option V), σ = [some (.ref p), some (.int (mn : Nat)), some (.int c), some (.ref F), v4] ∧ At p H5 F (.lst (ts.map V.int)) ∧ ts.length = i ∧ RiseI ts ∧ (∀ a, ts[ts.length - 1]? = some a → a < c) ∧ (∀ t ∈ ts, t.natAbs ≤ 2000000000000000000000000000000) ∧ c.natAbs ≤ 1000000000000000000000000000000 + 1000 * i ∧ Ext p H H5 ∧ Bs T0 p l (n + 2 + 3 * i) H5))
      ⟨⟨[], z, _, rfl, aF, rfl, fun i a b e => (by cases e), fun a e => (by cases e), fun t ht => (by cases ht), by omega, x04, B4⟩⟩ (fun _ _ _ _ _ => trivial) ?_ ?_
    · rintro i y σ H5 H6 hi ⟨⟨ts, c, v4, rfl, aF5, hl, hr, hlast, hb, hc, x05, B5⟩⟩ ⟨rfl, rfl⟩
      have i24 : i < 24 := by omega
      repeat' array_mem_dec
      --B2
      refine ⟨by rw [List.length_map]; omega, fun H7 mu => ?_⟩
      have aF7 : At p H7 F (.lst ((ts ++ [c]).map V.int)) := by
        have := mu.here aF5
        rw [List.map_append]
        exact this
      have x07 : Ext p H H7 := Ext.muF fF x05 mu
      have B7 := mu.bs B5 aF5 nFl
      clear mu aF5 x05 B5
      repeat' array_mem_dec
      --B3
      rename_i d8 H8 d80 d81 x8 B8 d9 H9 d90 d91 x9 B9 q10 H10 x10 B10 a10 n10 z H11 hz x11 B11
      have hz2 : ∃ w : Int, z = w ∧ 1 ≤ w ∧ w ≤ 1000 := by
        simp only [List.mem_cons, List.not_mem_nil, or_false] at hz
        rcases hz with rfl | rfl | rfl <;> exact ⟨_, rfl, by omega, by omega⟩
      obtain ⟨w2, rfl, w20, w21⟩ := hz2
      have x711 := x8.trans (x9.trans (x10.trans x11))
      refine ⟨⟨ts ++ [c], c + z, _, rfl, aF7.ext x711, by rw [List.length_append]; simp [hl], hr.snoc hlast, fun a e => ?_, fun t ht => ?_, by omega, x07.trans x711, B11.mono (by omega)⟩⟩
      · rw [List.length_append, show ts.length + [c].length - 1 = ts.length by simp, List.getElem?_append_right (Nat.le_refl _), Nat.sub_self] at e
        cases e
        omega
      · rcases List.mem_append.mp ht with h | h
        · exact hb t h
        · rw [List.mem_singleton.mp h]
          omega
    · rintro σ H5 ⟨⟨ts, c, v4, rfl, aF5, hl, hr, hlast, hb, hc, x05, B5⟩⟩
      repeat' array_mem_dec
      exact k F ts H5 (by omega) hr hb x05 (B5.mono (by omega)) aF5
end
end K41
namespace K41
open PySem PySem.Spec PyProof.Rows L2 EM
/-- a refusal by Unlike, as a rule that is not opened -/
structure UErr (K : PySem.W.Frag) (cls : Value) (d : Option Addr) (H : Hp) (Q : VK) : Prop where
  h : ∃ (T : List (Addr × Str)) (p l : Addr) (n : Nat), cls = .ref (He.ga K "Unlike") ∧ d = none ∧ Bs T p l n H ∧ ∀ H3, Ext p H H3 → Bs T p l n H3 → Q (.bl true) H3
/-- what _law_is_unlike makes of what it asks -/
def TTh (K : PySem.W.Frag) (tl : XK → Hp → VK → Prop) (H : Hp) (Q : VK) : Prop :=
  ∀ E' Q', (∀ cls d H', UErr K cls d H' Q → E' cls d H') → tl E' H Q'
local macro_rules | `(tactic| sizeOf_list_dec) => `(tactic| first
  | with_reducible assumption
  | ((with_reducible apply EM.At.ext); (focus (with_reducible assumption)); (focus sizeOf_list_dec))
  | ((with_reducible apply EM.RatP.ext); (focus (with_reducible assumption)); (focus sizeOf_list_dec))
  | ((with_reducible apply EM.NumP.ext); (focus (with_reducible assumption)); (focus sizeOf_list_dec))
  | (with_reducible exact EM.Ext.refl)
  | ((with_reducible apply EM.Ext.back); (focus (with_reducible assumption)); (focus sizeOf_list_dec))
  | exact EM.NumP.int _
  | ((with_reducible apply EM.Mu.at_k); (focus (with_reducible assumption)); (focus sizeOf_list_dec); (focus sizeOf_list_dec); (focus (intro _ z; cases z; done)))
  | ((with_reducible apply EM.Mu.at_n); (focus (with_reducible assumption)); (focus sizeOf_list_dec); (focus (first | with_reducible assumption | ((apply EM.nn1); (focus (with_reducible assumption)); (focus sizeOf_list_dec)) | ((apply EM.nn2); (focus (with_reducible assumption)); (focus sizeOf_list_dec)))))
  | ((with_reducible apply EM.Mu.here); (focus (with_reducible assumption)); (focus sizeOf_list_dec))
  | ((with_reducible apply EM.Mu.rat); (focus (with_reducible assumption)); (focus sizeOf_list_dec); (focus sizeOf_list_dec))
  | ((with_reducible apply EM.Mu.num); (focus (with_reducible assumption)); (focus sizeOf_list_dec); (focus sizeOf_list_dec))
  | ((with_reducible apply EM.num_of_rat); (focus sizeOf_list_dec); (focus (first | with_reducible assumption | (apply EM.n_low; assumption))))
  | ((with_reducible apply EM.RatsP.xt); (focus (with_reducible assumption)); (focus sizeOf_list_dec))
  | ((with_reducible apply EM.NumsP.xt); (focus (with_reducible assumption)); (focus sizeOf_list_dec))
  | ((with_reducible apply EM.PairsP.xt); (focus (with_reducible assumption)); (focus sizeOf_list_dec))
  | ((with_reducible apply EM.RdP.xt); (focus (with_reducible assumption)); (focus sizeOf_list_dec))
  | ((with_reducible apply EM.Mu.rats); (focus (with_reducible assumption)); (focus sizeOf_list_dec); (focus sizeOf_list_dec))
  | ((with_reducible apply EM.Mu.pairs); (focus (with_reducible assumption)); (focus sizeOf_list_dec); (focus sizeOf_list_dec))
  | ((with_reducible apply EM.Mu.rdp); (focus (with_reducible assumption)); (focus sizeOf_list_dec); (focus sizeOf_list_dec))
  | ((with_reducible apply EM.SeqV.xt); (focus (with_reducible assumption)); (focus sizeOf_list_dec)))
local macro_rules | `(tactic| decreasing_trivial_pre_omega) => `(tactic| first
  | with_reducible assumption
  | exact EM.Bt.mono (by with_reducible assumption) (by decide)
  | exact EM.Bt.lit _ _ (by decide +kernel)
  | ((with_reducible refine EM.Bt.rng32 ?_ ?_) <;> omega)
  | ((with_reducible refine EM.Bt.rng70 ?_ ?_) <;> omega)
  | ((with_reducible refine EM.Bt.rng200 ?_ ?_) <;> omega)
  | ((with_reducible apply EM.Bt.mulM); (focus decreasing_trivial_pre_omega); (focus decreasing_trivial_pre_omega); (focus (first | decide | exact Nat.le_refl _)))
  | ((with_reducible apply EM.Bt.addM); (focus decreasing_trivial_pre_omega); (focus decreasing_trivial_pre_omega); (focus (first | decide | exact Nat.le_refl _)))
  | ((with_reducible apply EM.Bt.subM); (focus decreasing_trivial_pre_omega); (focus decreasing_trivial_pre_omega); (focus (first | decide | exact Nat.le_refl _)))
  | ((with_reducible apply EM.Bt.topL); (focus decreasing_trivial_pre_omega); (focus assumption); (focus (first | decide | exact Nat.le_refl _)))
  | ((with_reducible apply EM.Bt.botL); (focus decreasing_trivial_pre_omega); (focus assumption); (focus (first | decide | exact Nat.le_refl _)))
  | ((with_reducible apply EM.Bt.divM); (focus decreasing_trivial_pre_omega); (focus assumption); (focus (first | decide | exact Nat.le_refl _)))
  | ((with_reducible apply EM.Bt.negM); (focus decreasing_trivial_pre_omega); (focus (first | decide | exact Nat.le_refl _))))
local macro_rules | `(tactic| array_get_dec) => `(tactic| first
  | with_reducible assumption
  | ((with_reducible refine EM.gEq ?_); exact rfl)
  | ((with_reducible refine EM.gTru ?_); exact rfl)
  | ((with_reducible refine EM.gRef ?_); first | exact Or.inl ⟨_, rfl⟩ | exact Or.inr ⟨_, rfl⟩)
  | ((with_reducible apply EM.At.get); sizeOf_list_dec)
  | ((with_reducible apply EM.At.sqL); sizeOf_list_dec)
  | ((with_reducible apply EM.At.sqT); sizeOf_list_dec)
  | ((with_reducible apply EM.RatP.getK); (focus sizeOf_list_dec); (focus (exact rfl)))
  | (with_reducible exact EM.Num.int _)
  | ((with_reducible apply EM.NumP.getK); (focus sizeOf_list_dec); (focus (exact rfl)))
  | ((with_reducible apply EM.At.ext); (focus (with_reducible assumption)); (focus sizeOf_list_dec))
  | ((with_reducible apply EM.RatP.ext); (focus (with_reducible assumption)); (focus sizeOf_list_dec))
  | ((with_reducible apply EM.NumP.ext); (focus (with_reducible assumption)); (focus sizeOf_list_dec))
  | with_reducible exact Tx.cl_Ratio (by assumption)
  | with_reducible exact Tx.cl_Reading (by assumption)
  | with_reducible exact Tx.cl_Duel (by assumption)
  | with_reducible exact Tx.na_Ratio_top (by assumption)
  | with_reducible exact Tx.na_Ratio_bottom (by assumption)
  | with_reducible exact Tx.na_Reading_own_edges (by assumption)
  | with_reducible exact Tx.na_Duel_weights (by assumption)
  | with_reducible exact Tx.na_Duel_level (by assumption)
  | ((with_reducible refine EM.gAt ?_); sizeOf_list_dec)
  | ((with_reducible refine EM.gRat ?_); sizeOf_list_dec)
  | ((with_reducible refine EM.gNum ?_); sizeOf_list_dec)
  | ((with_reducible apply EM.TwoP.mk); (focus (with_reducible assumption)); (focus sizeOf_list_dec); (focus (first | with_reducible assumption | (apply EM.n_low; assumption))); (focus sizeOf_list_dec); (focus decreasing_trivial_pre_omega); (focus decreasing_trivial_pre_omega); (focus decreasing_trivial_pre_omega); (focus decreasing_trivial_pre_omega))
  | (with_reducible exact EM.Ext.refl)
  | ((with_reducible apply EM.Ext.back); (focus (with_reducible assumption)); (focus sizeOf_list_dec))
  | ((with_reducible apply EM.Bs.mono); (focus (with_reducible assumption)); omega)
  | ((with_reducible refine EM.gN ?_); first | decide | omega | exact Nat.le_of_ble_eq_true rfl | (simp only [List.length_cons, List.length_nil, List.length_append]; omega))
  | ((with_reducible refine EM.gM ?_); first | decide | omega | exact Nat.le_of_ble_eq_true rfl)
  | ((with_reducible refine EM.gI ?_); first | decide | omega)
  | ((with_reducible refine EM.gJ ?_); first | decide | omega)
  | ((with_reducible refine EM.gE ?_); first | decide | omega)
  | ((with_reducible refine EM.gB ?_); decreasing_trivial_pre_omega)
  | ((with_reducible apply EM.wideM); (focus decreasing_trivial_pre_omega); (focus decreasing_trivial_pre_omega); (focus decide)))
local macro_rules | `(tactic| infer_instance) => `(tactic| first
  | with_reducible assumption
  | exact DpAll.nil
  | (apply DpAll.cons; (focus infer_instance); (focus infer_instance))
  | with_reducible exact Dp.int _
  | exact Dp.int _
  | with_reducible exact Dp.str _
  | exact Dp.bl _
  | exact Dp.non
  | ((with_reducible apply EM.dp_lst); (focus array_get_dec); (focus infer_instance))
  | ((with_reducible apply EM.dp_tup); (focus array_get_dec); (focus infer_instance))
  | exact EM.dp_ints _)
local macro_rules | `(tactic| nofun) => `(tactic| first
  | with_reducible assumption
  | exact EM.FeL.nil
  | exact EM.FdL.nil
  | (apply EM.FeL.cons; (focus nofun); (focus nofun))
  | (apply EM.FdL.cons; (focus nofun); (focus nofun))
  | exact EM.Fe.int _
  | exact EM.Fe.bool _
  | exact EM.Fe.non
  | exact EM.Fe.str (EM.okS_of _)
  | (apply EM.Fe.str; apply EM.Fd.ok; (focus nofun))
  | (apply EM.Fe.list; (focus nofun))
  | (apply EM.Fe.tup; (focus nofun))
  | (apply EM.Fd.int; (focus decreasing_trivial_pre_omega))
  | exact EM.Fd.bool _
  | exact EM.Fd.non
  | (refine EM.Fd.bool _)
  | (apply EM.Fd.list; (focus nofun))
  | (apply EM.Fd.tup; (focus nofun)))
local macro_rules | `(tactic| array_mem_dec) => `(tactic| ((with_reducible refine EM.pr ?_); first
  | (with_reducible refine L2.iteT ?_)
  | (with_reducible refine L2.iteF ?_)
  | (with_reducible refine EM.ifNotT ?_)
  | (with_reducible refine EM.ifNotF ?_)
  | ((fail_if_success (with_reducible refine EM.gIf ?_)); first
  | array_get_dec
  | (refine EM.mk_low (by with_reducible assumption) (by with_reducible assumption) ?_ ?_; (focus array_get_dec))
  | (apply EM.isNum_sw; (focus sizeOf_list_dec))
  | (apply EM.of_sw; (focus (with_reducible assumption)); (focus sizeOf_list_dec))
  | (apply EM.neg_bs; (focus (with_reducible assumption)); (focus sizeOf_list_dec); (focus array_get_dec); (focus array_get_dec))
  | (apply EM.relw_bs; (focus (with_reducible assumption)); (focus sizeOf_list_dec); (focus sizeOf_list_dec); (focus array_get_dec); (focus decreasing_trivial_pre_omega); (focus decreasing_trivial_pre_omega); (focus decreasing_trivial_pre_omega); (focus decreasing_trivial_pre_omega))
  | ((apply EM.DnS.bs); (focus (with_reducible assumption)); (focus (intro _ z; cases z; done)))
  | ((apply EM.seqL); (focus sizeOf_list_dec))
  | ((apply EM.seqT); (focus sizeOf_list_dec))
  | ((apply EM.lenL); (focus sizeOf_list_dec))
  | ((apply EM.lenT); (focus sizeOf_list_dec))
  | ((apply EM.isSeqL); (focus sizeOf_list_dec); (focus sizeOf_list_dec))
  | ((apply EM.isSeqT); (focus sizeOf_list_dec); (focus sizeOf_list_dec))
  | ((apply EM.tupL); (focus sizeOf_list_dec))
  | ((apply EM.fld_bs); (focus sizeOf_list_dec); (focus (first | exact Tx.cl_Reading (by assumption) | exact Tx.cl_Duel (by assumption))); (focus (first | exact Tx.na_Reading_own_edges (by assumption) | exact Tx.na_Duel_weights (by assumption) | exact Tx.na_Duel_level (by assumption))); (focus (exact rfl)))
  | ((apply EM.seqS); (focus sizeOf_list_dec))
  | ((apply EM.enS); (focus sizeOf_list_dec))
  | ((apply EM.lenS); (focus sizeOf_list_dec))
  | ((apply EM.isSeqS); (focus sizeOf_list_dec); (focus sizeOf_list_dec))
  | ((apply EM.lstS); (focus sizeOf_list_dec))
  | ((apply EM.sumS); (focus sizeOf_list_dec))
  | ((apply EM.tupSL); (focus sizeOf_list_dec))
  | ((apply EM.tupST); (focus sizeOf_list_dec))
  | ((with_reducible refine EM.New.bs (by with_reducible assumption) ?_ ?_); (focus (intro _ z; cases z; done)))
  | ((with_reducible refine EM.gMu ?_); (with_reducible apply EM.mu_bs); (focus (with_reducible assumption)); (focus sizeOf_list_dec); (focus (apply EM.nel2; (focus (with_reducible assumption)); (focus (with_reducible assumption)))); intro _ _ _)
  | intro _
  | (apply And.intro; (focus array_get_dec))
  | apply Exists.intro
  | (refine EM.draw_bs (by with_reducible assumption) ?_ ?_ ?_ ?_; (focus array_get_dec); (focus array_get_dec); (focus (first | decide | omega)))
  | (apply EM.pick_bs; (focus (with_reducible assumption)); (focus array_get_dec); (focus sizeOf_list_dec); (focus (exact Nat.le_of_ble_eq_true rfl)); (focus (exact Nat.le_of_ble_eq_true rfl)))
  | ((apply EM.repr_sw); (focus infer_instance); (focus nofun); (focus decide))
  | ((apply EM.eqd_same); (focus infer_instance); (focus infer_instance); (focus nofun); (focus decide))
  | ((apply EM.ned_same); (focus infer_instance); (focus infer_instance); (focus nofun); (focus decide))
  | ((apply EM.eqd_sw); (focus infer_instance); (focus infer_instance); (focus nofun); (focus nofun); (focus decide))
  | ((apply EM.ned_sw); (focus infer_instance); (focus infer_instance); (focus nofun); (focus nofun); (focus decide))
  | (refine EM.cut_bs (by with_reducible assumption) ?_ ?_ ?_; (focus array_get_dec); (focus array_get_dec)))))
theorem gives_unlike {X : Cx} (T : Tx X.K X.mg) (q : Str) : GivesG X ["_law_ask", "_law_caught", "error"] "_law_is_unlike" (defScope s_Lis_unlike) (He.ga X.K "_law_is_unlike") (codeV X.K (He.ga X.K "_law_is_unlike")) (defBody s_Lis_unlike) "_law_ask" q (TTh X.K) := by
  intro f c2 s H Q tl act hc h
  apply EM.mk2
  · apply pss_cons (ps_set (i := 1) sc_Lis_unlike.nd rfl (Or.inl rfl) pe_non)
    apply pss_cons
    · apply EM.ps_tryK (X := cxOf (L2.CX X.prog X.w) X.prog X.w X.K X.mg X.base ["_law_ask", "_law_caught", "error"] "_law_is_unlike" (defScope s_Lis_unlike) (He.ga X.K "_law_is_unlike") (codeV X.K (He.ga X.K "_law_is_unlike")) X.A X.stack s H E0)
        (tb := fun W => tDrop (fun σZ HZ Q => σZ[0]? = some (some (.ref f)) ∧ HZ c2 = some (LamX.CodeO c2 q) ∧ tl (wide 3 W) HZ Q)) rfl rfl sc_Lis_unlike.nd rfl takes0
      · intro W pn xe tkW pw
        exact pss_one (ps_expr (act W pn xe _ _ tkW))
      · exact (.named (c := .ref (He.ga X.K "EdgeError")) (i := 2) ⟨by rfl, by decide, .inl T.g_EdgeError⟩ rfl rfl (fun a oe cls d pn hz hf => (pss_one (ps_set (i := 1) sc_Lis_unlike.nd rfl (Or.inl rfl) (pv 2)))) .nil)
    · exact (pss_one (ps_ret (pe_callB EM.call_isX0 (by rfl) T.f_isinstance (by decide +kernel) (pa_cons (pv 1) (pa_cons (pe_glob (v := .ref (He.ga X.K "Unlike")) (by rfl) T.g_Unlike rfl) pa_nil)))))
  · refine ⟨rfl, hc, h _ _ (fun cls d H' he σ' hσ => ?_)⟩
    obtain ⟨T0, p, l, n, rfl, rfl, B0, k⟩ := he.h
    match σ', hσ with
    | [v0, v1, v2], _ =>
      refine ⟨true, T.xm_Unlike_EdgeError, fun _ a ha => ?_, fun z => nomatch z⟩
      have nw := B0.keepX (cls := .ref (He.ga X.K "Unlike")) (d := none) ha
      have x1 : Ext p H' (upd H' a (exK a (.ref (He.ga X.K "Unlike")) none)) := Ext.same nw.same
      have B1 := B0.same nw.same
      have ep := B0.new nw exK_ntbl
      clear he h act
      repeat' array_mem_dec
      --U1
      exact ⟨⟨p, a, _, _, _, true, rfl, ep, T.xc_Unlike, .own _, T.kit_Unlike_Unlike, k _ x1 B1⟩⟩
end K41
namespace K41
open PySem PySem.Spec PyProof.Rows L2 EM
structure NegS (K : PySem.W.Frag) (x : V) (H : Hp) (Q : VK) : Prop where
  h : spNegD K [x] H Q E0
theorem un_negDu {K : PySem.W.Frag} {mg : Str → Option Value} (T : Tx K mg) {X : Cx} (hr : Room 12 X.A) (e1 : X.K = K := by rfl) (e2 : X.mg = mg := by rfl) : UnR X (unaryOp .USub) (NegS K) := by
  subst e1 e2
  refine unR_of (un_negO (E := E0) T.m_Duel_neg.at_ T.m_Duel_neg.fn (ok_Duel_neg T) hr passL) fun x H Q ⟨h⟩ => ?_
  obtain ⟨T0, p, l, d, n, ws, e, ex, B, dp, _⟩ := id h
  cases ex
  obtain ⟨dx, q, a, h1, _⟩ := id dp
  exact ⟨d, dx, _, rfl, h1.at_, h⟩
def tCI (K : PySem.W.Frag) (E : XK) (te : TE) (t : TA) : TE := fun σ H Q => te σ H fun x H1 => ∃ a, x = V.ref a ∧ t σ H1 fun vs H2 => Sw (spCall K) (V.ref a :: vs) H2 Q E
theorem pe_cI {K : PySem.W.Frag} {mg : Str → Option Value} (T : Tx K mg) {X : Cx} {E : XK} {o e : Expr} {es : List Expr} {te : TE} {t : TA} {pos : Pos} (hr : Room 11 X.A) (hx : Passes (L2.CX X.prog X.w) X E) (he : PE X o te) (ha : PA X (e :: es) t)
    (hst : starEach (e :: es) X.env = (false, eval e X.env) :: starEach es X.env := by rfl) (hpl : (backTo pos (starEach es X.env)).any (·.1) = false := by rfl)
    (hev : eval (.Call o (e :: es) [] pos) X.env = (do callWith pos (← eval o X.env) [] (backTo pos (starEach (e :: es) X.env)) (backToKw pos (keywordEach [] X.env))) := by rfl) (e1 : X.K = K := by rfl) (e2 : X.mg = mg := by rfl) :
    PE X (.Call o (e :: es) [] pos) (tCI K E te t) := by
  subst e1 e2
  obtain ⟨fd, F⟩ := T.d_Duel_call
  exact (pe_callI (E := E) he.mc T.m_Duel_call.at_ T.m_Duel_call.fn (fnIn_of F) (ok_Duel_call T) hr hx ha.mc hst hpl hev).of fun σ H Q q => ⟨_, q, fun x H1 ⟨a, e, q1⟩ => ⟨a, e, _, q1, fun vs H2 ⟨h⟩ => by
    subst e
    obtain ⟨T0, p, l, d, r, rq, n, ws, e, es, ev, B, dp, _⟩ := id h
    cases ev
    obtain ⟨dx, qq, aa, h1, _⟩ := dp
    exact ⟨dx, _, h1.at_, h⟩⟩⟩
theorem fi_call {K : PySem.W.Frag} {mg : Str → Option Value} (T : Tx K mg) : PySem.W.fnIn K (He.ma K (He.ga K "Duel") "__call__") = true := by
  obtain ⟨fd, F⟩ := T.d_Duel_call
  exact fnIn_of F
section
variable {K : PySem.W.Frag} {T : List (Addr × Str)} {p l d r rq : Addr} {n D : Nat} {H : Hp} {ws ts : List Int} {e : Int × Int} {Q : VK} {E : XK}
/-- a ratio of a whole number and the bottom is made -/
theorem mkF_bs {x : Int} (B : Bs T p l n H) (d0 : 0 < D) (d1 : D ≤ 97) (k : ∀ a H', Ext p H H' → Bs T p l n H' → RatP K p H' a (lowF D x).1 (lowF D x).2 → Q (.ref a) H') : Sw (spMkN K) [.int x, .int (D : Nat)] H Q E :=
  ⟨⟨x, (D : Nat), rfl, by omega, by
    have : ((D : Int)).natAbs = D := Int.natAbs_natCast D
    rw [this]
    exact Nat.lt_of_le_of_lt (Nat.log2_le_self D) (by omega), RatRes.bs B k⟩⟩
/-- a duel weighs a row -/
theorem weigh_ok (B : Bs T p l n H) (dp : DuelP K p H d ws e) (rd : RdP K p H r rq (ts.map (lowF D))) (hl : ws.length = ts.length) (h128 : ws.length ≤ 128) (hw : ∀ w ∈ ws, w.natAbs ≤ W0) (ht : ∀ t ∈ ts, t.natAbs ≤ M0) (d0 : 0 < D) (d1 : D ≤ 97)
    (k : ∀ c H', Ext p H H' → Bs T p l n H' → RatP K p H' c (lowF D (dotI ws ts)).1 (lowF D (dotI ws ts)).2 → Q (.ref c) H') : spWeigh K [.ref d, .ref r] H Q E := by
  have ok := wok hl h128 hw ht d0 d1
  refine ⟨T, p, l, d, r, rq, n, ws, e, _, rfl, B, dp, rd, by rw [List.length_map]; omega, h128, .inr ⟨D, M0, W0, ok, fun c f H' x B' rc dv es => ?_⟩⟩
  rw [sc_row d0] at es
  have ef := lowF_eq d0 dv
  rw [es] at ef
  rw [ef] at rc
  exact k c H' x B' rc
/-- a duel answers -/
theorem call_ok {lv : Int} (B : Bs T p l n H) (dp : DuelP K p H d ws (lowF D lv)) (lb : lv.natAbs < 2 ^ 200) (rd : RdP K p H r rq (ts.map (lowF D))) (hl : ws.length = ts.length) (h128 : ws.length ≤ 128) (hw : ∀ w ∈ ws, w.natAbs ≤ W0) (ht : ∀ t ∈ ts, t.natAbs ≤ M0) (d0 : 0 < D) (d1 : D ≤ 97)
    (k : ∀ H', Ext p H H' → Bs T p l n H' → Q (.int (sgn (dotI ws ts) lv)) H') : Sw (spCall K) [.ref d, .ref r] H Q E := by
  have ok := wok hl h128 hw ht d0 d1
  refine ⟨⟨T, p, l, d, r, rq, n, ws, _, _, rfl, B, dp, rd, by rw [List.length_map]; omega, h128, .inr ⟨D, M0, W0, _, ok, lowF_dv d0 (Nat.le_refl _), Nat.lt_of_lt_of_le lb (Nat.pow_le_pow_right (by decide) (by decide)), fun H' x B' => ?_⟩⟩⟩
  rw [sc_row d0, lowF_sc d0]
  exact k H' x B'
end
theorem low_bt {D : Nat} {x : Int} (d0 : 0 < D) (d1 : D ≤ 97) (h : x.natAbs < 2 ^ 200) : Bt 900 (lowF D x).1 ∧ Bt 900 (lowF D x).2 := by
  have := (lowF_dv (t := x) d0 (Nat.le_refl _)).bt (k := 7) (m := 200) d0 (by omega) h
  exact ⟨this.1.mono (by decide), this.2.mono (by decide)⟩
theorem okS_rtx {e : Int × Int} (h1 : Bt 1900 e.1) (h2 : Bt 1900 e.2) : okS (rtx e) := by
  unfold rtx
  split
  · exact okS_int h1
  · exact (okS_int h1).app ((okS_of _).app (okS_int h2))
theorem okS_rd {es : List (Int × Int)} (h : ∀ e ∈ es, Bt 1900 e.1 ∧ Bt 1900 e.2) : okS (rdtx es) := okS_txt _ (okS_of _) _ fun t ht => by
  obtain ⟨e, he, rfl⟩ := List.mem_map.mp ht
  exact okS_rtx (h e he).1 (h e he).2
theorem sgn_off {a off : Int} : sgn a (a - off) = sgn off 0 := by
  unfold sgn
  by_cases h : off = 0
  · rw [if_pos (by omega), if_pos h]
  · rw [if_neg (by omega), if_neg h]
    by_cases g : 0 < off
    · rw [if_pos (by omega), if_pos g]
    · rw [if_neg (by omega), if_neg g]
theorem sgn_neg {a b : Int} : sgn (-a) (-b) = 0 - sgn a b := by
  unfold sgn
  by_cases h : a = b
  · rw [if_pos (by omega), if_pos h]
    rfl
  · rw [if_neg (by omega), if_neg h]
    by_cases g : b < a
    · rw [if_neg (by omega), if_pos g]
      rfl
    · rw [if_pos (by omega), if_neg g]
      rfl
structure IntB (xs : List V) (H : Hp) (Q : VK) : Prop where
  h : ∃ b, xs = [.bl b] ∧ Q (.int (if b then 1 else 0)) H
theorem intB {b : Bool} {H : Hp} {Q : VK} (k : Q (.int (if b then 1 else 0)) H) : IntB [.bl b] H Q := ⟨b, rfl, k⟩
theorem call_intB {X : Cx} : CallR X (.type "int") IntB := callR_of call_int1 fun xs H Q ⟨⟨b, e, k⟩⟩ => .inr ⟨b, e, k⟩
theorem sgn0 {a : Int} : ((if decide (0 < a) then 1 else 0) - (if decide (a < 0) then 1 else 0) : Int) = sgn a 0 := by
  unfold sgn
  by_cases h : a = 0
  · subst h
    rfl
  · rw [if_neg h]
    by_cases g : 0 < a
    · rw [if_pos g, decide_eq_true g, decide_eq_false (by omega)]
      rfl
    · rw [if_neg g, decide_eq_false g, decide_eq_true (by omega)]
      rfl
theorem sgn_bt (a b : Int) : Bt 1900 (sgn a b) := by
  unfold sgn
  split
  · exact Bt.lit _ _ (by decide +kernel)
  · split
    · exact Bt.lit _ _ (by decide +kernel)
    · exact Bt.lit _ _ (by decide +kernel)
def spHeldR (K : PySem.W.Frag) : Sp := fun vs H Q _ => ∃ (T : List (Addr × Str)) (p l d R S r rq : Addr) (n D : Nat) (ws ts : List Int), vs = [.ref d, .ref R, .ref S, .int (D : Nat), .ref r] ∧ Bs T p l n H ∧ DuelP K p H d ws (0, 1) ∧ At p H R (.lst (ws.map V.int)) ∧ At p H S (.lst (ts.map V.int)) ∧ RdP K p H r rq (ts.map (lowF D)) ∧
  ws.length = ts.length ∧ ws.length ≤ 128 ∧ (∀ w ∈ ws, w.natAbs ≤ W0) ∧ (∀ t ∈ ts, t.natAbs ≤ M0) ∧ 0 < D ∧ D ≤ 97 ∧ ∀ H', Ext p H H' → Bs T p l n H' → Q (.bl true) H'
def spToldR (K : PySem.W.Frag) : Sp := fun vs H Q _ => ∃ (T : List (Addr × Str)) (p l R S r rq : Addr) (n D : Nat) (ws ts : List Int) (off : Int), vs = [.ref R, .ref S, .int (D : Nat), .ref r, .int off] ∧ Bs T p l n H ∧ At p H R (.lst (ws.map V.int)) ∧ At p H S (.lst (ts.map V.int)) ∧ RdP K p H r rq (ts.map (lowF D)) ∧
  GoodW ws ∧ ws.length = ts.length ∧ (∀ w ∈ ws, w.natAbs ≤ W0) ∧ (∀ t ∈ ts, t.natAbs ≤ M0) ∧ 0 < D ∧ D ≤ 97 ∧ off.natAbs ≤ 100000000000000000000 ∧ ∀ H', Ext p H H' → Bs T p l n H' → Q (.bl true) H'
theorem low0 {D : Nat} (d0 : 0 < D) : ((0 : Int), (1 : Int)) = lowF D 0 := by
  have h : Dv D 0 ((0 : Int), (1 : Int)) := ⟨low_one 0, Int.one_dvd _, by show ((0 : Int).natAbs : Int) ≤ _; decide⟩
  have := lowF_eq d0 h
  rw [show sc D ((0 : Int), (1 : Int)) = 0 from Int.zero_mul _] at this
  exact this
local macro_rules | `(tactic| sizeOf_list_dec) => `(tactic| first
  | with_reducible assumption
  | ((with_reducible apply EM.At.ext); (focus (with_reducible assumption)); (focus sizeOf_list_dec))
  | ((with_reducible apply EM.RatP.ext); (focus (with_reducible assumption)); (focus sizeOf_list_dec))
  | ((with_reducible apply EM.NumP.ext); (focus (with_reducible assumption)); (focus sizeOf_list_dec))
  | (with_reducible exact EM.Ext.refl)
  | ((with_reducible apply EM.Ext.back); (focus (with_reducible assumption)); (focus sizeOf_list_dec))
  | exact EM.NumP.int _
  | ((with_reducible apply EM.Mu.at_k); (focus (with_reducible assumption)); (focus sizeOf_list_dec); (focus sizeOf_list_dec); (focus (intro _ z; cases z; done)))
  | ((with_reducible apply EM.Mu.at_n); (focus (with_reducible assumption)); (focus sizeOf_list_dec); (focus (first | with_reducible assumption | ((apply EM.nn1); (focus (with_reducible assumption)); (focus sizeOf_list_dec)) | ((apply EM.nn2); (focus (with_reducible assumption)); (focus sizeOf_list_dec)))))
  | ((with_reducible apply EM.Mu.here); (focus (with_reducible assumption)); (focus sizeOf_list_dec))
  | ((with_reducible apply EM.Mu.rat); (focus (with_reducible assumption)); (focus sizeOf_list_dec); (focus sizeOf_list_dec))
  | ((with_reducible apply EM.Mu.num); (focus (with_reducible assumption)); (focus sizeOf_list_dec); (focus sizeOf_list_dec))
  | ((with_reducible apply EM.num_of_rat); (focus sizeOf_list_dec); (focus (first | with_reducible assumption | (apply EM.n_low; assumption))))
  | ((with_reducible apply EM.RatsP.xt); (focus (with_reducible assumption)); (focus sizeOf_list_dec))
  | ((with_reducible apply EM.NumsP.xt); (focus (with_reducible assumption)); (focus sizeOf_list_dec))
  | ((with_reducible apply EM.PairsP.xt); (focus (with_reducible assumption)); (focus sizeOf_list_dec))
  | ((with_reducible apply EM.RdP.xt); (focus (with_reducible assumption)); (focus sizeOf_list_dec))
  | ((with_reducible apply EM.Mu.rats); (focus (with_reducible assumption)); (focus sizeOf_list_dec); (focus sizeOf_list_dec))
  | ((with_reducible apply EM.Mu.pairs); (focus (with_reducible assumption)); (focus sizeOf_list_dec); (focus sizeOf_list_dec))
  | ((with_reducible apply EM.Mu.rdp); (focus (with_reducible assumption)); (focus sizeOf_list_dec); (focus sizeOf_list_dec))
  | ((with_reducible apply EM.SeqV.xt); (focus (with_reducible assumption)); (focus sizeOf_list_dec))
  | ((with_reducible apply DuelP.xt); (focus (with_reducible assumption)); (focus sizeOf_list_dec)))
local macro_rules | `(tactic| decreasing_trivial_pre_omega) => `(tactic| first
  | with_reducible assumption
  | exact EM.Bt.mono (by with_reducible assumption) (by decide)
  | exact EM.Bt.lit _ _ (by decide +kernel)
  | ((with_reducible refine EM.Bt.rng32 ?_ ?_) <;> omega)
  | ((with_reducible refine EM.Bt.rng70 ?_ ?_) <;> omega)
  | ((with_reducible refine EM.Bt.rng200 ?_ ?_) <;> omega)
  | ((with_reducible apply EM.Bt.mulM); (focus decreasing_trivial_pre_omega); (focus decreasing_trivial_pre_omega); (focus (first | decide | exact Nat.le_refl _)))
  | ((with_reducible apply EM.Bt.addM); (focus decreasing_trivial_pre_omega); (focus decreasing_trivial_pre_omega); (focus (first | decide | exact Nat.le_refl _)))
  | ((with_reducible apply EM.Bt.subM); (focus decreasing_trivial_pre_omega); (focus decreasing_trivial_pre_omega); (focus (first | decide | exact Nat.le_refl _)))
  | ((with_reducible apply EM.Bt.topL); (focus decreasing_trivial_pre_omega); (focus assumption); (focus (first | decide | exact Nat.le_refl _)))
  | ((with_reducible apply EM.Bt.botL); (focus decreasing_trivial_pre_omega); (focus assumption); (focus (first | decide | exact Nat.le_refl _)))
  | ((with_reducible apply EM.Bt.divM); (focus decreasing_trivial_pre_omega); (focus assumption); (focus (first | decide | exact Nat.le_refl _)))
  | ((with_reducible apply EM.Bt.negM); (focus decreasing_trivial_pre_omega); (focus (first | decide | exact Nat.le_refl _))))
local macro_rules | `(tactic| array_get_dec) => `(tactic| first
  | with_reducible assumption
  | ((with_reducible refine EM.gEq ?_); exact rfl)
  | ((with_reducible refine EM.gTru ?_); exact rfl)
  | ((with_reducible refine EM.gRef ?_); first | exact Or.inl ⟨_, rfl⟩ | exact Or.inr ⟨_, rfl⟩)
  | ((with_reducible apply EM.At.get); sizeOf_list_dec)
  | ((with_reducible apply EM.At.sqL); sizeOf_list_dec)
  | ((with_reducible apply EM.At.sqT); sizeOf_list_dec)
  | ((with_reducible apply EM.RatP.getK); (focus sizeOf_list_dec); (focus (exact rfl)))
  | (with_reducible exact EM.Num.int _)
  | ((with_reducible apply EM.NumP.getK); (focus sizeOf_list_dec); (focus (exact rfl)))
  | ((with_reducible apply EM.At.ext); (focus (with_reducible assumption)); (focus sizeOf_list_dec))
  | ((with_reducible apply EM.RatP.ext); (focus (with_reducible assumption)); (focus sizeOf_list_dec))
  | ((with_reducible apply EM.NumP.ext); (focus (with_reducible assumption)); (focus sizeOf_list_dec))
  | with_reducible exact Tx.cl_Ratio (by assumption)
  | with_reducible exact Tx.cl_Reading (by assumption)
  | with_reducible exact Tx.cl_Duel (by assumption)
  | with_reducible exact Tx.na_Ratio_top (by assumption)
  | with_reducible exact Tx.na_Ratio_bottom (by assumption)
  | with_reducible exact Tx.na_Reading_own_edges (by assumption)
  | with_reducible exact Tx.na_Duel_weights (by assumption)
  | with_reducible exact Tx.na_Duel_level (by assumption)
  | ((with_reducible refine EM.gAt ?_); sizeOf_list_dec)
  | ((with_reducible refine EM.gRat ?_); sizeOf_list_dec)
  | ((with_reducible refine EM.gNum ?_); sizeOf_list_dec)
  | ((with_reducible apply EM.TwoP.mk); (focus (with_reducible assumption)); (focus sizeOf_list_dec); (focus (first | with_reducible assumption | (apply EM.n_low; assumption))); (focus sizeOf_list_dec); (focus decreasing_trivial_pre_omega); (focus decreasing_trivial_pre_omega); (focus decreasing_trivial_pre_omega); (focus decreasing_trivial_pre_omega))
  | (with_reducible exact EM.Ext.refl)
  | ((with_reducible apply EM.Ext.back); (focus (with_reducible assumption)); (focus sizeOf_list_dec))
  | ((with_reducible apply EM.Bs.mono); (focus (with_reducible assumption)); omega)
  | ((with_reducible refine EM.gN ?_); first | decide | omega | exact Nat.le_of_ble_eq_true rfl | (simp only [List.length_cons, List.length_nil, List.length_append]; omega))
  | ((with_reducible refine EM.gM ?_); first | decide | omega | exact Nat.le_of_ble_eq_true rfl)
  | ((with_reducible refine EM.gI ?_); first | decide | omega)
  | ((with_reducible refine EM.gJ ?_); first | decide | omega)
  | ((with_reducible refine EM.gE ?_); first | decide | omega)
  | ((with_reducible refine EM.gB ?_); decreasing_trivial_pre_omega)
  | ((with_reducible apply EM.wideM); (focus decreasing_trivial_pre_omega); (focus decreasing_trivial_pre_omega); (focus decide)))
local macro_rules | `(tactic| infer_instance) => `(tactic| first
  | with_reducible assumption
  | exact DpAll.nil
  | (apply DpAll.cons; (focus infer_instance); (focus infer_instance))
  | with_reducible exact Dp.int _
  | exact Dp.int _
  | with_reducible exact Dp.str _
  | exact Dp.bl _
  | exact Dp.non
  | ((with_reducible apply EM.dp_lst); (focus array_get_dec); (focus infer_instance))
  | ((with_reducible apply EM.dp_tup); (focus array_get_dec); (focus infer_instance))
  | exact EM.dp_ints _)
local macro_rules | `(tactic| nofun) => `(tactic| first
  | with_reducible assumption
  | exact EM.FeL.nil
  | exact EM.FdL.nil
  | (apply EM.FeL.cons; (focus nofun); (focus nofun))
  | (apply EM.FdL.cons; (focus nofun); (focus nofun))
  | exact EM.Fe.int _
  | exact EM.Fe.bool _
  | exact EM.Fe.non
  | exact EM.Fe.str (EM.okS_of _)
  | (apply EM.Fe.str; apply EM.Fd.ok; (focus nofun))
  | (apply EM.Fe.list; (focus nofun))
  | (apply EM.Fe.tup; (focus nofun))
  | (apply EM.Fd.int; (focus decreasing_trivial_pre_omega))
  | exact EM.Fd.bool _
  | exact EM.Fd.non
  | (refine EM.Fd.bool _)
  | (apply EM.Fd.list; (focus nofun))
  | (apply EM.Fd.tup; (focus nofun)))
local macro_rules | `(tactic| array_mem_dec) => `(tactic| ((with_reducible refine EM.pr ?_); first
  | (with_reducible refine L2.iteT ?_)
  | (with_reducible refine L2.iteF ?_)
  | (with_reducible refine EM.ifNotT ?_)
  | (with_reducible refine EM.ifNotF ?_)
  | ((fail_if_success (with_reducible refine EM.gIf ?_)); first
  | array_get_dec
  | (refine EM.mk_low (by with_reducible assumption) (by with_reducible assumption) ?_ ?_; (focus array_get_dec))
  | (apply EM.isNum_sw; (focus sizeOf_list_dec))
  | (apply EM.of_sw; (focus (with_reducible assumption)); (focus sizeOf_list_dec))
  | (apply EM.neg_bs; (focus (with_reducible assumption)); (focus sizeOf_list_dec); (focus array_get_dec); (focus array_get_dec))
  | (apply EM.relw_bs; (focus (with_reducible assumption)); (focus sizeOf_list_dec); (focus sizeOf_list_dec); (focus array_get_dec); (focus decreasing_trivial_pre_omega); (focus decreasing_trivial_pre_omega); (focus decreasing_trivial_pre_omega); (focus decreasing_trivial_pre_omega))
  | ((apply EM.DnS.bs); (focus (with_reducible assumption)); (focus (intro _ z; cases z; done)))
  | ((apply EM.seqL); (focus sizeOf_list_dec))
  | ((apply EM.seqT); (focus sizeOf_list_dec))
  | ((apply EM.lenL); (focus sizeOf_list_dec))
  | ((apply EM.lenT); (focus sizeOf_list_dec))
  | ((apply EM.isSeqL); (focus sizeOf_list_dec); (focus sizeOf_list_dec))
  | ((apply EM.isSeqT); (focus sizeOf_list_dec); (focus sizeOf_list_dec))
  | ((apply EM.tupL); (focus sizeOf_list_dec))
  | ((apply EM.fld_bs); (focus sizeOf_list_dec); (focus (first | exact Tx.cl_Reading (by assumption) | exact Tx.cl_Duel (by assumption))); (focus (first | exact Tx.na_Reading_own_edges (by assumption) | exact Tx.na_Duel_weights (by assumption) | exact Tx.na_Duel_level (by assumption))); (focus (exact rfl)))
  | ((apply EM.seqS); (focus sizeOf_list_dec))
  | ((apply EM.enS); (focus sizeOf_list_dec))
  | ((apply EM.lenS); (focus sizeOf_list_dec))
  | ((apply EM.isSeqS); (focus sizeOf_list_dec); (focus sizeOf_list_dec))
  | ((apply EM.lstS); (focus sizeOf_list_dec))
  | ((apply EM.sumS); (focus sizeOf_list_dec))
  | ((apply EM.tupSL); (focus sizeOf_list_dec))
  | ((apply EM.tupST); (focus sizeOf_list_dec))
  | ((apply str_bs); (focus sizeOf_list_dec); (focus decreasing_trivial_pre_omega); (focus decreasing_trivial_pre_omega))
  | (apply intB)
  | ((apply EM.zpL); (focus sizeOf_list_dec); (focus sizeOf_list_dec))
  | (with_reducible apply EM.EqS.mk')
  | (with_reducible apply EM.NeS.mk')
  | ((apply EM.repr_fr); (focus infer_instance); (focus (with_reducible assumption)); (focus decide))
  | ((apply textF_bs); (focus (with_reducible assumption)); (focus decreasing_trivial_pre_omega); (focus decreasing_trivial_pre_omega))
  | ((with_reducible refine EM.New.bs (by with_reducible assumption) ?_ ?_); (focus (intro _ z; cases z; done)))
  | ((with_reducible refine EM.gMu ?_); (with_reducible apply EM.mu_bs); (focus (with_reducible assumption)); (focus sizeOf_list_dec); (focus (apply EM.nel2; (focus (with_reducible assumption)); (focus (with_reducible assumption)))); intro _ _ _)
  | intro _
  | (apply And.intro; (focus array_get_dec))
  | apply Exists.intro
  | (refine EM.draw_bs (by with_reducible assumption) ?_ ?_ ?_ ?_; (focus array_get_dec); (focus array_get_dec); (focus (first | decide | omega)))
  | (apply EM.pick_bs; (focus (with_reducible assumption)); (focus array_get_dec); (focus sizeOf_list_dec); (focus (exact Nat.le_of_ble_eq_true rfl)); (focus (exact Nat.le_of_ble_eq_true rfl)))
  | ((apply EM.repr_sw); (focus infer_instance); (focus nofun); (focus decide))
  | ((apply EM.eqd_same); (focus infer_instance); (focus infer_instance); (focus nofun); (focus decide))
  | ((apply EM.ned_same); (focus infer_instance); (focus infer_instance); (focus nofun); (focus decide))
  | ((apply EM.eqd_sw); (focus infer_instance); (focus infer_instance); (focus nofun); (focus nofun); (focus decide))
  | ((apply EM.ned_sw); (focus infer_instance); (focus infer_instance); (focus nofun); (focus nofun); (focus decide))
  | (refine EM.cut_bs (by with_reducible assumption) ?_ ?_ ?_; (focus array_get_dec); (focus array_get_dec)))))
section
variable {P : Program} {w : World} {K : PySem.W.Frag} {mg : Str → Option Value} {base : Heap}
theorem ok_Lheld_right (T : Tx K mg) : FnG P w K mg base (L2.CX P w) 13 (He.ga K "_law_held_right") (spHeldR K) := by
  obtain ⟨fd, F⟩ := T.d_Lheld_right
  refine EM.fng F sc_Lheld_right (fun _ _ _ _ _ _ us hl => match us, hl with | [_, _, _, _, _], _ => rfl) (fun vs H Q E h => ?_) (fun cdv A outer s H vs Q E hr hG h => ?_)
  · obtain ⟨T0, p, l, d, R, S, r, rq, n, D, ws, ts, rfl, _⟩ := h
    rfl
  · obtain ⟨T0, p, l, d, R, S, r, rq, n, D, ws, ts, rfl, B0, dp, aR, aS, rd, hl, h128, hw, ht, d0, d1, k⟩ := h
    have hu70 : (A.deeper (envOfC "_law_held_right" (defScope s_Lheld_right) s.heap.objs.size (He.ga K "_law_held_right") cdv)).units + 70 < cLine := by have := hr.un; omega
    refine ⟨_, (PSs.nox (pss_cons (ps_set (i := 5) sc_Lheld_right.nd rfl (Or.inl rfl) (pe_callB (EM.call_sumSN rfl) (by rfl) T.f_sum (by decide +kernel) (pa_cons (EM.lcN (pe_lc (own := [("_law_one", 6), ("_law_top", 7)]) (g := gTup K 2 (gCons (gName 6) (gCons (gName 7) gNil))) rfl sc_Lheld_right.nd (EM.pi_zipLN (by rfl) T.f_zip (pa_cons (pv 1) (pa_cons (pv 2) pa_nil))).mc (blkOk_by (N := ["_law_held", "_law_row", "_law_tops_here", "_law_bottom", "_law_read", "_law_total", "_law_one", "_law_top", "_law_due"]) (sc := defScope s_Lheld_right) (by decide +kernel)) (fun _ _ _ _ _ => (pg_tup (by rfl) (pgs_cons (pg_name (i := 6) sc_Lheld_right.nd rfl (Or.inl rfl)) (pgs_cons (pg_name (i := 7) sc_Lheld_right.nd rfl (Or.inl rfl)) pgs_nil)))) (fun _ _ _ _ _ => pts_nil) (fun _ _ _ _ _ => (PE.mc (pe_op op_mulW (pv 6) (pv 7)))))) pa_nil)))
 (pss_cons (ps_set (i := 8) sc_Lheld_right.nd rfl (Or.inl rfl) (EM.pe_lstN (pa_cons (EM.pe_cR ((ok_Ltext T).sw) (hr.mono (by decide)) T.k__law_text T.g__law_text passL (pa_cons (pv 5) (pa_cons (pv 3) pa_nil))) (pa_cons (pe_op op_sub (pe_callTy call_intB (by rfl) T.f_int (by decide +kernel) (pa_cons (pe_cmpR op_gt (pv 5) pe_int (nomark _)) pa_nil)) (pe_callTy call_intB (by rfl) T.f_int (by decide +kernel) (pa_cons (pe_cmpR op_lt (pv 5) pe_int (nomark _)) pa_nil))) pa_nil))))
 (pss_one (ps_ret (pe_cmpR op_eqS (pe_callB (callR_sw (EM.call_reprD hG hu70)) (by rfl) T.f_repr (by decide +kernel) (pa_cons (EM.pe_lstN (pa_cons (pe_callTy (call_strT T (hr.mono (by decide))) (by rfl) T.f_str (by decide +kernel) (pa_cons (EM.pe_mR (pv 0) T.cl_Duel T.m_Duel_weigh ((ok_Duel_weigh T).sw) (hr.mono (by decide)) passL (pa_cons (pv 4) pa_nil)) pa_nil)) (pa_cons (pe_cI T (hr.mono (by decide)) passL (pv 0) (pa_cons (pv 4) pa_nil)) pa_nil))) pa_nil)) (pe_callB (callR_sw (EM.call_reprD hG hu70)) (by rfl) T.f_repr (by decide +kernel) (pa_cons (pv 8) pa_nil)) (nomark _))))))), ?_⟩
    repeat' array_mem_dec
    --H1
    refine LcS.lcP (walk_zip rfl) B0 (fun i acc => acc = ((List.zipWith (· * ·) ws ts).take i).map V.int) rfl (by rw [List.length_map, List.length_map]; omega) (fun H1 x1 => ⟨SqL.of (aR.ext x1).at_, SqL.of (aS.ext x1).at_⟩) ?_ ?_
    · rintro i y acc K1 K2 Rf Rt hi rfl y1 C1 yp kf kt
      obtain ⟨Wp, a1, a2, rfl, e1, e2, y2, C2, aWp⟩ := yp_open C1 yp
      rw [List.getElem?_map] at e1 e2
      obtain ⟨z1, hz1, rfl⟩ := Option.map_eq_some_iff.mp e1
      obtain ⟨z2, hz2, rfl⟩ := Option.map_eq_some_iff.mp e2
      have b1 : Bt 290 z1 := Nat.lt_of_le_of_lt (hw z1 (List.mem_of_getElem? hz1)) W0_lt
      have b2 : Bt 290 z2 := Nat.lt_of_le_of_lt (ht z2 (List.mem_of_getElem? hz2)) (Nat.lt_of_lt_of_le M0_lt (Nat.pow_le_pow_right (by decide) (by decide)))
      have e3 : (List.zipWith (· * ·) ws ts)[i]? = some (z1 * z2) := by rw [List.getElem?_zipWith, hz1, hz2]
      repeat' array_mem_dec
      --Z1
      refine ⟨?_, fun _ _ z => z⟩
      repeat' array_mem_dec
      refine kt _ _ y2 C2 ?_
      rw [take_snoc e3, List.map_append]
      rfl
    rintro Dz ys H1 hDz rfl hlen x1 B1 aDz
    rw [List.take_of_length_le (by rw [List.length_zipWith, List.length_map, List.length_map]; exact Nat.le_refl _)] at aDz
    have tb := dot_b h128 hw ht
    obtain ⟨tot, etot⟩ : ∃ tot, tot = dotI ws ts := ⟨_, rfl⟩
    have esum : (List.zipWith (· * ·) ws ts).sum = tot := by rw [etot]; rfl
    have tb2 : tot.natAbs < 2 ^ 160 := by rw [etot]; exact tb
    have bT : Bt 1900 (List.zipWith (· * ·) ws ts).sum := Nat.lt_of_lt_of_le tb (Nat.pow_le_pow_right (by decide) (by decide))
    have bD : Bt 1900 ((D : Nat) : Int) := (Bt.rng32 (by omega) (by omega)).mono (by decide)
    have dd : (0 : Int) < D := by omega
    have dpl : DuelP K p H d ws (lowF D 0) := by rw [← low0 d0]; exact dp
    obtain ⟨dx, wq, la, h1, h2, h3, h4⟩ := id dp
    have bl := low_bt (x := dotI ws ts) d0 d1 (Nat.lt_of_lt_of_le tb (Nat.pow_le_pow_right (by decide) (by decide)))
    have bl1 := bl.1
    have bl2 := bl.2
    have fr1 := Fr.list (FrL.cons (Fr.str (okS_rtx (bl1.mono (by decide)) (bl2.mono (by decide))) (rtx_len (bl1.mono (by decide)) (bl2.mono (by decide)))) (FrL.cons (Fr.int (sgn_bt (dotI ws ts) 0)) FrL.nil))
    clear bl hlen hDz
    repeat' array_mem_dec
    --H3
    rename_i qd Hd xd Bd ad nd
    have ad2 : At p Hd qd (.lst [.str (rtx (lowF D (dotI ws ts))), .int (sgn (dotI ws ts) 0)]) := by
      rw [← sgn0]
      exact ad
    clear ad
    have x0d := x1.trans xd
    refine ⟨weigh_ok Bd (dp.ext x0d) (rd.ext x0d) hl h128 hw ht d0 d1 fun c H4 x4 B4 rc => ?_⟩
    have ad4 := ad2.ext x4
    have x04 := x0d.trans x4
    clear aDz ad2 x0d x4 xd nd Bd x1 B1
    repeat' array_mem_dec
    --H4
    refine call_ok (lv := 0) B4 (dpl.ext x04) (by decide) (rd.ext x04) hl h128 hw ht d0 d1 fun H5 x5 B5 => ?_
    have ad5 := ad4.ext x5
    repeat' array_mem_dec
    --H5
    rename_i q6 H6 x6 B6 a6 n6
    exact k H6 (x04.trans (x5.trans x6)) B6
end
end K41
namespace K41
open PySem PySem.Spec PyProof.Rows L2 EM
local macro_rules | `(tactic| sizeOf_list_dec) => `(tactic| first
  | with_reducible assumption
  | ((with_reducible apply EM.At.ext); (focus (with_reducible assumption)); (focus sizeOf_list_dec))
  | ((with_reducible apply EM.RatP.ext); (focus (with_reducible assumption)); (focus sizeOf_list_dec))
  | ((with_reducible apply EM.NumP.ext); (focus (with_reducible assumption)); (focus sizeOf_list_dec))
  | (with_reducible exact EM.Ext.refl)
  | ((with_reducible apply EM.Ext.back); (focus (with_reducible assumption)); (focus sizeOf_list_dec))
  | exact EM.NumP.int _
  | ((with_reducible apply EM.Mu.at_k); (focus (with_reducible assumption)); (focus sizeOf_list_dec); (focus sizeOf_list_dec); (focus (intro _ z; cases z; done)))
  | ((with_reducible apply EM.Mu.at_n); (focus (with_reducible assumption)); (focus sizeOf_list_dec); (focus (first | with_reducible assumption | ((apply EM.nn1); (focus (with_reducible assumption)); (focus sizeOf_list_dec)) | ((apply EM.nn2); (focus (with_reducible assumption)); (focus sizeOf_list_dec)))))
  | ((with_reducible apply EM.Mu.here); (focus (with_reducible assumption)); (focus sizeOf_list_dec))
  | ((with_reducible apply EM.Mu.rat); (focus (with_reducible assumption)); (focus sizeOf_list_dec); (focus sizeOf_list_dec))
  | ((with_reducible apply EM.Mu.num); (focus (with_reducible assumption)); (focus sizeOf_list_dec); (focus sizeOf_list_dec))
  | ((with_reducible apply EM.num_of_rat); (focus sizeOf_list_dec); (focus (first | with_reducible assumption | (apply EM.n_low; assumption))))
  | ((with_reducible apply EM.RatsP.xt); (focus (with_reducible assumption)); (focus sizeOf_list_dec))
  | ((with_reducible apply EM.NumsP.xt); (focus (with_reducible assumption)); (focus sizeOf_list_dec))
  | ((with_reducible apply EM.PairsP.xt); (focus (with_reducible assumption)); (focus sizeOf_list_dec))
  | ((with_reducible apply EM.RdP.xt); (focus (with_reducible assumption)); (focus sizeOf_list_dec))
  | ((with_reducible apply EM.Mu.rats); (focus (with_reducible assumption)); (focus sizeOf_list_dec); (focus sizeOf_list_dec))
  | ((with_reducible apply EM.Mu.pairs); (focus (with_reducible assumption)); (focus sizeOf_list_dec); (focus sizeOf_list_dec))
  | ((with_reducible apply EM.Mu.rdp); (focus (with_reducible assumption)); (focus sizeOf_list_dec); (focus sizeOf_list_dec))
  | ((with_reducible apply EM.SeqV.xt); (focus (with_reducible assumption)); (focus sizeOf_list_dec))
  | ((with_reducible apply DuelP.xt); (focus (with_reducible assumption)); (focus sizeOf_list_dec)))
local macro_rules | `(tactic| decreasing_trivial_pre_omega) => `(tactic| first
  | with_reducible assumption
  | exact EM.Bt.mono (by with_reducible assumption) (by decide)
  | exact EM.Bt.lit _ _ (by decide +kernel)
  | ((with_reducible refine EM.Bt.rng32 ?_ ?_) <;> omega)
  | ((with_reducible refine EM.Bt.rng70 ?_ ?_) <;> omega)
  | ((with_reducible refine EM.Bt.rng200 ?_ ?_) <;> omega)
  | ((with_reducible apply EM.Bt.mulM); (focus decreasing_trivial_pre_omega); (focus decreasing_trivial_pre_omega); (focus (first | decide | exact Nat.le_refl _)))
  | ((with_reducible apply EM.Bt.addM); (focus decreasing_trivial_pre_omega); (focus decreasing_trivial_pre_omega); (focus (first | decide | exact Nat.le_refl _)))
  | ((with_reducible apply EM.Bt.subM); (focus decreasing_trivial_pre_omega); (focus decreasing_trivial_pre_omega); (focus (first | decide | exact Nat.le_refl _)))
  | ((with_reducible apply EM.Bt.topL); (focus decreasing_trivial_pre_omega); (focus assumption); (focus (first | decide | exact Nat.le_refl _)))
  | ((with_reducible apply EM.Bt.botL); (focus decreasing_trivial_pre_omega); (focus assumption); (focus (first | decide | exact Nat.le_refl _)))
  | ((with_reducible apply EM.Bt.divM); (focus decreasing_trivial_pre_omega); (focus assumption); (focus (first | decide | exact Nat.le_refl _)))
  | ((with_reducible apply EM.Bt.negM); (focus decreasing_trivial_pre_omega); (focus (first | decide | exact Nat.le_refl _))))
local macro_rules | `(tactic| array_get_dec) => `(tactic| first
  | with_reducible assumption
  | ((with_reducible refine EM.gEq ?_); exact rfl)
  | ((with_reducible refine EM.gTru ?_); exact rfl)
  | ((with_reducible refine EM.gRef ?_); first | exact Or.inl ⟨_, rfl⟩ | exact Or.inr ⟨_, rfl⟩)
  | ((with_reducible apply EM.At.get); sizeOf_list_dec)
  | ((with_reducible apply EM.At.sqL); sizeOf_list_dec)
  | ((with_reducible apply EM.At.sqT); sizeOf_list_dec)
  | ((with_reducible apply EM.RatP.getK); (focus sizeOf_list_dec); (focus (exact rfl)))
  | (with_reducible exact EM.Num.int _)
  | ((with_reducible apply EM.NumP.getK); (focus sizeOf_list_dec); (focus (exact rfl)))
  | ((with_reducible apply EM.At.ext); (focus (with_reducible assumption)); (focus sizeOf_list_dec))
  | ((with_reducible apply EM.RatP.ext); (focus (with_reducible assumption)); (focus sizeOf_list_dec))
  | ((with_reducible apply EM.NumP.ext); (focus (with_reducible assumption)); (focus sizeOf_list_dec))
  | with_reducible exact Tx.cl_Ratio (by assumption)
  | with_reducible exact Tx.cl_Reading (by assumption)
  | with_reducible exact Tx.cl_Duel (by assumption)
  | with_reducible exact Tx.na_Ratio_top (by assumption)
  | with_reducible exact Tx.na_Ratio_bottom (by assumption)
  | with_reducible exact Tx.na_Reading_own_edges (by assumption)
  | with_reducible exact Tx.na_Duel_weights (by assumption)
  | with_reducible exact Tx.na_Duel_level (by assumption)
  | ((with_reducible refine EM.gAt ?_); sizeOf_list_dec)
  | ((with_reducible refine EM.gRat ?_); sizeOf_list_dec)
  | ((with_reducible refine EM.gNum ?_); sizeOf_list_dec)
  | ((with_reducible apply EM.TwoP.mk); (focus (with_reducible assumption)); (focus sizeOf_list_dec); (focus (first | with_reducible assumption | (apply EM.n_low; assumption))); (focus sizeOf_list_dec); (focus decreasing_trivial_pre_omega); (focus decreasing_trivial_pre_omega); (focus decreasing_trivial_pre_omega); (focus decreasing_trivial_pre_omega))
  | (with_reducible exact EM.Ext.refl)
  | ((with_reducible apply EM.Ext.back); (focus (with_reducible assumption)); (focus sizeOf_list_dec))
  | ((with_reducible apply EM.Bs.mono); (focus (with_reducible assumption)); omega)
  | ((with_reducible refine EM.gN ?_); first | decide | omega | exact Nat.le_of_ble_eq_true rfl | (simp only [List.length_cons, List.length_nil, List.length_append]; omega))
  | ((with_reducible refine EM.gM ?_); first | decide | omega | exact Nat.le_of_ble_eq_true rfl)
  | ((with_reducible refine EM.gI ?_); first | decide | omega)
  | ((with_reducible refine EM.gJ ?_); first | decide | omega)
  | ((with_reducible refine EM.gE ?_); first | decide | omega)
  | ((with_reducible refine EM.gB ?_); decreasing_trivial_pre_omega)
  | ((with_reducible apply EM.wideM); (focus decreasing_trivial_pre_omega); (focus decreasing_trivial_pre_omega); (focus decide)))
local macro_rules | `(tactic| infer_instance) => `(tactic| first
  | with_reducible assumption
  | exact DpAll.nil
  | (apply DpAll.cons; (focus infer_instance); (focus infer_instance))
  | with_reducible exact Dp.int _
  | exact Dp.int _
  | with_reducible exact Dp.str _
  | exact Dp.bl _
  | exact Dp.non
  | ((with_reducible apply EM.dp_lst); (focus array_get_dec); (focus infer_instance))
  | ((with_reducible apply EM.dp_tup); (focus array_get_dec); (focus infer_instance))
  | exact EM.dp_ints _)
local macro_rules | `(tactic| nofun) => `(tactic| first
  | with_reducible assumption
  | exact EM.FeL.nil
  | exact EM.FdL.nil
  | (apply EM.FeL.cons; (focus nofun); (focus nofun))
  | (apply EM.FdL.cons; (focus nofun); (focus nofun))
  | exact EM.Fe.int _
  | exact EM.Fe.bool _
  | exact EM.Fe.non
  | exact EM.Fe.str (EM.okS_of _)
  | (apply EM.Fe.str; apply EM.Fd.ok; (focus nofun))
  | (apply EM.Fe.list; (focus nofun))
  | (apply EM.Fe.tup; (focus nofun))
  | (apply EM.Fd.int; (focus decreasing_trivial_pre_omega))
  | exact EM.Fd.bool _
  | exact EM.Fd.non
  | (refine EM.Fd.bool _)
  | (apply EM.Fd.list; (focus nofun))
  | (apply EM.Fd.tup; (focus nofun)))
local macro_rules | `(tactic| array_mem_dec) => `(tactic| ((with_reducible refine EM.pr ?_); first
  | (with_reducible refine L2.iteT ?_)
  | (with_reducible refine L2.iteF ?_)
  | (with_reducible refine EM.ifNotT ?_)
  | (with_reducible refine EM.ifNotF ?_)
  | ((fail_if_success (with_reducible refine EM.gIf ?_)); first
  | array_get_dec
  | (refine EM.mk_low (by with_reducible assumption) (by with_reducible assumption) ?_ ?_; (focus array_get_dec))
  | (apply EM.isNum_sw; (focus sizeOf_list_dec))
  | (apply EM.of_sw; (focus (with_reducible assumption)); (focus sizeOf_list_dec))
  | (apply EM.neg_bs; (focus (with_reducible assumption)); (focus sizeOf_list_dec); (focus array_get_dec); (focus array_get_dec))
  | (apply EM.relw_bs; (focus (with_reducible assumption)); (focus sizeOf_list_dec); (focus sizeOf_list_dec); (focus array_get_dec); (focus decreasing_trivial_pre_omega); (focus decreasing_trivial_pre_omega); (focus decreasing_trivial_pre_omega); (focus decreasing_trivial_pre_omega))
  | ((apply EM.DnS.bs); (focus (with_reducible assumption)); (focus (intro _ z; cases z; done)))
  | ((apply EM.seqL); (focus sizeOf_list_dec))
  | ((apply EM.seqT); (focus sizeOf_list_dec))
  | ((apply EM.lenL); (focus sizeOf_list_dec))
  | ((apply EM.lenT); (focus sizeOf_list_dec))
  | ((apply EM.isSeqL); (focus sizeOf_list_dec); (focus sizeOf_list_dec))
  | ((apply EM.isSeqT); (focus sizeOf_list_dec); (focus sizeOf_list_dec))
  | ((apply EM.tupL); (focus sizeOf_list_dec))
  | ((apply EM.fld_bs); (focus sizeOf_list_dec); (focus (first | exact Tx.cl_Reading (by assumption) | exact Tx.cl_Duel (by assumption))); (focus (first | exact Tx.na_Reading_own_edges (by assumption) | exact Tx.na_Duel_weights (by assumption) | exact Tx.na_Duel_level (by assumption))); (focus (exact rfl)))
  | ((apply EM.seqS); (focus sizeOf_list_dec))
  | ((apply EM.enS); (focus sizeOf_list_dec))
  | ((apply EM.lenS); (focus sizeOf_list_dec))
  | ((apply EM.isSeqS); (focus sizeOf_list_dec); (focus sizeOf_list_dec))
  | ((apply EM.lstS); (focus sizeOf_list_dec))
  | ((apply EM.sumS); (focus sizeOf_list_dec))
  | ((apply EM.tupSL); (focus sizeOf_list_dec))
  | ((apply EM.tupST); (focus sizeOf_list_dec))
  | ((apply str_bs); (focus sizeOf_list_dec); (focus decreasing_trivial_pre_omega); (focus decreasing_trivial_pre_omega))
  | (apply intB)
  | ((apply EM.zpL); (focus sizeOf_list_dec); (focus sizeOf_list_dec))
  | (with_reducible apply EM.EqS.mk')
  | (with_reducible apply EM.NeS.mk')
  | ((apply EM.repr_fr); (focus infer_instance); (focus (with_reducible assumption)); (focus decide))
  | ((apply textF_bs); (focus (with_reducible assumption)); (focus decreasing_trivial_pre_omega); (focus decreasing_trivial_pre_omega))
  | ((with_reducible refine EM.New.bs (by with_reducible assumption) ?_ ?_); (focus (intro _ z; cases z; done)))
  | ((with_reducible refine EM.gMu ?_); (with_reducible apply EM.mu_bs); (focus (with_reducible assumption)); (focus sizeOf_list_dec); (focus (apply EM.nel2; (focus (with_reducible assumption)); (focus (with_reducible assumption)))); intro _ _ _)
  | intro _
  | (apply And.intro; (focus array_get_dec))
  | apply Exists.intro
  | (refine EM.draw_bs (by with_reducible assumption) ?_ ?_ ?_ ?_; (focus array_get_dec); (focus array_get_dec); (focus (first | decide | omega)))
  | (apply EM.pick_bs; (focus (with_reducible assumption)); (focus array_get_dec); (focus sizeOf_list_dec); (focus (exact Nat.le_of_ble_eq_true rfl)); (focus (exact Nat.le_of_ble_eq_true rfl)))
  | ((apply EM.repr_sw); (focus infer_instance); (focus nofun); (focus decide))
  | ((apply EM.eqd_same); (focus infer_instance); (focus infer_instance); (focus nofun); (focus decide))
  | ((apply EM.ned_same); (focus infer_instance); (focus infer_instance); (focus nofun); (focus decide))
  | ((apply EM.eqd_sw); (focus infer_instance); (focus infer_instance); (focus nofun); (focus nofun); (focus decide))
  | ((apply EM.ned_sw); (focus infer_instance); (focus infer_instance); (focus nofun); (focus nofun); (focus decide))
  | (refine EM.cut_bs (by with_reducible assumption) ?_ ?_ ?_; (focus array_get_dec); (focus array_get_dec)))))
section
variable {P : Program} {w : World} {K : PySem.W.Frag} {mg : Str → Option Value} {base : Heap}
theorem ok_Ltold_right (T : Tx K mg) : FnG P w K mg base (L2.CX P w) 14 (He.ga K "_law_told_right") (spToldR K) := by
  obtain ⟨fd, F⟩ := T.d_Ltold_right
  refine EM.fng F sc_Ltold_right (fun _ _ _ _ _ _ us hl => match us, hl with | [_, _, _, _, _], _ => rfl) (fun vs H Q E h => ?_) (fun cdv A outer s H vs Q E hr hG h => ?_)
  · obtain ⟨T0, p, l, R, S, r, rq, n, D, ws, ts, off, rfl, _⟩ := h
    rfl
  · obtain ⟨T0, p, l, R, S, r, rq, n, D, ws, ts, off, rfl, B0, aR, aS, rd, gw, hl, hw, ht, d0, d1, hoff, k⟩ := h
    have h128 := gw.len.2.2
    have hu70 : (A.deeper (envOfC "_law_told_right" (defScope s_Ltold_right) s.heap.objs.size (He.ga K "_law_told_right") cdv)).units + 70 < cLine := by have := hr.un; omega
    refine ⟨_, (PSs.nox (pss_cons (ps_set (i := 5) sc_Ltold_right.nd rfl (Or.inl rfl) (pe_callB (EM.call_sumSN rfl) (by rfl) T.f_sum (by decide +kernel) (pa_cons (EM.lcN (pe_lc (own := [("_law_one", 6), ("_law_top", 7)]) (g := gTup K 2 (gCons (gName 6) (gCons (gName 7) gNil))) rfl sc_Ltold_right.nd (EM.pi_zipLN (by rfl) T.f_zip (pa_cons (pv 0) (pa_cons (pv 1) pa_nil))).mc (blkOk_by (N := ["_law_row", "_law_tops_here", "_law_bottom", "_law_read", "_law_off", "_law_total", "_law_one", "_law_top", "_law_made", "_law_due", "_law_kept", "_law_told"]) (sc := defScope s_Ltold_right) (by decide +kernel)) (fun _ _ _ _ _ => (pg_tup (by rfl) (pgs_cons (pg_name (i := 6) sc_Ltold_right.nd rfl (Or.inl rfl)) (pgs_cons (pg_name (i := 7) sc_Ltold_right.nd rfl (Or.inl rfl)) pgs_nil)))) (fun _ _ _ _ _ => pts_nil) (fun _ _ _ _ _ => (PE.mc (pe_op op_mulW (pv 6) (pv 7)))))) pa_nil)))
 (pss_cons (ps_set (i := 8) sc_Ltold_right.nd rfl (Or.inl rfl) (pe_mkD T (hr.mono (by decide)) passL (pa_cons (pv 0) (pa_cons (pe_mkN_ T (hr.mono (by decide)) (pa_cons (pe_op op_sub (pv 5) (pv 4)) (pa_cons (pv 2) pa_nil))) pa_nil))))
 (pss_cons (ps_set (i := 9) sc_Ltold_right.nd rfl (Or.inl rfl) (pe_op op_sub (pe_callTy call_intB (by rfl) T.f_int (by decide +kernel) (pa_cons (pe_cmpR op_gt (pv 4) pe_int (nomark _)) pa_nil)) (pe_callTy call_intB (by rfl) T.f_int (by decide +kernel) (pa_cons (pe_cmpR op_lt (pv 4) pe_int (nomark _)) pa_nil))))
 (pss_cons (ps_set (i := 10) sc_Ltold_right.nd rfl (Or.inl rfl) (EM.pe_lstN (pa_cons (pe_callTy (call_strR T (hr.mono (by decide))) (by rfl) T.f_str (by decide +kernel) (pa_cons (pv 3) pa_nil)) (pa_cons (pe_callB (callR_sw (EM.call_reprD hG hu70)) (by rfl) T.f_repr (by decide +kernel) (pa_cons (EM.pe_fldN (pv 8)) pa_nil)) (pa_cons (pe_callTy (call_strT T (hr.mono (by decide))) (by rfl) T.f_str (by decide +kernel) (pa_cons (EM.pe_fldN (pv 8)) pa_nil)) pa_nil)))))
 (pss_cons (ps_set (i := 11) sc_Ltold_right.nd rfl (Or.inl rfl) (EM.pe_lstN (pa_cons (pe_cI T (hr.mono (by decide)) passL (pv 8) (pa_cons (pv 3) pa_nil)) (pa_cons (pe_cI T (hr.mono (by decide)) passL (pe_un (un_negDu T (hr.mono (by decide))) (pv 8)) (pa_cons (pv 3) pa_nil)) (pa_cons (pe_callTy (call_strT T (hr.mono (by decide))) (by rfl) T.f_str (by decide +kernel) (pa_cons (EM.pe_mK (pv 8) T.cl_Duel T.m_Duel_weigh (ok_Duel_weighK T).sw (hr.mono (by decide)) passL (pk_cons (pv 3) pk_nil)) pa_nil)) (pa_cons (pe_callTy (call_strT T (hr.mono (by decide))) (by rfl) T.f_str (by decide +kernel) (pa_cons (EM.pe_mR (pe_un (un_negDu T (hr.mono (by decide))) (pv 8)) T.cl_Duel T.m_Duel_weigh ((ok_Duel_weigh T).sw) (hr.mono (by decide)) passL (pa_cons (pv 3) pa_nil)) pa_nil)) pa_nil))))))
 (pss_cons (ps_expr (EM.pe_appN (pv 11) (EM.pe_callIK (pv 8) T.m_Duel_call.at_ T.m_Duel_call.fn (fi_call T) (ok_Duel_callK T).sw (hr.mono (by decide)) passL (pk_cons (pv 3) pk_nil))))
 (pss_cons (ps_if (pt_cmpR op_neS (pe_callB (callR_sw (EM.call_reprD hG hu70)) (by rfl) T.f_repr (by decide +kernel) (pa_cons (pv 11) pa_nil)) (pe_callB (callR_sw (EM.call_reprD hG hu70)) (by rfl) T.f_repr (by decide +kernel) (pa_cons (EM.pe_lstN (pa_cons (pv 9) (pa_cons (pe_op op_sub pe_int (pv 9)) (pa_cons (EM.pe_cR ((ok_Ltext T).sw) (hr.mono (by decide)) T.k__law_text T.g__law_text passL (pa_cons (pv 5) (pa_cons (pv 2) pa_nil))) (pa_cons (EM.pe_cR ((ok_Ltext T).sw) (hr.mono (by decide)) T.k__law_text T.g__law_text passL (pa_cons (pe_op op_sub pe_int (pv 5)) (pa_cons (pv 2) pa_nil))) (pa_cons (pv 9) pa_nil)))))) pa_nil)) (nomark _))
  (pss_one (ps_ret pe_bl)) pss_nil)
 (pss_one (ps_ret (pe_cmpR (op_sw (op_eqD hr.units)) (EM.pe_lstN (pa_cons (pe_callTy (call_strR T (hr.mono (by decide))) (by rfl) T.f_str (by decide +kernel) (pa_cons (pv 3) pa_nil)) (pa_cons (pe_callB (callR_sw (EM.call_reprD hG hu70)) (by rfl) T.f_repr (by decide +kernel) (pa_cons (EM.pe_fldN (pv 8)) pa_nil)) (pa_cons (pe_callTy (call_strT T (hr.mono (by decide))) (by rfl) T.f_str (by decide +kernel) (pa_cons (EM.pe_fldN (pv 8)) pa_nil)) pa_nil)))) (pv 10) (nomark _)))))))))))), ?_⟩
    repeat' array_mem_dec
    --T1
    refine LcS.lcP (walk_zip rfl) B0 (fun i acc => acc = ((List.zipWith (· * ·) ws ts).take i).map V.int) rfl (by rw [List.length_map, List.length_map]; omega) (fun H1 x1 => ⟨SqL.of (aR.ext x1).at_, SqL.of (aS.ext x1).at_⟩) ?_ ?_
    · rintro i y acc K1 K2 Rf Rt hi rfl y1 C1 yp kf kt
      obtain ⟨Wp, a1, a2, rfl, e1, e2, y2, C2, aWp⟩ := yp_open C1 yp
      rw [List.getElem?_map] at e1 e2
      obtain ⟨z1, hz1, rfl⟩ := Option.map_eq_some_iff.mp e1
      obtain ⟨z2, hz2, rfl⟩ := Option.map_eq_some_iff.mp e2
      have b1 : Bt 290 z1 := Nat.lt_of_le_of_lt (hw z1 (List.mem_of_getElem? hz1)) W0_lt
      have b2 : Bt 290 z2 := Nat.lt_of_le_of_lt (ht z2 (List.mem_of_getElem? hz2)) (Nat.lt_of_lt_of_le M0_lt (Nat.pow_le_pow_right (by decide) (by decide)))
      have e3 : (List.zipWith (· * ·) ws ts)[i]? = some (z1 * z2) := by rw [List.getElem?_zipWith, hz1, hz2]
      repeat' array_mem_dec
      --Z1
      refine ⟨?_, fun _ _ z => z⟩
      repeat' array_mem_dec
      refine kt _ _ y2 C2 ?_
      rw [take_snoc e3, List.map_append]
      rfl
    rintro Dz ys H1 hDz rfl hlen x1 B1 aDz
    rw [List.take_of_length_le (by rw [List.length_zipWith, List.length_map, List.length_map]; exact Nat.le_refl _)] at aDz
    have tb := dot_b h128 hw ht
    obtain ⟨tot, etot⟩ : ∃ tot, tot = dotI ws ts := ⟨_, rfl⟩
    have esum : (List.zipWith (· * ·) ws ts).sum = tot := by rw [etot]; rfl
    have tb2 : tot.natAbs < 2 ^ 160 := by rw [etot]; exact tb
    have bT : Bt 1900 (List.zipWith (· * ·) ws ts).sum := Nat.lt_of_lt_of_le tb (Nat.pow_le_pow_right (by decide) (by decide))
    have bD : Bt 1900 ((D : Nat) : Int) := (Bt.rng32 (by omega) (by omega)).mono (by decide)
    have dd : (0 : Int) < D := by omega
    have lvb : (dotI ws ts - off).natAbs < 2 ^ 200 := by
      have : (2 : Nat) ^ 160 + 100000000000000000000 < 2 ^ 200 := by decide
      omega
    have mono9 : ∀ {e : Int × Int}, Bt 900 e.1 ∧ Bt 900 e.2 → Bt 1900 e.1 ∧ Bt 1900 e.2 := fun h => ⟨h.1.mono (by decide), h.2.mono (by decide)⟩
    have p2 : (2 : Nat) ^ 160 < 2 ^ 200 := Nat.pow_lt_pow_right (by decide) (by decide)
    have bv := mono9 (low_bt (x := dotI ws ts - off) d0 d1 lvb)
    have bs := mono9 (low_bt (x := dotI ws ts) d0 d1 (Nat.lt_trans tb p2))
    have bn := mono9 (low_bt (x := -dotI ws ts) d0 d1 (by rw [Int.natAbs_neg]; exact Nat.lt_trans tb p2))
    have bv1 := bv.1
    have bv2 := bv.2
    have bs1 := bs.1
    have bs2 := bs.2
    have bn1 := bn.1
    have bn2 := bn.2
    have loV := (lowF_dv (t := dotI ws ts - off) d0 (Nat.le_refl _)).low
    have bT2 : Bt 1900 (0 - (List.zipWith (· * ·) ws ts).sum) := by
      rw [Int.zero_sub]
      exact bT.neg
    have frs : ∀ {e : Int × Int}, Bt 1900 e.1 → Bt 1900 e.2 → Fr (10 * 3843 + 2) 0 (.str (rtx e)) := fun h1 h2 => Fr.str (okS_rtx h1 h2) (rtx_len h1 h2)
    have fr1 := Fr.list (FrL.cons (Fr.int (sgn_bt off 0)) (FrL.cons (Fr.int (show Bt 1900 (0 - sgn off 0) by rw [Int.zero_sub]; exact (sgn_bt off 0).neg)) (FrL.cons (frs bs1 bs2) (FrL.cons (frs bn1 bn2) (FrL.cons (Fr.int (sgn_bt off 0)) FrL.nil)))))
    have fw : FdL (1923 * 128) 0 (ws.map .int) := FdL.ints (fun x hx => Nat.lt_of_le_of_lt (hw x hx) (Nat.lt_of_lt_of_le W0_lt (Nat.pow_le_pow_right (by decide) (by decide)))) h128
    have fdw := Fd.tup fw
    have rdb : ∀ e ∈ ts.map (lowF D), Bt 1900 e.1 ∧ Bt 1900 e.2 := fun e he => by
      obtain ⟨t, m, rfl⟩ := List.mem_map.mp he
      exact mono9 (low_bt d0 d1 (Nat.lt_of_le_of_lt (ht t m) (Nat.lt_of_lt_of_le M0_lt (Nat.pow_le_pow_right (by decide) (by decide)))))
    have fe1 := Fe.list (FeL.cons (Fe.str (okS_rd rdb)) (FeL.cons (Fe.str fdw.ok) (FeL.cons (Fe.str (okS_rtx bv1 bv2)) FeL.nil)))
    have aR1 := aR.ext x1
    have rd1 := rd.ext x1
    clear hlen hDz bv bs bn
    repeat' array_mem_dec
    --T2
    refine mkF_bs (x := dotI ws ts - off) B1 d0 d1 fun la H2 x2 B2 rl => ?_
    repeat' array_mem_dec
    --T3
    refine mkD_good B2 (.inl (aR1.ext x2)) gw (rl.num loV) (bv1.mono (by decide)) (bv2.mono (by decide)) fun d H3 x3 B3 dp f3 => ?_
    have dp3 : DuelP K p H3 d ws (lowF D (dotI ws ts - off)) := dp
    obtain ⟨dx, wq, lr, i1, i2, i3, i4⟩ := id dp3
    have rd3 := rd1.ext (x2.trans x3)
    have x03 := x1.trans (x2.trans x3)
    clear dp rl x2 x3 B1 B2 aR1 rd1 f3 x1
    repeat' array_mem_dec
    --T4
    rw [show ((fun i j : Int => V.int (i - j)) (if decide (0 < off) = true then 1 else 0) (if decide (off < 0) = true then 1 else 0)) = V.int (sgn off 0) from congrArg V.int sgn0]
    refine ⟨⟨T0, p, l, r, rq, n, _, rfl, B3, rd3, rdb, by rw [List.length_map]; omega, fun H4 x4 B4 => ?_⟩⟩
    repeat' array_mem_dec
    --T5
    rename_i qk Hk xk Bk ak nk
    have x0k := x03.trans (x4.trans xk)
    have dpk := dp3.ext (x4.trans xk)
    have rdk := rd3.ext (x4.trans xk)
    have i1k := i1.ext (x4.trans xk)
    have i2k := i2.ext (x4.trans xk)
    have i3k := i3.ext (x4.trans xk)
    clear x03 x4 xk nk B3 B4 dp3 rd3 i1 i2 i3
    refine call_ok Bk dpk lvb rdk hl h128 hw ht d0 d1 fun H5 x5 B5 => ?_
    rw [sgn_off]
    have dp5 := dpk.ext x5
    repeat' array_mem_dec
    --T6
    refine ⟨⟨T0, p, l, d, n, ws, _, rfl, B5, dp5, gw, bv1, bv2, fun d6 H6 x6 B6 dp6 f6 => ?_⟩⟩
    rw [lowF_neg d0] at dp6
    have x56 := x5.trans x6
    have hl2 : (ws.map fun w => -w).length = ts.length := by rw [List.length_map]; exact hl
    have h1282 : (ws.map fun w => -w).length ≤ 128 := by rw [List.length_map]; exact h128
    have hw2 : ∀ w ∈ ws.map (fun w => -w), w.natAbs ≤ W0 := fun w hm => by
      obtain ⟨v, hv, rfl⟩ := List.mem_map.mp hm
      rw [Int.natAbs_neg]
      exact hw v hv
    have lvb2 : (-(dotI ws ts - off)).natAbs < 2 ^ 200 := by rw [Int.natAbs_neg]; exact lvb
    repeat' array_mem_dec
    --T7
    refine call_ok B6 dp6 lvb2 (rdk.ext x56) hl2 h1282 hw2 ht d0 d1 fun H7 x7 B7 => ?_
    rw [dotI_neg, sgn_neg, sgn_off]
    have x57 := x56.trans x7
    have i17 := i1k.ext x57
    have i27 := i2k.ext x57
    have i37 := i3k.ext x57
    have ak7 := ak.ext x57
    clear i1k i2k i3k
    repeat' array_mem_dec
    --T8
    refine ⟨⟨rfl, rfl, weigh_ok B7 (dpk.ext x57) (rdk.ext x57) hl h128 hw ht d0 d1 fun c H8 x8 B8 rc => ?_⟩⟩
    have x58 := x57.trans x8
    have dp8 := dpk.ext x58
    have rd8 := rdk.ext x58
    repeat' array_mem_dec
    --T9
    refine ⟨⟨T0, p, l, d, n, ws, _, rfl, B8, dp8, gw, bv1, bv2, fun d9 H9 x9 B9 dp9 f9 => ?_⟩⟩
    rw [lowF_neg d0] at dp9
    obtain ⟨dy, wy, ly, j1, j2, j3, j4⟩ := id dp9
    repeat' array_mem_dec
    --T10
    refine ⟨weigh_ok B9 dp9 (rd8.ext x9) hl2 h1282 hw2 ht d0 d1 fun c2 H10 x10 B10 rc2 => ?_⟩
    rw [dotI_neg] at rc2
    have x8t := x9.trans x10
    have i1t := i17.ext (x8.trans x8t)
    have i2t := i27.ext (x8.trans x8t)
    have i3t := i37.ext (x8.trans x8t)
    have akt := ak7.ext (x8.trans x8t)
    clear j1 j2 j3 j4 i17 i27 i37 ak7 rc f6 f9
    repeat' array_mem_dec
    --T11
    rename_i qt Ht xt Bq aq nq
    refine ⟨⟨rfl, rfl, (call_ok Bq (dp8.ext (x8t.trans xt)) lvb (rd8.ext (x8t.trans xt)) hl h128 hw ht d0 d1 fun H12 x12 B12 => ?_).h⟩⟩
    rw [sgn_off]
    have aq12 := aq.ext x12
    have ez : (0 - (List.zipWith (· * ·) ws ts).sum : Int) = -dotI ws ts := Int.zero_sub _
    have bz1 : Bt 1900 (nTop (0 - (List.zipWith (· * ·) ws ts).sum) (D : Int)) := by rw [ez]; exact bn1
    have bz2 : Bt 1900 (nBot (0 - (List.zipWith (· * ·) ws ts).sum) (D : Int)) := by rw [ez]; exact bn2
    have fr2 := Fr.list (FrL.cons (Fr.int (sgn_bt off 0)) (FrL.cons (Fr.int (show Bt 1900 (0 - sgn off 0) by rw [Int.zero_sub]; exact (sgn_bt off 0).neg)) (FrL.cons (frs (e := (nTop (List.zipWith (· * ·) ws ts).sum (D : Int), nBot (List.zipWith (· * ·) ws ts).sum (D : Int))) bs1 bs2) (FrL.cons (frs (e := (nTop (0 - (List.zipWith (· * ·) ws ts).sum) (D : Int), nBot (0 - (List.zipWith (· * ·) ws ts).sum) (D : Int))) bz1 bz2) (FrL.cons (Fr.int (sgn_bt off 0)) FrL.nil)))))
    repeat' array_mem_dec
    --T12
    rename_i H13 mu B13 q14 H14 x14 B14 a14 n14
    rw [ez]
    refine NeS.mk' ⟨_, rfl, ifN rfl ?_⟩
    have x1013 : Ext p H10 H13 := Ext.muF (Fresh.none nq) (xt.trans x12) mu
    have x1014 := x1013.trans x14
    have rd14 := rd8.ext (x8t.trans x1014)
    have i1z := i1t.ext x1014
    have i2z := i2t.ext x1014
    have i3z := i3t.ext x1014
    have akz := akt.ext x1014
    have x014 : Ext p H H14 := x0k.trans (x58.trans (x8t.trans x1014))
    clear mu x1013 x14 a14 n14 i1t i2t i3t akt aq aq12 nq x12 xt
    repeat' array_mem_dec
    refine ⟨⟨T0, p, l, r, rq, n, _, rfl, B14, rd14, rdb, by rw [List.length_map]; omega, fun H15 x15 B15 => ?_⟩⟩
    repeat' array_mem_dec
    --T13
    rename_i q16 H16 x16 B16 a16 n16
    exact k H16 (x014.trans (x15.trans x16)) B16
end
end K41
namespace K41
open PySem PySem.Spec PyProof.Rows L2 EM
def lamN (q : Str) : Str := q ++ ".<locals>." ++ "<lambda>"
def tabs (K : PySem.W.Frag) : List (Addr × Str) := [(tA K (He.ga K "_law_refused_right"), lamN "_law_refused_right")]
def cs (K : PySem.W.Frag) : List (Addr × Addr) := tf.map fun t => (cA K (t K), tA K (t K))
theorem tabs_u {K : PySem.W.Frag} (q : Addr × Str) (hq : q ∈ tabs K) : ∀ p ∈ tabs K, p.1 = q.1 → p.2 = q.2 := by
  intro p hp e
  rw [List.mem_singleton.mp hp, List.mem_singleton.mp hq]
theorem ofR_bs {K : PySem.W.Frag} {T : List (Addr × Str)} {p l a : Addr} {n : Nat} {c : V} {xs : List V} {es : List (Int × Int)} {H : Hp} {Q : VK} {E : XK} (B : Bs T p l n H) (h : SeqV p H a xs) (g : NumsP K p H xs es) (o : RowOk 2000 es) (hl : okLen es.length)
    (k : ∀ r q H', Ext p H H' → Bs T p l n H' → RdP K p H' r q es → Fresh p H r → Q (.ref r) H') : Sw (spOfR K) [c, .ref a] H Q E := ⟨⟨T, p, l, a, n, c, xs, es, rfl, B, h, g, o, hl, k⟩⟩
theorem cut_neg (ts : List Int) (k : Nat) (h : 1 ≤ k) : cutV (ts.map V.int) none (some (-(k : Int))) = (ts.take (ts.length - k)).map V.int := by
  unfold cutV
  rw [HT.sIx_none, List.drop_zero, Nat.sub_zero, List.length_map]
  have e : HT.sIx ts.length ts.length (some (-(k : Int))) = ts.length - k := by
    show (if -(k : Int) < 0 then (-(k : Int) + (ts.length : Int)).toNat else _) = _
    rw [if_pos (by omega)]
    omega
  rw [e, List.map_take]
/-- a row of another length -/
def RowU (p : Addr) (m : Nat) (H : Hp) (v : V) : Prop := ∃ (a : Addr) (us : List Int), v = .ref a ∧ At p H a (.lst (us.map V.int)) ∧ RiseI us ∧ (∀ t ∈ us, t.natAbs ≤ M0) ∧ us.length ≠ m ∧ (us.length ≤ 2 ∨ okLen us.length)
theorem RowU.ext {p : Addr} {m : Nat} {H H' : Hp} {v : V} (h : RowU p m H v) (x : Ext p H H') : RowU p m H' v := by
  obtain ⟨a, us, e, h1, h2⟩ := h
  exact ⟨a, us, e, h1.ext x, h2⟩
def spRefR (K : PySem.W.Frag) : Sp := fun vs H Q _ => ∃ (p l d S : Addr) (n D : Nat) (ws ts : List Int) (e : Int × Int), vs = [.ref d, .ref S, .int (D : Nat)] ∧ Bs (tabs K) p l n H ∧ DuelP K p H d ws e ∧ At p H S (.lst (ts.map V.int)) ∧ ws.length = ts.length ∧ okLen ts.length ∧ ts.length ≤ 24 ∧ RiseI ts ∧ (∀ t ∈ ts, t.natAbs + 2 ≤ M0) ∧ 0 < D ∧ D ≤ 97 ∧ ∀ H', Ext p H H' → Bs (tabs K) p l n H' → Q (.bl true) H'
/-- a reading of a row is made -/
theorem ofR_row {K : PySem.W.Frag} {T : List (Addr × Str)} {p l a : Addr} {n D : Nat} {c : V} {xs : List V} {us : List Int} {H : Hp} {Q : VK} {E : XK} (B : Bs T p l n H) (h : At p H a (.lst xs)) (g : RatsP K p H xs (us.map (lowF D))) (hr : RiseI us) (hb : ∀ t ∈ us, t.natAbs ≤ M0) (hl : okLen us.length) (d0 : 0 < D) (d1 : D ≤ 97)
    (k : ∀ r q H', Ext p H H' → Bs T p l n H' → RdP K p H' r q (us.map (lowF D)) → Fresh p H r → Q (.ref r) H') : Sw (spOfR K) [c, .ref a] H Q E := by
  have ok : RowOk 2000 (us.map (lowF D)) := row_ok (M := M0) (a := 7) (b := 110) d0 (by omega) M0_lt (by decide) hb hr
  exact ofR_bs B (.inl h) (g.nums ok) ok (by rw [List.length_map]; exact hl) k
local macro_rules | `(tactic| sizeOf_list_dec) => `(tactic| first
  | with_reducible assumption
  | ((with_reducible apply EM.At.ext); (focus (with_reducible assumption)); (focus sizeOf_list_dec))
  | ((with_reducible apply EM.RatP.ext); (focus (with_reducible assumption)); (focus sizeOf_list_dec))
  | ((with_reducible apply EM.NumP.ext); (focus (with_reducible assumption)); (focus sizeOf_list_dec))
  | (with_reducible exact EM.Ext.refl)
  | ((with_reducible apply EM.Ext.back); (focus (with_reducible assumption)); (focus sizeOf_list_dec))
  | exact EM.NumP.int _
  | ((with_reducible apply EM.Mu.at_k); (focus (with_reducible assumption)); (focus sizeOf_list_dec); (focus sizeOf_list_dec); (focus (intro _ z; cases z; done)))
  | ((with_reducible apply EM.Mu.at_n); (focus (with_reducible assumption)); (focus sizeOf_list_dec); (focus (first | with_reducible assumption | ((apply EM.nn1); (focus (with_reducible assumption)); (focus sizeOf_list_dec)) | ((apply EM.nn2); (focus (with_reducible assumption)); (focus sizeOf_list_dec)))))
  | ((with_reducible apply EM.Mu.here); (focus (with_reducible assumption)); (focus sizeOf_list_dec))
  | ((with_reducible apply EM.Mu.rat); (focus (with_reducible assumption)); (focus sizeOf_list_dec); (focus sizeOf_list_dec))
  | ((with_reducible apply EM.Mu.num); (focus (with_reducible assumption)); (focus sizeOf_list_dec); (focus sizeOf_list_dec))
  | ((with_reducible apply EM.num_of_rat); (focus sizeOf_list_dec); (focus (first | with_reducible assumption | (apply EM.n_low; assumption))))
  | ((with_reducible apply EM.RatsP.xt); (focus (with_reducible assumption)); (focus sizeOf_list_dec))
  | ((with_reducible apply EM.NumsP.xt); (focus (with_reducible assumption)); (focus sizeOf_list_dec))
  | ((with_reducible apply EM.PairsP.xt); (focus (with_reducible assumption)); (focus sizeOf_list_dec))
  | ((with_reducible apply EM.RdP.xt); (focus (with_reducible assumption)); (focus sizeOf_list_dec))
  | ((with_reducible apply EM.Mu.rats); (focus (with_reducible assumption)); (focus sizeOf_list_dec); (focus sizeOf_list_dec))
  | ((with_reducible apply EM.Mu.pairs); (focus (with_reducible assumption)); (focus sizeOf_list_dec); (focus sizeOf_list_dec))
  | ((with_reducible apply EM.Mu.rdp); (focus (with_reducible assumption)); (focus sizeOf_list_dec); (focus sizeOf_list_dec))
  | ((with_reducible apply EM.SeqV.xt); (focus (with_reducible assumption)); (focus sizeOf_list_dec))
  | ((with_reducible apply DuelP.xt); (focus (with_reducible assumption)); (focus sizeOf_list_dec)))
local macro_rules | `(tactic| decreasing_trivial_pre_omega) => `(tactic| first
  | with_reducible assumption
  | exact EM.Bt.mono (by with_reducible assumption) (by decide)
  | exact EM.Bt.lit _ _ (by decide +kernel)
  | ((with_reducible refine EM.Bt.rng32 ?_ ?_) <;> omega)
  | ((with_reducible refine EM.Bt.rng70 ?_ ?_) <;> omega)
  | ((with_reducible refine EM.Bt.rng200 ?_ ?_) <;> omega)
  | ((with_reducible apply EM.Bt.mulM); (focus decreasing_trivial_pre_omega); (focus decreasing_trivial_pre_omega); (focus (first | decide | exact Nat.le_refl _)))
  | ((with_reducible apply EM.Bt.addM); (focus decreasing_trivial_pre_omega); (focus decreasing_trivial_pre_omega); (focus (first | decide | exact Nat.le_refl _)))
  | ((with_reducible apply EM.Bt.subM); (focus decreasing_trivial_pre_omega); (focus decreasing_trivial_pre_omega); (focus (first | decide | exact Nat.le_refl _)))
  | ((with_reducible apply EM.Bt.topL); (focus decreasing_trivial_pre_omega); (focus assumption); (focus (first | decide | exact Nat.le_refl _)))
  | ((with_reducible apply EM.Bt.botL); (focus decreasing_trivial_pre_omega); (focus assumption); (focus (first | decide | exact Nat.le_refl _)))
  | ((with_reducible apply EM.Bt.divM); (focus decreasing_trivial_pre_omega); (focus assumption); (focus (first | decide | exact Nat.le_refl _)))
  | ((with_reducible apply EM.Bt.negM); (focus decreasing_trivial_pre_omega); (focus (first | decide | exact Nat.le_refl _))))
local macro_rules | `(tactic| array_get_dec) => `(tactic| first
  | with_reducible assumption
  | ((with_reducible refine EM.gEq ?_); exact rfl)
  | ((with_reducible refine EM.gTru ?_); exact rfl)
  | ((with_reducible refine EM.gRef ?_); first | exact Or.inl ⟨_, rfl⟩ | exact Or.inr ⟨_, rfl⟩)
  | ((with_reducible apply EM.At.get); sizeOf_list_dec)
  | ((with_reducible apply EM.At.sqL); sizeOf_list_dec)
  | ((with_reducible apply EM.At.sqT); sizeOf_list_dec)
  | ((with_reducible apply EM.RatP.getK); (focus sizeOf_list_dec); (focus (exact rfl)))
  | (with_reducible exact EM.Num.int _)
  | ((with_reducible apply EM.NumP.getK); (focus sizeOf_list_dec); (focus (exact rfl)))
  | ((with_reducible apply EM.At.ext); (focus (with_reducible assumption)); (focus sizeOf_list_dec))
  | ((with_reducible apply EM.RatP.ext); (focus (with_reducible assumption)); (focus sizeOf_list_dec))
  | ((with_reducible apply EM.NumP.ext); (focus (with_reducible assumption)); (focus sizeOf_list_dec))
  | with_reducible exact Tx.cl_Ratio (by assumption)
  | with_reducible exact Tx.cl_Reading (by assumption)
  | with_reducible exact Tx.cl_Duel (by assumption)
  | with_reducible exact Tx.na_Ratio_top (by assumption)
  | with_reducible exact Tx.na_Ratio_bottom (by assumption)
  | with_reducible exact Tx.na_Reading_own_edges (by assumption)
  | with_reducible exact Tx.na_Duel_weights (by assumption)
  | with_reducible exact Tx.na_Duel_level (by assumption)
  | ((with_reducible refine EM.gAt ?_); sizeOf_list_dec)
  | ((with_reducible refine EM.gRat ?_); sizeOf_list_dec)
  | ((with_reducible refine EM.gNum ?_); sizeOf_list_dec)
  | ((with_reducible apply EM.TwoP.mk); (focus (with_reducible assumption)); (focus sizeOf_list_dec); (focus (first | with_reducible assumption | (apply EM.n_low; assumption))); (focus sizeOf_list_dec); (focus decreasing_trivial_pre_omega); (focus decreasing_trivial_pre_omega); (focus decreasing_trivial_pre_omega); (focus decreasing_trivial_pre_omega))
  | (with_reducible exact EM.Ext.refl)
  | ((with_reducible apply EM.Ext.back); (focus (with_reducible assumption)); (focus sizeOf_list_dec))
  | ((with_reducible apply EM.Bs.mono); (focus (with_reducible assumption)); omega)
  | ((with_reducible refine EM.gN ?_); first | decide | omega | exact Nat.le_of_ble_eq_true rfl | (simp only [List.length_cons, List.length_nil, List.length_append]; omega))
  | ((with_reducible refine EM.gM ?_); first | decide | omega | exact Nat.le_of_ble_eq_true rfl)
  | ((with_reducible refine EM.gI ?_); first | decide | omega)
  | ((with_reducible refine EM.gJ ?_); first | decide | omega)
  | ((with_reducible refine EM.gE ?_); first | decide | omega)
  | ((with_reducible refine EM.gB ?_); decreasing_trivial_pre_omega)
  | ((with_reducible apply EM.wideM); (focus decreasing_trivial_pre_omega); (focus decreasing_trivial_pre_omega); (focus decide)))
local macro_rules | `(tactic| infer_instance) => `(tactic| first
  | with_reducible assumption
  | exact DpAll.nil
  | (apply DpAll.cons; (focus infer_instance); (focus infer_instance))
  | with_reducible exact Dp.int _
  | exact Dp.int _
  | with_reducible exact Dp.str _
  | exact Dp.bl _
  | exact Dp.non
  | ((with_reducible apply EM.dp_lst); (focus array_get_dec); (focus infer_instance))
  | ((with_reducible apply EM.dp_tup); (focus array_get_dec); (focus infer_instance))
  | exact EM.dp_ints _)
local macro_rules | `(tactic| nofun) => `(tactic| first
  | with_reducible assumption
  | exact EM.FeL.nil
  | exact EM.FdL.nil
  | (apply EM.FeL.cons; (focus nofun); (focus nofun))
  | (apply EM.FdL.cons; (focus nofun); (focus nofun))
  | exact EM.Fe.int _
  | exact EM.Fe.bool _
  | exact EM.Fe.non
  | exact EM.Fe.str (EM.okS_of _)
  | (apply EM.Fe.str; apply EM.Fd.ok; (focus nofun))
  | (apply EM.Fe.list; (focus nofun))
  | (apply EM.Fe.tup; (focus nofun))
  | (apply EM.Fd.int; (focus decreasing_trivial_pre_omega))
  | exact EM.Fd.bool _
  | exact EM.Fd.non
  | (refine EM.Fd.bool _)
  | (apply EM.Fd.list; (focus nofun))
  | (apply EM.Fd.tup; (focus nofun)))
local macro_rules | `(tactic| array_mem_dec) => `(tactic| ((with_reducible refine EM.pr ?_); first
  | (with_reducible refine L2.iteT ?_)
  | (with_reducible refine L2.iteF ?_)
  | (with_reducible refine EM.ifNotT ?_)
  | (with_reducible refine EM.ifNotF ?_)
  | ((fail_if_success (with_reducible refine EM.gIf ?_)); first
  | array_get_dec
  | (refine EM.mk_low (by with_reducible assumption) (by with_reducible assumption) ?_ ?_; (focus array_get_dec))
  | (apply EM.isNum_sw; (focus sizeOf_list_dec))
  | (apply EM.of_sw; (focus (with_reducible assumption)); (focus sizeOf_list_dec))
  | (apply EM.neg_bs; (focus (with_reducible assumption)); (focus sizeOf_list_dec); (focus array_get_dec); (focus array_get_dec))
  | (apply EM.relw_bs; (focus (with_reducible assumption)); (focus sizeOf_list_dec); (focus sizeOf_list_dec); (focus array_get_dec); (focus decreasing_trivial_pre_omega); (focus decreasing_trivial_pre_omega); (focus decreasing_trivial_pre_omega); (focus decreasing_trivial_pre_omega))
  | ((apply EM.DnS.bs); (focus (with_reducible assumption)); (focus (intro _ z; cases z; done)))
  | ((apply EM.seqL); (focus sizeOf_list_dec))
  | ((apply EM.seqT); (focus sizeOf_list_dec))
  | ((apply EM.lenL); (focus sizeOf_list_dec))
  | ((apply EM.lenT); (focus sizeOf_list_dec))
  | ((apply EM.isSeqL); (focus sizeOf_list_dec); (focus sizeOf_list_dec))
  | ((apply EM.isSeqT); (focus sizeOf_list_dec); (focus sizeOf_list_dec))
  | ((apply EM.tupL); (focus sizeOf_list_dec))
  | ((apply EM.fld_bs); (focus sizeOf_list_dec); (focus (first | exact Tx.cl_Reading (by assumption) | exact Tx.cl_Duel (by assumption))); (focus (first | exact Tx.na_Reading_own_edges (by assumption) | exact Tx.na_Duel_weights (by assumption) | exact Tx.na_Duel_level (by assumption))); (focus (exact rfl)))
  | ((apply EM.seqS); (focus sizeOf_list_dec))
  | ((apply EM.enS); (focus sizeOf_list_dec))
  | ((apply EM.lenS); (focus sizeOf_list_dec))
  | ((apply EM.isSeqS); (focus sizeOf_list_dec); (focus sizeOf_list_dec))
  | ((apply EM.lstS); (focus sizeOf_list_dec))
  | ((apply EM.sumS); (focus sizeOf_list_dec))
  | ((apply EM.tupSL); (focus sizeOf_list_dec))
  | ((apply EM.tupST); (focus sizeOf_list_dec))
  | ((apply str_bs); (focus sizeOf_list_dec); (focus decreasing_trivial_pre_omega); (focus decreasing_trivial_pre_omega))
  | (apply intB)
  | ((apply EM.zpL); (focus sizeOf_list_dec); (focus sizeOf_list_dec))
  | (with_reducible apply EM.EqS.mk')
  | (with_reducible apply EM.NeS.mk')
  | ((apply EM.repr_fr); (focus infer_instance); (focus (with_reducible assumption)); (focus decide))
  | ((apply textF_bs); (focus (with_reducible assumption)); (focus decreasing_trivial_pre_omega); (focus decreasing_trivial_pre_omega))
  | ((with_reducible refine EM.New.bs (by with_reducible assumption) ?_ ?_); (focus (intro _ z; cases z; done)))
  | ((with_reducible refine EM.gMu ?_); (with_reducible apply EM.mu_bs); (focus (with_reducible assumption)); (focus sizeOf_list_dec); (focus (apply EM.nel2; (focus (with_reducible assumption)); (focus (with_reducible assumption)))); intro _ _ _)
  | intro _
  | (apply And.intro; (focus array_get_dec))
  | apply Exists.intro
  | (refine EM.draw_bs (by with_reducible assumption) ?_ ?_ ?_ ?_; (focus array_get_dec); (focus array_get_dec); (focus (first | decide | omega)))
  | (apply EM.pick_bs; (focus (with_reducible assumption)); (focus array_get_dec); (focus sizeOf_list_dec); (focus (exact Nat.le_of_ble_eq_true rfl)); (focus (exact Nat.le_of_ble_eq_true rfl)))
  | ((apply EM.repr_sw); (focus infer_instance); (focus nofun); (focus decide))
  | ((apply EM.eqd_same); (focus infer_instance); (focus infer_instance); (focus nofun); (focus decide))
  | ((apply EM.ned_same); (focus infer_instance); (focus infer_instance); (focus nofun); (focus decide))
  | ((apply EM.eqd_sw); (focus infer_instance); (focus infer_instance); (focus nofun); (focus nofun); (focus decide))
  | ((apply EM.ned_sw); (focus infer_instance); (focus infer_instance); (focus nofun); (focus nofun); (focus decide))
  | (refine EM.cut_bs (by with_reducible assumption) ?_ ?_ ?_; (focus array_get_dec); (focus array_get_dec)))))
section
variable {P : Program} {w : World} {K : PySem.W.Frag} {mg : Str → Option Value} {base : Heap}
theorem ok_Lrefused_right (T : Tx K mg) (TB : ∀ p ∈ cs K, LamX.TabB base mg p.1 p.2) : FnG P w K mg base (L2.CX P w) 15 (He.ga K "_law_refused_right") (spRefR K) := by
  obtain ⟨fd, F⟩ := T.d_Lrefused_right
  refine EM.fngC F sc_Lrefused_right (fun _ _ _ _ _ _ us hl => match us, hl with | [_, _, _], _ => rfl) (fun vs H Q E h => ?_) (fun A outer s H vs Q E hr hG h => ?_)
  · obtain ⟨p, l, d, S, n, D, ws, ts, e, rfl, _⟩ := h
    rfl
  · obtain ⟨p, l, d, S, n, D, ws, ts, e, rfl, B0, dp, aS, hl, okl, h24, hr_, hb, d0, d1, k⟩ := h
    obtain ⟨ok1, ok2, ok3⟩ := id okl
    have hu70 : (A.deeper (envOfC "_law_refused_right" (defScope s_Lrefused_right) s.heap.objs.size (He.ga K "_law_refused_right") (codeV K (He.ga K "_law_refused_right")))).units + 70 < cLine := by have := hr.un; omega
    obtain ⟨fdh, Fh⟩ := T.d_Lis_unlike
    have TBm : LamX.TabB base mg (cA K (He.ga K "_law_refused_right")) (tA K (He.ga K "_law_refused_right")) := TB _ (.head _)
    have hcode : codeV K (He.ga K "_law_refused_right") = .ref (cA K (He.ga K "_law_refused_right")) := T.t_Lrefused_right.code
    obtain ⟨la, el⟩ : ∃ la, ts[ts.length - 1]? = some la := ⟨_, List.getElem?_eq_getElem (by omega)⟩
    have ixL : atI (ts.map V.int) (-1) = some (.int la) := atI_m (j := ts.length - 1) (by rw [List.length_map]; omega) (by omega) (by rw [List.getElem?_map, el]; rfl)
    have lb := hb la (List.mem_of_getElem? el)
    obtain ⟨dx, wq, lr, i1, i2, i3, i4⟩ := id dp
    refine ⟨_, (PSs.nox (pss_cons (ps_set (i := 3) sc_Lrefused_right.nd rfl (Or.inl rfl) (EM.pe_lstN (pa_cons (pe_op EM.op_catN (pv 1) (EM.pe_lstN (pa_cons (pe_op op_add (pe_ix ix_list (pv 1) (pe_un un_neg pe_int) (fun _ _ => rfl)) pe_int) (pa_cons (pe_op op_add (pe_ix ix_list (pv 1) (pe_un un_neg pe_int) (fun _ _ => rfl)) pe_int) pa_nil)))) (pa_cons (pe_slice EM.sl_listN (pv 1) po_none (po_some (pe_un un_neg pe_int))) pa_nil))))
 (pss_cons (EM.forN (ps_for PassesOwn.never rfl (EM.pi_seqN (pv 3)).mc (pg_name (i := 4) sc_Lrefused_right.nd rfl (Or.inl rfl))
  (pss_one (ps_if (pt_cmpR op_gt (pe_callB EM.call_lenN (by rfl) T.f_len boot_len (pa_cons (pv 4) pa_nil)) pe_int (nomark _))
  (pss_cons (ps_set (i := 5) sc_Lrefused_right.nd rfl (Or.inr rfl) (ClX.pe_cmeth (pe_glob (v := .ref (He.ga K "Reading")) (by rfl) T.g_Reading rfl) T.cr_Reading T.cm_Reading_of (ok_Reading_of T).sw (hr.mono (by decide)) passL (pa_cons (EM.lcN (pe_lc (own := [("_law_top", 6)]) (g := gName 6) (te := mcE (tCR (Sw (spMkN K)) E0 (tCons (tVar 6) (tCons (tVar 2) tNil)))) rfl sc_Lrefused_right.nd (EM.pi_seqN (pv 4)).mc (blkOk_by (N := ["_law_made", "_law_tops_here", "_law_bottom", "_law_rows", "_law_some", "_law_read", "_law_top"]) (sc := defScope s_Lrefused_right) (by decide +kernel)) (fun _ _ _ _ _ => (pg_name (i := 6) sc_Lrefused_right.nd rfl (Or.inl rfl))) (fun _ _ _ _ _ => pts_nil) (fun _ _ _ _ _ => (PE.mc (pe_mkN_ T (hr.mono (by decide)) (pa_cons (pv 6) (pa_cons (pv 2) pa_nil))))))) pa_nil)))
 (pss_cons (ps_if (pt_not (pt_val (EM.pe_lamG (T := tabs K) (TT := TTh K) (t := fun E => tCI K E (tVar 0) (tCons (tVar 5) tNil)) (c := cA K (He.ga K "_law_refused_right")) (P := tA K (He.ga K "_law_refused_right")) (k := 12) Fh T.g__law_is_unlike (fun _ _ _ _ _ _ us hl => match us, hl with | [_], _ => rfl) sc_Lis_unlike rfl (Or.inl rfl) hG (gives_unlike T _) TBm hcode (by exact .head _) (tabs_u (tA K (He.ga K "_law_refused_right"), lamN "_law_refused_right") (.head _)) (hr.mono (by decide)) (LamX.lamS_by (sc := defScope s_Lrefused_right) (by decide +kernel)) rfl (fun _ _ _ _ _ => rfl) (fun A outer s H E f c2 hr2 hG2 => pe_cI T (hr2.mono (by decide)) (passes_call (takes_of (E := E) rfl rfl rfl rfl) (fun _ _ _ _ h => h)) (pv 0) (pa_cons (pv 5) pa_nil)))))
  (pss_one (ps_ret pe_bl)) pss_nil)
 (pss_one (ps_if (pt_not (pt_val (EM.pe_lamG (T := tabs K) (TT := TTh K) (t := fun E => tMR (He.ga K "Duel") "weigh" (Sw (spWeigh K)) E (tVar 0) (tCons (tVar 5) tNil)) (c := cA K (He.ga K "_law_refused_right")) (P := tA K (He.ga K "_law_refused_right")) (k := 12) Fh T.g__law_is_unlike (fun _ _ _ _ _ _ us hl => match us, hl with | [_], _ => rfl) sc_Lis_unlike rfl (Or.inl rfl) hG (gives_unlike T _) TBm hcode (by exact .head _) (tabs_u (tA K (He.ga K "_law_refused_right"), lamN "_law_refused_right") (.head _)) (hr.mono (by decide)) (LamX.lamS_by (sc := defScope s_Lrefused_right) (by decide +kernel)) rfl (fun _ _ _ _ _ => rfl) (fun A outer s H E f c2 hr2 hG2 => (EM.pe_mR (pv 0) T.cl_Duel T.m_Duel_weigh (ok_Duel_weigh T).sw (hr2.mono (by decide)) (passes_call (takes_of (E := E) rfl rfl rfl rfl) (fun _ _ _ _ h => h)) (pa_cons (pv 5) pa_nil))))))
  (pss_one (ps_ret pe_bl)) pss_nil)))) pss_nil))))
 (pss_one (ps_ret pe_bl))))), ?_⟩
    repeat' array_mem_dec
    --R1
    rename_i q1 H1 x1 B1 a1 n1
    refine ⟨by rw [List.length_map]; simp only [List.length_cons, List.length_nil]; omega, New.bs B1 (by intro _ z; cases z) fun q2 H2 x2 B2 a2 n2 => ?_⟩
    have x02 := x1.trans x2
    clear a1 n1
    repeat' array_mem_dec
    --R2
    rename_i q3 H3 x3 B3 a3 n3 qz HZ xZ BZ aZ nZ J wk
    have e2 : ts.map V.int ++ [V.int (la + 1), V.int (la + 2)] = (ts ++ [la + 1] ++ [la + 2]).map V.int := by
      rw [List.map_append, List.map_append, List.append_assoc]
      rfl
    have a2' : At p H2 q2 (.lst ((ts ++ [la + 1] ++ [la + 2]).map V.int)) := by rw [← e2]; exact a2
    have a3' : At p H3 q3 (.lst ((ts.take (ts.length - 2)).map V.int)) := by rw [← cut_neg ts 2 (by decide)]; exact a3
    have x0Z := x02.trans (x3.trans xZ)
    have rows : ∀ v ∈ [V.ref q2, V.ref q3], RowU p ts.length HZ v := fun v hv => by
      simp only [List.mem_cons, List.not_mem_nil, or_false] at hv
      rcases hv with rfl | rfl
      · refine ⟨q2, _, rfl, a2'.ext (x3.trans xZ), ?_, ?_, ?_, .inr ?_⟩
        · refine RiseI.snoc (RiseI.snoc hr_ fun a ha => ?_) fun a ha => ?_
          · rw [el] at ha
            cases ha
            omega
          · rw [List.length_append, show ts.length + [la + 1].length - 1 = ts.length by simp, List.getElem?_append_right (Nat.le_refl _), Nat.sub_self] at ha
            cases ha
            omega
        · intro t ht
          rw [List.append_assoc] at ht
          rcases List.mem_append.mp ht with h | h
          · have := hb t h
            omega
          · simp only [List.cons_append, List.nil_append, List.mem_cons, List.not_mem_nil, or_false] at h
            rcases h with rfl | rfl <;> omega
        · rw [List.length_append, List.length_append]
          simp only [List.length_cons, List.length_nil]
          omega
        · rw [List.length_append, List.length_append]
          simp only [List.length_cons, List.length_nil]
          exact ⟨by omega, by omega, by omega⟩
      · refine ⟨q3, _, rfl, a3'.ext xZ, hr_.take, fun t ht => ?_, by rw [List.length_take]; omega, ?_⟩
        · have := hb t (List.mem_of_mem_take ht)
          omega
        · rw [List.length_take]
          rcases Nat.lt_or_ge ts.length 5 with c | c
          · exact .inl (by omega)
          · exact .inr ⟨by omega, by omega, by omega⟩
    have dpZ := dp.ext x0Z
    clear a2 a3 a2' a3' n2 n3 nZ x1 x2 x3 xZ x02 B0 B1 B2 B3 i1 i2 i3 dp aS hb hr_
    refine FoS.it wk (fun i σ H4 => Hold (∃ v4 v5 v6 : Option V, σ = [some (.ref d), some (.ref S), some (.int (D : Nat)), some (.ref qz), v4, v5, v6] ∧ Ext p HZ H4 ∧ Bs (tabs K) p l n H4)) ⟨⟨_, _, _, rfl, Ext.refl, BZ⟩⟩ (fun i σ H4 _ ⟨⟨_, _, _, _, x, _⟩⟩ => aZ.eq x) ?_ ?_
    · rintro i y σ H4 H5 hi ⟨⟨v4, v5, v6, rfl, x4, B4⟩⟩ ⟨rfl, hv⟩
      obtain ⟨u, us, rfl, aU, hru, hbu, hne, hlu⟩ := (rows y (List.mem_of_getElem? hv)).ext x4
      have dp4 := dpZ.ext x4
      clear rows hv
      repeat' array_mem_dec
      --R3
      rw [List.length_map]
      refine ifLt (a := 2) (b := (us.length : Int)) (fun c => ?_) (fun c => ?_)
      · have oku : okLen us.length := hlu.resolve_left (by omega)
        obtain ⟨ou1, ou2, ou3⟩ := id oku
        repeat' array_mem_dec
        --R4
        rename_i J2 wk2
        refine LcS.lc 0 wk2 B4 (fun j y H' => Hold (∃ e a, (us.map (lowF D))[j]? = some e ∧ y = .ref a ∧ RatP K p H' a e.1 e.2)) (by rw [List.length_map]; omega) (fun H' x => aU.eq x) ?_ ?_ (fun j y Ha Hb ⟨⟨e, a, e1, e2, e3⟩⟩ x => ⟨⟨e, a, e1, e2, e3.ext x⟩⟩) (fun j y D xs ys Ha Hb ⟨⟨e, a, e1, e2, e3⟩⟩ m g => ⟨⟨e, a, e1, e2, m.rat e3 g⟩⟩)
        · rintro j y K2 K3 hk y2 C2 ⟨rfl, hv⟩
          rw [List.getElem?_map] at hv
          obtain ⟨t, et, rfl⟩ := Option.map_eq_some_iff.mp hv
          repeat' array_mem_dec
          refine mkF_bs C2 d0 d1 fun a9 H9 x9 B9 r9 => ?_
          exact ⟨x9, B9.mono (by omega), ⟨⟨lowF D t, a9, by rw [List.getElem?_map, et]; rfl, rfl, r9⟩⟩⟩
        rintro DL yL HL hDL hylL hfL xL BL0 aL
        have rats : RatsP K p HL yL (us.map (lowF D)) := ⟨by rw [hylL, List.length_map, List.length_map], fun j x t e1 e2 => by
          obtain ⟨⟨e, a, e3, e4, nv⟩⟩ := hfL j x e1
          rw [e2] at e3
          cases e3
          exact ⟨a, e4, nv⟩⟩
        have BL : Bs (tabs K) p l n HL := BL0.mono (by omega)
        clear BL0 hfL
        repeat' array_mem_dec
        refine ofR_row BL aL rats hru hbu oku d0 d1 fun r6 q6 H6 x6 B6 rd6 f6 => ?_
        have x46 := xL.trans x6
        have dp6 := dp4.ext x46
        obtain ⟨dx6, w6, l6, i16, i26, i36, i46⟩ := id dp6
        clear xL x6 BL aL rats f6 dp4 aU B4
        repeat' array_mem_dec
        --R5
        refine ⟨B6.tab, fun H7 e7 t7 => ?_⟩
        have x7 : Ext p H6 H7 := Ext.extN e7
        have B7 := B6.ext e7 t7
        intro E' Q' hE
        repeat' array_mem_dec
        repeat' array_mem_dec
        --R6
        refine ⟨⟨tabs K, p, l, d, r6, q6, _, ws, e, _, rfl, B7, dp6.ext x7, rd6.ext x7, by rw [List.length_map]; omega, by omega, .inl ⟨by rw [List.length_map]; omega, hE _ _ _ ⟨⟨tabs K, p, l, _, rfl, rfl, B7, fun H8 x8 B8 => ?_⟩⟩⟩⟩⟩
        have x78 := x7.trans x8
        have dp8 := dp6.ext x78
        have rd8 := rd6.ext x78
        have i18 := i16.ext x78
        clear hE e7 t7 x7 x8 B6 B7 i16 i26 i36 dp6 rd6
        repeat' array_mem_dec
        --R7
        refine ⟨B8.tab, fun H9 e9 t9 => ?_⟩
        have x9 : Ext p H8 H9 := Ext.extN e9
        have B9 := B8.ext e9 t9
        have i19 := i18.ext x9
        intro E' Q' hE
        repeat' array_mem_dec
        repeat' array_mem_dec
        --R8
        refine ⟨⟨tabs K, p, l, d, r6, q6, _, ws, e, _, rfl, B9, dp8.ext x9, rd8.ext x9, by rw [List.length_map]; omega, by omega, .inl ⟨by rw [List.length_map]; omega, hE _ _ _ ⟨⟨tabs K, p, l, _, rfl, rfl, B9, fun H10 x10 B10 => ?_⟩⟩⟩⟩⟩
        repeat' array_mem_dec
        --R9
        exact ⟨⟨_, _, _, rfl, x4.trans (x46.trans (x78.trans (x9.trans x10))), B10⟩⟩
      · repeat' array_mem_dec
        exact ⟨⟨_, _, _, rfl, x4, B4⟩⟩
    · rintro σ H4 ⟨⟨v4, v5, v6, rfl, x4, B4⟩⟩
      repeat' array_mem_dec
      exact k H4 (x0Z.trans x4) B4
end
end K41
namespace K41
open PySem PySem.Spec PyProof.Rows L2 EM
def W7 : List Int := (List.range 127).map fun (j : Nat) => (0 + (j : Int)) * (0 + (j : Int)) % 7 - 3
def R7 : List Int := W7 ++ [0 - W7.sum]
def T7 : List Int := (List.range 128).map fun (j : Nat) => 3 * (0 + (j : Int)) + (0 + (j : Int)) % 2
theorem R7_good : GoodW R7 := ⟨⟨by decide +kernel, by decide +kernel, by decide +kernel⟩, by decide +kernel, ⟨-3, by decide +kernel, by decide⟩⟩
theorem R7_w : ∀ w ∈ R7, w.natAbs ≤ W0 := by decide +kernel
theorem T7_b : ∀ t ∈ T7, t.natAbs ≤ M0 := by decide +kernel
theorem T7_len : T7.length = 128 := by decide +kernel
theorem R7_len : R7.length = T7.length := by decide +kernel
theorem rng_at {n : Nat} {f : Nat → Int} {j : Nat} (h : j < n) : ((List.range n).map f)[j]? = some (f j) := by
  rw [List.getElem?_map, List.getElem?_range h]
  rfl
theorem T7_rise : RiseI T7 := by
  intro i a b ha hb
  have hi : i + 1 < 128 := by
    have := (List.getElem?_eq_some_iff.mp hb).1
    rw [T7_len] at this
    exact this
  have e1 := rng_at (n := 128) (f := fun j => 3 * (0 + (j : Int)) + (0 + (j : Int)) % 2) (j := i) (by omega)
  have e2 := rng_at (n := 128) (f := fun j => 3 * (0 + (j : Int)) + (0 + (j : Int)) % 2) (j := i + 1) hi
  have e3 := ha.symm.trans e1
  have e4 := hb.symm.trans e2
  cases e3
  cases e4
  have : ((i + 1 : Nat) : Int) = i + 1 := by omega
  omega
def spLaw (K : PySem.W.Frag) : Sp := fun vs H Q _ => ∃ (a : Addr) (ns : List Int), vs = [.ref a] ∧ SqL K H a (ns.map V.int) ∧ ns.length ≤ 63 ∧ (∀ q ∈ cs K, H q.2 = some (.tbl #[])) ∧ ∀ H', Q (.bl true) H'
structure IadM (K : PySem.W.Frag) (x y : V) (H : Hp) (Q : VK) : Prop where
  h : spMvI K [x, y] H Q E0
structure ImuM (K : PySem.W.Frag) (x y : V) (H : Hp) (Q : VK) : Prop where
  h : spStI K [x, y] H Q E0
theorem iop_addM {K : PySem.W.Frag} {mg : Str → Option Value} (T : Tx K mg) {X : Cx} (hr : Room 9 X.A) (e1 : X.K = K := by rfl) (e2 : X.mg = mg := by rfl) : OpR X (inplaceOp .Add) (IadM K) := by
  subst e1 e2
  refine opR_of (iop_own (op := .Add) (E := E0) T.sf_Reading T.m_Reading_iadd.at_ T.m_Reading_iadd.fn (ok_Reading_iadd T) hr passL) fun x y H Q ⟨h⟩ => ?_
  obtain ⟨T0, p, l, r, q, n, es, v, t, b, e, B0, rd, _⟩ := id h
  cases e
  obtain ⟨dx, a⟩ := rd.at_
  exact ⟨r, dx, _, rfl, a.at_, h⟩
theorem iop_mulM {K : PySem.W.Frag} {mg : Str → Option Value} (T : Tx K mg) {X : Cx} (hr : Room 11 X.A) (e1 : X.K = K := by rfl) (e2 : X.mg = mg := by rfl) : OpR X (inplaceOp .Mult) (ImuM K) := by
  subst e1 e2
  refine opR_of (iop_own (op := .Mult) (E := E0) T.sf_Reading T.m_Reading_imul.at_ T.m_Reading_imul.fn (ok_Reading_imul T) hr passL) fun x y H Q ⟨h⟩ => ?_
  obtain ⟨T0, p, l, r, q, n, es, v, t, b, e, B0, rd, _⟩ := id h
  cases e
  obtain ⟨dx, a⟩ := rd.at_
  exact ⟨r, dx, _, rfl, a.at_, h⟩
theorem pset_of {X : Cx} {t t' : TSet} (h : PSet X t) (w : ∀ o i v H Q, t' o i v H Q → t o i v H Q) : PSet X t' := fun pins s σ H o i v ov iv u Q I r1 r2 r3 q => h pins s σ H o i v ov iv u Q I r1 r2 r3 (w _ _ _ _ _ q)
/-- r[i] = v of a reading -/
structure SetM (K : PySem.W.Frag) (o i v : V) (H : Hp) (Q : Hp → Prop) : Prop where
  h : spSetL K [o, i, v] H (fun _ H' => Q H') E0
theorem set_M {K : PySem.W.Frag} {mg : Str → Option Value} (T : Tx K mg) {X : Cx} (hr : Room 9 X.A) (e1 : X.K = K := by rfl) (e2 : X.mg = mg := by rfl) : PSet X (SetM K) := by
  subst e1 e2
  refine pset_of (set_own (E := E0) T.ns_Reading T.m_Reading_setitem.at_ T.m_Reading_setitem.fn (ok_Reading_setitem T) hr passL) fun o i v H Q ⟨h⟩ => ?_
  obtain ⟨T0, p, l, r, q, n, j, es, v2, t, b, e, B0, rd, _⟩ := id h
  cases e
  obtain ⟨dx, a⟩ := rd.at_
  exact ⟨r, dx, _, rfl, a.at_, h⟩
theorem xr_duel {K : PySem.W.Frag} {p r q d : Addr} {H H' : Hp} {es : List (Int × Int)} {ws : List Int} {e : Int × Int} (x : XtR p r H H') (h : DuelP K p H d ws e) (rd : RdP K p H r q es) : DuelP K p H' d ws e := by
  obtain ⟨dr, g⟩ := rd.at_
  obtain ⟨dx, qw, a, h1, h2, h3, h4⟩ := h
  refine ⟨dx, qw, a, x.at_ h1 g (fun z => ?_), x.at_ h2 g (by intro z; cases z), x.rat h3 g rdf_ne, h4⟩
  injection z with _ _ z
  injection z with z1 z2
  cases z2
theorem xr_lst {K : PySem.W.Frag} {p r q a : Addr} {H H' : Hp} {es : List (Int × Int)} {xs : List V} (x : XtR p r H H') (h : At p H a (.lst xs)) (rd : RdP K p H r q es) : At p H' a (.lst xs) := by
  obtain ⟨dr, g⟩ := rd.at_
  exact x.at_ h g (by intro z; cases z)
/-- what stands in a turn: the duel asked, the list of the weights, the list of the tops, the reading -/
structure TurnP (K : PySem.W.Frag) (p : Addr) (H : Hp) (R S r rq d : Addr) (D : Nat) (ws ts us : List Int) : Prop where
  aR : At p H R (.lst (ws.map V.int))
  aS : At p H S (.lst (ts.map V.int))
  rd : RdP K p H r rq (us.map (lowF D))
  dp : DuelP K p H d ws (0, 1)
theorem TurnP.ext {K : PySem.W.Frag} {p : Addr} {H H' : Hp} {R S r rq d : Addr} {D : Nat} {ws ts us : List Int} (h : TurnP K p H R S r rq d D ws ts us) (x : Ext p H H') : TurnP K p H' R S r rq d D ws ts us := ⟨h.aR.ext x, h.aS.ext x, h.rd.ext x, h.dp.ext x⟩
theorem TurnP.xr {K : PySem.W.Frag} {p : Addr} {H H' : Hp} {R S r rq rq' d : Addr} {D : Nat} {ws ts us us' : List Int} (h : TurnP K p H R S r rq d D ws ts us) (x : XtR p r H H') (rd : RdP K p H' r rq' (us'.map (lowF D))) : TurnP K p H' R S r rq' d D ws ts us' := ⟨xr_lst x h.aR h.rd, xr_lst x h.aS h.rd, rd, xr_duel x h.dp h.rd⟩
theorem TurnP.lst {K : PySem.W.Frag} {p : Addr} {H : Hp} {R S S' r rq d : Addr} {D : Nat} {ws ts ts' us : List Int} (h : TurnP K p H R S r rq d D ws ts us) (aS : At p H S' (.lst (ts'.map V.int))) : TurnP K p H R S' r rq d D ws ts' us := ⟨h.aR, aS, h.rd, h.dp⟩
local macro_rules | `(tactic| sizeOf_list_dec) => `(tactic| first
  | with_reducible assumption
  | ((with_reducible apply EM.At.ext); (focus (with_reducible assumption)); (focus sizeOf_list_dec))
  | ((with_reducible apply EM.RatP.ext); (focus (with_reducible assumption)); (focus sizeOf_list_dec))
  | ((with_reducible apply EM.NumP.ext); (focus (with_reducible assumption)); (focus sizeOf_list_dec))
  | (with_reducible exact EM.Ext.refl)
  | ((with_reducible apply EM.Ext.back); (focus (with_reducible assumption)); (focus sizeOf_list_dec))
  | exact EM.NumP.int _
  | ((with_reducible apply EM.Mu.at_k); (focus (with_reducible assumption)); (focus sizeOf_list_dec); (focus sizeOf_list_dec); (focus (intro _ z; cases z; done)))
  | ((with_reducible apply EM.Mu.at_n); (focus (with_reducible assumption)); (focus sizeOf_list_dec); (focus (first | with_reducible assumption | ((apply EM.nn1); (focus (with_reducible assumption)); (focus sizeOf_list_dec)) | ((apply EM.nn2); (focus (with_reducible assumption)); (focus sizeOf_list_dec)))))
  | ((with_reducible apply EM.Mu.here); (focus (with_reducible assumption)); (focus sizeOf_list_dec))
  | ((with_reducible apply EM.Mu.rat); (focus (with_reducible assumption)); (focus sizeOf_list_dec); (focus sizeOf_list_dec))
  | ((with_reducible apply EM.Mu.num); (focus (with_reducible assumption)); (focus sizeOf_list_dec); (focus sizeOf_list_dec))
  | ((with_reducible apply EM.num_of_rat); (focus sizeOf_list_dec); (focus (first | with_reducible assumption | (apply EM.n_low; assumption))))
  | ((with_reducible apply EM.RatsP.xt); (focus (with_reducible assumption)); (focus sizeOf_list_dec))
  | ((with_reducible apply EM.NumsP.xt); (focus (with_reducible assumption)); (focus sizeOf_list_dec))
  | ((with_reducible apply EM.PairsP.xt); (focus (with_reducible assumption)); (focus sizeOf_list_dec))
  | ((with_reducible apply EM.RdP.xt); (focus (with_reducible assumption)); (focus sizeOf_list_dec))
  | ((with_reducible apply EM.Mu.rats); (focus (with_reducible assumption)); (focus sizeOf_list_dec); (focus sizeOf_list_dec))
  | ((with_reducible apply EM.Mu.pairs); (focus (with_reducible assumption)); (focus sizeOf_list_dec); (focus sizeOf_list_dec))
  | ((with_reducible apply EM.Mu.rdp); (focus (with_reducible assumption)); (focus sizeOf_list_dec); (focus sizeOf_list_dec))
  | ((with_reducible apply EM.SeqV.xt); (focus (with_reducible assumption)); (focus sizeOf_list_dec))
  | ((with_reducible apply DuelP.xt); (focus (with_reducible assumption)); (focus sizeOf_list_dec)))
local macro_rules | `(tactic| decreasing_trivial_pre_omega) => `(tactic| first
  | with_reducible assumption
  | exact EM.Bt.mono (by with_reducible assumption) (by decide)
  | exact EM.Bt.lit _ _ (by decide +kernel)
  | ((with_reducible refine EM.Bt.rng32 ?_ ?_) <;> omega)
  | ((with_reducible refine EM.Bt.rng70 ?_ ?_) <;> omega)
  | ((with_reducible refine EM.Bt.rng200 ?_ ?_) <;> omega)
  | ((with_reducible apply EM.Bt.mulM); (focus decreasing_trivial_pre_omega); (focus decreasing_trivial_pre_omega); (focus (first | decide | exact Nat.le_refl _)))
  | ((with_reducible apply EM.Bt.addM); (focus decreasing_trivial_pre_omega); (focus decreasing_trivial_pre_omega); (focus (first | decide | exact Nat.le_refl _)))
  | ((with_reducible apply EM.Bt.subM); (focus decreasing_trivial_pre_omega); (focus decreasing_trivial_pre_omega); (focus (first | decide | exact Nat.le_refl _)))
  | ((with_reducible apply EM.Bt.topL); (focus decreasing_trivial_pre_omega); (focus assumption); (focus (first | decide | exact Nat.le_refl _)))
  | ((with_reducible apply EM.Bt.botL); (focus decreasing_trivial_pre_omega); (focus assumption); (focus (first | decide | exact Nat.le_refl _)))
  | ((with_reducible apply EM.Bt.divM); (focus decreasing_trivial_pre_omega); (focus assumption); (focus (first | decide | exact Nat.le_refl _)))
  | ((with_reducible apply EM.Bt.negM); (focus decreasing_trivial_pre_omega); (focus (first | decide | exact Nat.le_refl _))))
local macro_rules | `(tactic| array_get_dec) => `(tactic| first
  | with_reducible assumption
  | ((with_reducible refine EM.gEq ?_); exact rfl)
  | ((with_reducible refine EM.gTru ?_); exact rfl)
  | ((with_reducible refine EM.gRef ?_); first | exact Or.inl ⟨_, rfl⟩ | exact Or.inr ⟨_, rfl⟩)
  | ((with_reducible apply EM.At.get); sizeOf_list_dec)
  | ((with_reducible apply EM.At.sqL); sizeOf_list_dec)
  | ((with_reducible apply EM.At.sqT); sizeOf_list_dec)
  | ((with_reducible apply EM.RatP.getK); (focus sizeOf_list_dec); (focus (exact rfl)))
  | (with_reducible exact EM.Num.int _)
  | ((with_reducible apply EM.NumP.getK); (focus sizeOf_list_dec); (focus (exact rfl)))
  | ((with_reducible apply EM.At.ext); (focus (with_reducible assumption)); (focus sizeOf_list_dec))
  | ((with_reducible apply EM.RatP.ext); (focus (with_reducible assumption)); (focus sizeOf_list_dec))
  | ((with_reducible apply EM.NumP.ext); (focus (with_reducible assumption)); (focus sizeOf_list_dec))
  | with_reducible exact Tx.cl_Ratio (by assumption)
  | with_reducible exact Tx.cl_Reading (by assumption)
  | with_reducible exact Tx.cl_Duel (by assumption)
  | with_reducible exact Tx.na_Ratio_top (by assumption)
  | with_reducible exact Tx.na_Ratio_bottom (by assumption)
  | with_reducible exact Tx.na_Reading_own_edges (by assumption)
  | with_reducible exact Tx.na_Duel_weights (by assumption)
  | with_reducible exact Tx.na_Duel_level (by assumption)
  | ((with_reducible refine EM.gAt ?_); sizeOf_list_dec)
  | ((with_reducible refine EM.gRat ?_); sizeOf_list_dec)
  | ((with_reducible refine EM.gNum ?_); sizeOf_list_dec)
  | ((with_reducible apply EM.TwoP.mk); (focus (with_reducible assumption)); (focus sizeOf_list_dec); (focus (first | with_reducible assumption | (apply EM.n_low; assumption))); (focus sizeOf_list_dec); (focus decreasing_trivial_pre_omega); (focus decreasing_trivial_pre_omega); (focus decreasing_trivial_pre_omega); (focus decreasing_trivial_pre_omega))
  | (with_reducible exact EM.Ext.refl)
  | ((with_reducible apply EM.Ext.back); (focus (with_reducible assumption)); (focus sizeOf_list_dec))
  | ((with_reducible apply EM.Bs.mono); (focus (with_reducible assumption)); omega)
  | ((with_reducible refine EM.gN ?_); first | decide | omega | exact Nat.le_of_ble_eq_true rfl | (simp only [List.length_cons, List.length_nil, List.length_append]; omega))
  | ((with_reducible refine EM.gM ?_); first | decide | omega | exact Nat.le_of_ble_eq_true rfl)
  | ((with_reducible refine EM.gI ?_); first | decide | omega)
  | ((with_reducible refine EM.gJ ?_); first | decide | omega)
  | ((with_reducible refine EM.gE ?_); first | decide | omega)
  | ((with_reducible refine EM.gB ?_); decreasing_trivial_pre_omega)
  | ((with_reducible apply EM.wideM); (focus decreasing_trivial_pre_omega); (focus decreasing_trivial_pre_omega); (focus decide)))
local macro_rules | `(tactic| infer_instance) => `(tactic| first
  | with_reducible assumption
  | exact DpAll.nil
  | (apply DpAll.cons; (focus infer_instance); (focus infer_instance))
  | with_reducible exact Dp.int _
  | exact Dp.int _
  | with_reducible exact Dp.str _
  | exact Dp.bl _
  | exact Dp.non
  | ((with_reducible apply EM.dp_lst); (focus array_get_dec); (focus infer_instance))
  | ((with_reducible apply EM.dp_tup); (focus array_get_dec); (focus infer_instance))
  | exact EM.dp_ints _)
local macro_rules | `(tactic| nofun) => `(tactic| first
  | with_reducible assumption
  | exact EM.FeL.nil
  | exact EM.FdL.nil
  | (apply EM.FeL.cons; (focus nofun); (focus nofun))
  | (apply EM.FdL.cons; (focus nofun); (focus nofun))
  | exact EM.Fe.int _
  | exact EM.Fe.bool _
  | exact EM.Fe.non
  | exact EM.Fe.str (EM.okS_of _)
  | (apply EM.Fe.str; apply EM.Fd.ok; (focus nofun))
  | (apply EM.Fe.list; (focus nofun))
  | (apply EM.Fe.tup; (focus nofun))
  | (apply EM.Fd.int; (focus decreasing_trivial_pre_omega))
  | exact EM.Fd.bool _
  | exact EM.Fd.non
  | (refine EM.Fd.bool _)
  | (apply EM.Fd.list; (focus nofun))
  | (apply EM.Fd.tup; (focus nofun)))
local macro_rules | `(tactic| array_mem_dec) => `(tactic| ((with_reducible refine EM.pr ?_); first
  | (with_reducible refine L2.iteT ?_)
  | (with_reducible refine L2.iteF ?_)
  | (with_reducible refine EM.ifNotT ?_)
  | (with_reducible refine EM.ifNotF ?_)
  | ((fail_if_success (with_reducible refine EM.gIf ?_)); first
  | array_get_dec
  | (refine EM.mk_low (by with_reducible assumption) (by with_reducible assumption) ?_ ?_; (focus array_get_dec))
  | (apply EM.isNum_sw; (focus sizeOf_list_dec))
  | (apply EM.of_sw; (focus (with_reducible assumption)); (focus sizeOf_list_dec))
  | (apply EM.neg_bs; (focus (with_reducible assumption)); (focus sizeOf_list_dec); (focus array_get_dec); (focus array_get_dec))
  | (apply EM.relw_bs; (focus (with_reducible assumption)); (focus sizeOf_list_dec); (focus sizeOf_list_dec); (focus array_get_dec); (focus decreasing_trivial_pre_omega); (focus decreasing_trivial_pre_omega); (focus decreasing_trivial_pre_omega); (focus decreasing_trivial_pre_omega))
  | ((apply EM.DnS.bs); (focus (with_reducible assumption)); (focus (intro _ z; cases z; done)))
  | ((apply EM.seqL); (focus sizeOf_list_dec))
  | ((apply EM.seqT); (focus sizeOf_list_dec))
  | ((apply EM.lenL); (focus sizeOf_list_dec))
  | ((apply EM.lenT); (focus sizeOf_list_dec))
  | ((apply EM.isSeqL); (focus sizeOf_list_dec); (focus sizeOf_list_dec))
  | ((apply EM.isSeqT); (focus sizeOf_list_dec); (focus sizeOf_list_dec))
  | ((apply EM.tupL); (focus sizeOf_list_dec))
  | ((apply EM.fld_bs); (focus sizeOf_list_dec); (focus (first | exact Tx.cl_Reading (by assumption) | exact Tx.cl_Duel (by assumption))); (focus (first | exact Tx.na_Reading_own_edges (by assumption) | exact Tx.na_Duel_weights (by assumption) | exact Tx.na_Duel_level (by assumption))); (focus (exact rfl)))
  | ((apply EM.seqS); (focus sizeOf_list_dec))
  | ((apply EM.enS); (focus sizeOf_list_dec))
  | ((apply EM.lenS); (focus sizeOf_list_dec))
  | ((apply EM.isSeqS); (focus sizeOf_list_dec); (focus sizeOf_list_dec))
  | ((apply EM.lstS); (focus sizeOf_list_dec))
  | ((apply EM.sumS); (focus sizeOf_list_dec))
  | ((apply EM.tupSL); (focus sizeOf_list_dec))
  | ((apply EM.tupST); (focus sizeOf_list_dec))
  | ((apply str_bs); (focus sizeOf_list_dec); (focus decreasing_trivial_pre_omega); (focus decreasing_trivial_pre_omega))
  | (apply intB)
  | ((apply EM.zpL); (focus sizeOf_list_dec); (focus sizeOf_list_dec))
  | (with_reducible apply EM.EqS.mk')
  | (with_reducible apply EM.NeS.mk')
  | ((apply EM.repr_fr); (focus infer_instance); (focus (with_reducible assumption)); (focus decide))
  | ((apply textF_bs); (focus (with_reducible assumption)); (focus decreasing_trivial_pre_omega); (focus decreasing_trivial_pre_omega))
  | ((with_reducible refine EM.New.bs (by with_reducible assumption) ?_ ?_); (focus (intro _ z; cases z; done)))
  | ((with_reducible refine EM.gMu ?_); (with_reducible apply EM.mu_bs); (focus (with_reducible assumption)); (focus sizeOf_list_dec); (focus (apply EM.nel2; (focus (with_reducible assumption)); (focus (with_reducible assumption)))); intro _ _ _)
  | intro _
  | (apply And.intro; (focus array_get_dec))
  | apply Exists.intro
  | (refine EM.draw_bs (by with_reducible assumption) ?_ ?_ ?_ ?_; (focus array_get_dec); (focus array_get_dec); (focus (first | decide | omega)))
  | (apply EM.pick_int; (focus (with_reducible assumption)); (focus array_get_dec); (focus sizeOf_list_dec); (focus ((repeat' (first | exact EM.AllI.nil | apply EM.AllI.cons)); done)); (focus (exact Nat.le_of_ble_eq_true rfl)); (focus (exact Nat.le_of_ble_eq_true rfl)))
  | (apply EM.pick_bs; (focus (with_reducible assumption)); (focus array_get_dec); (focus sizeOf_list_dec); (focus (exact Nat.le_of_ble_eq_true rfl)); (focus (exact Nat.le_of_ble_eq_true rfl)))
  | ((apply EM.repr_sw); (focus infer_instance); (focus nofun); (focus decide))
  | ((apply EM.eqd_same); (focus infer_instance); (focus infer_instance); (focus nofun); (focus decide))
  | ((apply EM.ned_same); (focus infer_instance); (focus infer_instance); (focus nofun); (focus decide))
  | ((apply EM.eqd_sw); (focus infer_instance); (focus infer_instance); (focus nofun); (focus nofun); (focus decide))
  | ((apply EM.ned_sw); (focus infer_instance); (focus infer_instance); (focus nofun); (focus nofun); (focus decide))
  | (refine EM.cut_bs (by with_reducible assumption) ?_ ?_ ?_; (focus array_get_dec); (focus array_get_dec)))))
section
variable {P : Program} {w : World} {K : PySem.W.Frag} {mg : Str → Option Value} {base : Heap}
theorem ok_law (T : Tx K mg) (TB : ∀ p ∈ cs K, LamX.TabB base mg p.1 p.2) : FnG P w K mg base (L2.CX P w) 17 (He.ga K "law") (spLaw K) := by
  obtain ⟨fd, F⟩ := T.d_law
  refine EM.fngC F sc_law (fun _ _ _ _ _ _ us hl => match us, hl with | [_], _ => rfl) (fun vs H Q E h => ?_) (fun A outer s H vs Q E hr hG h => ?_)
  · obtain ⟨a, ns, rfl, _⟩ := h
    rfl
  · obtain ⟨a, ns, rfl, hS, hl, ht, k⟩ := h
    have hu70 : (A.deeper (envOfC "law" (defScope s_law) s.heap.objs.size (He.ga K "law") (codeV K (He.ga K "law")))).units + 70 < cLine := by have := hr.un; omega
    have tb0 : LamX.Tabs (tabs K) H := by
      intro q hq
      rw [List.mem_singleton.mp hq]
      exact LamX.TabS.nil (ht _ (.head _))
    refine ⟨_, (PSs.nox (pss_cons (ps_set (i := 1) sc_law.nd rfl (Or.inl rfl) (EM.pe_cR ((ok_Lpen T).sw) (hr.mono (by decide)) T.k__law_pen T.g__law_pen passL (pa_cons (pv 0) pa_nil)))
 (pss_cons (EM.forN (ps_for PassesOwn.never rfl (pi_range1 (by rfl) T.f_range (pa_cons pe_int pa_nil)).mc (pg_name (i := 2) sc_law.nd rfl (Or.inl rfl))
  (pss_cons (ps_asg (EM.pe_tupN (pa_cons (EM.pe_cR ((ok_Lpick T).sw) (hr.mono (by decide)) T.k__law_pick T.g__law_pick passL (pa_cons (pv 1) (pa_cons (EM.pe_lstN (pa_cons pe_int (pa_cons pe_int (pa_cons pe_int (pa_cons pe_int (pa_cons pe_int pa_nil)))))) pa_nil))) (pa_cons (EM.pe_cR ((ok_Lpick T).sw) (hr.mono (by decide)) T.k__law_pick T.g__law_pick passL (pa_cons (pv 1) (pa_cons (EM.pe_lstN (pa_cons pe_int (pa_cons pe_int (pa_cons pe_int (pa_cons pe_int (pa_cons pe_int pa_nil)))))) pa_nil))) pa_nil))) (pg_tup (by rfl) (pgs_cons (pg_name (i := 3) sc_law.nd rfl (Or.inl rfl)) (pgs_cons (pg_name (i := 4) sc_law.nd rfl (Or.inr rfl)) pgs_nil))))
 (pss_cons (ps_par (by rfl) sc_law.nd (i := 5) (j := 6) rfl rfl (by decide) rfl rfl (pa_cons (EM.pe_cR ((ok_Lweights T).sw) (hr.mono (by decide)) T.k__law_weights T.g__law_weights passL (pa_cons (pv 1) (pa_cons (pv 3) pa_nil))) (pa_cons (EM.pe_cR ((ok_Ltops T).sw) (hr.mono (by decide)) T.k__law_tops T.g__law_tops passL (pa_cons (pv 1) (pa_cons (pv 3) pa_nil))) pa_nil)) (by rfl))
 (pss_cons (ps_set (i := 7) sc_law.nd rfl (Or.inl rfl) (EM.pe_cR ((ok_Lpick T).sw) (hr.mono (by decide)) T.k__law_pick T.g__law_pick passL (pa_cons (pv 1) (pa_cons (EM.pe_lstN (pa_cons pe_int (pa_cons pe_int (pa_cons pe_int (pa_cons (pe_un un_neg pe_int) (pa_cons (pe_op op_sub (EM.pe_cR ((ok_Ldraw T).sw) (hr.mono (by decide)) T.k__law_draw T.g__law_draw passL (pa_cons (pv 1) (pa_cons pe_int pa_nil))) pe_int) (pa_cons (pe_op (EM.op_powV 10 20 100000000000000000000 ⟨by decide, by decide, by decide⟩ (by decide +kernel)) pe_int pe_int) pa_nil))))))) pa_nil))))
 (pss_cons (ps_set (i := 8) sc_law.nd rfl (Or.inl rfl) (ClX.pe_cmeth (pe_glob (v := .ref (He.ga K "Reading")) (by rfl) T.g_Reading rfl) T.cr_Reading T.cm_Reading_of (ok_Reading_of T).sw (hr.mono (by decide)) passL (pa_cons (EM.lcN (pe_lc (own := [("_law_top", 9)]) (g := gName 9) (te := mcE (tCR (Sw (spMkN K)) E0 (tCons (tVar 9) (tCons (tVar 4) tNil)))) rfl sc_law.nd (EM.pi_seqN (pv 6)).mc (blkOk_by (N := ["_law_script", "_law_pen_here", "_law_turn", "_law_many", "_law_bottom", "_law_row", "_law_tops_here", "_law_off", "_law_read", "_law_top", "_law_held", "_law_step", "_law_times", "_law_more", "_law_at"]) (sc := defScope s_law) (by decide +kernel)) (fun _ _ _ _ _ => (pg_name (i := 9) sc_law.nd rfl (Or.inl rfl))) (fun _ _ _ _ _ => pts_nil) (fun _ _ _ _ _ => (PE.mc (pe_mkN_ T (hr.mono (by decide)) (pa_cons (pv 9) (pa_cons (pv 4) pa_nil))))))) pa_nil)))
 (pss_cons (ps_set (i := 10) sc_law.nd rfl (Or.inl rfl) (pe_mkD1 T (hr.mono (by decide)) passL (pa_cons (pv 5) pa_nil)))
 (pss_cons (ps_if (PW.pt (pw_or (pt_not (pt_val (EM.pe_cG ((ok_Ltold_right T).sw) (hr.mono (by decide)) hG T.k__law_told_right T.g__law_told_right passL (pa_cons (pv 5) (pa_cons (pv 6) (pa_cons (pv 4) (pa_cons (pv 8) (pa_cons (pv 7) pa_nil)))))))) (pw_or1 (pt_not (pt_val (EM.pe_cG ((ok_Lheld_right T).sw) (hr.mono (by decide)) hG T.k__law_held_right T.g__law_held_right passL (pa_cons (pv 10) (pa_cons (pv 5) (pa_cons (pv 6) (pa_cons (pv 4) (pa_cons (pv 8) pa_nil)))))))))))
  (pss_one (ps_ret pe_bl)) pss_nil)
 (pss_cons (ps_set (i := 11) sc_law.nd rfl (Or.inr rfl) (pe_op op_sub (EM.pe_cR ((ok_Ldraw T).sw) (hr.mono (by decide)) T.k__law_draw T.g__law_draw passL (pa_cons (pv 1) (pa_cons pe_int pa_nil))) pe_int))
 (pss_cons (ps_aug (i := 8) sc_law.nd rfl (Or.inl rfl) (pe_mkN_ T (hr.mono (by decide)) (pa_cons (pv 11) (pa_cons (pv 4) pa_nil))) (EM.pip_of (iop_addM T (hr.mono (by decide)))))
 (pss_cons (EM.setLcN (ps_setLc (i := 6) (own := [("_law_top", 9)]) (g := gName 9) rfl sc_law.nd rfl rfl (sw_true rfl rfl rfl (by decide +kernel)) (EM.pi_seqN (pv 6)).mc (blkOk_by (N := ["_law_script", "_law_pen_here", "_law_turn", "_law_many", "_law_bottom", "_law_row", "_law_tops_here", "_law_off", "_law_read", "_law_top", "_law_held", "_law_step", "_law_times", "_law_more", "_law_at"]) (sc := defScope s_law) (by decide +kernel)) (fun _ _ _ _ _ => (pg_name (i := 9) sc_law.nd rfl (Or.inl rfl))) (fun _ _ _ _ _ => pts_nil) (fun _ _ _ _ _ => (PE.mc (pe_op op_add (pv 9) (pv 11))))))
 (pss_cons (ps_if (PW.pt (pw_or (pt_not (pt_val (EM.pe_cG ((ok_Ltold_right T).sw) (hr.mono (by decide)) hG T.k__law_told_right T.g__law_told_right passL (pa_cons (pv 5) (pa_cons (pv 6) (pa_cons (pv 4) (pa_cons (pv 8) (pa_cons (pv 7) pa_nil)))))))) (pw_or1 (pt_not (pt_val (EM.pe_cG ((ok_Lheld_right T).sw) (hr.mono (by decide)) hG T.k__law_held_right T.g__law_held_right passL (pa_cons (pv 10) (pa_cons (pv 5) (pa_cons (pv 6) (pa_cons (pv 4) (pa_cons (pv 8) pa_nil)))))))))))
  (pss_one (ps_ret pe_bl)) pss_nil)
 (pss_cons (ps_set (i := 12) sc_law.nd rfl (Or.inr rfl) (pe_op op_add pe_int (EM.pe_cR ((ok_Ldraw T).sw) (hr.mono (by decide)) T.k__law_draw T.g__law_draw passL (pa_cons (pv 1) (pa_cons pe_int pa_nil)))))
 (pss_cons (ps_aug (i := 8) sc_law.nd rfl (Or.inl rfl) (pv 12) (EM.pip_of (iop_mulM T (hr.mono (by decide)))))
 (pss_cons (EM.setLcN (ps_setLc (i := 6) (own := [("_law_top", 9)]) (g := gName 9) rfl sc_law.nd rfl rfl (sw_true rfl rfl rfl (by decide +kernel)) (EM.pi_seqN (pv 6)).mc (blkOk_by (N := ["_law_script", "_law_pen_here", "_law_turn", "_law_many", "_law_bottom", "_law_row", "_law_tops_here", "_law_off", "_law_read", "_law_top", "_law_held", "_law_step", "_law_times", "_law_more", "_law_at"]) (sc := defScope s_law) (by decide +kernel)) (fun _ _ _ _ _ => (pg_name (i := 9) sc_law.nd rfl (Or.inl rfl))) (fun _ _ _ _ _ => pts_nil) (fun _ _ _ _ _ => (PE.mc (pe_op op_mulW (pv 9) (pv 12))))))
 (pss_cons (ps_if (pt_not (pt_val (EM.pe_cG ((ok_Lheld_right T).sw) (hr.mono (by decide)) hG T.k__law_held_right T.g__law_held_right passL (pa_cons (pv 10) (pa_cons (pv 5) (pa_cons (pv 6) (pa_cons (pv 4) (pa_cons (pv 8) pa_nil))))))))
  (pss_one (ps_ret pe_bl)) pss_nil)
 (pss_cons (ps_set (i := 13) sc_law.nd rfl (Or.inl rfl) (pe_op op_add pe_int (EM.pe_cR ((ok_Ldraw T).sw) (hr.mono (by decide)) T.k__law_draw T.g__law_draw passL (pa_cons (pv 1) (pa_cons pe_int pa_nil)))))
 (pss_cons (ps_asg (pe_mkN_ T (hr.mono (by decide)) (pa_cons (pe_op op_add (pe_ix ix_list (pv 6) (pe_un un_neg pe_int) (fun _ _ => rfl)) (pv 13)) (pa_cons (pv 4) pa_nil))) (pg_sub (pv 8) (pe_op op_sub (pv 3) pe_int) (set_M T (hr.mono (by decide)))))
 (pss_cons (ps_set (i := 6) sc_law.nd rfl (Or.inl rfl) (pe_op EM.op_catN (pe_slice EM.sl_listN (pv 6) po_none (po_some (pe_un un_neg pe_int))) (EM.pe_lstN (pa_cons (pe_op op_add (pe_ix ix_list (pv 6) (pe_un un_neg pe_int) (fun _ _ => rfl)) (pv 13)) pa_nil))))
 (pss_cons (ps_if (pt_not (pt_val (EM.pe_cG ((ok_Ltold_right T).sw) (hr.mono (by decide)) hG T.k__law_told_right T.g__law_told_right passL (pa_cons (pv 5) (pa_cons (pv 6) (pa_cons (pv 4) (pa_cons (pv 8) (pa_cons (pe_op op_sub pe_int (pv 7)) pa_nil))))))))
  (pss_one (ps_ret pe_bl)) pss_nil)
 (pss_cons (ps_if (pt_not (pt_val (EM.pe_cG ((ok_Lheld_right T).sw) (hr.mono (by decide)) hG T.k__law_held_right T.g__law_held_right passL (pa_cons (pv 10) (pa_cons (pv 5) (pa_cons (pv 6) (pa_cons (pv 4) (pa_cons (pv 8) pa_nil))))))))
  (pss_one (ps_ret pe_bl)) pss_nil)
 (pss_one (ps_if (pt_not (pt_val (EM.pe_cG ((ok_Lrefused_right T TB).sw) (hr.mono (by decide)) hG T.k__law_refused_right T.g__law_refused_right passL (pa_cons (pe_mkD T (hr.mono (by decide)) passL (pa_cons (pv 5) (pa_cons (pe_op op_sub (EM.pe_cR ((ok_Ldraw T).sw) (hr.mono (by decide)) T.k__law_draw T.g__law_draw passL (pa_cons (pv 1) (pa_cons pe_int pa_nil))) pe_int) pa_nil))) (pa_cons (pv 6) (pa_cons (pv 4) pa_nil))))))
  (pss_one (ps_ret pe_bl)) pss_nil)))))))))))))))))))))))
 (pss_cons (EM.setLcN (ps_setLc (i := 5) (own := [("_law_at", 14)]) (g := gName 14) rfl sc_law.nd rfl rfl (sw_true rfl rfl rfl (by decide +kernel)) (pi_range1 (by rfl) T.f_range (pa_cons pe_int pa_nil)).mc (blkOk_by (N := ["_law_script", "_law_pen_here", "_law_turn", "_law_many", "_law_bottom", "_law_row", "_law_tops_here", "_law_off", "_law_read", "_law_top", "_law_held", "_law_step", "_law_times", "_law_more", "_law_at"]) (sc := defScope s_law) (by decide +kernel)) (fun _ _ _ _ _ => (pg_name (i := 14) sc_law.nd rfl (Or.inl rfl))) (fun _ _ _ _ _ => pts_nil) (fun _ _ _ _ _ => (PE.mc (pe_op op_sub (pe_op op_mod (pe_callTy EM.call_intN (by rfl) T.f_int (by decide +kernel) (pa_cons (pe_op op_mulW (pv 14) (pv 14)) pa_nil)) pe_int) pe_int)))))
 (pss_cons (ps_expr (EM.pe_appN (pv 5) (pe_op op_sub pe_int (pe_callB (EM.call_sumSN rfl) (by rfl) T.f_sum (by decide +kernel) (pa_cons (pv 5) pa_nil)))))
 (pss_cons (EM.setLcN (ps_setLc (i := 6) (own := [("_law_at", 14)]) (g := gName 14) rfl sc_law.nd rfl rfl (sw_true rfl rfl rfl (by decide +kernel)) (pi_range1 (by rfl) T.f_range (pa_cons pe_int pa_nil)).mc (blkOk_by (N := ["_law_script", "_law_pen_here", "_law_turn", "_law_many", "_law_bottom", "_law_row", "_law_tops_here", "_law_off", "_law_read", "_law_top", "_law_held", "_law_step", "_law_times", "_law_more", "_law_at"]) (sc := defScope s_law) (by decide +kernel)) (fun _ _ _ _ _ => (pg_name (i := 14) sc_law.nd rfl (Or.inl rfl))) (fun _ _ _ _ _ => pts_nil) (fun _ _ _ _ _ => (PE.mc (pe_op op_add (pe_op op_mulW pe_int (pv 14)) (pe_op op_mod (pe_callTy EM.call_intN (by rfl) T.f_int (by decide +kernel) (pa_cons (pv 14) pa_nil)) pe_int))))))
 (pss_cons (ps_set (i := 8) sc_law.nd rfl (Or.inl rfl) (ClX.pe_cmeth (pe_glob (v := .ref (He.ga K "Reading")) (by rfl) T.g_Reading rfl) T.cr_Reading T.cm_Reading_of (ok_Reading_of T).sw (hr.mono (by decide)) passL (pa_cons (EM.lcN (pe_lc (own := [("_law_top", 9)]) (g := gName 9) (te := mcE (tCR (Sw (spMkN K)) E0 (tCons (tVar 9) (tCons (tC (.int 7)) tNil)))) rfl sc_law.nd (EM.pi_seqN (pv 6)).mc (blkOk_by (N := ["_law_script", "_law_pen_here", "_law_turn", "_law_many", "_law_bottom", "_law_row", "_law_tops_here", "_law_off", "_law_read", "_law_top", "_law_held", "_law_step", "_law_times", "_law_more", "_law_at"]) (sc := defScope s_law) (by decide +kernel)) (fun _ _ _ _ _ => (pg_name (i := 9) sc_law.nd rfl (Or.inl rfl))) (fun _ _ _ _ _ => pts_nil) (fun _ _ _ _ _ => (PE.mc (pe_mkN_ T (hr.mono (by decide)) (pa_cons (pv 9) (pa_cons pe_int pa_nil))))))) pa_nil)))
 (pss_one (ps_ret (EM.pe_cG ((ok_Ltold_right T).sw) (hr.mono (by decide)) hG T.k__law_told_right T.g__law_told_right passL (pa_cons (pv 5) (pa_cons (pv 6) (pa_cons pe_int (pa_cons (pv 8) (pa_cons (pe_op op_sub (EM.pe_cR ((ok_Ldraw T).sw) (hr.mono (by decide)) T.k__law_draw T.g__law_draw passL (pa_cons (pv 1) (pa_cons pe_int pa_nil))) pe_int) pa_nil))))))))))))))), ?_⟩
    refine ⟨_, rfl, ⟨⟨a, ns, rfl, hS, hl, fun p l H1 s1 np P1 => ?_⟩⟩⟩
    have B0 : Bs (tabs K) p l 0 H1 := ⟨P1, tb0.ext s1⟩
    repeat' array_mem_dec
    refine FoS.it walk_range (fun i σ H2 => Hold (∃ v2 v3 v4 v5 v6 v7 v8 v9 v10 v11 v12 v13 v14 : Option V, σ = [some (.ref a), some (.ref p), v2, v3, v4, v5, v6, v7, v8, v9, v10, v11, v12, v13, v14] ∧ Bs (tabs K) p l (200 * i) H2)) ⟨⟨_, _, _, _, _, _, _, _, _, _, _, _, _, rfl, B0⟩⟩ (fun _ _ _ _ _ => trivial) ?_ ?_
    · rintro i y σ H2 H3 hi ⟨⟨v2, v3, v4, v5, v6, v7, v8, v9, v10, v11, v12, v13, v14, rfl, B2⟩⟩ ⟨rfl, rfl⟩
      have i5 : i < 5 := hi
      repeat' array_mem_dec
      --L1
      rename_i qa Ha xa Ba aa na mi Hb hm xb Bb qb Hc xc Bc ac nc di Hd hd xd Bd qe He xe Be ae ne
      obtain ⟨m, rfl, okm, m24⟩ : ∃ m : Nat, mi = m ∧ okLen m ∧ m ≤ 24 := by
        simp only [List.mem_cons, List.not_mem_nil, or_false] at hm
        rcases hm with rfl | rfl | rfl | rfl | rfl
        · exact ⟨4, rfl, ⟨by decide, by decide, by decide⟩, by decide⟩
        · exact ⟨4, rfl, ⟨by decide, by decide, by decide⟩, by decide⟩
        · exact ⟨6, rfl, ⟨by decide, by decide, by decide⟩, by decide⟩
        · exact ⟨8, rfl, ⟨by decide, by decide, by decide⟩, by decide⟩
        · exact ⟨24, rfl, ⟨by decide, by decide, by decide⟩, by decide⟩
      obtain ⟨D, rfl, d0, d1⟩ : ∃ D : Nat, di = D ∧ 0 < D ∧ D ≤ 97 := by
        simp only [List.mem_cons, List.not_mem_nil, or_false] at hd
        rcases hd with rfl | rfl | rfl | rfl | rfl
        · exact ⟨1, rfl, by decide, by decide⟩
        · exact ⟨2, rfl, by decide, by decide⟩
        · exact ⟨3, rfl, by decide, by decide⟩
        · exact ⟨10, rfl, by decide, by decide⟩
        · exact ⟨97, rfl, by decide, by decide⟩
      obtain ⟨m2, m4, _⟩ := id okm
      clear hm hd xa aa na xb xc ac nc xd xe ae ne B2 Ba Bb Bc Bd B0 P1 s1 np hS
      repeat' array_mem_dec
      refine ⟨⟨tabs K, p, l, _, m, rfl, okm, m24, Be, by omega, fun R ws H4 gw hlw hw x4 B4 aR => ?_⟩⟩
      clear Be
      repeat' array_mem_dec
      refine ⟨⟨tabs K, p, l, _, m, rfl, m24, B4, by omega, fun S ts H5 hlt hrt hbt x5 B5 aS => ?_⟩⟩
      clear B4
      have aR5 := aR.ext x5
      clear aR x5 x4
      repeat' array_mem_dec
      --L2
      rename_i dd Hf dd0 dd1 xf Bf qg Hg xg Bg ag ng off Hh ho xh Bh J wk
      have hoff : off.natAbs ≤ 100000000000000000000 := by
        simp only [List.mem_cons, List.not_mem_nil, or_false] at ho
        rcases ho with rfl | rfl | rfl | rfl | rfl | rfl <;> omega
      have x5h := xf.trans (xg.trans xh)
      have aRh := aR5.ext x5h
      have aSh := aS.ext x5h
      have Bh' : Bs (tabs K) p l (200 * i + 180) Hh := Bh.mono (by omega)
      clear ho xf Bf xg Bg ag ng xh Bh aR5 aS B5 x5h dd0 dd1
      have hlwt : ws.length = ts.length := by omega
      have h128 : ws.length ≤ 128 := by omega
      have okt : okLen ts.length := by rw [hlt]; exact okm
      have hbM : ∀ t ∈ ts, t.natAbs ≤ M0 := fun t ht => by
        have := hbt t ht
        show t.natAbs ≤ 100000000000000000000000000000000
        omega
      --L3
      refine LcS.lc 0 wk Bh' (fun j y H' => Hold (∃ e a, (ts.map (lowF D))[j]? = some e ∧ y = .ref a ∧ RatP K p H' a e.1 e.2)) (by rw [List.length_map]; omega) (fun H' x => aSh.eq x) ?_ ?_ (fun j y Ha Hb ⟨⟨e, a, e1, e2, e3⟩⟩ x => ⟨⟨e, a, e1, e2, e3.ext x⟩⟩) (fun j y D xs ys Ha Hb ⟨⟨e, a, e1, e2, e3⟩⟩ m g => ⟨⟨e, a, e1, e2, m.rat e3 g⟩⟩)
      · rintro j y K2 K3 hk y2 C2 ⟨rfl, hv⟩
        rw [List.getElem?_map] at hv
        obtain ⟨t, et, rfl⟩ := Option.map_eq_some_iff.mp hv
        repeat' array_mem_dec
        refine mkF_bs C2 d0 d1 fun a9 H9 x9 B9 r9 => ?_
        exact ⟨x9, B9.mono (by omega), ⟨⟨lowF D t, a9, by rw [List.getElem?_map, et]; rfl, rfl, r9⟩⟩⟩
      rintro DL yL HL hDL hylL hfL xL BL0 aL
      have rats : RatsP K p HL yL (ts.map (lowF D)) := ⟨by rw [hylL, List.length_map, List.length_map], fun j x t e1 e2 => by
        obtain ⟨⟨e, a, e3, e4, nv⟩⟩ := hfL j x e1
        rw [e2] at e3
        cases e3
        exact ⟨a, e4, nv⟩⟩
      have BL : Bs (tabs K) p l (200 * i + 180) HL := BL0.mono (by omega)
      clear BL0 hfL
      have aRL := aRh.ext xL
      have aSL := aSh.ext xL
      clear aRh aSh xL Bh'
      repeat' array_mem_dec
      refine ofR_row BL aL rats hrt hbM okt d0 d1 fun r rq H8 x8 B8 rd8 f8 => ?_
      have aR8 := aRL.ext x8
      have aS8 := aSL.ext x8
      clear aRL aSL BL aL rats x8 f8
      repeat' array_mem_dec
      refine mkD1_good B8 (.inl aR8) gw fun d H9 x9 B9 dp9 f9 => ?_
      have tp9 : TurnP K p H9 R S r rq d D ws ts ts := ⟨aR8.ext x9, aS8.ext x9, rd8.ext x9, dp9⟩
      clear aR8 aS8 rd8 dp9 f9 B8 x9
      repeat' array_mem_dec
      try dsimp only [List.set_cons_zero, List.set_cons_succ]
      --L4
      refine ⟨⟨tabs K, p, l, R, S, r, rq, _, D, ws, ts, off, rfl, B9, tp9.aR, tp9.aS, tp9.rd, gw, hlwt, hw, hbM, d0, d1, hoff, fun H10 x10 B10 => ?_⟩⟩
      have tp10 := tp9.ext x10
      clear tp9 B9 x10
      repeat' array_mem_dec
      try dsimp only [List.set_cons_zero, List.set_cons_succ]
      refine ⟨⟨tabs K, p, l, d, R, S, r, rq, _, D, ws, ts, rfl, B10, tp10.dp, tp10.aR, tp10.aS, tp10.rd, hlwt, h128, hw, hbM, d0, d1, fun H11 x11 B11 => ?_⟩⟩
      have tp11 := tp10.ext x11
      clear tp10 B10 x11
      repeat' array_mem_dec
      try dsimp only [List.set_cons_zero, List.set_cons_succ]
      --L5
      rename_i sd Hs ds0 ds1 xs Bs_
      refine mkF_bs Bs_ d0 d1 fun a12 H12 x12 B12 ra12 => ?_
      have tp12 := tp11.ext (xs.trans x12)
      have lo12 := (lowF_dv (D := D) (t := sd - 100) d0 (Nat.le_refl _)).low
      have bt12 := low_bt (x := sd - 100) d0 d1 (Nat.lt_of_le_of_lt (show (sd - 100).natAbs ≤ 1000 by omega) (Nat.lt_of_lt_of_le (by decide) (Nat.pow_le_pow_right (show 0 < 2 by decide) (show 10 ≤ 200 by decide))))
      clear tp11 Bs_ B11 xs x12
      repeat' array_mem_dec
      try dsimp only [List.set_cons_zero, List.set_cons_succ]
      --L6
      refine ⟨⟨tabs K, p, l, r, rq, _, ts.map (lowF D), _, _, _, rfl, B12, tp12.rd, row_ok (a := 7) (b := 110) d0 (by omega) M0_lt (by decide) hbM hrt, by rw [List.length_map]; exact okt, ra12.num lo12, bt12.1.mono (by decide), bt12.2.mono (by decide), fun rq2 H13 X13 B13 rd13 => ?_⟩⟩
      rw [row_add d0] at rd13
      have tp13 := tp12.xr X13 rd13
      have aS13 := tp13.aS
      clear tp12 X13 rd13 B12 ra12 lo12 bt12
      repeat' array_mem_dec
      try dsimp only [List.set_cons_zero, List.set_cons_succ]
      --L7
      rename_i J14 wk14
      refine LcS.lc 0 wk14 B13 (fun j y _ => Hold (∃ t, ts[j]? = some t ∧ y = .int (t + (sd - 100)))) (by rw [List.length_map]; omega) (fun H' x => (aS13).eq x) ?_ ?_
      · rintro j y K2 K3 hk y2 C2 ⟨rfl, hv⟩
        rw [List.getElem?_map] at hv
        obtain ⟨t, et, rfl⟩ := Option.map_eq_some_iff.mp hv
        repeat' array_mem_dec
        exact ⟨⟨t, et, rfl⟩⟩
      rintro S14 yl14 H14 hD14 hyl14 hf14 x14 C14 aL14
      have eL14 : yl14 = (ts.map fun t => t + (sd - 100)).map V.int := ints_at (by rw [hyl14, List.length_map, List.length_map]) fun j y e => by
        obtain ⟨⟨t, e1, e2⟩⟩ := hf14 j y e
        exact ⟨_, by rw [List.getElem?_map, e1]; rfl, e2⟩
      subst eL14
      have B14 := C14.mono (m := 200 * i + 185) (by omega)
      --L7a
      have tp14 := (tp13.ext x14).lst aL14
      clear tp13 aS13 B13 x14 C14 hf14 hyl14 hD14 wk14 aL14
      obtain ⟨ts1, ets1⟩ : ∃ ts1, ts1 = ts.map fun t => t + (sd - 100) := ⟨_, rfl⟩
      have hl1 : ws.length = ts1.length := by rw [ets1, List.length_map]; exact hlwt
      have hbt1 : ∀ t ∈ ts1, t.natAbs ≤ 3000000000000000000000000000000 := fun t ht => by
        rw [ets1] at ht
        obtain ⟨t0, h0, rfl⟩ := List.mem_map.mp ht
        have := hbt t0 h0
        omega
      have hbM1 : ∀ t ∈ ts1, t.natAbs ≤ M0 := fun t ht => by
        have := hbt1 t ht
        show t.natAbs ≤ 100000000000000000000000000000000
        omega
      have hrt1 : RiseI ts1 := by rw [ets1]; exact hrt.map fun a b h => by omega
      have okt1 : okLen ts1.length := by rw [← hl1, hlwt]; exact okt
      --L7b
      rw [← ets1] at tp14
      clear ets1
      repeat' array_mem_dec
      try dsimp only [List.set_cons_zero, List.set_cons_succ]
      refine ⟨⟨tabs K, p, l, R, S14, r, rq2, _, D, ws, ts1, off, rfl, B14, tp14.aR, tp14.aS, tp14.rd, gw, hl1, hw, hbM1, d0, d1, hoff, fun H15 x15 B15 => ?_⟩⟩
      have tp15 := tp14.ext x15
      clear tp14 B14 x15
      repeat' array_mem_dec
      try dsimp only [List.set_cons_zero, List.set_cons_succ]
      refine ⟨⟨tabs K, p, l, d, R, S14, r, rq2, _, D, ws, ts1, rfl, B15, tp15.dp, tp15.aR, tp15.aS, tp15.rd, hl1, h128, hw, hbM1, d0, d1, fun H16 x16 B16 => ?_⟩⟩
      have tp16 := tp15.ext x16
      clear tp15 B15 x16
      repeat' array_mem_dec
      try dsimp only [List.set_cons_zero, List.set_cons_succ]
      --L8
      rename_i kd Hk dk0 dk1 xk Bk
      have tpk := tp16.ext xk
      have k1 : 0 < 1 + kd := by omega
      clear tp16 B16 xk
      repeat' array_mem_dec
      try dsimp only [List.set_cons_zero, List.set_cons_succ]
      --L8a
      refine ⟨⟨tabs K, p, l, r, rq2, _, ts1.map (lowF D), _, _, _, rfl, Bk, tpk.rd, row_ok (a := 7) (b := 110) d0 (by omega) M0_lt (by decide) hbM1 hrt1, by rw [List.length_map]; exact okt1, NumP.int _, (Bt.rng32 (by omega) (by omega)).mono (by decide), Bt.lit _ _ (by decide +kernel), k1, fun rq3 H17 X17 B17 rd17 => ?_⟩⟩
      --L8b
      rw [row_mul d0] at rd17
      have tp17 := tpk.xr X17 rd17
      have aS17 := tp17.aS
      clear tpk X17 rd17 Bk
      repeat' array_mem_dec
      try dsimp only [List.set_cons_zero, List.set_cons_succ]
      --L9
      rename_i J18 wk18
      refine LcS.lc 0 wk18 B17 (fun j y _ => Hold (∃ t, ts1[j]? = some t ∧ y = .int (t * (1 + kd)))) (by rw [List.length_map]; omega) (fun H' x => (aS17).eq x) ?_ ?_
      · rintro j y K2 K3 hk y2 C2 ⟨rfl, hv⟩
        rw [List.getElem?_map] at hv
        obtain ⟨t, et, rfl⟩ := Option.map_eq_some_iff.mp hv
        have bt_ : Bt 1000 t := Nat.lt_of_le_of_lt (hbM1 t (List.mem_of_getElem? et)) (Nat.lt_of_lt_of_le M0_lt (Nat.pow_le_pow_right (by decide) (by decide)))
        have bk_ : Bt 1000 (1 + kd) := (Bt.rng32 (by omega) (by omega)).mono (by decide)
        repeat' array_mem_dec
        exact ⟨⟨t, et, rfl⟩⟩
      rintro S18 yl18 H18 hD18 hyl18 hf18 x18 C18 aL18
      have eL18 : yl18 = (ts1.map fun t => t * (1 + kd)).map V.int := ints_at (by rw [hyl18, List.length_map, List.length_map]) fun j y e => by
        obtain ⟨⟨t, e1, e2⟩⟩ := hf18 j y e
        exact ⟨_, by rw [List.getElem?_map, e1]; rfl, e2⟩
      subst eL18
      have B18 := C18.mono (m := 200 * i + 188) (by omega)
      --L9a
      have tp18 := (tp17.ext x18).lst aL18
      clear tp17 aS17 B17 x18 C18 hf18 hyl18 hD18 wk18 aL18
      obtain ⟨ts2, ets2⟩ : ∃ ts2, ts2 = ts1.map fun t => t * (1 + kd) := ⟨_, rfl⟩
      have hl2 : ws.length = ts2.length := by rw [ets2, List.length_map]; exact hl1
      have hbt2 : ∀ t ∈ ts2, t.natAbs ≤ 15000000000000000000000000000000 := fun t ht => by
        rw [ets2] at ht
        obtain ⟨t0, h0, rfl⟩ := List.mem_map.mp ht
        have h1 := hbt1 t0 h0
        have h2 : (t0 * (1 + kd)).natAbs ≤ 3000000000000000000000000000000 * 5 := by
          rw [Int.natAbs_mul]
          exact Nat.mul_le_mul h1 (by omega)
        omega
      have hbM2 : ∀ t ∈ ts2, t.natAbs ≤ M0 := fun t ht => by
        have := hbt2 t ht
        show t.natAbs ≤ 100000000000000000000000000000000
        omega
      have hrt2 : RiseI ts2 := by rw [ets2]; exact hrt1.map fun a b h => Int.mul_lt_mul_of_pos_right h k1
      have okt2 : okLen ts2.length := by rw [← hl2, hlwt]; exact okt
      have l2m : ts2.length = m := by omega
      obtain ⟨la, el⟩ : ∃ la, ts2[ts2.length - 1]? = some la := ⟨_, List.getElem?_eq_getElem (by omega)⟩
      have ixL : atI (ts2.map V.int) (-1) = some (.int la) := atI_m (j := ts2.length - 1) (by rw [List.length_map]; omega) (by omega) (by rw [List.getElem?_map, el]; rfl)
      have lb := hbt2 la (List.mem_of_getElem? el)
      --L9b
      rw [← ets2] at tp18
      clear ets2
      repeat' array_mem_dec
      try dsimp only [List.set_cons_zero, List.set_cons_succ]
      refine ⟨⟨tabs K, p, l, d, R, S18, r, rq3, _, D, ws, ts2, rfl, B18, tp18.dp, tp18.aR, tp18.aS, tp18.rd, hl2, h128, hw, hbM2, d0, d1, fun H19 x19 B19 => ?_⟩⟩
      have tp19 := tp18.ext x19
      have aS19 := tp19.aS
      clear tp18 B18 x19
      repeat' array_mem_dec
      try dsimp only [List.set_cons_zero, List.set_cons_succ]
      --L10
      rename_i md Hm_ dm0 dm1 xm Bm
      have tpm := tp19.ext xm
      --L11
      refine mkF_bs Bm d0 d1 fun a20 H20 x20 B20 ra20 => ?_
      have tp20 := tpm.ext x20
      have lo20 := (lowF_dv (D := D) (t := la + (1 + md)) d0 (Nat.le_refl _)).low
      have bt20 := low_bt (x := la + (1 + md)) d0 d1 (Nat.lt_of_le_of_lt (show (la + (1 + md)).natAbs ≤ 100000000000000000000000000000000 by omega) (Nat.lt_of_lt_of_le M0_lt (Nat.pow_le_pow_right (by decide) (by decide))))
      have em : ((m : Nat) : Int) - 1 = ((m - 1 : Nat) : Int) := by omega
      clear tpm x20 Bm tp19 xm B19 aS19
      repeat' array_mem_dec
      try dsimp only [List.set_cons_zero, List.set_cons_succ]
      --L12
      refine ⟨⟨tabs K, p, l, r, rq3, _, m - 1, ts2.map (lowF D), _, _, _, by rw [em], B20, tp20.rd, row_ok (a := 7) (b := 110) d0 (by omega) M0_lt (by decide) hbM2 hrt2, by rw [List.length_map]; omega, by omega, by rw [List.length_map]; omega, ra20.num lo20, bt20.1.mono (by decide), bt20.2.mono (by decide), fun e he => ?_, fun rq4 H21 X21 B21 rd21 => ?_⟩⟩
      · rw [List.getElem?_map] at he
        obtain ⟨t, et, rfl⟩ := Option.map_eq_some_iff.mp he
        have h1 := hrt2 (m - 1 - 1) t la et (by rw [show m - 1 - 1 + 1 = ts2.length - 1 by omega]; exact el)
        exact (lowF_lt d0).mpr (by omega)
      have e21 : (ts2.map (lowF D)).set (m - 1) (lowF D (la + (1 + md))) = (ts2.take (ts2.length - 1) ++ [la + (1 + md)]).map (lowF D) := by
        rw [← List.map_set]
        congr 1
        rw [List.set_eq_take_append_cons_drop, if_pos (by omega), show m - 1 = ts2.length - 1 by omega, show ts2.length - 1 + 1 = ts2.length by omega, List.drop_length]
      rw [e21] at rd21
      have tp21 := tp20.xr X21 rd21
      have aS21 := tp21.aS
      clear tp20 X21 rd21 B20 ra20 lo20 bt20 e21 em
      repeat' array_mem_dec
      try dsimp only [List.set_cons_zero, List.set_cons_succ]
      --L13
      rename_i qs_ Hs_ xs_ Bs1 as_ ns_ ql Hl xl Bl al nl
      refine ⟨by rw [show (-1 : Int) = -((1 : Nat) : Int) from rfl, cut_neg ts2 1 (by decide), List.length_map, List.length_take]; simp only [List.length_cons, List.length_nil]; omega, New.bs Bl (by intro _ z; cases z) fun q22 H22 x22 B22 a22 n22 => ?_⟩
      obtain ⟨ts3, ets3⟩ : ∃ ts3, ts3 = ts2.take (ts2.length - 1) ++ [la + (1 + md)] := ⟨_, rfl⟩
      have e22 : cutV (ts2.map V.int) none (some (-1)) ++ [V.int (la + (1 + md))] = ts3.map V.int := by
        rw [show (-1 : Int) = -((1 : Nat) : Int) from rfl, cut_neg ts2 1 (by decide), ets3, List.map_append]
        rfl
      have a22' : At p H22 q22 (.lst (ts3.map V.int)) := by rw [← e22]; exact a22
      rw [← ets3] at tp21
      have tp22 := (tp21.ext (xs_.trans (xl.trans x22))).lst a22'
      have hl3 : ws.length = ts3.length := by
        rw [ets3, List.length_append, List.length_take]
        simp only [List.length_cons, List.length_nil]
        omega
      have hb3 : ∀ t ∈ ts3, t.natAbs ≤ 16000000000000000000000000000000 := fun t ht => by
        rw [ets3] at ht
        rcases List.mem_append.mp ht with h | h
        · have := hbt2 t (List.mem_of_mem_take h)
          omega
        · rw [List.mem_singleton.mp h]
          omega
      have hbM3 : ∀ t ∈ ts3, t.natAbs ≤ M0 := fun t ht => by
        have := hb3 t ht
        show t.natAbs ≤ 100000000000000000000000000000000
        omega
      have hbM3' : ∀ t ∈ ts3, t.natAbs + 2 ≤ M0 := fun t ht => by
        have := hb3 t ht
        show t.natAbs + 2 ≤ 100000000000000000000000000000000
        omega
      have hrt3 : RiseI ts3 := by
        rw [ets3]
        refine RiseI.snoc hrt2.take fun a ha => ?_
        rw [List.length_take, List.getElem?_take] at ha
        split at ha
        · have := hrt2 _ a la ha (by rw [show min (ts2.length - 1) ts2.length - 1 + 1 = ts2.length - 1 by omega]; exact el)
          omega
        · cases ha
      have okt3 : okLen ts3.length := by rw [← hl3, hlwt]; exact okt
      have hoff2 : (0 - off).natAbs ≤ 100000000000000000000 := by omega
      clear tp21 aS21 xs_ Bs1 as_ ns_ xl Bl al nl x22 a22 n22 e22 a22' ets3 el ixL lb B21
      repeat' array_mem_dec
      try dsimp only [List.set_cons_zero, List.set_cons_succ]
      refine ⟨⟨tabs K, p, l, R, q22, r, rq4, _, D, ws, ts3, (0 - off), rfl, B22, tp22.aR, tp22.aS, tp22.rd, gw, hl3, hw, hbM3, d0, d1, hoff2, fun H23 x23 B23 => ?_⟩⟩
      have tp23 := tp22.ext x23
      clear tp22 B22 x23
      repeat' array_mem_dec
      try dsimp only [List.set_cons_zero, List.set_cons_succ]
      refine ⟨⟨tabs K, p, l, d, R, q22, r, rq4, _, D, ws, ts3, rfl, B23, tp23.dp, tp23.aR, tp23.aS, tp23.rd, hl3, h128, hw, hbM3, d0, d1, fun H24 x24 B24 => ?_⟩⟩
      have tp24 := tp23.ext x24
      have aR24 := tp24.aR
      clear tp23 B23 x24
      repeat' array_mem_dec
      try dsimp only [List.set_cons_zero, List.set_cons_succ]
      --L14
      rename_i zd Hz dz0 dz1 xz Bz
      have btz : Bt 2000 (zd - 1) := (Bt.rng32 (by omega) (by omega)).mono (by decide)
      refine mkD_good Bz (.inl (aR24.ext xz)) gw (NumP.int (zd - 1)) btz (Bt.lit _ _ (by decide +kernel)) fun d25 H25 x25 B25 dp25 f25 => ?_
      have tp25 := tp24.ext (xz.trans x25)
      clear tp24 xz Bz x25 f25 aR24 B24
      repeat' array_mem_dec
      try dsimp only [List.set_cons_zero, List.set_cons_succ]
      --L15
      refine ⟨⟨p, l, d25, q22, _, D, ws, ts3, _, rfl, B25, dp25, tp25.aS, hl3, okt3, by omega, hrt3, hbM3', d0, d1, fun H26 x26 B26 => ?_⟩⟩
      clear tp25 dp25
      repeat' array_mem_dec
      --L16
      exact ⟨⟨_, _, _, _, _, _, _, _, _, _, _, _, _, rfl, B26.mono (by omega)⟩⟩
    · rintro σ H2 ⟨⟨v2, v3, v4, v5, v6, v7, v8, v9, v10, v11, v12, v13, v14, rfl, B2⟩⟩
      clear B0 P1 s1 np hS
      repeat' array_mem_dec
      --M1
      refine LcS.lc 0 walk_range B2 (fun j y _ => Hold (y = .int ((0 + (j : Int)) * (0 + (j : Int)) % 7 - 3))) (by decide) (fun _ _ => trivial) ?_ ?_
      · rintro j y K2 K3 hk y2 C2 ⟨rfl, rfl⟩
        have hj : j < 127 := hk
        have bj : Bt 32 (0 + (j : Int)) := Bt.rng32 (by omega) (by omega)
        repeat' array_mem_dec
        exact ⟨rfl⟩
      rintro R yR H3 hDR hyR hfR x3 C3 aR0
      have eR : yR = W7.map V.int := ints_at (by rw [hyR]; rfl) fun j y e => by
        have hj : j < 127 := by
          have h1 := (List.getElem?_eq_some_iff.mp e).1
          rw [hyR] at h1
          exact h1
        obtain ⟨h⟩ := hfR j y e
        exact ⟨_, rng_at hj, h⟩
      subst eR
      have B3 : Bs (tabs K) p l 1000 H3 := C3.mono (by decide)
      clear hfR hyR C3 x3
      repeat' array_mem_dec
      try dsimp only [List.set_cons_zero, List.set_cons_succ]
      --M2
      rename_i H4 mu4 B4
      have aR : At p H4 R (.lst (R7.map V.int)) := by
        have := mu4.here aR0
        have e : R7.map V.int = W7.map V.int ++ [V.int (0 - W7.sum)] := by
          unfold R7
          rw [List.map_append]
          rfl
        rw [e]
        exact this
      clear aR0 mu4 B3 B2 hDR
      repeat' array_mem_dec
      --M3
      refine LcS.lc 0 walk_range B4 (fun j y _ => Hold (y = .int (3 * (0 + (j : Int)) + (0 + (j : Int)) % 2))) (by decide) (fun _ _ => trivial) ?_ ?_
      · rintro j y K2 K3 hk y2 C2 ⟨rfl, rfl⟩
        have hj : j < 128 := hk
        have bj : Bt 32 (0 + (j : Int)) := Bt.rng32 (by omega) (by omega)
        repeat' array_mem_dec
        exact ⟨rfl⟩
      rintro S yS H5 hDS hyS hfS x5 C5 aS
      have eS : yS = T7.map V.int := ints_at (by rw [hyS]; rfl) fun j y e => by
        have hj : j < 128 := by
          have h1 := (List.getElem?_eq_some_iff.mp e).1
          rw [hyS] at h1
          exact h1
        obtain ⟨h⟩ := hfS j y e
        exact ⟨_, rng_at hj, h⟩
      subst eS
      have B5 : Bs (tabs K) p l 1001 H5 := C5.mono (by decide)
      have aR5 := aR.ext x5
      clear hfS hyS C5 B4 aR x5 hDS
      repeat' array_mem_dec
      try dsimp only [List.set_cons_zero, List.set_cons_succ]
      --M4
      have l7 := T7_len
      rename_i J wk
      refine LcS.lc 0 wk B5 (fun j y H' => Hold (∃ e a, (T7.map (lowF 7))[j]? = some e ∧ y = .ref a ∧ RatP K p H' a e.1 e.2)) (by rw [List.length_map]; omega) (fun H' x => aS.eq x) ?_ ?_ (fun j y Ha Hb ⟨⟨e, a, e1, e2, e3⟩⟩ x => ⟨⟨e, a, e1, e2, e3.ext x⟩⟩) (fun j y D xs ys Ha Hb ⟨⟨e, a, e1, e2, e3⟩⟩ m g => ⟨⟨e, a, e1, e2, m.rat e3 g⟩⟩)
      · rintro j y K2 K3 hk y2 C2 ⟨rfl, hv⟩
        rw [List.getElem?_map] at hv
        obtain ⟨t, et, rfl⟩ := Option.map_eq_some_iff.mp hv
        repeat' array_mem_dec
        refine mkF_bs (D := 7) C2 (by decide) (by decide) fun a9 H9 x9 B9 r9 => ?_
        exact ⟨x9, B9.mono (by omega), ⟨⟨lowF 7 t, a9, by rw [List.getElem?_map, et]; rfl, rfl, r9⟩⟩⟩
      rintro DL yL HL hDL hylL hfL xL BL0 aL
      have rats : RatsP K p HL yL (T7.map (lowF 7)) := ⟨by rw [hylL, List.length_map, List.length_map], fun j x t e1 e2 => by
        obtain ⟨⟨e, a, e3, e4, nv⟩⟩ := hfL j x e1
        rw [e2] at e3
        cases e3
        exact ⟨a, e4, nv⟩⟩
      have BL : Bs (tabs K) p l 1001 HL := BL0.mono (by omega)
      clear BL0 hfL
      have aR6 := aR5.ext xL
      have aS6 := aS.ext xL
      clear xL aR5 aS
      repeat' array_mem_dec
      try dsimp only [List.set_cons_zero, List.set_cons_succ]
      refine ofR_row (D := 7) BL aL rats T7_rise T7_b ⟨by rw [T7_len], by rw [T7_len]; decide, by rw [T7_len]; decide⟩ (by decide) (by decide) fun r rq H8 x8 B8 rd8 f8 => ?_
      have aR8 := aR6.ext x8
      have aS8 := aS6.ext x8
      clear aR6 aS6 x8 BL aL rats
      repeat' array_mem_dec
      try dsimp only [List.set_cons_zero, List.set_cons_succ]
      --M5
      rename_i zd Hz dz0 dz1 xz Bz
      exact ⟨⟨tabs K, p, l, R, S, r, rq, _, 7, R7, T7, zd - 1, rfl, Bz, aR8.ext xz, aS8.ext xz, rd8.ext xz, R7_good, R7_len, R7_w, T7_b, by decide, by decide, by omega, fun H10 x10 B10 => k _⟩⟩
end
end K41
open PySem PySem.W PySem.Calls PyProof.Rows
set_option maxHeartbeats 0 in
theorem PySem.Challenge.cw_edgesmeet_k41_answers_of_duels_holds : PySem.Challenge.rw_edgesmeet_k41_answers_of_duels.Holds := by
  w_on; o_law
  refine HandSHeadRun.head_any (r := OpenLaw.row PySem.Challenge.rw_edgesmeet_k41_answers_of_duels) (q := view (OpenLaw.row PySem.Challenge.rw_edgesmeet_k41_answers_of_duels).prog [54]) (H := K41.hk) (ob := K41.ob) (M := 20000) (loose := K41.names) (d := HandSHeadRun.topDef (OpenLaw.row PySem.Challenge.rw_edgesmeet_k41_answers_of_duels).prog 54) (kwd := []) K41.ob_eq
    (by kernel_rfl) (fun s => by kernel_rfl) K41.run (by kernel_rfl) (by kernel_rfl) (by kernel_rfl) (by rfl) (by first | assumption | decide +kernel) (by decide +kernel) ⟨rfl, rfl, rfl, rfl, rfl, by decide +kernel⟩ ?hw ?hc
  case hw => w_witness2
  case hc =>
    refine EM.walkGT (l := PySem.Challenge.rw_edgesmeet_k41_answers_of_duels) (n := 63) (k := 17) rfl (by decide) (by kernel_rfl) ⟨rfl, by decide, by decide⟩ ?F ?Z
    case Z =>
      rintro w H s e s' ⟨_, _, _, _, _, _, _, _, _, _, _, _, z⟩
      exact z
    intro w mg fa h Y G hmg0
    obtain ⟨K, KX, c, tb⟩ := Y
    have hmg : mg ("law" : PySem.Str) = some (.ref fa) := by
      have e : (HandSHeadRun.topDef (OpenLaw.row PySem.Challenge.rw_edgesmeet_k41_answers_of_duels).prog 54).name = ("law" : PySem.Str) := by kernel_rfl
      rw [← e]
      exact hmg0
    have T : K41.Tx K mg := ⟨c, ⟨h, KX, G⟩, fun t ht => (tb t ht).1⟩
    have e := hmg.symm.trans T.g_law
    cases e
    have of : ∀ p ∈ K41.cs K, ∃ t ∈ K41.tf, p = (EM.cA K (t K), EM.tA K (t K)) := fun p hp => by
      obtain ⟨t, ht, e⟩ := List.mem_map.mp hp
      exact ⟨t, ht, e.symm⟩
    refine ⟨K, K41.cs K, K41.spLaw K, KX, fun p hp => ?_, fun p hp => ?_, fun p hp => ?_, fun H a ns hl ht hS => ⟨a, ns, rfl, hS, hl, ht, fun _ => rfl⟩, fun base _ _ TB => K41.ok_law T TB⟩
    · obtain ⟨t, ht, rfl⟩ := of p hp
      exact (tb t ht).2
    · obtain ⟨t, ht, rfl⟩ := of p hp
      exact (tb t ht).1.out
    · obtain ⟨t, ht, rfl⟩ := of p hp
      exact PySem.W.codeHd_of_K KX (tb t ht).1.hd
