import PyProof.Rows.All
import Wide.All
import OpenK.AllK
import Wide.FinOn
import KE.KStateDown
import KE.KOpsOwn
import HandS.ForMost
import HandS.ForExc
import HandS.Wide
import HandS.Defaults
import HandS.Star
import HandS.ClsMeth
import HandS.IsInst
import HandS.OwnEq
import HandS.Walk
import HandS.Zip
import HandS.Style
import HandS.Property
import HandS.Head0
import HandS.Head1
import HandS.Head2
import HandS.HeadEnd
import HandS.HeadHook1
import HandS.HeadHook2
import HandS.HeadNt
import HandS.SlotsOwn
import KE.GoesEnum
import KE.GoesMore
import HandS.MakeKw
import HandS.Evl
import PyProof.ReprRoads
import PyProof.ReprReads
import HandS.ExcInit
import HandS.ExcField
import HandS.TryMany
import HandS.Small
import KE.IntTextText
import KE.IntTextLaws
import HandS.Text
import HandS.Codes
import HandS.AnyAll
import PyProof.NeKinds
import PyProof.EqAt
import KE.KCallOwn
import PyProof.StrBlockL
import PyProof.Rows.RegStrFacts
import HandS.ReplaceLit
import KE.KFmtOwn
import HandS.FStr
import HandS.Lambda
import HandS.EndTab
import HandS.HeadHook4
import KE.KNestM
import HandS.MakeKwOnly
import OpenK.KMeth
import PyProof.TwoTypes
import OpenK.KOps
import PyProof.Rows.FactsN_abs
import PyProof.Rows.Range3
import HandS.ExcOwn
import HandS.ExcValue
import KE.KExcIs
import HandS.ExcIs
import KE.KEqNest
import PyProof.StrLawsRepr
import HandS.ExcBuiltin
import PySem.Challenge.RW_edgesmeet_k12_readings_made
set_option Elab.async false
set_option linter.all false
set_option maxRecDepth 100000
set_option maxHeartbeats 4000000
namespace EM
open PySem PySem.Spec PyProof.Rows L2
abbrev Fk := PySem.W.Frag → Bool
def obsF (fa : List Fk) (fn : List He5.DefA) (K : PySem.W.Frag) : He.AlD := ((fa.all fun f => f K) && fn.all fun d => d.ok K, fn.map fun d => He5.fnA K (d.at_ K))
def valF (fn : List He5.DefA) : He.AlD := (true, fn.map He5.DefA.val)
def SaysF (fa : List Fk) (fn : List He5.DefA) (K : PySem.W.Frag) : Prop := obsF fa fn K = valF fn
def codeV (K : PySem.W.Frag) (f : Addr) : Value := match K.lookup f with
  | some ⟨_, _, .func fd, _⟩ => fd.code
  | _ => .none
def cA (K : PySem.W.Frag) (f : Addr) : Addr := match codeV K f with
  | .ref c => c
  | _ => 0
def tA (K : PySem.W.Frag) (f : Addr) : Addr := match K.lookup (cA K f) with
  | some ⟨_, _, .fields vs, _⟩ => (match (vs[11]? : Option Value) with
    | some (.ref q) => q
    | _ => 0)
  | _ => 0
def isR : Value → Bool
  | .ref _ => true
  | _ => false
theorem code_ref {K : PySem.W.Frag} {f : Addr} (h : isR (codeV K f) = true) : codeV K f = .ref (cA K f) := by
  unfold cA
  cases e : codeV K f <;> rw [e] at h <;> first | rfl | cases h
def tabB (g : Addr → Option Obj) (K : PySem.W.Frag) (f : Addr) : Bool := isR (codeV K f) && (PySem.W.codeHdIn K (cA K f) (tA K f) && (match g (tA K f) with
  | some o => He.emptyTab o
  | none => false))
/-- what is known of the def's table -/
structure TabK (K : PySem.W.Frag) (f : Addr) : Prop where
  code : codeV K f = .ref (cA K f)
  hd : PySem.W.codeHdIn K (cA K f) (tA K f) = true
  out : K.lookup (tA K f) = none
abbrev Tf := PySem.W.Frag → Addr
def SaysT (fa : List Fk) (fn : List He5.DefA) (tf : List Tf) (h : Heap) (K : PySem.W.Frag) : Prop := SaysF fa fn K ∧ ∀ t ∈ tf, TabK K (t K) ∧ h.get? (tA K (t K)) = some { cls := .none, data := .fields #[] }
/-- what isinstance asks of an instance of the class at C -/
def isiB (K : PySem.W.Frag) (C : Addr) : Bool := He.eqO (PySem.W.findIn K (.ref C) "__class__") (some (some (.builtin "object.__class__"))) && (He.eqO (PySem.W.specialIn K (.builtin "object.__class__") "__get__") (some (some (.builtin "getset_descriptor.__get__"))) &&
  (decide (PySem.W.takesIn K (.builtin "object.__class__") = some true) && decide (PySem.W.mroIn K C (.type "object") = some true)))
/-- attributes of the class itself are read plainly -/
def creadB (K : PySem.W.Frag) (C : Addr) : Bool := PySem.W.readsIn K C (.type "type") && He.eqO (PySem.W.specialIn K (.ref C) "__getattribute__") (some (some (.builtin "type.__getattribute__")))
/-- a classmethod of the class -/
def cmetB (K : PySem.W.Frag) (C : Addr) (m : Str) : Bool := He5.wrapB K C "classmethod" "classmethod.__get__" m && PySem.W.fnIn K (He5.wf K C "classmethod" m)
/-- the getter of a property -/
def pf (K : PySem.W.Frag) (C : Addr) (f : Str) : Addr := match PySem.W.recIn K (He.ma K C f) "property" with
  | some (.ref g :: _) => g
  | _ => 0
/-- the class at C as an own exception class over ValueError whose instances have dicts -/
def oexB (K : PySem.W.Frag) (C : Addr) : Bool := (match K.lookup C with
    | some ⟨.type t, _, .cls cd, sl⟩ => decide (t = "type") && (cd.hasDict && (!cd.hasDel && match cd.mro, sl.toList with
      | .ref C' :: bm, [_, _, _, _, some (.builtin n), _] => decide (C' = C) && (decide (n = "ValueError.__new__") && PySem.HandSPX.refsVE bm)
      | _, _ => false))
    | _ => false) && (He.eqO (PySem.W.findIn K (.ref C) "__setattr__") (some (some (.builtin "object.__setattr__"))) && (decide (PySem.W.subIn K (.ref C) (.type "BaseException") = some true) && (decide (PySem.W.typeIn K (.ref C) = some (.type "type")) && PySem.W.keepIn K (.ref C))))
/-- its __init__ is a def -/
def oinB (K : PySem.W.Frag) (C : Addr) : Bool := He.eqO (PySem.W.findIn K (.ref C) "__init__") (some (some (.ref (He.ma K C "__init__")))) && decide (PySem.W.typeIn K (.ref (He.ma K C "__init__")) = some (.type "function"))
def smetB (K : PySem.W.Frag) (C : Addr) (m : Str) : Bool := He5.wrapB K C "staticmethod" "staticmethod.__get__" m
def apartB (K : PySem.W.Frag) (C : Addr) : Bool := (["int", "NoneType", "bool", "str", "tuple", "list", "dict"] : List String).all fun T => decide (PySem.W.subIn K (.ref C) (.type T) = some false) && decide (PySem.W.subIn K (.type T) (.ref C) = some false)
def propB (K : PySem.W.Frag) (C : Addr) (f : Str) : Bool := decide (PySem.W.findIn K (.ref C) f = some (some (.ref (He.ma K C f)))) && decide (PySem.W.specialIn K (.ref (He.ma K C f)) "__get__" = some (some (.builtin "property.__get__"))) && decide (PySem.W.takesIn K (.ref (He.ma K C f)) = some true) &&
  (match PySem.W.recIn K (He.ma K C f) "property" with | some (.ref _ :: _) => true | _ => false)
def excB (K : PySem.W.Frag) (D : Addr) : Bool :=
  decide (PySem.W.findIn K (.ref D) "__getattribute__" = some (some (.builtin "BaseException.__getattribute__"))) && (decide (PySem.W.findIn K (.ref D) "__getattr__" = some none) && (decide (PySem.W.subIn K (.ref D) (.type "BaseException") = some true) && (PySem.W.hasDictIn K D && (decide (PySem.W.findIn K (.ref D) "__class__" = some (some (.builtin "object.__class__"))) &&
  (decide (PySem.W.specialIn K (.builtin "object.__class__") "__get__" = some (some (.builtin "getset_descriptor.__get__"))) && (decide (PySem.W.takesIn K (.builtin "object.__class__") = some true) && (decide (PySem.W.mroIn K D (.type "object") = some true) && (PySem.W.clsIn K D).isSome)))))))
/-- the addresses looked at: the module's names, the statics, all others, the newest first -/
def asR (N : Nat) : List Addr := mainGlobals :: cStatics :: (List.range N).reverse
def obsRTG (N : Nat) (fa : List Fk) (fn : List He5.DefA) (tf : List Tf) (g : Addr → Option Obj) : He.AlD × Bool := (obsF fa fn (He.frT g (asR N)), tf.all fun t => tabB g (He.frT g (asR N)) (t (He.frT g (asR N))))
theorem saysRT_of {N : Nat} {fa : List Fk} {fn : List He5.DefA} {tf : List Tf} {h : Heap} (e : obsRTG N fa fn tf h.get? = (valF fn, true)) : SaysT fa fn tf h (He.frT h.get? (asR N)) := by
  have e1 : obsF fa fn (He.frT h.get? (asR N)) = valF fn := congrArg (fun z : He.AlD × Bool => z.1) e
  have e2 : (tf.all fun t => tabB h.get? (He.frT h.get? (asR N)) (t (He.frT h.get? (asR N)))) = true := congrArg (fun z : He.AlD × Bool => z.2) e
  refine ⟨e1, fun t ht => ?_⟩
  have h1 := List.all_eq_true.mp e2 t ht
  generalize t (He.frT h.get? (asR N)) = f at h1 ⊢
  obtain ⟨h2, h1⟩ := He.ba h1
  obtain ⟨h3, h4⟩ := He.ba h1
  cases q : h.get? (tA (He.frT h.get? (asR N)) f) with
  | none =>
    rw [q] at h4
    cases h4
  | some o =>
    rw [q] at h4
    exact ⟨⟨code_ref h2, h3, He.frT_none q h4⟩, by rw [He.emptyTab_eq h4]⟩
def hookRT (N : Nat) (fa : List Fk) (fn : List He5.DefA) (tf : List Tf) : PySem.W.Hook where
  α := He.AlD × Bool
  obs := fun s => obsRTG N fa fn tf s.heap.get?
  val := fun _ => (valF fn, true)
  says := fun _ h => ∃ K : PySem.W.Frag, K.In h ∧ SaysT fa fn tf h K
  of := fun _ _ e => ⟨_, He.frT_in, saysRT_of e⟩
  keeps := fun _ _ _ ⟨K, hK, c⟩ k => ⟨K, PySem.W.Frag.In.keeps hK k, c.1, fun t ht => ⟨(c.2 t ht).1, k _ _ (c.2 t ht).2⟩⟩
theorem obsRTG_eq {N : Nat} {fa : List Fk} {fn : List He5.DefA} {tf : List Tf} {g : Addr → Option Obj} {s : Shared} (h : ∀ a, g a = s.heap.get? a) : obsRTG N fa fn tf g = (hookRT N fa fn tf).obs s := by
  have e : g = s.heap.get? := funext h
  rw [e] <;> rfl
end EM
namespace K12
open PySem PySem.Spec PyProof.Rows L2
def top (i : Nat) : Stmt := PySem.Challenge.pw_edgesmeet_k12_readings_made.main.body.getD i (.Pass ⟨0, 0, 0, 0⟩)
abbrev s_NoEdge_init : Stmt := inClass (top 6) 0
theorem sc_NoEdge_init : FnScope ["self", "value"] ["self", "value"] (defScope s_NoEdge_init) := ⟨rfl, rfl, rfl, by decide +kernel, rfl, by decide +kernel, by decide +kernel⟩
abbrev s_BadReading_init : Stmt := inClass (top 8) 0
theorem sc_BadReading_init : FnScope ["self", "at"] ["self", "at"] (defScope s_BadReading_init) := ⟨rfl, rfl, rfl, by decide +kernel, rfl, by decide +kernel, by decide +kernel⟩
abbrev s_NotRising_init : Stmt := inClass (top 9) 0
theorem sc_NotRising_init : FnScope ["self", "at"] ["self", "at"] (defScope s_NotRising_init) := ⟨rfl, rfl, rfl, by decide +kernel, rfl, by decide +kernel, by decide +kernel⟩
abbrev s_BadText_init : Stmt := inClass (top 14) 0
theorem sc_BadText_init : FnScope ["self", "line", "word"] ["self", "line", "word"] (defScope s_BadText_init) := ⟨rfl, rfl, rfl, by decide +kernel, rfl, by decide +kernel, by decide +kernel⟩
abbrev s_is_integer : Stmt := top 20
theorem sc_is_integer : FnScope ["thing"] ["thing"] (defScope s_is_integer) := ⟨rfl, rfl, rfl, by decide +kernel, rfl, by decide +kernel, by decide +kernel⟩
abbrev s_common_divisor : Stmt := top 21
theorem sc_common_divisor : FnScope ["one", "other"] ["one", "other"] (defScope s_common_divisor) := ⟨rfl, rfl, rfl, by decide +kernel, rfl, by decide +kernel, by decide +kernel⟩
abbrev s_Ratio_init : Stmt := inClass (top 22) 0
theorem sc_Ratio_init : FnScope ["self", "top", "bottom", "shared"] ["self", "top", "bottom"] (defScope s_Ratio_init) := ⟨rfl, rfl, rfl, by decide +kernel, rfl, by decide +kernel, by decide +kernel⟩
abbrev s_Ratio_of : Stmt := inClass (top 22) 1
theorem sc_Ratio_of : FnScope ["number"] ["number"] (defScope s_Ratio_of) := ⟨rfl, rfl, rfl, by decide +kernel, rfl, by decide +kernel, by decide +kernel⟩
abbrev s_Ratio_is_number : Stmt := inClass (top 22) 2
theorem sc_Ratio_is_number : FnScope ["thing"] ["thing"] (defScope s_Ratio_is_number) := ⟨rfl, rfl, rfl, by decide +kernel, rfl, by decide +kernel, by decide +kernel⟩
abbrev s_Ratio_read : Stmt := inClass (top 22) 5
theorem sc_Ratio_read : FnScope ["cls", "text", "sign", "top", "stroke", "bottom"] ["cls", "text"] (defScope s_Ratio_read) := ⟨rfl, rfl, rfl, by decide +kernel, rfl, by decide +kernel, by decide +kernel⟩
abbrev s_Ratio_add : Stmt := inClass (top 22) 6
theorem sc_Ratio_add : FnScope ["self", "other", "right"] ["self", "other"] (defScope s_Ratio_add) := ⟨rfl, rfl, rfl, by decide +kernel, rfl, by decide +kernel, by decide +kernel⟩
abbrev s_Ratio_sub : Stmt := inClass (top 22) 8
theorem sc_Ratio_sub : FnScope ["self", "other"] ["self", "other"] (defScope s_Ratio_sub) := ⟨rfl, rfl, rfl, by decide +kernel, rfl, by decide +kernel, by decide +kernel⟩
abbrev s_Ratio_neg : Stmt := inClass (top 22) 16
theorem sc_Ratio_neg : FnScope ["self"] ["self"] (defScope s_Ratio_neg) := ⟨rfl, rfl, rfl, by decide +kernel, rfl, by decide +kernel, by decide +kernel⟩
abbrev s_Ratio_radd : Stmt := inClass (top 22) 7
abbrev s_Ratio_rsub : Stmt := inClass (top 22) 9
theorem sc_Ratio_rsub : FnScope ["self", "other"] ["self", "other"] (defScope s_Ratio_rsub) := ⟨rfl, rfl, rfl, by decide +kernel, rfl, by decide +kernel, by decide +kernel⟩
abbrev s_Ratio_eq : Stmt := inClass (top 22) 19
theorem sc_Ratio_eq : FnScope ["self", "other"] ["self", "other"] (defScope s_Ratio_eq) := ⟨rfl, rfl, rfl, by decide +kernel, rfl, by decide +kernel, by decide +kernel⟩
abbrev s_Ratio_le : Stmt := inClass (top 22) 21
theorem sc_Ratio_le : FnScope ["self", "other"] ["self", "other"] (defScope s_Ratio_le) := ⟨rfl, rfl, rfl, by decide +kernel, rfl, by decide +kernel, by decide +kernel⟩
abbrev s_Ratio_ge : Stmt := inClass (top 22) 23
theorem sc_Ratio_ge : FnScope ["self", "other"] ["self", "other"] (defScope s_Ratio_ge) := ⟨rfl, rfl, rfl, by decide +kernel, rfl, by decide +kernel, by decide +kernel⟩
abbrev s_Ratio_repr : Stmt := inClass (top 22) 25
theorem sc_Ratio_repr : FnScope ["self"] ["self"] (defScope s_Ratio_repr) := ⟨rfl, rfl, rfl, by decide +kernel, rfl, by decide +kernel, by decide +kernel⟩
abbrev s_is_figures : Stmt := top 17
theorem sc_is_figures : FnScope ["text", "most", "sign"] ["text", "most"] (defScope s_is_figures) := ⟨rfl, rfl, rfl, by decide +kernel, rfl, by decide +kernel, by decide +kernel⟩
abbrev s_is_edge_count : Stmt := top 27
theorem sc_is_edge_count : FnScope ["many"] ["many"] (defScope s_is_edge_count) := ⟨rfl, rfl, rfl, by decide +kernel, rfl, by decide +kernel, by decide +kernel⟩
abbrev s_need_edge : Stmt := top 28
theorem sc_need_edge : FnScope ["thing", "many"] ["thing", "many"] (defScope s_need_edge) := ⟨rfl, rfl, rfl, by decide +kernel, rfl, by decide +kernel, by decide +kernel⟩
abbrev s_edges_of_readings : Stmt := top 29
theorem sc_edges_of_readings : FnScope ["numbers", "found", "at", "number"] ["numbers"] (defScope s_edges_of_readings) := ⟨rfl, rfl, rfl, by decide +kernel, rfl, by decide +kernel, by decide +kernel⟩
abbrev s_number_told : Stmt := top 31
theorem sc_number_told : FnScope ["word", "found"] ["word"] (defScope s_number_told) := ⟨rfl, rfl, rfl, by decide +kernel, rfl, by decide +kernel, by decide +kernel⟩
abbrev s_is_between : Stmt := top 40
theorem sc_is_between : FnScope ["thing", "low", "high"] ["thing", "low", "high"] (defScope s_is_between) := ⟨rfl, rfl, rfl, by decide +kernel, rfl, by decide +kernel, by decide +kernel⟩
abbrev s_edges_of_marks : Stmt := top 41
theorem sc_edges_of_marks : FnScope ["widths", "found", "width"] ["widths"] (defScope s_edges_of_marks) := ⟨rfl, rfl, rfl, by decide +kernel, rfl, by decide +kernel, by decide +kernel⟩
abbrev s_Reading_init : Stmt := inClass (top 35) 0
theorem sc_Reading_init : FnScope ["self", "edges"] ["self", "edges"] (defScope s_Reading_init) := ⟨rfl, rfl, rfl, by decide +kernel, rfl, by decide +kernel, by decide +kernel⟩
abbrev s_Reading_of : Stmt := inClass (top 35) 1
theorem sc_Reading_of : FnScope ["cls", "edges"] ["cls", "edges"] (defScope s_Reading_of) := ⟨rfl, rfl, rfl, by decide +kernel, rfl, by decide +kernel, by decide +kernel⟩
abbrev s_Reading_read : Stmt := inClass (top 35) 2
theorem sc_Reading_read : FnScope ["cls", "text", "found", "at", "word", "number"] ["cls", "text"] (defScope s_Reading_read) := ⟨rfl, rfl, rfl, by decide +kernel, rfl, by decide +kernel, by decide +kernel⟩
abbrev s_Reading_edges : Stmt := inClass (top 35) 3
theorem sc_Reading_edges : FnScope ["self"] ["self"] (defScope s_Reading_edges) := ⟨rfl, rfl, rfl, by decide +kernel, rfl, by decide +kernel, by decide +kernel⟩
abbrev s_Reading_len : Stmt := inClass (top 35) 4
theorem sc_Reading_len : FnScope ["self"] ["self"] (defScope s_Reading_len) := ⟨rfl, rfl, rfl, by decide +kernel, rfl, by decide +kernel, by decide +kernel⟩
abbrev s_Reading_getitem : Stmt := inClass (top 35) 6
theorem sc_Reading_getitem : FnScope ["self", "at"] ["self", "at"] (defScope s_Reading_getitem) := ⟨rfl, rfl, rfl, by decide +kernel, rfl, by decide +kernel, by decide +kernel⟩
abbrev s_Reading_eq : Stmt := inClass (top 35) 21
theorem sc_Reading_eq : FnScope ["self", "other"] ["self", "other"] (defScope s_Reading_eq) := ⟨rfl, rfl, rfl, by decide +kernel, rfl, by decide +kernel, by decide +kernel⟩
abbrev s_Mark_init : Stmt := inClass (top 43) 2
theorem sc_Mark_init : FnScope ["self", "widths", "at", "width", "one", "other"] ["self", "widths"] (defScope s_Mark_init) := ⟨rfl, rfl, rfl, by decide +kernel, rfl, by decide +kernel, by decide +kernel⟩
abbrev s_Lpen : Stmt := top 45
theorem sc_Lpen : FnScope ["_law_script"] ["_law_script"] (defScope s_Lpen) := ⟨rfl, rfl, rfl, by decide +kernel, rfl, by decide +kernel, by decide +kernel⟩
abbrev s_Ldraw : Stmt := top 46
theorem sc_Ldraw : FnScope ["_law_pen_here", "_law_many", "_law_digit", "_law_at", "_law_cell", "_law_great", "_law_mixed"] ["_law_pen_here", "_law_many"] (defScope s_Ldraw) := ⟨rfl, rfl, rfl, by decide +kernel, rfl, by decide +kernel, by decide +kernel⟩
abbrev s_Lpick : Stmt := top 47
theorem sc_Lpick : FnScope ["_law_pen_here", "_law_some"] ["_law_pen_here", "_law_some"] (defScope s_Lpick) := ⟨rfl, rfl, rfl, by decide +kernel, rfl, by decide +kernel, by decide +kernel⟩
abbrev s_Lfrac : Stmt := top 48
theorem sc_Lfrac : FnScope ["_law_top", "_law_bottom", "_law_one", "_law_other", "_law_shared"] ["_law_top", "_law_bottom"] (defScope s_Lfrac) := ⟨rfl, rfl, rfl, by decide +kernel, rfl, by decide +kernel, by decide +kernel⟩
abbrev s_Lsum : Stmt := top 49
theorem sc_Lsum : FnScope ["_law_one", "_law_other"] ["_law_one", "_law_other"] (defScope s_Lsum) := ⟨rfl, rfl, rfl, by decide +kernel, rfl, by decide +kernel, by decide +kernel⟩
abbrev s_Lis_less : Stmt := top 50
theorem sc_Lis_less : FnScope ["_law_one", "_law_other"] ["_law_one", "_law_other"] (defScope s_Lis_less) := ⟨rfl, rfl, rfl, by decide +kernel, rfl, by decide +kernel, by decide +kernel⟩
abbrev s_Ldrawn : Stmt := top 51
theorem sc_Ldrawn : FnScope ["_law_pen_here", "_law_bottom"] ["_law_pen_here"] (defScope s_Ldrawn) := ⟨rfl, rfl, rfl, by decide +kernel, rfl, by decide +kernel, by decide +kernel⟩
abbrev s_Lpassed : Stmt := top 52
theorem sc_Lpassed : FnScope ["_law_pen_here", "_law_one", "_law_times"] ["_law_pen_here", "_law_one"] (defScope s_Lpassed) := ⟨rfl, rfl, rfl, by decide +kernel, rfl, by decide +kernel, by decide +kernel⟩
abbrev s_Lis : Stmt := top 53
theorem sc_Lis : FnScope ["_law_told", "_law_due_here"] ["_law_told", "_law_due_here"] (defScope s_Lis) := ⟨rfl, rfl, rfl, by decide +kernel, rfl, by decide +kernel, by decide +kernel⟩
abbrev s_Lare : Stmt := top 54
theorem sc_Lare : FnScope ["_law_told", "_law_due_here", "_law_at"] ["_law_told", "_law_due_here"] (defScope s_Lare) := ⟨rfl, rfl, rfl, by decide +kernel, rfl, by decide +kernel, by decide +kernel⟩
abbrev s_Lrow : Stmt := top 55
theorem sc_Lrow : FnScope ["_law_pen_here", "_law_many", "_law_found", "_law_turn", "_law_step"] ["_law_pen_here", "_law_many"] (defScope s_Lrow) := ⟨rfl, rfl, rfl, by decide +kernel, rfl, by decide +kernel, by decide +kernel⟩
abbrev s_Lheard : Stmt := top 56
theorem sc_Lheard : FnScope ["_law_ask", "_law_caught", "error", "_law_found"] ["_law_ask"] (defScope s_Lheard) := ⟨rfl, rfl, rfl, by decide +kernel, rfl, by decide +kernel, by decide +kernel⟩
abbrev s_Ldue : Stmt := top 57
theorem sc_Ldue : FnScope ["_law_items", "_law_at"] ["_law_items"] (defScope s_Ldue) := ⟨rfl, rfl, rfl, by decide +kernel, rfl, by decide +kernel, by decide +kernel⟩
abbrev s_Lbent : Stmt := top 58
theorem sc_Lbent : FnScope ["_law_pen_here", "_law_items", "_law_found", "_law_turn", "_law_at", "_law_way", "_law_least"] ["_law_pen_here", "_law_items"] (defScope s_Lbent) := ⟨rfl, rfl, rfl, by decide +kernel, rfl, by decide +kernel, by decide +kernel⟩
abbrev s_Lby_args : Stmt := top 59
theorem sc_Lby_args : FnScope ["_law_some"] ["_law_some"] (defScope s_Lby_args) := ⟨rfl, rfl, rfl, by decide +kernel, rfl, by decide +kernel, by decide +kernel⟩
abbrev s_Lright : Stmt := top 60
theorem sc_Lright : FnScope ["_law_reading", "_law_row_here", "_law_at", "_law_odd"] ["_law_reading", "_law_row_here"] (defScope s_Lright) := ⟨rfl, rfl, rfl, by decide +kernel, rfl, by decide +kernel, by decide +kernel⟩
abbrev s_Lalike_right : Stmt := top 61
theorem sc_Lalike_right : FnScope ["_law_pen_here", "_law_reading", "_law_row_here", "_law_twin", "_law_one", "_law_at", "_law_bent_here", "_law_other"] ["_law_pen_here", "_law_reading", "_law_row_here"] (defScope s_Lalike_right) := ⟨rfl, rfl, rfl, by decide +kernel, rfl, by decide +kernel, by decide +kernel⟩
abbrev s_law : Stmt := top 62
theorem sc_law : FnScope ["_law_script", "_law_pen_here", "_law_turn", "_law_many", "_law_items", "_law_one", "_law_things", "_law_due_here", "_law_item", "_law_told", "_law_row_here", "_law_odd", "_law_plain"] ["_law_script"] (defScope s_law) := ⟨rfl, rfl, rfl, by decide +kernel, rfl, by decide +kernel, by decide +kernel⟩
def e_NoEdge_init : He5.DefA := ⟨fun K => He.ma K (He.ga K "NoEdge") "__init__", "__init__", "NoEdge.__init__", defArgs s_NoEdge_init, defBody s_NoEdge_init, defScope s_NoEdge_init, [], []⟩
def e_BadReading_init : He5.DefA := ⟨fun K => He.ma K (He.ga K "BadReading") "__init__", "__init__", "BadReading.__init__", defArgs s_BadReading_init, defBody s_BadReading_init, defScope s_BadReading_init, [], []⟩
def e_NotRising_init : He5.DefA := ⟨fun K => He.ma K (He.ga K "NotRising") "__init__", "__init__", "NotRising.__init__", defArgs s_NotRising_init, defBody s_NotRising_init, defScope s_NotRising_init, [], []⟩
def e_BadText_init : He5.DefA := ⟨fun K => He.ma K (He.ga K "BadText") "__init__", "__init__", "BadText.__init__", defArgs s_BadText_init, defBody s_BadText_init, defScope s_BadText_init, [], []⟩
def e_is_integer : He5.DefA := ⟨fun K => He.ga K "is_integer", "is_integer", "is_integer", defArgs s_is_integer, defBody s_is_integer, defScope s_is_integer, [], []⟩
def e_common_divisor : He5.DefA := ⟨fun K => He.ga K "common_divisor", "common_divisor", "common_divisor", defArgs s_common_divisor, defBody s_common_divisor, defScope s_common_divisor, [], []⟩
def e_Ratio_init : He5.DefA := ⟨fun K => He.ma K (He.ga K "Ratio") "__init__", "__init__", "Ratio.__init__", defArgs s_Ratio_init, defBody s_Ratio_init, defScope s_Ratio_init, [.int 1], []⟩
def e_Ratio_of : He5.DefA := ⟨fun K => He5.wf K (He.ga K "Ratio") "staticmethod" "of", "of", "Ratio.of", defArgs s_Ratio_of, defBody s_Ratio_of, defScope s_Ratio_of, [], []⟩
def e_Ratio_is_number : He5.DefA := ⟨fun K => He5.wf K (He.ga K "Ratio") "staticmethod" "is_number", "is_number", "Ratio.is_number", defArgs s_Ratio_is_number, defBody s_Ratio_is_number, defScope s_Ratio_is_number, [], []⟩
def e_Ratio_read : He5.DefA := ⟨fun K => He5.wf K (He.ga K "Ratio") "classmethod" "read", "read", "Ratio.read", defArgs s_Ratio_read, defBody s_Ratio_read, defScope s_Ratio_read, [], []⟩
def e_Ratio_add : He5.DefA := ⟨fun K => He.ma K (He.ga K "Ratio") "__add__", "__add__", "Ratio.__add__", defArgs s_Ratio_add, defBody s_Ratio_add, defScope s_Ratio_add, [], []⟩
def e_Ratio_sub : He5.DefA := ⟨fun K => He.ma K (He.ga K "Ratio") "__sub__", "__sub__", "Ratio.__sub__", defArgs s_Ratio_sub, defBody s_Ratio_sub, defScope s_Ratio_sub, [], []⟩
def e_Ratio_neg : He5.DefA := ⟨fun K => He.ma K (He.ga K "Ratio") "__neg__", "__neg__", "Ratio.__neg__", defArgs s_Ratio_neg, defBody s_Ratio_neg, defScope s_Ratio_neg, [], []⟩
def e_Ratio_radd : He5.DefA := ⟨fun K => He.ma K (He.ga K "Ratio") "__radd__", "__radd__", "Ratio.__radd__", defArgs s_Ratio_radd, defBody s_Ratio_radd, defScope s_Ratio_radd, [], []⟩
def e_Ratio_rsub : He5.DefA := ⟨fun K => He.ma K (He.ga K "Ratio") "__rsub__", "__rsub__", "Ratio.__rsub__", defArgs s_Ratio_rsub, defBody s_Ratio_rsub, defScope s_Ratio_rsub, [], []⟩
def e_Ratio_eq : He5.DefA := ⟨fun K => He.ma K (He.ga K "Ratio") "__eq__", "__eq__", "Ratio.__eq__", defArgs s_Ratio_eq, defBody s_Ratio_eq, defScope s_Ratio_eq, [], []⟩
def e_Ratio_le : He5.DefA := ⟨fun K => He.ma K (He.ga K "Ratio") "__le__", "__le__", "Ratio.__le__", defArgs s_Ratio_le, defBody s_Ratio_le, defScope s_Ratio_le, [], []⟩
def e_Ratio_ge : He5.DefA := ⟨fun K => He.ma K (He.ga K "Ratio") "__ge__", "__ge__", "Ratio.__ge__", defArgs s_Ratio_ge, defBody s_Ratio_ge, defScope s_Ratio_ge, [], []⟩
def e_Ratio_repr : He5.DefA := ⟨fun K => He.ma K (He.ga K "Ratio") "__repr__", "__repr__", "Ratio.__repr__", defArgs s_Ratio_repr, defBody s_Ratio_repr, defScope s_Ratio_repr, [], []⟩
def e_is_figures : He5.DefA := ⟨fun K => He.ga K "is_figures", "is_figures", "is_figures", defArgs s_is_figures, defBody s_is_figures, defScope s_is_figures, [], []⟩
def e_is_edge_count : He5.DefA := ⟨fun K => He.ga K "is_edge_count", "is_edge_count", "is_edge_count", defArgs s_is_edge_count, defBody s_is_edge_count, defScope s_is_edge_count, [], []⟩
def e_need_edge : He5.DefA := ⟨fun K => He.ga K "need_edge", "need_edge", "need_edge", defArgs s_need_edge, defBody s_need_edge, defScope s_need_edge, [], []⟩
def e_edges_of_readings : He5.DefA := ⟨fun K => He.ga K "edges_of_readings", "edges_of", "edges_of", defArgs s_edges_of_readings, defBody s_edges_of_readings, defScope s_edges_of_readings, [], []⟩
def e_number_told : He5.DefA := ⟨fun K => He.ga K "number_told", "number_told", "number_told", defArgs s_number_told, defBody s_number_told, defScope s_number_told, [], []⟩
def e_is_between : He5.DefA := ⟨fun K => He.ga K "is_between", "is_between", "is_between", defArgs s_is_between, defBody s_is_between, defScope s_is_between, [], []⟩
def e_edges_of_marks : He5.DefA := ⟨fun K => He.ga K "edges_of_marks", "edges_of", "edges_of", defArgs s_edges_of_marks, defBody s_edges_of_marks, defScope s_edges_of_marks, [], []⟩
def e_Reading_init : He5.DefA := ⟨fun K => He.ma K (He.ga K "Reading") "__init__", "__init__", "Reading.__init__", defArgs s_Reading_init, defBody s_Reading_init, defScope s_Reading_init, [], []⟩
def e_Reading_of : He5.DefA := ⟨fun K => He5.wf K (He.ga K "Reading") "classmethod" "of", "of", "Reading.of", defArgs s_Reading_of, defBody s_Reading_of, defScope s_Reading_of, [], []⟩
def e_Reading_read : He5.DefA := ⟨fun K => He5.wf K (He.ga K "Reading") "classmethod" "read", "read", "Reading.read", defArgs s_Reading_read, defBody s_Reading_read, defScope s_Reading_read, [], []⟩
def e_Reading_edges : He5.DefA := ⟨fun K => EM.pf K (He.ga K "Reading") "edges", "edges", "Reading.edges", defArgs s_Reading_edges, defBody s_Reading_edges, defScope s_Reading_edges, [], []⟩
def e_Reading_len : He5.DefA := ⟨fun K => He.ma K (He.ga K "Reading") "__len__", "__len__", "Reading.__len__", defArgs s_Reading_len, defBody s_Reading_len, defScope s_Reading_len, [], []⟩
def e_Reading_getitem : He5.DefA := ⟨fun K => He.ma K (He.ga K "Reading") "__getitem__", "__getitem__", "Reading.__getitem__", defArgs s_Reading_getitem, defBody s_Reading_getitem, defScope s_Reading_getitem, [], []⟩
def e_Reading_eq : He5.DefA := ⟨fun K => He.ma K (He.ga K "Reading") "__eq__", "__eq__", "Reading.__eq__", defArgs s_Reading_eq, defBody s_Reading_eq, defScope s_Reading_eq, [], []⟩
def e_Mark_init : He5.DefA := ⟨fun K => He.ma K (He.ga K "Mark") "__init__", "__init__", "Mark.__init__", defArgs s_Mark_init, defBody s_Mark_init, defScope s_Mark_init, [], []⟩
def e_Lpen : He5.DefA := ⟨fun K => He.ga K "_law_pen", "_law_pen", "_law_pen", defArgs s_Lpen, defBody s_Lpen, defScope s_Lpen, [], []⟩
def e_Ldraw : He5.DefA := ⟨fun K => He.ga K "_law_draw", "_law_draw", "_law_draw", defArgs s_Ldraw, defBody s_Ldraw, defScope s_Ldraw, [], []⟩
def e_Lpick : He5.DefA := ⟨fun K => He.ga K "_law_pick", "_law_pick", "_law_pick", defArgs s_Lpick, defBody s_Lpick, defScope s_Lpick, [], []⟩
def e_Lfrac : He5.DefA := ⟨fun K => He.ga K "_law_frac", "_law_frac", "_law_frac", defArgs s_Lfrac, defBody s_Lfrac, defScope s_Lfrac, [], []⟩
def e_Lsum : He5.DefA := ⟨fun K => He.ga K "_law_sum", "_law_sum", "_law_sum", defArgs s_Lsum, defBody s_Lsum, defScope s_Lsum, [], []⟩
def e_Lis_less : He5.DefA := ⟨fun K => He.ga K "_law_is_less", "_law_is_less", "_law_is_less", defArgs s_Lis_less, defBody s_Lis_less, defScope s_Lis_less, [], []⟩
def e_Ldrawn : He5.DefA := ⟨fun K => He.ga K "_law_drawn", "_law_drawn", "_law_drawn", defArgs s_Ldrawn, defBody s_Ldrawn, defScope s_Ldrawn, [], []⟩
def e_Lpassed : He5.DefA := ⟨fun K => He.ga K "_law_passed", "_law_passed", "_law_passed", defArgs s_Lpassed, defBody s_Lpassed, defScope s_Lpassed, [], []⟩
def e_Lis : He5.DefA := ⟨fun K => He.ga K "_law_is", "_law_is", "_law_is", defArgs s_Lis, defBody s_Lis, defScope s_Lis, [], []⟩
def e_Lare : He5.DefA := ⟨fun K => He.ga K "_law_are", "_law_are", "_law_are", defArgs s_Lare, defBody s_Lare, defScope s_Lare, [], []⟩
def e_Lrow : He5.DefA := ⟨fun K => He.ga K "_law_row", "_law_row", "_law_row", defArgs s_Lrow, defBody s_Lrow, defScope s_Lrow, [], []⟩
def e_Lheard : He5.DefA := ⟨fun K => He.ga K "_law_heard", "_law_heard", "_law_heard", defArgs s_Lheard, defBody s_Lheard, defScope s_Lheard, [], []⟩
def e_Ldue : He5.DefA := ⟨fun K => He.ga K "_law_due", "_law_due", "_law_due", defArgs s_Ldue, defBody s_Ldue, defScope s_Ldue, [], []⟩
def e_Lbent : He5.DefA := ⟨fun K => He.ga K "_law_bent", "_law_bent", "_law_bent", defArgs s_Lbent, defBody s_Lbent, defScope s_Lbent, [], []⟩
def e_Lby_args : He5.DefA := ⟨fun K => He.ga K "_law_by_args", "_law_by_args", "_law_by_args", defArgs s_Lby_args, defBody s_Lby_args, defScope s_Lby_args, [], []⟩
def e_Lright : He5.DefA := ⟨fun K => He.ga K "_law_right", "_law_right", "_law_right", defArgs s_Lright, defBody s_Lright, defScope s_Lright, [], []⟩
def e_Lalike_right : He5.DefA := ⟨fun K => He.ga K "_law_alike_right", "_law_alike_right", "_law_alike_right", defArgs s_Lalike_right, defBody s_Lalike_right, defScope s_Lalike_right, [], []⟩
def e_law : He5.DefA := ⟨fun K => He.ga K "law", "law", "law", defArgs s_law, defBody s_law, defScope s_law, [], []⟩
def fn : List He5.DefA := [e_NoEdge_init, e_BadReading_init, e_NotRising_init, e_BadText_init, e_is_integer, e_common_divisor, e_Ratio_init, e_Ratio_of, e_Ratio_is_number, e_Ratio_read, e_Ratio_add, e_Ratio_sub, e_Ratio_neg, e_Ratio_radd, e_Ratio_rsub, e_Ratio_eq, e_Ratio_le, e_Ratio_ge, e_Ratio_repr, e_is_figures, e_is_edge_count, e_need_edge, e_edges_of_readings, e_number_told, e_is_between, e_edges_of_marks, e_Reading_init, e_Reading_of, e_Reading_read, e_Reading_edges, e_Reading_len, e_Reading_getitem, e_Reading_eq, e_Mark_init, e_Lpen, e_Ldraw, e_Lpick, e_Lfrac, e_Lsum, e_Lis_less, e_Ldrawn, e_Lpassed, e_Lis, e_Lare, e_Lrow, e_Lheard, e_Ldue, e_Lbent, e_Lby_args, e_Lright, e_Lalike_right, e_law]
def fa0 : List EM.Fk := [fun K => (He.Fa.glo "BadRatio").ok K,
  fun K => (He.Fa.glo "BadReading").ok K,
  fun K => (He.Fa.glo "BadTerms").ok K,
  fun K => (He.Fa.glo "BadText").ok K,
  fun K => (He.Fa.glo "BadView").ok K,
  fun K => (He.Fa.glo "EdgeError").ok K,
  fun K => (He.Fa.glo "NoEdge").ok K,
  fun K => (He.Fa.glo "NoStretch").ok K,
  fun K => (He.Fa.glo "NoTerms").ok K,
  fun K => (He.Fa.glo "NotRising").ok K,
  fun K => (He.Fa.glo "Unlike").ok K,
  fun K => (He.Fa.glo "Ratio").ok K,
  fun K => (He.Fa.glo "Reading").ok K,
  fun K => (He.Fa.glo "Mark").ok K,
  fun K => (He.Fa.glo "is_integer").ok K,
  fun K => (He.Fa.glo "common_divisor").ok K,
  fun K => (He.Fa.glo "is_figures").ok K,
  fun K => (He.Fa.glo "is_edge_count").ok K,
  fun K => (He.Fa.glo "need_edge").ok K,
  fun K => (He.Fa.glo "edges_of_readings").ok K]
def fa1 : List EM.Fk := [fun K => (He.Fa.glo "number_told").ok K,
  fun K => (He.Fa.glo "is_between").ok K,
  fun K => (He.Fa.glo "edges_of_marks").ok K,
  fun K => (He.Fa.glo "_law_pen").ok K,
  fun K => (He.Fa.glo "_law_draw").ok K,
  fun K => (He.Fa.glo "_law_pick").ok K,
  fun K => (He.Fa.glo "_law_frac").ok K,
  fun K => (He.Fa.glo "_law_sum").ok K,
  fun K => (He.Fa.glo "_law_is_less").ok K,
  fun K => (He.Fa.glo "_law_drawn").ok K,
  fun K => (He.Fa.glo "_law_passed").ok K,
  fun K => (He.Fa.glo "_law_is").ok K,
  fun K => (He.Fa.glo "_law_are").ok K,
  fun K => (He.Fa.glo "_law_row").ok K,
  fun K => (He.Fa.glo "_law_heard").ok K,
  fun K => (He.Fa.glo "_law_due").ok K,
  fun K => (He.Fa.glo "_law_bent").ok K,
  fun K => (He.Fa.glo "_law_by_args").ok K,
  fun K => (He.Fa.glo "_law_right").ok K,
  fun K => (He.Fa.glo "_law_alike_right").ok K]
def fa2 : List EM.Fk := [fun K => (He.Fa.glo "law").ok K,
  fun K => (He.Fa.free "len").ok K,
  fun K => (He.Fa.free "isinstance").ok K,
  fun K => (He.Fa.free "int").ok K,
  fun K => (He.Fa.free "bool").ok K,
  fun K => (He.Fa.free "abs").ok K,
  fun K => (He.Fa.free "range").ok K,
  fun K => (He.Fa.free "repr").ok K,
  fun K => (He.Fa.free "list").ok K,
  fun K => (He.Fa.free "tuple").ok K,
  fun K => (He.Fa.free "str").ok K,
  fun K => (He.Fa.free "enumerate").ok K,
  fun K => (He.Fa.free "all").ok K,
  fun K => (He.Fa.free "zip").ok K,
  fun K => (He.Fa.free "min").ok K,
  fun K => (He.Fa.free "sum").ok K,
  fun K => (He.Fa.free "ValueError").ok K,
  fun K => (He.Fa.int "LEAST_EDGES" 4).ok K,
  fun K => (He.Fa.int "MOST_EDGES" 128).ok K,
  fun K => (He.Fa.int "MOST_DIGITS" 60).ok K]
def fa3 : List EM.Fk := [fun K => (He.Fa.int "MOST_WIDTH" 1000).ok K,
  fun K => (He.Fa.int "MOST_WIDTHS" 127).ok K,
  fun K => (He.Fa.str "FIGURES" "0123456789").ok K,
  fun K => (He.Fa.cls "Ratio").ok K,
  fun K => (He.Fa.mkr "Ratio").ok K,
  fun K => EM.isiB K (He.ga K "Ratio"),
  fun K => EM.creadB K (He.ga K "Ratio"),
  fun K => EM.smetB K (He.ga K "Ratio") "of",
  fun K => EM.smetB K (He.ga K "Ratio") "is_number",
  fun K => EM.cmetB K (He.ga K "Ratio") "read",
  fun K => PySem.W.selfFirst K (He.ga K "Ratio"),
  fun K => decide (PySem.W.subIn K (.type "int") (.ref (He.ga K "Ratio")) = some false),
  fun K => decide (PySem.W.subIn K (.ref (He.ga K "Ratio")) (.type "int") = some false),
  fun K => (He.Fa.cls "Reading").ok K,
  fun K => (He.Fa.mkr "Reading").ok K,
  fun K => EM.isiB K (He.ga K "Reading"),
  fun K => EM.creadB K (He.ga K "Reading"),
  fun K => EM.cmetB K (He.ga K "Reading") "of",
  fun K => EM.cmetB K (He.ga K "Reading") "read",
  fun K => (He.Fa.cls "Mark").ok K]
def fa4 : List EM.Fk := [fun K => (He.Fa.mkr "Mark").ok K,
  fun K => EM.isiB K (He.ga K "Mark"),
  fun K => (He.Fa.noat "Ratio" "top").ok K,
  fun K => (He.Fa.noat "Ratio" "bottom").ok K,
  fun K => (He.Fa.noat "Reading" "own_edges").ok K,
  fun K => (He.Fa.noat "Mark" "widths").ok K,
  fun K => (He.Fa.noat "Mark" "edge_row").ok K,
  fun K => (He.Fa.noat "Mark" "sums").ok K,
  fun K => (He.Fa.noat "Mark" "bars").ok K,
  fun K => (He.Fa.noat "Mark" "total").ok K,
  fun K => (He.Fa.noat "Mark" "span").ok K,
  fun K => (He.Fa.meth "Ratio" "__add__").ok K,
  fun K => (He.Fa.meth "Ratio" "__sub__").ok K,
  fun K => (He.Fa.meth "Ratio" "__neg__").ok K,
  fun K => (He.Fa.meth "Ratio" "__eq__").ok K,
  fun K => (He.Fa.meth "Ratio" "__le__").ok K,
  fun K => (He.Fa.meth "Ratio" "__ge__").ok K,
  fun K => (He.Fa.meth "Ratio" "__repr__").ok K,
  fun K => (He.Fa.meth "Ratio" "__radd__").ok K,
  fun K => (He.Fa.meth "Ratio" "__rsub__").ok K]
def fa5 : List EM.Fk := [fun K => (He.Fa.meth "Reading" "__len__").ok K,
  fun K => (He.Fa.meth "Reading" "__getitem__").ok K,
  fun K => (He.Fa.meth "Reading" "__eq__").ok K,
  fun K => EM.propB K (He.ga K "Reading") "edges",
  fun K => (He.Fa.noat "NoEdge" "value").ok K,
  fun K => L2.xfB K (He.ga K "NoEdge"),
  fun K => EM.oexB K (He.ga K "NoEdge"),
  fun K => EM.oinB K (He.ga K "NoEdge"),
  fun K => decide (PySem.W.exmOne K (.ref (He.ga K "NoEdge")) (.ref (He.ga K "EdgeError")) = some true),
  fun K => EM.excB K (He.ga K "NoEdge"),
  fun K => decide (PySem.W.kitOne K (.ref (He.ga K "NoEdge")) (.ref (He.ga K "BadReading")) = some false),
  fun K => decide (PySem.W.kitOne K (.ref (He.ga K "NoEdge")) (.ref (He.ga K "NotRising")) = some false),
  fun K => decide (PySem.W.kitOne K (.ref (He.ga K "NoEdge")) (.ref (He.ga K "NoEdge")) = some true),
  fun K => decide (PySem.W.kitOne K (.ref (He.ga K "NoEdge")) (.ref (He.ga K "BadRatio")) = some false),
  fun K => decide (PySem.W.kitOne K (.ref (He.ga K "NoEdge")) (.ref (He.ga K "NoStretch")) = some false),
  fun K => decide (PySem.W.kitOne K (.ref (He.ga K "NoEdge")) (.ref (He.ga K "BadText")) = some false),
  fun K => decide (PySem.W.kitOne K (.ref (He.ga K "NoEdge")) (.ref (He.ga K "BadView")) = some false),
  fun K => decide (PySem.W.kitOne K (.ref (He.ga K "NoEdge")) (.ref (He.ga K "BadTerms")) = some false),
  fun K => decide (PySem.W.kitOne K (.ref (He.ga K "NoEdge")) (.ref (He.ga K "NoTerms")) = some false),
  fun K => decide (PySem.W.kitOne K (.ref (He.ga K "NoEdge")) (.ref (He.ga K "Unlike")) = some false)]
def fa6 : List EM.Fk := [fun K => decide (PySem.W.kitOne K (.ref (He.ga K "NoEdge")) (.type "ValueError") = some true),
  fun K => (He.Fa.noat "BadReading" "at").ok K,
  fun K => L2.xfB K (He.ga K "BadReading"),
  fun K => EM.oexB K (He.ga K "BadReading"),
  fun K => EM.oinB K (He.ga K "BadReading"),
  fun K => decide (PySem.W.exmOne K (.ref (He.ga K "BadReading")) (.ref (He.ga K "EdgeError")) = some true),
  fun K => EM.excB K (He.ga K "BadReading"),
  fun K => decide (PySem.W.kitOne K (.ref (He.ga K "BadReading")) (.ref (He.ga K "BadReading")) = some true),
  fun K => decide (PySem.W.kitOne K (.ref (He.ga K "BadReading")) (.ref (He.ga K "NotRising")) = some false),
  fun K => decide (PySem.W.kitOne K (.ref (He.ga K "BadReading")) (.ref (He.ga K "NoEdge")) = some false),
  fun K => decide (PySem.W.kitOne K (.ref (He.ga K "BadReading")) (.ref (He.ga K "BadRatio")) = some false),
  fun K => decide (PySem.W.kitOne K (.ref (He.ga K "BadReading")) (.ref (He.ga K "NoStretch")) = some false),
  fun K => decide (PySem.W.kitOne K (.ref (He.ga K "BadReading")) (.ref (He.ga K "BadText")) = some false),
  fun K => decide (PySem.W.kitOne K (.ref (He.ga K "BadReading")) (.ref (He.ga K "BadView")) = some false),
  fun K => decide (PySem.W.kitOne K (.ref (He.ga K "BadReading")) (.ref (He.ga K "BadTerms")) = some false),
  fun K => decide (PySem.W.kitOne K (.ref (He.ga K "BadReading")) (.ref (He.ga K "NoTerms")) = some false),
  fun K => decide (PySem.W.kitOne K (.ref (He.ga K "BadReading")) (.ref (He.ga K "Unlike")) = some false),
  fun K => decide (PySem.W.kitOne K (.ref (He.ga K "BadReading")) (.type "ValueError") = some true),
  fun K => (He.Fa.noat "NotRising" "at").ok K,
  fun K => L2.xfB K (He.ga K "NotRising")]
def fa7 : List EM.Fk := [fun K => EM.oexB K (He.ga K "NotRising"),
  fun K => EM.oinB K (He.ga K "NotRising"),
  fun K => decide (PySem.W.exmOne K (.ref (He.ga K "NotRising")) (.ref (He.ga K "EdgeError")) = some true),
  fun K => EM.excB K (He.ga K "NotRising"),
  fun K => decide (PySem.W.kitOne K (.ref (He.ga K "NotRising")) (.ref (He.ga K "BadReading")) = some false),
  fun K => decide (PySem.W.kitOne K (.ref (He.ga K "NotRising")) (.ref (He.ga K "NotRising")) = some true),
  fun K => decide (PySem.W.kitOne K (.ref (He.ga K "NotRising")) (.ref (He.ga K "NoEdge")) = some false),
  fun K => decide (PySem.W.kitOne K (.ref (He.ga K "NotRising")) (.ref (He.ga K "BadRatio")) = some false),
  fun K => decide (PySem.W.kitOne K (.ref (He.ga K "NotRising")) (.ref (He.ga K "NoStretch")) = some false),
  fun K => decide (PySem.W.kitOne K (.ref (He.ga K "NotRising")) (.ref (He.ga K "BadText")) = some false),
  fun K => decide (PySem.W.kitOne K (.ref (He.ga K "NotRising")) (.ref (He.ga K "BadView")) = some false),
  fun K => decide (PySem.W.kitOne K (.ref (He.ga K "NotRising")) (.ref (He.ga K "BadTerms")) = some false),
  fun K => decide (PySem.W.kitOne K (.ref (He.ga K "NotRising")) (.ref (He.ga K "NoTerms")) = some false),
  fun K => decide (PySem.W.kitOne K (.ref (He.ga K "NotRising")) (.ref (He.ga K "Unlike")) = some false),
  fun K => decide (PySem.W.kitOne K (.ref (He.ga K "NotRising")) (.type "ValueError") = some true),
  fun K => (He.Fa.noat "BadText" "line").ok K,
  fun K => (He.Fa.noat "BadText" "word").ok K,
  fun K => EM.oexB K (He.ga K "BadText"),
  fun K => EM.oinB K (He.ga K "BadText"),
  fun K => decide (PySem.W.exmOne K (.ref (He.ga K "BadText")) (.ref (He.ga K "BadText")) = some true)]
def fa8 : List EM.Fk := [fun K => decide (PySem.W.kitOne K (.type "int") (.ref (He.ga K "Ratio")) = some false),
  fun K => decide (PySem.W.kitOne K (.type "int") (.ref (He.ga K "Reading")) = some false),
  fun K => decide (PySem.W.kitOne K (.type "bool") (.ref (He.ga K "Ratio")) = some false),
  fun K => decide (PySem.W.kitOne K (.type "bool") (.ref (He.ga K "Reading")) = some false),
  fun K => decide (PySem.W.kitOne K (.type "NoneType") (.ref (He.ga K "Ratio")) = some false),
  fun K => decide (PySem.W.kitOne K (.type "NoneType") (.ref (He.ga K "Reading")) = some false),
  fun K => decide (PySem.W.kitOne K (.type "str") (.ref (He.ga K "Ratio")) = some false),
  fun K => decide (PySem.W.kitOne K (.type "str") (.ref (He.ga K "Reading")) = some false),
  fun K => decide (PySem.W.kitOne K (.type "tuple") (.ref (He.ga K "Ratio")) = some false),
  fun K => decide (PySem.W.kitOne K (.type "tuple") (.ref (He.ga K "Reading")) = some false),
  fun K => decide (PySem.W.kitOne K (.type "list") (.ref (He.ga K "Ratio")) = some false),
  fun K => decide (PySem.W.kitOne K (.type "list") (.ref (He.ga K "Reading")) = some false),
  fun K => decide (PySem.W.kitOne K (.type "dict") (.ref (He.ga K "Ratio")) = some false),
  fun K => decide (PySem.W.kitOne K (.type "dict") (.ref (He.ga K "Reading")) = some false),
  fun K => decide (PySem.W.kitOne K (.ref (He.ga K "Ratio")) (.type "int") = some false),
  fun K => decide (PySem.W.kitOne K (.ref (He.ga K "Ratio")) (.type "bool") = some false),
  fun K => decide (PySem.W.kitOne K (.ref (He.ga K "Ratio")) (.type "list") = some false),
  fun K => decide (PySem.W.kitOne K (.ref (He.ga K "Ratio")) (.type "tuple") = some false),
  fun K => decide (PySem.W.kitOne K (.ref (He.ga K "Reading")) (.type "int") = some false),
  fun K => decide (PySem.W.kitOne K (.ref (He.ga K "Reading")) (.type "bool") = some false)]
def fa9 : List EM.Fk := [fun K => decide (PySem.W.kitOne K (.ref (He.ga K "Reading")) (.type "list") = some false),
  fun K => decide (PySem.W.kitOne K (.ref (He.ga K "Reading")) (.type "tuple") = some false),
  fun K => decide (PySem.W.kitOne K (.ref (He.ga K "Mark")) (.type "list") = some false),
  fun K => decide (PySem.W.kitOne K (.ref (He.ga K "Mark")) (.type "tuple") = some false),
  fun K => decide (PySem.W.kitOne K (.ref (He.ga K "Reading")) (.type "str") = some false),
  fun K => EM.apartB K (He.ga K "Ratio"),
  fun K => EM.apartB K (He.ga K "Reading"),
  fun K => PySem.W.noSeq K (He.ga K "Reading"),
  fun K => PySem.W.fnIn K (He.ma K (He.ga K "Reading") "__getitem__"),
  fun K => decide (EM.tA K (He.ga K "_law_right") ≠ EM.tA K (He.ga K "law"))]
def fa : List EM.Fk := fa0 ++ fa1 ++ fa2 ++ fa3 ++ fa4 ++ fa5 ++ fa6 ++ fa7 ++ fa8 ++ fa9
def tf : List EM.Tf := [fun K => He.ga K "_law_right", fun K => He.ga K "law"]
end K12
namespace K12
open PySem PySem.Spec PyProof.Rows L2
abbrev R : PySem.W.OpenRow := PySem.W.OpenLaw.row PySem.Challenge.rw_edgesmeet_k12_readings_made
abbrev hk : PySem.W.Hook := EM.hookRT 2000 fa fn tf
def ob (s : PySem.W.SharedT) : He.AlD × Bool := EM.obsRTG 2000 fa fn tf (HandSHeadRun.getT s)
theorem ob_eq (s : PySem.W.SharedT) : ob s = hk.obs s.abs := EM.obsRTG_eq (HandSHeadRun.getT_eq s)
def nm0 : List PySem.Str := ["_wall", "__name__", "EdgeError", "BadRatio", "NoDivisor", "BadMark", "NoEdge", "Unlike", "BadReading", "NotRising", "NoStretch", "BadView", "BadTerms", "NoTerms", "BadText", "FIGURES", "is_figures", "MOST_DIGITS", "is_integer", "common_divisor", "Ratio", "numbers_of", "LEAST_EDGES", "MOST_EDGES", "is_edge_count", "need_edge", "edges_of", "edges_of_readings", "number_told", "moved"]
def nm1 : List PySem.Str := ["stretched", "turned_edges", "Reading", "MOST_WIDTH", "MOST_WIDTHS", "WIDTH_DIGITS", "is_between", "edges_of_marks", "Mark", "_law_pen", "_law_draw", "_law_pick", "_law_frac", "_law_sum", "_law_is_less", "_law_drawn", "_law_passed", "_law_is", "_law_are", "_law_row", "_law_heard", "_law_due", "_law_bent", "_law_by_args", "_law_right", "_law_alike_right"]
def names : List PySem.Str := nm0 ++ nm1
set_option maxHeartbeats 0 in
theorem run (w : World) : HandSHeadRun.RunEq R (PySem.W.view R.prog [62]) hk ob 20000 names w := by
  intro os
  kernel_rfl
end K12
/-! EM1: further rules over the hand layer: calls by positional promises, star calls, own operators, facts of the head by Bools. -/
namespace EM
open PySem PySem.Spec PyProof.Rows L2
/-! ### the Hook: facts as Bools of the written part -/
section
variable {fa : List Fk} {fn : List He5.DefA} {K : PySem.W.Frag}
theorem SaysF.fact (c : SaysF fa fn K) (i : Nat) {f : Fk} (h : fa[i]? = some f := by rfl) : f K = true := by
  have c1 := (He.ba (show ((fa.all fun f => f K) && fn.all fun d => d.ok K) = true from congrArg (fun z : He.AlD => z.1) c)).1
  exact List.all_eq_true.mp c1 f (List.mem_of_getElem? h)
theorem SaysF.def_ (c : SaysF fa fn K) (i : Nat) {d : He5.DefA} (h : fn[i]? = some d := by rfl) : ∃ fd, L2.FunD K d.name d.qual d.params d.body d.scope (d.dvs K) (d.kws K) (d.at_ K) fd := by
  have c2 := (He.ba (show ((fa.all fun f => f K) && fn.all fun d => d.ok K) = true from congrArg (fun z : He.AlD => z.1) c)).2
  have e : fn.map (fun d => He5.fnA K (d.at_ K)) = fn.map He5.DefA.val := congrArg (fun z : He.AlD => z.2) c
  have e2 : (fn.map fun d => He5.fnA K (d.at_ K))[i]? = (fn.map He5.DefA.val)[i]? := by rw [e]
  rw [List.getElem?_map, List.getElem?_map, h] at e2
  exact He5.DefA.funD (Option.some.inj e2) (List.all_eq_true.mp c2 d (List.mem_of_getElem? h))
end
/-! ### calls by a positional promise -/
def tCR (sp : Sp) (E : XK) (t : TA) : TE := fun σ H Q => t σ H fun vs H1 => sp vs H1 Q E
section
variable {X : Cx} {CX : CXT} {k : Nat} {f C : Addr} {sp : Sp} {E : XK} {x m : Str} {e o : Expr} {es : List Expr} {te ta : TE} {t : TA} {p sp_ pos apos : Pos}
/-- f(e, ..) -/
theorem pe_cR (F : FnR X.prog X.w X.K X.mg X.base CX k f sp) (hr : Room k X.A) (hk : PySem.W.keepIn X.K (.ref f) = true) (hm : X.mg x = some (.ref f)) (hx : Passes CX X E) (ha : PA X (e :: es) t) (hg : Gl X x := by rfl) (hd : (x == ("__debug__" : Str)) = false := by decide)
    (he : starEach (e :: es) X.env = (false, eval e X.env) :: starEach es X.env := by rfl) (hpl : (backTo pos (starEach es X.env)).any (·.1) = false := by rfl) :
    PE X (.Call (.Name x p) (e :: es) [] pos) (tCR sp E t) := by
  refine ⟨fun pins s σ H Q I h => ?_⟩
  refine wpAny_Call_Name_kw (ld_glob I hg hm ?_ hd)
  refine PySem.W.callWith_K (h₀ := X.base) I.ok.mod.kin hk (thn (ha.run pos pins s σ H _ I h) fun us s1 ⟨vs, H1, I1, r, q⟩ => ⟨I1.kIn, ?_⟩) he hpl
  exact wpAny_call (run_fnR F hr hx I1 r q)
/-- C( *y): an instance made with what a list or tuple holds -/
theorem pe_mkS1 (M : Mk X.K C f) (F : FnR X.prog X.w X.K X.mg X.base CX k f sp) (hr : Room (k + 1) X.A) (hm : X.mg x = some (.ref C)) (hx : Passes CX X E) (he : PE X e te) (hg : Gl X x := by rfl) (hd : (x == ("__debug__" : Str)) = false := by decide)
    (hst : starEach [.Starred e sp_] X.env = [(true, eval e X.env)] := by rfl) :
    PE X (.Call (.Name x p) [.Starred e sp_] [] pos) (StX.tMakeR C sp E (StX.tStar X.K te tNil)) := by
  refine ⟨fun pins s σ H Q I h => ?_⟩
  refine wpAny_Call_Name_kw (ld_glob I hg hm ?_ hd)
  refine PySem.W.callWith_S (h₀ := X.base) I.ok.mod.kin M.kp (thn (he.run pins s σ H _ I h) fun v s1 ⟨y, H1, I1, ry, a, xs, ey, hxs, q⟩ => ?_) hst
  subst ey
  obtain rfl : v = Value.ref a := ry
  refine StX.star_any I1 hxs fun us s2 I2 rv => ⟨I2.kIn, ?_⟩
  have q2 := (show ∀ x dx, H1 x = Option.none → H1 dx = Option.none → dx ≠ x → sp (V.ref x :: (xs ++ [])) (upd (upd H1 dx (.own x)) x (.ins C dx [])) (fun v H2 => v = .non ∧ Q (.ref x) H2) E from q)
  rw [List.append_nil] at q2
  exact StX.run_makeR M F hr hx I2 rv q2
end
/-! ### from a def of the text to its positional promise -/
section
variable {P : Program} {w : World} {K : PySem.W.Frag} {mg : Str → Option Value} {base : Heap} {x qual : Str} {params : Arguments} {body : List Stmt} {scope : Scope} {dvs : List V} {kws : List (Str × V)} {f : Addr} {fd : FuncData}
/-- what is asked of a def's body -/
def Bod (P : Program) (w : World) (K : PySem.W.Frag) (mg : Str → Option Value) (base : Heap) (N : List Str) (qual : Str) (scope : Scope) (f : Addr) (body : List Stmt) (k : Nat) (sp : Sp) : Prop :=
  ∀ (cdv : Value) (A : Around) (outer : List Env) (s : Shared) (H : Hp) (vs : List V) (Q : VK) (E : XK), Room k (A.deeper (envOfC qual scope s.heap.objs.size f cdv)) → sp vs H Q E →
      ∃ t, PSs (cxOf (L2.CX P w) P w K mg base N qual scope f cdv A outer s H E) body t ∧ t { nx := fun _ H' => Q .non H', rt := Q } (start N vs) H
/-- a def without defaults -/
theorem fnr {N ps : List Str} {k : Nat} {sp : Sp} (F : FunD K x qual params body scope [] kws f fd) (S : FnScope N ps scope)
    (hb : ∀ (kV doc pm : Value) (an : Option Addr) (cdv ct : Value) (us : List Value), us.length = ps.length → bindArgs (PySem.W.fnOf x qual params body scope .none kV doc pm an cdv ct) ⟨us, []⟩ = pure (ps.zip us))
    (len : ∀ vs H Q E, sp vs H Q E → vs.length = ps.length) (hbody : Bod P w K mg base N qual scope f body k sp) : FnR P w K mg base (L2.CX P w) (k + 1) f sp := by
  have G := FunD.ok (P := P) (w := w) (mg := mg) (base := base) (CX := L2.CX P w) F S len hbody
  have B := F.bindsN hb
  have R := FnOk.raw (dvs := []) (ds := []) G B .nil
  refine R.imp fun vs H Q E h => ?_
  rw [List.append_nil]
  exact h
/-- def f( *v) and def f(a, *v) -/
theorem fnr_star {N ps : List Str} {pv : Str} {k : Nat} {sp : Sp} (F : FunD K x qual params body scope [] kws f fd) (S : FnScope N (ps ++ [pv]) scope)
    (hb : ∀ (kV doc pm : Value) (an : Option Addr) (cdv ct : Value) (us rest : List Value), us.length = ps.length → bindArgs (PySem.W.fnOf x qual params body scope .none kV doc pm an cdv ct) ⟨us ++ rest, []⟩ = (newTuple rest >>= fun t => pure (ps.zip us ++ [(pv, t)])))
    (hbody : Bod P w K mg base N qual scope f body k sp) :
    FnR P w K mg base (L2.CX P w) (k + 1) f (fun vs H Q E => ∃ ws rest, vs = ws ++ rest ∧ ws.length = ps.length ∧ rest.length ≤ sizeLine ∧ ∀ T, H T = none → sp (ws ++ [V.ref T]) (upd H T (.tup rest)) Q E) := by
  obtain ⟨oc, od, dV, kV, doc, pm, an, cdv, ct, osl, e, l, c, hd, _⟩ := F.ex
  rcases hd with ⟨_, e2⟩ | ⟨e2, _⟩
  · subst e2
    subst e
    exact StX.fn_star (sp := sp) l c S StX.cxUp (hb kV doc pm an cdv ct) (hbody cdv)
  · exact absurd rfl e2
end
end EM
/-! EM2: own operators, enumerate of a tuple, != of lists. -/
namespace PySem.W
open PyProof.Rows
end PySem.W
namespace EM
open PySem PySem.Spec PyProof.Rows L2
/-! ### an instance with a dict, and what stands below it -/
section
variable {X : Cx} {pins : List (Addr × Obj)} {σ : L2.St} {H : Hp} {s : Shared} {a C dx : Addr} {fs : List (Str × V)}
theorem ins_at (I : Inv X pins σ H s) (h : H a = some (.ins C dx fs)) : ∃ ox od, PySem.W.InstAt s.heap a ox C (some od) ∧ ox.data = .plain := by
  obtain ⟨mA, O, _⟩ := ins_get I.hok h
  obtain ⟨od, J, _⟩ := O.look
  exact ⟨_, od, J, rfl⟩
end
/-- a one-place operator of the class's own -/
def rUnO (C : Addr) (sp : Sp) (E : XK) : V → Hp → VK → Prop := fun x H Q => ∃ a dx fs, x = .ref a ∧ H a = some (.ins C dx fs) ∧ sp [x] H Q E
section
variable {X : Cx} {CX : CXT} {n : Nat} {g C : Addr} {sp : Sp} {E : XK}
theorem un_negO (hs : PySem.W.findIn X.K (.ref C) "__neg__" = some (some (.ref g))) (hf : PySem.W.isFn X.K (.ref g) = true) (F : FnR X.prog X.w X.K X.mg X.base CX n g sp) (hr : Room n X.A) (hx : Passes CX X E) : UnR X (unaryOp .USub) (rUnO C sp E) := by
  intro pins s σ H x v Q I rx h
  obtain ⟨a, dx, fs, rfl, ha, q⟩ := h
  cases (show v = Value.ref a from rx)
  obtain ⟨ox, od, J, _⟩ := ins_at I ha
  obtain ⟨m, hF⟩ := I.fr
  exact PySem.W.ksp_neg hF I.ok.mod.kin J hs hf (wpAny_call (run_fnR (us := [.ref a]) (vs := [.ref a]) F hr hx I (.cons rfl .nil) q))
theorem notFirst_self {K : PySem.W.Frag} {C : Addr} : PySem.W.notFirst K C (.ref C) = true := by
  unfold PySem.W.notFirst
  simp
end
end EM
/-! EM3: enumerate of a tuple. -/
namespace PySem
open AutoSeq1 (wpAny_loadPart')
theorem em_enum_new1 {v : Value} {o : Obj} {H : Heap → Prop} (B : Begins v o H) :
    Meets (Builtin.«enumerate.__new__» ⟨[.type "enumerate", v], []⟩) (fun _ R s => H s.heap ∧
      R (.ok (.ret (.ref (s.heap.push o).objs.size))) { s with heap := (s.heap.push o).push { cls := .type "enumerate", data := .fields #[.none, .bool false, .ref s.heap.objs.size, rawInt 0, .none, .none] } }) :=
  .of_wp fun prog w A R s h => by
    obtain ⟨hp, g, d, tk, os⟩ := s; obtain ⟨h1, h⟩ := h
    have hsub := sub_enumerate
    have q1 : ∀ {A' : Around} {E : Value → Shared → Prop} {Q : Value → Shared → Prop}, Q (.ref hp.objs.size) ⟨hp.push o, g, d, tk, os⟩ → wpAny (model prog w) A' (pyIter v) Q E ⟨hp, g, d, tk, os⟩ :=
      fun q => B.iter prog w _ _ ⟨hp, g, d, tk, os⟩ _ h1 q
    wp_walk using q1
    refine wpAny_stack_any fun st => wpAny_pure ?_
    split
    · rename_i c _ _ _ _ _
      cases (c == Value.type "enumerate")
      · wp_walk using q1
        exact ⟨_, rfl, h⟩
      · wp_walk using q1
        exact ⟨_, rfl, h⟩
    · wp_walk using q1
      exact ⟨_, rfl, h⟩
section
variable {prog : Program} {w : World} {A : Around} {E : Value → Shared → Prop} {s : Shared}
theorem em_enum_begins {v : Value} {o : Obj} {H : Heap → Prop} {Q : Value → Shared → Prop} (B : Begins v o H) (h1 : H s.heap)
    (h : ∀ h', IsEnum h' (s.heap.objs.size + 1) s.heap.objs.size 0 .none → h'.get? s.heap.objs.size = some o → h'.objs.size = s.heap.objs.size + 2 →
      (∀ b o, s.heap.get? b = some o → h'.get? b = some o) → Q (.ref (s.heap.objs.size + 1)) { s with heap := h' }) :
    wpAny (model prog w) A (call (.type "enumerate") [v]) Q E s := by
  refine callType_new F.called_enumerate (by decide) (F.typeCall_enumerate_1 _) (F.newCall_enumerate_1 _) (fun obj => F.args_object_init_2 obj _) F.entry_enumerate_new
    (em_enum_new1 B) ⟨h1, ?_⟩
  have hz : (s.heap.push o).objs.size = s.heap.objs.size + 1 := Heap.size_push ..
  show _ ∧ _
  rw [hz]
  have he : IsEnum ((s.heap.push o).push { cls := .type "enumerate", data := .fields #[.none, .bool false, .ref s.heap.objs.size, rawInt 0, .none, .none] }) (s.heap.objs.size + 1) s.heap.objs.size 0 .none := by
    have := Heap.get?_push_size (s.heap.push o) (o := { cls := .type "enumerate", data := .fields #[.none, .bool false, .ref s.heap.objs.size, rawInt 0, .none, .none] }) rfl
    rw [hz] at this; exact this
  exact ⟨⟨_, he, rfl⟩, h _ he (Heap.get?_push_of_some _ (Heap.get?_push_size _ B.free)) (by rw [Heap.size_push, hz]) fun b o x => Heap.get?_push_of_some _ (Heap.get?_push_of_some _ x)⟩
end
end PySem
namespace EM
open PySem PySem.Spec PyProof.Rows L2
def IteT (K : PySem.W.Frag) (a : Addr) : It :=
  ⟨fun i H => ∃ (xs : List V) (x : V), SqT K H a xs ∧ xs[i]? = some x, fun i H v H' => ∃ T x, v = .ref T ∧ H T = none ∧ H' = upd H T (.tup [.int (i : Nat), x]) ∧ ∀ xs, SqT K H a xs → xs[i]? = some x, fun i H => ∃ xs : List V, SqT K H a xs ∧ xs.length ≤ i⟩
theorem turn_enumT {P : Program} {w : World} {K : PySem.W.Frag} {elts : List Expr} {kk : Nat} {tpos : Pos} (a e it : Addr) :
    Turn P w K (.Tuple elts kk tpos) (IteT K a) [e, it] e (fun i h => (∃ old, IsEnum h e it ((i : Nat) : Int) old) ∧ h.IsTupleIter it a i ∧ e ≠ it ∧ a ≠ it ∧ e ≠ a) where
  mem := by simp
  obj := fun i h st b hb => by
    obtain ⟨⟨old, he⟩, ⟨o, ho, hc, hd⟩, _⟩ := st
    have e' : b = e ∨ b = it := by simpa using hb
    rcases e' with z | z
    · rw [z]; exact ⟨_, he, fun v q => nomatch q⟩
    · rw [z]; exact ⟨o, ho, fun v q => by rw [hd] at q; cases q⟩
  keep := fun i h h' st k => let ⟨⟨old, he⟩, hi, hne⟩ := st; ⟨⟨old, k e (by simp) _ he⟩, hi.at fun o q => k it (by simp) o q, hne⟩
  item := by
    intro X hP hw hK hc i pins s σ H E I hf st hg
    subst hP hw hK
    obtain ⟨⟨old, he⟩, hit, hne, hai, hea⟩ := st
    obtain ⟨xs, x, hq, hx⟩ := hg
    obtain ⟨its, rv, p, hz⟩ := I.tuple hq
    obtain ⟨u, hu, ru⟩ := rv.get hx
    have hil2 : i < its.toArray.size := by
      have := (List.getElem?_eq_some_iff.mp hu).1
      simpa using this
    have hel : e < s.heap.objs.size := Heap.lt_size he
    have hil : it < s.heap.objs.size := by obtain ⟨_, q, _⟩ := hit; exact Heap.lt_size q
    have D := Draws.tuple (prog := X.prog) (w := X.w) (A := X.A.in1) (I.ok.hd hc) it a hai its.toArray
    refine wpAny_pyNext_enum_itemD D he ⟨hit, p⟩ hil2 hne (by simp [hne, hea]) fun y h' tk hy ho hst' hT hsz hk => ?_
    have ey : y = u := by
      have h1 : its.toArray[i]? = some u := by simpa using hu
      have h2 : its.toArray[i]? = some y := hy
      rw [h1] at h2
      exact (Option.some.inj h2).symm
    subst ey
    obtain ⟨hit', _⟩ := hst'
    refine ⟨_, rfl, wpAny_letOwnedTupleGo_enum (s := { s with heap := h', toks := tk + 1 }) ho fun h'' he' sb => ?_⟩
    have hT2 : h''.get? s.heap.objs.size = some { cls := .type "tuple", data := .seq #[.int i tk, y] } := (sb.2 _ (Nat.ne_of_gt hel)).trans hT
    have new : ObjOk X.prog X.w (upd H s.heap.objs.size (.tup [.int (i : Nat), x])) h'' s.heap.objs.size (.tup [.int (i : Nat), x]) :=
      ⟨by show 2 ≤ sizeLine; decide, [.int i tk, y], .cons ⟨_, rfl⟩ (.cons ru .nil), ⟨_, hT2, rfl, _, rfl⟩⟩
    have I1 : Inv X pins σ (upd H s.heap.objs.size (.tup [.int (i : Nat), x])) { s with heap := h'', toks := tk + 1 } :=
      I.turnedNew (ch := [e, it]) (fun b ob hb q => (sb.2 b (fun z => hb (by simp [z]))).trans (hk b ob (fun z => hb (by simp [z])) (fun z => hb (by simp [z])) q)) hf (Nat.le_refl _) new
    refine ⟨.ref s.heap.objs.size, _, I1, rfl, ⟨_, x, rfl, I.hok.fresh (Nat.le_refl _), rfl, fun ys hy => by rw [I.tuple_inj hy hq]; exact hx⟩, ⟨⟨y, ?_⟩, hit'.at fun o q => (sb.2 it (Ne.symm hne)).trans q, hne, hai, hea⟩, fun b hb => ?_⟩
    · have e1 : ((i + 1 : Nat) : Int) = (i : Int) + 1 := by omega
      rw [e1]; exact he'
    · have hb' : b < s.heap.objs.size := by
        have e' : b = e ∨ b = it := by simpa using hb
        rcases e' with z | z
        · rw [z]; exact hel
        · rw [z]; exact hil
      rw [upd_ne (Nat.ne_of_lt hb')]
      exact (hf b hb).1
  done := by
    intro X hP hw hK hc i pins s σ H E I hf st hg
    subst hP hw hK
    obtain ⟨⟨old, he⟩, hit, hne, hai, hea⟩ := st
    obtain ⟨xs, hq, hx⟩ := hg
    obtain ⟨its, rv, p, hz⟩ := I.tuple hq
    obtain ⟨f0, f1, f2, f3, f4, f5⟩ := hf it (by simp)
    have hl := rv.length
    have hT : s.TypeIs (.ref e) "enumerate" := ⟨_, he, rfl⟩
    unfold pyNext
    refine wpAny_bind (wpAny_attempt (wpAny_callSpecial?_slot (name := Str.ofString "__next__") hT F.slot_enumerate_next
      (wpAny_call_entry F.slot_enumerate_next hT F.entry_enumerate_next ?_ (F.args_enumerate_next_1 _))))
    show wpAny _ _ (field (.ref e) 2 >>= _) _ _ _
    refine wpAny_bind (wpAny_field he rfl (x := .ref it) rfl ?_)
    refine wpAny_bind (wpAny_nextOf_tuple_end (I.ok.hd hc) hit p (by simp; omega) fun h' x he' hx' => ?_)
    obtain ⟨o, ho, hc'⟩ := hx'
    refine wpAny_bind (wpAny_isInstance (T := "StopIteration") (b := true) ⟨o, ho, hc'⟩ isSubtype_stop ?_)
    exact wpAny_pure ⟨rfl, I.turned (t' := s.toks) (fun b o hb q => he' b o hb q) f0 f1 f3 f4 f5⟩
  self := fun A i s Q E st h => let ⟨⟨_, he⟩, _⟩ := st; wpAny_pyIter_enum he h
def iEnumT (K : PySem.W.Frag) (ta : TA) : TI := fun σ H R => ta σ H fun vs H1 => ∃ a xs, vs = [.ref a] ∧ SqT K H1 a xs ∧ R (IteT K a) H1
theorem pi_enumT {X : Cx} {e : Expr} {ta : TA} {p pos tpos : Pos} {elts : List Expr} {kk : Nat} (hg : Gl X "enumerate") (hm : X.mg "enumerate" = none) (ha : PA X [e] ta) (hs : starEach [e] X.env = [(false, eval e X.env)] := by rfl) :
    PI X (.Tuple elts kk tpos) (.Call (.Name "enumerate" p) [e] [] pos) (iEnumT X.K ta) := by
  refine ⟨fun pins s σ H R I h => ?_⟩
  refine Call_ (ld_blt I hg hm boot_enumerate (PyProof.Rows.callWith_type1 (thn (ha.run pos pins s σ H _ I h) fun us s1 ⟨vs, H1, I1, r1, q1⟩ => ?_) hs rfl))
  obtain ⟨a, xs, ex, hq, q⟩ := q1
  subst ex
  cases r1 with
  | cons r rr =>
    cases rr
    cases r
    obtain ⟨its, rv, p', hz⟩ := I1.tuple hq
    have hal : a < s1.heap.objs.size := by obtain ⟨_, q, _⟩ := p'; exact Heap.lt_size q
    refine em_enum_begins (begins_tuple a its.toArray) p' fun h' he hit hsz hk => wpAny_pyIter_enum he ?_
    have I2 : Inv X pins σ H1 { s1 with heap := h' } := I1.kept (t' := s1.toks) hk
    refine ⟨s1.heap.objs.size + 1, [s1.heap.objs.size + 1, s1.heap.objs.size], _, _, H1, rfl, I2, turn_enumT a (s1.heap.objs.size + 1) s1.heap.objs.size, ⟨⟨.none, he⟩, ⟨_, hit, rfl, rfl⟩, Nat.succ_ne_self _, Nat.ne_of_lt hal, Nat.ne_of_gt (Nat.lt_succ_of_lt hal)⟩, fun b hb => ?_, q⟩
    have e' : b = s1.heap.objs.size + 1 ∨ b = s1.heap.objs.size := by simpa using hb
    have hle : s1.heap.objs.size ≤ b := by
      rcases e' with z | z
      · rw [z]; exact Nat.le_add_right _ _
      · rw [z]; exact Nat.le_refl _
    exact I1.fpOk hle (I1.hok.fresh hle)
theorem walk_enumT {K : PySem.W.Frag} {a : Addr} {xs : List V} : Walk (IteT K a) xs.length (fun H => SqT K H a xs) (YPair (fun i => some (.int (i : Nat))) (fun i => xs[i]?)) :=
  ⟨fun i H hi g => ⟨xs, xs[i], g, List.getElem?_eq_getElem hi⟩, fun H g => ⟨xs, g, Nat.le_refl _⟩, fun i H x H' hi g ⟨T, y, e1, e2, e3, e4⟩ => ⟨T, .int (i : Nat), y, e1, e2, e3, rfl, e4 xs g⟩⟩
end EM
/-! EM4: calls with keywords, defaults, != of lists of the same objects, xs[::-1] of a tuple. -/
namespace EM
open PySem PySem.Spec PyProof.Rows L2
/-! ### keywords -/
abbrev Sp2 := List V → List V → Hp → VK → XK → Prop
def FnK (P : Program) (w : World) (K : PySem.W.Frag) (mg : Str → Option Value) (base : Heap) (CX : CXT) (k : Nat) (f : Addr) (ks : List Str) (sp : Sp2) : Prop :=
  ∀ (A : Around) (outer : List Env) (s : Shared) (H : Hp) (us ws : List Value) (vs zs : List V) (Q : VK) (E : XK), Room k A → Env0 P w K mg base A outer s H → Vals vs us → Vals zs ws → sp vs zs H Q E →
    codeAny (model P w) A (.call (.ref f) ⟨us, ks.zip ws⟩) (CR CX outer P w H s Q E) s
section
variable {P : Program} {w : World} {K : PySem.W.Frag} {mg : Str → Option Value} {base : Heap} {CX : CXT} {k n : Nat} {f : Addr} {fd : FuncData} {ps ks : List Str} {sp : Sp} {g : List Value → List Value → List Value} {gV : List V → List V → List V}
theorem fnk_of (F : FnOk P w K mg base CX k f fd ps sp) (hb : KBn K fd ps n ks g gV) : FnK P w K mg base CX k f ks (fun vs zs H Q E => vs.length = n ∧ zs.length = ks.length ∧ sp (gV vs zs) H Q E) := by
  intro A outer s H us ws vs zs Q E hr e0 r rz ⟨l1, l2, h⟩
  have r2 := hb.rel r rz
  have b := hb.to s us ws (e0.mod.kin.keeps fun b o e => (e0.bs b o e).1) (by rw [← r.length]; exact l1) (by rw [← rz.length]; exact l2)
  exact F.run A outer s H ⟨us, ks.zip ws⟩ (g us ws) (gV vs zs) Q E hr e0 b r2 h
end
/-! ### a def with defaults, called by position -/
section
variable {P : Program} {w : World} {K : PySem.W.Frag} {mg : Str → Option Value} {base : Heap} {x qual : Str} {params : Arguments} {body : List Stmt} {scope : Scope} {dvs : List V} {kws : List (Str × V)} {f : Addr} {fd : FuncData}
/-- n values are written, the defaults behind the first j fill up -/
theorem fnr_dfl {N ps : List Str} {k : Nat} {sp : Sp} (n j : Nat) (F : FunD K x qual params body scope dvs kws f fd) (S : FnScope N ps scope) (hd : dvs ≠ []) (hn : n + (dvs.length - j) = ps.length)
    (h : ∀ (T : Addr) (kV doc pm : Value) (an : Option Addr) (cdv ct : Value) (us its : List Value), us.length = n → its.length = dvs.length →
      ∃ k, bindArgs (PySem.W.fnOf x qual params body scope (.ref T) kV doc pm an cdv ct) ⟨us, []⟩ = seqItems? (.ref T) >>= k ∧ k (some its.toArray) = pure (ps.zip (us ++ its.drop j)))
    (len : ∀ vs H Q E, sp vs H Q E → vs.length = ps.length) (hbody : Bod P w K mg base N qual scope f body k sp) : FnR P w K mg base (L2.CX P w) (k + 1) f (fun vs H Q E => sp (vs ++ dvs.drop j) H Q E) := by
  have G := FunD.ok (P := P) (w := w) (mg := mg) (base := base) (CX := L2.CX P w) F S len hbody
  obtain ⟨ds, hv, B⟩ := F.binds1 n j hd hn h
  exact FnOk.raw G B hv
end
end EM
/-! ### != of two lists whose items are equal -/
namespace EM
open PySem PySem.Spec PyProof.Rows L2
end EM
/-! EM5: t[::-1] of a tuple. -/
namespace EM
open PySem PySem.Spec PyProof.Rows L2
end EM
/-! EM6: constants of the module, facts of a class as Bools, heaps. -/
namespace EM
open PySem PySem.Spec PyProof.Rows L2
section
variable {X : Cx} {x : Str} {i : Int} {z : Str} {pos : Pos}
theorem pe_gI (hm : ∃ t, X.mg x = some (.int i t)) (hg : Gl X x := by rfl) (hd : (x == ("__debug__" : Str)) = false := by decide) : PE X (.Name x pos) (tC (.int i)) := by
  obtain ⟨t, h⟩ := hm
  exact pe_glob hg h ⟨t, rfl⟩ hd
theorem pe_gS (hm : ∃ t, X.mg x = some (.str z t)) (hg : Gl X x := by rfl) (hd : (x == ("__debug__" : Str)) = false := by decide) : PE X (.Name x pos) (tC (.str z)) := by
  obtain ⟨t, h⟩ := hm
  exact pe_glob hg h ⟨t, rfl⟩ hd
end
/-! ### facts of a class -/
theorem isiB_ty {K : PySem.W.Frag} {C : Addr} (c : isiB K C = true) (cl : Cls K C) {H : Hp} {a dx : Addr} {fs : List (Str × V)} (e : H a = some (.ins C dx fs)) : TyX K H (.ref a) (.ref C) := by
  obtain ⟨c1, c⟩ := He.ba c
  obtain ⟨c2, c⟩ := He.ba c
  obtain ⟨c3, c4⟩ := He.ba c
  exact .base (.ins e cl (He.eqO_ok c1) (He.eqO_ok c2) (of_decide_eq_true c3) (of_decide_eq_true c4))
theorem creadB_ok {K : PySem.W.Frag} {C : Addr} (c : creadB K C = true) : ClX.CRead K C (.type "type") := by
  obtain ⟨c1, c2⟩ := He.ba c
  exact ⟨c1, He.eqO_ok c2⟩
theorem cmetB_ok {K : PySem.W.Frag} {C : Addr} {m : Str} (c : cmetB K C m = true) : ClX.CMet K C (.type "type") m (He.ma K C m) (He5.wf K C "classmethod" m) := by
  obtain ⟨c1, c2⟩ := He.ba c
  exact He5.cmet_of c1 c2
/-! ### heaps -/
theorem same_upd {H : Hp} {p : Addr} {o : HO} (h : H p = none) : Same H (upd H p o) := fun b u e => by
  rw [upd_ne (ne_of_none e h)]
  exact e
theorem same_upd' {H H1 : Hp} {p : Addr} {o : HO} (e : Same H H1) (h : H p = none) : Same H (upd H1 p o) := fun b u ha => by
  rw [upd_ne (ne_of_none ha h)]
  exact e b u ha
theorem _root_.L2.Same.sqT {K : PySem.W.Frag} {H H' : Hp} {a : Addr} {xs : List V} (e : Same H H') (h : SqT K H a xs) : SqT K H' a xs := Evl.ex_t e h
theorem atI_m {α : Type} {xs : List α} {v : α} {i : Int} {j : Nat} (h : i + (xs.length : Int) = (j : Int)) (h0 : i < 0) (e : xs[j]? = some v) : atI xs i = some v := by
  have hj : j < xs.length := (List.getElem?_eq_some_iff.mp e).1
  have q : ixN xs.length i = some j := by
    unfold ixN
    rw [if_neg (by omega)]
    have : (i + (xs.length : Int)).toNat = j := by omega
    first
      | (rw [if_pos (by omega), this])
      | (split <;> simp_all <;> omega)
  unfold atI
  rw [q]
  exact e
theorem kII {K : PySem.W.Frag} : PySem.W.kitOne K (.type "int") (.type "int") = some true := kit_ty (by decide +kernel)
theorem kIB {K : PySem.W.Frag} : PySem.W.kitOne K (.type "int") (.type "bool") = some false := kit_ty (by decide +kernel)
theorem ifN {c : Bool} {A B : Prop} (h : c = false) (q : B) : if c = true then A else B := by
  rw [h, if_neg Bool.false_ne_true]
  exact q
theorem ifP {c : Bool} {A B : Prop} (h : c = true) (q : A) : if c = true then A else B := by
  rw [if_pos h]
  exact q
theorem yes {σ : L2.St} {H : Hp} {A B : Hp → Prop} (h : A H) : tYes σ H (fun b H3 => if b = true then A H3 else B H3) := by
  show if true = true then A H else B H
  rw [if_pos rfl]
  exact h
theorem dVi {a b : Int} : decide (V.int a = V.int b) = decide (a = b) := by
  by_cases h : a = b
  · subst h; simp
  · have : ¬ V.int a = V.int b := fun q => h (V.int.inj q)
    rw [decide_eq_false h, decide_eq_false this]
theorem cut_from (xs : List V) (j : Nat) (h : j ≤ xs.length) : cutV xs (some (j : Int)) none = xs.drop j := by
  unfold cutV
  have e1 : HT.sIx xs.length 0 (some (j : Int)) = j := by
    show (if (j : Int) < 0 then ((j : Int) + (xs.length : Int)).toNat else min (j : Int).toNat xs.length) = j
    rw [if_neg (by omega)]
    omega
  have e2 : HT.sIx xs.length xs.length none = xs.length := rfl
  rw [e1, e2]
  exact List.take_of_length_le (by rw [List.length_drop]; exact Nat.le_refl _)
theorem sz {n : Nat} (h : n ≤ 100000) : n ≤ sizeLine := Nat.le_trans h (by decide)
theorem szl {n : Nat} (h : n < 100000) : n < sizeLine := Nat.lt_of_lt_of_le h (by decide)
/-! ### data of ints, at any depth -/
theorem dp_ints {K : PySem.W.Frag} {H : Hp} : ∀ ns : List Int, DpAll K H (ns.map V.int) (ns.map PyData.int)
  | [] => .nil
  | n :: r => .cons (.int n) (dp_ints r)
theorem lay_ints : ∀ ns : List Int, PyData.canLayAll0 (ns.map PyData.int) = true
  | [] => rfl
  | n :: r => by
    show (PyData.canLay0 (.int n) && PyData.canLayAll0 (r.map PyData.int)) = true
    rw [lay_ints r]
    rfl
theorem dep_ints : ∀ ns : List Int, PyData.depthAll (ns.map PyData.int) = 0
  | [] => rfl
  | n :: r => by
    show max (PyData.depth (.int n)) (PyData.depthAll (r.map PyData.int)) = 0
    rw [dep_ints r]
    rfl
theorem eqv_ints : ∀ ns ms : List Int, PyData.eqvAll (ns.map PyData.int) (ms.map PyData.int) = decide (ns = ms)
  | [], [] => by simp [PyData.eqvAll]
  | [], m :: r => by simp [PyData.eqvAll]
  | n :: r, [] => by simp [PyData.eqvAll]
  | n :: r, m :: q => by
    show (PyData.eqv (.int n) (.int m) && PyData.eqvAll (r.map PyData.int) (q.map PyData.int)) = _
    rw [eqv_ints r q]
    show ((n == m) && decide (r = q)) = _
    by_cases h : n = m
    · subst h
      by_cases h2 : r = q
      · subst h2; simp
      · simp [h2]
    · simp [h]
abbrev dL (ns : List Int) : PyData := .list (ns.map PyData.int)
theorem shL (ns : List Int) : SeqAt.shaped (dL ns) = true := by
  unfold SeqAt.shaped
  rw [show (dL ns).canLay0 = PyData.canLayAll0 (ns.map PyData.int) from rfl, lay_ints, show (dL ns).depth = PyData.depthAll (ns.map PyData.int) + 1 from rfl, dep_ints]
  rfl
theorem eqvL (ns ms : List Int) : PyData.eqv (dL ns) (dL ms) = decide (ns = ms) := eqv_ints ns ms
/-! ### a for over a list or a tuple -/
section
variable {X : Cx} {tg : Expr}
def iSeq (tl : TE) : TI := fun σ H R => tl σ H fun x H1 => ∃ a xs, x = .ref a ∧ (H1 a = some (.lst xs) ∨ H1 a = some (.tup xs)) ∧ ∀ J, Walk J xs.length (fun H' => H' a = H1 a) (YAt xs) → R J H1
theorem pi_seq {l : Expr} {tl : TE} (hl : PE X l tl) : PI X tg l (iSeq tl) := by
  refine ⟨fun pins s σ H R I h => ?_⟩
  refine thn (hl.run pins s σ H _ I h) fun v s1 ⟨x, H1, I1, r1, q1⟩ => ?_
  obtain ⟨a, xs, e, hq, q⟩ := q1
  subst e
  cases r1
  rcases hq with hq | hq
  · have q := q _ ((walk_list (K := X.K) (a := a) (xs := xs)).mono (fun H' e => SqL.of (e.trans hq)) fun _ _ _ _ _ _ y => y)
    obtain ⟨its, rv, p, hz⟩ := I1.list (SqL.of hq)
    refine wpAny_pyIter_list p.isList ?_
    refine ⟨s1.heap.objs.size, [s1.heap.objs.size], _, _, H1, rfl, I1.kept (t' := s1.toks) fun b o e => Heap.get?_push_of_some _ e, turn_list a _, ⟨_, Heap.get?_push_size _ rfl, rfl, rfl⟩, fun b hb => ?_, q⟩
    have e : b = s1.heap.objs.size := by simpa using hb
    subst e
    exact I1.fpOk (Nat.le_refl _) (I1.hok.fresh (Nat.le_refl _))
  · have q := q _ ((walk_tup (K := X.K) (a := a) (xs := xs)).mono (fun H' e => SqT.of (e.trans hq)) fun _ _ _ _ _ _ y => y)
    obtain ⟨its, rv, p, hz⟩ := I1.tuple (SqT.of hq)
    refine wpAny_pyIter_tuple (show s1.heap.IsTuple a its.toArray from p) ?_
    refine ⟨s1.heap.objs.size, [s1.heap.objs.size], _, _, H1, rfl, I1.kept (t' := s1.toks) fun b o e => Heap.get?_push_of_some _ e, turn_tuple a _, ⟨_, Heap.get?_push_size _ rfl, rfl, rfl⟩, fun b hb => ?_, q⟩
    have e : b = s1.heap.objs.size := by simpa using hb
    subst e
    exact I1.fpOk (Nat.le_refl _) (I1.hok.fresh (Nat.le_refl _))
end
theorem walk_zipT {K : PySem.W.Frag} {a b : Addr} {xs ys : List V} {n : Nat} (hn : n = min xs.length ys.length) : Walk (RZ.ItzT K a b) n (fun H => SqT K H a xs ∧ SqT K H b ys) (YPair (fun i => xs[i]?) (fun i => ys[i]?)) :=
  ⟨fun i H hi g => ⟨xs, ys, xs[i]'(by omega), ys[i]'(by omega), g.1, g.2, List.getElem?_eq_getElem (by omega), List.getElem?_eq_getElem (by omega)⟩,
   fun H g => ⟨xs, ys, g.1, g.2, by omega⟩, fun i H x H' hi g ⟨T, x1, y1, e1, e2, e3, e4, e5⟩ => ⟨T, x1, y1, e1, e2, e3, e4 xs g.1, e5 ys g.2⟩⟩
end EM
namespace PySem.W
open PyProof.Rows
end PySem.W
namespace EM
open PySem PySem.Spec PyProof.Rows L2
end EM
/-! EM7: defs called where no repr is under way (guards), repr of data. -/
namespace EM
open PySem PySem.Spec PyProof.Rows L2
/-- a promise by positional values, where no container is being shown -/
def FnG (P : Program) (w : World) (K : PySem.W.Frag) (mg : Str → Option Value) (base : Heap) (CX : CXT) (k : Nat) (f : Addr) (sp : Sp) : Prop :=
  ∀ (A : Around) (outer : List Env) (s : Shared) (H : Hp) (us : List Value) (vs : List V) (Q : VK) (E : XK), Room k A → A.guards = some [] → Env0 P w K mg base A outer s H → Vals vs us → sp vs H Q E →
    codeAny (model P w) A (.call (.ref f) ⟨us, []⟩) (CR CX outer P w H s Q E) s
section
variable {X : Cx} {CX : CXT} {k : Nat} {f C : Addr} {sp : Sp} {E : XK} {x m : Str} {e o : Expr} {es : List Expr} {te ta : TE} {t : TA} {p sp_ pos apos : Pos}
theorem run_fnG {pins : List (Addr × Obj)} {σ : L2.St} {H : Hp} {s : Shared} {Q : VK} {us : List Value} {vs : List V} (F : FnG X.prog X.w X.K X.mg X.base CX k f sp) (hr : Room k X.A) (hG : X.A.guards = some []) (hx : Passes CX X E) (I : Inv X pins σ H s) (r : Vals vs us) (h : sp vs H Q E) :
    wpAny (model X.prog X.w) X.A (call (.ref f) us) (EP X pins σ Q) X.xe s := by
  refine wpAny_call (codeAny_mono (F X.A X.stack s H us vs Q E hr hG I.env0 r h) fun r s' hq => ?_)
  cases r with
  | error e => exact hx pins σ H s e s' I hq
  | ok fl =>
    cases fl with
    | ret u => exact I.after hq
    | next => exact False.elim hq
    | brk => exact False.elim hq
    | cont => exact False.elim hq
/-- f(e, ..) -/
theorem pe_cG (F : FnG X.prog X.w X.K X.mg X.base CX k f sp) (hr : Room k X.A) (hG : X.A.guards = some []) (hk : PySem.W.keepIn X.K (.ref f) = true) (hm : X.mg x = some (.ref f)) (hx : Passes CX X E) (ha : PA X (e :: es) t) (hg : Gl X x := by rfl) (hd : (x == ("__debug__" : Str)) = false := by decide)
    (he : starEach (e :: es) X.env = (false, eval e X.env) :: starEach es X.env := by rfl) (hpl : (backTo pos (starEach es X.env)).any (·.1) = false := by rfl) :
    PE X (.Call (.Name x p) (e :: es) [] pos) (tCR sp E t) := by
  refine ⟨fun pins s σ H Q I h => ?_⟩
  refine wpAny_Call_Name_kw (ld_glob I hg hm ?_ hd)
  refine PySem.W.callWith_K (h₀ := X.base) I.ok.mod.kin hk (thn (ha.run pos pins s σ H _ I h) fun us s1 ⟨vs, H1, I1, r, q⟩ => ⟨I1.kIn, ?_⟩) he hpl
  exact run_fnG F hr hG hx I1 r q
end
section
variable {P : Program} {w : World} {K : PySem.W.Frag} {mg : Str → Option Value} {base : Heap} {x qual : Str} {params : Arguments} {body : List Stmt} {scope : Scope} {kws : List (Str × V)} {f : Addr} {fd : FuncData}
def BodG (P : Program) (w : World) (K : PySem.W.Frag) (mg : Str → Option Value) (base : Heap) (N : List Str) (qual : Str) (scope : Scope) (f : Addr) (body : List Stmt) (k : Nat) (sp : Sp) : Prop :=
  ∀ (cdv : Value) (A : Around) (outer : List Env) (s : Shared) (H : Hp) (vs : List V) (Q : VK) (E : XK), Room k (A.deeper (envOfC qual scope s.heap.objs.size f cdv)) → (A.deeper (envOfC qual scope s.heap.objs.size f cdv)).guards = some [] → sp vs H Q E →
      ∃ t, PSs (cxOf (L2.CX P w) P w K mg base N qual scope f cdv A outer s H E) body t ∧ t { nx := fun _ H' => Q .non H', rt := Q } (start N vs) H
/-- a def without defaults -/
theorem fng {N ps : List Str} {k : Nat} {sp : Sp} (F : FunD K x qual params body scope [] kws f fd) (S : FnScope N ps scope)
    (hb : ∀ (kV doc pm : Value) (an : Option Addr) (cdv ct : Value) (us : List Value), us.length = ps.length → bindArgs (PySem.W.fnOf x qual params body scope .none kV doc pm an cdv ct) ⟨us, []⟩ = pure (ps.zip us))
    (len : ∀ vs H Q E, sp vs H Q E → vs.length = ps.length) (hbody : BodG P w K mg base N qual scope f body k sp) : FnG P w K mg base (L2.CX P w) (k + 1) f sp := by
  obtain ⟨oc, od, dV, kV, doc, pm, an, cdv, ct, osl, e, l, c, hd, _⟩ := F.ex
  rcases hd with ⟨_, e2⟩ | ⟨e2, _⟩
  · subst e2
    subst e
    intro A outer s H us vs Q E hr hG e0 r h
    have hl := len vs H Q E h
    refine StX.run_bnd (G := fun vs' H' => vs' = vs ∧ H' = H) l c S hr e0 (fun A' Ex Q' hQ => ?_) (fun s2 H2 vs2 hg2 hr2 => ?_)
    · rw [hb kV doc pm an cdv ct us (by rw [← r.length]; exact hl)]
      exact wpAny_pure (hQ s H vs us e0 Un.refl rfl (fun _ _ z => z) r hl ⟨rfl, rfl⟩)
    · obtain ⟨rfl, rfl⟩ := hg2
      exact hbody cdv A outer s2 H2 vs2 Q E hr2 hG h
  · exact absurd rfl e2
end
/-! ### repr of data -/
mutual
theorem dp_nodict {K : PySem.W.Frag} {H : Hp} : ∀ (d : PyData) (v : V), Dp K H v d → d.hasDict = false
  | .none, _, _ => rfl
  | .bool _, _, _ => rfl
  | .int _, _, _ => rfl
  | .str _, _, _ => rfl
  | .list ds, _, h => by
    cases h with
    | lst _ h => exact dp_nodictAll ds _ h
  | .tuple ds, _, h => by
    cases h with
    | tup _ h => exact dp_nodictAll ds _ h
  | .dict _, _, h => by cases h
theorem dp_nodictAll {K : PySem.W.Frag} {H : Hp} : ∀ (ds : List PyData) (vs : List V), DpAll K H vs ds → PyData.hasDictAll ds = false
  | [], _, _ => rfl
  | d :: ds, _, h => by
    cases h with
    | cons h1 h2 =>
      show (d.hasDict || PyData.hasDictAll ds) = false
      rw [dp_nodict d _ h1, dp_nodictAll ds _ h2]
      rfl
end
def rRepr (K : PySem.W.Frag) : List V → Hp → VK → Prop := fun xs H Q => ∃ (x : V) (d : PyData), xs = [x] ∧ Dp K H x d ∧ d.showable = true ∧ d.shown.length ≤ sizeLine ∧ d.depth ≤ 64 ∧ Q (.str d.shown) H
section
variable {X : Cx}
theorem call_reprD (hG : X.A.guards = some []) (hu : X.A.units + 70 < cLine) : CallR X (.builtin "repr") (rRepr X.K) := by
  intro pins s σ H xs us Q I r h
  obtain ⟨x, d, rfl, hd, hs, hz, hdep, q⟩ := h
  cases r with
  | cons rx rr =>
    cases rr
    rename_i u
    obtain ⟨as, rd⟩ := Dp.reads I d x u hd rx
    have nd := dp_nodict d x hd
    cases hd with
    | non =>
      cases rx
      exact PySem.P.repr_of_none ⟨.str _, H, I.tok _, ⟨_, rfl⟩, q⟩
    | bl b =>
      cases rx
      refine PySem.P.repr_of_bool ⟨.str _, H, I.tok _, ⟨_, rfl⟩, ?_⟩
      cases b <;> exact q
    | int i =>
      obtain ⟨t, rfl⟩ := rx
      refine PySem.P.repr_of_int (of_decide_eq_true hs) ⟨.str _, H, I.tok _, ⟨_, rfl⟩, q⟩
    | str z =>
      obtain ⟨t, rfl⟩ := rx
      exact PySem.P.repr_of_str ⟨.str _, H, I.tok _, ⟨_, rfl⟩, q⟩ hz
    | lst hx hds =>
      cases rx
      exact repr_of_reads' rd hs (fun z => by rw [nd] at z; cases z) hG (by omega) (fun _ _ e => e) (fun h' u tk hk => ⟨.str _, H, I.kept hk, ⟨_, rfl⟩, q⟩) hz
    | tup hx hds =>
      cases rx
      exact repr_of_reads' rd hs (fun z => by rw [nd] at z; cases z) hG (by omega) (fun _ _ e => e) (fun h' u tk hk => ⟨.str _, H, I.kept hk, ⟨_, rfl⟩, q⟩) hz
end
end EM
/-! EM8: own exceptions with fields: facts as Bools, raise, fields read in a suite. -/
namespace EM
open PySem PySem.Spec PyProof.Rows L2
theorem oexB_ok {K : PySem.W.Frag} {C : Addr} (q : oexB K C = true) : OexC K C := by
  obtain ⟨q1, q⟩ := He.ba q
  obtain ⟨q2, q⟩ := He.ba q
  obtain ⟨q3, q⟩ := He.ba q
  obtain ⟨q4, q5⟩ := He.ba q
  refine ⟨?_, He.eqO_ok q2, of_decide_eq_true q3, of_decide_eq_true q4, q5⟩
  split at q1
  · rename_i t dd cd sl ho
    obtain ⟨a1, q1⟩ := He.ba q1
    obtain ⟨a2, q1⟩ := He.ba q1
    obtain ⟨a3, q1⟩ := He.ba q1
    split at q1
    · rename_i C' bm k0 k1 k2 k3 n k5 hm hs
      obtain ⟨b1, q1⟩ := He.ba q1
      obtain ⟨b2, b3⟩ := He.ba q1
      have e1 := of_decide_eq_true a1
      have e2 := of_decide_eq_true b1
      have e3 := of_decide_eq_true b2
      subst e1 e2 e3
      obtain ⟨nm, bs, mro, ns, qn, hd, sn, sub, ab, col, del⟩ := cd
      dsimp only at hm a2 a3
      have a3' : del = false := by simpa using a3
      subst hm a2 a3'
      have hsl : sl = #[k0, k1, k2, k3, some (.builtin "ValueError.__new__"), k5] := by
        obtain ⟨l⟩ := sl
        simp only at hs
        rw [hs]
      subst hsl
      exact ⟨nm, qn, ns, bs, bm, sn, sub, ab, col, dd, k0, k1, k2, k3, k5, ho, b3⟩
    · cases q1
  · cases q1
theorem oinB_ok {K : PySem.W.Frag} {C : Addr} (q : oinB K C = true) : PySem.W.findIn K (.ref C) "__init__" = some (some (.ref (He.ma K C "__init__"))) ∧ PySem.W.typeIn K (.ref (He.ma K C "__init__")) = some (.type "function") := by
  obtain ⟨a, b⟩ := He.ba q
  exact ⟨He.eqO_ok a, of_decide_eq_true b⟩
/-! ### __init__ of one field, of two -/
def spX1 (C : Addr) (f : Str) : Sp := fun vs H Q _ => ∃ (a : Addr) (v : V), vs = [.ref a, v] ∧ H a = some (exo a C none) ∧ ∀ dx, H dx = none → dx ≠ a → Q .non (upd (upd H dx (exd dx [(f, v)])) a (exo a C (some dx)))
def spX2 (C : Addr) (f g : Str) : Sp := fun vs H Q _ => ∃ (a : Addr) (v u : V), vs = [.ref a, v, u] ∧ H a = some (exo a C none) ∧ ∀ dx, H dx = none → dx ≠ a → Q .non (upd (upd (upd H dx (exd dx [(f, v)])) a (exo a C (some dx))) dx (exd dx [(g, u), (f, v)]))
def MonoA (ta : TA) : Prop := ∀ σ H Q Q', (∀ vs H1, Q vs H1 → Q' vs H1) → ta σ H Q → ta σ H Q'
def Mono (te : TE) : Prop := ∀ σ H Q Q', (∀ v H1, Q v H1 → Q' v H1) → te σ H Q → te σ H Q'
theorem m_var {i : Nat} : Mono (tVar i) := fun σ H Q Q' k ⟨v, e, q⟩ => ⟨v, e, k v H q⟩
theorem m_c {v : V} : Mono (tC v) := fun σ H Q Q' k q => k v H q
theorem ma_nil : MonoA tNil := fun σ H Q Q' k q => k [] H q
theorem ma_cons {te : TE} {ta : TA} (h1 : Mono te) (h2 : MonoA ta) : MonoA (tCons te ta) := fun σ H Q Q' k q => h1 σ H _ _ (fun v H1 q1 => h2 σ H1 _ _ (fun vs H2 q2 => k (v :: vs) H2 q2) q1) q
theorem ma_1c {v : V} : MonoA (tCons (tC v) tNil) := ma_cons m_c ma_nil
theorem ma_1v {i : Nat} : MonoA (tCons (tVar i) tNil) := ma_cons m_var ma_nil
theorem ma_2cc {v u : V} : MonoA (tCons (tC v) (tCons (tC u) tNil)) := ma_cons m_c ma_1c
theorem ma_2cv {v : V} {i : Nat} : MonoA (tCons (tC v) (tCons (tVar i) tNil)) := ma_cons m_c ma_1v
theorem ma_2vv {i j : Nat} : MonoA (tCons (tVar i) (tCons (tVar j) tNil)) := ma_cons m_var ma_1v
theorem m_cb {r : List V → Hp → VK → Prop} {ta : TA} (h : MonoA ta) (hr : ∀ vs H Q Q', (∀ v H1, Q v H1 → Q' v H1) → r vs H Q → r vs H Q') : Mono (tCB r ta) := fun σ H Q Q' k q => h σ H _ _ (fun vs H1 q1 => hr vs H1 Q Q' k q1) q
/-- the reading of raise C(..): the error's own dict is new, all else stays -/
def tRz (C : Addr) (fs : List V → List (Str × V)) (n : Nat) (W : WX) (ta : TA) : TS := fun _ σ H => ta σ H fun vs H1 => vs.length = n ∧ ∀ d H', Same H1 H' → H1 d = none → H' d = some (.xd (fs vs)) → W (.ref C) (some d) σ H'
section
variable {X : Cx} {CX : CXT} {x : Str} {C fI : Addr} {k : Nat} {fd : FuncData} {ps : List Str} {e : Expr} {es : List Expr} {ta : TA} {p pos pos2 : Pos} {W : WX} {f g : Str}
theorem ps_rz1 (hc : X.calm = true) (T : OexC X.K C) (iC : PySem.W.findIn X.K (.ref C) "__init__" = some (some (.ref fI)) ∧ PySem.W.typeIn X.K (.ref fI) = some (.type "function")) (F1 : FnOk X.prog X.w X.K X.mg X.base CX k fI fd ps (spX1 C f)) (hr : Room (k + 1) X.A) (hb : Binds X.K fd ps [])
    (hx : Passes CX X (fun _ _ _ => False)) (hm : X.mg x = some (.ref C)) (tk : Takes X W) (ha : PA X (e :: es) ta) (hg : Gl X x := by rfl)
    (hdb : (x == ("__debug__" : Str)) = false := by decide) (he : starEach (e :: es) X.env = (false, eval e X.env) :: starEach es X.env := by rfl) (hpl : (backTo pos (starEach es X.env)).any (·.1) = false := by rfl) (mono : MonoA ta := by first | exact ma_1c | exact ma_1v | exact ma_2cc | exact ma_2cv | exact ma_2vv | assumption) :
    PS X (.Raise (some (.Call (.Name x p) (e :: es) [] pos)) none pos2) (tRz C (fun vs => [(f, vs.headD .non)]) 1 W ta) := by
  have h := ps_raise (pos := pos2) hc tk (pmk_oex (p := p) (dvs := []) T iC.1 iC.2 F1 hr hb .nil hx hg hm ha hdb he hpl)
  refine ⟨fun pins s σ H D I hq => h.run pins s σ H D I (mono σ H _ _ (fun vs H1 q => ?_) hq)⟩
  obtain ⟨hl, q⟩ := q
  match vs, hl with
  | [v], _ =>
    refine ⟨by show 1 ≤ 1000; decide, fun a ha => ⟨a, v, rfl, upd_same, fun dx hdx hda => ⟨rfl, dx, [(f, v)], upd_same, ?_, ?_, ?_⟩⟩⟩
    · rw [upd_ne hda, upd_same]
    · rw [upd_ne hda] at hdx; exact hdx
    · have hdx' : H1 dx = none := by rw [upd_ne hda] at hdx; exact hdx
      refine q dx _ (fun b o eb => ?_) hdx' upd_same
      have n1 := ne_of_none eb hdx'
      have n2 := ne_of_none eb ha
      rw [upd_ne n1, del_ne n2, upd_ne n2, upd_ne n1, upd_ne n2]
      exact eb
theorem ps_rz2 (hc : X.calm = true) (T : OexC X.K C) (iC : PySem.W.findIn X.K (.ref C) "__init__" = some (some (.ref fI)) ∧ PySem.W.typeIn X.K (.ref fI) = some (.type "function")) (F1 : FnOk X.prog X.w X.K X.mg X.base CX k fI fd ps (spX2 C f g)) (hr : Room (k + 1) X.A) (hb : Binds X.K fd ps [])
    (hx : Passes CX X (fun _ _ _ => False)) (hm : X.mg x = some (.ref C)) (tk : Takes X W) (ha : PA X (e :: es) ta) (hg : Gl X x := by rfl)
    (hdb : (x == ("__debug__" : Str)) = false := by decide) (he : starEach (e :: es) X.env = (false, eval e X.env) :: starEach es X.env := by rfl) (hpl : (backTo pos (starEach es X.env)).any (·.1) = false := by rfl) (mono : MonoA ta := by first | exact ma_1c | exact ma_1v | exact ma_2cc | exact ma_2cv | exact ma_2vv | assumption) :
    PS X (.Raise (some (.Call (.Name x p) (e :: es) [] pos)) none pos2) (tRz C (fun vs => [(g, vs.getD 1 .non), (f, vs.headD .non)]) 2 W ta) := by
  have h := ps_raise (pos := pos2) hc tk (pmk_oex (p := p) (dvs := []) T iC.1 iC.2 F1 hr hb .nil hx hg hm ha hdb he hpl)
  refine ⟨fun pins s σ H D I hq => h.run pins s σ H D I (mono σ H _ _ (fun vs H1 q => ?_) hq)⟩
  obtain ⟨hl, q⟩ := q
  match vs, hl with
  | [v, u], _ =>
    refine ⟨by show 2 ≤ 1000; decide, fun a ha => ⟨a, v, u, rfl, upd_same, fun dx hdx hda => ⟨rfl, dx, [(g, u), (f, v)], ?_, upd_same, ?_, ?_⟩⟩⟩
    · rw [upd_ne hda.symm, upd_same]
    · rw [upd_ne hda] at hdx; exact hdx
    · have hdx' : H1 dx = none := by rw [upd_ne hda] at hdx; exact hdx
      refine q dx _ (fun b o eb => ?_) hdx' upd_same
      have n1 := ne_of_none eb hdx'
      have n2 := ne_of_none eb ha
      rw [upd_ne n1, del_ne n2, upd_ne n1, upd_ne n2, upd_ne n1, upd_ne n2]
      exact eb
end
end EM
/-! EM9: try with several except clauses, each with or without a name. -/
namespace EM
open PySem PySem.Spec PyProof.Rows L2
abbrev Hd := Value × Option Nat × (Addr → Value → Option Addr → TS)
/-- behind a suite that held its error in slot i -/
def gone (i : Nat) (D : Ends) : Ends := { nx := fun σ' H' => D.nx (σ'.set i none) H', rt := D.rt, bk := fun σ' H' => D.bk (σ'.set i none) H', ct := fun σ' H' => D.ct (σ'.set i none) H' }
def wHds (K : PySem.W.Frag) (Wout : WX) (D : Ends) : List Hd → WX
  | [] => Wout
  | (c, none, ts) :: r => fun cls d σ H => ∃ b, PySem.W.exmOne K cls c = some b ∧ (b = true → ∀ a, H a = none → ts a cls d D σ H) ∧ (b = false → wHds K Wout D r cls d σ H)
  | (c, some i, ts) :: r => fun cls d σ H => ∃ b, PySem.W.exmOne K cls c = some b ∧ (b = true → ∀ a, H a = none → ts a cls d (gone i D) (σ.set i (some (.ref a))) H) ∧ (b = false → wHds K Wout D r cls d σ H)
inductive HdsN (X : Cx) : List ExceptHandler → List Hd → Prop
  | nil : HdsN X [] []
  | cons {x : Str} {c : Value} {ts : Addr → Value → Option Addr → TS} {b₀ : Stmt} {suite : List Stmt} {np pos' : Pos} {hds : List ExceptHandler} {l : List Hd} (hc : Names X x c)
      (hsu : ∀ (a : Addr) (oe : Obj) (cls : Value) (d : Option Addr) (pn : List (Addr × Obj)), Zc cls d oe → (∃ vs, oe.data = .fields vs) → PSs (X.suite a ((a, oe) :: pn)) (b₀ :: suite) (ts a cls d)) (r : HdsN X hds l) :
      HdsN X (.ExceptHandler (some (.Name x np)) none (b₀ :: suite) pos' :: hds) ((c, none, ts) :: l)
  | named {x n : Str} {i : Nat} {c : Value} {ts : Addr → Value → Option Addr → TS} {b₀ : Stmt} {suite : List Stmt} {np pos' : Pos} {hds : List ExceptHandler} {l : List Hd} (hc : Names X x c) (hi : X.N[i]? = some n) (hln : X.env.kindOf n = some .local)
      (hsu : ∀ (a : Addr) (oe : Obj) (cls : Value) (d : Option Addr) (pn : List (Addr × Obj)), Zc cls d oe → (∃ vs, oe.data = .fields vs) → PSs (X.suite a ((a, oe) :: pn)) (b₀ :: suite) (ts a cls d)) (r : HdsN X hds l) :
      HdsN X (.ExceptHandler (some (.Name x np)) (some n) (b₀ :: suite) pos' :: hds) ((c, some i, ts) :: l)
section
variable {X : Cx} {body : List Stmt} {h₀ : ExceptHandler} {hds : List ExceptHandler} {l : List Hd} {pos : Pos} {tb : WX → TS} {Wout : WX}
theorem ps_try (hs : X.stack = X.env :: X.outer) (hf : X.env.frame = some X.env.locals) (hN : X.N.Nodup) (tk : Takes X Wout)
    (hb : ∀ (W : WX) (pn : List (Addr × Obj)) (xe : Value → Shared → Prop), Takes (X.tr pn xe) W → PassesOwn (model X.prog X.w) X.A X.env xe → PSs (X.tr pn xe) body (tb W))
    (hh : HdsN X (h₀ :: hds) l) : PS X (.Try body (h₀ :: hds) [] [] pos) (fun D σ H => tb (wHds X.K Wout D l) D σ H) := by
  refine ⟨fun pins s σ H D I h => ?_⟩
  have ok := I.ok
  have hfr : X.A.frames = some (X.env :: X.outer) := by rw [ok.frames, hs]
  refine wpAny_Try_except ?_
  refine wpAny_mono ((hb (wHds X.K Wout D l) (X.pn ++ pins) (fun e s₁ => wpAny (model X.prog X.w) X.A (noteFrame e X.env) (fun _ s₂ => wpAny (model X.prog X.w) X.A (setFlight e none) (fun _ s₃ =>
    wpAny (model X.prog X.w) X.A (handleBy e X.env (h₀ :: hds)) (SP X pins D) X.xe s₃) X.xe s₂) X.xe s₁) (fun u s' xx => ?_) PassesOwn.looking).run [] s σ H D (I.toTry _) h) (fun f s1 hsp => ?_) (fun e s1 he => he)
  · obtain ⟨a, B, sI, pins', σ', H', cls, d, rfl, J', nb, up, sky, na, os, ag, w⟩ := xx
    have J : Inv X pins σ' H' sI := J'.ofTry ok
    have sky' : Sky B (X.env :: X.outer) a (Zc cls d) X.env.locals s'.heap := by rw [← hs]; exact sky
    show wpAny (model X.prog X.w) X.A (noteFrame (.ref a) X.env) _ _ _
    refine Sky.land Zc.steady hfr hf sky' fun h3 fl3 up3 => ?_
    have J3 : Inv X pins σ' H' { s' with heap := h3 } := J.landed nb fl3.1 (up.trans up3) os ag
    obtain ⟨oe3, vs3, he3, hz3, hd3⟩ := fl3.there
    have nfr : a ∉ frs (X.env :: X.outer) := fun hm => by
      obtain ⟨_, o', e', hnf⟩ := fl3.2.2.1.mem hm
      rw [he3] at e'; cases e'
      exact hnf _ hd3
    have nL : a ≠ X.env.locals := fun z => nfr (List.mem_filterMap.mpr ⟨X.env, List.mem_cons_self, by rw [hf, z]⟩)
    have nF : a ∉ X.fs := fun hm => by
      obtain ⟨e, he, q⟩ := List.mem_filterMap.mp hm
      exact nfr (List.mem_filterMap.mpr ⟨e, List.mem_cons_of_mem _ he, q⟩)
    have S3 := J3.suite he3 hd3 na nL nF
    have LT : PySem.W.Looks (model X.prog X.w) h3 (typeOf (.ref a)) cls := fun A Q E s k q => wpAny_typeOf_ref (k _ _ he3) (by rw [hz3.1]; exact q)
    have test : ∀ {x : Str} {c : Value} {np : Pos}, Names X x c → ∀ {Q : Value → Shared → Prop} {E : Value → Shared → Prop}, Q c { s' with heap := h3 } → wpAny (model X.prog X.w) (X.A.mark (some (.ref a))) (eval (.Name x np) X.env) Q E { s' with heap := h3 } := fun {x c np} hc {Q E} q => by
      obtain ⟨hg, hdbg, hm | ⟨hm, hv, hnn⟩⟩ := hc
      · exact ld_glob (X := X.suite a ((a, oe3) :: (X.pn ++ pins))) S3 hg hm q hdbg
      · exact ld_blt (X := X.suite a ((a, oe3) :: (X.pn ++ pins))) S3 hg hm hv q hnn hdbg
    have go : ∀ {hds' : List ExceptHandler} {l' : List Hd}, HdsN X hds' l' → wHds X.K Wout D l' cls d σ' H' →
        wpAny (model X.prog X.w) X.A (handleBy (.ref a) X.env hds') (SP X pins D) X.xe { s' with heap := h3 } := by
      intro hds' l' hk
      induction hk with
      | nil =>
        intro w
        refine wpAny_handleBy_nil ?_
        obtain ⟨k1, k2, k3, oe, vs, T, oT, ts', he, hz, hd, h1, hr⟩ := id fl3
        unfold PySem.passOn
        refine wpAny_bind (wpAny_field he hd h1 ?_)
        rw [if_neg (show ¬ ((Value.ref T == Value.none) = true) from by simp)]
        have fin : wpAny (model X.prog X.w) X.A (setFlight (.ref a) X.env.frame) (fun _ s4 => wpAny (model X.prog X.w) X.A (throw (.ref a) : Sem Flow) (SP X pins D) X.xe s4) X.xe { s' with heap := h3 } := by
          rw [hf]
          refine HandSPX.setFlight_upZ fl3 fun h4 hh4 up4 => wpAny_throw (tk _ _ ?_)
          exact ⟨a, B, sI, pins, σ', H', cls, d, rfl, J, nb, (up.trans up3).trans up4, .inr (.inr (by rw [hs]; exact hh4)), na, os, ag, w⟩
        first
          | exact wpAny_bind (wpAny_pure (wpAny_bind fin))
          | exact wpAny_bind fin
      | @cons x c ts b₀ suite np pos' hds2 l2 hc hsu r ih =>
        intro w
        obtain ⟨b, hb1, hyes, hno⟩ := w
        refine wpAny_handleBy_cons (codeAny_handlers_test ?_) (by intro q; cases q)
        have LM := PySem.W.exm_one (M := model X.prog X.w) (J3.kIn) LT hb1
        refine test hc (LM.here ?_)
        cases b with
        | true =>
          refine codeAny_handlers_suite (HandSPX.lands_againZ fl3 fun h4 fl4 up4 => ?_)
          have J4 : Inv X pins σ' H' { s' with heap := h4 } := J.landed nb fl4.1 ((up.trans up3).trans up4) os ag
          obtain ⟨oe4, vs4, he4, hz4, hd4⟩ := fl4.there
          have S4 := J4.suite he4 hd4 na nL nF
          refine wpAny_mono ((hsu a oe4 cls d (X.pn ++ pins) hz4 ⟨_, hd4⟩).run [] _ _ H' _ S4 (hyes rfl a na)) (fun f s6 hsp => ?_) (fun _ _ z => False.elim z)
          cases f with
          | ret u =>
            obtain ⟨v6, σ6, H6, S6, r6, q6⟩ := hsp
            exact ⟨_, _, _, S6.unsuite ok, r6, q6⟩
          | next => obtain ⟨σ6, H6, S6, q6⟩ := hsp; exact ⟨_, _, S6.unsuite ok, q6⟩
          | brk => obtain ⟨σ6, H6, S6, q6⟩ := hsp; exact ⟨_, _, S6.unsuite ok, q6⟩
          | cont => obtain ⟨σ6, H6, S6, q6⟩ := hsp; exact ⟨_, _, S6.unsuite ok, q6⟩
        | false =>
          show wpAny _ X.A (handleBy (.ref a) X.env hds2) _ _ _
          exact ih (hno rfl)
      | @named x n i c ts b₀ suite np pos' hds2 l2 hc hi hln hsu r ih =>
        intro w
        obtain ⟨b, hb1, hyes, hno⟩ := w
        refine wpAny_handleBy_cons (codeAny_handlers_test ?_) (by intro q; cases q)
        have LM := PySem.W.exm_one (M := model X.prog X.w) (J3.kIn) LT hb1
        refine test hc (LM.here ?_)
        cases b with
        | true =>
          refine codeAny_handlers_suite_as (HandSPX.lands_againZ fl3 fun h4 fl4 up4 => ?_)
          have J4 : Inv X pins σ' H' { s' with heap := h4 } := J.landed nb fl4.1 ((up.trans up3).trans up4) os ag
          obtain ⟨oe4, vs4, he4, hz4, hd4⟩ := fl4.there
          have S4 := J4.suite he4 hd4 na nL nF
          refine store_ok (X := X.suite a ((a, oe4) :: (X.pn ++ pins))) (v := .ref a) S4 hN hi (Or.inl hln) rfl (fun s5 S5 => ?_) (.inr hln)
          refine wpAny_mono ((hsu a oe4 cls d (X.pn ++ pins) hz4 ⟨_, hd4⟩).run [] s5 _ H' _ S5 (hyes rfl a na)) (fun f s6 hsp => ?_) (fun _ _ z => False.elim z)
          have fin2 : ∀ {σ6 : L2.St} {H6 : Hp} {Q : Shared → Prop}, Inv (X.suite a ((a, oe4) :: (X.pn ++ pins))) [] σ6 H6 s6 → (∀ s7, Inv X pins (σ6.set i none) H6 s7 → Q s7) →
              wpAny (model X.prog X.w) X.A (do bindName X.env n .none; unbindBehindTheSuite X.env n pos') (fun _ s7 => Q s7) X.xe s6 := fun {σ6 H6 Q} S6 hq => gone_ok (S6.unsuite ok) hN hi hln hq
          cases f with
          | ret u =>
            obtain ⟨v6, σ6, H6, S6, r6, q6⟩ := hsp
            exact fin2 S6 fun s7 J7 => ⟨_, _, _, J7, r6, q6⟩
          | next => obtain ⟨σ6, H6, S6, q6⟩ := hsp; exact fin2 S6 fun s7 J7 => ⟨_, _, J7, q6⟩
          | brk => obtain ⟨σ6, H6, S6, q6⟩ := hsp; exact fin2 S6 fun s7 J7 => ⟨_, _, J7, q6⟩
          | cont => obtain ⟨σ6, H6, S6, q6⟩ := hsp; exact fin2 S6 fun s7 J7 => ⟨_, _, J7, q6⟩
        | false =>
          show wpAny _ X.A (handleBy (.ref a) X.env hds2) _ _ _
          exact ih (hno rfl)
    exact go hh w
  · cases f with
    | ret u =>
      obtain ⟨v, σ', H', J', r, q⟩ := hsp
      exact ⟨v, σ', H', J'.ofTry ok, r, q⟩
    | next => obtain ⟨σ', H', J', q⟩ := hsp; exact wpAny_execs_nil ⟨σ', H', J'.ofTry ok, q⟩
    | brk => obtain ⟨σ', H', J', q⟩ := hsp; exact ⟨σ', H', J'.ofTry ok, q⟩
    | cont => obtain ⟨σ', H', J', q⟩ := hsp; exact ⟨σ', H', J'.ofTry ok, q⟩
end
end EM
/-! EM10: what many laws share: the pen and its draws, plain rows of ints. -/
namespace EM
open PySem PySem.Spec PyProof.Rows L2
def scan (a : Int) : List Int → List Int
  | [] => [a]
  | w :: r => a :: scan (a + w) r
theorem scan_len (a : Int) (l : List Int) : (scan a l).length = l.length + 1 := by
  induction l generalizing a with
  | nil => rfl
  | cons w r ih => show (scan (a + w) r).length + 1 = r.length + 1 + 1; rw [ih]
theorem scan_snoc (a : Int) (l : List Int) (w : Int) : scan a (l ++ [w]) = scan a l ++ [a + l.sum + w] := by
  induction l generalizing a with
  | nil => simp [scan]
  | cons v r ih =>
    show a :: scan (a + v) (r ++ [w]) = a :: (scan (a + v) r ++ [a + (v :: r).sum + w])
    rw [ih, List.sum_cons]
    have : a + v + r.sum + w = a + (v + r.sum) + w := by omega
    rw [this]
theorem scan_last (a : Int) (l : List Int) : (scan a l)[l.length]? = some (a + l.sum) := by
  induction l generalizing a with
  | nil => simp [scan]
  | cons v r ih =>
    show (scan (a + v) r)[r.length]? = _
    rw [ih, List.sum_cons]
    congr 1
    omega
theorem take_snoc {α : Type} {l : List α} {i : Nat} {x : α} (h : l[i]? = some x) : l.take (i + 1) = l.take i ++ [x] := by
  rw [List.take_add_one, h]
  rfl
theorem map_at {l : List Int} {i : Nat} {y : V} (h : (l.map V.int)[i]? = some y) : ∃ z, l[i]? = some z ∧ y = .int z := by
  rw [List.getElem?_map] at h
  cases e : l[i]? with
  | none => rw [e] at h; cases h
  | some z => rw [e] at h; exact ⟨z, rfl, (Option.some.inj h).symm⟩
def good (ws : List Int) : Prop := ws.length % 2 = 1 ∧ 3 ≤ ws.length ∧ ws.length ≤ 127 ∧ ∀ x ∈ ws, 1 ≤ x ∧ x ≤ 1000
def sumsOf (ws : List Int) : List Int := List.zipWith (· + ·) ws (ws.drop 1)
theorem scan_at (l : List Int) (i : Nat) (h : i ≤ l.length) (a : Int) : (scan a l)[i]? = some (a + (l.take i).sum) := by
  induction l generalizing a i with
  | nil => 
    have : i = 0 := by simpa using h
    subst this
    simp [scan]
  | cons v r ih =>
    cases i with
    | zero => simp [scan]
    | succ i =>
      show (scan (a + v) r)[i]? = _
      rw [ih i (by simpa using h)]
      simp only [List.take_succ_cons, List.sum_cons]
      congr 1
      omega
theorem sums_len (ws : List Int) : (sumsOf ws).length = min ws.length (ws.length - 1) := by
  unfold sumsOf
  rw [List.length_zipWith, List.length_drop]
theorem sums_at {ws : List Int} {i : Nat} {a b : Int} (h1 : ws[i]? = some a) (h2 : (ws.drop 1)[i]? = some b) : (sumsOf ws)[i]? = some (a + b) := by
  unfold sumsOf
  rw [List.getElem?_zipWith, h1, h2]
/-- what draws: the cells, the index of the next one (at most n), the rest of a great cell -/
def Pen (H : Hp) (p l : Addr) (n : Nat) : Prop := ∃ (cells : List Int) (at_ rest : Int), H p = some (.lst [.ref l, .int at_, .int rest]) ∧ H l = some (.lst (cells.map V.int)) ∧ l ≠ p ∧ cells.length ≤ 63 ∧ 0 ≤ at_ ∧ at_ ≤ n
def spPen (K : PySem.W.Frag) : Sp := fun vs H Q _ => ∃ (a : Addr) (ns : List Int), vs = [.ref a] ∧ SqL K H a (ns.map V.int) ∧ ns.length ≤ 63 ∧ ∀ p l H', Same H H' → H p = none → Pen H' p l 0 → Q (.ref p) H'
def spDraw : Sp := fun vs H Q _ => ∃ (p l : Addr) (n : Nat) (many : Int), vs = [.ref p, .int many] ∧ Pen H p l n ∧ n ≤ 1000000 ∧ 1 ≤ many ∧ many < 10000000000000000000000000000000000000000000000000000000000000000000000000000000000000000000000000000 ∧ ∀ d H', 0 ≤ d → d < many → (∀ b o, H b = some o → b ≠ p → H' b = some o) → Pen H' p l (n + 1) → Q (.int d) H'
theorem draw_bd {m a A B C : Int} (m0 : 0 ≤ m) (m1 : m < 2147483648) (a0 : 0 ≤ a) (a1 : a ≤ 1000000) (hA : 0 ≤ A ∧ A ≤ 1000000) (hB : 0 ≤ B ∧ B ≤ 1000000) (hC : 0 ≤ C ∧ C ≤ 1000000) :
    (m * (2 * a + A) + B * a * a + C).natAbs < 2 ^ 64 := by
  have h1 : m * (2 * a + A) ≤ 2147483648 * 3000000 := Int.mul_le_mul (by omega) (by omega) (by omega) (by omega)
  have h2 : 0 ≤ m * (2 * a + A) := Int.mul_nonneg m0 (by omega)
  have h3 : B * a ≤ 1000000 * 1000000 := Int.mul_le_mul hB.2 a1 a0 (by omega)
  have h4 : 0 ≤ B * a := Int.mul_nonneg hB.1 a0
  have h5 : B * a * a ≤ 1000000 * 1000000 * 1000000 := Int.mul_le_mul h3 a1 a0 (by omega)
  have h6 : 0 ≤ B * a * a := Int.mul_nonneg h4 a0
  omega
theorem mul_bd {B a : Int} (a0 : 0 ≤ a) (a1 : a ≤ 1000000) (hB : 0 ≤ B ∧ B ≤ 1000000) : -(2 ^ 64) < B * a ∧ B * a < 2 ^ 64 := by
  have h3 : B * a ≤ 1000000 * 1000000 := Int.mul_le_mul hB.2 a1 a0 (by omega)
  have h4 : 0 ≤ B * a := Int.mul_nonneg hB.1 a0
  constructor <;> omega
theorem cut_ints (ns : List Int) (lo hi : Option Int) : ∃ ms : List Int, cutV (ns.map V.int) lo hi = ms.map V.int ∧ ms.length ≤ ns.length := by
  refine ⟨(ns.drop (HT.sIx (ns.map V.int).length 0 lo)).take (HT.sIx (ns.map V.int).length (ns.map V.int).length hi - HT.sIx (ns.map V.int).length 0 lo), ?_, ?_⟩
  · unfold cutV
    rw [List.map_take, List.map_drop]
  · rw [List.length_take, List.length_drop]
    omega
def Keep (p : Addr) (H H' : Hp) : Prop := ∀ b o, H b = some o → b ≠ p → H' b = some o
theorem Keep.refl {p : Addr} {H : Hp} : Keep p H H := fun _ _ e _ => e
theorem Keep.trans {p : Addr} {H H1 H2 : Hp} (a : Keep p H H1) (b : Keep p H1 H2) : Keep p H H2 := fun c o e n => b c o (a c o e n) n
theorem Keep.of {p : Addr} {H H1 : Hp} (a : Same H H1) : Keep p H H1 := fun c o e _ => a c o e
theorem Keep.mut {p : Addr} {H H1 : Hp} {D : Addr} {o : HO} (a : Keep p H H1) (h : H D = none) : Keep p H (upd H1 D o) := fun c u e n => by
  rw [upd_ne (ne_of_none e h)]
  exact a c u e n
theorem Pen.mono {H : Hp} {p l : Addr} {n m : Nat} (h : Pen H p l n) (e : n ≤ m) : Pen H p l m := by
  obtain ⟨c, a, r, h1, h2, h3, h4, h5, h6⟩ := h
  exact ⟨c, a, r, h1, h2, h3, h4, h5, by omega⟩
theorem Pen.same {H H' : Hp} {p l : Addr} {n : Nat} (h : Pen H p l n) (e : Same H H') : Pen H' p l n := by
  obtain ⟨c, a, r, h1, h2, h3, h4, h5, h6⟩ := h
  exact ⟨c, a, r, e _ _ h1, e _ _ h2, h3, h4, h5, h6⟩
theorem Pen.mut {H : Hp} {p l D : Addr} {o : HO} {n : Nat} (h : Pen H p l n) (n1 : D ≠ p) (n2 : D ≠ l) : Pen (upd H D o) p l n := by
  obtain ⟨c, a, r, h1, h2, h3, h4, h5, h6⟩ := h
  exact ⟨c, a, r, by rw [upd_ne n1.symm]; exact h1, by rw [upd_ne n2.symm]; exact h2, h3, h4, h5, h6⟩
theorem Pen.ne {H : Hp} {p l D : Addr} {n : Nat} (h : Pen H p l n) (hD : H D = none) : D ≠ p ∧ D ≠ l := by
  obtain ⟨c, a, r, h1, h2, _⟩ := h
  exact ⟨(ne_of_none h1 hD).symm, (ne_of_none h2 hD).symm⟩
theorem pick {xs : List V} {d : Int} (h0 : 0 ≤ d) (h1 : d < xs.length) : ∃ v, atI xs d = some v ∧ v ∈ xs := by
  have h : d.toNat < xs.length := by omega
  exact ⟨xs[d.toNat], at_of (j := d.toNat) (by omega) (List.getElem?_eq_getElem h), List.getElem_mem h⟩
def spPick : Sp := fun vs H Q _ => ∃ (p l : Addr) (n : Nat) (a : Addr) (xs : List V), vs = [.ref p, .ref a] ∧ Pen H p l n ∧ n ≤ 1000000 ∧ H a = some (.lst xs) ∧ a ≠ p ∧ 1 ≤ xs.length ∧ xs.length ≤ 1000000 ∧
  ∀ v H', v ∈ xs → Keep p H H' → Pen H' p l (n + 1) → Q v H'
end EM
/-! EM11: plain facts of texts of figures; a callee's exceptions under a try. -/
namespace EM
open PySem PySem.Spec PyProof.Rows L2 PySem.NumText
abbrev sg (a : Str) : List Nat := a.cps.toList
theorem str_ext {a b : Str} (h : sg a = sg b) : a = b := by
  obtain ⟨⟨x⟩⟩ := a
  obtain ⟨⟨y⟩⟩ := b
  have h' : x = y := h
  rw [h']
theorem len_sg (a : Str) : a.length = (sg a).length := rfl
def isDig (c : Nat) : Bool := decide (48 ≤ c ∧ c ≤ 57)
theorem mem_figs (c : Nat) : decide (c ∈ ("0123456789" : Str).cps.toList) = isDig c := by
  have e : ("0123456789" : Str).cps.toList = [48, 49, 50, 51, 52, 53, 54, 55, 56, 57] := by decide +kernel
  rw [e]
  unfold isDig
  by_cases h : 48 ≤ c ∧ c ≤ 57
  · rw [decide_eq_true h, decide_eq_true_eq]
    simp only [List.mem_cons, List.not_mem_nil, or_false]
    omega
  · rw [decide_eq_false h, decide_eq_false_iff_not]
    simp only [List.mem_cons, List.not_mem_nil, or_false]
    omega
theorem dig_all {l : List Nat} (h : l.all isDig = true) : AllDigits l := fun c hc => of_decide_eq_true (List.all_eq_true.mp h c hc)
/-- the worth of a text of figures -/
def worthT (a : Str) : Int := (digitsVal (sg a) : Nat)
theorem int_of_figs {a : Str} (h : (sg a).all isDig = true) (h1 : sg a ≠ []) (h2 : a.length ≤ 640) : intText? a = some (worthT a) :=
  intText_digits (dig_all h) h1 (by omega)
theorem worth_pos {a : Str} (h1 : sg a ≠ []) (h0 : (sg a).head? ≠ some 48) (h : (sg a).all isDig = true) : 1 ≤ worthT a := by
  unfold worthT
  cases e : sg a with
  | nil => exact absurd e h1
  | cons c r =>
    rw [e] at h0 h
    have hc := (dig_all h).head
    have : c ≠ 48 := fun z => h0 (by rw [z]; rfl)
    have := digitsVal_pos (c := c) (cs := r) (by omega)
    omega
theorem toNat_ofNat {c : Nat} (h : c < 55296) : (Char.ofNat c).toNat = c := by
  have hv : Nat.isValidChar c := Or.inl (by omega)
  unfold Char.ofNat
  rw [dif_pos hv]
  show (UInt32.ofNatLT c _).toNat = c
  rfl
theorem worth_text {a : Str} (h1 : sg a ≠ []) (h0 : (sg a).head? ≠ some 48) (h : (sg a).all isDig = true) : (Str.ofString (toString (worthT a))) = a := by
  apply str_ext
  have hd := dig_all h
  have ht : Nat.toDigits 10 (digitsVal (sg a)) = (sg a).map Char.ofNat := by
    refine toDigits_digitsVal ((sg a).length - 1) (sg a) ?_ hd ?_
    · cases e : sg a with
      | nil => exact absurd e h1
      | cons c r => simp
    · cases e : sg a with
      | nil => exact absurd e h1
      | cons c r =>
        rw [e] at h0 hd
        have := hd.head
        have : c ≠ 48 := fun z => h0 (by rw [z]; rfl)
        exact .inr ⟨c, r, rfl, by omega⟩
  show (cpsOfBytes 0 0 (toString (worthT a)).toByteArray.data.toList).toArray.toList = _
  rw [cpsOfBytes_string]
  have e2 : toString (worthT a) = String.ofList (Nat.toDigits 10 (digitsVal (sg a))) := rfl
  rw [e2, String.toList_ofList, ht, List.map_map]
  have : ∀ l : List Nat, AllDigits l → l.map (Char.toNat ∘ Char.ofNat) = l := by
    intro l
    induction l with
    | nil => intro _; rfl
    | cons c r ih =>
      intro hl
      rw [List.map_cons, ih hl.tail]
      show (Char.ofNat c).toNat :: r = c :: r
      rw [toNat_ofNat (by have := hl.head; omega)]
  exact this _ hd
section
variable {X : Cx} {W : WX}
theorem passes_len (tk : Takes X W) : Passes (L2.CX X.prog X.w) X (fun cls d H => ∀ σ : L2.St, σ.length = X.N.length → W cls d σ H) := fun pins σ H s e s' I c =>
  tk e s' (XE.of_call I (fun cls d H' h => h σ I.len) c)
end
end EM
/-! EM12: a list beside an empty list. -/
namespace EM
open PySem PySem.Spec PyProof.Rows L2
def rNeNil (K : PySem.W.Frag) : R2 := fun x y H Q => ∃ a b xs, x = .ref a ∧ y = .ref b ∧ SqL K H a xs ∧ SqL K H b [] ∧ Q (.bl (!xs.isEmpty)) H
section
variable {X : Cx}
theorem op_neNil (hu : X.A.units + 64 < cLine) : OpR X (compareOp .NotEq) (rNeNil X.K) := by
  intro pins s σ H x y v u Q I rx ry h
  obtain ⟨a, b, xs, rfl, rfl, ha, hb, q⟩ := h
  cases rx
  cases ry
  obtain ⟨its, r, pl, _⟩ := I.list ha
  obtain ⟨its2, r2, pl2, _⟩ := I.list hb
  have e2 : its2 = [] := by cases r2; rfl
  subst e2
  have hl := r.length
  show wpAny (model X.prog X.w) X.A (richCompare .NotEq (.ref a) (.ref b)) (EP X pins σ Q) X.xe s
  cases xs with
  | nil =>
    cases r
    exact SeqAt.RcNeAt.lists (e := fun _ => true) pl.isList pl2.isList rfl (by omega) (fun j h1 _ => absurd h1 (by simp)) _ _ _ _ ⟨.bl false, H, I, rfl, q⟩
  | cons c r0 =>
    refine SeqAt.RcNeAt.lists_lengths pl.isList pl2.isList ?_ (by omega) _ _ _ _ ⟨.bl true, H, I, rfl, q⟩
    rw [List.size_toArray, ← hl]
    rfl
end
end EM
/-! EM13: marks: what stands at an address, promises of their defs. -/
namespace EM
open PySem PySem.Spec PyProof.Rows L2
def mf (wp ep sp : Addr) (b t u : Int) : List (Str × V) := [("widths", .ref wp), ("edge_row", .ref ep), ("sums", .ref sp), ("bars", .int b), ("total", .int t), ("span", .int u)]
/-- a mark of these widths stands at p -/
def MarkAt (K : PySem.W.Frag) (H : Hp) (p : Addr) (ws : List Int) : Prop := good ws ∧ ∃ dx wp ep sp, H p = some (.ins (He.ga K "Mark") dx (mf wp ep sp ((ws.length : Int) / 2 + 1) ws.sum (ws.take (ws.length - 1)).sum)) ∧ H wp = some (.tup (ws.map V.int)) ∧ H ep = some (.tup ((scan 0 ws).map V.int)) ∧ H sp = some (.tup ((sumsOf ws).map V.int))
theorem MarkAt.same {K : PySem.W.Frag} {H H' : Hp} {p : Addr} {ws : List Int} (h : MarkAt K H p ws) (e : Same H H') : MarkAt K H' p ws := by
  obtain ⟨g, dx, wp, ep, sp, h1, h2, h3, h4⟩ := h
  exact ⟨g, dx, wp, ep, sp, e _ _ h1, e _ _ h2, e _ _ h3, e _ _ h4⟩
def spIsInt (K : PySem.W.Frag) : Sp := fun vs H Q _ => ∃ x t b1 b2, vs = [x] ∧ TyX K H x t ∧ PySem.W.kitOne K t (.type "int") = some b1 ∧ PySem.W.kitOne K t (.type "bool") = some b2 ∧ Q (.bl (b1 && !b2)) H
def spBetween : Sp := fun vs H Q _ => ∃ i lo hi : Int, vs = [.int i, .int lo, .int hi] ∧ Q (.bl (decide (lo ≤ i) && decide (i ≤ hi))) H
def spEdges (K : PySem.W.Frag) : Sp := fun vs H Q _ => ∃ (a : Addr) (ws : List Int), vs = [.ref a] ∧ SqT K H a (ws.map V.int) ∧ ws.length ≤ 1000 ∧ ∀ p H', Same H H' → H' p = some (.tup ((scan 0 ws).map V.int)) → Q (.ref p) H'
def spInit0 (K : PySem.W.Frag) : Sp := fun vs H Q _ => ∃ (x dx T : Addr) (ws : List Int), vs = [.ref x, .ref T] ∧ H x = some (.ins (He.ga K "Mark") dx []) ∧ H T = some (.tup (ws.map V.int)) ∧ good ws ∧
  ∀ H', (∀ b o, H b = some o → b ≠ x → H' b = some o) → MarkAt K H' x ws → Q .non H'
abbrev spMI (K : PySem.W.Frag) : Sp := fun vs H Q E => ∃ ws rest, vs = ws ++ rest ∧ ws.length = ["self"].length ∧ rest.length ≤ sizeLine ∧ ∀ W, H W = none → spInit0 K (ws ++ [V.ref W]) (upd H W (.tup rest)) Q E
theorem mk_Mark {K : PySem.W.Frag} {H : Hp} {ws : List Int} {Q : VK} {E : XK} {vs : List V} (hv : vs = ws.map V.int) (hg : good ws) (q : ∀ p H', Same H H' → MarkAt K H' p ws → Q (.ref p) H') :
    ∀ x dx, H x = none → H dx = none → dx ≠ x → spMI K (V.ref x :: vs) (upd (upd H dx (.own x)) x (.ins (He.ga K "Mark") dx [])) (fun v H2 => v = .non ∧ Q (.ref x) H2) E := by
  intro x dx nx nd ne
  subst hv
  refine ⟨[.ref x], ws.map V.int, rfl, rfl, by rw [List.length_map]; exact sz (by have := hg.2.2.1; omega), fun W hW => ⟨x, dx, W, ws, rfl, ?_, upd_same, hg, fun H' k m => ⟨rfl, q x H' (fun b o e => ?_) m⟩⟩⟩
  · have nxW : x ≠ W := by
      intro z
      subst z
      rw [upd_same] at hW
      cases hW
    rw [upd_ne nxW, upd_same]
  · have n1 := ne_of_none e nx
    have n2 := ne_of_none e nd
    have nW : b ≠ W := by
      intro z
      subst z
      rw [upd_ne n1, upd_ne n2, e] at hW
      cases hW
    exact k b o (by rw [upd_ne nW, upd_ne n1, upd_ne n2]; exact e) n1
theorem kSelf {K : PySem.W.Frag} {C : Addr} : PySem.W.kitOne K (.ref C) (.ref C) = some true := by
  unfold PySem.W.kitOne
  rw [if_pos (beq_self_eq_true _)]
end EM
/-! EM14: str of an instance with its own __str__. -/
namespace EM
open PySem PySem.Spec PyProof.Rows L2
end EM
/-! EM15: how long a shown list or tuple is. -/
namespace EM
open PySem PySem.Spec PyProof.Rows L2
theorem app_len (a b : Str) : (a ++ b).length = a.length + b.length := by
  obtain ⟨x⟩ := a
  obtain ⟨y⟩ := b
  exact Array.size_append
theorem from_le : ∀ (ts : List Str) (k : Nat) (acc : Str), (textFrom k acc ts).length ≤ acc.length + (ts.map (·.length)).sum + 2 * ts.length
  | [], k, acc => by show acc.length ≤ _; omega
  | t :: r, k, acc => by
    have ih := from_le r (k + 1) (acc ++ (if k > 0 then ", " else "" : String) ++ t)
    have hc : (Str.ofString (if k > 0 then ", " else "" : String)).length ≤ 2 := by split <;> decide +kernel
    rw [app_len, app_len] at ih
    show (textFrom (k + 1) (acc ++ (if k > 0 then ", " else "" : String) ++ t) r).length ≤ _
    simp only [List.map_cons, List.sum_cons, List.length_cons]
    omega
theorem shown_sum : ∀ xs : List PyData, (((PyData.shownAll xs).map (·.length)).sum) = (xs.map fun d => d.shown.length).sum
  | [] => rfl
  | x :: r => by
    show x.shown.length + ((PyData.shownAll r).map (·.length)).sum = x.shown.length + (r.map fun d => d.shown.length).sum
    rw [shown_sum r]
theorem shown_n : ∀ xs : List PyData, (PyData.shownAll xs).length = xs.length
  | [] => rfl
  | x :: r => by
    show (PyData.shownAll r).length + 1 = r.length + 1
    rw [shown_n r]
theorem shown_list (xs : List PyData) : (PyData.list xs).shown.length ≤ (xs.map fun d => d.shown.length).sum + 2 * xs.length + 2 := by
  have h := from_le (PyData.shownAll xs) 0 "["
  have h1 : (Str.ofString "[").length = 1 := by decide +kernel
  have h2 : (Str.ofString "]").length = 1 := by decide +kernel
  show (textFrom 0 "[" (PyData.shownAll xs) ++ Str.ofString "]").length ≤ _
  rw [app_len]
  rw [shown_sum, shown_n] at h
  omega
theorem shown_tuple (xs : List PyData) : (PyData.tuple xs).shown.length ≤ (xs.map fun d => d.shown.length).sum + 2 * xs.length + 3 := by
  have h := StrLaws.join_length_le ", " (PyData.shownAll xs)
  have h1 : (Str.ofString "(").length = 1 := by decide +kernel
  have h2 : (Str.ofString ", ").length = 2 := by decide +kernel
  have h3 : (Str.ofString (if (PyData.shownAll xs).length == 1 then ",)" else ")" : String)).length ≤ 2 := by split <;> decide +kernel
  show (Str.ofString "(" ++ Str.join ", " (PyData.shownAll xs) ++ Str.ofString (if (PyData.shownAll xs).length == 1 then ",)" else ")" : String)).length ≤ _
  rw [app_len, app_len]
  rw [shown_sum, shown_n, h2] at h
  omega
end EM
/-! EM16: replace of written texts behind a test with a written int (a token is out then). -/
namespace EM
open PySem PySem.Spec PyProof.Rows L2
end EM
/-! EM17: ratios: the common divisor, ratios made. -/
namespace EM
open PySem PySem.Spec PyProof.Rows L2
section
variable {X : Cx} {CX : CXT} {k : Nat} {f C : Addr} {sp : Sp} {E : XK} {x : Str} {e : Expr} {es : List Expr} {t : TA} {p pos : Pos}
/-- // by a divisor of either sign -/
theorem op_fdivWN : OpR X (binaryOp .FloorDiv) (rI (fun _ j => j ≠ 0 ∧ j.natAbs.log2 < 9000) fun i j => .int (i.fdiv j)) := opI fun i j _ _ _ _ _ hc q =>
  floordiv_int hc.1 q (.inl (PyProof.noPylong_of_log2 hc.2))
/-- C(e, ..) by the promise of its __init__ -/
theorem pe_mkR (M : Mk X.K C f) (F : FnR X.prog X.w X.K X.mg X.base CX k f sp) (hr : Room (k + 1) X.A) (hm : X.mg x = some (.ref C)) (hx : Passes CX X E) (ha : PA X (e :: es) t) (hg : Gl X x := by rfl) (hd : (x == ("__debug__" : Str)) = false := by decide)
    (he : starEach (e :: es) X.env = (false, eval e X.env) :: starEach es X.env := by rfl) (hpl : (backTo pos (starEach es X.env)).any (·.1) = false := by rfl) :
    PE X (.Call (.Name x p) (e :: es) [] pos) (StX.tMakeR C sp E t) := by
  refine ⟨fun pins s σ H Q I h => ?_⟩
  refine wpAny_Call_Name_kw (ld_glob I hg hm ?_ hd)
  refine PySem.W.callWith_K (h₀ := X.base) I.ok.mod.kin M.kp (thn (ha.run pos pins s σ H _ I h) fun us s1 ⟨vs, H1, I1, r, q⟩ => ⟨I1.kIn, ?_⟩) he hpl
  exact StX.run_makeR M F hr hx I1 r q
end
theorem fmod_less (a b : Int) (h : b ≠ 0) : (a.fmod b).natAbs < b.natAbs := by
  rcases Int.lt_or_gt_of_ne h with h | h
  · have e : a.fmod b = -((-a).fmod (-b)) := by
      have := Int.neg_fmod_neg (a := a) (b := b)
      omega
    have h1 := Int.fmod_lt_of_pos (-a) (b := -b) (by omega)
    have h2 := Int.fmod_nonneg_of_pos (-a) (b := -b) (by omega)
    rw [e]
    omega
  · have h1 := Int.fmod_lt_of_pos a (b := b) h
    have h2 := Int.fmod_nonneg_of_pos a (b := b) h
    omega
theorem gcd_fmod (a b : Int) : Int.gcd b (a.fmod b) = Int.gcd a b := by
  rw [Int.fmod_def, Int.gcd_sub_mul_left_right, Int.gcd_comm]
def spGcd : Sp := fun vs H Q _ => ∃ a b : Int, vs = [.int a, .int b] ∧ Q (.int (Int.gcd a b : Int)) H
/-- the sign of the bottom, times the common divisor -/
def shr (t b : Int) : Int := if b < 0 then -(Int.gcd t b : Int) else (Int.gcd t b : Int)
def nTop (t b : Int) : Int := t.fdiv (shr t b)
def nBot (t b : Int) : Int := b.fdiv (shr t b)
theorem shr_ne {t b : Int} (h : b ≠ 0) : shr t b ≠ 0 := by
  have : Int.gcd t b ≠ 0 := fun z => h (Int.gcd_eq_zero_iff.mp z).2
  unfold shr
  split <;> omega
theorem shr_abs (t b : Int) : (shr t b).natAbs = Int.gcd t b := by
  unfold shr
  split <;> omega
theorem shr_le {t b : Int} (h : b ≠ 0) : (shr t b).natAbs ≤ b.natAbs := by
  rw [shr_abs]
  exact Nat.le_of_dvd (by omega) (Int.gcd_dvd_natAbs_right t b)
/-- the ratio of top t and bottom b stands at p -/
def rf (t b : Int) : List (Str × V) := [("top", .int t), ("bottom", .int b)]
def RatAt (K : PySem.W.Frag) (H : Hp) (p : Addr) (t b : Int) : Prop := ∃ dx, H p = some (.ins (He.ga K "Ratio") dx (rf t b))
theorem RatAt.same {K : PySem.W.Frag} {H H' : Hp} {p : Addr} {t b : Int} (h : RatAt K H p t b) (e : Same H H') : RatAt K H' p t b := by
  obtain ⟨dx, h⟩ := h
  exact ⟨dx, e _ _ h⟩
theorem log_le {a b : Nat} (h : a ≤ b) : a.log2 ≤ b.log2 := by
  by_cases h0 : a = 0
  · subst h0
    simp
  · exact (Nat.le_log2 (by omega)).mpr (Nat.le_trans (Nat.log2_self_le h0) h)
def spRat (K : PySem.W.Frag) : Sp := fun vs H Q _ => ∃ (x dx : Addr) (t b : Int), vs = [.ref x, .int t, .int b] ∧ H x = some (.ins (He.ga K "Ratio") dx []) ∧ b ≠ 0 ∧ b.natAbs.log2 < 9000 ∧
  ∀ H', (∀ c o, H c = some o → c ≠ x → H' c = some o) → RatAt K H' x (nTop t b) (nBot t b) → Q .non H'
end EM
/-! EM18: the end of a law whose promise wants that no guard is held (repr of data). -/
namespace EM
open PySem PySem.Spec PyProof.Rows L2
/-- behind an if whose else is left out the rest is read once -/
theorem ite_rest {c A : Prop} [Decidable c] {N : L2.St → Hp → Prop} {σ : L2.St} {H : Hp} (R : L2.St → Hp → Prop) (hr : ∀ σ H, R σ H → N σ H) (h1 : (∀ σ H, R σ H → N σ H) → c → A) (h2 : ¬ c → R σ H) : if c then A else N σ H := by
  by_cases h : c
  · rw [if_pos h]
    exact h1 hr h
  · rw [if_neg h]
    exact hr _ _ (h2 h)
section
variable {P : Program} {w : World} {K : PySem.W.Frag} {mg mb : Str → Option Value} {CX : CXT} {k : Nat} {fa a : Addr} {sp : Sp} {s1 : Shared} {us : List Value} {ns : List Int}
/-- what the script's heap is, seen from outside -/
def hp1 (a : Addr) (us : List Value) (ns : List Int) : Hp := fun b => if b = a then some (.frz { cls := .type "list", data := .seq us.toArray } (.lst (ns.map V.int))) else none
end
end EM
/-! EM19: plain facts of texts with a stroke: split, partition; texts of numbers. -/
namespace EM
open PySem PySem.Spec PyProof.Rows L2 PySem.NumText Builtin Builtin.Str
theorem slash : ("/" : Str) = ⟨#[47]⟩ := by decide +kernel
theorem empt : ("" : Str) = Str.empty := by decide +kernel
theorem parts_len (x : Str) (w : Nat) : ∀ (l : List Nat) (a : Nat), (StrLaws.partsFrom x w a l).length = l.length + 1
  | [], _ => rfl
  | c :: r, a => by
    show (StrLaws.partsFrom x w (c + w) r).length + 1 = _
    rw [parts_len x w r]
    rfl
theorem sub_sg (x : Str) (a b : Nat) : sg (strSub x a b) = ((sg x).drop a).take (b - a) := StrLaws.strSub_toList x a b
theorem cut_two (x : Str) : (Txt.split x "/" = [x] ∧ Txt.partition x "/" = (x, ("" : Str), ("" : Str)) ∧ 47 ∉ sg x) ∨
    ∃ a b : Str, Txt.partition x "/" = (a, ("/" : Str), b) ∧ sg x = sg a ++ 47 :: sg b ∧ 47 ∉ sg a ∧ (Txt.split x "/" = [a, b] ∨ (3 ≤ (Txt.split x "/").length ∧ 47 ∈ sg b)) := by
  rw [slash, empt]
  rcases StrLaws.occ_head x ⟨#[47]⟩ (x.length + 1) (by omega) with ⟨e0, hn⟩ | ⟨i, r, e0, hi, hn⟩
  · refine .inl ⟨?_, ?_, fun hm => ?_⟩
    · unfold Txt.split
      split
      · rfl
      · rw [if_pos (by rw [e0]; rfl)]
    · have e1 : occurrences x ⟨#[47]⟩ 0 x.length 1 = [] := by
        rcases StrLaws.occ_head x ⟨#[47]⟩ 1 (Nat.le_refl 1) with ⟨e, _⟩ | ⟨j, _, _, hj, _⟩
        · exact e
        · exact absurd hj (hn j)
      unfold Txt.partition
      rw [e1]
    · obtain ⟨j, hj⟩ := List.getElem?_of_mem hm
      exact hn j ((StrLaws.subAt_one x 47 j).mpr hj)
  · have hm := (StrLaws.subAt_one x 47 i).mp hi
    obtain ⟨hlt, hmv⟩ := List.getElem?_eq_some_iff.mp hm
    refine .inr ⟨strSub x 0 i, strSub x (i + 1) x.length, ?_, ?_, fun hk => ?_, ?_⟩
    · unfold Txt.partition
      rcases StrLaws.occ_head x ⟨#[47]⟩ 1 (Nat.le_refl 1) with ⟨_, z⟩ | ⟨j, q, e1, hj, hn2⟩
      · exact absurd hi (z i)
      · have : j = i := by
          rcases Nat.lt_trichotomy j i with h | h | h
          · exact absurd hj (hn j h)
          · exact h
          · exact absurd hi (hn2 i h)
        subst this
        rw [e1]
        rfl
    · rw [sub_sg, sub_sg]
      have e : ((sg x).drop (i + 1)).take (x.length - (i + 1)) = (sg x).drop (i + 1) := List.take_of_length_le (by rw [List.length_drop]; show _ ≤ (sg x).length - _; exact Nat.le_refl _)
      rw [e, List.drop_zero, Nat.sub_zero, ← hmv, ← List.drop_eq_getElem_cons hlt, List.take_append_drop]
    · rw [sub_sg, List.drop_zero, Nat.sub_zero] at hk
      obtain ⟨j, hj⟩ := List.getElem?_of_mem hk
      have hji : j < i := by
        have := (List.getElem?_eq_some_iff.mp hj).1
        rw [List.length_take] at this
        omega
      rw [List.getElem?_take_of_lt hji] at hj
      exact hn j hji ((StrLaws.subAt_one x 47 j).mpr hj)
    · have hxl : 1 ≤ x.length := by
        have h5 : (sg x).length = x.length := rfl
        have h6 : i < (sg x).length := hlt
        omega
      have e1 : Txt.split x ⟨#[47]⟩ = StrLaws.partsFrom x 1 0 (i :: r) := by
        unfold Txt.split
        rw [if_neg, if_neg, e0, StrLaws.partsBetween_eq]
        · rfl
        · rw [e0]
          simp
        · have k1 : Builtin.Str.strKind (⟨#[47]⟩ : Str) = 1 := by decide +kernel
          have k2 : 1 ≤ Builtin.Str.strKind x := by
            unfold Builtin.Str.strKind
            split
            · exact Nat.le_refl _
            · split <;> omega
          rw [k1]
          have : (⟨#[47]⟩ : Str).length = 1 := rfl
          rw [this]
          simp
          omega
      rw [e1]
      cases r with
      | nil => exact .inl rfl
      | cons j q =>
        refine .inr ⟨by rw [parts_len]; simp, ?_⟩
        obtain ⟨f, c⟩ := StrLaws.occ_chain x ⟨#[47]⟩ (x.length + 1)
        rw [e0] at c
        have cj : i + 1 ≤ j := c.2.2.1
        have aj := (StrLaws.subAt_one x 47 j).mp c.2.2.2.1
        rw [sub_sg]
        have e : ((sg x).drop (i + 1)).take (x.length - (i + 1)) = (sg x).drop (i + 1) := List.take_of_length_le (by rw [List.length_drop]; show _ ≤ (sg x).length - _; exact Nat.le_refl _)
        rw [e]
        refine List.mem_of_getElem? (i := j - (i + 1)) ?_
        rw [List.getElem?_drop, show i + 1 + (j - (i + 1)) = j by omega]
        exact aj
theorem sg_app (a b : Str) : sg (a ++ b) = sg a ++ sg b := by
  show (a.cps ++ b.cps).toList = _
  rw [Array.toList_append]
/-! ### texts of numbers -/
theorem worth_inj {a b : Str} (h1 : sg a ≠ []) (h0 : (sg a).head? ≠ some 48) (h : (sg a).all isDig = true) (h1' : sg b ≠ []) (h0' : (sg b).head? ≠ some 48) (h' : (sg b).all isDig = true) (e : worthT a = worthT b) : a = b := by
  rw [← worth_text h1 h0 h, e, worth_text h1' h0' h']
def dig (n : Nat) : List Nat := (Nat.toDigits 10 n).map Char.toNat
theorem sg_of (s : String) : sg (Str.ofString s) = s.toList.map Char.toNat := by
  show (cpsOfBytes 0 0 s.toByteArray.data.toList).toArray.toList = _
  rw [cpsOfBytes_string]
theorem digs_text (n : Nat) : sg (Str.ofString (toString (n : Int))) = dig n := by
  rw [sg_of]
  have e2 : toString (n : Int) = String.ofList (Nat.toDigits 10 n) := rfl
  rw [e2, String.toList_ofList]
  rfl
theorem neg_text (n : Nat) (h : 1 ≤ n) : sg (Str.ofString (toString (-(n : Int)))) = 45 :: dig n := by
  rw [sg_of]
  obtain ⟨m, rfl⟩ : ∃ m, n = m + 1 := ⟨n - 1, by omega⟩
  have e2 : toString (-((m + 1 : Nat) : Int)) = "-" ++ String.ofList (Nat.toDigits 10 (m + 1)) := rfl
  rw [e2, String.toList_append, List.map_append]
  show [45] ++ (String.ofList (Nat.toDigits 10 (m + 1))).toList.map Char.toNat = _
  rw [String.toList_ofList]
  rfl
theorem no47 {l : List Nat} (h : l.all isDig = true) : 47 ∉ l := fun z => by
  have := List.all_eq_true.mp h 47 z
  exact absurd this (by decide)
theorem no45 {l : List Nat} (h : l.all isDig = true) : 45 ∉ l := fun z => by
  have := List.all_eq_true.mp h 45 z
  exact absurd this (by decide)
theorem int_neg {a p : Str} (e : sg a = 45 :: sg p) (h : (sg p).all isDig = true) (h1 : sg p ≠ []) (h2 : a.length ≤ 640) : intText? a = some (-(worthT p)) :=
  intText_neg e (dig_all h) h1 (by omega)
end EM
namespace EM
open PySem PySem.Spec PyProof.Rows L2
section
variable {X : Cx} {CX : CXT} {k : Nat} {f C : Addr} {sp : Sp} {E : XK} {x : Str} {e : Expr} {es : List Expr} {t : TA} {tf : TE} {p pos : Pos}
/-- c(e, ..), the class in a name of the def -/
theorem pe_mkV (M : Mk X.K C f) (F : FnR X.prog X.w X.K X.mg X.base CX k f sp) (hr : Room (k + 1) X.A) (hx : Passes CX X E) (hf : PE X (.Name x p) tf) (ha : PA X (e :: es) t)
    (he : starEach (e :: es) X.env = (false, eval e X.env) :: starEach es X.env := by rfl) (hpl : (backTo pos (starEach es X.env)).any (·.1) = false := by rfl) :
    PE X (.Call (.Name x p) (e :: es) [] pos) (fun σ H Q => tf σ H fun v H1 => v = .ref C ∧ StX.tMakeR C sp E t σ H1 Q) := by
  refine ⟨fun pins s σ H Q I h => ?_⟩
  refine wpAny_Call_Name_kw (thn (hf.run pins s σ H _ I h) fun u s1 ⟨c, H1, I1, rc, ec, q1⟩ => ?_)
  subst ec
  obtain rfl : u = Value.ref C := rc
  refine PySem.W.callWith_K (h₀ := X.base) I1.ok.mod.kin M.kp (thn (ha.run pos pins s1 σ H1 _ I1 q1) fun us s2 ⟨vs, H2, I2, r, q⟩ => ⟨I2.kIn, ?_⟩) he hpl
  exact StX.run_makeR M F hr hx I2 r q
end
theorem n_red {t b : Int} (h : Int.gcd t b = 1) (hb : 0 < b) : nTop t b = t ∧ nBot t b = b := by
  have e : shr t b = 1 := by
    unfold shr
    rw [if_neg (by omega), h]
    rfl
  unfold nTop nBot
  rw [e]
  exact ⟨Int.fdiv_one t, Int.fdiv_one b⟩
/-! ### slices at the first sign -/
theorem sg_cut (z : Str) (lo hi : Option Int) : sg (cutS z lo hi) = ((sg z).drop (HT.sIx z.length 0 lo)).take (HT.sIx z.length z.length hi - HT.sIx z.length 0 lo) := rfl
theorem cut_0 (z : Str) : cutS z (some 0) none = z := by
  apply str_ext
  rw [sg_cut]
  show (List.drop (min 0 z.length) (sg z)).take (z.length - min 0 z.length) = sg z
  rw [Nat.zero_min, List.drop_zero]
  exact List.take_of_length_le (by show (sg z).length ≤ (sg z).length - 0; omega)
theorem cut_1 (z : Str) : sg (cutS z (some 1) none) = (sg z).tail := by
  rw [sg_cut]
  show (List.drop (min 1 z.length) (sg z)).take (z.length - min 1 z.length) = (sg z).tail
  have hl : z.length = (sg z).length := rfl
  rw [List.take_of_length_le (by rw [List.length_drop]; omega)]
  cases e : sg z with
  | nil => simp
  | cons c r =>
    rw [hl, e]
    show List.drop (min 1 (r.length + 1)) (c :: r) = r
    rw [Nat.min_eq_left (by omega)]
    rfl
theorem cut_h (z : Str) : sg (cutS z none (some 1)) = (sg z).take 1 := by
  rw [sg_cut]
  show (List.drop 0 (sg z)).take (min 1 z.length - 0) = _
  have hl : z.length = (sg z).length := rfl
  rw [List.drop_zero, Nat.sub_zero]
  cases e : sg z with
  | nil => simp
  | cons c r =>
    rw [hl, e]
    show List.take (min 1 (r.length + 1)) (c :: r) = _
    rw [Nat.min_eq_left (by omega)]
theorem minus : ("-" : Str) = ⟨#[45]⟩ := by decide +kernel
def isNeg (a : Str) : Bool := decide (cutS a none (some 1) = "-")
def rest_ (a : Str) : Str := if isNeg a = true then cutS a (some 1) none else a
theorem neg_iff (a : Str) : isNeg a = true ↔ (sg a).head? = some 45 := by
  unfold isNeg
  rw [decide_eq_true_eq]
  constructor
  · intro h
    have := congrArg sg h
    rw [cut_h, minus] at this
    cases e : sg a with
    | nil => rw [e] at this; cases this
    | cons c r =>
      rw [e] at this
      have : [c] = [45] := this
      cases this
      rfl
  · intro h
    apply str_ext
    rw [cut_h, minus]
    cases e : sg a with
    | nil => rw [e] at h; cases h
    | cons c r =>
      rw [e] at h
      cases h
      rfl
theorem neg_text2 {a : Str} (h : isNeg a = true) : a = "-" ++ cutS a (some 1) none := by
  have h2 := (neg_iff a).mp h
  apply str_ext
  rw [sg_app, minus, cut_1]
  cases e : sg a with
  | nil => rw [e] at h2; cases h2
  | cons c r =>
    rw [e] at h2
    cases h2
    rfl
end EM
namespace EM
open PySem PySem.Spec PyProof.Rows L2 PySem.NumText
theorem ite_tC {c : Prop} [Decidable c] {a b : V} {σ : L2.St} {H : Hp} {K : VK} (R : V → Prop) (h : ∀ v, R v → K v H) (h1 : c → R a) (h2 : ¬ c → R b) : if c then tC a σ H K else tC b σ H K := by
  by_cases hc : c
  · rw [if_pos hc]
    exact h _ (h1 hc)
  · rw [if_neg hc]
    exact h _ (h2 hc)
theorem val_acc : ∀ (l : List Nat) (acc : Nat), AllDigits l → l.foldl (fun acc c => acc * 10 + (c - 48)) acc < (acc + 1) * 10 ^ l.length
  | [], acc, _ => by simp
  | c :: r, acc, h => by
    have h1 := val_acc r (acc * 10 + (c - 48)) h.tail
    have h2 := h.head
    rw [List.foldl_cons, List.length_cons, Nat.pow_succ]
    refine Nat.lt_of_lt_of_le h1 ?_
    have h3 : acc * 10 + (c - 48) + 1 ≤ (acc + 1) * 10 := by omega
    calc (acc * 10 + (c - 48) + 1) * 10 ^ r.length ≤ (acc + 1) * 10 * 10 ^ r.length := Nat.mul_le_mul_right _ h3
      _ = (acc + 1) * (10 ^ r.length * 10) := by rw [Nat.mul_assoc, Nat.mul_comm 10]
theorem worth_lt {a : Str} (h : (sg a).all isDig = true) {k : Nat} (hk : a.length ≤ k) : 0 ≤ worthT a ∧ worthT a < 10 ^ k := by
  have h1 := val_acc (sg a) 0 (dig_all h)
  have h2 : (10 : Nat) ^ (sg a).length ≤ 10 ^ k := Nat.pow_le_pow_right (by decide) hk
  have h3 : digitsVal (sg a) < 10 ^ k := by
    refine Nat.lt_of_lt_of_le h1 ?_
    rw [Nat.zero_add, Nat.one_mul]
    exact h2
  unfold worthT
  refine ⟨by omega, ?_⟩
  have h4 : ((digitsVal (sg a) : Nat) : Int) < ((10 ^ k : Nat) : Int) := Int.ofNat_lt.mpr h3
  simpa using h4
theorem log_60 {i : Int} (h : i.natAbs < 10 ^ 60) : i.natAbs.log2 < 1920 := by
  by_cases h0 : i.natAbs = 0
  · rw [h0]
    decide
  · exact (Nat.log2_lt h0).mpr (Nat.lt_of_lt_of_le h (Nat.le_trans (by decide : 10 ^ 60 ≤ 2 ^ 200) (Nat.pow_le_pow_right (by decide) (by decide))))
end EM
/-! EM20: repr of an instance with its own __repr__. -/
namespace PySem.W
open PySem PySem.Calls PyProof.Rows Builtin
end PySem.W
namespace EM
open PySem PySem.Spec PyProof.Rows L2
end EM
/-! EM21: lowest terms. -/
namespace EM
open PySem PySem.Spec PyProof.Rows L2
theorem shr_pos {t b : Int} (h : 0 < b) : shr t b = (Int.gcd t b : Int) := if_neg (by omega)
theorem shr_neg {t b : Int} (h : b < 0) : shr t b = -(Int.gcd t b : Int) := if_pos h
theorem gcd_pos {t b : Int} (h : b ≠ 0) : 0 < (Int.gcd t b : Int) := by
  have : Int.gcd t b ≠ 0 := fun z => h (Int.gcd_eq_zero_iff.mp z).2
  omega
theorem top_pos {t b : Int} (h : 0 < b) : nTop t b = t / (Int.gcd t b : Int) := by
  unfold nTop
  rw [shr_pos h, Int.fdiv_eq_ediv_of_nonneg t (by have := gcd_pos (t := t) (b := b) (by omega); omega)]
theorem bot_pos {t b : Int} (h : 0 < b) : nBot t b = b / (Int.gcd t b : Int) := by
  unfold nBot
  rw [shr_pos h, Int.fdiv_eq_ediv_of_nonneg b (by have := gcd_pos (t := t) (b := b) (by omega); omega)]
theorem fdiv_exact {x g : Int} (hg : 0 < g) (hd : g ∣ x) : x.fdiv (-g) = 0 - x / g := by
  obtain ⟨m, rfl⟩ := hd
  rw [Int.mul_ediv_cancel_left m (by omega)]
  have e : g * m = (-g) * (-m) := by rw [Int.neg_mul_neg]
  rw [e, Int.mul_fdiv_cancel_left _ (by omega)]
  omega
theorem top_neg {t b : Int} (h : b < 0) : nTop t b = 0 - t / (Int.gcd t b : Int) := by
  unfold nTop
  rw [shr_neg h]
  exact fdiv_exact (gcd_pos (by omega)) (Int.gcd_dvd_left t b)
theorem bot_neg {t b : Int} (h : b < 0) : nBot t b = 0 - b / (Int.gcd t b : Int) := by
  unfold nBot
  rw [shr_neg h]
  exact fdiv_exact (gcd_pos (by omega)) (Int.gcd_dvd_right t b)
theorem div_abs_le (x g : Int) (hg : 0 < g) (hd : g ∣ x) : (x / g).natAbs ≤ x.natAbs := by
  obtain ⟨m, rfl⟩ := hd
  rw [Int.mul_ediv_cancel_left m (by omega), Int.natAbs_mul]
  exact Nat.le_mul_of_pos_left _ (by omega)
theorem n_abs {t b : Int} (h : b ≠ 0) : (nTop t b).natAbs ≤ t.natAbs ∧ (nBot t b).natAbs ≤ b.natAbs := by
  have hg := gcd_pos (t := t) h
  have h1 := div_abs_le t _ hg (Int.gcd_dvd_left t b)
  have h2 := div_abs_le b _ hg (Int.gcd_dvd_right t b)
  rcases Int.lt_or_gt_of_ne h with hn | hp
  · rw [top_neg hn, bot_neg hn]
    constructor <;> omega
  · rw [top_pos hp, bot_pos hp]
    exact ⟨h1, h2⟩
theorem bot_gt {t b : Int} (h : b ≠ 0) : 0 < nBot t b := by
  have hg := gcd_pos (t := t) h
  obtain ⟨m, hm⟩ := Int.gcd_dvd_right t b
  have e : b / (Int.gcd t b : Int) = m := by
    have : b / (Int.gcd t b : Int) = ((Int.gcd t b : Int) * m) / (Int.gcd t b : Int) := by rw [← hm]
    rw [this, Int.mul_ediv_cancel_left m (by omega)]
  rcases Int.lt_or_gt_of_ne h with hn | hp
  · rw [bot_neg hn, e]
    have : m < 0 := Int.neg_of_mul_neg_right (by rw [← hm]; exact hn) (by omega)
    omega
  · rw [bot_pos hp, e]
    exact Int.pos_of_mul_pos_right (by rw [← hm]; exact hp) (by omega)
theorem n_gcd {t b : Int} (h : b ≠ 0) : Int.gcd (nTop t b) (nBot t b) = 1 := by
  have hg := gcd_pos (t := t) h
  have e : Int.gcd (t / (Int.gcd t b : Int)) (b / (Int.gcd t b : Int)) = 1 := Int.gcd_ediv_gcd_ediv_gcd_of_ne_zero_right h
  rcases Int.lt_or_gt_of_ne h with hn | hp
  · rw [top_neg hn, bot_neg hn, Int.zero_sub, Int.zero_sub, Int.neg_gcd, Int.gcd_neg]
    exact e
  · rw [top_pos hp, bot_pos hp]
    exact e
theorem gcd_emod2 {a b : Int} (h : 0 < b) : Int.gcd b (a % b) = Int.gcd a b := by
  rw [← Int.fmod_eq_emod_of_nonneg a (by omega)]
  exact gcd_fmod a b
/-- the ints' tuple in lowest terms -/
def spCut : Sp := fun vs H Q _ => ∃ u l : Int, vs = [.int u, .int l] ∧ l ≠ 0 ∧ l.natAbs.log2 < 9000 ∧ ∀ p H', Same H H' → H p = none → H' p = some (.tup [.int (nTop u l), .int (nBot u l)]) → Q (.ref p) H'
end EM
namespace EM
open PySem PySem.Spec PyProof.Rows L2
end EM
/-! EM22: defs that make lambdas: the head with their tables, the end of such a law. -/
namespace EM
open PySem PySem.Spec PyProof.Rows L2
/-! ### the code object and the table of a def -/
/-! ### a def whose code object is told -/
section
variable {P : Program} {w : World} {K : PySem.W.Frag} {mg : Str → Option Value} {base : Heap} {x qual : Str} {params : Arguments} {body : List Stmt} {scope : Scope} {kws : List (Str × V)} {f : Addr} {fd : FuncData}
theorem fngC {N ps : List Str} {k : Nat} {sp : Sp} (F : FunD K x qual params body scope [] kws f fd) (S : FnScope N ps scope)
    (hb : ∀ (kV doc pm : Value) (an : Option Addr) (cdv ct : Value) (us : List Value), us.length = ps.length → bindArgs (PySem.W.fnOf x qual params body scope .none kV doc pm an cdv ct) ⟨us, []⟩ = pure (ps.zip us))
    (len : ∀ vs H Q E, sp vs H Q E → vs.length = ps.length)
    (hbody : ∀ (A : Around) (outer : List Env) (s : Shared) (H : Hp) (vs : List V) (Q : VK) (E : XK), Room k (A.deeper (envOfC qual scope s.heap.objs.size f (codeV K f))) → (A.deeper (envOfC qual scope s.heap.objs.size f (codeV K f))).guards = some [] → sp vs H Q E →
      ∃ t, PSs (cxOf (L2.CX P w) P w K mg base N qual scope f (codeV K f) A outer s H E) body t ∧ t { nx := fun _ H' => Q .non H', rt := Q } (start N vs) H) : FnG P w K mg base (L2.CX P w) (k + 1) f sp := by
  obtain ⟨oc, od, dV, kV, doc, pm, an, cdv, ct, osl, e, lk, hc, hd, _⟩ := F.ex
  have ec : codeV K f = cdv := by
    unfold codeV
    rw [lk, e]
  rcases hd with ⟨_, e2⟩ | ⟨e2, _⟩
  · subst e2
    subst e
    intro A outer s H us vs Q E rm hG ev rv hsp
    have nl := len vs H Q E hsp
    refine StX.run_bnd (G := fun vs' H' => vs' = vs ∧ H' = H) lk hc S rm ev (fun A' Ex Q' hQ => ?_) (fun s2 H2 vs2 hg2 hr2 => ?_)
    · rw [hb kV doc pm an cdv ct us (by rw [← rv.length]; exact nl)]
      exact wpAny_pure (hQ s H vs us ev Un.refl rfl (fun _ _ z => z) rv nl ⟨rfl, rfl⟩)
    · obtain ⟨rfl, rfl⟩ := hg2
      rw [← ec] at hr2 ⊢
      exact hbody A outer s2 H2 vs2 Q E hr2 hG hsp
  · exact absurd rfl e2
end
end EM
/-! EM23: x(lambda: body), where no guard is held. -/
namespace EM
open PySem PySem.Spec PyProof.Rows L2
section
variable {X : Cx} {pins : List (Addr × Obj)} {σ : L2.St} {H : Hp} {s : Shared}
abbrev wide (n : Nat) (W : WX) : XK := fun cls d H => ∀ σ : L2.St, σ.length = n → W cls d σ H
/-- a(): what was handed in is a lambda of X -/
theorem pe_actG {Ng : List Str} {qg : Str} {sg : Scope} {g f c2 : Addr} {cdg pm ct : Value} {params : Arguments} {body : Expr} {scope : Scope} {k i : Nat} {a : Str} {pn : List (Addr × Obj)} {xe : Value → Shared → Prop} {W : WX} {Eg : XK} {tb : TE} {p1 p2 : Pos}
    (I : Inv X pins σ H s) (L : LamX.LamS X.env.scope scope) (hG : X.A.guards = some [])
    (hf : s.heap.get? f = some (PySem.W.kla_obj "<lambda>" (X.env.qual ++ "<lambda>") params body scope (cloFrom X.env.cells scope.names []) pm c2 ct)) (n1 : H f = none) (n2 : f ∉ frs X.stack)
    (hbind : bindArgs (PySem.W.kla_fn "<lambda>" (X.env.qual ++ "<lambda>") params body scope (cloFrom X.env.cells scope.names []) pm (.ref c2) ct) ⟨[], []⟩ = pure [])
    (tk : Takes ((cxOf (L2.CX X.prog X.w) X.prog X.w X.K X.mg X.base Ng qg sg g cdg X.A X.stack s H Eg).tr pn xe) W) (rm : Room (k + 1) (X.A.deeper (envOfC qg sg s.heap.objs.size g cdg)))
    (hbody : ∀ (A : Around) (outer : List Env) (s : Shared) (H : Hp), Room k (A.deeper (LamX.lamEnv X scope s.heap.objs.size f c2)) → (A.deeper (LamX.lamEnv X scope s.heap.objs.size f c2)).guards = some [] → PE (LamX.lamCx X A outer s H (wide Ng.length W) scope f c2) body tb)
    (hN : Ng[i]? = some a) (hv : Vis sg a) (hd : (a == ("__debug__" : Str)) = false := by decide) (hcd : (a == ("__classdict__" : Str)) = false := by decide) :
    PE ((cxOf (L2.CX X.prog X.w) X.prog X.w X.K X.mg X.base Ng qg sg g cdg X.A X.stack s H Eg).tr pn xe) (.Call (.Name a p1) [] [] p2)
      (fun σZ HZ Q => σZ[i]? = some (some (.ref f)) ∧ HZ c2 = some (LamX.CodeO c2 (X.env.qual ++ "<lambda>")) ∧ tb σ HZ Q) := by
  refine ⟨fun pz sz σz HZ Q IZ h => ?_⟩
  obtain ⟨h1, h2, h3⟩ := h
  refine wpAny_Call_Name_kw (thn ((pe_var (pos := p1) (i := i) hN hv hd hcd).run pz sz σz HZ (fun v H1 => v = .ref f ∧ H1 = HZ) IZ ⟨.ref f, h1, rfl, rfl⟩) fun u s1 hu => ?_)
  obtain ⟨v, H1, I1, r1, ev, eH⟩ := hu
  subst ev
  rw [eH] at I1
  obtain rfl : u = Value.ref f := r1
  have of1 := I1.base.keep f _ hf n1 n2 (fun z => nomatch (show f ∈ ([] : List Addr) from z))
  refine PySem.W.callWith_F0 ⟨_, _, _, _, of1⟩ ?_
  have un : Un (frs X.stack) [] H HZ s.heap s1.heap := I1.base
  obtain ⟨⟨oc, vs, t, e1, e2, e3⟩, _, _⟩ := I1.hok c2 _ h2
  have rc : codeAny (model X.prog X.w) (X.A.deeper (envOfC qg sg s.heap.objs.size g cdg)) (.call (.ref f) ⟨[], []⟩) (CR (L2.CX X.prog X.w) (envOfC qg sg s.heap.objs.size g cdg :: X.stack) X.prog X.w HZ s1 Q (wide Ng.length W)) s1 := by
    refine PySem.W.kla_callFunE rm.depth of1 rfl L.co L.gen rfl ⟨c2, oc, vs, t, rfl, e1, e2, e3⟩ ?_
    rw [hbind]
    refine wpAny_pure (wpAny_newFunctionEnv (fun y hy => (L.own y hy).2) (fun y hy => absurd hy (by simp)) (fun h2 hns hsb => ⟨I1.nolimit.fresh _ hsb, ?_⟩) L.kind)
    show codeAny _ _ (.expr body (LamX.lamEnv X scope s1.heap.objs.size f c2)) _ _
    have kp : ∀ b o, s1.heap.get? b = some o → h2.get? b = some o := fun b o e => hsb.extBut b o (Nat.ne_of_lt (Heap.lt_size e)) (Heap.get?_push_of_some _ e)
    have J := LamX.lam_start2 (E := wide Ng.length W) (f := f) (c' := c2) (tk := s1.toks + ([] : List (Str × Value)).length) I L I1.env0 rm.hd un hns kp
    refine PySem.W.kla_codeExpr (wpAny_mono ((hbody _ _ s1 HZ (rm.deeper _) hG).run [] _ _ HZ Q J h3) (fun v s' hq => ?_) fun e s' hq => hq)
    obtain ⟨w', H', J', rv, q⟩ := hq
    exact ⟨w', H', J'.os, J'.bare, J'.base, J'.hok, rv, q⟩
  have hx : Passes (L2.CX X.prog X.w) ((cxOf (L2.CX X.prog X.w) X.prog X.w X.K X.mg X.base Ng qg sg g cdg X.A X.stack s H Eg).tr pn xe) (wide Ng.length W) := passes_len tk
  refine wpAny_call (codeAny_mono rc fun r s' hq => ?_)
  match r, hq with
  | .error e, hq => exact hx pz σz HZ s1 e s' I1 hq
  | .ok (.ret u), hq => exact I1.after hq
  | .ok .next, hq => exact False.elim hq
  | .ok .brk, hq => exact False.elim hq
  | .ok .cont, hq => exact False.elim hq
end
/-- what a def that calls what it gets makes of it -/
def GivesG (X : Cx) (Ng : List Str) (x : Str) (sg : Scope) (g : Addr) (cdg : Value) (bg : List Stmt) (a q : Str) (TT : (XK → Hp → VK → Prop) → Hp → VK → Prop) : Prop :=
  ∀ (f c2 : Addr) (s : Shared) (H : Hp) (Q : VK) (tl : XK → Hp → VK → Prop),
    (∀ (W : WX) (pn : List (Addr × Obj)) (xe : Value → Shared → Prop) (p1 p2 : Pos), Takes ((cxOf (L2.CX X.prog X.w) X.prog X.w X.K X.mg X.base Ng x sg g cdg X.A X.stack s H E0).tr pn xe) W →
      PE ((cxOf (L2.CX X.prog X.w) X.prog X.w X.K X.mg X.base Ng x sg g cdg X.A X.stack s H E0).tr pn xe) (.Call (.Name a p1) [] [] p2) (fun σZ HZ Q => σZ[0]? = some (some (.ref f)) ∧ HZ c2 = some (LamX.CodeO c2 q) ∧ tl (wide Ng.length W) HZ Q)) →
    H c2 = some (LamX.CodeO c2 q) → TT tl H Q →
    ∃ t, PSs (cxOf (L2.CX X.prog X.w) X.prog X.w X.K X.mg X.base Ng x sg g cdg X.A X.stack s H E0) bg t ∧ t { nx := fun _ H' => Q .non H', rt := Q } (L2.start Ng [.ref f]) H
section
variable {X : Cx}
/-- x(lambda: body) -/
theorem pe_lamG {T : List (Addr × Str)} {TT : (XK → Hp → VK → Prop) → Hp → VK → Prop} {x a : Str} {g c P : Addr} {k : Nat} {pg : Arguments} {bg : List Stmt} {sg : Scope} {fd : FuncData} {Ng : List Str}
    {params : Arguments} {body : Expr} {scope : Scope} {t : XK → TE} {p lpos pos : Pos} (F : FunD X.K x x pg bg sg [] [] g fd) (hm : X.mg x = some (.ref g))
    (hb : ∀ (kV doc pm : Value) (an : Option Addr) (cdv ct : Value) (us : List Value), us.length = [a].length → bindArgs (PySem.W.fnOf x x pg bg sg .none kV doc pm an cdv ct) ⟨us, []⟩ = pure ([a].zip us))
    (Sg : FnScope Ng [a] sg) (hNg : Ng[0]? = some a) (hva : Vis sg a) (hG : X.A.guards = some [])
    (gv : GivesG X Ng x sg g (codeV X.K g) bg a (X.env.qual ++ "<lambda>") TT)
    (TB : LamX.TabB X.base X.mg c P) (hcode : X.env.code = .ref c) (mT : (P, X.env.qual ++ "<lambda>") ∈ T) (uT : ∀ p ∈ T, p.1 = P → p.2 = X.env.qual ++ "<lambda>") (rm : Room (k + 2) X.A)
    (L : LamX.LamS X.env.scope scope) (hdef : defaultsOf params X.env = ([], []))
    (hbind : ∀ (q : Str) (cl : List (Str × Addr)) (pm cv ctv : Value), bindArgs (PySem.W.kla_fn "<lambda>" q params body scope cl pm cv ctv) ⟨[], []⟩ = pure [])
    (hbody : ∀ (A : Around) (outer : List Env) (s : Shared) (H : Hp) (E : XK) (f c2 : Addr), Room k (A.deeper (LamX.lamEnv X scope s.heap.objs.size f c2)) → (A.deeper (LamX.lamEnv X scope s.heap.objs.size f c2)).guards = some [] → PE (LamX.lamCx X A outer s H E scope f c2) body (t E))
    (hg : Gl X x := by rfl) (hdb : (x == ("__debug__" : Str)) = false := by decide) (hd : (a == ("__debug__" : Str)) = false := by decide) (hcd : (a == ("__classdict__" : Str)) = false := by decide) :
    PE X (.Call (.Name x p) [.Lambda params body scope lpos] [] pos) (LamX.tLam T TT t) := by
  refine ⟨fun pins s σ H Q I h => ?_⟩
  obtain ⟨hT, h⟩ := h
  have hk := F.kp
  have B := F.bindsN hb
  obtain ⟨oc, od, dV, kV, doc, pm, an, cdv, ct, osl, e, lk, hcg, _, _⟩ := F.ex
  have ec : codeV X.K g = cdv := by
    unfold codeV
    rw [lk, e]
  rw [ec] at gv
  subst e
  refine wpAny_Call_Name_kw (ld_glob I hg hm ?_ hdb)
  refine PySem.W.callWith_K (h₀ := X.base) I.ok.mod.kin hk ?_ (by rfl) (by rfl)
  show wpAny _ _ (spliced ((false, eval (.Lambda params body scope lpos) X.env) :: backTo pos (starEach [] X.env))) _ _ s
  refine Calls.spliced_cons (LamX.lam_make2 I TB hcode mT uT hT hdef (L.has I.ok) fun f c2 pm2 ctv H1 s2 I1 eN T1 hf n1 n2 hco => ?_)
  refine Calls.spliced_nil ⟨I1.kIn, ?_⟩
  have rc : codeAny (model X.prog X.w) X.A (.call (.ref g) ⟨[.ref f], []⟩) (CR (L2.CX X.prog X.w) X.stack X.prog X.w H1 s2 Q E0) s2 := by
    refine LamX.run_ofS (N := Ng) (ps := [a]) (us := [.ref f]) (vs := [.ref f]) lk hcg Sg rm I1.env0 (B s2 [.ref f] I1.kIn rfl) (.cons rfl .nil) rfl fun rm2 => ?_
    exact gv f c2 s2 H1 Q (fun E H' Q' => t E σ H' Q') (fun W pn xe p1 p2 tk => pe_actG (i := 0) I1 L hG hf n1 n2 (hbind _ _ _ _ _) tk rm2 (fun A outer s H rm3 hG3 => hbody A outer s H _ f c2 rm3 hG3) hNg hva hd hcd) hco (h H1 eN T1)
  refine wpAny_call (codeAny_mono rc fun r s3 hq => ?_)
  match r, hq with
  | .error e, hq =>
    obtain ⟨_, _, _, _, _, _, _, _, _, _, _, _, z⟩ := hq
    exact z.elim
  | .ok (.ret u), hq => exact I1.after hq
  | .ok .next, hq => exact False.elim hq
  | .ok .brk, hq => exact False.elim hq
  | .ok .cont, hq => exact False.elim hq
end
end EM
/-! EM24: the end of a law whose defs make lambdas, where no guard is held. -/
namespace EM
open PySem PySem.Spec PyProof.Rows L2
section
variable {P : Program} {w : World} {K : PySem.W.Frag} {mg mb : Str → Option Value} {CX : CXT} {k : Nat} {fa a : Addr} {sp : Sp} {s1 : Shared} {us : List Value} {ns : List Int} {cs : List (Addr × Addr)}
abbrev tabO : Obj := { cls := .none, data := .fields #[] }
theorem callGT (kx : K.In s1.heap) (gx : s1.heap.Ns mainGlobals mg) (bx : s1.heap.Ns builtinsNs mb) (b2 : ∀ x : Str, x ≠ "__name__" → mb x = bootBuiltins x) (nl : s1.heap.NoLimit) (ng : s1.gens = #[])
    (te : ∀ p ∈ cs, s1.heap.get? p.2 = some tabO) (to : ∀ p ∈ cs, K.lookup p.2 = none) (tc : ∀ p ∈ cs, PySem.W.CodeHd s1.heap p.1 p.2)
    (bm : ∃ (bm : Addr) (ob : Obj), mg "__builtins__" = some (.ref bm) ∧ bm ≠ builtinsNs ∧ s1.heap.get? bm = some ob ∧ ob.cls = .type "module" ∧ ob.dict = some builtinsNs ∧ ob.data = .plain)
    (ha : s1.heap.get? a = some { cls := .type "list", data := .seq us.toArray }) (rm : Room k callerA)
    (F : ∀ base : Heap, K.In base → base.Ns mainGlobals mg → (∀ p ∈ cs, LamX.TabB base mg p.1 p.2) → FnG P w K mg base CX k fa sp)
    (nx : ∀ H e s', CX [] H s1 (fun _ _ _ => False) e s' → False)
    (H : Hp) (hH : ∀ p ∈ cs, H p.2 = some (.tbl #[])) (hO : ∀ b, H b = none ∨ b ∈ cs.map (·.2) ∨ ∃ o xs, H b = some (.frz o (.lst xs))) (hS : sp [.ref a] H (fun v _ => v = .bl true) fun _ _ _ => False) (hok : HOk P w H s1.heap)
    (hA : ∀ b, H b ≠ none → b = a ∨ b ∈ cs.map (·.2)) (hK : H a ≠ none → K.lookup a = none) :
    codeAny (model P w) callerA (.call (.ref fa) ⟨[.ref a], []⟩) (fun r s' => r = .ok (.ret (.bool true)) ∧ OldK s1.heap s'.heap ∧ s'.os = s1.os ∧ AllBare s'.gens) s1 := by
  have isT : ∀ b : Addr, b ∈ cs.map (·.2) → s1.heap.get? b = some tabO := fun b hb => by
    obtain ⟨p, hp, e⟩ := List.mem_map.mp hb
    rw [← e]
    exact te p hp
  have free : ∀ {b : Addr} {o : Obj}, s1.heap.get? b = some o → (∀ vs n, o.data ≠ .seq vs n) → o.data ≠ .fields #[] → H b = none := by
    intro b o e h1 h2
    apply Classical.byContradiction
    intro z
    rcases hA b z with y | y
    · rw [y, ha] at e
      cases e
      exact h1 _ _ rfl
    · rw [isT b y] at e
      cases e
      exact h2 rfl
  have nsB : ∀ {b : Addr} {m : Str → Option Value}, s1.heap.Ns b m → (hidT s1.heap H).Ns b m := by
    intro b m ⟨o, es, n, e, d, r⟩
    exact ⟨o, es, n, hidT_get e (free e (fun vs n z => by rw [d] at z; cases z) fun z => by rw [d] at z; cases z), d, r⟩
  have inB : K.In (hidT s1.heap H) := by
    intro b o e
    refine hidT_get (kx b o e) (Classical.byContradiction fun z => ?_)
    rcases hA b z with y | y
    · subst y
      rw [hK z] at e
      cases e
    · obtain ⟨p, hp, ep⟩ := List.mem_map.mp y
      rw [← ep, to p hp] at e
      cases e
  have md : Mod K mg (hidT s1.heap H) := ⟨inB, nsB gx, ⟨mb, nsB bx, b2⟩, let ⟨mc, y1, y2⟩ := nl; ⟨mc, nsB y1, y2⟩⟩
  have tb : ∀ p ∈ cs, LamX.TabB (hidT s1.heap H) mg p.1 p.2 := by
    intro p hp
    have hTp := te p hp
    refine ⟨?_, ?_, fun z => ?_⟩
    · obtain ⟨o, vs, file, tf, flags, tg, inF, text, tt, e1, r1, r2, r3, rest⟩ := tc p hp
      refine ⟨o, vs, file, tf, flags, tg, inF, text, tt, hidT_get e1 (free e1 (fun vs n z => ?_) fun z => ?_), r1, r2, r3, rest⟩
      · rw [r2] at z
        cases z
      · rw [r2] at z
        cases z
        simp at r3
    · obtain ⟨m, ob, c1, c2, c3, c4, c5, c6⟩ := bm
      refine ⟨m, ob, c1, c2, fun q => ?_, fun q => ?_, hidT_get c3 (free c3 (fun vs n z => by rw [c6] at z; cases z) fun z => by rw [c6] at z; cases z), c4, c5, c6⟩
      · obtain ⟨o, es, ep, e, hd, _⟩ := gx
        rw [q, e] at c3
        cases c3
        rw [hd] at c6
        cases c6
      · rw [q, hTp] at c3
        cases c3
        cases c6
    · obtain ⟨o, es, ep, e, hd, _⟩ := gx
      rw [z, hTp] at e
      cases e
      cases hd
  have ev : Env0 P w K mg (hidT s1.heap H) callerA [] s1 H :=
    ⟨rfl, md, fun b o e => of_hidT e, Nat.le_of_eq (hidT_size _ _), trivial, fun b hb => absurd (show b ∈ ([] : List Addr) from hb) (by simp), hok, .of_eq ng⟩
  refine codeAny_mono (F _ inB (nsB gx) tb callerA [] s1 H [.ref a] [.ref a] _ _ rm rfl ev (.cons rfl .nil) hS) fun r s2 h => ?_
  match r, h with
  | .error e, h => exact (nx H e s2 h).elim
  | .ok .next, h => exact False.elim h
  | .ok .brk, h => exact False.elim h
  | .ok .cont, h => exact False.elim h
  | .ok (.ret u), h =>
    obtain ⟨v, H2, os, bare, un, ok2, rv, q⟩ := h
    have q2 : v = .bl true := q
    subst q2
    obtain rfl : u = Value.bool true := rv
    have same : ∀ b o, b ∉ cs.map (·.2) → s1.heap.get? b = some o → s2.heap.get? b = some o := by
      intro b o nb e
      rcases hO b with z | z | ⟨ob, xs, z⟩
      · exact un.keep b o e z (fun y => absurd (show b ∈ ([] : List Addr) from y) (by simp)) (by simp)
      · exact absurd z nb
      · have e1 := (hok b _ z).1
        have e2 := (ok2 b _ (un.frzs b ob _ z)).1
        rw [e] at e1
        cases e1
        exact e2
    have grown : ∀ p ∈ cs, ∃ more : Array Value, s2.heap.get? p.2 = some { cls := .none, data := .fields more } := by
      intro p hp
      obtain ⟨more, z⟩ := un.tbls p.2 #[] (hH p hp)
      exact ⟨_, ok2 p.2 _ z⟩
    refine ⟨rfl, ⟨fun b o e => ?_, fun b o e => ?_⟩, os, bare⟩
    · by_cases hb : b ∈ cs.map (·.2)
      · obtain ⟨p, hp, ep⟩ := List.mem_map.mp hb
        obtain ⟨more, hm⟩ := grown p hp
        subst ep
        rw [te p hp] at e
        cases e
        exact .inr (.inl ⟨((tc p hp).tab (te p hp)).isCodeTable, rfl, #[], more, rfl, by rw [Array.empty_append]; exact hm⟩)
      · exact .inl (same b o hb e)
    · by_cases hb : b ∈ cs.map (·.2)
      · obtain ⟨p, hp, ep⟩ := List.mem_map.mp hb
        obtain ⟨more, hm⟩ := grown p hp
        subst ep
        exact ⟨_, hm⟩
      · exact ⟨o, same b o hb e⟩
open Classical in
/-- the tables, the script or nothing -/
noncomputable def hp2 (cs : List (Addr × Addr)) (u : Option HO) (a : Addr) : Hp := fun b => if b ∈ cs.map (·.2) then some (.tbl #[]) else if b = a then u else none
theorem lawGT (kx : K.In s1.heap) (gx : s1.heap.Ns mainGlobals mg) (bx : s1.heap.Ns builtinsNs mb) (b2 : ∀ x : Str, x ≠ "__name__" → mb x = bootBuiltins x) (nl : s1.heap.NoLimit) (ng : s1.gens = #[])
    (te : ∀ p ∈ cs, s1.heap.get? p.2 = some tabO) (to : ∀ p ∈ cs, K.lookup p.2 = none) (tc : ∀ p ∈ cs, PySem.W.CodeHd s1.heap p.1 p.2)
    (bm : ∃ (bm : Addr) (ob : Obj), mg "__builtins__" = some (.ref bm) ∧ bm ≠ builtinsNs ∧ s1.heap.get? bm = some ob ∧ ob.cls = .type "module" ∧ ob.dict = some builtinsNs ∧ ob.data = .plain)
    (ha : s1.heap.get? a = some { cls := .type "list", data := .seq us.toArray }) (hi : IntsAre us ns) (hl : ns.length ≤ sizeLine) (rm : Room k callerA)
    (F : ∀ base : Heap, K.In base → base.Ns mainGlobals mg → (∀ p ∈ cs, LamX.TabB base mg p.1 p.2) → FnG P w K mg base CX k fa sp)
    (hS : ∀ H : Hp, (∀ p ∈ cs, H p.2 = some (.tbl #[])) → SqL K H a (ns.map V.int) → sp [.ref a] H (fun v _ => v = .bl true) fun _ _ _ => False)
    (nx : ∀ H e s', CX [] H s1 (fun _ _ _ => False) e s' → False) :
    codeAny (model P w) callerA (.call (.ref fa) ⟨[.ref a], []⟩) (fun r s' => r = .ok (.ret (.bool true)) ∧ OldK s1.heap s'.heap ∧ s'.os = s1.os ∧ AllBare s'.gens) s1 := by
  have rv := vals_ints hi
  have go := callGT kx gx bx b2 nl ng te to tc bm ha rm F nx
  have aT : a ∉ cs.map (·.2) := fun z => by
    obtain ⟨p, hp, e⟩ := List.mem_map.mp z
    have q := te p hp
    rw [e, ha] at q
    have q2 : Data.seq us.toArray _ = Data.fields #[] := congrArg Obj.data (Option.some.inj q)
    cases q2
  have at_t : ∀ u, ∀ p ∈ cs, hp2 cs u a p.2 = some (.tbl #[]) := fun u p hp => if_pos (List.mem_map.mpr ⟨p, hp, rfl⟩)
  have at_a : ∀ u, hp2 cs u a a = u := fun u => (if_neg aT).trans (if_pos rfl)
  have off : ∀ u b, b ∉ cs.map (·.2) → b ≠ a → hp2 cs u a b = none := fun u b h1 h2 => (if_neg h1).trans (if_neg h2)
  have at_b : ∀ u b, b ∈ cs.map (·.2) → hp2 cs u a b = some (.tbl #[]) := fun u b h => if_pos h
  cases hk : K.lookup a with
  | some o =>
    have e := kx a o hk
    rw [ha] at e
    cases e
    refine go (hp2 cs none a) (at_t none) (fun b => ?_) (hS _ (at_t none) (.inr ⟨_, us.toArray, _, hk, rfl, rfl, rfl, ?_, ?_⟩)) (fun b u z => ?_) (fun b z => ?_) fun z => absurd (at_a none) z
    · by_cases h : b ∈ cs.map (·.2)
      · exact .inr (.inl h)
      · by_cases h2 : b = a
        · subst h2
          exact .inl (at_a none)
        · exact .inl (off _ b h h2)
    · rw [List.size_toArray, hi.length]
      exact hl
    · simpa using rv
    · by_cases h : b ∈ cs.map (·.2)
      · rw [at_b _ b h] at z
        cases z
        obtain ⟨p, hp, e⟩ := List.mem_map.mp h
        rw [← e]
        exact te p hp
      · by_cases h2 : b = a
        · subst h2
          rw [at_a none] at z
          cases z
        · rw [off _ b h h2] at z
          cases z
    · apply Classical.byContradiction
      intro y
      exact z (off _ b (fun h => y (.inr h)) fun h => y (.inl h))
  | none =>
    obtain ⟨u, eu⟩ : ∃ u : Option HO, u = some (.frz { cls := .type "list", data := .seq us.toArray } (.lst (ns.map V.int))) := ⟨_, rfl⟩
    refine go (hp2 cs u a) (at_t u) (fun b => ?_) (hS _ (at_t u) (.inl (.inr ⟨_, (at_a u).trans eu⟩))) (fun b o z => ?_) (fun b z => ?_) fun _ => hk
    · by_cases h : b ∈ cs.map (·.2)
      · exact .inr (.inl h)
      · by_cases h2 : b = a
        · subst h2
          exact .inr (.inr ⟨_, _, (at_a u).trans eu⟩)
        · exact .inl (off _ b h h2)
    · by_cases h : b ∈ cs.map (·.2)
      · rw [at_b _ b h] at z
        cases z
        obtain ⟨p, hp, e⟩ := List.mem_map.mp h
        rw [← e]
        exact te p hp
      · by_cases h2 : b = a
        · subst h2
          rw [at_a u, eu] at z
          cases z
          exact ⟨ha, by rw [List.length_map]; exact hl, us, _, rv, ha⟩
        · rw [off _ b h h2] at z
          cases z
    · apply Classical.byContradiction
      intro y
      exact z (off _ b (fun h => y (.inr h)) fun h => y (.inl h))
end
theorem walkGT {l : PySem.W.OpenLaw} {n k : Nat} {q : Program} {loose : List Str} {XP : (Str → Option Value) → Heap → Prop} {YP : World → Heap → Prop} {d : DefRec}
    (hn : l.most = some n) (hn2 : n ≤ sizeLine) (hd : d.params.defaults = []) (rm : Room k callerA)
    (F : ∀ (w : World) (mg : Str → Option Value) (fa : Addr) (h : Heap), YP w h → h.Ns mainGlobals mg → mg d.name = some (.ref fa) →
      ∃ (K : PySem.W.Frag) (cs : List (Addr × Addr)) (sp : Sp), K.In h ∧ (∀ p ∈ cs, h.get? p.2 = some tabO) ∧ (∀ p ∈ cs, K.lookup p.2 = none) ∧ (∀ p ∈ cs, PySem.W.CodeHd h p.1 p.2) ∧
        (∀ (H : Hp) (a : Addr) (ns : List Int), ns.length ≤ n → (∀ p ∈ cs, H p.2 = some (.tbl #[])) → SqL K H a (ns.map V.int) → sp [.ref a] H (fun v _ => v = .bl true) fun _ _ _ => False) ∧
        ∀ base : Heap, K.In base → base.Ns mainGlobals mg → (∀ p ∈ cs, LamX.TabB base mg p.1 p.2) → FnG l.prog w K mg base (L2.CX l.prog w) k fa sp)
    (nx : ∀ (w : World) (H : Hp) (s : Shared) (e : Value) (s' : Shared), L2.CX l.prog w [] H s (fun _ _ _ => False) e s' → False) :
    PySem.W.WalkO q loose XP YP l.row.toRowW d [] (fun f vs => PySem.call f vs) := by
  refine Att.attach_callB hn hd fun w s0 s1 mg mb fa o pm cd doc a us ns G Y ho hd hcd hmg hobj hints hlen hbits hg => ?_
  obtain ⟨K, cs, sp, kx, te, to, tc, hS, hF⟩ := F w mg fa _ Y G.T.g hmg
  exact lawGT kx G.T.g G.T.b G.T.builtins G.T.nolimit hg te to tc G.T.bmain hobj hints (Nat.le_trans hlen hn2) rm hF (fun H ht hs => hS H a ns hlen ht hs) (nx w · s1)
end EM
namespace K12
open PySem PySem.Spec PyProof.Rows L2
structure Tx (K : PySem.W.Frag) (mg : Str → Option Value) : Prop where
  says : EM.SaysF fa fn K
  ex : ∃ h : Heap, K.In h ∧ h.Ns mainGlobals mg
  tab : ∀ t ∈ tf, EM.TabK K (t K)
end K12
namespace K12
open PySem PySem.Spec PyProof.Rows L2
def cs (K : PySem.W.Frag) : List (Addr × Addr) := tf.map fun t => (EM.cA K (t K), EM.tA K (t K))
def spLaw (K : PySem.W.Frag) : Sp := fun vs H Q _ => ∃ (a : Addr) (ns : List Int), vs = [.ref a] ∧ SqL K H a (ns.map V.int) ∧ ns.length ≤ 63 ∧ (∀ q ∈ cs K, H q.2 = some (.tbl #[])) ∧ ∀ H', Q (.bl true) H'
end K12
namespace K12
open PySem PySem.Spec PyProof.Rows L2
theorem g_law0 {K : PySem.W.Frag} {mg : Str → Option Value} (T : Tx K mg) : mg "law" = some (.ref (He.ga K "law")) :=
  have c := T.says.fact 40 (f := fun K => (He.Fa.glo "law").ok K) (by rfl)
  let ⟨_, X, G⟩ := T.ex; He.glo_ok X G c
open PySem PySem.W PySem.Calls PyProof.Rows
set_option maxHeartbeats 0 in
theorem pre (hyp : ∀ (K : PySem.W.Frag) (mg : PySem.Str → Option Value) (T : Tx K mg) (P : PySem.Program) (w : PySem.World) (base : PySem.Heap) (TB : ∀ p ∈ cs K, LamX.TabB base mg p.1 p.2), EM.FnG P w K mg base (L2.CX P w) 24 (He.ga K "law") (spLaw K)) : PySem.Challenge.rw_edgesmeet_k12_readings_made.Holds := by
  w_on; o_law
  refine HandSHeadRun.head_any (r := OpenLaw.row PySem.Challenge.rw_edgesmeet_k12_readings_made) (q := view (OpenLaw.row PySem.Challenge.rw_edgesmeet_k12_readings_made).prog [62]) (H := K12.hk) (ob := K12.ob) (M := 20000) (loose := K12.names) (d := HandSHeadRun.topDef (OpenLaw.row PySem.Challenge.rw_edgesmeet_k12_readings_made).prog 62) (kwd := []) K12.ob_eq
    (by kernel_rfl) (fun s => by kernel_rfl) K12.run (by kernel_rfl) (by kernel_rfl) (by kernel_rfl) (by rfl) (by first | assumption | decide +kernel) (by decide +kernel) ⟨rfl, rfl, rfl, rfl, rfl, by decide +kernel⟩ ?hw ?hc
  case hw => w_witness2
  case hc =>
    refine EM.walkGT (l := PySem.Challenge.rw_edgesmeet_k12_readings_made) (n := 63) (k := 24) rfl (by decide) (by kernel_rfl) ⟨rfl, by decide, by decide⟩ ?F ?Z
    case Z =>
      rintro w H s e s' ⟨_, _, _, _, _, _, _, _, _, _, _, _, z⟩
      exact z
    intro w mg fa h Y G hmg0
    obtain ⟨K, KX, c, tb⟩ := Y
    have hmg : mg ("law" : PySem.Str) = some (.ref fa) := by
      have e : (HandSHeadRun.topDef (OpenLaw.row PySem.Challenge.rw_edgesmeet_k12_readings_made).prog 62).name = ("law" : PySem.Str) := by kernel_rfl
      rw [← e]
      exact hmg0
    have T : K12.Tx K mg := ⟨c, ⟨h, KX, G⟩, fun t ht => (tb t ht).1⟩
    have e := hmg.symm.trans (g_law0 T)
    cases e
    have of : ∀ p ∈ K12.cs K, ∃ t ∈ K12.tf, p = (EM.cA K (t K), EM.tA K (t K)) := fun p hp => by
      obtain ⟨t, ht, e⟩ := List.mem_map.mp hp
      exact ⟨t, ht, e.symm⟩
    refine ⟨K, K12.cs K, K12.spLaw K, KX, fun p hp => ?_, fun p hp => ?_, fun p hp => ?_, fun H a ns hl ht hS => ⟨a, ns, rfl, hS, hl, ht, fun _ => rfl⟩, fun base _ _ TB => hyp K mg T _ _ base TB⟩
    · obtain ⟨t, ht, rfl⟩ := of p hp
      exact (tb t ht).2
    · obtain ⟨t, ht, rfl⟩ := of p hp
      exact (tb t ht).1.out
    · obtain ⟨t, ht, rfl⟩ := of p hp
      exact PySem.W.codeHd_of_K KX (tb t ht).1.hd
end K12
/-! EM25: C.m(..), m a static method; C(k = v, ..). -/
namespace EM
open PySem PySem.Spec PyProof.Rows L2
/-- C.m is a static method, its def at g -/
structure SMet (K : PySem.W.Frag) (C : Addr) (m : Str) (g : Addr) : Prop where
  at_ : PySem.W.findCls K (.ref C) (.type "type") m = some (.get (.builtin "staticmethod.__get__") (.ref (He.ma K C m)) .none (.ref C))
  rc : ∃ rest, PySem.W.recIn K (He.ma K C m) "staticmethod" = some (.ref g :: rest)
theorem smetB_ok {K : PySem.W.Frag} {C : Addr} {m : Str} (c : smetB K C m = true) : SMet K C m (He5.wf K C "staticmethod" m) := by
  obtain ⟨h1, h2⟩ := He5.wrapB_ok c
  exact ⟨h1, h2⟩
def tSM (C : Addr) (sp : Sp) (E : XK) (ta : TE) (t : TA) : TE := fun σ H Q => ta σ H fun x H1 => x = .ref C ∧ t σ H1 fun vs H2 => sp vs H2 Q E
section
variable {X : Cx} {CX : CXT} {k : Nat} {C g : Addr} {sp : Sp} {sp2 : Sp2} {E : XK} {o e : Expr} {es : List Expr} {m : Str} {pos apos : Pos} {ta : TE} {t tk : TA} {pl : Sem Bool} {kws : List Keyword} {ks : List Str}
theorem getsm_ok {pins : List (Addr × Obj)} {σ : L2.St} {H : Hp} {s : Shared} {A : Around} {E : Value → Shared → Prop} {Q : Value × List Value → Shared → Prop} (I : Inv X pins σ H s) (r : ClX.CRead X.K C (.type "type")) (c : SMet X.K C m g)
    (h : ∀ s', Inv X pins σ H s' → Q (.ref g, []) s') : wpAny (model X.prog X.w) A (getMethod (.ref C) m pl) Q E s := by
  obtain ⟨rest, hp⟩ := c.rc
  refine PySem.W.method_cls I.kIn r.ga (PySem.W.cls_bind I.kIn r.rd c.at_ ?_)
  exact wpAny_call (PySem.W.sm_get (s := { s with toks := s.toks + 1 }) I.kIn hp (PySem.W.handed_on rfl (h _ (I.tok _))))
/-- C.m(e, ..) -/
theorem pe_smR (he : PE X o ta) (r : ClX.CRead X.K C (.type "type")) (c : SMet X.K C m g) (F : FnR X.prog X.w X.K X.mg X.base CX k g sp) (hr : Room k X.A) (hk : PySem.W.keepIn X.K (.ref g) = true) (hx : Passes CX X E) (ha : PA X (e :: es) t)
    (hst : starEach (e :: es) X.env = (false, eval e X.env) :: starEach es X.env := by rfl) (hpl : (backTo pos (starEach es X.env)).any (·.1) = false := by rfl)
    (ht : eval (.Call (.Attribute o m apos) (e :: es) [] pos) X.env = (do
      let ov ← eval o X.env
      standAt apos.atName
      let (f, first) ← holding [ov] (getMethod ov m pl)
      callWith pos f first (backTo pos (starEach (e :: es) X.env)) (backToKw pos (keywordEach [] X.env))) := by rfl) :
    PE X (.Call (.Attribute o m apos) (e :: es) [] pos) (tSM C sp E ta t) := by
  refine ⟨fun pins s σ H Q I h => ?_⟩
  refine PySem.W.methodCall_KW (pl := pl) (thn (he.run pins s σ H _ I h) fun u s1 hu => ?_) ht
  obtain ⟨x, H1, I1, rx, ex, q⟩ := hu
  subst ex
  obtain rfl : u = Value.ref C := rx
  refine getsm_ok I1 r c fun s2 I2 => ?_
  refine PySem.W.callWith_K (h₀ := X.base) (first := []) I2.ok.mod.kin hk (thn (ha.run pos pins s2 σ H1 _ I2 q) fun us s3 ⟨vs, H2, I3, rv, q2⟩ => ⟨I3.kIn, ?_⟩) hst hpl
  exact wpAny_call (run_fnR F hr hx I3 rv q2)
end
end EM
/-! EM26: Ratios made of anything. -/
namespace EM
open PySem PySem.Spec PyProof.Rows L2
/-- no integer -/
def oddI (K : PySem.W.Frag) (H : Hp) (v : V) : Prop := ∃ t b1 b2, TyX K H v t ∧ PySem.W.kitOne K t (.type "int") = some b1 ∧ PySem.W.kitOne K t (.type "bool") = some b2 ∧ (b1 && !b2) = false
/-- things that are no integers and no Ratios -/
def OddN (H : Hp) (p : Addr) (v : V) : Prop := v = .non ∨ (∃ b, v = .bl b) ∨ (∃ s, v = .str s) ∨ ∃ a, v = .ref a ∧ a ≠ p ∧ ((∃ xs, H a = some (.tup xs)) ∨ (∃ xs, H a = some (.lst xs)) ∨ ∃ kv, H a = some (.dK kv))
theorem OddN.keep {H H' : Hp} {p : Addr} {v : V} (h : OddN H p v) (k : Keep p H H') : OddN H' p v := by
  rcases h with h | h | h | ⟨a, e, n, h⟩
  · exact .inl h
  · exact .inr (.inl h)
  · exact .inr (.inr (.inl h))
  · refine .inr (.inr (.inr ⟨a, e, n, ?_⟩))
    rcases h with ⟨xs, h⟩ | ⟨xs, h⟩ | ⟨kv, h⟩
    · exact .inl ⟨xs, k _ _ h n⟩
    · exact .inr (.inl ⟨xs, k _ _ h n⟩)
    · exact .inr (.inr ⟨kv, k _ _ h n⟩)
theorem OddN.ext {H H' : Hp} {p : Addr} {v : V} (h : OddN H p v) (k : ∀ b o, H b = some o → b ≠ p → (∀ ps, o ≠ .tbl ps) → H' b = some o) : OddN H' p v := by
  rcases h with h | h | h | ⟨a, e, n, h⟩
  · exact .inl h
  · exact .inr (.inl h)
  · exact .inr (.inr (.inl h))
  · refine .inr (.inr (.inr ⟨a, e, n, ?_⟩))
    rcases h with ⟨xs, h⟩ | ⟨xs, h⟩ | ⟨kv, h⟩
    · exact .inl ⟨xs, k _ _ h n (fun _ z => by cases z)⟩
    · exact .inr (.inl ⟨xs, k _ _ h n (fun _ z => by cases z)⟩)
    · exact .inr (.inr ⟨kv, k _ _ h n (fun _ z => by cases z)⟩)
theorem OddN.ty {K : PySem.W.Frag} {H : Hp} {p : Addr} {v : V} (h : OddN H p v) : ∃ T b1 b2, TyX K H v (.type T) ∧ PySem.W.kitOne K (.type T) (.type "int") = some b1 ∧ PySem.W.kitOne K (.type T) (.type "bool") = some b2 ∧ (b1 && !b2) = false ∧ T ∈ ["bool", "NoneType", "str", "tuple", "list", "dict"] := by
  rcases h with rfl | ⟨b, rfl⟩ | ⟨s, rfl⟩ | ⟨a, rfl, n, h⟩
  · exact ⟨"NoneType", false, false, .base .non, kit_ty (by decide +kernel), kit_ty (by decide +kernel), rfl, by decide⟩
  · exact ⟨"bool", true, true, .base (.bl b), kit_ty (by decide +kernel), kit_ty (by decide +kernel), rfl, by decide⟩
  · exact ⟨"str", false, false, .base (.str s), kit_ty (by decide +kernel), kit_ty (by decide +kernel), rfl, by decide⟩
  · rcases h with ⟨xs, h⟩ | ⟨xs, h⟩ | ⟨kv, h⟩
    · exact ⟨"tuple", false, false, .base (.tup h), kit_ty (by decide +kernel), kit_ty (by decide +kernel), rfl, by decide⟩
    · exact ⟨"list", false, false, .base (.lst h), kit_ty (by decide +kernel), kit_ty (by decide +kernel), rfl, by decide⟩
    · exact ⟨"dict", false, false, .base (.dK h), kit_ty (by decide +kernel), kit_ty (by decide +kernel), rfl, by decide⟩
theorem OddN.int {K : PySem.W.Frag} {H : Hp} {p : Addr} {v : V} (h : OddN H p v) : oddI K H v := by
  obtain ⟨T, b1, b2, h1, h2, h3, h4, _⟩ := h.ty (K := K)
  exact ⟨_, b1, b2, h1, h2, h3, h4⟩
/-- x(..) under a lambda: nothing but tables and the pen is written -/
def KeepN (p : Addr) (H H' : Hp) : Prop := ∀ b o, H b = some o → b ≠ p → (∀ ps, o ≠ .tbl ps) → H' b = some o
theorem KeepN.of {p : Addr} {H H' : Hp} (k : Keep p H H') : KeepN p H H' := fun b o e n _ => k b o e n
theorem KeepN.ext {p : Addr} {H H' : Hp} (k : LamX.ExtN H H') : KeepN p H H' := fun b o e _ t => k b o e t
theorem KeepN.trans {p : Addr} {H H1 H2 : Hp} (a : KeepN p H H1) (b : KeepN p H1 H2) : KeepN p H H2 := fun c o e n t => b c o (a c o e n t) n t
theorem Pen.extN {H H' : Hp} {p l : Addr} {n : Nat} (h : Pen H p l n) (e : LamX.ExtN H H') : Pen H' p l n := by
  obtain ⟨c, a, r, h1, h2, h3, h4, h5, h6⟩ := h
  exact ⟨c, a, r, e _ _ h1 (fun _ z => by cases z), e _ _ h2 (fun _ z => by cases z), h3, h4, h5, h6⟩
end EM
/-! EM27: own binary operators: an instance with one of its class, with an int. -/
namespace EM
open PySem PySem.Spec PyProof.Rows L2
/-- what is asked of the class C for the operator named nm: its def at g, the reflected one at r -/
structure BinC (K : PySem.W.Frag) (C : Addr) (nm : String) (g r : Addr) : Prop where
  first : PySem.W.selfFirst K C = true
  at_ : PySem.W.findIn K (.ref C) (PySem.dunder nm) = some (some (.ref g))
  fn : PySem.W.isFn K (.ref g) = true
  rat : PySem.W.findIn K (.ref C) (dunderR nm) = some (some (.ref r))
  rfn : PySem.W.isFn K (.ref r) = true
  sub : PySem.W.subIn K (.type "int") (.ref C) = some false
def rBinO (C : Addr) (sp : Sp) (E : XK) : R2 := fun x y H Q => ∃ a dx fs, x = .ref a ∧ H a = some (.ins C dx fs) ∧ ((∃ b dy gs, y = .ref b ∧ H b = some (.ins C dy gs)) ∨ ∃ i, y = .int i) ∧ sp [.ref a, y] H Q E
section
variable {X : Cx} {CX : CXT} {n : Nat} {g r C : Addr} {sp : Sp} {E : XK}
theorem op_binO {op : Operator} {fo ro : Option Value} (B : BinC X.K C op.info.2 g r) (h1 : PySem.W.findIn X.K (.type "int") (PySem.dunder op.info.2) = some fo) (h2 : PySem.W.findIn X.K (.type "int") (dunderR op.info.2) = some ro)
    (F : FnR X.prog X.w X.K X.mg X.base CX n g sp) (rm : Room n X.A) (hx : Passes CX X E) : OpR X (binaryOp op) (rBinO C sp E) := by
  intro pins s σ H x y v u Q I rx ry h
  obtain ⟨a, dx, fs, rfl, ha, hy, q⟩ := h
  cases (show v = Value.ref a from rx)
  obtain ⟨ox, od, J, _⟩ := ins_at I ha
  obtain ⟨m, hF⟩ := I.fr
  have back : ∀ {w : Value} {s2 : Shared}, EP X pins σ Q w s2 → PySem.W.CmpBack (EP X pins σ Q) w s2 := fun {w s2} z => by
    obtain ⟨z', H', I', rz, qz⟩ := z
    exact SlX.cmpback rz ⟨z', H', I', rz, qz⟩
  have run : wpAny (model X.prog X.w) X.A (call (.ref g) [.ref a, u]) (PySem.W.CmpBack (EP X pins σ Q)) X.xe s :=
    wpAny_mono (wpAny_call (run_fnR (us := [.ref a, u]) (vs := [.ref a, y]) F rm hx I (.cons rfl (.cons ry .nil)) q)) (fun w s2 z => back z) fun _ _ x => x
  rcases hy with ⟨b, dy, gs, rfl, hb⟩ | ⟨i, rfl⟩
  · cases (show u = Value.ref b from ry)
    obtain ⟨oy, od', J', _⟩ := ins_at I hb
    exact PySem.W.binop_K hF I.ok.mod.kin J J'.type B.first B.at_ B.fn run
  · obtain ⟨t, rfl⟩ := ry
    exact PySem.W.ksp_binT (T := "int") hF I.ok.mod.kin J rfl B.first B.at_ B.fn B.rat (.inr ⟨_, rfl⟩) h1 h2 B.sub run
end
end EM
/-! EM28: i op x, x an instance with a reflected operator of its own. -/
namespace PySem.W
open Lean Elab Tactic Meta PySem PySem.Calls PyProof.Rows
section
variable {prog : Program} {w : World} {A : Around} {E : Value → Shared → Prop} {s : Shared} {K : Frag} {x C L f g : Addr} {h₀ : Heap} {m : Str → Option Value} {ox : Obj} {od : Option Obj}
theorem em_rbin {op : Operator} {i : Int} {t : Tok} {fo ro : Option Value} {Q : Value → Shared → Prop} (F : Fr h₀ L s.heap m) (X₀ : K.In h₀) (I : InstAt s.heap x ox C od) (hc : selfFirst K C = true)
    (hs : findIn K (.ref C) (PySem.dunder op.info.2) = some (some (.ref f))) (hr : findIn K (.ref C) (dunderR op.info.2) = some (some (.ref g))) (hg : isFn K (.ref g) = true)
    (h1 : findIn K (.type "int") (PySem.dunder op.info.2) = some fo) (h2 : findIn K (.type "int") (dunderR op.info.2) = some ro) (hl : ((fo.isSome && !isSeqSlot fo) || (ro.isSome && !isSeqSlot ro)) = true) (hsub : subIn K (.ref C) (.type "int") = some false)
    (hd : ∀ (E : Value → Shared → Prop) (Q' : Option Value → Shared → Prop), Q' none s → wpAny (model prog w) A (tryMethod (.int i t) (PySem.dunder op.info.2) (.ref x)) Q' E s)
    (h : wpAny (model prog w) A (call (.ref g) [.ref x, .int i t]) (CmpBack Q) E s) : wpAny (model prog w) A (binaryOp op (.int i t) (.ref x)) Q E s := by
  have X := X₀.keeps F.keep
  obtain ⟨cd, rest, hcd, hm⟩ := ksp_first hc
  rcases hi : op.info with ⟨sym, nm'⟩
  rw [hi] at hs hr h1 h2 hd
  dsimp only at hs hr h1 h2 hd
  have one := ksp_try X I hr hg h
  obtain ⟨hh, gg, d, tt, os⟩ := s
  have L1 : Looks (model prog w) hh (typeOf (.int i t)) (.type "int") := Looks.of_pure rfl
  have L2 : Looks (model prog w) hh (typeOf (.ref x)) (.ref C) := I.type
  have L3 : Looks (model prog w) hh (fillsNumberSlot (.type "int") nm') true := hl ▸ ksp_fillsT X h1 h2
  have L4 : Looks (model prog w) hh (fillsNumberSlot (.ref C) nm') true := fills_K X hcd hm hs
  have L5 : Looks (model prog w) hh (isSubtype (.ref C) (.type "int")) false := looks_subIn X hsub
  have L6 : Looks (model prog w) hh (numberSlotInPython (.type "int") nm') false := Looks.of_pure rfl
  have hne : (Value.type "int" == Value.ref C) = false := Bool.eq_false_iff.mpr fun q => by cases beq_iff_eq.mp q
  simp only [binaryOp, hi]
  refine wpAny_holding (wpAny_bind ?_)
  unfold binaryOp1
  refine wpAny_bind (L1.at (wpAny_bind (L2.at (wpAny_bind (L3.at ?_)))))
  simp only [hne, Bool.false_eq_true, if_false]
  ksp_lk
  refine hd _ _ ?_
  ksp_lk
  refine wpAny_mono one (fun r s' hr' => ?_) fun _ _ e => e
  obtain ⟨v, rfl, hq⟩ := hr'
  ksp_lk
  exact hq
end
end PySem.W
namespace PySem.W
open PySem PySem.Calls PyProof.Rows Builtin Builtin.Int
section
variable {prog : Program} {w : World} {A : Around} {E : Value → Shared → Prop} {s : Shared} {x C : Addr} {ox : Obj} {od : Option Obj}
theorem int_is (i : Int) (t : Tok) (h : Heap) : Looks (model prog w) h (isInstance (.int i t) (.type "int")) true := by
  intro A Q E s k q
  exact wpAny_isInstance (T := "int") (b := true) (typeIs_int _ _ _) (by rfl) q
theorem em_nobin {name : String} {fB : Int → Int → Sem Fin} {i : Int} {t : Tok} {Q : Fin → Shared → Prop} (I : InstAt s.heap x ox C od) (hd : ox.data = .plain) (h : wpAny (model prog w) A (ret .notImplemented) Q E s) :
    wpAny (model prog w) A (intBinary name fB false ⟨[.int i t, .ref x], []⟩) Q E s := by
  unfold intBinary
  refine wpAny_bind (m := slotArgs name 1 _) (wpAny_pure ?_)
  refine wpAny_bind (m := intOfSelf _) (wpAny_pure ?_)
  refine wpAny_bind (m := asInt? (.ref x)) ?_
  unfold asInt?
  refine wpAny_bind (wpAny_load I.at_ ?_)
  rw [hd]
  refine wpAny_pure ?_
  exact wpAny_bind (wpAny_rule h)
theorem em_decl {nm : Str} {id n name : String} {fB : Int → Int → Sem Fin} {bi : Builtin} {i : Int} {t : Tok} (S : Slot "int" nm id) (en : entryFor table id = some bi) (hk : builtinKind id = some .slot) (hsp : splitId id = some ("int", n)) (ha : ∀ a b : Value, argsOk id ⟨[a, b], []⟩)
    (hb : ∀ args, bi args = intBinary name fB false args) (I : InstAt s.heap x ox C od) (hd : ox.data = .plain) (E : Value → Shared → Prop) (Q : Option Value → Shared → Prop) (q : Q none s) : wpAny (model prog w) A (tryMethod (.int i t) nm (.ref x)) Q E s := by
  refine wpAny_tryMethod_declines (typeIs_int _ _ _) S (wpAny_call (codeAny_call_builtin S.plain en (check_slot hk hsp (int_is i t _) (ha _ _) ?_)))
  rw [hb]
  exact em_nobin I hd (wpAny_pure ⟨rfl, q⟩)
theorem decl_sub {i : Int} {t : Tok} (I : InstAt s.heap x ox C od) (hd : ox.data = .plain) (E : Value → Shared → Prop) (Q : Option Value → Shared → Prop) (q : Q none s) : wpAny (model prog w) A (tryMethod (.int i t) (PySem.dunder "sub") (.ref x)) Q E s :=
  em_decl (n := "__sub__") F.slot_int_sub F.entry_int_sub (by decide +kernel) (by decide +kernel) F.args_int_sub_2 (fun _ => rfl) I hd E Q q
end
end PySem.W
/-! EM29: i op x as a rule of the hand layer. -/
namespace EM
open PySem PySem.Spec PyProof.Rows L2
def rBinR (C : Addr) (sp : Sp) (E : XK) : R2 := fun x y H Q => ∃ i b dy gs, x = .int i ∧ y = .ref b ∧ H b = some (.ins C dy gs) ∧ sp [.ref b, .int i] H Q E
section
variable {X : Cx} {CX : CXT} {n : Nat} {g r C : Addr} {sp : Sp} {E : XK}
theorem op_binR {op : Operator} {fo ro : Option Value} (B : BinC X.K C op.info.2 g r) (h1 : PySem.W.findIn X.K (.type "int") (PySem.dunder op.info.2) = some fo) (h2 : PySem.W.findIn X.K (.type "int") (dunderR op.info.2) = some ro)
    (hl : ((fo.isSome && !isSeqSlot fo) || (ro.isSome && !isSeqSlot ro)) = true) (hsub : PySem.W.subIn X.K (.ref C) (.type "int") = some false)
    (hd : ∀ {s : Shared} {x : Addr} {ox : Obj} {od : Option Obj} {i : Int} {t : Tok}, PySem.W.InstAt s.heap x ox C od → ox.data = .plain → ∀ (E : Value → Shared → Prop) (Q : Option Value → Shared → Prop), Q none s → wpAny (model X.prog X.w) X.A (tryMethod (.int i t) (PySem.dunder op.info.2) (.ref x)) Q E s)
    (F : FnR X.prog X.w X.K X.mg X.base CX n r sp) (rm : Room n X.A) (hx : Passes CX X E) : OpR X (binaryOp op) (rBinR C sp E) := by
  intro pins s σ H x y v u Q I rx ry h
  obtain ⟨i, b, dy, gs, rfl, rfl, hb, q⟩ := h
  obtain ⟨t, rfl⟩ := rx
  cases (show u = Value.ref b from ry)
  obtain ⟨oy, od, J, hp⟩ := ins_at I hb
  obtain ⟨m, hF⟩ := I.fr
  have run : wpAny (model X.prog X.w) X.A (call (.ref r) [.ref b, .int i t]) (PySem.W.CmpBack (EP X pins σ Q)) X.xe s :=
    wpAny_mono (wpAny_call (run_fnR (us := [.ref b, .int i t]) (vs := [.ref b, .int i]) F rm hx I (.cons rfl (.cons ⟨t, rfl⟩ .nil)) q)) (fun w s2 z => by
      obtain ⟨z', H', I', rz, qz⟩ := z
      exact SlX.cmpback rz ⟨z', H', I', rz, qz⟩) fun _ _ x => x
  exact PySem.W.em_rbin hF I.ok.mod.kin J B.first B.at_ B.rat B.rfn h1 h2 hl hsub (fun E Q' q' => hd J (by first | exact hp | exact hp.1 | exact hp.2 | exact hp.1.1) E Q' q') run
end
end EM
/-! EM30: abs(x), not x of an instance with its own __abs__, __bool__. -/
namespace PySem.W
open PySem PySem.Calls PyProof.Rows Builtin
end PySem.W
namespace EM
open PySem PySem.Spec PyProof.Rows L2
end EM
/-! EM31: two readings of one operator; bool(x) of an instance; op= without an own one; C() of an own error; o.m(k = v). -/
namespace PySem.W
open PySem PySem.Calls PyProof.Rows Builtin
end PySem.W
namespace PySem.W
open PySem PySem.Calls PyProof.Rows
end PySem.W
namespace EM
open PySem PySem.Spec PyProof.Rows L2
section
variable {X : Cx} {CX : CXT} {n k : Nat} {g r C : Addr} {sp : Sp} {E : XK} {o e : Expr} {es : List Expr} {ta te : TE} {t tk : TA} {m : Str} {apos pos p : Pos}
/-- one of two readings -/
theorem op_two {f : Value → Value → Sem Value} {r1 r2 : R2} (h1 : OpR X f r1) (h2 : OpR X f r2) : OpR X f (fun x y H Q => r1 x y H Q ∨ r2 x y H Q) := by
  intro pins s σ H x y v u Q I rx ry h
  rcases h with h | h
  · exact h1 pins s σ H x y v u Q I rx ry h
  · exact h2 pins s σ H x y v u Q I rx ry h
theorem un_two {f : Value → Sem Value} {r1 r2 : V → Hp → VK → Prop} (h1 : UnR X f r1) (h2 : UnR X f r2) : UnR X f (fun x H Q => r1 x H Q ∨ r2 x H Q) := by
  intro pins s σ H x v Q I rx h
  rcases h with h | h
  · exact h1 pins s σ H x v Q I rx h
  · exact h2 pins s σ H x v Q I rx h
theorem call_two {f : Value} {r1 r2 : List V → Hp → VK → Prop} (h1 : CallR X f r1) (h2 : CallR X f r2) : CallR X f (fun xs H Q => r1 xs H Q ∨ r2 xs H Q) := by
  intro pins s σ H xs us Q I r h
  rcases h with h | h
  · exact h1 pins s σ H xs us Q I r h
  · exact h2 pins s σ H xs us Q I r h
end
end EM
/-! EM32: numbers: Ratios in lowest terms and ints; what their operators promise. -/
namespace EM
open PySem PySem.Spec PyProof.Rows L2
structure Low (t b : Int) : Prop where
  pos : 0 < b
  red : Int.gcd t b = 1
def Bt (n : Nat) (i : Int) : Prop := i.natAbs < 2 ^ n
theorem Bt.mono {n m : Nat} {i : Int} (h : Bt n i) (e : n ≤ m) : Bt m i := Nat.lt_of_lt_of_le h (Nat.pow_le_pow_right (by decide) e)
theorem Bt.log {n : Nat} {i : Int} (h : Bt n i) (h0 : 0 < n) : i.natAbs.log2 < n := PySem.Flt.log2_lt_of h0 h
theorem Bt.le {n : Nat} {i j : Int} (h : Bt n i) (e : j.natAbs ≤ i.natAbs) : Bt n j := Nat.lt_of_le_of_lt e h
theorem Bt.mul {n m : Nat} {i j : Int} (h : Bt n i) (g : Bt m j) : Bt (n + m) (i * j) := wide_lt h g
theorem Bt.neg {n : Nat} {i : Int} (h : Bt n i) : Bt n (-i) := h.le (by omega)
theorem Bt.add {n : Nat} {i j : Int} (h : Bt n i) (g : Bt n j) : Bt (n + 1) (i + j) := by
  have h1 : i.natAbs < 2 ^ n := h
  have h2 : j.natAbs < 2 ^ n := g
  show (i + j).natAbs < 2 ^ (n + 1)
  rw [Nat.pow_succ]
  omega
theorem Bt.lt {n : Nat} {i : Int} (h : i < (2 : Int) ^ n) (g : -((2 : Int) ^ n) < i) : Bt n i := by
  have e : ((2 ^ n : Nat) : Int) = (2 : Int) ^ n := by
    rw [Int.natCast_pow]
    rfl
  show i.natAbs < 2 ^ n
  omega
theorem wideB {n m : Nat} {i j : Int} (h : Bt n i) (g : Bt m j) (h0 : 0 < n := by decide) (h1 : 0 < m := by decide) (e : n + m ≤ 1000000 := by decide) : CMulW i j := wide_mul h g h0 h1 e
theorem shr_dvd {t b : Int} : shr t b ∣ t ∧ shr t b ∣ b := by
  unfold shr
  split
  · exact ⟨Int.neg_dvd.mpr (Int.gcd_dvd_left ..), Int.neg_dvd.mpr (Int.gcd_dvd_right ..)⟩
  · exact ⟨Int.gcd_dvd_left .., Int.gcd_dvd_right ..⟩
theorem n_mul {t b : Int} : nTop t b * shr t b = t ∧ nBot t b * shr t b = b := by
  obtain ⟨h1, h2⟩ := shr_dvd (t := t) (b := b)
  exact ⟨Int.fdiv_mul_cancel h1, Int.fdiv_mul_cancel h2⟩
theorem n_low {t b : Int} (h : b ≠ 0) : Low (nTop t b) (nBot t b) := ⟨bot_gt h, n_gcd h⟩
theorem n_cross {t b : Int} : nTop t b * b = t * nBot t b := by
  obtain ⟨h1, h2⟩ := n_mul (t := t) (b := b)
  have e1 : nTop t b * b = nTop t b * (nBot t b * shr t b) := by rw [h2]
  have e2 : t * nBot t b = nTop t b * shr t b * nBot t b := by rw [h1]
  rw [e1, e2, Int.mul_assoc, Int.mul_comm (shr t b)]
theorem low_eq {t b u c : Int} (h : Low t b) (g : Low u c) (e : t * c = u * b) : t = u ∧ b = c := by
  have d1 : b ∣ c := by
    have : b ∣ t * c := ⟨u, by rw [e, Int.mul_comm]⟩
    have : b.natAbs ∣ t.natAbs * c.natAbs := by
      rw [← Int.natAbs_mul]
      exact Int.natAbs_dvd_natAbs.mpr this
    have co : Nat.Coprime b.natAbs t.natAbs := by
      rw [Nat.coprime_iff_gcd_eq_one, Nat.gcd_comm]
      exact h.red
    exact Int.natAbs_dvd_natAbs.mp (Nat.Coprime.dvd_of_dvd_mul_left co this)
  have d2 : c ∣ b := by
    have : c ∣ u * b := ⟨t, by rw [← e, Int.mul_comm]⟩
    have : c.natAbs ∣ u.natAbs * b.natAbs := by
      rw [← Int.natAbs_mul]
      exact Int.natAbs_dvd_natAbs.mpr this
    have co : Nat.Coprime c.natAbs u.natAbs := by
      rw [Nat.coprime_iff_gcd_eq_one, Nat.gcd_comm]
      exact g.red
    exact Int.natAbs_dvd_natAbs.mp (Nat.Coprime.dvd_of_dvd_mul_left co this)
  have p1 := h.pos
  have p2 := g.pos
  have eb : b = c := Int.le_antisymm (Int.le_of_dvd p2 d1) (Int.le_of_dvd p1 d2)
  subst eb
  exact ⟨Int.eq_of_mul_eq_mul_right (by omega) e, rfl⟩
theorem n_eq {t b u c : Int} (hb : b ≠ 0) (hc : c ≠ 0) (e : t * c = u * b) : nTop t b = nTop u c ∧ nBot t b = nBot u c := by
  refine low_eq (n_low hb) (n_low hc) ?_
  have h1 := n_cross (t := t) (b := b)
  have h2 := n_cross (t := u) (b := c)
  refine Int.eq_of_mul_eq_mul_right (a := b * c) (by simp [hb, hc]) ?_
  calc nTop t b * nBot u c * (b * c) = (nTop t b * b) * (nBot u c * c) := by ac_rfl
    _ = t * nBot t b * (nBot u c * c) := by rw [h1]
    _ = (t * c) * (nBot t b * nBot u c) := by ac_rfl
    _ = (u * b) * (nBot t b * nBot u c) := by rw [e]
    _ = (u * nBot u c) * nBot t b * b := by ac_rfl
    _ = (nTop u c * c) * nBot t b * b := by rw [h2]
    _ = nTop u c * nBot t b * (b * c) := by ac_rfl
theorem n_self {t b : Int} (h : Low t b) : nTop t b = t ∧ nBot t b = b := n_red h.red h.pos
theorem low_neg {t b : Int} (h : Low t b) : Low (-t) b := ⟨h.pos, by
  show Nat.gcd (-t).natAbs b.natAbs = 1
  rw [Int.natAbs_neg]
  exact h.red⟩
theorem low_one (i : Int) : Low i 1 := ⟨by decide, Int.gcd_one_right i⟩
/-! ### numbers -/
def Num (K : PySem.W.Frag) (H : Hp) (v : V) (t b : Int) : Prop := Low t b ∧ ((∃ a, v = .ref a ∧ RatAt K H a t b) ∨ (v = .int t ∧ b = 1))
theorem Num.same {K : PySem.W.Frag} {H H' : Hp} {v : V} {t b : Int} (h : Num K H v t b) (e : Same H H') : Num K H' v t b := by
  obtain ⟨l, h⟩ := h
  refine ⟨l, ?_⟩
  rcases h with ⟨a, rfl, r⟩ | h
  · exact .inl ⟨a, rfl, r.same e⟩
  · exact .inr h
theorem Num.rat {K : PySem.W.Frag} {H : Hp} {a : Addr} {t b : Int} (h : RatAt K H a t b) (l : Low t b) : Num K H (.ref a) t b := ⟨l, .inl ⟨a, rfl, h⟩⟩
theorem Num.int {K : PySem.W.Frag} {H : Hp} (i : Int) : Num K H (.int i) i 1 := ⟨low_one i, .inr ⟨rfl, rfl⟩⟩
/-- no number at all -/
def NoNum (K : PySem.W.Frag) (H : Hp) (v : V) : Prop := ∃ t b1 b2, TyX K H v t ∧ PySem.W.kitOne K t (.type "int") = some b1 ∧ PySem.W.kitOne K t (.type "bool") = some b2 ∧ (b1 && !b2) = false ∧ PySem.W.kitOne K t (.ref (He.ga K "Ratio")) = some false
/-- a new Ratio: x by y in lowest terms -/
def RatRes (K : PySem.W.Frag) (H : Hp) (Q : VK) (x y : Int) : Prop := ∀ p H', Same H H' → H p = none → RatAt K H' p (nTop x y) (nBot x y) → Q (.ref p) H'
def spIsNum (K : PySem.W.Frag) : Sp := fun vs H Q _ => ∃ v, vs = [v] ∧ ((((∃ a t b, v = .ref a ∧ RatAt K H a t b) ∨ ∃ i, v = .int i) ∧ Q (.bl true) H) ∨ (NoNum K H v ∧ Q (.bl false) H))
def spOfN (K : PySem.W.Frag) : Sp := fun vs H Q _ => ∃ v t b, vs = [v] ∧ Num K H v t b ∧ ∀ a H', Same H H' → RatAt K H' a t b → Q (.ref a) H'
theorem isNum {K : PySem.W.Frag} {H : Hp} {v : V} {t b : Int} {Q : VK} {E : XK} (h : Num K H v t b) (q : Q (.bl true) H) : spIsNum K [v] H Q E := by
  refine ⟨v, rfl, .inl ⟨?_, q⟩⟩
  rcases h with ⟨_, ⟨a, e, r⟩ | ⟨e, _⟩⟩
  · exact .inl ⟨a, t, b, e, r⟩
  · exact .inr ⟨t, e⟩
/-- two numbers, the first one a Ratio; all of at most n bits -/
structure Two (K : PySem.W.Frag) (H : Hp) (n : Nat) (x : Addr) (v : V) (t b u c : Int) : Prop where
  rat : RatAt K H x t b
  low : Low t b
  num : Num K H v u c
  bt : Bt n t
  bb : Bt n b
  bu : Bt n u
  bc : Bt n c
theorem Two.same {K : PySem.W.Frag} {H H' : Hp} {n : Nat} {x : Addr} {v : V} {t b u c : Int} (h : Two K H n x v t b u c) (e : Same H H') : Two K H' n x v t b u c := ⟨h.rat.same e, h.low, h.num.same e, h.bt, h.bb, h.bu, h.bc⟩
def spAdd (K : PySem.W.Frag) : Sp := fun vs H Q _ => ∃ x v t b u c, vs = [.ref x, v] ∧ Two K H 2000 x v t b u c ∧ RatRes K H Q (t * c + u * b) (b * c)
def spSub (K : PySem.W.Frag) : Sp := fun vs H Q _ => ∃ x v t b u c, vs = [.ref x, v] ∧ Two K H 2000 x v t b u c ∧ RatRes K H Q (t * c + -u * b) (b * c)
def spRsub (K : PySem.W.Frag) : Sp := fun vs H Q _ => ∃ x v t b u c, vs = [.ref x, v] ∧ Two K H 2000 x v t b u c ∧ RatRes K H Q (-t * c + u * b) (b * c)
def spNeg (K : PySem.W.Frag) : Sp := fun vs H Q _ => ∃ x t b, vs = [.ref x] ∧ RatAt K H x t b ∧ Low t b ∧ b.natAbs.log2 < 9000 ∧ ∀ p H', Same H H' → H p = none → RatAt K H' p (-t) b → Q (.ref p) H'
end EM
namespace EM
open PySem PySem.Spec PyProof.Rows L2
theorem mk_Rat {K : PySem.W.Frag} {H : Hp} {Q : VK} {E : XK} {x y : Int} (hy : y ≠ 0) (hl : y.natAbs.log2 < 9000) (k : RatRes K H Q x y) (p dx : Addr) (hp : H p = none) (hdx : H dx = none) (ndx : dx ≠ p) :
    spRat K [.ref p, .int x, .int y] (upd (upd H dx (.own p)) p (.ins (He.ga K "Ratio") dx [])) (fun v H2 => v = .non ∧ Q (.ref p) H2) E :=
  ⟨p, dx, x, y, rfl, upd_same, hy, hl, fun H' k' rat => ⟨rfl, k p H' (fun b o e => k' b o (by rw [upd_ne (ne_of_none e hp), upd_ne (ne_of_none e hdx)]; exact e) (ne_of_none e hp)) hp rat⟩⟩
theorem same_new {H H' : Hp} {p dx : Addr} {o1 o2 : HO} (k : ∀ c o, upd (upd H dx o1) p o2 c = some o → c ≠ p → H' c = some o) (hp : H p = none) (hdx : H dx = none) : Same H H' :=
  fun b o e => k b o (by rw [upd_ne (ne_of_none e hp), upd_ne (ne_of_none e hdx)]; exact e) (ne_of_none e hp)
theorem Num.kind {K : PySem.W.Frag} {H : Hp} {v : V} {t b : Int} (h : Num K H v t b) : (∃ a t b, v = .ref a ∧ RatAt K H a t b) ∨ ∃ i, v = .int i := by
  rcases h with ⟨_, ⟨a, e, r⟩ | ⟨e, _⟩⟩
  · exact .inl ⟨a, t, b, e, r⟩
  · exact .inr ⟨t, e⟩
theorem two_y {K : PySem.W.Frag} {H : Hp} {n : Nat} {x : Addr} {v : V} {t b u c : Int} (W : Two K H n x v t b u c) : (∃ b dy gs, v = .ref b ∧ H b = some (.ins (He.ga K "Ratio") dy gs)) ∨ ∃ i, v = .int i := by
  rcases W.num.2 with ⟨a, e, da, ha⟩ | ⟨e, _⟩
  · exact .inl ⟨a, da, _, e, ha⟩
  · exact .inr ⟨_, e⟩
/-- a def without defaults, called with some values by position and the rest by keyword, in order -/
theorem fnk1 {P : Program} {w : World} {K : PySem.W.Frag} {mg : Str → Option Value} {base : Heap} {x qual : Str} {params : Arguments} {body : List Stmt} {scope : Scope} {kws : List (Str × V)} {f : Addr} {fd : FuncData} {N ps ks : List Str} {k n : Nat} {sp : Sp}
    (F : FunD K x qual params body scope [] kws f fd) (S : FnScope N ps scope)
    (h : ∀ (kV doc pm : Value) (an : Option Addr) (cdv ct : Value) (us ws : List Value), us.length = n → ws.length = ks.length → bindArgs (PySem.W.fnOf x qual params body scope .none kV doc pm an cdv ct) ⟨us, ks.zip ws⟩ = pure (ps.zip (us ++ ws)))
    (len : ∀ vs H Q E, sp vs H Q E → vs.length = ps.length) (hbody : Bod P w K mg base N qual scope f body k sp) : FnK P w K mg base (L2.CX P w) (k + 1) f ks (fun vs zs H Q E => vs.length = n ∧ zs.length = ks.length ∧ sp (vs ++ zs) H Q E) := by
  refine fnk_of (g := fun us ws => us ++ ws) (gV := fun vs zs => vs ++ zs) (FunD.ok (P := P) (w := w) (mg := mg) (base := base) (CX := L2.CX P w) F S len hbody) ⟨fun s us ws X l1 l2 => ?_, fun r1 r2 => r1.append r2⟩
  obtain ⟨oc, od, dV, kV, doc, pm, an, cdv, ct, osl, rfl, lk, hcd, hD, hK⟩ := F.ex
  rcases hD with ⟨_, rfl⟩ | ⟨e, _⟩
  · exact .of_eq (h kV doc pm an cdv ct us ws l1 l2)
  · exact absurd rfl e
end EM
/-! EM33: the state of a law's own code: what is kept (Ext), what stands (At), the pen and the tables (Bs); displays told by New. -/
namespace EM
open PySem PySem.Spec PyProof.Rows L2
theorem pr {P : Prop} (h : P) : P := h
/-- a promise, not to be opened by itself -/
structure Sw (sp : Sp) (vs : List V) (H : Hp) (Q : VK) (E : XK) : Prop where
  h : sp vs H Q E
structure Sw2 (sp : Sp2) (vs zs : List V) (H : Hp) (Q : VK) (E : XK) : Prop where
  h : sp vs zs H Q E
section
variable {P : Program} {w : World} {K : PySem.W.Frag} {mg : Str → Option Value} {base : Heap} {CX : CXT} {k : Nat} {f : Addr} {sp : Sp} {sp2 : Sp2} {ks : List Str}
theorem _root_.L2.FnR.sw (F : FnR P w K mg base CX k f sp) : FnR P w K mg base CX k f (Sw sp) := F.imp fun _ _ _ _ h => h.h
theorem FnG.sw (F : FnG P w K mg base CX k f sp) : FnG P w K mg base CX k f (Sw sp) := fun A outer s H us vs Q E hr hG e0 r h => F A outer s H us vs Q E hr hG e0 r h.h
theorem FnK.sw (F : FnK P w K mg base CX k f ks sp2) : FnK P w K mg base CX k f ks (Sw2 sp2) := fun A outer s H us ws vs zs Q E hr e0 r rz h => F A outer s H us ws vs zs Q E hr e0 r rz h.h
end
/-- all but the pen and the tables stays -/
structure Ext (p : Addr) (H H' : Hp) : Prop where
  k : KeepN p H H'
structure At (p : Addr) (H : Hp) (a : Addr) (o : HO) : Prop where
  at_ : H a = some o
  ne : a ≠ p
  nt : ∀ ps, o ≠ .tbl ps
structure Bs (T : List (Addr × Str)) (p l : Addr) (n : Nat) (H : Hp) : Prop where
  pen : Pen H p l n
  tab : LamX.Tabs T H
structure New (H : Hp) (q : Addr) (o : HO) (H' : Hp) : Prop where
  free : H q = none
  same : Same H H'
  at_ : H' q = some o
section
variable {T : List (Addr × Str)} {p l q a : Addr} {n m : Nat} {H H1 H2 H' : Hp} {o : HO} {K : PySem.W.Frag}
theorem Ext.refl : Ext p H H := ⟨fun _ _ e _ _ => e⟩
theorem Ext.trans (x : Ext p H H1) (y : Ext p H1 H2) : Ext p H H2 := ⟨x.k.trans y.k⟩
theorem Ext.same (s : Same H H') : Ext p H H' := ⟨KeepN.of (Keep.of s)⟩
theorem Ext.keep (s : Keep p H H') : Ext p H H' := ⟨KeepN.of s⟩
theorem Ext.extN (s : LamX.ExtN H H') : Ext p H H' := ⟨KeepN.ext s⟩
theorem At.ext (x : Ext p H H') (h : At p H a o) : At p H' a o := ⟨x.k _ _ h.at_ h.ne h.nt, h.ne, h.nt⟩
theorem At.get (h : At p H a o) : H a = some o := h.at_
theorem At.sqL {xs : List V} (h : At p H a (.lst xs)) : SqL K H a xs := SqL.of h.at_
theorem At.sqT {xs : List V} (h : At p H a (.tup xs)) : SqT K H a xs := SqT.of h.at_
theorem Bs.same (B : Bs T p l n H) (s : Same H H') : Bs T p l n H' := ⟨B.pen.same s, B.tab.ext s⟩
theorem Bs.mono (B : Bs T p l n H) (e : n ≤ m) : Bs T p l m H := ⟨B.pen.mono e, B.tab⟩
theorem Bs.ext (B : Bs T p l n H) (s : LamX.ExtN H H') (t : LamX.Tabs T H') : Bs T p l n H' := ⟨B.pen.extN s, t⟩
theorem Bs.ne (B : Bs T p l n H) (h : H a = none) : a ≠ p := (B.pen.ne h).1
theorem Bs.nel (B : Bs T p l n H) (h : H a = none) : a ≠ l := (B.pen.ne h).2
theorem tabs_keep (t : LamX.Tabs T H) (P : Pen H p l n) (k : Keep p H H') : LamX.Tabs T H' := by
  obtain ⟨cells, at_, r, hp, _⟩ := P
  intro q hq
  obtain ⟨ps, h1, h2, h3⟩ := t q hq
  refine ⟨ps, k _ _ h1 (ne_of h1 hp (by intro z; cases z)), h2, fun pos cv hc => ?_⟩
  obtain ⟨c, e1, e2⟩ := h3 pos cv hc
  exact ⟨c, e1, k _ _ e2 (ne_of e2 hp (by unfold LamX.CodeO; intro z; cases z))⟩
theorem tabs_mut {xs : List V} (t : LamX.Tabs T H) (hM : H a = some (.lst xs)) : LamX.Tabs T (upd H a o) := by
  intro q hq
  obtain ⟨ps, h1, h2, h3⟩ := t q hq
  refine ⟨ps, by rw [upd_ne (ne_of h1 hM (by intro z; cases z))]; exact h1, h2, fun pos cv hc => ?_⟩
  obtain ⟨c, e1, e2⟩ := h3 pos cv hc
  exact ⟨c, e1, by rw [upd_ne (ne_of e2 hM (by unfold LamX.CodeO; intro z; cases z))]; exact e2⟩
/-- what is no list is not the pen -/
theorem Bs.at_ (B : Bs T p l n H) (h : H a = some o) (hl : ∀ xs, o ≠ .lst xs) (ht : ∀ ps, o ≠ .tbl ps) : At p H a o := by
  obtain ⟨cells, at_, r, hp, _⟩ := B.pen
  exact ⟨h, ne_of h hp (hl _), ht⟩
theorem Bs.new (B : Bs T p l n H) (x : New H q o H') (ht : ∀ ps, o ≠ .tbl ps) : At p H' q o := ⟨x.at_, B.ne x.free, ht⟩
theorem New.bs {G : Addr → Hp → Prop} (B : Bs T p l n H) (ht : ∀ ps, o ≠ .tbl ps) (k : ∀ q H', Ext p H H' → Bs T p l n H' → At p H' q o → H q = none → G q H') : ∀ q H', New H q o H' → G q H' :=
  fun q H' x => k q H' (Ext.same x.same) (B.same x.same) (B.new x ht) x.free
theorem New.upd {G : Addr → Hp → Prop} (k : ∀ q H', New H q o H' → G q H') : ∀ q, H q = none → G q (L2.upd H q o) := fun q h => k q _ ⟨h, same_upd h, upd_same⟩
theorem draw_bs {Q : VK} {E : XK} {many : Int} (B : Bs T p l n H) (h1 : n ≤ 1000000) (h2 : 1 ≤ many) (h3 : many < 10000000000000000000000000000000000000000000000000000000000000000000000000000000000000000000000000000)
    (k : ∀ d H', 0 ≤ d → d < many → Ext p H H' → Bs T p l (n + 1) H' → Q (.int d) H') : Sw spDraw [.ref p, .int many] H Q E :=
  ⟨⟨p, l, n, many, rfl, B.pen, h1, h2, h3, fun d H' d0 d1 k1 P1 => k d H' d0 d1 (Ext.keep k1) ⟨P1, tabs_keep B.tab B.pen k1⟩⟩⟩
theorem pick_bs {Q : VK} {E : XK} {xs : List V} (B : Bs T p l n H) (h1 : n ≤ 1000000) (ha : At p H a (.lst xs)) (h2 : 1 ≤ xs.length) (h3 : xs.length ≤ 1000000)
    (k : ∀ v H', v ∈ xs → Ext p H H' → Bs T p l (n + 1) H' → Q v H') : Sw spPick [.ref p, .ref a] H Q E :=
  ⟨⟨p, l, n, a, xs, rfl, B.pen, h1, ha.at_, ha.ne, h2, h3, fun v H' hv k1 P1 => k v H' hv (Ext.keep k1) ⟨P1, tabs_keep B.tab B.pen k1⟩⟩⟩
/-! ### Ratios and numbers that are not the pen -/
structure RatP (K : PySem.W.Frag) (p : Addr) (H : Hp) (a : Addr) (t b : Int) : Prop where
  rat : RatAt K H a t b
  ne : a ≠ p
theorem RatP.ext {t b : Int} (x : Ext p H H') (h : RatP K p H a t b) : RatP K p H' a t b := by
  obtain ⟨⟨dx, h⟩, n⟩ := h
  exact ⟨⟨dx, x.k _ _ h n (fun _ z => by cases z)⟩, n⟩
theorem RatP.get {t b : Int} (h : RatP K p H a t b) : RatAt K H a t b := h.rat
theorem RatP.of {t b : Int} (B : Bs T p l n H) (h : RatAt K H a t b) : RatP K p H a t b := by
  obtain ⟨dx, h⟩ := h
  obtain ⟨cells, at_, r, hp, _⟩ := B.pen
  exact ⟨⟨dx, h⟩, ne_of h hp (by intro z; cases z)⟩
structure NumP (K : PySem.W.Frag) (p : Addr) (H : Hp) (v : V) (t b : Int) : Prop where
  num : Num K H v t b
  ne : v ≠ .ref p
theorem NumP.get {v : V} {t b : Int} (h : NumP K p H v t b) : Num K H v t b := h.num
theorem NumP.ext {v : V} {t b : Int} (x : Ext p H H') (h : NumP K p H v t b) : NumP K p H' v t b := by
  obtain ⟨⟨lo, h⟩, n⟩ := h
  refine ⟨⟨lo, ?_⟩, n⟩
  rcases h with ⟨a, rfl, r⟩ | h
  · exact .inl ⟨a, rfl, (RatP.ext x ⟨r, fun z => n (by rw [z])⟩).rat⟩
  · exact .inr h
theorem RatP.num {t b : Int} (h : RatP K p H a t b) (lo : Low t b) : NumP K p H (.ref a) t b := ⟨Num.rat h.rat lo, fun z => h.ne (by cases z; rfl)⟩
theorem NumP.int (i : Int) : NumP K p H (.int i) i 1 := ⟨Num.int i, fun z => by cases z⟩
theorem RatRes.bs {Q : VK} {x y : Int} (B : Bs T p l n H) (k : ∀ a H', Ext p H H' → Bs T p l n H' → RatP K p H' a (nTop x y) (nBot x y) → Q (.ref a) H') : RatRes K H Q x y :=
  fun a H' s _ r => k a H' (Ext.same s) (B.same s) (RatP.of (B.same s) r)
theorem RatRes.to {Q : VK} {x y x' y' : Int} (k : RatRes K H Q x y) (e1 : x = x') (e2 : y = y') : RatRes K H Q x' y' := by
  subst e1 e2
  exact k
end
/-! ### readings that may be weakened -/
section
variable {X : Cx} {e : Expr} {es : List Expr} {t t' : TE} {ta : TA} {pos : Pos}
theorem _root_.L2.PE.of (h : PE X e t) (w : ∀ σ H Q, t' σ H Q → t σ H Q) : PE X e t' := ⟨fun pins s σ H Q I q => h.run pins s σ H Q I (w σ H Q q)⟩
def mcA (ta : TA) : TA := fun σ H Q => ∃ R : List V → Hp → Prop, ta σ H R ∧ ∀ xs H1, R xs H1 → Q xs H1
def mcE (t : TE) : TE := fun σ H Q => ∃ R : VK, t σ H R ∧ ∀ v H1, R v H1 → Q v H1
theorem _root_.L2.PA.mc (h : PA X es ta) : PA X es (mcA ta) := by
  refine ⟨fun pos pins s σ H Q I hq => ?_⟩
  obtain ⟨R, hR, k⟩ := hq
  refine thn (h.run pos pins s σ H R I hR) fun us s1 z => ?_
  obtain ⟨vs, H', I', r, q⟩ := z
  exact ⟨vs, H', I', r, k _ _ q⟩
theorem _root_.L2.PE.mc (h : PE X e t) : PE X e (mcE t) := by
  refine ⟨fun pins s σ H Q I hq => ?_⟩
  obtain ⟨R, hR, k⟩ := hq
  refine thn (h.run pins s σ H R I hR) fun u s1 z => ?_
  obtain ⟨v, H', I', r, q⟩ := z
  exact ⟨v, H', I', r, k _ _ q⟩
def tTupN (t : TA) : TE := fun σ H Q => t σ H fun xs H1 => xs.length ≤ 100000 ∧ ∀ p H', New H1 p (.tup xs) H' → Q (.ref p) H'
def tLstN (t : TA) : TE := fun σ H Q => t σ H fun xs H1 => xs.length ≤ 100000 ∧ ∀ p H', New H1 p (.lst xs) H' → Q (.ref p) H'
theorem pe_tupN {x1} (h : PA X es ta) : PE X (.Tuple es x1 pos) (tTupN ta) :=
  (pe_tup h.mc).of fun σ H Q q => ⟨_, q, fun xs H1 ⟨z, k⟩ => ⟨sz z, New.upd k⟩⟩
theorem pe_lstN (h : PA X es ta) : PE X (.List es pos) (tLstN ta) :=
  (pe_lst h.mc).of fun σ H Q q => ⟨_, q, fun xs H1 ⟨z, k⟩ => ⟨sz z, New.upd k⟩⟩
end
end EM
namespace EM
open PySem PySem.Spec PyProof.Rows L2
section
variable {X : Cx}
theorem _root_.L2.opR_of {f : Value → Value → Sem Value} {r r' : R2} (h : OpR X f r) (w : ∀ x y H Q, r' x y H Q → r x y H Q) : OpR X f r' := fun pins s σ H x y v u Q I rx ry q => h pins s σ H x y v u Q I rx ry (w _ _ _ _ q)
theorem _root_.L2.callR_of {f : Value} {r r' : List V → Hp → VK → Prop} (h : CallR X f r) (w : ∀ xs H Q, r' xs H Q → r xs H Q) : CallR X f r' := fun pins s σ H xs us Q I rx q => h pins s σ H xs us Q I rx (w _ _ _ q)
/-- a list times a small number -/
def rRepN : R2 := fun x y H Q => ∃ l k xs, x = .ref l ∧ y = .int k ∧ H l = some (.lst xs) ∧ 0 ≤ k ∧ k ≤ 1000 ∧ xs.length ≤ 100 ∧ ∀ q H', New H q (.lst (List.replicate k.toNat xs).flatten) H' → Q (.ref q) H'
theorem op_repN : OpR X (binaryOp .Mult) rRepN := opR_of op_rep fun x y H Q ⟨l, k, xs, e1, e2, h, k0, k1, z, q⟩ => ⟨l, k, xs, e1, e2, h, by omega, by omega, by
  refine sz (Nat.le_trans (Nat.mul_le_mul z (show k.toNat ≤ 1000 by omega)) (by decide)), New.upd q⟩
/-! ### numbers under operators -/
structure Rw (K : PySem.W.Frag) (H : Hp) (Q : VK) (x y : Int) : Prop where
  h : RatRes K H Q x y
def rNumN (K : PySem.W.Frag) (F : Int → Int → Int → Int → Int) (G : Int → Int → Int → Int → Int) : R2 := fun x y H Q => ∃ t b u c, Num K H x t b ∧ Num K H y u c ∧ ((∃ a, x = .ref a) ∨ ∃ a, y = .ref a) ∧ Bt 2000 t ∧ Bt 2000 b ∧ Bt 2000 u ∧ Bt 2000 c ∧ Rw K H Q (F t b u c) (G t b u c)
def rNumL (K : PySem.W.Frag) (F : Int → Int → Int → Int → Int) (G : Int → Int → Int → Int → Int) : R2 := fun x y H Q => ∃ a t b u c, x = .ref a ∧ Num K H (.ref a) t b ∧ Num K H y u c ∧ Bt 2000 t ∧ Bt 2000 b ∧ Bt 2000 u ∧ Bt 2000 c ∧ Rw K H Q (F t b u c) (G t b u c)
theorem num_ref {K : PySem.W.Frag} {H : Hp} {a : Addr} {t b : Int} (h : Num K H (.ref a) t b) : RatAt K H a t b := by
  rcases h.2 with ⟨a', e, r⟩ | ⟨e, _⟩
  · cases e
    exact r
  · cases e
theorem op_numL {f : Value → Value → Sem Value} {F G : Int → Int → Int → Int → Int} {sp1 : Sp} {E : XK} (h1 : OpR X f (rBinO (He.ga X.K "Ratio") sp1 E))
    (c1 : ∀ a y t b u c H Q, Two X.K H 2000 a y t b u c → RatRes X.K H Q (F t b u c) (G t b u c) → sp1 [.ref a, y] H Q E) : OpR X f (rNumL X.K F G) := by
  refine opR_of h1 fun x y H Q h => ?_
  obtain ⟨a, t, b, u, c, rfl, n1, n2, bt, bb, bu, bc, ⟨k⟩⟩ := h
  have ra := num_ref n1
  have W : Two X.K H 2000 a y t b u c := ⟨ra, n1.1, n2, bt, bb, bu, bc⟩
  obtain ⟨dx, ra⟩ := ra
  exact ⟨a, dx, _, rfl, ra, two_y W, c1 _ _ _ _ _ _ _ _ W k⟩
theorem op_numN {f : Value → Value → Sem Value} {F G : Int → Int → Int → Int → Int} {sp1 sp2 : Sp} {E E' : XK} (h1 : OpR X f (rBinO (He.ga X.K "Ratio") sp1 E)) (h2 : OpR X f (rBinR (He.ga X.K "Ratio") sp2 E'))
    (c1 : ∀ a y t b u c H Q, Two X.K H 2000 a y t b u c → RatRes X.K H Q (F t b u c) (G t b u c) → sp1 [.ref a, y] H Q E)
    (c2 : ∀ a t u c H Q, Two X.K H 2000 a (.int t) u c t 1 → RatRes X.K H Q (F t 1 u c) (G t 1 u c) → sp2 [.ref a, .int t] H Q E') : OpR X f (rNumN X.K F G) := by
  refine opR_of (op_two (op_numL h1 c1) h2) fun x y H Q h => ?_
  obtain ⟨t, b, u, c, n1, n2, hr, bt, bb, bu, bc, ⟨k⟩⟩ := h
  rcases n1.2 with ⟨a, rfl, r⟩ | ⟨rfl, rfl⟩
  · exact .inl ⟨a, t, b, u, c, rfl, n1, n2, bt, bb, bu, bc, ⟨k⟩⟩
  · rcases n2.2 with ⟨a, rfl, r⟩ | ⟨rfl, rfl⟩
    · have W : Two X.K H 2000 a (.int t) u c t 1 := ⟨r, n2.1, n1, bu, bc, bt, bb⟩
      obtain ⟨dx, r⟩ := r
      exact .inr ⟨t, a, dx, _, rfl, rfl, r, c2 _ _ _ _ _ _ W k⟩
    · rcases hr with ⟨a, e⟩ | ⟨a, e⟩ <;> cases e
end
end EM
/-! EM34: what making a Ratio, negating it and showing its parts promise; lowest terms. -/
namespace EM
open PySem PySem.Spec PyProof.Rows L2
def spMkN (K : PySem.W.Frag) : Sp := fun vs H Q _ => ∃ t b, vs = [.int t, .int b] ∧ b ≠ 0 ∧ b.natAbs.log2 < 9000 ∧ RatRes K H Q t b
structure Su (r : V → Hp → VK → Prop) (x : V) (H : Hp) (Q : VK) : Prop where
  h : r x H Q
def rNegN (K : PySem.W.Frag) (F : Int → Int) : V → Hp → VK → Prop := fun x H Q => ∃ a t b, x = .ref a ∧ RatAt K H a t b ∧ Low t b ∧ Bt 2000 b ∧ ∀ p H', Same H H' → H p = none → RatAt K H' p (F t) b → Q (.ref p) H'
section
variable {T : List (Addr × Str)} {p l q a : Addr} {n m : Nat} {H H1 H2 H' : Hp} {o : HO} {K : PySem.W.Frag}
/-- a new Ratio of lowest terms (t, b) -/
theorem RatRes.low {Q : VK} {x y t b : Int} (B : Bs T p l n H) (lo : Low t b) (hy : y ≠ 0) (e : x * b = t * y) (k : ∀ a H', Ext p H H' → Bs T p l n H' → RatP K p H' a t b → Q (.ref a) H') : RatRes K H Q x y := by
  obtain ⟨e1, e2⟩ := low_eq (n_low (t := x) hy) lo (by
    have h1 := n_cross (t := x) (b := y)
    refine Int.eq_of_mul_eq_mul_right (a := y) hy ?_
    calc nTop x y * b * y = (nTop x y * y) * b := by ac_rfl
      _ = x * nBot x y * b := by rw [h1]
      _ = (x * b) * nBot x y := by ac_rfl
      _ = (t * y) * nBot x y := by rw [e]
      _ = t * nBot x y * y := by ac_rfl)
  refine RatRes.bs B fun a H' x1 B1 r => ?_
  rw [e1, e2] at r
  exact k a H' x1 B1 r
theorem Rw.bs {Q : VK} {x y : Int} (B : Bs T p l n H) (k : ∀ a H', Ext p H H' → Bs T p l n H' → RatP K p H' a (nTop x y) (nBot x y) → Q (.ref a) H') : Rw K H Q x y := ⟨RatRes.bs B k⟩
theorem Rw.low {Q : VK} {x y t b : Int} (B : Bs T p l n H) (lo : Low t b) (hy : y ≠ 0) (e : x * b = t * y) (k : ∀ a H', Ext p H H' → Bs T p l n H' → RatP K p H' a t b → Q (.ref a) H') : Rw K H Q x y := ⟨RatRes.low B lo hy e k⟩
/-- the same as another fraction in lowest terms -/
theorem Rw.to {Q : VK} {x y x' y' : Int} (B : Bs T p l n H) (h : y ≠ 0) (h' : y' ≠ 0) (e : x * y' = x' * y) (k : ∀ a H', Ext p H H' → Bs T p l n H' → RatP K p H' a (nTop x' y') (nBot x' y') → Q (.ref a) H') : Rw K H Q x y := by
  obtain ⟨e1, e2⟩ := n_eq h h' e
  exact Rw.bs B fun a H' x1 B1 r => k a H' x1 B1 (by rw [← e1, ← e2]; exact r)
theorem neg_bs {Q : VK} {F : Int → Int} {t b : Int} (B : Bs T p l n H) (ra : RatP K p H a t b) (lo : Low t b) (hb : Bt 2000 b) (k : ∀ q H', Ext p H H' → Bs T p l n H' → RatP K p H' q (F t) b → Q (.ref q) H') : Su (rNegN K F) (.ref a) H Q :=
  ⟨⟨a, t, b, rfl, ra.rat, lo, hb, fun q H' s _ r => k q H' (Ext.same s) (B.same s) (RatP.of (B.same s) r)⟩⟩
end
end EM
/-! EM35: helpers of the stepping words: guards of goals, powers of written ints, bounds by bits. -/
namespace EM
open PySem PySem.Spec PyProof.Rows L2
theorem gI {a b : Int} (h : a ≤ b) : a ≤ b := h
theorem gJ {a b : Int} (h : a < b) : a < b := h
theorem gN {a b : Nat} (h : a ≤ b) : a ≤ b := h
theorem gM {a b : Nat} (h : a < b) : a < b := h
theorem gE {a b : Int} (h : a ≠ b) : a ≠ b := h
theorem gB {n : Nat} {i : Int} (h : Bt n i) : Bt n i := h
theorem gIf {c : Bool} {A B : Prop} (h : if c = true then A else B) : if c = true then A else B := h
theorem gTru {K : PySem.W.Frag} {x : V} {H : Hp} {k : Bool} (h : TruV K x H k) : TruV K x H k := h
theorem ifNotT {A B : Prop} (h : B) : if (!true) = true then A else B := h
theorem ifNotF {A B : Prop} (h : A) : if (!false) = true then A else B := h
theorem gRef {x y : V} (h : (∃ a, x = .ref a) ∨ ∃ a, y = .ref a) : (∃ a, x = V.ref a) ∨ ∃ a, y = V.ref a := h
theorem gEq {α : Type} {a b : α} (h : a = b) : a = b := h
def rPowV (i j v : Int) : R2 := fun x y H Q => x = .int i ∧ y = .int j ∧ Q (.int v) H
theorem op_powV {X : Cx} (i j v : Int) (h : CPow i j) (h2 : i ^ j.toNat = v) : OpR X (binaryOp .Pow) (rPowV i j v) := opR_of op_pow fun x y H Q ⟨e1, e2, q⟩ => ⟨i, j, e1, e2, h, by show Q (.int (i ^ j.toNat)) H; rw [h2]; exact q⟩
theorem _root_.EM.Bt.add' {n m : Nat} {i j : Int} (h : Bt n i) (g : Bt m j) : Bt (max n m + 1) (i + j) := (h.mono (Nat.le_max_left ..)).add (g.mono (Nat.le_max_right ..))
theorem _root_.EM.Bt.sub' {n m : Nat} {i j : Int} (h : Bt n i) (g : Bt m j) : Bt (max n m + 1) (i - j) := by
  rw [Int.sub_eq_add_neg]
  exact h.add' g.neg
theorem _root_.EM.Bt.lit (n : Nat) (i : Int) (h : decide (i.natAbs < 2 ^ n) = true) : Bt n i := (of_decide_eq_true h : i.natAbs < 2 ^ n)
theorem _root_.EM.Bt.top {n : Nat} {t b : Int} (ht : Bt n t) (h : b ≠ 0) : Bt n (nTop t b) := ht.le (n_abs h).1
theorem _root_.EM.Bt.bot {n : Nat} {t b : Int} (hb : Bt n b) (h : b ≠ 0) : Bt n (nBot t b) := hb.le (n_abs h).2
theorem _root_.EM.Bt.rng {i : Int} (n : Nat) (h : -((2 : Int) ^ n) < i) (g : i < (2 : Int) ^ n) : Bt n i := .lt g h
theorem _root_.EM.Bt.rng32 {i : Int} (h : -4294967296 < i) (g : i < 4294967296) : Bt 32 i := .rng 32 (by omega) (by omega)
theorem _root_.EM.Bt.rng70 {i : Int} (h : -1180591620717411303424 < i) (g : i < 1180591620717411303424) : Bt 70 i := .rng 70 (by omega) (by omega)
theorem _root_.EM.Bt.rng200 {i : Int} (h : -1606938044258990275541962092341162602522202993782792835301376 < i) (g : i < 1606938044258990275541962092341162602522202993782792835301376) : Bt 200 i := .rng 200 (by omega) (by omega)
theorem wideM {n m : Nat} {i j : Int} (h : Bt n i) (g : Bt m j) (h0 : 0 < n ∧ 0 < m ∧ n + m ≤ 1000000) : CMulW i j := wide_mul h g h0.1 h0.2.1 h0.2.2
section
variable {T : List (Addr × Str)} {p l q a : Addr} {n m : Nat} {H H1 H2 H' : Hp} {o : HO} {K : PySem.W.Frag}
theorem cut_bs {Q : VK} {E : XK} {u c : Int} (B : Bs T p l n H) (h0 : c ≠ 0) (hb : Bt 2000 c) (k : ∀ q H', Ext p H H' → Bs T p l n H' → At p H' q (.tup [.int (nTop u c), .int (nBot u c)]) → Q (.ref q) H') : Sw spCut [.int u, .int c] H Q E :=
  ⟨⟨u, c, rfl, h0, Nat.lt_trans (hb.log (by decide)) (by decide), fun q H' s nq hq => k q H' (Ext.same s) (B.same s) ((B.same s).at_ hq (fun _ z => by cases z) (fun _ z => by cases z))⟩⟩
end
end EM
namespace EM
theorem Bt.mulM {n m k : Nat} {i j : Int} (h : Bt n i) (g : Bt m j) (e : n + m ≤ k) : Bt k (i * j) := (h.mul g).mono e
theorem Bt.addM {n m k : Nat} {i j : Int} (h : Bt n i) (g : Bt m j) (e : max n m + 1 ≤ k) : Bt k (i + j) := (h.add' g).mono e
theorem Bt.subM {n m k : Nat} {i j : Int} (h : Bt n i) (g : Bt m j) (e : max n m + 1 ≤ k) : Bt k (i - j) := (h.sub' g).mono e
theorem Bt.negM {n k : Nat} {i : Int} (h : Bt n i) (e : n ≤ k) : Bt k (-i) := h.neg.mono e
end EM
namespace EM
open PySem L2
theorem Ext.back {p : Addr} {H H1 H2 : Hp} (y : Ext p H1 H2) (x : Ext p H H1) : Ext p H H2 := x.trans y
end EM
namespace EM
open PySem PySem.Spec PyProof.Rows L2
theorem ifEqI {a b : Int} {A B : Prop} (h1 : a = b → A) (h2 : a ≠ b → B) : if decide (V.int a = V.int b) = true then A else B := by
  rw [dVi]
  exact ite2 (fun z => h1 (of_decide_eq_true z)) (fun z => h2 (by simpa using z))
theorem ifLt {a b : Int} {A B : Prop} (h1 : a < b → A) (h2 : b ≤ a → B) : if decide (a < b) = true then A else B :=
  ite2 (fun z => h1 (of_decide_eq_true z)) (fun z => h2 (by simpa using z))
theorem ifLe {a b : Int} {A B : Prop} (h1 : a ≤ b → A) (h2 : b < a → B) : if decide (a ≤ b) = true then A else B :=
  ite2 (fun z => h1 (of_decide_eq_true z)) (fun z => h2 (by simpa using z))
end EM
/-! EM36: data that may be shown and compared (Fd), told in one word; repr and == as rules for the stepping words. -/
namespace EM
open PySem PySem.Spec PyProof.Rows L2
/-! ### signs within the line -/
def okS (x : Str) : Prop := ∀ c ∈ sg x, c < 1114112
theorem okS_of (s : String) : okS (Str.ofString s) := by
  intro c hc
  rw [sg_of] at hc
  obtain ⟨d, _, rfl⟩ := List.mem_map.mp hc
  have := d.valid
  show d.val.toNat < _
  rcases this with h | h
  · have h' : d.val.toNat < 0xd800 := h
    omega
  · exact h.2
theorem okS.app {a b : Str} (h1 : okS a) (h2 : okS b) : okS (a ++ b) := by
  intro c hc
  rw [sg_app] at hc
  rcases List.mem_append.mp hc with h | h
  · exact h1 c h
  · exact h2 c h
theorem okS.lay {x : Str} (h : okS x) : PyData.canLay0 (.str x) = true := by
  show (x.cps.all fun c => decide (c < 0x110000)) = true
  rw [Array.all_eq_true']
  intro c hc
  exact decide_eq_true (h c (Array.mem_toList_iff.mpr hc))
theorem okS_from : ∀ (ts : List Str) (k : Nat) (a : Str), okS a → (∀ t ∈ ts, okS t) → okS (textFrom k a ts)
  | [], _, _, h, _ => h
  | t :: r, k, a, h, hr => okS_from r (k + 1) _ ((h.app (okS_of _)).app (hr t List.mem_cons_self)) fun x hx => hr x (List.mem_cons_of_mem _ hx)
theorem okS_join (s : Str) (hs : okS s) : ∀ ts : List Str, (∀ t ∈ ts, okS t) → okS (Str.join s ts)
  | [], _ => okS_of ""
  | [x], h => h x List.mem_cons_self
  | x :: y :: r, h => by
    show okS (x ++ s ++ Str.join s (y :: r))
    exact ((h x List.mem_cons_self).app hs).app (okS_join s hs (y :: r) fun t ht => h t (List.mem_cons_of_mem _ ht))
theorem okS_list (ts : List Str) (h : ∀ t ∈ ts, okS t) : okS (listText ts) := (okS_from ts 0 _ (okS_of _) h).app (okS_of _)
theorem okS_tuple (ts : List Str) (h : ∀ t ∈ ts, okS t) : okS (tupleText ts) := ((okS_of _).app (okS_join _ (okS_of _) ts h)).app (okS_of _)
/-- a datum that may be shown and compared: its text has at most n signs, it is at most m deep -/
structure Fd (n m : Nat) (d : PyData) : Prop where
  lay : d.canLay0 = true
  sh : d.showable = true
  len : d.shown.length ≤ n
  dep : d.depth ≤ m
  self : PyData.eqv d d = true
  ok : okS d.shown
structure FdL (n m : Nat) (ds : List PyData) : Prop where
  lay : PyData.canLayAll0 ds = true
  sh : PyData.showableAll ds = true
  len : (ds.map fun d => d.shown.length).sum + 2 * ds.length ≤ n
  dep : PyData.depthAll ds ≤ m
  self : PyData.eqvAll ds ds = true
  ok : ∀ t ∈ PyData.shownAll ds, okS t
theorem Fd.int {i : Int} (h : Bt 1900 i) : Fd 1921 0 (.int i) := by
  have h1 : i.natAbs.log2 < 1920 := Nat.lt_trans (h.log (by decide)) (by decide)
  refine ⟨rfl, decide_eq_true h1, int_text_len_1921 h1, Nat.le_refl _, ?_, okS_of _⟩
  show (i == i) = true
  simp
theorem Fd.bool (b : Bool) : Fd 5 0 (.bool b) := by
  refine ⟨rfl, rfl, ?_, Nat.le_refl _, ?_, ?_⟩
  · cases b <;> decide +kernel
  · cases b <;> rfl
  · cases b <;> exact okS_of _
theorem Fd.non : Fd 4 0 .none := ⟨rfl, rfl, by decide +kernel, Nat.le_refl _, rfl, okS_of _⟩
theorem FdL.nil : FdL 0 0 [] := ⟨rfl, rfl, Nat.le_refl _, Nat.le_refl _, rfl, fun t h => by cases h⟩
theorem FdL.cons {n1 m1 n2 m2 : Nat} {d : PyData} {ds : List PyData} (h : Fd n1 m1 d) (g : FdL n2 m2 ds) : FdL (n1 + n2 + 2) (max m1 m2) (d :: ds) := by
  refine ⟨?_, ?_, ?_, ?_, ?_, ?_⟩
  · show (d.canLay0 && PyData.canLayAll0 ds) = true
    rw [h.lay, g.lay]
    rfl
  · show (d.showable && PyData.showableAll ds) = true
    rw [h.sh, g.sh]
    rfl
  · have := h.len
    have := g.len
    simp only [List.map_cons, List.sum_cons, List.length_cons]
    omega
  · show max d.depth (PyData.depthAll ds) ≤ _
    have := h.dep
    have := g.dep
    omega
  · show (PyData.eqv d d && PyData.eqvAll ds ds) = true
    rw [h.self, g.self]
    rfl
  · intro t ht
    rcases List.mem_cons.mp (show t ∈ d.shown :: PyData.shownAll ds from ht) with e | e
    · rw [e]
      exact h.ok
    · exact g.ok t e
theorem Fd.list {n m : Nat} {ds : List PyData} (g : FdL n m ds) : Fd (n + 3) (m + 1) (.list ds) := by
  have h1 := shown_list ds
  have h2 := g.len
  exact ⟨g.lay, g.sh, by omega, Nat.succ_le_succ g.dep, g.self, okS_list _ g.ok⟩
theorem Fd.tup {n m : Nat} {ds : List PyData} (g : FdL n m ds) : Fd (n + 3) (m + 1) (.tuple ds) := by
  have h1 := shown_tuple ds
  have h2 := g.len
  exact ⟨g.lay, g.sh, by omega, Nat.succ_le_succ g.dep, g.self, okS_tuple _ g.ok⟩
theorem Fd.mono {n m n' m' : Nat} {d : PyData} (h : Fd n m d) (e1 : n ≤ n') (e2 : m ≤ m') : Fd n' m' d := ⟨h.lay, h.sh, Nat.le_trans h.len e1, Nat.le_trans h.dep e2, h.self, h.ok⟩
theorem FdL.mono {n m n' m' : Nat} {d : List PyData} (h : FdL n m d) (e1 : n ≤ n') (e2 : m ≤ m') : FdL n' m' d := ⟨h.lay, h.sh, Nat.le_trans h.len e1, Nat.le_trans h.dep e2, h.self, h.ok⟩
theorem FdL.all {n m k : Nat} : ∀ {ds : List PyData}, (∀ d ∈ ds, Fd n m d) → ds.length ≤ k → FdL ((n + 2) * k) m ds
  | [], _, _ => FdL.nil.mono (Nat.zero_le _) (Nat.zero_le _)
  | d :: r, h, l => by
    cases k with
    | zero => simp at l
    | succ k =>
      refine (FdL.cons (h d List.mem_cons_self) (FdL.all (k := k) (fun x hx => h x (List.mem_cons_of_mem _ hx)) (by simpa using l))).mono ?_ ?_
      · rw [Nat.mul_succ]
        omega
      · omega
theorem Fd.shaped {n m : Nat} {d : PyData} (h : Fd n m d) (e : m ≤ 64) : SeqAt.shaped d = true := by
  unfold SeqAt.shaped
  rw [h.lay, decide_eq_true (Nat.le_trans h.dep e)]
  rfl
/-- compared alone: no bound of the text is asked (texts within) -/
structure Fe (m : Nat) (d : PyData) : Prop where
  lay : d.canLay0 = true
  dep : d.depth ≤ m
  self : PyData.eqv d d = true
structure FeL (m : Nat) (ds : List PyData) : Prop where
  lay : PyData.canLayAll0 ds = true
  dep : PyData.depthAll ds ≤ m
  self : PyData.eqvAll ds ds = true
theorem Fe.str {x : Str} (h : okS x) : Fe 0 (.str x) := ⟨h.lay, Nat.le_refl _, by show (x == x) = true; simp⟩
theorem Fe.int (i : Int) : Fe 0 (.int i) := ⟨rfl, Nat.le_refl _, by show (i == i) = true; simp⟩
theorem Fe.bool (b : Bool) : Fe 0 (.bool b) := ⟨rfl, Nat.le_refl _, by cases b <;> rfl⟩
theorem Fe.non : Fe 0 .none := ⟨rfl, Nat.le_refl _, rfl⟩
theorem FeL.nil : FeL 0 [] := ⟨rfl, Nat.le_refl _, rfl⟩
theorem FeL.cons {m1 m2 : Nat} {d : PyData} {ds : List PyData} (h : Fe m1 d) (g : FeL m2 ds) : FeL (max m1 m2) (d :: ds) := by
  refine ⟨?_, ?_, ?_⟩
  · show (d.canLay0 && PyData.canLayAll0 ds) = true
    rw [h.lay, g.lay]
    rfl
  · show max d.depth (PyData.depthAll ds) ≤ _
    have := h.dep
    have := g.dep
    omega
  · show (PyData.eqv d d && PyData.eqvAll ds ds) = true
    rw [h.self, g.self]
    rfl
theorem Fe.list {m : Nat} {ds : List PyData} (g : FeL m ds) : Fe (m + 1) (.list ds) := ⟨g.lay, Nat.succ_le_succ g.dep, g.self⟩
theorem Fe.tup {m : Nat} {ds : List PyData} (g : FeL m ds) : Fe (m + 1) (.tuple ds) := ⟨g.lay, Nat.succ_le_succ g.dep, g.self⟩
theorem FeL.all {m : Nat} : ∀ {ds : List PyData}, (∀ d ∈ ds, Fe m d) → FeL m ds
  | [], _ => ⟨rfl, Nat.zero_le _, rfl⟩
  | d :: r, h => by
    have q := FeL.cons (h d List.mem_cons_self) (FeL.all fun x hx => h x (List.mem_cons_of_mem _ hx))
    rw [Nat.max_self] at q
    exact q
theorem Fe.shaped {m : Nat} {d : PyData} (h : Fe m d) (e : m ≤ 64) : SeqAt.shaped d = true := by
  unfold SeqAt.shaped
  rw [h.lay, decide_eq_true (Nat.le_trans h.dep e)]
  rfl
/-! ### readings that are opened by a lemma alone -/
structure Sr (r : List V → Hp → VK → Prop) (xs : List V) (H : Hp) (Q : VK) : Prop where
  h : r xs H Q
structure So (r : R2) (x y : V) (H : Hp) (Q : VK) : Prop where
  h : r x y H Q
section
variable {X : Cx}
theorem callR_sw {f : Value} {r : List V → Hp → VK → Prop} (h : CallR X f r) : CallR X f (Sr r) := callR_of h fun _ _ _ q => q.h
theorem op_sw {f : Value → Value → Sem Value} {r : R2} (h : OpR X f r) : OpR X f (So r) := opR_of h fun _ _ _ _ q => q.h
end
section
variable {T : List (Addr × Str)} {p l q a b : Addr} {n m : Nat} {H H1 H2 H' : Hp} {o : HO} {K : PySem.W.Frag} {Q : VK} {x y : V} {d e : PyData}
theorem repr_sw (h : Dp K H x d) (g : Fd n m d) (e : n ≤ 10000000 ∧ m ≤ 64) (k : Q (.str d.shown) H) : Sr (rRepr K) [x] H Q :=
  ⟨x, d, rfl, h, g.sh, Nat.le_trans g.len (Nat.le_trans e.1 (by decide)), Nat.le_trans g.dep e.2, k⟩
theorem eqd_sw (h : Dp K H x d) (g : Dp K H y e) (f1 : Fe n d) (f2 : Fe m e) (z : n ≤ 64 ∧ m ≤ 64) (k : Q (.bl (PyData.eqv d e)) H) : So (rEqD K) x y H Q :=
  ⟨d, e, h, g, f1.shaped z.1, f2.shaped z.2, k⟩
theorem ned_sw (h : Dp K H x d) (g : Dp K H y e) (f1 : Fe n d) (f2 : Fe m e) (z : n ≤ 64 ∧ m ≤ 64) (k : Q (.bl (!PyData.eqv d e)) H) : So (rNeD K) x y H Q :=
  ⟨d, e, h, g, f1.shaped z.1, f2.shaped z.2, k⟩
/-- the same datum twice -/
theorem eqd_same (h : Dp K H x d) (g : Dp K H y d) (f : Fe n d) (z : n ≤ 64) (k : Q (.bl true) H) : So (rEqD K) x y H Q :=
  eqd_sw h g f f ⟨z, z⟩ (by rw [f.self]; exact k)
theorem ned_same (h : Dp K H x d) (g : Dp K H y d) (f : Fe n d) (z : n ≤ 64) (k : Q (.bl false) H) : So (rNeD K) x y H Q :=
  ned_sw h g f f ⟨z, z⟩ (by rw [f.self]; exact k)
theorem dp_lst {ds : List PyData} {xs : List V} (h : H a = some (.lst xs)) (g : DpAll K H xs ds) : Dp K H (.ref a) (.list ds) := .lst (SqL.of h) g
theorem dp_tup {ds : List PyData} {xs : List V} (h : H a = some (.tup xs)) (g : DpAll K H xs ds) : Dp K H (.ref a) (.tuple ds) := .tup (SqT.of h) g
end
end EM
namespace EM
open PySem PySem.Spec PyProof.Rows L2
section
variable {T : List (Addr × Str)} {p l q a b : Addr} {n m : Nat} {H H1 H2 H' : Hp} {o : HO} {K : PySem.W.Frag} {Q : VK} {E : XK}
theorem mk_low {t b : Int} (B : Bs T p l n H) (lo : Low t b) (hb : Bt 2000 b) (k : ∀ a H', Ext p H H' → Bs T p l n H' → RatP K p H' a t b → Q (.ref a) H') : Sw (spMkN K) [.int t, .int b] H Q E :=
  ⟨⟨t, b, rfl, by have := lo.pos; omega, Nat.lt_trans (hb.log (by decide)) (by decide), RatRes.low B lo (by have := lo.pos; omega) rfl k⟩⟩
theorem num_l {t b : Int} (h : NumP K p H (.ref a) t b) : RatP K p H a t b := ⟨num_ref h.num, fun z => h.ne (by rw [z])⟩
end
end EM
namespace EM
open PySem PySem.Spec PyProof.Rows L2
theorem RatP.getK {K K' : PySem.W.Frag} {p a : Addr} {H : Hp} {t b : Int} (h : RatP K p H a t b) (e : K = K') : RatAt K' H a t b := e ▸ h.rat
theorem NumP.getK {K K' : PySem.W.Frag} {p : Addr} {v : V} {H : Hp} {t b : Int} (h : NumP K p H v t b) (e : K = K') : Num K' H v t b := e ▸ h.num
end EM
namespace EM
open PySem PySem.Spec PyProof.Rows L2
theorem num_of_rat {K : PySem.W.Frag} {p a : Addr} {H : Hp} {t b : Int} (h : RatP K p H a t b) (lo : Low t b) : NumP K p H (.ref a) t b := h.num lo
end EM
namespace EM
open PySem PySem.Spec PyProof.Rows L2
theorem Bt.topL {n k : Nat} {t b : Int} (ht : Bt n t) (h : b ≠ 0) (e : n ≤ k) : Bt k (nTop t b) := (ht.top h).mono e
theorem Bt.botL {n k : Nat} {t b : Int} (hb : Bt n b) (h : b ≠ 0) (e : n ≤ k) : Bt k (nBot t b) := (hb.bot h).mono e
end EM
namespace EM
open PySem PySem.Spec PyProof.Rows L2
end EM
namespace EM
open PySem PySem.Spec PyProof.Rows L2
section
variable {T : List (Addr × Str)} {p l q a b : Addr} {n m : Nat} {H H1 H2 H' : Hp} {o : HO} {K : PySem.W.Frag} {Q : VK} {E : XK}
theorem RatP.at_ {t b : Int} (h : RatP K p H a t b) : ∃ dx, At p H a (.ins (He.ga K "Ratio") dx (rf t b)) := by
  obtain ⟨⟨dx, h⟩, n⟩ := h
  exact ⟨dx, h, n, fun _ z => by cases z⟩
end
end EM
namespace EM
open PySem PySem.Spec PyProof.Rows L2
theorem mk2 {X : Cx} {b : List Stmt} {t : TS} {D : Ends} {σ : L2.St} {H : Hp} (d : PSs X b t) (h : t D σ H) : ∃ t, PSs X b t ∧ t D σ H := ⟨t, d, h⟩
end EM
namespace EM
end EM
/-! EM37: int // x, int % x where x is an instance; == and the order of an instance with an int. -/
namespace PySem.W
open PySem PySem.Calls PyProof.Rows Builtin Builtin.Int
end PySem.W
namespace EM
open PySem PySem.Spec PyProof.Rows L2
end EM
/-! EM38: a Ratio's fields and methods by RatAt; of, is_number, over as steps. -/
namespace EM
open PySem PySem.Spec PyProof.Rows L2
section
variable {T : List (Addr × Str)} {p l q a b : Addr} {n m : Nat} {H H1 H2 H' : Hp} {o : HO} {K : PySem.W.Frag} {Q : VK} {E : XK}
theorem isNum_sw {v : V} {t b : Int} (h : NumP K p H v t b) (k : Q (.bl true) H) : Sw (spIsNum K) [v] H Q E := ⟨isNum h.num k⟩
theorem of_sw {v : V} {t b : Int} (B : Bs T p l n H) (h : NumP K p H v t b) (k : ∀ a H', Ext p H H' → Bs T p l n H' → RatP K p H' a t b → Q (.ref a) H') : Sw (spOfN K) [v] H Q E :=
  ⟨⟨v, t, b, rfl, h.num, fun a H' s r => k a H' (Ext.same s) (B.same s) (RatP.of (B.same s) r)⟩⟩
end
/-! ### promises of //, % and the roundings -/
structure TwoP (K : PySem.W.Frag) (T : List (Addr × Str)) (p l : Addr) (n : Nat) (H : Hp) (x : Addr) (v : V) (t b u c : Int) : Prop where
  B : Bs T p l n H
  rx : RatP K p H x t b
  lo : Low t b
  ny : NumP K p H v u c
  bt : Bt 400 t
  bb : Bt 400 b
  bu : Bt 400 u
  bc : Bt 400 c
end EM
namespace EM
open PySem PySem.Spec PyProof.Rows L2
section
variable {X : Cx} {e : Expr} {ta : TE} {pos : Pos}
def tRatF (K : PySem.W.Frag) (g : Int → Int → Int) (ta : TE) : TE := fun σ H Q => ta σ H fun x H1 => ∃ a t b, x = V.ref a ∧ RatAt K H1 a t b ∧ Q (.int (g t b)) H1
theorem pe_topN (he : PE X e ta) (c : Cls X.K (He.ga X.K "Ratio")) (na : NoAttr X.K (He.ga X.K "Ratio") "top") (hb : attributeBase e "top" X.env (eval e X.env) = eval e X.env) : PE X (.Attribute e "top" pos) (tRatF X.K (fun t _ => t) ta) :=
  (pe_fld he.mc hb).of fun σ H Q q => ⟨_, q, fun x H1 ⟨a, t, b, e, ⟨dx, r⟩, k⟩ => ⟨a, _, dx, _, .int t, e, r, c, na, rfl, k⟩⟩
theorem pe_botN (he : PE X e ta) (c : Cls X.K (He.ga X.K "Ratio")) (na : NoAttr X.K (He.ga X.K "Ratio") "bottom") (hb : attributeBase e "bottom" X.env (eval e X.env) = eval e X.env) : PE X (.Attribute e "bottom" pos) (tRatF X.K (fun _ b => b) ta) :=
  (pe_fld he.mc hb).of fun σ H Q q => ⟨_, q, fun x H1 ⟨a, t, b, e, ⟨dx, r⟩, k⟩ => ⟨a, _, dx, _, .int b, e, r, c, na, rfl, k⟩⟩
end
end EM
namespace EM
open PySem PySem.Spec PyProof.Rows L2
end EM
namespace EM
theorem Bt.div {n : Nat} {i j : Int} (h : Bt n i) (hj : 0 < j) : Bt n (i / j) := by
  refine h.le ?_
  rcases Int.lt_or_le i 0 with hi | hi
  · have h1 : i ≤ i / j := Int.le_ediv_of_mul_le hj (by
      have : i * j ≤ i * 1 := Int.mul_le_mul_of_nonpos_left (by omega) (by omega)
      omega)
    have h2 : i / j < 0 := Int.ediv_neg_of_neg_of_pos hi hj
    omega
  · have h1 : i / j ≤ i := Int.ediv_le_self j hi
    have h2 : 0 ≤ i / j := Int.ediv_nonneg hi (by omega)
    omega
end EM
namespace EM
open PySem PySem.Spec PyProof.Rows L2
theorem Bt.divM {n k : Nat} {i j : Int} (h : Bt n i) (hj : 0 < j) (e : n ≤ k) : Bt k (i / j) := (h.div hj).mono e
end EM
namespace EM
open PySem PySem.Spec PyProof.Rows L2
theorem call_intN {X : Cx} : CallR X (.type "int") (fun xs H Q => ∃ i, xs = [.int i] ∧ Q (.int i) H) := callR_of call_int1 fun _ _ _ h => .inl h
theorem call_intBN {X : Cx} : CallR X (.type "int") (fun xs H Q => ∃ k, xs = [.bl k] ∧ Q (.int (if k then 1 else 0)) H) := callR_of call_int1 fun _ _ _ h => .inr h
end EM
/-! EM39: append in a law's own code: one object is written (Mu). -/
namespace EM
open PySem PySem.Spec PyProof.Rows L2
structure Mu (l : Addr) (H H' : Hp) (o : HO) : Prop where
  at_ : H' l = some o
  old : ∀ b, b ≠ l → H' b = H b
theorem Mu.upd {l : Addr} {H : Hp} {o : HO} : Mu l H (L2.upd H l o) o := ⟨upd_same, fun b n => upd_ne n⟩
section
variable {T : List (Addr × Str)} {p l0 l b : Addr} {n : Nat} {H H' : Hp} {o o2 : HO} {K : PySem.W.Frag} {xs ys : List V} {v : V} {t c : Int}
theorem Mu.eq (m : Mu l H H' o) : H' = L2.upd H l o := by
  funext b
  by_cases h : b = l
  · rw [h, m.at_, upd_same]
  · rw [m.old b h, upd_ne h]
theorem Mu.bs (m : Mu l H H' o) (B : Bs T p l0 n H) (h : At p H l (.lst xs)) (nl : l ≠ l0) : Bs T p l0 n H' := by
  rw [m.eq]
  exact ⟨B.pen.mut h.ne nl, tabs_mut B.tab h.at_⟩
theorem Mu.at_n (m : Mu l H H' o) (h : At p H b o2) (nb : b ≠ l) : At p H' b o2 := ⟨by rw [m.old b nb]; exact h.at_, h.ne, h.nt⟩
theorem Mu.at_k (m : Mu l H H' o) (h : At p H b o2) (g : At p H l (.lst xs)) (nk : ∀ xs, o2 ≠ .lst xs) : At p H' b o2 := m.at_n h (ne_of h.at_ g.at_ (nk _))
theorem Mu.here (m : Mu l H H' (.lst ys)) (g : At p H l (.lst xs)) : At p H' l (.lst ys) := ⟨m.at_, g.ne, fun _ z => by cases z⟩
theorem Mu.rat (m : Mu l H H' o) (h : RatP K p H b t c) (g : At p H l (.lst xs)) : RatP K p H' b t c := by
  obtain ⟨⟨dx, h⟩, n⟩ := h
  exact ⟨⟨dx, by rw [m.old b (ne_of h g.at_ (by intro z; cases z))]; exact h⟩, n⟩
theorem Mu.num (m : Mu l H H' o) (h : NumP K p H v t c) (g : At p H l (.lst xs)) : NumP K p H' v t c := by
  obtain ⟨⟨lo, h⟩, n⟩ := h
  refine ⟨⟨lo, ?_⟩, n⟩
  rcases h with ⟨a, rfl, r⟩ | h
  · exact .inl ⟨a, rfl, (m.rat (K := K) ⟨r, fun z => n (by rw [z])⟩ g).rat⟩
  · exact .inr h
end
section
variable {X : Cx} {o e : Expr} {to te : TE}
def tAppN (to te : TE) : TE := fun σ H Q => to σ H fun x H1 => ∃ l ys, x = V.ref l ∧ H1 l = some (.lst ys) ∧ te σ H1 fun v H2 => ∃ xs, H2 l = some (.lst xs) ∧ xs.length < 100000 ∧ ∀ H3, Mu l H2 H3 (.lst (xs ++ [v])) → Q .non H3
end
end EM
namespace EM
open PySem PySem.Spec PyProof.Rows L2
section
variable {X : Cx} {o e : Expr} {to te : TE} {apos cpos : Pos}
/-- o.append(e) -/
theorem pe_appN (ho : PE X o to) (he : PE X e te) (hbase : attributeBase o "append" X.env (eval o X.env) = eval o X.env := by rfl)
    (hfew : ((backTo cpos (starEach [e] X.env)).all (fun x => !x.1) && (backToKw cpos (keywordEach [] X.env)).all (fun x => x.1.isSome) && decide ([e].length + ([] : List Keyword).length + (if ([] : List Keyword).isEmpty then 0 else 1) < 30)) = true := by rfl)
    (hline : (apos.endLine == cpos.line) = true := by rfl) (hs : starEach [e] X.env = (false, eval e X.env) :: starEach [] X.env := by rfl) (hplain : (backTo cpos (starEach [] X.env)).any (·.1) = false := by rfl) :
    PE X (.Call (.Attribute o "append" apos) [e] [] cpos) (tAppN to te) :=
  (pe_bm PySem.F.plainAttrs_list PySem.F.slot_list_append PySem.F.type_list_append mt_append ho.mc (pa_cons he.mc pa_nil hs) hbase hfew hline hs hplain).of fun σ H Q q => ⟨_, q, fun x H1 ⟨l, ys, e1, h1, h2⟩ => by
    subst e1
    exact ⟨.inl ⟨rfl, ys, SqL.of h1⟩, _, h2, fun v H2 ⟨xs, h3, h4, h5⟩ => ⟨l, xs, v, rfl, rfl, h3, szl h4, h5 _ Mu.upd⟩⟩⟩
end
end EM
/-! EM40: y op x, a comparison whose left value's builtin declines an instance on the right. -/
namespace PySem.W
open PySem PySem.Calls PyProof.Rows Builtin
section
variable {prog : Program} {w : World} {A : Around} {E : Value → Shared → Prop} {s : Shared} {K : Frag} {x C L f : Addr} {h₀ : Heap} {m : Str → Option Value} {ox : Obj} {od : Option Obj}
theorem em_cmpR {op : CmpOp} {a : Value} {B : String} {Q : Value → Shared → Prop} (hu : A.units < cLine) (F : Fr h₀ L s.heap m) (X₀ : K.In h₀) (I : InstAt s.heap x ox C od) (ha : s.TypeIs a B) (ho : oneThing? op a (.ref x) = none) (hn : subIn K (.ref C) (.type B) = some false)
    (hd : ∀ (E : Value → Shared → Prop) (Q' : Option Value → Shared → Prop), Q' none s → wpAny (model prog w) A (tryCompare a (cmpInfo op).2.1 (.ref x)) Q' E s)
    (one : wpAny (model prog w) A (tryCompare (.ref x) (cmpInfo op).2.2 a) (fun r s' => ∃ v, r = some v ∧ Q v s') E s) : wpAny (model prog w) A (richCompare op a (.ref x)) Q E s := by
  have X := X₀.keeps F.keep
  have hne : (Value.type B != Value.ref C) = true := by
    simp
  unfold richCompare
  simp only [ho]
  refine wpAny_holding (wpAny_bind (wpAny_cRoomFor hu ?_))
  refine wpAny_bind (wpAny_typeOf ha (wpAny_bind (I.type.here ?_)))
  simp only [hne, if_true]
  refine wpAny_bind ((looks_subIn X hn).here ?_)
  simp only [Bool.false_eq_true, if_false]
  refine wpAny_bind (hd _ _ ?_)
  simp only [Bool.not_false, if_true]
  refine wpAny_bind (wpAny_mono one (fun r s' z => ?_) fun _ _ e => e)
  obtain ⟨v, rfl, hq⟩ := z
  exact wpAny_pure hq
/-- the own one answers from behind -/
theorem em_back {op : CmpOp} {a : Value} {Q : Value → Shared → Prop} (F : Fr h₀ L s.heap m) (X₀ : K.In h₀) (I : InstAt s.heap x ox C od) (hs : findIn K (.ref C) (cmpInfo op).2.2 = some (some (.ref f))) (hf : isFn K (.ref f) = true)
    (h : wpAny (model prog w) A (call (.ref f) [.ref x, a]) (CmpBack Q) E s) : wpAny (model prog w) A (tryCompare (.ref x) (cmpInfo op).2.2 a) (fun r s' => ∃ v, r = some v ∧ Q v s') E s := by
  unfold tryCompare
  refine wpAny_bind (ifBound_K (X₀.keeps F.keep) I hs hf (wpAny_mono h (fun v s' hv => ?_) fun _ _ e => e))
  cases v <;> first | exact hv.elim | exact wpAny_pure ⟨_, rfl, hv⟩
theorem typeIs_keep {s s' : Shared} {a : Value} {B : String} (h : s.TypeIs a B) (k : ∀ b o, s.heap.get? b = some o → s'.heap.get? b = some o) : s'.TypeIs a B := by
  cases a with
  | ref a =>
    obtain ⟨o, e, c⟩ := h
    exact ⟨o, k _ _ e, c⟩
  | _ => exact h
theorem decl_cmp {a : Value} {B id ow n : String} {nm : Str} {bi : Builtin} (hT : s.TypeIs a B) (S : Slot B nm id) (en : entryFor table id = some bi) (hk : builtinKind id = some .slot) (hsp : splitId id = some (ow, n)) (ha : argsOk id ⟨[a, .ref x], []⟩)
    (hs : isSubtype (.type B) (.type ow) = pure true)
    (hb : ∀ (A : Around) (E : Value → Shared → Prop) (Q : Fin → Shared → Prop), wpAny (model prog w) A (ret .notImplemented) Q E s → wpAny (model prog w) A (bi ⟨[a, .ref x], []⟩) Q E s) (E : Value → Shared → Prop) (Q : Option Value → Shared → Prop) (q : Q none s) : wpAny (model prog w) A (tryCompare a nm (.ref x)) Q E s := by
  refine wpAny_tryCompare_declines hT S (wpAny_call (codeAny_call_builtin S.plain en (check_slot hk hsp (fun A Q E s' k q => ?_) ha (hb _ _ _ (wpAny_pure ⟨rfl, q⟩)))))
  exact wpAny_isInstance (typeIs_keep hT k) hs q
theorem dec_list_eq {a : Addr} {oa : Obj} (X : K.In s.heap) (I : InstAt s.heap x ox C od) (ha : s.heap.get? a = some oa) (hc : oa.cls = .type "list") (hm : mroIn K C (.type "list") = some false) (E : Value → Shared → Prop) (Q : Option Value → Shared → Prop) (q : Q none s) : wpAny (model prog w) A (tryCompare (.ref a) (cmpInfo .Eq).2.1 (.ref x)) Q E s :=
  decl_cmp (s := s) (a := .ref a) (B := "list") (ow := "list") (n := "__eq__") (show s.TypeIs (.ref a) "list" from ⟨_, ha, hc⟩) F.slot_list_eq F.entry_list_eq (by decide +kernel) (by decide +kernel) (F.args_list_eq_2 _ _) (by rw [isSubtype_type]; kernel_rfl) (fun A E Q h => by
    have L : Looks (model prog w) s.heap (isInstance (.ref x) (.type "list")) false := I.type.andThen (looks_mroIn X hm)
    unfold Builtin.«list.__eq__»
    refine wpAny_bind (m := slotArgs "__eq__" 1 _) (wpAny_pure ?_)
    refine wpAny_bind (m := isInstance (.ref x) (.type "list")) (L.here ?_)
    exact h) E Q q
theorem dec_list_ne {a : Addr} {oa : Obj} (X : K.In s.heap) (I : InstAt s.heap x ox C od) (ha : s.heap.get? a = some oa) (hc : oa.cls = .type "list") (hm : mroIn K C (.type "list") = some false) (E : Value → Shared → Prop) (Q : Option Value → Shared → Prop) (q : Q none s) : wpAny (model prog w) A (tryCompare (.ref a) (cmpInfo .NotEq).2.1 (.ref x)) Q E s :=
  decl_cmp (s := s) (a := .ref a) (B := "list") (ow := "list") (n := "__ne__") (show s.TypeIs (.ref a) "list" from ⟨_, ha, hc⟩) F.slot_list_ne F.entry_list_ne (by decide +kernel) (by decide +kernel) (F.args_list_ne_2 _ _) (by rw [isSubtype_type]; kernel_rfl) (fun A E Q h => by
    have L : Looks (model prog w) s.heap (isInstance (.ref x) (.type "list")) false := I.type.andThen (looks_mroIn X hm)
    unfold Builtin.«list.__ne__»
    refine wpAny_bind (m := slotArgs "__ne__" 1 _) (wpAny_pure ?_)
    refine wpAny_bind (m := isInstance (.ref x) (.type "list")) (L.here ?_)
    exact h) E Q q
theorem dec_tuple_eq {a : Addr} {oa : Obj} (X : K.In s.heap) (I : InstAt s.heap x ox C od) (ha : s.heap.get? a = some oa) (hc : oa.cls = .type "tuple") (hm : mroIn K C (.type "tuple") = some false) (E : Value → Shared → Prop) (Q : Option Value → Shared → Prop) (q : Q none s) : wpAny (model prog w) A (tryCompare (.ref a) (cmpInfo .Eq).2.1 (.ref x)) Q E s :=
  decl_cmp (s := s) (a := .ref a) (B := "tuple") (ow := "tuple") (n := "__eq__") (show s.TypeIs (.ref a) "tuple" from ⟨_, ha, hc⟩) F.slot_tuple_eq F.entry_tuple_eq (by decide +kernel) (by decide +kernel) (F.args_tuple_eq_2 _ _) (by rw [isSubtype_type]; kernel_rfl) (fun A E Q h => by
    have L : Looks (model prog w) s.heap (isInstance (.ref x) (.type "tuple")) false := I.type.andThen (looks_mroIn X hm)
    unfold Builtin.«tuple.__eq__»
    refine wpAny_bind (m := slotArgs "__eq__" 1 _) (wpAny_pure ?_)
    refine wpAny_bind (m := isInstance (.ref x) (.type "tuple")) (L.here ?_)
    exact h) E Q q
theorem dec_tuple_ne {a : Addr} {oa : Obj} (X : K.In s.heap) (I : InstAt s.heap x ox C od) (ha : s.heap.get? a = some oa) (hc : oa.cls = .type "tuple") (hm : mroIn K C (.type "tuple") = some false) (E : Value → Shared → Prop) (Q : Option Value → Shared → Prop) (q : Q none s) : wpAny (model prog w) A (tryCompare (.ref a) (cmpInfo .NotEq).2.1 (.ref x)) Q E s :=
  decl_cmp (s := s) (a := .ref a) (B := "tuple") (ow := "tuple") (n := "__ne__") (show s.TypeIs (.ref a) "tuple" from ⟨_, ha, hc⟩) F.slot_tuple_ne F.entry_tuple_ne (by decide +kernel) (by decide +kernel) (F.args_tuple_ne_2 _ _) (by rw [isSubtype_type]; kernel_rfl) (fun A E Q h => by
    have L : Looks (model prog w) s.heap (isInstance (.ref x) (.type "tuple")) false := I.type.andThen (looks_mroIn X hm)
    unfold Builtin.«tuple.__ne__»
    refine wpAny_bind (m := slotArgs "__ne__" 1 _) (wpAny_pure ?_)
    refine wpAny_bind (m := isInstance (.ref x) (.type "tuple")) (L.here ?_)
    exact h) E Q q
theorem dec_dict_eq {a : Addr} {oa : Obj} (X : K.In s.heap) (I : InstAt s.heap x ox C od) (ha : s.heap.get? a = some oa) (hc : oa.cls = .type "dict") (hm : mroIn K C (.type "dict") = some false) (E : Value → Shared → Prop) (Q : Option Value → Shared → Prop) (q : Q none s) : wpAny (model prog w) A (tryCompare (.ref a) (cmpInfo .Eq).2.1 (.ref x)) Q E s :=
  decl_cmp (s := s) (a := .ref a) (B := "dict") (ow := "dict") (n := "__eq__") (show s.TypeIs (.ref a) "dict" from ⟨_, ha, hc⟩) F.slot_dict_eq F.entry_dict_eq (by decide +kernel) (by decide +kernel) (F.args_dict_eq_2 _ _) (by rw [isSubtype_type]; kernel_rfl) (fun A E Q h => by
    have L : Looks (model prog w) s.heap (isInstance (.ref x) (.type "dict")) false := I.type.andThen (looks_mroIn X hm)
    unfold Builtin.«dict.__eq__»
    refine wpAny_bind (m := Builtin.Dict.dictSlotArgs "__eq__" _) (wpAny_pure ?_)
    refine wpAny_bind (m := isInstance (.ref x) (.type "dict")) (L.here ?_)
    exact wpAny_bind (wpAny_rule h)) E Q q
theorem dec_dict_ne {a : Addr} {oa : Obj} (X : K.In s.heap) (I : InstAt s.heap x ox C od) (ha : s.heap.get? a = some oa) (hc : oa.cls = .type "dict") (hm : mroIn K C (.type "dict") = some false) (E : Value → Shared → Prop) (Q : Option Value → Shared → Prop) (q : Q none s) : wpAny (model prog w) A (tryCompare (.ref a) (cmpInfo .NotEq).2.1 (.ref x)) Q E s :=
  decl_cmp (s := s) (a := .ref a) (B := "dict") (ow := "dict") (n := "__ne__") (show s.TypeIs (.ref a) "dict" from ⟨_, ha, hc⟩) F.slot_dict_ne F.entry_dict_ne (by decide +kernel) (by decide +kernel) (F.args_dict_ne_2 _ _) (by rw [isSubtype_type]; kernel_rfl) (fun A E Q h => by
    have L : Looks (model prog w) s.heap (isInstance (.ref x) (.type "dict")) false := I.type.andThen (looks_mroIn X hm)
    unfold Builtin.«dict.__ne__»
    refine wpAny_bind (m := Builtin.Dict.dictSlotArgs "__ne__" _) (wpAny_pure ?_)
    refine wpAny_bind (m := isInstance (.ref x) (.type "dict")) (L.here ?_)
    exact wpAny_bind (wpAny_rule h)) E Q q
theorem dec_non_eq  (I : InstAt s.heap x ox C od) (hd : ox.data = .plain) (E : Value → Shared → Prop) (Q : Option Value → Shared → Prop) (q : Q none s) : wpAny (model prog w) A (tryCompare .none (cmpInfo .Eq).2.1 (.ref x)) Q E s :=
  decl_cmp (s := s) (a := .none) (B := "NoneType") (ow := "NoneType") (n := "__eq__") (show s.TypeIs .none "NoneType" from rfl) F.slot_NoneType_eq F.entry_NoneType_eq (by decide +kernel) (by decide +kernel) (F.args_NoneType_eq_2 _ _) (by rw [isSubtype_type]; kernel_rfl) (fun A E Q h => by
    unfold Builtin.«NoneType.__eq__»
    exact wpAny_bind (m := slotArgs "__eq__" 1 _) (wpAny_pure h)) E Q q
theorem dec_non_ne  (I : InstAt s.heap x ox C od) (hd : ox.data = .plain) (E : Value → Shared → Prop) (Q : Option Value → Shared → Prop) (q : Q none s) : wpAny (model prog w) A (tryCompare .none (cmpInfo .NotEq).2.1 (.ref x)) Q E s :=
  decl_cmp (s := s) (a := .none) (B := "NoneType") (ow := "NoneType") (n := "__ne__") (show s.TypeIs .none "NoneType" from rfl) F.slot_NoneType_ne F.entry_NoneType_ne (by decide +kernel) (by decide +kernel) (F.args_NoneType_ne_2 _ _) (by rw [isSubtype_type]; kernel_rfl) (fun A E Q h => by
    unfold Builtin.«NoneType.__ne__»
    exact wpAny_bind (m := slotArgs "__ne__" 1 _) (wpAny_pure h)) E Q q
theorem dec_bl_eq {b : Bool} (I : InstAt s.heap x ox C od) (hd : ox.data = .plain) (E : Value → Shared → Prop) (Q : Option Value → Shared → Prop) (q : Q none s) : wpAny (model prog w) A (tryCompare (.bool b) (cmpInfo .Eq).2.1 (.ref x)) Q E s :=
  decl_cmp (s := s) (a := (.bool b)) (B := "bool") (ow := "int") (n := "__eq__") (show s.TypeIs (.bool b) "bool" from rfl) F.slot_bool_eq F.entry_int_eq (by decide +kernel) (by decide +kernel) (F.args_int_eq_2 _ _) (by rw [isSubtype_type]; kernel_rfl) (fun A E Q h => by
    unfold Builtin.«int.__eq__»
    refine wpAny_bind (m := slotArgs "__eq__" 1 _) (wpAny_pure ?_)
    refine wpAny_bind (m := Builtin.Int.intOfSelf _) (wpAny_pure ?_)
    refine wpAny_bind (m := asInt? (.ref x)) ?_
    unfold asInt?
    refine wpAny_bind (wpAny_load I.at_ ?_)
    rw [hd]
    refine wpAny_pure ?_
    exact wpAny_bind (wpAny_rule h)) E Q q
theorem dec_bl_ne {b : Bool} (I : InstAt s.heap x ox C od) (hd : ox.data = .plain) (E : Value → Shared → Prop) (Q : Option Value → Shared → Prop) (q : Q none s) : wpAny (model prog w) A (tryCompare (.bool b) (cmpInfo .NotEq).2.1 (.ref x)) Q E s :=
  decl_cmp (s := s) (a := (.bool b)) (B := "bool") (ow := "int") (n := "__ne__") (show s.TypeIs (.bool b) "bool" from rfl) F.slot_bool_ne F.entry_int_ne (by decide +kernel) (by decide +kernel) (F.args_int_ne_2 _ _) (by rw [isSubtype_type]; kernel_rfl) (fun A E Q h => by
    unfold Builtin.«int.__ne__»
    refine wpAny_bind (m := slotArgs "__ne__" 1 _) (wpAny_pure ?_)
    refine wpAny_bind (m := Builtin.Int.intOfSelf _) (wpAny_pure ?_)
    refine wpAny_bind (m := asInt? (.ref x)) ?_
    unfold asInt?
    refine wpAny_bind (wpAny_load I.at_ ?_)
    rw [hd]
    refine wpAny_pure ?_
    exact wpAny_bind (wpAny_rule h)) E Q q
theorem dec_int_eq {i : Int} {t : Tok} (I : InstAt s.heap x ox C od) (hd : ox.data = .plain) (E : Value → Shared → Prop) (Q : Option Value → Shared → Prop) (q : Q none s) : wpAny (model prog w) A (tryCompare (.int i t) (cmpInfo .Eq).2.1 (.ref x)) Q E s :=
  decl_cmp (s := s) (a := (.int i t)) (B := "int") (ow := "int") (n := "__eq__") (show s.TypeIs (.int i t) "int" from (typeIs_int _ _ _)) F.slot_int_eq F.entry_int_eq (by decide +kernel) (by decide +kernel) (F.args_int_eq_2 _ _) (by rw [isSubtype_type]; kernel_rfl) (fun A E Q h => by
    unfold Builtin.«int.__eq__»
    refine wpAny_bind (m := slotArgs "__eq__" 1 _) (wpAny_pure ?_)
    refine wpAny_bind (m := Builtin.Int.intOfSelf _) (wpAny_pure ?_)
    refine wpAny_bind (m := asInt? (.ref x)) ?_
    unfold asInt?
    refine wpAny_bind (wpAny_load I.at_ ?_)
    rw [hd]
    refine wpAny_pure ?_
    exact wpAny_bind (wpAny_rule h)) E Q q
theorem dec_int_ne {i : Int} {t : Tok} (I : InstAt s.heap x ox C od) (hd : ox.data = .plain) (E : Value → Shared → Prop) (Q : Option Value → Shared → Prop) (q : Q none s) : wpAny (model prog w) A (tryCompare (.int i t) (cmpInfo .NotEq).2.1 (.ref x)) Q E s :=
  decl_cmp (s := s) (a := (.int i t)) (B := "int") (ow := "int") (n := "__ne__") (show s.TypeIs (.int i t) "int" from (typeIs_int _ _ _)) F.slot_int_ne F.entry_int_ne (by decide +kernel) (by decide +kernel) (F.args_int_ne_2 _ _) (by rw [isSubtype_type]; kernel_rfl) (fun A E Q h => by
    unfold Builtin.«int.__ne__»
    refine wpAny_bind (m := slotArgs "__ne__" 1 _) (wpAny_pure ?_)
    refine wpAny_bind (m := Builtin.Int.intOfSelf _) (wpAny_pure ?_)
    refine wpAny_bind (m := asInt? (.ref x)) ?_
    unfold asInt?
    refine wpAny_bind (wpAny_load I.at_ ?_)
    rw [hd]
    refine wpAny_pure ?_
    exact wpAny_bind (wpAny_rule h)) E Q q
theorem dec_int_lt {i : Int} {t : Tok} (I : InstAt s.heap x ox C od) (hd : ox.data = .plain) (E : Value → Shared → Prop) (Q : Option Value → Shared → Prop) (q : Q none s) : wpAny (model prog w) A (tryCompare (.int i t) (cmpInfo .Lt).2.1 (.ref x)) Q E s :=
  decl_cmp (s := s) (a := (.int i t)) (B := "int") (ow := "int") (n := "__lt__") (show s.TypeIs (.int i t) "int" from (typeIs_int _ _ _)) F.slot_int_lt F.entry_int_lt (by decide +kernel) (by decide +kernel) (F.args_int_lt_2 _ _) (by rw [isSubtype_type]; kernel_rfl) (fun A E Q h => by
    unfold Builtin.«int.__lt__»
    refine wpAny_bind (m := slotArgs "__lt__" 1 _) (wpAny_pure ?_)
    refine wpAny_bind (m := Builtin.Int.intOfSelf _) (wpAny_pure ?_)
    refine wpAny_bind (m := asInt? (.ref x)) ?_
    unfold asInt?
    refine wpAny_bind (wpAny_load I.at_ ?_)
    rw [hd]
    refine wpAny_pure ?_
    exact wpAny_bind (wpAny_rule h)) E Q q
theorem dec_int_le {i : Int} {t : Tok} (I : InstAt s.heap x ox C od) (hd : ox.data = .plain) (E : Value → Shared → Prop) (Q : Option Value → Shared → Prop) (q : Q none s) : wpAny (model prog w) A (tryCompare (.int i t) (cmpInfo .LtE).2.1 (.ref x)) Q E s :=
  decl_cmp (s := s) (a := (.int i t)) (B := "int") (ow := "int") (n := "__le__") (show s.TypeIs (.int i t) "int" from (typeIs_int _ _ _)) F.slot_int_le F.entry_int_le (by decide +kernel) (by decide +kernel) (F.args_int_le_2 _ _) (by rw [isSubtype_type]; kernel_rfl) (fun A E Q h => by
    unfold Builtin.«int.__le__»
    refine wpAny_bind (m := slotArgs "__le__" 1 _) (wpAny_pure ?_)
    refine wpAny_bind (m := Builtin.Int.intOfSelf _) (wpAny_pure ?_)
    refine wpAny_bind (m := asInt? (.ref x)) ?_
    unfold asInt?
    refine wpAny_bind (wpAny_load I.at_ ?_)
    rw [hd]
    refine wpAny_pure ?_
    exact wpAny_bind (wpAny_rule h)) E Q q
theorem dec_int_gt {i : Int} {t : Tok} (I : InstAt s.heap x ox C od) (hd : ox.data = .plain) (E : Value → Shared → Prop) (Q : Option Value → Shared → Prop) (q : Q none s) : wpAny (model prog w) A (tryCompare (.int i t) (cmpInfo .Gt).2.1 (.ref x)) Q E s :=
  decl_cmp (s := s) (a := (.int i t)) (B := "int") (ow := "int") (n := "__gt__") (show s.TypeIs (.int i t) "int" from (typeIs_int _ _ _)) F.slot_int_gt F.entry_int_gt (by decide +kernel) (by decide +kernel) (F.args_int_gt_2 _ _) (by rw [isSubtype_type]; kernel_rfl) (fun A E Q h => by
    unfold Builtin.«int.__gt__»
    refine wpAny_bind (m := slotArgs "__gt__" 1 _) (wpAny_pure ?_)
    refine wpAny_bind (m := Builtin.Int.intOfSelf _) (wpAny_pure ?_)
    refine wpAny_bind (m := asInt? (.ref x)) ?_
    unfold asInt?
    refine wpAny_bind (wpAny_load I.at_ ?_)
    rw [hd]
    refine wpAny_pure ?_
    exact wpAny_bind (wpAny_rule h)) E Q q
theorem dec_int_ge {i : Int} {t : Tok} (I : InstAt s.heap x ox C od) (hd : ox.data = .plain) (E : Value → Shared → Prop) (Q : Option Value → Shared → Prop) (q : Q none s) : wpAny (model prog w) A (tryCompare (.int i t) (cmpInfo .GtE).2.1 (.ref x)) Q E s :=
  decl_cmp (s := s) (a := (.int i t)) (B := "int") (ow := "int") (n := "__ge__") (show s.TypeIs (.int i t) "int" from (typeIs_int _ _ _)) F.slot_int_ge F.entry_int_ge (by decide +kernel) (by decide +kernel) (F.args_int_ge_2 _ _) (by rw [isSubtype_type]; kernel_rfl) (fun A E Q h => by
    unfold Builtin.«int.__ge__»
    refine wpAny_bind (m := slotArgs "__ge__" 1 _) (wpAny_pure ?_)
    refine wpAny_bind (m := Builtin.Int.intOfSelf _) (wpAny_pure ?_)
    refine wpAny_bind (m := asInt? (.ref x)) ?_
    unfold asInt?
    refine wpAny_bind (wpAny_load I.at_ ?_)
    rw [hd]
    refine wpAny_pure ?_
    exact wpAny_bind (wpAny_rule h)) E Q q
theorem dec_str_eq {z : Str} {t : Tok} (I : InstAt s.heap x ox C od) (hd : ox.data = .plain) (E : Value → Shared → Prop) (Q : Option Value → Shared → Prop) (q : Q none s) : wpAny (model prog w) A (tryCompare (.str z t) (cmpInfo .Eq).2.1 (.ref x)) Q E s :=
  decl_cmp (s := s) (a := (.str z t)) (B := "str") (ow := "str") (n := "__eq__") (show s.TypeIs (.str z t) "str" from (typeIs_str _ _ _)) F.slot_str_eq F.entry_str_eq (by decide +kernel) (by decide +kernel) (F.args_str_eq_2 _ _) (by rw [isSubtype_type]; kernel_rfl) (fun A E Q h => by
    unfold Builtin.«str.__eq__»
    refine wpAny_bind (m := Builtin.Str.strSlot "__eq__" 1 _) (wpAny_pure ?_)
    refine wpAny_bind (m := asStr? (.ref x)) ?_
    unfold asStr?
    refine wpAny_bind (wpAny_load I.at_ ?_)
    rw [hd]
    refine wpAny_pure ?_
    exact wpAny_bind (wpAny_rule h)) E Q q
theorem dec_str_ne {z : Str} {t : Tok} (I : InstAt s.heap x ox C od) (hd : ox.data = .plain) (E : Value → Shared → Prop) (Q : Option Value → Shared → Prop) (q : Q none s) : wpAny (model prog w) A (tryCompare (.str z t) (cmpInfo .NotEq).2.1 (.ref x)) Q E s :=
  decl_cmp (s := s) (a := (.str z t)) (B := "str") (ow := "str") (n := "__ne__") (show s.TypeIs (.str z t) "str" from (typeIs_str _ _ _)) F.slot_str_ne F.entry_str_ne (by decide +kernel) (by decide +kernel) (F.args_str_ne_2 _ _) (by rw [isSubtype_type]; kernel_rfl) (fun A E Q h => by
    unfold Builtin.«str.__ne__»
    refine wpAny_bind (m := Builtin.Str.strSlot "__ne__" 1 _) (wpAny_pure ?_)
    refine wpAny_bind (m := asStr? (.ref x)) ?_
    unfold asStr?
    refine wpAny_bind (wpAny_load I.at_ ?_)
    rw [hd]
    refine wpAny_pure ?_
    exact wpAny_bind (wpAny_rule h)) E Q q
end
end PySem.W
/-! EM41: comparisons of an instance with anything, on either side. -/
namespace EM
open PySem PySem.Spec PyProof.Rows L2
/-- values of Python's own kinds -/
inductive DecT (H : Hp) : V → String → Prop
  | int (i : Int) : DecT H (.int i) "int"
  | non : DecT H .non "NoneType"
  | bl (b : Bool) : DecT H (.bl b) "bool"
  | str (z : Str) : DecT H (.str z) "str"
  | tup {a : Addr} {xs : List V} (h : H a = some (.tup xs)) : DecT H (.ref a) "tuple"
  | lst {a : Addr} {xs : List V} (h : H a = some (.lst xs)) : DecT H (.ref a) "list"
  | dct {a : Addr} {kv : List (Key × V)} (h : H a = some (.dK kv)) : DecT H (.ref a) "dict"
/-- a class that is below none of Python's own kinds, and none of these below it -/
structure Apart (K : PySem.W.Frag) (C : Addr) : Prop where
  dn : ∀ T ∈ ["int", "NoneType", "bool", "str", "tuple", "list", "dict"], PySem.W.subIn K (.ref C) (.type T) = some false
  up : ∀ T ∈ ["int", "NoneType", "bool", "str", "tuple", "list", "dict"], PySem.W.subIn K (.type T) (.ref C) = some false
theorem apartB_ok {K : PySem.W.Frag} {C : Addr} (h : apartB K C = true) : Apart K C := by
  have q := List.all_eq_true.mp h
  exact ⟨fun T hT => of_decide_eq_true (Bool.and_eq_true_iff.mp (q T hT)).1, fun T hT => of_decide_eq_true (Bool.and_eq_true_iff.mp (q T hT)).2⟩
theorem DecT.mem {H : Hp} {v : V} {T : String} (d : DecT H v T) : T ∈ ["int", "NoneType", "bool", "str", "tuple", "list", "dict"] := by
  cases d <;> simp
section
variable {X : Cx} {CX : CXT} {n : Nat} {g C : Addr} {sp : Sp} {E : XK} {pins : List (Addr × Obj)} {σ : L2.St} {H : Hp} {s : Shared}
theorem DecT.is {v : V} {u : Value} {T : String} (I : Inv X pins σ H s) (r : RelV v u) (d : DecT H v T) : s.TypeIs u T := by
  cases d with
  | int i =>
    obtain ⟨t, rfl⟩ := r
    exact typeIs_int _ _ _
  | non =>
    cases (show u = Value.none from r)
    exact rfl
  | bl b =>
    cases (show u = Value.bool b from r)
    exact rfl
  | str z =>
    obtain ⟨t, rfl⟩ := r
    exact typeIs_str _ _ _
  | tup h =>
    cases (show u = Value.ref _ from r)
    obtain ⟨its, rv, ⟨o, e, c, _⟩, hz⟩ := I.tuple (SqT.of h)
    exact ⟨o, e, c⟩
  | lst h =>
    cases (show u = Value.ref _ from r)
    obtain ⟨z, its, k, r, e⟩ := I.hok _ _ h
    exact ⟨_, e, rfl⟩
  | @dct a kv h =>
    cases (show u = Value.ref _ from r)
    obtain ⟨_, _, vs, _, o, es, ep, h1, h2, _⟩ := (show ObjOk X.prog X.w H s.heap a (.dK kv) from I.hok a _ h)
    exact ⟨o, h1, h2.1⟩
theorem DecT.one {v : V} {u : Value} {T : String} (op : CmpOp) (a : Addr) (I : Inv X pins σ H s) (r : RelV v u) (d : DecT H v T) : oneThing? op u (.ref a) = none := (d.is I r).oneThing_none op _
/-- the builtin == and != decline -/
theorem DecT.eq {v : V} {u : Value} {T : String} {x : Addr} {ox : Obj} {od : Option Obj} (I : Inv X pins σ H s) (r : RelV v u) (d : DecT H v T) (A : Apart X.K C) (J : PySem.W.InstAt s.heap x ox C od) (hd : ox.data = .plain) (A' : Around) (E : Value → Shared → Prop) (Q : Option Value → Shared → Prop) (q : Q none s) :
    wpAny (model X.prog X.w) A' (tryCompare u (cmpInfo .Eq).2.1 (.ref x)) Q E s := by
  have XK := I.kIn
  cases d with
  | int i =>
    obtain ⟨t, rfl⟩ := r
    exact PySem.W.dec_int_eq J hd E Q q
  | non =>
    cases (show u = Value.none from r)
    exact PySem.W.dec_non_eq J hd E Q q
  | bl b =>
    cases (show u = Value.bool b from r)
    exact PySem.W.dec_bl_eq J hd E Q q
  | str z =>
    obtain ⟨t, rfl⟩ := r
    exact PySem.W.dec_str_eq J hd E Q q
  | tup h =>
    cases (show u = Value.ref _ from r)
    obtain ⟨o, e, c⟩ := (show ∃ o, s.heap.get? _ = some o ∧ o.cls = Value.type "tuple" from (DecT.tup h).is I r)
    exact PySem.W.dec_tuple_eq XK J e c (A.dn _ (by decide)) E Q q
  | lst h =>
    cases (show u = Value.ref _ from r)
    obtain ⟨o, e, c⟩ := (show ∃ o, s.heap.get? _ = some o ∧ o.cls = Value.type "list" from (DecT.lst h).is I r)
    exact PySem.W.dec_list_eq XK J e c (A.dn _ (by decide)) E Q q
  | dct h =>
    cases (show u = Value.ref _ from r)
    obtain ⟨o, e, c⟩ := (show ∃ o, s.heap.get? _ = some o ∧ o.cls = Value.type "dict" from (DecT.dct h).is I r)
    exact PySem.W.dec_dict_eq XK J e c (A.dn _ (by decide)) E Q q
theorem DecT.ne {v : V} {u : Value} {T : String} {x : Addr} {ox : Obj} {od : Option Obj} (I : Inv X pins σ H s) (r : RelV v u) (d : DecT H v T) (A : Apart X.K C) (J : PySem.W.InstAt s.heap x ox C od) (hd : ox.data = .plain) (A' : Around) (E : Value → Shared → Prop) (Q : Option Value → Shared → Prop) (q : Q none s) :
    wpAny (model X.prog X.w) A' (tryCompare u (cmpInfo .NotEq).2.1 (.ref x)) Q E s := by
  have XK := I.kIn
  cases d with
  | int i =>
    obtain ⟨t, rfl⟩ := r
    exact PySem.W.dec_int_ne J hd E Q q
  | non =>
    cases (show u = Value.none from r)
    exact PySem.W.dec_non_ne J hd E Q q
  | bl b =>
    cases (show u = Value.bool b from r)
    exact PySem.W.dec_bl_ne J hd E Q q
  | str z =>
    obtain ⟨t, rfl⟩ := r
    exact PySem.W.dec_str_ne J hd E Q q
  | tup h =>
    cases (show u = Value.ref _ from r)
    obtain ⟨o, e, c⟩ := (show ∃ o, s.heap.get? _ = some o ∧ o.cls = Value.type "tuple" from (DecT.tup h).is I r)
    exact PySem.W.dec_tuple_ne XK J e c (A.dn _ (by decide)) E Q q
  | lst h =>
    cases (show u = Value.ref _ from r)
    obtain ⟨o, e, c⟩ := (show ∃ o, s.heap.get? _ = some o ∧ o.cls = Value.type "list" from (DecT.lst h).is I r)
    exact PySem.W.dec_list_ne XK J e c (A.dn _ (by decide)) E Q q
  | dct h =>
    cases (show u = Value.ref _ from r)
    obtain ⟨o, e, c⟩ := (show ∃ o, s.heap.get? _ = some o ∧ o.cls = Value.type "dict" from (DecT.dct h).is I r)
    exact PySem.W.dec_dict_ne XK J e c (A.dn _ (by decide)) E Q q
/-- x op y: an instance on the left, on the right one of its class or a value of Python's own kinds -/
def rCmpL (C : Addr) (sp : Sp) (E : XK) : R2 := fun x y H Q => ∃ a dx fs, x = .ref a ∧ H a = some (.ins C dx fs) ∧ ((∃ b dy gs, y = .ref b ∧ H b = some (.ins C dy gs)) ∨ ∃ T, DecT H y T) ∧ sp [.ref a, y] H Q E
/-- y op x: a value of Python's own kinds on the left, an instance on the right -/
def rCmpR (P : V → Prop) (C : Addr) (sp : Sp) (E : XK) : R2 := fun y x H Q => ∃ a dx fs, x = .ref a ∧ H a = some (.ins C dx fs) ∧ (∃ T, DecT H y T) ∧ P y ∧ sp [.ref a, y] H Q E
theorem notFirst_of {K : PySem.W.Frag} {t : Value} (h : PySem.W.subIn K t (.ref C) = some false) : PySem.W.notFirst K C t = true := by
  unfold PySem.W.notFirst
  rw [h]
  simp
theorem tyLooks {v : V} {u : Value} {T : String} (I : Inv X pins σ H s) (r : RelV v u) (d : DecT H v T) : PySem.W.Looks (model X.prog X.w) s.heap (typeOf u) (.type T) := by
  have q := d.is I r
  intro A Q E s' k hq
  exact wpAny_typeOf (PySem.W.typeIs_keep q k) hq
theorem op_cmpL {op : CmpOp} (hop : ∀ a b, compareOp op a b = richCompare op a b) (hs : PySem.W.findIn X.K (.ref C) (cmpInfo op).2.1 = some (some (.ref g))) (hf : PySem.W.isFn X.K (.ref g) = true) (A : Apart X.K C) (F : FnR X.prog X.w X.K X.mg X.base CX n g sp)
    (hr : Room n X.A) (hx : Passes CX X E) : OpR X (compareOp op) (rCmpL C sp E) := by
  intro pins s σ H x y v u Q I rx ry h
  obtain ⟨a, dx, fs, rfl, ha, hy, q⟩ := h
  cases (show v = Value.ref a from rx)
  obtain ⟨ox, od, J, _⟩ := ins_at I ha
  obtain ⟨m, hF⟩ := I.fr
  have run : wpAny (model X.prog X.w) X.A (call (.ref g) [.ref a, u]) (PySem.W.CmpBack (EP X pins σ Q)) X.xe s :=
    wpAny_mono (wpAny_call (run_fnR (us := [.ref a, u]) (vs := [.ref a, y]) F hr hx I (.cons rfl (.cons ry .nil)) q)) (fun w s2 z => by
      obtain ⟨z', H', I', rz, qz⟩ := z
      exact SlX.cmpback rz ⟨z', H', I', rz, qz⟩) fun _ _ x => x
  rw [hop]
  rcases hy with ⟨b, dy, gs, rfl, hb⟩ | ⟨T, hd⟩
  · cases (show u = Value.ref b from ry)
    obtain ⟨oy, od', J', _⟩ := ins_at I hb
    exact PySem.W.cmp_K (op := op) (tb := .ref C) hr.units0 hF I.ok.mod.kin J J'.type notFirst_self hs hf run
  · exact PySem.W.cmp_K (op := op) (tb := .type T) hr.units0 hF I.ok.mod.kin J (tyLooks I ry hd) (notFirst_of (A.up _ hd.mem)) hs hf run
theorem op_cmpR {op : CmpOp} {P : V → Prop} (hop : ∀ a b, compareOp op a b = richCompare op a b) (hs : PySem.W.findIn X.K (.ref C) (cmpInfo op).2.2 = some (some (.ref g))) (hf : PySem.W.isFn X.K (.ref g) = true) (A : Apart X.K C)
    (hd : ∀ {pins : List (Addr × Obj)} {σ : L2.St} {H : Hp} {s : Shared} {v : V} {u : Value} {T : String} {x : Addr} {ox : Obj} {od : Option Obj}, Inv X pins σ H s → RelV v u → DecT H v T → P v → PySem.W.InstAt s.heap x ox C od → ox.data = .plain → ∀ (A' : Around) (E : Value → Shared → Prop) (Q : Option Value → Shared → Prop), Q none s →
      wpAny (model X.prog X.w) A' (tryCompare u (cmpInfo op).2.1 (.ref x)) Q E s)
    (F : FnR X.prog X.w X.K X.mg X.base CX n g sp) (hr : Room n X.A) (hx : Passes CX X E) : OpR X (compareOp op) (rCmpR P C sp E) := by
  intro pins s σ H y x u v Q I ry rx h
  obtain ⟨a, dx, fs, rfl, ha, ⟨T, d⟩, hp, q⟩ := h
  cases (show v = Value.ref a from rx)
  obtain ⟨ox, od, J, pl⟩ := ins_at I ha
  obtain ⟨m, hF⟩ := I.fr
  have run : wpAny (model X.prog X.w) X.A (call (.ref g) [.ref a, u]) (PySem.W.CmpBack (EP X pins σ Q)) X.xe s :=
    wpAny_mono (wpAny_call (run_fnR (us := [.ref a, u]) (vs := [.ref a, y]) F hr hx I (.cons rfl (.cons ry .nil)) q)) (fun w s2 z => by
      obtain ⟨z', H', I', rz, qz⟩ := z
      exact SlX.cmpback rz ⟨z', H', I', rz, qz⟩) fun _ _ x => x
  rw [hop]
  exact PySem.W.em_cmpR hr.units0 hF I.ok.mod.kin J (d.is I ry) (d.one op a I ry) (A.dn _ d.mem) (fun E Q' q' => hd I ry d hp J pl _ E Q' q') (PySem.W.em_back hF I.ok.mod.kin J hs hf run)
theorem op_ltR {op : CmpOp} (hop : op = .Lt ∨ op = .LtE ∨ op = .Gt ∨ op = .GtE) (hs : PySem.W.findIn X.K (.ref C) (cmpInfo op).2.2 = some (some (.ref g))) (hf : PySem.W.isFn X.K (.ref g) = true) (A : Apart X.K C) (F : FnR X.prog X.w X.K X.mg X.base CX n g sp) (hr : Room n X.A) (hx : Passes CX X E) : OpR X (compareOp op) (rCmpR (fun v => ∃ i, v = .int i) C sp E) := by
  refine op_cmpR (op := op) (by rcases hop with rfl | rfl | rfl | rfl <;> exact fun _ _ => rfl) hs hf A (fun I r d hp J pl A' E Q q => ?_) F hr hx
  obtain ⟨i, rfl⟩ := hp
  obtain ⟨t, rfl⟩ := r
  rcases hop with rfl | rfl | rfl | rfl
  · exact PySem.W.dec_int_lt J pl E Q q
  · exact PySem.W.dec_int_le J pl E Q q
  · exact PySem.W.dec_int_gt J pl E Q q
  · exact PySem.W.dec_int_ge J pl E Q q
end
end EM
/-! EM42: behind an append: stepping; merging behind three statements. -/
namespace EM
open PySem PySem.Spec PyProof.Rows L2
section
variable {T : List (Addr × Str)} {p l0 l b : Addr} {n : Nat} {H H1 H' : Hp} {o o2 : HO} {xs ys : List V}
theorem nel2 (h : H b = none) (B : Bs T p l0 n H) : b ≠ l0 := B.nel h
theorem gMu {R : Hp → Prop} (h : ∀ H', Mu l H H' o → R H') : ∀ H', Mu l H H' o → R H' := h
theorem mu_bs {R : Hp → Prop} (B : Bs T p l0 n H) (g : At p H l (.lst xs)) (nl : l ≠ l0) (k : ∀ H', Mu l H H' (.lst ys) → Bs T p l0 n H' → R H') : ∀ H', Mu l H H' (.lst ys) → R H' :=
  fun H' m => k H' m (m.bs B g nl)
/-- what stood ahead of a new list stays behind an append to it -/
theorem Ext.mu {p : Addr} {H0 Hn H1 H2 : Hp} (x : Ext p H0 Hn) (hn : Hn l = none) (y : Ext p Hn H1) (m : Mu l H1 H2 o) : Ext p H0 H2 := ⟨fun b ob e nb nt => by
  have h1 := x.k b ob e nb nt
  have h2 := y.k b ob h1 nb nt
  have nl : b ≠ l := fun z => by rw [z, hn] at h1; cases h1
  rw [m.old b nl]
  exact h2⟩
/-- (kept out of the way of the stepping words) -/
structure XtM (p : Addr) (H H' : Hp) : Prop where
  x : Ext p H H'
theorem nn1 (h : H l = none) (g : At p H b o) : b ≠ l := ne_of_none g.at_ h
theorem nn2 (h : H b = none) (g : At p H l o) : b ≠ l := fun z => (ne_of_none g.at_ h) z.symm
theorem gAt (h : At p H b o) : At p H b o := h
theorem gRat {K : PySem.W.Frag} {t c : Int} (h : RatP K p H b t c) : RatP K p H b t c := h
theorem gNum {K : PySem.W.Frag} {v : V} {t c : Int} (h : NumP K p H v t c) : NumP K p H v t c := h
end
end EM
/-! EM43: the order of numbers: own comparisons of Ratios, with an int on either side, told in one word. -/
namespace EM
open PySem PySem.Spec PyProof.Rows L2
/-- what a comparison of two ints tells -/
def relB : CmpOp → Int → Int → Bool
  | .Lt, x, y => decide (x < y)
  | .LtE, x, y => decide (x ≤ y)
  | .Gt, x, y => decide (y < x)
  | .GtE, x, y => decide (y ≤ x)
  | .Eq, x, y => decide (V.int x = V.int y)
  | .NotEq, x, y => !decide (V.int x = V.int y)
  | _, _, _ => false
theorem relB_of {op : CmpOp} {x y x' y' : Int} (h : x' < y' ↔ x < y) (g : y' < x' ↔ y < x) : relB op x' y' = relB op x y := by
  have e : x' = y' ↔ x = y := by omega
  have h2 : x' ≤ y' ↔ x ≤ y := by omega
  have g2 : y' ≤ x' ↔ y ≤ x := by omega
  cases op <;> simp only [relB, dVi] <;> first | rfl | (simp [e]; done) | (simp [h, g]; done) | (simp [h2, g2]; done)
/-- the sign of a fraction is that of its top -/
theorem top_sign {z d : Int} (h : 0 < d) : (nTop z d < 0 ↔ z < 0) ∧ (0 < nTop z d ↔ 0 < z) := by
  have e := n_cross (t := z) (b := d)
  have p := (n_low (t := z) (by omega : d ≠ 0)).pos
  generalize nTop z d = x at *
  generalize nBot z d = y at *
  constructor
  · constructor
    · intro hx
      have : x * d < 0 := Int.mul_neg_of_neg_of_pos hx h
      rw [e] at this
      apply Classical.byContradiction
      intro q
      have := Int.mul_nonneg (by omega : 0 ≤ z) (by omega : 0 ≤ y)
      omega
    · intro hz
      have : z * y < 0 := Int.mul_neg_of_neg_of_pos hz p
      rw [← e] at this
      apply Classical.byContradiction
      intro q
      have := Int.mul_nonneg (by omega : 0 ≤ x) (by omega : 0 ≤ d)
      omega
  · constructor
    · intro hx
      have : 0 < x * d := Int.mul_pos hx h
      rw [e] at this
      apply Classical.byContradiction
      intro q
      have : z * y ≤ 0 := Int.mul_nonpos_of_nonpos_of_nonneg (by omega) (by omega)
      omega
    · intro hz
      have : 0 < z * y := Int.mul_pos hz p
      rw [← e] at this
      apply Classical.byContradiction
      intro q
      have : x * d ≤ 0 := Int.mul_nonpos_of_nonpos_of_nonneg (by omega) (by omega)
      omega
/-- two fractions told otherwise are compared alike -/
theorem cross_lt {t b u c T B U C : Int} (b0 : 0 < b) (c0 : 0 < c) (B0 : 0 < B) (C0 : 0 < C) (e1 : t * B = T * b) (e2 : u * C = U * c) : t * c < u * b ↔ T * C < U * B := by
  have p1 : t * c * (B * C) = T * C * (b * c) := by
    calc t * c * (B * C) = (t * B) * (c * C) := by ac_rfl
      _ = T * b * (c * C) := by rw [e1]
      _ = T * C * (b * c) := by ac_rfl
  have p2 : u * b * (B * C) = U * B * (b * c) := by
    calc u * b * (B * C) = (u * C) * (b * B) := by ac_rfl
      _ = U * c * (b * B) := by rw [e2]
      _ = U * B * (b * c) := by ac_rfl
  have q1 : 0 < B * C := Int.mul_pos B0 C0
  have q2 : 0 < b * c := Int.mul_pos b0 c0
  constructor
  · intro h
    have := Int.mul_lt_mul_of_pos_right h q1
    rw [p1, p2] at this
    exact Int.lt_of_mul_lt_mul_right this (by omega)
  · intro h
    have := Int.mul_lt_mul_of_pos_right h q2
    rw [← p1, ← p2] at this
    exact Int.lt_of_mul_lt_mul_right this (by omega)
/-! ### own comparisons -/
def relZ : CmpOp → Int → Bool := fun op z => relB op z 0
theorem rel_top {op : CmpOp} {z d : Int} (h : 0 < d) : relB op (nTop z d) 0 = relB op z 0 := by
  have := top_sign (z := z) h
  exact relB_of this.1 this.2
theorem rel_sub {op : CmpOp} {x y : Int} : relB op (x - y) 0 = relB op x y := relB_of (by omega) (by omega)
def flip : CmpOp → CmpOp
  | .Lt => .Gt | .LtE => .GtE | .Gt => .Lt | .GtE => .LtE | x => x
theorem rel_flip {op : CmpOp} {x y : Int} : relB (flip op) y x = relB op x y := by
  cases op <;> simp only [flip, relB, dVi] <;> first | rfl | (rw [Bool.beq_comm]) | (congr 1; rw [Bool.beq_comm]) | skip
  all_goals simp [eq_comm]
theorem rel_val {op : CmpOp} {t b u c : Int} (lo : Low t b) (lo2 : Low u c) : relZ op (nTop (t * c + -u * b) (b * c)) = relB op (t * c) (u * b) := by
  unfold relZ
  rw [rel_top (Int.mul_pos lo.pos lo2.pos), Int.neg_mul, ← Int.sub_eq_add_neg, rel_sub]
end EM
/-! EM44: a pick among ints. -/
namespace EM
open PySem PySem.Spec PyProof.Rows L2
inductive AllI : List V → List Int → Prop
  | nil : AllI [] []
  | cons {xs : List V} {ns : List Int} (i : Int) (h : AllI xs ns) : AllI (.int i :: xs) (i :: ns)
theorem AllI.map {xs : List V} {ns : List Int} (h : AllI xs ns) : xs = ns.map V.int := by
  induction h with
  | nil => rfl
  | cons i h ih => rw [ih]; rfl
section
variable {T : List (Addr × Str)} {p l q a : Addr} {n m : Nat} {H H1 H2 H' : Hp}
theorem pick_int {Q : VK} {E : XK} {xs : List V} {ns : List Int} (B : Bs T p l n H) (h1 : n ≤ 1000000) (ha : At p H a (.lst xs)) (hi : AllI xs ns) (h2 : 1 ≤ xs.length) (h3 : xs.length ≤ 1000000)
    (k : ∀ i H', i ∈ ns → Ext p H H' → Bs T p l (n + 1) H' → Q (.int i) H') : Sw spPick [.ref p, .ref a] H Q E :=
  pick_bs B h1 ha h2 h3 fun v H' hv x1 B1 => by
    rw [hi.map] at hv
    obtain ⟨i, hm, rfl⟩ := List.mem_map.mp hv
    exact k i H' hm x1 B1
end
end EM
namespace EM
open PySem PySem.Spec PyProof.Rows L2
/-! ### texts that are the same; if on them -/
structure EqS (x y : V) (H : Hp) (Q : VK) : Prop where
  h : ∃ z, x = .str z ∧ y = .str z ∧ Q (.bl true) H
structure NeS (x y : V) (H : Hp) (Q : VK) : Prop where
  h : ∃ z, x = .str z ∧ y = .str z ∧ Q (.bl false) H
theorem EqS.mk' {H : Hp} {Q : VK} {z : Str} (q : Q (.bl true) H) : EqS (.str z) (.str z) H Q := ⟨z, rfl, rfl, q⟩
theorem NeS.mk' {H : Hp} {Q : VK} {z : Str} (q : Q (.bl false) H) : NeS (.str z) (.str z) H Q := ⟨z, rfl, rfl, q⟩
theorem op_eqS {X : Cx} : OpR X (compareOp .Eq) EqS := opR_of op_eq fun x y H Q ⟨z, e1, e2, q⟩ => by
  subst e1 e2
  exact ⟨rfl, by rw [decide_eq_true rfl]; exact q⟩
theorem op_neS {X : Cx} : OpR X (compareOp .NotEq) NeS := opR_of op_ne fun x y H Q ⟨z, e1, e2, q⟩ => by
  subst e1 e2
  exact ⟨rfl, by rw [decide_eq_true rfl]; exact q⟩
/-! ### a sum or product of two numbers, either may be an int -/
end EM
/-! EM45: loops and comprehensions at which the stepping words stop. -/
namespace EM
open PySem PySem.Spec PyProof.Rows L2
/-- a loop at which the stepping words stop -/
structure FoS (J : It) (g : TG) (tb : TS) (D : Ends) (σ : L2.St) (H1 : Hp) : Prop where
  h : ∃ W : Nat → Nat → L2.St → Hp → Prop, (∃ m, W 0 m σ H1) ∧ ∀ i m σ H, W i m σ H →
    (J.stop i H ∧ D.nx σ H) ∨ (J.go i H ∧ ∃ N : L2.St → Hp → Prop, (∀ σ' H', N σ' H' → ∃ m', m' < m ∧ W (i + 1) m' σ' H') ∧ ∀ x H', J.yld i H x H' → g x σ H' fun σ2 H2 => tb { D with nx := N, ct := N, bk := D.nx } σ2 H2)
/-- a comprehension at which the stepping words stop -/
structure LcS (J : It) (g : TG) (tt : TT) (te : TE) (vs : List Nat) (σ : L2.St) (H1 : Hp) (Q : VK) : Prop where
  h : ∀ D, H1 D = none → ∃ W : Nat → Nat → Hp → Prop, (∃ m, W 0 m (upd H1 D (.lst []))) ∧ ∀ i m H, W i m H →
    (J.stop i H ∧ Q (.ref D) H) ∨ (J.go i H ∧ ∃ Nx : Hp → Prop, (∀ H', Nx H' → ∃ m', m' < m ∧ W (i + 1) m' H') ∧ ∀ x H', J.yld i H x H' → g x (wipe σ vs) H' fun σ2 H2 => wipe σ2 vs = wipe σ vs ∧ tt σ2 H2 fun b H3 =>
      if b = true then te σ2 H3 fun y H4 => ∃ acc, H4 D = some (.lst acc) ∧ acc.length < sizeLine ∧ Nx (upd H4 D (.lst (acc ++ [y]))) else Nx H3)
theorem _root_.L2.PS.of {X : Cx} {st : Stmt} {t t' : TS} (h : PS X st t) (w : ∀ D σ H, t' D σ H → t D σ H) : PS X st t' := ⟨fun pins s σ H D I q => h.run pins s σ H D I (w D σ H q)⟩
def tForN (wi : TI) (g : TG) (tb : TS) : TS := fun D σ H => wi σ H fun J H1 => FoS J g tb D σ H1
def tLcN (wi : TI) (g : TG) (tt : TT) (te : TE) (vs : List Nat) : TE := fun σ H Q => wi σ H fun J H1 => LcS J g tt te vs σ H1 Q
def mcI (wi : TI) : TI := fun σ H R => ∃ R' : It → Hp → Prop, wi σ H R' ∧ ∀ J H1, R' J H1 → R J H1
section
variable {X : Cx}
theorem _root_.L2.PI.mc {tg iter : Expr} {wi : TI} (h : PI X tg iter wi) : PI X tg iter (mcI wi) := by
  refine ⟨fun pins s σ H R I hq => ?_⟩
  obtain ⟨R', hR, k⟩ := hq
  refine thn (h.run pins s σ H R' I hR) fun u s1 z => thn z fun v s2 z2 => ?_
  obtain ⟨it, fp, tn, J, H2, e, I2, T, st2, f2, q⟩ := z2
  exact ⟨it, fp, tn, J, H2, e, I2, T, st2, f2, k _ _ q⟩
theorem forN {st : Stmt} {wi : TI} {g : TG} {tb : TS} (h : PS X st (tFor (mcI wi) g tb)) : PS X st (tForN wi g tb) := h.of fun D σ H q => ⟨_, q, fun J H1 z => z.h⟩
theorem lcN {e : Expr} {wi : TI} {g : TG} {tt : TT} {te : TE} {vs : List Nat} (h : PE X e (tLc (mcI wi) g tt te vs)) : PE X e (tLcN wi g tt te vs) := h.of fun σ H Q q => ⟨_, q, fun J H1 z => z.h⟩
end
end EM
namespace EM
open PySem PySem.Spec PyProof.Rows L2
theorem mk_bs {T : List (Addr × Str)} {p l : Addr} {n : Nat} {H : Hp} {K : PySem.W.Frag} {Q : VK} {E : XK} {t b : Int} (B : Bs T p l n H) (h0 : b ≠ 0) (hb : Bt 2000 b) (k : ∀ a H', Ext p H H' → Bs T p l n H' → RatP K p H' a (nTop t b) (nBot t b) → Q (.ref a) H') : Sw (spMkN K) [.int t, .int b] H Q E :=
  ⟨⟨t, b, rfl, h0, Nat.lt_trans (hb.log (by decide)) (by decide), RatRes.bs B k⟩⟩
theorem move_lt {t b u c s f : Int} (hf : 0 < f) : (t * f + s * b) * (c * f) < (u * f + s * c) * (b * f) ↔ t * c < u * b := by
  have e1 : (t * f + s * b) * (c * f) = (t * c) * (f * f) + s * b * c * f := by
    rw [Int.add_mul]
    congr 1 <;> ac_rfl
  have e2 : (u * f + s * c) * (b * f) = (u * b) * (f * f) + s * b * c * f := by
    rw [Int.add_mul]
    congr 1 <;> ac_rfl
  have q : 0 < f * f := Int.mul_pos hf hf
  rw [e1, e2]
  constructor
  · intro h
    exact Int.lt_of_mul_lt_mul_right (show t * c * (f * f) < u * b * (f * f) by omega) (by omega)
  · intro h
    have := Int.mul_lt_mul_of_pos_right h q
    omega
theorem times_lt {t b u c m k : Int} (hm : 0 < m) (hk : 0 < k) : (t * m) * (c * k) < (u * m) * (b * k) ↔ t * c < u * b := by
  have e1 : (t * m) * (c * k) = (t * c) * (m * k) := by ac_rfl
  have e2 : (u * m) * (b * k) = (u * b) * (m * k) := by ac_rfl
  have q : 0 < m * k := Int.mul_pos hm hk
  rw [e1, e2]
  exact ⟨fun h => Int.lt_of_mul_lt_mul_right h (by omega), fun h => Int.mul_lt_mul_of_pos_right h q⟩
end EM
/-! EM46: comprehensions in one word. -/
namespace EM
open PySem PySem.Spec PyProof.Rows L2
/-- a comprehension: each turn draws at most c times; f tells of the values, in the heap as it then is -/
theorem lc_scH {T : List (Addr × Str)} {p l : Addr} {m : Nat} (c : Nat) {J : It} {n : Nat} {G : Hp → Prop} {Y : Nat → Hp → V → Hp → Prop} (w : Walk J n G Y) {g : TG} {tt : TT} {te : TE} {vs : List Nat} {σ : L2.St} {H1 : Hp} {D : Addr} {Q : VK} (hD : H1 D = none)
    (B : Bs T p l m H1) (f : Nat → V → Hp → Prop) (fx : ∀ i y H H', f i y H → Ext p H H' → f i y H') (fm : ∀ i y D xs ys H H', f i y H → Mu D H H' (.lst ys) → At p H D (.lst xs) → f i y H') (hn : n ≤ 100000) (hG : ∀ H, Ext p H1 H → G H)
    (hs : ∀ i x H H', i < n → Ext p H1 H → Bs T p l (m + c * i) H → Y i H x H' → g x (wipe σ vs) H' fun σ2 H2 => wipe σ2 vs = wipe σ vs ∧ tt σ2 H2 fun b H3 => b = true ∧ te σ2 H3 fun y H4 => Ext p H H4 ∧ Bs T p l (m + c * (i + 1)) H4 ∧ f i y H4)
    (mg : ∀ x σ H (R R' : L2.St → Hp → Prop), (∀ σ H, R σ H → R' σ H) → g x σ H R → g x σ H R') (mt : ∀ σ H (R R' : Bool → Hp → Prop), (∀ b H, R b H → R' b H) → tt σ H R → tt σ H R')
    (hd : ∀ ys H', ys.length = n → (∀ i y, ys[i]? = some y → f i y H') → Ext p H1 H' → Bs T p l (m + c * n) H' → At p H' D (.lst ys) → Q (.ref D) H') :
    ∃ W : Nat → Nat → Hp → Prop, (∃ m, W 0 m (upd H1 D (.lst []))) ∧ ∀ i m H, W i m H →
      (J.stop i H ∧ Q (.ref D) H) ∨ (J.go i H ∧ ∃ Nx : Hp → Prop, (∀ H', Nx H' → ∃ m', m' < m ∧ W (i + 1) m' H') ∧ ∀ x H', J.yld i H x H' → g x (wipe σ vs) H' fun σ2 H2 => wipe σ2 vs = wipe σ vs ∧ tt σ2 H2 fun b H3 =>
        if b = true then mcE te σ2 H3 fun y H4 => ∃ acc, H4 D = some (.lst acc) ∧ acc.length < sizeLine ∧ Nx (upd H4 D (.lst (acc ++ [y]))) else Nx H3) := by
  have nDp := B.ne hD
  have nDl := B.nel hD
  refine lc_it w (fun i H => ∃ acc, At p H D (.lst acc) ∧ acc.length = i ∧ (∀ j y, acc[j]? = some y → f j y H) ∧ Ext p H1 H ∧ Bs T p l (m + c * i) H) ⟨[], ⟨upd_same, nDp, fun _ z => by cases z⟩, rfl, fun j y z => by simp at z, Ext.same (same_upd hD), B.same (same_upd hD)⟩ (fun i H hi ⟨acc, _, _, _, x, _⟩ => hG H x) ?_ ?_
  · rintro i x H H' hi ⟨acc, hA, hl, hf, x1, B1⟩ y
    refine mg _ _ _ _ _ (fun σ2 H2 h => ⟨h.1, mt _ _ _ _ (fun b H3 h3 => ?_) h.2⟩) (hs i x H H' hi x1 B1 y)
    obtain ⟨rfl, h4⟩ := h3
    rw [if_pos rfl]
    refine ⟨_, h4, fun v H4 h5 => ?_⟩
    obtain ⟨x4, B4, hv⟩ := h5
    have hA4 := hA.ext x4
    have mu : Mu D H4 (upd H4 D (.lst (acc ++ [v]))) (.lst (acc ++ [v])) := Mu.upd
    refine ⟨acc, hA4.at_, by rw [hl]; exact szl (by omega), acc ++ [v], ⟨upd_same, nDp, fun _ z => by cases z⟩, by simp [hl], fun j y hj => ?_, ⟨fun b o e nb nt => ?_⟩, ⟨?_, tabs_mut B4.tab hA4.at_⟩⟩
    · rcases Nat.lt_or_ge j acc.length with h | h
      · rw [List.getElem?_append_left h] at hj
        exact fm _ _ _ _ _ _ _ (fx _ _ _ _ (hf j y hj) x4) mu hA4
      · rw [List.getElem?_append_right h] at hj
        have : j - acc.length = 0 := by
          apply Classical.byContradiction
          intro z
          rw [List.getElem?_eq_none (by simp; omega)] at hj
          cases hj
        rw [this] at hj
        have e : j = i := by omega
        subst e
        cases hj
        exact fm _ _ _ _ _ _ _ hv mu hA4
    · have e4 := x4.k _ _ (x1.k _ _ e nb nt) nb nt
      rw [upd_ne (ne_of_none e hD)]
      exact e4
    · exact B4.pen.mut nDp nDl
  · rintro H ⟨acc, hA, hl, hf, x1, B1⟩
    exact hd acc H hl hf x1 B1 hA
theorem LcS.lc {T : List (Addr × Str)} {p l : Addr} {m : Nat} (c : Nat) {J : It} {n : Nat} {G : Hp → Prop} {Y : Nat → Hp → V → Hp → Prop} (w : Walk J n G Y) {k : Nat} {te : TE} {vs : List Nat} {σ : L2.St} {H1 : Hp} {Q : VK}
    (B : Bs T p l m H1) (f : Nat → V → Hp → Prop) (hn : n ≤ 100000) (hG : ∀ H, Ext p H1 H → G H)
    (hs : ∀ i x H H', i < n → Ext p H1 H → Bs T p l (m + c * i) H → Y i H x H' → gName k x (wipe σ vs) H' fun σ2 H2 => wipe σ2 vs = wipe σ vs ∧ te σ2 H2 fun y H4 => Ext p H H4 ∧ Bs T p l (m + c * (i + 1)) H4 ∧ f i y H4)
    (hd : ∀ D ys H', H1 D = none → ys.length = n → (∀ i y, ys[i]? = some y → f i y H') → Ext p H1 H' → Bs T p l (m + c * n) H' → At p H' D (.lst ys) → Q (.ref D) H')
    (fx : ∀ i y H H', f i y H → Ext p H H' → f i y H' := by exact fun _ _ _ _ h _ => h) (fm : ∀ i y D xs ys H H', f i y H → Mu D H H' (.lst ys) → At p H D (.lst xs) → f i y H' := by exact fun _ _ _ _ _ _ _ h _ _ => h) :
    LcS J (gName k) tYes (mcE te) vs σ H1 Q :=
  ⟨fun D hD => lc_scH (g := gName k) (tt := tYes) c w hD B f fx fm hn hG (fun i x H H' h1 h2 h3 h4 => by
    have q := hs i x H H' h1 h2 h3 h4
    exact ⟨q.1, rfl, q.2⟩) (fun _ _ _ _ _ h q => h _ _ q) (fun _ _ _ _ h q => h _ _ q) (fun ys H' => hd D ys H' hD)⟩
end EM
/-! EM47: isinstance of a list or a tuple; rows of numbers. -/
namespace EM
open PySem PySem.Spec PyProof.Rows L2
section
variable {T : List (Addr × Str)} {p l q a tp : Addr} {n m : Nat} {H H1 H2 H' : Hp} {o : HO} {K : PySem.W.Frag} {Q : VK} {x v : V} {xs : List V}
def rLenN (K : PySem.W.Frag) : List V → Hp → VK → Prop := fun vs H Q => ∃ x n, vs = [x] ∧ LenV K x H n ∧ Q (.int n) H
theorem call_lenN {X : Cx} : CallR X (.builtin "len") (Sr (rLenN X.K)) := callR_sw call_len
theorem lenL (h : At p H a (.lst xs)) (q : Q (.int xs.length) H) : Sr (rLenN K) [.ref a] H Q := ⟨.ref a, xs.length, rfl, .inl ⟨xs, SqL.of h.at_, rfl⟩, q⟩
theorem lenT (h : At p H a (.tup xs)) (q : Q (.int xs.length) H) : Sr (rLenN K) [.ref a] H Q := ⟨.ref a, xs.length, rfl, .inr ⟨xs, SqT.of h.at_, rfl⟩, q⟩
def NotSeqT (K : PySem.W.Frag) (H : Hp) (x : V) : Prop := ∃ t, TyX K H x t ∧ PySem.W.kitAny K t [.type "list", .type "tuple"] = some false
def rIsSeq (K : PySem.W.Frag) : List V → Hp → VK → Prop := fun vs H Q => ∃ x tp, vs = [x, .ref tp] ∧ H tp = some (.tup [.ty "list", .ty "tuple"]) ∧ (((∃ a xs, x = .ref a ∧ (H a = some (.lst xs) ∨ H a = some (.tup xs))) ∧ Q (.bl true) H) ∨ (NotSeqT K H x ∧ Q (.bl false) H))
theorem call_isSeq {X : Cx} : CallR X (.builtin "isinstance") (rIsSeq X.K) := callR_of call_isiT fun vs H Q ⟨x, tp, e, h, z⟩ => by
  rcases z with ⟨⟨a, xs, rfl, ha⟩, q⟩ | ⟨⟨t, ty, k⟩, q⟩
  · rcases ha with ha | ha
    · exact ⟨.ref a, tp, _, .type "list", [.type "list", .type "tuple"], true, e, h, .cons (.ty _) (.cons (.ty _) .nil), .base (.lst ha), kitAny_cons (b := true) (kit_ty (by decide +kernel)) (fun z => nomatch z) (fun _ => rfl), q⟩
    · exact ⟨.ref a, tp, _, .type "tuple", [.type "list", .type "tuple"], true, e, h, .cons (.ty _) (.cons (.ty _) .nil), .base (.tup ha), kitAny_cons (b := false) (kit_ty (by decide +kernel)) (fun _ => kitAny_cons (b := true) (kit_ty (by decide +kernel)) (fun z => nomatch z) (fun _ => rfl)) (fun z => nomatch z), q⟩
  · exact ⟨x, tp, _, t, [.type "list", .type "tuple"], false, e, h, .cons (.ty _) (.cons (.ty _) .nil), ty, k, q⟩
theorem isSeqL (ht : At p H tp (.tup [.ty "list", .ty "tuple"])) (ha : At p H a (.lst xs)) (q : Q (.bl true) H) : Sr (rIsSeq K) [.ref a, .ref tp] H Q := ⟨_, tp, rfl, ht.at_, .inl ⟨⟨a, xs, rfl, .inl ha.at_⟩, q⟩⟩
theorem isSeqT (ht : At p H tp (.tup [.ty "list", .ty "tuple"])) (ha : At p H a (.tup xs)) (q : Q (.bl true) H) : Sr (rIsSeq K) [.ref a, .ref tp] H Q := ⟨_, tp, rfl, ht.at_, .inl ⟨⟨a, xs, rfl, .inr ha.at_⟩, q⟩⟩
theorem isSeqN (ht : At p H tp (.tup [.ty "list", .ty "tuple"])) (hx : NotSeqT K H x) (q : Q (.bl false) H) : Sr (rIsSeq K) [x, .ref tp] H Q := ⟨_, tp, rfl, ht.at_, .inr ⟨hx, q⟩⟩
theorem nsq_ty {t : String} (h : TyX K H x (.type t)) (g : t = "int" ∨ t = "bool" ∨ t = "NoneType" ∨ t = "str" ∨ t = "dict") : NotSeqT K H x := by
  refine ⟨_, h, ?_⟩
  rcases g with rfl | rfl | rfl | rfl | rfl <;> exact kitAny_cons (b := false) (kit_ty (by decide +kernel)) (fun _ => kitAny_cons (b := false) (kit_ty (by decide +kernel)) (fun _ => rfl) (fun z => nomatch z)) (fun z => nomatch z)
/-- a list or a tuple -/
def SeqV (p : Addr) (H : Hp) (a : Addr) (xs : List V) : Prop := At p H a (.lst xs) ∨ At p H a (.tup xs)
theorem SeqV.ext (h : SeqV p H a xs) (y : Ext p H H') : SeqV p H' a xs := by
  rcases h with h | h
  · exact .inl (h.ext y)
  · exact .inr (h.ext y)
/-- the numbers of a row -/
structure NumsP (K : PySem.W.Frag) (p : Addr) (H : Hp) (xs : List V) (ts : List (Int × Int)) : Prop where
  len : xs.length = ts.length
  h : ∀ (i : Nat) (x : V) (t : Int × Int), xs[i]? = some x → ts[i]? = some t → NumP K p H x t.1 t.2
theorem NumsP.ext {ts : List (Int × Int)} (h : NumsP K p H xs ts) (y : Ext p H H') : NumsP K p H' xs ts := ⟨h.len, fun i x t e1 e2 => NumP.ext y (h.h i x t e1 e2)⟩
/-- a row of Ratios -/
structure RatsP (K : PySem.W.Frag) (p : Addr) (H : Hp) (xs : List V) (ts : List (Int × Int)) : Prop where
  len : xs.length = ts.length
  h : ∀ (i : Nat) (x : V) (t : Int × Int), xs[i]? = some x → ts[i]? = some t → ∃ a, x = .ref a ∧ RatP K p H a t.1 t.2
end
end EM
/-! EM48: a for over a list or a tuple, in one word; lists of Bools. -/
namespace EM
open PySem PySem.Spec PyProof.Rows L2
section
variable {T : List (Addr × Str)} {p l q a tp : Addr} {n m : Nat} {H H1 H2 H' : Hp} {o : HO} {K : PySem.W.Frag} {Q : VK} {x v : V} {xs : List V}
structure SqW (x : V) (H : Hp) (R : It → Hp → Prop) : Prop where
  h : ∃ a xs, x = V.ref a ∧ (H a = some (.lst xs) ∨ H a = some (.tup xs)) ∧ ∀ J, Walk J xs.length (fun H' => H' a = H a) (YAt xs) → R J H
def iSeqN (tl : TE) : TI := fun σ H R => tl σ H fun x H1 => SqW x H1 R
theorem pi_seqN {X : Cx} {tg l : Expr} {tl : TE} (hl : PE X l tl) : PI X tg l (iSeqN tl) := ⟨fun pins s σ H R I h => (pi_seq hl.mc).run pins s σ H R I ⟨_, h, fun v H1 z => z.h⟩⟩
theorem seqL {R : It → Hp → Prop} (h : At p H a (.lst xs)) (k : ∀ J, Walk J xs.length (fun H' => H' a = H a) (YAt xs) → R J H) : SqW (.ref a) H R := ⟨a, xs, rfl, .inl h.at_, k⟩
theorem seqT {R : It → Hp → Prop} (h : At p H a (.tup xs)) (k : ∀ J, Walk J xs.length (fun H' => H' a = H a) (YAt xs) → R J H) : SqW (.ref a) H R := ⟨a, xs, rfl, .inr h.at_, k⟩
theorem At.eq (h : At p H a o) (x : Ext p H H') : H' a = H a := (h.ext x).at_.trans h.at_.symm
end
end EM
/-! EM49: a for in one word; folds; a first item. -/
namespace EM
open PySem PySem.Spec PyProof.Rows L2
theorem FoS.it {J : It} {n : Nat} {G : Hp → Prop} {Y : Nat → Hp → V → Hp → Prop} (w : Walk J n G Y) {g : TG} {tb : TS} {D : Ends} {σ : L2.St} {H : Hp} (Pv : Nat → L2.St → Hp → Prop) (h0 : Pv 0 σ H) (hG : ∀ i σ H, i ≤ n → Pv i σ H → G H)
    (hs : ∀ i x σ H H', i < n → Pv i σ H → Y i H x H' → g x σ H' fun σ2 H2 => tb { D with nx := Pv (i + 1), ct := Pv (i + 1), bk := D.nx } σ2 H2) (hd : ∀ σ H, Pv n σ H → D.nx σ H) : FoS J g tb D σ H := ⟨for_it w Pv h0 hG hs hd⟩
end EM
namespace EM
/-- an invariant at which the stepping words stop -/
structure Hold (P : Prop) : Prop where
  h : P
end EM
/-! EM50: dicts laid; == and != of an instance with what is none. -/
namespace EM
open PySem PySem.Spec PyProof.Rows L2
section
variable {T : List (Addr × Str)} {p l q a tp : Addr} {n m : Nat} {H H1 H2 H' : Hp} {o : HO} {K : PySem.W.Frag} {Q : VK} {x v y : V} {xs : List V}
structure DnS (o : HO) (H : Hp) (Q : VK) : Prop where
  h : ∀ p H', New H p o H' → Q (.ref p) H'
def tDnewN : TE := fun _ H Q => DnS (.dK []) H Q
theorem pe_dnewN {X : Cx} {pos : Pos} : PE X (.Dict [] [] pos) tDnewN := pe_dnewK.of fun σ H Q q => New.upd q.h
theorem DnS.bs (B : Bs T p l n H) (hk : ∀ ps, o ≠ .tbl ps) (k : ∀ q H', Ext p H H' → Bs T p l n H' → At p H' q o → H q = none → Q (.ref q) H') : DnS o H Q := ⟨New.bs B hk k⟩
theorem upd_upd {H : Hp} {p : Addr} {o o' : HO} : upd (upd H p o) p o' = upd H p o' := by
  funext b
  by_cases h : b = p
  · rw [h, upd_same, upd_same]
  · rw [upd_ne h, upd_ne h, upd_ne h]
theorem odd_tup (h : At p H a (.tup xs)) : OddN H p (.ref a) := .inr (.inr (.inr ⟨a, rfl, h.ne, .inl ⟨xs, h.at_⟩⟩))
theorem odd_lst (h : At p H a (.lst xs)) : OddN H p (.ref a) := .inr (.inr (.inr ⟨a, rfl, h.ne, .inr (.inl ⟨xs, h.at_⟩)⟩))
theorem odd_dct {kv : List (Key × V)} (h : At p H a (.dK kv)) : OddN H p (.ref a) := .inr (.inr (.inr ⟨a, rfl, h.ne, .inr (.inr ⟨kv, h.at_⟩)⟩))
theorem odd_non : OddN H p .non := .inl rfl
theorem odd_bl {b : Bool} : OddN H p (.bl b) := .inr (.inl ⟨b, rfl⟩)
theorem odd_str {z : Str} : OddN H p (.str z) := .inr (.inr (.inl ⟨z, rfl⟩))
end
end EM
namespace EM
open PySem L2
end EM
/-! EM51: tuple of a list; isinstance of a Ratio; lists of texts. -/
namespace EM
open PySem PySem.Spec PyProof.Rows L2
section
variable {T : List (Addr × Str)} {p l q a tp : Addr} {n m : Nat} {H H1 H2 H' : Hp} {o : HO} {K : PySem.W.Frag} {Q : VK} {x v y : V} {xs : List V}
def rTupN : List V → Hp → VK → Prop := fun vs H Q => ∃ a xs, vs = [.ref a] ∧ H a = some (.lst xs) ∧ DnS (.tup xs) H Q
theorem call_tupN {X : Cx} : CallR X (.type "tuple") (Sr rTupN) := callR_sw (callR_of call_tuple_of fun vs H Q ⟨a, xs, e, h, z⟩ => ⟨a, xs, e, .inl ⟨SqL.of h, New.upd z.h⟩⟩)
theorem tupL (h : At p H a (.lst xs)) (k : DnS (.tup xs) H Q) : Sr rTupN [.ref a] H Q := ⟨a, xs, rfl, h.at_, k⟩
/-- the pairs of a row -/
structure PairsP (p : Addr) (H : Hp) (xs : List V) (ts : List (Int × Int)) : Prop where
  len : xs.length = ts.length
  h : ∀ (i : Nat) (x : V) (t : Int × Int), xs[i]? = some x → ts[i]? = some t → ∃ q, x = .ref q ∧ At p H q (.tup [.int t.1, .int t.2])
theorem PairsP.ext {ts : List (Int × Int)} (h : PairsP p H xs ts) (y : Ext p H H') : PairsP p H' xs ts := ⟨h.len, fun i x t e1 e2 => by
  obtain ⟨q, e, a⟩ := h.h i x t e1 e2
  exact ⟨q, e, a.ext y⟩⟩
end
end EM
/-! EM52: marks that are not the pen; what makes no mark. -/
namespace EM
open PySem PySem.Spec PyProof.Rows L2
structure MarkP (K : PySem.W.Frag) (p : Addr) (H : Hp) (a : Addr) (ws : List Int) : Prop where
  good : good ws
  h : ∃ dx wp ep sp, At p H a (.ins (He.ga K "Mark") dx (mf wp ep sp ((ws.length : Int) / 2 + 1) ws.sum (ws.take (ws.length - 1)).sum)) ∧ At p H wp (.tup (ws.map V.int)) ∧ At p H ep (.tup ((scan 0 ws).map V.int)) ∧ At p H sp (.tup ((sumsOf ws).map V.int))
section
variable {T : List (Addr × Str)} {p l q a tp : Addr} {n m : Nat} {H H1 H2 H' : Hp} {o : HO} {K : PySem.W.Frag} {Q : VK} {x v y : V} {xs : List V} {ws : List Int}
theorem MarkP.ext (h : MarkP K p H a ws) (x : Ext p H H') : MarkP K p H' a ws := by
  obtain ⟨g, dx, wp, ep, sp, h1, h2, h3, h4⟩ := h
  exact ⟨g, dx, wp, ep, sp, h1.ext x, h2.ext x, h3.ext x, h4.ext x⟩
theorem MarkP.of (B : Bs T p l n H) (h : MarkAt K H a ws) : MarkP K p H a ws := by
  obtain ⟨g, dx, wp, ep, sp, h1, h2, h3, h4⟩ := h
  exact ⟨g, dx, wp, ep, sp, B.at_ h1 (fun _ z => by cases z) (fun _ z => by cases z), B.at_ h2 (fun _ z => by cases z) (fun _ z => by cases z), B.at_ h3 (fun _ z => by cases z) (fun _ z => by cases z), B.at_ h4 (fun _ z => by cases z) (fun _ z => by cases z)⟩
theorem MarkP.at_ (h : MarkP K p H a ws) : MarkAt K H a ws := by
  obtain ⟨g, dx, wp, ep, sp, h1, h2, h3, h4⟩ := h
  exact ⟨g, dx, wp, ep, sp, h1.at_, h2.at_, h3.at_, h4.at_⟩
/-- no integer -/
def OddM (K : PySem.W.Frag) (p : Addr) (H : Hp) (y : V) : Prop := OddN H p y ∨ ∃ a t b, y = .ref a ∧ RatP K p H a t b
theorem OddM.ext (h : OddM K p H y) (x : Ext p H H') : OddM K p H' y := by
  rcases h with h | ⟨a, t, b, e, h⟩
  · exact .inl (h.ext x.k)
  · exact .inr ⟨a, t, b, e, h.ext x⟩
def okW (y : V) : Prop := ∃ w : Int, y = .int w ∧ 1 ≤ w ∧ w ≤ 1000
def noW (K : PySem.W.Frag) (p : Addr) (H : Hp) (y : V) : Prop := (∃ w : Int, y = .int w ∧ ¬ (1 ≤ w ∧ w ≤ 1000)) ∨ OddM K p H y
theorem noW.ext (h : noW K p H y) (x : Ext p H H') : noW K p H' y := by
  rcases h with h | h
  · exact .inl h
  · exact .inr (h.ext x)
/-- these widths make no mark: what BadMark tells -/
def BadW (K : PySem.W.Frag) (p : Addr) (H : Hp) (xs : List V) (at_ : V) : Prop :=
  (at_ = .non ∧ (xs.length % 2 = 0 ∨ xs.length < 3 ∨ 127 < xs.length)) ∨
  ∃ i : Nat, at_ = .int i ∧ xs.length % 2 = 1 ∧ 3 ≤ xs.length ∧ xs.length ≤ 127 ∧ (∀ j : Nat, j < i → ∃ y, xs[j]? = some y ∧ okW y) ∧ ∃ y, xs[i]? = some y ∧ noW K p H y
theorem BadW.ext {at_ : V} (h : BadW K p H xs at_) (x : Ext p H H') : BadW K p H' xs at_ := by
  rcases h with h | ⟨i, e, h1, h2, h3, h4, y, e2, h5⟩
  · exact .inl h
  · exact .inr ⟨i, e, h1, h2, h3, h4, y, e2, h5.ext x⟩
def xdA (v : V) : HO := .xd [("at", v)]
end
end EM
/-! EM53: classmethods by keyword; properties; what a row of widths comes to. -/
namespace PySem.W
open PySem PySem.Calls PyProof.Rows
theorem em_callWith_MW {h₀ : Heap} {K : Frag} {M : Model} {A : Around} {E : Value → Shared → Prop} {s : Shared} {env : Env} {pos : Pos} {q g : Addr} {self : Value} {first : List Value} {Q : Value → Shared → Prop} {kws : List Keyword} (hf : fnIn K g = true) (hall : (backToKw pos (keywordEach kws env)).all (·.1.isSome) = true)
    (h : wpAny M A (evalAll ((backToKw pos (keywordEach kws env)).map (·.2))) (fun ks s₂ => MethP K q g self s₂.heap ∧ wpAny M A (call (.ref q) (first ++ []) (((backToKw pos (keywordEach kws env)).filterMap (·.1)).zip ks)) Q E s₂) E s)
    (hplain : ((backTo pos (starEach [] env)).any (·.1) || (backToKw pos (keywordEach kws env)).any (·.1.isNone)) = false) :
    wpAny M A (callWith pos (.ref q) first (backTo pos (starEach [] env)) (backToKw pos (keywordEach kws env))) Q E s :=
  callWith_of hplain (keeps_M hf) (evalArgs_kw2_nil hall h)
end PySem.W
namespace EM
open PySem PySem.Spec PyProof.Rows L2
/-! ### properties -/
theorem propB_ok {K : PySem.W.Frag} {C : Addr} {f : Str} (h : propB K C f = true) : PropOf K C f (He.ma K C f) (EM.pf K C f) := by
  unfold propB at h
  obtain ⟨h, h4⟩ := Bool.and_eq_true_iff.mp h
  obtain ⟨h, h3⟩ := Bool.and_eq_true_iff.mp h
  obtain ⟨h1, h2⟩ := Bool.and_eq_true_iff.mp h
  refine ⟨of_decide_eq_true h1, of_decide_eq_true h2, of_decide_eq_true h3, ?_⟩
  unfold EM.pf
  split at h4
  · rename_i g r e
    exact ⟨r, by rw [e]⟩
  · cases h4
/-! ### C.m(k = v), m a classmethod -/
section
variable {X : Cx} {CX : CXT} {k : Nat} {C p g : Addr} {mc : Value} {m : Str} {ks : List Str} {sp : Sp2} {E : XK} {o : Expr} {kws : List Keyword} {ta : TE} {tk : TA} {apos pos : Pos} {pl : Sem Bool}
def tCMethK (C : Addr) (sp : Sp2) (E : XK) (ta : TE) (tk : TA) : TE := fun σ H Q => ta σ H fun x H1 => x = .ref C ∧ tk σ H1 fun zs H2 => sp [.ref C] zs H2 Q E
theorem pe_cmK (he : PE X o ta) (r : ClX.CRead X.K C mc) (c : ClX.CMet X.K C mc m p g) (F : FnK X.prog X.w X.K X.mg X.base CX k g ks sp) (hr : Room k X.A) (hx : Passes CX X E) (hkw : PK X kws tk)
    (hall : (backToKw pos (keywordEach kws X.env)).all (·.1.isSome) = true := by rfl) (hks : (backToKw pos (keywordEach kws X.env)).filterMap (·.1) = ks := by rfl)
    (hpl : ((backTo pos (starEach [] X.env)).any (·.1) || (backToKw pos (keywordEach kws X.env)).any (·.1.isNone)) = false := by rfl)
    (ht : eval (.Call (.Attribute o m apos) [] kws pos) X.env = (do
      let ov ← eval o X.env
      standAt apos.atName
      let (f, first) ← holding [ov] (getMethod ov m pl)
      callWith pos f first (backTo pos (starEach [] X.env)) (backToKw pos (keywordEach kws X.env))) := by rfl) :
    PE X (.Call (.Attribute o m apos) [] kws pos) (tCMethK C sp E ta tk) := by
  refine ⟨fun pins s σ H Q I h => ?_⟩
  refine PySem.W.methodCall_KW (pl := pl) (thn (he.run pins s σ H _ I h) fun u s1 ⟨x, H1, I1, rx, ex, q⟩ => ?_) ht
  subst ex
  obtain rfl : u = Value.ref C := rx
  refine ClX.getmethcm_ok I1 r c fun s2 I2 => ?_
  refine PySem.W.em_callWith_MW (h₀ := X.base) (K := X.K) (self := .ref C) (first := []) c.fi hall ?_ hpl
  refine thn (hkw.run pos _ s2 σ H1 _ I2 q) fun ws s3 ⟨zs, H2, I3, rz, q2⟩ => ⟨⟨ClX.pin_at I3, I3.kIn⟩, ?_⟩
  rw [hks]
  have z : wpAny (model X.prog X.w) X.A (call (.ref s1.heap.objs.size) [] (ks.zip ws)) (EP X ((s1.heap.objs.size, PySem.W.methodObj (.ref g) (.ref C)) :: pins) σ Q) X.xe s3 :=
    wpAny_call (PySem.W.method_call (ClX.pin_at I3) (codeAny_mono (F X.A X.stack s3 H2 [.ref C] ws [.ref C] zs Q E hr I3.env0 (.cons rfl .nil) rz q2) fun r s' hq => by
      cases r with
      | error e => exact hx _ σ H2 s3 e s' I3 hq
      | ok fl =>
        cases fl with
        | ret u => exact I3.after hq
        | next => exact False.elim hq
        | brk => exact False.elim hq
        | cont => exact False.elim hq))
  exact thn z fun _ _ y => ClX.unpinE y
end
section
variable {T : List (Addr × Str)} {p l q a tp : Addr} {n m : Nat} {H H1 H2 H' : Hp} {o : HO} {K : PySem.W.Frag} {Q : VK} {E : XK} {x v y : V} {xs : List V} {ws : List Int}
/-- what Mark of these widths comes to -/
def MarkOut (K : PySem.W.Frag) (T : List (Addr × Str)) (p l : Addr) (n : Nat) (H : Hp) (xs : List V) (Q : VK) (E : XK) : Prop :=
  (∃ ws, xs = ws.map V.int ∧ good ws ∧ ∀ a H', Ext p H H' → Bs T p l n H' → MarkP K p H' a ws → Q (.ref a) H') ∨
  ∃ at_, BadW K p H xs at_ ∧ ∀ d H', Ext p H H' → Bs T p l n H' → At p H' d (xdA at_) → E (.ref (He.ga K "BadMark")) (some d) H'
theorem MarkOut.ext (h : MarkOut K T p l n H xs Q E) (x : Ext p H H1) : MarkOut K T p l n H1 xs Q E := by
  rcases h with ⟨ws, e, g, k⟩ | ⟨at_, b, k⟩
  · exact .inl ⟨ws, e, g, fun a H' x1 B1 m => k a H' (x.trans x1) B1 m⟩
  · exact .inr ⟨at_, b.ext x, fun d H' x1 B1 m => k d H' (x.trans x1) B1 m⟩
end
end EM
/-! EM54: what a mark tells of itself, as data; lists of ints. -/
namespace EM
open PySem PySem.Spec PyProof.Rows L2
section
variable {T : List (Addr × Str)} {p l q a tp : Addr} {n m : Nat} {H H1 H2 H' : Hp} {o : HO} {K : PySem.W.Frag} {Q : VK} {E : XK} {x v y : V} {xs : List V} {ws : List Int}
/-- a store by place -/
def rSetN : V → V → V → Hp → (Hp → Prop) → Prop := fun o i v H Q => ∃ p xs k j, o = V.ref p ∧ i = V.int k ∧ H p = some (.lst xs) ∧ ixN xs.length k = some j ∧ ∀ H3, Mu p H H3 (.lst (xs.set j v)) → Q H3
theorem set_listN {X : Cx} : PSet X rSetN := by
  intro pins s σ H o i v ov iv u Q I ro ri rv h
  obtain ⟨p, xs, k, j, e1, e2, h1, h2, q⟩ := h
  exact set_list pins s σ H o i v ov iv u Q I ro ri rv ⟨p, xs, k, j, e1, e2, h1, h2, q _ Mu.upd⟩
end
end EM
/-! EM55: an instance made with no argument. -/
namespace EM
open PySem PySem.Spec PyProof.Rows L2
section
variable {X : Cx} {CX : CXT} {k : Nat} {f C : Addr} {sp : Sp} {E : XK} {x : Str} {p pos : Pos}
theorem pe_mkR0 (M : Mk X.K C f) (F : FnR X.prog X.w X.K X.mg X.base CX k f sp) (hr : Room (k + 1) X.A) (hm : X.mg x = some (.ref C)) (hx : Passes CX X E) (hg : Gl X x := by rfl) (hd : (x == ("__debug__" : Str)) = false := by decide) :
    PE X (.Call (.Name x p) [] [] pos) (StX.tMakeR C sp E tNil) := by
  refine ⟨fun pins s σ H Q I h => ?_⟩
  refine wpAny_Call_Name_kw (ld_glob I hg hm ?_ hd)
  exact PySem.W.callWith_K0 I.kIn M.kp (StX.run_makeR M F hr hx I .nil h)
end
end EM
/-! EM56: slices of lists, a dict of three, what stands in a menu. -/
namespace EM
open PySem PySem.Spec PyProof.Rows L2
def spMkN1 (K : PySem.W.Frag) : Sp := fun vs H Q _ => ∃ t, vs = [.int t] ∧ RatRes K H Q t 1
theorem mk1_bs {T : List (Addr × Str)} {p l : Addr} {n : Nat} {H : Hp} {K : PySem.W.Frag} {Q : VK} {E : XK} {t : Int} (B : Bs T p l n H) (k : ∀ a H', Ext p H H' → Bs T p l n H' → RatP K p H' a (nTop t 1) (nBot t 1) → Q (.ref a) H') : Sw (spMkN1 K) [.int t] H Q E := ⟨⟨t, rfl, RatRes.bs B k⟩⟩
end EM
/-! EM57: an instance's operator with anything on the right; anything times an instance; == and != of two own classes. -/
namespace PySem.W
open PySem PySem.Calls PyProof.Rows Builtin
end PySem.W
namespace EM
open PySem PySem.Spec PyProof.Rows L2
end EM
/-! EM58: comprehensions with a test, over anything; sums and multiples of marks. -/
namespace EM
open PySem PySem.Spec PyProof.Rows L2
/-- a comprehension that draws nothing: P tells of the list so far -/
theorem LcS.lcP {T : List (Addr × Str)} {p l : Addr} {m : Nat} {J : It} {n : Nat} {G : Hp → Prop} {Y : Nat → Hp → V → Hp → Prop} (w : Walk J n G Y) {g : TG} {tt : TT} {te : TE} {vs : List Nat} {σ : L2.St} {H1 : Hp} {Q : VK}
    (B : Bs T p l m H1) (P : Nat → List V → Prop) (h0 : P 0 []) (hn : n ≤ 100000) (hG : ∀ H, Ext p H1 H → G H)
    (hs : ∀ i x acc H H' (Rf : Hp → Prop) (Rt : V → Hp → Prop), i < n → P i acc → Ext p H1 H → Bs T p l m H → Y i H x H' → (∀ H3, Ext p H H3 → Bs T p l m H3 → P (i + 1) acc → Rf H3) → (∀ y H4, Ext p H H4 → Bs T p l m H4 → P (i + 1) (acc ++ [y]) → Rt y H4) →
      g x (wipe σ vs) H' fun σ2 H2 => wipe σ2 vs = wipe σ vs ∧ tt σ2 H2 fun b H3 => if b = true then mcE te σ2 H3 Rt else Rf H3)
    (hd : ∀ D ys H', H1 D = none → P n ys → ys.length ≤ n → Ext p H1 H' → Bs T p l m H' → At p H' D (.lst ys) → Q (.ref D) H') : LcS J g tt (mcE te) vs σ H1 Q := by
  refine ⟨fun D hD => ?_⟩
  have nDp := B.ne hD
  have nDl := B.nel hD
  refine lc_it w (fun i H => ∃ acc, At p H D (.lst acc) ∧ acc.length ≤ i ∧ P i acc ∧ Ext p H1 H ∧ Bs T p l m H) ⟨[], ⟨upd_same, nDp, fun _ z => by cases z⟩, Nat.le_refl _, h0, Ext.same (same_upd hD), B.same (same_upd hD)⟩ (fun i H hi ⟨acc, _, _, _, x, _⟩ => hG H x) ?_ ?_
  · rintro i x H H' hi ⟨acc, hA, hl, hf, x1, B1⟩ y
    refine hs i x acc H H' _ _ hi hf x1 B1 y (fun H3 x3 B3 h3 => ⟨acc, hA.ext x3, by omega, h3, x1.trans x3, B3⟩) (fun v H4 x4 B4 h4 => ?_)
    have hA4 := hA.ext x4
    refine ⟨acc, hA4.at_, szl (by omega), acc ++ [v], ⟨upd_same, nDp, fun _ z => by cases z⟩, by simp; omega, h4, ⟨fun b o e nb nt => ?_⟩, ⟨?_, tabs_mut B4.tab hA4.at_⟩⟩
    · have e4 := x4.k _ _ (x1.k _ _ e nb nt) nb nt
      rw [upd_ne (ne_of_none e hD)]
      exact e4
    · exact B4.pen.mut nDp nDl
  · rintro H ⟨acc, hA, hl, hf, x1, B1⟩
    exact hd D acc H hD hf hl x1 B1 hA
section
variable {T : List (Addr × Str)} {p l q a b tp : Addr} {n m : Nat} {H H1 H2 H' : Hp} {o : HO} {K : PySem.W.Frag} {Q : VK} {E : XK} {x v y : V} {xs : List V} {ws us : List Int}
/-- what is no mark -/
def NoMk (K : PySem.W.Frag) (p : Addr) (H : Hp) (y : V) : Prop := (∃ i, y = .int i) ∨ OddM K p H y
theorem NoMk.ext (h : NoMk K p H y) (x : Ext p H H') : NoMk K p H' y := by
  rcases h with h | h
  · exact .inl h
  · exact .inr (h.ext x)
/-- BadMark(None) -/
def BadOut (K : PySem.W.Frag) (T : List (Addr × Str)) (p l : Addr) (n : Nat) (H : Hp) (E : XK) : Prop := ∀ d H', Ext p H H' → Bs T p l n H' → At p H' d (xdA .non) → E (.ref (He.ga K "BadMark")) (some d) H'
theorem BadOut.ext (h : BadOut K T p l n H E) (x : Ext p H H1) : BadOut K T p l n H1 E := fun d H' x1 B1 a1 => h d H' (x.trans x1) B1 a1
theorem NoMk.int {i : Int} : NoMk K p H (.int i) := .inl ⟨i, rfl⟩
theorem MarkP.mu {c : Addr} {ys : List V} (h : MarkP K p H a ws) (g : At p H c (.lst xs)) (m : Mu c H H' (.lst ys)) : MarkP K p H' a ws := by
  obtain ⟨gd, dx, wp, ep, sp, h1, h2, h3, h4⟩ := h
  exact ⟨gd, dx, wp, ep, sp, m.at_k h1 g (fun _ z => by cases z), m.at_k h2 g (fun _ z => by cases z), m.at_k h3 g (fun _ z => by cases z), m.at_k h4 g (fun _ z => by cases z)⟩
theorem Mu.mark {c : Addr} {ys : List V} (m : Mu c H H' (.lst ys)) (h : MarkP K p H a ws) (g : At p H c (.lst xs)) : MarkP K p H' a ws := h.mu g m
/-- what a call tells: [text], ("mark", i), ("mark", None), ("unlike",) -/
inductive Tl (p : Addr) (H : Hp) (q : Addr) : PyData → Prop
  | txt {z : Str} (ok : okS z) (h : At p H q (.lst [.str z])) : Tl p H q (.list [.str z])
  | mk {i : Nat} (hi : i < 4000) (h : At p H q (.tup [.str "mark", .int (i : Nat)])) : Tl p H q (.tuple [.str "mark", .int (i : Nat)])
  | non (h : At p H q (.tup [.str "mark", .non])) : Tl p H q (.tuple [.str "mark", .none])
  | unl (h : At p H q (.tup [.str "unlike"])) : Tl p H q (.tuple [.str "unlike"])
theorem Tl.ext {d : PyData} (h : Tl p H q d) (x : Ext p H H') : Tl p H' q d := by
  cases h with
  | txt ok h => exact .txt ok (h.ext x)
  | mk hi h => exact .mk hi (h.ext x)
  | non h => exact .non (h.ext x)
  | unl h => exact .unl (h.ext x)
theorem Tl.dp {d : PyData} (h : Tl p H q d) : Dp K H (.ref q) d := by
  cases h with
  | txt ok h => exact dp_lst h.at_ (.cons (.str _) .nil)
  | mk hi h => exact dp_tup h.at_ (.cons (.str _) (.cons (.int _) .nil))
  | non h => exact dp_tup h.at_ (.cons (.str _) (.cons .non .nil))
  | unl h => exact dp_tup h.at_ (.cons (.str _) .nil)
end
/-! xs[::-1] -/
end EM
/-! EM59: zip of two tuples, in one word; what a pair of a zip or an enumerate is. -/
namespace EM
open PySem PySem.Spec PyProof.Rows L2
structure EnL (K : PySem.W.Frag) (vs : List V) (H : Hp) (R : It → Hp → Prop) : Prop where
  h : ∃ a xs, vs = [.ref a] ∧ H a = some (.lst xs) ∧ R (Ite K a) H
def iEnLN (K : PySem.W.Frag) (ta : TA) : TI := fun σ H R => ta σ H fun vs H1 => EnL K vs H1 R
theorem pi_enumLN {X : Cx} {e : Expr} {ta : TA} {p pos tpos : Pos} {elts : List Expr} {kk : Nat} (hg : Gl X "enumerate") (hm : X.mg "enumerate" = none) (ha : PA X [e] ta) (hs : starEach [e] X.env = [(false, eval e X.env)] := by rfl) :
    PI X (.Tuple elts kk tpos) (.Call (.Name "enumerate" p) [e] [] pos) (iEnLN X.K ta) := ⟨fun pins s σ H R I h => (pi_enum hg hm ha.mc hs).run pins s σ H R I ⟨_, h, fun vs H1 ⟨⟨a, xs, e, h1, k⟩⟩ => ⟨a, xs, e, SqL.of h1, k⟩⟩⟩
section
variable {T : List (Addr × Str)} {p l a b : Addr} {n : Nat} {H H' : Hp} {K : PySem.W.Frag} {xs ys : List V} {R : It → Hp → Prop}
theorem enL (h : At p H a (.lst xs)) (k : R (Ite K a) H) : EnL K [.ref a] H R := ⟨a, xs, rfl, h.at_, k⟩
theorem yp_open {f g : Nat → Option V} {i : Nat} {x : V} (B : Bs T p l n H) (y : YPair f g i H x H') : ∃ W a b, x = .ref W ∧ f i = some a ∧ g i = some b ∧ Ext p H H' ∧ Bs T p l n H' ∧ At p H' W (.tup [a, b]) := by
  obtain ⟨W, a, b, rfl, hW, e, ea, eb⟩ := y
  have s : Same H H' := by rw [e]; exact same_upd hW
  exact ⟨W, a, b, rfl, ea, eb, Ext.same s, B.same s, (B.same s).at_ (by rw [e]; exact upd_same) (fun _ z => by cases z) (fun _ z => by cases z)⟩
end
end EM
namespace EM
open PySem PySem.Spec PyProof.Rows L2
section
variable {p q c : Addr} {H H' : Hp} {d : PyData} {x : Addr} {r ys : List V}
theorem Tl.ne (h : Tl p H q d) (g : At p H c (.lst (.ref x :: r))) : q ≠ c := by
  intro e
  subst e
  have ga := g.at_
  cases h with
  | txt ok h =>
    rw [h.at_] at ga
    cases ga
  | mk hi h =>
    rw [h.at_] at ga
    cases ga
  | non h =>
    rw [h.at_] at ga
    cases ga
  | unl h =>
    rw [h.at_] at ga
    cases ga
end
end EM
/-! EM60: repr of a tuple of a text and an instance with its own __repr__; of a text and a dict with nothing in it. -/
namespace PySem.W
open PySem PySem.Calls PyProof.Rows Builtin Builtin.Tuple
section
variable {prog : Program} {w : World} {A : Around} {K : Frag} {s : Shared} {x f C T : Addr} {ox oT : Obj} {od : Option Obj} {E : Value → Shared → Prop} {name : Str}
theorem em_boundBy {M : Model} {last : Value → List Value → Sem Value} {Q : Option Value → Shared → Prop} (X : K.In s.heap) (I : InstAt s.heap x ox C od) (hs : findIn K (.ref C) name = some (some (.ref f))) (hf : isFn K (.ref f) = true)
    (h : wpAny M A (last (.ref f) [.ref x]) (fun v => Q (some v)) E s) : wpAny M A (callSpecialIfBoundBy? last (.ref x) name) Q E s := by
  simp only [callSpecialIfBoundBy?, bindSpecialIfBound?]
  refine wpAny_holding (wpAny_bind (wpAny_bind (wpAny_bind (I.type.here ((looks_findIn X hs).here ?_)))))
  refine wpAny_bind (wpAny_askSetting (wpAny_ite ?_))
  have fin : wpAny M A (last (.ref f) [.ref x] >>= fun v => pure (some v)) Q E s := wpAny_bind (wpAny_mono h (fun v s' h' => wpAny_pure h') fun _ _ h' => h')
  split
  · exact wpAny_bind ((bind_fn X _ (beq_iff_eq.mp hf)).here (wpAny_pure (by exact fin)))
  · exact wpAny_tryCatch (wpAny_bind ((bind_fn X _ (beq_iff_eq.mp hf)).here (wpAny_pure (by exact fin))))
theorem em_under {b : Nat} {Q : Str → Shared → Prop} (hb : b ≤ sizeLine) (hu : A.units < cLine) (X : K.In s.heap) (I : InstAt s.heap x ox C od) (hr : findIn K (.ref C) "__repr__" = some (some (.ref f))) (hf : isFn K (.ref f) = true)
    (h : wpAny (model prog w) A (call (.ref f) [.ref x]) (fun v s2 => ∃ z u, v = .str z u ∧ Q z s2) E s) : wpAny (model prog w) A (pyReprUnder b (.ref x)) Q E s := by
  refine wpAny_pyReprUnder_ref hb ?_
  unfold pyReprObjUnder pyReprObjBy
  refine wpAny_bind (wpAny_cRoomFor hu ?_)
  refine wpAny_bind (m := specialOf (.ref x) (Str.ofString "__repr__")) ((I.type.andThen (looks_findIn X hr)).here ?_)
  refine wpAny_bind (em_boundBy X I hr hf ?_)
  show wpAny (model prog w) A (call (.ref f) ([.ref x] ++ [])) _ E s
  refine wpAny_mono h (fun v s2 hv => ?_) fun _ _ y => y
  obtain ⟨z, u, rfl, hq⟩ := hv
  exact wpAny_bind (wpAny_isInstance (T := "str") (b := true) (typeIs_str _ _ _) isSubtype_str_str (wpAny_pure ⟨z, u, rfl, hq⟩))
/-- (z, v): v's own text is told under the tuple's -/
theorem em_ownPair {c : Code} {Q : Fin → Shared → Prop} {z : Str} {t : Tok} {v : Value} {n : Nat} (hg : A.guards = some []) (ha : s.heap.get? T = some oT) (hd : oT.data = .seq #[.str z t, v] n) (hz : (reprText z).length ≤ 1000)
    (hx : ∀ tk b, b ≤ 2000 → wpAny (model prog w) (A.under c) (pyReprUnder b v) (fun r s2 => (tupleText [reprText z, r]).length ≤ sizeLine ∧ ∀ u tk2, Q (.done (.ret (.str (tupleText [reprText z, r]) u))) { s2 with toks := tk2 }) E { s with toks := tk }) :
    wpOwn (model prog w) A c (tupleReprAt 0 ⟨[.ref T], []⟩) Q E s := by
  rw [tuple_repr_tree, tupleReprUnderWay_eq]
  refine wpOwn_bind (wpOwn_stackTailAny hg (tupGuardF_off _) (tupGuardF_pos _) ?_)
  rw [show (([] : List Code).any fun c => tupGuardF (.ref T) (c, default)) = false from rfl]
  refine wpOwn_of_wpAny ?_
  show wpAny _ _ (tupleReprRest 0 (.ref T)) _ _ s
  unfold tupleReprRest Builtin.Tuple.tupleItemsOf
  refine wpAny_bind (wpAny_bind (wpAny_seqItems ha hd (wpAny_pure ?_)))
  rw [← Array.forIn_toList]
  show wpAny _ _ ((forIn [Value.str z t, v] (⟨#[], 0⟩ : (Array Str × Nat)) tupBody) >>= _) _ _ _
  have h1000 : 3000 ≤ sizeLine := by decide
  rw [List.forIn_cons]
  refine wpAny_bind (wpAny_bind (wpAny_bind (ReprIs.str z t (by omega) _ (by omega) _ _ _ _ fun tk => wpAny_pure ?_)))
  show wpAny _ _ (forIn [v] _ _) _ _ _
  rw [List.forIn_cons]
  refine wpAny_bind (wpAny_bind (wpAny_mono (hx tk _ (by show 0 + ((reprText z).length + 2) + 1 ≤ 2000; omega)) (fun r s2 hq => wpAny_pure ?_) fun _ _ y => y))
  show wpAny _ _ (forIn [] _ _) _ _ _
  rw [List.forIn_nil]
  refine wpAny_pure ?_
  refine wpAny_bind (wpAny_mkStr (wpAny_pure ?_) ?_)
  · exact hq.2 _ _
  · exact hq.1
theorem em_reprPair {Q : Value → Shared → Prop} {z : Str} {t : Tok} {v : Value} {n : Nat} (hu : A.in1.units < cLine) (hg : A.guards = some []) (ha : s.heap.get? T = some oT) (hc : oT.cls = .type "tuple") (hd : oT.data = .seq #[.str z t, v] n) (hz : (reprText z).length ≤ 1000)
    (hx : ∀ tk b, b ≤ 2000 → wpAny (model prog w) (A.in1.under (.builtin "tuple.__repr__" ⟨[.ref T], []⟩)) (pyReprUnder b v) (fun r s2 => (tupleText [reprText z, r]).length ≤ sizeLine ∧ ∀ u tk2, Q (.str (tupleText [reprText z, r]) u) { s2 with toks := tk2 }) E { s with toks := tk }) :
    wpAny (model prog w) A (call (.builtin "repr") [.ref T]) Q E s := by
  have hTy : s.TypeIs (.ref T) "tuple" := ⟨oT, ha, hc⟩
  refine Calls.call_function_entry F.kind_repr F.plain_repr F.entry_repr (F.args_repr1 _) ?_
  unfold Builtin.«repr»
  refine wpAny_bind (m := oneArg "repr" _) (wpAny_pure ?_)
  refine wpAny_bind (m := cRoomFor _ _) (wpAny_cRoomFor hu ?_)
  refine wpAny_bind (wpAny_specialOf (name := Str.ofString "__repr__") hTy F.slot_tuple_repr.lookup ?_)
  refine wpAny_bind (m := callSpecialIfBound? (.ref T) (Str.ofString "__repr__")) (wpAny_callSpecialIfBound?_slotG (name := Str.ofString "__repr__") hTy F.slot_tuple_repr ?_)
  refine wpAny_call (codeAny_call_builtin_own (Code.quiet_builtin _ (by decide +kernel)) F.entry_tuple_repr (F.slot_tuple_repr.check _ _ _ _ _ _ _ _ hTy (F.args_tuple_repr_1 _) (em_ownPair hg ha hd hz fun tk b hb => ?_)))
  refine wpAny_mono (hx tk b hb) (fun r s2 hq => ⟨hq.1, fun u tk2 => ?_⟩) fun _ _ y => y
  exact wpAny_bind (wpAny_isInstance (T := "str") (b := true) (typeIs_str _ _ _) isSubtype_str_str (wpAny_pure ⟨_, rfl, hq.2 u tk2⟩))
end
end PySem.W
namespace EM
open PySem PySem.Spec PyProof.Rows L2
theorem tupRepr_depth {A : Around} {T : Addr} : (A.under (.builtin "tuple.__repr__" ⟨[.ref T], []⟩)).depth ≤ A.depth + 1 := by
  first | exact Nat.le_refl _ | (simp [Around.under, Code.weight, Code.isCreation, Code.isGuard, Code.isCaller, Code.frames, Code.isFrame, guardIds]; done) | (simp [Around.under, Code.weight, Code.isCreation, Code.isGuard, Code.isCaller, Code.frames, Code.isFrame, guardIds]; omega)
theorem tupRepr_units {A : Around} {T : Addr} : (A.under (.builtin "tuple.__repr__" ⟨[.ref T], []⟩)).units = A.units + 1 := units_under_tuple_repr A _
theorem Room.tupRepr {k : Nat} {A : Around} {T : Addr} (r : Room (k + 1) A) : Room k (A.under (.builtin "tuple.__repr__" ⟨[.ref T], []⟩)) :=
  ⟨r.hd, by have := r.dp; have := tupRepr_depth (A := A) (T := T); omega, by have := r.un; rw [tupRepr_units]; omega⟩
theorem Env0.tupRepr {P : Program} {w : World} {K : PySem.W.Frag} {mg : Str → Option Value} {base : Heap} {A : Around} {outer : List Env} {s : Shared} {H : Hp} {T : Addr} (e : Env0 P w K mg base A outer s H) :
    Env0 P w K mg base (A.under (.builtin "tuple.__repr__" ⟨[.ref T], []⟩)) outer s H := ⟨by first | exact e.frames | (simpa [Around.under, Code.envs, Code.isFrame, pushEnvs] using e.frames), e.mod, e.bs, e.bsz, e.funs, e.frf, e.hok, e.bare⟩
def rReprP (C : Addr) (sp : Sp) (E : XK) : List V → Hp → VK → Prop := fun xs H Q => ∃ T z a dx fs, xs = [.ref T] ∧ H T = some (.tup [.str z, .ref a]) ∧ H a = some (.ins C dx fs) ∧ (reprText z).length ≤ 1000 ∧ sp [.ref a] H (fun v H' => ∃ t, v = .str t ∧ (tupleText [reprText z, t]).length ≤ sizeLine ∧ Q (.str (tupleText [reprText z, t])) H') E
def rReprE : List V → Hp → VK → Prop := fun xs H Q => ∃ T z d, xs = [.ref T] ∧ H T = some (.tup [.str z, .ref d]) ∧ H d = some (.dK []) ∧ (reprText z).length ≤ 1000 ∧ Q (.str (tupleText [reprText z, dictText []])) H
section
variable {X : Cx} {CX : CXT} {n : Nat} {g C : Addr} {sp : Sp} {E : XK}
theorem tup_data {pins : List (Addr × Obj)} {s : Shared} {σ : L2.St} {H : Hp} {T : Addr} {z : Str} {v : V} (I : Inv X pins σ H s) (hT : H T = some (.tup [.str z, v])) : ∃ o t u n, s.heap.get? T = some o ∧ o.cls = .type "tuple" ∧ o.data = .seq #[.str z t, u] n ∧ RelV v u := by
  obtain ⟨its, rv, ⟨o, e, c, n, d⟩, _⟩ := I.tuple (SqT.of hT)
  cases rv with
  | cons r1 rr =>
    cases rr with
    | cons r2 rr2 =>
      cases rr2
      obtain ⟨t, rfl⟩ := r1
      exact ⟨o, t, _, n, e, c, d, r2⟩
theorem call_reprP (hs : PySem.W.findIn X.K (.ref C) "__repr__" = some (some (.ref g))) (hf : PySem.W.isFn X.K (.ref g) = true) (F : FnR X.prog X.w X.K X.mg X.base CX n g sp) (hG : X.A.guards = some []) (hr : Room (n + 2) X.A) (hx : Passes CX X E) : CallR X (.builtin "repr") (rReprP C sp E) := by
  intro pins s σ H xs us Q I r h
  obtain ⟨T, z, a, dx, fs, rfl, hT, ha, hz, q⟩ := h
  cases r with
  | cons rx rr =>
    cases rr
    rename_i u
    cases (show u = Value.ref T from rx)
    obtain ⟨o, t, u, n', e, c, d, ru⟩ := tup_data I hT
    cases (show u = Value.ref a from ru)
    refine PySem.W.em_reprPair (hr.in1).units0 hG e c d hz fun tk b hb => ?_
    have I2 : Inv X pins σ H { s with toks := tk } := I.tok tk
    obtain ⟨ox, od, J, _⟩ := ins_at I2 ha
    have hb2 : b ≤ sizeLine := Nat.le_trans hb (by decide)
    refine PySem.W.em_under hb2 (by rw [tupRepr_units]; have := (hr.in1).un; omega) I2.kIn J hs hf ?_
    have c2 := SlX.run_at (us := [.ref a]) (ws := [.ref a]) F (Room.tupRepr (T := T) hr.in1) (Env0.tupRepr (T := T) I2.env0.in1) hx I2 (.cons rfl .nil) q
    refine wpAny_mono (wpAny_call c2) (fun w s' z => ?_) fun _ _ x => x
    obtain ⟨z', H', I', rz, t2, ez, hl, qz⟩ := z
    subst ez
    obtain ⟨t3, rfl⟩ := (show ∃ t, w = Value.str t2 t from rz)
    exact ⟨t2, t3, rfl, hl, fun u tk2 => ⟨.str _, H', I'.tok tk2, ⟨u, rfl⟩, qz⟩⟩
theorem call_reprE (hG : X.A.guards = some []) (hr : Room n X.A) : CallR X (.builtin "repr") rReprE := by
  intro pins s σ H xs us Q I r h
  obtain ⟨T, z, a, rfl, hT, ha, hz, q⟩ := h
  cases r with
  | cons rx rr =>
    cases rr
    rename_i u
    cases (show u = Value.ref T from rx)
    obtain ⟨o, t, u, n', e, c, d, ru⟩ := tup_data I hT
    cases (show u = Value.ref a from ru)
    have hne : T ≠ a := fun z => by
      rw [z, ha] at hT
      cases hT
    have hl : (tupleText [reprText z, dictText []]).length ≤ sizeLine := by
      have h1 := tupleText_len_le [reprText z, dictText []]
      have h2 : (dictText []).length = 2 := by decide +kernel
      simp only [List.map_cons, List.map_nil, List.sum_cons, List.sum_nil, List.length_cons, List.length_nil, h2] at h1
      have h3 : 10000 ≤ sizeLine := by decide
      omega
    refine PySem.W.em_reprPair (by show X.A.units + 1 < cLine; have := hr.un; omega) hG e c d hz fun tk b hb => ?_
    have I2 : Inv X pins σ H { s with toks := tk } := I.tok tk
    obtain ⟨_, hsys, vs, kv, od, es, ep, e1, ed, e2, _, pr, _⟩ := I2.hok a _ ha
    cases kv
    have hes : es.toList = [] := by
      cases hp : es.toList with
      | nil => rfl
      | cons x r =>
        rw [hp] at pr
        cases pr
    have R : ReprK X.prog X.w [a] s.heap 1 (.ref a) (dictText []) := ReprK.dict e1 ed.1 e2 hsys (by simp) (by rw [hes]; exact .nil)
    refine R b (by have : (dictText []).length = 2 := by decide +kernel
                   have h3 : 10000 ≤ sizeLine := by decide
                   omega) _ _ _ _ _ (guards_under_guard (isGuard_tuple_repr _) hG) (fun b hb => ?_) (by rw [tupRepr_units]; show X.A.units + 1 + 1 + 1 < cLine; have := hr.un; omega) (fun b o e => e) fun h' tk2 hk => ⟨hl, fun u tk3 => ⟨.str _, H, I2.kept (t' := tk3) hk, ⟨u, rfl⟩, q⟩⟩
    rw [List.mem_singleton.mp hb]
    exact (Clear.nil a).cons hne
end
end EM
/-! EM61: len of an instance, an instance subscripted, by its own defs. -/
namespace EM
open PySem PySem.Spec PyProof.Rows L2
def rIxO (C : Addr) (sp : Sp) (E : XK) : R2 := fun x y H Q => ∃ a dx fs, x = .ref a ∧ H a = some (.ins C dx fs) ∧ sp [.ref a, y] H Q E
def rLenO (C : Addr) (sp : Sp) (E : XK) : List V → Hp → VK → Prop := fun xs H Q => ∃ a dx fs, xs = [.ref a] ∧ H a = some (.ins C dx fs) ∧ sp [.ref a] H (fun v H' => ∃ n : Nat, v = .int n ∧ n < 1000000 ∧ Q (.int n) H') E
section
variable {X : Cx} {CX : CXT} {n : Nat} {g C : Addr} {sp : Sp} {E : XK} {a b : Expr} {ta tb : TE} {pos : Pos}
theorem pe_ixO (hs : PySem.W.findIn X.K (.ref C) "__getitem__" = some (some (.ref g))) (hi : PySem.W.fnIn X.K g = true) (hf : PySem.W.isFn X.K (.ref g) = true) (F : FnR X.prog X.w X.K X.mg X.base CX n g sp) (hr : Room (n + 1) X.A) (hx : Passes CX X E)
    (ha : PE X a ta) (hb : PE X b tb) (hsl : ∀ o i, subscripted b true o i = runValue (.builtin "lifetime.subscript" ⟨[o, i], []⟩) := by exact fun _ _ => rfl) : PE X (.Subscript a b pos) (tOp (rIxO C sp E) ta tb) := by
  refine ⟨fun pins s σ H Q I h => ?_⟩
  refine Subscript_ (binT ha hb I h fun v u s2 x y H2 I2 rx ry q => ?_)
  obtain ⟨a, dx, fs, rfl, hA, q⟩ := q
  cases (show v = Value.ref a from rx)
  obtain ⟨ox, od, J, _⟩ := ins_at I2 hA
  obtain ⟨m, hF⟩ := I2.fr
  have c := SlX.run_at (us := [.ref a, u]) (ws := [.ref a, y]) F hr.in1 I2.env0.in1 hx I2 (.cons rfl (.cons ry .nil)) q
  exact PySem.W.sub_K hF I2.ok.mod.kin J hs hi hf (wpAny_call c) (hsl _ _)
theorem call_lenO (hs : PySem.W.findIn X.K (.ref C) "__len__" = some (some (.ref g))) (hf : PySem.W.isFn X.K (.ref g) = true) (F : FnR X.prog X.w X.K X.mg X.base CX n g sp) (hr : Room (n + 1) X.A) (hx : Passes CX X E) : CallR X (.builtin "len") (rLenO C sp E) := by
  intro pins s σ H xs us Q I r h
  obtain ⟨a, dx, fs, rfl, ha, q⟩ := h
  cases r with
  | cons rx rr =>
    cases rr
    rename_i u
    cases (show u = Value.ref a from rx)
    obtain ⟨ox, od, J, _⟩ := ins_at I ha
    obtain ⟨m, hF⟩ := I.fr
    refine PySem.W.len_K hF I.ok.mod.kin J hs hf ?_
    have c := SlX.run_at (us := [.ref a]) (ws := [.ref a]) F hr.in1 I.env0.in1 hx I (.cons rfl .nil) q
    refine wpAny_mono (wpAny_call c) (fun w s' z => ?_) fun _ _ x => x
    obtain ⟨z', H', I', rz, k, ez, hk, qz⟩ := z
    subst ez
    obtain ⟨t, rfl⟩ := (show ∃ t, w = Value.int k t from rz)
    exact ⟨⟨by omega, by omega⟩, ⟨.int k, H', I'.tok _, ⟨_, rfl⟩, qz⟩⟩
end
end EM
/-! EM62: an error kept in a name behind its except suite. -/
namespace EM
open PySem PySem.Spec PyProof.Rows L2
/-- a caught error of the class cls with the dict d, kept at a -/
def exK (a : Addr) (cls : Value) (d : Option Addr) : HO := .ext fun h => ∃ (oe : Obj) (vs : Array Value), h.get? a = some oe ∧ Zc cls d oe ∧ oe.data = .fields vs
theorem exK_ok {P : Program} {w : World} {H : Hp} {h : Heap} {a : Addr} {cls : Value} {d : Option Addr} {oe : Obj} (e : h.get? a = some oe) (z : Zc cls d oe) (f : ∃ vs, oe.data = .fields vs) : ObjOk P w H h a (exK a cls d) := by
  obtain ⟨vs, hv⟩ := f
  exact ⟨⟨oe, vs, e, z, hv⟩, ⟨oe, e⟩, fun _ _ ⟨o, v, q, r⟩ k => ⟨o, v, k o q, r⟩⟩
theorem _root_.L2.Inv.trackX {X : Cx} {pins : List (Addr × Obj)} {σ : L2.St} {H : Hp} {s : Shared} {a : Addr} {cls : Value} {d : Option Addr} {oe : Obj} (I : Inv X pins σ H s) (e : s.heap.get? a = some oe) (hn : H a = none) (z : Zc cls d oe) (f : ∃ vs, oe.data = .fields vs) (n0 : X.s_0.heap.get? a = none) (nL : a ≠ X.env.locals)
    (npin : ∀ p ∈ X.pn ++ pins, p.1 ≠ a) (ncell : ∀ x c, X.env.cells.lookup x = some c → c ≠ a) : Inv X pins σ (upd H a (exK a cls d)) s where
  ok := I.ok
  os := I.os
  bare := I.bare
  base := {
    keep := I.base.keep
    slot := I.base.slot
    free := fun b o q n hx => by rw [upd_ne (fun z => by rw [z, n0] at q; cases q)]; exact I.base.free b o q n hx
    there := I.base.there
    tups := fun b xs q => by
      have := I.base.tups b xs q
      rw [upd_ne (ne_of_none this hn)]
      exact this
    frzs := fun b o u q => by
      have := I.base.frzs b o u q
      rw [upd_ne (ne_of_none this hn)]
      exact this
    tbls := fun b ps q => by
      obtain ⟨more, this⟩ := I.base.tbls b ps q
      exact ⟨more, by rw [upd_ne (ne_of_none this hn)]; exact this⟩ }
  loc := I.loc
  cell := I.cell
  free := by rw [upd_ne nL.symm]; exact I.free
  freeC := fun x c hc => by rw [upd_ne (ncell x c hc)]; exact I.freeC x c hc
  pin := fun p hp => by
    obtain ⟨h1, h2, h3⟩ := I.pin p hp
    exact ⟨h1, by rw [upd_ne (npin p hp)]; exact h2, h3⟩
  hok := L2.HOk.laidN I.hok (fun _ _ q => q) hn (exK_ok e z f)
  len := I.len
theorem sky_none {B : Heap} {l : List Env} {a : Addr} {Z : Obj → Prop} {L : Addr} {h : Heap} (s : Sky B l a Z L h) : B.get? a = none := by
  rcases s with s | s | s
  · exact s.2.1
  · exact s.2.1
  · exact s.2.1
/-- behind a suite that held its error in slot i: the error stays -/
def goneK (i : Nat) (a : Addr) (cls : Value) (d : Option Addr) (D : Ends) : Ends := { nx := fun σ' H' => D.nx (σ'.set i none) (upd H' a (exK a cls d)), rt := D.rt, bk := fun σ' H' => D.bk (σ'.set i none) H', ct := fun σ' H' => D.ct (σ'.set i none) H' }
def wHdsK (K : PySem.W.Frag) (Wout : WX) (D : Ends) : List Hd → WX
  | [] => Wout
  | (c, none, ts) :: r => fun cls d σ H => ∃ b, PySem.W.exmOne K cls c = some b ∧ (b = true → ∀ a, H a = none → ts a cls d D σ H) ∧ (b = false → wHdsK K Wout D r cls d σ H)
  | (c, some i, ts) :: r => fun cls d σ H => ∃ b, PySem.W.exmOne K cls c = some b ∧ (b = true → ∀ a, H a = none → ts a cls d (goneK i a cls d D) (σ.set i (some (.ref a))) H) ∧ (b = false → wHdsK K Wout D r cls d σ H)
section
variable {X : Cx} {body : List Stmt} {h₀ : ExceptHandler} {hds : List ExceptHandler} {l : List Hd} {pos : Pos} {tb : WX → TS} {Wout : WX}
theorem ps_tryK (hs : X.stack = X.env :: X.outer) (hf : X.env.frame = some X.env.locals) (hN : X.N.Nodup) (hx : X.ex = []) (tk : Takes X Wout)
    (hb : ∀ (W : WX) (pn : List (Addr × Obj)) (xe : Value → Shared → Prop), Takes (X.tr pn xe) W → PassesOwn (model X.prog X.w) X.A X.env xe → PSs (X.tr pn xe) body (tb W))
    (hh : HdsN X (h₀ :: hds) l) : PS X (.Try body (h₀ :: hds) [] [] pos) (fun D σ H => tb (wHdsK X.K Wout D l) D σ H) := by
  refine ⟨fun pins s σ H D I h => ?_⟩
  have ok := I.ok
  have hfr : X.A.frames = some (X.env :: X.outer) := by rw [ok.frames, hs]
  refine wpAny_Try_except ?_
  refine wpAny_mono ((hb (wHdsK X.K Wout D l) (X.pn ++ pins) (fun e s₁ => wpAny (model X.prog X.w) X.A (noteFrame e X.env) (fun _ s₂ => wpAny (model X.prog X.w) X.A (setFlight e none) (fun _ s₃ =>
    wpAny (model X.prog X.w) X.A (handleBy e X.env (h₀ :: hds)) (SP X pins D) X.xe s₃) X.xe s₂) X.xe s₁) (fun u s' xx => ?_) PassesOwn.looking).run [] s σ H D (I.toTry _) h) (fun f s1 hsp => ?_) (fun e s1 he => he)
  · obtain ⟨a, B, sI, pins', σ', H', cls, d, rfl, J', nb, up, sky, na, os, ag, w⟩ := xx
    have J : Inv X pins σ' H' sI := J'.ofTry ok
    have sky' : Sky B (X.env :: X.outer) a (Zc cls d) X.env.locals s'.heap := by rw [← hs]; exact sky
    show wpAny (model X.prog X.w) X.A (noteFrame (.ref a) X.env) _ _ _
    refine Sky.land Zc.steady hfr hf sky' fun h3 fl3 up3 => ?_
    have J3 : Inv X pins σ' H' { s' with heap := h3 } := J.landed nb fl3.1 (up.trans up3) os ag
    obtain ⟨oe3, vs3, he3, hz3, hd3⟩ := fl3.there
    have nfr : a ∉ frs (X.env :: X.outer) := fun hm => by
      obtain ⟨_, o', e', hnf⟩ := fl3.2.2.1.mem hm
      rw [he3] at e'; cases e'
      exact hnf _ hd3
    have nL : a ≠ X.env.locals := fun z => nfr (List.mem_filterMap.mpr ⟨X.env, List.mem_cons_self, by rw [hf, z]⟩)
    have nF : a ∉ X.fs := fun hm => by
      obtain ⟨e, he, q⟩ := List.mem_filterMap.mp hm
      exact nfr (List.mem_filterMap.mpr ⟨e, List.mem_cons_of_mem _ he, q⟩)
    have S3 := J3.suite he3 hd3 na nL nF
    have nI : sI.heap.get? a = none := by
      cases z : sI.heap.get? a with
      | none => rfl
      | some o =>
        have e1 := nb a o z (by rw [hs]; exact nfr)
        have e2 := sky_none sky
        rw [e1] at e2
        cases e2
    have n0 : X.s_0.heap.get? a = none := by
      cases z : X.s_0.heap.get? a with
      | none => rfl
      | some o =>
        obtain ⟨o', e'⟩ := J.base.there a o z (by rw [hx]; exact List.not_mem_nil)
        rw [nI] at e'
        cases e'
    have npin : ∀ p ∈ X.pn ++ pins, p.1 ≠ a := fun p hp z => by
      have e1 := (J.pin p hp).1
      rw [z, nI] at e1
      cases e1
    have ncell : ∀ x c, X.env.cells.lookup x = some c → c ≠ a := fun x c hc z => by
      obtain ⟨v, hv⟩ := J.cell x c hc
      obtain ⟨o, ho, _⟩ := hv
      rw [z, nI] at ho
      cases ho
    have LT : PySem.W.Looks (model X.prog X.w) h3 (typeOf (.ref a)) cls := fun A Q E s k q => wpAny_typeOf_ref (k _ _ he3) (by rw [hz3.1]; exact q)
    have test : ∀ {x : Str} {c : Value} {np : Pos}, Names X x c → ∀ {Q : Value → Shared → Prop} {E : Value → Shared → Prop}, Q c { s' with heap := h3 } → wpAny (model X.prog X.w) (X.A.mark (some (.ref a))) (eval (.Name x np) X.env) Q E { s' with heap := h3 } := fun {x c np} hc {Q E} q => by
      obtain ⟨hg, hdbg, hm | ⟨hm, hv, hnn⟩⟩ := hc
      · exact ld_glob (X := X.suite a ((a, oe3) :: (X.pn ++ pins))) S3 hg hm q hdbg
      · exact ld_blt (X := X.suite a ((a, oe3) :: (X.pn ++ pins))) S3 hg hm hv q hnn hdbg
    have go : ∀ {hds' : List ExceptHandler} {l' : List Hd}, HdsN X hds' l' → wHdsK X.K Wout D l' cls d σ' H' →
        wpAny (model X.prog X.w) X.A (handleBy (.ref a) X.env hds') (SP X pins D) X.xe { s' with heap := h3 } := by
      intro hds' l' hk
      induction hk with
      | nil =>
        intro w
        refine wpAny_handleBy_nil ?_
        obtain ⟨k1, k2, k3, oe, vs, T, oT, ts', he, hz, hd, h1, hr⟩ := id fl3
        unfold PySem.passOn
        refine wpAny_bind (wpAny_field he hd h1 ?_)
        rw [if_neg (show ¬ ((Value.ref T == Value.none) = true) from by simp)]
        have fin : wpAny (model X.prog X.w) X.A (setFlight (.ref a) X.env.frame) (fun _ s4 => wpAny (model X.prog X.w) X.A (throw (.ref a) : Sem Flow) (SP X pins D) X.xe s4) X.xe { s' with heap := h3 } := by
          rw [hf]
          refine HandSPX.setFlight_upZ fl3 fun h4 hh4 up4 => wpAny_throw (tk _ _ ?_)
          exact ⟨a, B, sI, pins, σ', H', cls, d, rfl, J, nb, (up.trans up3).trans up4, .inr (.inr (by rw [hs]; exact hh4)), na, os, ag, w⟩
        first
          | exact wpAny_bind (wpAny_pure (wpAny_bind fin))
          | exact wpAny_bind fin
      | @cons x c ts b₀ suite np pos' hds2 l2 hc hsu r ih =>
        intro w
        obtain ⟨b, hb1, hyes, hno⟩ := w
        refine wpAny_handleBy_cons (codeAny_handlers_test ?_) (by intro q; cases q)
        have LM := PySem.W.exm_one (M := model X.prog X.w) (J3.kIn) LT hb1
        refine test hc (LM.here ?_)
        cases b with
        | true =>
          refine codeAny_handlers_suite (HandSPX.lands_againZ fl3 fun h4 fl4 up4 => ?_)
          have J4 : Inv X pins σ' H' { s' with heap := h4 } := J.landed nb fl4.1 ((up.trans up3).trans up4) os ag
          obtain ⟨oe4, vs4, he4, hz4, hd4⟩ := fl4.there
          have S4 := J4.suite he4 hd4 na nL nF
          refine wpAny_mono ((hsu a oe4 cls d (X.pn ++ pins) hz4 ⟨_, hd4⟩).run [] _ _ H' _ S4 (hyes rfl a na)) (fun f s6 hsp => ?_) (fun _ _ z => False.elim z)
          cases f with
          | ret u =>
            obtain ⟨v6, σ6, H6, S6, r6, q6⟩ := hsp
            exact ⟨_, _, _, S6.unsuite ok, r6, q6⟩
          | next => obtain ⟨σ6, H6, S6, q6⟩ := hsp; exact ⟨_, _, S6.unsuite ok, q6⟩
          | brk => obtain ⟨σ6, H6, S6, q6⟩ := hsp; exact ⟨_, _, S6.unsuite ok, q6⟩
          | cont => obtain ⟨σ6, H6, S6, q6⟩ := hsp; exact ⟨_, _, S6.unsuite ok, q6⟩
        | false =>
          show wpAny _ X.A (handleBy (.ref a) X.env hds2) _ _ _
          exact ih (hno rfl)
      | @named x n i c ts b₀ suite np pos' hds2 l2 hc hi hln hsu r ih =>
        intro w
        obtain ⟨b, hb1, hyes, hno⟩ := w
        refine wpAny_handleBy_cons (codeAny_handlers_test ?_) (by intro q; cases q)
        have LM := PySem.W.exm_one (M := model X.prog X.w) (J3.kIn) LT hb1
        refine test hc (LM.here ?_)
        cases b with
        | true =>
          refine codeAny_handlers_suite_as (HandSPX.lands_againZ fl3 fun h4 fl4 up4 => ?_)
          have J4 : Inv X pins σ' H' { s' with heap := h4 } := J.landed nb fl4.1 ((up.trans up3).trans up4) os ag
          obtain ⟨oe4, vs4, he4, hz4, hd4⟩ := fl4.there
          have S4 := J4.suite he4 hd4 na nL nF
          refine store_ok (X := X.suite a ((a, oe4) :: (X.pn ++ pins))) (v := .ref a) S4 hN hi (Or.inl hln) rfl (fun s5 S5 => ?_) (.inr hln)
          refine wpAny_mono ((hsu a oe4 cls d (X.pn ++ pins) hz4 ⟨_, hd4⟩).run [] s5 _ H' _ S5 (hyes rfl a na)) (fun f s6 hsp => ?_) (fun _ _ z => False.elim z)
          have finK : ∀ {σ6 : L2.St} {H6 : Hp} {Q : Shared → Prop}, Inv (X.suite a ((a, oe4) :: (X.pn ++ pins))) [] σ6 H6 s6 → (∀ s7, Inv X pins (σ6.set i none) (upd H6 a (exK a cls d)) s7 → Q s7) →
              wpAny (model X.prog X.w) X.A (do bindName X.env n .none; unbindBehindTheSuite X.env n pos') (fun _ s7 => Q s7) X.xe s6 := fun {σ6 H6 Q} S6 hq => by
            obtain ⟨p1, p2, p3, p4, _⟩ := S6.pin (a, oe4) (List.mem_append.mpr (.inl List.mem_cons_self))
            exact gone_ok ((S6.unsuite ok).trackX p1 p2 hz4 ⟨_, hd4⟩ n0 nL npin ncell) hN hi hln hq
          have fin2 : ∀ {σ6 : L2.St} {H6 : Hp} {Q : Shared → Prop}, Inv (X.suite a ((a, oe4) :: (X.pn ++ pins))) [] σ6 H6 s6 → (∀ s7, Inv X pins (σ6.set i none) H6 s7 → Q s7) →
              wpAny (model X.prog X.w) X.A (do bindName X.env n .none; unbindBehindTheSuite X.env n pos') (fun _ s7 => Q s7) X.xe s6 := fun {σ6 H6 Q} S6 hq => gone_ok (S6.unsuite ok) hN hi hln hq
          cases f with
          | ret u =>
            obtain ⟨v6, σ6, H6, S6, r6, q6⟩ := hsp
            exact fin2 S6 fun s7 J7 => ⟨_, _, _, J7, r6, q6⟩
          | next => obtain ⟨σ6, H6, S6, q6⟩ := hsp; exact finK S6 fun s7 J7 => ⟨_, _, J7, q6⟩
          | brk => obtain ⟨σ6, H6, S6, q6⟩ := hsp; exact fin2 S6 fun s7 J7 => ⟨_, _, J7, q6⟩
          | cont => obtain ⟨σ6, H6, S6, q6⟩ := hsp; exact fin2 S6 fun s7 J7 => ⟨_, _, J7, q6⟩
        | false =>
          show wpAny _ X.A (handleBy (.ref a) X.env hds2) _ _ _
          exact ih (hno rfl)
    exact go hh w
  · cases f with
    | ret u =>
      obtain ⟨v, σ', H', J', r, q⟩ := hsp
      exact ⟨v, σ', H', J'.ofTry ok, r, q⟩
    | next => obtain ⟨σ', H', J', q⟩ := hsp; exact wpAny_execs_nil ⟨σ', H', J'.ofTry ok, q⟩
    | brk => obtain ⟨σ', H', J', q⟩ := hsp; exact ⟨σ', H', J'.ofTry ok, q⟩
    | cont => obtain ⟨σ', H', J', q⟩ := hsp; exact ⟨σ', H', J'.ofTry ok, q⟩
end
end EM
/-! EM63: isinstance and the fields of an error that is kept in a name. -/
namespace EM
open PySem PySem.Spec PyProof.Rows L2
structure ExcK (K : PySem.W.Frag) (D : Addr) : Prop where
  c : ExcC K D
  cl : (PySem.W.clsIn K D).isSome = true
theorem excB_ok {K : PySem.W.Frag} {D : Addr} (h : excB K D = true) : ExcK K D := by
  obtain ⟨h1, h⟩ := Bool.and_eq_true_iff.mp h
  obtain ⟨h2, h⟩ := Bool.and_eq_true_iff.mp h
  obtain ⟨h3, h⟩ := Bool.and_eq_true_iff.mp h
  obtain ⟨h4, h⟩ := Bool.and_eq_true_iff.mp h
  obtain ⟨h5, h⟩ := Bool.and_eq_true_iff.mp h
  obtain ⟨h6, h⟩ := Bool.and_eq_true_iff.mp h
  obtain ⟨h7, h⟩ := Bool.and_eq_true_iff.mp h
  obtain ⟨h8, h9⟩ := Bool.and_eq_true_iff.mp h
  exact ⟨⟨of_decide_eq_true h1, of_decide_eq_true h2, of_decide_eq_true h3, h4, of_decide_eq_true h5, of_decide_eq_true h6, of_decide_eq_true h7, of_decide_eq_true h8⟩, h9⟩
/-- an error of the class C with the fields fs is kept at a -/
structure ErrP (p : Addr) (H : Hp) (a C d : Addr) (fs : List (Str × V)) : Prop where
  at_ : At p H a (exK a (.ref C) (some d))
  xd : At p H d (.xd fs)
theorem exK_ntbl {a : Addr} {cls : Value} {d : Option Addr} : ∀ ps, exK a cls d ≠ .tbl ps := fun ps z => by
  unfold exK at z
  cases z
theorem exK_nlst {a : Addr} {cls : Value} {d : Option Addr} : ∀ xs, exK a cls d ≠ .lst xs := fun ps z => by
  unfold exK at z
  cases z
theorem ErrP.ext {p : Addr} {H H' : Hp} {a C d : Addr} {fs : List (Str × V)} (h : ErrP p H a C d fs) (x : Ext p H H') : ErrP p H' a C d fs := ⟨h.at_.ext x, h.xd.ext x⟩
theorem Mu.err {p : Addr} {H H' : Hp} {a C d c : Addr} {fs : List (Str × V)} {xs ys : List V} (m : Mu c H H' (.lst ys)) (h : ErrP p H a C d fs) (g : At p H c (.lst xs)) : ErrP p H' a C d fs :=
  ⟨m.at_k h.at_ g exK_nlst, m.at_k h.xd g (by intro _ z; cases z)⟩
/-- the kept error is tracked from here on -/
theorem Bs.keepX {T : List (Addr × Str)} {p l a : Addr} {n : Nat} {H : Hp} {cls : Value} {d : Option Addr} (B : Bs T p l n H) (h : H a = none) : New H a (exK a cls d) (upd H a (exK a cls d)) := ⟨h, same_upd h, upd_same⟩
def rIsX (K : PySem.W.Frag) : List V → Hp → VK → Prop := fun xs H Q => ∃ p a C d fs c, xs = [.ref a, c] ∧ ErrP p H a C d fs ∧ ExcK K C ∧
  ((∃ cv b, ClsV c cv ∧ PySem.W.kitOne K (.ref C) cv = some b ∧ Q (.bl b) H) ∨ (∃ tp cs us b, c = .ref tp ∧ H tp = some (.tup cs) ∧ Paired ClsV cs us ∧ PySem.W.kitAny K (.ref C) us = some b ∧ Q (.bl b) H))
section
variable {X : Cx} {p : Addr}
theorem err_inst {pins : List (Addr × Obj)} {s : Shared} {σ : L2.St} {H : Hp} {a C d : Addr} {fs : List (Str × V)} (I : Inv X pins σ H s) (h : ErrP p H a C d fs) : ∃ oe od, PySem.W.InstAt s.heap a oe C (some od) ∧ s.heap.get? a = some oe ∧ s.heap.get? d = some od ∧ (∃ vs, oe.data = .fields vs) := by
  obtain ⟨⟨oe, vs, h1, hz, hd⟩, _⟩ := I.hok a _ h.at_.at_
  obtain ⟨mA, hns, hr⟩ := (show ObjOk X.prog X.w H s.heap d (.xd fs) from I.hok d _ h.xd.at_)
  obtain ⟨od, ho, hl⟩ := lookIn_ns hns
  exact ⟨oe, od, ⟨h1, hz.1, by unfold PySem.W.notCls; rw [hd] <;> rfl, by rw [hz.2]; exact ho⟩, h1, ho, vs, hd⟩
theorem call_isX : CallR X (.builtin "isinstance") (rIsX X.K) := by
  intro pins s σ H xs us Q I r h
  obtain ⟨p, a, C, d, fs, c, rfl, he, K1, h⟩ := h
  obtain ⟨oe, od, J, h1, _, vs, hv⟩ := err_inst I he
  obtain ⟨u1, u2, rfl, r1, r2⟩ := vals2 r
  cases (show u1 = Value.ref a from r1)
  have Z := PySem.W.kitx_exc (x := a) (ox := oe) (od := some od) K1.cl K1.c.hg K1.c.hk K1.c.hs K1.c.ha K1.c.hn K1.c.ht K1.c.hm
  rcases h with ⟨cv, b, k, e, q⟩ | ⟨tp, cs, ws, b, rfl, hT, k, e, q⟩
  · have e2 := k.eq r2
    subst e2
    exact PySem.W.kia_one Z I.kIn J e (fun z => nomatch z) fun tk => ⟨.bl b, H, I.tok tk, rfl, q⟩
  · cases (show u2 = Value.ref tp from r2)
    obtain ⟨_, its, rv, o, h1, h2, n, h3⟩ := (show ObjOk X.prog X.w H s.heap tp (.tup cs) from I.hok tp _ hT)
    have e3 := ClsV.all k rv
    subst e3
    obtain ⟨oc, od, dt, sl⟩ := o
    simp only at h2 h3
    subst h2 h3
    exact PySem.W.kia_tup Z I.kIn J h1 e (fun z => nomatch z) fun tk => ⟨.bl b, H, I.tok tk, rfl, q⟩
/-- the reading of a field of a kept error -/
structure XkS (K : PySem.W.Frag) (n : Str) (x : V) (H1 : Hp) (Q : VK) : Prop where
  h : ∃ p a C d fs v, x = .ref a ∧ ErrP p H1 a C d fs ∧ XfC K C ∧ PySem.W.findIn K (.ref C) n = some none ∧ fs.lookup n = some v ∧ Q v H1
def tXk (K : PySem.W.Frag) (n : Str) (te : TE) : TE := fun σ H Q => te σ H fun x H1 => XkS K n x H1 Q
theorem pe_xk {e : Expr} {te : TE} {pos : Pos} {n : Str} (he : PE X e te) (hb : attributeBase e n X.env (eval e X.env) = eval e X.env := by rfl) : PE X (.Attribute e n pos) (tXk X.K n te) := by
  refine ⟨fun pins s σ H Q I h => ?_⟩
  refine attr_of hb (thn (he.run pins s σ H _ I h) fun u s1 hh => ?_)
  obtain ⟨x, H1, I1, rx, ⟨p, a, C, d, fs, v, ex, E1, T, hno, l, q⟩⟩ := hh
  subst ex
  obtain rfl : u = Value.ref a := rx
  obtain ⟨⟨oe, vs, h1, hz, hd⟩, _⟩ := I1.hok a _ E1.at_.at_
  obtain ⟨mA, hns, hr⟩ := (show ObjOk X.prog X.w H1 s1.heap d (.xd fs) from I1.hok d _ E1.xd.at_)
  obtain ⟨od, ho, hl⟩ := lookIn_ns hns
  obtain ⟨u, hu, ru⟩ := RelO.some_of (v := v) (o := mA n) (by rw [← l]; exact hr n)
  have J : PySem.W.InstAt s1.heap a oe C (some od) := ⟨h1, hz.1, by unfold PySem.W.notCls; rw [hd] <;> rfl, by rw [hz.2]; exact ho⟩
  exact HandSPX.exc_get I1.kIn J T.ga T.gg T.exC (PySem.W.findObj_own T.hdC hno rfl (by rw [hl, hu])) (handed_of ru) ⟨v, H1, I1.tok _, ru, q⟩
end
end EM
/-! EM64: an instance whose field is written; readings: rows of rising fractions. -/
namespace EM
open PySem PySem.Spec PyProof.Rows L2
/-- all but the pen, the tables and the instance r stays -/
structure XtR (p r : Addr) (H H' : Hp) : Prop where
  k : ∀ b o, H b = some o → b ≠ p → b ≠ r → (∀ ps, o ≠ .tbl ps) → H' b = some o
section
variable {T : List (Addr × Str)} {p l l0 r a b : Addr} {n : Nat} {H H1 H2 H' : Hp} {o o2 : HO} {K : PySem.W.Frag} {xs ys : List V} {v : V} {t c : Int} {C dx : Addr} {fs gs : List (Str × V)}
theorem XtR.refl : XtR p r H H := ⟨fun _ _ e _ _ _ => e⟩
theorem XtR.of (x : Ext p H H') : XtR p r H H' := ⟨fun b o e n1 _ n3 => x.k b o e n1 n3⟩
theorem XtR.trans (x : XtR p r H H1) (y : XtR p r H1 H2) : XtR p r H H2 := ⟨fun b o e n1 n2 n3 => y.k b o (x.k b o e n1 n2 n3) n1 n2 n3⟩
theorem XtR.mu (m : Mu r H H' o) : XtR p r H H' := ⟨fun b u e _ n2 _ => by rw [m.old b n2]; exact e⟩
theorem XtR.at_n (x : XtR p r H H') (h : At p H a o) (nr : a ≠ r) : At p H' a o := ⟨x.k a o h.at_ h.ne nr h.nt, h.ne, h.nt⟩
theorem XtR.at_ (x : XtR p r H H') (h : At p H a o) (g : At p H r (.ins C dx fs)) (ne : o ≠ .ins C dx fs) : At p H' a o := x.at_n h (ne_of h.at_ g.at_ ne)
theorem XtR.rat (x : XtR p r H H') (h : RatP K p H a t c) (g : At p H r (.ins C dx fs)) (ne : fs ≠ rf t c) : RatP K p H' a t c := by
  obtain ⟨⟨d, h⟩, n⟩ := h
  exact ⟨⟨d, x.k a _ h n (ne_of h g.at_ (by intro z; injection z with _ _ z; exact ne z.symm)) (fun _ z => by cases z)⟩, n⟩
theorem XtR.num (x : XtR p r H H') (h : NumP K p H v t c) (g : At p H r (.ins C dx fs)) (ne : fs ≠ rf t c) : NumP K p H' v t c := by
  obtain ⟨⟨lo, h⟩, n⟩ := h
  refine ⟨⟨lo, ?_⟩, n⟩
  rcases h with ⟨a, rfl, q⟩ | h
  · exact .inl ⟨a, rfl, (x.rat (K := K) ⟨q, fun z => n (by rw [z])⟩ g ne).rat⟩
  · exact .inr h
theorem tabs_mutI (t : LamX.Tabs T H) (hM : H a = some (.ins C dx fs)) : LamX.Tabs T (upd H a o) := by
  intro q hq
  obtain ⟨ps, h1, h2, h3⟩ := t q hq
  refine ⟨ps, by rw [upd_ne (ne_of h1 hM (by intro z; cases z))]; exact h1, h2, fun pos cv hc => ?_⟩
  obtain ⟨c, e1, e2⟩ := h3 pos cv hc
  exact ⟨c, e1, by rw [upd_ne (ne_of e2 hM (by unfold LamX.CodeO; intro z; cases z))]; exact e2⟩
theorem Mu.bsI (m : Mu r H H' o) (B : Bs T p l0 n H) (h : At p H r (.ins C dx fs)) : Bs T p l0 n H' := by
  rw [m.eq]
  obtain ⟨cells, at_, q, hp, hl, _⟩ := id B.pen
  exact ⟨B.pen.mut h.ne (ne_of h.at_ hl (by intro z; cases z)), tabs_mutI B.tab h.at_⟩
theorem Mu.hereI (m : Mu r H H' (.ins C dx gs)) (g : At p H r (.ins C dx fs)) : At p H' r (.ins C dx gs) := ⟨m.at_, g.ne, fun _ z => by cases z⟩
end
section
variable {X : Cx} {o e : Expr} {to te : TE} {f : Str} {pos pos' : Pos}
/-- o.f = e -/
def sFldN (K : PySem.W.Frag) (to tv : TE) (f : Str) : TS := fun D σ H => tv σ H fun y H1 => to σ H1 fun x H2 => ∃ a C dx fs, x = .ref a ∧ H2 a = some (.ins C dx fs) ∧ Cls K C ∧ NoAttr K C f ∧ fs.length < 1000 ∧
  ∀ H3, Mu a H2 H3 (.ins C dx (putF f y fs)) → D.nx σ H3
theorem ps_fldN (ha : PE X o to) (hv : PE X e te) (hs : swapsWith e (some (.Attribute o f pos')) pos.line X.env = pure false) : PS X (.Assign [.Attribute o f pos'] e pos) (sFldN X.K to te f) :=
  (ps_fld ha.mc hv.mc hs).of fun D σ H q => ⟨_, q, fun y H1 r1 => ⟨_, r1, fun x H2 ⟨a, C, dx, fs, e1, e2, e3, e4, e5, k⟩ => ⟨a, C, dx, fs, e1, e2, e3, e4, e5, k _ Mu.upd⟩⟩⟩
end
/-! ### readings -/
abbrev rdf (q : Addr) : List (Str × V) := [("own_edges", .ref q)]
/-- the reading at r holds the tuple q of the Ratios es -/
structure RdP (K : PySem.W.Frag) (p : Addr) (H : Hp) (r q : Addr) (es : List (Int × Int)) : Prop where
  h : ∃ dx xs, At p H r (.ins (He.ga K "Reading") dx (rdf q)) ∧ At p H q (.tup xs) ∧ RatsP K p H xs es
section
variable {T : List (Addr × Str)} {p l r q a b : Addr} {n : Nat} {H H1 H2 H' : Hp} {K : PySem.W.Frag} {xs ys : List V} {es : List (Int × Int)}
theorem RatsP.ext (h : RatsP K p H xs es) (x : Ext p H H') : RatsP K p H' xs es := ⟨h.len, fun i y t e1 e2 => by
  obtain ⟨a, e, r⟩ := h.h i y t e1 e2
  exact ⟨a, e, r.ext x⟩⟩
theorem RdP.ext (h : RdP K p H r q es) (x : Ext p H H') : RdP K p H' r q es := by
  obtain ⟨dx, xs, h1, h2, h3⟩ := h
  exact ⟨dx, xs, h1.ext x, h2.ext x, h3.ext x⟩
theorem rdf_ne {t b : Int} : rdf q ≠ rf t b := by
  intro z
  injection z with _ z
  cases z
theorem XtR.rats {C dx : Addr} (x : XtR p r H H') (h : RatsP K p H xs es) (g : At p H r (.ins C dx (rdf q))) : RatsP K p H' xs es := ⟨h.len, fun i y t e1 e2 => by
  obtain ⟨a, e, ra⟩ := h.h i y t e1 e2
  exact ⟨a, e, x.rat ra g rdf_ne⟩⟩
theorem XtR.pairs {C dx : Addr} {fs : List (Str × V)} (x : XtR p r H H') (h : PairsP p H xs es) (g : At p H r (.ins C dx fs)) : PairsP p H' xs es := ⟨h.len, fun i y t e1 e2 => by
  obtain ⟨a, e, ra⟩ := h.h i y t e1 e2
  exact ⟨a, e, x.at_ ra g (by intro z; cases z)⟩⟩
theorem Mu.rats {c : Addr} (m : Mu c H H' (.lst ys)) {zs : List V} (h : RatsP K p H xs es) (g : At p H c (.lst zs)) : RatsP K p H' xs es := ⟨h.len, fun i y t e1 e2 => by
  obtain ⟨a, e, ra⟩ := h.h i y t e1 e2
  exact ⟨a, e, m.rat ra g⟩⟩
theorem Mu.pairs {c : Addr} (m : Mu c H H' (.lst ys)) {zs : List V} (h : PairsP p H xs es) (g : At p H c (.lst zs)) : PairsP p H' xs es := ⟨h.len, fun i y t e1 e2 => by
  obtain ⟨a, e, ra⟩ := h.h i y t e1 e2
  exact ⟨a, e, m.at_k ra g (by intro _ z; cases z)⟩⟩
theorem Mu.rdp {c : Addr} (m : Mu c H H' (.lst ys)) {zs : List V} (h : RdP K p H r q es) (g : At p H c (.lst zs)) : RdP K p H' r q es := by
  obtain ⟨dx, xs, h1, h2, h3⟩ := h
  exact ⟨dx, xs, m.at_k h1 g (by intro _ z; cases z), m.at_k h2 g (by intro _ z; cases z), m.rats h3 g⟩
/-- another reading -/
theorem XtR.rdp {C dx q' r' : Addr} (x : XtR p r H H') (h : RdP K p H r' q' es) (g : At p H r (.ins C dx (rdf q))) (nr : r' ≠ r) : RdP K p H' r' q' es := by
  obtain ⟨dx, xs, h1, h2, h3⟩ := h
  exact ⟨dx, xs, x.at_n h1 nr, x.at_ h2 g (by intro z; cases z), x.rats h3 g⟩
theorem RdP.at_ (h : RdP K p H r q es) : ∃ dx, At p H r (.ins (He.ga K "Reading") dx (rdf q)) := let ⟨dx, _, h1, _⟩ := h.h; ⟨dx, h1⟩
end
/-! ### rows, plainly -/
/-- a rising row of fractions in lowest terms, of at most n bits -/
structure RowOk (n : Nat) (es : List (Int × Int)) : Prop where
  low : ∀ e ∈ es, Low e.1 e.2
  bt : ∀ e ∈ es, Bt n e.1 ∧ Bt n e.2
  rise : ∀ (i : Nat) e f, es[i]? = some e → es[i + 1]? = some f → e.1 * f.2 < f.1 * e.2
def addF (b : Int × Int) (e : Int × Int) : Int × Int := (nTop (e.1 * b.2 + b.1 * e.2) (e.2 * b.2), nBot (e.1 * b.2 + b.1 * e.2) (e.2 * b.2))
def mulF (b : Int × Int) (e : Int × Int) : Int × Int := (nTop (e.1 * b.1) (e.2 * b.2), nBot (e.1 * b.1) (e.2 * b.2))
theorem RowOk.mono {n m : Nat} {es : List (Int × Int)} (h : RowOk n es) (e : n ≤ m) : RowOk m es := ⟨h.low, fun e he => ⟨(h.bt e he).1.mono ‹_›, (h.bt e he).2.mono ‹_›⟩, h.rise⟩
theorem addF_low {b e : Int × Int} (hb : Low b.1 b.2) (he : Low e.1 e.2) : Low (addF b e).1 (addF b e).2 := n_low (Int.mul_ne_zero (by have := he.pos; omega) (by have := hb.pos; omega))
theorem mulF_low {b e : Int × Int} (hb : Low b.1 b.2) (he : Low e.1 e.2) : Low (mulF b e).1 (mulF b e).2 := n_low (Int.mul_ne_zero (by have := he.pos; omega) (by have := hb.pos; omega))
theorem addF_bt {b e : Int × Int} {n m k : Nat} (hb : Low b.1 b.2) (he : Low e.1 e.2) (h1 : Bt n e.1 ∧ Bt n e.2) (h2 : Bt m b.1 ∧ Bt m b.2) (hk : n + m + 1 ≤ k) : Bt k (addF b e).1 ∧ Bt k (addF b e).2 := by
  have h0 : e.2 * b.2 ≠ 0 := Int.mul_ne_zero (by have := he.pos; omega) (by have := hb.pos; omega)
  have t1 : Bt (n + m + 1) (e.1 * b.2 + b.1 * e.2) := ((h1.1.mul h2.2).add' (h2.1.mul h1.2)).mono (by omega)
  have t2 : Bt (n + m) (e.2 * b.2) := h1.2.mul h2.2
  exact ⟨(t1.top h0).mono hk, (t2.bot h0).mono (by omega)⟩
theorem mulF_bt {b e : Int × Int} {n m k : Nat} (hb : Low b.1 b.2) (he : Low e.1 e.2) (h1 : Bt n e.1 ∧ Bt n e.2) (h2 : Bt m b.1 ∧ Bt m b.2) (hk : n + m ≤ k) : Bt k (mulF b e).1 ∧ Bt k (mulF b e).2 := by
  have h0 : e.2 * b.2 ≠ 0 := Int.mul_ne_zero (by have := he.pos; omega) (by have := hb.pos; omega)
  exact ⟨((h1.1.mul h2.1).top h0).mono hk, ((h1.2.mul h2.2).bot h0).mono hk⟩
theorem addF_lt {b e f : Int × Int} (hb : Low b.1 b.2) (he : Low e.1 e.2) (hf : Low f.1 f.2) : (addF b e).1 * (addF b f).2 < (addF b f).1 * (addF b e).2 ↔ e.1 * f.2 < f.1 * e.2 := by
  have b0 := hb.pos
  have e0 := he.pos
  have f0 := hf.pos
  have p1 : 0 < e.2 * b.2 := Int.mul_pos e0 b0
  have p2 : 0 < f.2 * b.2 := Int.mul_pos f0 b0
  refine (cross_lt (addF_low hb he).pos (addF_low hb hf).pos p1 p2 n_cross n_cross).trans ?_
  exact move_lt b0
theorem mulF_lt {b e f : Int × Int} (hb : Low b.1 b.2) (h0 : 0 < b.1) (he : Low e.1 e.2) (hf : Low f.1 f.2) : (mulF b e).1 * (mulF b f).2 < (mulF b f).1 * (mulF b e).2 ↔ e.1 * f.2 < f.1 * e.2 := by
  have b0 := hb.pos
  have e0 := he.pos
  have f0 := hf.pos
  have p1 : 0 < e.2 * b.2 := Int.mul_pos e0 b0
  have p2 : 0 < f.2 * b.2 := Int.mul_pos f0 b0
  refine (cross_lt (mulF_low hb he).pos (mulF_low hb hf).pos p1 p2 n_cross n_cross).trans ?_
  exact times_lt h0 b0
theorem RowOk.map {n k : Nat} {es : List (Int × Int)} {F : Int × Int → Int × Int} (h : RowOk n es) (hl : ∀ e ∈ es, Low (F e).1 (F e).2) (hb : ∀ e ∈ es, Bt k (F e).1 ∧ Bt k (F e).2) (hr : ∀ e ∈ es, ∀ f ∈ es, e.1 * f.2 < f.1 * e.2 → (F e).1 * (F f).2 < (F f).1 * (F e).2) : RowOk k (es.map F) := by
  refine ⟨fun e he => ?_, fun e he => ?_, fun i e f h1 h2 => ?_⟩
  · obtain ⟨e0, h0, rfl⟩ := List.mem_map.mp he
    exact hl _ h0
  · obtain ⟨e0, h0, rfl⟩ := List.mem_map.mp he
    exact hb _ h0
  · rw [List.getElem?_map] at h1 h2
    obtain ⟨e0, g1, rfl⟩ := Option.map_eq_some_iff.mp h1
    obtain ⟨f0, g2, rfl⟩ := Option.map_eq_some_iff.mp h2
    exact hr _ (List.mem_of_getElem? g1) _ (List.mem_of_getElem? g2) (h.rise i _ _ g1 g2)
theorem RowOk.add {n m k : Nat} {es : List (Int × Int)} {b : Int × Int} (h : RowOk n es) (hb : Low b.1 b.2) (h2 : Bt m b.1 ∧ Bt m b.2) (hk : n + m + 1 ≤ k) : RowOk k (es.map (addF b)) :=
  h.map (fun e he => addF_low hb (h.low e he)) (fun e he => addF_bt hb (h.low e he) (h.bt e he) h2 hk) (fun e he f hf z => (addF_lt hb (h.low e he) (h.low f hf)).mpr z)
theorem RowOk.mul {n m k : Nat} {es : List (Int × Int)} {b : Int × Int} (h : RowOk n es) (hb : Low b.1 b.2) (h0 : 0 < b.1) (h2 : Bt m b.1 ∧ Bt m b.2) (hk : n + m ≤ k) : RowOk k (es.map (mulF b)) :=
  h.map (fun e he => mulF_low hb (h.low e he)) (fun e he => mulF_bt hb (h.low e he) (h.bt e he) h2 hk) (fun e he f hf z => (mulF_lt hb h0 (h.low e he) (h.low f hf)).mpr z)
end EM
/-! EM65: the order of great numbers (EM43 with more bits). -/
namespace EM
open PySem PySem.Spec PyProof.Rows L2
structure TwoW (K : PySem.W.Frag) (T : List (Addr × Str)) (p l : Addr) (n : Nat) (H : Hp) (x : Addr) (v : V) (t b u c : Int) : Prop where
  B : Bs T p l n H
  rx : RatP K p H x t b
  lo : Low t b
  ny : NumP K p H v u c
  bt : Bt 2000 t
  bb : Bt 2000 b
  bu : Bt 2000 u
  bc : Bt 2000 c
def spRelW (K : PySem.W.Frag) (f : Int → Bool) : Sp := fun vs H Q _ => ∃ T p l n x v t b u c, vs = [.ref x, v] ∧ TwoW K T p l n H x v t b u c ∧ ∀ H', Ext p H H' → Bs T p l n H' → Q (.bl (f (nTop (t * c + -u * b) (b * c)))) H'
def spEqXW (K : PySem.W.Frag) : Sp := fun vs H Q E => spRelW K (relZ .Eq) vs H Q E ∨ ∃ x v, vs = [.ref x, v] ∧ NoNum K H v ∧ Q (.bl false) H
structure RelW (K : PySem.W.Frag) (op : CmpOp) (x y : V) (H : Hp) (Q : VK) : Prop where
  h : ∃ T p l n t b u c, Bs T p l n H ∧ NumP K p H x t b ∧ NumP K p H y u c ∧ ((∃ a, x = V.ref a) ∨ ∃ a, y = V.ref a) ∧ Bt 2000 t ∧ Bt 2000 b ∧ Bt 2000 u ∧ Bt 2000 c ∧ ∀ H', Ext p H H' → Bs T p l n H' → Q (.bl (relB op (t * c) (u * b))) H'
theorem relw_bs {K : PySem.W.Frag} {op : CmpOp} {x y : V} {H : Hp} {Q : VK} {T : List (Addr × Str)} {p l : Addr} {n : Nat} {t b u c : Int} (B : Bs T p l n H) (nx : NumP K p H x t b) (ny : NumP K p H y u c) (hr : (∃ a, x = V.ref a) ∨ ∃ a, y = V.ref a) (bt : Bt 2000 t) (bb : Bt 2000 b) (bu : Bt 2000 u) (bc : Bt 2000 c)
    (k : ∀ H', Ext p H H' → Bs T p l n H' → Q (.bl (relB op (t * c) (u * b))) H') : RelW K op x y H Q := ⟨T, p, l, n, t, b, u, c, B, nx, ny, hr, bt, bb, bu, bc, k⟩
section
variable {X : Cx} {n : Nat} {g gr : Addr} {E : XK}
/-- <, <=, >, >= of numbers, one of them at least a Ratio -/
theorem op_relW {op : CmpOp} (hop : op = .Lt ∨ op = .LtE ∨ op = .Gt ∨ op = .GtE) (hs : PySem.W.findIn X.K (.ref (He.ga X.K "Ratio")) (cmpInfo op).2.1 = some (some (.ref g))) (hf : PySem.W.isFn X.K (.ref g) = true) (hs2 : PySem.W.findIn X.K (.ref (He.ga X.K "Ratio")) (cmpInfo op).2.2 = some (some (.ref gr))) (hf2 : PySem.W.isFn X.K (.ref gr) = true)
    (A : Apart X.K (He.ga X.K "Ratio")) (F : FnR X.prog X.w X.K X.mg X.base (L2.CX X.prog X.w) n g (Sw (spRelW X.K (relZ op)))) (F2 : FnR X.prog X.w X.K X.mg X.base (L2.CX X.prog X.w) n gr (Sw (spRelW X.K (relZ (flip op))))) (hr : Room n X.A) : OpR X (compareOp op) (RelW X.K op) := by
  have h1 := op_cmpL (E := E0) (op := op) (by rcases hop with rfl | rfl | rfl | rfl <;> exact fun _ _ => rfl) hs hf A F hr passL
  have h2 := op_ltR (E := E0) hop hs2 hf2 A F2 hr passL
  refine opR_of (op_two h1 h2) fun x y H Q ⟨h⟩ => ?_
  obtain ⟨T, p, l, m, t, b, u, c, B, nx, ny, hor, bt, bb, bu, bc, k⟩ := h
  have lo := nx.num.1
  have lo2 := ny.num.1
  rcases nx.num.2 with ⟨a, rfl, dx, ra⟩ | ⟨rfl, rfl⟩
  · refine .inl ⟨a, dx, _, rfl, ra, ?_, ⟨⟨T, p, l, m, a, y, t, b, u, c, rfl, ⟨B, num_l nx, lo, ny, bt, bb, bu, bc⟩, fun H' x1 B1 => by rw [rel_val lo lo2]; exact k H' x1 B1⟩⟩⟩
    rcases ny.num.2 with ⟨a2, rfl, dy, rb⟩ | ⟨rfl, _⟩
    · exact .inl ⟨a2, dy, _, rfl, rb⟩
    · exact .inr ⟨_, .int _⟩
  · rcases ny.num.2 with ⟨a2, rfl, dy, rb⟩ | ⟨rfl, rfl⟩
    · refine .inr ⟨a2, dy, _, rfl, rb, ⟨_, .int t⟩, ⟨t, rfl⟩, ⟨⟨T, p, l, m, a2, .int t, u, c, t, 1, rfl, ⟨B, num_l ny, lo2, nx, bu, bc, bt, bb⟩, fun H' x1 B1 => by rw [rel_val lo2 lo, rel_flip]; exact k H' x1 B1⟩⟩⟩
    · rcases hor with ⟨a, e⟩ | ⟨a, e⟩ <;> cases e
end
end EM
/-! EM66: == of tuples whose items are compared by defs of the program. -/
namespace PySem.SeqAt
open AutoSeq1 (wpAny_loadPart')
open MeetsSeq MeetsSeq2 MeetsSeq3 SeqRoads2
section
variable {prog : Program} {w : World}
theorem em_tuple_eq (l b : Addr) (items items2 : Array Value) (n n2 : Nat) (dd dd2 : Option Addr) (sl sl2 : Array (Option Value)) (P : Nat → Shared → Prop) :
    MeetsIn prog w (Builtin.«tuple.__eq__» ⟨[.ref l, .ref b], []⟩)
      (fun A R s => s.heap.get? l = some { cls := .type "tuple", dict := dd, data := .seq items n, slots := sl } ∧ s.heap.get? b = some { cls := .type "tuple", dict := dd2, data := .seq items2 n2, slots := sl2 } ∧
        P 0 s ∧ (∀ j (h1 : j < items.size) (h2 : j < items2.size) s', P j s' → wpAny (model prog w) A.in1 (eqBool items[j] items2[j]) (fun k s'' => if k = true then P (j + 1) s'' else R (.ok (.ret (.bool false))) s'') (fun e s'' => R (.error e) s'') s') ∧
        (∀ s', P (min items.size items2.size) s' → R (.ok (.ret (.bool (items.size == items2.size)))) s')) :=
  .of_wp fun A R s h => by
    obtain ⟨hp, g, d, tk, os⟩ := s; obtain ⟨hl, hb, h0, he, h⟩ := h
    have f2 := AutoSeq1.sub_tuple_tuple
    have hZ : (items.toList.zip items2.toList).length = min items.size items2.size := by simp
    wp_walk using wpAny_loadPart' hl, wpAny_loadPart' hb, wpAny_forIn_list _ (fun rest b s' => (b.1 = none ∧ ∃ i, rest = (items.toList.zip items2.toList).drop i ∧ i ≤ min items.size items2.size ∧ P i s')) _
    case turn =>
      rintro ⟨y, x⟩ rest b s' ⟨hb', i, hz, hi, hP⟩
      have hlt : i < (items.toList.zip items2.toList).length := by
        rcases Nat.lt_or_ge i (items.toList.zip items2.toList).length with h' | h'
        · exact h'
        · rw [List.drop_of_length_le h'] at hz; cases hz
      have hm : i < min items.size items2.size := hZ ▸ hlt
      have h1 : i < items.size := Nat.lt_of_lt_of_le hm (Nat.min_le_left _ _)
      have h2 : i < items2.size := Nat.lt_of_lt_of_le hm (Nat.min_le_right _ _)
      rw [List.drop_eq_getElem_cons hlt] at hz
      injection hz with hyx hrest
      have hy : y = items[i] := by have := congrArg Prod.fst hyx; simpa using this
      have hx : x = items2[i] := by have := congrArg Prod.snd hyx; simpa using this
      subst hy hx
      refine wpAny_bind (wpAny_mono (he i h1 h2 _ hP) (fun k s'' hk => ?_) (fun _ _ z => z))
      cases k with
      | true =>
        rw [if_pos rfl] at hk
        wp_walk
        exact ⟨rfl, i + 1, hrest, by omega, hk⟩
      | false =>
        rw [if_neg Bool.false_ne_true] at hk
        wp_walk
        exact ⟨_, rfl, by simpa using hk⟩
    case fin =>
      rintro ⟨b1, b2⟩ s' ⟨hb', i, hz, hi, hP⟩
      simp only at hb'
      subst hb'
      have hge : min items.size items2.size ≤ i := by
        rcases Nat.lt_or_ge i (items.toList.zip items2.toList).length with h' | h'
        · rw [List.drop_eq_getElem_cons h'] at hz; cases hz
        · exact hZ ▸ h'
      have hie : i = min items.size items2.size := by omega
      subst hie
      have := h s' hP
      wp_walk
      exact ⟨_, rfl, by simpa [Builtin.Tuple.tupleCompareSizes] using this⟩
    case h =>
      exact ⟨rfl, 0, rfl, by omega, h0⟩
end
section
variable {prog : Program} {w : World} {A : Around} {s : Shared}
theorem em_rc_tuples {E : Value → Shared → Prop} {l b : Addr} {items items2 : Array Value} {Q : Value → Shared → Prop} (hl : s.heap.IsTuple l items) (hb : s.heap.IsTuple b items2) (hu : A.units < cLine)
    (P : Nat → Shared → Prop) (h0 : P 0 s) (he : ∀ j (h1 : j < items.size) (h2 : j < items2.size) s', P j s' → wpAny (model prog w) A.in1 (eqBool items[j] items2[j]) (fun k s'' => if k = true then P (j + 1) s'' else Q (.bool false) s'') E s')
    (h : ∀ s', P (min items.size items2.size) s' → Q (.bool (items.size == items2.size)) s') :
    wpAny (model prog w) A (richCompare .Eq (.ref l) (.ref b)) Q E s := by
  obtain ⟨⟨cls, dd, data, sl⟩, ho, hc, n, hd⟩ := id hl
  obtain ⟨⟨cls2, dd2, data2, sl2⟩, ho2, hc2, n2, hd2⟩ := id hb
  simp only at hc hd hc2 hd2
  subst hc hd hc2 hd2
  exact wpAny_richCompare_same_room (T := "tuple") (op := .Eq) ⟨_, ho, rfl⟩ ⟨_, ho2, rfl⟩ F.slot_tuple_eq (call_meetsIn F.slot_tuple_eq ⟨_, ho, rfl⟩ F.entry_tuple_eq (F.args_tuple_eq_2 _ _) (em_tuple_eq l b items items2 n n2 dd dd2 sl sl2 P)
    ⟨ho, ho2, h0, fun j h1 h2 s' hP => wpAny_mono (he j h1 h2 s' hP) (fun k s'' hk => by
      cases k with
      | true => rw [if_pos rfl] at hk; rw [if_pos rfl]; exact hk
      | false =>
        rw [if_neg Bool.false_ne_true] at hk
        rw [if_neg Bool.false_ne_true]
        exact ⟨(fun x => nomatch x), hk⟩) (fun _ _ z => z), fun s' hP => ⟨(fun x => nomatch x), h s' hP⟩⟩) hu
end
end PySem.SeqAt
/-! EM67: promises of readings; fields read anew; a subscript of an instance that is set; tuples of Ratios compared. -/
namespace EM
open PySem PySem.Spec PyProof.Rows L2
/-! ### fields -/
structure FldS (K : PySem.W.Frag) (f : Str) (x : V) (H : Hp) (Q : VK) : Prop where
  h : ∃ a C dx fs v, x = .ref a ∧ H a = some (.ins C dx fs) ∧ Cls K C ∧ NoAttr K C f ∧ fs.lookup f = some v ∧ Q v H
def tFldN (K : PySem.W.Frag) (f : Str) (te : TE) : TE := fun σ H Q => te σ H fun x H1 => FldS K f x H1 Q
theorem pe_fldN {X : Cx} {e : Expr} {te : TE} {pos : Pos} {f : Str} (he : PE X e te) (hab : attributeBase e f X.env (eval e X.env) = eval e X.env := by rfl) : PE X (.Attribute e f pos) (tFldN X.K f te) :=
  (pe_fld he.mc hab).of fun σ H Q q => ⟨_, q, fun x H1 ⟨⟨a, C, dx, fs, v, e, h, c, n, l, k⟩⟩ => ⟨a, C, dx, fs, v, e, h, c, n, l, k⟩⟩
theorem fld_bs {K : PySem.W.Frag} {f : Str} {p a C dx : Addr} {H : Hp} {fs : List (Str × V)} {v : V} {Q : VK} (h : At p H a (.ins C dx fs)) (c : Cls K C) (n : NoAttr K C f) (e : fs.lookup f = some v) (k : Q v H) : FldS K f (.ref a) H Q := ⟨a, C, dx, fs, v, rfl, h.at_, c, n, e, k⟩
/-! ### isinstance of kept errors, told -/
theorem isX_own {K : PySem.W.Frag} {p a C d D : Addr} {fs : List (Str × V)} {H : Hp} {b : Bool} {Q : VK} (h : ErrP p H a C d fs) (k : ExcK K C) (e : PySem.W.kitOne K (.ref C) (.ref D) = some b) (q : Q (.bl b) H) : Sr (rIsX K) [.ref a, .ref D] H Q :=
  ⟨p, a, C, d, fs, _, rfl, h, k, .inl ⟨_, b, .own D, e, q⟩⟩
theorem isX_ty {K : PySem.W.Frag} {p a C d : Addr} {n : String} {fs : List (Str × V)} {H : Hp} {b : Bool} {Q : VK} (h : ErrP p H a C d fs) (k : ExcK K C) (e : PySem.W.kitOne K (.ref C) (.type n) = some b) (q : Q (.bl b) H) : Sr (rIsX K) [.ref a, .ty n] H Q :=
  ⟨p, a, C, d, fs, _, rfl, h, k, .inl ⟨_, b, .ty n, e, q⟩⟩
theorem clsV_refs : ∀ cs : List Addr, Paired ClsV (cs.map V.ref) (cs.map Value.ref)
  | [] => .nil
  | c :: r => .cons (.own c) (clsV_refs r)
theorem isX_tup {K : PySem.W.Frag} {p a C d tp : Addr} {cs : List Addr} {fs : List (Str × V)} {H : Hp} {b : Bool} {Q : VK} (h : ErrP p H a C d fs) (k : ExcK K C) (ht : At p H tp (.tup (cs.map V.ref))) (e : PySem.W.kitAny K (.ref C) (cs.map Value.ref) = some b) (q : Q (.bl b) H) : Sr (rIsX K) [.ref a, .ref tp] H Q :=
  ⟨p, a, C, d, fs, _, rfl, h, k, .inr ⟨tp, _, _, b, rfl, ht.at_, clsV_refs cs, e, q⟩⟩
theorem kitAny_no {K : PySem.W.Frag} {t : Value} : ∀ cs : List Addr, (∀ c ∈ cs, PySem.W.kitOne K t (.ref c) = some false) → PySem.W.kitAny K t (cs.map Value.ref) = some false
  | [], _ => rfl
  | c :: r, h => kitAny_cons (b := false) (h c List.mem_cons_self) (fun _ => kitAny_no r fun x hx => h x (List.mem_cons_of_mem _ hx)) (fun z => nomatch z)
/-! ### promises of readings -/
/-- an index that is none -/
def NoIxR (K : PySem.W.Frag) (p : Addr) (H : Hp) (m : Nat) (y : V) : Prop := (∃ i, y = .int i ∧ ¬ (0 ≤ i ∧ i < (m : Int))) ∨ OddM K p H y
theorem NoIxR.ext {K : PySem.W.Frag} {p : Addr} {H H' : Hp} {m : Nat} {y : V} (h : NoIxR K p H m y) (x : Ext p H H') : NoIxR K p H' m y := by
  rcases h with h | h
  · exact .inl h
  · exact .inr (h.ext x)
/-- an own error with one field -/
def ErrOut (K : PySem.W.Frag) (T : List (Addr × Str)) (p l : Addr) (n : Nat) (H : Hp) (E : XK) (C f : Str) (v : V) : Prop := ∀ d H', Ext p H H' → Bs T p l n H' → At p H' d (.xd [(f, v)]) → E (.ref (He.ga K C)) (some d) H'
theorem ErrOut.ext {K : PySem.W.Frag} {T : List (Addr × Str)} {p l : Addr} {n : Nat} {H H1 : Hp} {E : XK} {C f : Str} {v : V} (h : ErrOut K T p l n H E C f v) (x : Ext p H H1) : ErrOut K T p l n H1 E C f v := fun d H' x1 B1 a1 => h d H' (x.trans x1) B1 a1
def spCountR : Sp := fun vs H Q _ => ∃ m : Nat, vs = [.int m] ∧ Q (.bl (decide (m % 2 = 0 ∧ 4 ≤ m ∧ m ≤ 128))) H
def spNeedE (K : PySem.W.Frag) : Sp := fun vs H Q E => ∃ (T : List (Addr × Str)) (p l : Addr) (n m : Nat) (v : V), vs = [v, .int m] ∧ Bs T p l n H ∧ ((∃ i : Nat, v = .int i ∧ i < m ∧ Q .non H) ∨ (NoIxR K p H m v ∧ ErrOut K T p l n H E "NoEdge" "value" v))
def okLen (n : Nat) : Prop := n % 2 = 0 ∧ 4 ≤ n ∧ n ≤ 128
def spEdgesR (K : PySem.W.Frag) : Sp := fun vs H Q _ => ∃ (T : List (Addr × Str)) (p l a : Addr) (n : Nat) (xs : List V) (es : List (Int × Int)), vs = [.ref a] ∧ Bs T p l n H ∧ At p H a (.tup xs) ∧ NumsP K p H xs es ∧ RowOk 2000 es ∧ es.length ≤ 128 ∧
  ∀ q ys H', Ext p H H' → Bs T p l n H' → At p H' q (.tup ys) → RatsP K p H' ys es → Q (.ref q) H'
def spInitR (K : PySem.W.Frag) : Sp := fun vs H Q _ => ∃ (T : List (Addr × Str)) (p l x dx W : Addr) (n : Nat) (xs : List V) (es : List (Int × Int)), vs = [.ref x, .ref W] ∧ Bs T p l n H ∧ H x = some (.ins (He.ga K "Reading") dx []) ∧ At p H W (.tup xs) ∧ NumsP K p H xs es ∧ RowOk 2000 es ∧ okLen es.length ∧
  ∀ H' q, XtR p x H H' → Bs T p l n H' → RdP K p H' x q es → Q .non H'
abbrev spInitRS (K : PySem.W.Frag) : Sp := fun vs H Q E => ∃ ws rest, vs = ws ++ rest ∧ ws.length = ["self"].length ∧ rest.length ≤ sizeLine ∧ ∀ W, H W = none → spInitR K (ws ++ [V.ref W]) (upd H W (.tup rest)) Q E
/-- nothing that is kept stood at r -/
structure Fresh (p : Addr) (H : Hp) (r : Addr) : Prop where
  h : ∀ o, H r = some o → r = p ∨ ∃ ps, o = .tbl ps
theorem Fresh.none {p r : Addr} {H : Hp} (h : H r = none) : Fresh p H r := ⟨fun o e => by rw [h] at e; cases e⟩
theorem Fresh.back {p r : Addr} {H H1 : Hp} (f : Fresh p H1 r) (x : Ext p H H1) : Fresh p H r := ⟨fun o e => Classical.byContradiction fun z => by
  have n1 : r ≠ p := fun y => z (.inl y)
  have n2 : ∀ ps, o ≠ .tbl ps := fun ps y => z (.inr ⟨ps, y⟩)
  exact z (f.h o (x.k r o e n1 n2))⟩
theorem Fresh.ne {p r a : Addr} {H : Hp} {o : HO} (f : Fresh p H r) (h : At p H a o) : r ≠ a := fun z => by
  subst z
  rcases f.h o h.at_ with e | ⟨ps, e⟩
  · exact h.ne e
  · exact h.nt ps e
/-- Reading(..) of rising numbers -/
def spReadX (K : PySem.W.Frag) : Sp := fun vs H Q _ => ∃ (T : List (Addr × Str)) (p l : Addr) (n : Nat) (es : List (Int × Int)), Bs T p l n H ∧ NumsP K p H vs es ∧ RowOk 2000 es ∧ okLen es.length ∧
  ∀ r q H', Ext p H H' → Bs T p l n H' → RdP K p H' r q es → Fresh p H r → Q (.ref r) H'
theorem XtR.toExt {p x : Addr} {H0 H H' : Hp} (x1 : Ext p H0 H) (y : XtR p x H H') (nx : H0 x = none) : Ext p H0 H' := ⟨fun b o e n1 n3 => y.k b o (x1.k b o e n1 n3) n1 (ne_of_none e nx) n3⟩
theorem mk_ReadX {K : PySem.W.Frag} {H : Hp} {Q : VK} {vs : List V} {E : XK} (h : spReadX K vs H Q E) : ∀ x dx, H x = none → H dx = none → dx ≠ x → spInitRS K (V.ref x :: vs) (upd (upd H dx (.own x)) x (.ins (He.ga K "Reading") dx [])) (fun v H2 => v = .non ∧ Q (.ref x) H2) E := by
  intro x dx nx nd ne
  obtain ⟨T, p, l, n, es, B, hv, ho, hl, k⟩ := h
  refine ⟨[.ref x], vs, rfl, rfl, sz (by rw [hv.len]; have := hl.2.2; omega), fun W hW => ?_⟩
  have s1 : Same H (upd H dx (.own x)) := same_upd nd
  have nx1 : upd H dx (.own x) x = none := by rw [upd_ne ne.symm]; exact nx
  have s2 : Same (upd H dx (.own x)) (upd (upd H dx (.own x)) x (.ins (He.ga K "Reading") dx [])) := same_upd nx1
  have s3 := same_upd (o := HO.tup vs) hW
  have s : Same H (upd (upd (upd H dx (.own x)) x (.ins (He.ga K "Reading") dx [])) W (.tup vs)) := (s1.trans s2).trans s3
  have B3 := B.same s
  have x3 : Ext p H _ := Ext.same s
  have nxW : x ≠ W := by
    intro z
    subst z
    rw [upd_same] at hW
    cases hW
  exact ⟨T, p, l, x, dx, W, n, vs, es, rfl, B3, by rw [upd_ne nxW, upd_same], B3.at_ upd_same (fun _ z => by cases z) (fun _ z => by cases z), hv.ext x3, ho, hl, fun H' q y B' rd => ⟨rfl, k x q H' (XtR.toExt x3 y nx) B' rd (Fresh.none nx)⟩⟩
def spOfR (K : PySem.W.Frag) : Sp := fun vs H Q _ => ∃ (T : List (Addr × Str)) (p l a : Addr) (n : Nat) (c : V) (xs : List V) (es : List (Int × Int)), vs = [c, .ref a] ∧ Bs T p l n H ∧ SeqV p H a xs ∧ NumsP K p H xs es ∧ RowOk 2000 es ∧ okLen es.length ∧
  ∀ r q H', Ext p H H' → Bs T p l n H' → RdP K p H' r q es → Fresh p H r → Q (.ref r) H'
def spRdEdges (K : PySem.W.Frag) : Sp := fun vs H Q _ => ∃ (p r q : Addr) (es : List (Int × Int)), vs = [.ref r] ∧ RdP K p H r q es ∧ Q (.ref q) H
structure RdgS (K : PySem.W.Frag) (x : V) (H : Hp) (Q : VK) : Prop where
  h : ∃ (p r q : Addr) (es : List (Int × Int)), x = .ref r ∧ RdP K p H r q es ∧ Q (.ref q) H
def tRdg (K : PySem.W.Frag) (te : TE) : TE := fun σ H Q => te σ H fun x H1 => RdgS K x H1 Q
theorem rdg_bs {K : PySem.W.Frag} {p r q : Addr} {es : List (Int × Int)} {H : Hp} {Q : VK} (h : RdP K p H r q es) (k : Q (.ref q) H) : RdgS K (.ref r) H Q := ⟨p, r, q, es, rfl, h, k⟩
/-- Reading( *e) -/
def tStarR (K : PySem.W.Frag) (E : XK) (te : TE) : TE := fun σ H Q => te σ H fun v H1 => ∃ a xs, v = V.ref a ∧ (SqT K H1 a xs ∨ SqL K H1 a xs) ∧ Sw (spReadX K) xs H1 Q E
/-! ### r[i] = v by an own __setitem__ -/
/-! ### tuples of Ratios compared -/
structure EqT (K : PySem.W.Frag) (x y : V) (H : Hp) (Q : VK) : Prop where
  h : ∃ T p l n a b xs ys es fs, x = .ref a ∧ y = .ref b ∧ Bs T p l n H ∧ At p H a (.tup xs) ∧ At p H b (.tup ys) ∧ RatsP K p H xs es ∧ RatsP K p H ys fs ∧ RowOk 2000 es ∧ RowOk 2000 fs ∧ ∀ H', Ext p H H' → Bs T p l n H' → Q (.bl (decide (es = fs))) H'
theorem rel_eq {t b u c : Int} (h : Low t b) (g : Low u c) : relB .Eq (t * c) (u * b) = decide ((t, b) = (u, c)) := by
  show decide (V.int (t * c) = V.int (u * b)) = _
  rw [dVi]
  by_cases z : (t, b) = (u, c)
  · injection z with e1 e2
    subst e1 e2
    simp
  · rw [decide_eq_false z]
    refine decide_eq_false (fun e => ?_)
    obtain ⟨e1, e2⟩ := low_eq h g e
    exact z (by rw [e1, e2])
section
variable {X : Cx} {n : Nat} {g : Addr}
theorem op_eqT (hs : PySem.W.findIn X.K (.ref (He.ga X.K "Ratio")) "__eq__" = some (some (.ref g))) (hf : PySem.W.isFn X.K (.ref g) = true) (F : FnR X.prog X.w X.K X.mg X.base (L2.CX X.prog X.w) n g (Sw (spEqXW X.K))) (hr : Room (n + 1) X.A) : OpR X (compareOp .Eq) (EqT X.K) := by
  intro pins s σ H x y v u Q I rx ry h
  obtain ⟨T, p, l, m, a, b, xs, ys, es, fs, rfl, rfl, B, ha, hb, ra, rb, oe, of_, k⟩ := h.h
  cases (show v = Value.ref a from rx)
  cases (show u = Value.ref b from ry)
  obtain ⟨its, rv, pa, _⟩ := I.tuple (SqT.of ha.at_)
  obtain ⟨its2, rv2, pb, _⟩ := I.tuple (SqT.of hb.at_)
  have la : its.toArray.size = es.length := by rw [List.size_toArray, ← rv.length, ra.len]
  have lb : its2.toArray.size = fs.length := by rw [List.size_toArray, ← rv2.length, rb.len]
  show wpAny (model X.prog X.w) X.A (richCompare .Eq (.ref a) (.ref b)) (EP X pins σ Q) X.xe s
  refine PySem.SeqAt.em_rc_tuples pa pb hr.units0 (fun i s' => ∃ H', Inv X pins σ H' s' ∧ Ext p H H' ∧ Bs T p l m H' ∧ ∀ j, j < i → es[j]? = fs[j]?) ⟨H, I, Ext.refl, B, fun j z => absurd z (Nat.not_lt_zero j)⟩ ?_ ?_
  · rintro j h1 h2 s' ⟨H1, I1, x1, B1, hj⟩
    have j1 : j < es.length := by omega
    have j2 : j < fs.length := by omega
    have je : j < xs.length := by rw [ra.len]; exact j1
    have jf : j < ys.length := by rw [rb.len]; exact j2
    obtain ⟨a', ea, ra'⟩ := (ra.ext x1).h j _ _ (List.getElem?_eq_getElem je) (List.getElem?_eq_getElem j1)
    obtain ⟨b', eb, rb'⟩ := (rb.ext x1).h j _ _ (List.getElem?_eq_getElem jf) (List.getElem?_eq_getElem j2)
    obtain ⟨u1, e1, r1⟩ := rv.get (i := j) (List.getElem?_eq_getElem je)
    obtain ⟨u2, e2, r2⟩ := rv2.get (i := j) (List.getElem?_eq_getElem jf)
    rw [ea] at r1
    rw [eb] at r2
    cases (show u1 = Value.ref a' from r1)
    cases (show u2 = Value.ref b' from r2)
    have i1 : its.toArray[j] = Value.ref a' := by
      have := (List.getElem?_eq_some_iff.mp e1).2
      simpa using this
    have i2 : its2.toArray[j] = Value.ref b' := by
      have := (List.getElem?_eq_some_iff.mp e2).2
      simpa using this
    rw [i1, i2]
    have me := List.getElem_mem j1
    have mf := List.getElem_mem j2
    have lo := oe.low _ me
    have lo2 := of_.low _ mf
    have fin : ∀ (r : Bool) (H2 : Hp) (s2 : Shared), Inv X pins σ H2 s2 → Ext p H1 H2 → Bs T p l m H2 → r = decide (es[j] = fs[j]) →
        (if r = true then ∃ H', Inv X pins σ H' s2 ∧ Ext p H H' ∧ Bs T p l m H' ∧ ∀ i, i < j + 1 → es[i]? = fs[i]? else EP X pins σ Q (.bool false) s2) := by
      rintro r H2 s2 I2 x2 B2 rfl
      by_cases z : es[j] = fs[j]
      · rw [decide_eq_true z, if_pos rfl]
        refine ⟨H2, I2, x1.trans x2, B2, fun i hi => ?_⟩
        rcases Nat.lt_or_ge i j with h | h
        · exact hj i h
        · have : i = j := by omega
          subst this
          rw [List.getElem?_eq_getElem j1, List.getElem?_eq_getElem j2, z]
      · rw [decide_eq_false z, if_neg Bool.false_ne_true]
        refine ⟨.bl false, H2, I2, rfl, ?_⟩
        have := k H2 (x1.trans x2) B2
        rwa [decide_eq_false (fun e => z (by subst e; rfl))] at this
    unfold eqBool
    refine wpAny_holding ?_
    refine wpAny_ite_split (fun hab => ?_) (fun _ => ?_)
    · have e : a' = b' := by have := eq_of_beq hab; injection this
      subst e
      obtain ⟨⟨d1, g1⟩, _⟩ := ra'
      obtain ⟨⟨d2, g2⟩, _⟩ := rb'
      rw [g1] at g2
      have ee : es[j] = fs[j] := by
        injection g2 with g2
        injection g2 with _ _ g2
        simp only [rf, List.cons.injEq, Prod.mk.injEq, V.int.injEq, true_and, and_true] at g2
        exact Prod.ext g2.1 g2.2
      first
        | exact wpAny_bind (wpAny_rule (wpAny_pure (fin true H1 s' I1 Ext.refl B1 (decide_eq_true ee).symm)))
        | exact wpAny_rule (wpAny_pure (fin true H1 s' I1 Ext.refl B1 (decide_eq_true ee).symm))
    · obtain ⟨m', hF⟩ := I1.fr
      obtain ⟨⟨d1, g1⟩, n1⟩ := ra'
      obtain ⟨⟨d2, g2⟩, n2⟩ := rb'
      obtain ⟨ox, od, J, _⟩ := ins_at I1 g1
      obtain ⟨oy, od', J', _⟩ := ins_at I1 g2
      have q : Sw (spEqXW X.K) [.ref a', .ref b'] H1 (fun z H2 => ∃ r, z = .bl r ∧ r = decide (es[j] = fs[j]) ∧ Ext p H1 H2 ∧ Bs T p l m H2) E0 :=
        ⟨.inl ⟨T, p, l, m, a', .ref b', _, _, _, _, rfl, ⟨B1, ⟨⟨d1, g1⟩, n1⟩, lo, RatP.num ⟨⟨d2, g2⟩, n2⟩ lo2, (oe.bt _ me).1, (oe.bt _ me).2, (of_.bt _ mf).1, (of_.bt _ mf).2⟩, fun H2 x2 B2 => ⟨_, rfl, (rel_val lo lo2).trans (rel_eq lo lo2), x2, B2⟩⟩⟩
      have c := SlX.run_at (us := [.ref a', .ref b']) (ws := [.ref a', .ref b']) F hr.in1 I1.env0.in1 passL I1 (.cons rfl (.cons rfl .nil)) q
      refine wpAny_bind (PySem.W.cmp_K (op := .Eq) (tb := .ref (He.ga X.K "Ratio")) hr.in1.units0 hF I1.ok.mod.kin J J'.type notFirst_self hs hf (wpAny_mono (wpAny_call c) (fun w s2 z => ?_) fun _ _ z => z))
      obtain ⟨z', H2, I2, rz, r, rfl, er, x2, B2⟩ := z
      cases (show w = Value.bool r from rz)
      have tr : wpAny (model X.prog X.w) X.A.in1 (truthOfDropped (Value.bool r)) (fun k s'' => if k = true then ∃ H', L2.Inv X pins σ H' s'' ∧ Ext p H H' ∧ Bs T p l m H' ∧ ∀ i, i < j + 1 → es[i]? = fs[i]? else EP X pins σ Q (.bool false) s'') X.xe s2 := wpAny_truthy_bool (fin r H2 s2 I2 x2 B2 er)
      exact SlX.cmpback (z := .bl r) (show L2.RelV (.bl r) (Value.bool r) from rfl) tr
  · rintro s' ⟨H1, I1, x1, B1, hj⟩
    refine ⟨.bl (its.toArray.size == its2.toArray.size), H1, I1, rfl, ?_⟩
    have e : (its.toArray.size == its2.toArray.size) = decide (es = fs) := by
      rw [la, lb]
      by_cases z : es = fs
      · subst z
        simp
      · rw [decide_eq_false z]
        simp only [beq_eq_false_iff_ne, ne_eq]
        intro e
        apply z
        apply List.ext_getElem?
        intro i
        rcases Nat.lt_or_ge i es.length with h | h
        · exact hj i (by rw [la, lb]; omega)
        · rw [List.getElem?_eq_none h, List.getElem?_eq_none (by omega)]
    rw [e]
    exact k H1 x1 B1
end
end EM
/-! EM68: enumerate of a tuple, told; rows grown item by item. -/
namespace EM
open PySem PySem.Spec PyProof.Rows L2
structure EnT (K : PySem.W.Frag) (vs : List V) (H : Hp) (R : It → Hp → Prop) : Prop where
  h : ∃ a xs, vs = [.ref a] ∧ H a = some (.tup xs) ∧ R (IteT K a) H
def iEnTN (K : PySem.W.Frag) (ta : TA) : TI := fun σ H R => ta σ H fun vs H1 => EnT K vs H1 R
theorem pi_enumTN {X : Cx} {e : Expr} {ta : TA} {p pos tpos : Pos} {elts : List Expr} {kk : Nat} (hg : Gl X "enumerate") (hm : X.mg "enumerate" = none) (ha : PA X [e] ta) (hs : starEach [e] X.env = [(false, eval e X.env)] := by rfl) :
    PI X (.Tuple elts kk tpos) (.Call (.Name "enumerate" p) [e] [] pos) (iEnTN X.K ta) := ⟨fun pins s σ H R I h => (pi_enumT hg hm ha.mc hs).run pins s σ H R I ⟨_, h, fun vs H1 ⟨⟨a, xs, e, h1, k⟩⟩ => ⟨a, xs, e, SqT.of h1, k⟩⟩⟩
section
variable {T : List (Addr × Str)} {p l a b : Addr} {n : Nat} {H H' : Hp} {K : PySem.W.Frag} {xs ys : List V} {R : It → Hp → Prop} {es fs : List (Int × Int)}
theorem enT (h : At p H a (.tup xs)) (k : R (IteT K a) H) : EnT K [.ref a] H R := ⟨a, xs, rfl, h.at_, k⟩
theorem Mu.nums {c : Addr} {zs us : List V} (m : Mu c H H' (.lst us)) (h : NumsP K p H xs es) (g : At p H c (.lst zs)) : NumsP K p H' xs es := ⟨h.len, fun i x t e1 e2 => m.num (h.h i x t e1 e2) g⟩
theorem RatsP.nil : RatsP K p H [] [] := ⟨rfl, fun i x t e => by simp at e⟩
theorem RatsP.snoc {e : Int × Int} (h : RatsP K p H xs es) (g : RatP K p H a e.1 e.2) : RatsP K p H (xs ++ [.ref a]) (es ++ [e]) := by
  refine ⟨by simp [h.len], fun i x t e1 e2 => ?_⟩
  rcases Nat.lt_or_ge i xs.length with z | z
  · rw [List.getElem?_append_left z] at e1
    rw [List.getElem?_append_left (by rw [← h.len]; exact z)] at e2
    exact h.h i x t e1 e2
  · rw [List.getElem?_append_right z] at e1
    rw [List.getElem?_append_right (by rw [← h.len]; exact z)] at e2
    rw [← h.len] at e2
    rcases Nat.eq_zero_or_pos (i - xs.length) with z0 | z0
    · rw [z0] at e1 e2
      cases e1
      cases e2
      exact ⟨a, rfl, g⟩
    · rw [List.getElem?_eq_none (by simp; omega)] at e1
      cases e1
theorem PairsP.nil : PairsP p H [] [] := ⟨rfl, fun i x t e => by simp at e⟩
theorem PairsP.snoc {e : Int × Int} (h : PairsP p H xs es) (g : At p H a (.tup [.int e.1, .int e.2])) : PairsP p H (xs ++ [.ref a]) (es ++ [e]) := by
  refine ⟨by simp [h.len], fun i x t e1 e2 => ?_⟩
  rcases Nat.lt_or_ge i xs.length with z | z
  · rw [List.getElem?_append_left z] at e1
    rw [List.getElem?_append_left (by rw [← h.len]; exact z)] at e2
    exact h.h i x t e1 e2
  · rw [List.getElem?_append_right z] at e1
    rw [List.getElem?_append_right (by rw [← h.len]; exact z)] at e2
    rw [← h.len] at e2
    rcases Nat.eq_zero_or_pos (i - xs.length) with z0 | z0
    · rw [z0] at e1 e2
      cases e1
      cases e2
      exact ⟨a, rfl, g⟩
    · rw [List.getElem?_eq_none (by simp; omega)] at e1
      cases e1
/-- an item of a row -/
theorem RatsP.get {i : Nat} {e : Int × Int} (h : RatsP K p H xs es) (g : es[i]? = some e) : ∃ a, xs[i]? = some (.ref a) ∧ RatP K p H a e.1 e.2 := by
  have hi : i < xs.length := by rw [h.len]; exact (List.getElem?_eq_some_iff.mp g).1
  obtain ⟨a, ea, r⟩ := h.h i _ e (List.getElem?_eq_getElem hi) g
  exact ⟨a, by rw [List.getElem?_eq_getElem hi, ea], r⟩
theorem PairsP.get {i : Nat} {e : Int × Int} (h : PairsP p H xs es) (g : es[i]? = some e) : ∃ a, xs[i]? = some (.ref a) ∧ At p H a (.tup [.int e.1, .int e.2]) := by
  have hi : i < xs.length := by rw [h.len]; exact (List.getElem?_eq_some_iff.mp g).1
  obtain ⟨a, ea, r⟩ := h.h i _ e (List.getElem?_eq_getElem hi) g
  exact ⟨a, by rw [List.getElem?_eq_getElem hi, ea], r⟩
theorem NumsP.get {i : Nat} {e : Int × Int} (h : NumsP K p H xs es) (g : es[i]? = some e) : ∃ v, xs[i]? = some v ∧ NumP K p H v e.1 e.2 := by
  have hi : i < xs.length := by rw [h.len]; exact (List.getElem?_eq_some_iff.mp g).1
  exact ⟨_, List.getElem?_eq_getElem hi, h.h i _ e (List.getElem?_eq_getElem hi) g⟩
theorem RatsP.nums {n : Nat} (h : RatsP K p H xs es) (o : RowOk n es) : NumsP K p H xs es := ⟨h.len, fun i x t e1 e2 => by
  obtain ⟨a, rfl, r⟩ := h.h i x t e1 e2
  exact r.num (o.low t (List.mem_of_getElem? e2))⟩
theorem RdP.put0 {r q' dx : Addr} {fs : List (Str × V)} (m : Mu r H H' (.ins (He.ga K "Reading") dx (rdf q'))) (g : At p H r (.ins (He.ga K "Reading") dx fs)) (h2 : At p H q' (.tup xs)) (h3 : RatsP K p H xs es) (hne : ∀ t b, fs ≠ rf t b) : RdP K p H' r q' es :=
  have x : XtR p r H H' := XtR.mu m
  ⟨dx, xs, m.hereI g, x.at_ h2 g (by intro z; cases z), ⟨h3.len, fun i y t e1 e2 => by
    obtain ⟨a, e, ra⟩ := h3.h i y t e1 e2
    exact ⟨a, e, x.rat ra g (hne _ _)⟩⟩⟩
theorem take_snocE {α : Type} {l : List α} {i : Nat} {x : α} (h : l[i]? = some x) : l.take (i + 1) = l.take i ++ [x] := by
  rw [List.take_add_one, h]
  rfl
theorem RowOk.not_le {n i : Nat} {e f : Int × Int} (o : RowOk n es) (h1 : es[i]? = some e) (h2 : es[i + 1]? = some f) : relB .LtE (f.1 * e.2) (e.1 * f.2) = false := by
  have := o.rise i e f h1 h2
  show decide (f.1 * e.2 ≤ e.1 * f.2) = false
  exact decide_eq_false (by omega)
end
/-! ### starred items of a display, slices of tuples -/
theorem RatsP.set {K : PySem.W.Frag} {p a : Addr} {H : Hp} {xs : List V} {es : List (Int × Int)} {i : Nat} {e : Int × Int} (h : RatsP K p H xs es) (g : RatP K p H a e.1 e.2) : RatsP K p H (xs.set i (.ref a)) (es.set i e) := by
  refine ⟨by simp [h.len], fun j x t e1 e2 => ?_⟩
  rw [List.getElem?_set] at e1 e2
  by_cases z : i = j
  · subst z
    by_cases hl : i < xs.length
    · rw [if_pos rfl, if_pos hl] at e1
      rw [if_pos rfl, if_pos (by rw [← h.len]; exact hl)] at e2
      cases e1
      cases e2
      exact ⟨a, rfl, g⟩
    · rw [if_pos rfl, if_neg hl] at e1
      cases e1
  · rw [if_neg z] at e1 e2
    exact h.h j x t e1 e2
section
variable {p r q a C d : Addr} {H H' : Hp} {K : PySem.W.Frag} {xs : List V} {es : List (Int × Int)} {fs : List (Str × V)}
theorem ErrP.xt (x : Ext p H H') (h : ErrP p H a C d fs) : ErrP p H' a C d fs := h.ext x
theorem RatsP.xt (x : Ext p H H') (h : RatsP K p H xs es) : RatsP K p H' xs es := h.ext x
theorem NumsP.xt (x : Ext p H H') (h : NumsP K p H xs es) : NumsP K p H' xs es := h.ext x
theorem PairsP.xt (x : Ext p H H') (h : PairsP p H xs es) : PairsP p H' xs es := h.ext x
theorem RdP.xt (x : Ext p H H') (h : RdP K p H r q es) : RdP K p H' r q es := h.ext x
end
end EM
/-! EM69: fractions over one bottom: bounds that do not grow with every sum. -/
namespace EM
open PySem PySem.Spec PyProof.Rows L2
/-- in lowest terms, the bottom divides D, the value is at most M -/
structure Dv (D M : Nat) (e : Int × Int) : Prop where
  low : Low e.1 e.2
  dvd : e.2 ∣ (D : Int)
  le : (e.1.natAbs : Int) ≤ M * e.2
theorem Dv.mono {D M D' M' : Nat} {e : Int × Int} (h : Dv D M e) (h1 : D ∣ D') (h2 : M ≤ M') : Dv D' M' e :=
  ⟨h.low, Int.dvd_trans h.dvd (Int.natCast_dvd_natCast.mpr h1), Int.le_trans h.le (Int.mul_le_mul_of_nonneg_right (by omega) (Int.le_of_lt h.low.pos))⟩
theorem dvd_cop {a b : Int} {D : Int} (h : Low a b) (g : b ∣ a * D) : b ∣ D := by
  have h1 : b.natAbs ∣ a.natAbs * D.natAbs := by
    have := Int.natAbs_dvd_natAbs.mpr g
    rwa [Int.natAbs_mul] at this
  have h2 : Nat.Coprime b.natAbs a.natAbs := by
    have := h.red
    rw [Int.gcd_comm] at this
    exact this
  exact Int.natAbs_dvd_natAbs.mp (h2.dvd_of_dvd_mul_left h1)
theorem n_dvd {x y X : Int} {D : Nat} (hy : y ≠ 0) (e : x * D = X * y) : nBot x y ∣ (D : Int) := by
  refine dvd_cop (n_low (t := x) hy) ?_
  have h1 := n_cross (t := x) (b := y)
  have h2 : nTop x y * (D : Int) = X * nBot x y := by
    refine Int.eq_of_mul_eq_mul_right (a := y) hy ?_
    calc nTop x y * D * y = (nTop x y * y) * D := by ac_rfl
      _ = x * nBot x y * D := by rw [h1]
      _ = (x * D) * nBot x y := by ac_rfl
      _ = (X * y) * nBot x y := by rw [e]
      _ = X * nBot x y * y := by ac_rfl
  rw [h2]
  exact Int.dvd_mul_left _ _
theorem n_le {x y : Int} {M : Nat} (hy : 0 < y) (h : (x.natAbs : Int) ≤ M * y) : ((nTop x y).natAbs : Int) ≤ M * nBot x y := by
  have lo := n_low (t := x) (show y ≠ 0 by omega)
  have h1 := n_cross (t := x) (b := y)
  have e : ((nTop x y).natAbs : Int) * y = (x.natAbs : Int) * nBot x y := by
    have := congrArg Int.natAbs h1
    rw [Int.natAbs_mul, Int.natAbs_mul] at this
    have z := congrArg (Nat.cast : Nat → Int) this
    rw [Int.natCast_mul, Int.natCast_mul] at z
    rw [show ((y.natAbs : Nat) : Int) = y from by omega, show (((nBot x y).natAbs : Nat) : Int) = nBot x y from by have := lo.pos; omega] at z
    exact z
  refine Int.le_of_mul_le_mul_right (a := y) ?_ hy
  rw [e]
  calc (x.natAbs : Int) * nBot x y ≤ (M * y) * nBot x y := Int.mul_le_mul_of_nonneg_right h (Int.le_of_lt lo.pos)
    _ = M * nBot x y * y := by ac_rfl
theorem Dv.frac {x y : Int} {D M : Nat} (hy : 0 < y) (hd : y ∣ (D : Int)) (h : (x.natAbs : Int) ≤ M * y) : Dv D M (nTop x y, nBot x y) := by
  refine ⟨n_low (by omega), ?_, n_le hy h⟩
  obtain ⟨k, hk⟩ := hd
  exact n_dvd (X := x * k) (by omega) (by rw [hk]; ac_rfl)
theorem Dv.add {D M N : Nat} {b e : Int × Int} (hb : Dv D N b) (he : Dv D M e) : Dv D (M + N) (addF b e) := by
  have b0 := hb.low.pos
  have e0 := he.low.pos
  have y0 : 0 < e.2 * b.2 := Int.mul_pos e0 b0
  refine ⟨addF_low hb.low he.low, ?_, ?_⟩
  · obtain ⟨k1, h1⟩ := he.dvd
    obtain ⟨k2, h2⟩ := hb.dvd
    refine n_dvd (X := e.1 * k1 + b.1 * k2) (by omega) ?_
    calc (e.1 * b.2 + b.1 * e.2) * (D : Int) = e.1 * b.2 * D + b.1 * e.2 * D := Int.add_mul ..
      _ = e.1 * b.2 * (e.2 * k1) + b.1 * e.2 * (b.2 * k2) := by rw [← h1, ← h2]
      _ = (e.1 * k1 + b.1 * k2) * (e.2 * b.2) := by rw [Int.add_mul]; congr 1 <;> ac_rfl
  · refine n_le y0 ?_
    have h1 : ((e.1 * b.2).natAbs : Int) ≤ M * e.2 * b.2 := by
      rw [Int.natAbs_mul, Int.natCast_mul, show ((b.2.natAbs : Nat) : Int) = b.2 from by omega]
      exact Int.mul_le_mul_of_nonneg_right he.le (by omega)
    have h2 : ((b.1 * e.2).natAbs : Int) ≤ N * b.2 * e.2 := by
      rw [Int.natAbs_mul, Int.natCast_mul, show ((e.2.natAbs : Nat) : Int) = e.2 from by omega]
      exact Int.mul_le_mul_of_nonneg_right hb.le (by omega)
    have h3 : (((e.1 * b.2 + b.1 * e.2).natAbs : Nat) : Int) ≤ ((e.1 * b.2).natAbs : Int) + ((b.1 * e.2).natAbs : Int) := by omega
    have h4 : ((M + N : Nat) : Int) * (e.2 * b.2) = M * e.2 * b.2 + N * b.2 * e.2 := by
      rw [Int.natCast_add, Int.add_mul]
      congr 1 <;> ac_rfl
    rw [h4]
    omega
theorem Dv.mul {D D2 M N : Nat} {b e : Int × Int} (hb : Dv D2 N b) (he : Dv D M e) : Dv (D * D2) (M * N) (mulF b e) := by
  have b0 := hb.low.pos
  have e0 := he.low.pos
  have y0 : 0 < e.2 * b.2 := Int.mul_pos e0 b0
  refine ⟨mulF_low hb.low he.low, ?_, ?_⟩
  · obtain ⟨k1, h1⟩ := he.dvd
    obtain ⟨k2, h2⟩ := hb.dvd
    refine n_dvd (X := e.1 * b.1 * (k1 * k2)) (by omega) ?_
    rw [Int.natCast_mul, h1, h2]
    ac_rfl
  · refine n_le y0 ?_
    rw [Int.natAbs_mul, Int.natCast_mul, Int.natCast_mul]
    calc (e.1.natAbs : Int) * (b.1.natAbs : Int) ≤ (M * e.2) * (N * b.2) := Int.mul_le_mul he.le hb.le (by omega) (Int.le_trans (by omega) he.le)
      _ = M * N * (e.2 * b.2) := by ac_rfl
theorem Dv.neg {D M : Nat} {e : Int × Int} (h : Dv D M e) : Dv D M (-e.1, e.2) := ⟨low_neg h.low, h.dvd, by rw [show (-e.1, e.2).1 = -e.1 from rfl, Int.natAbs_neg]; exact h.le⟩
theorem Dv.bt {D M k m : Nat} {e : Int × Int} (h : Dv D M e) (hD : 0 < D) (h1 : D < 2 ^ k) (h2 : M < 2 ^ m) : Bt (k + m) e.1 ∧ Bt (k + m) e.2 := by
  have e0 := h.low.pos
  have h3 : e.2.natAbs ≤ D := by
    have := Nat.le_of_dvd hD (Int.natCast_dvd_natCast.mp (by rw [Int.dvd_natAbs.symm] at *; exact (Int.natAbs_dvd.mpr h.dvd)))
    exact this
  have k2 : Bt k e.2 := Nat.lt_of_le_of_lt h3 h1
  refine ⟨?_, k2.mono (by omega)⟩
  have h4 := h.le
  have h5 : e.1.natAbs ≤ M * e.2.natAbs := by
    have : ((M * e.2.natAbs : Nat) : Int) = M * e.2 := by
      rw [Int.natCast_mul, show ((e.2.natAbs : Nat) : Int) = e.2 from by omega]
    omega
  show e.1.natAbs < 2 ^ (k + m)
  rw [Nat.pow_add]
  refine Nat.lt_of_le_of_lt h5 ?_
  rw [Nat.mul_comm (2 ^ k)]
  exact Nat.mul_lt_mul'' h2 k2
/-- a rising row over the bottom D -/
structure RowD (D M : Nat) (es : List (Int × Int)) : Prop where
  dv : ∀ e ∈ es, Dv D M e
  rise : ∀ (i : Nat) e f, es[i]? = some e → es[i + 1]? = some f → e.1 * f.2 < f.1 * e.2
theorem RowD.mono {D M D' M' : Nat} {es : List (Int × Int)} (h : RowD D M es) (h1 : D ∣ D') (h2 : M ≤ M') : RowD D' M' es := ⟨fun e he => (h.dv e he).mono h1 h2, h.rise⟩
theorem RowD.ok {D M k m n : Nat} {es : List (Int × Int)} (h : RowD D M es) (hD : 0 < D) (h1 : D < 2 ^ k) (h2 : M < 2 ^ m) (hn : k + m ≤ n) : RowOk n es :=
  ⟨fun e he => (h.dv e he).low, fun e he => ⟨((h.dv e he).bt hD h1 h2).1.mono hn, ((h.dv e he).bt hD h1 h2).2.mono hn⟩, h.rise⟩
theorem RowD.add {D M N : Nat} {es : List (Int × Int)} {b : Int × Int} (h : RowD D M es) (hb : Dv D N b) : RowD D (M + N) (es.map (addF b)) := by
  refine ⟨fun e he => ?_, fun i e f h1 h2 => ?_⟩
  · obtain ⟨e0, h0, rfl⟩ := List.mem_map.mp he
    exact hb.add (h.dv _ h0)
  · rw [List.getElem?_map] at h1 h2
    obtain ⟨e0, g1, rfl⟩ := Option.map_eq_some_iff.mp h1
    obtain ⟨f0, g2, rfl⟩ := Option.map_eq_some_iff.mp h2
    exact (addF_lt hb.low (h.dv _ (List.mem_of_getElem? g1)).low (h.dv _ (List.mem_of_getElem? g2)).low).mpr (h.rise i _ _ g1 g2)
theorem RowD.mul {D D2 M N : Nat} {es : List (Int × Int)} {b : Int × Int} (h : RowD D M es) (hb : Dv D2 N b) (h0 : 0 < b.1) : RowD (D * D2) (M * N) (es.map (mulF b)) := by
  refine ⟨fun e he => ?_, fun i e f h1 h2 => ?_⟩
  · obtain ⟨e0, h0, rfl⟩ := List.mem_map.mp he
    exact hb.mul (h.dv _ h0)
  · rw [List.getElem?_map] at h1 h2
    obtain ⟨e0, g1, rfl⟩ := Option.map_eq_some_iff.mp h1
    obtain ⟨f0, g2, rfl⟩ := Option.map_eq_some_iff.mp h2
    exact (mulF_lt hb.low h0 (h.dv _ (List.mem_of_getElem? g1)).low (h.dv _ (List.mem_of_getElem? g2)).low).mpr (h.rise i _ _ g1 g2)
/-- more is greater -/
theorem addF_gt {b e : Int × Int} (hb : Low b.1 b.2) (he : Low e.1 e.2) (h0 : 0 < b.1) : e.1 * (addF b e).2 < (addF b e).1 * e.2 := by
  have b0 := hb.pos
  have e0 := he.pos
  have p1 : 0 < e.2 * b.2 := Int.mul_pos e0 b0
  refine (cross_lt (t := e.1) (b := e.2) (u := e.1 * b.2 + b.1 * e.2) (c := e.2 * b.2) e0 p1 e0 (addF_low hb he).pos rfl n_cross.symm).mp ?_
  have h1 : (e.1 * b.2 + b.1 * e.2) * e.2 = e.1 * (e.2 * b.2) + b.1 * e.2 * e.2 := by
    rw [Int.add_mul]
    congr 1
    ac_rfl
  rw [h1]
  have : 0 < b.1 * e.2 * e.2 := Int.mul_pos (Int.mul_pos h0 e0) e0
  omega
theorem RowD.snoc {D M : Nat} {es : List (Int × Int)} {e f : Int × Int} (h : RowD D M es) (hf : Dv D M f) (hl : ∀ e, es[es.length - 1]? = some e → e.1 * f.2 < f.1 * e.2) : RowD D M (es ++ [f]) := by
  refine ⟨fun x hx => ?_, fun i x y h1 h2 => ?_⟩
  · rcases List.mem_append.mp hx with z | z
    · exact h.dv x z
    · rw [List.mem_singleton.mp z]
      exact hf
  · rcases Nat.lt_or_ge (i + 1) es.length with z | z
    · rw [List.getElem?_append_left (by omega)] at h1
      rw [List.getElem?_append_left z] at h2
      exact h.rise i x y h1 h2
    · rw [List.getElem?_append_right z] at h2
      rcases Nat.eq_zero_or_pos (i + 1 - es.length) with z0 | z0
      · rw [z0] at h2
        cases h2
        rw [List.getElem?_append_left (by omega)] at h1
        rw [show i = es.length - 1 by omega] at h1
        exact hl x h1
      · rw [List.getElem?_eq_none (by simp; omega)] at h2
        cases h2
theorem Ext.muF {p F : Addr} {H H1 H2 : Hp} {o : HO} (f : Fresh p H F) (y : Ext p H H1) (m : Mu F H1 H2 o) : Ext p H H2 := ⟨fun b u e nb nt => by
  have hb : b ≠ F := fun z => by
    subst z
    rcases f.h u e with h | ⟨ps, h⟩
    · exact nb h
    · exact nt ps h
  rw [m.old b hb]
  exact y.k b u e nb nt⟩
end EM
/-! EM70: a statement at which the stepping word stops, what stands behind it read once. -/
namespace EM
open PySem PySem.Spec PyProof.Rows L2
end EM
/-! EM71: list(list), rows of pairs as data. -/
namespace EM
open PySem PySem.Spec PyProof.Rows L2
def rLstLN : List V → Hp → VK → Prop := fun vs H Q => ∃ a xs, vs = [.ref a] ∧ H a = some (.lst xs) ∧ DnS (.lst xs) H Q
theorem call_listLN {X : Cx} : CallR X (.type "list") (Sr rLstLN) := callR_sw (callR_of call_list_of fun vs H Q ⟨a, xs, e, h, z⟩ => ⟨a, xs, e, .inl (SqL.of h), New.upd z.h⟩)
theorem lstLL {p a : Addr} {H : Hp} {xs : List V} {Q : VK} (h : At p H a (.lst xs)) (k : DnS (.lst xs) H Q) : Sr rLstLN [.ref a] H Q := ⟨a, xs, rfl, h.at_, k⟩
end EM
/-! EM72: an instance whose class has an operator but no reflected one, with an int; an operator in place by its own def. -/
namespace EM
open PySem PySem.Spec PyProof.Rows L2
end EM
/-! EM73: targets of two names hand on what is wanted. -/
namespace EM
open PySem PySem.Spec PyProof.Rows L2
end EM
/-! EM74: fractions over one bottom as whole numbers. -/
namespace EM
open PySem PySem.Spec PyProof.Rows L2
/-- the number of D-th parts -/
def sc (D : Nat) (e : Int × Int) : Int := e.1 * ((D : Int) / e.2)
section
variable {D M N : Nat} {b e f : Int × Int}
theorem Dv.sc_mul (h : Dv D M e) : sc D e * e.2 = e.1 * D := by
  unfold sc
  rw [Int.mul_assoc, Int.ediv_mul_cancel h.dvd]
theorem Dv.sc_add (hb : Dv D N b) (he : Dv D M e) : sc D (addF b e) = sc D e + sc D b := by
  have ha := hb.add he
  have b0 := hb.low.pos
  have e0 := he.low.pos
  have a0 := ha.low.pos
  have h1 := ha.sc_mul
  have h2 := hb.sc_mul
  have h3 := he.sc_mul
  have h4 : (addF b e).1 * (e.2 * b.2) = (e.1 * b.2 + b.1 * e.2) * (addF b e).2 := n_cross
  generalize addF b e = a at *
  generalize sc D a = A at *
  generalize sc D b = B at *
  generalize sc D e = E at *
  obtain ⟨a1, a2⟩ := a
  obtain ⟨b1, b2⟩ := b
  obtain ⟨e1, e2⟩ := e
  simp only at *
  have z : (A - (E + B)) * (a2 * (e2 * b2)) = 0 := by
    have e1' : (A - (E + B)) * (a2 * (e2 * b2)) = (A * a2) * (e2 * b2) - (E * e2) * (b2 * a2) - (B * b2) * (e2 * a2) := by grind
    rw [e1', h1, h2, h3]
    have : a1 * D * (e2 * b2) = (a1 * (e2 * b2)) * D := by grind
    rw [this, h4]
    grind
  have p : a2 * (e2 * b2) ≠ 0 := Int.mul_ne_zero (by omega) (Int.mul_ne_zero (by omega) (by omega))
  rcases Int.mul_eq_zero.mp z with z | z
  · omega
  · exact absurd z p
theorem Dv.sc_cross (he : Dv D M e) (hf : Dv D N f) : (e.1 * f.2) * D = sc D e * (e.2 * f.2) ∧ (f.1 * e.2) * D = sc D f * (e.2 * f.2) := by
  have h1 := he.sc_mul
  have h2 := hf.sc_mul
  constructor
  · rw [← Int.mul_assoc, h1]; ac_rfl
  · rw [Int.mul_comm e.2, ← Int.mul_assoc, h2]; ac_rfl
theorem Dv.sc_lt (hD : 0 < D) (he : Dv D M e) (hf : Dv D N f) : e.1 * f.2 < f.1 * e.2 ↔ sc D e < sc D f := by
  obtain ⟨h1, h2⟩ := he.sc_cross hf
  have p : 0 < e.2 * f.2 := Int.mul_pos he.low.pos hf.low.pos
  have d : (0 : Int) < D := by omega
  constructor
  · intro h
    have := Int.mul_lt_mul_of_pos_right h d
    rw [h1, h2] at this
    exact Int.lt_of_mul_lt_mul_right this (Int.le_of_lt p)
  · intro h
    have := Int.mul_lt_mul_of_pos_right h p
    rw [← h1, ← h2] at this
    exact Int.lt_of_mul_lt_mul_right this (Int.le_of_lt d)
end
end EM
/-! EM75: lambdas that are kept: the function object is tracked from its making on; a def is called with it later. -/
namespace EM
open PySem PySem.Spec PyProof.Rows L2
/-! ### the rules -/
end EM
/-! EM76: w in (i, j, ..) for ints; texts of numbers. -/
namespace EM
open PySem PySem.Spec PyProof.Rows L2
end EM
/-! EM77: an operator whose left side's own def declines (NotImplemented), the right side's reflected def answers; an instance op one of another class, without a reflected def. -/
namespace PySem.W
open PySem PySem.Calls PyProof.Rows Builtin
end PySem.W
namespace EM
open PySem PySem.Spec PyProof.Rows L2
end EM
/-! EM78: enumerate, list(..), tuple(..) of a list or a tuple; integers among other items. -/
namespace EM
open PySem PySem.Spec PyProof.Rows L2
section
variable {K : PySem.W.Frag} {T : List (Addr × Str)} {p l a b : Addr} {n : Nat} {H H' : Hp} {xs ys : List V} {Q : VK}
theorem SeqV.eq (h : SeqV p H a xs) (x : Ext p H H') : H' a = H a := h.elim (·.eq x) (·.eq x)
end
/-! ### integers among other items -/
/-- a value that is the integer o, or is none -/
def ItI (K : PySem.W.Frag) (p : Addr) (H : Hp) (v : V) : Option Int → Prop
  | some i => v = .int i
  | none => OddM K p H v
theorem ItI.ext {K : PySem.W.Frag} {p : Addr} {H H' : Hp} {v : V} {o : Option Int} (h : ItI K p H v o) (x : Ext p H H') : ItI K p H' v o := by
  cases o with
  | some e => exact h
  | none => exact OddM.ext h x
structure ItsI (K : PySem.W.Frag) (p : Addr) (H : Hp) (xs : List V) (os : List (Option Int)) : Prop where
  len : xs.length = os.length
  h : ∀ (i : Nat) (v : V) (o : Option Int), xs[i]? = some v → os[i]? = some o → ItI K p H v o
theorem ItsI.ext {K : PySem.W.Frag} {p : Addr} {H H' : Hp} {xs : List V} {os : List (Option Int)} (h : ItsI K p H xs os) (x : Ext p H H') : ItsI K p H' xs os := ⟨h.len, fun i v o a b => (h.h i v o a b).ext x⟩
theorem ItsI.all {K : PySem.W.Frag} {p : Addr} {H : Hp} {ws : List Int} : ItsI K p H (ws.map V.int) (ws.map some) := ⟨by simp, fun i v o a b => by
  rw [List.getElem?_map] at a b
  cases e : ws[i]? with
  | none => rw [e] at a; cases a
  | some w =>
    rw [e] at a b
    cases a
    cases b
    exact (rfl : V.int w = V.int w)⟩
end EM
/-! EM79: the head's run told in two parts (each part is a run of the kernel of its own, with less memory). -/
namespace EM
open PySem PySem.Spec PyProof.Rows L2
end EM
/-! EM80: x(e, ..) and x(k = v, ..) of an instance with its own __call__. -/
namespace PySem.W
open PySem PySem.Spec PySem.Calls PyProof.Rows
end PySem.W
namespace EM
open PySem PySem.Spec PyProof.Rows L2
end EM
/-! EM81: isinstance of a kept error without fields. -/
namespace EM
open PySem PySem.Spec PyProof.Rows L2
end EM
/-! EM82: repr of data that holds texts; zip of two lists. -/
namespace EM
open PySem PySem.Spec PyProof.Rows L2
/-- a datum that may be shown: its text has at most n signs, it is at most m deep -/
structure Fr (n m : Nat) (d : PyData) : Prop where
  sh : d.showable = true
  len : d.shown.length ≤ n
  dep : d.depth ≤ m
structure FrL (n m : Nat) (ds : List PyData) : Prop where
  sh : PyData.showableAll ds = true
  len : (ds.map fun d => d.shown.length).sum + 2 * ds.length ≤ n
  dep : PyData.depthAll ds ≤ m
theorem FrL.nil : FrL 0 0 [] := ⟨rfl, Nat.le_refl _, Nat.le_refl _⟩
theorem FrL.cons {n1 m1 n2 m2 : Nat} {d : PyData} {ds : List PyData} (h : Fr n1 m1 d) (g : FrL n2 m2 ds) : FrL (n1 + n2 + 2) (max m1 m2) (d :: ds) := by
  refine ⟨?_, ?_, ?_⟩
  · show (d.showable && PyData.showableAll ds) = true
    rw [h.sh, g.sh]
    rfl
  · have h1 := h.len
    have h2 := g.len
    simp only [List.map_cons, List.sum_cons, List.length_cons]
    omega
  · show max d.depth (PyData.depthAll ds) ≤ _
    have h1 := h.dep
    have h2 := g.dep
    omega
theorem Fr.list {n m : Nat} {ds : List PyData} (g : FrL n m ds) : Fr (n + 3) (m + 1) (.list ds) := by
  have h1 := shown_list ds
  have h2 := g.len
  exact ⟨g.sh, by omega, Nat.succ_le_succ g.dep⟩
theorem Fr.of {n m : Nat} {d : PyData} (h : Fd n m d) : Fr n m d := ⟨h.sh, h.len, h.dep⟩
theorem Fr.int {i : Int} (h : Bt 1900 i) : Fr 1921 0 (.int i) := .of (Fd.int h)
theorem Fr.str {z : Str} {k : Nat} (h : okS z) (l : z.length ≤ k) : Fr (10 * k + 2) 0 (.str z) := by
  refine ⟨rfl, ?_, Nat.le_refl _⟩
  have := StrLaws.reprText_len z fun c hc => Nat.lt_of_lt_of_le (h c hc) (by decide)
  show (reprText z).length ≤ _
  omega
/-! ### zip of two lists -/
end EM
/-! EM83: a formatted value of an instance with its own __str__. -/
namespace EM
open PySem PySem.Spec PyProof.Rows L2
end EM
/-! EM84: the head's facts over a part of the heap that is told by its addresses (no search for what the names reach). -/
namespace EM
open PySem PySem.Spec PySem.Calls PyProof.Rows L2
/-! ### the same with the tables of lambdas -/
end EM
/-! EM85: every second item of a list. -/
namespace EM
open PySem PySem.Spec PyProof.Rows L2
end EM
/-! EM86: an instance made of a class in a name, with a starred row. -/
namespace EM
open PySem PySem.Spec PyProof.Rows L2
section
variable {X : Cx} {CX : CXT} {k : Nat} {f C : Addr} {sp : Sp} {E : XK} {x : Str} {e : Expr} {te tf : TE} {p pos sp_ : Pos}
theorem pe_mkVS (M : Mk X.K C f) (F : FnR X.prog X.w X.K X.mg X.base CX k f sp) (hr : Room (k + 1) X.A) (hx : Passes CX X E) (hf : PE X (.Name x p) tf) (he : PE X e te)
    (hst : starEach [.Starred e sp_] X.env = [(true, eval e X.env)] := by rfl) :
    PE X (.Call (.Name x p) [.Starred e sp_] [] pos) (fun σ H Q => tf σ H fun v H1 => v = .ref C ∧ StX.tMakeR C sp E (StX.tStar X.K te tNil) σ H1 Q) := by
  refine ⟨fun pins s σ H Q I h => ?_⟩
  refine wpAny_Call_Name_kw (thn (hf.run pins s σ H _ I h) fun u s1 ⟨c, H1, I1, rc, ec, q1⟩ => ?_)
  subst ec
  obtain rfl : u = Value.ref C := rc
  refine PySem.W.callWith_S (h₀ := X.base) I1.ok.mod.kin M.kp (thn (he.run pins s1 σ H1 _ I1 q1) fun v s2 ⟨y, H2, I2, ry, a, xs, ey, hxs, q⟩ => ?_) hst
  subst ey
  obtain rfl : v = Value.ref a := ry
  refine StX.star_any I2 hxs fun us s3 I3 rv => ⟨I3.kIn, ?_⟩
  have q2 := (show ∀ x dx, H2 x = Option.none → H2 dx = Option.none → dx ≠ x → sp (V.ref x :: (xs ++ [])) (upd (upd H2 dx (.own x)) x (.ins C dx [])) (fun v H3 => v = .non ∧ Q (.ref x) H3) E from q)
  rw [List.append_nil] at q2
  exact StX.run_makeR M F hr hx I3 rv q2
end
end EM
/-! EM87: isinstance of a kept error without fields, of one class or of a tuple of classes. -/
namespace EM
open PySem PySem.Spec PyProof.Rows L2
end EM
namespace EM
open PySem PySem.Spec PyProof.Rows L2
end EM
/-! EM88: for x, y in zip(tuple, list), over the kit's zip of any two iterators. -/
namespace EM
open PySem PySem.Spec PyProof.Rows L2
end EM
/-! EM89: ifs whose rest is read once and is not seen in the branches; own operators between two instances of one class. -/
namespace EM
open PySem PySem.Spec PyProof.Rows L2
/-- behind an if that gives a value -/
theorem iteK2 {c : Prop} [Decidable c] {t u : TE} {σ : L2.St} {H : Hp} {K : VK} (R : V → Hp → Prop) (hr : ∀ v H', R v H' → K v H') (h1 : ∀ K' : VK, (∀ v H', R v H' → K' v H') → c → t σ H K') (h2 : ∀ K' : VK, (∀ v H', R v H' → K' v H') → ¬ c → u σ H K') : if c then t σ H K else u σ H K := by
  by_cases h : c
  · rw [if_pos h]
    exact h1 K hr h
  · rw [if_neg h]
    exact h2 K hr h
/-- behind an if without an else -/
theorem ifs2 {c : Prop} [Decidable c] {ta : TS} {D : Ends} {σ : L2.St} {H : Hp} (R : L2.St → Hp → Prop) (hr : ∀ σ' H', R σ' H' → D.nx σ' H') (h1 : ∀ D' : Ends, (∀ σ' H', R σ' H' → D'.nx σ' H') → c → ta D' σ H) (h2 : ¬ c → R σ H) : if c then ta D σ H else tNext D σ H := by
  by_cases h : c
  · rw [if_pos h]
    exact h1 D hr h
  · rw [if_neg h]
    exact hr _ _ (h2 h)
end EM
/-! EM90: C.m() of a classmethod, without an argument. -/
namespace EM
open PySem PySem.Spec PyProof.Rows L2
end EM
namespace K12
open PySem PySem.Spec PyProof.Rows L2
section
variable {K : PySem.W.Frag} {mg : Str → Option Value}
theorem Tx.g_BadRatio (T : Tx K mg) : mg "BadRatio" = some (.ref (He.ga K "BadRatio")) :=
  have c := T.says.fact 0 (f := fun K => (He.Fa.glo "BadRatio").ok K) (by rfl)
  let ⟨_, X, G⟩ := T.ex; He.glo_ok X G c
theorem Tx.g_BadReading (T : Tx K mg) : mg "BadReading" = some (.ref (He.ga K "BadReading")) :=
  have c := T.says.fact 1 (f := fun K => (He.Fa.glo "BadReading").ok K) (by rfl)
  let ⟨_, X, G⟩ := T.ex; He.glo_ok X G c
theorem Tx.g_BadTerms (T : Tx K mg) : mg "BadTerms" = some (.ref (He.ga K "BadTerms")) :=
  have c := T.says.fact 2 (f := fun K => (He.Fa.glo "BadTerms").ok K) (by rfl)
  let ⟨_, X, G⟩ := T.ex; He.glo_ok X G c
theorem Tx.g_BadText (T : Tx K mg) : mg "BadText" = some (.ref (He.ga K "BadText")) :=
  have c := T.says.fact 3 (f := fun K => (He.Fa.glo "BadText").ok K) (by rfl)
  let ⟨_, X, G⟩ := T.ex; He.glo_ok X G c
theorem Tx.g_BadView (T : Tx K mg) : mg "BadView" = some (.ref (He.ga K "BadView")) :=
  have c := T.says.fact 4 (f := fun K => (He.Fa.glo "BadView").ok K) (by rfl)
  let ⟨_, X, G⟩ := T.ex; He.glo_ok X G c
theorem Tx.g_EdgeError (T : Tx K mg) : mg "EdgeError" = some (.ref (He.ga K "EdgeError")) :=
  have c := T.says.fact 5 (f := fun K => (He.Fa.glo "EdgeError").ok K) (by rfl)
  let ⟨_, X, G⟩ := T.ex; He.glo_ok X G c
theorem Tx.g_NoEdge (T : Tx K mg) : mg "NoEdge" = some (.ref (He.ga K "NoEdge")) :=
  have c := T.says.fact 6 (f := fun K => (He.Fa.glo "NoEdge").ok K) (by rfl)
  let ⟨_, X, G⟩ := T.ex; He.glo_ok X G c
theorem Tx.g_NoStretch (T : Tx K mg) : mg "NoStretch" = some (.ref (He.ga K "NoStretch")) :=
  have c := T.says.fact 7 (f := fun K => (He.Fa.glo "NoStretch").ok K) (by rfl)
  let ⟨_, X, G⟩ := T.ex; He.glo_ok X G c
theorem Tx.g_NoTerms (T : Tx K mg) : mg "NoTerms" = some (.ref (He.ga K "NoTerms")) :=
  have c := T.says.fact 8 (f := fun K => (He.Fa.glo "NoTerms").ok K) (by rfl)
  let ⟨_, X, G⟩ := T.ex; He.glo_ok X G c
theorem Tx.g_NotRising (T : Tx K mg) : mg "NotRising" = some (.ref (He.ga K "NotRising")) :=
  have c := T.says.fact 9 (f := fun K => (He.Fa.glo "NotRising").ok K) (by rfl)
  let ⟨_, X, G⟩ := T.ex; He.glo_ok X G c
theorem Tx.g_Unlike (T : Tx K mg) : mg "Unlike" = some (.ref (He.ga K "Unlike")) :=
  have c := T.says.fact 10 (f := fun K => (He.Fa.glo "Unlike").ok K) (by rfl)
  let ⟨_, X, G⟩ := T.ex; He.glo_ok X G c
theorem Tx.g_Ratio (T : Tx K mg) : mg "Ratio" = some (.ref (He.ga K "Ratio")) :=
  have c := T.says.fact 11 (f := fun K => (He.Fa.glo "Ratio").ok K) (by rfl)
  let ⟨_, X, G⟩ := T.ex; He.glo_ok X G c
theorem Tx.g_Reading (T : Tx K mg) : mg "Reading" = some (.ref (He.ga K "Reading")) :=
  have c := T.says.fact 12 (f := fun K => (He.Fa.glo "Reading").ok K) (by rfl)
  let ⟨_, X, G⟩ := T.ex; He.glo_ok X G c
theorem Tx.g_Mark (T : Tx K mg) : mg "Mark" = some (.ref (He.ga K "Mark")) :=
  have c := T.says.fact 13 (f := fun K => (He.Fa.glo "Mark").ok K) (by rfl)
  let ⟨_, X, G⟩ := T.ex; He.glo_ok X G c
theorem Tx.g_is_integer (T : Tx K mg) : mg "is_integer" = some (.ref (He.ga K "is_integer")) :=
  have c := T.says.fact 14 (f := fun K => (He.Fa.glo "is_integer").ok K) (by rfl)
  let ⟨_, X, G⟩ := T.ex; He.glo_ok X G c
theorem Tx.g_common_divisor (T : Tx K mg) : mg "common_divisor" = some (.ref (He.ga K "common_divisor")) :=
  have c := T.says.fact 15 (f := fun K => (He.Fa.glo "common_divisor").ok K) (by rfl)
  let ⟨_, X, G⟩ := T.ex; He.glo_ok X G c
theorem Tx.g_is_figures (T : Tx K mg) : mg "is_figures" = some (.ref (He.ga K "is_figures")) :=
  have c := T.says.fact 16 (f := fun K => (He.Fa.glo "is_figures").ok K) (by rfl)
  let ⟨_, X, G⟩ := T.ex; He.glo_ok X G c
theorem Tx.g_is_edge_count (T : Tx K mg) : mg "is_edge_count" = some (.ref (He.ga K "is_edge_count")) :=
  have c := T.says.fact 17 (f := fun K => (He.Fa.glo "is_edge_count").ok K) (by rfl)
  let ⟨_, X, G⟩ := T.ex; He.glo_ok X G c
theorem Tx.g_need_edge (T : Tx K mg) : mg "need_edge" = some (.ref (He.ga K "need_edge")) :=
  have c := T.says.fact 18 (f := fun K => (He.Fa.glo "need_edge").ok K) (by rfl)
  let ⟨_, X, G⟩ := T.ex; He.glo_ok X G c
theorem Tx.g_edges_of_readings (T : Tx K mg) : mg "edges_of_readings" = some (.ref (He.ga K "edges_of_readings")) :=
  have c := T.says.fact 19 (f := fun K => (He.Fa.glo "edges_of_readings").ok K) (by rfl)
  let ⟨_, X, G⟩ := T.ex; He.glo_ok X G c
theorem Tx.g_number_told (T : Tx K mg) : mg "number_told" = some (.ref (He.ga K "number_told")) :=
  have c := T.says.fact 20 (f := fun K => (He.Fa.glo "number_told").ok K) (by rfl)
  let ⟨_, X, G⟩ := T.ex; He.glo_ok X G c
theorem Tx.g_is_between (T : Tx K mg) : mg "is_between" = some (.ref (He.ga K "is_between")) :=
  have c := T.says.fact 21 (f := fun K => (He.Fa.glo "is_between").ok K) (by rfl)
  let ⟨_, X, G⟩ := T.ex; He.glo_ok X G c
theorem Tx.g_edges_of_marks (T : Tx K mg) : mg "edges_of_marks" = some (.ref (He.ga K "edges_of_marks")) :=
  have c := T.says.fact 22 (f := fun K => (He.Fa.glo "edges_of_marks").ok K) (by rfl)
  let ⟨_, X, G⟩ := T.ex; He.glo_ok X G c
theorem Tx.g__law_pen (T : Tx K mg) : mg "_law_pen" = some (.ref (He.ga K "_law_pen")) :=
  have c := T.says.fact 23 (f := fun K => (He.Fa.glo "_law_pen").ok K) (by rfl)
  let ⟨_, X, G⟩ := T.ex; He.glo_ok X G c
theorem Tx.g__law_draw (T : Tx K mg) : mg "_law_draw" = some (.ref (He.ga K "_law_draw")) :=
  have c := T.says.fact 24 (f := fun K => (He.Fa.glo "_law_draw").ok K) (by rfl)
  let ⟨_, X, G⟩ := T.ex; He.glo_ok X G c
theorem Tx.g__law_pick (T : Tx K mg) : mg "_law_pick" = some (.ref (He.ga K "_law_pick")) :=
  have c := T.says.fact 25 (f := fun K => (He.Fa.glo "_law_pick").ok K) (by rfl)
  let ⟨_, X, G⟩ := T.ex; He.glo_ok X G c
theorem Tx.g__law_frac (T : Tx K mg) : mg "_law_frac" = some (.ref (He.ga K "_law_frac")) :=
  have c := T.says.fact 26 (f := fun K => (He.Fa.glo "_law_frac").ok K) (by rfl)
  let ⟨_, X, G⟩ := T.ex; He.glo_ok X G c
theorem Tx.g__law_sum (T : Tx K mg) : mg "_law_sum" = some (.ref (He.ga K "_law_sum")) :=
  have c := T.says.fact 27 (f := fun K => (He.Fa.glo "_law_sum").ok K) (by rfl)
  let ⟨_, X, G⟩ := T.ex; He.glo_ok X G c
theorem Tx.g__law_is_less (T : Tx K mg) : mg "_law_is_less" = some (.ref (He.ga K "_law_is_less")) :=
  have c := T.says.fact 28 (f := fun K => (He.Fa.glo "_law_is_less").ok K) (by rfl)
  let ⟨_, X, G⟩ := T.ex; He.glo_ok X G c
theorem Tx.g__law_drawn (T : Tx K mg) : mg "_law_drawn" = some (.ref (He.ga K "_law_drawn")) :=
  have c := T.says.fact 29 (f := fun K => (He.Fa.glo "_law_drawn").ok K) (by rfl)
  let ⟨_, X, G⟩ := T.ex; He.glo_ok X G c
theorem Tx.g__law_passed (T : Tx K mg) : mg "_law_passed" = some (.ref (He.ga K "_law_passed")) :=
  have c := T.says.fact 30 (f := fun K => (He.Fa.glo "_law_passed").ok K) (by rfl)
  let ⟨_, X, G⟩ := T.ex; He.glo_ok X G c
theorem Tx.g__law_is (T : Tx K mg) : mg "_law_is" = some (.ref (He.ga K "_law_is")) :=
  have c := T.says.fact 31 (f := fun K => (He.Fa.glo "_law_is").ok K) (by rfl)
  let ⟨_, X, G⟩ := T.ex; He.glo_ok X G c
theorem Tx.g__law_are (T : Tx K mg) : mg "_law_are" = some (.ref (He.ga K "_law_are")) :=
  have c := T.says.fact 32 (f := fun K => (He.Fa.glo "_law_are").ok K) (by rfl)
  let ⟨_, X, G⟩ := T.ex; He.glo_ok X G c
theorem Tx.g__law_row (T : Tx K mg) : mg "_law_row" = some (.ref (He.ga K "_law_row")) :=
  have c := T.says.fact 33 (f := fun K => (He.Fa.glo "_law_row").ok K) (by rfl)
  let ⟨_, X, G⟩ := T.ex; He.glo_ok X G c
theorem Tx.g__law_heard (T : Tx K mg) : mg "_law_heard" = some (.ref (He.ga K "_law_heard")) :=
  have c := T.says.fact 34 (f := fun K => (He.Fa.glo "_law_heard").ok K) (by rfl)
  let ⟨_, X, G⟩ := T.ex; He.glo_ok X G c
theorem Tx.g__law_due (T : Tx K mg) : mg "_law_due" = some (.ref (He.ga K "_law_due")) :=
  have c := T.says.fact 35 (f := fun K => (He.Fa.glo "_law_due").ok K) (by rfl)
  let ⟨_, X, G⟩ := T.ex; He.glo_ok X G c
theorem Tx.g__law_bent (T : Tx K mg) : mg "_law_bent" = some (.ref (He.ga K "_law_bent")) :=
  have c := T.says.fact 36 (f := fun K => (He.Fa.glo "_law_bent").ok K) (by rfl)
  let ⟨_, X, G⟩ := T.ex; He.glo_ok X G c
theorem Tx.g__law_by_args (T : Tx K mg) : mg "_law_by_args" = some (.ref (He.ga K "_law_by_args")) :=
  have c := T.says.fact 37 (f := fun K => (He.Fa.glo "_law_by_args").ok K) (by rfl)
  let ⟨_, X, G⟩ := T.ex; He.glo_ok X G c
theorem Tx.g__law_right (T : Tx K mg) : mg "_law_right" = some (.ref (He.ga K "_law_right")) :=
  have c := T.says.fact 38 (f := fun K => (He.Fa.glo "_law_right").ok K) (by rfl)
  let ⟨_, X, G⟩ := T.ex; He.glo_ok X G c
theorem Tx.g__law_alike_right (T : Tx K mg) : mg "_law_alike_right" = some (.ref (He.ga K "_law_alike_right")) :=
  have c := T.says.fact 39 (f := fun K => (He.Fa.glo "_law_alike_right").ok K) (by rfl)
  let ⟨_, X, G⟩ := T.ex; He.glo_ok X G c
theorem Tx.f_len (T : Tx K mg) : mg "len" = none :=
  have c := T.says.fact 41 (f := fun K => (He.Fa.free "len").ok K) (by rfl)
  let ⟨_, X, G⟩ := T.ex; He.free_ok X G c
theorem Tx.f_isinstance (T : Tx K mg) : mg "isinstance" = none :=
  have c := T.says.fact 42 (f := fun K => (He.Fa.free "isinstance").ok K) (by rfl)
  let ⟨_, X, G⟩ := T.ex; He.free_ok X G c
theorem Tx.f_int (T : Tx K mg) : mg "int" = none :=
  have c := T.says.fact 43 (f := fun K => (He.Fa.free "int").ok K) (by rfl)
  let ⟨_, X, G⟩ := T.ex; He.free_ok X G c
theorem Tx.f_bool (T : Tx K mg) : mg "bool" = none :=
  have c := T.says.fact 44 (f := fun K => (He.Fa.free "bool").ok K) (by rfl)
  let ⟨_, X, G⟩ := T.ex; He.free_ok X G c
theorem Tx.f_abs (T : Tx K mg) : mg "abs" = none :=
  have c := T.says.fact 45 (f := fun K => (He.Fa.free "abs").ok K) (by rfl)
  let ⟨_, X, G⟩ := T.ex; He.free_ok X G c
theorem Tx.f_range (T : Tx K mg) : mg "range" = none :=
  have c := T.says.fact 46 (f := fun K => (He.Fa.free "range").ok K) (by rfl)
  let ⟨_, X, G⟩ := T.ex; He.free_ok X G c
theorem Tx.f_repr (T : Tx K mg) : mg "repr" = none :=
  have c := T.says.fact 47 (f := fun K => (He.Fa.free "repr").ok K) (by rfl)
  let ⟨_, X, G⟩ := T.ex; He.free_ok X G c
theorem Tx.f_list (T : Tx K mg) : mg "list" = none :=
  have c := T.says.fact 48 (f := fun K => (He.Fa.free "list").ok K) (by rfl)
  let ⟨_, X, G⟩ := T.ex; He.free_ok X G c
theorem Tx.f_tuple (T : Tx K mg) : mg "tuple" = none :=
  have c := T.says.fact 49 (f := fun K => (He.Fa.free "tuple").ok K) (by rfl)
  let ⟨_, X, G⟩ := T.ex; He.free_ok X G c
theorem Tx.f_str (T : Tx K mg) : mg "str" = none :=
  have c := T.says.fact 50 (f := fun K => (He.Fa.free "str").ok K) (by rfl)
  let ⟨_, X, G⟩ := T.ex; He.free_ok X G c
theorem Tx.f_enumerate (T : Tx K mg) : mg "enumerate" = none :=
  have c := T.says.fact 51 (f := fun K => (He.Fa.free "enumerate").ok K) (by rfl)
  let ⟨_, X, G⟩ := T.ex; He.free_ok X G c
theorem Tx.f_all (T : Tx K mg) : mg "all" = none :=
  have c := T.says.fact 52 (f := fun K => (He.Fa.free "all").ok K) (by rfl)
  let ⟨_, X, G⟩ := T.ex; He.free_ok X G c
theorem Tx.f_zip (T : Tx K mg) : mg "zip" = none :=
  have c := T.says.fact 53 (f := fun K => (He.Fa.free "zip").ok K) (by rfl)
  let ⟨_, X, G⟩ := T.ex; He.free_ok X G c
theorem Tx.f_min (T : Tx K mg) : mg "min" = none :=
  have c := T.says.fact 54 (f := fun K => (He.Fa.free "min").ok K) (by rfl)
  let ⟨_, X, G⟩ := T.ex; He.free_ok X G c
theorem Tx.f_ValueError (T : Tx K mg) : mg "ValueError" = none :=
  have c := T.says.fact 56 (f := fun K => (He.Fa.free "ValueError").ok K) (by rfl)
  let ⟨_, X, G⟩ := T.ex; He.free_ok X G c
theorem Tx.g_LEAST_EDGES (T : Tx K mg) : ∃ t, mg "LEAST_EDGES" = some (.int 4 t) :=
  have c := T.says.fact 57 (f := fun K => (He.Fa.int "LEAST_EDGES" 4).ok K) (by rfl)
  let ⟨_, X, G⟩ := T.ex; He.int_ok X G c
theorem Tx.g_MOST_EDGES (T : Tx K mg) : ∃ t, mg "MOST_EDGES" = some (.int 128 t) :=
  have c := T.says.fact 58 (f := fun K => (He.Fa.int "MOST_EDGES" 128).ok K) (by rfl)
  let ⟨_, X, G⟩ := T.ex; He.int_ok X G c
theorem Tx.g_MOST_DIGITS (T : Tx K mg) : ∃ t, mg "MOST_DIGITS" = some (.int 60 t) :=
  have c := T.says.fact 59 (f := fun K => (He.Fa.int "MOST_DIGITS" 60).ok K) (by rfl)
  let ⟨_, X, G⟩ := T.ex; He.int_ok X G c
theorem Tx.g_MOST_WIDTH (T : Tx K mg) : ∃ t, mg "MOST_WIDTH" = some (.int 1000 t) :=
  have c := T.says.fact 60 (f := fun K => (He.Fa.int "MOST_WIDTH" 1000).ok K) (by rfl)
  let ⟨_, X, G⟩ := T.ex; He.int_ok X G c
theorem Tx.g_MOST_WIDTHS (T : Tx K mg) : ∃ t, mg "MOST_WIDTHS" = some (.int 127 t) :=
  have c := T.says.fact 61 (f := fun K => (He.Fa.int "MOST_WIDTHS" 127).ok K) (by rfl)
  let ⟨_, X, G⟩ := T.ex; He.int_ok X G c
theorem Tx.g_FIGURES (T : Tx K mg) : ∃ t, mg "FIGURES" = some (.str "0123456789" t) :=
  have c := T.says.fact 62 (f := fun K => (He.Fa.str "FIGURES" "0123456789").ok K) (by rfl)
  let ⟨_, X, G⟩ := T.ex; He.str_ok X G c
theorem Tx.cl_Ratio (T : Tx K mg) : Cls K (He.ga K "Ratio") :=
  have c := T.says.fact 63 (f := fun K => (He.Fa.cls "Ratio").ok K) (by rfl)
  He.cls_ok c
theorem Tx.mk_Ratio (T : Tx K mg) : Mk K (He.ga K "Ratio") (He.ma K (He.ga K "Ratio") "__init__") :=
  have c := T.says.fact 64 (f := fun K => (He.Fa.mkr "Ratio").ok K) (by rfl)
  He.mkr_ok c
theorem Tx.isi_Ratio (T : Tx K mg) : EM.isiB K (He.ga K "Ratio") = true :=
  have c := T.says.fact 65 (f := fun K => EM.isiB K (He.ga K "Ratio")) (by rfl)
  c
theorem Tx.cr_Ratio (T : Tx K mg) : ClX.CRead K (He.ga K "Ratio") (.type "type") :=
  have c := T.says.fact 66 (f := fun K => EM.creadB K (He.ga K "Ratio")) (by rfl)
  EM.creadB_ok c
theorem Tx.sm_Ratio_of (T : Tx K mg) : EM.SMet K (He.ga K "Ratio") "of" (He5.wf K (He.ga K "Ratio") "staticmethod" "of") :=
  have c := T.says.fact 67 (f := fun K => EM.smetB K (He.ga K "Ratio") "of") (by rfl)
  EM.smetB_ok c
theorem Tx.sm_Ratio_is_number (T : Tx K mg) : EM.SMet K (He.ga K "Ratio") "is_number" (He5.wf K (He.ga K "Ratio") "staticmethod" "is_number") :=
  have c := T.says.fact 68 (f := fun K => EM.smetB K (He.ga K "Ratio") "is_number") (by rfl)
  EM.smetB_ok c
theorem Tx.cm_Ratio_read (T : Tx K mg) : ClX.CMet K (He.ga K "Ratio") (.type "type") "read" (He.ma K (He.ga K "Ratio") "read") (He5.wf K (He.ga K "Ratio") "classmethod" "read") :=
  have c := T.says.fact 69 (f := fun K => EM.cmetB K (He.ga K "Ratio") "read") (by rfl)
  EM.cmetB_ok c
theorem Tx.sf_Ratio (T : Tx K mg) : PySem.W.selfFirst K (He.ga K "Ratio") = true :=
  have c := T.says.fact 70 (f := fun K => PySem.W.selfFirst K (He.ga K "Ratio")) (by rfl)
  c
theorem Tx.si_Ratio (T : Tx K mg) : PySem.W.subIn K (.type "int") (.ref (He.ga K "Ratio")) = some false :=
  have c := T.says.fact 71 (f := fun K => decide (PySem.W.subIn K (.type "int") (.ref (He.ga K "Ratio")) = some false)) (by rfl)
  of_decide_eq_true c
theorem Tx.is_Ratio (T : Tx K mg) : PySem.W.subIn K (.ref (He.ga K "Ratio")) (.type "int") = some false :=
  have c := T.says.fact 72 (f := fun K => decide (PySem.W.subIn K (.ref (He.ga K "Ratio")) (.type "int") = some false)) (by rfl)
  of_decide_eq_true c
theorem Tx.cl_Reading (T : Tx K mg) : Cls K (He.ga K "Reading") :=
  have c := T.says.fact 73 (f := fun K => (He.Fa.cls "Reading").ok K) (by rfl)
  He.cls_ok c
theorem Tx.mk_Reading (T : Tx K mg) : Mk K (He.ga K "Reading") (He.ma K (He.ga K "Reading") "__init__") :=
  have c := T.says.fact 74 (f := fun K => (He.Fa.mkr "Reading").ok K) (by rfl)
  He.mkr_ok c
theorem Tx.isi_Reading (T : Tx K mg) : EM.isiB K (He.ga K "Reading") = true :=
  have c := T.says.fact 75 (f := fun K => EM.isiB K (He.ga K "Reading")) (by rfl)
  c
theorem Tx.cr_Reading (T : Tx K mg) : ClX.CRead K (He.ga K "Reading") (.type "type") :=
  have c := T.says.fact 76 (f := fun K => EM.creadB K (He.ga K "Reading")) (by rfl)
  EM.creadB_ok c
theorem Tx.cm_Reading_of (T : Tx K mg) : ClX.CMet K (He.ga K "Reading") (.type "type") "of" (He.ma K (He.ga K "Reading") "of") (He5.wf K (He.ga K "Reading") "classmethod" "of") :=
  have c := T.says.fact 77 (f := fun K => EM.cmetB K (He.ga K "Reading") "of") (by rfl)
  EM.cmetB_ok c
theorem Tx.cm_Reading_read (T : Tx K mg) : ClX.CMet K (He.ga K "Reading") (.type "type") "read" (He.ma K (He.ga K "Reading") "read") (He5.wf K (He.ga K "Reading") "classmethod" "read") :=
  have c := T.says.fact 78 (f := fun K => EM.cmetB K (He.ga K "Reading") "read") (by rfl)
  EM.cmetB_ok c
theorem Tx.cl_Mark (T : Tx K mg) : Cls K (He.ga K "Mark") :=
  have c := T.says.fact 79 (f := fun K => (He.Fa.cls "Mark").ok K) (by rfl)
  He.cls_ok c
theorem Tx.mk_Mark (T : Tx K mg) : Mk K (He.ga K "Mark") (He.ma K (He.ga K "Mark") "__init__") :=
  have c := T.says.fact 80 (f := fun K => (He.Fa.mkr "Mark").ok K) (by rfl)
  He.mkr_ok c
theorem Tx.isi_Mark (T : Tx K mg) : EM.isiB K (He.ga K "Mark") = true :=
  have c := T.says.fact 81 (f := fun K => EM.isiB K (He.ga K "Mark")) (by rfl)
  c
theorem Tx.na_Ratio_top (T : Tx K mg) : NoAttr K (He.ga K "Ratio") "top" :=
  have c := T.says.fact 82 (f := fun K => (He.Fa.noat "Ratio" "top").ok K) (by rfl)
  He.noat_ok c
theorem Tx.na_Ratio_bottom (T : Tx K mg) : NoAttr K (He.ga K "Ratio") "bottom" :=
  have c := T.says.fact 83 (f := fun K => (He.Fa.noat "Ratio" "bottom").ok K) (by rfl)
  He.noat_ok c
theorem Tx.na_Reading_own_edges (T : Tx K mg) : NoAttr K (He.ga K "Reading") "own_edges" :=
  have c := T.says.fact 84 (f := fun K => (He.Fa.noat "Reading" "own_edges").ok K) (by rfl)
  He.noat_ok c
theorem Tx.na_Mark_widths (T : Tx K mg) : NoAttr K (He.ga K "Mark") "widths" :=
  have c := T.says.fact 85 (f := fun K => (He.Fa.noat "Mark" "widths").ok K) (by rfl)
  He.noat_ok c
theorem Tx.na_Mark_edge_row (T : Tx K mg) : NoAttr K (He.ga K "Mark") "edge_row" :=
  have c := T.says.fact 86 (f := fun K => (He.Fa.noat "Mark" "edge_row").ok K) (by rfl)
  He.noat_ok c
theorem Tx.na_Mark_sums (T : Tx K mg) : NoAttr K (He.ga K "Mark") "sums" :=
  have c := T.says.fact 87 (f := fun K => (He.Fa.noat "Mark" "sums").ok K) (by rfl)
  He.noat_ok c
theorem Tx.na_Mark_bars (T : Tx K mg) : NoAttr K (He.ga K "Mark") "bars" :=
  have c := T.says.fact 88 (f := fun K => (He.Fa.noat "Mark" "bars").ok K) (by rfl)
  He.noat_ok c
theorem Tx.na_Mark_total (T : Tx K mg) : NoAttr K (He.ga K "Mark") "total" :=
  have c := T.says.fact 89 (f := fun K => (He.Fa.noat "Mark" "total").ok K) (by rfl)
  He.noat_ok c
theorem Tx.na_Mark_span (T : Tx K mg) : NoAttr K (He.ga K "Mark") "span" :=
  have c := T.says.fact 90 (f := fun K => (He.Fa.noat "Mark" "span").ok K) (by rfl)
  He.noat_ok c
theorem Tx.m_Ratio_add (T : Tx K mg) : Meth K (He.ga K "Ratio") "__add__" (He.ma K (He.ga K "Ratio") "__add__") :=
  have c := T.says.fact 91 (f := fun K => (He.Fa.meth "Ratio" "__add__").ok K) (by rfl)
  He.meth_ok c
theorem Tx.m_Ratio_sub (T : Tx K mg) : Meth K (He.ga K "Ratio") "__sub__" (He.ma K (He.ga K "Ratio") "__sub__") :=
  have c := T.says.fact 92 (f := fun K => (He.Fa.meth "Ratio" "__sub__").ok K) (by rfl)
  He.meth_ok c
theorem Tx.m_Ratio_neg (T : Tx K mg) : Meth K (He.ga K "Ratio") "__neg__" (He.ma K (He.ga K "Ratio") "__neg__") :=
  have c := T.says.fact 93 (f := fun K => (He.Fa.meth "Ratio" "__neg__").ok K) (by rfl)
  He.meth_ok c
theorem Tx.m_Ratio_eq (T : Tx K mg) : Meth K (He.ga K "Ratio") "__eq__" (He.ma K (He.ga K "Ratio") "__eq__") :=
  have c := T.says.fact 94 (f := fun K => (He.Fa.meth "Ratio" "__eq__").ok K) (by rfl)
  He.meth_ok c
theorem Tx.m_Ratio_le (T : Tx K mg) : Meth K (He.ga K "Ratio") "__le__" (He.ma K (He.ga K "Ratio") "__le__") :=
  have c := T.says.fact 95 (f := fun K => (He.Fa.meth "Ratio" "__le__").ok K) (by rfl)
  He.meth_ok c
theorem Tx.m_Ratio_ge (T : Tx K mg) : Meth K (He.ga K "Ratio") "__ge__" (He.ma K (He.ga K "Ratio") "__ge__") :=
  have c := T.says.fact 96 (f := fun K => (He.Fa.meth "Ratio" "__ge__").ok K) (by rfl)
  He.meth_ok c
theorem Tx.m_Ratio_repr (T : Tx K mg) : Meth K (He.ga K "Ratio") "__repr__" (He.ma K (He.ga K "Ratio") "__repr__") :=
  have c := T.says.fact 97 (f := fun K => (He.Fa.meth "Ratio" "__repr__").ok K) (by rfl)
  He.meth_ok c
theorem Tx.m_Ratio_radd (T : Tx K mg) : Meth K (He.ga K "Ratio") "__radd__" (He.ma K (He.ga K "Ratio") "__radd__") :=
  have c := T.says.fact 98 (f := fun K => (He.Fa.meth "Ratio" "__radd__").ok K) (by rfl)
  He.meth_ok c
theorem Tx.m_Ratio_rsub (T : Tx K mg) : Meth K (He.ga K "Ratio") "__rsub__" (He.ma K (He.ga K "Ratio") "__rsub__") :=
  have c := T.says.fact 99 (f := fun K => (He.Fa.meth "Ratio" "__rsub__").ok K) (by rfl)
  He.meth_ok c
theorem Tx.m_Reading_len (T : Tx K mg) : Meth K (He.ga K "Reading") "__len__" (He.ma K (He.ga K "Reading") "__len__") :=
  have c := T.says.fact 100 (f := fun K => (He.Fa.meth "Reading" "__len__").ok K) (by rfl)
  He.meth_ok c
theorem Tx.m_Reading_getitem (T : Tx K mg) : Meth K (He.ga K "Reading") "__getitem__" (He.ma K (He.ga K "Reading") "__getitem__") :=
  have c := T.says.fact 101 (f := fun K => (He.Fa.meth "Reading" "__getitem__").ok K) (by rfl)
  He.meth_ok c
theorem Tx.m_Reading_eq (T : Tx K mg) : Meth K (He.ga K "Reading") "__eq__" (He.ma K (He.ga K "Reading") "__eq__") :=
  have c := T.says.fact 102 (f := fun K => (He.Fa.meth "Reading" "__eq__").ok K) (by rfl)
  He.meth_ok c
theorem Tx.p_Reading_edges (T : Tx K mg) : PropOf K (He.ga K "Reading") "edges" (He.ma K (He.ga K "Reading") "edges") (EM.pf K (He.ga K "Reading") "edges") :=
  have c := T.says.fact 103 (f := fun K => EM.propB K (He.ga K "Reading") "edges") (by rfl)
  EM.propB_ok c
theorem Tx.na_NoEdge_value (T : Tx K mg) : NoAttr K (He.ga K "NoEdge") "value" :=
  have c := T.says.fact 104 (f := fun K => (He.Fa.noat "NoEdge" "value").ok K) (by rfl)
  He.noat_ok c
theorem Tx.xf_NoEdge (T : Tx K mg) : L2.XfC K (He.ga K "NoEdge") :=
  have c := T.says.fact 105 (f := fun K => L2.xfB K (He.ga K "NoEdge")) (by rfl)
  L2.xfB_ok c
theorem Tx.ox_NoEdge (T : Tx K mg) : OexC K (He.ga K "NoEdge") :=
  have c := T.says.fact 106 (f := fun K => EM.oexB K (He.ga K "NoEdge")) (by rfl)
  EM.oexB_ok c
theorem Tx.oi_NoEdge (T : Tx K mg) : PySem.W.findIn K (.ref (He.ga K "NoEdge")) "__init__" = some (some (.ref (He.ma K (He.ga K "NoEdge") "__init__"))) ∧ PySem.W.typeIn K (.ref (He.ma K (He.ga K "NoEdge") "__init__")) = some (.type "function") :=
  have c := T.says.fact 107 (f := fun K => EM.oinB K (He.ga K "NoEdge")) (by rfl)
  EM.oinB_ok c
theorem Tx.xm_NoEdge_EdgeError (T : Tx K mg) : PySem.W.exmOne K (.ref (He.ga K "NoEdge")) (.ref (He.ga K "EdgeError")) = some true :=
  have c := T.says.fact 108 (f := fun K => decide (PySem.W.exmOne K (.ref (He.ga K "NoEdge")) (.ref (He.ga K "EdgeError")) = some true)) (by rfl)
  of_decide_eq_true c
theorem Tx.xc_NoEdge (T : Tx K mg) : EM.ExcK K (He.ga K "NoEdge") :=
  have c := T.says.fact 109 (f := fun K => EM.excB K (He.ga K "NoEdge")) (by rfl)
  EM.excB_ok c
theorem Tx.kit_NoEdge_BadReading (T : Tx K mg) : PySem.W.kitOne K (.ref (He.ga K "NoEdge")) (.ref (He.ga K "BadReading")) = some false :=
  have c := T.says.fact 110 (f := fun K => decide (PySem.W.kitOne K (.ref (He.ga K "NoEdge")) (.ref (He.ga K "BadReading")) = some false)) (by rfl)
  of_decide_eq_true c
theorem Tx.kit_NoEdge_NotRising (T : Tx K mg) : PySem.W.kitOne K (.ref (He.ga K "NoEdge")) (.ref (He.ga K "NotRising")) = some false :=
  have c := T.says.fact 111 (f := fun K => decide (PySem.W.kitOne K (.ref (He.ga K "NoEdge")) (.ref (He.ga K "NotRising")) = some false)) (by rfl)
  of_decide_eq_true c
theorem Tx.kit_NoEdge_NoEdge (T : Tx K mg) : PySem.W.kitOne K (.ref (He.ga K "NoEdge")) (.ref (He.ga K "NoEdge")) = some true :=
  have c := T.says.fact 112 (f := fun K => decide (PySem.W.kitOne K (.ref (He.ga K "NoEdge")) (.ref (He.ga K "NoEdge")) = some true)) (by rfl)
  of_decide_eq_true c
theorem Tx.kit_NoEdge_BadRatio (T : Tx K mg) : PySem.W.kitOne K (.ref (He.ga K "NoEdge")) (.ref (He.ga K "BadRatio")) = some false :=
  have c := T.says.fact 113 (f := fun K => decide (PySem.W.kitOne K (.ref (He.ga K "NoEdge")) (.ref (He.ga K "BadRatio")) = some false)) (by rfl)
  of_decide_eq_true c
theorem Tx.kit_NoEdge_NoStretch (T : Tx K mg) : PySem.W.kitOne K (.ref (He.ga K "NoEdge")) (.ref (He.ga K "NoStretch")) = some false :=
  have c := T.says.fact 114 (f := fun K => decide (PySem.W.kitOne K (.ref (He.ga K "NoEdge")) (.ref (He.ga K "NoStretch")) = some false)) (by rfl)
  of_decide_eq_true c
theorem Tx.kit_NoEdge_BadText (T : Tx K mg) : PySem.W.kitOne K (.ref (He.ga K "NoEdge")) (.ref (He.ga K "BadText")) = some false :=
  have c := T.says.fact 115 (f := fun K => decide (PySem.W.kitOne K (.ref (He.ga K "NoEdge")) (.ref (He.ga K "BadText")) = some false)) (by rfl)
  of_decide_eq_true c
theorem Tx.kit_NoEdge_BadView (T : Tx K mg) : PySem.W.kitOne K (.ref (He.ga K "NoEdge")) (.ref (He.ga K "BadView")) = some false :=
  have c := T.says.fact 116 (f := fun K => decide (PySem.W.kitOne K (.ref (He.ga K "NoEdge")) (.ref (He.ga K "BadView")) = some false)) (by rfl)
  of_decide_eq_true c
theorem Tx.kit_NoEdge_BadTerms (T : Tx K mg) : PySem.W.kitOne K (.ref (He.ga K "NoEdge")) (.ref (He.ga K "BadTerms")) = some false :=
  have c := T.says.fact 117 (f := fun K => decide (PySem.W.kitOne K (.ref (He.ga K "NoEdge")) (.ref (He.ga K "BadTerms")) = some false)) (by rfl)
  of_decide_eq_true c
theorem Tx.kit_NoEdge_NoTerms (T : Tx K mg) : PySem.W.kitOne K (.ref (He.ga K "NoEdge")) (.ref (He.ga K "NoTerms")) = some false :=
  have c := T.says.fact 118 (f := fun K => decide (PySem.W.kitOne K (.ref (He.ga K "NoEdge")) (.ref (He.ga K "NoTerms")) = some false)) (by rfl)
  of_decide_eq_true c
theorem Tx.kit_NoEdge_Unlike (T : Tx K mg) : PySem.W.kitOne K (.ref (He.ga K "NoEdge")) (.ref (He.ga K "Unlike")) = some false :=
  have c := T.says.fact 119 (f := fun K => decide (PySem.W.kitOne K (.ref (He.ga K "NoEdge")) (.ref (He.ga K "Unlike")) = some false)) (by rfl)
  of_decide_eq_true c
theorem Tx.kit_NoEdge_VE (T : Tx K mg) : PySem.W.kitOne K (.ref (He.ga K "NoEdge")) (.type "ValueError") = some true :=
  have c := T.says.fact 120 (f := fun K => decide (PySem.W.kitOne K (.ref (He.ga K "NoEdge")) (.type "ValueError") = some true)) (by rfl)
  of_decide_eq_true c
theorem Tx.na_BadReading_at (T : Tx K mg) : NoAttr K (He.ga K "BadReading") "at" :=
  have c := T.says.fact 121 (f := fun K => (He.Fa.noat "BadReading" "at").ok K) (by rfl)
  He.noat_ok c
theorem Tx.xf_BadReading (T : Tx K mg) : L2.XfC K (He.ga K "BadReading") :=
  have c := T.says.fact 122 (f := fun K => L2.xfB K (He.ga K "BadReading")) (by rfl)
  L2.xfB_ok c
theorem Tx.ox_BadReading (T : Tx K mg) : OexC K (He.ga K "BadReading") :=
  have c := T.says.fact 123 (f := fun K => EM.oexB K (He.ga K "BadReading")) (by rfl)
  EM.oexB_ok c
theorem Tx.oi_BadReading (T : Tx K mg) : PySem.W.findIn K (.ref (He.ga K "BadReading")) "__init__" = some (some (.ref (He.ma K (He.ga K "BadReading") "__init__"))) ∧ PySem.W.typeIn K (.ref (He.ma K (He.ga K "BadReading") "__init__")) = some (.type "function") :=
  have c := T.says.fact 124 (f := fun K => EM.oinB K (He.ga K "BadReading")) (by rfl)
  EM.oinB_ok c
theorem Tx.xm_BadReading_EdgeError (T : Tx K mg) : PySem.W.exmOne K (.ref (He.ga K "BadReading")) (.ref (He.ga K "EdgeError")) = some true :=
  have c := T.says.fact 125 (f := fun K => decide (PySem.W.exmOne K (.ref (He.ga K "BadReading")) (.ref (He.ga K "EdgeError")) = some true)) (by rfl)
  of_decide_eq_true c
theorem Tx.xc_BadReading (T : Tx K mg) : EM.ExcK K (He.ga K "BadReading") :=
  have c := T.says.fact 126 (f := fun K => EM.excB K (He.ga K "BadReading")) (by rfl)
  EM.excB_ok c
theorem Tx.kit_BadReading_BadReading (T : Tx K mg) : PySem.W.kitOne K (.ref (He.ga K "BadReading")) (.ref (He.ga K "BadReading")) = some true :=
  have c := T.says.fact 127 (f := fun K => decide (PySem.W.kitOne K (.ref (He.ga K "BadReading")) (.ref (He.ga K "BadReading")) = some true)) (by rfl)
  of_decide_eq_true c
theorem Tx.kit_BadReading_NotRising (T : Tx K mg) : PySem.W.kitOne K (.ref (He.ga K "BadReading")) (.ref (He.ga K "NotRising")) = some false :=
  have c := T.says.fact 128 (f := fun K => decide (PySem.W.kitOne K (.ref (He.ga K "BadReading")) (.ref (He.ga K "NotRising")) = some false)) (by rfl)
  of_decide_eq_true c
theorem Tx.kit_BadReading_NoEdge (T : Tx K mg) : PySem.W.kitOne K (.ref (He.ga K "BadReading")) (.ref (He.ga K "NoEdge")) = some false :=
  have c := T.says.fact 129 (f := fun K => decide (PySem.W.kitOne K (.ref (He.ga K "BadReading")) (.ref (He.ga K "NoEdge")) = some false)) (by rfl)
  of_decide_eq_true c
theorem Tx.kit_BadReading_BadRatio (T : Tx K mg) : PySem.W.kitOne K (.ref (He.ga K "BadReading")) (.ref (He.ga K "BadRatio")) = some false :=
  have c := T.says.fact 130 (f := fun K => decide (PySem.W.kitOne K (.ref (He.ga K "BadReading")) (.ref (He.ga K "BadRatio")) = some false)) (by rfl)
  of_decide_eq_true c
theorem Tx.kit_BadReading_NoStretch (T : Tx K mg) : PySem.W.kitOne K (.ref (He.ga K "BadReading")) (.ref (He.ga K "NoStretch")) = some false :=
  have c := T.says.fact 131 (f := fun K => decide (PySem.W.kitOne K (.ref (He.ga K "BadReading")) (.ref (He.ga K "NoStretch")) = some false)) (by rfl)
  of_decide_eq_true c
theorem Tx.kit_BadReading_BadText (T : Tx K mg) : PySem.W.kitOne K (.ref (He.ga K "BadReading")) (.ref (He.ga K "BadText")) = some false :=
  have c := T.says.fact 132 (f := fun K => decide (PySem.W.kitOne K (.ref (He.ga K "BadReading")) (.ref (He.ga K "BadText")) = some false)) (by rfl)
  of_decide_eq_true c
theorem Tx.kit_BadReading_BadView (T : Tx K mg) : PySem.W.kitOne K (.ref (He.ga K "BadReading")) (.ref (He.ga K "BadView")) = some false :=
  have c := T.says.fact 133 (f := fun K => decide (PySem.W.kitOne K (.ref (He.ga K "BadReading")) (.ref (He.ga K "BadView")) = some false)) (by rfl)
  of_decide_eq_true c
theorem Tx.kit_BadReading_BadTerms (T : Tx K mg) : PySem.W.kitOne K (.ref (He.ga K "BadReading")) (.ref (He.ga K "BadTerms")) = some false :=
  have c := T.says.fact 134 (f := fun K => decide (PySem.W.kitOne K (.ref (He.ga K "BadReading")) (.ref (He.ga K "BadTerms")) = some false)) (by rfl)
  of_decide_eq_true c
theorem Tx.kit_BadReading_NoTerms (T : Tx K mg) : PySem.W.kitOne K (.ref (He.ga K "BadReading")) (.ref (He.ga K "NoTerms")) = some false :=
  have c := T.says.fact 135 (f := fun K => decide (PySem.W.kitOne K (.ref (He.ga K "BadReading")) (.ref (He.ga K "NoTerms")) = some false)) (by rfl)
  of_decide_eq_true c
theorem Tx.kit_BadReading_Unlike (T : Tx K mg) : PySem.W.kitOne K (.ref (He.ga K "BadReading")) (.ref (He.ga K "Unlike")) = some false :=
  have c := T.says.fact 136 (f := fun K => decide (PySem.W.kitOne K (.ref (He.ga K "BadReading")) (.ref (He.ga K "Unlike")) = some false)) (by rfl)
  of_decide_eq_true c
theorem Tx.kit_BadReading_VE (T : Tx K mg) : PySem.W.kitOne K (.ref (He.ga K "BadReading")) (.type "ValueError") = some true :=
  have c := T.says.fact 137 (f := fun K => decide (PySem.W.kitOne K (.ref (He.ga K "BadReading")) (.type "ValueError") = some true)) (by rfl)
  of_decide_eq_true c
theorem Tx.na_NotRising_at (T : Tx K mg) : NoAttr K (He.ga K "NotRising") "at" :=
  have c := T.says.fact 138 (f := fun K => (He.Fa.noat "NotRising" "at").ok K) (by rfl)
  He.noat_ok c
theorem Tx.xf_NotRising (T : Tx K mg) : L2.XfC K (He.ga K "NotRising") :=
  have c := T.says.fact 139 (f := fun K => L2.xfB K (He.ga K "NotRising")) (by rfl)
  L2.xfB_ok c
theorem Tx.ox_NotRising (T : Tx K mg) : OexC K (He.ga K "NotRising") :=
  have c := T.says.fact 140 (f := fun K => EM.oexB K (He.ga K "NotRising")) (by rfl)
  EM.oexB_ok c
theorem Tx.oi_NotRising (T : Tx K mg) : PySem.W.findIn K (.ref (He.ga K "NotRising")) "__init__" = some (some (.ref (He.ma K (He.ga K "NotRising") "__init__"))) ∧ PySem.W.typeIn K (.ref (He.ma K (He.ga K "NotRising") "__init__")) = some (.type "function") :=
  have c := T.says.fact 141 (f := fun K => EM.oinB K (He.ga K "NotRising")) (by rfl)
  EM.oinB_ok c
theorem Tx.xm_NotRising_EdgeError (T : Tx K mg) : PySem.W.exmOne K (.ref (He.ga K "NotRising")) (.ref (He.ga K "EdgeError")) = some true :=
  have c := T.says.fact 142 (f := fun K => decide (PySem.W.exmOne K (.ref (He.ga K "NotRising")) (.ref (He.ga K "EdgeError")) = some true)) (by rfl)
  of_decide_eq_true c
theorem Tx.xc_NotRising (T : Tx K mg) : EM.ExcK K (He.ga K "NotRising") :=
  have c := T.says.fact 143 (f := fun K => EM.excB K (He.ga K "NotRising")) (by rfl)
  EM.excB_ok c
theorem Tx.kit_NotRising_BadReading (T : Tx K mg) : PySem.W.kitOne K (.ref (He.ga K "NotRising")) (.ref (He.ga K "BadReading")) = some false :=
  have c := T.says.fact 144 (f := fun K => decide (PySem.W.kitOne K (.ref (He.ga K "NotRising")) (.ref (He.ga K "BadReading")) = some false)) (by rfl)
  of_decide_eq_true c
theorem Tx.kit_NotRising_NotRising (T : Tx K mg) : PySem.W.kitOne K (.ref (He.ga K "NotRising")) (.ref (He.ga K "NotRising")) = some true :=
  have c := T.says.fact 145 (f := fun K => decide (PySem.W.kitOne K (.ref (He.ga K "NotRising")) (.ref (He.ga K "NotRising")) = some true)) (by rfl)
  of_decide_eq_true c
theorem Tx.kit_NotRising_NoEdge (T : Tx K mg) : PySem.W.kitOne K (.ref (He.ga K "NotRising")) (.ref (He.ga K "NoEdge")) = some false :=
  have c := T.says.fact 146 (f := fun K => decide (PySem.W.kitOne K (.ref (He.ga K "NotRising")) (.ref (He.ga K "NoEdge")) = some false)) (by rfl)
  of_decide_eq_true c
theorem Tx.kit_NotRising_BadRatio (T : Tx K mg) : PySem.W.kitOne K (.ref (He.ga K "NotRising")) (.ref (He.ga K "BadRatio")) = some false :=
  have c := T.says.fact 147 (f := fun K => decide (PySem.W.kitOne K (.ref (He.ga K "NotRising")) (.ref (He.ga K "BadRatio")) = some false)) (by rfl)
  of_decide_eq_true c
theorem Tx.kit_NotRising_NoStretch (T : Tx K mg) : PySem.W.kitOne K (.ref (He.ga K "NotRising")) (.ref (He.ga K "NoStretch")) = some false :=
  have c := T.says.fact 148 (f := fun K => decide (PySem.W.kitOne K (.ref (He.ga K "NotRising")) (.ref (He.ga K "NoStretch")) = some false)) (by rfl)
  of_decide_eq_true c
theorem Tx.kit_NotRising_BadText (T : Tx K mg) : PySem.W.kitOne K (.ref (He.ga K "NotRising")) (.ref (He.ga K "BadText")) = some false :=
  have c := T.says.fact 149 (f := fun K => decide (PySem.W.kitOne K (.ref (He.ga K "NotRising")) (.ref (He.ga K "BadText")) = some false)) (by rfl)
  of_decide_eq_true c
theorem Tx.kit_NotRising_BadView (T : Tx K mg) : PySem.W.kitOne K (.ref (He.ga K "NotRising")) (.ref (He.ga K "BadView")) = some false :=
  have c := T.says.fact 150 (f := fun K => decide (PySem.W.kitOne K (.ref (He.ga K "NotRising")) (.ref (He.ga K "BadView")) = some false)) (by rfl)
  of_decide_eq_true c
theorem Tx.kit_NotRising_BadTerms (T : Tx K mg) : PySem.W.kitOne K (.ref (He.ga K "NotRising")) (.ref (He.ga K "BadTerms")) = some false :=
  have c := T.says.fact 151 (f := fun K => decide (PySem.W.kitOne K (.ref (He.ga K "NotRising")) (.ref (He.ga K "BadTerms")) = some false)) (by rfl)
  of_decide_eq_true c
theorem Tx.kit_NotRising_NoTerms (T : Tx K mg) : PySem.W.kitOne K (.ref (He.ga K "NotRising")) (.ref (He.ga K "NoTerms")) = some false :=
  have c := T.says.fact 152 (f := fun K => decide (PySem.W.kitOne K (.ref (He.ga K "NotRising")) (.ref (He.ga K "NoTerms")) = some false)) (by rfl)
  of_decide_eq_true c
theorem Tx.kit_NotRising_Unlike (T : Tx K mg) : PySem.W.kitOne K (.ref (He.ga K "NotRising")) (.ref (He.ga K "Unlike")) = some false :=
  have c := T.says.fact 153 (f := fun K => decide (PySem.W.kitOne K (.ref (He.ga K "NotRising")) (.ref (He.ga K "Unlike")) = some false)) (by rfl)
  of_decide_eq_true c
theorem Tx.kit_NotRising_VE (T : Tx K mg) : PySem.W.kitOne K (.ref (He.ga K "NotRising")) (.type "ValueError") = some true :=
  have c := T.says.fact 154 (f := fun K => decide (PySem.W.kitOne K (.ref (He.ga K "NotRising")) (.type "ValueError") = some true)) (by rfl)
  of_decide_eq_true c
theorem Tx.na_BadText_line (T : Tx K mg) : NoAttr K (He.ga K "BadText") "line" :=
  have c := T.says.fact 155 (f := fun K => (He.Fa.noat "BadText" "line").ok K) (by rfl)
  He.noat_ok c
theorem Tx.na_BadText_word (T : Tx K mg) : NoAttr K (He.ga K "BadText") "word" :=
  have c := T.says.fact 156 (f := fun K => (He.Fa.noat "BadText" "word").ok K) (by rfl)
  He.noat_ok c
theorem Tx.ox_BadText (T : Tx K mg) : OexC K (He.ga K "BadText") :=
  have c := T.says.fact 157 (f := fun K => EM.oexB K (He.ga K "BadText")) (by rfl)
  EM.oexB_ok c
theorem Tx.oi_BadText (T : Tx K mg) : PySem.W.findIn K (.ref (He.ga K "BadText")) "__init__" = some (some (.ref (He.ma K (He.ga K "BadText") "__init__"))) ∧ PySem.W.typeIn K (.ref (He.ma K (He.ga K "BadText") "__init__")) = some (.type "function") :=
  have c := T.says.fact 158 (f := fun K => EM.oinB K (He.ga K "BadText")) (by rfl)
  EM.oinB_ok c
theorem Tx.xm_BadText_BadText (T : Tx K mg) : PySem.W.exmOne K (.ref (He.ga K "BadText")) (.ref (He.ga K "BadText")) = some true :=
  have c := T.says.fact 159 (f := fun K => decide (PySem.W.exmOne K (.ref (He.ga K "BadText")) (.ref (He.ga K "BadText")) = some true)) (by rfl)
  of_decide_eq_true c
theorem Tx.kit_int_Ratio (T : Tx K mg) : PySem.W.kitOne K (.type "int") (.ref (He.ga K "Ratio")) = some false :=
  have c := T.says.fact 160 (f := fun K => decide (PySem.W.kitOne K (.type "int") (.ref (He.ga K "Ratio")) = some false)) (by rfl)
  of_decide_eq_true c
theorem Tx.kit_bool_Ratio (T : Tx K mg) : PySem.W.kitOne K (.type "bool") (.ref (He.ga K "Ratio")) = some false :=
  have c := T.says.fact 162 (f := fun K => decide (PySem.W.kitOne K (.type "bool") (.ref (He.ga K "Ratio")) = some false)) (by rfl)
  of_decide_eq_true c
theorem Tx.kit_NoneType_Ratio (T : Tx K mg) : PySem.W.kitOne K (.type "NoneType") (.ref (He.ga K "Ratio")) = some false :=
  have c := T.says.fact 164 (f := fun K => decide (PySem.W.kitOne K (.type "NoneType") (.ref (He.ga K "Ratio")) = some false)) (by rfl)
  of_decide_eq_true c
theorem Tx.kit_NoneType_Reading (T : Tx K mg) : PySem.W.kitOne K (.type "NoneType") (.ref (He.ga K "Reading")) = some false :=
  have c := T.says.fact 165 (f := fun K => decide (PySem.W.kitOne K (.type "NoneType") (.ref (He.ga K "Reading")) = some false)) (by rfl)
  of_decide_eq_true c
theorem Tx.kit_str_Ratio (T : Tx K mg) : PySem.W.kitOne K (.type "str") (.ref (He.ga K "Ratio")) = some false :=
  have c := T.says.fact 166 (f := fun K => decide (PySem.W.kitOne K (.type "str") (.ref (He.ga K "Ratio")) = some false)) (by rfl)
  of_decide_eq_true c
theorem Tx.kit_tuple_Ratio (T : Tx K mg) : PySem.W.kitOne K (.type "tuple") (.ref (He.ga K "Ratio")) = some false :=
  have c := T.says.fact 168 (f := fun K => decide (PySem.W.kitOne K (.type "tuple") (.ref (He.ga K "Ratio")) = some false)) (by rfl)
  of_decide_eq_true c
theorem Tx.kit_tuple_Reading (T : Tx K mg) : PySem.W.kitOne K (.type "tuple") (.ref (He.ga K "Reading")) = some false :=
  have c := T.says.fact 169 (f := fun K => decide (PySem.W.kitOne K (.type "tuple") (.ref (He.ga K "Reading")) = some false)) (by rfl)
  of_decide_eq_true c
theorem Tx.kit_list_Ratio (T : Tx K mg) : PySem.W.kitOne K (.type "list") (.ref (He.ga K "Ratio")) = some false :=
  have c := T.says.fact 170 (f := fun K => decide (PySem.W.kitOne K (.type "list") (.ref (He.ga K "Ratio")) = some false)) (by rfl)
  of_decide_eq_true c
theorem Tx.kit_list_Reading (T : Tx K mg) : PySem.W.kitOne K (.type "list") (.ref (He.ga K "Reading")) = some false :=
  have c := T.says.fact 171 (f := fun K => decide (PySem.W.kitOne K (.type "list") (.ref (He.ga K "Reading")) = some false)) (by rfl)
  of_decide_eq_true c
theorem Tx.kit_dict_Ratio (T : Tx K mg) : PySem.W.kitOne K (.type "dict") (.ref (He.ga K "Ratio")) = some false :=
  have c := T.says.fact 172 (f := fun K => decide (PySem.W.kitOne K (.type "dict") (.ref (He.ga K "Ratio")) = some false)) (by rfl)
  of_decide_eq_true c
theorem Tx.kit_Ratio_int (T : Tx K mg) : PySem.W.kitOne K (.ref (He.ga K "Ratio")) (.type "int") = some false :=
  have c := T.says.fact 174 (f := fun K => decide (PySem.W.kitOne K (.ref (He.ga K "Ratio")) (.type "int") = some false)) (by rfl)
  of_decide_eq_true c
theorem Tx.kit_Ratio_bool (T : Tx K mg) : PySem.W.kitOne K (.ref (He.ga K "Ratio")) (.type "bool") = some false :=
  have c := T.says.fact 175 (f := fun K => decide (PySem.W.kitOne K (.ref (He.ga K "Ratio")) (.type "bool") = some false)) (by rfl)
  of_decide_eq_true c
theorem Tx.kit_Reading_list (T : Tx K mg) : PySem.W.kitOne K (.ref (He.ga K "Reading")) (.type "list") = some false :=
  have c := T.says.fact 180 (f := fun K => decide (PySem.W.kitOne K (.ref (He.ga K "Reading")) (.type "list") = some false)) (by rfl)
  of_decide_eq_true c
theorem Tx.kit_Reading_tuple (T : Tx K mg) : PySem.W.kitOne K (.ref (He.ga K "Reading")) (.type "tuple") = some false :=
  have c := T.says.fact 181 (f := fun K => decide (PySem.W.kitOne K (.ref (He.ga K "Reading")) (.type "tuple") = some false)) (by rfl)
  of_decide_eq_true c
theorem Tx.kit_Mark_list (T : Tx K mg) : PySem.W.kitOne K (.ref (He.ga K "Mark")) (.type "list") = some false :=
  have c := T.says.fact 182 (f := fun K => decide (PySem.W.kitOne K (.ref (He.ga K "Mark")) (.type "list") = some false)) (by rfl)
  of_decide_eq_true c
theorem Tx.kit_Mark_tuple (T : Tx K mg) : PySem.W.kitOne K (.ref (He.ga K "Mark")) (.type "tuple") = some false :=
  have c := T.says.fact 183 (f := fun K => decide (PySem.W.kitOne K (.ref (He.ga K "Mark")) (.type "tuple") = some false)) (by rfl)
  of_decide_eq_true c
theorem Tx.ap_Ratio (T : Tx K mg) : EM.Apart K (He.ga K "Ratio") :=
  have c := T.says.fact 185 (f := fun K => EM.apartB K (He.ga K "Ratio")) (by rfl)
  EM.apartB_ok c
theorem Tx.ap_Reading (T : Tx K mg) : EM.Apart K (He.ga K "Reading") :=
  have c := T.says.fact 186 (f := fun K => EM.apartB K (He.ga K "Reading")) (by rfl)
  EM.apartB_ok c
theorem Tx.fi_Reading_getitem (T : Tx K mg) : PySem.W.fnIn K (He.ma K (He.ga K "Reading") "__getitem__") = true :=
  have c := T.says.fact 188 (f := fun K => PySem.W.fnIn K (He.ma K (He.ga K "Reading") "__getitem__")) (by rfl)
  c
theorem Tx.tn_law_right_law (T : Tx K mg) : EM.tA K (He.ga K "_law_right") ≠ EM.tA K (He.ga K "law") :=
  have c := T.says.fact 189 (f := fun K => decide (EM.tA K (He.ga K "_law_right") ≠ EM.tA K (He.ga K "law"))) (by rfl)
  of_decide_eq_true c
theorem Tx.d_NoEdge_init (T : Tx K mg) : ∃ fd, FunD K "__init__" "NoEdge.__init__" (defArgs s_NoEdge_init) (defBody s_NoEdge_init) (defScope s_NoEdge_init) [] [] (He.ma K (He.ga K "NoEdge") "__init__") fd := T.says.def_ 0 (d := e_NoEdge_init) (by rfl)
theorem Tx.d_BadReading_init (T : Tx K mg) : ∃ fd, FunD K "__init__" "BadReading.__init__" (defArgs s_BadReading_init) (defBody s_BadReading_init) (defScope s_BadReading_init) [] [] (He.ma K (He.ga K "BadReading") "__init__") fd := T.says.def_ 1 (d := e_BadReading_init) (by rfl)
theorem Tx.d_NotRising_init (T : Tx K mg) : ∃ fd, FunD K "__init__" "NotRising.__init__" (defArgs s_NotRising_init) (defBody s_NotRising_init) (defScope s_NotRising_init) [] [] (He.ma K (He.ga K "NotRising") "__init__") fd := T.says.def_ 2 (d := e_NotRising_init) (by rfl)
theorem Tx.d_BadText_init (T : Tx K mg) : ∃ fd, FunD K "__init__" "BadText.__init__" (defArgs s_BadText_init) (defBody s_BadText_init) (defScope s_BadText_init) [] [] (He.ma K (He.ga K "BadText") "__init__") fd := T.says.def_ 3 (d := e_BadText_init) (by rfl)
theorem Tx.d_is_integer (T : Tx K mg) : ∃ fd, FunD K "is_integer" "is_integer" (defArgs s_is_integer) (defBody s_is_integer) (defScope s_is_integer) [] [] (He.ga K "is_integer") fd := T.says.def_ 4 (d := e_is_integer) (by rfl)
theorem Tx.d_common_divisor (T : Tx K mg) : ∃ fd, FunD K "common_divisor" "common_divisor" (defArgs s_common_divisor) (defBody s_common_divisor) (defScope s_common_divisor) [] [] (He.ga K "common_divisor") fd := T.says.def_ 5 (d := e_common_divisor) (by rfl)
theorem Tx.d_Ratio_init (T : Tx K mg) : ∃ fd, FunD K "__init__" "Ratio.__init__" (defArgs s_Ratio_init) (defBody s_Ratio_init) (defScope s_Ratio_init) [.int 1] [] (He.ma K (He.ga K "Ratio") "__init__") fd := T.says.def_ 6 (d := e_Ratio_init) (by rfl)
theorem Tx.d_Ratio_of (T : Tx K mg) : ∃ fd, FunD K "of" "Ratio.of" (defArgs s_Ratio_of) (defBody s_Ratio_of) (defScope s_Ratio_of) [] [] (He5.wf K (He.ga K "Ratio") "staticmethod" "of") fd := T.says.def_ 7 (d := e_Ratio_of) (by rfl)
theorem Tx.d_Ratio_is_number (T : Tx K mg) : ∃ fd, FunD K "is_number" "Ratio.is_number" (defArgs s_Ratio_is_number) (defBody s_Ratio_is_number) (defScope s_Ratio_is_number) [] [] (He5.wf K (He.ga K "Ratio") "staticmethod" "is_number") fd := T.says.def_ 8 (d := e_Ratio_is_number) (by rfl)
theorem Tx.d_Ratio_read (T : Tx K mg) : ∃ fd, FunD K "read" "Ratio.read" (defArgs s_Ratio_read) (defBody s_Ratio_read) (defScope s_Ratio_read) [] [] (He5.wf K (He.ga K "Ratio") "classmethod" "read") fd := T.says.def_ 9 (d := e_Ratio_read) (by rfl)
theorem Tx.d_Ratio_add (T : Tx K mg) : ∃ fd, FunD K "__add__" "Ratio.__add__" (defArgs s_Ratio_add) (defBody s_Ratio_add) (defScope s_Ratio_add) [] [] (He.ma K (He.ga K "Ratio") "__add__") fd := T.says.def_ 10 (d := e_Ratio_add) (by rfl)
theorem Tx.d_Ratio_sub (T : Tx K mg) : ∃ fd, FunD K "__sub__" "Ratio.__sub__" (defArgs s_Ratio_sub) (defBody s_Ratio_sub) (defScope s_Ratio_sub) [] [] (He.ma K (He.ga K "Ratio") "__sub__") fd := T.says.def_ 11 (d := e_Ratio_sub) (by rfl)
theorem Tx.d_Ratio_neg (T : Tx K mg) : ∃ fd, FunD K "__neg__" "Ratio.__neg__" (defArgs s_Ratio_neg) (defBody s_Ratio_neg) (defScope s_Ratio_neg) [] [] (He.ma K (He.ga K "Ratio") "__neg__") fd := T.says.def_ 12 (d := e_Ratio_neg) (by rfl)
theorem Tx.d_Ratio_rsub (T : Tx K mg) : ∃ fd, FunD K "__rsub__" "Ratio.__rsub__" (defArgs s_Ratio_rsub) (defBody s_Ratio_rsub) (defScope s_Ratio_rsub) [] [] (He.ma K (He.ga K "Ratio") "__rsub__") fd := T.says.def_ 14 (d := e_Ratio_rsub) (by rfl)
theorem Tx.d_Ratio_eq (T : Tx K mg) : ∃ fd, FunD K "__eq__" "Ratio.__eq__" (defArgs s_Ratio_eq) (defBody s_Ratio_eq) (defScope s_Ratio_eq) [] [] (He.ma K (He.ga K "Ratio") "__eq__") fd := T.says.def_ 15 (d := e_Ratio_eq) (by rfl)
theorem Tx.d_Ratio_le (T : Tx K mg) : ∃ fd, FunD K "__le__" "Ratio.__le__" (defArgs s_Ratio_le) (defBody s_Ratio_le) (defScope s_Ratio_le) [] [] (He.ma K (He.ga K "Ratio") "__le__") fd := T.says.def_ 16 (d := e_Ratio_le) (by rfl)
theorem Tx.d_Ratio_ge (T : Tx K mg) : ∃ fd, FunD K "__ge__" "Ratio.__ge__" (defArgs s_Ratio_ge) (defBody s_Ratio_ge) (defScope s_Ratio_ge) [] [] (He.ma K (He.ga K "Ratio") "__ge__") fd := T.says.def_ 17 (d := e_Ratio_ge) (by rfl)
theorem Tx.d_Ratio_repr (T : Tx K mg) : ∃ fd, FunD K "__repr__" "Ratio.__repr__" (defArgs s_Ratio_repr) (defBody s_Ratio_repr) (defScope s_Ratio_repr) [] [] (He.ma K (He.ga K "Ratio") "__repr__") fd := T.says.def_ 18 (d := e_Ratio_repr) (by rfl)
theorem Tx.d_is_figures (T : Tx K mg) : ∃ fd, FunD K "is_figures" "is_figures" (defArgs s_is_figures) (defBody s_is_figures) (defScope s_is_figures) [] [] (He.ga K "is_figures") fd := T.says.def_ 19 (d := e_is_figures) (by rfl)
theorem Tx.d_is_edge_count (T : Tx K mg) : ∃ fd, FunD K "is_edge_count" "is_edge_count" (defArgs s_is_edge_count) (defBody s_is_edge_count) (defScope s_is_edge_count) [] [] (He.ga K "is_edge_count") fd := T.says.def_ 20 (d := e_is_edge_count) (by rfl)
theorem Tx.d_need_edge (T : Tx K mg) : ∃ fd, FunD K "need_edge" "need_edge" (defArgs s_need_edge) (defBody s_need_edge) (defScope s_need_edge) [] [] (He.ga K "need_edge") fd := T.says.def_ 21 (d := e_need_edge) (by rfl)
theorem Tx.d_edges_of_readings (T : Tx K mg) : ∃ fd, FunD K "edges_of" "edges_of" (defArgs s_edges_of_readings) (defBody s_edges_of_readings) (defScope s_edges_of_readings) [] [] (He.ga K "edges_of_readings") fd := T.says.def_ 22 (d := e_edges_of_readings) (by rfl)
theorem Tx.d_number_told (T : Tx K mg) : ∃ fd, FunD K "number_told" "number_told" (defArgs s_number_told) (defBody s_number_told) (defScope s_number_told) [] [] (He.ga K "number_told") fd := T.says.def_ 23 (d := e_number_told) (by rfl)
theorem Tx.d_is_between (T : Tx K mg) : ∃ fd, FunD K "is_between" "is_between" (defArgs s_is_between) (defBody s_is_between) (defScope s_is_between) [] [] (He.ga K "is_between") fd := T.says.def_ 24 (d := e_is_between) (by rfl)
theorem Tx.d_edges_of_marks (T : Tx K mg) : ∃ fd, FunD K "edges_of" "edges_of" (defArgs s_edges_of_marks) (defBody s_edges_of_marks) (defScope s_edges_of_marks) [] [] (He.ga K "edges_of_marks") fd := T.says.def_ 25 (d := e_edges_of_marks) (by rfl)
theorem Tx.d_Reading_init (T : Tx K mg) : ∃ fd, FunD K "__init__" "Reading.__init__" (defArgs s_Reading_init) (defBody s_Reading_init) (defScope s_Reading_init) [] [] (He.ma K (He.ga K "Reading") "__init__") fd := T.says.def_ 26 (d := e_Reading_init) (by rfl)
theorem Tx.d_Reading_of (T : Tx K mg) : ∃ fd, FunD K "of" "Reading.of" (defArgs s_Reading_of) (defBody s_Reading_of) (defScope s_Reading_of) [] [] (He5.wf K (He.ga K "Reading") "classmethod" "of") fd := T.says.def_ 27 (d := e_Reading_of) (by rfl)
theorem Tx.d_Reading_read (T : Tx K mg) : ∃ fd, FunD K "read" "Reading.read" (defArgs s_Reading_read) (defBody s_Reading_read) (defScope s_Reading_read) [] [] (He5.wf K (He.ga K "Reading") "classmethod" "read") fd := T.says.def_ 28 (d := e_Reading_read) (by rfl)
theorem Tx.d_Reading_edges (T : Tx K mg) : ∃ fd, FunD K "edges" "Reading.edges" (defArgs s_Reading_edges) (defBody s_Reading_edges) (defScope s_Reading_edges) [] [] (EM.pf K (He.ga K "Reading") "edges") fd := T.says.def_ 29 (d := e_Reading_edges) (by rfl)
theorem Tx.d_Reading_len (T : Tx K mg) : ∃ fd, FunD K "__len__" "Reading.__len__" (defArgs s_Reading_len) (defBody s_Reading_len) (defScope s_Reading_len) [] [] (He.ma K (He.ga K "Reading") "__len__") fd := T.says.def_ 30 (d := e_Reading_len) (by rfl)
theorem Tx.d_Reading_getitem (T : Tx K mg) : ∃ fd, FunD K "__getitem__" "Reading.__getitem__" (defArgs s_Reading_getitem) (defBody s_Reading_getitem) (defScope s_Reading_getitem) [] [] (He.ma K (He.ga K "Reading") "__getitem__") fd := T.says.def_ 31 (d := e_Reading_getitem) (by rfl)
theorem Tx.d_Reading_eq (T : Tx K mg) : ∃ fd, FunD K "__eq__" "Reading.__eq__" (defArgs s_Reading_eq) (defBody s_Reading_eq) (defScope s_Reading_eq) [] [] (He.ma K (He.ga K "Reading") "__eq__") fd := T.says.def_ 32 (d := e_Reading_eq) (by rfl)
theorem Tx.d_Mark_init (T : Tx K mg) : ∃ fd, FunD K "__init__" "Mark.__init__" (defArgs s_Mark_init) (defBody s_Mark_init) (defScope s_Mark_init) [] [] (He.ma K (He.ga K "Mark") "__init__") fd := T.says.def_ 33 (d := e_Mark_init) (by rfl)
theorem Tx.d_Lpen (T : Tx K mg) : ∃ fd, FunD K "_law_pen" "_law_pen" (defArgs s_Lpen) (defBody s_Lpen) (defScope s_Lpen) [] [] (He.ga K "_law_pen") fd := T.says.def_ 34 (d := e_Lpen) (by rfl)
theorem Tx.d_Ldraw (T : Tx K mg) : ∃ fd, FunD K "_law_draw" "_law_draw" (defArgs s_Ldraw) (defBody s_Ldraw) (defScope s_Ldraw) [] [] (He.ga K "_law_draw") fd := T.says.def_ 35 (d := e_Ldraw) (by rfl)
theorem Tx.d_Lpick (T : Tx K mg) : ∃ fd, FunD K "_law_pick" "_law_pick" (defArgs s_Lpick) (defBody s_Lpick) (defScope s_Lpick) [] [] (He.ga K "_law_pick") fd := T.says.def_ 36 (d := e_Lpick) (by rfl)
theorem Tx.d_Lfrac (T : Tx K mg) : ∃ fd, FunD K "_law_frac" "_law_frac" (defArgs s_Lfrac) (defBody s_Lfrac) (defScope s_Lfrac) [] [] (He.ga K "_law_frac") fd := T.says.def_ 37 (d := e_Lfrac) (by rfl)
theorem Tx.d_Lsum (T : Tx K mg) : ∃ fd, FunD K "_law_sum" "_law_sum" (defArgs s_Lsum) (defBody s_Lsum) (defScope s_Lsum) [] [] (He.ga K "_law_sum") fd := T.says.def_ 38 (d := e_Lsum) (by rfl)
theorem Tx.d_Lis_less (T : Tx K mg) : ∃ fd, FunD K "_law_is_less" "_law_is_less" (defArgs s_Lis_less) (defBody s_Lis_less) (defScope s_Lis_less) [] [] (He.ga K "_law_is_less") fd := T.says.def_ 39 (d := e_Lis_less) (by rfl)
theorem Tx.d_Ldrawn (T : Tx K mg) : ∃ fd, FunD K "_law_drawn" "_law_drawn" (defArgs s_Ldrawn) (defBody s_Ldrawn) (defScope s_Ldrawn) [] [] (He.ga K "_law_drawn") fd := T.says.def_ 40 (d := e_Ldrawn) (by rfl)
theorem Tx.d_Lpassed (T : Tx K mg) : ∃ fd, FunD K "_law_passed" "_law_passed" (defArgs s_Lpassed) (defBody s_Lpassed) (defScope s_Lpassed) [] [] (He.ga K "_law_passed") fd := T.says.def_ 41 (d := e_Lpassed) (by rfl)
theorem Tx.d_Lis (T : Tx K mg) : ∃ fd, FunD K "_law_is" "_law_is" (defArgs s_Lis) (defBody s_Lis) (defScope s_Lis) [] [] (He.ga K "_law_is") fd := T.says.def_ 42 (d := e_Lis) (by rfl)
theorem Tx.d_Lare (T : Tx K mg) : ∃ fd, FunD K "_law_are" "_law_are" (defArgs s_Lare) (defBody s_Lare) (defScope s_Lare) [] [] (He.ga K "_law_are") fd := T.says.def_ 43 (d := e_Lare) (by rfl)
theorem Tx.d_Lrow (T : Tx K mg) : ∃ fd, FunD K "_law_row" "_law_row" (defArgs s_Lrow) (defBody s_Lrow) (defScope s_Lrow) [] [] (He.ga K "_law_row") fd := T.says.def_ 44 (d := e_Lrow) (by rfl)
theorem Tx.d_Lheard (T : Tx K mg) : ∃ fd, FunD K "_law_heard" "_law_heard" (defArgs s_Lheard) (defBody s_Lheard) (defScope s_Lheard) [] [] (He.ga K "_law_heard") fd := T.says.def_ 45 (d := e_Lheard) (by rfl)
theorem Tx.d_Ldue (T : Tx K mg) : ∃ fd, FunD K "_law_due" "_law_due" (defArgs s_Ldue) (defBody s_Ldue) (defScope s_Ldue) [] [] (He.ga K "_law_due") fd := T.says.def_ 46 (d := e_Ldue) (by rfl)
theorem Tx.d_Lbent (T : Tx K mg) : ∃ fd, FunD K "_law_bent" "_law_bent" (defArgs s_Lbent) (defBody s_Lbent) (defScope s_Lbent) [] [] (He.ga K "_law_bent") fd := T.says.def_ 47 (d := e_Lbent) (by rfl)
theorem Tx.d_Lby_args (T : Tx K mg) : ∃ fd, FunD K "_law_by_args" "_law_by_args" (defArgs s_Lby_args) (defBody s_Lby_args) (defScope s_Lby_args) [] [] (He.ga K "_law_by_args") fd := T.says.def_ 48 (d := e_Lby_args) (by rfl)
theorem Tx.d_Lright (T : Tx K mg) : ∃ fd, FunD K "_law_right" "_law_right" (defArgs s_Lright) (defBody s_Lright) (defScope s_Lright) [] [] (He.ga K "_law_right") fd := T.says.def_ 49 (d := e_Lright) (by rfl)
theorem Tx.d_Lalike_right (T : Tx K mg) : ∃ fd, FunD K "_law_alike_right" "_law_alike_right" (defArgs s_Lalike_right) (defBody s_Lalike_right) (defScope s_Lalike_right) [] [] (He.ga K "_law_alike_right") fd := T.says.def_ 50 (d := e_Lalike_right) (by rfl)
theorem Tx.d_law (T : Tx K mg) : ∃ fd, FunD K "law" "law" (defArgs s_law) (defBody s_law) (defScope s_law) [] [] (He.ga K "law") fd := T.says.def_ 51 (d := e_law) (by rfl)
theorem Tx.k_is_integer (T : Tx K mg) : PySem.W.keepIn K (.ref (He.ga K "is_integer")) = true := let ⟨_, F⟩ := T.d_is_integer; F.kp
theorem Tx.k_common_divisor (T : Tx K mg) : PySem.W.keepIn K (.ref (He.ga K "common_divisor")) = true := let ⟨_, F⟩ := T.d_common_divisor; F.kp
theorem Tx.k_is_figures (T : Tx K mg) : PySem.W.keepIn K (.ref (He.ga K "is_figures")) = true := let ⟨_, F⟩ := T.d_is_figures; F.kp
theorem Tx.k_is_edge_count (T : Tx K mg) : PySem.W.keepIn K (.ref (He.ga K "is_edge_count")) = true := let ⟨_, F⟩ := T.d_is_edge_count; F.kp
theorem Tx.k_need_edge (T : Tx K mg) : PySem.W.keepIn K (.ref (He.ga K "need_edge")) = true := let ⟨_, F⟩ := T.d_need_edge; F.kp
theorem Tx.k_edges_of_readings (T : Tx K mg) : PySem.W.keepIn K (.ref (He.ga K "edges_of_readings")) = true := let ⟨_, F⟩ := T.d_edges_of_readings; F.kp
theorem Tx.k_number_told (T : Tx K mg) : PySem.W.keepIn K (.ref (He.ga K "number_told")) = true := let ⟨_, F⟩ := T.d_number_told; F.kp
theorem Tx.k_is_between (T : Tx K mg) : PySem.W.keepIn K (.ref (He.ga K "is_between")) = true := let ⟨_, F⟩ := T.d_is_between; F.kp
theorem Tx.k_edges_of_marks (T : Tx K mg) : PySem.W.keepIn K (.ref (He.ga K "edges_of_marks")) = true := let ⟨_, F⟩ := T.d_edges_of_marks; F.kp
theorem Tx.k__law_pen (T : Tx K mg) : PySem.W.keepIn K (.ref (He.ga K "_law_pen")) = true := let ⟨_, F⟩ := T.d_Lpen; F.kp
theorem Tx.k__law_draw (T : Tx K mg) : PySem.W.keepIn K (.ref (He.ga K "_law_draw")) = true := let ⟨_, F⟩ := T.d_Ldraw; F.kp
theorem Tx.k__law_pick (T : Tx K mg) : PySem.W.keepIn K (.ref (He.ga K "_law_pick")) = true := let ⟨_, F⟩ := T.d_Lpick; F.kp
theorem Tx.k__law_frac (T : Tx K mg) : PySem.W.keepIn K (.ref (He.ga K "_law_frac")) = true := let ⟨_, F⟩ := T.d_Lfrac; F.kp
theorem Tx.k__law_sum (T : Tx K mg) : PySem.W.keepIn K (.ref (He.ga K "_law_sum")) = true := let ⟨_, F⟩ := T.d_Lsum; F.kp
theorem Tx.k__law_is_less (T : Tx K mg) : PySem.W.keepIn K (.ref (He.ga K "_law_is_less")) = true := let ⟨_, F⟩ := T.d_Lis_less; F.kp
theorem Tx.k__law_drawn (T : Tx K mg) : PySem.W.keepIn K (.ref (He.ga K "_law_drawn")) = true := let ⟨_, F⟩ := T.d_Ldrawn; F.kp
theorem Tx.k__law_passed (T : Tx K mg) : PySem.W.keepIn K (.ref (He.ga K "_law_passed")) = true := let ⟨_, F⟩ := T.d_Lpassed; F.kp
theorem Tx.k__law_is (T : Tx K mg) : PySem.W.keepIn K (.ref (He.ga K "_law_is")) = true := let ⟨_, F⟩ := T.d_Lis; F.kp
theorem Tx.k__law_are (T : Tx K mg) : PySem.W.keepIn K (.ref (He.ga K "_law_are")) = true := let ⟨_, F⟩ := T.d_Lare; F.kp
theorem Tx.k__law_row (T : Tx K mg) : PySem.W.keepIn K (.ref (He.ga K "_law_row")) = true := let ⟨_, F⟩ := T.d_Lrow; F.kp
theorem Tx.k__law_due (T : Tx K mg) : PySem.W.keepIn K (.ref (He.ga K "_law_due")) = true := let ⟨_, F⟩ := T.d_Ldue; F.kp
theorem Tx.k__law_bent (T : Tx K mg) : PySem.W.keepIn K (.ref (He.ga K "_law_bent")) = true := let ⟨_, F⟩ := T.d_Lbent; F.kp
theorem Tx.k__law_by_args (T : Tx K mg) : PySem.W.keepIn K (.ref (He.ga K "_law_by_args")) = true := let ⟨_, F⟩ := T.d_Lby_args; F.kp
theorem Tx.k__law_right (T : Tx K mg) : PySem.W.keepIn K (.ref (He.ga K "_law_right")) = true := let ⟨_, F⟩ := T.d_Lright; F.kp
theorem Tx.k__law_alike_right (T : Tx K mg) : PySem.W.keepIn K (.ref (He.ga K "_law_alike_right")) = true := let ⟨_, F⟩ := T.d_Lalike_right; F.kp
theorem Tx.k_Ratio_of (T : Tx K mg) : PySem.W.keepIn K (.ref (He5.wf K (He.ga K "Ratio") "staticmethod" "of")) = true := let ⟨_, F⟩ := T.d_Ratio_of; F.kp
theorem Tx.k_Ratio_is_number (T : Tx K mg) : PySem.W.keepIn K (.ref (He5.wf K (He.ga K "Ratio") "staticmethod" "is_number")) = true := let ⟨_, F⟩ := T.d_Ratio_is_number; F.kp
theorem Tx.t_Lright (T : Tx K mg) : EM.TabK K (He.ga K "_law_right") := T.tab _ (List.mem_of_getElem? (i := 0) (by rfl))
theorem Tx.t_law (T : Tx K mg) : EM.TabK K (He.ga K "law") := T.tab _ (List.mem_of_getElem? (i := 1) (by rfl))
end
end K12
namespace K12
open PySem PySem.Spec PyProof.Rows L2 EM
section
variable {P : Program} {w : World} {K : PySem.W.Frag} {mg : Str → Option Value} {base : Heap}
theorem ok_Lpen (T : Tx K mg) : FnR P w K mg base (L2.CX P w) 1 (He.ga K "_law_pen") (spPen K) := by
  obtain ⟨fd, F⟩ := T.d_Lpen
  refine EM.fnr F sc_Lpen (fun _ _ _ _ _ _ us hl => match us, hl with | [_], _ => rfl) (fun vs H Q E h => ?_) (fun cdv A outer s H vs Q E hr h => ?_)
  · obtain ⟨a, ns, rfl, _⟩ := h
    rfl
  · obtain ⟨a, ns, rfl, hS, hl, k⟩ := h
    obtain ⟨ms, ems, hms⟩ := cut_ints ns none (some 63)
    refine ⟨_, (PSs.nox (pss_one (ps_ret (pe_lst (pa_cons (pe_callTy call_list_of (by rfl) T.f_list (by decide +kernel) (pa_cons (pe_slice sl_list (pv 0) po_none (po_some pe_int)) pa_nil)) (pa_cons pe_int (pa_cons pe_int pa_nil))))))), ?_⟩
    refine ⟨_, rfl, 63, rfl, a, _, rfl, hS, fun c hc => ⟨c, _, rfl, .inl (SqL.of upd_same), fun l hl2 => ⟨(by show 3 ≤ sizeLine; decide), fun p hp => ?_⟩⟩⟩
    have s1 : Same H _ := same_upd (o := .lst (cutV (ns.map V.int) none (some 63))) hc
    have s2 := same_upd' (o := .lst (cutV (ns.map V.int) none (some 63))) s1 (s1.free hl2)
    have n2 : H p = none := s2.free hp
    have nlp : l ≠ p := by
      intro z
      subst z
      rw [upd_same] at hp
      cases hp
    refine k p l _ (same_upd' s2 n2) n2 ⟨ms, 0, 0, upd_same, ?_, nlp, by omega, by omega, by omega⟩
    rw [upd_ne nlp, upd_same, ems]
theorem ok_Ldraw (T : Tx K mg) : FnR P w K mg base (L2.CX P w) 1 (He.ga K "_law_draw") (spDraw) := by
  obtain ⟨fd, F⟩ := T.d_Ldraw
  refine EM.fnr F sc_Ldraw (fun _ _ _ _ _ _ us hl => match us, hl with | [_, _], _ => rfl) (fun vs H Q E h => ?_) (fun cdv A outer s H vs Q E hr h => ?_)
  · obtain ⟨p, l, n, many, rfl, _⟩ := h
    rfl
  · obtain ⟨p, l, n, many, rfl, ⟨cells, at_, rest, hp, hlc, nlp, hcl, a0, a1⟩, hn, m1, m2, k⟩ := h
    have wm : CDivW 0 many := wide_div (b := 400) (by omega) (by omega) (by decide) (by decide)
    have wd : ∀ i, CDivW i many := fun i => wm
    have md : ∀ i : Int, 0 ≤ i % many ∧ i % many < many := fun i => ⟨Int.emod_nonneg _ (by omega), Int.emod_lt_of_pos _ (by omega)⟩
    refine ⟨_, (PSs.nox (pss_cons (ps_if (pt_cmpR op_gt (pe_ix ix_list (pv 0) pe_int (fun _ _ => rfl)) pe_int (nomark _))
  (pss_cons (ps_set (i := 2) sc_Ldraw.nd rfl (Or.inl rfl) (pe_op op_mod (pe_callTy call_int1 (by rfl) T.f_int (by decide +kernel) (pa_cons (pe_ix ix_list (pv 0) pe_int (fun _ _ => rfl)) pa_nil)) (pv 1)))
 (pss_cons (ps_asg (pe_op op_fdivW (pe_callTy call_int1 (by rfl) T.f_int (by decide +kernel) (pa_cons (pe_ix ix_list (pv 0) pe_int (fun _ _ => rfl)) pa_nil)) (pv 1)) (pg_sub (pv 0) pe_int set_list))
 (pss_one (ps_ret (pv 2))))) pss_nil)
 (pss_cons (ps_set (i := 3) sc_Ldraw.nd rfl (Or.inl rfl) (pe_ix ix_list (pv 0) pe_int (fun _ _ => rfl)))
 (pss_cons (ps_asg (pe_op op_add (pv 3) pe_int) (pg_sub (pv 0) pe_int set_list))
 (pss_cons (ps_set (i := 4) sc_Ldraw.nd rfl (Or.inl rfl) (pe_op op_add (pe_op op_mul pe_int (pv 3)) pe_int))
 (pss_cons (ps_if (pt_cmpR (op_neD hr.units) (pe_ix ix_list (pv 0) pe_int (fun _ _ => rfl)) (pe_lst pa_nil) (nomark _))
  (pss_one (ps_set (i := 4) sc_Ldraw.nd rfl (Or.inl rfl) (pe_ix ix_list (pe_ix ix_list (pv 0) pe_int (fun _ _ => rfl)) (pe_op op_mod (pe_callTy call_int1 (by rfl) T.f_int (by decide +kernel) (pa_cons (pv 3) pa_nil)) (pe_callB call_len (by rfl) T.f_len boot_len (pa_cons (pe_ix ix_list (pv 0) pe_int (fun _ _ => rfl)) pa_nil))) (fun _ _ => rfl)))) pss_nil)
 (pss_cons (ps_if (PW.pt (pw_and (pt_cmpR op_lt (pv 3) (pe_callB call_len (by rfl) T.f_len boot_len (pa_cons (pe_ix ix_list (pv 0) pe_int (fun _ _ => rfl)) pa_nil)) (nomark _)) (pw_and1 (pt_cmpR op_ge (pe_callB call_abs (by rfl) T.f_abs (by decide +kernel) (pa_cons (pv 4) pa_nil)) (pe_op op_pow pe_int pe_int) (nomark _)))))
  (pss_cons (ps_set (i := 5) sc_Ldraw.nd rfl (Or.inl rfl) (pe_op op_add (pe_op op_mul pe_int (pe_op op_sub (pe_callB call_abs (by rfl) T.f_abs (by decide +kernel) (pa_cons (pv 4) pa_nil)) (pe_op op_pow pe_int pe_int))) (pe_callTy call_int1 (by rfl) T.f_int (by decide +kernel) (pa_cons (pe_cmpR op_lt (pv 4) pe_int (nomark _)) pa_nil))))
 (pss_cons (ps_asg (pe_op op_fdivW (pe_callTy call_int1 (by rfl) T.f_int (by decide +kernel) (pa_cons (pv 5) pa_nil)) (pv 1)) (pg_sub (pv 0) pe_int set_list))
 (pss_one (ps_ret (pe_op op_mod (pe_callTy call_int1 (by rfl) T.f_int (by decide +kernel) (pa_cons (pv 5) pa_nil)) (pv 1)))))) pss_nil)
 (pss_cons (ps_set (i := 6) sc_Ldraw.nd rfl (Or.inl rfl) (pe_op op_mod (pe_callTy call_int1 (by rfl) T.f_int (by decide +kernel) (pa_cons (pe_op op_pow (pe_op op_add (pe_op op_add (pe_op op_mod (pe_callTy call_int1 (by rfl) T.f_int (by decide +kernel) (pa_cons (pv 4) pa_nil)) pe_int) (pe_op op_mul pe_int (pv 3))) pe_int) pe_int) pa_nil)) pe_int))
 (pss_cons (ps_set (i := 6) sc_Ldraw.nd rfl (Or.inl rfl) (pe_op op_mod (pe_callTy call_int1 (by rfl) T.f_int (by decide +kernel) (pa_cons (pe_op op_pow (pe_op op_add (pe_op op_add (pe_op op_mul (pv 6) (pe_op op_add (pe_op op_mul pe_int (pv 3)) pe_int)) (pe_op op_mul (pe_op op_mul pe_int (pv 3)) (pv 3))) pe_int) pe_int) pa_nil)) pe_int))
 (pss_one (ps_ret (pe_op op_mod (pe_callTy call_int1 (by rfl) T.f_int (by decide +kernel) (pa_cons (pe_op op_fdiv (pv 6) pe_int) pa_nil)) (pv 1))))))))))))), ?_⟩
    -- if pen[2] > 0
    refine ⟨_, rfl, p, _, 2, _, rfl, rfl, SqL.of hp, rfl, _, _, rfl, rfl, _, rfl, ite2 (fun c => ?_) (fun c => ?_)⟩
    · refine ⟨_, rfl, p, _, 2, _, rfl, rfl, SqL.of hp, rfl, .inl ⟨_, rfl, _, rfl, _, _, rfl, rfl, (by show (0 : Int) < many; omega), ?_⟩⟩
      refine ⟨_, rfl, p, _, 2, _, rfl, rfl, SqL.of hp, rfl, .inl ⟨_, rfl, _, rfl, _, _, rfl, rfl, wd _, ?_⟩⟩
      refine ⟨_, rfl, p, _, 2, 2, rfl, rfl, hp, rfl, ?_⟩
      refine ⟨_, rfl, k _ _ (md _).1 (md _).2 (fun b o e hb => by rw [upd_ne hb]; exact e) ⟨cells, at_, _, upd_same, by rw [upd_ne nlp]; exact hlc, nlp, hcl, a0, by omega⟩⟩
    · have a2 : at_ ≤ 1000000 := by omega
      -- at = pen[1]; pen[1] = at + 1; cell = ..
      refine ⟨_, rfl, p, _, 1, _, rfl, rfl, SqL.of hp, rfl, ?_⟩
      refine ⟨_, rfl, _, _, rfl, rfl, _, rfl, p, _, 1, 1, rfl, rfl, hp, rfl, ?_⟩
      refine ⟨_, rfl, _, _, rfl, rfl, .inl ⟨by decide, by decide⟩, _, _, rfl, rfl, ?_⟩
      obtain ⟨H1, eH1⟩ : ∃ H1, H1 = upd H p (.lst ([V.ref l, V.int at_, V.int rest].set 1 (.int (at_ + 1)))) := ⟨_, rfl⟩
      rw [← eH1]
      have hp1 : H1 p = some (.lst [.ref l, .int (at_ + 1), .int rest]) := by rw [eH1]; exact upd_same
      have hl1 : H1 l = some (.lst (cells.map V.int)) := by rw [eH1, upd_ne nlp]; exact hlc
      have k1 : ∀ b o, H b = some o → b ≠ p → H1 b = some o := fun b o e hb => by rw [eH1, upd_ne hb]; exact e
      clear eH1
      -- if pen[0] != []
      refine ⟨_, rfl, p, _, 0, _, rfl, rfl, SqL.of hp1, rfl, (by show 0 ≤ sizeLine; decide), fun q hq => ⟨dL cells, dL [], .lst (SqL.of (by rw [upd_ne (ne_of_none hl1 hq)]; exact hl1)) (dp_ints cells), .lst (SqL.of upd_same) .nil, shL cells, shL [], _, rfl, ?_⟩⟩
      obtain ⟨H2, eH2⟩ : ∃ H2, H2 = upd H1 q (.lst []) := ⟨_, rfl⟩
      rw [← eH2]
      have hp2 : H2 p = some (.lst [.ref l, .int (at_ + 1), .int rest]) := by rw [eH2, upd_ne (ne_of_none hp1 hq)]; exact hp1
      have hl2 : H2 l = some (.lst (cells.map V.int)) := by rw [eH2, upd_ne (ne_of_none hl1 hq)]; exact hl1
      have k2 : ∀ b o, H b = some o → b ≠ p → H2 b = some o := fun b o e hb => by rw [eH2, upd_ne (ne_of_none (k1 b o e hb) hq)]; exact k1 b o e hb
      clear eH2
      rw [eqvL]
      refine ite2 (fun c2 => ?_) (fun c2 => ?_)
      · have hc0 : 0 < cells.length := by
          cases cells with
          | nil => simp at c2
          | cons _ _ => simp
        have hm : 0 ≤ at_ % (cells.length : Int) ∧ at_ % (cells.length : Int) < cells.length := ⟨Int.emod_nonneg _ (by omega), Int.emod_lt_of_pos _ (by omega)⟩
        have hj : (at_ % (cells.length : Int)).toNat < cells.length := by omega
        refine ⟨_, rfl, p, _, 0, _, rfl, rfl, SqL.of hp2, rfl, _, rfl, .inl ⟨_, rfl, _, rfl, p, _, 0, _, rfl, rfl, SqL.of hp2, rfl, _, _, rfl, .inl ⟨_, SqL.of hl2, rfl⟩, _, _, rfl, rfl, ?_, l, _, _, .int (cells[(at_ % (cells.length : Int)).toNat]), rfl, rfl, SqL.of hl2, ?_, ?_⟩⟩
        · show (0 : Int) < ((cells.map V.int).length : Nat)
          rw [List.length_map]; omega
        · rw [List.length_map]
          exact at_of (j := (at_ % (cells.length : Int)).toNat) (by omega) (by rw [List.getElem?_map, List.getElem?_eq_getElem hj]; rfl)
        refine ⟨_, rfl, _, rfl, p, _, 0, _, rfl, rfl, SqL.of hp2, rfl, _, _, rfl, .inl ⟨_, SqL.of hl2, rfl⟩, _, _, rfl, rfl, _, rfl, ite2 (fun c3 => ?_) (fun c3 => ?_)⟩
        · refine ⟨_, rfl, _, rfl, _, _, rfl, rfl, ⟨by decide, by decide, by decide⟩, _, _, rfl, rfl, _, rfl, ite2 (fun c4 => ?_) (fun c4 => ?_)⟩
          · refine ⟨_, rfl, _, rfl, _, _, rfl, rfl, ⟨by decide, by decide, by decide⟩, _, _, rfl, rfl, _, _, rfl, rfl, .inl ⟨by decide, by decide⟩, _, rfl, _, _, rfl, rfl, .inr ⟨_, rfl, _, _, rfl, rfl, ?_⟩⟩
            refine ⟨_, rfl, .inl ⟨_, rfl, _, rfl, _, _, rfl, rfl, wd _, ?_⟩⟩
            refine ⟨_, rfl, p, _, 2, 2, rfl, rfl, hp2, rfl, ?_⟩
            refine ⟨_, rfl, .inl ⟨_, rfl, _, rfl, _, _, rfl, rfl, (by show (0 : Int) < many; omega), ?_⟩⟩
            exact k _ _ (md _).1 (md _).2 (fun b o e hb => by rw [upd_ne hb]; exact k2 b o e hb) ⟨cells, at_ + 1, _, upd_same, by rw [upd_ne nlp]; exact hl2, nlp, hcl, by omega, by omega⟩
          · refine ⟨_, rfl, .inl ⟨_, rfl, _, _, rfl, rfl, (by show (0 : Int) < _; decide), _, rfl, _, _, rfl, rfl, .inl ⟨by decide, by decide⟩, _, _, rfl, rfl, _, _, rfl, rfl, _, _, rfl, rfl, ⟨by decide, by decide, by omega⟩, .inl ⟨_, rfl, _, _, rfl, rfl, (by show (0 : Int) < _; decide), ?_⟩⟩⟩
            refine ⟨_, rfl, _, rfl, _, _, rfl, rfl, .inl ⟨by decide, by decide⟩, _, _, rfl, rfl, _, _, rfl, rfl, .inl ⟨by omega, by omega⟩, _, rfl, _, _, rfl, rfl, .inl ⟨by decide, by decide⟩, _, rfl, _, _, rfl, rfl, .inl (mul_bd a0 a2 ⟨by decide, by decide⟩), _, _, rfl, rfl, _, _, rfl, rfl, _, _, rfl, rfl, ⟨by decide, by decide, draw_bd (by omega) (by omega) a0 a2 ⟨by decide, by decide⟩ ⟨by decide, by decide⟩ ⟨by decide, by decide⟩⟩, .inl ⟨_, rfl, _, _, rfl, rfl, (by show (0 : Int) < _; decide), ?_⟩⟩
            refine ⟨_, rfl, _, _, rfl, rfl, ⟨by decide, by decide⟩, .inl ⟨_, rfl, _, rfl, _, _, rfl, rfl, (by show (0 : Int) < many; omega), ?_⟩⟩
            exact k _ _ (md _).1 (md _).2 k2 ⟨cells, at_ + 1, _, hp2, hl2, nlp, hcl, by omega, by omega⟩
        · refine ifN rfl ?_
          refine ⟨_, rfl, .inl ⟨_, rfl, _, _, rfl, rfl, (by show (0 : Int) < _; decide), _, rfl, _, _, rfl, rfl, .inl ⟨by decide, by decide⟩, _, _, rfl, rfl, _, _, rfl, rfl, _, _, rfl, rfl, ⟨by decide, by decide, by omega⟩, .inl ⟨_, rfl, _, _, rfl, rfl, (by show (0 : Int) < _; decide), ?_⟩⟩⟩
          refine ⟨_, rfl, _, rfl, _, _, rfl, rfl, .inl ⟨by decide, by decide⟩, _, _, rfl, rfl, _, _, rfl, rfl, .inl ⟨by omega, by omega⟩, _, rfl, _, _, rfl, rfl, .inl ⟨by decide, by decide⟩, _, rfl, _, _, rfl, rfl, .inl (mul_bd a0 a2 ⟨by decide, by decide⟩), _, _, rfl, rfl, _, _, rfl, rfl, _, _, rfl, rfl, ⟨by decide, by decide, draw_bd (by omega) (by omega) a0 a2 ⟨by decide, by decide⟩ ⟨by decide, by decide⟩ ⟨by decide, by decide⟩⟩, .inl ⟨_, rfl, _, _, rfl, rfl, (by show (0 : Int) < _; decide), ?_⟩⟩
          refine ⟨_, rfl, _, _, rfl, rfl, ⟨by decide, by decide⟩, .inl ⟨_, rfl, _, rfl, _, _, rfl, rfl, (by show (0 : Int) < many; omega), ?_⟩⟩
          exact k _ _ (md _).1 (md _).2 k2 ⟨cells, at_ + 1, _, hp2, hl2, nlp, hcl, by omega, by omega⟩
      · refine ⟨_, rfl, _, rfl, p, _, 0, _, rfl, rfl, SqL.of hp2, rfl, _, _, rfl, .inl ⟨_, SqL.of hl2, rfl⟩, _, _, rfl, rfl, _, rfl, ite2 (fun c3 => ?_) (fun c3 => ?_)⟩
        · refine ⟨_, rfl, _, rfl, _, _, rfl, rfl, ⟨by decide, by decide, by decide⟩, _, _, rfl, rfl, _, rfl, ite2 (fun c4 => ?_) (fun c4 => ?_)⟩
          · refine ⟨_, rfl, _, rfl, _, _, rfl, rfl, ⟨by decide, by decide, by decide⟩, _, _, rfl, rfl, _, _, rfl, rfl, .inl ⟨by decide, by decide⟩, _, rfl, _, _, rfl, rfl, .inr ⟨_, rfl, _, _, rfl, rfl, ?_⟩⟩
            refine ⟨_, rfl, .inl ⟨_, rfl, _, rfl, _, _, rfl, rfl, wd _, ?_⟩⟩
            refine ⟨_, rfl, p, _, 2, 2, rfl, rfl, hp2, rfl, ?_⟩
            refine ⟨_, rfl, .inl ⟨_, rfl, _, rfl, _, _, rfl, rfl, (by show (0 : Int) < many; omega), ?_⟩⟩
            exact k _ _ (md _).1 (md _).2 (fun b o e hb => by rw [upd_ne hb]; exact k2 b o e hb) ⟨cells, at_ + 1, _, upd_same, by rw [upd_ne nlp]; exact hl2, nlp, hcl, by omega, by omega⟩
          · refine ⟨_, rfl, .inl ⟨_, rfl, _, _, rfl, rfl, (by show (0 : Int) < _; decide), _, rfl, _, _, rfl, rfl, .inl ⟨by decide, by decide⟩, _, _, rfl, rfl, _, _, rfl, rfl, _, _, rfl, rfl, ⟨by decide, by decide, by omega⟩, .inl ⟨_, rfl, _, _, rfl, rfl, (by show (0 : Int) < _; decide), ?_⟩⟩⟩
            refine ⟨_, rfl, _, rfl, _, _, rfl, rfl, .inl ⟨by decide, by decide⟩, _, _, rfl, rfl, _, _, rfl, rfl, .inl ⟨by omega, by omega⟩, _, rfl, _, _, rfl, rfl, .inl ⟨by decide, by decide⟩, _, rfl, _, _, rfl, rfl, .inl (mul_bd a0 a2 ⟨by decide, by decide⟩), _, _, rfl, rfl, _, _, rfl, rfl, _, _, rfl, rfl, ⟨by decide, by decide, draw_bd (by omega) (by omega) a0 a2 ⟨by decide, by decide⟩ ⟨by decide, by decide⟩ ⟨by decide, by decide⟩⟩, .inl ⟨_, rfl, _, _, rfl, rfl, (by show (0 : Int) < _; decide), ?_⟩⟩
            refine ⟨_, rfl, _, _, rfl, rfl, ⟨by decide, by decide⟩, .inl ⟨_, rfl, _, rfl, _, _, rfl, rfl, (by show (0 : Int) < many; omega), ?_⟩⟩
            exact k _ _ (md _).1 (md _).2 k2 ⟨cells, at_ + 1, _, hp2, hl2, nlp, hcl, by omega, by omega⟩
        · refine ifN rfl ?_
          refine ⟨_, rfl, .inl ⟨_, rfl, _, _, rfl, rfl, (by show (0 : Int) < _; decide), _, rfl, _, _, rfl, rfl, .inl ⟨by decide, by decide⟩, _, _, rfl, rfl, _, _, rfl, rfl, _, _, rfl, rfl, ⟨by decide, by decide, by omega⟩, .inl ⟨_, rfl, _, _, rfl, rfl, (by show (0 : Int) < _; decide), ?_⟩⟩⟩
          refine ⟨_, rfl, _, rfl, _, _, rfl, rfl, .inl ⟨by decide, by decide⟩, _, _, rfl, rfl, _, _, rfl, rfl, .inl ⟨by omega, by omega⟩, _, rfl, _, _, rfl, rfl, .inl ⟨by decide, by decide⟩, _, rfl, _, _, rfl, rfl, .inl (mul_bd a0 a2 ⟨by decide, by decide⟩), _, _, rfl, rfl, _, _, rfl, rfl, _, _, rfl, rfl, ⟨by decide, by decide, draw_bd (by omega) (by omega) a0 a2 ⟨by decide, by decide⟩ ⟨by decide, by decide⟩ ⟨by decide, by decide⟩⟩, .inl ⟨_, rfl, _, _, rfl, rfl, (by show (0 : Int) < _; decide), ?_⟩⟩
          refine ⟨_, rfl, _, _, rfl, rfl, ⟨by decide, by decide⟩, .inl ⟨_, rfl, _, rfl, _, _, rfl, rfl, (by show (0 : Int) < many; omega), ?_⟩⟩
          exact k _ _ (md _).1 (md _).2 k2 ⟨cells, at_ + 1, _, hp2, hl2, nlp, hcl, by omega, by omega⟩
theorem ok_Lpick (T : Tx K mg) : FnR P w K mg base (L2.CX P w) 2 (He.ga K "_law_pick") (spPick) := by
  obtain ⟨fd, F⟩ := T.d_Lpick
  refine EM.fnr F sc_Lpick (fun _ _ _ _ _ _ us hl => match us, hl with | [_, _], _ => rfl) (fun vs H Q E h => ?_) (fun cdv A outer s H vs Q E hr h => ?_)
  · obtain ⟨p, l, n, a, xs, rfl, _⟩ := h
    rfl
  · obtain ⟨p, l, n, a, xs, rfl, hP, hn, ha, nap, hx, hx2, k⟩ := h
    refine ⟨_, (PSs.nox (pss_one (ps_ret (pe_ix ix_list (pv 1) (EM.pe_cR (ok_Ldraw T) (hr.mono (by decide)) T.k__law_draw T.g__law_draw passL (pa_cons (pv 0) (pa_cons (pe_callB call_len (by rfl) T.f_len boot_len (pa_cons (pv 1) pa_nil)) pa_nil))) (fun _ _ => rfl))))), ?_⟩
    refine ⟨_, rfl, _, rfl, _, rfl, _, _, rfl, .inl ⟨_, SqL.of ha, rfl⟩, p, l, n, xs.length, rfl, hP, hn, by omega, by omega, fun d H' d0 d1 k1 P1 => ?_⟩
    obtain ⟨v, hv, hmem⟩ := pick (xs := xs) d0 d1
    exact ⟨a, _, _, v, rfl, rfl, SqL.of (k1 _ _ ha nap), hv, k v H' hmem k1 P1⟩
end
end K12
namespace K12
open PySem PySem.Spec PyProof.Rows L2 EM
section
variable {P : Program} {w : World} {K : PySem.W.Frag} {mg : Str → Option Value} {base : Heap}
theorem ok_is_integer (T : Tx K mg) : FnR P w K mg base (L2.CX P w) 1 (He.ga K "is_integer") (spIsInt K) := by
  obtain ⟨fd, F⟩ := T.d_is_integer
  refine EM.fnr F sc_is_integer (fun _ _ _ _ _ _ us hl => match us, hl with | [_], _ => rfl) (fun vs H Q E h => ?_) (fun cdv A outer s H vs Q E hr h => ?_)
  · obtain ⟨x, t, b1, b2, rfl, _⟩ := h
    rfl
  · obtain ⟨x, t, b1, b2, rfl, ty, k1, k2, q⟩ := h
    refine ⟨_, (PSs.nox (pss_one (ps_ret (pe_and (pe_callB call_isi (by rfl) T.f_isinstance (by decide +kernel) (pa_cons (pv 0) (pa_cons (pe_bltn (v := .ty "int") (by rfl) T.f_int boot_int rfl) pa_nil))) (pe_one (pe_not (pe_callB call_isi (by rfl) T.f_isinstance (by decide +kernel) (pa_cons (pv 0) (pa_cons (pe_bltn (v := .ty "bool") (by rfl) T.f_bool boot_bool rfl) pa_nil))))))))), ?_⟩
    refine ⟨_, rfl, x, .ty "int", t, .type "int", b1, rfl, .ty "int", ty, k1, b1, rfl, ?_⟩
    cases b1 with
    | false => exact iteF q
    | true => exact iteT ⟨_, rfl, x, .ty "bool", t, .type "bool", b2, rfl, .ty "bool", ty, k2, b2, rfl, q⟩
end
end K12
namespace K12
open PySem PySem.Spec PyProof.Rows L2 EM
section
variable {P : Program} {w : World} {K : PySem.W.Frag} {mg : Str → Option Value} {base : Heap}
theorem mk_BadText (T : Tx K mg) : ∃ fd, FnOk P w K mg base (L2.CX P w) 1 (He.ma K (He.ga K "BadText") "__init__") fd ["self", "line", "word"] (spX2 (He.ga K "BadText") "line" "word") ∧ Binds K fd ["self", "line", "word"] [] := by
  obtain ⟨fd, F⟩ := T.d_BadText_init
  refine ⟨fd, FunD.ok (CX := L2.CX P w) F sc_BadText_init (fun vs H Q E h => ?_) (fun cdv A outer s H vs Q E hr h => ?_), F.bindsN (fun _ _ _ _ _ _ us hl => match us, hl with | [_, _, _], _ => rfl)⟩
  · obtain ⟨a, v, u, rfl, _⟩ := h
    rfl
  · obtain ⟨a, v, u, rfl, ha, k⟩ := h
    refine ⟨_, (PSs.nox (pss_cons (ps_ost (pv 0) (pv 1))
 (pss_one (ps_ost (pv 0) (pv 2))))), ?_⟩
    refine ⟨_, rfl, _, rfl, a, He.ga K "BadText", rfl, T.ox_BadText, T.na_BadText_line, .inl ⟨ha, fun dx hdx hda => ?_⟩⟩
    refine ⟨_, rfl, _, rfl, a, He.ga K "BadText", rfl, T.ox_BadText, T.na_BadText_word, .inr ⟨dx, _, upd_same, by rw [upd_ne hda]; exact upd_same, (by show 1 ≤ 900; decide), k dx hdx hda⟩⟩
end
end K12
namespace K12
open PySem PySem.Spec PyProof.Rows L2 EM
theorem len_rat {K : PySem.W.Frag} : ∀ vs H Q E, spRat K vs H Q E → vs.length = ["self", "top", "bottom"].length := by
  intro vs H Q E h
  obtain ⟨x, dx, t, b, rfl, _⟩ := h
  rfl
section
variable {P : Program} {w : World} {K : PySem.W.Frag} {mg : Str → Option Value} {base : Heap}
theorem ok_common_divisor (T : Tx K mg) : FnR P w K mg base (L2.CX P w) 1 (He.ga K "common_divisor") (spGcd) := by
  obtain ⟨fd, F⟩ := T.d_common_divisor
  refine EM.fnr F sc_common_divisor (fun _ _ _ _ _ _ us hl => match us, hl with | [_, _], _ => rfl) (fun vs H Q E h => ?_) (fun cdv A outer s H vs Q E hr h => ?_)
  · obtain ⟨a, b, rfl, _⟩ := h
    rfl
  · obtain ⟨a, b, rfl, k⟩ := h
    refine ⟨_, (PSs.nox (pss_cons (ps_while PassesOwn.never (pt_cmpR op_ne (pv 1) pe_int (nomark _))
  (pss_one (ps_par (by rfl) sc_common_divisor.nd (i := 0) (j := 1) rfl rfl (by decide) rfl rfl (pa_cons (pv 1) (pa_cons (pe_op op_modN (pv 0) (pv 1)) pa_nil)) (by rfl))))
 (pss_one (ps_ret (pe_callB call_abs (by rfl) T.f_abs (by decide +kernel) (pa_cons (pv 0) pa_nil)))))), ?_⟩
    refine ⟨fun m σ H' => ∃ a' b', σ = [some (.int a'), some (.int b')] ∧ H' = H ∧ Int.gcd a' b' = Int.gcd a b ∧ m = b'.natAbs, ⟨_, a, b, rfl, rfl, rfl, rfl⟩, ?_⟩
    rintro m σ H' ⟨a', b', rfl, rfl, hg, rfl⟩
    refine ⟨_, rfl, rfl, _, rfl, ite2 (fun c => ?_) (fun c => ?_)⟩
    · have hb : b' ≠ 0 := fun z => by
        subst z
        simp at c
      refine ⟨fun σ H1 => ∃ a1 b1, σ = [some (.int a1), some (.int b1)] ∧ H1 = H' ∧ Int.gcd a1 b1 = Int.gcd a b ∧ b1.natAbs < b'.natAbs, ?_, ?_⟩
      · rintro σ H1 ⟨a1, b1, e1, e2, e3, e4⟩
        exact ⟨_, e4, a1, b1, e1, e2, e3, rfl⟩
      · exact ⟨_, rfl, _, rfl, _, rfl, _, _, rfl, rfl, hb, _, _, rfl, b', _, rfl, rfl, by rw [gcd_fmod]; exact hg, fmod_less _ _ hb⟩
    · have hb : b' = 0 := by
        apply Classical.byContradiction
        intro z
        exact c (by simp [z])
      subst hb
      have e : ((Int.gcd a b : Nat) : Int) = if a' < 0 then -a' else a' := by
        rw [← hg, Int.gcd_zero_right]
        split <;> omega
      rw [e] at k
      exact ⟨_, rfl, _, rfl, k⟩
theorem bod_rat (T : Tx K mg) (f : Addr) : Bod P w K mg base ["self", "top", "bottom", "shared"] "Ratio.__init__" (defScope s_Ratio_init) f (defBody s_Ratio_init) 1 (spRat K) := by
  intro cdv A outer s H vs Q E hr h
  obtain ⟨x, dx, t, b, rfl, hx, b0, bl, k⟩ := h
  refine ⟨_, (PSs.nox (pss_cons (ps_if (pt_not (pt_val (EM.pe_cR (ok_is_integer T) (hr.mono (by decide)) T.k_is_integer T.g_is_integer passL (pa_cons (pv 1) pa_nil))))
  (pss_one ps_never) pss_nil)
 (pss_cons (ps_if (PW.pt (pw_or (pt_not (pt_val (EM.pe_cR (ok_is_integer T) (hr.mono (by decide)) T.k_is_integer T.g_is_integer passL (pa_cons (pv 2) pa_nil)))) (pw_or1 (pt_cmpR op_eq (pv 2) pe_int (nomark _)))))
  (pss_one ps_never) pss_nil)
 (pss_cons (ps_set (i := 3) sc_Ratio_init.nd rfl (Or.inl rfl) (EM.pe_cR (ok_common_divisor T) (hr.mono (by decide)) T.k_common_divisor T.g_common_divisor passL (pa_cons (pv 1) (pa_cons (pv 2) pa_nil))))
 (pss_cons (ps_if (pt_cmpR op_lt (pv 2) pe_int (nomark _))
  (pss_one (ps_set (i := 3) sc_Ratio_init.nd rfl (Or.inl rfl) (pe_un un_neg (pv 3)))) pss_nil)
 (pss_cons (ps_fld (pv 0) (pe_op op_fdivWN (pv 1) (pv 3)) rfl)
 (pss_one (ps_fld (pv 0) (pe_op op_fdivWN (pv 2) (pv 3)) rfl)))))))), ?_⟩
  refine ⟨_, rfl, _, _, true, false, rfl, .base (.int t), kit_ty (by decide +kernel), kit_ty (by decide +kernel), _, rfl, ifN rfl ?_⟩
  refine ⟨_, rfl, _, _, true, false, rfl, .base (.int b), kit_ty (by decide +kernel), kit_ty (by decide +kernel), _, rfl, ifN rfl ⟨_, rfl, rfl, _, rfl, ifN (by simp [b0]) ?_⟩⟩
  have hs0 := shr_ne (t := t) b0
  have hs1 : (shr t b).natAbs.log2 < 9000 := Nat.lt_of_le_of_lt (log_le (shr_le b0)) bl
  refine ⟨_, rfl, _, rfl, t, b, rfl, ?_⟩
  refine ⟨_, rfl, _, _, rfl, rfl, _, rfl, ite2 (fun c => ?_) (fun c => ?_)⟩
  · have e : shr t b = -(Int.gcd t b : Int) := if_pos (by simpa using c)
    refine ⟨_, rfl, _, rfl, ?_⟩
    refine ⟨_, rfl, _, rfl, _, _, rfl, rfl, ⟨by rw [← e]; exact hs0, by rw [← e]; exact hs1⟩, _, rfl, x, _, dx, _, rfl, hx, T.cl_Ratio, T.na_Ratio_top, (by show 0 < 1000; decide), ?_⟩
    refine ⟨_, rfl, _, rfl, _, _, rfl, rfl, ⟨by rw [← e]; exact hs0, by rw [← e]; exact hs1⟩, _, rfl, x, _, dx, _, rfl, upd_same, T.cl_Ratio, T.na_Ratio_bottom, (by show 1 < 1000; decide), ?_⟩
    refine k _ (fun c o h hc => by rw [upd_ne hc, upd_ne hc]; exact h) ⟨dx, ?_⟩
    rw [upd_same]
    unfold nTop nBot
    rw [e]
    rfl
  · have e : shr t b = (Int.gcd t b : Int) := if_neg (by simpa using c)
    refine ⟨_, rfl, _, rfl, _, _, rfl, rfl, ⟨by rw [← e]; exact hs0, by rw [← e]; exact hs1⟩, _, rfl, x, _, dx, _, rfl, hx, T.cl_Ratio, T.na_Ratio_top, (by show 0 < 1000; decide), ?_⟩
    refine ⟨_, rfl, _, rfl, _, _, rfl, rfl, ⟨by rw [← e]; exact hs0, by rw [← e]; exact hs1⟩, _, rfl, x, _, dx, _, rfl, upd_same, T.cl_Ratio, T.na_Ratio_bottom, (by show 1 < 1000; decide), ?_⟩
    refine k _ (fun c o h hc => by rw [upd_ne hc, upd_ne hc]; exact h) ⟨dx, ?_⟩
    rw [upd_same]
    unfold nTop nBot
    rw [e]
    rfl
theorem ok_Ratio2 (T : Tx K mg) : FnR P w K mg base (L2.CX P w) 2 (He.ma K (He.ga K "Ratio") "__init__") (fun vs H Q E => spRat K (vs ++ []) H Q E) := by
  obtain ⟨fd, F⟩ := T.d_Ratio_init
  exact EM.fnr_dfl 3 1 F sc_Ratio_init (by intro z; cases z) rfl (fun T kV doc pm an cdv ct us its h1 h2 => match us, h1, its, h2 with | [_, _, _], _, [_], _ => ⟨_, rfl, rfl⟩) len_rat (bod_rat T _)
theorem ok_Ratio1 (T : Tx K mg) : FnR P w K mg base (L2.CX P w) 2 (He.ma K (He.ga K "Ratio") "__init__") (fun vs H Q E => spRat K (vs ++ [.int 1]) H Q E) := by
  obtain ⟨fd, F⟩ := T.d_Ratio_init
  exact EM.fnr_dfl 2 0 F sc_Ratio_init (by intro z; cases z) rfl (fun T kV doc pm an cdv ct us its h1 h2 => match us, h1, its, h2 with | [_, _], _, [_], _ => ⟨_, rfl, rfl⟩) len_rat (bod_rat T _)
end
end K12
namespace K12
open PySem PySem.Spec PyProof.Rows L2 EM
theorem binC_add {K : PySem.W.Frag} {mg : Str → Option Value} (T : Tx K mg) : BinC K (He.ga K "Ratio") "add" (He.ma K (He.ga K "Ratio") "__add__") (He.ma K (He.ga K "Ratio") "__radd__") := ⟨T.sf_Ratio, T.m_Ratio_add.at_, T.m_Ratio_add.fn, T.m_Ratio_radd.at_, T.m_Ratio_radd.fn, T.si_Ratio⟩
theorem binC_sub {K : PySem.W.Frag} {mg : Str → Option Value} (T : Tx K mg) : BinC K (He.ga K "Ratio") "sub" (He.ma K (He.ga K "Ratio") "__sub__") (He.ma K (He.ga K "Ratio") "__rsub__") := ⟨T.sf_Ratio, T.m_Ratio_sub.at_, T.m_Ratio_sub.fn, T.m_Ratio_rsub.at_, T.m_Ratio_rsub.fn, T.si_Ratio⟩
section
variable {P : Program} {w : World} {K : PySem.W.Frag} {mg : Str → Option Value} {base : Heap}
theorem ok_Ratio_is_number (T : Tx K mg) : FnR P w K mg base (L2.CX P w) 2 (He5.wf K (He.ga K "Ratio") "staticmethod" "is_number") (spIsNum K) := by
  obtain ⟨fd, F⟩ := T.d_Ratio_is_number
  refine EM.fnr F sc_Ratio_is_number (fun _ _ _ _ _ _ us hl => match us, hl with | [_], _ => rfl) (fun vs H Q E h => ?_) (fun cdv A outer s H vs Q E hr h => ?_)
  · obtain ⟨v, rfl, _⟩ := h
    rfl
  · obtain ⟨v, rfl, h⟩ := h
    refine ⟨_, (PSs.nox (pss_one (ps_ret (pe_or (pe_callB call_isi (by rfl) T.f_isinstance (by decide +kernel) (pa_cons (pv 0) (pa_cons (pe_glob (v := .ref (He.ga K "Ratio")) (by rfl) T.g_Ratio rfl) pa_nil))) (pe_one (EM.pe_cR (ok_is_integer T) (hr.mono (by decide)) T.k_is_integer T.g_is_integer passL (pa_cons (pv 0) pa_nil))))))), ?_⟩
    rcases h with ⟨⟨a, t, b, rfl, dx, hp⟩ | ⟨i, rfl⟩, q⟩ | ⟨⟨ty, b1, b2, tx, k1, k2, hb, kr⟩, q⟩
    · exact ⟨_, rfl, .ref a, .ref (He.ga K "Ratio"), _, _, true, rfl, .own _, isiB_ty T.isi_Ratio T.cl_Ratio hp, kSelf, true, rfl, iteT q⟩
    · exact ⟨_, rfl, .int i, .ref (He.ga K "Ratio"), .type "int", .ref (He.ga K "Ratio"), false, rfl, .own _, .base (.int i), T.kit_int_Ratio, false, rfl, iteF ⟨_, rfl, _, _, true, false, rfl, .base (.int i), kit_ty (by decide +kernel), kit_ty (by decide +kernel), q⟩⟩
    · refine ⟨_, rfl, v, .ref (He.ga K "Ratio"), ty, .ref (He.ga K "Ratio"), false, rfl, .own _, tx, kr, false, rfl, iteF ⟨_, rfl, _, _, b1, b2, rfl, tx, k1, k2, ?_⟩⟩
      rw [hb]
      exact q
theorem ok_Ratio_of (T : Tx K mg) : FnR P w K mg base (L2.CX P w) 4 (He5.wf K (He.ga K "Ratio") "staticmethod" "of") (spOfN K) := by
  obtain ⟨fd, F⟩ := T.d_Ratio_of
  refine EM.fnr F sc_Ratio_of (fun _ _ _ _ _ _ us hl => match us, hl with | [_], _ => rfl) (fun vs H Q E h => ?_) (fun cdv A outer s H vs Q E hr h => ?_)
  · obtain ⟨v, t, b, rfl, _⟩ := h
    rfl
  · obtain ⟨v, t, b, rfl, ⟨low, hv⟩, k⟩ := h
    refine ⟨_, (PSs.nox (pss_one (ps_ret (pe_ifExp (pt_val (pe_callB call_isi (by rfl) T.f_isinstance (by decide +kernel) (pa_cons (pv 0) (pa_cons (pe_glob (v := .ref (He.ga K "Ratio")) (by rfl) T.g_Ratio rfl) pa_nil)))) (pv 0) (EM.pe_mkR T.mk_Ratio (ok_Ratio1 T) (hr.mono (by decide)) T.g_Ratio passL (pa_cons (pv 0) pa_nil)))))), ?_⟩
    rcases hv with ⟨a, rfl, dx, hp⟩ | ⟨rfl, rfl⟩
    · exact ⟨_, rfl, .ref a, .ref (He.ga K "Ratio"), _, _, true, rfl, .own _, isiB_ty T.isi_Ratio T.cl_Ratio hp, kSelf, true, rfl, iteT ⟨_, rfl, k a H (Same.refl _) ⟨dx, hp⟩⟩⟩
    · refine ⟨_, rfl, .int t, .ref (He.ga K "Ratio"), .type "int", .ref (He.ga K "Ratio"), false, rfl, .own _, .base (.int t), T.kit_int_Ratio, false, rfl, iteF ⟨_, rfl, fun p dx np hdx ndx => ⟨p, dx, _, _, rfl, upd_same, by decide, by decide, fun H' k' rat => ⟨rfl, ?_⟩⟩⟩⟩
      obtain ⟨n1, n2⟩ := n_self (low_one t)
      rw [n1, n2] at rat
      exact k p H' (same_new k' np hdx) rat
theorem ok_Ratio_add (T : Tx K mg) : FnR P w K mg base (L2.CX P w) 5 (He.ma K (He.ga K "Ratio") "__add__") (spAdd K) := by
  obtain ⟨fd, F⟩ := T.d_Ratio_add
  refine EM.fnr F sc_Ratio_add (fun _ _ _ _ _ _ us hl => match us, hl with | [_, _], _ => rfl) (fun vs H Q E h => ?_) (fun cdv A outer s H vs Q E hr h => ?_)
  · obtain ⟨x, v, t, b, u, c, rfl, _⟩ := h
    rfl
  · obtain ⟨x, v, t, b, u, c, rfl, W, k⟩ := h
    have bc0 : b * c ≠ 0 := Int.mul_ne_zero (by have := W.low.pos; omega) (by have := W.num.1.pos; omega)
    have bcl : (b * c).natAbs.log2 < 9000 := Nat.lt_trans ((W.bb.mul W.bc).log (by decide)) (by decide)
    refine ⟨_, (PSs.nox (pss_cons (ps_if (pt_not (pt_val (EM.pe_smR (pe_glob (v := .ref (He.ga K "Ratio")) (by rfl) T.g_Ratio rfl) T.cr_Ratio T.sm_Ratio_is_number (ok_Ratio_is_number T) (hr.mono (by decide)) T.k_Ratio_is_number passL (pa_cons (pv 1) pa_nil))))
  (pss_one (ps_never)) pss_nil)
 (pss_cons (ps_set (i := 2) sc_Ratio_add.nd rfl (Or.inl rfl) (EM.pe_smR (pe_glob (v := .ref (He.ga K "Ratio")) (by rfl) T.g_Ratio rfl) T.cr_Ratio T.sm_Ratio_of (ok_Ratio_of T) (hr.mono (by decide)) T.k_Ratio_of passL (pa_cons (pv 1) pa_nil)))
 (pss_one (ps_ret (EM.pe_mkR T.mk_Ratio (ok_Ratio2 T) (hr.mono (by decide)) T.g_Ratio passL (pa_cons (pe_op op_add (pe_op op_mulW (pe_fld (pv 0) rfl) (pe_fld (pv 2) rfl)) (pe_op op_mulW (pe_fld (pv 2) rfl) (pe_fld (pv 0) rfl))) (pa_cons (pe_op op_mulW (pe_fld (pv 0) rfl) (pe_fld (pv 2) rfl)) pa_nil)))))))), ?_⟩
    obtain ⟨dx, hx⟩ := W.rat
    refine ⟨rfl, _, rfl, v, rfl, .inl ⟨W.num.kind, _, rfl, ifN rfl ?_⟩⟩
    refine ⟨rfl, _, rfl, v, u, c, rfl, W.num, fun r H1 s1 rr => ?_⟩
    have hx1 := s1 _ _ hx
    obtain ⟨dr, hr1⟩ := rr
    have k1 : RatRes K H1 Q (t * c + u * b) (b * c) := fun p H2 s2 np rat => k p H2 (s1.trans s2) (s1.free np) rat
    exact ⟨_, rfl, x, _, dx, _, _, rfl, hx1, T.cl_Ratio, T.na_Ratio_top, rfl, _, rfl, r, _, dr, _, _, rfl, hr1, T.cl_Ratio, T.na_Ratio_bottom, rfl, _, _, rfl, rfl, wideB W.bt W.bc,
      _, rfl, r, _, dr, _, _, rfl, hr1, T.cl_Ratio, T.na_Ratio_top, rfl, _, rfl, x, _, dx, _, _, rfl, hx1, T.cl_Ratio, T.na_Ratio_bottom, rfl, _, _, rfl, rfl, wideB W.bu W.bb, _, _, rfl, rfl,
      _, rfl, x, _, dx, _, _, rfl, hx1, T.cl_Ratio, T.na_Ratio_bottom, rfl, _, rfl, r, _, dr, _, _, rfl, hr1, T.cl_Ratio, T.na_Ratio_bottom, rfl, _, _, rfl, rfl, wideB W.bb W.bc, fun p dx hp hdx ndx => ⟨p, dx, _, _, rfl, upd_same, bc0, bcl, fun H' k' rat => ⟨rfl, k1 p H' (same_new k' hp hdx) hp rat⟩⟩⟩
theorem ok_Ratio_neg (T : Tx K mg) : FnR P w K mg base (L2.CX P w) 4 (He.ma K (He.ga K "Ratio") "__neg__") (spNeg K) := by
  obtain ⟨fd, F⟩ := T.d_Ratio_neg
  refine EM.fnr F sc_Ratio_neg (fun _ _ _ _ _ _ us hl => match us, hl with | [_], _ => rfl) (fun vs H Q E h => ?_) (fun cdv A outer s H vs Q E hr h => ?_)
  · obtain ⟨x, t, b, rfl, _⟩ := h
    rfl
  · obtain ⟨x, t, b, rfl, ⟨dx, hx⟩, low, lb, k⟩ := h
    refine ⟨_, (PSs.nox (pss_one (ps_ret (EM.pe_mkR T.mk_Ratio (ok_Ratio2 T) (hr.mono (by decide)) T.g_Ratio passL (pa_cons (pe_un un_neg (pe_fld (pv 0) rfl)) (pa_cons (pe_fld (pv 0) rfl) pa_nil)))))), ?_⟩
    have lw : Low (-t) b := low_neg low
    refine ⟨_, rfl, x, _, dx, _, _, rfl, hx, T.cl_Ratio, T.na_Ratio_top, rfl, _, rfl, _, rfl, x, _, dx, _, _, rfl, hx, T.cl_Ratio, T.na_Ratio_bottom, rfl, fun p dx np hdx ndx => ⟨p, dx, _, _, rfl, upd_same, by have := low.pos; omega, lb, fun H' k' rat => ⟨rfl, ?_⟩⟩⟩
    obtain ⟨n1, n2⟩ := n_self lw
    rw [n1, n2] at rat
    exact k p H' (same_new k' np hdx) np rat
theorem ok_Ratio_sub (T : Tx K mg) : FnR P w K mg base (L2.CX P w) 6 (He.ma K (He.ga K "Ratio") "__sub__") (spSub K) := by
  obtain ⟨fd, F⟩ := T.d_Ratio_sub
  refine EM.fnr F sc_Ratio_sub (fun _ _ _ _ _ _ us hl => match us, hl with | [_, _], _ => rfl) (fun vs H Q E h => ?_) (fun cdv A outer s H vs Q E hr h => ?_)
  · obtain ⟨x, v, t, b, u, c, rfl, _⟩ := h
    rfl
  · obtain ⟨x, v, t, b, u, c, rfl, W, k⟩ := h
    have bc0 : b * c ≠ 0 := Int.mul_ne_zero (by have := W.low.pos; omega) (by have := W.num.1.pos; omega)
    have bcl : (b * c).natAbs.log2 < 9000 := Nat.lt_trans ((W.bb.mul W.bc).log (by decide)) (by decide)
    refine ⟨_, (PSs.nox (pss_cons (ps_if (pt_not (pt_val (EM.pe_smR (pe_glob (v := .ref (He.ga K "Ratio")) (by rfl) T.g_Ratio rfl) T.cr_Ratio T.sm_Ratio_is_number (ok_Ratio_is_number T) (hr.mono (by decide)) T.k_Ratio_is_number passL (pa_cons (pv 1) pa_nil))))
  (pss_one (ps_never)) pss_nil)
 (pss_one (ps_ret (pe_op (EM.op_binO (binC_add T) rfl rfl (ok_Ratio_add T) (hr.mono (by decide)) passL) (pv 0) (pe_un (EM.un_two un_neg (EM.un_negO T.m_Ratio_neg.at_ T.m_Ratio_neg.fn (ok_Ratio_neg T) (hr.mono (by decide)) passL)) (pv 1))))))), ?_⟩
    obtain ⟨dx, hx⟩ := W.rat
    refine ⟨rfl, _, rfl, v, rfl, .inl ⟨W.num.kind, _, rfl, ifN rfl ?_⟩⟩
    refine ⟨_, rfl, _, rfl, ?_⟩
    rcases W.num.2 with ⟨a, rfl, da, ha⟩ | ⟨rfl, rfl⟩
    · refine .inr ⟨a, da, _, rfl, ha, a, u, c, rfl, ⟨da, ha⟩, W.num.1, Nat.lt_trans (W.bc.log (by decide)) (by decide), fun p H1 s1 np rat => ?_⟩
      obtain ⟨dp, hp⟩ := rat
      exact ⟨x, dx, _, rfl, s1 _ _ hx, .inl ⟨p, dp, _, rfl, hp⟩, x, .ref p, t, b, -u, c, rfl, ⟨⟨dx, s1 _ _ hx⟩, W.low, Num.rat ⟨dp, hp⟩ (low_neg W.num.1), W.bt, W.bb, W.bu.neg, W.bc⟩, fun q H2 s2 nq rat2 => k q H2 (s1.trans s2) (s1.free nq) rat2⟩
    · exact .inl ⟨u, rfl, x, dx, _, rfl, hx, .inr ⟨_, rfl⟩, x, .int (-u), t, b, -u, 1, rfl, ⟨⟨dx, hx⟩, W.low, Num.int _, W.bt, W.bb, W.bu.neg, W.bc⟩, k⟩
theorem ok_Ratio_rsub (T : Tx K mg) : FnR P w K mg base (L2.CX P w) 6 (He.ma K (He.ga K "Ratio") "__rsub__") (spRsub K) := by
  obtain ⟨fd, F⟩ := T.d_Ratio_rsub
  refine EM.fnr F sc_Ratio_rsub (fun _ _ _ _ _ _ us hl => match us, hl with | [_, _], _ => rfl) (fun vs H Q E h => ?_) (fun cdv A outer s H vs Q E hr h => ?_)
  · obtain ⟨x, v, t, b, u, c, rfl, _⟩ := h
    rfl
  · obtain ⟨x, v, t, b, u, c, rfl, W, k⟩ := h
    have bc0 : b * c ≠ 0 := Int.mul_ne_zero (by have := W.low.pos; omega) (by have := W.num.1.pos; omega)
    have bcl : (b * c).natAbs.log2 < 9000 := Nat.lt_trans ((W.bb.mul W.bc).log (by decide)) (by decide)
    refine ⟨_, (PSs.nox (pss_one (ps_ret (pe_op (EM.op_binO (binC_add T) rfl rfl (ok_Ratio_add T) (hr.mono (by decide)) passL) (pe_un (EM.un_negO T.m_Ratio_neg.at_ T.m_Ratio_neg.fn (ok_Ratio_neg T) (hr.mono (by decide)) passL) (pv 0)) (pv 1))))), ?_⟩
    obtain ⟨dx, hx⟩ := W.rat
    refine ⟨_, rfl, x, dx, _, rfl, hx, x, t, b, rfl, ⟨dx, hx⟩, W.low, Nat.lt_trans (W.bb.log (by decide)) (by decide), fun p H1 s1 np rat => ?_⟩
    obtain ⟨dp, hp⟩ := rat
    have W1 : Two K H1 2000 p v (-t) b u c := ⟨⟨dp, hp⟩, low_neg W.low, W.num.same s1, W.bt.neg, W.bb, W.bu, W.bc⟩
    exact ⟨_, rfl, p, dp, _, rfl, hp, two_y W1, p, v, -t, b, u, c, rfl, W1, fun q H2 s2 nq rat2 => k q H2 (s1.trans s2) (s1.free nq) rat2⟩
end
end K12
namespace K12
open PySem PySem.Spec PyProof.Rows L2 EM
section
variable {X : Cx}
theorem op_subN (T : Tx X.K X.mg) (hr : Room 6 X.A) : OpR X (binaryOp .Sub) (rNumN X.K (fun t b u c => t * c + -u * b) (fun _ b _ c => b * c)) :=
  op_numN (E := E0) (E' := E0) (op_binO (binC_sub T) rfl rfl (ok_Ratio_sub T) (hr.mono (by decide)) passL)
    (op_binR (binC_sub T) rfl rfl (by decide +kernel) T.is_Ratio PySem.W.decl_sub (ok_Ratio_rsub T) hr passL)
    (fun a y t b u c H Q W k => ⟨a, y, t, b, u, c, rfl, W, k⟩)
    (fun a t u c H Q W k => ⟨a, .int t, u, c, t, 1, rfl, W, k.to (by rw [Int.add_comm]) (Int.mul_comm ..)⟩)
theorem pe_mkN (T : Tx X.K X.mg) (hr : Room 3 X.A) {e1 : Expr} {es : List Expr} {ta : TA} {p pos : Pos} (ha : PA X (e1 :: es) ta) (hg : Gl X "Ratio" := by rfl) (he : starEach (e1 :: es) X.env = (false, eval e1 X.env) :: starEach es X.env := by rfl) (hpl : (backTo pos (starEach es X.env)).any (·.1) = false := by rfl) :
    PE X (.Call (.Name "Ratio" p) (e1 :: es) [] pos) (tCR (Sw (spMkN X.K)) E0 ta) :=
  (EM.pe_mkR (E := E0) T.mk_Ratio (ok_Ratio2 T) hr T.g_Ratio passL ha.mc hg (by decide) he hpl).of fun σ H Q q => ⟨_, q, fun vs H1 ⟨⟨t, b, e, b0, lb, k⟩⟩ x dx hx hdx ndx => by
    subst e
    exact mk_Rat b0 lb k x dx hx hdx ndx⟩
theorem op_subN_ {K : PySem.W.Frag} {mg : Str → Option Value} (T : Tx K mg) (hr : Room 6 X.A) (e1 : X.K = K := by rfl) (e2 : X.mg = mg := by rfl) : OpR X (binaryOp .Sub) (rNumN K (fun t b u c => t * c + -u * b) (fun _ b _ c => b * c)) := by
  subst e1 e2
  exact op_subN T hr
theorem pe_mkN_ {K : PySem.W.Frag} {mg : Str → Option Value} (T : Tx K mg) (hr : Room 3 X.A) {e1 : Expr} {es : List Expr} {ta : TA} {p pos : Pos} (ha : PA X (e1 :: es) ta) (hg : Gl X "Ratio" := by rfl) (he : starEach (e1 :: es) X.env = (false, eval e1 X.env) :: starEach es X.env := by rfl) (hpl : (backTo pos (starEach es X.env)).any (·.1) = false := by rfl) (eK : X.K = K := by rfl) (eM : X.mg = mg := by rfl) :
    PE X (.Call (.Name "Ratio" p) (e1 :: es) [] pos) (tCR (Sw (spMkN K)) E0 ta) := by
  subst eK eM
  exact pe_mkN T hr ha hg he hpl
end
end K12
namespace K12
open PySem PySem.Spec PyProof.Rows L2 EM
section
variable {P : Program} {w : World} {K : PySem.W.Frag} {mg : Str → Option Value} {base : Heap}
theorem ok_is_between (T : Tx K mg) : FnR P w K mg base (L2.CX P w) 2 (He.ga K "is_between") (spBetween) := by
  obtain ⟨fd, F⟩ := T.d_is_between
  refine EM.fnr F sc_is_between (fun _ _ _ _ _ _ us hl => match us, hl with | [_, _, _], _ => rfl) (fun vs H Q E h => ?_) (fun cdv A outer s H vs Q E hr h => ?_)
  · obtain ⟨i, lo, hi, rfl, _⟩ := h
    rfl
  · obtain ⟨i, lo, hi, rfl, q⟩ := h
    refine ⟨_, (PSs.nox (pss_one (ps_ret (pe_and (EM.pe_cR (ok_is_integer T) (hr.mono (by decide)) T.k_is_integer T.g_is_integer passL (pa_cons (pv 0) pa_nil)) (pe_one (pe_chain op_le op_le (pv 1) (pv 0) (pv 2))))))), ?_⟩
    refine ⟨_, rfl, _, _, true, false, rfl, .base (.int i), kII, kIB, true, rfl, iteT ?_⟩
    refine ⟨_, rfl, _, rfl, _, _, rfl, rfl, _, rfl, ?_⟩
    refine ite2 (fun c => ?_) (fun c => ?_)
    · refine ⟨_, rfl, _, _, rfl, rfl, ?_⟩
      rw [c, Bool.true_and] at q
      exact q
    · have c' : decide (lo ≤ i) = false := by simpa using c
      rw [c', Bool.false_and] at q
      exact q
theorem ok_edges_of_marks (T : Tx K mg) : FnR P w K mg base (L2.CX P w) 1 (He.ga K "edges_of_marks") (spEdges K) := by
  obtain ⟨fd, F⟩ := T.d_edges_of_marks
  refine EM.fnr F sc_edges_of_marks (fun _ _ _ _ _ _ us hl => match us, hl with | [_], _ => rfl) (fun vs H Q E h => ?_) (fun cdv A outer s H vs Q E hr h => ?_)
  · obtain ⟨a, ws, rfl, _⟩ := h
    rfl
  · obtain ⟨a, ws, rfl, hS, hl, k⟩ := h
    refine ⟨_, (PSs.nox (pss_cons (ps_set (i := 1) sc_edges_of_marks.nd rfl (Or.inl rfl) (pe_lst (pa_cons pe_int pa_nil)))
 (pss_cons (ps_for PassesOwn.never rfl (pi_tup (pv 0)) (pg_name (i := 2) sc_edges_of_marks.nd rfl (Or.inl rfl))
  (pss_one (ps_expr (pe_bm PySem.F.plainAttrs_list PySem.F.slot_list_append PySem.F.type_list_append mt_append (pv 1) (pa_cons (pe_op op_add (pe_ix ix_list (pv 1) (pe_un un_neg pe_int) (fun _ _ => rfl)) (pv 2)) pa_nil)))))
 (pss_one (ps_ret (pe_callTy call_tuple_of (by rfl) T.f_tuple (by decide +kernel) (pa_cons (pv 1) pa_nil))))))), ?_⟩
    refine ⟨by decide, fun l hl0 => ?_⟩
    have s0 : Same H (upd H l (.lst [.int 0])) := same_upd hl0
    refine ⟨_, rfl, a, rfl, ⟨_, s0.sqT hS⟩, for_tup (K := K) (a := a) (xs := ws.map V.int) (fun i σ H2 => ∃ v : Option V, σ = [some (.ref a), some (.ref l), v] ∧ Same H H2 ∧ H2 l = some (.lst ((scan 0 (ws.take i)).map V.int)))
      ⟨none, rfl, s0, upd_same⟩ (fun i σ H2 _ ⟨_, _, s2, _⟩ => s2.sqT hS) ?_ ?_⟩
    · rintro i y σ H2 hi ⟨v, rfl, s2, h2⟩
      have hil : i < (ws.map V.int).length := (List.getElem?_eq_some_iff.mp hi).1
      rw [List.length_map] at hil
      obtain ⟨z, hz, rfl⟩ := map_at hi
      have hlen : (ws.take i).length = i := by rw [List.length_take]; omega
      refine ⟨_, rfl, .inl ⟨rfl, _, SqL.of h2⟩, _, rfl, 1, rfl, l, _, -1, .int (0 + (ws.take i).sum), rfl, rfl, SqL.of h2, ?_, _, rfl, _, _, rfl, rfl, l, _, _, rfl, rfl, h2, ?_, ?_⟩
      · refine atI_m (j := i) ?_ (by decide) ?_
        · rw [List.length_map, EM.scan_len, hlen]
          omega
        · rw [List.getElem?_map]
          have e := scan_last 0 (ws.take i)
          rw [hlen] at e
          rw [e]
          rfl
      · rw [List.length_map, EM.scan_len, hlen]
        exact szl (by omega)
      · refine ⟨_, rfl, same_upd' s2 hl0, ?_⟩
        rw [upd_same, take_snoc hz, scan_snoc, List.map_append]
        rfl
    · rintro σ H2 ⟨v, rfl, s2, h2⟩
      rw [List.take_of_length_le (by simp)] at h2
      refine ⟨_, rfl, l, _, rfl, .inl ⟨SqL.of h2, fun p hp => ?_⟩⟩
      exact k p _ (same_upd' s2 (s2.free hp)) upd_same
theorem bod_Mark_init (T : Tx K mg) (f : Addr) : Bod P w K mg base ["self", "widths", "at", "width", "one", "other"] "Mark.__init__" (defScope s_Mark_init) f (defBody s_Mark_init) 2 (spInit0 K) := by
  intro cdv A outer s H vs Q E hr h
  obtain ⟨x, dx, W, ws, rfl, hx, hW, hg, k⟩ := h
  obtain ⟨g1, g2, g3, g4⟩ := id hg
  refine ⟨_, (PSs.nox (pss_cons (ps_if (PW.pt (pw_or (pt_cmpR op_eq (pe_op op_mod (pe_callB call_len (by rfl) T.f_len boot_len (pa_cons (pv 1) pa_nil)) pe_int) pe_int (nomark _)) (pw_or1 (pt_not (pt_chain op_le op_le pe_int (pe_callB call_len (by rfl) T.f_len boot_len (pa_cons (pv 1) pa_nil)) (EM.pe_gI T.g_MOST_WIDTHS))))))
  (pss_one ps_never) pss_nil)
 (pss_cons (ps_for PassesOwn.never rfl (EM.pi_enumT (by rfl) T.f_enumerate (pa_cons (pv 1) pa_nil)) (pg_tup (by rfl) (pgs_cons (pg_name (i := 2) sc_Mark_init.nd rfl (Or.inl rfl)) (pgs_cons (pg_name (i := 3) sc_Mark_init.nd rfl (Or.inl rfl)) pgs_nil)))
  (pss_one (ps_if (pt_not (pt_val (EM.pe_cR (ok_is_between T) (hr.mono (by decide)) T.k_is_between T.g_is_between passL (pa_cons (pv 3) (pa_cons pe_int (pa_cons (EM.pe_gI T.g_MOST_WIDTH) pa_nil))))))
  (pss_one ps_never) pss_nil)))
 (pss_cons (ps_fld (pv 0) (pv 1) rfl)
 (pss_cons (ps_fld (pv 0) (EM.pe_cR (ok_edges_of_marks T) (hr.mono (by decide)) T.k_edges_of_marks T.g_edges_of_marks passL (pa_cons (pv 1) pa_nil)) rfl)
 (pss_cons (ps_fld (pv 0) (pe_callTy call_tuple_of (by rfl) T.f_tuple (by decide +kernel) (pa_cons (pe_lc (own := [("one", 4), ("other", 5)]) (g := gTup K 2 (gCons (gName 4) (gCons (gName 5) gNil))) rfl sc_Mark_init.nd (RZ.pi_zipA (by rfl) T.f_zip (pa_cons (pv 1) (pa_cons (pe_slice sl_tup (pv 1) (po_some pe_int) po_none) pa_nil))) (blkOk_by (N := ["self", "widths", "at", "width", "one", "other"]) (sc := defScope s_Mark_init) (by decide +kernel)) (fun _ _ _ _ _ => (pg_tup (by rfl) (pgs_cons (pg_name (i := 4) sc_Mark_init.nd rfl (Or.inl rfl)) (pgs_cons (pg_name (i := 5) sc_Mark_init.nd rfl (Or.inl rfl)) pgs_nil)))) (fun _ _ _ _ _ => pts_nil) (fun _ _ _ _ _ => (pe_op op_add (pv 4) (pv 5)))) pa_nil)) rfl)
 (pss_cons (ps_fld (pv 0) (pe_op op_add (pe_op op_fdiv (pe_callB call_len (by rfl) T.f_len boot_len (pa_cons (pv 1) pa_nil)) pe_int) pe_int) rfl)
 (pss_cons (ps_fld (pv 0) (pe_ix ix_tup (pe_fld (pv 0) rfl) (pe_un un_neg pe_int) (fun _ _ => rfl)) rfl)
 (pss_one (ps_fld (pv 0) (pe_ix ix_tup (pe_fld (pv 0) rfl) (pe_un un_neg pe_int) (fun _ _ => rfl)) rfl)))))))))), ?_⟩
  -- len(widths) % 2 == 0 or not 3 <= len(widths) <= MOST_WIDTHS
  refine ⟨_, rfl, _, _, rfl, .inr ⟨_, SqT.of hW, rfl⟩, _, _, rfl, rfl, (by show (0 : Int) < 2; decide), rfl, _, rfl, ifN ?_ ?_⟩
  · rw [dVi]
    simp only [List.length_map, decide_eq_false_iff_not]
    omega
  refine ⟨_, rfl, _, _, rfl, .inr ⟨_, SqT.of hW, rfl⟩, _, _, rfl, rfl, _, rfl, ifP ?_ ?_⟩
  · simp only [List.length_map, decide_eq_true_eq]
    omega
  refine ⟨_, _, rfl, rfl, _, rfl, ifN ?_ ?_⟩
  · simp only [List.length_map, Bool.not_eq_false', decide_eq_true_eq]
    omega
  -- for at, width in enumerate(widths)
  refine ⟨_, rfl, W, _, rfl, SqT.of hW, for_it walk_enumT (fun i σ H2 => ∃ v2 v3 : Option V, σ = [some (.ref x), some (.ref W), v2, v3, none, none] ∧ Same H H2)
    ⟨none, none, rfl, Same.refl H⟩ (fun i σ H2 _ ⟨_, _, _, s2⟩ => s2.sqT (SqT.of hW)) ?_ ?_⟩
  · rintro i y σ H2 H3 hi ⟨v2, v3, rfl, s2⟩ ⟨Tt, a, b, rfl, hT, rfl, ea, eb⟩
    cases ea
    obtain ⟨z, hz, rfl⟩ := map_at eb
    have hb := g4 z (List.mem_of_getElem? hz)
    refine ⟨Tt, _, rfl, SqT.of upd_same, rfl, _, _, rfl, _, _, rfl, rfl, ?_⟩
    refine ⟨_, rfl, _, _, _, rfl, _, rfl, ifN ?_ ?_⟩
    · simp only [Bool.not_eq_false', Bool.and_eq_true, decide_eq_true_eq]
      exact hb
    · exact ⟨_, _, rfl, same_upd' s2 (s2.free hT)⟩
  · rintro σ H2 ⟨v2, v3, rfl, s2⟩
    have hx2 := s2 _ _ hx
    have hW2 := s2 _ _ hW
    have nWx : W ≠ x := ne_of hW2 hx2 (by intro z; cases z)
    -- self.widths = widths
    refine ⟨_, rfl, _, rfl, x, _, dx, _, rfl, hx2, T.cl_Mark, T.na_Mark_widths, (by show 0 < 1000; decide), ?_⟩
    -- self.edge_row = edges_of_marks(widths)
    have hWa : (upd H2 x (.ins (He.ga K "Mark") dx (putF "widths" (.ref W) []))) W = some (.tup (ws.map V.int)) := by rw [upd_ne nWx]; exact hW2
    refine ⟨_, rfl, W, ws, rfl, SqT.of hWa, by omega, fun ep H3 s3 h3 => ?_⟩
    have hx3 := s3 _ _ upd_same
    have hW3 := s3 _ _ hWa
    have nex : ep ≠ x := ne_of h3 hx3 (by intro z; cases z)
    refine ⟨_, rfl, x, _, dx, _, rfl, hx3, T.cl_Mark, T.na_Mark_edge_row, (by show 1 < 1000; decide), ?_⟩
    -- self.sums = tuple([one + other for one, other in zip(widths, widths[1:])])
    obtain ⟨Hb, eHb⟩ : ∃ Hb, Hb = upd H3 x (.ins (He.ga K "Mark") dx (putF "edge_row" (.ref ep) (putF "widths" (.ref W) []))) := ⟨_, rfl⟩
    rw [← eHb]
    have hWb : Hb W = some (.tup (ws.map V.int)) := by rw [eHb, upd_ne nWx]; exact hW3
    have heb : Hb ep = some (.tup ((scan 0 ws).map V.int)) := by rw [eHb, upd_ne nex]; exact h3
    have hxb : Hb x = some (.ins (He.ga K "Mark") dx (putF "edge_row" (.ref ep) (putF "widths" (.ref W) []))) := by rw [eHb]; exact upd_same
    have ecut : cutV (ws.map V.int) (some 1) none = (ws.drop 1).map V.int := by
      rw [show (some (1 : Int)) = some ((1 : Nat) : Int) from rfl, cut_from _ 1 (by rw [List.length_map]; omega), List.map_drop]
    have kb : ∀ b o, H b = some o → b ≠ x → Hb b = some o := fun b o e hb => by rw [eHb, upd_ne hb]; exact s3 _ _ (by rw [upd_ne hb]; exact s2 _ _ e)
    clear eHb
    refine ⟨_, rfl, _, rfl, 1, rfl, W, _, rfl, SqT.of hWb, ?_, fun q hq => ⟨W, q, _, _, rfl, .inr ⟨SqT.of (by rw [upd_ne (ne_of_none hWb hq)]; exact hWb), SqT.of upd_same, fun Dd hD => lc_it (walk_zipT rfl)
      (fun i H5 => Same (upd Hb q (.tup (cutV (ws.map V.int) (some 1) none))) H5 ∧ H5 Dd = some (.lst (((sumsOf ws).take i).map V.int))) ⟨same_upd hD, upd_same⟩
      (fun i H5 _ ⟨s5, _⟩ => ⟨s5.sqT (SqT.of (by rw [upd_ne (ne_of_none hWb hq)]; exact hWb)), s5.sqT (SqT.of upd_same)⟩) ?_ ?_⟩⟩⟩
    · rw [List.length_map]
      intro z
      have z1 : min 1 ws.length = 0 := z.1
      omega
    · rintro i y H5 H6 hi ⟨s5, h5⟩ ⟨Tt, a, b, rfl, hT, rfl, ea, eb⟩
      rw [ecut] at eb
      obtain ⟨za, hza, rfl⟩ := map_at ea
      obtain ⟨zb, hzb, rfl⟩ := map_at eb
      have nDT : Dd ≠ Tt := ne_of_none h5 hT
      have hsum := sums_at hza hzb
      refine ⟨Tt, _, rfl, SqT.of upd_same, rfl, _, _, rfl, _, _, rfl, rfl, rfl, yes ⟨_, rfl, _, rfl, _, _, rfl, rfl, _, (by rw [upd_ne nDT]; exact h5), ?_, ?_, ?_⟩⟩
      · rw [List.length_map, List.length_take, sums_len]
        exact szl (by omega)
      · intro b o e
        have e2 := s5 _ _ e
        by_cases hb : b = Dd
        · subst hb
          have e3 := (same_upd (o := HO.lst []) hD) _ _ e
          rw [upd_same] at e3
          exact absurd e (by rw [hD]; intro z; cases z)
        · rw [upd_ne hb, upd_ne (ne_of_none e2 hT)]
          exact e2
      · rw [upd_same, take_snoc hsum, List.map_append]
        rfl
    · rintro H5 ⟨s5, h5⟩
      have hn : min (ws.map V.int).length (cutV (ws.map V.int) (some 1) none).length = (sumsOf ws).length := by
        rw [ecut, sums_len, List.length_map, List.length_map, List.length_drop]
      rw [hn, List.take_of_length_le (Nat.le_refl _)] at h5
      have k5 : ∀ b o, Hb b = some o → H5 b = some o := fun b o e => s5 _ _ (same_upd hq _ _ e)
      refine ⟨Dd, _, rfl, .inl ⟨SqL.of h5, fun sp hsp => ?_⟩⟩
      have nspx : sp ≠ x := (ne_of_none (k5 _ _ hxb) hsp).symm
      have k6 : ∀ (o2 : HO) b o, Hb b = some o → b ≠ x → (upd (upd H5 sp (.tup ((sumsOf ws).map V.int))) x o2) b = some o := fun o2 b o e hb => by rw [upd_ne hb, upd_ne (ne_of_none (k5 _ _ e) hsp)]; exact k5 _ _ e
      refine ⟨_, rfl, x, _, dx, _, rfl, (by rw [upd_ne nspx.symm]; exact k5 _ _ hxb), T.cl_Mark, T.na_Mark_sums, (by show 2 < 1000; decide), ?_⟩
      -- self.bars = len(widths) // 2 + 1
      refine ⟨_, rfl, _, _, rfl, .inr ⟨_, SqT.of (k6 _ _ _ hWb nWx), rfl⟩, _, _, rfl, rfl, ⟨by decide, by decide⟩, _, _, rfl, rfl, _, rfl, x, _, dx, _, rfl, upd_same, T.cl_Mark, T.na_Mark_bars, (by show 3 < 1000; decide), ?_⟩
      rw [L2.upd_upd]
      -- self.total = self.edge_row[-1]
      refine ⟨_, rfl, x, _, dx, _, .ref ep, rfl, upd_same, T.cl_Mark, T.na_Mark_edge_row, rfl, 1, rfl, ep, _, -1, .int (0 + (ws.take ws.length).sum), rfl, rfl, SqT.of (k6 _ _ _ heb nex), ?_, _, rfl, x, _, dx, _, rfl, upd_same, T.cl_Mark, T.na_Mark_total, (by show 4 < 1000; decide), ?_⟩
      · refine atI_m (j := ws.length) ?_ (by decide) ?_
        · rw [List.length_map, EM.scan_len]
          omega
        · rw [List.getElem?_map, scan_at ws ws.length (Nat.le_refl _)]
          rfl
      rw [L2.upd_upd]
      -- self.span = self.edge_row[-2]
      refine ⟨_, rfl, x, _, dx, _, .ref ep, rfl, upd_same, T.cl_Mark, T.na_Mark_edge_row, rfl, 2, rfl, ep, _, -2, .int (0 + (ws.take (ws.length - 1)).sum), rfl, rfl, SqT.of (k6 _ _ _ heb nex), ?_, _, rfl, x, _, dx, _, rfl, upd_same, T.cl_Mark, T.na_Mark_span, (by show 5 < 1000; decide), ?_⟩
      · refine atI_m (j := ws.length - 1) ?_ (by decide) ?_
        · rw [List.length_map, EM.scan_len]
          omega
        · rw [List.getElem?_map, scan_at ws (ws.length - 1) (by omega)]
          rfl
      rw [L2.upd_upd]
      refine k _ (fun b o e hb => k6 _ _ _ (kb b o e hb) hb) ⟨hg, dx, W, ep, sp, ?_, k6 _ _ _ hWb nWx, k6 _ _ _ heb nex, by rw [upd_ne nspx]; exact upd_same⟩
      rw [upd_same]
      rw [List.take_of_length_le (Nat.le_refl _), Int.zero_add, Int.zero_add, List.length_map]
      rfl
theorem ok_Mark_init (T : Tx K mg) : FnR P w K mg base (L2.CX P w) 3 (He.ma K (He.ga K "Mark") "__init__") (fun vs H Q E => ∃ ws rest, vs = ws ++ rest ∧ ws.length = ["self"].length ∧ rest.length ≤ sizeLine ∧ ∀ W, H W = none → spInit0 K (ws ++ [V.ref W]) (upd H W (.tup rest)) Q E) := by
  obtain ⟨fd, F⟩ := T.d_Mark_init
  exact EM.fnr_star (ps := ["self"]) (pv := "widths") F sc_Mark_init (fun kV doc pm an cdv ct => StX.bind_star1 (B := fun l => bindArgs _ ⟨l, []⟩) (fun a => by rfl) (fun a r rs => by rfl)) (bod_Mark_init T _)
end
end K12
namespace K12
open PySem PySem.Spec PyProof.Rows L2 EM
theorem chr_eq {c n : Nat} {z : Str} (hz : z = ⟨#[n]⟩) : decide (V.str ⟨#[c]⟩ = V.str z) = decide (c = n) := by
  subst hz
  by_cases h : c = n
  · subst h; simp
  · have : ¬ V.str ⟨#[c]⟩ = V.str ⟨#[n]⟩ := fun q => h (by simpa using V.str.inj q)
    simp [this, h]
theorem dVs {a b : Str} : decide (V.str a = V.str b) = decide (a = b) := by
  by_cases h : a = b
  · subst h; simp
  · have : ¬ V.str a = V.str b := fun q => h (V.str.inj q)
    simp [this, h]
theorem zero_chr : ("0" : Str) = ⟨#[48]⟩ := by decide +kernel
def figs (a : Str) (most : Int) : Bool := if ¬ (1 ≤ (a.length : Int)) then false else if ¬ ((a.length : Int) ≤ most) then false else if a ≠ "0" ∧ (sg a).head? = some 48 then false else (sg a).all isDig
def spFig : Sp := fun vs H Q _ => ∃ (a : Str) (most : Int), vs = [.str a, .int most] ∧ a.length ≤ 100000 ∧ ∀ H', Same H H' → Q (.bl (figs a most)) H'
section
variable {P : Program} {w : World} {K : PySem.W.Frag} {mg : Str → Option Value} {base : Heap}
theorem ok_is_figures (T : Tx K mg) : FnR P w K mg base (L2.CX P w) 1 (He.ga K "is_figures") (spFig) := by
  obtain ⟨fd, F⟩ := T.d_is_figures
  refine EM.fnr F sc_is_figures (fun _ _ _ _ _ _ us hl => match us, hl with | [_, _], _ => rfl) (fun vs H Q E h => ?_) (fun cdv A outer s H vs Q E hr h => ?_)
  · obtain ⟨a, most, rfl, _⟩ := h
    rfl
  · obtain ⟨a, most, rfl, hl, k⟩ := h
    refine ⟨_, (PSs.nox (pss_cons (ps_if (PW.pt (pw_or (pt_not (pt_chain op_le op_le pe_int (pe_callB call_len (by rfl) T.f_len boot_len (pa_cons (pv 0) pa_nil)) (pv 1))) (pw_or1 (PW.pt (pw_and (pt_cmpR op_ne (pv 0) pe_str (nomark _)) (pw_and1 (pt_cmpR op_eq (pe_ix ix_str (pv 0) pe_int (fun _ _ => rfl)) pe_str (nomark _))))))))
  (pss_one (ps_ret pe_bl)) pss_nil)
 (pss_one (ps_ret (pe_callB (cr_all rfl) (by rfl) T.f_all (by decide +kernel) (pa_cons (pe_lc (own := [("sign", 2)]) (g := gName 2) rfl sc_is_figures.nd (pi_str (pv 0)) (blkOk_by (N := ["text", "most", "sign"]) (sc := defScope s_is_figures) (by decide +kernel)) (fun _ _ _ _ _ => (pg_name (i := 2) sc_is_figures.nd rfl (Or.inl rfl))) (fun _ _ _ _ _ => pts_nil) (fun _ _ _ _ _ => (pe_cmpR op_in_sign (pv 2) (EM.pe_gS T.g_FIGURES) (by rfl)))) pa_nil)))))), ?_⟩
    have hz : a.length ≤ sizeLine := Nat.le_trans hl (by decide)
    refine ⟨_, rfl, _, _, rfl, ⟨hz, rfl⟩, ?_⟩
    refine ⟨_, _, rfl, rfl, _, rfl, ite2 (fun c1 => ?_) (fun c1 => ?_)⟩
    · have c1' := of_decide_eq_true c1
      refine ⟨_, rfl, _, _, rfl, rfl, _, rfl, ite2 (fun c2 => ?_) (fun c2 => ?_)⟩
      · refine iteT ?_
        have e : figs a most = false := by
          unfold figs
          rw [if_neg (by omega), if_pos (by simpa using c2)]
        rw [e] at k
        exact k H (Same.refl H)
      · have c2' : (a.length : Int) ≤ most := by simpa using c2
        have hne : sg a ≠ [] := by intro z; rw [len_sg, z] at c1'; simp at c1'
        obtain ⟨c0, r0, hcr⟩ := List.exists_cons_of_ne_nil hne
        refine ⟨_, rfl, rfl, _, rfl, ite2 (fun c3 => ?_) (fun c3 => ?_)⟩
        · rw [dVs] at c3
          have c3' : a ≠ "0" := by simpa using c3
          refine ⟨_, rfl, a, 0, c0, rfl, rfl, hz, atI_nat (j := 0) (by show (sg a)[0]? = _; rw [hcr]; rfl), rfl, _, rfl, ite2 (fun c4 => ?_) (fun c4 => ?_)⟩
          · rw [chr_eq zero_chr] at c4
            have e : figs a most = false := by
              unfold figs
              rw [if_neg (by omega), if_neg (by omega), if_pos ⟨c3', by rw [hcr]; exact congrArg some (of_decide_eq_true c4)⟩]
            rw [e] at k
            exact k H (Same.refl H)
          · rw [chr_eq zero_chr] at c4
            have e : figs a most = (sg a).all isDig := by
              unfold figs
              rw [if_neg (by omega), if_neg (by omega), if_neg (fun z => by rw [hcr] at z; simp at c4; exact c4 (Option.some.inj z.2))]
            refine ⟨_, rfl, _, rfl, fun D hD => lc_it (walk_str (z := a)) (fun i H5 => Same H H5 ∧ H5 D = some (.lst ((((sg a).take i).map isDig).map V.bl))) ⟨same_upd hD, upd_same⟩ (fun _ _ _ _ => trivial) ?_ ?_⟩
            · rintro i y H5 H6 hi ⟨s5, h5⟩ ⟨rfl, c, hc, rfl⟩
              rw [← Array.getElem?_toList] at hc
              refine ⟨rfl, yes ⟨_, rfl, _, _, rfl, rfl, _, h5, ?_, ?_, ?_⟩⟩
              · rw [List.length_map, List.length_map, List.length_take]
                have : 100000 < sizeLine := by decide
                rw [len_sg] at hl
                omega
              · exact same_upd' s5 hD
              · rw [upd_same, take_snoc hc, List.map_append, List.map_append, mem_figs]
                rfl
            · rintro H5 ⟨s5, h5⟩
              rw [List.take_of_length_le (by show (sg a).length ≤ a.cps.size; simp)] at h5
              refine ⟨D, _, rfl, SqL.of h5, ?_⟩
              rw [List.all_map]
              rw [e] at k
              exact k _ s5
        · refine iteF ?_
          rw [dVs] at c3
          have e : figs a most = (sg a).all isDig := by
            unfold figs
            rw [if_neg (by omega), if_neg (by omega), if_neg (fun z => by simp at c3; exact z.1 c3)]
          refine ⟨_, rfl, _, rfl, fun D hD => lc_it (walk_str (z := a)) (fun i H5 => Same H H5 ∧ H5 D = some (.lst ((((sg a).take i).map isDig).map V.bl))) ⟨same_upd hD, upd_same⟩ (fun _ _ _ _ => trivial) ?_ ?_⟩
          · rintro i y H5 H6 hi ⟨s5, h5⟩ ⟨rfl, c, hc, rfl⟩
            rw [← Array.getElem?_toList] at hc
            refine ⟨rfl, yes ⟨_, rfl, _, _, rfl, rfl, _, h5, ?_, ?_, ?_⟩⟩
            · rw [List.length_map, List.length_map, List.length_take]
              have : 100000 < sizeLine := by decide
              rw [len_sg] at hl
              omega
            · exact same_upd' s5 hD
            · rw [upd_same, take_snoc hc, List.map_append, List.map_append, mem_figs]
              rfl
          · rintro H5 ⟨s5, h5⟩
            rw [List.take_of_length_le (by show (sg a).length ≤ a.cps.size; simp)] at h5
            refine ⟨D, _, rfl, SqL.of h5, ?_⟩
            rw [List.all_map]
            rw [e] at k
            exact k _ s5
    · refine ⟨_, rfl, iteT (iteT ?_)⟩
      have e : figs a most = false := by
        unfold figs
        rw [if_pos (by simpa using c1)]
      rw [e] at k
      exact k H (Same.refl H)
end
end K12
namespace K12
open PySem PySem.Spec PyProof.Rows L2 EM
theorem figs_ok {p : Str} (h : figs p 60 = true) : sg p ≠ [] ∧ p.length ≤ 60 ∧ (sg p).all isDig = true ∧ (p = "0" ∨ (sg p).head? ≠ some 48) := by
  unfold figs at h
  split at h
  · cases h
  split at h
  · cases h
  split at h
  · cases h
  rename_i h1 h2 h3
  refine ⟨fun z => ?_, by omega, h, ?_⟩
  · rw [len_sg, z] at h1
    simp at h1
  · by_cases hp : p = "0"
    · exact .inl hp
    · exact .inr fun z => h3 ⟨hp, z⟩
def bot_ (p : Str × Str × Str) : Str := if p.2.1 = "" then "1" else p.2.2
def okR (a : Str) : Prop := let p := Txt.partition (rest_ a) "/"; figs p.1 60 = true ∧ figs (bot_ p) 60 = true ∧ bot_ p ≠ "0" ∧ ¬ (isNeg a = true ∧ p.1 = "0") ∧ ¬ (p.2.1 = "/" ∧ bot_ p = "1") ∧ Int.gcd (worthT p.1) (worthT (bot_ p)) = 1
instance (a : Str) : Decidable (okR a) := by unfold okR; infer_instance
def topR (a : Str) : Int := let p := Txt.partition (rest_ a) "/"; if isNeg a = true then -(worthT p.1) else worthT p.1
def botR (a : Str) : Int := worthT (bot_ (Txt.partition (rest_ a) "/"))
def xdT (k : Int) : HO := .xd [("word", .int k), ("line", .int 0)]
def spRd (K : PySem.W.Frag) : Sp := fun vs H Q E => ∃ x : V, vs = [.ref (He.ga K "Ratio"), x] ∧
  ((∃ a, x = .str a ∧ a.length ≤ 40000 ∧ (¬ okR a → ∀ d H', Same H H' → H d = none → H' d = some (xdT 0) → E (.ref (He.ga K "BadText")) (some d) H') ∧ (okR a → ∀ p H', Same H H' → RatAt K H' p (topR a) (botR a) → Q (.ref p) H')) ∨
   ∃ t, TyX K H x t ∧ PySem.W.kitOne K t (.type "str") = some false ∧ ∀ d H', Same H H' → H d = none → H' d = some (xdT 0) → E (.ref (He.ga K "BadText")) (some d) H')
section
variable {P : Program} {w : World} {K : PySem.W.Frag} {mg : Str → Option Value} {base : Heap}
theorem ok_Ratio_read (T : Tx K mg) : FnR P w K mg base (L2.CX P w) 4 (He5.wf K (He.ga K "Ratio") "classmethod" "read") (spRd K) := by
  obtain ⟨fd, F⟩ := T.d_Ratio_read
  refine EM.fnr F sc_Ratio_read (fun _ _ _ _ _ _ us hl => match us, hl with | [_, _], _ => rfl) (fun vs H Q E h => ?_) (fun cdv A outer s H vs Q E hr h => ?_)
  · obtain ⟨x, rfl, _⟩ := h
    rfl
  · obtain ⟨x, rfl, h⟩ := h
    obtain ⟨fdB, okB, bB⟩ := mk_BadText (P := P) (w := w) (base := base) T
    have tk := takes_of (X := cxOf (L2.CX P w) P w K mg base ["cls", "text", "sign", "top", "stroke", "bottom"] "Ratio.read" (defScope s_Ratio_read) (He5.wf K (He.ga K "Ratio") "classmethod" "read") cdv A outer s H E) (E := E) rfl rfl rfl rfl
    refine ⟨_, (pss_cons (ps_if (pt_not (pt_val (pe_callB call_isi (by rfl) T.f_isinstance (by decide +kernel) (pa_cons (pv 1) (pa_cons (pe_bltn (v := .ty "str") (by rfl) T.f_str boot_str rfl) pa_nil)))))
  (pss_one (EM.ps_rz2 rfl T.ox_BadText T.oi_BadText okB (hr.mono (by decide)) bB passL T.g_BadText tk (pa_cons pe_int (pa_cons pe_int pa_nil)))) pss_nil)
 (pss_cons (ps_set (i := 2) sc_Ratio_read.nd rfl (Or.inl rfl) (pe_ifExp (pt_cmpR op_eq (pe_slice sl_str (pv 1) po_none (po_some pe_int)) pe_str (nomark _)) pe_str pe_str))
 (pss_cons (ps_asg (pe_m1 PySem.F.slot_str_partition PySem.F.type_str_partition mt_partition (pe_slice sl_str (pv 1) (po_some (pe_callB call_len (by rfl) T.f_len boot_len (pa_cons (pv 2) pa_nil))) po_none) pe_str) (pg_tup (by rfl) (pgs_cons (pg_name (i := 3) sc_Ratio_read.nd rfl (Or.inl rfl)) (pgs_cons (pg_name (i := 4) sc_Ratio_read.nd rfl (Or.inl rfl)) (pgs_cons (pg_name (i := 5) sc_Ratio_read.nd rfl (Or.inl rfl)) pgs_nil)))))
 (pss_cons (ps_if (pt_cmpR op_eq (pv 4) pe_str (nomark _))
  (pss_one (ps_set (i := 5) sc_Ratio_read.nd rfl (Or.inl rfl) pe_str)) pss_nil)
 (pss_cons (ps_if (PW.pt (pw_or (pt_not (pt_val (EM.pe_cR (ok_is_figures T) (hr.mono (by decide)) T.k_is_figures T.g_is_figures passL (pa_cons (pv 3) (pa_cons (EM.pe_gI T.g_MOST_DIGITS) pa_nil))))) (pw_or1 (pt_not (pt_val (EM.pe_cR (ok_is_figures T) (hr.mono (by decide)) T.k_is_figures T.g_is_figures passL (pa_cons (pv 5) (pa_cons (EM.pe_gI T.g_MOST_DIGITS) pa_nil))))))))
  (pss_one (EM.ps_rz2 rfl T.ox_BadText T.oi_BadText okB (hr.mono (by decide)) bB passL T.g_BadText tk (pa_cons pe_int (pa_cons pe_int pa_nil)))) pss_nil)
 (pss_cons (ps_if (PW.pt (pw_or (pt_cmpR op_eq (pv 5) pe_str (nomark _)) (pw_or (pt_cmpR op_eq (pe_op op_add_str (pv 2) (pv 3)) pe_str (nomark _)) (pw_or1 (pt_cmpR op_eq (pe_op op_add_str (pv 4) (pv 5)) pe_str (nomark _))))))
  (pss_one (EM.ps_rz2 rfl T.ox_BadText T.oi_BadText okB (hr.mono (by decide)) bB passL T.g_BadText tk (pa_cons pe_int (pa_cons pe_int pa_nil)))) pss_nil)
 (pss_cons (ps_if (pt_cmpR op_ne (EM.pe_cR (ok_common_divisor T) (hr.mono (by decide)) T.k_common_divisor T.g_common_divisor passL (pa_cons (pe_callTy call_int_str (by rfl) T.f_int (by decide +kernel) (pa_cons (pv 3) pa_nil)) (pa_cons (pe_callTy call_int_str (by rfl) T.f_int (by decide +kernel) (pa_cons (pv 5) pa_nil)) pa_nil))) pe_int (nomark _))
  (pss_one (EM.ps_rz2 rfl T.ox_BadText T.oi_BadText okB (hr.mono (by decide)) bB passL T.g_BadText tk (pa_cons pe_int (pa_cons pe_int pa_nil)))) pss_nil)
 (pss_one (ps_ret (EM.pe_mkV T.mk_Ratio (ok_Ratio2 T) (hr.mono (by decide)) passL (pv 0) (pa_cons (pe_callTy call_int_str (by rfl) T.f_int (by decide +kernel) (pa_cons (pe_op op_add_str (pv 2) (pv 3)) pa_nil)) (pa_cons (pe_callTy call_int_str (by rfl) T.f_int (by decide +kernel) (pa_cons (pv 5) pa_nil)) pa_nil)))))))))))), ?_⟩
    rcases h with ⟨a, rfl, hl, hbad, hok⟩ | ⟨t, ty, hk, h⟩
    · refine ⟨_, rfl, .str a, .ty "str", .type "str", .type "str", true, rfl, .ty "str", .base (.str a), kit_ty (by decide +kernel), true, rfl, ifN rfl ?_⟩
      have hz : a.length ≤ sizeLine := Nat.le_trans hl (by decide)
      refine ⟨_, rfl, 1, rfl, a, rfl, hz, rfl, _, rfl, ?_⟩
      refine ite_tC (fun v => ∃ sn : Str, v = .str sn ∧ ((isNeg a = true ∧ sn = "-") ∨ (isNeg a = false ∧ sn = ""))) ?_ (fun c => ⟨_, rfl, .inl ⟨by rw [dVs] at c; exact c, rfl⟩⟩) (fun c => ⟨_, rfl, .inr ⟨by rw [dVs] at c; simpa [isNeg] using c, rfl⟩⟩)
      rintro v ⟨sn, rfl, hs⟩
      have hsn : sn.length ≤ 1 := by
        rcases hs with ⟨_, rfl⟩ | ⟨_, rfl⟩ <;> decide +kernel
      have er : cutS a (some (sn.length : Int)) none = rest_ a := by
        unfold rest_
        rcases hs with ⟨e, rfl⟩ | ⟨e, rfl⟩
        · rw [if_pos e]
          have : ((("-" : Str).length : Nat) : Int) = 1 := by decide +kernel
          rw [this]
        · rw [if_neg (by rw [e]; decide)]
          have : ((("" : Str).length : Nat) : Int) = 0 := by decide +kernel
          rw [this]
          exact cut_0 a
      have hrl : (rest_ a).length ≤ a.length := by
        rw [← er]
        exact cutS_length _ _ _
      have zl : 50000 ≤ sizeLine := by decide
      refine ⟨_, rfl, _, rfl, _, _, rfl, ⟨by omega, rfl⟩, _, rfl, a, rfl, hz, ⟨_, rfl⟩, _, _, rfl, rfl, by decide +kernel, by rw [er]; omega, fun q hq => ?_⟩
      rw [er]
      obtain ⟨f1, f2, f3⟩ := fact_partition (rest_ a) "/"
      have hcut := cut_two (rest_ a)
      unfold okR topR botR at hok
      unfold okR at hbad
      revert hcut
      revert f1 f2 f3
      revert hok
      revert hbad
      obtain ⟨top, st, bt⟩ := Txt.partition (rest_ a) "/"
      intro hbad hok f1 f2 f3 hcut
      have hst : (st = "" ∨ st = "/") := by
        rcases hcut with ⟨_, e, _⟩ | ⟨_, _, e, _⟩
        · exact .inl (congrArg (fun p : Str × Str × Str => p.2.1) e)
        · exact .inr (congrArg (fun p : Str × Str × Str => p.2.1) e)
      have hstl : st.length ≤ 1 := by
        rcases hst with rfl | rfl <;> decide +kernel
      simp only at f1 f2 f3 hok hbad
      have s1 := same_upd (o := .tup [V.str top, V.str st, V.str bt]) hq
      refine ⟨q, _, rfl, SqT.of upd_same, rfl, _, _, rfl, _, _, rfl, _, _, rfl, rfl, ?_⟩
      refine ⟨_, rfl, rfl, _, rfl, ite_rest (fun σ H2 => σ = [some (.ref (He.ga K "Ratio")), some (.str a), some (.str sn), some (.str top), some (.str st), some (.str (bot_ (top, st, bt)))] ∧ Same H H2) ?_ (fun rest c => ?_) (fun c => ?_)⟩
      · rintro σ H2 ⟨rfl, s2⟩
        have hbl : (bot_ (top, st, bt)).length ≤ 40000 := by
          unfold bot_
          split
          · exact (by decide +kernel : ("1" : Str).length ≤ 40000)
          · show bt.length ≤ 40000
            omega
        obtain ⟨bot, eb⟩ : ∃ bot, bot = bot_ (top, st, bt) := ⟨_, rfl⟩
        rw [← eb] at hok hbad hbl ⊢
        have no : ∀ {H3 : Hp}, Same H H3 → ¬ (figs top 60 = true ∧ figs bot 60 = true ∧ bot ≠ "0" ∧ ¬ (isNeg a = true ∧ top = "0") ∧ ¬ (st = "/" ∧ bot = "1") ∧ Int.gcd (worthT top) (worthT bot) = 1) →
            ∀ (d : Addr) (H' : Hp), Same H3 H' → H3 d = none → H' d = some (xdT 0) → E (.ref (He.ga K "BadText")) (some d) H' := fun {H3} s3 hn d H' s' hd hx => hbad hn d H' (s3.trans s') (s3.free hd) hx
        refine ⟨_, rfl, top, 60, rfl, by omega, fun H3 s3 => ⟨_, rfl, ite2 (fun c1 => ?_) (fun c1 => ?_)⟩⟩
        · exact ⟨rfl, no (s2.trans s3) (fun z => by rw [z.1] at c1; cases c1)⟩
        have c1' : figs top 60 = true := by simpa using c1
        refine ⟨_, rfl, bot, 60, rfl, by omega, fun H4 s4 => ⟨_, rfl, ite2 (fun c2 => ?_) (fun c2 => ?_)⟩⟩
        · exact ⟨rfl, no ((s2.trans s3).trans s4) (fun z => by rw [z.2.1] at c2; cases c2)⟩
        have c2' : figs bot 60 = true := by simpa using c2
        have s04 := (s2.trans s3).trans s4
        obtain ⟨t1, t2, t3, t4⟩ := figs_ok c1'
        obtain ⟨b1, b2, b3, b4⟩ := figs_ok c2'
        refine ⟨_, rfl, rfl, _, rfl, ite2 (fun c3 => ?_) (fun c3 => ?_)⟩
        · rw [dVs] at c3
          exact ⟨rfl, no s04 (fun z => z.2.2.1 (of_decide_eq_true c3))⟩
        rw [dVs] at c3
        have c3' : bot ≠ "0" := by simpa using c3
        refine ⟨_, rfl, _, rfl, _, _, rfl, rfl, by omega, rfl, _, rfl, ite2 (fun c4 => ?_) (fun c4 => ?_)⟩
        · rw [dVs] at c4
          refine ⟨rfl, no s04 (fun z => z.2.2.2.1 ?_)⟩
          have e := of_decide_eq_true c4
          rcases hs with ⟨e1, rfl⟩ | ⟨e1, rfl⟩
          · refine ⟨e1, str_ext ?_⟩
            have e2 := congrArg sg e
            rw [sg_app] at e2
            have e3 : sg ("-0" : Str) = sg "-" ++ sg "0" := by decide +kernel
            rw [e3] at e2
            exact List.append_cancel_left e2
          · have e2 := congrArg sg e
            rw [sg_app] at e2
            have e3 : sg ("" : Str) ++ sg top = sg top := rfl
            rw [e3] at e2
            exact absurd (by rw [e2]; decide +kernel) (no45 t3)
        rw [dVs] at c4
        have c4' : ¬ (isNeg a = true ∧ top = "0") := by
          rintro ⟨e1, rfl⟩
          rcases hs with ⟨_, rfl⟩ | ⟨e2, _⟩
          · exact c4 (by decide +kernel)
          · rw [e1] at e2
            cases e2
        refine ⟨_, rfl, _, rfl, _, _, rfl, rfl, by omega, rfl, _, rfl, ite2 (fun c5 => ?_) (fun c5 => ?_)⟩
        · rw [dVs] at c5
          refine ⟨rfl, no s04 (fun z => z.2.2.2.2.1 ?_)⟩
          have e := of_decide_eq_true c5
          rcases hst with rfl | rfl
          · have e2 := congrArg sg e
            rw [sg_app] at e2
            have e3 : sg ("" : Str) ++ sg bot = sg bot := rfl
            rw [e3] at e2
            exact absurd (by rw [e2]; decide +kernel) (no47 b3)
          · refine ⟨rfl, str_ext ?_⟩
            have e2 := congrArg sg e
            rw [sg_app] at e2
            have e3 : sg ("/1" : Str) = sg "/" ++ sg "1" := by decide +kernel
            rw [e3] at e2
            exact List.append_cancel_left e2
        rw [dVs] at c5
        have c5' : ¬ (st = "/" ∧ bot = "1") := by
          rintro ⟨rfl, rfl⟩
          exact c5 (by decide +kernel)
        have it := int_of_figs t3 t1 (by omega)
        have ib := int_of_figs b3 b1 (by omega)
        have wt := worth_lt t3 (k := 60) (by omega)
        have wb := worth_lt b3 (k := 60) (by omega)
        refine ⟨_, rfl, top, _, rfl, it, by omega, _, rfl, bot, _, rfl, ib, by omega, _, _, rfl, rfl, _, rfl, ite2 (fun c6 => ?_) (fun c6 => ?_)⟩
        · refine ⟨rfl, no s04 (fun z => ?_)⟩
          rw [z.2.2.2.2.2] at c6
          simp at c6
        have c6' : Int.gcd (worthT top) (worthT bot) = 1 := by
          have : (Int.gcd (worthT top) (worthT bot) : Int) = 1 := by simpa using c6
          omega
        have all := (⟨c1', c2', c3', c4', c5', c6'⟩ : figs top 60 = true ∧ figs bot 60 = true ∧ bot ≠ "0" ∧ ¬ (isNeg a = true ∧ top = "0") ∧ ¬ (st = "/" ∧ bot = "1") ∧ Int.gcd (worthT top) (worthT bot) = 1)
        have hb0 : 0 < worthT bot := by
          rcases b4 with h | h
          · exact absurd h c3'
          · have := worth_pos b1 h b3
            omega
        obtain ⟨tt, itt, ett⟩ : ∃ tt : Int, intText? (sn ++ top) = some tt ∧ tt = if isNeg a = true then -(worthT top) else worthT top := by
          rcases hs with ⟨e1, rfl⟩ | ⟨e1, rfl⟩
          · refine ⟨_, int_neg (p := top) (by rw [sg_app]; rfl) t3 t1 (by rw [Str.length_append]; omega), by rw [if_pos e1]⟩
          · refine ⟨_, ?_, (if_neg (by rw [e1]; decide)).symm⟩
            have : ("" : Str) ++ top = top := str_ext (by rw [sg_app]; rfl)
            rw [this]
            exact it
        have hgt : Int.gcd tt (worthT bot) = 1 := by
          rw [ett]
          split
          · rw [Int.neg_gcd]
            exact c6'
          · exact c6'
        obtain ⟨n1, n2⟩ := n_red hgt hb0
        refine ⟨_, rfl, rfl, _, rfl, _, rfl, _, _, rfl, rfl, by omega, _, _, rfl, itt, by rw [Str.length_append]; omega, _, rfl, bot, _, rfl, ib, by omega, fun x dx hx hdx ndx => ?_⟩
        refine ⟨x, dx, tt, worthT bot, rfl, upd_same, by omega, Nat.lt_trans (log_60 (by omega)) (by decide), fun H' k' rat => ⟨rfl, ?_⟩⟩
        rw [n1, n2, ett] at rat
        refine hok all x H' (fun b o e => k' b o (by rw [upd_ne (ne_of_none (s04 _ _ e) hx), upd_ne (ne_of_none (s04 _ _ e) hdx)]; exact s04 _ _ e) (ne_of_none (s04 _ _ e) hx)) rat
      · rw [dVs] at c
        have e : bot_ (top, st, bt) = "1" := if_pos (of_decide_eq_true c)
        exact rest _ _ ⟨by rw [e]; rfl, s1⟩
      · rw [dVs] at c
        have e : bot_ (top, st, bt) = bt := if_neg (by simpa using c)
        exact ⟨by rw [e]; rfl, s1⟩
    · refine ⟨_, rfl, x, .ty "str", t, .type "str", false, rfl, .ty "str", ty, hk, false, rfl, iteT ?_⟩
      exact ⟨rfl, fun d H' s' hd hx => h d H' s' hd hx⟩
end
end K12
namespace K12
open PySem PySem.Spec PyProof.Rows L2 EM
abbrev tx (i : Int) : Str := Str.ofString (toString i)
def rText (t b : Int) : Str := if b = 1 then tx t else tx t ++ "/" ++ tx b
def Sm (i : Int) : Prop := i.natAbs < 10 ^ 60
theorem Sm.log {i : Int} (h : Sm i) : i.natAbs.log2 < 1920 := log_60 h
theorem Sm.len {i : Int} (h : Sm i) : (tx i).length ≤ 1921 := int_text_len_1921 h.log
theorem w0 {p : Str} (h : figs p 60 = true) : worthT p = 0 ↔ p = "0" := by
  obtain ⟨t1, t2, t3, t4⟩ := figs_ok h
  constructor
  · intro e
    rcases t4 with h | h
    · exact h
    · have := worth_pos t1 h t3
      omega
  · rintro rfl
    decide +kernel
theorem w1 {p : Str} (h : figs p 60 = true) : worthT p = 1 ↔ p = "1" := by
  obtain ⟨t1, t2, t3, t4⟩ := figs_ok h
  constructor
  · intro e
    rcases t4 with h | h
    · subst h
      exact absurd e (by decide +kernel)
    · exact worth_inj t1 h t3 (by decide +kernel) (by decide +kernel) (by decide +kernel) (e.trans (by decide +kernel))
  · rintro rfl
    decide +kernel
theorem f1 : figs "1" 60 = true := by decide +kernel
theorem v1 : worthT "1" = 1 := by decide +kernel
theorem okA {a : Str} (e : Txt.partition (rest_ a) "/" = (rest_ a, ("" : Str), ("" : Str))) : (okR a ↔ figs (rest_ a) 60 = true ∧ ¬ (isNeg a = true ∧ rest_ a = "0")) ∧ botR a = 1 ∧ topR a = if isNeg a = true then -(worthT (rest_ a)) else worthT (rest_ a) := by
  have eb : bot_ (rest_ a, ("" : Str), ("" : Str)) = "1" := rfl
  unfold okR topR botR
  rw [e, eb]
  refine ⟨⟨fun z => ⟨z.1, z.2.2.2.1⟩, fun z => ⟨z.1, f1, (by show ("1" : Str) ≠ "0"; decide +kernel), z.2, fun y => absurd y.1 (by show ¬ ("" : Str) = "/"; decide +kernel), ?_⟩⟩, v1, rfl⟩
  show Int.gcd (worthT (rest_ a)) (worthT "1") = 1
  rw [v1, Int.gcd_one_right]
theorem okB {a t b : Str} (e : Txt.partition (rest_ a) "/" = (t, ("/" : Str), b)) : (okR a ↔ figs t 60 = true ∧ figs b 60 = true ∧ b ≠ "0" ∧ ¬ (isNeg a = true ∧ t = "0") ∧ b ≠ "1" ∧ Int.gcd (worthT t) (worthT b) = 1) ∧ botR a = worthT b ∧ topR a = if isNeg a = true then -(worthT t) else worthT t := by
  have eb : bot_ (t, ("/" : Str), b) = b := if_neg (by show ¬ ("/" : Str) = ""; decide +kernel)
  unfold okR topR botR
  rw [e, eb]
  refine ⟨⟨fun z => ⟨z.1, z.2.1, z.2.2.1, z.2.2.2.1, fun y => z.2.2.2.2.1 ⟨rfl, y⟩, z.2.2.2.2.2⟩, fun z => ⟨z.1, z.2.1, z.2.2.1, z.2.2.2.1, fun y => z.2.2.2.2.1 y.2, z.2.2.2.2.2⟩⟩, rfl, rfl⟩
theorem tx_nat (n : Nat) : sg (tx (n : Int)) = dig n := digs_text n
theorem tx_neg (n : Nat) (h : 1 ≤ n) : sg (tx (-(n : Int))) = 45 :: sg (tx (n : Int)) := by
  rw [tx_nat]
  exact neg_text n h
theorem tx_worth {p : Str} (h : figs p 60 = true) : tx (worthT p) = p := by
  obtain ⟨t1, t2, t3, t4⟩ := figs_ok h
  rcases t4 with rfl | t4
  · decide +kernel
  · exact worth_text t1 t4 t3
theorem tx_wneg {p : Str} (h : figs p 60 = true) (h0 : p ≠ "0") : tx (-(worthT p)) = "-" ++ p := by
  have hw := (worth_lt (figs_ok h).2.2.1 (k := 60) (figs_ok h).2.1).1
  have h1 : worthT p ≠ 0 := fun z => h0 ((w0 h).mp z)
  obtain ⟨n, en⟩ : ∃ n : Nat, worthT p = n := ⟨(worthT p).toNat, by omega⟩
  apply str_ext
  rw [en, tx_neg n (by omega), ← en, tx_worth h, sg_app, minus]
  rfl
theorem figs_sm {p : Str} (h : figs p 60 = true) : 0 ≤ worthT p ∧ Sm (worthT p) ∧ Sm (-(worthT p)) := by
  have hw := worth_lt (figs_ok h).2.2.1 (k := 60) (figs_ok h).2.1
  unfold Sm
  have h2 : worthT p < ((10 ^ 60 : Nat) : Int) := by
    have := hw.2
    simpa using this
  refine ⟨hw.1, ?_, ?_⟩ <;> omega
theorem ok_sm {a : Str} (h : okR a) : Sm (topR a) ∧ Sm (botR a) := by
  rcases cut_two (rest_ a) with ⟨_, e, _⟩ | ⟨t, b, e, _⟩
  · obtain ⟨ok, eb, et⟩ := okA e
    have := figs_sm (ok.mp h).1
    refine ⟨?_, by rw [eb]; unfold Sm; decide⟩
    rw [et]
    split
    · exact this.2.2
    · exact this.2.1
  · obtain ⟨ok, eb, et⟩ := okB e
    have h1 := figs_sm (ok.mp h).1
    have h2 := figs_sm (ok.mp h).2.1
    refine ⟨?_, by rw [eb]; exact h2.2.1⟩
    rw [et]
    split
    · exact h1.2.2
    · exact h1.2.1
theorem text_back {a : Str} (h : okR a) : rText (topR a) (botR a) = a := by
  have key : ∀ t : Str, figs t 60 = true → ¬ (isNeg a = true ∧ t = "0") → tx (if isNeg a = true then -(worthT t) else worthT t) = if isNeg a = true then "-" ++ t else t := by
    intro t ht hz
    split
    · rename_i hn
      exact tx_wneg ht (fun z => hz ⟨hn, z⟩)
    · exact tx_worth ht
  have back : (if isNeg a = true then "-" ++ rest_ a else rest_ a) = a := by
    unfold rest_
    split
    · rename_i hn
      exact (neg_text2 hn).symm
    · rfl
  rcases cut_two (rest_ a) with ⟨_, e, _⟩ | ⟨t, b, e, e2, _⟩
  · obtain ⟨ok, eb, et⟩ := okA e
    obtain ⟨h1, h2⟩ := ok.mp h
    unfold rText
    rw [eb, if_pos rfl, et, key _ h1 h2]
    exact back
  · obtain ⟨ok, eb, et⟩ := okB e
    obtain ⟨h1, h2, h3, h4, h5, h6⟩ := ok.mp h
    have hb1 : ¬ worthT b = 1 := fun z => h5 ((w1 h2).mp z)
    have er : rest_ a = t ++ "/" ++ b := str_ext (by rw [e2, sg_app, sg_app, slash, List.append_assoc]; rfl)
    unfold rText
    rw [eb, if_neg hb1, et, key _ h1 h4, tx_worth h2]
    refine Eq.trans ?_ back
    rw [er]
    split
    · exact str_ext (by simp only [sg_app, List.append_assoc])
    · rfl
end K12
namespace K12
open PySem PySem.Spec PyProof.Rows L2 EM
local macro_rules | `(tactic| sizeOf_list_dec) => `(tactic| first
  | with_reducible assumption
  | ((with_reducible apply EM.At.ext); (focus (with_reducible assumption)); (focus sizeOf_list_dec))
  | ((with_reducible apply EM.RatP.ext); (focus (with_reducible assumption)); (focus sizeOf_list_dec))
  | ((with_reducible apply EM.NumP.ext); (focus (with_reducible assumption)); (focus sizeOf_list_dec))
  | (with_reducible exact EM.Ext.refl)
  | ((with_reducible apply EM.Ext.back); (focus (with_reducible assumption)); (focus sizeOf_list_dec))
  | exact EM.NumP.int _
  | ((with_reducible apply EM.Mu.at_k); (focus (with_reducible assumption)); (focus sizeOf_list_dec); (focus sizeOf_list_dec); (focus (intro _ z; cases z; done)))
  | ((with_reducible apply EM.Mu.at_n); (focus (with_reducible assumption)); (focus sizeOf_list_dec); (focus (first | with_reducible assumption | ((apply EM.nn1); (focus (with_reducible assumption)); (focus sizeOf_list_dec)) | ((apply EM.nn2); (focus (with_reducible assumption)); (focus sizeOf_list_dec)))))
  | ((with_reducible apply EM.Mu.here); (focus (with_reducible assumption)); (focus sizeOf_list_dec))
  | ((with_reducible apply EM.Mu.rat); (focus (with_reducible assumption)); (focus sizeOf_list_dec); (focus sizeOf_list_dec))
  | ((with_reducible apply EM.Mu.num); (focus (with_reducible assumption)); (focus sizeOf_list_dec); (focus sizeOf_list_dec))
  | ((with_reducible apply EM.num_of_rat); (focus sizeOf_list_dec); (focus (first | with_reducible assumption | (apply EM.n_low; assumption))))
  | ((with_reducible apply EM.RatsP.xt); (focus (with_reducible assumption)); (focus sizeOf_list_dec))
  | ((with_reducible apply EM.NumsP.xt); (focus (with_reducible assumption)); (focus sizeOf_list_dec))
  | ((with_reducible apply EM.PairsP.xt); (focus (with_reducible assumption)); (focus sizeOf_list_dec))
  | ((with_reducible apply EM.RdP.xt); (focus (with_reducible assumption)); (focus sizeOf_list_dec))
  | ((with_reducible apply EM.Mu.rats); (focus (with_reducible assumption)); (focus sizeOf_list_dec); (focus sizeOf_list_dec))
  | ((with_reducible apply EM.Mu.pairs); (focus (with_reducible assumption)); (focus sizeOf_list_dec); (focus sizeOf_list_dec))
  | ((with_reducible apply EM.Mu.rdp); (focus (with_reducible assumption)); (focus sizeOf_list_dec); (focus sizeOf_list_dec)))
local macro_rules | `(tactic| decreasing_trivial_pre_omega) => `(tactic| first
  | with_reducible assumption
  | exact EM.Bt.mono (by with_reducible assumption) (by decide)
  | exact EM.Bt.lit _ _ (by decide +kernel)
  | ((with_reducible refine EM.Bt.rng32 ?_ ?_) <;> omega)
  | ((with_reducible refine EM.Bt.rng70 ?_ ?_) <;> omega)
  | ((with_reducible refine EM.Bt.rng200 ?_ ?_) <;> omega)
  | ((with_reducible apply EM.Bt.mulM); (focus decreasing_trivial_pre_omega); (focus decreasing_trivial_pre_omega); (focus (first | decide | exact Nat.le_refl _)))
  | ((with_reducible apply EM.Bt.addM); (focus decreasing_trivial_pre_omega); (focus decreasing_trivial_pre_omega); (focus (first | decide | exact Nat.le_refl _)))
  | ((with_reducible apply EM.Bt.subM); (focus decreasing_trivial_pre_omega); (focus decreasing_trivial_pre_omega); (focus (first | decide | exact Nat.le_refl _)))
  | ((with_reducible apply EM.Bt.topL); (focus decreasing_trivial_pre_omega); (focus assumption); (focus (first | decide | exact Nat.le_refl _)))
  | ((with_reducible apply EM.Bt.botL); (focus decreasing_trivial_pre_omega); (focus assumption); (focus (first | decide | exact Nat.le_refl _)))
  | ((with_reducible apply EM.Bt.divM); (focus decreasing_trivial_pre_omega); (focus assumption); (focus (first | decide | exact Nat.le_refl _)))
  | ((with_reducible apply EM.Bt.negM); (focus decreasing_trivial_pre_omega); (focus (first | decide | exact Nat.le_refl _))))
local macro_rules | `(tactic| array_get_dec) => `(tactic| first
  | with_reducible assumption
  | ((with_reducible refine EM.gEq ?_); exact rfl)
  | ((with_reducible refine EM.gTru ?_); exact rfl)
  | ((with_reducible refine EM.gRef ?_); first | exact Or.inl ⟨_, rfl⟩ | exact Or.inr ⟨_, rfl⟩)
  | ((with_reducible apply EM.At.get); sizeOf_list_dec)
  | ((with_reducible apply EM.At.sqL); sizeOf_list_dec)
  | ((with_reducible apply EM.At.sqT); sizeOf_list_dec)
  | ((with_reducible apply EM.RatP.getK); (focus sizeOf_list_dec); (focus (exact rfl)))
  | (with_reducible exact EM.Num.int _)
  | ((with_reducible apply EM.NumP.getK); (focus sizeOf_list_dec); (focus (exact rfl)))
  | ((with_reducible apply EM.At.ext); (focus (with_reducible assumption)); (focus sizeOf_list_dec))
  | ((with_reducible apply EM.RatP.ext); (focus (with_reducible assumption)); (focus sizeOf_list_dec))
  | ((with_reducible apply EM.NumP.ext); (focus (with_reducible assumption)); (focus sizeOf_list_dec))
  | with_reducible exact Tx.cl_Ratio (by assumption)
  | with_reducible exact Tx.cl_Reading (by assumption)
  | with_reducible exact Tx.na_Ratio_top (by assumption)
  | with_reducible exact Tx.na_Ratio_bottom (by assumption)
  | with_reducible exact Tx.na_Reading_own_edges (by assumption)
  | ((with_reducible refine EM.gAt ?_); sizeOf_list_dec)
  | ((with_reducible refine EM.gRat ?_); sizeOf_list_dec)
  | ((with_reducible refine EM.gNum ?_); sizeOf_list_dec)
  | ((with_reducible apply EM.TwoP.mk); (focus (with_reducible assumption)); (focus sizeOf_list_dec); (focus (first | with_reducible assumption | (apply EM.n_low; assumption))); (focus sizeOf_list_dec); (focus decreasing_trivial_pre_omega); (focus decreasing_trivial_pre_omega); (focus decreasing_trivial_pre_omega); (focus decreasing_trivial_pre_omega))
  | (with_reducible exact EM.Ext.refl)
  | ((with_reducible apply EM.Ext.back); (focus (with_reducible assumption)); (focus sizeOf_list_dec))
  | ((with_reducible apply EM.Bs.mono); (focus (with_reducible assumption)); omega)
  | ((with_reducible refine EM.gN ?_); first | decide | omega | exact Nat.le_of_ble_eq_true rfl | (simp only [List.length_cons, List.length_nil, List.length_append]; omega))
  | ((with_reducible refine EM.gM ?_); first | decide | omega | exact Nat.le_of_ble_eq_true rfl)
  | ((with_reducible refine EM.gI ?_); first | decide | omega)
  | ((with_reducible refine EM.gJ ?_); first | decide | omega)
  | ((with_reducible refine EM.gE ?_); first | decide | omega)
  | ((with_reducible refine EM.gB ?_); decreasing_trivial_pre_omega)
  | ((with_reducible apply EM.wideM); (focus decreasing_trivial_pre_omega); (focus decreasing_trivial_pre_omega); (focus decide)))
local macro_rules | `(tactic| infer_instance) => `(tactic| first
  | with_reducible assumption
  | exact DpAll.nil
  | (apply DpAll.cons; (focus infer_instance); (focus infer_instance))
  | with_reducible exact Dp.int _
  | exact Dp.int _
  | with_reducible exact Dp.str _
  | exact Dp.bl _
  | exact Dp.non
  | ((with_reducible apply EM.dp_lst); (focus array_get_dec); (focus infer_instance))
  | ((with_reducible apply EM.dp_tup); (focus array_get_dec); (focus infer_instance))
  | exact EM.dp_ints _)
local macro_rules | `(tactic| nofun) => `(tactic| first
  | with_reducible assumption
  | exact EM.FeL.nil
  | exact EM.FdL.nil
  | (apply EM.FeL.cons; (focus nofun); (focus nofun))
  | (apply EM.FdL.cons; (focus nofun); (focus nofun))
  | exact EM.Fe.int _
  | exact EM.Fe.bool _
  | exact EM.Fe.non
  | exact EM.Fe.str (EM.okS_of _)
  | (apply EM.Fe.str; apply EM.Fd.ok; (focus nofun))
  | (apply EM.Fe.list; (focus nofun))
  | (apply EM.Fe.tup; (focus nofun))
  | (apply EM.Fd.int; (focus decreasing_trivial_pre_omega))
  | exact EM.Fd.bool _
  | exact EM.Fd.non
  | (refine EM.Fd.bool _)
  | (apply EM.Fd.list; (focus nofun))
  | (apply EM.Fd.tup; (focus nofun)))
local macro_rules | `(tactic| array_mem_dec) => `(tactic| ((with_reducible refine EM.pr ?_); first
  | (with_reducible refine L2.iteT ?_)
  | (with_reducible refine L2.iteF ?_)
  | (with_reducible refine EM.ifNotT ?_)
  | (with_reducible refine EM.ifNotF ?_)
  | ((fail_if_success (with_reducible refine EM.gIf ?_)); first
  | array_get_dec
  | (refine EM.mk_low (by with_reducible assumption) (by with_reducible assumption) ?_ ?_; (focus array_get_dec))
  | (apply EM.isNum_sw; (focus sizeOf_list_dec))
  | (apply EM.of_sw; (focus (with_reducible assumption)); (focus sizeOf_list_dec))
  | (apply EM.neg_bs; (focus (with_reducible assumption)); (focus sizeOf_list_dec); (focus array_get_dec); (focus array_get_dec))
  | (apply EM.relw_bs; (focus (with_reducible assumption)); (focus sizeOf_list_dec); (focus sizeOf_list_dec); (focus array_get_dec); (focus decreasing_trivial_pre_omega); (focus decreasing_trivial_pre_omega); (focus decreasing_trivial_pre_omega); (focus decreasing_trivial_pre_omega))
  | ((with_reducible refine EM.New.bs (by with_reducible assumption) ?_ ?_); (focus (intro _ z; cases z; done)))
  | ((with_reducible refine EM.gMu ?_); (with_reducible apply EM.mu_bs); (focus (with_reducible assumption)); (focus sizeOf_list_dec); (focus (apply EM.nel2; (focus (with_reducible assumption)); (focus (with_reducible assumption)))); intro _ _ _)
  | intro _
  | (apply And.intro; (focus array_get_dec))
  | apply Exists.intro
  | (refine EM.draw_bs (by with_reducible assumption) ?_ ?_ ?_ ?_; (focus array_get_dec); (focus array_get_dec); (focus (first | decide | omega)))
  | (apply EM.pick_bs; (focus (with_reducible assumption)); (focus array_get_dec); (focus sizeOf_list_dec); (focus (exact Nat.le_of_ble_eq_true rfl)); (focus (exact Nat.le_of_ble_eq_true rfl)))
  | ((apply EM.repr_sw); (focus infer_instance); (focus nofun); (focus decide))
  | ((apply EM.eqd_same); (focus infer_instance); (focus infer_instance); (focus nofun); (focus decide))
  | ((apply EM.ned_same); (focus infer_instance); (focus infer_instance); (focus nofun); (focus decide))
  | ((apply EM.eqd_sw); (focus infer_instance); (focus infer_instance); (focus nofun); (focus nofun); (focus decide))
  | ((apply EM.ned_sw); (focus infer_instance); (focus infer_instance); (focus nofun); (focus nofun); (focus decide))
  | (refine EM.cut_bs (by with_reducible assumption) ?_ ?_ ?_; (focus array_get_dec); (focus array_get_dec)))))
section
variable {P : Program} {w : World} {K : PySem.W.Frag} {mg : Str → Option Value} {base : Heap}
theorem ok_Ratio_le (T : Tx K mg) : FnR P w K mg base (L2.CX P w) 7 (He.ma K (He.ga K "Ratio") "__le__") (spRelW K (relZ .LtE)) := by
  obtain ⟨fd, F⟩ := T.d_Ratio_le
  refine EM.fnr F sc_Ratio_le (fun _ _ _ _ _ _ us hl => match us, hl with | [_, _], _ => rfl) (fun vs H Q E h => ?_) (fun cdv A outer s H vs Q E hr h => ?_)
  · obtain ⟨T0, p, l, n, x, v, t, b, u, c, rfl, _⟩ := h
    rfl
  · obtain ⟨T0, p, l, n, x, v, t, b, u, c, rfl, ⟨B0, rx, lo, ny, bt, bb, bu, bc⟩, k⟩ := h
    refine ⟨_, (PSs.nox (pss_cons (ps_if (pt_not (pt_val (EM.pe_smR (pe_glob (v := .ref (He.ga K "Ratio")) (by rfl) T.g_Ratio rfl) T.cr_Ratio T.sm_Ratio_is_number ((ok_Ratio_is_number T).sw) (hr.mono (by decide)) T.k_Ratio_is_number passL (pa_cons (pv 1) pa_nil))))
  (pss_one (ps_never)) pss_nil)
 (pss_one (ps_ret (pe_cmpR op_le (EM.pe_topN (pe_op (op_subN_ T (hr.mono (by decide))) (pv 0) (pv 1)) T.cl_Ratio T.na_Ratio_top rfl) pe_int (nomark _)))))), ?_⟩
    repeat' array_mem_dec
    refine Rw.bs (x := t * c + -u * b) (y := b * c) B0 fun a H1 x1 B1 r1 => ?_
    repeat' array_mem_dec
    exact k _ x1 B1
theorem ok_Ratio_ge (T : Tx K mg) : FnR P w K mg base (L2.CX P w) 7 (He.ma K (He.ga K "Ratio") "__ge__") (spRelW K (relZ .GtE)) := by
  obtain ⟨fd, F⟩ := T.d_Ratio_ge
  refine EM.fnr F sc_Ratio_ge (fun _ _ _ _ _ _ us hl => match us, hl with | [_, _], _ => rfl) (fun vs H Q E h => ?_) (fun cdv A outer s H vs Q E hr h => ?_)
  · obtain ⟨T0, p, l, n, x, v, t, b, u, c, rfl, _⟩ := h
    rfl
  · obtain ⟨T0, p, l, n, x, v, t, b, u, c, rfl, ⟨B0, rx, lo, ny, bt, bb, bu, bc⟩, k⟩ := h
    refine ⟨_, (PSs.nox (pss_cons (ps_if (pt_not (pt_val (EM.pe_smR (pe_glob (v := .ref (He.ga K "Ratio")) (by rfl) T.g_Ratio rfl) T.cr_Ratio T.sm_Ratio_is_number ((ok_Ratio_is_number T).sw) (hr.mono (by decide)) T.k_Ratio_is_number passL (pa_cons (pv 1) pa_nil))))
  (pss_one (ps_never)) pss_nil)
 (pss_one (ps_ret (pe_cmpR op_ge (EM.pe_topN (pe_op (op_subN_ T (hr.mono (by decide))) (pv 0) (pv 1)) T.cl_Ratio T.na_Ratio_top rfl) pe_int (nomark _)))))), ?_⟩
    repeat' array_mem_dec
    refine Rw.bs (x := t * c + -u * b) (y := b * c) B0 fun a H1 x1 B1 r1 => ?_
    repeat' array_mem_dec
    exact k _ x1 B1
theorem ok_Ratio_eq (T : Tx K mg) : FnR P w K mg base (L2.CX P w) 7 (He.ma K (He.ga K "Ratio") "__eq__") (spEqXW K) := by
  obtain ⟨fd, F⟩ := T.d_Ratio_eq
  refine EM.fnr F sc_Ratio_eq (fun _ _ _ _ _ _ us hl => match us, hl with | [_, _], _ => rfl) (fun vs H Q E h => ?_) (fun cdv A outer s H vs Q E hr h => ?_)
  · rcases h with ⟨T0, p, l, n, x, v, t, b, u, c, rfl, _⟩ | ⟨x, v, rfl, _⟩ <;> rfl
  · rcases h with ⟨T0, p, l, n, x, v, t, b, u, c, rfl, ⟨B0, rx, lo, ny, bt, bb, bu, bc⟩, k⟩ | ⟨x, v, rfl, nn, k⟩
    · skip
      refine ⟨_, (PSs.nox (pss_one (ps_ret (pe_and (EM.pe_smR (pe_glob (v := .ref (He.ga K "Ratio")) (by rfl) T.g_Ratio rfl) T.cr_Ratio T.sm_Ratio_is_number ((ok_Ratio_is_number T).sw) (hr.mono (by decide)) T.k_Ratio_is_number passL (pa_cons (pv 1) pa_nil)) (pe_one (pe_cmpR op_eq (EM.pe_topN (pe_op (op_subN_ T (hr.mono (by decide))) (pv 0) (pv 1)) T.cl_Ratio T.na_Ratio_top rfl) pe_int (nomark _))))))), ?_⟩
      repeat' array_mem_dec
      refine Rw.bs (x := t * c + -u * b) (y := b * c) B0 fun a H1 x1 B1 r1 => ?_
      repeat' array_mem_dec
      exact k _ x1 B1
    · refine ⟨_, (PSs.nox (pss_one (ps_ret (pe_and (EM.pe_smR (pe_glob (v := .ref (He.ga K "Ratio")) (by rfl) T.g_Ratio rfl) T.cr_Ratio T.sm_Ratio_is_number ((ok_Ratio_is_number T).sw) (hr.mono (by decide)) T.k_Ratio_is_number passL (pa_cons (pv 1) pa_nil)) (pe_one (pe_cmpR op_eq (EM.pe_topN (pe_op (op_subN_ T (hr.mono (by decide))) (pv 0) (pv 1)) T.cl_Ratio T.na_Ratio_top rfl) pe_int (nomark _))))))), ?_⟩
      repeat' array_mem_dec
      refine ⟨⟨v, rfl, .inr ⟨nn, ?_⟩⟩⟩
      repeat' array_mem_dec
theorem op_rLtE (T : Tx K mg) {X : Cx} (hr : Room 8 X.A) (e1 : X.K = K := by rfl) (e2 : X.mg = mg := by rfl) : OpR X (compareOp .LtE) (RelW K .LtE) := by
  subst e1 e2
  exact op_relW (.inr (.inl rfl)) T.m_Ratio_le.at_ T.m_Ratio_le.fn T.m_Ratio_ge.at_ T.m_Ratio_ge.fn T.ap_Ratio (ok_Ratio_le T).sw (ok_Ratio_ge T).sw (hr.mono (by decide))
theorem op_tEq (T : Tx K mg) {X : Cx} (hr : Room 8 X.A) (e1 : X.K = K := by rfl) (e2 : X.mg = mg := by rfl) : OpR X (compareOp .Eq) (EqT K) := by
  subst e1 e2
  exact op_eqT T.m_Ratio_eq.at_ T.m_Ratio_eq.fn (ok_Ratio_eq T).sw hr
end
end K12
namespace K12
open PySem PySem.Spec PyProof.Rows L2 EM
section
variable {P : Program} {w : World} {K : PySem.W.Frag} {mg : Str → Option Value} {base : Heap}
theorem mk_NoEdge (T : Tx K mg) : ∃ fd, FnOk P w K mg base (L2.CX P w) 1 (He.ma K (He.ga K "NoEdge") "__init__") fd ["self", "value"] (spX1 (He.ga K "NoEdge") "value") ∧ Binds K fd ["self", "value"] [] := by
  obtain ⟨fd, F⟩ := T.d_NoEdge_init
  refine ⟨fd, FunD.ok (CX := L2.CX P w) F sc_NoEdge_init (fun vs H Q E h => ?_) (fun cdv A outer s H vs Q E hr h => ?_), F.bindsN (fun _ _ _ _ _ _ us hl => match us, hl with | [_, _], _ => rfl)⟩
  · obtain ⟨a, v, rfl, _⟩ := h
    rfl
  · obtain ⟨a, v, rfl, ha, k⟩ := h
    refine ⟨_, (PSs.nox (pss_one (ps_ost (pv 0) (pv 1)))), ?_⟩
    exact ⟨_, rfl, _, rfl, a, He.ga K "NoEdge", rfl, T.ox_NoEdge, T.na_NoEdge_value, .inl ⟨ha, fun dx hdx hda => k dx hdx hda⟩⟩
theorem mk_BadReading (T : Tx K mg) : ∃ fd, FnOk P w K mg base (L2.CX P w) 1 (He.ma K (He.ga K "BadReading") "__init__") fd ["self", "at"] (spX1 (He.ga K "BadReading") "at") ∧ Binds K fd ["self", "at"] [] := by
  obtain ⟨fd, F⟩ := T.d_BadReading_init
  refine ⟨fd, FunD.ok (CX := L2.CX P w) F sc_BadReading_init (fun vs H Q E h => ?_) (fun cdv A outer s H vs Q E hr h => ?_), F.bindsN (fun _ _ _ _ _ _ us hl => match us, hl with | [_, _], _ => rfl)⟩
  · obtain ⟨a, v, rfl, _⟩ := h
    rfl
  · obtain ⟨a, v, rfl, ha, k⟩ := h
    refine ⟨_, (PSs.nox (pss_one (ps_ost (pv 0) (pv 1)))), ?_⟩
    exact ⟨_, rfl, _, rfl, a, He.ga K "BadReading", rfl, T.ox_BadReading, T.na_BadReading_at, .inl ⟨ha, fun dx hdx hda => k dx hdx hda⟩⟩
theorem mk_NotRising (T : Tx K mg) : ∃ fd, FnOk P w K mg base (L2.CX P w) 1 (He.ma K (He.ga K "NotRising") "__init__") fd ["self", "at"] (spX1 (He.ga K "NotRising") "at") ∧ Binds K fd ["self", "at"] [] := by
  obtain ⟨fd, F⟩ := T.d_NotRising_init
  refine ⟨fd, FunD.ok (CX := L2.CX P w) F sc_NotRising_init (fun vs H Q E h => ?_) (fun cdv A outer s H vs Q E hr h => ?_), F.bindsN (fun _ _ _ _ _ _ us hl => match us, hl with | [_, _], _ => rfl)⟩
  · obtain ⟨a, v, rfl, _⟩ := h
    rfl
  · obtain ⟨a, v, rfl, ha, k⟩ := h
    refine ⟨_, (PSs.nox (pss_one (ps_ost (pv 0) (pv 1)))), ?_⟩
    exact ⟨_, rfl, _, rfl, a, He.ga K "NotRising", rfl, T.ox_NotRising, T.na_NotRising_at, .inl ⟨ha, fun dx hdx hda => k dx hdx hda⟩⟩
end
end K12
namespace K12
open PySem PySem.Spec PyProof.Rows L2 EM
theorem oddM_int {K : PySem.W.Frag} {mg : Str → Option Value} (T : Tx K mg) {H : Hp} {p : Addr} {y : V} (h : OddM K p H y) : oddI K H y := by
  rcases h with h | ⟨a, t, b, rfl, ⟨dx, h⟩, n⟩
  · exact h.int
  · exact ⟨_, false, false, isiB_ty T.isi_Ratio T.cl_Ratio h, T.kit_Ratio_int, T.kit_Ratio_bool, rfl⟩
theorem cnt_bs {H : Hp} {Q : VK} {E : XK} {m : Nat} (k : Q (.bl (decide (m % 2 = 0 ∧ 4 ≤ m ∧ m ≤ 128))) H) : Sw spCountR [.int m] H Q E := ⟨⟨m, rfl, k⟩⟩
local macro_rules | `(tactic| sizeOf_list_dec) => `(tactic| first
  | with_reducible assumption
  | ((with_reducible apply EM.At.ext); (focus (with_reducible assumption)); (focus sizeOf_list_dec))
  | ((with_reducible apply EM.RatP.ext); (focus (with_reducible assumption)); (focus sizeOf_list_dec))
  | ((with_reducible apply EM.NumP.ext); (focus (with_reducible assumption)); (focus sizeOf_list_dec))
  | (with_reducible exact EM.Ext.refl)
  | ((with_reducible apply EM.Ext.back); (focus (with_reducible assumption)); (focus sizeOf_list_dec))
  | exact EM.NumP.int _
  | ((with_reducible apply EM.Mu.at_k); (focus (with_reducible assumption)); (focus sizeOf_list_dec); (focus sizeOf_list_dec); (focus (intro _ z; cases z; done)))
  | ((with_reducible apply EM.Mu.at_n); (focus (with_reducible assumption)); (focus sizeOf_list_dec); (focus (first | with_reducible assumption | ((apply EM.nn1); (focus (with_reducible assumption)); (focus sizeOf_list_dec)) | ((apply EM.nn2); (focus (with_reducible assumption)); (focus sizeOf_list_dec)))))
  | ((with_reducible apply EM.Mu.here); (focus (with_reducible assumption)); (focus sizeOf_list_dec))
  | ((with_reducible apply EM.Mu.rat); (focus (with_reducible assumption)); (focus sizeOf_list_dec); (focus sizeOf_list_dec))
  | ((with_reducible apply EM.Mu.num); (focus (with_reducible assumption)); (focus sizeOf_list_dec); (focus sizeOf_list_dec))
  | ((with_reducible apply EM.num_of_rat); (focus sizeOf_list_dec); (focus (first | with_reducible assumption | (apply EM.n_low; assumption))))
  | ((with_reducible apply EM.RatsP.xt); (focus (with_reducible assumption)); (focus sizeOf_list_dec))
  | ((with_reducible apply EM.NumsP.xt); (focus (with_reducible assumption)); (focus sizeOf_list_dec))
  | ((with_reducible apply EM.PairsP.xt); (focus (with_reducible assumption)); (focus sizeOf_list_dec))
  | ((with_reducible apply EM.RdP.xt); (focus (with_reducible assumption)); (focus sizeOf_list_dec))
  | ((with_reducible apply EM.Mu.rats); (focus (with_reducible assumption)); (focus sizeOf_list_dec); (focus sizeOf_list_dec))
  | ((with_reducible apply EM.Mu.pairs); (focus (with_reducible assumption)); (focus sizeOf_list_dec); (focus sizeOf_list_dec))
  | ((with_reducible apply EM.Mu.rdp); (focus (with_reducible assumption)); (focus sizeOf_list_dec); (focus sizeOf_list_dec)))
local macro_rules | `(tactic| decreasing_trivial_pre_omega) => `(tactic| first
  | with_reducible assumption
  | exact EM.Bt.mono (by with_reducible assumption) (by decide)
  | exact EM.Bt.lit _ _ (by decide +kernel)
  | ((with_reducible refine EM.Bt.rng32 ?_ ?_) <;> omega)
  | ((with_reducible refine EM.Bt.rng70 ?_ ?_) <;> omega)
  | ((with_reducible refine EM.Bt.rng200 ?_ ?_) <;> omega)
  | ((with_reducible apply EM.Bt.mulM); (focus decreasing_trivial_pre_omega); (focus decreasing_trivial_pre_omega); (focus (first | decide | exact Nat.le_refl _)))
  | ((with_reducible apply EM.Bt.addM); (focus decreasing_trivial_pre_omega); (focus decreasing_trivial_pre_omega); (focus (first | decide | exact Nat.le_refl _)))
  | ((with_reducible apply EM.Bt.subM); (focus decreasing_trivial_pre_omega); (focus decreasing_trivial_pre_omega); (focus (first | decide | exact Nat.le_refl _)))
  | ((with_reducible apply EM.Bt.topL); (focus decreasing_trivial_pre_omega); (focus assumption); (focus (first | decide | exact Nat.le_refl _)))
  | ((with_reducible apply EM.Bt.botL); (focus decreasing_trivial_pre_omega); (focus assumption); (focus (first | decide | exact Nat.le_refl _)))
  | ((with_reducible apply EM.Bt.divM); (focus decreasing_trivial_pre_omega); (focus assumption); (focus (first | decide | exact Nat.le_refl _)))
  | ((with_reducible apply EM.Bt.negM); (focus decreasing_trivial_pre_omega); (focus (first | decide | exact Nat.le_refl _))))
local macro_rules | `(tactic| array_get_dec) => `(tactic| first
  | with_reducible assumption
  | ((with_reducible refine EM.gEq ?_); exact rfl)
  | ((with_reducible refine EM.gTru ?_); exact rfl)
  | ((with_reducible refine EM.gRef ?_); first | exact Or.inl ⟨_, rfl⟩ | exact Or.inr ⟨_, rfl⟩)
  | ((with_reducible apply EM.At.get); sizeOf_list_dec)
  | ((with_reducible apply EM.At.sqL); sizeOf_list_dec)
  | ((with_reducible apply EM.At.sqT); sizeOf_list_dec)
  | ((with_reducible apply EM.RatP.getK); (focus sizeOf_list_dec); (focus (exact rfl)))
  | (with_reducible exact EM.Num.int _)
  | ((with_reducible apply EM.NumP.getK); (focus sizeOf_list_dec); (focus (exact rfl)))
  | ((with_reducible apply EM.At.ext); (focus (with_reducible assumption)); (focus sizeOf_list_dec))
  | ((with_reducible apply EM.RatP.ext); (focus (with_reducible assumption)); (focus sizeOf_list_dec))
  | ((with_reducible apply EM.NumP.ext); (focus (with_reducible assumption)); (focus sizeOf_list_dec))
  | with_reducible exact Tx.cl_Ratio (by assumption)
  | with_reducible exact Tx.cl_Reading (by assumption)
  | with_reducible exact Tx.na_Ratio_top (by assumption)
  | with_reducible exact Tx.na_Ratio_bottom (by assumption)
  | with_reducible exact Tx.na_Reading_own_edges (by assumption)
  | ((with_reducible refine EM.gAt ?_); sizeOf_list_dec)
  | ((with_reducible refine EM.gRat ?_); sizeOf_list_dec)
  | ((with_reducible refine EM.gNum ?_); sizeOf_list_dec)
  | ((with_reducible apply EM.TwoP.mk); (focus (with_reducible assumption)); (focus sizeOf_list_dec); (focus (first | with_reducible assumption | (apply EM.n_low; assumption))); (focus sizeOf_list_dec); (focus decreasing_trivial_pre_omega); (focus decreasing_trivial_pre_omega); (focus decreasing_trivial_pre_omega); (focus decreasing_trivial_pre_omega))
  | (with_reducible exact EM.Ext.refl)
  | ((with_reducible apply EM.Ext.back); (focus (with_reducible assumption)); (focus sizeOf_list_dec))
  | ((with_reducible apply EM.Bs.mono); (focus (with_reducible assumption)); omega)
  | ((with_reducible refine EM.gN ?_); first | decide | omega | exact Nat.le_of_ble_eq_true rfl | (simp only [List.length_cons, List.length_nil, List.length_append]; omega))
  | ((with_reducible refine EM.gM ?_); first | decide | omega | exact Nat.le_of_ble_eq_true rfl)
  | ((with_reducible refine EM.gI ?_); first | decide | omega)
  | ((with_reducible refine EM.gJ ?_); first | decide | omega)
  | ((with_reducible refine EM.gE ?_); first | decide | omega)
  | ((with_reducible refine EM.gB ?_); decreasing_trivial_pre_omega)
  | ((with_reducible apply EM.wideM); (focus decreasing_trivial_pre_omega); (focus decreasing_trivial_pre_omega); (focus decide)))
local macro_rules | `(tactic| infer_instance) => `(tactic| first
  | with_reducible assumption
  | exact DpAll.nil
  | (apply DpAll.cons; (focus infer_instance); (focus infer_instance))
  | with_reducible exact Dp.int _
  | exact Dp.int _
  | with_reducible exact Dp.str _
  | exact Dp.bl _
  | exact Dp.non
  | ((with_reducible apply EM.dp_lst); (focus array_get_dec); (focus infer_instance))
  | ((with_reducible apply EM.dp_tup); (focus array_get_dec); (focus infer_instance))
  | exact EM.dp_ints _)
local macro_rules | `(tactic| nofun) => `(tactic| first
  | with_reducible assumption
  | exact EM.FeL.nil
  | exact EM.FdL.nil
  | (apply EM.FeL.cons; (focus nofun); (focus nofun))
  | (apply EM.FdL.cons; (focus nofun); (focus nofun))
  | exact EM.Fe.int _
  | exact EM.Fe.bool _
  | exact EM.Fe.non
  | exact EM.Fe.str (EM.okS_of _)
  | (apply EM.Fe.str; apply EM.Fd.ok; (focus nofun))
  | (apply EM.Fe.list; (focus nofun))
  | (apply EM.Fe.tup; (focus nofun))
  | (apply EM.Fd.int; (focus decreasing_trivial_pre_omega))
  | exact EM.Fd.bool _
  | exact EM.Fd.non
  | (refine EM.Fd.bool _)
  | (apply EM.Fd.list; (focus nofun))
  | (apply EM.Fd.tup; (focus nofun)))
local macro_rules | `(tactic| array_mem_dec) => `(tactic| ((with_reducible refine EM.pr ?_); first
  | (with_reducible refine L2.iteT ?_)
  | (with_reducible refine L2.iteF ?_)
  | (with_reducible refine EM.ifNotT ?_)
  | (with_reducible refine EM.ifNotF ?_)
  | ((fail_if_success (with_reducible refine EM.gIf ?_)); first
  | array_get_dec
  | (refine EM.mk_low (by with_reducible assumption) (by with_reducible assumption) ?_ ?_; (focus array_get_dec))
  | (apply EM.isNum_sw; (focus sizeOf_list_dec))
  | (apply EM.of_sw; (focus (with_reducible assumption)); (focus sizeOf_list_dec))
  | (apply EM.neg_bs; (focus (with_reducible assumption)); (focus sizeOf_list_dec); (focus array_get_dec); (focus array_get_dec))
  | (apply EM.relw_bs; (focus (with_reducible assumption)); (focus sizeOf_list_dec); (focus sizeOf_list_dec); (focus array_get_dec); (focus decreasing_trivial_pre_omega); (focus decreasing_trivial_pre_omega); (focus decreasing_trivial_pre_omega); (focus decreasing_trivial_pre_omega))
  | ((apply EM.DnS.bs); (focus (with_reducible assumption)); (focus (intro _ z; cases z; done)))
  | ((apply EM.seqL); (focus sizeOf_list_dec))
  | ((apply EM.seqT); (focus sizeOf_list_dec))
  | ((apply EM.lenL); (focus sizeOf_list_dec))
  | ((apply EM.lenT); (focus sizeOf_list_dec))
  | ((apply EM.isSeqL); (focus sizeOf_list_dec); (focus sizeOf_list_dec))
  | ((apply EM.isSeqT); (focus sizeOf_list_dec); (focus sizeOf_list_dec))
  | ((apply EM.tupL); (focus sizeOf_list_dec))
  | ((apply EM.fld_bs); (focus sizeOf_list_dec); (focus (exact Tx.cl_Reading (by assumption))); (focus (exact Tx.na_Reading_own_edges (by assumption))); (focus (exact rfl)))
  | ((apply EM.enT); (focus sizeOf_list_dec))
  | (apply cnt_bs)
  | ((with_reducible refine EM.New.bs (by with_reducible assumption) ?_ ?_); (focus (intro _ z; cases z; done)))
  | ((with_reducible refine EM.gMu ?_); (with_reducible apply EM.mu_bs); (focus (with_reducible assumption)); (focus sizeOf_list_dec); (focus (apply EM.nel2; (focus (with_reducible assumption)); (focus (with_reducible assumption)))); intro _ _ _)
  | intro _
  | (apply And.intro; (focus array_get_dec))
  | apply Exists.intro
  | (refine EM.draw_bs (by with_reducible assumption) ?_ ?_ ?_ ?_; (focus array_get_dec); (focus array_get_dec); (focus (first | decide | omega)))
  | (apply EM.pick_bs; (focus (with_reducible assumption)); (focus array_get_dec); (focus sizeOf_list_dec); (focus (exact Nat.le_of_ble_eq_true rfl)); (focus (exact Nat.le_of_ble_eq_true rfl)))
  | ((apply EM.repr_sw); (focus infer_instance); (focus nofun); (focus decide))
  | ((apply EM.eqd_same); (focus infer_instance); (focus infer_instance); (focus nofun); (focus decide))
  | ((apply EM.ned_same); (focus infer_instance); (focus infer_instance); (focus nofun); (focus decide))
  | ((apply EM.eqd_sw); (focus infer_instance); (focus infer_instance); (focus nofun); (focus nofun); (focus decide))
  | ((apply EM.ned_sw); (focus infer_instance); (focus infer_instance); (focus nofun); (focus nofun); (focus decide))
  | (refine EM.cut_bs (by with_reducible assumption) ?_ ?_ ?_; (focus array_get_dec); (focus array_get_dec))
  | refine EM.Sw.mk (sp := spCountR) ?_
  | refine EM.Sw.mk (sp := (spEdgesR _)) ?_)))
section
variable {P : Program} {w : World} {K : PySem.W.Frag} {mg : Str → Option Value} {base : Heap}
theorem ok_is_edge_count (T : Tx K mg) : FnR P w K mg base (L2.CX P w) 1 (He.ga K "is_edge_count") (spCountR) := by
  obtain ⟨fd, F⟩ := T.d_is_edge_count
  refine EM.fnr F sc_is_edge_count (fun _ _ _ _ _ _ us hl => match us, hl with | [_], _ => rfl) (fun vs H Q E h => ?_) (fun cdv A outer s H vs Q E hr h => ?_)
  · obtain ⟨m, rfl, _⟩ := h
    rfl
  · obtain ⟨m, rfl, k⟩ := h
    refine ⟨_, (PSs.nox (pss_one (ps_ret (pe_and (pe_cmpR op_eq (pe_op op_mod (pv 0) pe_int) pe_int (nomark _)) (pe_one (pe_chain op_le op_le (EM.pe_gI T.g_LEAST_EDGES) (pv 0) (EM.pe_gI T.g_MOST_EDGES))))))), ?_⟩
    repeat' array_mem_dec
    refine ifEqI (fun z => ?_) (fun z => ?_)
    · repeat' array_mem_dec
      refine ifLe (fun z2 => ?_) (fun z2 => ?_)
      · repeat' array_mem_dec
        show Q (.bl (decide ((m : Int) ≤ 128))) H
        by_cases z3 : (m : Int) ≤ 128
        · rw [decide_eq_true z3]
          rwa [decide_eq_true (show m % 2 = 0 ∧ 4 ≤ m ∧ m ≤ 128 by omega)] at k
        · rw [decide_eq_false z3]
          rwa [decide_eq_false (show ¬ (m % 2 = 0 ∧ 4 ≤ m ∧ m ≤ 128) by omega)] at k
      · repeat' array_mem_dec
        rwa [decide_eq_false (show ¬ (m % 2 = 0 ∧ 4 ≤ m ∧ m ≤ 128) by omega)] at k
    · repeat' array_mem_dec
      rwa [decide_eq_false (show ¬ (m % 2 = 0 ∧ 4 ≤ m ∧ m ≤ 128) by omega)] at k
theorem ok_edges_of_readings (T : Tx K mg) : FnR P w K mg base (L2.CX P w) 9 (He.ga K "edges_of_readings") (spEdgesR K) := by
  obtain ⟨fd, F⟩ := T.d_edges_of_readings
  refine EM.fnr F sc_edges_of_readings (fun _ _ _ _ _ _ us hl => match us, hl with | [_], _ => rfl) (fun vs H Q E h => ?_) (fun cdv A outer s H vs Q E hr h => ?_)
  · obtain ⟨T0, p, l, a, n, xs, es, rfl, _⟩ := h
    rfl
  · obtain ⟨T0, p, l, a, n, xs, es, rfl, B0, aX, hN, ho, hl, k⟩ := h
    refine ⟨_, (PSs.nox (pss_cons (ps_set (i := 1) sc_edges_of_readings.nd rfl (Or.inl rfl) (EM.pe_lstN pa_nil))
 (pss_cons (EM.forN (ps_for PassesOwn.never rfl (EM.pi_enumTN (by rfl) T.f_enumerate (pa_cons (pv 0) pa_nil)).mc (pg_tup (by rfl) (pgs_cons (pg_name (i := 2) sc_edges_of_readings.nd rfl (Or.inl rfl)) (pgs_cons (pg_name (i := 3) sc_edges_of_readings.nd rfl (Or.inl rfl)) pgs_nil)))
  (pss_cons (ps_if (pt_not (pt_val (EM.pe_smR (pe_glob (v := .ref (He.ga K "Ratio")) (by rfl) T.g_Ratio rfl) T.cr_Ratio T.sm_Ratio_is_number ((ok_Ratio_is_number T).sw) (hr.mono (by decide)) T.k_Ratio_is_number passL (pa_cons (pv 3) pa_nil))))
  (pss_one ps_never) pss_nil)
 (pss_cons (ps_expr (EM.pe_appN (pv 1) (EM.pe_smR (pe_glob (v := .ref (He.ga K "Ratio")) (by rfl) T.g_Ratio rfl) T.cr_Ratio T.sm_Ratio_of ((ok_Ratio_of T).sw) (hr.mono (by decide)) T.k_Ratio_of passL (pa_cons (pv 3) pa_nil))))
 (pss_one (ps_if (PW.pt (pw_and (pt_cmpR op_gt (pv 2) pe_int (nomark _)) (pw_and1 (pt_cmpR (op_rLtE T (hr.mono (by decide))) (pe_ix ix_list (pv 1) (pv 2) (fun _ _ => rfl)) (pe_ix ix_list (pv 1) (pe_op op_sub (pv 2) pe_int) (fun _ _ => rfl)) (nomark _)))))
  (pss_one ps_never) pss_nil))))))
 (pss_one (ps_ret (pe_callTy EM.call_tupN (by rfl) T.f_tuple (by decide +kernel) (pa_cons (pv 1) pa_nil))))))), ?_⟩
    repeat' array_mem_dec
    rename_i F H1 x1 B1 aF nF
    refine FoS.it walk_enumT (fun i σ H2 => Hold (∃ ys v2 v3, σ = [some (.ref a), some (.ref F), v2, v3] ∧ At p H2 a (.tup xs) ∧ At p H2 F (.lst ys) ∧ ys.length = i ∧ RatsP K p H2 ys (es.take i) ∧ NumsP K p H2 xs es ∧ XtM p H H2 ∧ Bs T0 p l n H2))
      ⟨⟨[], _, _, rfl, aX.ext x1, aF, rfl, RatsP.nil, hN.ext x1, ⟨x1⟩, B1⟩⟩ (fun _ _ _ _ ⟨⟨_, _, _, _, h, _⟩⟩ => SqT.of h.at_) ?_ ?_
    · rintro i y σ H2 H3 hi ⟨⟨ys, v2, v3, rfl, aX2, aF2, hlen, hR, hN2, ⟨x02⟩, B2⟩⟩ hy
      obtain ⟨W, a', b', rfl, ea, eb, x3, B3, aW⟩ := yp_open B2 hy
      cases ea
      have hie : i < es.length := by rw [← hN.len]; exact hi
      obtain ⟨e, ee⟩ : ∃ e, es[i]? = some e := ⟨_, List.getElem?_eq_getElem hie⟩
      obtain ⟨b2, eb2, nb⟩ := (hN2.ext x3).get ee
      cases (eb.symm.trans eb2)
      clear hy eb eb2
      have aX3 := aX2.ext x3
      have aF3 := aF2.ext x3
      have hR3 := hR.ext x3
      have hN3 := hN2.ext x3
      have x03 := x02.trans x3
      clear aX2 aF2 hR hN2 x02 B2 x3
      repeat' array_mem_dec
      rename_i a4 H4 x4 B4 r4 H5 mu B5
      have aX5 : At p H5 a (.tup xs) := mu.at_k (aX3.ext x4) (aF3.ext x4) (by intro _ z; cases z)
      have aF5 : At p H5 F (.lst (ys ++ [.ref a4])) := mu.here (aF3.ext x4)
      have hR5 : RatsP K p H5 (ys ++ [.ref a4]) (es.take (i + 1)) := by
        rw [take_snocE ee]
        exact mu.rats ((hR3.ext x4).snoc r4) (aF3.ext x4)
      have hN5 : NumsP K p H5 xs es := mu.nums (hN3.ext x4) (aF3.ext x4)
      have x05 : XtM p H H5 := ⟨Ext.mu Ext.refl nF (x03.trans x4) mu⟩
      have fin : ∀ H6, Ext p H5 H6 → Bs T0 p l n H6 → Hold (∃ ys' v2' v3', [some (V.ref a), some (V.ref F), some (.int (i : Int)), some b'] = [some (.ref a), some (.ref F), v2', v3'] ∧ At p H6 a (.tup xs) ∧ At p H6 F (.lst ys') ∧ ys'.length = i + 1 ∧ RatsP K p H6 ys' (es.take (i + 1)) ∧ NumsP K p H6 xs es ∧ XtM p H H6 ∧ Bs T0 p l n H6) := fun H6 x6 B6 => ⟨⟨_, _, _, rfl, aX5.ext x6, aF5.ext x6, by simp [hlen], hR5.ext x6, hN5.ext x6, ⟨x05.x.trans x6⟩, B6⟩⟩
      clear mu r4 x4 B4 aX3 aF3 hR3 hN3 x03
      refine ifLt (a := 0) (b := (i : Int)) (fun c => ?_) (fun c => ?_)
      · obtain ⟨f, ef⟩ : ∃ f, es[i - 1]? = some f := ⟨_, List.getElem?_eq_getElem (by omega)⟩
        have ei : es[i - 1 + 1]? = some e := by rw [show i - 1 + 1 = i by omega]; exact ee
        obtain ⟨c1, ec1, rc1⟩ := hR5.get (i := i) (e := e) (by rw [List.getElem?_take, if_pos (by omega)]; exact ee)
        obtain ⟨c2, ec2, rc2⟩ := hR5.get (i := i - 1) (e := f) (by rw [List.getElem?_take, if_pos (by omega)]; exact ef)
        have m1 := List.mem_of_getElem? ee
        have m2 := List.mem_of_getElem? ef
        have l1 := ho.low e m1
        have l2 := ho.low f m2
        obtain ⟨b1, b2⟩ := ho.bt e m1
        obtain ⟨b3, b4⟩ := ho.bt f m2
        have n1 := rc1.num l1
        have n2 := rc2.num l2
        have ix1 : atI (ys ++ [.ref a4]) (i : Int) = some (.ref c1) := at_of (j := i) rfl ec1
        have ix2 : atI (ys ++ [.ref a4]) ((i : Int) - 1) = some (.ref c2) := at_of (j := i - 1) (by omega) ec2
        repeat' array_mem_dec
        rename_i H6 x6 B6
        exact ifN (ho.not_le ef ei) (fin _ x6 B6)
      · exact fin _ Ext.refl B5
    · rintro σ H2 ⟨⟨ys, v2, v3, rfl, aX2, aF2, hlen, hR, hN2, ⟨x02⟩, B2⟩⟩
      repeat' array_mem_dec
      rename_i q H3 x3 B3 a3 n3
      refine k q ys H3 (x02.trans x3) B3 a3 ?_
      have := hR.ext x3
      rwa [List.take_of_length_le (by rw [← hN.len]; exact Nat.le_refl _)] at this
theorem bod_Reading_init (T : Tx K mg) (f : Addr) : Bod P w K mg base ["self", "edges"] "Reading.__init__" (defScope s_Reading_init) f (defBody s_Reading_init) 9 (spInitR K) := by
  intro cdv A outer s H vs Q E hr h
  obtain ⟨T0, p, l, x, dx, W, n, xs, es, rfl, B0, hx, aW, hN, ho, ⟨l1, l2, l3⟩, k⟩ := h
  have aX : At p H x (.ins (He.ga K "Reading") dx []) := B0.at_ hx (by intro _ z; cases z) (by intro _ z; cases z)
  refine ⟨_, (PSs.nox (pss_cons (ps_if (pt_not (pt_val (EM.pe_cR ((ok_is_edge_count T).sw) (hr.mono (by decide)) T.k_is_edge_count T.g_is_edge_count passL (pa_cons (pe_callB EM.call_lenN (by rfl) T.f_len boot_len (pa_cons (pv 1) pa_nil)) pa_nil))))
  (pss_one ps_never) pss_nil)
 (pss_one (EM.ps_fldN (pv 0) (EM.pe_cR ((ok_edges_of_readings T).sw) (hr.mono (by decide)) T.k_edges_of_readings T.g_edges_of_readings passL (pa_cons (pv 1) pa_nil)) rfl)))), ?_⟩
  repeat' array_mem_dec
  rw [hN.len, decide_eq_true (show es.length % 2 = 0 ∧ 4 ≤ es.length ∧ es.length ≤ 128 from ⟨l1, l2, l3⟩)]
  repeat' array_mem_dec
  rename_i q ys H1 x1 B1 a1 r1
  refine ⟨T.cl_Reading, T.na_Reading_own_edges, by decide, fun H3 m => ?_⟩
  have aX1 := aX.ext x1
  exact k H3 q ((XtR.of x1).trans (XtR.mu m)) (m.bsI B1 aX1) (RdP.put0 m aX1 a1 r1 (fun _ _ z => by cases z))
theorem ok_Reading_init (T : Tx K mg) : FnR P w K mg base (L2.CX P w) 10 (He.ma K (He.ga K "Reading") "__init__") (spInitRS K) := by
  obtain ⟨fd, F⟩ := T.d_Reading_init
  exact EM.fnr_star (ps := ["self"]) (pv := "edges") F sc_Reading_init (fun kV doc pm an cdv ct => StX.bind_star1 (B := fun l => bindArgs _ ⟨l, []⟩) (fun a => by rfl) (fun a r rs => by rfl)) (bod_Reading_init T _)
theorem pe_mkRS {K : PySem.W.Frag} {mg : Str → Option Value} (T : Tx K mg) {X : Cx} {E : XK} (hr : Room 11 X.A) (hx : Passes (L2.CX X.prog X.w) X E) {e : Expr} {te : TE} {p pos sp_ : Pos} (he : PE X e te) (hg : Gl X "Reading" := by rfl) (hst : starEach [.Starred e sp_] X.env = [(true, eval e X.env)] := by rfl) (eK : X.K = K := by rfl) (eM : X.mg = mg := by rfl) :
    PE X (.Call (.Name "Reading" p) [.Starred e sp_] [] pos) (tStarR K E te) := by
  subst eK eM
  exact (EM.pe_mkS1 (E := E) T.mk_Reading (ok_Reading_init T) hr T.g_Reading hx he.mc hg (by decide) hst).of fun σ H Q q => ⟨_, q, fun v H1 ⟨a, xs, e, hs, ⟨h⟩⟩ => ⟨a, xs, e, hs, fun x dx hx hdx ndx => by
    rw [List.append_nil]
    exact mk_ReadX h x dx hx hdx ndx⟩⟩
theorem bod_Reading_of (T : Tx K mg) (f : Addr) : Bod P w K mg base ["cls", "edges"] "Reading.of" (defScope s_Reading_of) f (defBody s_Reading_of) 11 (spOfR K) := by
  intro cdv A outer s H vs Q E hr h
  obtain ⟨T0, p, l, a, n, c, xs, es, rfl, B0, sq, hN, ho, hl, k⟩ := h
  refine ⟨_, (PSs.nox (pss_cons (ps_if (pt_not (pt_val (pe_callB (callR_sw EM.call_isSeq) (by rfl) T.f_isinstance (by decide +kernel) (pa_cons (pv 1) (pa_cons (EM.pe_tupN (pa_cons (pe_bltn (v := .ty "list") (by rfl) T.f_list boot_list rfl) (pa_cons (pe_bltn (v := .ty "tuple") (by rfl) T.f_tuple boot_tuple rfl) pa_nil))) pa_nil)))))
  (pss_one ps_never) pss_nil)
 (pss_one (ps_ret (pe_mkRS T (hr.mono (by decide)) passL (pv 1)))))), ?_⟩
  rcases sq with sq | sq
  · repeat' array_mem_dec
    rename_i tp H1 x1 B1 a1 n1
    refine ⟨.inr (SqL.of (sq.ext x1).at_), ⟨⟨T0, p, l, n, es, B1, hN.ext x1, ho, hl, fun r q H2 x2 B2 rd fr => k r q H2 (x1.trans x2) B2 rd (fr.back x1)⟩⟩⟩
  · repeat' array_mem_dec
    rename_i tp H1 x1 B1 a1 n1
    refine ⟨.inl (SqT.of (sq.ext x1).at_), ⟨⟨T0, p, l, n, es, B1, hN.ext x1, ho, hl, fun r q H2 x2 B2 rd fr => k r q H2 (x1.trans x2) B2 rd (fr.back x1)⟩⟩⟩
theorem len_ofR : ∀ vs H Q E, spOfR K vs H Q E → vs.length = ["cls", "edges"].length := by
  rintro vs H Q E ⟨T0, p, l, a, n, c, xs, es, rfl, _⟩
  rfl
theorem ok_Reading_of (T : Tx K mg) : FnR P w K mg base (L2.CX P w) 12 (He5.wf K (He.ga K "Reading") "classmethod" "of") (spOfR K) := by
  obtain ⟨fd, F⟩ := T.d_Reading_of
  exact EM.fnr F sc_Reading_of (fun _ _ _ _ _ _ us hl => match us, hl with | [_, _], _ => rfl) len_ofR (bod_Reading_of T _)
theorem mk_redges (T : Tx K mg) : ∃ fd, FnOk P w K mg base (L2.CX P w) 1 (EM.pf K (He.ga K "Reading") "edges") fd ["self"] (spRdEdges K) ∧ Binds K fd ["self"] [] := by
  obtain ⟨fd, F⟩ := T.d_Reading_edges
  refine ⟨fd, FunD.ok (CX := L2.CX P w) F sc_Reading_edges (fun vs H Q E h => ?_) (fun cdv A outer s H vs Q E hr h => ?_), F.bindsN (fun _ _ _ _ _ _ us hl => match us, hl with | [_], _ => rfl)⟩
  · obtain ⟨p, r, q, es, rfl, _⟩ := h
    rfl
  · obtain ⟨p, r, q, es, rfl, ⟨dx, xs, h1, h2, h3⟩, k⟩ := h
    refine ⟨_, (PSs.nox (pss_one (ps_ret (pe_fld (pv 0) rfl)))), ?_⟩
    exact ⟨_, rfl, r, _, dx, _, _, rfl, h1.at_, T.cl_Reading, T.na_Reading_own_edges, rfl, k⟩
theorem pe_redges {K : PySem.W.Frag} {mg : Str → Option Value} (T : Tx K mg) {X : Cx} {e : Expr} {te : TE} {pos : Pos} (hr : Room 2 X.A) (he : PE X e te) (hab : attributeBase e "edges" X.env (eval e X.env) = eval e X.env := by rfl) (eK : X.K = K := by rfl) (eM : X.mg = mg := by rfl) : PE X (.Attribute e "edges" pos) (tRdg K te) := by
  subst eK eM
  obtain ⟨fd, F, b⟩ := mk_redges (P := X.prog) (w := X.w) (base := X.base) T
  exact (pe_prop (E := E0) he.mc T.cl_Reading T.p_Reading_edges F hr b .nil passL hab).of fun σ H Q q => ⟨_, q, fun x H1 ⟨⟨p, r, q, es, e, m, k⟩⟩ => by
    subst e
    obtain ⟨dx, xs, h1, h2, h3⟩ := id m
    exact ⟨r, dx, _, rfl, h1.at_, p, r, q, es, rfl, m, k⟩⟩
end
end K12
namespace K12
open PySem PySem.Spec PyProof.Rows L2 EM
/-- the text of a fraction -/
def rtx (e : Int × Int) : Str := if e.2 = 1 then tx e.1 else tx e.1 ++ ("/" ++ tx e.2)
end K12
namespace K12
open PySem PySem.Spec PyProof.Rows L2 EM
theorem rt_eq (t b : Int) : rText t b = rtx (t, b) := by
  unfold rText rtx
  split
  · rfl
  · rw [Str.append_assoc]
/-- the fraction that a word tells -/
def valR (a : Str) : Option (Int × Int) := if okR a then some (topR a, botR a) else none
theorem Sm.bt {i : Int} (h : Sm i) : Bt 200 i := Nat.lt_of_lt_of_le h (by decide +kernel)
theorem okR_low {a : Str} (h : okR a) : Low (topR a) (botR a) := by
  have hg : ∀ t b : Str, Int.gcd (worthT t) (worthT b) = 1 → ∀ z : Bool, Int.gcd (if z = true then -(worthT t) else worthT t) (worthT b) = 1 := by
    intro t b e z
    split
    · rw [Int.neg_gcd]; exact e
    · exact e
  unfold okR at h
  unfold topR botR
  obtain ⟨h1, h2, h3, h4, h5, h6⟩ := h
  refine ⟨?_, hg _ _ h6 _⟩
  obtain ⟨b1, b2, b3, b4⟩ := figs_ok h2
  rcases b4 with h | h
  · exact absurd h h3
  · have := worth_pos b1 h b3
    omega
theorem valR_some {a : Str} {e : Int × Int} (h : valR a = some e) : okR a ∧ e = (topR a, botR a) ∧ Low e.1 e.2 ∧ Bt 200 e.1 ∧ Bt 200 e.2 ∧ rtx e = a := by
  unfold valR at h
  split at h
  · rename_i c
    cases h
    have s := ok_sm c
    exact ⟨c, rfl, okR_low c, s.1.bt, s.2.bt, by rw [← rt_eq]; exact text_back c⟩
  · cases h
def spNT (K : PySem.W.Frag) : Sp := fun vs H Q _ => ∃ (T : List (Addr × Str)) (p l : Addr) (n : Nat) (a : Str), vs = [.str a] ∧ Bs T p l n H ∧ a.length ≤ 40000 ∧
  (valR a = none → ∀ H', Ext p H H' → Bs T p l n H' → Q .non H') ∧ (∀ e, valR a = some e → ∀ c H', Ext p H H' → Bs T p l n H' → RatP K p H' c e.1 e.2 → Q (.ref c) H')
theorem nt_bs {K : PySem.W.Frag} {T : List (Addr × Str)} {p l : Addr} {n : Nat} {a : Str} {H : Hp} {Q : VK} {E : XK} (B : Bs T p l n H) (hl : a.length ≤ 40000) (k0 : valR a = none → ∀ H', Ext p H H' → Bs T p l n H' → Q .non H') (k : ∀ e, valR a = some e → ∀ c H', Ext p H H' → Bs T p l n H' → RatP K p H' c e.1 e.2 → Q (.ref c) H') : Sw (spNT K) [.str a] H Q E := ⟨⟨T, p, l, n, a, rfl, B, hl, k0, k⟩⟩
local macro_rules | `(tactic| sizeOf_list_dec) => `(tactic| first
  | with_reducible assumption
  | ((with_reducible apply EM.At.ext); (focus (with_reducible assumption)); (focus sizeOf_list_dec))
  | ((with_reducible apply EM.RatP.ext); (focus (with_reducible assumption)); (focus sizeOf_list_dec))
  | ((with_reducible apply EM.NumP.ext); (focus (with_reducible assumption)); (focus sizeOf_list_dec))
  | (with_reducible exact EM.Ext.refl)
  | ((with_reducible apply EM.Ext.back); (focus (with_reducible assumption)); (focus sizeOf_list_dec))
  | exact EM.NumP.int _
  | ((with_reducible apply EM.Mu.at_k); (focus (with_reducible assumption)); (focus sizeOf_list_dec); (focus sizeOf_list_dec); (focus (intro _ z; cases z; done)))
  | ((with_reducible apply EM.Mu.at_n); (focus (with_reducible assumption)); (focus sizeOf_list_dec); (focus (first | with_reducible assumption | ((apply EM.nn1); (focus (with_reducible assumption)); (focus sizeOf_list_dec)) | ((apply EM.nn2); (focus (with_reducible assumption)); (focus sizeOf_list_dec)))))
  | ((with_reducible apply EM.Mu.here); (focus (with_reducible assumption)); (focus sizeOf_list_dec))
  | ((with_reducible apply EM.Mu.rat); (focus (with_reducible assumption)); (focus sizeOf_list_dec); (focus sizeOf_list_dec))
  | ((with_reducible apply EM.Mu.num); (focus (with_reducible assumption)); (focus sizeOf_list_dec); (focus sizeOf_list_dec))
  | ((with_reducible apply EM.num_of_rat); (focus sizeOf_list_dec); (focus (first | with_reducible assumption | (apply EM.n_low; assumption))))
  | ((with_reducible apply EM.RatsP.xt); (focus (with_reducible assumption)); (focus sizeOf_list_dec))
  | ((with_reducible apply EM.NumsP.xt); (focus (with_reducible assumption)); (focus sizeOf_list_dec))
  | ((with_reducible apply EM.PairsP.xt); (focus (with_reducible assumption)); (focus sizeOf_list_dec))
  | ((with_reducible apply EM.RdP.xt); (focus (with_reducible assumption)); (focus sizeOf_list_dec))
  | ((with_reducible apply EM.Mu.rats); (focus (with_reducible assumption)); (focus sizeOf_list_dec); (focus sizeOf_list_dec))
  | ((with_reducible apply EM.Mu.pairs); (focus (with_reducible assumption)); (focus sizeOf_list_dec); (focus sizeOf_list_dec))
  | ((with_reducible apply EM.Mu.rdp); (focus (with_reducible assumption)); (focus sizeOf_list_dec); (focus sizeOf_list_dec)))
local macro_rules | `(tactic| decreasing_trivial_pre_omega) => `(tactic| first
  | with_reducible assumption
  | exact EM.Bt.mono (by with_reducible assumption) (by decide)
  | exact EM.Bt.lit _ _ (by decide +kernel)
  | ((with_reducible refine EM.Bt.rng32 ?_ ?_) <;> omega)
  | ((with_reducible refine EM.Bt.rng70 ?_ ?_) <;> omega)
  | ((with_reducible refine EM.Bt.rng200 ?_ ?_) <;> omega)
  | ((with_reducible apply EM.Bt.mulM); (focus decreasing_trivial_pre_omega); (focus decreasing_trivial_pre_omega); (focus (first | decide | exact Nat.le_refl _)))
  | ((with_reducible apply EM.Bt.addM); (focus decreasing_trivial_pre_omega); (focus decreasing_trivial_pre_omega); (focus (first | decide | exact Nat.le_refl _)))
  | ((with_reducible apply EM.Bt.subM); (focus decreasing_trivial_pre_omega); (focus decreasing_trivial_pre_omega); (focus (first | decide | exact Nat.le_refl _)))
  | ((with_reducible apply EM.Bt.topL); (focus decreasing_trivial_pre_omega); (focus assumption); (focus (first | decide | exact Nat.le_refl _)))
  | ((with_reducible apply EM.Bt.botL); (focus decreasing_trivial_pre_omega); (focus assumption); (focus (first | decide | exact Nat.le_refl _)))
  | ((with_reducible apply EM.Bt.divM); (focus decreasing_trivial_pre_omega); (focus assumption); (focus (first | decide | exact Nat.le_refl _)))
  | ((with_reducible apply EM.Bt.negM); (focus decreasing_trivial_pre_omega); (focus (first | decide | exact Nat.le_refl _))))
local macro_rules | `(tactic| array_get_dec) => `(tactic| first
  | with_reducible assumption
  | ((with_reducible refine EM.gEq ?_); exact rfl)
  | ((with_reducible refine EM.gTru ?_); exact rfl)
  | ((with_reducible refine EM.gRef ?_); first | exact Or.inl ⟨_, rfl⟩ | exact Or.inr ⟨_, rfl⟩)
  | ((with_reducible apply EM.At.get); sizeOf_list_dec)
  | ((with_reducible apply EM.At.sqL); sizeOf_list_dec)
  | ((with_reducible apply EM.At.sqT); sizeOf_list_dec)
  | ((with_reducible apply EM.RatP.getK); (focus sizeOf_list_dec); (focus (exact rfl)))
  | (with_reducible exact EM.Num.int _)
  | ((with_reducible apply EM.NumP.getK); (focus sizeOf_list_dec); (focus (exact rfl)))
  | ((with_reducible apply EM.At.ext); (focus (with_reducible assumption)); (focus sizeOf_list_dec))
  | ((with_reducible apply EM.RatP.ext); (focus (with_reducible assumption)); (focus sizeOf_list_dec))
  | ((with_reducible apply EM.NumP.ext); (focus (with_reducible assumption)); (focus sizeOf_list_dec))
  | with_reducible exact Tx.cl_Ratio (by assumption)
  | with_reducible exact Tx.cl_Reading (by assumption)
  | with_reducible exact Tx.na_Ratio_top (by assumption)
  | with_reducible exact Tx.na_Ratio_bottom (by assumption)
  | with_reducible exact Tx.na_Reading_own_edges (by assumption)
  | ((with_reducible refine EM.gAt ?_); sizeOf_list_dec)
  | ((with_reducible refine EM.gRat ?_); sizeOf_list_dec)
  | ((with_reducible refine EM.gNum ?_); sizeOf_list_dec)
  | ((with_reducible apply EM.TwoP.mk); (focus (with_reducible assumption)); (focus sizeOf_list_dec); (focus (first | with_reducible assumption | (apply EM.n_low; assumption))); (focus sizeOf_list_dec); (focus decreasing_trivial_pre_omega); (focus decreasing_trivial_pre_omega); (focus decreasing_trivial_pre_omega); (focus decreasing_trivial_pre_omega))
  | (with_reducible exact EM.Ext.refl)
  | ((with_reducible apply EM.Ext.back); (focus (with_reducible assumption)); (focus sizeOf_list_dec))
  | ((with_reducible apply EM.Bs.mono); (focus (with_reducible assumption)); omega)
  | ((with_reducible refine EM.gN ?_); first | decide | omega | exact Nat.le_of_ble_eq_true rfl | (simp only [List.length_cons, List.length_nil, List.length_append]; omega))
  | ((with_reducible refine EM.gM ?_); first | decide | omega | exact Nat.le_of_ble_eq_true rfl)
  | ((with_reducible refine EM.gI ?_); first | decide | omega)
  | ((with_reducible refine EM.gJ ?_); first | decide | omega)
  | ((with_reducible refine EM.gE ?_); first | decide | omega)
  | ((with_reducible refine EM.gB ?_); decreasing_trivial_pre_omega)
  | ((with_reducible apply EM.wideM); (focus decreasing_trivial_pre_omega); (focus decreasing_trivial_pre_omega); (focus decide)))
local macro_rules | `(tactic| infer_instance) => `(tactic| first
  | with_reducible assumption
  | exact DpAll.nil
  | (apply DpAll.cons; (focus infer_instance); (focus infer_instance))
  | with_reducible exact Dp.int _
  | exact Dp.int _
  | with_reducible exact Dp.str _
  | exact Dp.bl _
  | exact Dp.non
  | ((with_reducible apply EM.dp_lst); (focus array_get_dec); (focus infer_instance))
  | ((with_reducible apply EM.dp_tup); (focus array_get_dec); (focus infer_instance))
  | exact EM.dp_ints _)
local macro_rules | `(tactic| nofun) => `(tactic| first
  | with_reducible assumption
  | exact EM.FeL.nil
  | exact EM.FdL.nil
  | (apply EM.FeL.cons; (focus nofun); (focus nofun))
  | (apply EM.FdL.cons; (focus nofun); (focus nofun))
  | exact EM.Fe.int _
  | exact EM.Fe.bool _
  | exact EM.Fe.non
  | exact EM.Fe.str (EM.okS_of _)
  | (apply EM.Fe.str; apply EM.Fd.ok; (focus nofun))
  | (apply EM.Fe.list; (focus nofun))
  | (apply EM.Fe.tup; (focus nofun))
  | (apply EM.Fd.int; (focus decreasing_trivial_pre_omega))
  | exact EM.Fd.bool _
  | exact EM.Fd.non
  | (refine EM.Fd.bool _)
  | (apply EM.Fd.list; (focus nofun))
  | (apply EM.Fd.tup; (focus nofun)))
local macro_rules | `(tactic| array_mem_dec) => `(tactic| ((with_reducible refine EM.pr ?_); first
  | (with_reducible refine L2.iteT ?_)
  | (with_reducible refine L2.iteF ?_)
  | (with_reducible refine EM.ifNotT ?_)
  | (with_reducible refine EM.ifNotF ?_)
  | ((fail_if_success (with_reducible refine EM.gIf ?_)); first
  | array_get_dec
  | ((with_reducible refine EM.New.bs (by with_reducible assumption) ?_ ?_); (focus (intro _ z; cases z; done)))
  | ((with_reducible refine EM.gMu ?_); (with_reducible apply EM.mu_bs); (focus (with_reducible assumption)); (focus sizeOf_list_dec); (focus (apply EM.nel2; (focus (with_reducible assumption)); (focus (with_reducible assumption)))); intro _ _ _)
  | intro _
  | (apply And.intro; (focus array_get_dec))
  | apply Exists.intro
  | (refine EM.draw_bs (by with_reducible assumption) ?_ ?_ ?_ ?_; (focus array_get_dec); (focus array_get_dec); (focus (first | decide | omega)))
  | (apply EM.pick_bs; (focus (with_reducible assumption)); (focus array_get_dec); (focus sizeOf_list_dec); (focus (exact Nat.le_of_ble_eq_true rfl)); (focus (exact Nat.le_of_ble_eq_true rfl)))
  | ((apply EM.repr_sw); (focus infer_instance); (focus nofun); (focus decide))
  | ((apply EM.eqd_same); (focus infer_instance); (focus infer_instance); (focus nofun); (focus decide))
  | ((apply EM.ned_same); (focus infer_instance); (focus infer_instance); (focus nofun); (focus decide))
  | ((apply EM.eqd_sw); (focus infer_instance); (focus infer_instance); (focus nofun); (focus nofun); (focus decide))
  | ((apply EM.ned_sw); (focus infer_instance); (focus infer_instance); (focus nofun); (focus nofun); (focus decide))
  | (refine EM.cut_bs (by with_reducible assumption) ?_ ?_ ?_; (focus array_get_dec); (focus array_get_dec)))))
section
variable {P : Program} {w : World} {K : PySem.W.Frag} {mg : Str → Option Value} {base : Heap}
theorem ok_number_told (T : Tx K mg) : FnR P w K mg base (L2.CX P w) 7 (He.ga K "number_told") (spNT K) := by
  obtain ⟨fd, F⟩ := T.d_number_told
  refine EM.fnr F sc_number_told (fun _ _ _ _ _ _ us hl => match us, hl with | [_], _ => rfl) (fun vs H Q E h => ?_) (fun cdv A outer s H vs Q E hr h => ?_)
  · obtain ⟨T0, p, l, n, a, rfl, _⟩ := h
    rfl
  · obtain ⟨T0, p, l, n, a, rfl, B0, hl, k0, k⟩ := h
    apply EM.mk2
    · apply pss_cons (ps_set (i := 1) sc_number_told.nd rfl (Or.inl rfl) pe_non)
      apply pss_cons
      · apply EM.ps_try (X := cxOf (L2.CX P w) P w K mg base ["word", "found"] "number_told" (defScope s_number_told) (He.ga K "number_told") cdv A outer s H E) (tb := fun W => tAsg (ClX.tCMeth (He.ga K "Ratio") (Sw (spRd K)) (wide 2 W) (tC (.ref (He.ga K "Ratio"))) (tCons (tVar 0) tNil)) (gName 1)) rfl rfl sc_number_told.nd takes0
        · intro W pn xe tkW pw
          exact pss_one (ps_set (i := 1) sc_number_told.nd rfl (Or.inl rfl) (ClX.pe_cmeth (pe_glob (v := .ref (He.ga K "Ratio")) (by rfl) T.g_Ratio rfl) T.cr_Ratio T.cm_Ratio_read (ok_Ratio_read T).sw (hr.mono (by decide)) (passes_len tkW) (pa_cons (pv 0) pa_nil)))
        · exact (.cons (c := .ref (He.ga K "BadText")) ⟨by rfl, by decide, .inl T.g_BadText⟩ (fun a oe cls d pn hz hf => (pss_one (ps_set (i := 1) sc_number_told.nd rfl (Or.inl rfl) pe_non))) .nil)
      · exact (pss_one (ps_ret (pv 1)))
    · repeat' array_mem_dec
      --N1
      refine ⟨⟨.str a, rfl, .inl ⟨a, rfl, hl, fun no d H' s' nd hd => ?_, fun yes c H' s' rc => ?_⟩⟩⟩
      · intro σ' hσ
        match σ', hσ with
        | [v0, v1], _ =>
        refine ⟨true, T.xm_BadText_BadText, fun _ z hz => ?_, fun z => nomatch z⟩
        have k1 := k0 (if_neg no) H' (Ext.same s') (B0.same s')
        repeat' array_mem_dec
        --N2
      · repeat' array_mem_dec
        --N3
        exact k _ (if_pos yes) c H' (Ext.same s') (B0.same s') (RatP.of (B0.same s') rc)
end
end K12
namespace K12
open PySem PySem.Spec PyProof.Rows L2 EM
/-- an edge that cannot stand behind others -/
def badAt (es : List (Int × Int)) (e : Int × Int) : Bool := decide (es.length = 128) || (match es[es.length - 1]? with
  | none => false
  | some f => decide (e.1 * f.2 ≤ f.1 * e.2))
/-- words read as edges behind some edges -/
def scanT : List (Int × Int) → List Str → Nat ⊕ List (Int × Int)
  | es, [] => .inr es
  | es, w :: r => match valR w with
    | none => .inl es.length
    | some e => if badAt es e = true then .inl es.length else scanT (es ++ [e]) r
/-- what a text tells -/
def outT (a : Str) : Nat ⊕ List (Int × Int) := match scanT [] (Txt.split a " ") with
  | .inl i => .inl i
  | .inr es => if es.length % 2 = 0 ∧ 4 ≤ es.length ∧ es.length ≤ 128 then .inr es else .inl es.length
theorem scan_no {es : List (Int × Int)} {w : Str} {r : List Str} (h : valR w = none) : scanT es (w :: r) = .inl es.length := by
  show (match valR w with | none => _ | some e => _) = _
  rw [h]
theorem scan_bad {es : List (Int × Int)} {e : Int × Int} {w : Str} {r : List Str} (h : valR w = some e) (b : badAt es e = true) : scanT es (w :: r) = .inl es.length := by
  show (match valR w with | none => _ | some e => _) = _
  rw [h]
  exact if_pos b
theorem scan_go {es : List (Int × Int)} {e : Int × Int} {w : Str} {r : List Str} (h : valR w = some e) (b : badAt es e = false) : scanT es (w :: r) = scanT (es ++ [e]) r := by
  show (match valR w with | none => _ | some e => _) = _
  rw [h]
  exact if_neg (by rw [b]; decide)
theorem rowOk_nil {n : Nat} : RowOk n [] := ⟨fun e h => (List.not_mem_nil h).elim, fun e h => (List.not_mem_nil h).elim, fun i e f h _ => by cases h⟩
theorem rowOk_add {n : Nat} {es : List (Int × Int)} {e : Int × Int} (h : RowOk n es) (lo : Low e.1 e.2) (b1 : Bt n e.1) (b2 : Bt n e.2) (b : badAt es e = false) : RowOk n (es ++ [e]) := by
  refine ⟨fun x hx => ?_, fun x hx => ?_, fun i x y hx hy => ?_⟩
  · rcases List.mem_append.mp hx with h1 | h1
    · exact h.low x h1
    · rw [List.mem_singleton.mp h1]; exact lo
  · rcases List.mem_append.mp hx with h1 | h1
    · exact h.bt x h1
    · rw [List.mem_singleton.mp h1]; exact ⟨b1, b2⟩
  · have l2 := (List.getElem?_eq_some_iff.mp hy).1
    rw [List.length_append] at l2
    simp only [List.length_cons, List.length_nil] at l2
    rcases Nat.lt_or_ge (i + 1) es.length with c | c
    · rw [List.getElem?_append_left (by omega)] at hx
      rw [List.getElem?_append_left c] at hy
      exact h.rise i x y hx hy
    · have ei : i + 1 = es.length := by omega
      rw [ei, List.getElem?_append_right (Nat.le_refl _), Nat.sub_self] at hy
      cases hy
      rw [List.getElem?_append_left (by omega), show i = es.length - 1 by omega] at hx
      unfold badAt at b
      rw [hx] at b
      have := (Bool.or_eq_false_iff.mp b).2
      have := of_decide_eq_false this
      omega
theorem badAt_mid {es : List (Int × Int)} {e f : Int × Int} (h1 : es.length ≠ 128) (h2 : es[es.length - 1]? = some f) : badAt es e = decide (e.1 * f.2 ≤ f.1 * e.2) := by
  unfold badAt
  rw [decide_eq_false h1, h2, Bool.false_or]
theorem badAt_one {e : Int × Int} : badAt [] e = false := rfl
/-- a text is refused with the number i -/
def ErrT (K : PySem.W.Frag) (T : List (Addr × Str)) (p l : Addr) (n : Nat) (H : Hp) (E : XK) (i : Int) : Prop := ∀ d H', Ext p H H' → Bs T p l n H' → At p H' d (.xd [("word", .int i), ("line", .int 0)]) → E (.ref (He.ga K "BadText")) (some d) H'
theorem ErrT.at {K : PySem.W.Frag} {T : List (Addr × Str)} {p l : Addr} {n : Nat} {H H1 H2 : Hp} {E : XK} {i : Int} {d : Addr} (h : ErrT K T p l n H E i) (x : Ext p H H1) (B : Bs T p l n H1) (s : Same H1 H2) (hd : H2 d = some (.xd [("word", .int i), ("line", .int 0)])) : E (.ref (He.ga K "BadText")) (some d) H2 :=
  h d H2 (x.trans (Ext.same s)) (B.same s) ((B.same s).at_ hd (fun _ z => by cases z) (fun _ z => by cases z))
def NotS (K : PySem.W.Frag) (H : Hp) (v : V) : Prop := ∃ t, TyX K H v t ∧ PySem.W.kitOne K t (.type "str") = some false
def spReadT (K : PySem.W.Frag) : Sp := fun vs H Q E => ∃ (T : List (Addr × Str)) (p l : Addr) (n : Nat) (v : V), vs = [.ref (He.ga K "Reading"), v] ∧ Bs T p l n H ∧
  ((∃ a, v = .str a ∧ a.length ≤ 40000 ∧ (∀ i, outT a = .inl i → ErrT K T p l n H E i) ∧ (∀ es, outT a = .inr es → RowOk 2000 es → ∀ r q H', Ext p H H' → Bs T p l n H' → RdP K p H' r q es → Fresh p H r → Q (.ref r) H')) ∨ (NotS K H v ∧ ErrT K T p l n H E 0))
theorem pe_clsRS {K : PySem.W.Frag} {mg : Str → Option Value} (T : Tx K mg) {X : Cx} {E : XK} (hr : Room 11 X.A) (hx : Passes (L2.CX X.prog X.w) X E) {x : Str} {e : Expr} {te tf : TE} {p pos sp_ : Pos} (hf : PE X (.Name x p) tf) (he : PE X e te) (hst : starEach [.Starred e sp_] X.env = [(true, eval e X.env)] := by rfl) (eK : X.K = K := by rfl) (eM : X.mg = mg := by rfl) :
    PE X (.Call (.Name x p) [.Starred e sp_] [] pos) (fun σ H Q => tf σ H fun v H1 => v = .ref (He.ga K "Reading") ∧ tStarR K E te σ H1 Q) := by
  subst eK eM
  exact (EM.pe_mkVS (E := E) T.mk_Reading (ok_Reading_init T) hr hx hf.mc he.mc hst).of fun σ H Q q => ⟨_, q, fun v H1 ⟨e1, q1⟩ => ⟨e1, _, q1, fun v H1 ⟨a, xs, e, hs, ⟨h⟩⟩ => ⟨a, xs, e, hs, fun x dx hx hdx ndx => by
    rw [List.append_nil]
    exact mk_ReadX h x dx hx hdx ndx⟩⟩⟩
local macro_rules | `(tactic| sizeOf_list_dec) => `(tactic| first
  | with_reducible assumption
  | ((with_reducible apply EM.At.ext); (focus (with_reducible assumption)); (focus sizeOf_list_dec))
  | ((with_reducible apply EM.RatP.ext); (focus (with_reducible assumption)); (focus sizeOf_list_dec))
  | ((with_reducible apply EM.NumP.ext); (focus (with_reducible assumption)); (focus sizeOf_list_dec))
  | (with_reducible exact EM.Ext.refl)
  | ((with_reducible apply EM.Ext.back); (focus (with_reducible assumption)); (focus sizeOf_list_dec))
  | exact EM.NumP.int _
  | ((with_reducible apply EM.Mu.at_k); (focus (with_reducible assumption)); (focus sizeOf_list_dec); (focus sizeOf_list_dec); (focus (intro _ z; cases z; done)))
  | ((with_reducible apply EM.Mu.at_n); (focus (with_reducible assumption)); (focus sizeOf_list_dec); (focus (first | with_reducible assumption | ((apply EM.nn1); (focus (with_reducible assumption)); (focus sizeOf_list_dec)) | ((apply EM.nn2); (focus (with_reducible assumption)); (focus sizeOf_list_dec)))))
  | ((with_reducible apply EM.Mu.here); (focus (with_reducible assumption)); (focus sizeOf_list_dec))
  | ((with_reducible apply EM.Mu.rat); (focus (with_reducible assumption)); (focus sizeOf_list_dec); (focus sizeOf_list_dec))
  | ((with_reducible apply EM.Mu.num); (focus (with_reducible assumption)); (focus sizeOf_list_dec); (focus sizeOf_list_dec))
  | ((with_reducible apply EM.num_of_rat); (focus sizeOf_list_dec); (focus (first | with_reducible assumption | (apply EM.n_low; assumption))))
  | ((with_reducible apply EM.RatsP.xt); (focus (with_reducible assumption)); (focus sizeOf_list_dec))
  | ((with_reducible apply EM.NumsP.xt); (focus (with_reducible assumption)); (focus sizeOf_list_dec))
  | ((with_reducible apply EM.PairsP.xt); (focus (with_reducible assumption)); (focus sizeOf_list_dec))
  | ((with_reducible apply EM.RdP.xt); (focus (with_reducible assumption)); (focus sizeOf_list_dec))
  | ((with_reducible apply EM.Mu.rats); (focus (with_reducible assumption)); (focus sizeOf_list_dec); (focus sizeOf_list_dec))
  | ((with_reducible apply EM.Mu.pairs); (focus (with_reducible assumption)); (focus sizeOf_list_dec); (focus sizeOf_list_dec))
  | ((with_reducible apply EM.Mu.rdp); (focus (with_reducible assumption)); (focus sizeOf_list_dec); (focus sizeOf_list_dec)))
local macro_rules | `(tactic| decreasing_trivial_pre_omega) => `(tactic| first
  | with_reducible assumption
  | exact EM.Bt.mono (by with_reducible assumption) (by decide)
  | exact EM.Bt.lit _ _ (by decide +kernel)
  | ((with_reducible refine EM.Bt.rng32 ?_ ?_) <;> omega)
  | ((with_reducible refine EM.Bt.rng70 ?_ ?_) <;> omega)
  | ((with_reducible refine EM.Bt.rng200 ?_ ?_) <;> omega)
  | ((with_reducible apply EM.Bt.mulM); (focus decreasing_trivial_pre_omega); (focus decreasing_trivial_pre_omega); (focus (first | decide | exact Nat.le_refl _)))
  | ((with_reducible apply EM.Bt.addM); (focus decreasing_trivial_pre_omega); (focus decreasing_trivial_pre_omega); (focus (first | decide | exact Nat.le_refl _)))
  | ((with_reducible apply EM.Bt.subM); (focus decreasing_trivial_pre_omega); (focus decreasing_trivial_pre_omega); (focus (first | decide | exact Nat.le_refl _)))
  | ((with_reducible apply EM.Bt.topL); (focus decreasing_trivial_pre_omega); (focus assumption); (focus (first | decide | exact Nat.le_refl _)))
  | ((with_reducible apply EM.Bt.botL); (focus decreasing_trivial_pre_omega); (focus assumption); (focus (first | decide | exact Nat.le_refl _)))
  | ((with_reducible apply EM.Bt.divM); (focus decreasing_trivial_pre_omega); (focus assumption); (focus (first | decide | exact Nat.le_refl _)))
  | ((with_reducible apply EM.Bt.negM); (focus decreasing_trivial_pre_omega); (focus (first | decide | exact Nat.le_refl _))))
local macro_rules | `(tactic| array_get_dec) => `(tactic| first
  | with_reducible assumption
  | ((with_reducible refine EM.gEq ?_); exact rfl)
  | ((with_reducible refine EM.gTru ?_); exact rfl)
  | ((with_reducible refine EM.gRef ?_); first | exact Or.inl ⟨_, rfl⟩ | exact Or.inr ⟨_, rfl⟩)
  | ((with_reducible apply EM.At.get); sizeOf_list_dec)
  | ((with_reducible apply EM.At.sqL); sizeOf_list_dec)
  | ((with_reducible apply EM.At.sqT); sizeOf_list_dec)
  | ((with_reducible apply EM.RatP.getK); (focus sizeOf_list_dec); (focus (exact rfl)))
  | (with_reducible exact EM.Num.int _)
  | ((with_reducible apply EM.NumP.getK); (focus sizeOf_list_dec); (focus (exact rfl)))
  | ((with_reducible apply EM.At.ext); (focus (with_reducible assumption)); (focus sizeOf_list_dec))
  | ((with_reducible apply EM.RatP.ext); (focus (with_reducible assumption)); (focus sizeOf_list_dec))
  | ((with_reducible apply EM.NumP.ext); (focus (with_reducible assumption)); (focus sizeOf_list_dec))
  | with_reducible exact Tx.cl_Ratio (by assumption)
  | with_reducible exact Tx.cl_Reading (by assumption)
  | with_reducible exact Tx.na_Ratio_top (by assumption)
  | with_reducible exact Tx.na_Ratio_bottom (by assumption)
  | with_reducible exact Tx.na_Reading_own_edges (by assumption)
  | ((with_reducible refine EM.gAt ?_); sizeOf_list_dec)
  | ((with_reducible refine EM.gRat ?_); sizeOf_list_dec)
  | ((with_reducible refine EM.gNum ?_); sizeOf_list_dec)
  | ((with_reducible apply EM.TwoP.mk); (focus (with_reducible assumption)); (focus sizeOf_list_dec); (focus (first | with_reducible assumption | (apply EM.n_low; assumption))); (focus sizeOf_list_dec); (focus decreasing_trivial_pre_omega); (focus decreasing_trivial_pre_omega); (focus decreasing_trivial_pre_omega); (focus decreasing_trivial_pre_omega))
  | (with_reducible exact EM.Ext.refl)
  | ((with_reducible apply EM.Ext.back); (focus (with_reducible assumption)); (focus sizeOf_list_dec))
  | ((with_reducible apply EM.Bs.mono); (focus (with_reducible assumption)); omega)
  | ((with_reducible refine EM.gN ?_); first | decide | omega | exact Nat.le_of_ble_eq_true rfl | (simp only [List.length_cons, List.length_nil, List.length_append]; omega))
  | ((with_reducible refine EM.gM ?_); first | decide | omega | exact Nat.le_of_ble_eq_true rfl)
  | ((with_reducible refine EM.gI ?_); first | decide | omega)
  | ((with_reducible refine EM.gJ ?_); first | decide | omega)
  | ((with_reducible refine EM.gE ?_); first | decide | omega)
  | ((with_reducible refine EM.gB ?_); decreasing_trivial_pre_omega)
  | ((with_reducible apply EM.wideM); (focus decreasing_trivial_pre_omega); (focus decreasing_trivial_pre_omega); (focus decide)))
local macro_rules | `(tactic| infer_instance) => `(tactic| first
  | with_reducible assumption
  | exact DpAll.nil
  | (apply DpAll.cons; (focus infer_instance); (focus infer_instance))
  | with_reducible exact Dp.int _
  | exact Dp.int _
  | with_reducible exact Dp.str _
  | exact Dp.bl _
  | exact Dp.non
  | ((with_reducible apply EM.dp_lst); (focus array_get_dec); (focus infer_instance))
  | ((with_reducible apply EM.dp_tup); (focus array_get_dec); (focus infer_instance))
  | exact EM.dp_ints _)
local macro_rules | `(tactic| nofun) => `(tactic| first
  | with_reducible assumption
  | exact EM.FeL.nil
  | exact EM.FdL.nil
  | (apply EM.FeL.cons; (focus nofun); (focus nofun))
  | (apply EM.FdL.cons; (focus nofun); (focus nofun))
  | exact EM.Fe.int _
  | exact EM.Fe.bool _
  | exact EM.Fe.non
  | exact EM.Fe.str (EM.okS_of _)
  | (apply EM.Fe.str; apply EM.Fd.ok; (focus nofun))
  | (apply EM.Fe.list; (focus nofun))
  | (apply EM.Fe.tup; (focus nofun))
  | (apply EM.Fd.int; (focus decreasing_trivial_pre_omega))
  | exact EM.Fd.bool _
  | exact EM.Fd.non
  | (refine EM.Fd.bool _)
  | (apply EM.Fd.list; (focus nofun))
  | (apply EM.Fd.tup; (focus nofun)))
local macro_rules | `(tactic| array_mem_dec) => `(tactic| ((with_reducible refine EM.pr ?_); first
  | (with_reducible refine L2.iteT ?_)
  | (with_reducible refine L2.iteF ?_)
  | (with_reducible refine EM.ifNotT ?_)
  | (with_reducible refine EM.ifNotF ?_)
  | ((fail_if_success (with_reducible refine EM.gIf ?_)); first
  | array_get_dec
  | (refine EM.mk_low (by with_reducible assumption) (by with_reducible assumption) ?_ ?_; (focus array_get_dec))
  | (apply EM.isNum_sw; (focus sizeOf_list_dec))
  | (apply EM.of_sw; (focus (with_reducible assumption)); (focus sizeOf_list_dec))
  | (apply EM.neg_bs; (focus (with_reducible assumption)); (focus sizeOf_list_dec); (focus array_get_dec); (focus array_get_dec))
  | (apply EM.relw_bs; (focus (with_reducible assumption)); (focus sizeOf_list_dec); (focus sizeOf_list_dec); (focus array_get_dec); (focus decreasing_trivial_pre_omega); (focus decreasing_trivial_pre_omega); (focus decreasing_trivial_pre_omega); (focus decreasing_trivial_pre_omega))
  | ((apply EM.DnS.bs); (focus (with_reducible assumption)); (focus (intro _ z; cases z; done)))
  | ((apply EM.seqL); (focus sizeOf_list_dec))
  | ((apply EM.seqT); (focus sizeOf_list_dec))
  | ((apply EM.lenL); (focus sizeOf_list_dec))
  | ((apply EM.lenT); (focus sizeOf_list_dec))
  | ((apply EM.isSeqL); (focus sizeOf_list_dec); (focus sizeOf_list_dec))
  | ((apply EM.isSeqT); (focus sizeOf_list_dec); (focus sizeOf_list_dec))
  | ((apply EM.tupL); (focus sizeOf_list_dec))
  | ((apply EM.fld_bs); (focus sizeOf_list_dec); (focus (exact Tx.cl_Reading (by assumption))); (focus (exact Tx.na_Reading_own_edges (by assumption))); (focus (exact rfl)))
  | ((apply EM.enT); (focus sizeOf_list_dec))
  | (apply cnt_bs)
  | ((with_reducible refine EM.New.bs (by with_reducible assumption) ?_ ?_); (focus (intro _ z; cases z; done)))
  | ((with_reducible refine EM.gMu ?_); (with_reducible apply EM.mu_bs); (focus (with_reducible assumption)); (focus sizeOf_list_dec); (focus (apply EM.nel2; (focus (with_reducible assumption)); (focus (with_reducible assumption)))); intro _ _ _)
  | intro _
  | (apply And.intro; (focus array_get_dec))
  | apply Exists.intro
  | (refine EM.draw_bs (by with_reducible assumption) ?_ ?_ ?_ ?_; (focus array_get_dec); (focus array_get_dec); (focus (first | decide | omega)))
  | (apply EM.pick_bs; (focus (with_reducible assumption)); (focus array_get_dec); (focus sizeOf_list_dec); (focus (exact Nat.le_of_ble_eq_true rfl)); (focus (exact Nat.le_of_ble_eq_true rfl)))
  | ((apply EM.repr_sw); (focus infer_instance); (focus nofun); (focus decide))
  | ((apply EM.eqd_same); (focus infer_instance); (focus infer_instance); (focus nofun); (focus decide))
  | ((apply EM.ned_same); (focus infer_instance); (focus infer_instance); (focus nofun); (focus decide))
  | ((apply EM.eqd_sw); (focus infer_instance); (focus infer_instance); (focus nofun); (focus nofun); (focus decide))
  | ((apply EM.ned_sw); (focus infer_instance); (focus infer_instance); (focus nofun); (focus nofun); (focus decide))
  | (refine EM.cut_bs (by with_reducible assumption) ?_ ?_ ?_; (focus array_get_dec); (focus array_get_dec))
  | refine EM.Sw.mk (sp := spCountR) ?_)))
section
variable {P : Program} {w : World} {K : PySem.W.Frag} {mg : Str → Option Value} {base : Heap}
theorem bod_Reading_read (T : Tx K mg) : Bod P w K mg base ["cls", "text", "found", "at", "word", "number"] "Reading.read" (defScope s_Reading_read) (He5.wf K (He.ga K "Reading") "classmethod" "read") (defBody s_Reading_read) 11 (spReadT K) := by
  intro cdv A outer s H vs Q E hr h
  · obtain ⟨T0, p, l, n, v, rfl, B0, h⟩ := h
    obtain ⟨fdB, okB, bB⟩ := mk_BadText (P := P) (w := w) (base := base) T
    have tk := takes_of (X := cxOf (L2.CX P w) P w K mg base ["cls", "text", "found", "at", "word", "number"] "Reading.read" (defScope s_Reading_read) (He5.wf K (He.ga K "Reading") "classmethod" "read") cdv A outer s H E) (E := E) rfl rfl rfl rfl
    refine ⟨_, (pss_cons (ps_if (pt_not (pt_val (pe_callB call_isi (by rfl) T.f_isinstance (by decide +kernel) (pa_cons (pv 1) (pa_cons (pe_bltn (v := .ty "str") (by rfl) T.f_str boot_str rfl) pa_nil)))))
  (pss_one (EM.ps_rz2 rfl T.ox_BadText T.oi_BadText okB (hr.mono (by decide)) bB passL T.g_BadText tk (pa_cons pe_int (pa_cons pe_int pa_nil)))) pss_nil)
 (pss_cons (ps_set (i := 2) sc_Reading_read.nd rfl (Or.inl rfl) (EM.pe_lstN pa_nil))
 (pss_cons (EM.forN (ps_for (passes_of rfl) rfl (EM.pi_enumLN (by rfl) T.f_enumerate (pa_cons (pe_m1 PySem.F.slot_str_split PySem.F.type_str_split mt_split (pv 1) pe_str) pa_nil)).mc (pg_tup (by rfl) (pgs_cons (pg_name (i := 3) sc_Reading_read.nd rfl (Or.inl rfl)) (pgs_cons (pg_name (i := 4) sc_Reading_read.nd rfl (Or.inl rfl)) pgs_nil)))
  (pss_cons (ps_set (i := 5) sc_Reading_read.nd rfl (Or.inl rfl) (EM.pe_cR ((ok_number_told T).sw) (hr.mono (by decide)) T.k_number_told T.g_number_told passL (pa_cons (pv 4) pa_nil)))
 (pss_cons (ps_if (PW.pt (pw_or (pt_cmpR op_isN (pv 5) pe_non (nomark _)) (pw_or (pt_cmpR op_eq (pv 3) (EM.pe_gI T.g_MOST_EDGES) (nomark _)) (pw_or1 (PW.pt (pw_and (pt_cmpR op_gt (pv 3) pe_int (nomark _)) (pw_and1 (pt_cmpR (op_rLtE T (hr.mono (by decide))) (pv 5) (pe_ix ix_list (pv 2) (pe_op op_sub (pv 3) pe_int) (fun _ _ => rfl)) (nomark _)))))))))
  (pss_one (EM.ps_rz2 rfl T.ox_BadText T.oi_BadText okB (hr.mono (by decide)) bB passL T.g_BadText tk (pa_cons pe_int (pa_cons (pv 3) pa_nil)))) pss_nil)
 (pss_one (ps_expr (EM.pe_appN (pv 2) (pv 5))))))))
 (pss_cons (ps_if (pt_not (pt_val (EM.pe_cR ((ok_is_edge_count T).sw) (hr.mono (by decide)) T.k_is_edge_count T.g_is_edge_count passL (pa_cons (pe_callB EM.call_lenN (by rfl) T.f_len boot_len (pa_cons (pv 2) pa_nil)) pa_nil))))
  (pss_one (EM.ps_rz2 rfl T.ox_BadText T.oi_BadText okB (hr.mono (by decide)) bB passL T.g_BadText tk (pa_cons pe_int (pa_cons (pe_callB call_len (by rfl) T.f_len boot_len (pa_cons (pv 2) pa_nil)) pa_nil)) (mono := ma_cons m_c (ma_cons (m_cb ma_1v (fun _ _ _ _ k ⟨x, n, h1, h2, q⟩ => ⟨x, n, h1, h2, k _ _ q⟩)) ma_nil)))) pss_nil)
 (pss_one (ps_ret (pe_clsRS T (hr.mono (by decide)) (passes_call tk (fun _ _ _ _ h => h)) (pv 0) (pv 2)))))))), ?_⟩
    rcases h with ⟨a, rfl, hl, hbad, hok⟩ | ⟨⟨t, ty, hk⟩, hbad⟩
    · refine ⟨_, rfl, .str a, .ty "str", .type "str", .type "str", true, rfl, .ty "str", .base (.str a), kit_ty (by decide +kernel), true, rfl, ifN rfl ?_⟩
      repeat' array_mem_dec
      --P1
      rename_i F H1 x1 B1 aF nF
      have zl : 50000 ≤ sizeLine := by decide
      refine ⟨⟨_, rfl⟩, _, _, rfl, rfl, by decide +kernel, by omega, New.upd (EM.New.bs B1 (by intro _ z; cases z; done) fun L H2 x2 B2 aL nL => ?_)⟩
      obtain ⟨ws, ews⟩ : ∃ ws, ws = Txt.split a " " := ⟨_, rfl⟩
      have hwl : ws.length ≤ 40002 := by rw [ews]; exact Nat.le_trans (split_le a " ") (by omega)
      have hws : ∀ w ∈ ws, w.length ≤ 40000 := fun w hw => by rw [ews] at hw; exact Nat.le_trans (part_short hw) hl
      have eo : outT a = match scanT [] ws with
          | .inl i => .inl i
          | .inr es => if es.length % 2 = 0 ∧ 4 ≤ es.length ∧ es.length ≤ 128 then .inr es else .inl es.length := by rw [ews]; rfl
      rw [← ews] at aL
      have nLF : L ≠ F := nn2 nL aF
      clear B1 ews nL
      repeat' array_mem_dec
      --P2
      have out : ∀ {i : Nat}, scanT [] ws = .inl i → ErrT K T0 p l n H E i := fun {i} h => hbad i (by rw [eo, h])
      have aF2 := aF.ext x2
      refine enL aL ?_
      refine FoS.it walk_enum (fun i σ H4 => Hold (∃ es ys v3 v4 v5, σ = [some (.ref (He.ga K "Reading")), some (.str a), some (.ref F), v3, v4, v5] ∧ At p H4 L (.lst (ws.map V.str)) ∧ At p H4 F (.lst ys) ∧ es.length = i ∧ i ≤ 128 ∧ RatsP K p H4 ys es ∧ scanT [] ws = scanT es (ws.drop i) ∧ RowOk 2000 es ∧ XtM p H H4 ∧ Bs T0 p l n H4))
        ⟨⟨[], [], _, _, _, rfl, aL, aF2, rfl, Nat.zero_le _, RatsP.nil, rfl, rowOk_nil, ⟨x1.trans x2⟩, B2⟩⟩ (fun _ _ _ _ ⟨⟨_, _, _, _, _, _, h, _⟩⟩ => SqL.of h.at_) ?_ ?_
      · clear aL aF2 aF B2 x1 x2 hok
        rintro i y σ H4 H5 hi ⟨⟨es, ys, v3, v4, v5, rfl, aL4, aF4, hel, h128, hR, hsc, ok, ⟨x04⟩, B4⟩⟩ hy
        obtain ⟨W, a', b', rfl, ea, eb, x5, B5, aW⟩ := yp_open B4 hy
        cases ea
        rw [List.getElem?_map] at eb
        obtain ⟨wd, ew, rfl⟩ := Option.map_eq_some_iff.mp eb
        have hiw : i < ws.length := (List.getElem?_eq_some_iff.mp ew).1
        have hdr : ws.drop i = wd :: ws.drop (i + 1) := by
          rw [List.drop_eq_getElem_cons hiw, (List.getElem?_eq_some_iff.mp ew).2]
        rw [hdr] at hsc
        have hwd := hws wd (List.mem_of_getElem? ew)
        have aL5 := aL4.ext x5
        have aF5 := aF4.ext x5
        have hR5 := hR.ext x5
        have x05 := x04.trans x5
        clear aL4 aF4 hR x04 x5 B4 hy
        repeat' array_mem_dec
        --P3
        refine nt_bs B5 hwd (fun no H6 x6 B6 => ?_) (fun e he c H6 x6 B6 rc => ?_)
        · have bad := out (hsc.trans (scan_no no))
          rw [hel] at bad
          repeat' array_mem_dec
          refine ifP rfl ?_
          repeat' array_mem_dec
          --P4
          rename_i d Hd sd nd hd
          exact bad.at (x05.trans x6) B6 sd hd
        · obtain ⟨_, _, lo, bt1, bt2, _⟩ := valR_some he
          repeat' array_mem_dec
          refine ifN rfl ?_
          repeat' array_mem_dec
          --P5
          have hyl : ys.length < 100000 := by rw [hR5.len]; omega
          have bt1' : Bt 2000 e.1 := bt1.mono (by decide)
          have bt2' : Bt 2000 e.2 := bt2.mono (by decide)
          refine ifEqI (fun z => ?_) (fun z => ?_)
          · have bd : badAt es e = true := by
              unfold badAt
              rw [hel, decide_eq_true (show i = 128 by omega)]
              rfl
            have bad := out (hsc.trans (scan_bad he bd))
            rw [hel] at bad
            repeat' array_mem_dec
            rename_i d Hd sd nd hd
            exact bad.at (x05.trans x6) B6 sd hd
          repeat' array_mem_dec
          refine ifLt (a := 0) (b := (i : Int)) (fun c1 => ?_) (fun c1 => ?_)
          · obtain ⟨f, ef⟩ : ∃ f, es[i - 1]? = some f := ⟨_, List.getElem?_eq_getElem (by omega)⟩
            obtain ⟨c2, ec2, rc2⟩ := (hR5.ext x6).get ef
            have mf := List.mem_of_getElem? ef
            have l2 := ok.low f mf
            obtain ⟨b3, b4⟩ := ok.bt f mf
            have n1 := rc.num lo
            have n2 := rc2.num l2
            have ix2 : atI ys ((i : Int) - 1) = some (.ref c2) := at_of (j := i - 1) (by omega) ec2
            have bm := badAt_mid (es := es) (e := e) (f := f) (by omega) (by rw [hel]; exact ef)
            repeat' array_mem_dec
            rename_i H7 x7 B7
            refine ite2 (fun c5 => ?_) (fun c5 => ?_)
            · have bd : badAt es e = true := by rw [bm]; exact c5
              have bad := out (hsc.trans (scan_bad he bd))
              rw [hel] at bad
              repeat' array_mem_dec
              rename_i d Hd sd nd hd
              exact bad.at ((x05.trans x6).trans x7) B7 sd hd
            · have bd : badAt es e = false := by rw [bm]; exact decide_eq_false fun z => c5 (decide_eq_true z)
              repeat' array_mem_dec
              --PF
              rename_i H8 mu B8
              exact ⟨⟨es ++ [e], ys ++ [.ref c], _, _, _, rfl, mu.at_n (aL5.ext (x6.trans x7)) nLF, mu.here (aF5.ext (x6.trans x7)), by rw [List.length_append, hel]; rfl, by omega, mu.rats ((hR5.ext (x6.trans x7)).snoc (rc.ext x7)) (aF5.ext (x6.trans x7)), by rw [hsc]; exact scan_go he bd, rowOk_add ok lo bt1' bt2' bd, ⟨Ext.mu Ext.refl nF (x05.trans (x6.trans x7)) mu⟩, B8⟩⟩
          · have e0 : es = [] := List.eq_nil_of_length_eq_zero (by omega)
            have bd : badAt es e = false := by rw [e0]; exact badAt_one
            repeat' array_mem_dec
            --PF
            rename_i H8 mu B8
            exact ⟨⟨es ++ [e], ys ++ [.ref c], _, _, _, rfl, mu.at_n (aL5.ext x6) nLF, mu.here (aF5.ext x6), by rw [List.length_append, hel]; rfl, by omega, mu.rats ((hR5.ext x6).snoc (rc)) (aF5.ext x6), by rw [hsc]; exact scan_go he bd, rowOk_add ok lo bt1' bt2' bd, ⟨Ext.mu Ext.refl nF (x05.trans x6) mu⟩, B8⟩⟩
      · rintro σ H4 ⟨⟨es, ys, v3, v4, v5, rfl, aL4, aF4, hel, h128, hR, hsc, ok, ⟨x04⟩, B4⟩⟩
        repeat' array_mem_dec
        --P8
        rw [List.length_map, List.drop_eq_nil_of_le (Nat.le_refl _)] at hsc
        have hsc2 : scanT [] ws = .inr es := hsc
        rw [hR.len]
        by_cases c : es.length % 2 = 0 ∧ 4 ≤ es.length ∧ es.length ≤ 128
        · rw [decide_eq_true c]
          have good := hok es (by rw [eo, hsc2]; exact if_pos c) ok
          repeat' array_mem_dec
          --P10
          exact ⟨.inr (SqL.of aF4.at_), ⟨⟨T0, p, l, n, es, B4, hR.nums ok, ok, c, fun r q H' x B rd fr => good r q H' (x04.trans x) B rd (fr.back x04)⟩⟩⟩
        · rw [decide_eq_false c]
          have bad := hbad es.length (by rw [eo, hsc2]; exact if_neg c)
          repeat' array_mem_dec
          --P11
          refine ⟨.inl ⟨_, SqL.of aF4.at_, rfl⟩, ?_⟩
          rw [hR.len]
          repeat' array_mem_dec
          rename_i d Hd sd nd hd
          exact bad.at x04 B4 sd hd
    · refine ⟨_, rfl, v, .ty "str", t, .type "str", false, rfl, .ty "str", ty, hk, false, rfl, ifP rfl ?_⟩
      repeat' array_mem_dec
      --P9
      rename_i d Hd sd nd hd
      exact hbad.at Ext.refl B0 sd hd
theorem len_readT : ∀ vs H Q E, spReadT K vs H Q E → vs.length = ["cls", "text"].length := by
  rintro vs H Q E ⟨T0, p, l, n, v, rfl, _⟩
  rfl
theorem ok_Reading_readK (T : Tx K mg) : FnK P w K mg base (L2.CX P w) 12 (He5.wf K (He.ga K "Reading") "classmethod" "read") ["text"] (fun vs zs H Q E => vs.length = 1 ∧ zs.length = ["text"].length ∧ spReadT K (vs ++ zs) H Q E) := by
  obtain ⟨fd, F⟩ := T.d_Reading_read
  exact EM.fnk1 F sc_Reading_read (fun _ _ _ _ _ _ us ws h1 h2 => match us, h1, ws, h2 with | [_], _, [_], _ => rfl) len_readT (bod_Reading_read T)
end
end K12
namespace K12
open PySem PySem.Spec PyProof.Rows L2 EM
/-- a value that is the number o, or is no number -/
def ItemP (K : PySem.W.Frag) (p : Addr) (H : Hp) (v : V) : Option (Int × Int) → Prop
  | some e => NumP K p H v e.1 e.2
  | none => OddN H p v
theorem ItemP.ext {K : PySem.W.Frag} {p : Addr} {H H' : Hp} {v : V} {o : Option (Int × Int)} (h : ItemP K p H v o) (x : Ext p H H') : ItemP K p H' v o := by
  cases o with
  | some e => exact NumP.ext x h
  | none => exact OddN.ext h x.k
/-- the first i items are numbers and rise -/
def FineTo (os : List (Option (Int × Int))) (i : Nat) : Prop := ∀ j, j < i → ∃ e, os[j]? = some (some e) ∧ ∀ j' e', j' + 1 = j → os[j']? = some (some e') → e'.1 * e.2 < e.1 * e'.2
theorem FineTo.next {os : List (Option (Int × Int))} {i : Nat} {f : Int × Int} (h : FineTo os i) (eo : os[i]? = some (some f)) (r : ∀ e : Int × Int, 0 < i → os[i - 1]? = some (some e) → e.1 * f.2 < f.1 * e.2) : FineTo os (i + 1) := fun j hj => by
  rcases Nat.lt_or_ge j i with z | z
  · exact h j z
  · have : j = i := by omega
    subst this
    refine ⟨f, eo, fun j' e' e1 e2 => r e' (by omega) ?_⟩
    rw [show j - 1 = j' by omega]
    exact e2
def spEdgesG (K : PySem.W.Frag) : Sp := fun vs H Q E => ∃ (T : List (Addr × Str)) (p l a : Addr) (n : Nat) (xs : List V) (os : List (Option (Int × Int))), vs = [.ref a] ∧ Bs T p l n H ∧ At p H a (.tup xs) ∧ xs.length = os.length ∧ (∀ (i : Nat) (v : V) (o : Option (Int × Int)), xs[i]? = some v → os[i]? = some o → ItemP K p H v o) ∧ (∀ e, some e ∈ os → Low e.1 e.2 ∧ Bt 2000 e.1 ∧ Bt 2000 e.2) ∧ os.length ≤ 1000 ∧
  (∀ i : Nat, FineTo os i → os[i]? = some none → ErrOut K T p l n H E "BadReading" "at" (.int i)) ∧
  (∀ (i : Nat) (e f : Int × Int), FineTo os i → os[i]? = some (some e) → os[i + 1]? = some (some f) → f.1 * e.2 ≤ e.1 * f.2 → FineTo os (i + 1) → ErrOut K T p l n H E "NotRising" "at" (.int (i + 1 : Nat))) ∧
  (∀ es : List (Int × Int), FineTo os os.length → os = es.map some → ∀ q xs' H', Ext p H H' → Bs T p l n H' → At p H' q (.tup xs') → RatsP K p H' xs' es → Q (.ref q) H')
local macro_rules | `(tactic| sizeOf_list_dec) => `(tactic| first
  | with_reducible assumption
  | ((with_reducible apply EM.At.ext); (focus (with_reducible assumption)); (focus sizeOf_list_dec))
  | ((with_reducible apply EM.RatP.ext); (focus (with_reducible assumption)); (focus sizeOf_list_dec))
  | ((with_reducible apply EM.NumP.ext); (focus (with_reducible assumption)); (focus sizeOf_list_dec))
  | (with_reducible exact EM.Ext.refl)
  | ((with_reducible apply EM.Ext.back); (focus (with_reducible assumption)); (focus sizeOf_list_dec))
  | exact EM.NumP.int _
  | ((with_reducible apply EM.Mu.at_k); (focus (with_reducible assumption)); (focus sizeOf_list_dec); (focus sizeOf_list_dec); (focus (intro _ z; cases z; done)))
  | ((with_reducible apply EM.Mu.at_n); (focus (with_reducible assumption)); (focus sizeOf_list_dec); (focus (first | with_reducible assumption | ((apply EM.nn1); (focus (with_reducible assumption)); (focus sizeOf_list_dec)) | ((apply EM.nn2); (focus (with_reducible assumption)); (focus sizeOf_list_dec)))))
  | ((with_reducible apply EM.Mu.here); (focus (with_reducible assumption)); (focus sizeOf_list_dec))
  | ((with_reducible apply EM.Mu.rat); (focus (with_reducible assumption)); (focus sizeOf_list_dec); (focus sizeOf_list_dec))
  | ((with_reducible apply EM.Mu.num); (focus (with_reducible assumption)); (focus sizeOf_list_dec); (focus sizeOf_list_dec))
  | ((with_reducible apply EM.num_of_rat); (focus sizeOf_list_dec); (focus (first | with_reducible assumption | (apply EM.n_low; assumption))))
  | ((with_reducible apply EM.RatsP.xt); (focus (with_reducible assumption)); (focus sizeOf_list_dec))
  | ((with_reducible apply EM.NumsP.xt); (focus (with_reducible assumption)); (focus sizeOf_list_dec))
  | ((with_reducible apply EM.PairsP.xt); (focus (with_reducible assumption)); (focus sizeOf_list_dec))
  | ((with_reducible apply EM.RdP.xt); (focus (with_reducible assumption)); (focus sizeOf_list_dec))
  | ((with_reducible apply EM.Mu.rats); (focus (with_reducible assumption)); (focus sizeOf_list_dec); (focus sizeOf_list_dec))
  | ((with_reducible apply EM.Mu.pairs); (focus (with_reducible assumption)); (focus sizeOf_list_dec); (focus sizeOf_list_dec))
  | ((with_reducible apply EM.Mu.rdp); (focus (with_reducible assumption)); (focus sizeOf_list_dec); (focus sizeOf_list_dec)))
local macro_rules | `(tactic| decreasing_trivial_pre_omega) => `(tactic| first
  | with_reducible assumption
  | exact EM.Bt.mono (by with_reducible assumption) (by decide)
  | exact EM.Bt.lit _ _ (by decide +kernel)
  | ((with_reducible refine EM.Bt.rng32 ?_ ?_) <;> omega)
  | ((with_reducible refine EM.Bt.rng70 ?_ ?_) <;> omega)
  | ((with_reducible refine EM.Bt.rng200 ?_ ?_) <;> omega)
  | ((with_reducible apply EM.Bt.mulM); (focus decreasing_trivial_pre_omega); (focus decreasing_trivial_pre_omega); (focus (first | decide | exact Nat.le_refl _)))
  | ((with_reducible apply EM.Bt.addM); (focus decreasing_trivial_pre_omega); (focus decreasing_trivial_pre_omega); (focus (first | decide | exact Nat.le_refl _)))
  | ((with_reducible apply EM.Bt.subM); (focus decreasing_trivial_pre_omega); (focus decreasing_trivial_pre_omega); (focus (first | decide | exact Nat.le_refl _)))
  | ((with_reducible apply EM.Bt.topL); (focus decreasing_trivial_pre_omega); (focus assumption); (focus (first | decide | exact Nat.le_refl _)))
  | ((with_reducible apply EM.Bt.botL); (focus decreasing_trivial_pre_omega); (focus assumption); (focus (first | decide | exact Nat.le_refl _)))
  | ((with_reducible apply EM.Bt.divM); (focus decreasing_trivial_pre_omega); (focus assumption); (focus (first | decide | exact Nat.le_refl _)))
  | ((with_reducible apply EM.Bt.negM); (focus decreasing_trivial_pre_omega); (focus (first | decide | exact Nat.le_refl _))))
local macro_rules | `(tactic| array_get_dec) => `(tactic| first
  | with_reducible assumption
  | ((with_reducible refine EM.gEq ?_); exact rfl)
  | ((with_reducible refine EM.gTru ?_); exact rfl)
  | ((with_reducible refine EM.gRef ?_); first | exact Or.inl ⟨_, rfl⟩ | exact Or.inr ⟨_, rfl⟩)
  | ((with_reducible apply EM.At.get); sizeOf_list_dec)
  | ((with_reducible apply EM.At.sqL); sizeOf_list_dec)
  | ((with_reducible apply EM.At.sqT); sizeOf_list_dec)
  | ((with_reducible apply EM.RatP.getK); (focus sizeOf_list_dec); (focus (exact rfl)))
  | (with_reducible exact EM.Num.int _)
  | ((with_reducible apply EM.NumP.getK); (focus sizeOf_list_dec); (focus (exact rfl)))
  | ((with_reducible apply EM.At.ext); (focus (with_reducible assumption)); (focus sizeOf_list_dec))
  | ((with_reducible apply EM.RatP.ext); (focus (with_reducible assumption)); (focus sizeOf_list_dec))
  | ((with_reducible apply EM.NumP.ext); (focus (with_reducible assumption)); (focus sizeOf_list_dec))
  | with_reducible exact Tx.cl_Ratio (by assumption)
  | with_reducible exact Tx.cl_Reading (by assumption)
  | with_reducible exact Tx.na_Ratio_top (by assumption)
  | with_reducible exact Tx.na_Ratio_bottom (by assumption)
  | with_reducible exact Tx.na_Reading_own_edges (by assumption)
  | ((with_reducible refine EM.gAt ?_); sizeOf_list_dec)
  | ((with_reducible refine EM.gRat ?_); sizeOf_list_dec)
  | ((with_reducible refine EM.gNum ?_); sizeOf_list_dec)
  | ((with_reducible apply EM.TwoP.mk); (focus (with_reducible assumption)); (focus sizeOf_list_dec); (focus (first | with_reducible assumption | (apply EM.n_low; assumption))); (focus sizeOf_list_dec); (focus decreasing_trivial_pre_omega); (focus decreasing_trivial_pre_omega); (focus decreasing_trivial_pre_omega); (focus decreasing_trivial_pre_omega))
  | (with_reducible exact EM.Ext.refl)
  | ((with_reducible apply EM.Ext.back); (focus (with_reducible assumption)); (focus sizeOf_list_dec))
  | ((with_reducible apply EM.Bs.mono); (focus (with_reducible assumption)); omega)
  | ((with_reducible refine EM.gN ?_); first | decide | omega | exact Nat.le_of_ble_eq_true rfl | (simp only [List.length_cons, List.length_nil, List.length_append]; omega))
  | ((with_reducible refine EM.gM ?_); first | decide | omega | exact Nat.le_of_ble_eq_true rfl)
  | ((with_reducible refine EM.gI ?_); first | decide | omega)
  | ((with_reducible refine EM.gJ ?_); first | decide | omega)
  | ((with_reducible refine EM.gE ?_); first | decide | omega)
  | ((with_reducible refine EM.gB ?_); decreasing_trivial_pre_omega)
  | ((with_reducible apply EM.wideM); (focus decreasing_trivial_pre_omega); (focus decreasing_trivial_pre_omega); (focus decide)))
local macro_rules | `(tactic| infer_instance) => `(tactic| first
  | with_reducible assumption
  | exact DpAll.nil
  | (apply DpAll.cons; (focus infer_instance); (focus infer_instance))
  | with_reducible exact Dp.int _
  | exact Dp.int _
  | with_reducible exact Dp.str _
  | exact Dp.bl _
  | exact Dp.non
  | ((with_reducible apply EM.dp_lst); (focus array_get_dec); (focus infer_instance))
  | ((with_reducible apply EM.dp_tup); (focus array_get_dec); (focus infer_instance))
  | exact EM.dp_ints _)
local macro_rules | `(tactic| nofun) => `(tactic| first
  | with_reducible assumption
  | exact EM.FeL.nil
  | exact EM.FdL.nil
  | (apply EM.FeL.cons; (focus nofun); (focus nofun))
  | (apply EM.FdL.cons; (focus nofun); (focus nofun))
  | exact EM.Fe.int _
  | exact EM.Fe.bool _
  | exact EM.Fe.non
  | exact EM.Fe.str (EM.okS_of _)
  | (apply EM.Fe.str; apply EM.Fd.ok; (focus nofun))
  | (apply EM.Fe.list; (focus nofun))
  | (apply EM.Fe.tup; (focus nofun))
  | (apply EM.Fd.int; (focus decreasing_trivial_pre_omega))
  | exact EM.Fd.bool _
  | exact EM.Fd.non
  | (refine EM.Fd.bool _)
  | (apply EM.Fd.list; (focus nofun))
  | (apply EM.Fd.tup; (focus nofun)))
local macro_rules | `(tactic| array_mem_dec) => `(tactic| ((with_reducible refine EM.pr ?_); first
  | (with_reducible refine L2.iteT ?_)
  | (with_reducible refine L2.iteF ?_)
  | (with_reducible refine EM.ifNotT ?_)
  | (with_reducible refine EM.ifNotF ?_)
  | ((fail_if_success (with_reducible refine EM.gIf ?_)); first
  | array_get_dec
  | (refine EM.mk_low (by with_reducible assumption) (by with_reducible assumption) ?_ ?_; (focus array_get_dec))
  | (apply EM.isNum_sw; (focus sizeOf_list_dec))
  | (apply EM.of_sw; (focus (with_reducible assumption)); (focus sizeOf_list_dec))
  | (apply EM.neg_bs; (focus (with_reducible assumption)); (focus sizeOf_list_dec); (focus array_get_dec); (focus array_get_dec))
  | (apply EM.relw_bs; (focus (with_reducible assumption)); (focus sizeOf_list_dec); (focus sizeOf_list_dec); (focus array_get_dec); (focus decreasing_trivial_pre_omega); (focus decreasing_trivial_pre_omega); (focus decreasing_trivial_pre_omega); (focus decreasing_trivial_pre_omega))
  | ((apply EM.DnS.bs); (focus (with_reducible assumption)); (focus (intro _ z; cases z; done)))
  | ((apply EM.seqL); (focus sizeOf_list_dec))
  | ((apply EM.seqT); (focus sizeOf_list_dec))
  | ((apply EM.lenL); (focus sizeOf_list_dec))
  | ((apply EM.lenT); (focus sizeOf_list_dec))
  | ((apply EM.isSeqL); (focus sizeOf_list_dec); (focus sizeOf_list_dec))
  | ((apply EM.isSeqT); (focus sizeOf_list_dec); (focus sizeOf_list_dec))
  | ((apply EM.tupL); (focus sizeOf_list_dec))
  | ((apply EM.fld_bs); (focus sizeOf_list_dec); (focus (exact Tx.cl_Reading (by assumption))); (focus (exact Tx.na_Reading_own_edges (by assumption))); (focus (exact rfl)))
  | ((apply EM.enT); (focus sizeOf_list_dec))
  | (apply cnt_bs)
  | ((with_reducible refine EM.New.bs (by with_reducible assumption) ?_ ?_); (focus (intro _ z; cases z; done)))
  | ((with_reducible refine EM.gMu ?_); (with_reducible apply EM.mu_bs); (focus (with_reducible assumption)); (focus sizeOf_list_dec); (focus (apply EM.nel2; (focus (with_reducible assumption)); (focus (with_reducible assumption)))); intro _ _ _)
  | intro _
  | (apply And.intro; (focus array_get_dec))
  | apply Exists.intro
  | (refine EM.draw_bs (by with_reducible assumption) ?_ ?_ ?_ ?_; (focus array_get_dec); (focus array_get_dec); (focus (first | decide | omega)))
  | (apply EM.pick_bs; (focus (with_reducible assumption)); (focus array_get_dec); (focus sizeOf_list_dec); (focus (exact Nat.le_of_ble_eq_true rfl)); (focus (exact Nat.le_of_ble_eq_true rfl)))
  | ((apply EM.repr_sw); (focus infer_instance); (focus nofun); (focus decide))
  | ((apply EM.eqd_same); (focus infer_instance); (focus infer_instance); (focus nofun); (focus decide))
  | ((apply EM.ned_same); (focus infer_instance); (focus infer_instance); (focus nofun); (focus decide))
  | ((apply EM.eqd_sw); (focus infer_instance); (focus infer_instance); (focus nofun); (focus nofun); (focus decide))
  | ((apply EM.ned_sw); (focus infer_instance); (focus infer_instance); (focus nofun); (focus nofun); (focus decide))
  | (refine EM.cut_bs (by with_reducible assumption) ?_ ?_ ?_; (focus array_get_dec); (focus array_get_dec)))))
section
variable {P : Program} {w : World} {K : PySem.W.Frag} {mg : Str → Option Value} {base : Heap}
theorem oddN_no (T : Tx K mg) {H : Hp} {p : Addr} {v : V} (h : OddN H p v) : NoNum K H v := by
  obtain ⟨ty, b1, b2, h1, h2, h3, h4, h5⟩ := h.ty (K := K)
  refine ⟨_, b1, b2, h1, h2, h3, h4, ?_⟩
  simp only [List.mem_cons, List.not_mem_nil, or_false] at h5
  rcases h5 with rfl | rfl | rfl | rfl | rfl | rfl
  · exact T.kit_bool_Ratio
  · exact T.kit_NoneType_Ratio
  · exact T.kit_str_Ratio
  · exact T.kit_tuple_Ratio
  · exact T.kit_list_Ratio
  · exact T.kit_dict_Ratio
theorem ok_edgesG (T : Tx K mg) : FnR P w K mg base (L2.CX P w) 9 (He.ga K "edges_of_readings") (spEdgesG K) := by
  obtain ⟨fd, F⟩ := T.d_edges_of_readings
  refine EM.fnr F sc_edges_of_readings (fun _ _ _ _ _ _ us hl => match us, hl with | [_], _ => rfl) (fun vs H Q E h => ?_) (fun cdv A outer s H vs Q E hr h => ?_)
  · obtain ⟨T0, p, l, a, n, xs, os, rfl, _⟩ := h
    rfl
  · obtain ⟨T0, p, l, a, n, xs, os, rfl, B0, aX, hxl, hit, hbt, hl, hA, hB, hC⟩ := h
    obtain ⟨fdBadReading, okBadReading, bBadReading⟩ := mk_BadReading (P := P) (w := w) (base := base) T
    obtain ⟨fdNotRising, okNotRising, bNotRising⟩ := mk_NotRising (P := P) (w := w) (base := base) T
    have tk := takes_of (X := cxOf (L2.CX P w) P w K mg base ["numbers", "found", "at", "number"] "edges_of" (defScope s_edges_of_readings) (He.ga K "edges_of_readings") cdv A outer s H E) (E := E) rfl rfl rfl rfl
    refine ⟨_, (pss_cons (ps_set (i := 1) sc_edges_of_readings.nd rfl (Or.inl rfl) (EM.pe_lstN pa_nil))
 (pss_cons (EM.forN (ps_for (passes_of rfl) rfl (EM.pi_enumTN (by rfl) T.f_enumerate (pa_cons (pv 0) pa_nil)).mc (pg_tup (by rfl) (pgs_cons (pg_name (i := 2) sc_edges_of_readings.nd rfl (Or.inl rfl)) (pgs_cons (pg_name (i := 3) sc_edges_of_readings.nd rfl (Or.inl rfl)) pgs_nil)))
  (pss_cons (ps_if (pt_not (pt_val (EM.pe_smR (pe_glob (v := .ref (He.ga K "Ratio")) (by rfl) T.g_Ratio rfl) T.cr_Ratio T.sm_Ratio_is_number ((ok_Ratio_is_number T).sw) (hr.mono (by decide)) T.k_Ratio_is_number passL (pa_cons (pv 3) pa_nil))))
  (pss_one (EM.ps_rz1 rfl T.ox_BadReading T.oi_BadReading okBadReading (hr.mono (by decide)) bBadReading passL T.g_BadReading tk (pa_cons (pv 2) pa_nil))) pss_nil)
 (pss_cons (ps_expr (EM.pe_appN (pv 1) (EM.pe_smR (pe_glob (v := .ref (He.ga K "Ratio")) (by rfl) T.g_Ratio rfl) T.cr_Ratio T.sm_Ratio_of ((ok_Ratio_of T).sw) (hr.mono (by decide)) T.k_Ratio_of passL (pa_cons (pv 3) pa_nil))))
 (pss_one (ps_if (PW.pt (pw_and (pt_cmpR op_gt (pv 2) pe_int (nomark _)) (pw_and1 (pt_cmpR (op_rLtE T (hr.mono (by decide))) (pe_ix ix_list (pv 1) (pv 2) (fun _ _ => rfl)) (pe_ix ix_list (pv 1) (pe_op op_sub (pv 2) pe_int) (fun _ _ => rfl)) (nomark _)))))
  (pss_one (EM.ps_rz1 rfl T.ox_NotRising T.oi_NotRising okNotRising (hr.mono (by decide)) bNotRising passL T.g_NotRising tk (pa_cons (pv 2) pa_nil))) pss_nil))))))
 (pss_one (ps_ret (pe_callTy EM.call_tupN (by rfl) T.f_tuple (by decide +kernel) (pa_cons (pv 1) pa_nil)))))), ?_⟩
    repeat' array_mem_dec
    rename_i F H1 x1 B1 aF nF
    refine FoS.it walk_enumT (fun i σ H2 => Hold (∃ ys v2 v3 es, σ = [some (.ref a), some (.ref F), v2, v3] ∧ At p H2 a (.tup xs) ∧ At p H2 F (.lst ys) ∧ es.length = i ∧ RatsP K p H2 ys es ∧ os.take i = es.map some ∧ FineTo os i ∧ XtM p H H2 ∧ Bs T0 p l n H2))
      ⟨⟨[], _, _, [], rfl, aX.ext x1, aF, rfl, RatsP.nil, rfl, fun j z => absurd z (Nat.not_lt_zero j), ⟨x1⟩, B1⟩⟩ (fun _ _ _ _ ⟨⟨_, _, _, _, _, h, _⟩⟩ => SqT.of h.at_) ?_ ?_
    · rintro i y σ H2 H3 hi ⟨⟨ys, v2, v3, es, rfl, aX2, aF2, hel, hR, htk, fine, ⟨x02⟩, B2⟩⟩ hy
      obtain ⟨W, a', b', rfl, ea, eb, x3, B3, aW⟩ := yp_open B2 hy
      cases ea
      obtain ⟨o, eo⟩ : ∃ o, os[i]? = some o := ⟨_, List.getElem?_eq_getElem (by omega)⟩
      have x03 := x02.trans x3
      have it := (hit i b' o eb eo).ext x03
      have aX3 := aX2.ext x3
      have aF3 := aF2.ext x3
      have hR3 := hR.ext x3
      have hyl := hR.len
      clear aX2 aF2 hR x02 B2 x3
      cases o with
      | none =>
        have od : OddN H3 p b' := it
        repeat' array_mem_dec
        refine ⟨⟨b', rfl, .inr ⟨oddN_no T od, ?_⟩⟩⟩
        repeat' array_mem_dec
        rename_i d Hd sd nd hd
        exact hA i fine eo d Hd (x03.trans (Ext.same sd)) (B3.same sd) ((B3.same sd).at_ hd (fun _ z => by cases z) (fun _ z => by cases z))
      | some f =>
        have nv : NumP K p H3 b' f.1 f.2 := it
        obtain ⟨lf, b1, b2⟩ := hbt f (List.mem_of_getElem? eo)
        repeat' array_mem_dec
        rename_i a4 H4 x4 B4 r4 H5 mu B5
        have aX5 : At p H5 a (.tup xs) := mu.at_k (aX3.ext x4) (aF3.ext x4) (by intro _ z; cases z)
        have aF5 : At p H5 F (.lst (ys ++ [.ref a4])) := mu.here (aF3.ext x4)
        have hR5 : RatsP K p H5 (ys ++ [.ref a4]) (es ++ [f]) := mu.rats ((hR3.ext x4).snoc r4) (aF3.ext x4)
        have htk5 : os.take (i + 1) = (es ++ [f]).map some := by rw [take_snocE eo, htk, List.map_append]; rfl
        have x05 : XtM p H H5 := ⟨Ext.mu Ext.refl nF (x03.trans x4) mu⟩
        clear mu r4 x4 B4 aX3 aF3 hR3 x03 it nv
        have fin : ∀ H6, Ext p H5 H6 → Bs T0 p l n H6 → FineTo os (i + 1) → Hold (∃ ys' v2' v3' es', [some (V.ref a), some (V.ref F), some (.int (i : Int)), some b'] = [some (.ref a), some (.ref F), v2', v3'] ∧ At p H6 a (.tup xs) ∧ At p H6 F (.lst ys') ∧ es'.length = i + 1 ∧ RatsP K p H6 ys' es' ∧ os.take (i + 1) = es'.map some ∧ FineTo os (i + 1) ∧ XtM p H H6 ∧ Bs T0 p l n H6) := fun H6 x6 B6 fi => ⟨⟨_, _, _, es ++ [f], rfl, aX5.ext x6, aF5.ext x6, by simp [hel], hR5.ext x6, htk5, fi, ⟨x05.x.trans x6⟩, B6⟩⟩
        refine ifLt (a := 0) (b := (i : Int)) (fun c => ?_) (fun c => ?_)
        · obtain ⟨e, ee, _⟩ := fine (i - 1) (by omega)
          have esi : es[i - 1]? = some e := by
            have h1 : (os.take i)[i - 1]? = some (some e) := by rw [List.getElem?_take, if_pos (by omega)]; exact ee
            rw [htk, List.getElem?_map] at h1
            obtain ⟨g, eg, z⟩ := Option.map_eq_some_iff.mp h1
            rw [eg, Option.some.inj z]
          obtain ⟨le, b3, b4⟩ := hbt e (List.mem_of_getElem? ee)
          obtain ⟨c1, ec1, rc1⟩ := hR5.get (i := i) (e := f) (by rw [List.getElem?_append_right (by omega)]; simp [hel])
          obtain ⟨c2, ec2, rc2⟩ := hR5.get (i := i - 1) (e := e) (by rw [List.getElem?_append_left (by omega)]; exact esi)
          have n1 := rc1.num lf
          have n2 := rc2.num le
          have ix1 : atI (ys ++ [.ref a4]) (i : Int) = some (.ref c1) := at_of (j := i) rfl ec1
          have ix2 : atI (ys ++ [.ref a4]) ((i : Int) - 1) = some (.ref c2) := at_of (j := i - 1) (by omega) ec2
          have ei : i - 1 + 1 = i := by omega
          repeat' array_mem_dec
          rename_i H6 x6 B6
          refine ite2 (fun c5 => ?_) (fun c5 => ?_)
          · have c6 : f.1 * e.2 ≤ e.1 * f.2 := of_decide_eq_true c5
            have bad := hB (i - 1) e f (fun j hj => fine j (by omega)) ee (by rw [ei]; exact eo) c6 (by rw [ei]; exact fine)
            rw [ei] at bad
            repeat' array_mem_dec
            rename_i d Hd sd nd hd
            exact bad d Hd (x05.x.trans (x6.trans (Ext.same sd))) (B6.same sd) ((B6.same sd).at_ hd (fun _ z => by cases z) (fun _ z => by cases z))
          · have c6 : ¬ f.1 * e.2 ≤ e.1 * f.2 := fun z => c5 (decide_eq_true z)
            exact fin _ x6 B6 (fine.next eo fun e' _ h => by
              rw [ee] at h
              cases h
              omega)
        · exact fin _ Ext.refl B5 (fine.next eo fun e' z _ => by omega)
    · rintro σ H2 ⟨⟨ys, v2, v3, es, rfl, aX2, aF2, hel, hR, htk, fine, ⟨x02⟩, B2⟩⟩
      rw [hxl] at fine
      rw [List.take_of_length_le (by omega)] at htk
      repeat' array_mem_dec
      rename_i q H3 x3 B3 a3 n3
      exact hC es fine htk q ys H3 (x02.trans x3) B3 a3 (hR.ext x3)
end
end K12
namespace K12
open PySem PySem.Spec PyProof.Rows L2 EM
/-- what the making of a reading of the items os comes to -/
structure OutG (K : PySem.W.Frag) (T : List (Addr × Str)) (p l : Addr) (n : Nat) (H : Hp) (E : XK) (os : List (Option (Int × Int))) (told : List (Int × Int) → Prop) : Prop where
  few : ¬ okLen os.length → ErrOut K T p l n H E "BadReading" "at" .non
  odd : okLen os.length → ∀ i : Nat, FineTo os i → os[i]? = some none → ErrOut K T p l n H E "BadReading" "at" (.int i)
  fall : okLen os.length → ∀ (i : Nat) (e f : Int × Int), FineTo os i → os[i]? = some (some e) → os[i + 1]? = some (some f) → f.1 * e.2 ≤ e.1 * f.2 → FineTo os (i + 1) → ErrOut K T p l n H E "NotRising" "at" (.int (i + 1 : Nat))
  told : okLen os.length → ∀ es : List (Int × Int), FineTo os os.length → os = es.map some → told es
theorem OutG.ext {K : PySem.W.Frag} {T : List (Addr × Str)} {p l : Addr} {n : Nat} {H H1 : Hp} {E : XK} {os : List (Option (Int × Int))} {t t' : List (Int × Int) → Prop} (h : OutG K T p l n H E os t) (x : Ext p H H1) (w : ∀ es, t es → t' es) : OutG K T p l n H1 E os t' :=
  ⟨fun c => (h.few c).ext x, fun c i a b => (h.odd c i a b).ext x, fun c i e f a b d g k => (h.fall c i e f a b d g k).ext x, fun c es a b => w es (h.told c es a b)⟩
/-- items, each a number or none -/
structure ItemsP (K : PySem.W.Frag) (p : Addr) (H : Hp) (xs : List V) (os : List (Option (Int × Int))) : Prop where
  len : xs.length = os.length
  h : ∀ (i : Nat) (v : V) (o : Option (Int × Int)), xs[i]? = some v → os[i]? = some o → ItemP K p H v o
theorem ItemsP.ext {K : PySem.W.Frag} {p : Addr} {H H' : Hp} {xs : List V} {os : List (Option (Int × Int))} (h : ItemsP K p H xs os) (x : Ext p H H') : ItemsP K p H' xs os := ⟨h.len, fun i v o a b => (h.h i v o a b).ext x⟩
def spInitG (K : PySem.W.Frag) : Sp := fun vs H Q E => ∃ (T : List (Addr × Str)) (p l x dx W : Addr) (n : Nat) (xs : List V) (os : List (Option (Int × Int))), vs = [.ref x, .ref W] ∧ Bs T p l n H ∧ H x = some (.ins (He.ga K "Reading") dx []) ∧ At p H W (.tup xs) ∧ ItemsP K p H xs os ∧ (∀ e, some e ∈ os → Low e.1 e.2 ∧ Bt 2000 e.1 ∧ Bt 2000 e.2) ∧ os.length ≤ 1000 ∧
  OutG K T p l n H E os fun es => ∀ H' q, XtR p x H H' → Bs T p l n H' → RdP K p H' x q es → Q .non H'
local macro_rules | `(tactic| sizeOf_list_dec) => `(tactic| first
  | with_reducible assumption
  | ((with_reducible apply EM.At.ext); (focus (with_reducible assumption)); (focus sizeOf_list_dec))
  | ((with_reducible apply EM.RatP.ext); (focus (with_reducible assumption)); (focus sizeOf_list_dec))
  | ((with_reducible apply EM.NumP.ext); (focus (with_reducible assumption)); (focus sizeOf_list_dec))
  | (with_reducible exact EM.Ext.refl)
  | ((with_reducible apply EM.Ext.back); (focus (with_reducible assumption)); (focus sizeOf_list_dec))
  | exact EM.NumP.int _
  | ((with_reducible apply EM.Mu.at_k); (focus (with_reducible assumption)); (focus sizeOf_list_dec); (focus sizeOf_list_dec); (focus (intro _ z; cases z; done)))
  | ((with_reducible apply EM.Mu.at_n); (focus (with_reducible assumption)); (focus sizeOf_list_dec); (focus (first | with_reducible assumption | ((apply EM.nn1); (focus (with_reducible assumption)); (focus sizeOf_list_dec)) | ((apply EM.nn2); (focus (with_reducible assumption)); (focus sizeOf_list_dec)))))
  | ((with_reducible apply EM.Mu.here); (focus (with_reducible assumption)); (focus sizeOf_list_dec))
  | ((with_reducible apply EM.Mu.rat); (focus (with_reducible assumption)); (focus sizeOf_list_dec); (focus sizeOf_list_dec))
  | ((with_reducible apply EM.Mu.num); (focus (with_reducible assumption)); (focus sizeOf_list_dec); (focus sizeOf_list_dec))
  | ((with_reducible apply EM.num_of_rat); (focus sizeOf_list_dec); (focus (first | with_reducible assumption | (apply EM.n_low; assumption))))
  | ((with_reducible apply EM.RatsP.xt); (focus (with_reducible assumption)); (focus sizeOf_list_dec))
  | ((with_reducible apply EM.NumsP.xt); (focus (with_reducible assumption)); (focus sizeOf_list_dec))
  | ((with_reducible apply EM.PairsP.xt); (focus (with_reducible assumption)); (focus sizeOf_list_dec))
  | ((with_reducible apply EM.RdP.xt); (focus (with_reducible assumption)); (focus sizeOf_list_dec))
  | ((with_reducible apply EM.Mu.rats); (focus (with_reducible assumption)); (focus sizeOf_list_dec); (focus sizeOf_list_dec))
  | ((with_reducible apply EM.Mu.pairs); (focus (with_reducible assumption)); (focus sizeOf_list_dec); (focus sizeOf_list_dec))
  | ((with_reducible apply EM.Mu.rdp); (focus (with_reducible assumption)); (focus sizeOf_list_dec); (focus sizeOf_list_dec)))
local macro_rules | `(tactic| decreasing_trivial_pre_omega) => `(tactic| first
  | with_reducible assumption
  | exact EM.Bt.mono (by with_reducible assumption) (by decide)
  | exact EM.Bt.lit _ _ (by decide +kernel)
  | ((with_reducible refine EM.Bt.rng32 ?_ ?_) <;> omega)
  | ((with_reducible refine EM.Bt.rng70 ?_ ?_) <;> omega)
  | ((with_reducible refine EM.Bt.rng200 ?_ ?_) <;> omega)
  | ((with_reducible apply EM.Bt.mulM); (focus decreasing_trivial_pre_omega); (focus decreasing_trivial_pre_omega); (focus (first | decide | exact Nat.le_refl _)))
  | ((with_reducible apply EM.Bt.addM); (focus decreasing_trivial_pre_omega); (focus decreasing_trivial_pre_omega); (focus (first | decide | exact Nat.le_refl _)))
  | ((with_reducible apply EM.Bt.subM); (focus decreasing_trivial_pre_omega); (focus decreasing_trivial_pre_omega); (focus (first | decide | exact Nat.le_refl _)))
  | ((with_reducible apply EM.Bt.topL); (focus decreasing_trivial_pre_omega); (focus assumption); (focus (first | decide | exact Nat.le_refl _)))
  | ((with_reducible apply EM.Bt.botL); (focus decreasing_trivial_pre_omega); (focus assumption); (focus (first | decide | exact Nat.le_refl _)))
  | ((with_reducible apply EM.Bt.divM); (focus decreasing_trivial_pre_omega); (focus assumption); (focus (first | decide | exact Nat.le_refl _)))
  | ((with_reducible apply EM.Bt.negM); (focus decreasing_trivial_pre_omega); (focus (first | decide | exact Nat.le_refl _))))
local macro_rules | `(tactic| array_get_dec) => `(tactic| first
  | with_reducible assumption
  | ((with_reducible refine EM.gEq ?_); exact rfl)
  | ((with_reducible refine EM.gTru ?_); exact rfl)
  | ((with_reducible refine EM.gRef ?_); first | exact Or.inl ⟨_, rfl⟩ | exact Or.inr ⟨_, rfl⟩)
  | ((with_reducible apply EM.At.get); sizeOf_list_dec)
  | ((with_reducible apply EM.At.sqL); sizeOf_list_dec)
  | ((with_reducible apply EM.At.sqT); sizeOf_list_dec)
  | ((with_reducible apply EM.RatP.getK); (focus sizeOf_list_dec); (focus (exact rfl)))
  | (with_reducible exact EM.Num.int _)
  | ((with_reducible apply EM.NumP.getK); (focus sizeOf_list_dec); (focus (exact rfl)))
  | ((with_reducible apply EM.At.ext); (focus (with_reducible assumption)); (focus sizeOf_list_dec))
  | ((with_reducible apply EM.RatP.ext); (focus (with_reducible assumption)); (focus sizeOf_list_dec))
  | ((with_reducible apply EM.NumP.ext); (focus (with_reducible assumption)); (focus sizeOf_list_dec))
  | with_reducible exact Tx.cl_Ratio (by assumption)
  | with_reducible exact Tx.cl_Reading (by assumption)
  | with_reducible exact Tx.na_Ratio_top (by assumption)
  | with_reducible exact Tx.na_Ratio_bottom (by assumption)
  | with_reducible exact Tx.na_Reading_own_edges (by assumption)
  | ((with_reducible refine EM.gAt ?_); sizeOf_list_dec)
  | ((with_reducible refine EM.gRat ?_); sizeOf_list_dec)
  | ((with_reducible refine EM.gNum ?_); sizeOf_list_dec)
  | ((with_reducible apply EM.TwoP.mk); (focus (with_reducible assumption)); (focus sizeOf_list_dec); (focus (first | with_reducible assumption | (apply EM.n_low; assumption))); (focus sizeOf_list_dec); (focus decreasing_trivial_pre_omega); (focus decreasing_trivial_pre_omega); (focus decreasing_trivial_pre_omega); (focus decreasing_trivial_pre_omega))
  | (with_reducible exact EM.Ext.refl)
  | ((with_reducible apply EM.Ext.back); (focus (with_reducible assumption)); (focus sizeOf_list_dec))
  | ((with_reducible apply EM.Bs.mono); (focus (with_reducible assumption)); omega)
  | ((with_reducible refine EM.gN ?_); first | decide | omega | exact Nat.le_of_ble_eq_true rfl | (simp only [List.length_cons, List.length_nil, List.length_append]; omega))
  | ((with_reducible refine EM.gM ?_); first | decide | omega | exact Nat.le_of_ble_eq_true rfl)
  | ((with_reducible refine EM.gI ?_); first | decide | omega)
  | ((with_reducible refine EM.gJ ?_); first | decide | omega)
  | ((with_reducible refine EM.gE ?_); first | decide | omega)
  | ((with_reducible refine EM.gB ?_); decreasing_trivial_pre_omega)
  | ((with_reducible apply EM.wideM); (focus decreasing_trivial_pre_omega); (focus decreasing_trivial_pre_omega); (focus decide)))
local macro_rules | `(tactic| infer_instance) => `(tactic| first
  | with_reducible assumption
  | exact DpAll.nil
  | (apply DpAll.cons; (focus infer_instance); (focus infer_instance))
  | with_reducible exact Dp.int _
  | exact Dp.int _
  | with_reducible exact Dp.str _
  | exact Dp.bl _
  | exact Dp.non
  | ((with_reducible apply EM.dp_lst); (focus array_get_dec); (focus infer_instance))
  | ((with_reducible apply EM.dp_tup); (focus array_get_dec); (focus infer_instance))
  | exact EM.dp_ints _)
local macro_rules | `(tactic| nofun) => `(tactic| first
  | with_reducible assumption
  | exact EM.FeL.nil
  | exact EM.FdL.nil
  | (apply EM.FeL.cons; (focus nofun); (focus nofun))
  | (apply EM.FdL.cons; (focus nofun); (focus nofun))
  | exact EM.Fe.int _
  | exact EM.Fe.bool _
  | exact EM.Fe.non
  | exact EM.Fe.str (EM.okS_of _)
  | (apply EM.Fe.str; apply EM.Fd.ok; (focus nofun))
  | (apply EM.Fe.list; (focus nofun))
  | (apply EM.Fe.tup; (focus nofun))
  | (apply EM.Fd.int; (focus decreasing_trivial_pre_omega))
  | exact EM.Fd.bool _
  | exact EM.Fd.non
  | (refine EM.Fd.bool _)
  | (apply EM.Fd.list; (focus nofun))
  | (apply EM.Fd.tup; (focus nofun)))
local macro_rules | `(tactic| array_mem_dec) => `(tactic| ((with_reducible refine EM.pr ?_); first
  | (with_reducible refine L2.iteT ?_)
  | (with_reducible refine L2.iteF ?_)
  | (with_reducible refine EM.ifNotT ?_)
  | (with_reducible refine EM.ifNotF ?_)
  | ((fail_if_success (with_reducible refine EM.gIf ?_)); first
  | array_get_dec
  | (refine EM.mk_low (by with_reducible assumption) (by with_reducible assumption) ?_ ?_; (focus array_get_dec))
  | (apply EM.isNum_sw; (focus sizeOf_list_dec))
  | (apply EM.of_sw; (focus (with_reducible assumption)); (focus sizeOf_list_dec))
  | (apply EM.neg_bs; (focus (with_reducible assumption)); (focus sizeOf_list_dec); (focus array_get_dec); (focus array_get_dec))
  | (apply EM.relw_bs; (focus (with_reducible assumption)); (focus sizeOf_list_dec); (focus sizeOf_list_dec); (focus array_get_dec); (focus decreasing_trivial_pre_omega); (focus decreasing_trivial_pre_omega); (focus decreasing_trivial_pre_omega); (focus decreasing_trivial_pre_omega))
  | ((apply EM.DnS.bs); (focus (with_reducible assumption)); (focus (intro _ z; cases z; done)))
  | ((apply EM.seqL); (focus sizeOf_list_dec))
  | ((apply EM.seqT); (focus sizeOf_list_dec))
  | ((apply EM.lenL); (focus sizeOf_list_dec))
  | ((apply EM.lenT); (focus sizeOf_list_dec))
  | ((apply EM.isSeqL); (focus sizeOf_list_dec); (focus sizeOf_list_dec))
  | ((apply EM.isSeqT); (focus sizeOf_list_dec); (focus sizeOf_list_dec))
  | ((apply EM.tupL); (focus sizeOf_list_dec))
  | ((apply EM.fld_bs); (focus sizeOf_list_dec); (focus (exact Tx.cl_Reading (by assumption))); (focus (exact Tx.na_Reading_own_edges (by assumption))); (focus (exact rfl)))
  | ((apply EM.enT); (focus sizeOf_list_dec))
  | (apply cnt_bs)
  | ((with_reducible refine EM.New.bs (by with_reducible assumption) ?_ ?_); (focus (intro _ z; cases z; done)))
  | ((with_reducible refine EM.gMu ?_); (with_reducible apply EM.mu_bs); (focus (with_reducible assumption)); (focus sizeOf_list_dec); (focus (apply EM.nel2; (focus (with_reducible assumption)); (focus (with_reducible assumption)))); intro _ _ _)
  | intro _
  | (apply And.intro; (focus array_get_dec))
  | apply Exists.intro
  | (refine EM.draw_bs (by with_reducible assumption) ?_ ?_ ?_ ?_; (focus array_get_dec); (focus array_get_dec); (focus (first | decide | omega)))
  | (apply EM.pick_bs; (focus (with_reducible assumption)); (focus array_get_dec); (focus sizeOf_list_dec); (focus (exact Nat.le_of_ble_eq_true rfl)); (focus (exact Nat.le_of_ble_eq_true rfl)))
  | ((apply EM.repr_sw); (focus infer_instance); (focus nofun); (focus decide))
  | ((apply EM.eqd_same); (focus infer_instance); (focus infer_instance); (focus nofun); (focus decide))
  | ((apply EM.ned_same); (focus infer_instance); (focus infer_instance); (focus nofun); (focus decide))
  | ((apply EM.eqd_sw); (focus infer_instance); (focus infer_instance); (focus nofun); (focus nofun); (focus decide))
  | ((apply EM.ned_sw); (focus infer_instance); (focus infer_instance); (focus nofun); (focus nofun); (focus decide))
  | (refine EM.cut_bs (by with_reducible assumption) ?_ ?_ ?_; (focus array_get_dec); (focus array_get_dec)))))
section
variable {P : Program} {w : World} {K : PySem.W.Frag} {mg : Str → Option Value} {base : Heap}
theorem bod_Reading_initG (T : Tx K mg) (f : Addr) : Bod P w K mg base ["self", "edges"] "Reading.__init__" (defScope s_Reading_init) f (defBody s_Reading_init) 9 (spInitG K) := by
  intro cdv A outer s H vs Q E hr h
  obtain ⟨T0, p, l, x, dx, W, n, xs, os, rfl, B0, hx, aW, hit, hbt, hl, h⟩ := h
  have aX : At p H x (.ins (He.ga K "Reading") dx []) := B0.at_ hx (by intro _ z; cases z) (by intro _ z; cases z)
  obtain ⟨fdBadReading, okBadReading, bBadReading⟩ := mk_BadReading (P := P) (w := w) (base := base) T
  have tk := takes_of (X := cxOf (L2.CX P w) P w K mg base ["self", "edges"] "Reading.__init__" (defScope s_Reading_init) (f) cdv A outer s H E) (E := E) rfl rfl rfl rfl
  refine ⟨_, (pss_cons (ps_if (pt_not (pt_val (EM.pe_cR ((ok_is_edge_count T).sw) (hr.mono (by decide)) T.k_is_edge_count T.g_is_edge_count passL (pa_cons (pe_callB EM.call_lenN (by rfl) T.f_len boot_len (pa_cons (pv 1) pa_nil)) pa_nil))))
  (pss_one (EM.ps_rz1 rfl T.ox_BadReading T.oi_BadReading okBadReading (hr.mono (by decide)) bBadReading passL T.g_BadReading tk (pa_cons pe_non pa_nil))) pss_nil)
 (pss_one (EM.ps_fldN (pv 0) (EM.pe_cR ((ok_edgesG T).sw) (hr.mono (by decide)) T.k_edges_of_readings T.g_edges_of_readings (passes_call tk (fun _ _ _ _ h => h)) (pa_cons (pv 1) pa_nil)) rfl))), ?_⟩
  repeat' array_mem_dec
  rw [hit.len]
  by_cases c : os.length % 2 = 0 ∧ 4 ≤ os.length ∧ os.length ≤ 128
  · rw [decide_eq_true c]
    repeat' array_mem_dec
    refine ⟨⟨T0, p, l, W, n, xs, os, rfl, B0, aW, hit.len, hit.h, hbt, hl, h.odd c, h.fall c, fun es fi e q ys H1 x1 B1 a1 r1 => ?_⟩⟩
    have aX1 := aX.ext x1
    repeat' array_mem_dec
    refine ⟨T.cl_Reading, T.na_Reading_own_edges, by decide, fun H3 m => ?_⟩
    exact h.told c es fi e H3 q ((XtR.of x1).trans (XtR.mu m)) (m.bsI B1 aX1) (RdP.put0 m aX1 a1 r1 (fun _ _ z => by cases z))
  · rw [decide_eq_false c]
    repeat' array_mem_dec
    rename_i d Hd sd nd hd
    exact h.few c d Hd (Ext.same sd) (B0.same sd) ((B0.same sd).at_ hd (fun _ z => by cases z) (fun _ z => by cases z))
end
end K12
namespace K12
open PySem PySem.Spec PyProof.Rows L2 EM
abbrev spInitGS (K : PySem.W.Frag) : Sp := fun vs H Q E => ∃ ws rest, vs = ws ++ rest ∧ ws.length = ["self"].length ∧ rest.length ≤ sizeLine ∧ ∀ W, H W = none → spInitG K (ws ++ [V.ref W]) (upd H W (.tup rest)) Q E
def spReadG (K : PySem.W.Frag) : Sp := fun vs H Q E => ∃ (T : List (Addr × Str)) (p l : Addr) (n : Nat) (os : List (Option (Int × Int))), Bs T p l n H ∧ ItemsP K p H vs os ∧ (∀ e, some e ∈ os → Low e.1 e.2 ∧ Bt 2000 e.1 ∧ Bt 2000 e.2) ∧ os.length ≤ 1000 ∧
  OutG K T p l n H E os fun es => ∀ r q H', Ext p H H' → Bs T p l n H' → RdP K p H' r q es → Fresh p H r → Q (.ref r) H'
theorem mk_ReadG {K : PySem.W.Frag} {H : Hp} {Q : VK} {vs : List V} {E : XK} (h : spReadG K vs H Q E) : ∀ x dx, H x = none → H dx = none → dx ≠ x → spInitGS K (V.ref x :: vs) (upd (upd H dx (.own x)) x (.ins (He.ga K "Reading") dx [])) (fun v H2 => v = .non ∧ Q (.ref x) H2) E := by
  intro x dx nx nd ne
  obtain ⟨T, p, l, n, os, B, hv, hbt, hl, k⟩ := h
  refine ⟨[.ref x], vs, rfl, rfl, sz (by rw [hv.len]; omega), fun W hW => ?_⟩
  have s1 : Same H (upd H dx (.own x)) := same_upd nd
  have nx1 : upd H dx (.own x) x = none := by rw [upd_ne ne.symm]; exact nx
  have s2 : Same (upd H dx (.own x)) (upd (upd H dx (.own x)) x (.ins (He.ga K "Reading") dx [])) := same_upd nx1
  have s3 := same_upd (o := HO.tup vs) hW
  have s : Same H (upd (upd (upd H dx (.own x)) x (.ins (He.ga K "Reading") dx [])) W (.tup vs)) := (s1.trans s2).trans s3
  have B3 := B.same s
  have x3 : Ext p H _ := Ext.same s
  have nxW : x ≠ W := by
    intro z
    subst z
    rw [upd_same] at hW
    cases hW
  exact ⟨T, p, l, x, dx, W, n, vs, os, rfl, B3, by rw [upd_ne nxW, upd_same], B3.at_ upd_same (fun _ z => by cases z) (fun _ z => by cases z), hv.ext x3, hbt, hl, k.ext x3 fun es w H' q y B' rd => ⟨rfl, w x q H' (XtR.toExt x3 y nx) B' rd (Fresh.none nx)⟩⟩
def tStarG (K : PySem.W.Frag) (E : XK) (te : TE) : TE := fun σ H Q => te σ H fun v H1 => ∃ a xs, v = V.ref a ∧ (SqT K H1 a xs ∨ SqL K H1 a xs) ∧ Sw (spReadG K) xs H1 Q E
/-- Reading.of of anything -/
def spOfG (K : PySem.W.Frag) : Sp := fun vs H Q E => ∃ (T : List (Addr × Str)) (p l : Addr) (n : Nat) (c v : V), vs = [c, v] ∧ Bs T p l n H ∧ ((∃ (a : Addr) (xs : List V) (os : List (Option (Int × Int))), v = .ref a ∧ SeqV p H a xs ∧ ItemsP K p H xs os ∧ (∀ e, some e ∈ os → Low e.1 e.2 ∧ Bt 2000 e.1 ∧ Bt 2000 e.2) ∧ os.length ≤ 1000 ∧
  OutG K T p l n H E os fun es => ∀ r q H', Ext p H H' → Bs T p l n H' → RdP K p H' r q es → Fresh p H r → Q (.ref r) H') ∨ ((∀ H', Ext p H H' → NotSeqT K H' v) ∧ ErrOut K T p l n H E "BadReading" "at" .non))
local macro_rules | `(tactic| sizeOf_list_dec) => `(tactic| first
  | with_reducible assumption
  | ((with_reducible apply EM.At.ext); (focus (with_reducible assumption)); (focus sizeOf_list_dec))
  | ((with_reducible apply EM.RatP.ext); (focus (with_reducible assumption)); (focus sizeOf_list_dec))
  | ((with_reducible apply EM.NumP.ext); (focus (with_reducible assumption)); (focus sizeOf_list_dec))
  | (with_reducible exact EM.Ext.refl)
  | ((with_reducible apply EM.Ext.back); (focus (with_reducible assumption)); (focus sizeOf_list_dec))
  | exact EM.NumP.int _
  | ((with_reducible apply EM.Mu.at_k); (focus (with_reducible assumption)); (focus sizeOf_list_dec); (focus sizeOf_list_dec); (focus (intro _ z; cases z; done)))
  | ((with_reducible apply EM.Mu.at_n); (focus (with_reducible assumption)); (focus sizeOf_list_dec); (focus (first | with_reducible assumption | ((apply EM.nn1); (focus (with_reducible assumption)); (focus sizeOf_list_dec)) | ((apply EM.nn2); (focus (with_reducible assumption)); (focus sizeOf_list_dec)))))
  | ((with_reducible apply EM.Mu.here); (focus (with_reducible assumption)); (focus sizeOf_list_dec))
  | ((with_reducible apply EM.Mu.rat); (focus (with_reducible assumption)); (focus sizeOf_list_dec); (focus sizeOf_list_dec))
  | ((with_reducible apply EM.Mu.num); (focus (with_reducible assumption)); (focus sizeOf_list_dec); (focus sizeOf_list_dec))
  | ((with_reducible apply EM.num_of_rat); (focus sizeOf_list_dec); (focus (first | with_reducible assumption | (apply EM.n_low; assumption))))
  | ((with_reducible apply EM.RatsP.xt); (focus (with_reducible assumption)); (focus sizeOf_list_dec))
  | ((with_reducible apply EM.NumsP.xt); (focus (with_reducible assumption)); (focus sizeOf_list_dec))
  | ((with_reducible apply EM.PairsP.xt); (focus (with_reducible assumption)); (focus sizeOf_list_dec))
  | ((with_reducible apply EM.RdP.xt); (focus (with_reducible assumption)); (focus sizeOf_list_dec))
  | ((with_reducible apply EM.Mu.rats); (focus (with_reducible assumption)); (focus sizeOf_list_dec); (focus sizeOf_list_dec))
  | ((with_reducible apply EM.Mu.pairs); (focus (with_reducible assumption)); (focus sizeOf_list_dec); (focus sizeOf_list_dec))
  | ((with_reducible apply EM.Mu.rdp); (focus (with_reducible assumption)); (focus sizeOf_list_dec); (focus sizeOf_list_dec)))
local macro_rules | `(tactic| decreasing_trivial_pre_omega) => `(tactic| first
  | with_reducible assumption
  | exact EM.Bt.mono (by with_reducible assumption) (by decide)
  | exact EM.Bt.lit _ _ (by decide +kernel)
  | ((with_reducible refine EM.Bt.rng32 ?_ ?_) <;> omega)
  | ((with_reducible refine EM.Bt.rng70 ?_ ?_) <;> omega)
  | ((with_reducible refine EM.Bt.rng200 ?_ ?_) <;> omega)
  | ((with_reducible apply EM.Bt.mulM); (focus decreasing_trivial_pre_omega); (focus decreasing_trivial_pre_omega); (focus (first | decide | exact Nat.le_refl _)))
  | ((with_reducible apply EM.Bt.addM); (focus decreasing_trivial_pre_omega); (focus decreasing_trivial_pre_omega); (focus (first | decide | exact Nat.le_refl _)))
  | ((with_reducible apply EM.Bt.subM); (focus decreasing_trivial_pre_omega); (focus decreasing_trivial_pre_omega); (focus (first | decide | exact Nat.le_refl _)))
  | ((with_reducible apply EM.Bt.topL); (focus decreasing_trivial_pre_omega); (focus assumption); (focus (first | decide | exact Nat.le_refl _)))
  | ((with_reducible apply EM.Bt.botL); (focus decreasing_trivial_pre_omega); (focus assumption); (focus (first | decide | exact Nat.le_refl _)))
  | ((with_reducible apply EM.Bt.divM); (focus decreasing_trivial_pre_omega); (focus assumption); (focus (first | decide | exact Nat.le_refl _)))
  | ((with_reducible apply EM.Bt.negM); (focus decreasing_trivial_pre_omega); (focus (first | decide | exact Nat.le_refl _))))
local macro_rules | `(tactic| array_get_dec) => `(tactic| first
  | with_reducible assumption
  | ((with_reducible refine EM.gEq ?_); exact rfl)
  | ((with_reducible refine EM.gTru ?_); exact rfl)
  | ((with_reducible refine EM.gRef ?_); first | exact Or.inl ⟨_, rfl⟩ | exact Or.inr ⟨_, rfl⟩)
  | ((with_reducible apply EM.At.get); sizeOf_list_dec)
  | ((with_reducible apply EM.At.sqL); sizeOf_list_dec)
  | ((with_reducible apply EM.At.sqT); sizeOf_list_dec)
  | ((with_reducible apply EM.RatP.getK); (focus sizeOf_list_dec); (focus (exact rfl)))
  | (with_reducible exact EM.Num.int _)
  | ((with_reducible apply EM.NumP.getK); (focus sizeOf_list_dec); (focus (exact rfl)))
  | ((with_reducible apply EM.At.ext); (focus (with_reducible assumption)); (focus sizeOf_list_dec))
  | ((with_reducible apply EM.RatP.ext); (focus (with_reducible assumption)); (focus sizeOf_list_dec))
  | ((with_reducible apply EM.NumP.ext); (focus (with_reducible assumption)); (focus sizeOf_list_dec))
  | with_reducible exact Tx.cl_Ratio (by assumption)
  | with_reducible exact Tx.cl_Reading (by assumption)
  | with_reducible exact Tx.na_Ratio_top (by assumption)
  | with_reducible exact Tx.na_Ratio_bottom (by assumption)
  | with_reducible exact Tx.na_Reading_own_edges (by assumption)
  | ((with_reducible refine EM.gAt ?_); sizeOf_list_dec)
  | ((with_reducible refine EM.gRat ?_); sizeOf_list_dec)
  | ((with_reducible refine EM.gNum ?_); sizeOf_list_dec)
  | ((with_reducible apply EM.TwoP.mk); (focus (with_reducible assumption)); (focus sizeOf_list_dec); (focus (first | with_reducible assumption | (apply EM.n_low; assumption))); (focus sizeOf_list_dec); (focus decreasing_trivial_pre_omega); (focus decreasing_trivial_pre_omega); (focus decreasing_trivial_pre_omega); (focus decreasing_trivial_pre_omega))
  | (with_reducible exact EM.Ext.refl)
  | ((with_reducible apply EM.Ext.back); (focus (with_reducible assumption)); (focus sizeOf_list_dec))
  | ((with_reducible apply EM.Bs.mono); (focus (with_reducible assumption)); omega)
  | ((with_reducible refine EM.gN ?_); first | decide | omega | exact Nat.le_of_ble_eq_true rfl | (simp only [List.length_cons, List.length_nil, List.length_append]; omega))
  | ((with_reducible refine EM.gM ?_); first | decide | omega | exact Nat.le_of_ble_eq_true rfl)
  | ((with_reducible refine EM.gI ?_); first | decide | omega)
  | ((with_reducible refine EM.gJ ?_); first | decide | omega)
  | ((with_reducible refine EM.gE ?_); first | decide | omega)
  | ((with_reducible refine EM.gB ?_); decreasing_trivial_pre_omega)
  | ((with_reducible apply EM.wideM); (focus decreasing_trivial_pre_omega); (focus decreasing_trivial_pre_omega); (focus decide)))
local macro_rules | `(tactic| infer_instance) => `(tactic| first
  | with_reducible assumption
  | exact DpAll.nil
  | (apply DpAll.cons; (focus infer_instance); (focus infer_instance))
  | with_reducible exact Dp.int _
  | exact Dp.int _
  | with_reducible exact Dp.str _
  | exact Dp.bl _
  | exact Dp.non
  | ((with_reducible apply EM.dp_lst); (focus array_get_dec); (focus infer_instance))
  | ((with_reducible apply EM.dp_tup); (focus array_get_dec); (focus infer_instance))
  | exact EM.dp_ints _)
local macro_rules | `(tactic| nofun) => `(tactic| first
  | with_reducible assumption
  | exact EM.FeL.nil
  | exact EM.FdL.nil
  | (apply EM.FeL.cons; (focus nofun); (focus nofun))
  | (apply EM.FdL.cons; (focus nofun); (focus nofun))
  | exact EM.Fe.int _
  | exact EM.Fe.bool _
  | exact EM.Fe.non
  | exact EM.Fe.str (EM.okS_of _)
  | (apply EM.Fe.str; apply EM.Fd.ok; (focus nofun))
  | (apply EM.Fe.list; (focus nofun))
  | (apply EM.Fe.tup; (focus nofun))
  | (apply EM.Fd.int; (focus decreasing_trivial_pre_omega))
  | exact EM.Fd.bool _
  | exact EM.Fd.non
  | (refine EM.Fd.bool _)
  | (apply EM.Fd.list; (focus nofun))
  | (apply EM.Fd.tup; (focus nofun)))
local macro_rules | `(tactic| array_mem_dec) => `(tactic| ((with_reducible refine EM.pr ?_); first
  | (with_reducible refine L2.iteT ?_)
  | (with_reducible refine L2.iteF ?_)
  | (with_reducible refine EM.ifNotT ?_)
  | (with_reducible refine EM.ifNotF ?_)
  | ((fail_if_success (with_reducible refine EM.gIf ?_)); first
  | array_get_dec
  | (refine EM.mk_low (by with_reducible assumption) (by with_reducible assumption) ?_ ?_; (focus array_get_dec))
  | (apply EM.isNum_sw; (focus sizeOf_list_dec))
  | (apply EM.of_sw; (focus (with_reducible assumption)); (focus sizeOf_list_dec))
  | (apply EM.neg_bs; (focus (with_reducible assumption)); (focus sizeOf_list_dec); (focus array_get_dec); (focus array_get_dec))
  | (apply EM.relw_bs; (focus (with_reducible assumption)); (focus sizeOf_list_dec); (focus sizeOf_list_dec); (focus array_get_dec); (focus decreasing_trivial_pre_omega); (focus decreasing_trivial_pre_omega); (focus decreasing_trivial_pre_omega); (focus decreasing_trivial_pre_omega))
  | ((apply EM.DnS.bs); (focus (with_reducible assumption)); (focus (intro _ z; cases z; done)))
  | ((apply EM.seqL); (focus sizeOf_list_dec))
  | ((apply EM.seqT); (focus sizeOf_list_dec))
  | ((apply EM.lenL); (focus sizeOf_list_dec))
  | ((apply EM.lenT); (focus sizeOf_list_dec))
  | ((apply EM.isSeqL); (focus sizeOf_list_dec); (focus sizeOf_list_dec))
  | ((apply EM.isSeqT); (focus sizeOf_list_dec); (focus sizeOf_list_dec))
  | ((apply EM.tupL); (focus sizeOf_list_dec))
  | ((apply EM.fld_bs); (focus sizeOf_list_dec); (focus (exact Tx.cl_Reading (by assumption))); (focus (exact Tx.na_Reading_own_edges (by assumption))); (focus (exact rfl)))
  | ((apply EM.enT); (focus sizeOf_list_dec))
  | (apply cnt_bs)
  | ((with_reducible refine EM.New.bs (by with_reducible assumption) ?_ ?_); (focus (intro _ z; cases z; done)))
  | ((with_reducible refine EM.gMu ?_); (with_reducible apply EM.mu_bs); (focus (with_reducible assumption)); (focus sizeOf_list_dec); (focus (apply EM.nel2; (focus (with_reducible assumption)); (focus (with_reducible assumption)))); intro _ _ _)
  | intro _
  | (apply And.intro; (focus array_get_dec))
  | apply Exists.intro
  | (refine EM.draw_bs (by with_reducible assumption) ?_ ?_ ?_ ?_; (focus array_get_dec); (focus array_get_dec); (focus (first | decide | omega)))
  | (apply EM.pick_bs; (focus (with_reducible assumption)); (focus array_get_dec); (focus sizeOf_list_dec); (focus (exact Nat.le_of_ble_eq_true rfl)); (focus (exact Nat.le_of_ble_eq_true rfl)))
  | ((apply EM.repr_sw); (focus infer_instance); (focus nofun); (focus decide))
  | ((apply EM.eqd_same); (focus infer_instance); (focus infer_instance); (focus nofun); (focus decide))
  | ((apply EM.ned_same); (focus infer_instance); (focus infer_instance); (focus nofun); (focus decide))
  | ((apply EM.eqd_sw); (focus infer_instance); (focus infer_instance); (focus nofun); (focus nofun); (focus decide))
  | ((apply EM.ned_sw); (focus infer_instance); (focus infer_instance); (focus nofun); (focus nofun); (focus decide))
  | (refine EM.cut_bs (by with_reducible assumption) ?_ ?_ ?_; (focus array_get_dec); (focus array_get_dec)))))
section
variable {P : Program} {w : World} {K : PySem.W.Frag} {mg : Str → Option Value} {base : Heap}
theorem ok_Reading_initG (T : Tx K mg) : FnR P w K mg base (L2.CX P w) 10 (He.ma K (He.ga K "Reading") "__init__") (spInitGS K) := by
  obtain ⟨fd, F⟩ := T.d_Reading_init
  exact EM.fnr_star (ps := ["self"]) (pv := "edges") F sc_Reading_init (fun kV doc pm an cdv ct => StX.bind_star1 (B := fun l => bindArgs _ ⟨l, []⟩) (fun a => by rfl) (fun a r rs => by rfl)) (bod_Reading_initG T _)
theorem pe_mkGS {K : PySem.W.Frag} {mg : Str → Option Value} (T : Tx K mg) {X : Cx} {E : XK} (hr : Room 11 X.A) (hx : Passes (L2.CX X.prog X.w) X E) {e : Expr} {te : TE} {p pos sp_ : Pos} (he : PE X e te) (hg : Gl X "Reading" := by rfl) (hst : starEach [.Starred e sp_] X.env = [(true, eval e X.env)] := by rfl) (eK : X.K = K := by rfl) (eM : X.mg = mg := by rfl) :
    PE X (.Call (.Name "Reading" p) [.Starred e sp_] [] pos) (tStarG K E te) := by
  subst eK eM
  exact (EM.pe_mkS1 (E := E) T.mk_Reading (ok_Reading_initG T) hr T.g_Reading hx he.mc hg (by decide) hst).of fun σ H Q q => ⟨_, q, fun v H1 ⟨a, xs, e, hs, ⟨h⟩⟩ => ⟨a, xs, e, hs, fun x dx hx hdx ndx => by
    rw [List.append_nil]
    exact mk_ReadG h x dx hx hdx ndx⟩⟩
theorem bod_Reading_ofG (T : Tx K mg) (f : Addr) : Bod P w K mg base ["cls", "edges"] "Reading.of" (defScope s_Reading_of) f (defBody s_Reading_of) 11 (spOfG K) := by
  intro cdv A outer s H vs Q E hr h
  obtain ⟨T0, p, l, n, c, v, rfl, B0, h⟩ := h
  obtain ⟨fdBadReading, okBadReading, bBadReading⟩ := mk_BadReading (P := P) (w := w) (base := base) T
  have tk := takes_of (X := cxOf (L2.CX P w) P w K mg base ["cls", "edges"] "Reading.of" (defScope s_Reading_of) (f) cdv A outer s H E) (E := E) rfl rfl rfl rfl
  refine ⟨_, (pss_cons (ps_if (pt_not (pt_val (pe_callB (callR_sw EM.call_isSeq) (by rfl) T.f_isinstance (by decide +kernel) (pa_cons (pv 1) (pa_cons (EM.pe_tupN (pa_cons (pe_bltn (v := .ty "list") (by rfl) T.f_list boot_list rfl) (pa_cons (pe_bltn (v := .ty "tuple") (by rfl) T.f_tuple boot_tuple rfl) pa_nil))) pa_nil)))))
  (pss_one (EM.ps_rz1 rfl T.ox_BadReading T.oi_BadReading okBadReading (hr.mono (by decide)) bBadReading passL T.g_BadReading tk (pa_cons pe_non pa_nil))) pss_nil)
 (pss_one (ps_ret (pe_mkGS T (hr.mono (by decide)) (passes_call tk (fun _ _ _ _ h => h)) (pv 1))))), ?_⟩
  rcases h with ⟨a, xs, os, rfl, sq, hN, hbt, hl, k⟩ | ⟨nos, bad⟩
  case inr =>
    repeat' array_mem_dec
    rename_i tp H1 x1 B1 a1 n1
    refine EM.isSeqN a1 (nos H1 x1) ?_
    repeat' array_mem_dec
    rename_i d Hd sd nd hd
    exact bad d Hd (x1.trans (Ext.same sd)) (B1.same sd) ((B1.same sd).at_ hd (fun _ z => by cases z) (fun _ z => by cases z))
  rcases sq with sq | sq
  · repeat' array_mem_dec
    rename_i tp H1 x1 B1 a1 n1
    refine ⟨.inr (SqL.of (sq.ext x1).at_), ⟨⟨T0, p, l, n, os, B1, hN.ext x1, hbt, hl, k.ext x1 fun es w r q H2 x2 B2 rd fr => w r q H2 (x1.trans x2) B2 rd (fr.back x1)⟩⟩⟩
  · repeat' array_mem_dec
    rename_i tp H1 x1 B1 a1 n1
    refine ⟨.inl (SqT.of (sq.ext x1).at_), ⟨⟨T0, p, l, n, os, B1, hN.ext x1, hbt, hl, k.ext x1 fun es w r q H2 x2 B2 rd fr => w r q H2 (x1.trans x2) B2 rd (fr.back x1)⟩⟩⟩
theorem len_ofG : ∀ vs H Q E, spOfG K vs H Q E → vs.length = ["cls", "edges"].length := by
  rintro vs H Q E ⟨T0, p, l, n, c, v, rfl, _⟩
  rfl
theorem ok_Reading_ofG (T : Tx K mg) : FnR P w K mg base (L2.CX P w) 12 (He5.wf K (He.ga K "Reading") "classmethod" "of") (spOfG K) := by
  obtain ⟨fd, F⟩ := T.d_Reading_of
  exact EM.fnr F sc_Reading_of (fun _ _ _ _ _ _ us hl => match us, hl with | [_, _], _ => rfl) len_ofG (bod_Reading_ofG T _)
theorem ok_Reading_ofGK (T : Tx K mg) : FnK P w K mg base (L2.CX P w) 12 (He5.wf K (He.ga K "Reading") "classmethod" "of") ["edges"] (fun vs zs H Q E => vs.length = 1 ∧ zs.length = ["edges"].length ∧ spOfG K (vs ++ zs) H Q E) := by
  obtain ⟨fd, F⟩ := T.d_Reading_of
  exact EM.fnk1 F sc_Reading_of (fun _ _ _ _ _ _ us ws h1 h2 => match us, h1, ws, h2 with | [_], _, [_], _ => rfl) len_ofG (bod_Reading_ofG T _)
end
end K12
namespace K12
open PySem PySem.Spec PyProof.Rows L2 EM
local macro_rules | `(tactic| sizeOf_list_dec) => `(tactic| first
  | with_reducible assumption
  | ((with_reducible apply EM.At.ext); (focus (with_reducible assumption)); (focus sizeOf_list_dec))
  | ((with_reducible apply EM.RatP.ext); (focus (with_reducible assumption)); (focus sizeOf_list_dec))
  | ((with_reducible apply EM.NumP.ext); (focus (with_reducible assumption)); (focus sizeOf_list_dec))
  | (with_reducible exact EM.Ext.refl)
  | ((with_reducible apply EM.Ext.back); (focus (with_reducible assumption)); (focus sizeOf_list_dec))
  | exact EM.NumP.int _
  | ((with_reducible apply EM.Mu.at_k); (focus (with_reducible assumption)); (focus sizeOf_list_dec); (focus sizeOf_list_dec); (focus (intro _ z; cases z; done)))
  | ((with_reducible apply EM.Mu.at_n); (focus (with_reducible assumption)); (focus sizeOf_list_dec); (focus (first | with_reducible assumption | ((apply EM.nn1); (focus (with_reducible assumption)); (focus sizeOf_list_dec)) | ((apply EM.nn2); (focus (with_reducible assumption)); (focus sizeOf_list_dec)))))
  | ((with_reducible apply EM.Mu.here); (focus (with_reducible assumption)); (focus sizeOf_list_dec))
  | ((with_reducible apply EM.Mu.rat); (focus (with_reducible assumption)); (focus sizeOf_list_dec); (focus sizeOf_list_dec))
  | ((with_reducible apply EM.Mu.num); (focus (with_reducible assumption)); (focus sizeOf_list_dec); (focus sizeOf_list_dec))
  | ((with_reducible apply EM.num_of_rat); (focus sizeOf_list_dec); (focus (first | with_reducible assumption | (apply EM.n_low; assumption))))
  | ((with_reducible apply EM.RatsP.xt); (focus (with_reducible assumption)); (focus sizeOf_list_dec))
  | ((with_reducible apply EM.NumsP.xt); (focus (with_reducible assumption)); (focus sizeOf_list_dec))
  | ((with_reducible apply EM.PairsP.xt); (focus (with_reducible assumption)); (focus sizeOf_list_dec))
  | ((with_reducible apply EM.RdP.xt); (focus (with_reducible assumption)); (focus sizeOf_list_dec))
  | ((with_reducible apply EM.Mu.rats); (focus (with_reducible assumption)); (focus sizeOf_list_dec); (focus sizeOf_list_dec))
  | ((with_reducible apply EM.Mu.pairs); (focus (with_reducible assumption)); (focus sizeOf_list_dec); (focus sizeOf_list_dec))
  | ((with_reducible apply EM.Mu.rdp); (focus (with_reducible assumption)); (focus sizeOf_list_dec); (focus sizeOf_list_dec)))
local macro_rules | `(tactic| decreasing_trivial_pre_omega) => `(tactic| first
  | with_reducible assumption
  | exact EM.Bt.mono (by with_reducible assumption) (by decide)
  | exact EM.Bt.lit _ _ (by decide +kernel)
  | ((with_reducible refine EM.Bt.rng32 ?_ ?_) <;> omega)
  | ((with_reducible refine EM.Bt.rng70 ?_ ?_) <;> omega)
  | ((with_reducible refine EM.Bt.rng200 ?_ ?_) <;> omega)
  | ((with_reducible apply EM.Bt.mulM); (focus decreasing_trivial_pre_omega); (focus decreasing_trivial_pre_omega); (focus (first | decide | exact Nat.le_refl _)))
  | ((with_reducible apply EM.Bt.addM); (focus decreasing_trivial_pre_omega); (focus decreasing_trivial_pre_omega); (focus (first | decide | exact Nat.le_refl _)))
  | ((with_reducible apply EM.Bt.subM); (focus decreasing_trivial_pre_omega); (focus decreasing_trivial_pre_omega); (focus (first | decide | exact Nat.le_refl _)))
  | ((with_reducible apply EM.Bt.topL); (focus decreasing_trivial_pre_omega); (focus assumption); (focus (first | decide | exact Nat.le_refl _)))
  | ((with_reducible apply EM.Bt.botL); (focus decreasing_trivial_pre_omega); (focus assumption); (focus (first | decide | exact Nat.le_refl _)))
  | ((with_reducible apply EM.Bt.divM); (focus decreasing_trivial_pre_omega); (focus assumption); (focus (first | decide | exact Nat.le_refl _)))
  | ((with_reducible apply EM.Bt.negM); (focus decreasing_trivial_pre_omega); (focus (first | decide | exact Nat.le_refl _))))
local macro_rules | `(tactic| array_get_dec) => `(tactic| first
  | with_reducible assumption
  | ((with_reducible refine EM.gEq ?_); exact rfl)
  | ((with_reducible refine EM.gTru ?_); exact rfl)
  | ((with_reducible refine EM.gRef ?_); first | exact Or.inl ⟨_, rfl⟩ | exact Or.inr ⟨_, rfl⟩)
  | ((with_reducible apply EM.At.get); sizeOf_list_dec)
  | ((with_reducible apply EM.At.sqL); sizeOf_list_dec)
  | ((with_reducible apply EM.At.sqT); sizeOf_list_dec)
  | ((with_reducible apply EM.RatP.getK); (focus sizeOf_list_dec); (focus (exact rfl)))
  | (with_reducible exact EM.Num.int _)
  | ((with_reducible apply EM.NumP.getK); (focus sizeOf_list_dec); (focus (exact rfl)))
  | ((with_reducible apply EM.At.ext); (focus (with_reducible assumption)); (focus sizeOf_list_dec))
  | ((with_reducible apply EM.RatP.ext); (focus (with_reducible assumption)); (focus sizeOf_list_dec))
  | ((with_reducible apply EM.NumP.ext); (focus (with_reducible assumption)); (focus sizeOf_list_dec))
  | with_reducible exact Tx.cl_Ratio (by assumption)
  | with_reducible exact Tx.cl_Reading (by assumption)
  | with_reducible exact Tx.na_Ratio_top (by assumption)
  | with_reducible exact Tx.na_Ratio_bottom (by assumption)
  | with_reducible exact Tx.na_Reading_own_edges (by assumption)
  | ((with_reducible refine EM.gAt ?_); sizeOf_list_dec)
  | ((with_reducible refine EM.gRat ?_); sizeOf_list_dec)
  | ((with_reducible refine EM.gNum ?_); sizeOf_list_dec)
  | ((with_reducible apply EM.TwoP.mk); (focus (with_reducible assumption)); (focus sizeOf_list_dec); (focus (first | with_reducible assumption | (apply EM.n_low; assumption))); (focus sizeOf_list_dec); (focus decreasing_trivial_pre_omega); (focus decreasing_trivial_pre_omega); (focus decreasing_trivial_pre_omega); (focus decreasing_trivial_pre_omega))
  | (with_reducible exact EM.Ext.refl)
  | ((with_reducible apply EM.Ext.back); (focus (with_reducible assumption)); (focus sizeOf_list_dec))
  | ((with_reducible apply EM.Bs.mono); (focus (with_reducible assumption)); omega)
  | ((with_reducible refine EM.gN ?_); first | decide | omega | exact Nat.le_of_ble_eq_true rfl | (simp only [List.length_cons, List.length_nil, List.length_append]; omega))
  | ((with_reducible refine EM.gM ?_); first | decide | omega | exact Nat.le_of_ble_eq_true rfl)
  | ((with_reducible refine EM.gI ?_); first | decide | omega)
  | ((with_reducible refine EM.gJ ?_); first | decide | omega)
  | ((with_reducible refine EM.gE ?_); first | decide | omega)
  | ((with_reducible refine EM.gB ?_); decreasing_trivial_pre_omega)
  | ((with_reducible apply EM.wideM); (focus decreasing_trivial_pre_omega); (focus decreasing_trivial_pre_omega); (focus decide)))
local macro_rules | `(tactic| infer_instance) => `(tactic| first
  | with_reducible assumption
  | exact DpAll.nil
  | (apply DpAll.cons; (focus infer_instance); (focus infer_instance))
  | with_reducible exact Dp.int _
  | exact Dp.int _
  | with_reducible exact Dp.str _
  | exact Dp.bl _
  | exact Dp.non
  | ((with_reducible apply EM.dp_lst); (focus array_get_dec); (focus infer_instance))
  | ((with_reducible apply EM.dp_tup); (focus array_get_dec); (focus infer_instance))
  | exact EM.dp_ints _)
local macro_rules | `(tactic| nofun) => `(tactic| first
  | with_reducible assumption
  | exact EM.FeL.nil
  | exact EM.FdL.nil
  | (apply EM.FeL.cons; (focus nofun); (focus nofun))
  | (apply EM.FdL.cons; (focus nofun); (focus nofun))
  | exact EM.Fe.int _
  | exact EM.Fe.bool _
  | exact EM.Fe.non
  | exact EM.Fe.str (EM.okS_of _)
  | (apply EM.Fe.str; apply EM.Fd.ok; (focus nofun))
  | (apply EM.Fe.list; (focus nofun))
  | (apply EM.Fe.tup; (focus nofun))
  | (apply EM.Fd.int; (focus decreasing_trivial_pre_omega))
  | exact EM.Fd.bool _
  | exact EM.Fd.non
  | (refine EM.Fd.bool _)
  | (apply EM.Fd.list; (focus nofun))
  | (apply EM.Fd.tup; (focus nofun)))
local macro_rules | `(tactic| array_mem_dec) => `(tactic| ((with_reducible refine EM.pr ?_); first
  | (with_reducible refine L2.iteT ?_)
  | (with_reducible refine L2.iteF ?_)
  | (with_reducible refine EM.ifNotT ?_)
  | (with_reducible refine EM.ifNotF ?_)
  | ((fail_if_success (with_reducible refine EM.gIf ?_)); first
  | array_get_dec
  | (refine EM.mk_low (by with_reducible assumption) (by with_reducible assumption) ?_ ?_; (focus array_get_dec))
  | (apply EM.isNum_sw; (focus sizeOf_list_dec))
  | (apply EM.of_sw; (focus (with_reducible assumption)); (focus sizeOf_list_dec))
  | (apply EM.neg_bs; (focus (with_reducible assumption)); (focus sizeOf_list_dec); (focus array_get_dec); (focus array_get_dec))
  | (apply EM.relw_bs; (focus (with_reducible assumption)); (focus sizeOf_list_dec); (focus sizeOf_list_dec); (focus array_get_dec); (focus decreasing_trivial_pre_omega); (focus decreasing_trivial_pre_omega); (focus decreasing_trivial_pre_omega); (focus decreasing_trivial_pre_omega))
  | ((apply EM.DnS.bs); (focus (with_reducible assumption)); (focus (intro _ z; cases z; done)))
  | ((apply EM.seqL); (focus sizeOf_list_dec))
  | ((apply EM.seqT); (focus sizeOf_list_dec))
  | ((apply EM.lenL); (focus sizeOf_list_dec))
  | ((apply EM.lenT); (focus sizeOf_list_dec))
  | ((apply EM.isSeqL); (focus sizeOf_list_dec); (focus sizeOf_list_dec))
  | ((apply EM.isSeqT); (focus sizeOf_list_dec); (focus sizeOf_list_dec))
  | ((apply EM.tupL); (focus sizeOf_list_dec))
  | ((apply EM.fld_bs); (focus sizeOf_list_dec); (focus (exact Tx.cl_Reading (by assumption))); (focus (exact Tx.na_Reading_own_edges (by assumption))); (focus (exact rfl)))
  | ((with_reducible refine EM.New.bs (by with_reducible assumption) ?_ ?_); (focus (intro _ z; cases z; done)))
  | ((with_reducible refine EM.gMu ?_); (with_reducible apply EM.mu_bs); (focus (with_reducible assumption)); (focus sizeOf_list_dec); (focus (apply EM.nel2; (focus (with_reducible assumption)); (focus (with_reducible assumption)))); intro _ _ _)
  | intro _
  | (apply And.intro; (focus array_get_dec))
  | apply Exists.intro
  | (refine EM.draw_bs (by with_reducible assumption) ?_ ?_ ?_ ?_; (focus array_get_dec); (focus array_get_dec); (focus (first | decide | omega)))
  | (apply EM.pick_bs; (focus (with_reducible assumption)); (focus array_get_dec); (focus sizeOf_list_dec); (focus (exact Nat.le_of_ble_eq_true rfl)); (focus (exact Nat.le_of_ble_eq_true rfl)))
  | ((apply EM.repr_sw); (focus infer_instance); (focus nofun); (focus decide))
  | ((apply EM.eqd_same); (focus infer_instance); (focus infer_instance); (focus nofun); (focus decide))
  | ((apply EM.ned_same); (focus infer_instance); (focus infer_instance); (focus nofun); (focus decide))
  | ((apply EM.eqd_sw); (focus infer_instance); (focus infer_instance); (focus nofun); (focus nofun); (focus decide))
  | ((apply EM.ned_sw); (focus infer_instance); (focus infer_instance); (focus nofun); (focus nofun); (focus decide))
  | (refine EM.cut_bs (by with_reducible assumption) ?_ ?_ ?_; (focus array_get_dec); (focus array_get_dec))
  | refine EM.Sw.mk (sp := (spNeedE _)) ?_)))
section
variable {P : Program} {w : World} {K : PySem.W.Frag} {mg : Str → Option Value} {base : Heap}
theorem ok_need_edge (T : Tx K mg) : FnR P w K mg base (L2.CX P w) 3 (He.ga K "need_edge") (spNeedE K) := by
  obtain ⟨fd, F⟩ := T.d_need_edge
  refine EM.fnr F sc_need_edge (fun _ _ _ _ _ _ us hl => match us, hl with | [_, _], _ => rfl) (fun vs H Q E h => ?_) (fun cdv A outer s H vs Q E hr h => ?_)
  · obtain ⟨T0, p, l, n, m, v, rfl, _⟩ := h
    rfl
  · obtain ⟨T0, p, l, n, m, v, rfl, B0, h⟩ := h
    obtain ⟨fdNoEdge, okNoEdge, bNoEdge⟩ := mk_NoEdge (P := P) (w := w) (base := base) T
    have tk := takes_of (X := cxOf (L2.CX P w) P w K mg base ["thing", "many"] "need_edge" (defScope s_need_edge) (He.ga K "need_edge") cdv A outer s H E) (E := E) rfl rfl rfl rfl
    refine ⟨_, (pss_one (ps_if (PW.pt (pw_or (pt_not (pt_val (pe_callB call_isi (by rfl) T.f_isinstance (by decide +kernel) (pa_cons (pv 0) (pa_cons (pe_bltn (v := .ty "int") (by rfl) T.f_int boot_int rfl) pa_nil))))) (pw_or (pt_val (pe_callB call_isi (by rfl) T.f_isinstance (by decide +kernel) (pa_cons (pv 0) (pa_cons (pe_bltn (v := .ty "bool") (by rfl) T.f_bool boot_bool rfl) pa_nil)))) (pw_or1 (pt_not (pt_chain op_le op_lt pe_int (pv 0) (pv 1)))))))
  (pss_one (EM.ps_rz1 rfl T.ox_NoEdge T.oi_NoEdge okNoEdge (hr.mono (by decide)) bNoEdge passL T.g_NoEdge tk (pa_cons (pv 0) pa_nil))) pss_nil)), ?_⟩
    rcases h with ⟨i, rfl, hi, k⟩ | ⟨⟨i, rfl, hi⟩ | od, bad⟩
    · refine ⟨_, rfl, .int i, .ty "int", .type "int", .type "int", true, rfl, .ty "int", .base (.int i), kit_ty (by decide +kernel), true, rfl, EM.ifNotT ?_⟩
      refine ⟨_, rfl, .int i, .ty "bool", .type "int", .type "bool", false, rfl, .ty "bool", .base (.int i), kit_ty (by decide +kernel), false, rfl, iteF ?_⟩
      repeat' array_mem_dec
      refine ifLe (fun c => ?_) (fun c => by omega)
      repeat' array_mem_dec
      refine ifN ?_ ?_
      · show (!decide ((i : Int) < (m : Int))) = false
        rw [decide_eq_true (by omega)]
        rfl
      · exact k
    · refine ⟨_, rfl, .int i, .ty "int", .type "int", .type "int", true, rfl, .ty "int", .base (.int i), kit_ty (by decide +kernel), true, rfl, EM.ifNotT ?_⟩
      refine ⟨_, rfl, .int i, .ty "bool", .type "int", .type "bool", false, rfl, .ty "bool", .base (.int i), kit_ty (by decide +kernel), false, rfl, iteF ?_⟩
      repeat' array_mem_dec
      refine ifLe (fun c => ?_) (fun c => ?_)
      · repeat' array_mem_dec
        refine ifP ?_ ?_
        · show (!decide ((i : Int) < (m : Int))) = true
          rw [decide_eq_false (by omega)]
          rfl
        · repeat' array_mem_dec
          rename_i d H2 s2 n2 h2
          exact bad d H2 (Ext.same s2) (B0.same s2) ((B0.same s2).at_ h2 (fun _ z => by cases z) (fun _ z => by cases z))
      · repeat' array_mem_dec
        rename_i d H2 s2 n2 h2
        exact bad d H2 (Ext.same s2) (B0.same s2) ((B0.same s2).at_ h2 (fun _ z => by cases z) (fun _ z => by cases z))
    · obtain ⟨ty, b1, b2, h1, h2, h3, h4⟩ := oddM_int T od
      refine ⟨_, rfl, v, .ty "int", ty, .type "int", b1, rfl, .ty "int", h1, h2, b1, rfl, ?_⟩
      cases b1 with
      | true =>
        have e2 : b2 = true := by simpa using h4
        subst e2
        refine EM.ifNotT ⟨_, rfl, v, .ty "bool", ty, .type "bool", true, rfl, .ty "bool", h1, h3, true, rfl, iteT ?_⟩
        repeat' array_mem_dec
        rename_i d H2 s2 n2 h2
        exact bad d H2 (Ext.same s2) (B0.same s2) ((B0.same s2).at_ h2 (fun _ z => by cases z) (fun _ z => by cases z))
      | false =>
        refine EM.ifNotF ?_
        repeat' array_mem_dec
        rename_i d H2 s2 n2 h2
        exact bad d H2 (Ext.same s2) (B0.same s2) ((B0.same s2).at_ h2 (fun _ z => by cases z) (fun _ z => by cases z))
end
end K12
namespace K12
open PySem PySem.Spec PyProof.Rows L2 EM
def spLenR (K : PySem.W.Frag) : Sp := fun vs H Q _ => ∃ (p r q : Addr) (es : List (Int × Int)), vs = [.ref r] ∧ RdP K p H r q es ∧ Q (.int es.length) H
/-- a reading asked for the edge of anything -/
def spGetR (K : PySem.W.Frag) : Sp := fun vs H Q E => ∃ (T : List (Addr × Str)) (p l r q : Addr) (n : Nat) (v : V) (es : List (Int × Int)), vs = [.ref r, v] ∧ Bs T p l n H ∧ RdP K p H r q es ∧ es.length ≤ 128 ∧
  ((∃ (i : Nat) (e : Int × Int), v = .int i ∧ es[i]? = some e ∧ ∀ c, RatP K p H c e.1 e.2 → Q (.ref c) H) ∨ (NoIxR K p H es.length v ∧ ErrOut K T p l n H E "NoEdge" "value" v))
/-- a reading beside another one, or a value of another kind -/
structure EqRd (K : PySem.W.Frag) (x y : V) (H : Hp) (Q : VK) : Prop where
  h : ∃ (T : List (Addr × Str)) (p l r q : Addr) (n : Nat) (es : List (Int × Int)), x = .ref r ∧ Bs T p l n H ∧ RdP K p H r q es ∧ ((∃ (r' q' : Addr) (fs : List (Int × Int)), y = .ref r' ∧ RdP K p H r' q' fs ∧ RowOk 2000 es ∧ RowOk 2000 fs ∧ ∀ H', Ext p H H' → Bs T p l n H' → Q (.bl (decide (es = fs))) H') ∨ ((∃ t, DecT H y t ∧ (t = "tuple" ∨ t = "list" ∨ t = "NoneType")) ∧ Q (.bl false) H))
def spEqRd (K : PySem.W.Frag) : Sp := fun vs H Q _ => ∃ x y, vs = [x, y] ∧ EqRd K x y H Q
theorem eqRd_bs {K : PySem.W.Frag} {T : List (Addr × Str)} {p l r q r' q' : Addr} {n : Nat} {es fs : List (Int × Int)} {H : Hp} {Q : VK} (B : Bs T p l n H) (h : RdP K p H r q es) (g : RdP K p H r' q' fs) (o1 : RowOk 2000 es) (o2 : RowOk 2000 fs) (k : ∀ H', Ext p H H' → Bs T p l n H' → Q (.bl (decide (es = fs))) H') : EqRd K (.ref r) (.ref r') H Q :=
  ⟨⟨T, p, l, r, q, n, es, rfl, B, h, .inl ⟨r', q', fs, rfl, g, o1, o2, k⟩⟩⟩
theorem eqRd_odd {K : PySem.W.Frag} {T : List (Addr × Str)} {p l r q : Addr} {n : Nat} {es : List (Int × Int)} {y : V} {t : String} {H : Hp} {Q : VK} (B : Bs T p l n H) (h : RdP K p H r q es) (d : DecT H y t) (m : t = "tuple" ∨ t = "list" ∨ t = "NoneType") (k : Q (.bl false) H) : EqRd K (.ref r) y H Q :=
  ⟨⟨T, p, l, r, q, n, es, rfl, B, h, .inr ⟨⟨t, d, m⟩, k⟩⟩⟩
local macro_rules | `(tactic| sizeOf_list_dec) => `(tactic| first
  | with_reducible assumption
  | ((with_reducible apply EM.At.ext); (focus (with_reducible assumption)); (focus sizeOf_list_dec))
  | ((with_reducible apply EM.RatP.ext); (focus (with_reducible assumption)); (focus sizeOf_list_dec))
  | ((with_reducible apply EM.NumP.ext); (focus (with_reducible assumption)); (focus sizeOf_list_dec))
  | (with_reducible exact EM.Ext.refl)
  | ((with_reducible apply EM.Ext.back); (focus (with_reducible assumption)); (focus sizeOf_list_dec))
  | exact EM.NumP.int _
  | ((with_reducible apply EM.Mu.at_k); (focus (with_reducible assumption)); (focus sizeOf_list_dec); (focus sizeOf_list_dec); (focus (intro _ z; cases z; done)))
  | ((with_reducible apply EM.Mu.at_n); (focus (with_reducible assumption)); (focus sizeOf_list_dec); (focus (first | with_reducible assumption | ((apply EM.nn1); (focus (with_reducible assumption)); (focus sizeOf_list_dec)) | ((apply EM.nn2); (focus (with_reducible assumption)); (focus sizeOf_list_dec)))))
  | ((with_reducible apply EM.Mu.here); (focus (with_reducible assumption)); (focus sizeOf_list_dec))
  | ((with_reducible apply EM.Mu.rat); (focus (with_reducible assumption)); (focus sizeOf_list_dec); (focus sizeOf_list_dec))
  | ((with_reducible apply EM.Mu.num); (focus (with_reducible assumption)); (focus sizeOf_list_dec); (focus sizeOf_list_dec))
  | ((with_reducible apply EM.num_of_rat); (focus sizeOf_list_dec); (focus (first | with_reducible assumption | (apply EM.n_low; assumption))))
  | ((with_reducible apply EM.RatsP.xt); (focus (with_reducible assumption)); (focus sizeOf_list_dec))
  | ((with_reducible apply EM.NumsP.xt); (focus (with_reducible assumption)); (focus sizeOf_list_dec))
  | ((with_reducible apply EM.PairsP.xt); (focus (with_reducible assumption)); (focus sizeOf_list_dec))
  | ((with_reducible apply EM.RdP.xt); (focus (with_reducible assumption)); (focus sizeOf_list_dec))
  | ((with_reducible apply EM.Mu.rats); (focus (with_reducible assumption)); (focus sizeOf_list_dec); (focus sizeOf_list_dec))
  | ((with_reducible apply EM.Mu.pairs); (focus (with_reducible assumption)); (focus sizeOf_list_dec); (focus sizeOf_list_dec))
  | ((with_reducible apply EM.Mu.rdp); (focus (with_reducible assumption)); (focus sizeOf_list_dec); (focus sizeOf_list_dec)))
local macro_rules | `(tactic| decreasing_trivial_pre_omega) => `(tactic| first
  | with_reducible assumption
  | exact EM.Bt.mono (by with_reducible assumption) (by decide)
  | exact EM.Bt.lit _ _ (by decide +kernel)
  | ((with_reducible refine EM.Bt.rng32 ?_ ?_) <;> omega)
  | ((with_reducible refine EM.Bt.rng70 ?_ ?_) <;> omega)
  | ((with_reducible refine EM.Bt.rng200 ?_ ?_) <;> omega)
  | ((with_reducible apply EM.Bt.mulM); (focus decreasing_trivial_pre_omega); (focus decreasing_trivial_pre_omega); (focus (first | decide | exact Nat.le_refl _)))
  | ((with_reducible apply EM.Bt.addM); (focus decreasing_trivial_pre_omega); (focus decreasing_trivial_pre_omega); (focus (first | decide | exact Nat.le_refl _)))
  | ((with_reducible apply EM.Bt.subM); (focus decreasing_trivial_pre_omega); (focus decreasing_trivial_pre_omega); (focus (first | decide | exact Nat.le_refl _)))
  | ((with_reducible apply EM.Bt.topL); (focus decreasing_trivial_pre_omega); (focus assumption); (focus (first | decide | exact Nat.le_refl _)))
  | ((with_reducible apply EM.Bt.botL); (focus decreasing_trivial_pre_omega); (focus assumption); (focus (first | decide | exact Nat.le_refl _)))
  | ((with_reducible apply EM.Bt.divM); (focus decreasing_trivial_pre_omega); (focus assumption); (focus (first | decide | exact Nat.le_refl _)))
  | ((with_reducible apply EM.Bt.negM); (focus decreasing_trivial_pre_omega); (focus (first | decide | exact Nat.le_refl _))))
local macro_rules | `(tactic| array_get_dec) => `(tactic| first
  | with_reducible assumption
  | ((with_reducible refine EM.gEq ?_); exact rfl)
  | ((with_reducible refine EM.gTru ?_); exact rfl)
  | ((with_reducible refine EM.gRef ?_); first | exact Or.inl ⟨_, rfl⟩ | exact Or.inr ⟨_, rfl⟩)
  | ((with_reducible apply EM.At.get); sizeOf_list_dec)
  | ((with_reducible apply EM.At.sqL); sizeOf_list_dec)
  | ((with_reducible apply EM.At.sqT); sizeOf_list_dec)
  | ((with_reducible apply EM.RatP.getK); (focus sizeOf_list_dec); (focus (exact rfl)))
  | (with_reducible exact EM.Num.int _)
  | ((with_reducible apply EM.NumP.getK); (focus sizeOf_list_dec); (focus (exact rfl)))
  | ((with_reducible apply EM.At.ext); (focus (with_reducible assumption)); (focus sizeOf_list_dec))
  | ((with_reducible apply EM.RatP.ext); (focus (with_reducible assumption)); (focus sizeOf_list_dec))
  | ((with_reducible apply EM.NumP.ext); (focus (with_reducible assumption)); (focus sizeOf_list_dec))
  | with_reducible exact Tx.cl_Ratio (by assumption)
  | with_reducible exact Tx.cl_Reading (by assumption)
  | with_reducible exact Tx.na_Ratio_top (by assumption)
  | with_reducible exact Tx.na_Ratio_bottom (by assumption)
  | with_reducible exact Tx.na_Reading_own_edges (by assumption)
  | ((with_reducible refine EM.gAt ?_); sizeOf_list_dec)
  | ((with_reducible refine EM.gRat ?_); sizeOf_list_dec)
  | ((with_reducible refine EM.gNum ?_); sizeOf_list_dec)
  | ((with_reducible apply EM.TwoP.mk); (focus (with_reducible assumption)); (focus sizeOf_list_dec); (focus (first | with_reducible assumption | (apply EM.n_low; assumption))); (focus sizeOf_list_dec); (focus decreasing_trivial_pre_omega); (focus decreasing_trivial_pre_omega); (focus decreasing_trivial_pre_omega); (focus decreasing_trivial_pre_omega))
  | (with_reducible exact EM.Ext.refl)
  | ((with_reducible apply EM.Ext.back); (focus (with_reducible assumption)); (focus sizeOf_list_dec))
  | ((with_reducible apply EM.Bs.mono); (focus (with_reducible assumption)); omega)
  | ((with_reducible refine EM.gN ?_); first | decide | omega | exact Nat.le_of_ble_eq_true rfl | (simp only [List.length_cons, List.length_nil, List.length_append]; omega))
  | ((with_reducible refine EM.gM ?_); first | decide | omega | exact Nat.le_of_ble_eq_true rfl)
  | ((with_reducible refine EM.gI ?_); first | decide | omega)
  | ((with_reducible refine EM.gJ ?_); first | decide | omega)
  | ((with_reducible refine EM.gE ?_); first | decide | omega)
  | ((with_reducible refine EM.gB ?_); decreasing_trivial_pre_omega)
  | ((with_reducible apply EM.wideM); (focus decreasing_trivial_pre_omega); (focus decreasing_trivial_pre_omega); (focus decide)))
local macro_rules | `(tactic| infer_instance) => `(tactic| first
  | with_reducible assumption
  | exact DpAll.nil
  | (apply DpAll.cons; (focus infer_instance); (focus infer_instance))
  | with_reducible exact Dp.int _
  | exact Dp.int _
  | with_reducible exact Dp.str _
  | exact Dp.bl _
  | exact Dp.non
  | ((with_reducible apply EM.dp_lst); (focus array_get_dec); (focus infer_instance))
  | ((with_reducible apply EM.dp_tup); (focus array_get_dec); (focus infer_instance))
  | exact EM.dp_ints _)
local macro_rules | `(tactic| nofun) => `(tactic| first
  | with_reducible assumption
  | exact EM.FeL.nil
  | exact EM.FdL.nil
  | (apply EM.FeL.cons; (focus nofun); (focus nofun))
  | (apply EM.FdL.cons; (focus nofun); (focus nofun))
  | exact EM.Fe.int _
  | exact EM.Fe.bool _
  | exact EM.Fe.non
  | exact EM.Fe.str (EM.okS_of _)
  | (apply EM.Fe.str; apply EM.Fd.ok; (focus nofun))
  | (apply EM.Fe.list; (focus nofun))
  | (apply EM.Fe.tup; (focus nofun))
  | (apply EM.Fd.int; (focus decreasing_trivial_pre_omega))
  | exact EM.Fd.bool _
  | exact EM.Fd.non
  | (refine EM.Fd.bool _)
  | (apply EM.Fd.list; (focus nofun))
  | (apply EM.Fd.tup; (focus nofun)))
local macro_rules | `(tactic| array_mem_dec) => `(tactic| ((with_reducible refine EM.pr ?_); first
  | (with_reducible refine L2.iteT ?_)
  | (with_reducible refine L2.iteF ?_)
  | (with_reducible refine EM.ifNotT ?_)
  | (with_reducible refine EM.ifNotF ?_)
  | ((fail_if_success (with_reducible refine EM.gIf ?_)); first
  | array_get_dec
  | (refine EM.mk_low (by with_reducible assumption) (by with_reducible assumption) ?_ ?_; (focus array_get_dec))
  | (apply EM.isNum_sw; (focus sizeOf_list_dec))
  | (apply EM.of_sw; (focus (with_reducible assumption)); (focus sizeOf_list_dec))
  | (apply EM.neg_bs; (focus (with_reducible assumption)); (focus sizeOf_list_dec); (focus array_get_dec); (focus array_get_dec))
  | (apply EM.relw_bs; (focus (with_reducible assumption)); (focus sizeOf_list_dec); (focus sizeOf_list_dec); (focus array_get_dec); (focus decreasing_trivial_pre_omega); (focus decreasing_trivial_pre_omega); (focus decreasing_trivial_pre_omega); (focus decreasing_trivial_pre_omega))
  | ((apply EM.DnS.bs); (focus (with_reducible assumption)); (focus (intro _ z; cases z; done)))
  | ((apply EM.seqL); (focus sizeOf_list_dec))
  | ((apply EM.seqT); (focus sizeOf_list_dec))
  | ((apply EM.lenL); (focus sizeOf_list_dec))
  | ((apply EM.lenT); (focus sizeOf_list_dec))
  | ((apply EM.isSeqL); (focus sizeOf_list_dec); (focus sizeOf_list_dec))
  | ((apply EM.isSeqT); (focus sizeOf_list_dec); (focus sizeOf_list_dec))
  | ((apply EM.tupL); (focus sizeOf_list_dec))
  | ((apply EM.fld_bs); (focus sizeOf_list_dec); (focus (exact Tx.cl_Reading (by assumption))); (focus (exact Tx.na_Reading_own_edges (by assumption))); (focus (exact rfl)))
  | ((with_reducible refine EM.New.bs (by with_reducible assumption) ?_ ?_); (focus (intro _ z; cases z; done)))
  | ((with_reducible refine EM.gMu ?_); (with_reducible apply EM.mu_bs); (focus (with_reducible assumption)); (focus sizeOf_list_dec); (focus (apply EM.nel2; (focus (with_reducible assumption)); (focus (with_reducible assumption)))); intro _ _ _)
  | intro _
  | (apply And.intro; (focus array_get_dec))
  | apply Exists.intro
  | (refine EM.draw_bs (by with_reducible assumption) ?_ ?_ ?_ ?_; (focus array_get_dec); (focus array_get_dec); (focus (first | decide | omega)))
  | (apply EM.pick_bs; (focus (with_reducible assumption)); (focus array_get_dec); (focus sizeOf_list_dec); (focus (exact Nat.le_of_ble_eq_true rfl)); (focus (exact Nat.le_of_ble_eq_true rfl)))
  | ((apply EM.repr_sw); (focus infer_instance); (focus nofun); (focus decide))
  | ((apply EM.eqd_same); (focus infer_instance); (focus infer_instance); (focus nofun); (focus decide))
  | ((apply EM.ned_same); (focus infer_instance); (focus infer_instance); (focus nofun); (focus decide))
  | ((apply EM.eqd_sw); (focus infer_instance); (focus infer_instance); (focus nofun); (focus nofun); (focus decide))
  | ((apply EM.ned_sw); (focus infer_instance); (focus infer_instance); (focus nofun); (focus nofun); (focus decide))
  | (refine EM.cut_bs (by with_reducible assumption) ?_ ?_ ?_; (focus array_get_dec); (focus array_get_dec)))))
section
variable {P : Program} {w : World} {K : PySem.W.Frag} {mg : Str → Option Value} {base : Heap}
theorem ok_Reading_len (T : Tx K mg) : FnR P w K mg base (L2.CX P w) 1 (He.ma K (He.ga K "Reading") "__len__") (spLenR K) := by
  obtain ⟨fd, F⟩ := T.d_Reading_len
  refine EM.fnr F sc_Reading_len (fun _ _ _ _ _ _ us hl => match us, hl with | [_], _ => rfl) (fun vs H Q E h => ?_) (fun cdv A outer s H vs Q E hr h => ?_)
  · obtain ⟨p, r, q, es, rfl, _⟩ := h
    rfl
  · obtain ⟨p, r, q, es, rfl, ⟨dx, xs, h1, h2, h3⟩, k⟩ := h
    rw [← h3.len] at k
    refine ⟨_, (PSs.nox (pss_one (ps_ret (pe_callB EM.call_lenN (by rfl) T.f_len boot_len (pa_cons (EM.pe_fldN (pv 0)) pa_nil))))), ?_⟩
    repeat' array_mem_dec
theorem ok_Reading_getitem (T : Tx K mg) : FnR P w K mg base (L2.CX P w) 5 (He.ma K (He.ga K "Reading") "__getitem__") (spGetR K) := by
  obtain ⟨fd, F⟩ := T.d_Reading_getitem
  refine EM.fnr F sc_Reading_getitem (fun _ _ _ _ _ _ us hl => match us, hl with | [_, _], _ => rfl) (fun vs H Q E h => ?_) (fun cdv A outer s H vs Q E hr h => ?_)
  · obtain ⟨T0, p, l, r, q, n, v, es, rfl, _⟩ := h
    rfl
  · obtain ⟨T0, p, l, r, q, n, v, es, rfl, B0, ⟨dx, xs, h1, h2, h3⟩, hl, h⟩ := h
    have hx := h3.len
    have tk := takes_of (X := cxOf (L2.CX P w) P w K mg base ["self", "at"] "Reading.__getitem__" (defScope s_Reading_getitem) (He.ma K (He.ga K "Reading") "__getitem__") cdv A outer s H E) (E := E) rfl rfl rfl rfl
    refine ⟨_, (pss_cons (ps_expr (EM.pe_cR ((ok_need_edge T).sw) (hr.mono (by decide)) T.k_need_edge T.g_need_edge (passes_call tk (fun _ _ _ _ h => h)) (pa_cons (pv 1) (pa_cons (pe_callB EM.call_lenN (by rfl) T.f_len boot_len (pa_cons (EM.pe_fldN (pv 0)) pa_nil)) pa_nil))))
 (pss_one (ps_ret (pe_ix ix_tup (EM.pe_fldN (pv 0)) (pv 1) (fun _ _ => rfl))))), ?_⟩
    repeat' array_mem_dec
    --G1
    rw [hx]
    rcases h with ⟨i, e, rfl, he, k⟩ | ⟨no, bad⟩
    · have hi := (List.getElem?_eq_some_iff.mp he).1
      obtain ⟨c, ec, rc⟩ := h3.get he
      have ix1 : atI xs (i : Int) = some (.ref c) := at_of (j := i) rfl ec
      refine ⟨⟨T0, p, l, n, es.length, _, rfl, B0, .inl ⟨i, rfl, hi, ?_⟩⟩⟩
      repeat' array_mem_dec
      --G2
      exact k c rc
    · refine ⟨⟨T0, p, l, n, es.length, v, rfl, B0, .inr ⟨no, bad⟩⟩⟩
theorem ok_Reading_eq (T : Tx K mg) : FnR P w K mg base (L2.CX P w) 9 (He.ma K (He.ga K "Reading") "__eq__") (spEqRd K) := by
  obtain ⟨fd, F⟩ := T.d_Reading_eq
  refine EM.fnr F sc_Reading_eq (fun _ _ _ _ _ _ us hl => match us, hl with | [_, _], _ => rfl) (fun vs H Q E h => ?_) (fun cdv A outer s H vs Q E hr h => ?_)
  · obtain ⟨x, y, rfl, _⟩ := h
    rfl
  · obtain ⟨x, y, rfl, ⟨⟨T0, p, l, r, q, n, es, rfl, B0, ⟨dx, xs, h1, h2, h3⟩, h⟩⟩⟩ := h
    refine ⟨_, (PSs.nox (pss_one (ps_ret (pe_and (pe_callB call_isi (by rfl) T.f_isinstance (by decide +kernel) (pa_cons (pv 1) (pa_cons (pe_glob (v := .ref (He.ga K "Reading")) (by rfl) T.g_Reading rfl) pa_nil))) (pe_one (pe_cmpR (op_tEq T (hr.mono (by decide))) (EM.pe_fldN (pv 0)) (EM.pe_fldN (pv 1)) (nomark _))))))), ?_⟩
    rcases h with ⟨r', q', fs, rfl, ⟨dy, ys, g1, g2, g3⟩, o1, o2, k⟩ | ⟨⟨t, d, m⟩, k⟩
    · refine ⟨_, rfl, .ref r', .ref (He.ga K "Reading"), _, _, true, rfl, .own _, isiB_ty T.isi_Reading T.cl_Reading g1.at_, kSelf, true, rfl, iteT ?_⟩
      repeat' array_mem_dec
      exact ⟨⟨T0, p, l, n, q, q', xs, ys, es, fs, rfl, rfl, B0, h2, g2, h3, g3, o1, o2, k⟩⟩
    · have ty : TyX K H y (.type t) ∧ PySem.W.kitOne K (.type t) (.ref (He.ga K "Reading")) = some false := by
        cases d with
        | non => exact ⟨.base .non, T.kit_NoneType_Reading⟩
        | tup h => exact ⟨.base (.tup h), T.kit_tuple_Reading⟩
        | lst h => exact ⟨.base (.lst h), T.kit_list_Reading⟩
        | int i => simp at m
        | bl b => simp at m
        | str z => simp at m
        | dct h => simp at m
      refine ⟨_, rfl, y, .ref (He.ga K "Reading"), _, _, false, rfl, .own _, ty.1, ty.2, false, rfl, iteF ?_⟩
      repeat' array_mem_dec
      --E2
theorem op_eqRd (T : Tx K mg) {X : Cx} (hr : Room 9 X.A) (e1 : X.K = K := by rfl) (e2 : X.mg = mg := by rfl) : OpR X (compareOp .Eq) (EqRd K) := by
  subst e1 e2
  refine opR_of (op_cmpL (E := E0) (op := .Eq) (fun _ _ => rfl) T.m_Reading_eq.at_ T.m_Reading_eq.fn T.ap_Reading (ok_Reading_eq T) hr passL) fun x y H Q h => ?_
  have h' := h
  obtain ⟨⟨T0, p, l, r, q, n, es, rfl, B0, rd, h⟩⟩ := h'
  obtain ⟨dx, a1⟩ := rd.at_
  rcases h with ⟨r', q', fs, rfl, rd2, _⟩ | ⟨⟨t, d, _⟩, _⟩
  · obtain ⟨dy, a2⟩ := rd2.at_
    exact ⟨r, dx, _, rfl, a1.at_, .inl ⟨r', dy, _, rfl, a2.at_⟩, _, _, rfl, h⟩
  · exact ⟨r, dx, _, rfl, a1.at_, .inr ⟨t, d⟩, _, _, rfl, h⟩
end
end K12
namespace K12
open PySem PySem.Spec PyProof.Rows L2 EM
/-- the first of the values that makes no edge -/
def dueR : Option (Int × Int) → Nat → List (Option (Int × Int)) → Option (Str × Nat)
  | _, _, [] => none
  | _, i, none :: _ => some (("reading" : Str), i)
  | none, i, some f :: r => dueR (some f) (i + 1) r
  | some e, i, some f :: r => if f.1 * e.2 ≤ e.1 * f.2 then some (("rising" : Str), i) else dueR (some f) (i + 1) r
abbrev cntOk (m : Nat) : Prop := okLen m
instance (m : Nat) : Decidable (okLen m) := inferInstanceAs (Decidable (m % 2 = 0 ∧ 4 ≤ m ∧ m ≤ 128))
/-- what is told of values that make no reading -/
def dueO (os : List (Option (Int × Int))) : Option (Str × V) := if cntOk os.length then (dueR none 0 os).map fun z => (z.1, .int z.2) else some (("reading" : Str), .non)
/-- the one ahead of place i -/
def befO (os : List (Option (Int × Int))) (i : Nat) : Option (Int × Int) := if i = 0 then none else (os[i - 1]?).getD none
theorem due_at {os : List (Option (Int × Int))} : ∀ {i : Nat}, FineTo os i → dueR none 0 os = dueR (befO os i) i (os.drop i)
  | 0, _ => rfl
  | i + 1, h => by
    have h0 : FineTo os i := fun j hj => h j (by omega)
    rw [due_at h0]
    obtain ⟨e, he, hr⟩ := h i (by omega)
    have hlt : i < os.length := (List.getElem?_eq_some_iff.mp he).1
    have hd : os.drop i = some e :: os.drop (i + 1) := by
      rw [List.drop_eq_getElem_cons hlt, (List.getElem?_eq_some_iff.mp he).2]
    have hb : befO os (i + 1) = some e := by
      unfold befO
      rw [if_neg (by omega), show i + 1 - 1 = i by omega, he]
      rfl
    rw [hd, hb]
    rcases Nat.eq_zero_or_pos i with z | z
    · subst z
      rfl
    · obtain ⟨e', he', _⟩ := h (i - 1) (by omega)
      have hb2 : befO os i = some e' := by
        unfold befO
        rw [if_neg (by omega), he']
        rfl
      rw [hb2]
      have lt := hr (i - 1) e' (by omega) he'
      exact if_neg (by omega)
theorem due_none {os : List (Option (Int × Int))} {i : Nat} (h : FineTo os i) (e : os[i]? = some none) : dueR none 0 os = some (("reading" : Str), i) := by
  have hlt : i < os.length := (List.getElem?_eq_some_iff.mp e).1
  have hd : os.drop i = none :: os.drop (i + 1) := by rw [List.drop_eq_getElem_cons hlt, (List.getElem?_eq_some_iff.mp e).2]
  rw [due_at h, hd]
  cases befO os i <;> rfl
theorem due_fall {os : List (Option (Int × Int))} {i : Nat} {e f : Int × Int} (h : FineTo os (i + 1)) (he : os[i]? = some (some e)) (hf : os[i + 1]? = some (some f)) (le : f.1 * e.2 ≤ e.1 * f.2) : dueR none 0 os = some (("rising" : Str), i + 1) := by
  have hlt : i + 1 < os.length := (List.getElem?_eq_some_iff.mp hf).1
  have hd : os.drop (i + 1) = some f :: os.drop (i + 1 + 1) := by rw [List.drop_eq_getElem_cons hlt, (List.getElem?_eq_some_iff.mp hf).2]
  have hb : befO os (i + 1) = some e := by
    unfold befO
    rw [if_neg (by omega), show i + 1 - 1 = i by omega, he]
    rfl
  rw [due_at h, hd, hb]
  exact if_pos le
theorem due_fine {os : List (Option (Int × Int))} (h : FineTo os os.length) : dueR none 0 os = none := by
  rw [due_at h, List.drop_length]
  cases befO os os.length <;> rfl
end K12
namespace K12
open PySem PySem.Spec PyProof.Rows L2 EM
def spFrac : Sp := fun vs H Q _ => ∃ u l : Int, vs = [.int u, .int l] ∧ 0 < l ∧ l.natAbs.log2 < 9000 ∧ ∀ p H', Same H H' → H p = none → H' p = some (.tup [.int (nTop u l), .int (nBot u l)]) → Q (.ref p) H'
theorem frac_bs {T : List (Addr × Str)} {p l : Addr} {n : Nat} {H : Hp} {Q : VK} {E : XK} {u c : Int} (B : Bs T p l n H) (h0 : 0 < c) (hb : Bt 4100 c) (k : ∀ q H', Ext p H H' → Bs T p l n H' → At p H' q (.tup [.int (nTop u c), .int (nBot u c)]) → Q (.ref q) H') : Sw spFrac [.int u, .int c] H Q E :=
  ⟨⟨u, c, rfl, h0, Nat.lt_trans (hb.log (by decide)) (by decide), fun q H' s nq hq => k q H' (Ext.same s) (B.same s) ((B.same s).at_ hq (fun _ z => by cases z) (fun _ z => by cases z))⟩⟩
def spSumF : Sp := fun vs H Q _ => ∃ (T : List (Addr × Str)) (p l x y : Addr) (n : Nat) (e b : Int × Int), vs = [.ref x, .ref y] ∧ Bs T p l n H ∧ At p H x (.tup [.int e.1, .int e.2]) ∧ At p H y (.tup [.int b.1, .int b.2]) ∧ 0 < e.2 ∧ 0 < b.2 ∧ Bt 2000 e.1 ∧ Bt 2000 e.2 ∧ Bt 2000 b.1 ∧ Bt 2000 b.2 ∧
  ∀ q H', Ext p H H' → Bs T p l n H' → At p H' q (.tup [.int (addF b e).1, .int (addF b e).2]) → Q (.ref q) H'
def spLessF : Sp := fun vs H Q _ => ∃ (p x y : Addr) (e b : Int × Int), vs = [.ref x, .ref y] ∧ At p H x (.tup [.int e.1, .int e.2]) ∧ At p H y (.tup [.int b.1, .int b.2]) ∧ Bt 2000 e.1 ∧ Bt 2000 e.2 ∧ Bt 2000 b.1 ∧ Bt 2000 b.2 ∧ Q (.bl (decide (e.1 * b.2 < b.1 * e.2))) H
theorem sumF_bs {T : List (Addr × Str)} {p l x y : Addr} {n : Nat} {e b : Int × Int} {H : Hp} {Q : VK} {E : XK} (B : Bs T p l n H) (h1 : At p H x (.tup [.int e.1, .int e.2])) (h2 : At p H y (.tup [.int b.1, .int b.2])) (l1 : Low e.1 e.2) (l2 : Low b.1 b.2) (b1 : Bt 2000 e.1 ∧ Bt 2000 e.2) (b2 : Bt 2000 b.1 ∧ Bt 2000 b.2)
    (k : ∀ q H', Ext p H H' → Bs T p l n H' → At p H' q (.tup [.int (addF b e).1, .int (addF b e).2]) → Q (.ref q) H') : Sw spSumF [.ref x, .ref y] H Q E := ⟨⟨T, p, l, x, y, n, e, b, rfl, B, h1, h2, l1.pos, l2.pos, b1.1, b1.2, b2.1, b2.2, k⟩⟩
theorem lessF_bs {p x y : Addr} {e b : Int × Int} {H : Hp} {Q : VK} {E : XK} (h1 : At p H x (.tup [.int e.1, .int e.2])) (h2 : At p H y (.tup [.int b.1, .int b.2])) (b1 : Bt 2000 e.1 ∧ Bt 2000 e.2) (b2 : Bt 2000 b.1 ∧ Bt 2000 b.2) (k : Q (.bl (decide (e.1 * b.2 < b.1 * e.2))) H) : Sw spLessF [.ref x, .ref y] H Q E := ⟨⟨p, x, y, e, b, rfl, h1, h2, b1.1, b1.2, b2.1, b2.2, k⟩⟩
/-- the bottoms of drawn numbers divide it -/
abbrev DD : Nat := 36 * 10 ^ 30
def spDrawnF : Sp := fun vs H Q _ => ∃ (T : List (Addr × Str)) (p l : Addr) (n : Nat), vs = [.ref p] ∧ Bs T p l n H ∧ n ≤ 900000 ∧ ∀ q e H', Dv DD 20 e → Ext p H H' → Bs T p l (n + 2) H' → At p H' q (.tup [.int e.1, .int e.2]) → Q (.ref q) H'
def spPassF (K : PySem.W.Frag) : Sp := fun vs H Q _ => ∃ (T : List (Addr × Str)) (p l q : Addr) (n : Nat) (e : Int × Int), vs = [.ref p, .ref q] ∧ Bs T p l n H ∧ n ≤ 900000 ∧ At p H q (.tup [.int e.1, .int e.2]) ∧ Low e.1 e.2 ∧ Bt 1980 e.1 ∧ Bt 1980 e.2 ∧
  ∀ v H', NumP K p H' v e.1 e.2 → Ext p H H' → Bs T p l (n + 2) H' → Q v H'
def spIsF (K : PySem.W.Frag) : Sp := fun vs H Q _ => ∃ (T : List (Addr × Str)) (p l a d : Addr) (n : Nat) (e : Int × Int), vs = [.ref a, .ref d] ∧ Bs T p l n H ∧ RatP K p H a e.1 e.2 ∧ At p H d (.tup [.int e.1, .int e.2]) ∧ Bt 1900 e.1 ∧ Bt 1900 e.2 ∧ ∀ H', Ext p H H' → Bs T p l n H' → Q (.bl true) H'
def spAreF (K : PySem.W.Frag) : Sp := fun vs H Q _ => ∃ (T : List (Addr × Str)) (p l q d : Addr) (n : Nat) (xs zs : List V) (es : List (Int × Int)), vs = [.ref q, .ref d] ∧ Bs T p l n H ∧ At p H q (.tup xs) ∧ RatsP K p H xs es ∧ At p H d (.lst zs) ∧ PairsP p H zs es ∧ (∀ e ∈ es, Bt 1900 e.1 ∧ Bt 1900 e.2) ∧ es.length ≤ 1000 ∧
  ∀ H', Ext p H H' → Bs T p l n H' → Q (.bl true) H'
theorem dv_of {u c : Int} (h0 : 0 < c) (hd : c ∣ (DD : Int)) (hu : (u.natAbs : Int) ≤ 20 * c) : Dv DD 20 (nTop u c, nBot u c) := Dv.frac h0 hd hu
theorem DD_bt : DD < 2 ^ 106 := by decide +kernel
theorem DD_pos : 0 < DD := by decide +kernel
local macro_rules | `(tactic| sizeOf_list_dec) => `(tactic| first
  | with_reducible assumption
  | ((with_reducible apply EM.At.ext); (focus (with_reducible assumption)); (focus sizeOf_list_dec))
  | ((with_reducible apply EM.RatP.ext); (focus (with_reducible assumption)); (focus sizeOf_list_dec))
  | ((with_reducible apply EM.NumP.ext); (focus (with_reducible assumption)); (focus sizeOf_list_dec))
  | (with_reducible exact EM.Ext.refl)
  | ((with_reducible apply EM.Ext.back); (focus (with_reducible assumption)); (focus sizeOf_list_dec))
  | exact EM.NumP.int _
  | ((with_reducible apply EM.Mu.at_k); (focus (with_reducible assumption)); (focus sizeOf_list_dec); (focus sizeOf_list_dec); (focus (intro _ z; cases z; done)))
  | ((with_reducible apply EM.Mu.at_n); (focus (with_reducible assumption)); (focus sizeOf_list_dec); (focus (first | with_reducible assumption | ((apply EM.nn1); (focus (with_reducible assumption)); (focus sizeOf_list_dec)) | ((apply EM.nn2); (focus (with_reducible assumption)); (focus sizeOf_list_dec)))))
  | ((with_reducible apply EM.Mu.here); (focus (with_reducible assumption)); (focus sizeOf_list_dec))
  | ((with_reducible apply EM.Mu.rat); (focus (with_reducible assumption)); (focus sizeOf_list_dec); (focus sizeOf_list_dec))
  | ((with_reducible apply EM.Mu.num); (focus (with_reducible assumption)); (focus sizeOf_list_dec); (focus sizeOf_list_dec))
  | ((with_reducible apply EM.num_of_rat); (focus sizeOf_list_dec); (focus (first | with_reducible assumption | (apply EM.n_low; assumption))))
  | ((with_reducible apply EM.RatsP.xt); (focus (with_reducible assumption)); (focus sizeOf_list_dec))
  | ((with_reducible apply EM.NumsP.xt); (focus (with_reducible assumption)); (focus sizeOf_list_dec))
  | ((with_reducible apply EM.PairsP.xt); (focus (with_reducible assumption)); (focus sizeOf_list_dec))
  | ((with_reducible apply EM.RdP.xt); (focus (with_reducible assumption)); (focus sizeOf_list_dec))
  | ((with_reducible apply EM.Mu.rats); (focus (with_reducible assumption)); (focus sizeOf_list_dec); (focus sizeOf_list_dec))
  | ((with_reducible apply EM.Mu.pairs); (focus (with_reducible assumption)); (focus sizeOf_list_dec); (focus sizeOf_list_dec))
  | ((with_reducible apply EM.Mu.rdp); (focus (with_reducible assumption)); (focus sizeOf_list_dec); (focus sizeOf_list_dec)))
local macro_rules | `(tactic| decreasing_trivial_pre_omega) => `(tactic| first
  | with_reducible assumption
  | exact EM.Bt.mono (by with_reducible assumption) (by decide)
  | exact EM.Bt.lit _ _ (by decide +kernel)
  | ((with_reducible refine EM.Bt.rng32 ?_ ?_) <;> omega)
  | ((with_reducible refine EM.Bt.rng70 ?_ ?_) <;> omega)
  | ((with_reducible refine EM.Bt.rng200 ?_ ?_) <;> omega)
  | ((with_reducible apply EM.Bt.mulM); (focus decreasing_trivial_pre_omega); (focus decreasing_trivial_pre_omega); (focus (first | decide | exact Nat.le_refl _)))
  | ((with_reducible apply EM.Bt.addM); (focus decreasing_trivial_pre_omega); (focus decreasing_trivial_pre_omega); (focus (first | decide | exact Nat.le_refl _)))
  | ((with_reducible apply EM.Bt.subM); (focus decreasing_trivial_pre_omega); (focus decreasing_trivial_pre_omega); (focus (first | decide | exact Nat.le_refl _)))
  | ((with_reducible apply EM.Bt.topL); (focus decreasing_trivial_pre_omega); (focus assumption); (focus (first | decide | exact Nat.le_refl _)))
  | ((with_reducible apply EM.Bt.botL); (focus decreasing_trivial_pre_omega); (focus assumption); (focus (first | decide | exact Nat.le_refl _)))
  | ((with_reducible apply EM.Bt.divM); (focus decreasing_trivial_pre_omega); (focus assumption); (focus (first | decide | exact Nat.le_refl _)))
  | ((with_reducible apply EM.Bt.negM); (focus decreasing_trivial_pre_omega); (focus (first | decide | exact Nat.le_refl _))))
local macro_rules | `(tactic| array_get_dec) => `(tactic| first
  | with_reducible assumption
  | ((with_reducible refine EM.gEq ?_); exact rfl)
  | ((with_reducible refine EM.gTru ?_); exact rfl)
  | ((with_reducible refine EM.gRef ?_); first | exact Or.inl ⟨_, rfl⟩ | exact Or.inr ⟨_, rfl⟩)
  | ((with_reducible apply EM.At.get); sizeOf_list_dec)
  | ((with_reducible apply EM.At.sqL); sizeOf_list_dec)
  | ((with_reducible apply EM.At.sqT); sizeOf_list_dec)
  | ((with_reducible apply EM.RatP.getK); (focus sizeOf_list_dec); (focus (exact rfl)))
  | (with_reducible exact EM.Num.int _)
  | ((with_reducible apply EM.NumP.getK); (focus sizeOf_list_dec); (focus (exact rfl)))
  | ((with_reducible apply EM.At.ext); (focus (with_reducible assumption)); (focus sizeOf_list_dec))
  | ((with_reducible apply EM.RatP.ext); (focus (with_reducible assumption)); (focus sizeOf_list_dec))
  | ((with_reducible apply EM.NumP.ext); (focus (with_reducible assumption)); (focus sizeOf_list_dec))
  | with_reducible exact Tx.cl_Ratio (by assumption)
  | with_reducible exact Tx.cl_Reading (by assumption)
  | with_reducible exact Tx.na_Ratio_top (by assumption)
  | with_reducible exact Tx.na_Ratio_bottom (by assumption)
  | with_reducible exact Tx.na_Reading_own_edges (by assumption)
  | ((with_reducible refine EM.gAt ?_); sizeOf_list_dec)
  | ((with_reducible refine EM.gRat ?_); sizeOf_list_dec)
  | ((with_reducible refine EM.gNum ?_); sizeOf_list_dec)
  | ((with_reducible apply EM.TwoP.mk); (focus (with_reducible assumption)); (focus sizeOf_list_dec); (focus (first | with_reducible assumption | (apply EM.n_low; assumption))); (focus sizeOf_list_dec); (focus decreasing_trivial_pre_omega); (focus decreasing_trivial_pre_omega); (focus decreasing_trivial_pre_omega); (focus decreasing_trivial_pre_omega))
  | (with_reducible exact EM.Ext.refl)
  | ((with_reducible apply EM.Ext.back); (focus (with_reducible assumption)); (focus sizeOf_list_dec))
  | ((with_reducible apply EM.Bs.mono); (focus (with_reducible assumption)); omega)
  | ((with_reducible refine EM.gN ?_); first | decide | omega | exact Nat.le_of_ble_eq_true rfl | (simp only [List.length_cons, List.length_nil, List.length_append]; omega))
  | ((with_reducible refine EM.gM ?_); first | decide | omega | exact Nat.le_of_ble_eq_true rfl)
  | ((with_reducible refine EM.gI ?_); first | decide | omega)
  | ((with_reducible refine EM.gJ ?_); first | decide | omega)
  | ((with_reducible refine EM.gE ?_); first | decide | omega)
  | ((with_reducible refine EM.gB ?_); decreasing_trivial_pre_omega)
  | ((with_reducible apply EM.wideM); (focus decreasing_trivial_pre_omega); (focus decreasing_trivial_pre_omega); (focus decide)))
local macro_rules | `(tactic| infer_instance) => `(tactic| first
  | with_reducible assumption
  | exact DpAll.nil
  | (apply DpAll.cons; (focus infer_instance); (focus infer_instance))
  | with_reducible exact Dp.int _
  | exact Dp.int _
  | with_reducible exact Dp.str _
  | exact Dp.bl _
  | exact Dp.non
  | ((with_reducible apply EM.dp_lst); (focus array_get_dec); (focus infer_instance))
  | ((with_reducible apply EM.dp_tup); (focus array_get_dec); (focus infer_instance))
  | exact EM.dp_ints _)
local macro_rules | `(tactic| nofun) => `(tactic| first
  | with_reducible assumption
  | exact EM.FeL.nil
  | exact EM.FdL.nil
  | (apply EM.FeL.cons; (focus nofun); (focus nofun))
  | (apply EM.FdL.cons; (focus nofun); (focus nofun))
  | exact EM.Fe.int _
  | exact EM.Fe.bool _
  | exact EM.Fe.non
  | exact EM.Fe.str (EM.okS_of _)
  | (apply EM.Fe.str; apply EM.Fd.ok; (focus nofun))
  | (apply EM.Fe.list; (focus nofun))
  | (apply EM.Fe.tup; (focus nofun))
  | (apply EM.Fd.int; (focus decreasing_trivial_pre_omega))
  | exact EM.Fd.bool _
  | exact EM.Fd.non
  | (refine EM.Fd.bool _)
  | (apply EM.Fd.list; (focus nofun))
  | (apply EM.Fd.tup; (focus nofun)))
local macro_rules | `(tactic| array_mem_dec) => `(tactic| ((with_reducible refine EM.pr ?_); first
  | (with_reducible refine L2.iteT ?_)
  | (with_reducible refine L2.iteF ?_)
  | (with_reducible refine EM.ifNotT ?_)
  | (with_reducible refine EM.ifNotF ?_)
  | ((fail_if_success (with_reducible refine EM.gIf ?_)); first
  | array_get_dec
  | (refine EM.mk_low (by with_reducible assumption) (by with_reducible assumption) ?_ ?_; (focus array_get_dec))
  | (apply EM.isNum_sw; (focus sizeOf_list_dec))
  | (apply EM.of_sw; (focus (with_reducible assumption)); (focus sizeOf_list_dec))
  | (apply EM.neg_bs; (focus (with_reducible assumption)); (focus sizeOf_list_dec); (focus array_get_dec); (focus array_get_dec))
  | (apply EM.relw_bs; (focus (with_reducible assumption)); (focus sizeOf_list_dec); (focus sizeOf_list_dec); (focus array_get_dec); (focus decreasing_trivial_pre_omega); (focus decreasing_trivial_pre_omega); (focus decreasing_trivial_pre_omega); (focus decreasing_trivial_pre_omega))
  | ((apply EM.DnS.bs); (focus (with_reducible assumption)); (focus (intro _ z; cases z; done)))
  | ((apply EM.seqL); (focus sizeOf_list_dec))
  | ((apply EM.seqT); (focus sizeOf_list_dec))
  | ((apply EM.lenL); (focus sizeOf_list_dec))
  | ((apply EM.lenT); (focus sizeOf_list_dec))
  | ((apply EM.isSeqL); (focus sizeOf_list_dec); (focus sizeOf_list_dec))
  | ((apply EM.isSeqT); (focus sizeOf_list_dec); (focus sizeOf_list_dec))
  | ((apply EM.tupL); (focus sizeOf_list_dec))
  | ((apply EM.fld_bs); (focus sizeOf_list_dec); (focus (exact Tx.cl_Reading (by assumption))); (focus (exact Tx.na_Reading_own_edges (by assumption))); (focus (exact rfl)))
  | ((with_reducible refine EM.New.bs (by with_reducible assumption) ?_ ?_); (focus (intro _ z; cases z; done)))
  | ((with_reducible refine EM.gMu ?_); (with_reducible apply EM.mu_bs); (focus (with_reducible assumption)); (focus sizeOf_list_dec); (focus (apply EM.nel2; (focus (with_reducible assumption)); (focus (with_reducible assumption)))); intro _ _ _)
  | intro _
  | (apply And.intro; (focus array_get_dec))
  | apply Exists.intro
  | (refine EM.draw_bs (by with_reducible assumption) ?_ ?_ ?_ ?_; (focus array_get_dec); (focus array_get_dec); (focus (first | decide | omega)))
  | (apply EM.pick_int; (focus (with_reducible assumption)); (focus array_get_dec); (focus sizeOf_list_dec); (focus ((repeat' (first | exact EM.AllI.nil | apply EM.AllI.cons)); done)); (focus (exact Nat.le_of_ble_eq_true rfl)); (focus (exact Nat.le_of_ble_eq_true rfl)))
  | (apply EM.pick_bs; (focus (with_reducible assumption)); (focus array_get_dec); (focus sizeOf_list_dec); (focus (exact Nat.le_of_ble_eq_true rfl)); (focus (exact Nat.le_of_ble_eq_true rfl)))
  | ((apply EM.repr_sw); (focus infer_instance); (focus nofun); (focus decide))
  | ((apply EM.eqd_same); (focus infer_instance); (focus infer_instance); (focus nofun); (focus decide))
  | ((apply EM.ned_same); (focus infer_instance); (focus infer_instance); (focus nofun); (focus decide))
  | ((apply EM.eqd_sw); (focus infer_instance); (focus infer_instance); (focus nofun); (focus nofun); (focus decide))
  | ((apply EM.ned_sw); (focus infer_instance); (focus infer_instance); (focus nofun); (focus nofun); (focus decide))
  | (refine EM.cut_bs (by with_reducible assumption) ?_ ?_ ?_; (focus array_get_dec); (focus array_get_dec)))))
section
variable {P : Program} {w : World} {K : PySem.W.Frag} {mg : Str → Option Value} {base : Heap}
theorem ok_Lfrac (T : Tx K mg) : FnR P w K mg base (L2.CX P w) 1 (He.ga K "_law_frac") (spFrac) := by
  obtain ⟨fd, F⟩ := T.d_Lfrac
  refine EM.fnr F sc_Lfrac (fun _ _ _ _ _ _ us hl => match us, hl with | [_, _], _ => rfl) (fun vs H Q E h => ?_) (fun cdv A outer s H vs Q E hr h => ?_)
  · obtain ⟨u, l, rfl, _⟩ := h
    rfl
  · obtain ⟨u, l, rfl, l0, ll, k⟩ := h
    have hgp := gcd_pos (t := u) (show l ≠ 0 by omega)
    have cd : ∀ i, CDivW i (Int.gcd u l : Int) := fun i => ⟨hgp, Nat.lt_of_le_of_lt (log_le (by
      have := shr_le (t := u) (show l ≠ 0 by omega)
      rw [shr_abs] at this
      exact this)) ll⟩
    refine ⟨_, (PSs.nox (pss_cons (ps_par (by rfl) sc_Lfrac.nd (i := 2) (j := 3) rfl rfl (by decide) rfl rfl (pa_cons (pv 0) (pa_cons (pv 1) pa_nil)) (by rfl))
 (pss_cons (ps_while PassesOwn.never (pt_cmpR op_ne (pv 3) pe_int (nomark _))
  (pss_one (ps_par (by rfl) sc_Lfrac.nd (i := 2) (j := 3) rfl rfl (by decide) rfl rfl (pa_cons (pv 3) (pa_cons (pe_op op_mod (pe_callTy call_int1 (by rfl) T.f_int (by decide +kernel) (pa_cons (pv 2) pa_nil)) (pv 3)) pa_nil)) (by rfl))))
 (pss_cons (ps_set (i := 4) sc_Lfrac.nd rfl (Or.inl rfl) (pe_callB call_abs (by rfl) T.f_abs (by decide +kernel) (pa_cons (pv 2) pa_nil)))
 (pss_one (ps_ret (pe_tup (pa_cons (pe_op op_fdivW (pv 0) (pv 4)) (pa_cons (pe_op op_fdivW (pv 1) (pv 4)) pa_nil))))))))), ?_⟩
    refine ⟨_, rfl, _, rfl, _, _, rfl, ?_⟩
    refine ⟨fun m σ H' => ∃ f s : Int, ∃ w : Option V, σ = [some (.int u), some (.int l), some (.int f), some (.int s), w] ∧ H' = H ∧ 0 ≤ s ∧ Int.gcd f s = Int.gcd u l ∧ m = s.natAbs, ⟨_, _, _, _, rfl, rfl, by omega, rfl, rfl⟩, ?_⟩
    rintro m σ H' ⟨f, s, w, rfl, rfl, s0, hg, rfl⟩
    refine ⟨_, rfl, rfl, _, rfl, ite2 (fun c => ?_) (fun c => ?_)⟩
    · have hs : 0 < s := by
        have : s ≠ 0 := fun z => by
          subst z
          simp at c
        omega
      refine ⟨fun σ H1 => ∃ f1 s1 : Int, ∃ w : Option V, σ = [some (.int u), some (.int l), some (.int f1), some (.int s1), w] ∧ H1 = H' ∧ 0 ≤ s1 ∧ Int.gcd f1 s1 = Int.gcd u l ∧ s1.natAbs < s.natAbs, ?_, ?_⟩
      · rintro σ H1 ⟨f1, s1, w1, e1, e2, e4, e5, e6⟩
        exact ⟨_, e6, f1, s1, w1, e1, e2, e4, e5, rfl⟩
      · have h1 := Int.emod_nonneg f (show s ≠ 0 by omega)
        have h2 := Int.emod_lt_of_pos f hs
        exact ⟨_, rfl, _, rfl, .inl ⟨_, rfl, _, rfl, _, _, rfl, rfl, hs, _, _, rfl, s, _, w, rfl, rfl, h1, by rw [gcd_emod2 hs]; exact hg, by omega⟩⟩
    · have hs : s = 0 := by
        apply Classical.byContradiction
        intro z
        exact c (by simp [z])
      subst hs
      have e : (if f < 0 then -f else f) = (Int.gcd u l : Int) := by
        rw [← hg, Int.gcd_zero_right]
        split <;> omega
      refine ⟨_, rfl, _, rfl, ?_⟩
      rw [e]
      refine ⟨_, rfl, _, rfl, _, _, rfl, rfl, cd _, _, rfl, _, rfl, _, _, rfl, rfl, cd _, (by show 2 ≤ sizeLine; decide), fun p hp => k p _ (same_upd hp) hp ?_⟩
      rw [upd_same, top_pos l0, bot_pos l0]
theorem ok_Lsum (T : Tx K mg) : FnR P w K mg base (L2.CX P w) 2 (He.ga K "_law_sum") (spSumF) := by
  obtain ⟨fd, F⟩ := T.d_Lsum
  refine EM.fnr F sc_Lsum (fun _ _ _ _ _ _ us hl => match us, hl with | [_, _], _ => rfl) (fun vs H Q E h => ?_) (fun cdv A outer s H vs Q E hr h => ?_)
  · obtain ⟨T0, p, l, x, y, n, e, b, rfl, _⟩ := h
    rfl
  · obtain ⟨T0, p, l, x, y, n, e, b, rfl, B0, h1, h2, p1, p2, b1, b2, b3, b4, k⟩ := h
    have p3 : 0 < e.2 * b.2 := Int.mul_pos p1 p2
    refine ⟨_, (PSs.nox (pss_one (ps_ret (EM.pe_cR ((ok_Lfrac T).sw) (hr.mono (by decide)) T.k__law_frac T.g__law_frac passL (pa_cons (pe_op op_add (pe_op op_mulW (pe_ix ix_tup (pv 0) pe_int (fun _ _ => rfl)) (pe_ix ix_tup (pv 1) pe_int (fun _ _ => rfl))) (pe_op op_mulW (pe_ix ix_tup (pv 1) pe_int (fun _ _ => rfl)) (pe_ix ix_tup (pv 0) pe_int (fun _ _ => rfl)))) (pa_cons (pe_op op_mulW (pe_ix ix_tup (pv 0) pe_int (fun _ _ => rfl)) (pe_ix ix_tup (pv 1) pe_int (fun _ _ => rfl))) pa_nil)))))), ?_⟩
    repeat' array_mem_dec
    refine frac_bs B0 p3 (by decreasing_trivial_pre_omega) fun q H1 x1 B1 a1 => ?_
    exact k q H1 x1 B1 a1
theorem ok_Lis_less (T : Tx K mg) : FnR P w K mg base (L2.CX P w) 1 (He.ga K "_law_is_less") (spLessF) := by
  obtain ⟨fd, F⟩ := T.d_Lis_less
  refine EM.fnr F sc_Lis_less (fun _ _ _ _ _ _ us hl => match us, hl with | [_, _], _ => rfl) (fun vs H Q E h => ?_) (fun cdv A outer s H vs Q E hr h => ?_)
  · obtain ⟨p, x, y, e, b, rfl, _⟩ := h
    rfl
  · obtain ⟨p, x, y, e, b, rfl, h1, h2, b1, b2, b3, b4, k⟩ := h
    refine ⟨_, (PSs.nox (pss_one (ps_ret (pe_cmpR op_lt (pe_op op_mulW (pe_ix ix_tup (pv 0) pe_int (fun _ _ => rfl)) (pe_ix ix_tup (pv 1) pe_int (fun _ _ => rfl))) (pe_op op_mulW (pe_ix ix_tup (pv 1) pe_int (fun _ _ => rfl)) (pe_ix ix_tup (pv 0) pe_int (fun _ _ => rfl))) (nomark _))))), ?_⟩
    repeat' array_mem_dec
theorem ok_Ldrawn (T : Tx K mg) : FnR P w K mg base (L2.CX P w) 3 (He.ga K "_law_drawn") (spDrawnF) := by
  obtain ⟨fd, F⟩ := T.d_Ldrawn
  refine EM.fnr F sc_Ldrawn (fun _ _ _ _ _ _ us hl => match us, hl with | [_], _ => rfl) (fun vs H Q E h => ?_) (fun cdv A outer s H vs Q E hr h => ?_)
  · obtain ⟨T0, p, l, n, rfl, _⟩ := h
    rfl
  · obtain ⟨T0, p, l, n, rfl, B0, hn, k⟩ := h
    refine ⟨_, (PSs.nox (pss_cons (ps_set (i := 1) sc_Ldrawn.nd rfl (Or.inl rfl) (EM.pe_cR ((ok_Lpick T).sw) (hr.mono (by decide)) T.k__law_pick T.g__law_pick passL (pa_cons (pv 0) (pa_cons (EM.pe_lstN (pa_cons pe_int (pa_cons pe_int (pa_cons pe_int (pa_cons pe_int (pa_cons pe_int (pa_cons (pe_op (EM.op_powV 10 20 100000000000000000000 ⟨by decide, by decide, by decide⟩ (by decide +kernel)) pe_int pe_int) pa_nil))))))) pa_nil))))
 (pss_one (ps_ret (EM.pe_cR ((ok_Lfrac T).sw) (hr.mono (by decide)) T.k__law_frac T.g__law_frac passL (pa_cons (pe_op op_sub (EM.pe_cR ((ok_Ldraw T).sw) (hr.mono (by decide)) T.k__law_draw T.g__law_draw passL (pa_cons (pv 0) (pa_cons pe_int pa_nil))) pe_int) (pa_cons (pv 1) pa_nil))))))), ?_⟩
    repeat' array_mem_dec
    rename_i L1 H1 x1 B1 a1 n1 c H2 hc x2 B2 d H3 d0 d1 x3 B3
    obtain ⟨c0, cd, cb⟩ : 0 < c ∧ c ∣ (DD : Int) ∧ Bt 70 c := by
      simp only [List.mem_cons, List.not_mem_nil, or_false] at hc
      rcases hc with rfl | rfl | rfl | rfl | rfl | rfl <;> exact ⟨by decide, by decide +kernel, Bt.lit _ _ (by decide +kernel)⟩
    refine frac_bs B3 c0 (cb.mono (by decide)) fun q H4 x4 B4 a4 => ?_
    refine k q (nTop (d - 6) c, nBot (d - 6) c) H4 (dv_of c0 cd ?_) (x1.trans (x2.trans (x3.trans x4))) B4 a4
    omega
theorem ok_Lpassed (T : Tx K mg) : FnR P w K mg base (L2.CX P w) 4 (He.ga K "_law_passed") (spPassF K) := by
  obtain ⟨fd, F⟩ := T.d_Lpassed
  refine EM.fnr F sc_Lpassed (fun _ _ _ _ _ _ us hl => match us, hl with | [_, _], _ => rfl) (fun vs H Q E h => ?_) (fun cdv A outer s H vs Q E hr h => ?_)
  · obtain ⟨T0, p, l, q, n, e, rfl, _⟩ := h
    rfl
  · obtain ⟨T0, p, l, q, n, e, rfl, B0, hn, aq, lo, b1, b2, k⟩ := h
    have e0 := lo.pos
    have mkr : ∀ {k2 : Int} {Hx : Hp} {Q2 : VK} {E2 : XK} {m : Nat}, 1 ≤ k2 → k2 < 4 → Bs T0 p l m Hx → (∀ a H', Ext p Hx H' → Bs T0 p l m H' → RatP K p H' a e.1 e.2 → Q2 (.ref a) H') → Sw (spMkN K) [.int (k2 * e.1), .int (k2 * e.2)] Hx Q2 E2 := fun {k2 Hx Q2 E2 m} h1 h2 Bx kk => by
      have hne : k2 * e.2 ≠ 0 := Int.mul_ne_zero (by omega) (by omega)
      have hb : Bt 2000 (k2 * e.2) := Bt.mulM (n := 2) (m := 1980) (show k2.natAbs < 4 by omega) b2 (by decide)
      exact ⟨⟨_, _, rfl, hne, Nat.lt_trans (hb.log (by decide)) (by decide), RatRes.low Bx lo hne (by ac_rfl) kk⟩⟩
    refine ⟨_, (PSs.nox (pss_cons (ps_if (PW.pt (pw_and (pt_cmpR op_eq (pe_ix ix_tup (pv 1) pe_int (fun _ _ => rfl)) pe_int (nomark _)) (pw_and1 (pt_cmpR op_eq (EM.pe_cR ((ok_Ldraw T).sw) (hr.mono (by decide)) T.k__law_draw T.g__law_draw passL (pa_cons (pv 0) (pa_cons pe_int pa_nil))) pe_int (nomark _)))))
  (pss_one (ps_ret (pe_ix ix_tup (pv 1) pe_int (fun _ _ => rfl)))) pss_nil)
 (pss_cons (ps_set (i := 2) sc_Lpassed.nd rfl (Or.inl rfl) (pe_op op_add pe_int (EM.pe_cR ((ok_Ldraw T).sw) (hr.mono (by decide)) T.k__law_draw T.g__law_draw passL (pa_cons (pv 0) (pa_cons pe_int pa_nil)))))
 (pss_one (ps_ret (pe_mkN_ T (hr.mono (by decide)) (pa_cons (pe_op op_mulW (pv 2) (pe_ix ix_tup (pv 1) pe_int (fun _ _ => rfl))) (pa_cons (pe_op op_mulW (pv 2) (pe_ix ix_tup (pv 1) pe_int (fun _ _ => rfl))) pa_nil)))))))), ?_⟩
    repeat' array_mem_dec
    refine ifEqI (fun z => ?_) (fun z => ?_)
    · repeat' array_mem_dec
      rename_i d H1 d0 d1 x1 B1
      refine ifEqI (fun z2 => ?_) (fun z2 => ?_)
      · repeat' array_mem_dec
        refine k _ H1 ?_ x1 (B1.mono (by omega))
        have : NumP K p H1 (.int e.1) e.1 1 := NumP.int _
        rw [z]
        exact this
      · repeat' array_mem_dec
        rename_i d2 H2 d20 d21 x2 B2
        refine mkr (by omega) (by omega) B2 fun a H3 x3 B3 r3 => ?_
        exact k _ H3 (r3.num lo) (x1.trans (x2.trans x3)) B3
    · repeat' array_mem_dec
      rename_i d2 H2 d20 d21 x2 B2
      refine mkr (by omega) (by omega) B2 fun a H3 x3 B3 r3 => ?_
      exact k _ H3 (r3.num lo) (x2.trans x3) (B3.mono (by omega))
end
end K12
namespace K12
open PySem PySem.Spec PyProof.Rows L2 EM
local macro_rules | `(tactic| sizeOf_list_dec) => `(tactic| first
  | with_reducible assumption
  | ((with_reducible apply EM.At.ext); (focus (with_reducible assumption)); (focus sizeOf_list_dec))
  | ((with_reducible apply EM.RatP.ext); (focus (with_reducible assumption)); (focus sizeOf_list_dec))
  | ((with_reducible apply EM.NumP.ext); (focus (with_reducible assumption)); (focus sizeOf_list_dec))
  | (with_reducible exact EM.Ext.refl)
  | ((with_reducible apply EM.Ext.back); (focus (with_reducible assumption)); (focus sizeOf_list_dec))
  | exact EM.NumP.int _
  | ((with_reducible apply EM.Mu.at_k); (focus (with_reducible assumption)); (focus sizeOf_list_dec); (focus sizeOf_list_dec); (focus (intro _ z; cases z; done)))
  | ((with_reducible apply EM.Mu.at_n); (focus (with_reducible assumption)); (focus sizeOf_list_dec); (focus (first | with_reducible assumption | ((apply EM.nn1); (focus (with_reducible assumption)); (focus sizeOf_list_dec)) | ((apply EM.nn2); (focus (with_reducible assumption)); (focus sizeOf_list_dec)))))
  | ((with_reducible apply EM.Mu.here); (focus (with_reducible assumption)); (focus sizeOf_list_dec))
  | ((with_reducible apply EM.Mu.rat); (focus (with_reducible assumption)); (focus sizeOf_list_dec); (focus sizeOf_list_dec))
  | ((with_reducible apply EM.Mu.num); (focus (with_reducible assumption)); (focus sizeOf_list_dec); (focus sizeOf_list_dec))
  | ((with_reducible apply EM.num_of_rat); (focus sizeOf_list_dec); (focus (first | with_reducible assumption | (apply EM.n_low; assumption))))
  | ((with_reducible apply EM.RatsP.xt); (focus (with_reducible assumption)); (focus sizeOf_list_dec))
  | ((with_reducible apply EM.NumsP.xt); (focus (with_reducible assumption)); (focus sizeOf_list_dec))
  | ((with_reducible apply EM.PairsP.xt); (focus (with_reducible assumption)); (focus sizeOf_list_dec))
  | ((with_reducible apply EM.RdP.xt); (focus (with_reducible assumption)); (focus sizeOf_list_dec))
  | ((with_reducible apply EM.Mu.rats); (focus (with_reducible assumption)); (focus sizeOf_list_dec); (focus sizeOf_list_dec))
  | ((with_reducible apply EM.Mu.pairs); (focus (with_reducible assumption)); (focus sizeOf_list_dec); (focus sizeOf_list_dec))
  | ((with_reducible apply EM.Mu.rdp); (focus (with_reducible assumption)); (focus sizeOf_list_dec); (focus sizeOf_list_dec)))
local macro_rules | `(tactic| decreasing_trivial_pre_omega) => `(tactic| first
  | with_reducible assumption
  | exact EM.Bt.mono (by with_reducible assumption) (by decide)
  | exact EM.Bt.lit _ _ (by decide +kernel)
  | ((with_reducible refine EM.Bt.rng32 ?_ ?_) <;> omega)
  | ((with_reducible refine EM.Bt.rng70 ?_ ?_) <;> omega)
  | ((with_reducible refine EM.Bt.rng200 ?_ ?_) <;> omega)
  | ((with_reducible apply EM.Bt.mulM); (focus decreasing_trivial_pre_omega); (focus decreasing_trivial_pre_omega); (focus (first | decide | exact Nat.le_refl _)))
  | ((with_reducible apply EM.Bt.addM); (focus decreasing_trivial_pre_omega); (focus decreasing_trivial_pre_omega); (focus (first | decide | exact Nat.le_refl _)))
  | ((with_reducible apply EM.Bt.subM); (focus decreasing_trivial_pre_omega); (focus decreasing_trivial_pre_omega); (focus (first | decide | exact Nat.le_refl _)))
  | ((with_reducible apply EM.Bt.topL); (focus decreasing_trivial_pre_omega); (focus assumption); (focus (first | decide | exact Nat.le_refl _)))
  | ((with_reducible apply EM.Bt.botL); (focus decreasing_trivial_pre_omega); (focus assumption); (focus (first | decide | exact Nat.le_refl _)))
  | ((with_reducible apply EM.Bt.divM); (focus decreasing_trivial_pre_omega); (focus assumption); (focus (first | decide | exact Nat.le_refl _)))
  | ((with_reducible apply EM.Bt.negM); (focus decreasing_trivial_pre_omega); (focus (first | decide | exact Nat.le_refl _))))
local macro_rules | `(tactic| array_get_dec) => `(tactic| first
  | with_reducible assumption
  | ((with_reducible refine EM.gEq ?_); exact rfl)
  | ((with_reducible refine EM.gTru ?_); exact rfl)
  | ((with_reducible refine EM.gRef ?_); first | exact Or.inl ⟨_, rfl⟩ | exact Or.inr ⟨_, rfl⟩)
  | ((with_reducible apply EM.At.get); sizeOf_list_dec)
  | ((with_reducible apply EM.At.sqL); sizeOf_list_dec)
  | ((with_reducible apply EM.At.sqT); sizeOf_list_dec)
  | ((with_reducible apply EM.RatP.getK); (focus sizeOf_list_dec); (focus (exact rfl)))
  | (with_reducible exact EM.Num.int _)
  | ((with_reducible apply EM.NumP.getK); (focus sizeOf_list_dec); (focus (exact rfl)))
  | ((with_reducible apply EM.At.ext); (focus (with_reducible assumption)); (focus sizeOf_list_dec))
  | ((with_reducible apply EM.RatP.ext); (focus (with_reducible assumption)); (focus sizeOf_list_dec))
  | ((with_reducible apply EM.NumP.ext); (focus (with_reducible assumption)); (focus sizeOf_list_dec))
  | with_reducible exact Tx.cl_Ratio (by assumption)
  | with_reducible exact Tx.cl_Reading (by assumption)
  | with_reducible exact Tx.na_Ratio_top (by assumption)
  | with_reducible exact Tx.na_Ratio_bottom (by assumption)
  | with_reducible exact Tx.na_Reading_own_edges (by assumption)
  | ((with_reducible refine EM.gAt ?_); sizeOf_list_dec)
  | ((with_reducible refine EM.gRat ?_); sizeOf_list_dec)
  | ((with_reducible refine EM.gNum ?_); sizeOf_list_dec)
  | ((with_reducible apply EM.TwoP.mk); (focus (with_reducible assumption)); (focus sizeOf_list_dec); (focus (first | with_reducible assumption | (apply EM.n_low; assumption))); (focus sizeOf_list_dec); (focus decreasing_trivial_pre_omega); (focus decreasing_trivial_pre_omega); (focus decreasing_trivial_pre_omega); (focus decreasing_trivial_pre_omega))
  | (with_reducible exact EM.Ext.refl)
  | ((with_reducible apply EM.Ext.back); (focus (with_reducible assumption)); (focus sizeOf_list_dec))
  | ((with_reducible apply EM.Bs.mono); (focus (with_reducible assumption)); omega)
  | ((with_reducible refine EM.gN ?_); first | decide | omega | exact Nat.le_of_ble_eq_true rfl | (simp only [List.length_cons, List.length_nil, List.length_append]; omega))
  | ((with_reducible refine EM.gM ?_); first | decide | omega | exact Nat.le_of_ble_eq_true rfl)
  | ((with_reducible refine EM.gI ?_); first | decide | omega)
  | ((with_reducible refine EM.gJ ?_); first | decide | omega)
  | ((with_reducible refine EM.gE ?_); first | decide | omega)
  | ((with_reducible refine EM.gB ?_); decreasing_trivial_pre_omega)
  | ((with_reducible apply EM.wideM); (focus decreasing_trivial_pre_omega); (focus decreasing_trivial_pre_omega); (focus decide)))
local macro_rules | `(tactic| infer_instance) => `(tactic| first
  | with_reducible assumption
  | exact DpAll.nil
  | (apply DpAll.cons; (focus infer_instance); (focus infer_instance))
  | with_reducible exact Dp.int _
  | exact Dp.int _
  | with_reducible exact Dp.str _
  | exact Dp.bl _
  | exact Dp.non
  | ((with_reducible apply EM.dp_lst); (focus array_get_dec); (focus infer_instance))
  | ((with_reducible apply EM.dp_tup); (focus array_get_dec); (focus infer_instance))
  | exact EM.dp_ints _)
local macro_rules | `(tactic| nofun) => `(tactic| first
  | with_reducible assumption
  | exact EM.FeL.nil
  | exact EM.FdL.nil
  | (apply EM.FeL.cons; (focus nofun); (focus nofun))
  | (apply EM.FdL.cons; (focus nofun); (focus nofun))
  | exact EM.Fe.int _
  | exact EM.Fe.bool _
  | exact EM.Fe.non
  | exact EM.Fe.str (EM.okS_of _)
  | (apply EM.Fe.str; apply EM.Fd.ok; (focus nofun))
  | (apply EM.Fe.list; (focus nofun))
  | (apply EM.Fe.tup; (focus nofun))
  | (apply EM.Fd.int; (focus decreasing_trivial_pre_omega))
  | exact EM.Fd.bool _
  | exact EM.Fd.non
  | (refine EM.Fd.bool _)
  | (apply EM.Fd.list; (focus nofun))
  | (apply EM.Fd.tup; (focus nofun)))
local macro_rules | `(tactic| array_mem_dec) => `(tactic| ((with_reducible refine EM.pr ?_); first
  | (with_reducible refine L2.iteT ?_)
  | (with_reducible refine L2.iteF ?_)
  | (with_reducible refine EM.ifNotT ?_)
  | (with_reducible refine EM.ifNotF ?_)
  | ((fail_if_success (with_reducible refine EM.gIf ?_)); first
  | array_get_dec
  | (refine EM.mk_low (by with_reducible assumption) (by with_reducible assumption) ?_ ?_; (focus array_get_dec))
  | (apply EM.isNum_sw; (focus sizeOf_list_dec))
  | (apply EM.of_sw; (focus (with_reducible assumption)); (focus sizeOf_list_dec))
  | (apply EM.neg_bs; (focus (with_reducible assumption)); (focus sizeOf_list_dec); (focus array_get_dec); (focus array_get_dec))
  | (apply EM.relw_bs; (focus (with_reducible assumption)); (focus sizeOf_list_dec); (focus sizeOf_list_dec); (focus array_get_dec); (focus decreasing_trivial_pre_omega); (focus decreasing_trivial_pre_omega); (focus decreasing_trivial_pre_omega); (focus decreasing_trivial_pre_omega))
  | ((apply EM.DnS.bs); (focus (with_reducible assumption)); (focus (intro _ z; cases z; done)))
  | ((apply EM.seqL); (focus sizeOf_list_dec))
  | ((apply EM.seqT); (focus sizeOf_list_dec))
  | ((apply EM.lenL); (focus sizeOf_list_dec))
  | ((apply EM.lenT); (focus sizeOf_list_dec))
  | ((apply EM.isSeqL); (focus sizeOf_list_dec); (focus sizeOf_list_dec))
  | ((apply EM.isSeqT); (focus sizeOf_list_dec); (focus sizeOf_list_dec))
  | ((apply EM.tupL); (focus sizeOf_list_dec))
  | ((apply EM.fld_bs); (focus sizeOf_list_dec); (focus (exact Tx.cl_Reading (by assumption))); (focus (exact Tx.na_Reading_own_edges (by assumption))); (focus (exact rfl)))
  | (with_reducible apply EM.EqS.mk')
  | (with_reducible apply EM.NeS.mk')
  | ((with_reducible refine EM.New.bs (by with_reducible assumption) ?_ ?_); (focus (intro _ z; cases z; done)))
  | ((with_reducible refine EM.gMu ?_); (with_reducible apply EM.mu_bs); (focus (with_reducible assumption)); (focus sizeOf_list_dec); (focus (apply EM.nel2; (focus (with_reducible assumption)); (focus (with_reducible assumption)))); intro _ _ _)
  | intro _
  | (apply And.intro; (focus array_get_dec))
  | apply Exists.intro
  | (refine EM.draw_bs (by with_reducible assumption) ?_ ?_ ?_ ?_; (focus array_get_dec); (focus array_get_dec); (focus (first | decide | omega)))
  | (apply EM.pick_bs; (focus (with_reducible assumption)); (focus array_get_dec); (focus sizeOf_list_dec); (focus (exact Nat.le_of_ble_eq_true rfl)); (focus (exact Nat.le_of_ble_eq_true rfl)))
  | ((apply EM.repr_sw); (focus infer_instance); (focus nofun); (focus decide))
  | ((apply EM.eqd_same); (focus infer_instance); (focus infer_instance); (focus nofun); (focus decide))
  | ((apply EM.ned_same); (focus infer_instance); (focus infer_instance); (focus nofun); (focus decide))
  | ((apply EM.eqd_sw); (focus infer_instance); (focus infer_instance); (focus nofun); (focus nofun); (focus decide))
  | ((apply EM.ned_sw); (focus infer_instance); (focus infer_instance); (focus nofun); (focus nofun); (focus decide))
  | (refine EM.cut_bs (by with_reducible assumption) ?_ ?_ ?_; (focus array_get_dec); (focus array_get_dec)))))
section
variable {P : Program} {w : World} {K : PySem.W.Frag} {mg : Str → Option Value} {base : Heap}
theorem ok_Lis (T : Tx K mg) : FnG P w K mg base (L2.CX P w) 1 (He.ga K "_law_is") (spIsF K) := by
  obtain ⟨fd, F⟩ := T.d_Lis
  refine EM.fng F sc_Lis (fun _ _ _ _ _ _ us hl => match us, hl with | [_, _], _ => rfl) (fun vs H Q E h => ?_) (fun cdv A outer s H vs Q E hr hG h => ?_)
  · obtain ⟨T0, p, l, a, d, n, e, rfl, _⟩ := h
    rfl
  · obtain ⟨T0, p, l, a, d, n, e, rfl, B0, ra, ad, b1, b2, k⟩ := h
    have hu70 : (A.deeper (envOfC "_law_is" (defScope s_Lis) s.heap.objs.size (He.ga K "_law_is") cdv)).units + 70 < cLine := by have := hr.un; omega
    obtain ⟨⟨dx, hp⟩, na_⟩ := id ra
    refine ⟨_, (PSs.nox (pss_one (ps_ret (pe_and (pe_callB call_isi (by rfl) T.f_isinstance (by decide +kernel) (pa_cons (pv 0) (pa_cons (pe_glob (v := .ref (He.ga K "Ratio")) (by rfl) T.g_Ratio rfl) pa_nil))) (pe_one (pe_cmpR op_eqS (pe_callB (callR_sw (EM.call_reprD hG hu70)) (by rfl) T.f_repr (by decide +kernel) (pa_cons (EM.pe_tupN (pa_cons (EM.pe_topN (pv 0) T.cl_Ratio T.na_Ratio_top rfl) (pa_cons (EM.pe_botN (pv 0) T.cl_Ratio T.na_Ratio_bottom rfl) pa_nil))) pa_nil)) (pe_callB (callR_sw (EM.call_reprD hG hu70)) (by rfl) T.f_repr (by decide +kernel) (pa_cons (pv 1) pa_nil)) (nomark _))))))), ?_⟩
    refine ⟨_, rfl, .ref a, .ref (He.ga K "Ratio"), _, _, true, rfl, .own _, isiB_ty T.isi_Ratio T.cl_Ratio hp, kSelf, true, rfl, iteT ?_⟩
    repeat' array_mem_dec
    rename_i q H1 x1 B1 a1 n1
    exact k H1 x1 B1
theorem ok_Lare (T : Tx K mg) : FnG P w K mg base (L2.CX P w) 3 (He.ga K "_law_are") (spAreF K) := by
  obtain ⟨fd, F⟩ := T.d_Lare
  refine EM.fng F sc_Lare (fun _ _ _ _ _ _ us hl => match us, hl with | [_, _], _ => rfl) (fun vs H Q E h => ?_) (fun cdv A outer s H vs Q E hr hG h => ?_)
  · obtain ⟨T0, p, l, q, d, n, xs, zs, es, rfl, _⟩ := h
    rfl
  · obtain ⟨T0, p, l, q, d, n, xs, zs, es, rfl, B0, aq, rr, ad, pp, hb, hl, k⟩ := h
    have hx := rr.len
    have hz := pp.len
    refine ⟨_, (PSs.nox (pss_cons (ps_if (PW.pt (pw_or (pt_not (pt_val (pe_callB call_isi (by rfl) T.f_isinstance (by decide +kernel) (pa_cons (pv 0) (pa_cons (pe_bltn (v := .ty "tuple") (by rfl) T.f_tuple boot_tuple rfl) pa_nil))))) (pw_or1 (pt_cmpR op_ne (pe_callB EM.call_lenN (by rfl) T.f_len boot_len (pa_cons (pv 0) pa_nil)) (pe_callB EM.call_lenN (by rfl) T.f_len boot_len (pa_cons (pv 1) pa_nil)) (nomark _)))))
  (pss_one (ps_ret pe_bl)) pss_nil)
 (pss_one (ps_ret (pe_cmpR (op_sw (op_eqD hr.units)) (EM.lcN (pe_lc (own := [("_law_at", 2)]) (g := gName 2) (tt := tNot (tB (tCR (Sw (spIsF K)) E0 (tCons (tOp (rIxT K) (tVar 0) (tVar 2)) (tCons (tOp (rIxL K) (tVar 1) (tVar 2)) tNil))))) rfl sc_Lare.nd (pi_range1 (by rfl) T.f_range (pa_cons (pe_callB EM.call_lenN (by rfl) T.f_len boot_len (pa_cons (pv 1) pa_nil)) pa_nil)).mc (blkOk_by (N := ["_law_told", "_law_due_here", "_law_at"]) (sc := defScope s_Lare) (by decide +kernel)) (fun _ _ _ _ _ => (pg_name (i := 2) sc_Lare.nd rfl (Or.inl rfl))) (fun _ _ _ _ _ => (pts_one (pt_not (pt_val (EM.pe_cG ((ok_Lis T).sw) (hr.mono (by decide)) hG T.k__law_is T.g__law_is passL (pa_cons (pe_ix ix_tup (pv 0) (pv 2) (fun _ _ => rfl)) (pa_cons (pe_ix ix_list (pv 1) (pv 2) (fun _ _ => rfl)) pa_nil))))))) (fun _ _ _ _ _ => (PE.mc (pv 2))))) (EM.pe_lstN pa_nil) (nomark _)))))), ?_⟩
    refine ⟨_, rfl, .ref q, .ty "tuple", .type "tuple", .type "tuple", true, rfl, .ty "tuple", .base (.tup aq.at_), kit_ty (by decide +kernel), true, rfl, EM.ifNotT ?_⟩
    repeat' array_mem_dec
    refine ifN (by rw [hx, hz]; simp) ?_
    repeat' array_mem_dec
    refine LcS.lcP walk_range B0 (fun i acc => acc = []) rfl (by omega) (fun _ _ => trivial) ?_ ?_
    · rintro i y acc H1 H2 Rf Rt hi rfl x1 B1 ⟨rfl, rfl⟩ hRf hRt
      have hie : i < es.length := by omega
      obtain ⟨e, ee⟩ : ∃ e, es[i]? = some e := ⟨_, List.getElem?_eq_getElem hie⟩
      obtain ⟨a1, ea1, ra1⟩ := (rr.ext x1).get ee
      obtain ⟨d1, ed1, rd1⟩ := (pp.ext x1).get ee
      obtain ⟨b1, b2⟩ := hb e (List.mem_of_getElem? ee)
      have ix1 : atI xs (0 + (i : Int)) = some (.ref a1) := at_of (j := i) (by omega) ea1
      have ix2 : atI zs (0 + (i : Int)) = some (.ref d1) := at_of (j := i) (by omega) ed1
      repeat' array_mem_dec
      refine ⟨⟨T0, p, l, a1, d1, n, e, rfl, B1, ra1, rd1, b1, b2, fun H3 x3 B3 => ?_⟩⟩
      repeat' array_mem_dec
      exact hRf H3 x3 B3 rfl
    · rintro Dl ys H1 hD rfl hlen x1 B1 aD
      repeat' array_mem_dec
      rename_i q2 H2 x2 B2 a2 n2
      exact k H2 (x1.trans x2) B2
end
end K12
namespace K12
open PySem PySem.Spec PyProof.Rows L2 EM
def spRowF : Sp := fun vs H Q _ => ∃ (T : List (Addr × Str)) (p l : Addr) (n m : Nat), vs = [.ref p, .int m] ∧ Bs T p l n H ∧ n ≤ 800000 ∧ m ≤ 130 ∧
  ∀ q zs es H', es.length = m → RowD DD (20 + 6 * m) es → PairsP p H' zs es → Ext p H H' → Bs T p l (n + 2 + 2 * m) H' → At p H' q (.lst zs) → Q (.ref q) H'
theorem RowD.nil {D M : Nat} : RowD D M [] := ⟨fun e h => (by cases h), fun i e f h => (by simp at h)⟩
theorem RowD.one {D M : Nat} {e : Int × Int} (h : Dv D M e) : RowD D M [e] := ⟨fun x hx => (by rw [List.mem_singleton.mp hx]; exact h), fun i x y h1 h2 => (by simp at h2)⟩
theorem _root_.EM.RowD.b2000 {M : Nat} {es : List (Int × Int)} (h : RowD DD M es) (hM : M < 2 ^ 12) : ∀ e ∈ es, Low e.1 e.2 ∧ Bt 2000 e.1 ∧ Bt 2000 e.2 := fun e he => ⟨(h.dv e he).low, ((h.dv e he).bt DD_pos DD_bt hM).1.mono (by decide), ((h.dv e he).bt DD_pos DD_bt hM).2.mono (by decide)⟩
theorem _root_.EM.Dv.b2000 {M : Nat} {e : Int × Int} (h : Dv DD M e) (hM : M < 2 ^ 12) : Bt 2000 e.1 ∧ Bt 2000 e.2 := ⟨(h.bt DD_pos DD_bt hM).1.mono (by decide), (h.bt DD_pos DD_bt hM).2.mono (by decide)⟩
theorem drawn_bs {T : List (Addr × Str)} {p l : Addr} {n : Nat} {H : Hp} {Q : VK} {E : XK} (B : Bs T p l n H) (hn : n ≤ 900000) (k : ∀ q e H', Dv DD 20 e → Ext p H H' → Bs T p l (n + 2) H' → At p H' q (.tup [.int e.1, .int e.2]) → Q (.ref q) H') : Sw spDrawnF [.ref p] H Q E := ⟨⟨T, p, l, n, rfl, B, hn, k⟩⟩
local macro_rules | `(tactic| sizeOf_list_dec) => `(tactic| first
  | with_reducible assumption
  | ((with_reducible apply EM.At.ext); (focus (with_reducible assumption)); (focus sizeOf_list_dec))
  | ((with_reducible apply EM.RatP.ext); (focus (with_reducible assumption)); (focus sizeOf_list_dec))
  | ((with_reducible apply EM.NumP.ext); (focus (with_reducible assumption)); (focus sizeOf_list_dec))
  | (with_reducible exact EM.Ext.refl)
  | ((with_reducible apply EM.Ext.back); (focus (with_reducible assumption)); (focus sizeOf_list_dec))
  | exact EM.NumP.int _
  | ((with_reducible apply EM.Mu.at_k); (focus (with_reducible assumption)); (focus sizeOf_list_dec); (focus sizeOf_list_dec); (focus (intro _ z; cases z; done)))
  | ((with_reducible apply EM.Mu.at_n); (focus (with_reducible assumption)); (focus sizeOf_list_dec); (focus (first | with_reducible assumption | ((apply EM.nn1); (focus (with_reducible assumption)); (focus sizeOf_list_dec)) | ((apply EM.nn2); (focus (with_reducible assumption)); (focus sizeOf_list_dec)))))
  | ((with_reducible apply EM.Mu.here); (focus (with_reducible assumption)); (focus sizeOf_list_dec))
  | ((with_reducible apply EM.Mu.rat); (focus (with_reducible assumption)); (focus sizeOf_list_dec); (focus sizeOf_list_dec))
  | ((with_reducible apply EM.Mu.num); (focus (with_reducible assumption)); (focus sizeOf_list_dec); (focus sizeOf_list_dec))
  | ((with_reducible apply EM.num_of_rat); (focus sizeOf_list_dec); (focus (first | with_reducible assumption | (apply EM.n_low; assumption))))
  | ((with_reducible apply EM.RatsP.xt); (focus (with_reducible assumption)); (focus sizeOf_list_dec))
  | ((with_reducible apply EM.NumsP.xt); (focus (with_reducible assumption)); (focus sizeOf_list_dec))
  | ((with_reducible apply EM.PairsP.xt); (focus (with_reducible assumption)); (focus sizeOf_list_dec))
  | ((with_reducible apply EM.RdP.xt); (focus (with_reducible assumption)); (focus sizeOf_list_dec))
  | ((with_reducible apply EM.Mu.rats); (focus (with_reducible assumption)); (focus sizeOf_list_dec); (focus sizeOf_list_dec))
  | ((with_reducible apply EM.Mu.pairs); (focus (with_reducible assumption)); (focus sizeOf_list_dec); (focus sizeOf_list_dec))
  | ((with_reducible apply EM.Mu.rdp); (focus (with_reducible assumption)); (focus sizeOf_list_dec); (focus sizeOf_list_dec)))
local macro_rules | `(tactic| decreasing_trivial_pre_omega) => `(tactic| first
  | with_reducible assumption
  | exact EM.Bt.mono (by with_reducible assumption) (by decide)
  | exact EM.Bt.lit _ _ (by decide +kernel)
  | ((with_reducible refine EM.Bt.rng32 ?_ ?_) <;> omega)
  | ((with_reducible refine EM.Bt.rng70 ?_ ?_) <;> omega)
  | ((with_reducible refine EM.Bt.rng200 ?_ ?_) <;> omega)
  | ((with_reducible apply EM.Bt.mulM); (focus decreasing_trivial_pre_omega); (focus decreasing_trivial_pre_omega); (focus (first | decide | exact Nat.le_refl _)))
  | ((with_reducible apply EM.Bt.addM); (focus decreasing_trivial_pre_omega); (focus decreasing_trivial_pre_omega); (focus (first | decide | exact Nat.le_refl _)))
  | ((with_reducible apply EM.Bt.subM); (focus decreasing_trivial_pre_omega); (focus decreasing_trivial_pre_omega); (focus (first | decide | exact Nat.le_refl _)))
  | ((with_reducible apply EM.Bt.topL); (focus decreasing_trivial_pre_omega); (focus assumption); (focus (first | decide | exact Nat.le_refl _)))
  | ((with_reducible apply EM.Bt.botL); (focus decreasing_trivial_pre_omega); (focus assumption); (focus (first | decide | exact Nat.le_refl _)))
  | ((with_reducible apply EM.Bt.divM); (focus decreasing_trivial_pre_omega); (focus assumption); (focus (first | decide | exact Nat.le_refl _)))
  | ((with_reducible apply EM.Bt.negM); (focus decreasing_trivial_pre_omega); (focus (first | decide | exact Nat.le_refl _))))
local macro_rules | `(tactic| array_get_dec) => `(tactic| first
  | with_reducible assumption
  | ((with_reducible refine EM.gEq ?_); exact rfl)
  | ((with_reducible refine EM.gTru ?_); exact rfl)
  | ((with_reducible refine EM.gRef ?_); first | exact Or.inl ⟨_, rfl⟩ | exact Or.inr ⟨_, rfl⟩)
  | ((with_reducible apply EM.At.get); sizeOf_list_dec)
  | ((with_reducible apply EM.At.sqL); sizeOf_list_dec)
  | ((with_reducible apply EM.At.sqT); sizeOf_list_dec)
  | ((with_reducible apply EM.RatP.getK); (focus sizeOf_list_dec); (focus (exact rfl)))
  | (with_reducible exact EM.Num.int _)
  | ((with_reducible apply EM.NumP.getK); (focus sizeOf_list_dec); (focus (exact rfl)))
  | ((with_reducible apply EM.At.ext); (focus (with_reducible assumption)); (focus sizeOf_list_dec))
  | ((with_reducible apply EM.RatP.ext); (focus (with_reducible assumption)); (focus sizeOf_list_dec))
  | ((with_reducible apply EM.NumP.ext); (focus (with_reducible assumption)); (focus sizeOf_list_dec))
  | with_reducible exact Tx.cl_Ratio (by assumption)
  | with_reducible exact Tx.cl_Reading (by assumption)
  | with_reducible exact Tx.na_Ratio_top (by assumption)
  | with_reducible exact Tx.na_Ratio_bottom (by assumption)
  | with_reducible exact Tx.na_Reading_own_edges (by assumption)
  | ((with_reducible refine EM.gAt ?_); sizeOf_list_dec)
  | ((with_reducible refine EM.gRat ?_); sizeOf_list_dec)
  | ((with_reducible refine EM.gNum ?_); sizeOf_list_dec)
  | ((with_reducible apply EM.TwoP.mk); (focus (with_reducible assumption)); (focus sizeOf_list_dec); (focus (first | with_reducible assumption | (apply EM.n_low; assumption))); (focus sizeOf_list_dec); (focus decreasing_trivial_pre_omega); (focus decreasing_trivial_pre_omega); (focus decreasing_trivial_pre_omega); (focus decreasing_trivial_pre_omega))
  | (with_reducible exact EM.Ext.refl)
  | ((with_reducible apply EM.Ext.back); (focus (with_reducible assumption)); (focus sizeOf_list_dec))
  | ((with_reducible apply EM.Bs.mono); (focus (with_reducible assumption)); omega)
  | ((with_reducible refine EM.gN ?_); first | decide | omega | exact Nat.le_of_ble_eq_true rfl | (simp only [List.length_cons, List.length_nil, List.length_append]; omega))
  | ((with_reducible refine EM.gM ?_); first | decide | omega | exact Nat.le_of_ble_eq_true rfl)
  | ((with_reducible refine EM.gI ?_); first | decide | omega)
  | ((with_reducible refine EM.gJ ?_); first | decide | omega)
  | ((with_reducible refine EM.gE ?_); first | decide | omega)
  | ((with_reducible refine EM.gB ?_); decreasing_trivial_pre_omega)
  | ((with_reducible apply EM.wideM); (focus decreasing_trivial_pre_omega); (focus decreasing_trivial_pre_omega); (focus decide)))
local macro_rules | `(tactic| infer_instance) => `(tactic| first
  | with_reducible assumption
  | exact DpAll.nil
  | (apply DpAll.cons; (focus infer_instance); (focus infer_instance))
  | with_reducible exact Dp.int _
  | exact Dp.int _
  | with_reducible exact Dp.str _
  | exact Dp.bl _
  | exact Dp.non
  | ((with_reducible apply EM.dp_lst); (focus array_get_dec); (focus infer_instance))
  | ((with_reducible apply EM.dp_tup); (focus array_get_dec); (focus infer_instance))
  | exact EM.dp_ints _)
local macro_rules | `(tactic| nofun) => `(tactic| first
  | with_reducible assumption
  | exact EM.FeL.nil
  | exact EM.FdL.nil
  | (apply EM.FeL.cons; (focus nofun); (focus nofun))
  | (apply EM.FdL.cons; (focus nofun); (focus nofun))
  | exact EM.Fe.int _
  | exact EM.Fe.bool _
  | exact EM.Fe.non
  | exact EM.Fe.str (EM.okS_of _)
  | (apply EM.Fe.str; apply EM.Fd.ok; (focus nofun))
  | (apply EM.Fe.list; (focus nofun))
  | (apply EM.Fe.tup; (focus nofun))
  | (apply EM.Fd.int; (focus decreasing_trivial_pre_omega))
  | exact EM.Fd.bool _
  | exact EM.Fd.non
  | (refine EM.Fd.bool _)
  | (apply EM.Fd.list; (focus nofun))
  | (apply EM.Fd.tup; (focus nofun)))
local macro_rules | `(tactic| array_mem_dec) => `(tactic| ((with_reducible refine EM.pr ?_); first
  | (with_reducible refine L2.iteT ?_)
  | (with_reducible refine L2.iteF ?_)
  | (with_reducible refine EM.ifNotT ?_)
  | (with_reducible refine EM.ifNotF ?_)
  | ((fail_if_success (with_reducible refine EM.gIf ?_)); first
  | array_get_dec
  | (refine EM.mk_low (by with_reducible assumption) (by with_reducible assumption) ?_ ?_; (focus array_get_dec))
  | (apply EM.isNum_sw; (focus sizeOf_list_dec))
  | (apply EM.of_sw; (focus (with_reducible assumption)); (focus sizeOf_list_dec))
  | (apply EM.neg_bs; (focus (with_reducible assumption)); (focus sizeOf_list_dec); (focus array_get_dec); (focus array_get_dec))
  | (apply EM.relw_bs; (focus (with_reducible assumption)); (focus sizeOf_list_dec); (focus sizeOf_list_dec); (focus array_get_dec); (focus decreasing_trivial_pre_omega); (focus decreasing_trivial_pre_omega); (focus decreasing_trivial_pre_omega); (focus decreasing_trivial_pre_omega))
  | ((apply EM.DnS.bs); (focus (with_reducible assumption)); (focus (intro _ z; cases z; done)))
  | ((apply EM.seqL); (focus sizeOf_list_dec))
  | ((apply EM.seqT); (focus sizeOf_list_dec))
  | ((apply EM.lenL); (focus sizeOf_list_dec))
  | ((apply EM.lenT); (focus sizeOf_list_dec))
  | ((apply EM.isSeqL); (focus sizeOf_list_dec); (focus sizeOf_list_dec))
  | ((apply EM.isSeqT); (focus sizeOf_list_dec); (focus sizeOf_list_dec))
  | ((apply EM.tupL); (focus sizeOf_list_dec))
  | ((apply EM.fld_bs); (focus sizeOf_list_dec); (focus (exact Tx.cl_Reading (by assumption))); (focus (exact Tx.na_Reading_own_edges (by assumption))); (focus (exact rfl)))
  | ((with_reducible refine EM.New.bs (by with_reducible assumption) ?_ ?_); (focus (intro _ z; cases z; done)))
  | ((with_reducible refine EM.gMu ?_); (with_reducible apply EM.mu_bs); (focus (with_reducible assumption)); (focus sizeOf_list_dec); (focus (apply EM.nel2; (focus (with_reducible assumption)); (focus (with_reducible assumption)))); intro _ _ _)
  | intro _
  | (apply And.intro; (focus array_get_dec))
  | apply Exists.intro
  | (refine EM.draw_bs (by with_reducible assumption) ?_ ?_ ?_ ?_; (focus array_get_dec); (focus array_get_dec); (focus (first | decide | omega)))
  | (apply EM.pick_int; (focus (with_reducible assumption)); (focus array_get_dec); (focus sizeOf_list_dec); (focus ((repeat' (first | exact EM.AllI.nil | apply EM.AllI.cons)); done)); (focus (exact Nat.le_of_ble_eq_true rfl)); (focus (exact Nat.le_of_ble_eq_true rfl)))
  | (apply EM.pick_bs; (focus (with_reducible assumption)); (focus array_get_dec); (focus sizeOf_list_dec); (focus (exact Nat.le_of_ble_eq_true rfl)); (focus (exact Nat.le_of_ble_eq_true rfl)))
  | ((apply EM.repr_sw); (focus infer_instance); (focus nofun); (focus decide))
  | ((apply EM.eqd_same); (focus infer_instance); (focus infer_instance); (focus nofun); (focus decide))
  | ((apply EM.ned_same); (focus infer_instance); (focus infer_instance); (focus nofun); (focus decide))
  | ((apply EM.eqd_sw); (focus infer_instance); (focus infer_instance); (focus nofun); (focus nofun); (focus decide))
  | ((apply EM.ned_sw); (focus infer_instance); (focus infer_instance); (focus nofun); (focus nofun); (focus decide))
  | (refine EM.cut_bs (by with_reducible assumption) ?_ ?_ ?_; (focus array_get_dec); (focus array_get_dec)))))
section
variable {P : Program} {w : World} {K : PySem.W.Frag} {mg : Str → Option Value} {base : Heap}
theorem ok_Lrow (T : Tx K mg) : FnR P w K mg base (L2.CX P w) 4 (He.ga K "_law_row") (spRowF) := by
  obtain ⟨fd, F⟩ := T.d_Lrow
  refine EM.fnr F sc_Lrow (fun _ _ _ _ _ _ us hl => match us, hl with | [_, _], _ => rfl) (fun vs H Q E h => ?_) (fun cdv A outer s H vs Q E hr h => ?_)
  · obtain ⟨T0, p, l, n, m, rfl, _⟩ := h
    rfl
  · obtain ⟨T0, p, l, n, m, rfl, B0, hn, hm, k⟩ := h
    refine ⟨_, (PSs.nox (pss_cons (ps_set (i := 2) sc_Lrow.nd rfl (Or.inl rfl) (pe_op EM.op_repN (EM.pe_lstN (pa_cons (EM.pe_cR ((ok_Ldrawn T).sw) (hr.mono (by decide)) T.k__law_drawn T.g__law_drawn passL (pa_cons (pv 0) pa_nil)) pa_nil)) (pe_callB (call_min2 rfl) (by rfl) T.f_min (by decide +kernel) (pa_cons pe_int (pa_cons (pe_callTy EM.call_intN (by rfl) T.f_int (by decide +kernel) (pa_cons (pv 1) pa_nil)) pa_nil)))))
 (pss_cons (EM.forN (ps_for PassesOwn.never rfl (pi_range1 (by rfl) T.f_range (pa_cons (pe_op op_sub (pv 1) pe_int) pa_nil)).mc (pg_name (i := 3) sc_Lrow.nd rfl (Or.inl rfl))
  (pss_cons (ps_set (i := 4) sc_Lrow.nd rfl (Or.inl rfl) (EM.pe_cR ((ok_Lfrac T).sw) (hr.mono (by decide)) T.k__law_frac T.g__law_frac passL (pa_cons (pe_op op_add pe_int (EM.pe_cR ((ok_Ldraw T).sw) (hr.mono (by decide)) T.k__law_draw T.g__law_draw passL (pa_cons (pv 0) (pa_cons pe_int pa_nil)))) (pa_cons (EM.pe_cR ((ok_Lpick T).sw) (hr.mono (by decide)) T.k__law_pick T.g__law_pick passL (pa_cons (pv 0) (pa_cons (EM.pe_lstN (pa_cons pe_int (pa_cons pe_int (pa_cons pe_int (pa_cons pe_int (pa_cons (pe_op (EM.op_powV 10 25 10000000000000000000000000 ⟨by decide, by decide, by decide⟩ (by decide +kernel)) pe_int pe_int) pa_nil)))))) pa_nil))) pa_nil))))
 (pss_one (ps_expr (EM.pe_appN (pv 2) (EM.pe_cR ((ok_Lsum T).sw) (hr.mono (by decide)) T.k__law_sum T.g__law_sum passL (pa_cons (pe_ix ix_list (pv 2) (pe_un un_neg pe_int) (fun _ _ => rfl)) (pa_cons (pv 4) pa_nil)))))))))
 (pss_one (ps_ret (pv 2)))))), ?_⟩
    repeat' array_mem_dec
    refine drawn_bs B0 (by omega) fun q0 e0 H1 d0 x1 B1 a1 => ?_
    repeat' array_mem_dec
    rename_i L1 H2 x2 B2 a2 n2 F H3 x3 B3 aF nF
    have x03 : Ext p H2 H3 := x3
    have a13 : At p H3 q0 (.tup [.int e0.1, .int e0.2]) := (a1.ext x2).ext x3
    obtain ⟨es0, z0, ez, hl0, hp0, hr0⟩ : ∃ es0 z0, (List.replicate (if (m : Int) < 1 then (m : Int) else 1).toNat [V.ref q0]).flatten = z0 ∧ es0.length = min 1 m ∧ PairsP p H3 z0 es0 ∧ RowD DD 20 es0 := by
      rcases Nat.eq_zero_or_pos m with rfl | hm0
      · exact ⟨[], [], rfl, rfl, PairsP.nil, RowD.nil⟩
      · refine ⟨[e0], [.ref q0], ?_, ?_, ?_, RowD.one d0⟩
        · rw [if_neg (by omega)]
          rfl
        · simp; omega
        · exact PairsP.nil.snoc a13
    rw [ez] at aF
    have x13 : Ext p H H2 := x1.trans x2
    have frF : Fresh p H F := (Fresh.none nF).back x13
    clear ez a1 a2 n2 a13 x2 x1 B1
    refine FoS.it walk_range (fun i σ H4 => Hold (∃ zs es v3 v4, σ = [some (.ref p), some (.int (m : Int)), some (.ref F), v3, v4] ∧ At p H4 F (.lst zs) ∧ es.length = min 1 m + i ∧ RowD DD (20 + 6 * i) es ∧ PairsP p H4 zs es ∧ XtM p H H4 ∧ Bs T0 p l (n + 2 + 2 * i) H4))
      ⟨⟨z0, es0, _, _, rfl, aF, by omega, hr0, hp0, ⟨x13.trans x3⟩, B3⟩⟩ (fun _ _ _ _ _ => trivial) ?_ ?_
    · rintro i y σ H4 H5 hi ⟨⟨zs, es, v3, v4, rfl, aZ, hl, hr, hp, ⟨x04⟩, B4⟩⟩ ⟨rfl, rfl⟩
      have hm1 : 1 ≤ m := by omega
      have hi2 : i < m - 1 := by omega
      have hzl := hp.len
      obtain ⟨e, ee⟩ : ∃ e, es[es.length - 1]? = some e := ⟨_, List.getElem?_eq_getElem (by omega)⟩
      obtain ⟨qe, eqe, aqe⟩ := hp.get ee
      have ixl : atI zs (-1) = some (.ref qe) := atI_m (j := zs.length - 1) (by omega) (by omega) (by rw [hzl]; exact eqe)
      have dve := hr.dv e (List.mem_of_getElem? ee)
      repeat' array_mem_dec
      rename_i d H6 d1 d2 x6 B6 L7 H7 x7 B7 a7 n7 c H8 hc x8 B8
      obtain ⟨c0, cd, cb⟩ : 0 < c ∧ c ∣ (DD : Int) ∧ Bt 90 c := by
        simp only [List.mem_cons, List.not_mem_nil, or_false] at hc
        rcases hc with rfl | rfl | rfl | rfl | rfl <;> exact ⟨by decide, by decide +kernel, Bt.lit _ _ (by decide +kernel)⟩
      refine frac_bs B8 c0 (cb.mono (by decide)) fun q9 H9 x9 B9 a9 => ?_
      have dvs : Dv DD 6 (nTop (1 + d) c, nBot (1 + d) c) := Dv.frac c0 cd (by omega)
      have s0 : 0 < nTop (1 + d) c := (top_sign c0).2.mpr (by omega)
      have x49 : Ext p H5 H9 := x6.trans (x7.trans (x8.trans x9))
      have aZ9 := aZ.ext x49
      have hp9 := hp.ext x49
      have aqe9 := aqe.ext x49
      clear a7 n7 aZ hp aqe B4 B6 B7 B8 x6 x7 x8 x9 hc
      repeat' array_mem_dec
      refine sumF_bs (e := e) (b := (nTop (1 + d) c, nBot (1 + d) c)) B9 aqe9 a9 dve.low dvs.low (dve.b2000 (by omega)) (dvs.b2000 (by decide)) fun q10 H10 x10 B10 a10 => ?_
      have aZ10 := aZ9.ext x10
      have hp10 := hp9.ext x10
      have x010 := x04.trans (x49.trans x10)
      repeat' array_mem_dec
      rename_i H11 mu B11
      refine ⟨⟨_, es ++ [addF (nTop (1 + d) c, nBot (1 + d) c) e], _, _, rfl, mu.here aZ10, by simp; omega, ?_, mu.pairs (hp10.snoc a10) aZ10, ⟨Ext.muF frF x010 mu⟩, B11.mono (by omega)⟩⟩
      refine (hr.mono (D' := DD) (M' := 20 + 6 * (i + 1)) (Nat.dvd_refl _) (by omega)).snoc (e := e) ?_ ?_
      · exact (dvs.add dve).mono (Nat.dvd_refl _) (by omega)
      · intro e' ee'
        rw [ee] at ee'
        cases ee'
        exact addF_gt dvs.low dve.low s0
    · rintro σ H4 ⟨⟨zs, es, v3, v4, rfl, aZ, hl, hr, hp, ⟨x04⟩, B4⟩⟩
      repeat' array_mem_dec
      have hz : (((m : Int) - 1).toNat) = m - 1 := by omega
      rw [hz] at hl hr B4
      exact k F zs es H4 (by omega) (hr.mono (Nat.dvd_refl _) (by omega)) hp x04 (B4.mono (by omega)) aZ
end
end K12
namespace K12
open PySem PySem.Spec PyProof.Rows L2 EM
theorem emp_app (a : Str) : Str.empty ++ a = a := Str.empty_append a
/-- repr of a Ratio -/
def ratText (t b : Int) : Str := "Ratio(" ++ tx t ++ ", " ++ tx b ++ ")"
def spRRep (K : PySem.W.Frag) : Sp := fun vs H Q _ => ∃ (p : Addr) (t b : Int), vs = [.ref p] ∧ RatAt K H p t b ∧ Bt 1900 t ∧ Bt 1900 b ∧ Q (.str (ratText t b)) H
def sh2 (z : Str) (d : PyData) : Str := (PyData.tuple [.str z, d]).shown
/-- what stands behind the word, and the text of both -/
inductive ShV (K : PySem.W.Frag) (p : Addr) (H : Hp) (z : Str) : V → Str → Prop
  | int {i : Int} (b : Bt 1900 i) : ShV K p H z (.int i) (sh2 z (.int i))
  | non : ShV K p H z .non (sh2 z .none)
  | bl {b : Bool} : ShV K p H z (.bl b) (sh2 z (.bool b))
  | str {y : Str} (h : Fd 100 0 (.str y)) : ShV K p H z (.str y) (sh2 z (.str y))
  | tup {a : Addr} (h : At p H a (.tup [.int 0])) : ShV K p H z (.ref a) (sh2 z (.tuple [.int 0]))
  | lst {a : Addr} (h : At p H a (.lst [.int 0])) : ShV K p H z (.ref a) (sh2 z (.list [.int 0]))
  | rat {a : Addr} {t b : Int} (h : RatP K p H a t b) (bt : Bt 1900 t) (bb : Bt 1900 b) : ShV K p H z (.ref a) (tupleText [reprText z, ratText t b])
  | dct {a : Addr} (h : At p H a (.dK [])) : ShV K p H z (.ref a) (tupleText [reprText z, dictText []])
theorem ShV.ext {K : PySem.W.Frag} {p : Addr} {H H' : Hp} {z : Str} {v : V} {t : Str} (h : ShV K p H z v t) (x : Ext p H H') : ShV K p H' z v t := by
  cases h with
  | int b => exact .int b
  | non => exact .non
  | bl => exact .bl
  | str h => exact .str h
  | tup h => exact .tup (h.ext x)
  | lst h => exact .lst (h.ext x)
  | rat h bt bb => exact .rat (h.ext x) bt bb
  | dct h => exact .dct (h.ext x)
structure OkZ (z : Str) : Prop where
  fd : Fd 100 0 (.str z)
  len : (reprText z).length ≤ 100
structure RpE (K : PySem.W.Frag) (xs : List V) (H : Hp) (Q : VK) : Prop where
  h : ∃ p q z v t, xs = [.ref q] ∧ At p H q (.tup [.str z, v]) ∧ OkZ z ∧ ShV K p H z v t ∧ Q (.str t) H
theorem rpe {K : PySem.W.Frag} {p q : Addr} {H : Hp} {z : Str} {v : V} {t : Str} {Q : VK} (h : At p H q (.tup [.str z, v])) (o : OkZ z) (e : ShV K p H z v t) (k : Q (.str t) H) : RpE K [.ref q] H Q := ⟨p, q, z, v, t, rfl, h, o, e, k⟩
theorem okz_of {z s : Str} (h : (PyData.str z).shown = s) (g : (decide ((PyData.str z).canLay0 = true) && decide ((PyData.str z).showable = true) && decide ((PyData.str z).shown.length ≤ 100) && decide ((PyData.str z).depth ≤ 0) && decide (PyData.eqv (.str z) (.str z) = true) && decide ((reprText z).length ≤ 100)) = true) (o : okS s) : OkZ z := by
  simp only [Bool.and_eq_true, decide_eq_true_eq] at g
  obtain ⟨⟨⟨⟨⟨g1, g2⟩, g3⟩, g4⟩, g5⟩, g6⟩ := g
  exact ⟨⟨g1, g2, g3, g4, g5, by rw [h]; exact o⟩, g6⟩
theorem zero_fd : Fd 100 0 (.str "0") := (okz_of (z := "0") (s := "'0'") (by decide +kernel) (by decide +kernel) (okS_of _)).fd
theorem okz_edge : OkZ "edge" := okz_of (z := "edge") (s := "'edge'") (by decide +kernel) (by decide +kernel) (okS_of _)
theorem okz_rising : OkZ "rising" := okz_of (z := "rising") (s := "'rising'") (by decide +kernel) (by decide +kernel) (okS_of _)
theorem okz_reading : OkZ "reading" := okz_of (z := "reading") (s := "'reading'") (by decide +kernel) (by decide +kernel) (okS_of _)
section
variable {P : Program} {w : World} {K : PySem.W.Frag} {mg : Str → Option Value} {base : Heap}
theorem ok_Ratio_repr (T : Tx K mg) : FnR P w K mg base (L2.CX P w) 1 (He.ma K (He.ga K "Ratio") "__repr__") (spRRep K) := by
  obtain ⟨fd, F⟩ := T.d_Ratio_repr
  refine EM.fnr F sc_Ratio_repr (fun _ _ _ _ _ _ us hl => match us, hl with | [_], _ => rfl) (fun vs H Q E h => ?_) (fun cdv A outer s H vs Q E hr h => ?_)
  · obtain ⟨p, t, b, rfl, _⟩ := h
    rfl
  · obtain ⟨p, t, b, rfl, ⟨dx, hp⟩, st, sb, k⟩ := h
    have stl : t.natAbs.log2 < 1920 := Nat.lt_trans (st.log (by decide)) (by decide)
    have sbl : b.natAbs.log2 < 1920 := Nat.lt_trans (sb.log (by decide)) (by decide)
    have lt : (tx t).length ≤ 1921 := int_text_len_1921 stl
    have lb : (tx b).length ≤ 1921 := int_text_len_1921 sbl
    have zl : 50000 ≤ sizeLine := by decide
    have r1 : ("Ratio(" : Str).length = 6 := by decide +kernel
    have r2 : (", " : Str).length = 2 := by decide +kernel
    have r3 : (")" : Str).length = 1 := by decide +kernel
    refine ⟨_, (PSs.nox (pss_one (ps_ret (pe_joined (.cons pe_str (.cons (pe_fmt (pe_fld (pv 0) rfl)) (.cons pe_str (.cons (pe_fmt (pe_fld (pv 0) rfl)) (.cons pe_str .nil))))))))), ?_⟩
    refine ⟨_, rfl, ?_, _, rfl, p, _, dx, _, .int t, rfl, hp, T.cl_Ratio, T.na_Ratio_top, rfl, .inr ⟨t, rfl, stl, _, rfl, ?_, _, rfl, ?_, _, rfl, p, _, dx, _, .int b, rfl, hp, T.cl_Ratio, T.na_Ratio_bottom, rfl, .inr ⟨b, rfl, sbl, _, rfl, ?_, _, rfl, ?_, ?_⟩⟩⟩
    · rw [emp_app, r1]
      omega
    · rw [emp_app, Str.length_append, r1]
      show 6 + (tx t).length ≤ _
      omega
    · rw [emp_app, Str.length_append, Str.length_append, r1, r2]
      show 6 + (tx t).length + 2 ≤ _
      omega
    · rw [emp_app, Str.length_append, Str.length_append, Str.length_append, r1, r2]
      show 6 + (tx t).length + 2 + (tx b).length ≤ _
      omega
    · rw [emp_app, Str.length_append, Str.length_append, Str.length_append, Str.length_append, r1, r2, r3]
      show 6 + (tx t).length + 2 + (tx b).length + 1 ≤ _
      omega
    · rw [emp_app]
      exact k
theorem call_sh {K : PySem.W.Frag} {mg : Str → Option Value} (T : Tx K mg) {X : Cx} (hG : X.A.guards = some []) (hr : Room 3 X.A) (hu : X.A.units + 70 < cLine) (e1 : X.K = K := by rfl) (e2 : X.mg = mg := by rfl) : CallR X (.builtin "repr") (RpE K) := by
  subst e1 e2
  refine callR_of (call_two (call_two (call_reprD hG hu) (call_reprP (E := E0) T.m_Ratio_repr.at_ T.m_Ratio_repr.fn (ok_Ratio_repr (P := X.prog) (w := X.w) (base := X.base) T) hG hr passL)) (call_reprE hG hr)) ?_
  rintro vs H Q ⟨⟨p, q, z, v, t, rfl, hq, oz, e, k⟩⟩
  have fs := oz.fd
  have hz : (reprText z).length ≤ 1000 := Nat.le_trans oz.len (by decide)
  have hz' := oz.len
  have dat : ∀ {d : PyData} {n m : Nat}, Dp X.K H v d → Fd n m d → n ≤ 9000 → m ≤ 60 → Q (.str (sh2 z d)) H → rRepr X.K [.ref q] H Q := fun hd fd hn hm k => by
    have f := Fd.tup (FdL.cons fs (FdL.cons fd FdL.nil))
    exact ⟨_, .tuple [.str z, _], rfl, dp_tup hq.at_ (.cons (.str _) (.cons hd .nil)), f.sh, Nat.le_trans f.len (Nat.le_trans (by omega : _ ≤ 10000) (by decide)), Nat.le_trans f.dep (by omega), k⟩
  cases e with
  | int b => exact .inl (.inl (dat (.int _) (Fd.int b) (by decide) (by decide) k))
  | non => exact .inl (.inl (dat .non Fd.non (by decide) (by decide) k))
  | bl => exact .inl (.inl (dat (.bl _) (Fd.bool _) (by decide) (by decide) k))
  | str h => exact .inl (.inl (dat (.str _) h (by decide) (by decide) k))
  | tup h => exact .inl (.inl (dat (dp_tup h.at_ (.cons (.int _) .nil)) (Fd.tup (FdL.cons (Fd.int (Bt.lit 1900 0 (by decide +kernel))) FdL.nil)) (by decide) (by decide) k))
  | lst h => exact .inl (.inl (dat (dp_lst h.at_ (.cons (.int _) .nil)) (Fd.list (FdL.cons (Fd.int (Bt.lit 1900 0 (by decide +kernel))) FdL.nil)) (by decide) (by decide) k))
  | @rat a t b h bt bb =>
    obtain ⟨⟨dx, h⟩, n⟩ := h
    refine .inl (.inr ⟨q, z, _, dx, _, rfl, hq.at_, h, hz, _, _, _, rfl, ⟨dx, h⟩, bt, bb, _, rfl, ?_, k⟩)
    have lt : (tx t).length ≤ 1921 := int_text_len_1921 (Nat.lt_trans (bt.log (by decide)) (by decide))
    have lb : (tx b).length ≤ 1921 := int_text_len_1921 (Nat.lt_trans (bb.log (by decide)) (by decide))
    have h1 := tupleText_len_le [reprText z, ratText t b]
    have r1 : ("Ratio(" : Str).length = 6 := by decide +kernel
    have r2 : (", " : Str).length = 2 := by decide +kernel
    have r3 : (")" : Str).length = 1 := by decide +kernel
    have hr' : (ratText t b).length ≤ 4000 := by
      unfold ratText
      rw [Str.length_append, Str.length_append, Str.length_append, Str.length_append, r1, r2, r3]
      omega
    simp only [List.map_cons, List.map_nil, List.sum_cons, List.sum_nil, List.length_cons, List.length_nil] at h1
    have zl : 50000 ≤ sizeLine := by decide
    exact Nat.le_trans h1 (by omega)
  | dct h => exact .inr ⟨q, z, _, rfl, hq.at_, h.at_, hz, k⟩
end
end K12
namespace K12
open PySem PySem.Spec PyProof.Rows L2 EM
/-- the fields of a kept error, as a rule that is not opened -/
structure HErr (K : PySem.W.Frag) (cls : Value) (d : Option Addr) (H : Hp) (Q : VK) : Prop where
  h : ∃ (T : List (Addr × Str)) (p l : Addr) (n : Nat) (C f nm : Str) (v : V) (dd : Addr), cls = .ref (He.ga K C) ∧ d = some dd ∧ Bs T p l n H ∧ At p H dd (.xd [(f, v)]) ∧ ((C = "NoEdge" ∧ f = "value" ∧ nm = "edge") ∨ (C = "BadReading" ∧ f = "at" ∧ nm = "reading") ∨ (C = "NotRising" ∧ f = "at" ∧ nm = "rising")) ∧
    ∀ r H3, Ext p H H3 → Bs T p l n H3 → At p H3 r (.tup [.str nm, v]) → Q (.ref r) H3
/-- what _law_heard makes of what it asks -/
def TTh (K : PySem.W.Frag) (tl : XK → Hp → VK → Prop) (H : Hp) (Q : VK) : Prop :=
  ∀ E', (∀ cls d H', HErr K cls d H' Q → E' cls d H') → tl E' H (fun v H' => [V.str "told", v].length ≤ 100000 ∧ ∀ q H2, New H' q (.tup [.str "told", v]) H2 → Q (.ref q) H2)
theorem isX_NoEdge {K K' : PySem.W.Frag} {mg : Str → Option Value} (T : Tx K mg) (eK : K' = K) {p a d tp : Addr} {fs : List (Str × V)} {H : Hp} {Q : VK} (h : ErrP p H a (He.ga K "NoEdge") d fs) (ht : At p H tp (.tup [.ref (He.ga K "BadRatio"), .ref (He.ga K "NoStretch"), .ref (He.ga K "BadText"), .ref (He.ga K "BadView"), .ref (He.ga K "BadTerms"), .ref (He.ga K "NoTerms"), .ref (He.ga K "Unlike")])) (q : Q (.bl false) H) : Sr (rIsX K') [.ref a, .ref tp] H Q := by
  subst eK
  exact isX_tup (cs := [He.ga K' "BadRatio", He.ga K' "NoStretch", He.ga K' "BadText", He.ga K' "BadView", He.ga K' "BadTerms", He.ga K' "NoTerms", He.ga K' "Unlike"]) h T.xc_NoEdge ht (kitAny_no _ (by
    simp only [List.mem_cons, List.not_mem_nil, or_false, forall_eq_or_imp, forall_eq]
    exact ⟨T.kit_NoEdge_BadRatio, T.kit_NoEdge_NoStretch, T.kit_NoEdge_BadText, T.kit_NoEdge_BadView, T.kit_NoEdge_BadTerms, T.kit_NoEdge_NoTerms, T.kit_NoEdge_Unlike⟩)) q
theorem xk_bs_NoEdge {K K' : PySem.W.Frag} {mg : Str → Option Value} (T : Tx K mg) (eK : K' = K) {p a d : Addr} {v : V} {H : Hp} {Q : VK} (h : ErrP p H a (He.ga K "NoEdge") d [("value", v)]) (q : Q v H) : XkS K' "value" (.ref a) H Q := by
  subst eK
  exact ⟨p, a, _, d, _, v, rfl, h, T.xf_NoEdge, T.na_NoEdge_value, rfl, q⟩
theorem isX_BadReading {K K' : PySem.W.Frag} {mg : Str → Option Value} (T : Tx K mg) (eK : K' = K) {p a d tp : Addr} {fs : List (Str × V)} {H : Hp} {Q : VK} (h : ErrP p H a (He.ga K "BadReading") d fs) (ht : At p H tp (.tup [.ref (He.ga K "BadRatio"), .ref (He.ga K "NoStretch"), .ref (He.ga K "BadText"), .ref (He.ga K "BadView"), .ref (He.ga K "BadTerms"), .ref (He.ga K "NoTerms"), .ref (He.ga K "Unlike")])) (q : Q (.bl false) H) : Sr (rIsX K') [.ref a, .ref tp] H Q := by
  subst eK
  exact isX_tup (cs := [He.ga K' "BadRatio", He.ga K' "NoStretch", He.ga K' "BadText", He.ga K' "BadView", He.ga K' "BadTerms", He.ga K' "NoTerms", He.ga K' "Unlike"]) h T.xc_BadReading ht (kitAny_no _ (by
    simp only [List.mem_cons, List.not_mem_nil, or_false, forall_eq_or_imp, forall_eq]
    exact ⟨T.kit_BadReading_BadRatio, T.kit_BadReading_NoStretch, T.kit_BadReading_BadText, T.kit_BadReading_BadView, T.kit_BadReading_BadTerms, T.kit_BadReading_NoTerms, T.kit_BadReading_Unlike⟩)) q
theorem xk_bs_BadReading {K K' : PySem.W.Frag} {mg : Str → Option Value} (T : Tx K mg) (eK : K' = K) {p a d : Addr} {v : V} {H : Hp} {Q : VK} (h : ErrP p H a (He.ga K "BadReading") d [("at", v)]) (q : Q v H) : XkS K' "at" (.ref a) H Q := by
  subst eK
  exact ⟨p, a, _, d, _, v, rfl, h, T.xf_BadReading, T.na_BadReading_at, rfl, q⟩
theorem isX_NotRising {K K' : PySem.W.Frag} {mg : Str → Option Value} (T : Tx K mg) (eK : K' = K) {p a d tp : Addr} {fs : List (Str × V)} {H : Hp} {Q : VK} (h : ErrP p H a (He.ga K "NotRising") d fs) (ht : At p H tp (.tup [.ref (He.ga K "BadRatio"), .ref (He.ga K "NoStretch"), .ref (He.ga K "BadText"), .ref (He.ga K "BadView"), .ref (He.ga K "BadTerms"), .ref (He.ga K "NoTerms"), .ref (He.ga K "Unlike")])) (q : Q (.bl false) H) : Sr (rIsX K') [.ref a, .ref tp] H Q := by
  subst eK
  exact isX_tup (cs := [He.ga K' "BadRatio", He.ga K' "NoStretch", He.ga K' "BadText", He.ga K' "BadView", He.ga K' "BadTerms", He.ga K' "NoTerms", He.ga K' "Unlike"]) h T.xc_NotRising ht (kitAny_no _ (by
    simp only [List.mem_cons, List.not_mem_nil, or_false, forall_eq_or_imp, forall_eq]
    exact ⟨T.kit_NotRising_BadRatio, T.kit_NotRising_NoStretch, T.kit_NotRising_BadText, T.kit_NotRising_BadView, T.kit_NotRising_BadTerms, T.kit_NotRising_NoTerms, T.kit_NotRising_Unlike⟩)) q
theorem xk_bs_NotRising {K K' : PySem.W.Frag} {mg : Str → Option Value} (T : Tx K mg) (eK : K' = K) {p a d : Addr} {v : V} {H : Hp} {Q : VK} (h : ErrP p H a (He.ga K "NotRising") d [("at", v)]) (q : Q v H) : XkS K' "at" (.ref a) H Q := by
  subst eK
  exact ⟨p, a, _, d, _, v, rfl, h, T.xf_NotRising, T.na_NotRising_at, rfl, q⟩
local macro_rules | `(tactic| sizeOf_list_dec) => `(tactic| first
  | with_reducible assumption
  | ((with_reducible apply EM.At.ext); (focus (with_reducible assumption)); (focus sizeOf_list_dec))
  | ((with_reducible apply EM.RatP.ext); (focus (with_reducible assumption)); (focus sizeOf_list_dec))
  | ((with_reducible apply EM.NumP.ext); (focus (with_reducible assumption)); (focus sizeOf_list_dec))
  | (with_reducible exact EM.Ext.refl)
  | ((with_reducible apply EM.Ext.back); (focus (with_reducible assumption)); (focus sizeOf_list_dec))
  | exact EM.NumP.int _
  | ((with_reducible apply EM.Mu.at_k); (focus (with_reducible assumption)); (focus sizeOf_list_dec); (focus sizeOf_list_dec); (focus (intro _ z; cases z; done)))
  | ((with_reducible apply EM.Mu.at_n); (focus (with_reducible assumption)); (focus sizeOf_list_dec); (focus (first | with_reducible assumption | ((apply EM.nn1); (focus (with_reducible assumption)); (focus sizeOf_list_dec)) | ((apply EM.nn2); (focus (with_reducible assumption)); (focus sizeOf_list_dec)))))
  | ((with_reducible apply EM.Mu.here); (focus (with_reducible assumption)); (focus sizeOf_list_dec))
  | ((with_reducible apply EM.Mu.rat); (focus (with_reducible assumption)); (focus sizeOf_list_dec); (focus sizeOf_list_dec))
  | ((with_reducible apply EM.Mu.num); (focus (with_reducible assumption)); (focus sizeOf_list_dec); (focus sizeOf_list_dec))
  | ((with_reducible apply EM.num_of_rat); (focus sizeOf_list_dec); (focus (first | with_reducible assumption | (apply EM.n_low; assumption))))
  | ((with_reducible apply EM.RatsP.xt); (focus (with_reducible assumption)); (focus sizeOf_list_dec))
  | ((with_reducible apply EM.NumsP.xt); (focus (with_reducible assumption)); (focus sizeOf_list_dec))
  | ((with_reducible apply EM.PairsP.xt); (focus (with_reducible assumption)); (focus sizeOf_list_dec))
  | ((with_reducible apply EM.RdP.xt); (focus (with_reducible assumption)); (focus sizeOf_list_dec))
  | ((with_reducible apply EM.Mu.rats); (focus (with_reducible assumption)); (focus sizeOf_list_dec); (focus sizeOf_list_dec))
  | ((with_reducible apply EM.Mu.pairs); (focus (with_reducible assumption)); (focus sizeOf_list_dec); (focus sizeOf_list_dec))
  | ((with_reducible apply EM.Mu.rdp); (focus (with_reducible assumption)); (focus sizeOf_list_dec); (focus sizeOf_list_dec))
  | ((with_reducible apply EM.ErrP.xt); (focus (with_reducible assumption)); (focus sizeOf_list_dec))
  | ((with_reducible apply EM.Mu.err); (focus (with_reducible assumption)); (focus sizeOf_list_dec); (focus sizeOf_list_dec)))
local macro_rules | `(tactic| decreasing_trivial_pre_omega) => `(tactic| first
  | with_reducible assumption
  | exact EM.Bt.mono (by with_reducible assumption) (by decide)
  | exact EM.Bt.lit _ _ (by decide +kernel)
  | ((with_reducible refine EM.Bt.rng32 ?_ ?_) <;> omega)
  | ((with_reducible refine EM.Bt.rng70 ?_ ?_) <;> omega)
  | ((with_reducible refine EM.Bt.rng200 ?_ ?_) <;> omega)
  | ((with_reducible apply EM.Bt.mulM); (focus decreasing_trivial_pre_omega); (focus decreasing_trivial_pre_omega); (focus (first | decide | exact Nat.le_refl _)))
  | ((with_reducible apply EM.Bt.addM); (focus decreasing_trivial_pre_omega); (focus decreasing_trivial_pre_omega); (focus (first | decide | exact Nat.le_refl _)))
  | ((with_reducible apply EM.Bt.subM); (focus decreasing_trivial_pre_omega); (focus decreasing_trivial_pre_omega); (focus (first | decide | exact Nat.le_refl _)))
  | ((with_reducible apply EM.Bt.topL); (focus decreasing_trivial_pre_omega); (focus assumption); (focus (first | decide | exact Nat.le_refl _)))
  | ((with_reducible apply EM.Bt.botL); (focus decreasing_trivial_pre_omega); (focus assumption); (focus (first | decide | exact Nat.le_refl _)))
  | ((with_reducible apply EM.Bt.divM); (focus decreasing_trivial_pre_omega); (focus assumption); (focus (first | decide | exact Nat.le_refl _)))
  | ((with_reducible apply EM.Bt.negM); (focus decreasing_trivial_pre_omega); (focus (first | decide | exact Nat.le_refl _))))
local macro_rules | `(tactic| array_get_dec) => `(tactic| first
  | with_reducible assumption
  | ((with_reducible refine EM.gEq ?_); exact rfl)
  | ((with_reducible refine EM.gTru ?_); exact rfl)
  | ((with_reducible refine EM.gRef ?_); first | exact Or.inl ⟨_, rfl⟩ | exact Or.inr ⟨_, rfl⟩)
  | ((with_reducible apply EM.At.get); sizeOf_list_dec)
  | ((with_reducible apply EM.At.sqL); sizeOf_list_dec)
  | ((with_reducible apply EM.At.sqT); sizeOf_list_dec)
  | ((with_reducible apply EM.RatP.getK); (focus sizeOf_list_dec); (focus (exact rfl)))
  | (with_reducible exact EM.Num.int _)
  | ((with_reducible apply EM.NumP.getK); (focus sizeOf_list_dec); (focus (exact rfl)))
  | ((with_reducible apply EM.At.ext); (focus (with_reducible assumption)); (focus sizeOf_list_dec))
  | ((with_reducible apply EM.RatP.ext); (focus (with_reducible assumption)); (focus sizeOf_list_dec))
  | ((with_reducible apply EM.NumP.ext); (focus (with_reducible assumption)); (focus sizeOf_list_dec))
  | with_reducible exact Tx.cl_Ratio (by assumption)
  | with_reducible exact Tx.cl_Reading (by assumption)
  | with_reducible exact Tx.na_Ratio_top (by assumption)
  | with_reducible exact Tx.na_Ratio_bottom (by assumption)
  | with_reducible exact Tx.na_Reading_own_edges (by assumption)
  | ((with_reducible refine EM.gAt ?_); sizeOf_list_dec)
  | ((with_reducible refine EM.gRat ?_); sizeOf_list_dec)
  | ((with_reducible refine EM.gNum ?_); sizeOf_list_dec)
  | ((with_reducible apply EM.TwoP.mk); (focus (with_reducible assumption)); (focus sizeOf_list_dec); (focus (first | with_reducible assumption | (apply EM.n_low; assumption))); (focus sizeOf_list_dec); (focus decreasing_trivial_pre_omega); (focus decreasing_trivial_pre_omega); (focus decreasing_trivial_pre_omega); (focus decreasing_trivial_pre_omega))
  | (with_reducible exact EM.Ext.refl)
  | ((with_reducible apply EM.Ext.back); (focus (with_reducible assumption)); (focus sizeOf_list_dec))
  | ((with_reducible apply EM.Bs.mono); (focus (with_reducible assumption)); omega)
  | ((with_reducible refine EM.gN ?_); first | decide | omega | exact Nat.le_of_ble_eq_true rfl | (simp only [List.length_cons, List.length_nil, List.length_append]; omega))
  | ((with_reducible refine EM.gM ?_); first | decide | omega | exact Nat.le_of_ble_eq_true rfl)
  | ((with_reducible refine EM.gI ?_); first | decide | omega)
  | ((with_reducible refine EM.gJ ?_); first | decide | omega)
  | ((with_reducible refine EM.gE ?_); first | decide | omega)
  | ((with_reducible refine EM.gB ?_); decreasing_trivial_pre_omega)
  | ((with_reducible apply EM.wideM); (focus decreasing_trivial_pre_omega); (focus decreasing_trivial_pre_omega); (focus decide)))
local macro_rules | `(tactic| infer_instance) => `(tactic| first
  | with_reducible assumption
  | exact DpAll.nil
  | (apply DpAll.cons; (focus infer_instance); (focus infer_instance))
  | with_reducible exact Dp.int _
  | exact Dp.int _
  | with_reducible exact Dp.str _
  | exact Dp.bl _
  | exact Dp.non
  | ((with_reducible apply EM.dp_lst); (focus array_get_dec); (focus infer_instance))
  | ((with_reducible apply EM.dp_tup); (focus array_get_dec); (focus infer_instance))
  | exact EM.dp_ints _)
local macro_rules | `(tactic| nofun) => `(tactic| first
  | with_reducible assumption
  | exact EM.FeL.nil
  | exact EM.FdL.nil
  | (apply EM.FeL.cons; (focus nofun); (focus nofun))
  | (apply EM.FdL.cons; (focus nofun); (focus nofun))
  | exact EM.Fe.int _
  | exact EM.Fe.bool _
  | exact EM.Fe.non
  | exact EM.Fe.str (EM.okS_of _)
  | (apply EM.Fe.str; apply EM.Fd.ok; (focus nofun))
  | (apply EM.Fe.list; (focus nofun))
  | (apply EM.Fe.tup; (focus nofun))
  | (apply EM.Fd.int; (focus decreasing_trivial_pre_omega))
  | exact EM.Fd.bool _
  | exact EM.Fd.non
  | (refine EM.Fd.bool _)
  | (apply EM.Fd.list; (focus nofun))
  | (apply EM.Fd.tup; (focus nofun)))
local macro_rules | `(tactic| array_mem_dec) => `(tactic| ((with_reducible refine EM.pr ?_); first
  | (with_reducible refine L2.iteT ?_)
  | (with_reducible refine L2.iteF ?_)
  | (with_reducible refine EM.ifNotT ?_)
  | (with_reducible refine EM.ifNotF ?_)
  | ((fail_if_success (with_reducible refine EM.gIf ?_)); first
  | array_get_dec
  | ((apply EM.isX_own); (focus sizeOf_list_dec); (focus (exact Tx.xc_NoEdge (by assumption))); (focus (exact Tx.kit_NoEdge_BadReading (by assumption))))
  | ((apply EM.isX_own); (focus sizeOf_list_dec); (focus (exact Tx.xc_NoEdge (by assumption))); (focus (exact Tx.kit_NoEdge_NotRising (by assumption))))
  | ((apply EM.isX_own); (focus sizeOf_list_dec); (focus (exact Tx.xc_NoEdge (by assumption))); (focus (exact Tx.kit_NoEdge_NoEdge (by assumption))))
  | ((apply EM.isX_ty); (focus sizeOf_list_dec); (focus (exact Tx.xc_NoEdge (by assumption))); (focus (exact Tx.kit_NoEdge_VE (by assumption))))
  | ((apply isX_NoEdge); (focus assumption); (focus (exact rfl)); (focus sizeOf_list_dec); (focus sizeOf_list_dec))
  | ((apply xk_bs_NoEdge); (focus assumption); (focus (exact rfl)); (focus sizeOf_list_dec))
  | ((apply EM.isX_own); (focus sizeOf_list_dec); (focus (exact Tx.xc_BadReading (by assumption))); (focus (exact Tx.kit_BadReading_BadReading (by assumption))))
  | ((apply EM.isX_own); (focus sizeOf_list_dec); (focus (exact Tx.xc_BadReading (by assumption))); (focus (exact Tx.kit_BadReading_NotRising (by assumption))))
  | ((apply EM.isX_own); (focus sizeOf_list_dec); (focus (exact Tx.xc_BadReading (by assumption))); (focus (exact Tx.kit_BadReading_NoEdge (by assumption))))
  | ((apply EM.isX_ty); (focus sizeOf_list_dec); (focus (exact Tx.xc_BadReading (by assumption))); (focus (exact Tx.kit_BadReading_VE (by assumption))))
  | ((apply isX_BadReading); (focus assumption); (focus (exact rfl)); (focus sizeOf_list_dec); (focus sizeOf_list_dec))
  | ((apply xk_bs_BadReading); (focus assumption); (focus (exact rfl)); (focus sizeOf_list_dec))
  | ((apply EM.isX_own); (focus sizeOf_list_dec); (focus (exact Tx.xc_NotRising (by assumption))); (focus (exact Tx.kit_NotRising_BadReading (by assumption))))
  | ((apply EM.isX_own); (focus sizeOf_list_dec); (focus (exact Tx.xc_NotRising (by assumption))); (focus (exact Tx.kit_NotRising_NotRising (by assumption))))
  | ((apply EM.isX_own); (focus sizeOf_list_dec); (focus (exact Tx.xc_NotRising (by assumption))); (focus (exact Tx.kit_NotRising_NoEdge (by assumption))))
  | ((apply EM.isX_ty); (focus sizeOf_list_dec); (focus (exact Tx.xc_NotRising (by assumption))); (focus (exact Tx.kit_NotRising_VE (by assumption))))
  | ((apply isX_NotRising); (focus assumption); (focus (exact rfl)); (focus sizeOf_list_dec); (focus sizeOf_list_dec))
  | ((apply xk_bs_NotRising); (focus assumption); (focus (exact rfl)); (focus sizeOf_list_dec))
  | ((apply EM.DnS.bs); (focus (with_reducible assumption)); (focus (intro _ z; cases z; done)))
  | ((apply EM.seqL); (focus sizeOf_list_dec))
  | ((apply EM.seqT); (focus sizeOf_list_dec))
  | ((apply EM.lenL); (focus sizeOf_list_dec))
  | ((apply EM.lenT); (focus sizeOf_list_dec))
  | ((apply EM.isSeqL); (focus sizeOf_list_dec); (focus sizeOf_list_dec))
  | ((apply EM.isSeqT); (focus sizeOf_list_dec); (focus sizeOf_list_dec))
  | ((apply EM.tupL); (focus sizeOf_list_dec))
  | ((with_reducible refine EM.New.bs (by with_reducible assumption) ?_ ?_); (focus (intro _ z; cases z; done)))
  | ((with_reducible refine EM.gMu ?_); (with_reducible apply EM.mu_bs); (focus (with_reducible assumption)); (focus sizeOf_list_dec); (focus (apply EM.nel2; (focus (with_reducible assumption)); (focus (with_reducible assumption)))); intro _ _ _)
  | intro _
  | (apply And.intro; (focus array_get_dec))
  | apply Exists.intro
  | (refine EM.draw_bs (by with_reducible assumption) ?_ ?_ ?_ ?_; (focus array_get_dec); (focus array_get_dec); (focus (first | decide | omega)))
  | (apply EM.pick_bs; (focus (with_reducible assumption)); (focus array_get_dec); (focus sizeOf_list_dec); (focus (exact Nat.le_of_ble_eq_true rfl)); (focus (exact Nat.le_of_ble_eq_true rfl)))
  | ((apply EM.repr_sw); (focus infer_instance); (focus nofun); (focus decide))
  | ((apply EM.eqd_same); (focus infer_instance); (focus infer_instance); (focus nofun); (focus decide))
  | ((apply EM.ned_same); (focus infer_instance); (focus infer_instance); (focus nofun); (focus decide))
  | ((apply EM.eqd_sw); (focus infer_instance); (focus infer_instance); (focus nofun); (focus nofun); (focus decide))
  | ((apply EM.ned_sw); (focus infer_instance); (focus infer_instance); (focus nofun); (focus nofun); (focus decide))
  | (refine EM.cut_bs (by with_reducible assumption) ?_ ?_ ?_; (focus array_get_dec); (focus array_get_dec)))))
theorem gives_heard {X : Cx} (T : Tx X.K X.mg) (q : Str) : GivesG X ["_law_ask", "_law_caught", "error", "_law_found"] "_law_heard" (defScope s_Lheard) (He.ga X.K "_law_heard") (codeV X.K (He.ga X.K "_law_heard")) (defBody s_Lheard) "_law_ask" q (TTh X.K) := by
  intro f c2 s H Q tl act hc h
  apply EM.mk2
  · apply pss_cons (ps_set (i := 1) sc_Lheard.nd rfl (Or.inl rfl) pe_non)
    apply pss_cons
    · apply EM.ps_tryK (X := cxOf (L2.CX X.prog X.w) X.prog X.w X.K X.mg X.base ["_law_ask", "_law_caught", "error", "_law_found"] "_law_heard" (defScope s_Lheard) (He.ga X.K "_law_heard") (codeV X.K (He.ga X.K "_law_heard")) X.A X.stack s H E0)
        (tb := fun W => tRet (tTupN (tCons (tC (.str "told")) (tCons (fun σZ HZ Q => σZ[0]? = some (some (.ref f)) ∧ HZ c2 = some (LamX.CodeO c2 q) ∧ tl (wide 4 W) HZ Q) tNil)))) rfl rfl sc_Lheard.nd rfl takes0
      · intro W pn xe tkW pw
        exact pss_one (ps_ret (pe_tupN (pa_cons pe_str (pa_cons (act W pn xe _ _ tkW) pa_nil))))
      · exact (.named (c := .ref (He.ga X.K "EdgeError")) (i := 2) ⟨by rfl, by decide, .inl T.g_EdgeError⟩ rfl rfl (fun a oe cls d pn hz hf => (pss_one (ps_set (i := 1) sc_Lheard.nd rfl (Or.inl rfl) (pv 2)))) .nil)
    · exact (pss_cons (ps_set (i := 3) sc_Lheard.nd rfl (Or.inl rfl) (EM.pe_lstN pa_nil))
 (pss_cons (ps_if (pt_val (pe_callB (callR_sw EM.call_isX) (by rfl) T.f_isinstance (by decide +kernel) (pa_cons (pv 1) (pa_cons (pe_glob (v := .ref (He.ga X.K "BadReading")) (by rfl) T.g_BadReading rfl) pa_nil))))
  (pss_one (ps_expr (EM.pe_appN (pv 3) (EM.pe_tupN (pa_cons pe_str (pa_cons (EM.pe_xk (pv 1)) pa_nil)))))) pss_nil)
 (pss_cons (ps_if (pt_val (pe_callB (callR_sw EM.call_isX) (by rfl) T.f_isinstance (by decide +kernel) (pa_cons (pv 1) (pa_cons (pe_glob (v := .ref (He.ga X.K "NotRising")) (by rfl) T.g_NotRising rfl) pa_nil))))
  (pss_one (ps_expr (EM.pe_appN (pv 3) (EM.pe_tupN (pa_cons pe_str (pa_cons (EM.pe_xk (pv 1)) pa_nil)))))) pss_nil)
 (pss_cons (ps_if (pt_val (pe_callB (callR_sw EM.call_isX) (by rfl) T.f_isinstance (by decide +kernel) (pa_cons (pv 1) (pa_cons (pe_glob (v := .ref (He.ga X.K "NoEdge")) (by rfl) T.g_NoEdge rfl) pa_nil))))
  (pss_one (ps_expr (EM.pe_appN (pv 3) (EM.pe_tupN (pa_cons pe_str (pa_cons (EM.pe_xk (pv 1)) pa_nil)))))) pss_nil)
 (pss_cons (ps_if (pt_val (pe_callB (callR_sw EM.call_isX) (by rfl) T.f_isinstance (by decide +kernel) (pa_cons (pv 1) (pa_cons (EM.pe_tupN (pa_cons (pe_glob (v := .ref (He.ga X.K "BadRatio")) (by rfl) T.g_BadRatio rfl) (pa_cons (pe_glob (v := .ref (He.ga X.K "NoStretch")) (by rfl) T.g_NoStretch rfl) (pa_cons (pe_glob (v := .ref (He.ga X.K "BadText")) (by rfl) T.g_BadText rfl) (pa_cons (pe_glob (v := .ref (He.ga X.K "BadView")) (by rfl) T.g_BadView rfl) (pa_cons (pe_glob (v := .ref (He.ga X.K "BadTerms")) (by rfl) T.g_BadTerms rfl) (pa_cons (pe_glob (v := .ref (He.ga X.K "NoTerms")) (by rfl) T.g_NoTerms rfl) (pa_cons (pe_glob (v := .ref (He.ga X.K "Unlike")) (by rfl) T.g_Unlike rfl) pa_nil)))))))) pa_nil))))
  (pss_one (ps_expr (EM.pe_appN (pv 3) pe_str))) pss_nil)
 (pss_cons (ps_if (PW.pt (pw_or (pt_cmpR op_ne (pe_callB EM.call_lenN (by rfl) T.f_len boot_len (pa_cons (pv 3) pa_nil)) pe_int (nomark _)) (pw_or1 (pt_not (pt_val (pe_callB (callR_sw EM.call_isX) (by rfl) T.f_isinstance (by decide +kernel) (pa_cons (pv 1) (pa_cons (pe_bltn (v := .ty "ValueError") (by rfl) T.f_ValueError boot_ValueError rfl) pa_nil))))))))
  (pss_one (ps_ret pe_str)) pss_nil)
 (pss_one (ps_ret (pe_ix ix_list (pv 3) pe_int (fun _ _ => rfl))))))))))
  · refine ⟨rfl, hc, h _ (fun cls d H' he σ' hσ => ?_)⟩
    obtain ⟨T0, p, l, n, C, ff, nm, v, dd, rfl, rfl, B0, xd, alt, k⟩ := he.h
    match σ', hσ with
    | [v0, v1, v2, v3], _ =>
      have fin : ∀ a, H' a = none → Ext p H' (upd H' a (exK a (.ref (He.ga X.K C)) (some dd))) ∧ Bs T0 p l n (upd H' a (exK a (.ref (He.ga X.K C)) (some dd))) ∧ ErrP p (upd H' a (exK a (.ref (He.ga X.K C)) (some dd))) a (He.ga X.K C) dd [(ff, v)] := fun a ha => by
        have nw := B0.keepX (cls := .ref (He.ga X.K C)) (d := some dd) ha
        have x1 : Ext p H' _ := Ext.same nw.same
        exact ⟨x1, B0.same nw.same, ⟨B0.new nw exK_ntbl, xd.ext x1⟩⟩
      rcases alt with ⟨rfl, rfl, rfl⟩ | ⟨rfl, rfl, rfl⟩ | ⟨rfl, rfl, rfl⟩
      · refine ⟨true, T.xm_NoEdge_EdgeError, fun _ a ha => ?_, fun z => nomatch z⟩
        obtain ⟨x1, B1, ep⟩ := fin a ha
        clear fin he h act
        repeat' array_mem_dec
        refine ifN (by rfl) ?_
        repeat' array_mem_dec
        rename_i q1 H2 y1 B2 aF nF q2 H3 y2 B3 aT nT H4 mu B4 q5 H5 y5 B5 a5 n5
        exact k q2 H5 ((Ext.mu x1 nF (y1.trans y2) mu).trans y5) B5 ((mu.at_k aT (aF.ext y2) (by intro _ z; cases z)).ext y5)
      · refine ⟨true, T.xm_BadReading_EdgeError, fun _ a ha => ?_, fun z => nomatch z⟩
        obtain ⟨x1, B1, ep⟩ := fin a ha
        clear fin he h act
        repeat' array_mem_dec
        refine ifN (by rfl) ?_
        repeat' array_mem_dec
        rename_i q1 H2 y1 B2 aF nF q2 H3 y2 B3 aT nT H4 mu B4 q5 H5 y5 B5 a5 n5
        exact k q2 H5 ((Ext.mu x1 nF (y1.trans y2) mu).trans y5) B5 ((mu.at_k aT (aF.ext y2) (by intro _ z; cases z)).ext y5)
      · refine ⟨true, T.xm_NotRising_EdgeError, fun _ a ha => ?_, fun z => nomatch z⟩
        obtain ⟨x1, B1, ep⟩ := fin a ha
        clear fin he h act
        repeat' array_mem_dec
        refine ifN (by rfl) ?_
        repeat' array_mem_dec
        rename_i q1 H2 y1 B2 aF nF q2 H3 y2 B3 aT nT H4 mu B4 q5 H5 y5 B5 a5 n5
        exact k q2 H5 ((Ext.mu x1 nF (y1.trans y2) mu).trans y5) B5 ((mu.at_k aT (aF.ext y2) (by intro _ z; cases z)).ext y5)
end K12
namespace K12
open PySem PySem.Spec PyProof.Rows L2 EM
abbrev Of := Option (Int × Int)
/-- a pair or None -/
def OptF (p : Addr) (H : Hp) (v : V) (g : Of) : Prop := match g with
  | none => v = .non
  | some e => ∃ q, v = .ref q ∧ At p H q (.tup [.int e.1, .int e.2])
theorem optF_ext {p : Addr} {H H' : Hp} {v : V} {g : Of} (h : OptF p H v g) (x : Ext p H H') : OptF p H' v g := by
  cases g with
  | none => exact h
  | some e =>
    obtain ⟨q, e1, a⟩ := h
    exact ⟨q, e1, a.ext x⟩
/-- a bottom that the fractions of the law divide -/
abbrev D7 : Nat := 7 * DD
theorem D7_pos : 0 < D7 := by decide +kernel
theorem D7_bt : D7 < 2 ^ 109 := by decide +kernel
def FrQ (n : Nat) (e : Int × Int) : Prop := Dv D7 n e
theorem FrQ.mono {n m : Nat} {e : Int × Int} (h : FrQ n e) (k : n ≤ m) : FrQ m e := Dv.mono h (Nat.dvd_refl _) k
theorem FrQ.low {n : Nat} {e : Int × Int} (h : FrQ n e) : Low e.1 e.2 := Dv.low h
theorem FrQ.b19 {n : Nat} {e : Int × Int} (h : FrQ n e) (k : n < 2 ^ 12) : Bt 1900 e.1 ∧ Bt 1900 e.2 := ⟨(Dv.bt h D7_pos D7_bt k).1.mono (by decide), (Dv.bt h D7_pos D7_bt k).2.mono (by decide)⟩
theorem FrQ.b2 {n : Nat} {e : Int × Int} (h : FrQ n e) (k : n < 2 ^ 12) : Bt 2000 e.1 ∧ Bt 2000 e.2 := ⟨(h.b19 k).1.mono (by decide), (h.b19 k).2.mono (by decide)⟩
theorem frq_m17 : FrQ 1 ((-1 : Int), (7 : Int)) := ⟨⟨by decide, by decide +kernel⟩, ⟨DD, by decide +kernel⟩, by decide +kernel⟩
theorem FrQ.add {n m k : Nat} {b e : Int × Int} (he : FrQ n e) (hb : FrQ m b) (h : n + m ≤ k) : FrQ k (addF b e) := (Dv.add hb he).mono (Nat.dvd_refl _) h
/-- an item: a fraction or None, and a value -/
def ItemQ (K : PySem.W.Frag) (p : Addr) (H : Hp) (y : V) (o : Of) : Prop := ∃ t fv v, y = .ref t ∧ At p H t (.tup [fv, v]) ∧ OptF p H fv o ∧ ItemP K p H v o
theorem ItemQ.ext {K : PySem.W.Frag} {p : Addr} {H H' : Hp} {y : V} {o : Of} (h : ItemQ K p H y o) (x : Ext p H H') : ItemQ K p H' y o := by
  obtain ⟨t, fv, v, e, a, f, i⟩ := h
  exact ⟨t, fv, v, e, a.ext x, optF_ext f x, i.ext x⟩
structure ItemsQ (K : PySem.W.Frag) (p : Addr) (H : Hp) (n : Nat) (zs : List V) (os : List Of) : Prop where
  len : zs.length = os.length
  h : ∀ (i : Nat) y o, zs[i]? = some y → os[i]? = some o → ItemQ K p H y o
  b : ∀ e, some e ∈ os → FrQ n e
theorem ItemsQ.ext {K : PySem.W.Frag} {p : Addr} {H H' : Hp} {n : Nat} {zs : List V} {os : List Of} (h : ItemsQ K p H n zs os) (x : Ext p H H') : ItemsQ K p H' n zs os := ⟨h.len, fun i y o a b => (h.h i y o a b).ext x, h.b⟩
theorem ItemsQ.mono {K : PySem.W.Frag} {p : Addr} {H : Hp} {n m : Nat} {zs : List V} {os : List Of} (h : ItemsQ K p H n zs os) (k : n ≤ m) : ItemsQ K p H m zs os := ⟨h.len, h.h, fun e he => (h.b e he).mono k⟩
theorem ItemsQ.get {K : PySem.W.Frag} {p : Addr} {H : Hp} {n : Nat} {zs : List V} {os : List Of} {i : Nat} {o : Of} (h : ItemsQ K p H n zs os) (e : os[i]? = some o) : ∃ y, zs[i]? = some y ∧ ItemQ K p H y o := by
  have hi : i < zs.length := by rw [h.len]; exact (List.getElem?_eq_some_iff.mp e).1
  exact ⟨_, List.getElem?_eq_getElem hi, h.h i _ o (List.getElem?_eq_getElem hi) e⟩
theorem ItemsQ.set {K : PySem.W.Frag} {p : Addr} {H : Hp} {n : Nat} {zs : List V} {os : List Of} {i : Nat} {y : V} {o : Of} (h : ItemsQ K p H n zs os) (q : ItemQ K p H y o) (b : ∀ e, o = some e → FrQ n e) : ItemsQ K p H n (zs.set i y) (os.set i o) := by
  refine ⟨by rw [List.length_set, List.length_set, h.len], fun j z w e1 e2 => ?_, fun e he => ?_⟩
  · rw [List.getElem?_set] at e1 e2
    by_cases c : i = j
    · subst c
      by_cases hl : i < zs.length
      · rw [if_pos rfl, if_pos hl] at e1
        rw [if_pos rfl, if_pos (by rw [← h.len]; exact hl)] at e2
        cases e1
        cases e2
        exact q
      · rw [if_pos rfl, if_neg hl] at e1
        cases e1
    · rw [if_neg c] at e1 e2
      exact h.h j z w e1 e2
  · rcases List.mem_or_eq_of_mem_set he with z | z
    · exact h.b e z
    · exact b e z.symm
theorem OptF.mu {p c : Addr} {H H' : Hp} {v : V} {g : Of} {xs ys : List V} (m : Mu c H H' (.lst ys)) (h : OptF p H v g) (a : At p H c (.lst xs)) : OptF p H' v g := by
  cases g with
  | none => exact h
  | some e =>
    obtain ⟨q, e1, b⟩ := h
    exact ⟨q, e1, m.at_k b a (by intro _ z; cases z)⟩
def spDueI (K : PySem.W.Frag) : Sp := fun vs H Q _ => ∃ (T : List (Addr × Str)) (p l a : Addr) (n : Nat) (zs : List V) (os : List Of), vs = [.ref a] ∧ Bs T p l n H ∧ At p H a (.lst zs) ∧ ItemsQ K p H 1010 zs os ∧ os.length ≤ 130 ∧
  (∀ s v, dueO os = some (s, v) → ∀ q H', Ext p H H' → Bs T p l n H' → At p H' q (.tup [.str s, v]) → Q (.ref q) H') ∧ (dueO os = none → ∀ H', Ext p H H' → Bs T p l n H' → Q .non H')
theorem dueI_bs {K : PySem.W.Frag} {T : List (Addr × Str)} {p l a : Addr} {n : Nat} {zs : List V} {os : List Of} {H : Hp} {Q : VK} {E : XK} (B : Bs T p l n H) (h : At p H a (.lst zs)) (hi : ItemsQ K p H 1010 zs os) (hl : os.length ≤ 130) (k : ∀ s v, dueO os = some (s, v) → ∀ q H', Ext p H H' → Bs T p l n H' → At p H' q (.tup [.str s, v]) → Q (.ref q) H') (k0 : dueO os = none → ∀ H', Ext p H H' → Bs T p l n H' → Q .non H') : Sw (spDueI K) [.ref a] H Q E := ⟨⟨T, p, l, a, n, zs, os, rfl, B, h, hi, hl, k, k0⟩⟩
theorem less_bs {p x y : Addr} {e b : Int × Int} {H : Hp} {Q : VK} {E : XK} (h1 : At p H x (.tup [.int e.1, .int e.2])) (h2 : At p H y (.tup [.int b.1, .int b.2])) {m : Nat} (b1 : FrQ m e) (b2 : FrQ m b) (hm : m < 2 ^ 12) (k : Q (.bl (decide (e.1 * b.2 < b.1 * e.2))) H) : Sw spLessF [.ref x, .ref y] H Q E := lessF_bs h1 h2 (b1.b2 hm) (b2.b2 hm) k
theorem dueO_few {os : List Of} (h : ¬ cntOk os.length) : dueO os = some (("reading" : Str), V.non) := if_neg h
theorem dueO_at {os : List Of} {s : Str} {i : Nat} (h : cntOk os.length) (e : dueR none 0 os = some (s, i)) : dueO os = some (s, .int i) := by
  unfold dueO
  rw [if_pos h, e]
  rfl
theorem dueO_none {os : List Of} (h : cntOk os.length) (e : dueR none 0 os = none) : dueO os = none := by
  unfold dueO
  rw [if_pos h, e]
  rfl
local macro_rules | `(tactic| sizeOf_list_dec) => `(tactic| first
  | with_reducible assumption
  | ((with_reducible apply EM.At.ext); (focus (with_reducible assumption)); (focus sizeOf_list_dec))
  | ((with_reducible apply EM.RatP.ext); (focus (with_reducible assumption)); (focus sizeOf_list_dec))
  | ((with_reducible apply EM.NumP.ext); (focus (with_reducible assumption)); (focus sizeOf_list_dec))
  | (with_reducible exact EM.Ext.refl)
  | ((with_reducible apply EM.Ext.back); (focus (with_reducible assumption)); (focus sizeOf_list_dec))
  | exact EM.NumP.int _
  | ((with_reducible apply EM.Mu.at_k); (focus (with_reducible assumption)); (focus sizeOf_list_dec); (focus sizeOf_list_dec); (focus (intro _ z; cases z; done)))
  | ((with_reducible apply EM.Mu.at_n); (focus (with_reducible assumption)); (focus sizeOf_list_dec); (focus (first | with_reducible assumption | ((apply EM.nn1); (focus (with_reducible assumption)); (focus sizeOf_list_dec)) | ((apply EM.nn2); (focus (with_reducible assumption)); (focus sizeOf_list_dec)))))
  | ((with_reducible apply EM.Mu.here); (focus (with_reducible assumption)); (focus sizeOf_list_dec))
  | ((with_reducible apply EM.Mu.rat); (focus (with_reducible assumption)); (focus sizeOf_list_dec); (focus sizeOf_list_dec))
  | ((with_reducible apply EM.Mu.num); (focus (with_reducible assumption)); (focus sizeOf_list_dec); (focus sizeOf_list_dec))
  | ((with_reducible apply EM.num_of_rat); (focus sizeOf_list_dec); (focus (first | with_reducible assumption | (apply EM.n_low; assumption))))
  | ((with_reducible apply EM.RatsP.xt); (focus (with_reducible assumption)); (focus sizeOf_list_dec))
  | ((with_reducible apply EM.NumsP.xt); (focus (with_reducible assumption)); (focus sizeOf_list_dec))
  | ((with_reducible apply EM.PairsP.xt); (focus (with_reducible assumption)); (focus sizeOf_list_dec))
  | ((with_reducible apply EM.RdP.xt); (focus (with_reducible assumption)); (focus sizeOf_list_dec))
  | ((with_reducible apply EM.Mu.rats); (focus (with_reducible assumption)); (focus sizeOf_list_dec); (focus sizeOf_list_dec))
  | ((with_reducible apply EM.Mu.pairs); (focus (with_reducible assumption)); (focus sizeOf_list_dec); (focus sizeOf_list_dec))
  | ((with_reducible apply EM.Mu.rdp); (focus (with_reducible assumption)); (focus sizeOf_list_dec); (focus sizeOf_list_dec)))
local macro_rules | `(tactic| decreasing_trivial_pre_omega) => `(tactic| first
  | with_reducible assumption
  | exact EM.Bt.mono (by with_reducible assumption) (by decide)
  | exact EM.Bt.lit _ _ (by decide +kernel)
  | ((with_reducible refine EM.Bt.rng32 ?_ ?_) <;> omega)
  | ((with_reducible refine EM.Bt.rng70 ?_ ?_) <;> omega)
  | ((with_reducible refine EM.Bt.rng200 ?_ ?_) <;> omega)
  | ((with_reducible apply EM.Bt.mulM); (focus decreasing_trivial_pre_omega); (focus decreasing_trivial_pre_omega); (focus (first | decide | exact Nat.le_refl _)))
  | ((with_reducible apply EM.Bt.addM); (focus decreasing_trivial_pre_omega); (focus decreasing_trivial_pre_omega); (focus (first | decide | exact Nat.le_refl _)))
  | ((with_reducible apply EM.Bt.subM); (focus decreasing_trivial_pre_omega); (focus decreasing_trivial_pre_omega); (focus (first | decide | exact Nat.le_refl _)))
  | ((with_reducible apply EM.Bt.topL); (focus decreasing_trivial_pre_omega); (focus assumption); (focus (first | decide | exact Nat.le_refl _)))
  | ((with_reducible apply EM.Bt.botL); (focus decreasing_trivial_pre_omega); (focus assumption); (focus (first | decide | exact Nat.le_refl _)))
  | ((with_reducible apply EM.Bt.divM); (focus decreasing_trivial_pre_omega); (focus assumption); (focus (first | decide | exact Nat.le_refl _)))
  | ((with_reducible apply EM.Bt.negM); (focus decreasing_trivial_pre_omega); (focus (first | decide | exact Nat.le_refl _))))
local macro_rules | `(tactic| array_get_dec) => `(tactic| first
  | with_reducible assumption
  | ((with_reducible refine EM.gEq ?_); exact rfl)
  | ((with_reducible refine EM.gTru ?_); exact rfl)
  | ((with_reducible refine EM.gRef ?_); first | exact Or.inl ⟨_, rfl⟩ | exact Or.inr ⟨_, rfl⟩)
  | ((with_reducible apply EM.At.get); sizeOf_list_dec)
  | ((with_reducible apply EM.At.sqL); sizeOf_list_dec)
  | ((with_reducible apply EM.At.sqT); sizeOf_list_dec)
  | ((with_reducible apply EM.RatP.getK); (focus sizeOf_list_dec); (focus (exact rfl)))
  | (with_reducible exact EM.Num.int _)
  | ((with_reducible apply EM.NumP.getK); (focus sizeOf_list_dec); (focus (exact rfl)))
  | ((with_reducible apply EM.At.ext); (focus (with_reducible assumption)); (focus sizeOf_list_dec))
  | ((with_reducible apply EM.RatP.ext); (focus (with_reducible assumption)); (focus sizeOf_list_dec))
  | ((with_reducible apply EM.NumP.ext); (focus (with_reducible assumption)); (focus sizeOf_list_dec))
  | with_reducible exact Tx.cl_Ratio (by assumption)
  | with_reducible exact Tx.cl_Reading (by assumption)
  | with_reducible exact Tx.na_Ratio_top (by assumption)
  | with_reducible exact Tx.na_Ratio_bottom (by assumption)
  | with_reducible exact Tx.na_Reading_own_edges (by assumption)
  | ((with_reducible refine EM.gAt ?_); sizeOf_list_dec)
  | ((with_reducible refine EM.gRat ?_); sizeOf_list_dec)
  | ((with_reducible refine EM.gNum ?_); sizeOf_list_dec)
  | ((with_reducible apply EM.TwoP.mk); (focus (with_reducible assumption)); (focus sizeOf_list_dec); (focus (first | with_reducible assumption | (apply EM.n_low; assumption))); (focus sizeOf_list_dec); (focus decreasing_trivial_pre_omega); (focus decreasing_trivial_pre_omega); (focus decreasing_trivial_pre_omega); (focus decreasing_trivial_pre_omega))
  | (with_reducible exact EM.Ext.refl)
  | ((with_reducible apply EM.Ext.back); (focus (with_reducible assumption)); (focus sizeOf_list_dec))
  | ((with_reducible apply EM.Bs.mono); (focus (with_reducible assumption)); omega)
  | ((with_reducible refine EM.gN ?_); first | decide | omega | exact Nat.le_of_ble_eq_true rfl | (simp only [List.length_cons, List.length_nil, List.length_append]; omega))
  | ((with_reducible refine EM.gM ?_); first | decide | omega | exact Nat.le_of_ble_eq_true rfl)
  | ((with_reducible refine EM.gI ?_); first | decide | omega)
  | ((with_reducible refine EM.gJ ?_); first | decide | omega)
  | ((with_reducible refine EM.gE ?_); first | decide | omega)
  | ((with_reducible refine EM.gB ?_); decreasing_trivial_pre_omega)
  | ((with_reducible apply EM.wideM); (focus decreasing_trivial_pre_omega); (focus decreasing_trivial_pre_omega); (focus decide)))
local macro_rules | `(tactic| infer_instance) => `(tactic| first
  | with_reducible assumption
  | exact DpAll.nil
  | (apply DpAll.cons; (focus infer_instance); (focus infer_instance))
  | with_reducible exact Dp.int _
  | exact Dp.int _
  | with_reducible exact Dp.str _
  | exact Dp.bl _
  | exact Dp.non
  | ((with_reducible apply EM.dp_lst); (focus array_get_dec); (focus infer_instance))
  | ((with_reducible apply EM.dp_tup); (focus array_get_dec); (focus infer_instance))
  | exact EM.dp_ints _)
local macro_rules | `(tactic| nofun) => `(tactic| first
  | with_reducible assumption
  | exact EM.FeL.nil
  | exact EM.FdL.nil
  | (apply EM.FeL.cons; (focus nofun); (focus nofun))
  | (apply EM.FdL.cons; (focus nofun); (focus nofun))
  | exact EM.Fe.int _
  | exact EM.Fe.bool _
  | exact EM.Fe.non
  | exact EM.Fe.str (EM.okS_of _)
  | (apply EM.Fe.str; apply EM.Fd.ok; (focus nofun))
  | (apply EM.Fe.list; (focus nofun))
  | (apply EM.Fe.tup; (focus nofun))
  | (apply EM.Fd.int; (focus decreasing_trivial_pre_omega))
  | exact EM.Fd.bool _
  | exact EM.Fd.non
  | (refine EM.Fd.bool _)
  | (apply EM.Fd.list; (focus nofun))
  | (apply EM.Fd.tup; (focus nofun)))
local macro_rules | `(tactic| array_mem_dec) => `(tactic| ((with_reducible refine EM.pr ?_); first
  | (with_reducible refine L2.iteT ?_)
  | (with_reducible refine L2.iteF ?_)
  | (with_reducible refine EM.ifNotT ?_)
  | (with_reducible refine EM.ifNotF ?_)
  | ((fail_if_success (with_reducible refine EM.gIf ?_)); first
  | array_get_dec
  | (refine EM.mk_low (by with_reducible assumption) (by with_reducible assumption) ?_ ?_; (focus array_get_dec))
  | (apply EM.isNum_sw; (focus sizeOf_list_dec))
  | (apply EM.of_sw; (focus (with_reducible assumption)); (focus sizeOf_list_dec))
  | (apply EM.neg_bs; (focus (with_reducible assumption)); (focus sizeOf_list_dec); (focus array_get_dec); (focus array_get_dec))
  | (apply EM.relw_bs; (focus (with_reducible assumption)); (focus sizeOf_list_dec); (focus sizeOf_list_dec); (focus array_get_dec); (focus decreasing_trivial_pre_omega); (focus decreasing_trivial_pre_omega); (focus decreasing_trivial_pre_omega); (focus decreasing_trivial_pre_omega))
  | ((apply EM.DnS.bs); (focus (with_reducible assumption)); (focus (intro _ z; cases z; done)))
  | ((apply EM.seqL); (focus sizeOf_list_dec))
  | ((apply EM.seqT); (focus sizeOf_list_dec))
  | ((apply EM.lenL); (focus sizeOf_list_dec))
  | ((apply EM.lenT); (focus sizeOf_list_dec))
  | ((apply EM.isSeqL); (focus sizeOf_list_dec); (focus sizeOf_list_dec))
  | ((apply EM.isSeqT); (focus sizeOf_list_dec); (focus sizeOf_list_dec))
  | ((apply EM.tupL); (focus sizeOf_list_dec))
  | ((apply EM.fld_bs); (focus sizeOf_list_dec); (focus (exact Tx.cl_Reading (by assumption))); (focus (exact Tx.na_Reading_own_edges (by assumption))); (focus (exact rfl)))
  | ((with_reducible refine EM.New.bs (by with_reducible assumption) ?_ ?_); (focus (intro _ z; cases z; done)))
  | ((with_reducible refine EM.gMu ?_); (with_reducible apply EM.mu_bs); (focus (with_reducible assumption)); (focus sizeOf_list_dec); (focus (apply EM.nel2; (focus (with_reducible assumption)); (focus (with_reducible assumption)))); intro _ _ _)
  | intro _
  | (apply And.intro; (focus array_get_dec))
  | apply Exists.intro
  | (refine EM.draw_bs (by with_reducible assumption) ?_ ?_ ?_ ?_; (focus array_get_dec); (focus array_get_dec); (focus (first | decide | omega)))
  | (apply EM.pick_bs; (focus (with_reducible assumption)); (focus array_get_dec); (focus sizeOf_list_dec); (focus (exact Nat.le_of_ble_eq_true rfl)); (focus (exact Nat.le_of_ble_eq_true rfl)))
  | ((apply EM.repr_sw); (focus infer_instance); (focus nofun); (focus decide))
  | ((apply EM.eqd_same); (focus infer_instance); (focus infer_instance); (focus nofun); (focus decide))
  | ((apply EM.ned_same); (focus infer_instance); (focus infer_instance); (focus nofun); (focus decide))
  | ((apply EM.eqd_sw); (focus infer_instance); (focus infer_instance); (focus nofun); (focus nofun); (focus decide))
  | ((apply EM.ned_sw); (focus infer_instance); (focus infer_instance); (focus nofun); (focus nofun); (focus decide))
  | (refine EM.cut_bs (by with_reducible assumption) ?_ ?_ ?_; (focus array_get_dec); (focus array_get_dec)))))
section
variable {P : Program} {w : World} {K : PySem.W.Frag} {mg : Str → Option Value} {base : Heap}
theorem ok_Ldue (T : Tx K mg) : FnR P w K mg base (L2.CX P w) 2 (He.ga K "_law_due") (spDueI K) := by
  obtain ⟨fd, F⟩ := T.d_Ldue
  refine EM.fnr F sc_Ldue (fun _ _ _ _ _ _ us hl => match us, hl with | [_], _ => rfl) (fun vs H Q E h => ?_) (fun cdv A outer s H vs Q E hr h => ?_)
  · obtain ⟨T0, p, l, a, n, zs, os, rfl, _⟩ := h
    rfl
  · obtain ⟨T0, p, l, a, n, zs, os, rfl, B0, aZ, it, hl, k, k0⟩ := h
    have hz := it.len
    refine ⟨_, (PSs.nox (pss_cons (ps_if (PW.pt (pw_or (pt_cmpR op_eq (pe_op op_mod (pe_callTy EM.call_intN (by rfl) T.f_int (by decide +kernel) (pa_cons (pe_callB EM.call_lenN (by rfl) T.f_len boot_len (pa_cons (pv 0) pa_nil)) pa_nil)) pe_int) pe_int (nomark _)) (pw_or1 (pt_not (pt_chain op_le op_le pe_int (pe_callB EM.call_lenN (by rfl) T.f_len boot_len (pa_cons (pv 0) pa_nil)) pe_int)))))
  (pss_one (ps_ret (EM.pe_tupN (pa_cons pe_str (pa_cons pe_non pa_nil))))) pss_nil)
 (pss_cons (EM.forN (ps_for PassesOwn.never rfl (pi_range1 (by rfl) T.f_range (pa_cons (pe_callB EM.call_lenN (by rfl) T.f_len boot_len (pa_cons (pv 0) pa_nil)) pa_nil)).mc (pg_name (i := 1) sc_Ldue.nd rfl (Or.inl rfl))
  (pss_cons (ps_if (pt_cmpR op_isN (pe_ix (show IxR _ (rIxT K) from ix_tup) (pe_ix (show IxR _ (rIxL K) from ix_list) (pv 0) (pv 1) (fun _ _ => rfl)) pe_int (fun _ _ => rfl)) pe_non (nomark _))
  (pss_one (ps_ret (EM.pe_tupN (pa_cons pe_str (pa_cons (pv 1) pa_nil))))) pss_nil)
 (pss_one (ps_if (PW.pt (pw_and (pt_cmpR op_gt (pv 1) pe_int (nomark _)) (pw_and1 (pt_not (pt_val (EM.pe_cR ((ok_Lis_less T).sw) (hr.mono (by decide)) T.k__law_is_less T.g__law_is_less passL (pa_cons (pe_ix (show IxR _ (rIxT K) from ix_tup) (pe_ix (show IxR _ (rIxL K) from ix_list) (pv 0) (pe_op op_sub (pv 1) pe_int) (fun _ _ => rfl)) pe_int (fun _ _ => rfl)) (pa_cons (pe_ix (show IxR _ (rIxT K) from ix_tup) (pe_ix (show IxR _ (rIxL K) from ix_list) (pv 0) (pv 1) (fun _ _ => rfl)) pe_int (fun _ _ => rfl)) pa_nil))))))))
  (pss_one (ps_ret (EM.pe_tupN (pa_cons pe_str (pa_cons (pv 1) pa_nil))))) pss_nil)))))
 (pss_one (ps_ret pe_non))))), ?_⟩
    repeat' array_mem_dec
    refine ite2 (fun c => ?_) (fun c => ?_)
    · have few : ¬ cntOk os.length := fun z => by
        have c1 : ((zs.length : Int) % 2 = 1) := V.int.inj (of_decide_eq_true c)
        have := z.1
        omega
      repeat' array_mem_dec
      --D2
      rename_i q1 H1 x1 B1 a1 n1
      exact k _ _ (dueO_few few) q1 H1 x1 B1 a1
    · have c1 : ¬ ((zs.length : Int) % 2 = 1) := fun z => c (decide_eq_true (congrArg V.int z))
      repeat' array_mem_dec
      --D3
      refine ite2 (fun c2 => ?_) (fun c2 => ?_)
      case _ =>
        have c3 : (4 ≤ (zs.length : Int)) := of_decide_eq_true c2
        repeat' array_mem_dec
        --D31
        refine ite2 (fun c4 => ?_) (fun c4 => ?_)
        · have few : ¬ cntOk os.length := fun z => by
            have c5 : ¬ ((zs.length : Int) ≤ 128) := by simpa using c4
            have := z.2
            omega
          repeat' array_mem_dec
          rename_i q1 H1 x1 B1 a1 n1
          exact k _ _ (dueO_few few) q1 H1 x1 B1 a1
        have c5 : ((zs.length : Int) ≤ 128) := by simpa using c4
        have cnt : cntOk os.length := ⟨by omega, by omega, by omega⟩
        repeat' array_mem_dec
        --D4
        refine FoS.it walk_range (fun i σ H2 => Hold (∃ v1, σ = [some (.ref a), v1] ∧ FineTo os i ∧ Ext p H H2 ∧ Bs T0 p l n H2)) ⟨⟨_, rfl, fun j z => absurd z (Nat.not_lt_zero j), Ext.refl, B0⟩⟩ (fun _ _ _ _ _ => trivial) ?_ ?_
        · rintro i y σ H2 H3 hi ⟨⟨v1, rfl, fine, x2, B2⟩⟩ ⟨rfl, rfl⟩
          obtain ⟨o, eo⟩ : ∃ o, os[i]? = some o := ⟨_, List.getElem?_eq_getElem (by omega)⟩
          obtain ⟨y, ey, t, fv, v, rfl, aT, of, iv⟩ := it.get eo
          have ix1 : atI zs (0 + (i : Int)) = some (.ref t) := at_of (j := i) (by omega) ey
          have aZ2 := aZ.ext x2
          have aT2 := aT.ext x2
          cases o with
          | none =>
            have e : fv = .non := of
            subst e
            repeat' array_mem_dec
            refine ifP rfl ?_
            repeat' array_mem_dec
            --D5
            rename_i q1 H4 x4 B4 a4 n4
            have a5 : At p H4 q1 (.tup [.str "reading", .int (0 + (i : Int))]) := a4
            rw [Int.zero_add] at a5
            exact k _ _ (dueO_at cnt (due_none fine eo)) q1 H4 (x2.trans x4) B4 a5
          | some e =>
            obtain ⟨q, rfl, aq⟩ := of
            have aq2 := aq.ext x2
            repeat' array_mem_dec
            refine ifN (by rfl) ?_
            repeat' array_mem_dec
            --D6
            refine ifLt (a := 0) (b := 0 + (i : Int)) (fun c => ?_) (fun c => ?_)
            · obtain ⟨e', eo', _⟩ := fine (i - 1) (by omega)
              obtain ⟨y', ey', t', fv', v', rfl, aT', of', iv'⟩ := it.get eo'
              obtain ⟨q', rfl, aq'⟩ := of'
              have ix2 : atI zs (0 + (i : Int) - 1) = some (.ref t') := at_of (j := i - 1) (by omega) ey'
              have aq2' := aq'.ext x2
              have aT2' := aT'.ext x2
              have f1 := it.b e' (List.mem_of_getElem? eo')
              have f2 := it.b e (List.mem_of_getElem? eo)
              have ei : i - 1 + 1 = i := by omega
              repeat' array_mem_dec
              --D7
              refine less_bs aq2' aq2 f1 f2 (by decide) ?_
              repeat' array_mem_dec
              --D8
              refine ite2 (fun c5 => ?_) (fun c5 => ?_)
              · have c6 : ¬ (e'.1 * e.2 < e.1 * e'.2) := by simpa using c5
                repeat' array_mem_dec
                --D9
                rename_i q1 H4 x4 B4 a4 n4
                have a5 : At p H4 q1 (.tup [.str "rising", .int (0 + (i : Int))]) := a4
                rw [Int.zero_add] at a5
                refine k _ _ (dueO_at cnt (due_fall (i := i - 1) (e := e') (f := e) (by rw [ei]; exact fine) eo' (by rw [ei]; exact eo) (by omega))) q1 H4 (x2.trans x4) B4 ?_
                rw [ei]
                exact a5
              · have c6 : e'.1 * e.2 < e.1 * e'.2 := by simpa using c5
                repeat' array_mem_dec
                exact ⟨⟨_, rfl, fine.next eo fun e2 _ h => by
                  rw [eo'] at h
                  cases h
                  exact c6, x2, B2⟩⟩
            · repeat' array_mem_dec
              exact ⟨⟨_, rfl, fine.next eo fun e2 z _ => by omega, x2, B2⟩⟩
        · rintro σ H2 ⟨⟨v1, rfl, fine, x2, B2⟩⟩
          have fine' : FineTo os os.length := by
            have := fine
            rw [← hz]
            simpa using this
          repeat' array_mem_dec
          --DA
          exact k0 (dueO_none cnt (due_fine fine')) H2 x2 B2
      · have few : ¬ cntOk os.length := fun z => by
          have c3 : ¬ (4 ≤ (zs.length : Int)) := fun z => c2 (decide_eq_true z)
          have := z.2
          omega
        repeat' array_mem_dec
        --D32
        rename_i q1 H1 x1 B1 a1 n1
        exact k _ _ (dueO_few few) q1 H1 x1 B1 a1
end
end K12
namespace K12
open PySem PySem.Spec PyProof.Rows L2 EM
theorem ix_of {n j : Nat} {i : Int} (e : i = (j : Int)) (h : j < n) : ixN n i = some j := by
  subst e
  unfold ixN
  rw [if_pos (by omega), if_pos (by omega)]
  simp
theorem oddN_mu {p c : Addr} {H H' : Hp} {v : V} {xs ys : List V} (h : OddN H p v) (m : Mu c H H' (.lst ys)) : OddN H' p v := by
  rcases h with h | h | h | ⟨a, e, ne, h⟩
  · exact .inl h
  · exact .inr (.inl h)
  · exact .inr (.inr (.inl h))
  · refine .inr (.inr (.inr ⟨a, e, ne, ?_⟩))
    by_cases z : a = c
    · subst z
      exact .inr (.inl ⟨ys, m.at_⟩)
    · rw [m.old a z]
      exact h
theorem ItemP.mu {K : PySem.W.Frag} {p c : Addr} {H H' : Hp} {v : V} {o : Of} {xs ys : List V} (h : ItemP K p H v o) (m : Mu c H H' (.lst ys)) (g : At p H c (.lst xs)) : ItemP K p H' v o := by
  cases o with
  | some e => exact m.num h g
  | none => exact oddN_mu (xs := xs) h m
theorem ItemQ.mu {K : PySem.W.Frag} {p c : Addr} {H H' : Hp} {y : V} {o : Of} {xs ys : List V} (h : ItemQ K p H y o) (m : Mu c H H' (.lst ys)) (g : At p H c (.lst xs)) : ItemQ K p H' y o := by
  obtain ⟨t, fv, v, e, a, f, i⟩ := h
  exact ⟨t, fv, v, e, m.at_k a g (by intro _ z; cases z), OptF.mu m f g, i.mu m g⟩
theorem ItemsQ.mu {K : PySem.W.Frag} {p c : Addr} {H H' : Hp} {n : Nat} {zs : List V} {os : List Of} {xs ys : List V} (h : ItemsQ K p H n zs os) (m : Mu c H H' (.lst ys)) (g : At p H c (.lst xs)) : ItemsQ K p H' n zs os := ⟨h.len, fun i y o a b => (h.h i y o a b).mu m g, h.b⟩
def rLstNN : List V → Hp → VK → Prop := fun vs H Q => ∃ a xs, vs = [.ref a] ∧ H a = some (.lst xs) ∧ DnS (.lst xs) H Q
theorem call_listNN {X : Cx} : CallR X (.type "list") (Sr rLstNN) := callR_sw (callR_of call_list_of fun vs H Q ⟨a, xs, e, h, z⟩ => ⟨a, xs, e, .inl (SqL.of h), New.upd z.h⟩)
theorem lstNN {p a : Addr} {H : Hp} {xs : List V} {Q : VK} (h : At p H a (.lst xs)) (k : DnS (.lst xs) H Q) : Sr rLstNN [.ref a] H Q := ⟨a, xs, rfl, h.at_, k⟩
def spBent (K : PySem.W.Frag) : Sp := fun vs H Q _ => ∃ (T : List (Addr × Str)) (p l a : Addr) (n : Nat) (zs : List V) (os : List Of), vs = [.ref p, .ref a] ∧ Bs T p l n H ∧ n ≤ 800000 ∧ At p H a (.lst zs) ∧ ItemsQ K p H 1000 zs os ∧ os.length ≤ 130 ∧
  ∀ q zs' os' H', Ext p H H' → Bs T p l (n + 12) H' → At p H' q (.lst zs') → ItemsQ K p H' 1010 zs' os' → os'.length = os.length → Q (.ref q) H'
theorem bent_bs {K : PySem.W.Frag} {T : List (Addr × Str)} {p l a : Addr} {n : Nat} {zs : List V} {os : List Of} {H : Hp} {Q : VK} {E : XK} (B : Bs T p l n H) (hn : n ≤ 800000) (h : At p H a (.lst zs)) (hi : ItemsQ K p H 1000 zs os) (hl : os.length ≤ 130)
    (k : ∀ q zs' os' H', Ext p H H' → Bs T p l (n + 12) H' → At p H' q (.lst zs') → ItemsQ K p H' 1010 zs' os' → os'.length = os.length → Q (.ref q) H') : Sw (spBent K) [.ref p, .ref a] H Q E := ⟨⟨T, p, l, a, n, zs, os, rfl, B, hn, h, hi, hl, k⟩⟩
theorem pass_bs {K : PySem.W.Frag} {T : List (Addr × Str)} {p l q : Addr} {n m : Nat} {e : Int × Int} {H : Hp} {Q : VK} {E : XK} (B : Bs T p l n H) (hn : n ≤ 900000) (h : At p H q (.tup [.int e.1, .int e.2])) (f : FrQ m e) (hm : m < 2 ^ 12)
    (k : ∀ v H', NumP K p H' v e.1 e.2 → Ext p H H' → Bs T p l (n + 2) H' → Q v H') : Sw (spPassF K) [.ref p, .ref q] H Q E := ⟨⟨T, p, l, q, n, e, rfl, B, hn, h, f.low, (f.b19 hm).1.mono (by decide), (f.b19 hm).2.mono (by decide), k⟩⟩
local macro_rules | `(tactic| sizeOf_list_dec) => `(tactic| first
  | with_reducible assumption
  | ((with_reducible apply EM.At.ext); (focus (with_reducible assumption)); (focus sizeOf_list_dec))
  | ((with_reducible apply EM.RatP.ext); (focus (with_reducible assumption)); (focus sizeOf_list_dec))
  | ((with_reducible apply EM.NumP.ext); (focus (with_reducible assumption)); (focus sizeOf_list_dec))
  | (with_reducible exact EM.Ext.refl)
  | ((with_reducible apply EM.Ext.back); (focus (with_reducible assumption)); (focus sizeOf_list_dec))
  | exact EM.NumP.int _
  | ((with_reducible apply EM.Mu.at_k); (focus (with_reducible assumption)); (focus sizeOf_list_dec); (focus sizeOf_list_dec); (focus (intro _ z; cases z; done)))
  | ((with_reducible apply EM.Mu.at_n); (focus (with_reducible assumption)); (focus sizeOf_list_dec); (focus (first | with_reducible assumption | ((apply EM.nn1); (focus (with_reducible assumption)); (focus sizeOf_list_dec)) | ((apply EM.nn2); (focus (with_reducible assumption)); (focus sizeOf_list_dec)))))
  | ((with_reducible apply EM.Mu.here); (focus (with_reducible assumption)); (focus sizeOf_list_dec))
  | ((with_reducible apply EM.Mu.rat); (focus (with_reducible assumption)); (focus sizeOf_list_dec); (focus sizeOf_list_dec))
  | ((with_reducible apply EM.Mu.num); (focus (with_reducible assumption)); (focus sizeOf_list_dec); (focus sizeOf_list_dec))
  | ((with_reducible apply EM.num_of_rat); (focus sizeOf_list_dec); (focus (first | with_reducible assumption | (apply EM.n_low; assumption))))
  | ((with_reducible apply EM.RatsP.xt); (focus (with_reducible assumption)); (focus sizeOf_list_dec))
  | ((with_reducible apply EM.NumsP.xt); (focus (with_reducible assumption)); (focus sizeOf_list_dec))
  | ((with_reducible apply EM.PairsP.xt); (focus (with_reducible assumption)); (focus sizeOf_list_dec))
  | ((with_reducible apply EM.RdP.xt); (focus (with_reducible assumption)); (focus sizeOf_list_dec))
  | ((with_reducible apply EM.Mu.rats); (focus (with_reducible assumption)); (focus sizeOf_list_dec); (focus sizeOf_list_dec))
  | ((with_reducible apply EM.Mu.pairs); (focus (with_reducible assumption)); (focus sizeOf_list_dec); (focus sizeOf_list_dec))
  | ((with_reducible apply EM.Mu.rdp); (focus (with_reducible assumption)); (focus sizeOf_list_dec); (focus sizeOf_list_dec)))
local macro_rules | `(tactic| decreasing_trivial_pre_omega) => `(tactic| first
  | with_reducible assumption
  | exact EM.Bt.mono (by with_reducible assumption) (by decide)
  | exact EM.Bt.lit _ _ (by decide +kernel)
  | ((with_reducible refine EM.Bt.rng32 ?_ ?_) <;> omega)
  | ((with_reducible refine EM.Bt.rng70 ?_ ?_) <;> omega)
  | ((with_reducible refine EM.Bt.rng200 ?_ ?_) <;> omega)
  | ((with_reducible apply EM.Bt.mulM); (focus decreasing_trivial_pre_omega); (focus decreasing_trivial_pre_omega); (focus (first | decide | exact Nat.le_refl _)))
  | ((with_reducible apply EM.Bt.addM); (focus decreasing_trivial_pre_omega); (focus decreasing_trivial_pre_omega); (focus (first | decide | exact Nat.le_refl _)))
  | ((with_reducible apply EM.Bt.subM); (focus decreasing_trivial_pre_omega); (focus decreasing_trivial_pre_omega); (focus (first | decide | exact Nat.le_refl _)))
  | ((with_reducible apply EM.Bt.topL); (focus decreasing_trivial_pre_omega); (focus assumption); (focus (first | decide | exact Nat.le_refl _)))
  | ((with_reducible apply EM.Bt.botL); (focus decreasing_trivial_pre_omega); (focus assumption); (focus (first | decide | exact Nat.le_refl _)))
  | ((with_reducible apply EM.Bt.divM); (focus decreasing_trivial_pre_omega); (focus assumption); (focus (first | decide | exact Nat.le_refl _)))
  | ((with_reducible apply EM.Bt.negM); (focus decreasing_trivial_pre_omega); (focus (first | decide | exact Nat.le_refl _))))
local macro_rules | `(tactic| array_get_dec) => `(tactic| first
  | with_reducible assumption
  | ((with_reducible refine EM.gEq ?_); exact rfl)
  | ((with_reducible refine EM.gTru ?_); exact rfl)
  | ((with_reducible refine EM.gRef ?_); first | exact Or.inl ⟨_, rfl⟩ | exact Or.inr ⟨_, rfl⟩)
  | ((with_reducible apply EM.At.get); sizeOf_list_dec)
  | ((with_reducible apply EM.At.sqL); sizeOf_list_dec)
  | ((with_reducible apply EM.At.sqT); sizeOf_list_dec)
  | ((with_reducible apply EM.RatP.getK); (focus sizeOf_list_dec); (focus (exact rfl)))
  | (with_reducible exact EM.Num.int _)
  | ((with_reducible apply EM.NumP.getK); (focus sizeOf_list_dec); (focus (exact rfl)))
  | ((with_reducible apply EM.At.ext); (focus (with_reducible assumption)); (focus sizeOf_list_dec))
  | ((with_reducible apply EM.RatP.ext); (focus (with_reducible assumption)); (focus sizeOf_list_dec))
  | ((with_reducible apply EM.NumP.ext); (focus (with_reducible assumption)); (focus sizeOf_list_dec))
  | with_reducible exact Tx.cl_Ratio (by assumption)
  | with_reducible exact Tx.cl_Reading (by assumption)
  | with_reducible exact Tx.na_Ratio_top (by assumption)
  | with_reducible exact Tx.na_Ratio_bottom (by assumption)
  | with_reducible exact Tx.na_Reading_own_edges (by assumption)
  | ((with_reducible refine EM.gAt ?_); sizeOf_list_dec)
  | ((with_reducible refine EM.gRat ?_); sizeOf_list_dec)
  | ((with_reducible refine EM.gNum ?_); sizeOf_list_dec)
  | ((with_reducible apply EM.TwoP.mk); (focus (with_reducible assumption)); (focus sizeOf_list_dec); (focus (first | with_reducible assumption | (apply EM.n_low; assumption))); (focus sizeOf_list_dec); (focus decreasing_trivial_pre_omega); (focus decreasing_trivial_pre_omega); (focus decreasing_trivial_pre_omega); (focus decreasing_trivial_pre_omega))
  | (with_reducible exact EM.Ext.refl)
  | ((with_reducible apply EM.Ext.back); (focus (with_reducible assumption)); (focus sizeOf_list_dec))
  | ((with_reducible apply EM.Bs.mono); (focus (with_reducible assumption)); omega)
  | ((with_reducible refine EM.gN ?_); first | decide | omega | exact Nat.le_of_ble_eq_true rfl | (simp only [List.length_cons, List.length_nil, List.length_append]; omega))
  | ((with_reducible refine EM.gM ?_); first | decide | omega | exact Nat.le_of_ble_eq_true rfl)
  | ((with_reducible refine EM.gI ?_); first | decide | omega)
  | ((with_reducible refine EM.gJ ?_); first | decide | omega)
  | ((with_reducible refine EM.gE ?_); first | decide | omega)
  | ((with_reducible refine EM.gB ?_); decreasing_trivial_pre_omega)
  | ((with_reducible apply EM.wideM); (focus decreasing_trivial_pre_omega); (focus decreasing_trivial_pre_omega); (focus decide)))
local macro_rules | `(tactic| infer_instance) => `(tactic| first
  | with_reducible assumption
  | exact DpAll.nil
  | (apply DpAll.cons; (focus infer_instance); (focus infer_instance))
  | with_reducible exact Dp.int _
  | exact Dp.int _
  | with_reducible exact Dp.str _
  | exact Dp.bl _
  | exact Dp.non
  | ((with_reducible apply EM.dp_lst); (focus array_get_dec); (focus infer_instance))
  | ((with_reducible apply EM.dp_tup); (focus array_get_dec); (focus infer_instance))
  | exact EM.dp_ints _)
local macro_rules | `(tactic| nofun) => `(tactic| first
  | with_reducible assumption
  | exact EM.FeL.nil
  | exact EM.FdL.nil
  | (apply EM.FeL.cons; (focus nofun); (focus nofun))
  | (apply EM.FdL.cons; (focus nofun); (focus nofun))
  | exact EM.Fe.int _
  | exact EM.Fe.bool _
  | exact EM.Fe.non
  | exact EM.Fe.str (EM.okS_of _)
  | (apply EM.Fe.str; apply EM.Fd.ok; (focus nofun))
  | (apply EM.Fe.list; (focus nofun))
  | (apply EM.Fe.tup; (focus nofun))
  | (apply EM.Fd.int; (focus decreasing_trivial_pre_omega))
  | exact EM.Fd.bool _
  | exact EM.Fd.non
  | (refine EM.Fd.bool _)
  | (apply EM.Fd.list; (focus nofun))
  | (apply EM.Fd.tup; (focus nofun)))
local macro_rules | `(tactic| array_mem_dec) => `(tactic| ((with_reducible refine EM.pr ?_); first
  | (with_reducible refine L2.iteT ?_)
  | (with_reducible refine L2.iteF ?_)
  | (with_reducible refine EM.ifNotT ?_)
  | (with_reducible refine EM.ifNotF ?_)
  | ((fail_if_success (with_reducible refine EM.gIf ?_)); first
  | array_get_dec
  | (refine EM.mk_low (by with_reducible assumption) (by with_reducible assumption) ?_ ?_; (focus array_get_dec))
  | (apply EM.isNum_sw; (focus sizeOf_list_dec))
  | (apply EM.of_sw; (focus (with_reducible assumption)); (focus sizeOf_list_dec))
  | (apply EM.neg_bs; (focus (with_reducible assumption)); (focus sizeOf_list_dec); (focus array_get_dec); (focus array_get_dec))
  | (apply EM.relw_bs; (focus (with_reducible assumption)); (focus sizeOf_list_dec); (focus sizeOf_list_dec); (focus array_get_dec); (focus decreasing_trivial_pre_omega); (focus decreasing_trivial_pre_omega); (focus decreasing_trivial_pre_omega); (focus decreasing_trivial_pre_omega))
  | ((apply EM.DnS.bs); (focus (with_reducible assumption)); (focus (intro _ z; cases z; done)))
  | ((apply EM.seqL); (focus sizeOf_list_dec))
  | ((apply EM.seqT); (focus sizeOf_list_dec))
  | ((apply EM.lenL); (focus sizeOf_list_dec))
  | ((apply EM.lenT); (focus sizeOf_list_dec))
  | ((apply EM.isSeqL); (focus sizeOf_list_dec); (focus sizeOf_list_dec))
  | ((apply EM.isSeqT); (focus sizeOf_list_dec); (focus sizeOf_list_dec))
  | ((apply EM.tupL); (focus sizeOf_list_dec))
  | ((apply EM.fld_bs); (focus sizeOf_list_dec); (focus (exact Tx.cl_Reading (by assumption))); (focus (exact Tx.na_Reading_own_edges (by assumption))); (focus (exact rfl)))
  | ((apply lstNN); (focus sizeOf_list_dec))
  | ((with_reducible refine EM.New.bs (by with_reducible assumption) ?_ ?_); (focus (intro _ z; cases z; done)))
  | ((with_reducible refine EM.gMu ?_); (with_reducible apply EM.mu_bs); (focus (with_reducible assumption)); (focus sizeOf_list_dec); (focus (apply EM.nel2; (focus (with_reducible assumption)); (focus (with_reducible assumption)))); intro _ _ _)
  | intro _
  | (apply And.intro; (focus array_get_dec))
  | apply Exists.intro
  | (refine EM.draw_bs (by with_reducible assumption) ?_ ?_ ?_ ?_; (focus array_get_dec); (focus array_get_dec); (focus (first | decide | omega)))
  | (apply EM.pick_int; (focus (with_reducible assumption)); (focus array_get_dec); (focus sizeOf_list_dec); (focus ((repeat' (first | exact EM.AllI.nil | apply EM.AllI.cons)); done)); (focus (exact Nat.le_of_ble_eq_true rfl)); (focus (exact Nat.le_of_ble_eq_true rfl)))
  | (apply EM.pick_bs; (focus (with_reducible assumption)); (focus array_get_dec); (focus sizeOf_list_dec); (focus (exact Nat.le_of_ble_eq_true rfl)); (focus (exact Nat.le_of_ble_eq_true rfl)))
  | ((apply EM.repr_sw); (focus infer_instance); (focus nofun); (focus decide))
  | ((apply EM.eqd_same); (focus infer_instance); (focus infer_instance); (focus nofun); (focus decide))
  | ((apply EM.ned_same); (focus infer_instance); (focus infer_instance); (focus nofun); (focus decide))
  | ((apply EM.eqd_sw); (focus infer_instance); (focus infer_instance); (focus nofun); (focus nofun); (focus decide))
  | ((apply EM.ned_sw); (focus infer_instance); (focus infer_instance); (focus nofun); (focus nofun); (focus decide))
  | (refine EM.cut_bs (by with_reducible assumption) ?_ ?_ ?_; (focus array_get_dec); (focus array_get_dec)))))
section
variable {P : Program} {w : World} {K : PySem.W.Frag} {mg : Str → Option Value} {base : Heap}
theorem ok_Lbent (T : Tx K mg) : FnR P w K mg base (L2.CX P w) 5 (He.ga K "_law_bent") (spBent K) := by
  obtain ⟨fd, F⟩ := T.d_Lbent
  refine EM.fnr F sc_Lbent (fun _ _ _ _ _ _ us hl => match us, hl with | [_, _], _ => rfl) (fun vs H Q E h => ?_) (fun cdv A outer s H vs Q E hr h => ?_)
  · obtain ⟨T0, p, l, a, n, zs, os, rfl, _⟩ := h
    rfl
  · obtain ⟨T0, p, l, a, n, zs, os, rfl, B0, hn, aZ, it, hl, k⟩ := h
    have hz := it.len
    refine ⟨_, (PSs.nox (pss_cons (ps_set (i := 2) sc_Lbent.nd rfl (Or.inl rfl) (pe_callTy call_listNN (by rfl) T.f_list (by decide +kernel) (pa_cons (pv 1) pa_nil)))
 (pss_cons (EM.forN (ps_for PassesOwn.never rfl (pi_range1 (by rfl) T.f_range (pa_cons (pe_op op_mulW (EM.pe_cR ((ok_Ldraw T).sw) (hr.mono (by decide)) T.k__law_draw T.g__law_draw passL (pa_cons (pv 0) (pa_cons pe_int pa_nil))) (pe_callTy EM.call_intBN (by rfl) T.f_int (by decide +kernel) (pa_cons (pe_cmpR (EM.op_neNil hr.units) (pv 1) (EM.pe_lstN pa_nil) (nomark _)) pa_nil))) pa_nil)).mc (pg_name (i := 3) sc_Lbent.nd rfl (Or.inl rfl))
  (pss_cons (ps_par (by rfl) sc_Lbent.nd (i := 4) (j := 5) rfl rfl (by decide) rfl rfl (pa_cons (EM.pe_cR ((ok_Ldraw T).sw) (hr.mono (by decide)) T.k__law_draw T.g__law_draw passL (pa_cons (pv 0) (pa_cons (pe_callB EM.call_lenN (by rfl) T.f_len boot_len (pa_cons (pv 2) pa_nil)) pa_nil))) (pa_cons (EM.pe_cR ((ok_Ldraw T).sw) (hr.mono (by decide)) T.k__law_draw T.g__law_draw passL (pa_cons (pv 0) (pa_cons pe_int pa_nil))) pa_nil)) (by rfl))
 (pss_cons (ps_if (pt_cmpR op_eq (pv 5) pe_int (nomark _))
  (pss_one (ps_asg (EM.pe_tupN (pa_cons pe_non (pa_cons (EM.pe_cR ((ok_Lpick T).sw) (hr.mono (by decide)) T.k__law_pick T.g__law_pick passL (pa_cons (pv 0) (pa_cons (EM.pe_lstN (pa_cons pe_non (pa_cons pe_bl (pa_cons pe_bl (pa_cons pe_str (pa_cons (EM.pe_tupN (pa_cons pe_int pa_nil)) (pa_cons (EM.pe_lstN (pa_cons pe_int pa_nil)) (pa_cons (EM.pe_dnewN) (pa_cons pe_str (pa_cons pe_str pa_nil)))))))))) pa_nil))) pa_nil))) (pg_sub (pv 2) (pv 4) EM.set_listN))) pss_nil)
 (pss_one (ps_if (PW.pt (pw_and (pt_cmpR op_gt (pv 5) pe_int (nomark _)) (pw_and (pt_cmpR op_gt (pv 4) pe_int (nomark _)) (pw_and1 (pt_cmpR op_notN (pe_ix (show IxR _ (rIxT K) from ix_tup) (pe_ix (show IxR _ (rIxL K) from ix_list) (pv 2) (pe_op op_sub (pv 4) pe_int) (fun _ _ => rfl)) pe_int (fun _ _ => rfl)) pe_non (nomark _))))))
  (pss_cons (ps_set (i := 6) sc_Lbent.nd rfl (Or.inl rfl) (pe_ifExp (pt_cmpR op_eq (pv 5) pe_int (nomark _)) (pe_ix (show IxR _ (rIxT K) from ix_tup) (pe_ix (show IxR _ (rIxL K) from ix_list) (pv 2) (pe_op op_sub (pv 4) pe_int) (fun _ _ => rfl)) pe_int (fun _ _ => rfl)) (EM.pe_cR ((ok_Lsum T).sw) (hr.mono (by decide)) T.k__law_sum T.g__law_sum passL (pa_cons (pe_ix (show IxR _ (rIxT K) from ix_tup) (pe_ix (show IxR _ (rIxL K) from ix_list) (pv 2) (pe_op op_sub (pv 4) pe_int) (fun _ _ => rfl)) pe_int (fun _ _ => rfl)) (pa_cons (EM.pe_tupN (pa_cons (pe_un un_neg pe_int) (pa_cons pe_int pa_nil))) pa_nil)))))
 (pss_one (ps_asg (EM.pe_tupN (pa_cons (pv 6) (pa_cons (EM.pe_cR ((ok_Lpassed T).sw) (hr.mono (by decide)) T.k__law_passed T.g__law_passed passL (pa_cons (pv 0) (pa_cons (pv 6) pa_nil))) pa_nil))) (pg_sub (pv 2) (pv 4) EM.set_listN)))) pss_nil))))))
 (pss_one (ps_ret (pv 2)))))), ?_⟩
    repeat' array_mem_dec
    rename_i F H1 x1 B1 aF nF d H2 d0 d1 x2 B2 q3 H3 x3 B3 a3 n3
    obtain ⟨c, ec, c0⟩ : ∃ c : Int, (d * (if (!zs.isEmpty) = true then (1 : Int) else 0)) = c ∧ 0 ≤ c ∧ c < 3 ∧ (0 < c → 0 < zs.length) := by
      cases zs with
      | nil => exact ⟨0, by simp, by decide, by decide, fun z => absurd z (by decide)⟩
      | cons y r => exact ⟨d, by simp, d0, d1, fun _ => by simp⟩
    rw [ec]
    clear ec
    have x13 : Ext p H H3 := x1.trans (x2.trans x3)
    have frF : Fresh p H F := Fresh.none nF
    have aF3 : At p H3 F (.lst zs) := (aF.ext x2).ext x3
    have it3 := (it.ext x13).mono (show 1000 ≤ 1000 + 0 by decide)
    clear a3 n3 x1 x2 x3 B1 B2 aF aZ it
    refine ⟨by omega, by omega, ?_⟩
    refine FoS.it walk_range (fun i σ H4 => Hold (∃ zs' os' v3 v4 v5 v6, σ = [some (.ref p), some (.ref a), some (.ref F), v3, v4, v5, v6] ∧ At p H4 F (.lst zs') ∧ ItemsQ K p H4 (1000 + i) zs' os' ∧ os'.length = os.length ∧ XtM p H H4 ∧ Bs T0 p l (n + 1 + 5 * i) H4))
      ⟨⟨zs, os, _, _, _, _, rfl, aF3, it3, rfl, ⟨x13⟩, B3⟩⟩ (fun _ _ _ _ _ => trivial) ?_ ?_
    · clear it3 aF3 x13 B3
      rintro i y σ H4 H5 hi ⟨⟨zs', os', v3, v4, v5, v6, rfl, aZ, it, hol, ⟨x04⟩, B4⟩⟩ ⟨rfl, rfl⟩
      have hi3 : i < 2 := by omega
      have hzl := it.len
      have hz0 : 0 < zs'.length := by have := c0.2.2 (by omega); omega
      have frs := frF
      repeat' array_mem_dec
      rename_i at_ H6 d2 d3 x6 B6 w H7 d4 d5 x7 B7
      obtain ⟨an, rfl⟩ : ∃ an : Nat, at_ = an := ⟨at_.toNat, by omega⟩
      have x57 := x6.trans x7
      have aZ7 := aZ.ext x57
      have it7 := it.ext x57
      have x07 := x04.trans x57
      have han : an < zs'.length := by omega
      clear aZ it x04 x6 x7 x57 B4 B6
      refine ifs2 (fun σ' H' => ∃ zs'' os'' v3', σ' = [some (.ref p), some (.ref a), some (.ref F), v3', some (.int (an : Int)), some (.int w), v6] ∧ At p H' F (.lst zs'') ∧ ItemsQ K p H' (1000 + i) zs'' os'' ∧ os''.length = os.length ∧ Ext p H H' ∧ Bs T0 p l (n + 1 + 5 * i + 3) H') (fun σ' H8 h => ?_) (fun D' rest c => ?_) (fun c => ?_)
      · obtain ⟨zs2, os2, v3', rfl, aZ8, it8, hol2, x08, B8⟩ := h
        have hzl2 := it8.len
        repeat' array_mem_dec
        --B3
        have keep : ∀ (σ' : L2.St), σ' = [some (.ref p), some (.ref a), some (.ref F), v3', some (.int (an : Int)), some (.int w), v6] → Hold (∃ zs' os' v3 v4 v5 v6, σ' = [some (.ref p), some (.ref a), some (.ref F), v3, v4, v5, v6] ∧ At p H8 F (.lst zs') ∧ ItemsQ K p H8 (1000 + (i + 1)) zs' os' ∧ os'.length = os.length ∧ XtM p H H8 ∧ Bs T0 p l (n + 1 + 5 * (i + 1)) H8) := fun σ' e => ⟨⟨zs2, os2, _, _, _, _, e, aZ8, it8.mono (by omega), hol2, ⟨x08⟩, B8.mono (by omega)⟩⟩
        refine ifLt (a := 0) (b := w) (fun cw => ?_) (fun cw => ?_)
        · repeat' array_mem_dec
          --B31
          refine ifLt (a := 0) (b := (an : Int)) (fun ca => ?_) (fun ca => ?_)
          · obtain ⟨o, eo⟩ : ∃ o, os2[an - 1]? = some o := ⟨_, List.getElem?_eq_getElem (by omega)⟩
            obtain ⟨y', ey', t', fv', v', rfl, aT', of', iv'⟩ := it8.get eo
            have ix2 : atI zs2 ((an : Int) - 1) = some (.ref t') := at_of (j := an - 1) (by omega) ey'
            cases o with
            | none =>
              have e : fv' = .non := of'
              subst e
              repeat' array_mem_dec
              --B32
              refine ifN (by rfl) ?_
              repeat' array_mem_dec
              exact keep _ rfl
            | some e =>
              obtain ⟨q', rfl, aq'⟩ := of'
              have fe := it8.b e (List.mem_of_getElem? eo)
              have b17 := frq_m17.b2 (by decide)
              repeat' array_mem_dec
              --B33
              refine ifP (by rfl) ?_
              repeat' array_mem_dec
              --B34
              refine iteK2 (fun v H' => ∃ q2 e2, v = .ref q2 ∧ At p H' q2 (.tup [.int e2.1, .int e2.2]) ∧ FrQ (1000 + (i + 1)) e2 ∧ Ext p H8 H' ∧ Bs T0 p l (n + 1 + 5 * i + 3) H') (fun v H9 h => ?_) (fun K' rest c => ?_) (fun K' rest c => ?_)
              · obtain ⟨q2, e2, rfl, a2, f2, x89, B9⟩ := h
                have aZ9 := aZ8.ext x89
                have it9 := it8.ext x89
                have x09 := x08.trans x89
                repeat' array_mem_dec
                --B35
                refine pass_bs B9 (by omega) a2 f2 (by omega) fun pv_ HA nv xA BA => ?_
                have aZA := aZ9.ext xA
                have itA := it9.ext xA
                have x0A := x09.trans xA
                have a2A := a2.ext xA
                clear aZ8 it8 x08 B8 keep aT' iv' aq' x89 aZ9 it9 x09 a2 xA B9
                have hj : ixN zs2.length (an : Int) = some an := ix_of rfl (by omega)
                repeat' array_mem_dec
                --B36
                rename_i q9 HB xB BB a9 n9 HC mu BC
                have aZB := aZA.ext xB
                have itB : ItemsQ K p HB (1000 + (i + 1)) zs2 os2 := (itA.ext xB).mono (by omega)
                have iq : ItemQ K p HB (.ref q9) (some e2) := ⟨q9, _, _, rfl, a9, ⟨q2, rfl, a2A.ext xB⟩, NumP.ext xB nv⟩
                have its := (itB.set (i := an) iq (fun e z => by cases z; exact f2)).mu mu aZB
                exact ⟨⟨_, _, _, _, _, _, rfl, mu.here aZB, its, by rw [List.length_set]; exact hol2, ⟨Ext.muF frF (x0A.trans xB) mu⟩, BC.mono (by omega)⟩⟩
              · repeat' array_mem_dec
                --B38
                exact rest _ _ ⟨q', e, rfl, aq', fe.mono (by omega), Ext.refl, B8⟩
              · repeat' array_mem_dec
                --B39
                rename_i qs Hs xs_ Bs_ as_ ns_
                refine sumF_bs (e := e) (b := ((-1 : Int), (7 : Int))) Bs_ (aq'.ext xs_) as_ fe.low frq_m17.low (fe.b2 (by omega)) b17 fun q4 H4 x4 B4 a4 => ?_
                exact rest _ _ ⟨q4, _, rfl, a4, fe.add frq_m17 (by omega), xs_.trans x4, B4⟩
          · repeat' array_mem_dec
            exact keep _ rfl
        · repeat' array_mem_dec
          exact keep _ rfl
      · have hj : ixN zs'.length (an : Int) = some an := ix_of rfl (by omega)
        repeat' array_mem_dec
        --B4
        rename_i t1 Ha xa Ba aa na t2 Hb xb Bb ab nb t3 Hc xc Bc ac nc t4 Hd xd Bd ad nd ov He hv xe Be t5 Hf xf Bf af nf HC mu BC
        have c1 : At p Hf t1 (.tup [.int 1]) := by sizeOf_list_dec
        have c2 : At p Hf t2 (.lst [.int 2]) := by sizeOf_list_dec
        have c3 : At p Hf t3 (.dK []) := by sizeOf_list_dec
        have x7f : Ext p H7 Hf := xa.trans (xb.trans (xc.trans (xd.trans (xe.trans xf))))
        have od : OddN Hf p ov := by
          simp only [List.mem_cons, List.not_mem_nil, or_false] at hv
          rcases hv with rfl | rfl | rfl | rfl | rfl | rfl | rfl | rfl | rfl
          · exact odd_non
          · exact odd_bl
          · exact odd_bl
          · exact odd_str
          · exact odd_tup c1
          · exact odd_lst c2
          · exact odd_dct c3
          · exact odd_str
          · exact odd_str
        have aZf := aZ7.ext x7f
        have iq : ItemQ K p Hf (.ref t5) none := ⟨t5, _, _, rfl, af, rfl, od⟩
        have its := ((it7.ext x7f).set (i := an) iq (fun e z => by cases z)).mu mu aZf
        have x0C := Ext.muF frF (x07.trans x7f) mu
        exact rest _ _ ⟨_, _, _, rfl, mu.here aZf, its, by rw [List.length_set]; exact hol, x0C, BC.mono (by omega)⟩
      · exact ⟨zs', os', _, rfl, aZ7, it7, hol, x07, B7.mono (by omega)⟩
    · clear it3 aF3 x13 B3
      rintro σ H4 ⟨⟨zs', os', v3, v4, v5, v6, rfl, aZ, it, hol, ⟨x04⟩, B4⟩⟩
      repeat' array_mem_dec
      --B5
      exact k F zs' os' H4 x04 (B4.mono (by omega)) aZ (it.mono (by omega)) hol
end
end K12
namespace K12
open PySem PySem.Spec PyProof.Rows L2 EM
def spArgs (K : PySem.W.Frag) : Sp := fun vs H Q E => ∃ (T : List (Addr × Str)) (p l a : Addr) (n : Nat) (xs : List V) (os : List (Option (Int × Int))), vs = [.ref a] ∧ Bs T p l n H ∧ At p H a (.lst xs) ∧ ItemsP K p H xs os ∧ (∀ e, some e ∈ os → Low e.1 e.2 ∧ Bt 2000 e.1 ∧ Bt 2000 e.2) ∧ os.length ≤ 8 ∧
  OutG K T p l n H E os fun es => ∀ r q H', Ext p H H' → Bs T p l n H' → RdP K p H' r q es → Fresh p H r → Q (.ref r) H'
/-- Reading(a, b, ..) of anything -/
theorem pe_mkRG {K : PySem.W.Frag} {mg : Str → Option Value} (T : Tx K mg) {X : Cx} {E : XK} {e1 : Expr} {es : List Expr} {ta : TA} {p pos : Pos} (hr : Room 11 X.A) (hx : Passes (L2.CX X.prog X.w) X E) (ha : PA X (e1 :: es) ta) (hg : Gl X "Reading" := by rfl) (he : starEach (e1 :: es) X.env = (false, eval e1 X.env) :: starEach es X.env := by rfl) (hpl : (backTo pos (starEach es X.env)).any (·.1) = false := by rfl) (eK : X.K = K := by rfl) (eM : X.mg = mg := by rfl) :
    PE X (.Call (.Name "Reading" p) (e1 :: es) [] pos) (tCR (Sw (spReadG K)) E ta) := by
  subst eK eM
  exact (EM.pe_mkR (E := E) T.mk_Reading (ok_Reading_initG T) hr T.g_Reading hx ha.mc hg (by decide) he hpl).of fun σ H Q q => ⟨_, q, fun vs H1 ⟨h⟩ x dx hx hdx ndx => mk_ReadG h x dx hx hdx ndx⟩
def tMk0 (K : PySem.W.Frag) (E : XK) : TE := fun σ H Q => Sw (spReadG K) [] H Q E
theorem pe_mkRG0 {K : PySem.W.Frag} {mg : Str → Option Value} (T : Tx K mg) {X : Cx} {E : XK} {p pos : Pos} (hr : Room 11 X.A) (hx : Passes (L2.CX X.prog X.w) X E) (hg : Gl X "Reading" := by rfl) (eK : X.K = K := by rfl) (eM : X.mg = mg := by rfl) :
    PE X (.Call (.Name "Reading" p) [] [] pos) (tMk0 K E) := by
  subst eK eM
  exact (EM.pe_mkR0 (E := E) T.mk_Reading (ok_Reading_initG T) hr T.g_Reading hx hg (by decide)).of fun σ H Q q => fun x dx hx hdx ndx => mk_ReadG q.h x dx hx hdx ndx
local macro_rules | `(tactic| sizeOf_list_dec) => `(tactic| first
  | with_reducible assumption
  | ((with_reducible apply EM.At.ext); (focus (with_reducible assumption)); (focus sizeOf_list_dec))
  | ((with_reducible apply EM.RatP.ext); (focus (with_reducible assumption)); (focus sizeOf_list_dec))
  | ((with_reducible apply EM.NumP.ext); (focus (with_reducible assumption)); (focus sizeOf_list_dec))
  | (with_reducible exact EM.Ext.refl)
  | ((with_reducible apply EM.Ext.back); (focus (with_reducible assumption)); (focus sizeOf_list_dec))
  | exact EM.NumP.int _
  | ((with_reducible apply EM.Mu.at_k); (focus (with_reducible assumption)); (focus sizeOf_list_dec); (focus sizeOf_list_dec); (focus (intro _ z; cases z; done)))
  | ((with_reducible apply EM.Mu.at_n); (focus (with_reducible assumption)); (focus sizeOf_list_dec); (focus (first | with_reducible assumption | ((apply EM.nn1); (focus (with_reducible assumption)); (focus sizeOf_list_dec)) | ((apply EM.nn2); (focus (with_reducible assumption)); (focus sizeOf_list_dec)))))
  | ((with_reducible apply EM.Mu.here); (focus (with_reducible assumption)); (focus sizeOf_list_dec))
  | ((with_reducible apply EM.Mu.rat); (focus (with_reducible assumption)); (focus sizeOf_list_dec); (focus sizeOf_list_dec))
  | ((with_reducible apply EM.Mu.num); (focus (with_reducible assumption)); (focus sizeOf_list_dec); (focus sizeOf_list_dec))
  | ((with_reducible apply EM.num_of_rat); (focus sizeOf_list_dec); (focus (first | with_reducible assumption | (apply EM.n_low; assumption))))
  | ((with_reducible apply EM.RatsP.xt); (focus (with_reducible assumption)); (focus sizeOf_list_dec))
  | ((with_reducible apply EM.NumsP.xt); (focus (with_reducible assumption)); (focus sizeOf_list_dec))
  | ((with_reducible apply EM.PairsP.xt); (focus (with_reducible assumption)); (focus sizeOf_list_dec))
  | ((with_reducible apply EM.RdP.xt); (focus (with_reducible assumption)); (focus sizeOf_list_dec))
  | ((with_reducible apply EM.Mu.rats); (focus (with_reducible assumption)); (focus sizeOf_list_dec); (focus sizeOf_list_dec))
  | ((with_reducible apply EM.Mu.pairs); (focus (with_reducible assumption)); (focus sizeOf_list_dec); (focus sizeOf_list_dec))
  | ((with_reducible apply EM.Mu.rdp); (focus (with_reducible assumption)); (focus sizeOf_list_dec); (focus sizeOf_list_dec)))
local macro_rules | `(tactic| decreasing_trivial_pre_omega) => `(tactic| first
  | with_reducible assumption
  | exact EM.Bt.mono (by with_reducible assumption) (by decide)
  | exact EM.Bt.lit _ _ (by decide +kernel)
  | ((with_reducible refine EM.Bt.rng32 ?_ ?_) <;> omega)
  | ((with_reducible refine EM.Bt.rng70 ?_ ?_) <;> omega)
  | ((with_reducible refine EM.Bt.rng200 ?_ ?_) <;> omega)
  | ((with_reducible apply EM.Bt.mulM); (focus decreasing_trivial_pre_omega); (focus decreasing_trivial_pre_omega); (focus (first | decide | exact Nat.le_refl _)))
  | ((with_reducible apply EM.Bt.addM); (focus decreasing_trivial_pre_omega); (focus decreasing_trivial_pre_omega); (focus (first | decide | exact Nat.le_refl _)))
  | ((with_reducible apply EM.Bt.subM); (focus decreasing_trivial_pre_omega); (focus decreasing_trivial_pre_omega); (focus (first | decide | exact Nat.le_refl _)))
  | ((with_reducible apply EM.Bt.topL); (focus decreasing_trivial_pre_omega); (focus assumption); (focus (first | decide | exact Nat.le_refl _)))
  | ((with_reducible apply EM.Bt.botL); (focus decreasing_trivial_pre_omega); (focus assumption); (focus (first | decide | exact Nat.le_refl _)))
  | ((with_reducible apply EM.Bt.divM); (focus decreasing_trivial_pre_omega); (focus assumption); (focus (first | decide | exact Nat.le_refl _)))
  | ((with_reducible apply EM.Bt.negM); (focus decreasing_trivial_pre_omega); (focus (first | decide | exact Nat.le_refl _))))
local macro_rules | `(tactic| array_get_dec) => `(tactic| first
  | with_reducible assumption
  | ((with_reducible refine EM.gEq ?_); exact rfl)
  | ((with_reducible refine EM.gTru ?_); exact rfl)
  | ((with_reducible refine EM.gRef ?_); first | exact Or.inl ⟨_, rfl⟩ | exact Or.inr ⟨_, rfl⟩)
  | ((with_reducible apply EM.At.get); sizeOf_list_dec)
  | ((with_reducible apply EM.At.sqL); sizeOf_list_dec)
  | ((with_reducible apply EM.At.sqT); sizeOf_list_dec)
  | ((with_reducible apply EM.RatP.getK); (focus sizeOf_list_dec); (focus (exact rfl)))
  | (with_reducible exact EM.Num.int _)
  | ((with_reducible apply EM.NumP.getK); (focus sizeOf_list_dec); (focus (exact rfl)))
  | ((with_reducible apply EM.At.ext); (focus (with_reducible assumption)); (focus sizeOf_list_dec))
  | ((with_reducible apply EM.RatP.ext); (focus (with_reducible assumption)); (focus sizeOf_list_dec))
  | ((with_reducible apply EM.NumP.ext); (focus (with_reducible assumption)); (focus sizeOf_list_dec))
  | with_reducible exact Tx.cl_Ratio (by assumption)
  | with_reducible exact Tx.cl_Reading (by assumption)
  | with_reducible exact Tx.na_Ratio_top (by assumption)
  | with_reducible exact Tx.na_Ratio_bottom (by assumption)
  | with_reducible exact Tx.na_Reading_own_edges (by assumption)
  | ((with_reducible refine EM.gAt ?_); sizeOf_list_dec)
  | ((with_reducible refine EM.gRat ?_); sizeOf_list_dec)
  | ((with_reducible refine EM.gNum ?_); sizeOf_list_dec)
  | ((with_reducible apply EM.TwoP.mk); (focus (with_reducible assumption)); (focus sizeOf_list_dec); (focus (first | with_reducible assumption | (apply EM.n_low; assumption))); (focus sizeOf_list_dec); (focus decreasing_trivial_pre_omega); (focus decreasing_trivial_pre_omega); (focus decreasing_trivial_pre_omega); (focus decreasing_trivial_pre_omega))
  | (with_reducible exact EM.Ext.refl)
  | ((with_reducible apply EM.Ext.back); (focus (with_reducible assumption)); (focus sizeOf_list_dec))
  | ((with_reducible apply EM.Bs.mono); (focus (with_reducible assumption)); omega)
  | ((with_reducible refine EM.gN ?_); first | decide | omega | exact Nat.le_of_ble_eq_true rfl | (simp only [List.length_cons, List.length_nil, List.length_append]; omega))
  | ((with_reducible refine EM.gM ?_); first | decide | omega | exact Nat.le_of_ble_eq_true rfl)
  | ((with_reducible refine EM.gI ?_); first | decide | omega)
  | ((with_reducible refine EM.gJ ?_); first | decide | omega)
  | ((with_reducible refine EM.gE ?_); first | decide | omega)
  | ((with_reducible refine EM.gB ?_); decreasing_trivial_pre_omega)
  | ((with_reducible apply EM.wideM); (focus decreasing_trivial_pre_omega); (focus decreasing_trivial_pre_omega); (focus decide)))
local macro_rules | `(tactic| infer_instance) => `(tactic| first
  | with_reducible assumption
  | exact DpAll.nil
  | (apply DpAll.cons; (focus infer_instance); (focus infer_instance))
  | with_reducible exact Dp.int _
  | exact Dp.int _
  | with_reducible exact Dp.str _
  | exact Dp.bl _
  | exact Dp.non
  | ((with_reducible apply EM.dp_lst); (focus array_get_dec); (focus infer_instance))
  | ((with_reducible apply EM.dp_tup); (focus array_get_dec); (focus infer_instance))
  | exact EM.dp_ints _)
local macro_rules | `(tactic| nofun) => `(tactic| first
  | with_reducible assumption
  | exact EM.FeL.nil
  | exact EM.FdL.nil
  | (apply EM.FeL.cons; (focus nofun); (focus nofun))
  | (apply EM.FdL.cons; (focus nofun); (focus nofun))
  | exact EM.Fe.int _
  | exact EM.Fe.bool _
  | exact EM.Fe.non
  | exact EM.Fe.str (EM.okS_of _)
  | (apply EM.Fe.str; apply EM.Fd.ok; (focus nofun))
  | (apply EM.Fe.list; (focus nofun))
  | (apply EM.Fe.tup; (focus nofun))
  | (apply EM.Fd.int; (focus decreasing_trivial_pre_omega))
  | exact EM.Fd.bool _
  | exact EM.Fd.non
  | (refine EM.Fd.bool _)
  | (apply EM.Fd.list; (focus nofun))
  | (apply EM.Fd.tup; (focus nofun)))
local macro_rules | `(tactic| array_mem_dec) => `(tactic| ((with_reducible refine EM.pr ?_); first
  | (with_reducible refine L2.iteT ?_)
  | (with_reducible refine L2.iteF ?_)
  | (with_reducible refine EM.ifNotT ?_)
  | (with_reducible refine EM.ifNotF ?_)
  | ((fail_if_success (with_reducible refine EM.gIf ?_)); first
  | array_get_dec
  | (refine EM.mk_low (by with_reducible assumption) (by with_reducible assumption) ?_ ?_; (focus array_get_dec))
  | (apply EM.isNum_sw; (focus sizeOf_list_dec))
  | (apply EM.of_sw; (focus (with_reducible assumption)); (focus sizeOf_list_dec))
  | (apply EM.neg_bs; (focus (with_reducible assumption)); (focus sizeOf_list_dec); (focus array_get_dec); (focus array_get_dec))
  | (apply EM.relw_bs; (focus (with_reducible assumption)); (focus sizeOf_list_dec); (focus sizeOf_list_dec); (focus array_get_dec); (focus decreasing_trivial_pre_omega); (focus decreasing_trivial_pre_omega); (focus decreasing_trivial_pre_omega); (focus decreasing_trivial_pre_omega))
  | ((apply EM.DnS.bs); (focus (with_reducible assumption)); (focus (intro _ z; cases z; done)))
  | ((apply EM.seqL); (focus sizeOf_list_dec))
  | ((apply EM.seqT); (focus sizeOf_list_dec))
  | ((apply EM.lenL); (focus sizeOf_list_dec))
  | ((apply EM.lenT); (focus sizeOf_list_dec))
  | ((apply EM.isSeqL); (focus sizeOf_list_dec); (focus sizeOf_list_dec))
  | ((apply EM.isSeqT); (focus sizeOf_list_dec); (focus sizeOf_list_dec))
  | ((apply EM.tupL); (focus sizeOf_list_dec))
  | ((apply EM.fld_bs); (focus sizeOf_list_dec); (focus (exact Tx.cl_Reading (by assumption))); (focus (exact Tx.na_Reading_own_edges (by assumption))); (focus (exact rfl)))
  | ((apply EM.enT); (focus sizeOf_list_dec))
  | (apply cnt_bs)
  | ((with_reducible refine EM.New.bs (by with_reducible assumption) ?_ ?_); (focus (intro _ z; cases z; done)))
  | ((with_reducible refine EM.gMu ?_); (with_reducible apply EM.mu_bs); (focus (with_reducible assumption)); (focus sizeOf_list_dec); (focus (apply EM.nel2; (focus (with_reducible assumption)); (focus (with_reducible assumption)))); intro _ _ _)
  | intro _
  | (apply And.intro; (focus array_get_dec))
  | apply Exists.intro
  | (refine EM.draw_bs (by with_reducible assumption) ?_ ?_ ?_ ?_; (focus array_get_dec); (focus array_get_dec); (focus (first | decide | omega)))
  | (apply EM.pick_bs; (focus (with_reducible assumption)); (focus array_get_dec); (focus sizeOf_list_dec); (focus (exact Nat.le_of_ble_eq_true rfl)); (focus (exact Nat.le_of_ble_eq_true rfl)))
  | ((apply EM.repr_sw); (focus infer_instance); (focus nofun); (focus decide))
  | ((apply EM.eqd_same); (focus infer_instance); (focus infer_instance); (focus nofun); (focus decide))
  | ((apply EM.ned_same); (focus infer_instance); (focus infer_instance); (focus nofun); (focus decide))
  | ((apply EM.eqd_sw); (focus infer_instance); (focus infer_instance); (focus nofun); (focus nofun); (focus decide))
  | ((apply EM.ned_sw); (focus infer_instance); (focus infer_instance); (focus nofun); (focus nofun); (focus decide))
  | (refine EM.cut_bs (by with_reducible assumption) ?_ ?_ ?_; (focus array_get_dec); (focus array_get_dec)))))
section
variable {P : Program} {w : World} {K : PySem.W.Frag} {mg : Str → Option Value} {base : Heap}
theorem ok_Lby_args (T : Tx K mg) : FnR P w K mg base (L2.CX P w) 12 (He.ga K "_law_by_args") (spArgs K) := by
  obtain ⟨fd, F⟩ := T.d_Lby_args
  refine EM.fnr F sc_Lby_args (fun _ _ _ _ _ _ us hl => match us, hl with | [_], _ => rfl) (fun vs H Q E h => ?_) (fun cdv A outer s H vs Q E hr h => ?_)
  · obtain ⟨T0, p, l, a, n, xs, os, rfl, _⟩ := h
    rfl
  · obtain ⟨T0, p, l, a, n, xs, os, rfl, B0, aX, it, hb, hl, out⟩ := h
    have hx := it.len
    have tk := takes_of (X := cxOf (L2.CX P w) P w K mg base ["_law_some"] "_law_by_args" (defScope s_Lby_args) (He.ga K "_law_by_args") cdv A outer s H E) (E := E) rfl rfl rfl rfl
    refine ⟨_, (pss_cons (ps_if (pt_cmpR op_lt (pe_callB EM.call_lenN (by rfl) T.f_len boot_len (pa_cons (pv 0) pa_nil)) pe_int (nomark _))
  (pss_cons (ps_if (pt_cmpR op_lt (pe_callB EM.call_lenN (by rfl) T.f_len boot_len (pa_cons (pv 0) pa_nil)) pe_int (nomark _))
  (pss_one (ps_ret (pe_ifExp (pt_cmpR op_eq (pe_callB EM.call_lenN (by rfl) T.f_len boot_len (pa_cons (pv 0) pa_nil)) pe_int (nomark _)) (pe_mkRG0 T (hr.mono (by decide)) (passes_call tk (fun _ _ _ _ h => h))) (pe_mkRG T (hr.mono (by decide)) (passes_call tk (fun _ _ _ _ h => h)) (pa_cons (pe_ix (show IxR _ (rIxL K) from ix_list) (pv 0) pe_int (fun _ _ => rfl)) pa_nil))))) pss_nil)
 (pss_one (ps_ret (pe_ifExp (pt_cmpR op_eq (pe_callB EM.call_lenN (by rfl) T.f_len boot_len (pa_cons (pv 0) pa_nil)) pe_int (nomark _)) (pe_mkRG T (hr.mono (by decide)) (passes_call tk (fun _ _ _ _ h => h)) (pa_cons (pe_ix (show IxR _ (rIxL K) from ix_list) (pv 0) pe_int (fun _ _ => rfl)) (pa_cons (pe_ix (show IxR _ (rIxL K) from ix_list) (pv 0) pe_int (fun _ _ => rfl)) pa_nil))) (pe_mkRG T (hr.mono (by decide)) (passes_call tk (fun _ _ _ _ h => h)) (pa_cons (pe_ix (show IxR _ (rIxL K) from ix_list) (pv 0) pe_int (fun _ _ => rfl)) (pa_cons (pe_ix (show IxR _ (rIxL K) from ix_list) (pv 0) pe_int (fun _ _ => rfl)) (pa_cons (pe_ix (show IxR _ (rIxL K) from ix_list) (pv 0) pe_int (fun _ _ => rfl)) pa_nil)))))))) pss_nil)
 (pss_cons (ps_if (pt_cmpR op_eq (pe_callB EM.call_lenN (by rfl) T.f_len boot_len (pa_cons (pv 0) pa_nil)) pe_int (nomark _))
  (pss_one (ps_ret (pe_mkRG T (hr.mono (by decide)) (passes_call tk (fun _ _ _ _ h => h)) (pa_cons (pe_ix (show IxR _ (rIxL K) from ix_list) (pv 0) pe_int (fun _ _ => rfl)) (pa_cons (pe_ix (show IxR _ (rIxL K) from ix_list) (pv 0) pe_int (fun _ _ => rfl)) (pa_cons (pe_ix (show IxR _ (rIxL K) from ix_list) (pv 0) pe_int (fun _ _ => rfl)) (pa_cons (pe_ix (show IxR _ (rIxL K) from ix_list) (pv 0) pe_int (fun _ _ => rfl)) pa_nil))))))) pss_nil)
 (pss_cons (ps_if (pt_cmpR op_eq (pe_callB EM.call_lenN (by rfl) T.f_len boot_len (pa_cons (pv 0) pa_nil)) pe_int (nomark _))
  (pss_one (ps_ret (pe_mkRG T (hr.mono (by decide)) (passes_call tk (fun _ _ _ _ h => h)) (pa_cons (pe_ix (show IxR _ (rIxL K) from ix_list) (pv 0) pe_int (fun _ _ => rfl)) (pa_cons (pe_ix (show IxR _ (rIxL K) from ix_list) (pv 0) pe_int (fun _ _ => rfl)) (pa_cons (pe_ix (show IxR _ (rIxL K) from ix_list) (pv 0) pe_int (fun _ _ => rfl)) (pa_cons (pe_ix (show IxR _ (rIxL K) from ix_list) (pv 0) pe_int (fun _ _ => rfl)) (pa_cons (pe_ix (show IxR _ (rIxL K) from ix_list) (pv 0) pe_int (fun _ _ => rfl)) pa_nil)))))))) pss_nil)
 (pss_cons (ps_if (pt_cmpR op_eq (pe_callB EM.call_lenN (by rfl) T.f_len boot_len (pa_cons (pv 0) pa_nil)) pe_int (nomark _))
  (pss_one (ps_ret (pe_mkRG T (hr.mono (by decide)) (passes_call tk (fun _ _ _ _ h => h)) (pa_cons (pe_ix (show IxR _ (rIxL K) from ix_list) (pv 0) pe_int (fun _ _ => rfl)) (pa_cons (pe_ix (show IxR _ (rIxL K) from ix_list) (pv 0) pe_int (fun _ _ => rfl)) (pa_cons (pe_ix (show IxR _ (rIxL K) from ix_list) (pv 0) pe_int (fun _ _ => rfl)) (pa_cons (pe_ix (show IxR _ (rIxL K) from ix_list) (pv 0) pe_int (fun _ _ => rfl)) (pa_cons (pe_ix (show IxR _ (rIxL K) from ix_list) (pv 0) pe_int (fun _ _ => rfl)) (pa_cons (pe_ix (show IxR _ (rIxL K) from ix_list) (pv 0) pe_int (fun _ _ => rfl)) pa_nil))))))))) pss_nil)
 (pss_cons (ps_if (pt_cmpR op_eq (pe_callB EM.call_lenN (by rfl) T.f_len boot_len (pa_cons (pv 0) pa_nil)) pe_int (nomark _))
  (pss_one (ps_ret (pe_mkRG T (hr.mono (by decide)) (passes_call tk (fun _ _ _ _ h => h)) (pa_cons (pe_ix (show IxR _ (rIxL K) from ix_list) (pv 0) pe_int (fun _ _ => rfl)) (pa_cons (pe_ix (show IxR _ (rIxL K) from ix_list) (pv 0) pe_int (fun _ _ => rfl)) (pa_cons (pe_ix (show IxR _ (rIxL K) from ix_list) (pv 0) pe_int (fun _ _ => rfl)) (pa_cons (pe_ix (show IxR _ (rIxL K) from ix_list) (pv 0) pe_int (fun _ _ => rfl)) (pa_cons (pe_ix (show IxR _ (rIxL K) from ix_list) (pv 0) pe_int (fun _ _ => rfl)) (pa_cons (pe_ix (show IxR _ (rIxL K) from ix_list) (pv 0) pe_int (fun _ _ => rfl)) (pa_cons (pe_ix (show IxR _ (rIxL K) from ix_list) (pv 0) pe_int (fun _ _ => rfl)) pa_nil)))))))))) pss_nil)
 (pss_one (ps_ret (pe_mkRG T (hr.mono (by decide)) (passes_call tk (fun _ _ _ _ h => h)) (pa_cons (pe_ix (show IxR _ (rIxL K) from ix_list) (pv 0) pe_int (fun _ _ => rfl)) (pa_cons (pe_ix (show IxR _ (rIxL K) from ix_list) (pv 0) pe_int (fun _ _ => rfl)) (pa_cons (pe_ix (show IxR _ (rIxL K) from ix_list) (pv 0) pe_int (fun _ _ => rfl)) (pa_cons (pe_ix (show IxR _ (rIxL K) from ix_list) (pv 0) pe_int (fun _ _ => rfl)) (pa_cons (pe_ix (show IxR _ (rIxL K) from ix_list) (pv 0) pe_int (fun _ _ => rfl)) (pa_cons (pe_ix (show IxR _ (rIxL K) from ix_list) (pv 0) pe_int (fun _ _ => rfl)) (pa_cons (pe_ix (show IxR _ (rIxL K) from ix_list) (pv 0) pe_int (fun _ _ => rfl)) (pa_cons (pe_ix (show IxR _ (rIxL K) from ix_list) (pv 0) pe_int (fun _ _ => rfl)) pa_nil)))))))))))))))), ?_⟩
    obtain ⟨k, hk⟩ : ∃ k, k = xs.length := ⟨_, rfl⟩
    have fin : ∀ {E'}, E' = E → Sw (spReadG K) xs H Q E' := fun e => by
      subst e
      exact ⟨⟨T0, p, l, n, os, B0, it, hb, by omega, out⟩⟩
    have hk8 : k ≤ 8 := by omega
    match k, hk8, xs, hk with
    | 0, _, [], _ =>
      repeat' array_mem_dec
      refine ifP (by rfl) ?_
      repeat' array_mem_dec
      refine ifP (by rfl) ?_
      repeat' array_mem_dec
      refine ifP (by rfl) ?_
      repeat' array_mem_dec
      --A0
      exact fin rfl
    | 1, _, [x0], _ =>
      have i0 : atI ([x0] : List V) 0 = some x0 := rfl
      repeat' array_mem_dec
      refine ifP (by rfl) ?_
      repeat' array_mem_dec
      refine ifP (by rfl) ?_
      repeat' array_mem_dec
      refine ifN (by rfl) ?_
      repeat' array_mem_dec
      --A1
      exact fin rfl
    | 2, _, [x0, x1], _ =>
      have i0 : atI ([x0, x1] : List V) 0 = some x0 := rfl
      have i1 : atI ([x0, x1] : List V) 1 = some x1 := rfl
      repeat' array_mem_dec
      refine ifP (by rfl) ?_
      repeat' array_mem_dec
      refine ifN (by rfl) ?_
      repeat' array_mem_dec
      refine ifP (by rfl) ?_
      repeat' array_mem_dec
      --A2
      exact fin rfl
    | 3, _, [x0, x1, x2], _ =>
      have i0 : atI ([x0, x1, x2] : List V) 0 = some x0 := rfl
      have i1 : atI ([x0, x1, x2] : List V) 1 = some x1 := rfl
      have i2 : atI ([x0, x1, x2] : List V) 2 = some x2 := rfl
      repeat' array_mem_dec
      refine ifP (by rfl) ?_
      repeat' array_mem_dec
      refine ifN (by rfl) ?_
      repeat' array_mem_dec
      refine ifN (by rfl) ?_
      repeat' array_mem_dec
      --A3
      exact fin rfl
    | 4, _, [x0, x1, x2, x3], _ =>
      have i0 : atI ([x0, x1, x2, x3] : List V) 0 = some x0 := rfl
      have i1 : atI ([x0, x1, x2, x3] : List V) 1 = some x1 := rfl
      have i2 : atI ([x0, x1, x2, x3] : List V) 2 = some x2 := rfl
      have i3 : atI ([x0, x1, x2, x3] : List V) 3 = some x3 := rfl
      repeat' array_mem_dec
      refine ifN (by rfl) ?_
      repeat' array_mem_dec
      refine ifP (by rfl) ?_
      repeat' array_mem_dec
      --A4
      exact fin rfl
    | 5, _, [x0, x1, x2, x3, x4], _ =>
      have i0 : atI ([x0, x1, x2, x3, x4] : List V) 0 = some x0 := rfl
      have i1 : atI ([x0, x1, x2, x3, x4] : List V) 1 = some x1 := rfl
      have i2 : atI ([x0, x1, x2, x3, x4] : List V) 2 = some x2 := rfl
      have i3 : atI ([x0, x1, x2, x3, x4] : List V) 3 = some x3 := rfl
      have i4 : atI ([x0, x1, x2, x3, x4] : List V) 4 = some x4 := rfl
      repeat' array_mem_dec
      refine ifN (by rfl) ?_
      repeat' array_mem_dec
      refine ifN (by rfl) ?_
      repeat' array_mem_dec
      refine ifP (by rfl) ?_
      repeat' array_mem_dec
      --A5
      exact fin rfl
    | 6, _, [x0, x1, x2, x3, x4, x5], _ =>
      have i0 : atI ([x0, x1, x2, x3, x4, x5] : List V) 0 = some x0 := rfl
      have i1 : atI ([x0, x1, x2, x3, x4, x5] : List V) 1 = some x1 := rfl
      have i2 : atI ([x0, x1, x2, x3, x4, x5] : List V) 2 = some x2 := rfl
      have i3 : atI ([x0, x1, x2, x3, x4, x5] : List V) 3 = some x3 := rfl
      have i4 : atI ([x0, x1, x2, x3, x4, x5] : List V) 4 = some x4 := rfl
      have i5 : atI ([x0, x1, x2, x3, x4, x5] : List V) 5 = some x5 := rfl
      repeat' array_mem_dec
      refine ifN (by rfl) ?_
      repeat' array_mem_dec
      refine ifN (by rfl) ?_
      repeat' array_mem_dec
      refine ifN (by rfl) ?_
      repeat' array_mem_dec
      refine ifP (by rfl) ?_
      repeat' array_mem_dec
      --A6
      exact fin rfl
    | 7, _, [x0, x1, x2, x3, x4, x5, x6], _ =>
      have i0 : atI ([x0, x1, x2, x3, x4, x5, x6] : List V) 0 = some x0 := rfl
      have i1 : atI ([x0, x1, x2, x3, x4, x5, x6] : List V) 1 = some x1 := rfl
      have i2 : atI ([x0, x1, x2, x3, x4, x5, x6] : List V) 2 = some x2 := rfl
      have i3 : atI ([x0, x1, x2, x3, x4, x5, x6] : List V) 3 = some x3 := rfl
      have i4 : atI ([x0, x1, x2, x3, x4, x5, x6] : List V) 4 = some x4 := rfl
      have i5 : atI ([x0, x1, x2, x3, x4, x5, x6] : List V) 5 = some x5 := rfl
      have i6 : atI ([x0, x1, x2, x3, x4, x5, x6] : List V) 6 = some x6 := rfl
      repeat' array_mem_dec
      refine ifN (by rfl) ?_
      repeat' array_mem_dec
      refine ifN (by rfl) ?_
      repeat' array_mem_dec
      refine ifN (by rfl) ?_
      repeat' array_mem_dec
      refine ifN (by rfl) ?_
      repeat' array_mem_dec
      refine ifP (by rfl) ?_
      repeat' array_mem_dec
      --A7
      exact fin rfl
    | 8, _, [x0, x1, x2, x3, x4, x5, x6, x7], _ =>
      have i0 : atI ([x0, x1, x2, x3, x4, x5, x6, x7] : List V) 0 = some x0 := rfl
      have i1 : atI ([x0, x1, x2, x3, x4, x5, x6, x7] : List V) 1 = some x1 := rfl
      have i2 : atI ([x0, x1, x2, x3, x4, x5, x6, x7] : List V) 2 = some x2 := rfl
      have i3 : atI ([x0, x1, x2, x3, x4, x5, x6, x7] : List V) 3 = some x3 := rfl
      have i4 : atI ([x0, x1, x2, x3, x4, x5, x6, x7] : List V) 4 = some x4 := rfl
      have i5 : atI ([x0, x1, x2, x3, x4, x5, x6, x7] : List V) 5 = some x5 := rfl
      have i6 : atI ([x0, x1, x2, x3, x4, x5, x6, x7] : List V) 6 = some x6 := rfl
      have i7 : atI ([x0, x1, x2, x3, x4, x5, x6, x7] : List V) 7 = some x7 := rfl
      repeat' array_mem_dec
      refine ifN (by rfl) ?_
      repeat' array_mem_dec
      refine ifN (by rfl) ?_
      repeat' array_mem_dec
      refine ifN (by rfl) ?_
      repeat' array_mem_dec
      refine ifN (by rfl) ?_
      repeat' array_mem_dec
      refine ifN (by rfl) ?_
      repeat' array_mem_dec
      --A8
      exact fin rfl
end
end K12
namespace K12
open PySem PySem.Spec PyProof.Rows L2 EM
def lamN (q : Str) : Str := q ++ ".<locals>." ++ "<lambda>"
def tabs (K : PySem.W.Frag) : List (Addr × Str) := [(tA K (He.ga K "_law_right"), lamN "_law_right"), (tA K (He.ga K "law"), lamN "law")]
theorem tabs_u {K : PySem.W.Frag} {mg : Str → Option Value} (T : Tx K mg) (q : Addr × Str) (hq : q ∈ tabs K) : ∀ p ∈ tabs K, p.1 = q.1 → p.2 = q.2 := by
  intro p hp e
  have n := T.tn_law_right_law
  simp only [tabs, List.mem_cons, List.not_mem_nil, or_false] at hp hq
  rcases hp with rfl | rfl <;> rcases hq with rfl | rfl
  · rfl
  · exact absurd e n
  · exact absurd e.symm n
  · rfl
structure LenR (K : PySem.W.Frag) (xs : List V) (H : Hp) (Q : VK) : Prop where
  h : ∃ p r q es, xs = [.ref r] ∧ RdP K p H r q es ∧ es.length < 1000000 ∧ Q (.int es.length) H
theorem lenR {K : PySem.W.Frag} {p r q : Addr} {es : List (Int × Int)} {H : Hp} {Q : VK} (h : RdP K p H r q es) (hl : es.length < 1000000) (k : Q (.int es.length) H) : LenR K [.ref r] H Q := ⟨p, r, q, es, rfl, h, hl, k⟩
theorem call_lenR {K : PySem.W.Frag} {mg : Str → Option Value} (T : Tx K mg) {X : Cx} (hr : Room 2 X.A) (e1 : X.K = K := by rfl) (e2 : X.mg = mg := by rfl) : CallR X (.builtin "len") (LenR K) := by
  subst e1 e2
  refine callR_of (call_lenO (E := E0) T.m_Reading_len.at_ T.m_Reading_len.fn (ok_Reading_len (P := X.prog) (w := X.w) (base := X.base) T) hr passL) fun xs H Q ⟨⟨p, r, q, es, e, m, hl, k⟩⟩ => ?_
  subst e
  obtain ⟨dx, a⟩ := m.at_
  exact ⟨r, dx, _, rfl, a.at_, p, r, q, es, rfl, m, _, rfl, hl, k⟩
def spRight (K : PySem.W.Frag) : Sp := fun vs H Q _ => ∃ (p l r R q : Addr) (n : Nat) (zs : List V) (es : List (Int × Int)), vs = [.ref r, .ref R] ∧ Bs (tabs K) p l n H ∧ RdP K p H r q es ∧ At p H R (.lst zs) ∧ PairsP p H zs es ∧ (∀ e ∈ es, Bt 1900 e.1 ∧ Bt 1900 e.2) ∧ es.length ≤ 128 ∧
  ∀ H', Ext p H H' → Bs (tabs K) p l n H' → Q (.bl true) H'
theorem right_bs {K : PySem.W.Frag} {p l r R q : Addr} {n : Nat} {zs : List V} {es : List (Int × Int)} {H : Hp} {Q : VK} {E : XK} (B : Bs (tabs K) p l n H) (h : RdP K p H r q es) (a : At p H R (.lst zs)) (pp : PairsP p H zs es) (b : ∀ e ∈ es, Bt 1900 e.1 ∧ Bt 1900 e.2) (hl : es.length ≤ 128) (k : ∀ H', Ext p H H' → Bs (tabs K) p l n H' → Q (.bl true) H') : Sw (spRight K) [.ref r, .ref R] H Q E := ⟨⟨p, l, r, R, q, n, zs, es, rfl, B, h, a, pp, b, hl, k⟩⟩
structure IxG (K : PySem.W.Frag) (E : XK) (x y : V) (H : Hp) (Q : VK) : Prop where
  h : spGetR K [x, y] H Q E
theorem pe_ixG {K : PySem.W.Frag} {mg : Str → Option Value} (T : Tx K mg) {X : Cx} {E : XK} {a b : Expr} {ta tb : TE} {pos : Pos} (hr : Room 7 X.A) (hx : Passes (L2.CX X.prog X.w) X E) (ha : PE X a ta) (hb : PE X b tb) (hsl : ∀ o i, subscripted b true o i = runValue (.builtin "lifetime.subscript" ⟨[o, i], []⟩) := by exact fun _ _ => rfl) (e1 : X.K = K := by rfl) (e2 : X.mg = mg := by rfl) : PE X (.Subscript a b pos) (tOp (IxG K E) ta tb) := by
  subst e1 e2
  exact (pe_ixO (E := E) T.m_Reading_getitem.at_ T.fi_Reading_getitem T.m_Reading_getitem.fn (ok_Reading_getitem T) (hr.mono (by decide)) hx ha.mc hb.mc hsl).of fun σ H Q q => ⟨_, q, fun x H1 z => ⟨_, z, fun y H2 ⟨h⟩ => by
    obtain ⟨T0, p, l, r, q, n, v, es, e, B0, m, h'⟩ := id h
    cases e
    obtain ⟨dx, a⟩ := m.at_
    exact ⟨r, dx, _, rfl, a.at_, h⟩⟩⟩
theorem ixg_i {K : PySem.W.Frag} {E : XK} {T : List (Addr × Str)} {p l r q : Addr} {n : Nat} {H : Hp} {es : List (Int × Int)} {Q : VK} {z : Int} {e : Int × Int} (i : Nat) (B : Bs T p l n H) (m : RdP K p H r q es) (hl : es.length ≤ 128) (hz : z = i) (he : es[i]? = some e) (k : ∀ c, RatP K p H c e.1 e.2 → Q (.ref c) H) : IxG K E (.ref r) (.int z) H Q := by
  subst hz
  exact ⟨⟨T, p, l, r, q, n, _, es, rfl, B, m, hl, .inl ⟨i, e, rfl, he, k⟩⟩⟩
theorem pe_mkR1 {K : PySem.W.Frag} {mg : Str → Option Value} (T : Tx K mg) {X : Cx} (hr : Room 3 X.A) {e1 : Expr} {es : List Expr} {ta : TA} {p pos : Pos} (ha : PA X (e1 :: es) ta) (hg : Gl X "Ratio" := by rfl) (he : starEach (e1 :: es) X.env = (false, eval e1 X.env) :: starEach es X.env := by rfl) (hpl : (backTo pos (starEach es X.env)).any (·.1) = false := by rfl) (eK : X.K = K := by rfl) (eM : X.mg = mg := by rfl) :
    PE X (.Call (.Name "Ratio" p) (e1 :: es) [] pos) (tCR (Sw (spMkN1 K)) E0 ta) := by
  subst eK eM
  exact (EM.pe_mkR (E := E0) T.mk_Ratio (ok_Ratio1 T) hr T.g_Ratio passL ha.mc hg (by decide) he hpl).of fun σ H Q q => ⟨_, q, fun vs H1 ⟨⟨t, e, k⟩⟩ x dx hx hdx ndx => by
    subst e
    exact mk_Rat (by decide) (by decide) k x dx hx hdx ndx⟩
local macro_rules | `(tactic| sizeOf_list_dec) => `(tactic| first
  | with_reducible assumption
  | ((with_reducible apply EM.At.ext); (focus (with_reducible assumption)); (focus sizeOf_list_dec))
  | ((with_reducible apply EM.RatP.ext); (focus (with_reducible assumption)); (focus sizeOf_list_dec))
  | ((with_reducible apply EM.NumP.ext); (focus (with_reducible assumption)); (focus sizeOf_list_dec))
  | (with_reducible exact EM.Ext.refl)
  | ((with_reducible apply EM.Ext.back); (focus (with_reducible assumption)); (focus sizeOf_list_dec))
  | exact EM.NumP.int _
  | ((with_reducible apply EM.Mu.at_k); (focus (with_reducible assumption)); (focus sizeOf_list_dec); (focus sizeOf_list_dec); (focus (intro _ z; cases z; done)))
  | ((with_reducible apply EM.Mu.at_n); (focus (with_reducible assumption)); (focus sizeOf_list_dec); (focus (first | with_reducible assumption | ((apply EM.nn1); (focus (with_reducible assumption)); (focus sizeOf_list_dec)) | ((apply EM.nn2); (focus (with_reducible assumption)); (focus sizeOf_list_dec)))))
  | ((with_reducible apply EM.Mu.here); (focus (with_reducible assumption)); (focus sizeOf_list_dec))
  | ((with_reducible apply EM.Mu.rat); (focus (with_reducible assumption)); (focus sizeOf_list_dec); (focus sizeOf_list_dec))
  | ((with_reducible apply EM.Mu.num); (focus (with_reducible assumption)); (focus sizeOf_list_dec); (focus sizeOf_list_dec))
  | ((with_reducible apply EM.num_of_rat); (focus sizeOf_list_dec); (focus (first | with_reducible assumption | (apply EM.n_low; assumption))))
  | ((with_reducible apply EM.RatsP.xt); (focus (with_reducible assumption)); (focus sizeOf_list_dec))
  | ((with_reducible apply EM.NumsP.xt); (focus (with_reducible assumption)); (focus sizeOf_list_dec))
  | ((with_reducible apply EM.PairsP.xt); (focus (with_reducible assumption)); (focus sizeOf_list_dec))
  | ((with_reducible apply EM.RdP.xt); (focus (with_reducible assumption)); (focus sizeOf_list_dec))
  | ((with_reducible apply EM.Mu.rats); (focus (with_reducible assumption)); (focus sizeOf_list_dec); (focus sizeOf_list_dec))
  | ((with_reducible apply EM.Mu.pairs); (focus (with_reducible assumption)); (focus sizeOf_list_dec); (focus sizeOf_list_dec))
  | ((with_reducible apply EM.Mu.rdp); (focus (with_reducible assumption)); (focus sizeOf_list_dec); (focus sizeOf_list_dec)))
local macro_rules | `(tactic| decreasing_trivial_pre_omega) => `(tactic| first
  | with_reducible assumption
  | exact EM.Bt.mono (by with_reducible assumption) (by decide)
  | exact EM.Bt.lit _ _ (by decide +kernel)
  | ((with_reducible refine EM.Bt.rng32 ?_ ?_) <;> omega)
  | ((with_reducible refine EM.Bt.rng70 ?_ ?_) <;> omega)
  | ((with_reducible refine EM.Bt.rng200 ?_ ?_) <;> omega)
  | ((with_reducible apply EM.Bt.mulM); (focus decreasing_trivial_pre_omega); (focus decreasing_trivial_pre_omega); (focus (first | decide | exact Nat.le_refl _)))
  | ((with_reducible apply EM.Bt.addM); (focus decreasing_trivial_pre_omega); (focus decreasing_trivial_pre_omega); (focus (first | decide | exact Nat.le_refl _)))
  | ((with_reducible apply EM.Bt.subM); (focus decreasing_trivial_pre_omega); (focus decreasing_trivial_pre_omega); (focus (first | decide | exact Nat.le_refl _)))
  | ((with_reducible apply EM.Bt.topL); (focus decreasing_trivial_pre_omega); (focus assumption); (focus (first | decide | exact Nat.le_refl _)))
  | ((with_reducible apply EM.Bt.botL); (focus decreasing_trivial_pre_omega); (focus assumption); (focus (first | decide | exact Nat.le_refl _)))
  | ((with_reducible apply EM.Bt.divM); (focus decreasing_trivial_pre_omega); (focus assumption); (focus (first | decide | exact Nat.le_refl _)))
  | ((with_reducible apply EM.Bt.negM); (focus decreasing_trivial_pre_omega); (focus (first | decide | exact Nat.le_refl _))))
local macro_rules | `(tactic| array_get_dec) => `(tactic| first
  | with_reducible assumption
  | ((with_reducible refine EM.gEq ?_); exact rfl)
  | ((with_reducible refine EM.gTru ?_); exact rfl)
  | ((with_reducible refine EM.gRef ?_); first | exact Or.inl ⟨_, rfl⟩ | exact Or.inr ⟨_, rfl⟩)
  | ((with_reducible apply EM.At.get); sizeOf_list_dec)
  | ((with_reducible apply EM.At.sqL); sizeOf_list_dec)
  | ((with_reducible apply EM.At.sqT); sizeOf_list_dec)
  | ((with_reducible apply EM.RatP.getK); (focus sizeOf_list_dec); (focus (exact rfl)))
  | (with_reducible exact EM.Num.int _)
  | ((with_reducible apply EM.NumP.getK); (focus sizeOf_list_dec); (focus (exact rfl)))
  | ((with_reducible apply EM.At.ext); (focus (with_reducible assumption)); (focus sizeOf_list_dec))
  | ((with_reducible apply EM.RatP.ext); (focus (with_reducible assumption)); (focus sizeOf_list_dec))
  | ((with_reducible apply EM.NumP.ext); (focus (with_reducible assumption)); (focus sizeOf_list_dec))
  | with_reducible exact Tx.cl_Ratio (by assumption)
  | with_reducible exact Tx.cl_Reading (by assumption)
  | with_reducible exact Tx.na_Ratio_top (by assumption)
  | with_reducible exact Tx.na_Ratio_bottom (by assumption)
  | with_reducible exact Tx.na_Reading_own_edges (by assumption)
  | ((with_reducible refine EM.gAt ?_); sizeOf_list_dec)
  | ((with_reducible refine EM.gRat ?_); sizeOf_list_dec)
  | ((with_reducible refine EM.gNum ?_); sizeOf_list_dec)
  | ((with_reducible apply EM.TwoP.mk); (focus (with_reducible assumption)); (focus sizeOf_list_dec); (focus (first | with_reducible assumption | (apply EM.n_low; assumption))); (focus sizeOf_list_dec); (focus decreasing_trivial_pre_omega); (focus decreasing_trivial_pre_omega); (focus decreasing_trivial_pre_omega); (focus decreasing_trivial_pre_omega))
  | (with_reducible exact EM.Ext.refl)
  | ((with_reducible apply EM.Ext.back); (focus (with_reducible assumption)); (focus sizeOf_list_dec))
  | ((with_reducible apply EM.Bs.mono); (focus (with_reducible assumption)); omega)
  | ((with_reducible refine EM.gN ?_); first | decide | omega | exact Nat.le_of_ble_eq_true rfl | (simp only [List.length_cons, List.length_nil, List.length_append]; omega))
  | ((with_reducible refine EM.gM ?_); first | decide | omega | exact Nat.le_of_ble_eq_true rfl)
  | ((with_reducible refine EM.gI ?_); first | decide | omega)
  | ((with_reducible refine EM.gJ ?_); first | decide | omega)
  | ((with_reducible refine EM.gE ?_); first | decide | omega)
  | ((with_reducible refine EM.gB ?_); decreasing_trivial_pre_omega)
  | ((with_reducible apply EM.wideM); (focus decreasing_trivial_pre_omega); (focus decreasing_trivial_pre_omega); (focus decide)))
local macro_rules | `(tactic| infer_instance) => `(tactic| first
  | with_reducible assumption
  | exact DpAll.nil
  | (apply DpAll.cons; (focus infer_instance); (focus infer_instance))
  | with_reducible exact Dp.int _
  | exact Dp.int _
  | with_reducible exact Dp.str _
  | exact Dp.bl _
  | exact Dp.non
  | ((with_reducible apply EM.dp_lst); (focus array_get_dec); (focus infer_instance))
  | ((with_reducible apply EM.dp_tup); (focus array_get_dec); (focus infer_instance))
  | exact EM.dp_ints _)
local macro_rules | `(tactic| nofun) => `(tactic| first
  | with_reducible assumption
  | exact EM.FeL.nil
  | exact EM.FdL.nil
  | (apply EM.FeL.cons; (focus nofun); (focus nofun))
  | (apply EM.FdL.cons; (focus nofun); (focus nofun))
  | exact EM.Fe.int _
  | exact EM.Fe.bool _
  | exact EM.Fe.non
  | exact EM.Fe.str (EM.okS_of _)
  | (apply EM.Fe.str; apply EM.Fd.ok; (focus nofun))
  | (apply EM.Fe.list; (focus nofun))
  | (apply EM.Fe.tup; (focus nofun))
  | (apply EM.Fd.int; (focus decreasing_trivial_pre_omega))
  | exact EM.Fd.bool _
  | exact EM.Fd.non
  | (refine EM.Fd.bool _)
  | (apply EM.Fd.list; (focus nofun))
  | (apply EM.Fd.tup; (focus nofun)))
local macro_rules | `(tactic| array_mem_dec) => `(tactic| ((with_reducible refine EM.pr ?_); first
  | (with_reducible refine L2.iteT ?_)
  | (with_reducible refine L2.iteF ?_)
  | (with_reducible refine EM.ifNotT ?_)
  | (with_reducible refine EM.ifNotF ?_)
  | ((fail_if_success (with_reducible refine EM.gIf ?_)); first
  | array_get_dec
  | (refine EM.mk_low (by with_reducible assumption) (by with_reducible assumption) ?_ ?_; (focus array_get_dec))
  | (apply EM.isNum_sw; (focus sizeOf_list_dec))
  | (apply EM.of_sw; (focus (with_reducible assumption)); (focus sizeOf_list_dec))
  | (apply EM.neg_bs; (focus (with_reducible assumption)); (focus sizeOf_list_dec); (focus array_get_dec); (focus array_get_dec))
  | (apply EM.relw_bs; (focus (with_reducible assumption)); (focus sizeOf_list_dec); (focus sizeOf_list_dec); (focus array_get_dec); (focus decreasing_trivial_pre_omega); (focus decreasing_trivial_pre_omega); (focus decreasing_trivial_pre_omega); (focus decreasing_trivial_pre_omega))
  | ((apply EM.DnS.bs); (focus (with_reducible assumption)); (focus (intro _ z; cases z; done)))
  | ((apply EM.seqL); (focus sizeOf_list_dec))
  | ((apply EM.seqT); (focus sizeOf_list_dec))
  | ((apply EM.lenL); (focus sizeOf_list_dec))
  | ((apply EM.lenT); (focus sizeOf_list_dec))
  | ((apply EM.isSeqL); (focus sizeOf_list_dec); (focus sizeOf_list_dec))
  | ((apply EM.isSeqT); (focus sizeOf_list_dec); (focus sizeOf_list_dec))
  | ((apply EM.tupL); (focus sizeOf_list_dec))
  | ((apply EM.fld_bs); (focus sizeOf_list_dec); (focus (exact Tx.cl_Reading (by assumption))); (focus (exact Tx.na_Reading_own_edges (by assumption))); (focus (exact rfl)))
  | ((apply EM.rdg_bs); (focus sizeOf_list_dec))
  | ((apply lenR); (focus sizeOf_list_dec); (focus omega))
  | ((apply EM.mk1_bs); (focus (with_reducible assumption)))
  | (with_reducible apply EM.NeS.mk')
  | ((with_reducible refine EM.New.bs (by with_reducible assumption) ?_ ?_); (focus (intro _ z; cases z; done)))
  | ((with_reducible refine EM.gMu ?_); (with_reducible apply EM.mu_bs); (focus (with_reducible assumption)); (focus sizeOf_list_dec); (focus (apply EM.nel2; (focus (with_reducible assumption)); (focus (with_reducible assumption)))); intro _ _ _)
  | intro _
  | (apply And.intro; (focus array_get_dec))
  | apply Exists.intro
  | (refine EM.draw_bs (by with_reducible assumption) ?_ ?_ ?_ ?_; (focus array_get_dec); (focus array_get_dec); (focus (first | decide | omega)))
  | (apply EM.pick_bs; (focus (with_reducible assumption)); (focus array_get_dec); (focus sizeOf_list_dec); (focus (exact Nat.le_of_ble_eq_true rfl)); (focus (exact Nat.le_of_ble_eq_true rfl)))
  | ((apply EM.repr_sw); (focus infer_instance); (focus nofun); (focus decide))
  | ((apply EM.eqd_same); (focus infer_instance); (focus infer_instance); (focus nofun); (focus decide))
  | ((apply EM.ned_same); (focus infer_instance); (focus infer_instance); (focus nofun); (focus decide))
  | ((apply EM.eqd_sw); (focus infer_instance); (focus infer_instance); (focus nofun); (focus nofun); (focus decide))
  | ((apply EM.ned_sw); (focus infer_instance); (focus infer_instance); (focus nofun); (focus nofun); (focus decide))
  | (refine EM.cut_bs (by with_reducible assumption) ?_ ?_ ?_; (focus array_get_dec); (focus array_get_dec)))))
section
variable {P : Program} {w : World} {K : PySem.W.Frag} {mg : Str → Option Value} {base : Heap}
theorem ok_Lright (T : Tx K mg) (TB : ∀ p ∈ cs K, LamX.TabB base mg p.1 p.2) : FnG P w K mg base (L2.CX P w) 12 (He.ga K "_law_right") (spRight K) := by
  obtain ⟨fd, F⟩ := T.d_Lright
  refine EM.fngC F sc_Lright (fun _ _ _ _ _ _ us hl => match us, hl with | [_, _], _ => rfl) (fun vs H Q E h => ?_) (fun A outer s H vs Q E hr hG h => ?_)
  · obtain ⟨p, l, r, R, q, n, zs, es, rfl, _⟩ := h
    rfl
  · obtain ⟨p, l, r, R, q, n, zs, es, rfl, B0, rd, aR, pp, hb, hl, k⟩ := h
    have hu70 : (A.deeper (envOfC "_law_right" (defScope s_Lright) s.heap.objs.size (He.ga K "_law_right") (codeV K (He.ga K "_law_right")))).units + 70 < cLine := by have := hr.un; omega
    obtain ⟨fdh, Fh⟩ := T.d_Lheard
    have TBm : LamX.TabB base mg (cA K (He.ga K "_law_right")) (tA K (He.ga K "_law_right")) := TB _ (.head _)
    have hcode : codeV K (He.ga K "_law_right") = .ref (cA K (He.ga K "_law_right")) := T.t_Lright.code
    have hz := pp.len
    obtain ⟨dx, xs, m1, m2, m3⟩ := id rd
    refine ⟨_, (PSs.nox (pss_cons (ps_if (PW.pt (pw_or (pt_not (pt_val (pe_callB call_isi (by rfl) T.f_isinstance (by decide +kernel) (pa_cons (pv 0) (pa_cons (pe_glob (v := .ref (He.ga K "Reading")) (by rfl) T.g_Reading rfl) pa_nil))))) (pw_or (pt_not (pt_val (EM.pe_cG ((ok_Lare T).sw) (hr.mono (by decide)) hG T.k__law_are T.g__law_are passL (pa_cons (pe_redges T (hr.mono (by decide)) (pv 0)) (pa_cons (pv 1) pa_nil))))) (pw_or1 (pt_cmpR op_neS (pe_callB (callR_sw (EM.call_reprD hG hu70)) (by rfl) T.f_repr (by decide +kernel) (pa_cons (pe_callB (call_lenR T (hr.mono (by decide))) (by rfl) T.f_len boot_len (pa_cons (pv 0) pa_nil)) pa_nil)) (pe_callB (callR_sw (EM.call_reprD hG hu70)) (by rfl) T.f_repr (by decide +kernel) (pa_cons (pe_callB EM.call_lenN (by rfl) T.f_len boot_len (pa_cons (pv 1) pa_nil)) pa_nil)) (nomark _))))))
  (pss_one (ps_ret pe_bl)) pss_nil)
 (pss_cons (ps_if (pt_not (pt_val (EM.pe_cG ((ok_Lare T).sw) (hr.mono (by decide)) hG T.k__law_are T.g__law_are passL (pa_cons (pe_callTy EM.call_tupN (by rfl) T.f_tuple (by decide +kernel) (pa_cons (EM.lcN (pe_lc (own := [("_law_at", 2)]) (g := gName 2) (te := mcE (tOp (IxG K E0) (tVar 0) (tVar 2))) rfl sc_Lright.nd (pi_range1 (by rfl) T.f_range (pa_cons (pe_callB EM.call_lenN (by rfl) T.f_len boot_len (pa_cons (pv 1) pa_nil)) pa_nil)).mc (blkOk_by (N := ["_law_reading", "_law_row_here", "_law_at", "_law_odd"]) (sc := defScope s_Lright) (by decide +kernel)) (fun _ _ _ _ _ => (pg_name (i := 2) sc_Lright.nd rfl (Or.inl rfl))) (fun _ _ _ _ _ => pts_nil) (fun _ _ _ _ _ => (PE.mc (pe_ixG (E := E0) T (hr.mono (by decide)) passL (pv 0) (pv 2)))))) pa_nil)) (pa_cons (pv 1) pa_nil)))))
  (pss_one (ps_ret pe_bl)) pss_nil)
 (pss_cons (EM.forN (ps_for PassesOwn.never rfl (EM.pi_seqN (EM.pe_lstN (pa_cons (pe_un un_neg pe_int) (pa_cons (pe_callB EM.call_lenN (by rfl) T.f_len boot_len (pa_cons (pv 1) pa_nil)) (pa_cons pe_non (pa_cons pe_bl (pa_cons pe_bl (pa_cons pe_str (pa_cons (EM.pe_tupN (pa_cons pe_int pa_nil)) (pa_cons (EM.pe_lstN (pa_cons pe_int pa_nil)) (pa_cons (pe_op (EM.op_powV 10 40 10000000000000000000000000000000000000000 ⟨by decide, by decide, by decide⟩ (by decide +kernel)) pe_int pe_int) (pa_cons (pe_op op_sub pe_int (pe_op (EM.op_powV 10 40 10000000000000000000000000000000000000000 ⟨by decide, by decide, by decide⟩ (by decide +kernel)) pe_int pe_int)) (pa_cons (pe_mkR1 T (hr.mono (by decide)) (pa_cons pe_int pa_nil)) (pa_cons (pe_mkN_ T (hr.mono (by decide)) (pa_cons pe_int (pa_cons pe_int pa_nil))) pa_nil)))))))))))))).mc (pg_name (i := 3) sc_Lright.nd rfl (Or.inr rfl))
  (pss_one (ps_if (pt_cmpR op_neS (pe_callB (call_sh T hG (hr.mono (by decide)) hu70) (by rfl) T.f_repr (by decide +kernel) (pa_cons (EM.pe_lamG (T := tabs K) (TT := TTh K) (t := fun E => tOp (IxG K E) (tVar 0) (tVar 3)) (c := cA K (He.ga K "_law_right")) (P := tA K (He.ga K "_law_right")) (k := 8) Fh T.g__law_heard (fun _ _ _ _ _ _ us hl => match us, hl with | [_], _ => rfl) sc_Lheard rfl (Or.inl rfl) hG (gives_heard T _) TBm hcode (by exact .head _) (tabs_u T (tA K (He.ga K "_law_right"), lamN "_law_right") (.head _)) (hr.mono (by decide)) (LamX.lamS_by (sc := defScope s_Lright) (by decide +kernel)) rfl (fun _ _ _ _ _ => rfl) (fun A outer s H E f c2 hr2 hG2 => (pe_ixG T (hr2.mono (by decide)) (passes_call (takes_of (E := E) rfl rfl rfl rfl) (fun _ _ _ _ h => h)) (pv 0) (pv 3)))) pa_nil)) (pe_callB (call_sh T hG (hr.mono (by decide)) hu70) (by rfl) T.f_repr (by decide +kernel) (pa_cons (EM.pe_tupN (pa_cons pe_str (pa_cons (pv 3) pa_nil))) pa_nil)) (nomark _))
  (pss_one (ps_ret pe_bl)) pss_nil))))
 (pss_one (ps_ret pe_bl)))))), ?_⟩
    refine ⟨_, rfl, .ref r, .ref (He.ga K "Reading"), _, _, true, rfl, .own _, isiB_ty T.isi_Reading T.cl_Reading m1.at_, kSelf, true, rfl, EM.ifNotT ?_⟩
    repeat' array_mem_dec
    --R1
    refine ⟨⟨tabs K, p, l, q, R, n, xs, zs, es, rfl, B0, m2, m3, aR, pp, hb, by omega, fun H1 x1 B1 => ?_⟩⟩
    have rd1 := rd.ext x1
    have aR1 := aR.ext x1
    have pp1 := pp.ext x1
    have bl : Bt 1900 (es.length : Int) := (Bt.rng32 (by omega) (by omega)).mono (by decide)
    have bl2 : Bt 1900 (zs.length : Int) := by rw [hz]; exact bl
    clear m1 m2 m3
    repeat' array_mem_dec
    --R2
    rw [hz]
    repeat' array_mem_dec
    --R3
    refine LcS.lc 0 walk_range B1 (fun j y H' => Hold (∃ e a, es[j]? = some e ∧ y = .ref a ∧ RatP K p H' a e.1 e.2)) (by omega) (fun _ _ => trivial) ?_ ?_ (fun j y Ha Hb ⟨⟨e, a, e1, e2, e3⟩⟩ x => ⟨⟨e, a, e1, e2, e3.ext x⟩⟩) (fun j y D xs ys Ha Hb ⟨⟨e, a, e1, e2, e3⟩⟩ m g => ⟨⟨e, a, e1, e2, m.rat e3 g⟩⟩)
    · rintro j y K2 K3 hk y2 C2 ⟨rfl, rfl⟩
      obtain ⟨e, ee⟩ : ∃ e, es[j]? = some e := ⟨_, List.getElem?_eq_getElem (by omega)⟩
      repeat' array_mem_dec
      refine ixg_i j C2 (rd1.ext y2) hl (by omega) ee fun c rc => ?_
      exact ⟨Ext.refl, C2.mono (by omega), ⟨⟨e, c, ee, rfl, rc⟩⟩⟩
    rintro D ys H2 hD hyl hf x2 B2' aD
    have rats : RatsP K p H2 ys es := ⟨by omega, fun j x t e1 e2 => by
      obtain ⟨⟨e, a, e3, e4, nv⟩⟩ := hf j x e1
      rw [e2] at e3
      cases e3
      exact ⟨a, e4, nv⟩⟩
    have B2 : Bs (tabs K) p l n H2 := B2'.mono (by omega)
    have rd2 := rd1.ext x2
    have aR2 := aR1.ext x2
    have pp2 := pp1.ext x2
    clear hf B2' rd1 aR1 pp1
    repeat' array_mem_dec
    --R4
    rename_i qt H3 x3 B3 a3 n3
    refine ⟨⟨tabs K, p, l, qt, R, n, ys, zs, es, rfl, B3, a3, rats.ext x3, aR2.ext x3, pp2.ext x3, hb, by omega, fun H4 x4 B4 => ?_⟩⟩
    have x24 := x3.trans x4
    have rd4 := rd2.ext x24
    have x04 := x1.trans (x2.trans x24)
    have aR4 := aR2.ext x24
    clear rats rd2 aR2 pp2 a3 n3 x3 x4 x24 B3 B2
    repeat' array_mem_dec
    --R5
    rename_i q6 H6 x6 B6 a6 n6 q7 H7 x7 B7 a7 n7 rr H8 x8 B8 r8
    refine mk_bs (t := 1) (b := 2) B8 (by decide) (Bt.lit _ _ (by decide +kernel)) fun rs H9 x9 B9 r9 => ?_
    repeat' array_mem_dec
    --R6
    rename_i qz HZ xZ BZ aZ nZ J wk
    have c6 : At p HZ q6 (.tup [.int 0]) := ((((a6.ext x7).ext x8).ext x9).ext xZ)
    have c7 : At p HZ q7 (.lst [.int 0]) := (((a7.ext x8).ext x9).ext xZ)
    have cr : RatP K p HZ rr 0 1 := (r8.ext x9).ext xZ
    have cs : RatP K p HZ rs 1 2 := r9.ext xZ
    have rdZ : RdP K p HZ r q es := rd4.ext (x6.trans (x7.trans (x8.trans (x9.trans xZ))))
    have x0Z : Ext p H HZ := x04.trans (x6.trans (x7.trans (x8.trans (x9.trans xZ))))
    have big : Bt 1900 (10000000000000000000000000000000000000000 : Int) := Bt.lit _ _ (by decide +kernel)
    have odds : ∀ v ∈ [V.int (-1), .int zs.length, .non, .bl true, .bl false, .str "0", .ref q6, .ref q7, .int 10000000000000000000000000000000000000000, .int (0 - 10000000000000000000000000000000000000000), .ref rr, .ref rs], ∀ H', Ext p HZ H' → NoIxR K p H' es.length v ∧ ∃ t, ShV K p H' "edge" v t := fun v hv H' xx => by
      simp only [List.mem_cons, List.not_mem_nil, or_false] at hv
      rcases hv with rfl | rfl | rfl | rfl | rfl | rfl | rfl | rfl | rfl | rfl | rfl | rfl
      · exact ⟨.inl ⟨_, rfl, by omega⟩, _, .int (Bt.lit _ _ (by decide +kernel))⟩
      · exact ⟨.inl ⟨_, rfl, by omega⟩, _, .int bl2⟩
      · exact ⟨.inr (.inl odd_non), _, .non⟩
      · exact ⟨.inr (.inl odd_bl), _, .bl⟩
      · exact ⟨.inr (.inl odd_bl), _, .bl⟩
      · exact ⟨.inr (.inl odd_str), _, .str zero_fd⟩
      · exact ⟨.inr (.inl (odd_tup (c6.ext xx))), _, .tup (c6.ext xx)⟩
      · exact ⟨.inr (.inl (odd_lst (c7.ext xx))), _, .lst (c7.ext xx)⟩
      · exact ⟨.inl ⟨_, rfl, by omega⟩, _, .int big⟩
      · exact ⟨.inl ⟨_, rfl, by omega⟩, _, .int (Bt.lit _ _ (by decide +kernel))⟩
      · exact ⟨.inr (.inr ⟨rr, _, _, rfl, cr.ext xx⟩), _, .rat (cr.ext xx) (Bt.lit _ _ (by decide +kernel)) (Bt.lit _ _ (by decide +kernel))⟩
      · exact ⟨.inr (.inr ⟨rs, _, _, rfl, cs.ext xx⟩), _, .rat (cs.ext xx) (Bt.lit _ _ (by decide +kernel)) (Bt.lit _ _ (by decide +kernel))⟩
    clear c6 c7 cr cs x6 x7 x8 x9 xZ a6 a7 r8 r9 n6 n7 B6 B7 B8 B9 rd4 aR4 x04 B4 nZ
    refine FoS.it wk (fun i σ H4 => Hold (∃ w3 : Option V, σ = [some (.ref r), some (.ref R), none, w3] ∧ Ext p HZ H4 ∧ Bs (tabs K) p l n H4)) ⟨⟨_, rfl, Ext.refl, BZ⟩⟩ (fun i σ H4 _ ⟨⟨_, _, x, _⟩⟩ => aZ.eq x) ?_ ?_
    · rintro i y σ H4 H5 hi ⟨⟨w3, rfl, x4, B4⟩⟩ ⟨rfl, hv⟩
      have od := odds y (List.mem_of_getElem? hv)
      clear hv odds aZ BZ wk
      repeat' array_mem_dec
      --P1
      refine ⟨B4.tab, fun H7 e7 t7 => ?_⟩
      have x7 : EM.Ext p _ H7 := EM.Ext.extN e7
      have B7 := B4.ext e7 t7
      intro E' hE
      repeat' array_mem_dec
      --P2
      obtain ⟨nx, _⟩ := od _ (x4.trans x7)
      refine ⟨⟨tabs K, p, l, r, q, _, y, es, rfl, B7, rdZ.ext (x4.trans x7), hl, .inr ⟨nx, fun d H8 x8 B8 a8 => hE _ _ _ ⟨⟨tabs K, p, l, _, "NoEdge", "value", "edge", y, d, rfl, rfl, B8, a8, .inl ⟨rfl, rfl, rfl⟩, fun r9 H9 x9 B9 a9 => ?_⟩⟩⟩⟩⟩
      have x49 := x4.trans (x7.trans (x8.trans x9))
      obtain ⟨_, tsh, sh⟩ := od _ x49
      clear hE e7 t7 x4 x7 x8 x9 a8 B4 B7 B8 nx
      repeat' array_mem_dec
      refine rpe a9 okz_edge sh ?_
      repeat' array_mem_dec
      --P3
      rename_i qa Ha xa Ba aa na
      refine rpe aa okz_edge (sh.ext xa) ?_
      repeat' array_mem_dec
      --P4
      exact ⟨⟨_, rfl, x49.trans xa, Ba⟩⟩
    · rintro σ H4 ⟨⟨w3, rfl, x4, B4⟩⟩
      clear odds aZ BZ wk
      repeat' array_mem_dec
      --P5
      exact k H4 (x0Z.trans x4) B4
end
end K12
namespace K12
open PySem PySem.Spec PyProof.Rows L2 EM
def rLstTN : List V → Hp → VK → Prop := fun vs H Q => ∃ a xs, vs = [.ref a] ∧ H a = some (.tup xs) ∧ DnS (.lst xs) H Q
theorem call_listTN {X : Cx} : CallR X (.type "list") (Sr rLstTN) := callR_sw (callR_of call_list_of fun vs H Q ⟨a, xs, e, h, z⟩ => ⟨a, xs, e, .inr (SqT.of h), New.upd z.h⟩)
theorem lstTT {p a : Addr} {H : Hp} {xs : List V} {Q : VK} (h : At p H a (.tup xs)) (k : DnS (.lst xs) H Q) : Sr rLstTN [.ref a] H Q := ⟨a, xs, rfl, h.at_, k⟩
theorem ofR_bs {K : PySem.W.Frag} {T : List (Addr × Str)} {p l a : Addr} {n : Nat} {c : V} {xs : List V} {es : List (Int × Int)} {H : Hp} {Q : VK} {E : XK} (B : Bs T p l n H) (h : SeqV p H a xs) (g : NumsP K p H xs es) (o : RowOk 2000 es) (hl : okLen es.length)
    (k : ∀ r q H', Ext p H H' → Bs T p l n H' → RdP K p H' r q es → Fresh p H r → Q (.ref r) H') : Sw (spOfR K) [c, .ref a] H Q E := ⟨⟨T, p, l, a, n, c, xs, es, rfl, B, h, g, o, hl, k⟩⟩
abbrev bB : Int × Int := ((-1 : Int), (900000000000000000000000000000000000000000000000000 : Int))
abbrev BD : Nat := D7 * 10 ^ 20
theorem bB_dv : Dv BD 1 bB := ⟨⟨by decide, by decide +kernel⟩, ⟨28, by decide +kernel⟩, by decide +kernel⟩
theorem bB_sc : sc BD bB = -28 := by decide +kernel
theorem BD_pos : 0 < BD := by decide +kernel
theorem BD_bt : BD < 2 ^ 175 := by decide +kernel
theorem sc_scale {D M k : Nat} {e : Int × Int} (h : Dv D M e) : sc (D * k) e = sc D e * k := by
  unfold sc
  rw [Int.natCast_mul, Int.mul_comm (D : Int) k, Int.mul_ediv_assoc _ h.dvd, Int.mul_assoc, Int.mul_comm (k : Int)]
structure RiseQ (es : List (Int × Int)) : Prop where
  dv : ∀ e ∈ es, FrQ 1010 e
  rise : ∀ (i : Nat) e f, es[i]? = some e → es[i + 1]? = some f → e.1 * f.2 < f.1 * e.2
theorem RiseQ.ok {es : List (Int × Int)} (h : RiseQ es) : RowOk 2000 es := ⟨fun e he => (h.dv e he).low, fun e he => (h.dv e he).b2 (by decide), h.rise⟩
theorem RiseQ.up {es : List (Int × Int)} (h : RiseQ es) (e : Int × Int) (he : e ∈ es) : Dv BD 1010 e := Dv.mono (h.dv e he) (Nat.dvd_mul_right ..) (Nat.le_refl _)
theorem RiseQ.bent {es : List (Int × Int)} {j : Nat} {e : Int × Int} (h : RiseQ es) (he : es[j]? = some e) : RowOk 2000 (es.set j (addF bB e)) ∧ es ≠ es.set j (addF bB e) ∧ Low (addF bB e).1 (addF bB e).2 ∧ Bt 1900 (addF bB e).1 ∧ Bt 1900 (addF bB e).2 := by
  have me := List.mem_of_getElem? he
  have ue := h.up e me
  have dn : Dv BD 1011 (addF bB e) := (bB_dv.add ue)
  have sn : sc BD (addF bB e) = sc BD e + -28 := by rw [bB_dv.sc_add ue, bB_sc]
  have bn := dn.bt (k := 175) (m := 12) BD_pos BD_bt (by decide)
  have lj : j < es.length := (List.getElem?_eq_some_iff.mp he).1
  have gap : ∀ a b, a ∈ es → b ∈ es → a.1 * b.2 < b.1 * a.2 → sc BD a + 10 ^ 20 ≤ sc BD b := fun a b ma mb lt => by
    have := (Dv.sc_lt D7_pos (h.dv a ma) (h.dv b mb)).mp lt
    rw [sc_scale (h.dv a ma), sc_scale (h.dv b mb)]
    have h2 : (sc D7 a + 1) * ((10 ^ 20 : Nat) : Int) ≤ sc D7 b * ((10 ^ 20 : Nat) : Int) := Int.mul_le_mul_of_nonneg_right (by omega) (by decide)
    rw [Int.add_mul] at h2
    have h3 : ((10 ^ 20 : Nat) : Int) = (10 : Int) ^ 20 := by decide +kernel
    rw [h3] at h2 ⊢
    omega
  refine ⟨⟨fun x hx => ?_, fun x hx => ?_, fun i a b ha hb => ?_⟩, fun z => ?_, dn.low, bn.1.mono (by decide), bn.2.mono (by decide)⟩
  · rcases List.mem_or_eq_of_mem_set hx with m | rfl
    · exact (h.dv x m).low
    · exact dn.low
  · rcases List.mem_or_eq_of_mem_set hx with m | rfl
    · exact (h.dv x m).b2 (by decide)
    · exact ⟨bn.1.mono (by decide), bn.2.mono (by decide)⟩
  · rw [List.getElem?_set] at ha hb
    by_cases c1 : j = i
    · subst c1
      rw [if_pos rfl, if_pos lj] at ha
      rw [if_neg (by omega)] at hb
      cases ha
      have mb := List.mem_of_getElem? hb
      have g := gap e b me mb (h.rise j e b he hb)
      exact (Dv.sc_lt BD_pos dn (h.up b mb)).mpr (by rw [sn]; omega)
    · rw [if_neg c1] at ha
      by_cases c2 : j = i + 1
      · subst c2
        rw [if_pos rfl, if_pos lj] at hb
        cases hb
        have ma := List.mem_of_getElem? ha
        have g := gap a e ma me (h.rise i a e ha he)
        exact (Dv.sc_lt BD_pos (h.up a ma) dn).mpr (by rw [sn]; omega)
      · rw [if_neg c2] at hb
        exact h.rise i a b ha hb
  · have h1 : (es.set j (addF bB e))[j]? = some e := by rw [← z]; exact he
    rw [List.getElem?_set, if_pos rfl, if_pos lj] at h1
    have h2 : addF bB e = e := Option.some.inj h1
    rw [h2] at sn
    omega
def refAt (zs : List V) (j : Nat) : Addr := match zs[j]? with | some (.ref a) => a | _ => 0
theorem refAt_eq {zs : List V} {j : Nat} {a : Addr} (h : zs[j]? = some (.ref a)) : refAt zs j = a := by
  unfold refAt
  rw [h]
theorem pairs_set {p q : Addr} {H : Hp} {zs : List V} {es : List (Int × Int)} {j : Nat} {e : Int × Int} (h : PairsP p H zs es) (a : At p H q (.tup [.int e.1, .int e.2])) : PairsP p H (zs.set j (.ref q)) (es.set j e) := ⟨by rw [List.length_set, List.length_set]; exact h.len, fun i x t e1 e2 => by
  have hl := h.len
  rw [List.getElem?_set] at e1 e2
  by_cases c : j = i
  · by_cases c2 : j < zs.length
    · rw [if_pos c, if_pos c2] at e1
      rw [if_pos c, if_pos (by omega)] at e2
      cases e1
      cases e2
      exact ⟨q, rfl, a⟩
    · rw [if_pos c, if_neg c2] at e1
      cases e1
  · rw [if_neg c] at e1 e2
    exact h.h i x t e1 e2⟩
def spAlike (K : PySem.W.Frag) : Sp := fun vs H Q _ => ∃ (p l r R q : Addr) (n : Nat) (zs : List V) (es : List (Int × Int)), vs = [.ref p, .ref r, .ref R] ∧ Bs (tabs K) p l n H ∧ n ≤ 700000 ∧ RdP K p H r q es ∧ At p H R (.lst zs) ∧ PairsP p H zs es ∧ RiseQ es ∧ okLen es.length ∧
  ∀ H', Ext p H H' → Bs (tabs K) p l (n + 600) H' → Q (.bl true) H'
theorem alike_bs {K : PySem.W.Frag} {p l r R q : Addr} {n : Nat} {zs : List V} {es : List (Int × Int)} {H : Hp} {Q : VK} {E : XK} (B : Bs (tabs K) p l n H) (hn : n ≤ 700000) (h : RdP K p H r q es) (a : At p H R (.lst zs)) (pp : PairsP p H zs es) (b : RiseQ es) (hl : okLen es.length) (k : ∀ H', Ext p H H' → Bs (tabs K) p l (n + 600) H' → Q (.bl true) H') : Sw (spAlike K) [.ref p, .ref r, .ref R] H Q E := ⟨⟨p, l, r, R, q, n, zs, es, rfl, B, hn, h, a, pp, b, hl, k⟩⟩
local macro_rules | `(tactic| sizeOf_list_dec) => `(tactic| first
  | with_reducible assumption
  | ((with_reducible apply EM.At.ext); (focus (with_reducible assumption)); (focus sizeOf_list_dec))
  | ((with_reducible apply EM.RatP.ext); (focus (with_reducible assumption)); (focus sizeOf_list_dec))
  | ((with_reducible apply EM.NumP.ext); (focus (with_reducible assumption)); (focus sizeOf_list_dec))
  | (with_reducible exact EM.Ext.refl)
  | ((with_reducible apply EM.Ext.back); (focus (with_reducible assumption)); (focus sizeOf_list_dec))
  | exact EM.NumP.int _
  | ((with_reducible apply EM.Mu.at_k); (focus (with_reducible assumption)); (focus sizeOf_list_dec); (focus sizeOf_list_dec); (focus (intro _ z; cases z; done)))
  | ((with_reducible apply EM.Mu.at_n); (focus (with_reducible assumption)); (focus sizeOf_list_dec); (focus (first | with_reducible assumption | ((apply EM.nn1); (focus (with_reducible assumption)); (focus sizeOf_list_dec)) | ((apply EM.nn2); (focus (with_reducible assumption)); (focus sizeOf_list_dec)))))
  | ((with_reducible apply EM.Mu.here); (focus (with_reducible assumption)); (focus sizeOf_list_dec))
  | ((with_reducible apply EM.Mu.rat); (focus (with_reducible assumption)); (focus sizeOf_list_dec); (focus sizeOf_list_dec))
  | ((with_reducible apply EM.Mu.num); (focus (with_reducible assumption)); (focus sizeOf_list_dec); (focus sizeOf_list_dec))
  | ((with_reducible apply EM.num_of_rat); (focus sizeOf_list_dec); (focus (first | with_reducible assumption | (apply EM.n_low; assumption))))
  | ((with_reducible apply EM.RatsP.xt); (focus (with_reducible assumption)); (focus sizeOf_list_dec))
  | ((with_reducible apply EM.NumsP.xt); (focus (with_reducible assumption)); (focus sizeOf_list_dec))
  | ((with_reducible apply EM.PairsP.xt); (focus (with_reducible assumption)); (focus sizeOf_list_dec))
  | ((with_reducible apply EM.RdP.xt); (focus (with_reducible assumption)); (focus sizeOf_list_dec))
  | ((with_reducible apply EM.Mu.rats); (focus (with_reducible assumption)); (focus sizeOf_list_dec); (focus sizeOf_list_dec))
  | ((with_reducible apply EM.Mu.pairs); (focus (with_reducible assumption)); (focus sizeOf_list_dec); (focus sizeOf_list_dec))
  | ((with_reducible apply EM.Mu.rdp); (focus (with_reducible assumption)); (focus sizeOf_list_dec); (focus sizeOf_list_dec)))
local macro_rules | `(tactic| decreasing_trivial_pre_omega) => `(tactic| first
  | with_reducible assumption
  | exact EM.Bt.mono (by with_reducible assumption) (by decide)
  | exact EM.Bt.lit _ _ (by decide +kernel)
  | ((with_reducible refine EM.Bt.rng32 ?_ ?_) <;> omega)
  | ((with_reducible refine EM.Bt.rng70 ?_ ?_) <;> omega)
  | ((with_reducible refine EM.Bt.rng200 ?_ ?_) <;> omega)
  | ((with_reducible apply EM.Bt.mulM); (focus decreasing_trivial_pre_omega); (focus decreasing_trivial_pre_omega); (focus (first | decide | exact Nat.le_refl _)))
  | ((with_reducible apply EM.Bt.addM); (focus decreasing_trivial_pre_omega); (focus decreasing_trivial_pre_omega); (focus (first | decide | exact Nat.le_refl _)))
  | ((with_reducible apply EM.Bt.subM); (focus decreasing_trivial_pre_omega); (focus decreasing_trivial_pre_omega); (focus (first | decide | exact Nat.le_refl _)))
  | ((with_reducible apply EM.Bt.topL); (focus decreasing_trivial_pre_omega); (focus assumption); (focus (first | decide | exact Nat.le_refl _)))
  | ((with_reducible apply EM.Bt.botL); (focus decreasing_trivial_pre_omega); (focus assumption); (focus (first | decide | exact Nat.le_refl _)))
  | ((with_reducible apply EM.Bt.divM); (focus decreasing_trivial_pre_omega); (focus assumption); (focus (first | decide | exact Nat.le_refl _)))
  | ((with_reducible apply EM.Bt.negM); (focus decreasing_trivial_pre_omega); (focus (first | decide | exact Nat.le_refl _))))
local macro_rules | `(tactic| array_get_dec) => `(tactic| first
  | with_reducible assumption
  | ((with_reducible refine EM.gEq ?_); exact rfl)
  | ((with_reducible refine EM.gTru ?_); exact rfl)
  | ((with_reducible refine EM.gRef ?_); first | exact Or.inl ⟨_, rfl⟩ | exact Or.inr ⟨_, rfl⟩)
  | ((with_reducible apply EM.At.get); sizeOf_list_dec)
  | ((with_reducible apply EM.At.sqL); sizeOf_list_dec)
  | ((with_reducible apply EM.At.sqT); sizeOf_list_dec)
  | ((with_reducible apply EM.RatP.getK); (focus sizeOf_list_dec); (focus (exact rfl)))
  | (with_reducible exact EM.Num.int _)
  | ((with_reducible apply EM.NumP.getK); (focus sizeOf_list_dec); (focus (exact rfl)))
  | ((with_reducible apply EM.At.ext); (focus (with_reducible assumption)); (focus sizeOf_list_dec))
  | ((with_reducible apply EM.RatP.ext); (focus (with_reducible assumption)); (focus sizeOf_list_dec))
  | ((with_reducible apply EM.NumP.ext); (focus (with_reducible assumption)); (focus sizeOf_list_dec))
  | with_reducible exact Tx.cl_Ratio (by assumption)
  | with_reducible exact Tx.cl_Reading (by assumption)
  | with_reducible exact Tx.na_Ratio_top (by assumption)
  | with_reducible exact Tx.na_Ratio_bottom (by assumption)
  | with_reducible exact Tx.na_Reading_own_edges (by assumption)
  | ((with_reducible refine EM.gAt ?_); sizeOf_list_dec)
  | ((with_reducible refine EM.gRat ?_); sizeOf_list_dec)
  | ((with_reducible refine EM.gNum ?_); sizeOf_list_dec)
  | ((with_reducible apply EM.TwoP.mk); (focus (with_reducible assumption)); (focus sizeOf_list_dec); (focus (first | with_reducible assumption | (apply EM.n_low; assumption))); (focus sizeOf_list_dec); (focus decreasing_trivial_pre_omega); (focus decreasing_trivial_pre_omega); (focus decreasing_trivial_pre_omega); (focus decreasing_trivial_pre_omega))
  | (with_reducible exact EM.Ext.refl)
  | ((with_reducible apply EM.Ext.back); (focus (with_reducible assumption)); (focus sizeOf_list_dec))
  | ((with_reducible apply EM.Bs.mono); (focus (with_reducible assumption)); omega)
  | ((with_reducible refine EM.gN ?_); first | decide | omega | exact Nat.le_of_ble_eq_true rfl | (simp only [List.length_cons, List.length_nil, List.length_append]; omega))
  | ((with_reducible refine EM.gM ?_); first | decide | omega | exact Nat.le_of_ble_eq_true rfl)
  | ((with_reducible refine EM.gI ?_); first | decide | omega)
  | ((with_reducible refine EM.gJ ?_); first | decide | omega)
  | ((with_reducible refine EM.gE ?_); first | decide | omega)
  | ((with_reducible refine EM.gB ?_); decreasing_trivial_pre_omega)
  | ((with_reducible apply EM.wideM); (focus decreasing_trivial_pre_omega); (focus decreasing_trivial_pre_omega); (focus decide)))
local macro_rules | `(tactic| infer_instance) => `(tactic| first
  | with_reducible assumption
  | exact DpAll.nil
  | (apply DpAll.cons; (focus infer_instance); (focus infer_instance))
  | with_reducible exact Dp.int _
  | exact Dp.int _
  | with_reducible exact Dp.str _
  | exact Dp.bl _
  | exact Dp.non
  | ((with_reducible apply EM.dp_lst); (focus array_get_dec); (focus infer_instance))
  | ((with_reducible apply EM.dp_tup); (focus array_get_dec); (focus infer_instance))
  | exact EM.dp_ints _)
local macro_rules | `(tactic| nofun) => `(tactic| first
  | with_reducible assumption
  | exact EM.FeL.nil
  | exact EM.FdL.nil
  | (apply EM.FeL.cons; (focus nofun); (focus nofun))
  | (apply EM.FdL.cons; (focus nofun); (focus nofun))
  | exact EM.Fe.int _
  | exact EM.Fe.bool _
  | exact EM.Fe.non
  | exact EM.Fe.str (EM.okS_of _)
  | (apply EM.Fe.str; apply EM.Fd.ok; (focus nofun))
  | (apply EM.Fe.list; (focus nofun))
  | (apply EM.Fe.tup; (focus nofun))
  | (apply EM.Fd.int; (focus decreasing_trivial_pre_omega))
  | exact EM.Fd.bool _
  | exact EM.Fd.non
  | (refine EM.Fd.bool _)
  | (apply EM.Fd.list; (focus nofun))
  | (apply EM.Fd.tup; (focus nofun)))
local macro_rules | `(tactic| array_mem_dec) => `(tactic| ((with_reducible refine EM.pr ?_); first
  | (with_reducible refine L2.iteT ?_)
  | (with_reducible refine L2.iteF ?_)
  | (with_reducible refine EM.ifNotT ?_)
  | (with_reducible refine EM.ifNotF ?_)
  | ((fail_if_success (with_reducible refine EM.gIf ?_)); first
  | array_get_dec
  | (refine EM.mk_low (by with_reducible assumption) (by with_reducible assumption) ?_ ?_; (focus array_get_dec))
  | (apply EM.isNum_sw; (focus sizeOf_list_dec))
  | (apply EM.of_sw; (focus (with_reducible assumption)); (focus sizeOf_list_dec))
  | (apply EM.neg_bs; (focus (with_reducible assumption)); (focus sizeOf_list_dec); (focus array_get_dec); (focus array_get_dec))
  | (apply EM.relw_bs; (focus (with_reducible assumption)); (focus sizeOf_list_dec); (focus sizeOf_list_dec); (focus array_get_dec); (focus decreasing_trivial_pre_omega); (focus decreasing_trivial_pre_omega); (focus decreasing_trivial_pre_omega); (focus decreasing_trivial_pre_omega))
  | ((apply EM.DnS.bs); (focus (with_reducible assumption)); (focus (intro _ z; cases z; done)))
  | ((apply EM.seqL); (focus sizeOf_list_dec))
  | ((apply EM.seqT); (focus sizeOf_list_dec))
  | ((apply EM.lenL); (focus sizeOf_list_dec))
  | ((apply EM.lenT); (focus sizeOf_list_dec))
  | ((apply EM.isSeqL); (focus sizeOf_list_dec); (focus sizeOf_list_dec))
  | ((apply EM.isSeqT); (focus sizeOf_list_dec); (focus sizeOf_list_dec))
  | ((apply EM.tupL); (focus sizeOf_list_dec))
  | ((apply EM.fld_bs); (focus sizeOf_list_dec); (focus (exact Tx.cl_Reading (by assumption))); (focus (exact Tx.na_Reading_own_edges (by assumption))); (focus (exact rfl)))
  | ((apply EM.rdg_bs); (focus sizeOf_list_dec))
  | ((apply lstTT); (focus sizeOf_list_dec))
  | ((apply EM.lstLL); (focus sizeOf_list_dec))
  | ((with_reducible refine EM.New.bs (by with_reducible assumption) ?_ ?_); (focus (intro _ z; cases z; done)))
  | ((with_reducible refine EM.gMu ?_); (with_reducible apply EM.mu_bs); (focus (with_reducible assumption)); (focus sizeOf_list_dec); (focus (apply EM.nel2; (focus (with_reducible assumption)); (focus (with_reducible assumption)))); intro _ _ _)
  | intro _
  | (apply And.intro; (focus array_get_dec))
  | apply Exists.intro
  | (refine EM.draw_bs (by with_reducible assumption) ?_ ?_ ?_ ?_; (focus array_get_dec); (focus array_get_dec); (focus (first | decide | omega)))
  | (apply EM.pick_bs; (focus (with_reducible assumption)); (focus array_get_dec); (focus sizeOf_list_dec); (focus (exact Nat.le_of_ble_eq_true rfl)); (focus (exact Nat.le_of_ble_eq_true rfl)))
  | ((apply EM.repr_sw); (focus infer_instance); (focus nofun); (focus decide))
  | ((apply EM.eqd_same); (focus infer_instance); (focus infer_instance); (focus nofun); (focus decide))
  | ((apply EM.ned_same); (focus infer_instance); (focus infer_instance); (focus nofun); (focus decide))
  | ((apply EM.eqd_sw); (focus infer_instance); (focus infer_instance); (focus nofun); (focus nofun); (focus decide))
  | ((apply EM.ned_sw); (focus infer_instance); (focus infer_instance); (focus nofun); (focus nofun); (focus decide))
  | (refine EM.cut_bs (by with_reducible assumption) ?_ ?_ ?_; (focus array_get_dec); (focus array_get_dec)))))
section
variable {P : Program} {w : World} {K : PySem.W.Frag} {mg : Str → Option Value} {base : Heap}
theorem ok_Lalike_right (T : Tx K mg) : FnR P w K mg base (L2.CX P w) 14 (He.ga K "_law_alike_right") (spAlike K) := by
  obtain ⟨fd, F⟩ := T.d_Lalike_right
  refine EM.fnr F sc_Lalike_right (fun _ _ _ _ _ _ us hl => match us, hl with | [_, _, _], _ => rfl) (fun vs H Q E h => ?_) (fun cdv A outer s H vs Q E hr h => ?_)
  · obtain ⟨p, l, r, R, q, n, zs, es, rfl, _⟩ := h
    rfl
  · obtain ⟨p, l, r, R, q, n, zs, es, rfl, B0, hn, rd, aR, pp, rq, okl, k⟩ := h
    have hz := pp.len
    have ok := rq.ok
    obtain ⟨hl1, hl2, hl3⟩ := id okl
    refine ⟨_, (PSs.nox (pss_cons (ps_set (i := 3) sc_Lalike_right.nd rfl (Or.inl rfl) (ClX.pe_cmeth (pe_glob (v := .ref (He.ga K "Reading")) (by rfl) T.g_Reading rfl) T.cr_Reading T.cm_Reading_of (ok_Reading_of T).sw (hr.mono (by decide)) passL (pa_cons (EM.lcN (pe_lc (own := [("_law_one", 4)]) (g := gName 4) (te := mcE (tCR (Sw (spPassF K)) E0 (tCons (tVar 0) (tCons (tVar 4) tNil)))) rfl sc_Lalike_right.nd (EM.pi_seqN (pv 2)).mc (blkOk_by (N := ["_law_pen_here", "_law_reading", "_law_row_here", "_law_twin", "_law_one", "_law_at", "_law_bent_here", "_law_other"]) (sc := defScope s_Lalike_right) (by decide +kernel)) (fun _ _ _ _ _ => (pg_name (i := 4) sc_Lalike_right.nd rfl (Or.inl rfl))) (fun _ _ _ _ _ => pts_nil) (fun _ _ _ _ _ => (PE.mc (EM.pe_cR ((ok_Lpassed T).sw) (hr.mono (by decide)) T.k__law_passed T.g__law_passed passL (pa_cons (pv 0) (pa_cons (pv 4) pa_nil))))))) pa_nil)))
 (pss_cons (ps_set (i := 5) sc_Lalike_right.nd rfl (Or.inl rfl) (EM.pe_cR ((ok_Ldraw T).sw) (hr.mono (by decide)) T.k__law_draw T.g__law_draw passL (pa_cons (pv 0) (pa_cons (pe_callB EM.call_lenN (by rfl) T.f_len boot_len (pa_cons (pv 2) pa_nil)) pa_nil))))
 (pss_cons (ps_set (i := 6) sc_Lalike_right.nd rfl (Or.inl rfl) (pe_callTy EM.call_listLN (by rfl) T.f_list (by decide +kernel) (pa_cons (pv 2) pa_nil)))
 (pss_cons (ps_asg (EM.pe_cR ((ok_Lsum T).sw) (hr.mono (by decide)) T.k__law_sum T.g__law_sum passL (pa_cons (pe_ix ix_list (pv 2) (pv 5) (fun _ _ => rfl)) (pa_cons (EM.pe_tupN (pa_cons (pe_un un_neg pe_int) (pa_cons (pe_op op_mulW pe_int (pe_op (EM.op_powV 10 50 100000000000000000000000000000000000000000000000000 ⟨by decide, by decide, by decide⟩ (by decide +kernel)) pe_int pe_int)) pa_nil))) pa_nil))) (pg_sub (pv 6) (pv 5) EM.set_listN))
 (pss_cons (ps_set (i := 7) sc_Lalike_right.nd rfl (Or.inl rfl) (ClX.pe_cmeth (pe_glob (v := .ref (He.ga K "Reading")) (by rfl) T.g_Reading rfl) T.cr_Reading T.cm_Reading_of (ok_Reading_of T).sw (hr.mono (by decide)) passL (pa_cons (EM.lcN (pe_lc (own := [("_law_one", 4)]) (g := gName 4) (te := mcE (tCR (Sw (spPassF K)) E0 (tCons (tVar 0) (tCons (tVar 4) tNil)))) rfl sc_Lalike_right.nd (EM.pi_seqN (pv 6)).mc (blkOk_by (N := ["_law_pen_here", "_law_reading", "_law_row_here", "_law_twin", "_law_one", "_law_at", "_law_bent_here", "_law_other"]) (sc := defScope s_Lalike_right) (by decide +kernel)) (fun _ _ _ _ _ => (pg_name (i := 4) sc_Lalike_right.nd rfl (Or.inl rfl))) (fun _ _ _ _ _ => pts_nil) (fun _ _ _ _ _ => (PE.mc (EM.pe_cR ((ok_Lpassed T).sw) (hr.mono (by decide)) T.k__law_passed T.g__law_passed passL (pa_cons (pv 0) (pa_cons (pv 4) pa_nil))))))) pa_nil)))
 (pss_cons (ps_if (PW.pt (pw_or (pt_not (pt_cmpR (op_eqRd T (hr.mono (by decide))) (pv 1) (pv 3) (nomark _))) (pw_or (pt_not (pt_cmpR (op_eqRd T (hr.mono (by decide))) (pv 3) (pv 1) (nomark _))) (pw_or (pt_cmpR (op_eqRd T (hr.mono (by decide))) (pv 1) (pv 7) (nomark _)) (pw_or1 (pt_cmpR (op_eqRd T (hr.mono (by decide))) (pv 7) (pv 1) (nomark _)))))))
  (pss_one (ps_ret pe_bl)) pss_nil)
 (pss_one (ps_ret (pe_and (pe_not (pe_cmpR (op_eqRd T (hr.mono (by decide))) (pv 1) (pe_redges T (hr.mono (by decide)) (pv 1)) (nomark _))) (pe_and (pe_not (pe_cmpR (op_eqRd T (hr.mono (by decide))) (pv 1) (pe_callTy call_listTN (by rfl) T.f_list (by decide +kernel) (pa_cons (pe_redges T (hr.mono (by decide)) (pv 1)) pa_nil)) (nomark _))) (pe_one (pe_not (pe_cmpR (op_eqRd T (hr.mono (by decide))) (pv 1) pe_non (nomark _))))))))))))))), ?_⟩
    repeat' array_mem_dec
    --S1
    rename_i J wk
    refine LcS.lc 2 wk B0 (fun j y H' => Hold (∃ e, es[j]? = some e ∧ NumP K p H' y e.1 e.2)) (by omega) (fun H' x => aR.eq x) ?_ ?_ (fun j y Ha Hb ⟨⟨e, e1, e2⟩⟩ x => ⟨⟨e, e1, e2.ext x⟩⟩) (fun j y D xs ys Ha Hb ⟨⟨e, e1, e2⟩⟩ m g => ⟨⟨e, e1, m.num e2 g⟩⟩)
    · rintro j y K2 K3 hk y2 C2 ⟨rfl, hv⟩
      obtain ⟨e, ee⟩ : ∃ e, es[j]? = some e := ⟨_, List.getElem?_eq_getElem (by omega)⟩
      obtain ⟨qe, eq, aq⟩ := (pp.ext y2).get ee
      cases (hv.symm.trans eq)
      repeat' array_mem_dec
      refine pass_bs C2 (by omega) aq (rq.dv e (List.mem_of_getElem? ee)) (by decide) fun v K4 nv xk Bk => ?_
      exact ⟨xk, Bk.mono (by omega), ⟨⟨e, ee, nv⟩⟩⟩
    rintro D ys H7 hD hyl hf x7 B7 aD
    have nums : NumsP K p H7 ys es := ⟨by omega, fun j x t e1 e2 => by
      obtain ⟨⟨e, e3, nv⟩⟩ := hf j x e1
      rw [e2] at e3
      cases e3
      exact nv⟩
    have B7' : Bs (tabs K) p l (n + 260) H7 := B7.mono (by omega)
    clear hf
    repeat' array_mem_dec
    --S2
    refine ofR_bs B7' (.inl aD) nums ok okl fun tw q2 H8 x8 B8 rd8 f8 => ?_
    have x08 := x7.trans x8
    have aR8 := aR.ext x08
    have pp8 := pp.ext x08
    clear nums aD x7 x8 B7 B7' wk
    obtain ⟨qf, hqf⟩ : ∃ qf : Nat → Addr, ∀ (j : Nat) (e : Int × Int), es[j]? = some e → zs[j]? = some (.ref (qf j)) ∧ At p H8 (qf j) (.tup [.int e.1, .int e.2]) := by
      refine ⟨refAt zs, fun j e ee => ?_⟩
      obtain ⟨qe, eq, aq⟩ := pp8.get ee
      rw [refAt_eq eq]
      exact ⟨eq, aq⟩
    repeat' array_mem_dec
    --S3
    rename_i d H9 d0 d1 x9 B9 F Ha xa Ba aF nF
    have dn : d.toNat < es.length := by omega
    refine ⟨at_of (j := d.toNat) (by omega) (hqf _ _ (List.getElem?_eq_getElem dn)).1, ?_⟩
    obtain ⟨e, ee⟩ : ∃ e, es[d.toNat]? = some e := ⟨_, List.getElem?_eq_getElem dn⟩
    obtain ⟨row2, ne2, lo2, bt2⟩ := rq.bent ee
    have x9a := x9.trans xa
    have aqe := (hqf _ _ ee).2.ext x9a
    have fe := rq.dv e (List.mem_of_getElem? ee)
    repeat' array_mem_dec
    --S4
    rename_i qs Hb xb Bb ab nb
    refine sumF_bs (e := e) (b := bB) Bb (aqe.ext xb) ab fe.low bB_dv.low (fe.b2 (by decide)) ⟨Bt.lit _ _ (by decide +kernel), Bt.lit _ _ (by decide +kernel)⟩ fun q4 Hc xc Bc ac => ?_
    have x9c := x9a.trans (xb.trans xc)
    have hj : ixN zs.length d = some d.toNat := ix_of (by omega) (by omega)
    have aFc : At p Hc F (.lst zs) := (aF.ext xb).ext xc
    have nF8 : H9 F = none := nF
    repeat' array_mem_dec
    --S5
    rename_i Hd mu Bd J2 wk2
    have aFd : At p Hd F (.lst (zs.set d.toNat (.ref q4))) := mu.here aFc
    have ppd : PairsP p Hd (zs.set d.toNat (.ref q4)) (es.set d.toNat (addF bB e)) := mu.pairs (pairs_set (pp8.ext x9c) ac) aFc
    have x8d : Ext p H8 Hd := Ext.mu x9 nF8 (xa.trans (xb.trans xc)) mu
    have hzl2 : (zs.set d.toNat (.ref q4)).length = es.length := by rw [List.length_set]; exact hz
    have hel2 : (es.set d.toNat (addF bB e)).length = es.length := List.length_set
    have bnd : ∀ f ∈ es.set d.toNat (addF bB e), Low f.1 f.2 ∧ Bt 1980 f.1 ∧ Bt 1980 f.2 := fun f hf => by
      rcases List.mem_or_eq_of_mem_set hf with m | rfl
      · have := rq.dv f m
        have b := this.b19 (by decide)
        exact ⟨this.low, b.1.mono (by decide), b.2.mono (by decide)⟩
      · exact ⟨lo2, bt2.1.mono (by decide), bt2.2.mono (by decide)⟩
    clear aFc mu ac ab nb nF nF8 aF x9c x9a x9 xa xb xc B9 Ba Bb Bc hj aqe hqf
    refine LcS.lc 2 wk2 Bd (fun j y H' => Hold (∃ f, (es.set d.toNat (addF bB e))[j]? = some f ∧ NumP K p H' y f.1 f.2)) (by omega) (fun H' x => aFd.eq x) ?_ ?_ (fun j y Ha Hb ⟨⟨e, e1, e2⟩⟩ x => ⟨⟨e, e1, e2.ext x⟩⟩) (fun j y D xs ys Ha Hb ⟨⟨e, e1, e2⟩⟩ m g => ⟨⟨e, e1, m.num e2 g⟩⟩)
    · rintro j y K2 K3 hk y2 C2 ⟨rfl, hv⟩
      obtain ⟨f, ef⟩ : ∃ f, (es.set d.toNat (addF bB e))[j]? = some f := ⟨_, List.getElem?_eq_getElem (by omega)⟩
      obtain ⟨qe, eq, aq⟩ := (ppd.ext y2).get ef
      cases (hv.symm.trans eq)
      obtain ⟨lf, bf1, bf2⟩ := bnd f (List.mem_of_getElem? ef)
      repeat' array_mem_dec
      refine ⟨⟨tabs K, p, l, qe, _, f, rfl, C2, by omega, aq, lf, bf1, bf2, fun v K4 nv xk Bk => ?_⟩⟩
      exact ⟨xk, Bk.mono (by omega), ⟨⟨f, ef, nv⟩⟩⟩
    rintro D2 ys2 He hD2 hyl2 hf2 xe Be' aD2
    have nums2 : NumsP K p He ys2 (es.set d.toNat (addF bB e)) := ⟨by omega, fun j x t e1 e2 => by
      obtain ⟨⟨f, e3, nv⟩⟩ := hf2 j x e1
      rw [e2] at e3
      cases e3
      exact nv⟩
    have Be : Bs (tabs K) p l (n + 530) He := Be'.mono (by omega)
    clear hf2 Be'
    repeat' array_mem_dec
    --S6
    refine ofR_bs Be (.inl aD2) nums2 row2 (by rw [hel2]; exact okl) fun ot q3 Hf xf Bf rdf_ ff => ?_
    have x8f := x8d.trans (xe.trans xf)
    have rdr := rd.ext (x08.trans x8f)
    have rdt := rd8.ext x8f
    have x0f := x08.trans x8f
    clear nums2 aD2 xe xf Be wk2 x8d ppd aFd Bd
    repeat' array_mem_dec
    --S7
    refine eqRd_bs Bf rdr rdt ok ok fun H1 x1 B1 => ?_
    rw [decide_eq_true rfl]
    have rdr1 := rdr.ext x1
    have rdt1 := rdt.ext x1
    have rdo1 := rdf_.ext x1
    have x01 := x0f.trans x1
    repeat' array_mem_dec
    --S8
    refine eqRd_bs B1 rdt1 rdr1 ok ok fun H2 x2 B2 => ?_
    rw [decide_eq_true rfl]
    have rdr2 := rdr1.ext x2
    have rdo2 := rdo1.ext x2
    have x02 := x01.trans x2
    repeat' array_mem_dec
    --S9
    refine eqRd_bs B2 rdr2 rdo2 ok row2 fun H3 x3 B3 => ?_
    rw [decide_eq_false ne2]
    have rdr3 := rdr2.ext x3
    have rdo3 := rdo2.ext x3
    have x03 := x02.trans x3
    repeat' array_mem_dec
    --SA
    refine eqRd_bs B3 rdo3 rdr3 row2 ok fun H4 x4 B4 => ?_
    rw [decide_eq_false (fun z => ne2 z.symm)]
    have rdr4 := rdr3.ext x4
    have x04 := x03.trans x4
    obtain ⟨dx, xs, m1, m2, m3⟩ := id rdr4
    clear rdr rdt rdf_ x1 x2 x3 x4 rdr1 rdt1 rdo1 rdr2 rdo2 rdr3 rdo3 B1 B2 B3 Bf x01 x02 x03
    repeat' array_mem_dec
    --SB
    refine eqRd_odd B4 rdr4 (.tup m2.at_) (.inl rfl) ?_
    repeat' array_mem_dec
    --SC
    rename_i qL H5 x5 B5 a5 n5
    refine eqRd_odd B5 (rdr4.ext x5) (.lst a5.at_) (.inr (.inl rfl)) ?_
    repeat' array_mem_dec
    --SD
    refine eqRd_odd B5 (rdr4.ext x5) .non (.inr (.inr rfl)) ?_
    repeat' array_mem_dec
    --SE
    exact k H5 (x04.trans x5) (B5.mono (by omega))
end
end K12
namespace K12
open PySem PySem.Spec PyProof.Rows L2 EM
abbrev r4 : List (Int × Int) := [(0, 1), (1, 1), (2, 1), (3, 1)]
theorem nums4 {K : PySem.W.Frag} {p : Addr} {H : Hp} : NumsP K p H [.int 0, .int 1, .int 2, .int 3] r4 := ⟨rfl, fun i x t e1 e2 => by
  match i, e1, e2 with
  | 0, e1, e2 => cases e1; cases e2; exact NumP.int _
  | 1, e1, e2 => cases e1; cases e2; exact NumP.int _
  | 2, e1, e2 => cases e1; cases e2; exact NumP.int _
  | 3, e1, e2 => cases e1; cases e2; exact NumP.int _
  | k + 4, e1, _ => cases e1⟩
theorem row4 : RowOk 2000 r4 := by
  refine ⟨fun e he => ?_, fun e he => ?_, fun i e f h1 h2 => ?_⟩
  · simp only [List.mem_cons, List.not_mem_nil, or_false] at he
    rcases he with rfl | rfl | rfl | rfl <;> exact ⟨by decide, by decide⟩
  · simp only [List.mem_cons, List.not_mem_nil, or_false] at he
    rcases he with rfl | rfl | rfl | rfl <;> exact ⟨Bt.lit _ _ (by decide +kernel), Bt.lit _ _ (by decide +kernel)⟩
  · match i, h1, h2 with
    | 0, h1, h2 => cases h1; cases h2; decide
    | 1, h1, h2 => cases h1; cases h2; decide
    | 2, h1, h2 => cases h1; cases h2; decide
    | k + 3, _, h2 => cases h2
/-- Reading(a, b, ..): plain -/
theorem pe_mkRP {K : PySem.W.Frag} {mg : Str → Option Value} (T : Tx K mg) {X : Cx} {E : XK} {e1 : Expr} {es : List Expr} {ta : TA} {p pos : Pos} (hr : Room 11 X.A) (hx : Passes (L2.CX X.prog X.w) X E) (ha : PA X (e1 :: es) ta) (hg : Gl X "Reading" := by rfl) (he : starEach (e1 :: es) X.env = (false, eval e1 X.env) :: starEach es X.env := by rfl) (hpl : (backTo pos (starEach es X.env)).any (·.1) = false := by rfl) (eK : X.K = K := by rfl) (eM : X.mg = mg := by rfl) :
    PE X (.Call (.Name "Reading" p) (e1 :: es) [] pos) (tCR (Sw (spReadX K)) E ta) := by
  subst eK eM
  exact (EM.pe_mkR (E := E) T.mk_Reading (ok_Reading_init T) hr T.g_Reading hx ha.mc hg (by decide) he hpl).of fun σ H Q q => ⟨_, q, fun vs H1 ⟨h⟩ x dx hx hdx ndx => mk_ReadX h x dx hx hdx ndx⟩
theorem out_of {K : PySem.W.Frag} {T : List (Addr × Str)} {p l : Addr} {n : Nat} {H : Hp} {E : XK} {os : List Of} {told : List (Int × Int) → Prop} (hr : ∀ v, dueO os = some (("reading" : Str), v) → ErrOut K T p l n H E "BadReading" "at" v) (hf : ∀ v, dueO os = some (("rising" : Str), v) → ErrOut K T p l n H E "NotRising" "at" v) (t : dueO os = none → ∀ es, os = es.map some → told es) : OutG K T p l n H E os told :=
  ⟨fun c => hr _ (dueO_few c), fun c i a b => hr _ (dueO_at c (due_none a b)), fun c i e f a b d g k => hf _ (dueO_at c (due_fall k b d g)), fun c es a b => t (dueO_none c (due_fine a)) es b⟩
/-- what is told of the values -/
def ToldP (K : PySem.W.Frag) (p : Addr) (H : Hp) (os : List Of) (v : V) : Prop := (∃ s w q, dueO os = some (s, w) ∧ v = .ref q ∧ At p H q (.tup [.str s, w])) ∨ (dueO os = none ∧ ∃ q r rq es, v = .ref q ∧ At p H q (.tup [.str "told", .ref r]) ∧ RdP K p H r rq es ∧ os = es.map some)
theorem ToldP.ext {K : PySem.W.Frag} {p : Addr} {H H' : Hp} {os : List Of} {v : V} (h : ToldP K p H os v) (x : Ext p H H') : ToldP K p H' os v := by
  rcases h with ⟨s, w, q, e, e2, a⟩ | ⟨e, q, r, rq, es, e2, a, rd, e3⟩
  · exact .inl ⟨s, w, q, e, e2, a.ext x⟩
  · exact .inr ⟨e, q, r, rq, es, e2, a.ext x, rd.ext x, e3⟩
theorem ToldP.mu {K : PySem.W.Frag} {p c : Addr} {H H' : Hp} {os : List Of} {v : V} {xs ys : List V} (h : ToldP K p H os v) (m : Mu c H H' (.lst ys)) (g : At p H c (.lst xs)) : ToldP K p H' os v := by
  rcases h with ⟨s, w, q, e, e2, a⟩ | ⟨e, q, r, rq, es, e2, a, rd, e3⟩
  · exact .inl ⟨s, w, q, e, e2, m.at_k a g (by intro _ z; cases z)⟩
  · exact .inr ⟨e, q, r, rq, es, e2, m.at_k a g (by intro _ z; cases z), m.rdp rd g, e3⟩
theorem out_heard {K : PySem.W.Frag} {T : List (Addr × Str)} {p l : Addr} {n : Nat} {H : Hp} {E' : XK} {Q : VK} {os : List Of} (hE : ∀ cls d H', HErr K cls d H' Q → E' cls d H') (k : ∀ v H', ToldP K p H' os v → Ext p H H' → Bs T p l n H' → Q v H') : OutG K T p l n H E' os fun es => ∀ r q H', Ext p H H' → Bs T p l n H' → RdP K p H' r q es → Fresh p H r → ([V.str "told", V.ref r].length ≤ 100000 ∧ ∀ q H2, New H' q (.tup [.str "told", V.ref r]) H2 → Q (.ref q) H2) :=
  out_of (fun v e d H1 x1 B1 a1 => hE _ _ _ ⟨⟨T, p, l, n, "BadReading", "at", "reading", v, d, rfl, rfl, B1, a1, .inr (.inl ⟨rfl, rfl, rfl⟩), fun r H3 x3 B3 a3 => k _ _ (.inl ⟨"reading", v, r, e, rfl, a3⟩) (x1.trans x3) B3⟩⟩)
    (fun v e d H1 x1 B1 a1 => hE _ _ _ ⟨⟨T, p, l, n, "NotRising", "at", "rising", v, d, rfl, rfl, B1, a1, .inr (.inr ⟨rfl, rfl, rfl⟩), fun r H3 x3 B3 a3 => k _ _ (.inl ⟨"rising", v, r, e, rfl, a3⟩) (x1.trans x3) B3⟩⟩)
    (fun e es eo r q H1 x1 B1 rd _ => ⟨Nat.le_of_ble_eq_true rfl, fun q2 H2 nw => k _ _ (.inr ⟨e, q2, r, q, es, rfl, B1.new nw (fun _ z => by cases z), rd.ext (Ext.same nw.same), eo⟩) (x1.trans (Ext.same nw.same)) (B1.same nw.same)⟩)
def DueP (p : Addr) (H : Hp) (os : List Of) (v : V) : Prop := (dueO os = none ∧ v = .non) ∨ ∃ s w q, dueO os = some (s, w) ∧ v = .ref q ∧ At p H q (.tup [.str s, w])
theorem DueP.ext {p : Addr} {H H' : Hp} {os : List Of} {v : V} (h : DueP p H os v) (x : Ext p H H') : DueP p H' os v := by
  rcases h with h | ⟨s, w, q, e, e2, a⟩
  · exact .inl h
  · exact .inr ⟨s, w, q, e, e2, a.ext x⟩
theorem dueP_bs {K : PySem.W.Frag} {T : List (Addr × Str)} {p l a : Addr} {n : Nat} {zs : List V} {os : List Of} {H : Hp} {Q : VK} {E : XK} (B : Bs T p l n H) (h : At p H a (.lst zs)) (hi : ItemsQ K p H 1010 zs os) (hl : os.length ≤ 130) (k : ∀ v H', DueP p H' os v → Ext p H H' → Bs T p l n H' → Q v H') : Sw (spDueI K) [.ref a] H Q E :=
  dueI_bs B h hi hl (fun s w e q H' x B' a' => k _ _ (.inr ⟨s, w, q, e, rfl, a'⟩) x B') (fun e H' x B' => k _ _ (.inl ⟨e, rfl⟩) x B')
theorem dueR_row : ∀ {os : List Of} {pr : Option (Int × Int)} {i : Nat}, dueR pr i os = none → ∃ es : List (Int × Int), os = es.map some ∧ (∀ (j : Nat) e f, es[j]? = some e → es[j + 1]? = some f → e.1 * f.2 < f.1 * e.2) ∧ ∀ e f, pr = some e → es[0]? = some f → e.1 * f.2 < f.1 * e.2
  | [], pr, i, h => ⟨[], rfl, fun j e f h1 => by simp at h1, fun e f _ h2 => by simp at h2⟩
  | none :: r, none, i, h => by cases h
  | none :: r, some e, i, h => by cases h
  | some f :: r, none, i, h => by
    obtain ⟨es, e1, e2, e3⟩ := dueR_row (os := r) (pr := some f) (i := i + 1) h
    refine ⟨f :: es, by rw [e1]; rfl, fun j a b h1 h2 => ?_, fun e f z => by cases z⟩
    cases j with
    | zero => cases h1; exact e3 _ _ rfl h2
    | succ j => exact e2 j a b h1 h2
  | some f :: r, some e, i, h => by
    by_cases c : f.1 * e.2 ≤ e.1 * f.2
    · rw [show dueR (some e) i (some f :: r) = if f.1 * e.2 ≤ e.1 * f.2 then some (("rising" : Str), i) else dueR (some f) (i + 1) r from rfl, if_pos c] at h
      cases h
    · rw [show dueR (some e) i (some f :: r) = if f.1 * e.2 ≤ e.1 * f.2 then some (("rising" : Str), i) else dueR (some f) (i + 1) r from rfl, if_neg c] at h
      obtain ⟨es, e1, e2, e3⟩ := dueR_row (os := r) (pr := some f) (i := i + 1) h
      refine ⟨f :: es, by rw [e1]; rfl, fun j a b h1 h2 => ?_, fun e' f' z1 z2 => ?_⟩
      · cases j with
        | zero => cases h1; exact e3 _ _ rfl h2
        | succ j => exact e2 j a b h1 h2
      · cases z1
        cases z2
        omega
theorem due_row {K : PySem.W.Frag} {p : Addr} {H : Hp} {zs : List V} {os : List Of} (it : ItemsQ K p H 1010 zs os) (h : dueO os = none) : ∃ es, os = es.map some ∧ RiseQ es ∧ okLen es.length := by
  unfold dueO at h
  split at h
  · rename_i c
    cases hd : dueR none 0 os with
    | some z => rw [hd] at h; cases h
    | none =>
      obtain ⟨es, e1, e2, _⟩ := dueR_row hd
      subst e1
      rw [List.length_map] at c
      exact ⟨es, rfl, ⟨fun e he => it.b e (List.mem_map.mpr ⟨e, he, rfl⟩), e2⟩, c⟩
  · cases h
theorem dueR_lt : ∀ {os : List Of} {pr : Option (Int × Int)} {i j : Nat} {s : Str}, dueR pr i os = some (s, j) → (s = "reading" ∨ s = "rising") ∧ j ≤ i + os.length
  | [], pr, i, j, s, h => by cases h
  | none :: r, pr, i, j, s, h => by
    have e : some (("reading" : Str), i) = some (s, j) := by
      cases pr <;> exact h
    cases e
    exact ⟨.inl rfl, Nat.le_add_right _ _⟩
  | some f :: r, none, i, j, s, h => by
    have h2 := dueR_lt (os := r) (pr := some f) (i := i + 1) h
    exact ⟨h2.1, by have := h2.2; simp only [List.length_cons]; omega⟩
  | some f :: r, some e, i, j, s, h => by
    by_cases c : f.1 * e.2 ≤ e.1 * f.2
    · rw [show dueR (some e) i (some f :: r) = if f.1 * e.2 ≤ e.1 * f.2 then some (("rising" : Str), i) else dueR (some f) (i + 1) r from rfl, if_pos c] at h
      cases h
      exact ⟨.inr rfl, Nat.le_add_right _ _⟩
    · rw [show dueR (some e) i (some f :: r) = if f.1 * e.2 ≤ e.1 * f.2 then some (("rising" : Str), i) else dueR (some f) (i + 1) r from rfl, if_neg c] at h
      have h2 := dueR_lt (os := r) (pr := some f) (i := i + 1) h
      exact ⟨h2.1, by have := h2.2; simp only [List.length_cons]; omega⟩
theorem due_shape {K : PySem.W.Frag} {p : Addr} {H : Hp} {os : List Of} {s : Str} {v : V} (hl : os.length ≤ 130) (h : dueO os = some (s, v)) : OkZ s ∧ ∃ t, ShV K p H s v t := by
  unfold dueO at h
  split at h
  · cases hd : dueR none 0 os with
    | none => rw [hd] at h; cases h
    | some z =>
      obtain ⟨s2, j⟩ := z
      rw [hd] at h
      cases h
      have ⟨h1, h2⟩ := dueR_lt hd
      refine ⟨?_, _, .int ((Bt.rng32 (by omega) (by omega)).mono (by decide))⟩
      rcases h1 with rfl | rfl
      · exact okz_reading
      · exact okz_rising
  · cases h
    exact ⟨okz_reading, _, .non⟩
def spMk12 (K : PySem.W.Frag) : Sp := fun vs H Q _ => ∃ (T : List (Addr × Str)) (p l : Addr) (n : Nat), vs = [.int 1, .int 1, .int 1] ∧ Bs T p l n H ∧ ∀ m dx fs H', Ext p H H' → Bs T p l n H' → At p H' m (.ins (He.ga K "Mark") dx fs) → Q (.ref m) H'
theorem good111 : good [1, 1, 1] := ⟨by decide, by decide, by decide, fun x hx => by
  simp only [List.mem_cons, List.not_mem_nil, or_false] at hx
  omega⟩
theorem pe_mkM12 {K : PySem.W.Frag} {mg : Str → Option Value} (T : Tx K mg) {X : Cx} (hr : Room 4 X.A) {e1 : Expr} {es : List Expr} {ta : TA} {p pos : Pos} (ha : PA X (e1 :: es) ta) (hg : Gl X "Mark" := by rfl) (he : starEach (e1 :: es) X.env = (false, eval e1 X.env) :: starEach es X.env := by rfl) (hpl : (backTo pos (starEach es X.env)).any (·.1) = false := by rfl) (eK : X.K = K := by rfl) (eM : X.mg = mg := by rfl) :
    PE X (.Call (.Name "Mark" p) (e1 :: es) [] pos) (tCR (Sw (spMk12 K)) E0 ta) := by
  subst eK eM
  exact (EM.pe_mkR (E := E0) T.mk_Mark (ok_Mark_init T) hr T.g_Mark passL ha.mc hg (by decide) he hpl).of fun σ H Q q => ⟨_, q, fun vs H1 ⟨⟨T0, p, l, n, e, B, k⟩⟩ x dx hx hdx ndx => mk_Mark (ws := [1, 1, 1]) e good111 (fun p' H' s m => by
    obtain ⟨_, dx, W, ep, sp, h, _⟩ := m
    exact k p' dx _ H' (Ext.same s) (B.same s) ((B.same s).at_ h (fun _ z => by cases z) (fun _ z => by cases z))) x dx hx hdx ndx⟩
theorem rat62 : nTop 6 2 = 3 ∧ nBot 6 2 = 1 := by decide +kernel
theorem rat1 : nTop 1 1 = 1 ∧ nBot 1 1 = 1 := by decide +kernel
theorem out0123 : outT "0 1 2 3" = .inr r4 := by decide +kernel
local macro_rules | `(tactic| sizeOf_list_dec) => `(tactic| first
  | with_reducible assumption
  | ((with_reducible apply EM.At.ext); (focus (with_reducible assumption)); (focus sizeOf_list_dec))
  | ((with_reducible apply EM.RatP.ext); (focus (with_reducible assumption)); (focus sizeOf_list_dec))
  | ((with_reducible apply EM.NumP.ext); (focus (with_reducible assumption)); (focus sizeOf_list_dec))
  | (with_reducible exact EM.Ext.refl)
  | ((with_reducible apply EM.Ext.back); (focus (with_reducible assumption)); (focus sizeOf_list_dec))
  | exact EM.NumP.int _
  | ((with_reducible apply EM.Mu.at_k); (focus (with_reducible assumption)); (focus sizeOf_list_dec); (focus sizeOf_list_dec); (focus (intro _ z; cases z; done)))
  | ((with_reducible apply EM.Mu.at_n); (focus (with_reducible assumption)); (focus sizeOf_list_dec); (focus (first | with_reducible assumption | ((apply EM.nn1); (focus (with_reducible assumption)); (focus sizeOf_list_dec)) | ((apply EM.nn2); (focus (with_reducible assumption)); (focus sizeOf_list_dec)))))
  | ((with_reducible apply EM.Mu.here); (focus (with_reducible assumption)); (focus sizeOf_list_dec))
  | ((with_reducible apply EM.Mu.rat); (focus (with_reducible assumption)); (focus sizeOf_list_dec); (focus sizeOf_list_dec))
  | ((with_reducible apply EM.Mu.num); (focus (with_reducible assumption)); (focus sizeOf_list_dec); (focus sizeOf_list_dec))
  | ((with_reducible apply EM.num_of_rat); (focus sizeOf_list_dec); (focus (first | with_reducible assumption | (apply EM.n_low; assumption))))
  | ((with_reducible apply EM.RatsP.xt); (focus (with_reducible assumption)); (focus sizeOf_list_dec))
  | ((with_reducible apply EM.NumsP.xt); (focus (with_reducible assumption)); (focus sizeOf_list_dec))
  | ((with_reducible apply EM.PairsP.xt); (focus (with_reducible assumption)); (focus sizeOf_list_dec))
  | ((with_reducible apply EM.RdP.xt); (focus (with_reducible assumption)); (focus sizeOf_list_dec))
  | ((with_reducible apply EM.Mu.rats); (focus (with_reducible assumption)); (focus sizeOf_list_dec); (focus sizeOf_list_dec))
  | ((with_reducible apply EM.Mu.pairs); (focus (with_reducible assumption)); (focus sizeOf_list_dec); (focus sizeOf_list_dec))
  | ((with_reducible apply EM.Mu.rdp); (focus (with_reducible assumption)); (focus sizeOf_list_dec); (focus sizeOf_list_dec)))
local macro_rules | `(tactic| decreasing_trivial_pre_omega) => `(tactic| first
  | with_reducible assumption
  | exact EM.Bt.mono (by with_reducible assumption) (by decide)
  | exact EM.Bt.lit _ _ (by decide +kernel)
  | ((with_reducible refine EM.Bt.rng32 ?_ ?_) <;> omega)
  | ((with_reducible refine EM.Bt.rng70 ?_ ?_) <;> omega)
  | ((with_reducible refine EM.Bt.rng200 ?_ ?_) <;> omega)
  | ((with_reducible apply EM.Bt.mulM); (focus decreasing_trivial_pre_omega); (focus decreasing_trivial_pre_omega); (focus (first | decide | exact Nat.le_refl _)))
  | ((with_reducible apply EM.Bt.addM); (focus decreasing_trivial_pre_omega); (focus decreasing_trivial_pre_omega); (focus (first | decide | exact Nat.le_refl _)))
  | ((with_reducible apply EM.Bt.subM); (focus decreasing_trivial_pre_omega); (focus decreasing_trivial_pre_omega); (focus (first | decide | exact Nat.le_refl _)))
  | ((with_reducible apply EM.Bt.topL); (focus decreasing_trivial_pre_omega); (focus assumption); (focus (first | decide | exact Nat.le_refl _)))
  | ((with_reducible apply EM.Bt.botL); (focus decreasing_trivial_pre_omega); (focus assumption); (focus (first | decide | exact Nat.le_refl _)))
  | ((with_reducible apply EM.Bt.divM); (focus decreasing_trivial_pre_omega); (focus assumption); (focus (first | decide | exact Nat.le_refl _)))
  | ((with_reducible apply EM.Bt.negM); (focus decreasing_trivial_pre_omega); (focus (first | decide | exact Nat.le_refl _))))
local macro_rules | `(tactic| array_get_dec) => `(tactic| first
  | with_reducible assumption
  | ((with_reducible refine EM.gEq ?_); exact rfl)
  | ((with_reducible refine EM.gTru ?_); exact rfl)
  | ((with_reducible refine EM.gRef ?_); first | exact Or.inl ⟨_, rfl⟩ | exact Or.inr ⟨_, rfl⟩)
  | ((with_reducible apply EM.At.get); sizeOf_list_dec)
  | ((with_reducible apply EM.At.sqL); sizeOf_list_dec)
  | ((with_reducible apply EM.At.sqT); sizeOf_list_dec)
  | ((with_reducible apply EM.RatP.getK); (focus sizeOf_list_dec); (focus (exact rfl)))
  | (with_reducible exact EM.Num.int _)
  | ((with_reducible apply EM.NumP.getK); (focus sizeOf_list_dec); (focus (exact rfl)))
  | ((with_reducible apply EM.At.ext); (focus (with_reducible assumption)); (focus sizeOf_list_dec))
  | ((with_reducible apply EM.RatP.ext); (focus (with_reducible assumption)); (focus sizeOf_list_dec))
  | ((with_reducible apply EM.NumP.ext); (focus (with_reducible assumption)); (focus sizeOf_list_dec))
  | with_reducible exact Tx.cl_Ratio (by assumption)
  | with_reducible exact Tx.cl_Reading (by assumption)
  | with_reducible exact Tx.na_Ratio_top (by assumption)
  | with_reducible exact Tx.na_Ratio_bottom (by assumption)
  | with_reducible exact Tx.na_Reading_own_edges (by assumption)
  | ((with_reducible refine EM.gAt ?_); sizeOf_list_dec)
  | ((with_reducible refine EM.gRat ?_); sizeOf_list_dec)
  | ((with_reducible refine EM.gNum ?_); sizeOf_list_dec)
  | ((with_reducible apply EM.TwoP.mk); (focus (with_reducible assumption)); (focus sizeOf_list_dec); (focus (first | with_reducible assumption | (apply EM.n_low; assumption))); (focus sizeOf_list_dec); (focus decreasing_trivial_pre_omega); (focus decreasing_trivial_pre_omega); (focus decreasing_trivial_pre_omega); (focus decreasing_trivial_pre_omega))
  | (with_reducible exact EM.Ext.refl)
  | ((with_reducible apply EM.Ext.back); (focus (with_reducible assumption)); (focus sizeOf_list_dec))
  | ((with_reducible apply EM.Bs.mono); (focus (with_reducible assumption)); omega)
  | ((with_reducible refine EM.gN ?_); first | decide | omega | exact Nat.le_of_ble_eq_true rfl | (simp only [List.length_cons, List.length_nil, List.length_append]; omega))
  | ((with_reducible refine EM.gM ?_); first | decide | omega | exact Nat.le_of_ble_eq_true rfl)
  | ((with_reducible refine EM.gI ?_); first | decide | omega)
  | ((with_reducible refine EM.gJ ?_); first | decide | omega)
  | ((with_reducible refine EM.gE ?_); first | decide | omega)
  | ((with_reducible refine EM.gB ?_); decreasing_trivial_pre_omega)
  | ((with_reducible apply EM.wideM); (focus decreasing_trivial_pre_omega); (focus decreasing_trivial_pre_omega); (focus decide)))
local macro_rules | `(tactic| infer_instance) => `(tactic| first
  | with_reducible assumption
  | exact DpAll.nil
  | (apply DpAll.cons; (focus infer_instance); (focus infer_instance))
  | with_reducible exact Dp.int _
  | exact Dp.int _
  | with_reducible exact Dp.str _
  | exact Dp.bl _
  | exact Dp.non
  | ((with_reducible apply EM.dp_lst); (focus array_get_dec); (focus infer_instance))
  | ((with_reducible apply EM.dp_tup); (focus array_get_dec); (focus infer_instance))
  | exact EM.dp_ints _)
local macro_rules | `(tactic| nofun) => `(tactic| first
  | with_reducible assumption
  | exact EM.FeL.nil
  | exact EM.FdL.nil
  | (apply EM.FeL.cons; (focus nofun); (focus nofun))
  | (apply EM.FdL.cons; (focus nofun); (focus nofun))
  | exact EM.Fe.int _
  | exact EM.Fe.bool _
  | exact EM.Fe.non
  | exact EM.Fe.str (EM.okS_of _)
  | (apply EM.Fe.str; apply EM.Fd.ok; (focus nofun))
  | (apply EM.Fe.list; (focus nofun))
  | (apply EM.Fe.tup; (focus nofun))
  | (apply EM.Fd.int; (focus decreasing_trivial_pre_omega))
  | exact EM.Fd.bool _
  | exact EM.Fd.non
  | (refine EM.Fd.bool _)
  | (apply EM.Fd.list; (focus nofun))
  | (apply EM.Fd.tup; (focus nofun)))
local macro_rules | `(tactic| array_mem_dec) => `(tactic| ((with_reducible refine EM.pr ?_); first
  | (with_reducible refine L2.iteT ?_)
  | (with_reducible refine L2.iteF ?_)
  | (with_reducible refine EM.ifNotT ?_)
  | (with_reducible refine EM.ifNotF ?_)
  | ((fail_if_success (with_reducible refine EM.gIf ?_)); first
  | array_get_dec
  | (refine EM.mk_low (by with_reducible assumption) (by with_reducible assumption) ?_ ?_; (focus array_get_dec))
  | (apply EM.isNum_sw; (focus sizeOf_list_dec))
  | (apply EM.of_sw; (focus (with_reducible assumption)); (focus sizeOf_list_dec))
  | (apply EM.neg_bs; (focus (with_reducible assumption)); (focus sizeOf_list_dec); (focus array_get_dec); (focus array_get_dec))
  | (apply EM.relw_bs; (focus (with_reducible assumption)); (focus sizeOf_list_dec); (focus sizeOf_list_dec); (focus array_get_dec); (focus decreasing_trivial_pre_omega); (focus decreasing_trivial_pre_omega); (focus decreasing_trivial_pre_omega); (focus decreasing_trivial_pre_omega))
  | ((apply EM.DnS.bs); (focus (with_reducible assumption)); (focus (intro _ z; cases z; done)))
  | ((apply EM.seqL); (focus sizeOf_list_dec))
  | ((apply EM.seqT); (focus sizeOf_list_dec))
  | ((apply EM.lenL); (focus sizeOf_list_dec))
  | ((apply EM.lenT); (focus sizeOf_list_dec))
  | ((apply EM.isSeqL); (focus sizeOf_list_dec); (focus sizeOf_list_dec))
  | ((apply EM.isSeqT); (focus sizeOf_list_dec); (focus sizeOf_list_dec))
  | ((apply EM.tupL); (focus sizeOf_list_dec))
  | ((apply EM.fld_bs); (focus sizeOf_list_dec); (focus (exact Tx.cl_Reading (by assumption))); (focus (exact Tx.na_Reading_own_edges (by assumption))); (focus (exact rfl)))
  | ((apply EM.rdg_bs); (focus sizeOf_list_dec))
  | ((apply EM.mk1_bs); (focus (with_reducible assumption)))
  | (with_reducible apply EM.NeS.mk')
  | ((with_reducible refine EM.New.bs (by with_reducible assumption) ?_ ?_); (focus (intro _ z; cases z; done)))
  | ((with_reducible refine EM.gMu ?_); (with_reducible apply EM.mu_bs); (focus (with_reducible assumption)); (focus sizeOf_list_dec); (focus (apply EM.nel2; (focus (with_reducible assumption)); (focus (with_reducible assumption)))); intro _ _ _)
  | intro _
  | (apply And.intro; (focus array_get_dec))
  | apply Exists.intro
  | (refine EM.draw_bs (by with_reducible assumption) ?_ ?_ ?_ ?_; (focus array_get_dec); (focus array_get_dec); (focus (first | decide | omega)))
  | (apply EM.pick_int; (focus (with_reducible assumption)); (focus array_get_dec); (focus sizeOf_list_dec); (focus ((repeat' (first | exact EM.AllI.nil | apply EM.AllI.cons)); done)); (focus (exact Nat.le_of_ble_eq_true rfl)); (focus (exact Nat.le_of_ble_eq_true rfl)))
  | (apply EM.pick_bs; (focus (with_reducible assumption)); (focus array_get_dec); (focus sizeOf_list_dec); (focus (exact Nat.le_of_ble_eq_true rfl)); (focus (exact Nat.le_of_ble_eq_true rfl)))
  | ((apply EM.repr_sw); (focus infer_instance); (focus nofun); (focus decide))
  | ((apply EM.eqd_same); (focus infer_instance); (focus infer_instance); (focus nofun); (focus decide))
  | ((apply EM.ned_same); (focus infer_instance); (focus infer_instance); (focus nofun); (focus decide))
  | ((apply EM.eqd_sw); (focus infer_instance); (focus infer_instance); (focus nofun); (focus nofun); (focus decide))
  | ((apply EM.ned_sw); (focus infer_instance); (focus infer_instance); (focus nofun); (focus nofun); (focus decide))
  | (refine EM.cut_bs (by with_reducible assumption) ?_ ?_ ?_; (focus array_get_dec); (focus array_get_dec)))))
section
variable {P : Program} {w : World} {K : PySem.W.Frag} {mg : Str → Option Value} {base : Heap}
theorem ok_law (T : Tx K mg) (TB : ∀ p ∈ cs K, LamX.TabB base mg p.1 p.2) : FnG P w K mg base (L2.CX P w) 24 (He.ga K "law") (spLaw K) := by
  obtain ⟨fd, F⟩ := T.d_law
  refine EM.fngC F sc_law (fun _ _ _ _ _ _ us hl => match us, hl with | [_], _ => rfl) (fun vs H Q E h => ?_) (fun A outer s H vs Q E hr hG h => ?_)
  · obtain ⟨a, ns, rfl, _⟩ := h
    rfl
  · obtain ⟨a, ns, rfl, hS, hl, ht, k⟩ := h
    have hu70 : (A.deeper (envOfC "law" (defScope s_law) s.heap.objs.size (He.ga K "law") (codeV K (He.ga K "law")))).units + 70 < cLine := by have := hr.un; omega
    obtain ⟨fdh, Fh⟩ := T.d_Lheard
    have TBm : LamX.TabB base mg (cA K (He.ga K "law")) (tA K (He.ga K "law")) := TB _ (.tail _ (.head _))
    have hcode : codeV K (He.ga K "law") = .ref (cA K (He.ga K "law")) := T.t_law.code
    have tb0 : LamX.Tabs (tabs K) H := by
      intro q hq
      simp only [tabs, List.mem_cons, List.not_mem_nil, or_false] at hq
      rcases hq with rfl | rfl
      · exact LamX.TabS.nil (ht (cA K (He.ga K "_law_right"), tA K (He.ga K "_law_right")) (.head _))
      · exact LamX.TabS.nil (ht (cA K (He.ga K "law"), tA K (He.ga K "law")) (.tail _ (.head _)))
    refine ⟨_, (PSs.nox (pss_cons (ps_set (i := 1) sc_law.nd rfl (Or.inr rfl) (EM.pe_cR ((ok_Lpen T).sw) (hr.mono (by decide)) T.k__law_pen T.g__law_pen passL (pa_cons (pv 0) pa_nil)))
 (pss_cons (EM.forN (ps_for PassesOwn.never rfl (pi_range1 (by rfl) T.f_range (pa_cons pe_int pa_nil)).mc (pg_name (i := 2) sc_law.nd rfl (Or.inl rfl))
  (pss_cons (ps_set (i := 3) sc_law.nd rfl (Or.inl rfl) (EM.pe_cR ((ok_Lpick T).sw) (hr.mono (by decide)) T.k__law_pick T.g__law_pick passL (pa_cons (pv 1) (pa_cons (EM.pe_lstN (pa_cons pe_int (pa_cons pe_int (pa_cons pe_int (pa_cons pe_int (pa_cons pe_int (pa_cons pe_int (pa_cons pe_int (pa_cons pe_int (pa_cons pe_int (pa_cons pe_int (pa_cons pe_int (pa_cons pe_int (pa_cons pe_int pa_nil)))))))))))))) pa_nil))))
 (pss_cons (ps_set (i := 4) sc_law.nd rfl (Or.inl rfl) (EM.pe_cR ((ok_Lbent T).sw) (hr.mono (by decide)) T.k__law_bent T.g__law_bent passL (pa_cons (pv 1) (pa_cons (EM.lcN (pe_lc (own := [("_law_one", 5)]) (g := gName 5) (te := mcE (tTupN (tCons (tVar 5) (tCons (tCR (Sw (spPassF K)) E0 (tCons (tVar 1) (tCons (tVar 5) tNil))) tNil)))) rfl sc_law.nd (EM.pi_seqN (EM.pe_cR ((ok_Lrow T).sw) (hr.mono (by decide)) T.k__law_row T.g__law_row passL (pa_cons (pv 1) (pa_cons (pv 3) pa_nil)))).mc (blkOk_by (N := ["_law_script", "_law_pen_here", "_law_turn", "_law_many", "_law_items", "_law_one", "_law_things", "_law_due_here", "_law_item", "_law_told", "_law_row_here", "_law_odd", "_law_plain"]) (sc := defScope s_law) (by decide +kernel)) (fun _ _ _ _ _ => (pg_name (i := 5) sc_law.nd rfl (Or.inl rfl))) (fun _ _ _ _ _ => pts_nil) (fun _ _ _ _ _ => (PE.mc (EM.pe_tupN (pa_cons (pv 5) (pa_cons (EM.pe_cR ((ok_Lpassed T).sw) (hr.mono (by decide)) T.k__law_passed T.g__law_passed passL (pa_cons (pv 1) (pa_cons (pv 5) pa_nil))) pa_nil))))))) pa_nil))))
 (pss_cons (ps_asg (EM.pe_tupN (pa_cons (EM.lcN (pe_lc (own := [("_law_item", 8)]) (g := gName 8) (te := mcE (tOp (rIxT K) (tVar 8) (tC (.int 1)))) rfl sc_law.nd (EM.pi_seqN (pv 4)).mc (blkOk_by (N := ["_law_script", "_law_pen_here", "_law_turn", "_law_many", "_law_items", "_law_one", "_law_things", "_law_due_here", "_law_item", "_law_told", "_law_row_here", "_law_odd", "_law_plain"]) (sc := defScope s_law) (by decide +kernel)) (fun _ _ _ _ _ => (pg_name (i := 8) sc_law.nd rfl (Or.inl rfl))) (fun _ _ _ _ _ => pts_nil) (fun _ _ _ _ _ => (PE.mc (pe_ix ix_tup (pv 8) pe_int (fun _ _ => rfl)))))) (pa_cons (EM.pe_cR ((ok_Ldue T).sw) (hr.mono (by decide)) T.k__law_due T.g__law_due passL (pa_cons (pv 4) pa_nil)) pa_nil))) (pg_tup (by rfl) (pgs_cons (pg_name (i := 6) sc_law.nd rfl (Or.inr rfl)) (pgs_cons (pg_name (i := 7) sc_law.nd rfl (Or.inr rfl)) pgs_nil))))
 (pss_cons (ps_set (i := 9) sc_law.nd rfl (Or.inl rfl) (EM.pe_lstN (pa_cons (EM.pe_lamG (T := tabs K) (TT := TTh K) (t := fun E => ClX.tCMeth (He.ga K "Reading") (Sw (spOfG K)) E (tC (.ref (He.ga K "Reading"))) (tCons (tVar 6) tNil)) (c := cA K (He.ga K "law")) (P := tA K (He.ga K "law")) (k := 13) Fh T.g__law_heard (fun _ _ _ _ _ _ us hl => match us, hl with | [_], _ => rfl) sc_Lheard rfl (Or.inl rfl) hG (gives_heard T _) TBm hcode (by exact .tail _ (.head _)) (tabs_u T (tA K (He.ga K "law"), lamN "law") (.tail _ (.head _))) (hr.mono (by decide)) (LamX.lamS_by (sc := defScope s_law) (by decide +kernel)) rfl (fun _ _ _ _ _ => rfl) (fun A outer s H E f c2 hr2 hG2 => (ClX.pe_cmeth (pe_glob (v := .ref (He.ga K "Reading")) (by rfl) T.g_Reading rfl) T.cr_Reading T.cm_Reading_of (ok_Reading_ofG T).sw (hr2.mono (by decide)) (passes_call (takes_of (E := E) rfl rfl rfl rfl) (fun _ _ _ _ h => h)) (pa_cons (pv 6) pa_nil)))) pa_nil)))
 (pss_cons (ps_expr (EM.pe_appN (pv 9) (EM.pe_lamG (T := tabs K) (TT := TTh K) (t := fun E => tCMethK (He.ga K "Reading") (Sw2 (fun vs zs H Q E => vs.length = 1 ∧ zs.length = ["edges"].length ∧ spOfG K (vs ++ zs) H Q E)) E (tC (.ref (He.ga K "Reading"))) (tCons (tCB (Sr EM.rTupN) (tCons (tVar 6) tNil)) tNil)) (c := cA K (He.ga K "law")) (P := tA K (He.ga K "law")) (k := 13) Fh T.g__law_heard (fun _ _ _ _ _ _ us hl => match us, hl with | [_], _ => rfl) sc_Lheard rfl (Or.inl rfl) hG (gives_heard T _) TBm hcode (by exact .tail _ (.head _)) (tabs_u T (tA K (He.ga K "law"), lamN "law") (.tail _ (.head _))) (hr.mono (by decide)) (LamX.lamS_by (sc := defScope s_law) (by decide +kernel)) rfl (fun _ _ _ _ _ => rfl) (fun A outer s H E f c2 hr2 hG2 => (EM.pe_cmK (pe_glob (v := .ref (He.ga K "Reading")) (by rfl) T.g_Reading rfl) T.cr_Reading T.cm_Reading_of (ok_Reading_ofGK T).sw (hr2.mono (by decide)) (passes_call (takes_of (E := E) rfl rfl rfl rfl) (fun _ _ _ _ h => h)) (pk_cons (pe_callTy EM.call_tupN (by rfl) T.f_tuple (by decide +kernel) (pa_cons (pv 6) pa_nil)) pk_nil))))))
 (pss_cons (ps_if (pt_cmpR op_lt (pv 3) pe_int (nomark _))
  (pss_one (ps_expr (EM.pe_appN (pv 9) (EM.pe_lamG (T := tabs K) (TT := TTh K) (t := fun E => tCR (Sw (spArgs K)) E (tCons (tVar 6) tNil)) (c := cA K (He.ga K "law")) (P := tA K (He.ga K "law")) (k := 14) Fh T.g__law_heard (fun _ _ _ _ _ _ us hl => match us, hl with | [_], _ => rfl) sc_Lheard rfl (Or.inl rfl) hG (gives_heard T _) TBm hcode (by exact .tail _ (.head _)) (tabs_u T (tA K (He.ga K "law"), lamN "law") (.tail _ (.head _))) (hr.mono (by decide)) (LamX.lamS_by (sc := defScope s_law) (by decide +kernel)) rfl (fun _ _ _ _ _ => rfl) (fun A outer s H E f c2 hr2 hG2 => (EM.pe_cR (ok_Lby_args T).sw (hr2.mono (by decide)) T.k__law_by_args T.g__law_by_args (passes_call (takes_of (E := E) rfl rfl rfl rfl) (fun _ _ _ _ h => h)) (pa_cons (pv 6) pa_nil))))))) pss_nil)
 (pss_cons (ps_if (PW.pt (pw_and (pt_cmpR op_notN (pv 7) pe_non (nomark _)) (pw_and1 (pt_cmpR (EM.op_neNil hr.units) (EM.lcN (pe_lc (own := [("_law_one", 5)]) (g := gName 5) (tt := tTest (tOp NeS (tCB (RpE K) (tCons (tVar 5) tNil)) (tCB (RpE K) (tCons (tVar 7) tNil)))) rfl sc_law.nd (EM.pi_seqN (pv 9)).mc (blkOk_by (N := ["_law_script", "_law_pen_here", "_law_turn", "_law_many", "_law_items", "_law_one", "_law_things", "_law_due_here", "_law_item", "_law_told", "_law_row_here", "_law_odd", "_law_plain"]) (sc := defScope s_law) (by decide +kernel)) (fun _ _ _ _ _ => (pg_name (i := 5) sc_law.nd rfl (Or.inl rfl))) (fun _ _ _ _ _ => (pts_one (pt_cmpR op_neS (pe_callB (call_sh T hG (hr.mono (by decide)) hu70) (by rfl) T.f_repr (by decide +kernel) (pa_cons (pv 5) pa_nil)) (pe_callB (call_sh T hG (hr.mono (by decide)) hu70) (by rfl) T.f_repr (by decide +kernel) (pa_cons (pv 7) pa_nil)) (nomark _)))) (fun _ _ _ _ _ => (PE.mc (pv 5))))) (EM.pe_lstN pa_nil) (nomark _)))))
  (pss_one (ps_ret pe_bl)) pss_nil)
 (pss_cons (ps_expr (EM.pe_appN (pv 6) pe_int))
 (pss_one (ps_if (pt_cmpR op_isN (pv 7) pe_non (nomark _))
  (pss_cons (ps_set (i := 10) sc_law.nd rfl (Or.inr rfl) (EM.lcN (pe_lc (own := [("_law_item", 8)]) (g := gName 8) (te := mcE (tOp (rIxT K) (tVar 8) (tC (.int 0)))) rfl sc_law.nd (EM.pi_seqN (pv 4)).mc (blkOk_by (N := ["_law_script", "_law_pen_here", "_law_turn", "_law_many", "_law_items", "_law_one", "_law_things", "_law_due_here", "_law_item", "_law_told", "_law_row_here", "_law_odd", "_law_plain"]) (sc := defScope s_law) (by decide +kernel)) (fun _ _ _ _ _ => (pg_name (i := 8) sc_law.nd rfl (Or.inl rfl))) (fun _ _ _ _ _ => pts_nil) (fun _ _ _ _ _ => (PE.mc (pe_ix ix_tup (pv 8) pe_int (fun _ _ => rfl)))))))
 (pss_cons (ps_if (pt_cmpR (EM.op_neNil hr.units) (EM.lcN (pe_lc (own := [("_law_one", 5)]) (g := gName 5) (tt := tOr (tTest (tOp NeS (tOp (rIxT K) (tVar 5) (tC (.int 0))) (tC (.str "told")))) (tNot (tB (tCR (Sw (spRight K)) E0 (tCons (tOp (rIxT K) (tVar 5) (tC (.int 1))) (tCons (tVar 10) tNil)))))) rfl sc_law.nd (EM.pi_seqN (pv 9)).mc (blkOk_by (N := ["_law_script", "_law_pen_here", "_law_turn", "_law_many", "_law_items", "_law_one", "_law_things", "_law_due_here", "_law_item", "_law_told", "_law_row_here", "_law_odd", "_law_plain"]) (sc := defScope s_law) (by decide +kernel)) (fun _ _ _ _ _ => (pg_name (i := 5) sc_law.nd rfl (Or.inl rfl))) (fun _ _ _ _ _ => (pts_one (PW.pt (pw_or (pt_cmpR op_neS (pe_ix ix_tup (pv 5) pe_int (fun _ _ => rfl)) pe_str (nomark _)) (pw_or1 (pt_not (pt_val (EM.pe_cG ((ok_Lright T TB).sw) (hr.mono (by decide)) hG T.k__law_right T.g__law_right passL (pa_cons (pe_ix ix_tup (pv 5) pe_int (fun _ _ => rfl)) (pa_cons (pv 10) pa_nil)))))))))) (fun _ _ _ _ _ => (PE.mc (pv 5))))) (EM.pe_lstN pa_nil) (nomark _))
  (pss_one (ps_ret pe_bl)) pss_nil)
 (pss_one (ps_if (pt_not (pt_val (EM.pe_cR ((ok_Lalike_right T).sw) (hr.mono (by decide)) T.k__law_alike_right T.g__law_alike_right passL (pa_cons (pv 1) (pa_cons (pe_ix ix_tup (pe_ix ix_list (pv 9) pe_int (fun _ _ => rfl)) pe_int (fun _ _ => rfl)) (pa_cons (pv 10) pa_nil))))))
  (pss_one (ps_ret pe_bl)) pss_nil)))) pss_nil))))))))))))
 (pss_cons (EM.forN (ps_for PassesOwn.never rfl (EM.pi_seqN (EM.pe_lstN (pa_cons pe_non (pa_cons pe_str (pa_cons (EM.pe_dnewN) (pa_cons pe_int (pa_cons pe_bl (pa_cons (pe_mkRP T (hr.mono (by decide)) passL (pa_cons pe_int (pa_cons pe_int (pa_cons pe_int (pa_cons pe_int pa_nil))))) (pa_cons (pe_mkM12 T (hr.mono (by decide)) (pa_cons pe_int (pa_cons pe_int (pa_cons pe_int pa_nil)))) pa_nil))))))))).mc (pg_name (i := 11) sc_law.nd rfl (Or.inr rfl))
  (pss_one (ps_if (pt_cmpR op_neS (pe_callB (call_sh T hG (hr.mono (by decide)) hu70) (by rfl) T.f_repr (by decide +kernel) (pa_cons (EM.pe_lamG (T := tabs K) (TT := TTh K) (t := fun E => ClX.tCMeth (He.ga K "Reading") (Sw (spOfG K)) E (tC (.ref (He.ga K "Reading"))) (tCons (tVar 11) tNil)) (c := cA K (He.ga K "law")) (P := tA K (He.ga K "law")) (k := 13) Fh T.g__law_heard (fun _ _ _ _ _ _ us hl => match us, hl with | [_], _ => rfl) sc_Lheard rfl (Or.inl rfl) hG (gives_heard T _) TBm hcode (by exact .tail _ (.head _)) (tabs_u T (tA K (He.ga K "law"), lamN "law") (.tail _ (.head _))) (hr.mono (by decide)) (LamX.lamS_by (sc := defScope s_law) (by decide +kernel)) rfl (fun _ _ _ _ _ => rfl) (fun A outer s H E f c2 hr2 hG2 => (ClX.pe_cmeth (pe_glob (v := .ref (He.ga K "Reading")) (by rfl) T.g_Reading rfl) T.cr_Reading T.cm_Reading_of (ok_Reading_ofG T).sw (hr2.mono (by decide)) (passes_call (takes_of (E := E) rfl rfl rfl rfl) (fun _ _ _ _ h => h)) (pa_cons (pv 11) pa_nil)))) pa_nil)) (pe_callB (call_sh T hG (hr.mono (by decide)) hu70) (by rfl) T.f_repr (by decide +kernel) (pa_cons (EM.pe_tupN (pa_cons pe_str (pa_cons pe_non pa_nil))) pa_nil)) (nomark _))
  (pss_one (ps_ret pe_bl)) pss_nil))))
 (pss_cons (ps_set (i := 12) sc_law.nd rfl (Or.inl rfl) (ClX.pe_cmeth (pe_glob (v := .ref (He.ga K "Reading")) (by rfl) T.g_Reading rfl) T.cr_Reading T.cm_Reading_of (ok_Reading_of T).sw (hr.mono (by decide)) passL (pa_cons (EM.pe_tupN (pa_cons pe_int (pa_cons (pe_mkR1 T (hr.mono (by decide)) (pa_cons pe_int pa_nil)) (pa_cons pe_int (pa_cons (pe_mkN_ T (hr.mono (by decide)) (pa_cons pe_int (pa_cons pe_int pa_nil))) pa_nil))))) pa_nil)))
 (pss_one (ps_ret (pe_and (pe_cmpR (op_eqRd T (hr.mono (by decide))) (pe_mkRP T (hr.mono (by decide)) passL (pa_cons pe_int (pa_cons pe_int (pa_cons pe_int (pa_cons pe_int pa_nil))))) (pv 12) (nomark _)) (pe_one (pe_cmpR (op_eqRd T (hr.mono (by decide))) (EM.pe_cmK (pe_glob (v := .ref (He.ga K "Reading")) (by rfl) T.g_Reading rfl) T.cr_Reading T.cm_Reading_read (ok_Reading_readK T).sw (hr.mono (by decide)) passL (pk_cons pe_str pk_nil)) (pv 12) (nomark _))))))))))), ?_⟩
    refine ⟨_, rfl, ⟨⟨a, ns, rfl, hS, hl, fun p l H1 s1 np P1 => ?_⟩⟩⟩
    have B0 : Bs (tabs K) p l 0 H1 := ⟨P1, tb0.ext s1⟩
    repeat' array_mem_dec
    refine FoS.it walk_range (fun i σ H2 => Hold (∃ v2 v3 v4 v5 v6 v7 v8 v9 v10 v11 v12 : Option V, σ = [some (.ref a), some (.ref p), v2, v3, v4, v5, v6, v7, v8, v9, v10, v11, v12] ∧ Bs (tabs K) p l (1200 * i) H2)) ⟨⟨_, _, _, _, _, _, _, _, _, _, _, rfl, B0⟩⟩ (fun _ _ _ _ _ => trivial) ?_ ?_
    · clear B0 P1 s1 hS np
      rintro i y σ H2 H3 hi ⟨⟨v2, v3, v4, v5, v6, v7, v8, v9, v10, v11, v12, rfl, B2⟩⟩ ⟨rfl, rfl⟩
      have i4 : i < 4 := hi
      repeat' array_mem_dec
      --L1
      rename_i L4 H4 x4 B4 a4 n4 mm H5 hm x5 B5
      obtain ⟨mn, rfl, m130⟩ : ∃ mn : Nat, mm = mn ∧ mn ≤ 130 := by
        simp only [List.mem_cons, List.not_mem_nil, or_false] at hm
        rcases hm with rfl | rfl | rfl | rfl | rfl | rfl | rfl | rfl | rfl | rfl | rfl | rfl | rfl
        · exact ⟨4, rfl, by decide⟩
        · exact ⟨4, rfl, by decide⟩
        · exact ⟨6, rfl, by decide⟩
        · exact ⟨8, rfl, by decide⟩
        · exact ⟨128, rfl, by decide⟩
        · exact ⟨0, rfl, by decide⟩
        · exact ⟨1, rfl, by decide⟩
        · exact ⟨3, rfl, by decide⟩
        · exact ⟨5, rfl, by decide⟩
        · exact ⟨2, rfl, by decide⟩
        · exact ⟨7, rfl, by decide⟩
        · exact ⟨129, rfl, by decide⟩
        · exact ⟨130, rfl, by decide⟩
      clear hm x4 x5 B4 a4 n4 B2 hi
      refine ⟨⟨tabs K, p, l, _, mn, rfl, B5, by omega, m130, fun R zs es H6 hlen hr0 pp x6 B6' aR => ?_⟩⟩
      have hzl := pp.len
      have B6 : Bs (tabs K) p l (1200 * i + 270) H6 := B6'.mono (by omega)
      have f0 : ∀ e ∈ es, FrQ 1000 e := fun e he => (hr0.dv e he).mono (Nat.dvd_mul_left ..) (by omega)
      clear x6 B6' B5 hr0
      repeat' array_mem_dec
      --L2
      rename_i J wk
      refine LcS.lc 2 wk B6 (fun j y H' => Hold (∃ e, es[j]? = some e ∧ ItemQ K p H' y (some e))) (by omega) (fun H' x => aR.eq x) ?_ ?_ (fun j y Ha Hb ⟨⟨e, e1, e2⟩⟩ x => ⟨⟨e, e1, e2.ext x⟩⟩) (fun j y D xs ys Ha Hb ⟨⟨e, e1, e2⟩⟩ m g => ⟨⟨e, e1, e2.mu m g⟩⟩)
      · rintro j y K2 K3 hk y2 C2 ⟨rfl, hv⟩
        obtain ⟨e, ee⟩ : ∃ e, es[j]? = some e := ⟨_, List.getElem?_eq_getElem (by omega)⟩
        obtain ⟨qe, eq, aq⟩ := (pp.ext y2).get ee
        cases (hv.symm.trans eq)
        repeat' array_mem_dec
        refine pass_bs C2 (by omega) aq (f0 e (List.mem_of_getElem? ee)) (by decide) fun v K4 nv xk Bk => ?_
        have aq4 := aq.ext xk
        repeat' array_mem_dec
        --L3
        rename_i t5 K5 x5 B5 a5 n5
        exact ⟨⟨e, ee, t5, _, _, rfl, a5, ⟨qe, rfl, aq4.ext x5⟩, NumP.ext x5 nv⟩⟩
      rintro D ys H7 hD hyl hf x7 B7' aD
      have it0 : ItemsQ K p H7 1000 ys (es.map some) := ⟨by rw [List.length_map]; omega, fun j y o e1 e2 => by
        obtain ⟨⟨e, e3, q⟩⟩ := hf j y e1
        rw [List.getElem?_map, e3] at e2
        cases e2
        exact q, fun e he => by
        obtain ⟨e', he', z⟩ := List.mem_map.mp he
        cases z
        exact f0 e he'⟩
      have B7 : Bs (tabs K) p l (1200 * i + 530) H7 := B7'.mono (by omega)
      clear hf B7' wk aR pp x7 hD B6 f0
      repeat' array_mem_dec
      --L4
      refine bent_bs B7 (by omega) aD it0 (by rw [List.length_map]; omega) fun Z zs1 os H8 x8 B8' aZ it hol => ?_
      have hlo : os.length ≤ 130 := by rw [hol, List.length_map]; omega
      have hzo := it.len
      have B8 : Bs (tabs K) p l (1200 * i + 550) H8 := B8'.mono (by omega)
      have hom : os.length = mn := by rw [hol, List.length_map, hlen]
      clear it0 aD B7 B8' x8 hol hyl
      repeat' array_mem_dec
      --L5
      rename_i J wk
      refine LcS.lc 0 wk B8 (fun j y H' => Hold (∃ o, os[j]? = some o ∧ ItemP K p H' y o)) (by omega) (fun H' x => aZ.eq x) ?_ ?_ (fun j y Ha Hb ⟨⟨e, e1, e2⟩⟩ x => ⟨⟨e, e1, e2.ext x⟩⟩) (fun j y D xs ys Ha Hb ⟨⟨e, e1, e2⟩⟩ m g => ⟨⟨e, e1, e2.mu m g⟩⟩)
      · rintro j y K2 K3 hk y2 C2 ⟨rfl, hv⟩
        obtain ⟨o, eo⟩ : ∃ o, os[j]? = some o := ⟨_, List.getElem?_eq_getElem (by omega)⟩
        obtain ⟨y', ey, t, fv, v, rfl, aT, of, iv⟩ := (it.ext y2).get eo
        cases (hv.symm.trans ey)
        repeat' array_mem_dec
        --L6
        exact ⟨⟨o, eo, iv⟩⟩
      rintro Th ts H9 nTh htl hf x9 B9' aTh
      have itp : ItemsP K p H9 ts os := ⟨by omega, fun j v o e1 e2 => by
        obtain ⟨⟨o', e3, q⟩⟩ := hf j v e1
        rw [e2] at e3
        cases e3
        exact q⟩
      have B9 : Bs (tabs K) p l (1200 * i + 550) H9 := B9'.mono (by omega)
      have tsl : ts.length ≤ 130 := by have := itp.len; omega
      have obt : ∀ e, some e ∈ os → Low e.1 e.2 ∧ Bt 2000 e.1 ∧ Bt 2000 e.2 := fun e he => ⟨(it.b e he).low, (it.b e he).b2 (by decide)⟩
      have aZ9 := aZ.ext x9
      have it9 := it.ext x9
      clear hf B9' wk htl
      repeat' array_mem_dec
      --L7
      refine dueP_bs B9 aZ9 it9 hlo fun dv HA dp xA BA => ?_
      have aThA := aTh.ext xA
      have itpA := itp.ext xA
      have x8A := x9.trans xA
      clear aZ9 it9 aTh itp B9 xA x9
      repeat' array_mem_dec
      --L8
      rename_i qp HB xB BB aP nP
      refine ⟨BB.tab, fun HC eC tC_ => ?_⟩
      have xAC : Ext p HA HC := xB.trans (Ext.extN eC)
      have BC := BB.ext eC tC_
      have aThC := aThA.ext xAC
      have itpC := itpA.ext xAC
      have x8C := x8A.trans xAC
      have dpC := dp.ext xAC
      clear xB BB aP nP eC tC_ xAC aThA itpA x8A dp BA
      intro E' hE
      repeat' array_mem_dec
      --L9
      refine ⟨⟨tabs K, p, l, _, _, .ref Th, rfl, BC, .inl ⟨Th, ts, os, rfl, .inl aThC, itpC, obt, by omega, out_heard hE fun u1 HD tv1 xD BD => ?_⟩⟩⟩
      clear hE
      repeat' array_mem_dec
      --L10
      rename_i L HE_ xE BE aL nL
      refine ⟨BE.tab, fun HF eF tF => ?_⟩
      have xDF := xE.trans (Ext.extN eF)
      have BF := BE.ext eF tF
      have xCF := xD.trans xDF
      have aThF := aThC.ext xCF
      have itpF := itpC.ext xCF
      have aLF := aL.ext (Ext.extN eF)
      clear eF tF BE aL xE
      intro E' hE
      repeat' array_mem_dec
      --L11
      rename_i qt HG xG BG aG nG
      refine ⟨⟨rfl, rfl, tabs K, p, l, _, _, .ref qt, rfl, BG, .inl ⟨qt, ts, os, rfl, .inr aG, itpF.ext xG, obt, by omega, out_heard hE fun u2 HI tv2 xI BI => ?_⟩⟩⟩
      have aLI := aLF.ext (xG.trans xI)
      have xDI := xDF.trans (xG.trans xI)
      clear hE aG nG BG BF aThF itpF aLF xDF xG xI xCF
      repeat' array_mem_dec
      --L12
      rename_i HJ mu BJ
      have xDJ : Ext p HD HJ := Ext.mu Ext.refl nL xDI mu
      have tv1J := tv1.ext xDJ
      have tv2J := tv2.mu mu aLI
      have aLJ : At p HJ L (.lst [u1, u2]) := mu.here aLI
      have xCJ := xD.trans xDJ
      have aThJ := aThC.ext xCJ
      have itpJ := itpC.ext xCJ
      have dpJ := dpC.ext xCJ
      have x8J := x8C.trans xCJ
      have LTh : L ≠ Th := fun z => by
        have := (aThC.ext xD).at_
        rw [← z, nL] at this
        cases this
      have x8D := x8C.trans xD
      have aThD := aThC.ext xD
      have dpD := dpC.ext xD
      clear mu tv1 tv2 aLI xDI xD xCJ aThC itpC dpC x8C BC BI
      refine ifs2 (fun σ' H' => ∃ us, σ' = [some (.ref a), some (.ref p), some (.int (0 + (i : Int))), some (.int (mn : Int)), some (.ref Z), v5, some (.ref Th), some dv, v8, some (.ref L), v10, v11, v12] ∧ At p H' L (.lst (u1 :: us)) ∧ (∀ u ∈ (u1 :: us), ToldP K p H' os u) ∧ us.length ≤ 2 ∧ Ext p H8 H' ∧ At p H' Th (.lst ts) ∧ DueP p H' os dv ∧ Bs (tabs K) p l (1200 * i + 550) H') (fun σ' HK h => ?_) (fun D' rest c => ?_) (fun c => ?_)
      · obtain ⟨us, rfl, aLK, tvs, usl, x8K, aThK, dpK, BK⟩ := h
        clear tv1J tv2J aLJ xDJ aThJ itpJ dpJ x8J BJ BD nL
        rcases dpK with ⟨dn, rfl⟩ | ⟨ds, dw, dq, de, rfl, ad⟩
        · repeat' array_mem_dec
          --L20
          refine ifN (by rfl) ?_
          repeat' array_mem_dec
          --L21
          obtain ⟨es2, eo2, rq, okl⟩ := due_row it dn
          rename_i HL mu BL
          have x8L : Ext p H8 HL := Ext.mu Ext.refl nTh x8K mu
          have aLL : At p HL L (.lst (u1 :: us)) := mu.at_n aLK LTh
          have tvsL : ∀ u ∈ (u1 :: us), ToldP K p HL os u := fun u hu => (tvs u hu).mu mu aThK
          have aZL := aZ.ext x8L
          have itL := it.ext x8L
          have hz2 : zs1.length = es2.length := by rw [hzo, eo2, List.length_map]
          clear mu tvs aLK aThK x8K BK
          refine ifP (by rfl) ?_
          repeat' array_mem_dec
          --L22
          rename_i J2 wk2
          refine LcS.lc 0 wk2 BL (fun j y H' => Hold (∃ e q, es2[j]? = some e ∧ y = .ref q ∧ At p H' q (.tup [.int e.1, .int e.2]))) (by omega) (fun H' x => aZL.eq x) ?_ ?_ (fun j y Ha Hb ⟨⟨f, a, e1, e2, e3⟩⟩ x => ⟨⟨f, a, e1, e2, e3.ext x⟩⟩) (fun j y D xs ys Ha Hb ⟨⟨f, a, e1, e2, e3⟩⟩ m g => ⟨⟨f, a, e1, e2, m.at_k e3 g (by intro _ z; cases z)⟩⟩)
          · rintro j y K2 K3 hk y2 C2 ⟨rfl, hv⟩
            obtain ⟨e, ee⟩ : ∃ e, es2[j]? = some e := ⟨_, List.getElem?_eq_getElem (by omega)⟩
            obtain ⟨y', ey, t, fv, v, rfl, aT, of, iv⟩ := (itL.ext y2).get (i := j) (o := some e) (by rw [eo2, List.getElem?_map, ee]; rfl)
            cases (hv.symm.trans ey)
            obtain ⟨q, rfl, aq⟩ := of
            repeat' array_mem_dec
            --L23
            exact ⟨⟨e, q, ee, rfl, aq⟩⟩
          rintro RW rs HM nRW hrl hf xM BM' aRW
          have ppM : PairsP p HM rs es2 := ⟨by omega, fun j x t e1 e2 => by
            obtain ⟨⟨f, a, e3, e4, nv⟩⟩ := hf j x e1
            rw [e2] at e3
            cases e3
            exact ⟨a, e4, nv⟩⟩
          have BM : Bs (tabs K) p l (1200 * i + 550) HM := BM'.mono (by omega)
          have aLM := aLL.ext xM
          have tvsM : ∀ u ∈ (u1 :: us), ToldP K p HM os u := fun u hu => (tvsL u hu).ext xM
          clear hf BM' wk2 aZL itL tvsL aLL xM BL
          repeat' array_mem_dec
          --L24
          rename_i J3 wk3
          refine LcS.lcP wk3 BM (fun i acc => acc = []) rfl (by simp only [List.length_cons]; omega) (fun H' x => aLM.eq x) ?_ ?_
          · rintro j y acc Hx Hy Rf Rt hj rfl x1 B1 ⟨rfl, hv⟩ hRf hRt
            rcases (tvsM y (List.mem_of_getElem? hv)).ext x1 with ⟨s, w, q, e, _, _⟩ | ⟨_, q, r, rq2, es3, rfl, aq, rd, e3⟩
            · rw [dn] at e
              cases e
            have e4 : es3 = es2 := (List.map_inj_right (fun _ _ z => Option.some.inj z)).mp (e3.symm.trans eo2)
            subst e4
            have aRW1 := aRW.ext x1
            have ppM1 := ppM.ext x1
            repeat' array_mem_dec
            --L25
            refine EM.NeS.mk' ?_
            repeat' array_mem_dec
            --L251
            refine right_bs B1 rd aRW1 ppM1 (fun e he => (rq.dv e he).b19 (by decide)) okl.2.2 fun H3 x3 B3 => ?_
            repeat' array_mem_dec
            --L26
            exact hRf H3 x3 B3 rfl
          · rintro Dl ys4 HN hD rfl hlen4 x1 B1 aD
            have aRW1 := aRW.ext x1
            have ppM1 := ppM.ext x1
            have aLN := aLM.ext x1
            have tu := (tvsM u1 List.mem_cons_self).ext x1
            clear aRW ppM aLM tvsM wk3 BM x1
            rcases tu with ⟨s, w, q, e, _, _⟩ | ⟨_, q, r, rq2, es3, rfl, aq, rd, e3⟩
            · rw [dn] at e
              cases e
            have e4 : es3 = es2 := (List.map_inj_right (fun _ _ z => Option.some.inj z)).mp (e3.symm.trans eo2)
            subst e4
            have i0 : atI (V.ref q :: us) 0 = some (.ref q) := at_of (j := 0) rfl rfl
            repeat' array_mem_dec
            --L27
            rename_i qe HP xP BP aP nP
            have rdP2 := rd.ext xP
            have aRWP := aRW1.ext xP
            have ppMP := ppM1.ext xP
            have aLP := aLN.ext xP
            have aqP := aq.ext xP
            clear rd aRW1 ppM1 aLN aq aP nP B1 xP aD
            refine ifN (by rfl) ?_
            repeat' array_mem_dec
            --L271
            refine alike_bs BP (by omega) rdP2 aRWP ppMP rq okl fun H4 x4 B4 => ?_
            repeat' array_mem_dec
            --L28
            refine ⟨⟨_, _, _, _, _, _, _, _, _, _, _, rfl, ?_⟩⟩
            --L29
            exact B4.mono (by omega)
        · repeat' array_mem_dec
          --L30
          refine ifP (by rfl) ?_
          repeat' array_mem_dec
          --L31
          rename_i J3 wk3
          obtain ⟨oz, tsh, sh⟩ := due_shape (K := K) (p := p) (H := HK) hlo de
          refine LcS.lcP wk3 BK (fun i acc => acc = []) rfl (by simp only [List.length_cons]; omega) (fun H' x => aLK.eq x) ?_ ?_
          · rintro j y acc Hx Hy Rf Rt hj rfl x1 B1 ⟨rfl, hv⟩ hRf hRt
            rcases (tvs y (List.mem_of_getElem? hv)).ext x1 with ⟨s, w, q, e, rfl, aq⟩ | ⟨e, _⟩
            · rw [de] at e
              cases e
              repeat' array_mem_dec
              --L32
              refine rpe aq oz (sh.ext x1) ?_
              repeat' array_mem_dec
              --L33
              refine rpe (ad.ext x1) oz (sh.ext x1) ?_
              repeat' array_mem_dec
              --L34
              exact hRf _ Ext.refl B1 rfl
            · rw [de] at e
              cases e
          · rintro Dl ys4 HN hD rfl hlen4 x1 B1 aD
            have aThN := aThK.ext x1
            clear tvs aLK wk3
            repeat' array_mem_dec
            --L35
            refine ifN (by rfl) ?_
            repeat' array_mem_dec
            --L36
            rename_i HL mu BL
            exact ⟨⟨_, _, _, _, _, _, _, _, _, _, _, rfl, BL.mono (by omega)⟩⟩
      · have mn9 : mn < 9 := by
          have := of_decide_eq_true c
          omega
        repeat' array_mem_dec
        --L13
        refine ⟨BJ.tab, fun HM eM tM => ?_⟩
        have xJM : Ext p HJ HM := Ext.extN eM
        have BM := BJ.ext eM tM
        intro E'' hE
        repeat' array_mem_dec
        --L14
        refine ⟨⟨tabs K, p, l, Th, _, ts, os, rfl, BM, aThJ.ext xJM, itpJ.ext xJM, obt, by omega, out_heard hE fun u3 HN tv3 xN BN => ?_⟩⟩
        have aLN := aLJ.ext (xJM.trans xN)
        have xJN := xJM.trans xN
        clear hE eM tM BM
        repeat' array_mem_dec
        --L15
        rename_i HO_ mu BO
        have xDO : Ext p HD HO_ := Ext.mu Ext.refl nL (xDJ.trans xJN) mu
        refine rest _ _ ⟨[u2, u3], rfl, mu.here aLN, fun u hu => ?_, by simp, x8D.trans xDO, aThD.ext xDO, dpD.ext xDO, BO⟩
        simp only [List.mem_cons, List.not_mem_nil, or_false] at hu
        rcases hu with rfl | rfl | rfl
        · exact (tv1J.ext xJN).mu mu aLN
        · exact (tv2J.ext xJN).mu mu aLN
        · exact tv3.mu mu aLN
      · exact ⟨[u2], rfl, aLJ, fun u hu => by
          simp only [List.mem_cons, List.not_mem_nil, or_false] at hu
          rcases hu with rfl | rfl
          · exact tv1J
          · exact tv2J, by simp, x8J, aThJ, dpJ, BJ⟩
    · rintro σ H2 ⟨⟨v2, v3, v4, v5, v6, v7, v8, v9, v10, v11, v12, rfl, B2⟩⟩
      clear B0 P1 s1 np hS
      have B2 : Bs (tabs K) p l 4800 H2 := B2
      repeat' array_mem_dec
      --M1
      rename_i qd H3 x3 B3 ad nd
      refine ⟨⟨tabs K, p, l, _, r4, B3, nums4, row4, ⟨by decide, by decide, by decide⟩, fun r rq H6 x6 B6 rd fr => ?_⟩⟩
      have ad6 := ad.ext x6
      clear x3 B3 ad nd x6 fr
      repeat' array_mem_dec
      --M2
      refine ⟨⟨tabs K, p, l, _, rfl, B6, fun m dxm fsm H7 x7 B7 am => ?_⟩⟩
      have ad7 := ad6.ext x7
      have rd7 := rd.ext x7
      clear ad6 rd x7 B6
      repeat' array_mem_dec
      --M3
      rename_i qz HZ xZ BZ aZ nZ J wk
      obtain ⟨dr, xr, g1, g2, g3⟩ := id rd7
      have odds : ∀ v ∈ [V.non, .str "0 1 2 3", .ref qd, .int 7, .bl true, .ref r, .ref m], ∀ H', Ext p HZ H' → NotSeqT K H' v := fun v hv H' xx => by
        simp only [List.mem_cons, List.not_mem_nil, or_false] at hv
        rcases hv with rfl | rfl | rfl | rfl | rfl | rfl | rfl
        · exact nsq_ty (.base .non) (by simp)
        · exact nsq_ty (.base (.str _)) (by simp)
        · exact nsq_ty (.base (.dK (ad7.ext (xZ.trans xx)).at_)) (by simp)
        · exact nsq_ty (.base (.int _)) (by simp)
        · exact nsq_ty (.base (.bl _)) (by simp)
        · exact ⟨_, isiB_ty T.isi_Reading T.cl_Reading (g1.ext (xZ.trans xx)).at_, kitAny_cons (b := false) T.kit_Reading_list (fun _ => kitAny_cons (b := false) T.kit_Reading_tuple (fun _ => rfl) (fun z => nomatch z)) (fun z => nomatch z)⟩
        · exact ⟨_, isiB_ty T.isi_Mark T.cl_Mark (am.ext (xZ.trans xx)).at_, kitAny_cons (b := false) T.kit_Mark_list (fun _ => kitAny_cons (b := false) T.kit_Mark_tuple (fun _ => rfl) (fun z => nomatch z)) (fun z => nomatch z)⟩
      clear ad7 rd7 g1 g2 g3 am xZ nZ B7
      refine FoS.it wk (fun i σ H4 => Hold (∃ w11 : Option V, σ = [some (.ref a), some (.ref p), v2, v3, v4, v5, v6, v7, v8, v9, v10, w11, v12] ∧ Ext p HZ H4 ∧ Bs (tabs K) p l 4800 H4)) ⟨⟨_, rfl, Ext.refl, BZ⟩⟩ (fun i σ H4 _ ⟨⟨_, _, x, _⟩⟩ => aZ.eq x) ?_ ?_
      · rintro i y σ H4 H5 hi ⟨⟨w11, rfl, x4, B4⟩⟩ ⟨rfl, hv⟩
        have ns := odds y (List.mem_of_getElem? hv)
        clear hv odds aZ BZ wk B2
        repeat' array_mem_dec
        --M4
        refine ⟨B4.tab, fun H7 e7 t7 => ?_⟩
        have x7 : EM.Ext p _ H7 := EM.Ext.extN e7
        have B7 := B4.ext e7 t7
        intro E' hE
        repeat' array_mem_dec
        --M5
        refine ⟨⟨tabs K, p, l, _, _, y, rfl, B7, .inr ⟨fun H' x => ns _ ((x4.trans x7).trans x), fun d H8 x8 B8 a8 => hE _ _ _ ⟨⟨tabs K, p, l, _, "BadReading", "at", "reading", .non, d, rfl, rfl, B8, a8, .inr (.inl ⟨rfl, rfl, rfl⟩), fun r9 H9 x9 B9 a9 => ?_⟩⟩⟩⟩⟩
        have x49 := x4.trans (x7.trans (x8.trans x9))
        clear hE e7 t7 x4 x7 x8 x9 a8 B4 B7 B8 ns
        repeat' array_mem_dec
        --M6
        refine rpe a9 okz_reading .non ?_
        repeat' array_mem_dec
        rename_i qa Ha xa Ba aa na
        refine rpe aa okz_reading .non ?_
        repeat' array_mem_dec
        --M7
        exact ⟨⟨_, rfl, x49.trans xa, Ba⟩⟩
      · rintro σ H4 ⟨⟨w11, rfl, x4, B4⟩⟩
        clear odds aZ BZ wk B2 x4
        repeat' array_mem_dec
        --M8
        rename_i r1 H5 x5 B5 q1
        refine mk_bs (t := 6) (b := 2) B5 (by decide) (Bt.lit _ _ (by decide +kernel)) fun r3 H6 x6 B6 q3 => ?_
        have q16 := q1.ext x6
        rw [rat1.1, rat1.2] at q16
        rw [rat62.1, rat62.2] at q3
        clear x5 x6 B5 q1 B4
        repeat' array_mem_dec
        --M9
        rename_i qt H7 x7 B7 at_ nt
        have low1 : Low 1 1 := ⟨by decide, by decide⟩
        have low3 : Low 3 1 := ⟨by decide, by decide⟩
        have nums : NumsP K p H7 [.int 0, .ref r1, .int 2, .ref r3] r4 := ⟨rfl, fun i x t e1 e2 => by
          match i, e1, e2 with
          | 0, e1, e2 => cases e1; cases e2; exact NumP.int _
          | 1, e1, e2 => cases e1; cases e2; exact (q16.ext x7).num low1
          | 2, e1, e2 => cases e1; cases e2; exact NumP.int _
          | 3, e1, e2 => cases e1; cases e2; exact (q3.ext x7).num low3
          | k + 4, e1, _ => cases e1⟩
        clear q16 q3 x7 nt B6
        refine ofR_bs B7 (.inr at_) nums row4 ⟨by decide, by decide, by decide⟩ fun pr pq H8 x8 B8 rp fp => ?_
        clear at_ nums x8 B7 fp
        repeat' array_mem_dec
        --MA
        refine ⟨⟨tabs K, p, l, _, r4, B8, nums4, row4, ⟨by decide, by decide, by decide⟩, fun r rq H9 x9 B9 rd fr => ?_⟩⟩
        have rp9 := rp.ext x9
        repeat' array_mem_dec
        --MB
        refine eqRd_bs B9 rd rp9 row4 row4 fun HA xA BA => ?_
        rw [decide_eq_true rfl]
        have rpA := rp9.ext xA
        clear rp x9 B9 rd fr rp9 xA B8
        repeat' array_mem_dec
        --MC
        refine ⟨⟨rfl, rfl, tabs K, p, l, _, _, rfl, BA, .inl ⟨_, rfl, by decide +kernel, fun i e => (by rw [out0123] at e; cases e), fun es e row r q H' x B rd fr => ?_⟩⟩⟩
        rw [out0123] at e
        cases e
        have rpB := rpA.ext x
        repeat' array_mem_dec
        --MD
        refine eqRd_bs B rd rpB row4 row4 fun HB xB BB => ?_
        rw [decide_eq_true rfl]
        repeat' array_mem_dec
        --ME
        exact k _
end
end K12
set_option maxHeartbeats 0 in
theorem PySem.Challenge.cw_edgesmeet_k12_readings_made_holds : PySem.Challenge.rw_edgesmeet_k12_readings_made.Holds :=
  K12.pre fun K mg T P w base TB => K12.ok_law T TB
