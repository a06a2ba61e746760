import PyProof.Rows.All
import Wide.All
import OpenK.AllK
import Wide.FinOn
import KE.KStateDown
import KE.KOpsOwn
import HandS.ForMost
import HandS.ForExc
import HandS.Wide
import HandS.Defaults
import HandS.Star
import HandS.ClsMeth
import HandS.IsInst
import HandS.OwnEq
import HandS.Walk
import HandS.Zip
import HandS.Style
import HandS.Property
import HandS.Head0
import HandS.Head1
import HandS.Head2
import HandS.HeadEnd
import HandS.HeadHook1
import HandS.HeadHook2
import HandS.HeadNt
import HandS.SlotsOwn
import KE.GoesEnum
import KE.GoesMore
import HandS.MakeKw
import HandS.Evl
import PyProof.ReprRoads
import PyProof.ReprReads
import HandS.ExcInit
import HandS.ExcField
import HandS.TryMany
import HandS.Small
import KE.IntTextText
import KE.IntTextLaws
import HandS.Text
import HandS.Codes
import HandS.AnyAll
import PyProof.NeKinds
import PyProof.EqAt
import KE.KCallOwn
import PyProof.StrBlockL
import PyProof.Rows.RegStrFacts
import HandS.ReplaceLit
import KE.KFmtOwn
import HandS.FStr
import HandS.Lambda
import HandS.EndTab
import HandS.HeadHook4
import KE.KNestM
import HandS.MakeKwOnly
import OpenK.KMeth
import PyProof.TwoTypes
import OpenK.KOps
import PyProof.Rows.FactsN_abs
import PyProof.Rows.Range3
import HandS.ExcOwn
import HandS.ExcValue
import KE.KExcIs
import HandS.ExcIs
import KE.KEqNest
import PySem.Challenge.RW_edgesmeet_k40_duels_made
set_option Elab.async false
set_option linter.all false
set_option maxRecDepth 100000
set_option maxHeartbeats 4000000
namespace EM
open PySem PySem.Spec PyProof.Rows L2
abbrev Fk := PySem.W.Frag → Bool
def obsF (fa : List Fk) (fn : List He5.DefA) (K : PySem.W.Frag) : He.AlD := ((fa.all fun f => f K) && fn.all fun d => d.ok K, fn.map fun d => He5.fnA K (d.at_ K))
def valF (fn : List He5.DefA) : He.AlD := (true, fn.map He5.DefA.val)
def SaysF (fa : List Fk) (fn : List He5.DefA) (K : PySem.W.Frag) : Prop := obsF fa fn K = valF fn
def codeV (K : PySem.W.Frag) (f : Addr) : Value := match K.lookup f with
  | some ⟨_, _, .func fd, _⟩ => fd.code
  | _ => .none
def cA (K : PySem.W.Frag) (f : Addr) : Addr := match codeV K f with
  | .ref c => c
  | _ => 0
def tA (K : PySem.W.Frag) (f : Addr) : Addr := match K.lookup (cA K f) with
  | some ⟨_, _, .fields vs, _⟩ => (match (vs[11]? : Option Value) with
    | some (.ref q) => q
    | _ => 0)
  | _ => 0
def isR : Value → Bool
  | .ref _ => true
  | _ => false
theorem code_ref {K : PySem.W.Frag} {f : Addr} (h : isR (codeV K f) = true) : codeV K f = .ref (cA K f) := by
  unfold cA
  cases e : codeV K f <;> rw [e] at h <;> first | rfl | cases h
def tabB (g : Addr → Option Obj) (K : PySem.W.Frag) (f : Addr) : Bool := isR (codeV K f) && (PySem.W.codeHdIn K (cA K f) (tA K f) && (match g (tA K f) with
  | some o => He.emptyTab o
  | none => false))
/-- what is known of the def's table -/
structure TabK (K : PySem.W.Frag) (f : Addr) : Prop where
  code : codeV K f = .ref (cA K f)
  hd : PySem.W.codeHdIn K (cA K f) (tA K f) = true
  out : K.lookup (tA K f) = none
abbrev Tf := PySem.W.Frag → Addr
def SaysT (fa : List Fk) (fn : List He5.DefA) (tf : List Tf) (h : Heap) (K : PySem.W.Frag) : Prop := SaysF fa fn K ∧ ∀ t ∈ tf, TabK K (t K) ∧ h.get? (tA K (t K)) = some { cls := .none, data := .fields #[] }
def obsTG (n : Nat) (fa : List Fk) (fn : List He5.DefA) (tf : List Tf) (g : Addr → Option Obj) : He.AlD × Bool := (obsF fa fn (He.frT g (He5.asA g n)), tf.all fun t => tabB g (He.frT g (He5.asA g n)) (t (He.frT g (He5.asA g n))))
theorem saysT_of {n : Nat} {fa : List Fk} {fn : List He5.DefA} {tf : List Tf} {h : Heap} (e : obsTG n fa fn tf h.get? = (valF fn, true)) : SaysT fa fn tf h (He.frT h.get? (He5.asA h.get? n)) := by
  have e1 : obsF fa fn (He.frT h.get? (He5.asA h.get? n)) = valF fn := congrArg (fun z : He.AlD × Bool => z.1) e
  have e2 : (tf.all fun t => tabB h.get? (He.frT h.get? (He5.asA h.get? n)) (t (He.frT h.get? (He5.asA h.get? n)))) = true := congrArg (fun z : He.AlD × Bool => z.2) e
  refine ⟨e1, fun t ht => ?_⟩
  have h1 := List.all_eq_true.mp e2 t ht
  generalize t (He.frT h.get? (He5.asA h.get? n)) = f at h1 ⊢
  obtain ⟨h2, h1⟩ := He.ba h1
  obtain ⟨h3, h4⟩ := He.ba h1
  cases q : h.get? (tA (He.frT h.get? (He5.asA h.get? n)) f) with
  | none =>
    rw [q] at h4
    cases h4
  | some o =>
    rw [q] at h4
    exact ⟨⟨code_ref h2, h3, He.frT_none q h4⟩, by rw [He.emptyTab_eq h4]⟩
def hookT (n : Nat) (fa : List Fk) (fn : List He5.DefA) (tf : List Tf) : PySem.W.Hook where
  α := He.AlD × Bool
  obs := fun s => obsTG n fa fn tf s.heap.get?
  val := fun _ => (valF fn, true)
  says := fun _ h => ∃ K : PySem.W.Frag, K.In h ∧ SaysT fa fn tf h K
  of := fun _ _ e => ⟨_, He.frT_in, saysT_of e⟩
  keeps := fun _ _ _ ⟨K, hK, c⟩ k => ⟨K, PySem.W.Frag.In.keeps hK k, c.1, fun t ht => ⟨(c.2 t ht).1, k _ _ (c.2 t ht).2⟩⟩
theorem obsTG_eq {n : Nat} {fa : List Fk} {fn : List He5.DefA} {tf : List Tf} {g : Addr → Option Obj} {s : Shared} (h : ∀ a, g a = s.heap.get? a) : obsTG n fa fn tf g = (hookT n fa fn tf).obs s := by
  have e : g = s.heap.get? := funext h
  rw [e] <;> rfl
/-- what isinstance asks of an instance of the class at C -/
def isiB (K : PySem.W.Frag) (C : Addr) : Bool := He.eqO (PySem.W.findIn K (.ref C) "__class__") (some (some (.builtin "object.__class__"))) && (He.eqO (PySem.W.specialIn K (.builtin "object.__class__") "__get__") (some (some (.builtin "getset_descriptor.__get__"))) &&
  (decide (PySem.W.takesIn K (.builtin "object.__class__") = some true) && decide (PySem.W.mroIn K C (.type "object") = some true)))
/-- attributes of the class itself are read plainly -/
def creadB (K : PySem.W.Frag) (C : Addr) : Bool := PySem.W.readsIn K C (.type "type") && He.eqO (PySem.W.specialIn K (.ref C) "__getattribute__") (some (some (.builtin "type.__getattribute__")))
/-- a classmethod of the class -/
def cmetB (K : PySem.W.Frag) (C : Addr) (m : Str) : Bool := He5.wrapB K C "classmethod" "classmethod.__get__" m && PySem.W.fnIn K (He5.wf K C "classmethod" m)
/-- a constant of the class, an int -/
def cintB (K : PySem.W.Frag) (C : Addr) (f : Str) (i : Int) : Bool := match PySem.W.findCls K (.ref C) (.type "type") f with
  | some (.val (.int j _)) => decide (j = i)
  | _ => false
/-- the getter of a property -/
def pf (K : PySem.W.Frag) (C : Addr) (f : Str) : Addr := match PySem.W.recIn K (He.ma K C f) "property" with
  | some (.ref g :: _) => g
  | _ => 0
def neB (K : PySem.W.Frag) (C : Addr) : Bool := He.eqO (PySem.W.findIn K (.ref C) "__ne__") (some (some (.builtin "object.__ne__")))
/-- the class at C as an own exception class over ValueError whose instances have dicts -/
def oexB (K : PySem.W.Frag) (C : Addr) : Bool := (match K.lookup C with
    | some ⟨.type t, _, .cls cd, sl⟩ => decide (t = "type") && (cd.hasDict && (!cd.hasDel && match cd.mro, sl.toList with
      | .ref C' :: bm, [_, _, _, _, some (.builtin n), _] => decide (C' = C) && (decide (n = "ValueError.__new__") && PySem.HandSPX.refsVE bm)
      | _, _ => false))
    | _ => false) && (He.eqO (PySem.W.findIn K (.ref C) "__setattr__") (some (some (.builtin "object.__setattr__"))) && (decide (PySem.W.subIn K (.ref C) (.type "BaseException") = some true) && (decide (PySem.W.typeIn K (.ref C) = some (.type "type")) && PySem.W.keepIn K (.ref C))))
/-- its __init__ is a def -/
def oinB (K : PySem.W.Frag) (C : Addr) : Bool := He.eqO (PySem.W.findIn K (.ref C) "__init__") (some (some (.ref (He.ma K C "__init__")))) && decide (PySem.W.typeIn K (.ref (He.ma K C "__init__")) = some (.type "function"))
def smetB (K : PySem.W.Frag) (C : Addr) (m : Str) : Bool := He5.wrapB K C "staticmethod" "staticmethod.__get__" m
def apartB (K : PySem.W.Frag) (C : Addr) : Bool := (["int", "NoneType", "bool", "str", "tuple", "list", "dict"] : List String).all fun T => decide (PySem.W.subIn K (.ref C) (.type T) = some false) && decide (PySem.W.subIn K (.type T) (.ref C) = some false)
def propB (K : PySem.W.Frag) (C : Addr) (f : Str) : Bool := decide (PySem.W.findIn K (.ref C) f = some (some (.ref (He.ma K C f)))) && decide (PySem.W.specialIn K (.ref (He.ma K C f)) "__get__" = some (some (.builtin "property.__get__"))) && decide (PySem.W.takesIn K (.ref (He.ma K C f)) = some true) &&
  (match PySem.W.recIn K (He.ma K C f) "property" with | some (.ref _ :: _) => true | _ => false)
def excB (K : PySem.W.Frag) (D : Addr) : Bool :=
  decide (PySem.W.findIn K (.ref D) "__getattribute__" = some (some (.builtin "BaseException.__getattribute__"))) && (decide (PySem.W.findIn K (.ref D) "__getattr__" = some none) && (decide (PySem.W.subIn K (.ref D) (.type "BaseException") = some true) && (PySem.W.hasDictIn K D && (decide (PySem.W.findIn K (.ref D) "__class__" = some (some (.builtin "object.__class__"))) &&
  (decide (PySem.W.specialIn K (.builtin "object.__class__") "__get__" = some (some (.builtin "getset_descriptor.__get__"))) && (decide (PySem.W.takesIn K (.builtin "object.__class__") = some true) && (decide (PySem.W.mroIn K D (.type "object") = some true) && (PySem.W.clsIn K D).isSome)))))))
def obsFG (n : Nat) (fa : List Fk) (fn : List He5.DefA) (g : Addr → Option Obj) : He.AlD := obsF fa fn (He.frG g (He5.asA g n))
def hookF (n : Nat) (fa : List Fk) (fn : List He5.DefA) : PySem.W.Hook where
  α := He.AlD
  obs := fun s => obsFG n fa fn s.heap.get?
  val := fun _ => valF fn
  says := fun _ h => ∃ K : PySem.W.Frag, K.In h ∧ SaysF fa fn K
  of := fun _ _ e => ⟨_, He.frG_in, e⟩
  keeps := fun _ _ _ ⟨K, hK, c⟩ k => ⟨K, PySem.W.Frag.In.keeps hK k, c⟩
theorem obsFG_eq {n : Nat} {fa : List Fk} {fn : List He5.DefA} {g : Addr → Option Obj} {s : Shared} (h : ∀ a, g a = s.heap.get? a) : obsFG n fa fn g = (hookF n fa fn).obs s := by
  have e : g = s.heap.get? := funext h
  rw [e] <;> rfl
end EM
namespace K40
open PySem PySem.Spec PyProof.Rows L2
def top (i : Nat) : Stmt := PySem.Challenge.pw_edgesmeet_k40_duels_made.main.body.getD i (.Pass ⟨0, 0, 0, 0⟩)
abbrev s_BadWeights_init : Stmt := inClass (top 6) 0
theorem sc_BadWeights_init : FnScope ["self", "part"] ["self", "part"] (defScope s_BadWeights_init) := ⟨rfl, rfl, rfl, by decide +kernel, rfl, by decide +kernel, by decide +kernel⟩
abbrev s_is_integer_ratios : Stmt := top 13
theorem sc_is_integer_ratios : FnScope ["thing"] ["thing"] (defScope s_is_integer_ratios) := ⟨rfl, rfl, rfl, by decide +kernel, rfl, by decide +kernel, by decide +kernel⟩
abbrev s_is_integer_fits : Stmt := top 20
theorem sc_is_integer_fits : FnScope ["value"] ["value"] (defScope s_is_integer_fits) := ⟨rfl, rfl, rfl, by decide +kernel, rfl, by decide +kernel, by decide +kernel⟩
abbrev s_common_divisor : Stmt := top 15
theorem sc_common_divisor : FnScope ["one", "other"] ["one", "other"] (defScope s_common_divisor) := ⟨rfl, rfl, rfl, by decide +kernel, rfl, by decide +kernel, by decide +kernel⟩
abbrev s_Ratio_init : Stmt := inClass (top 16) 0
theorem sc_Ratio_init : FnScope ["self", "top", "bottom", "shared"] ["self", "top", "bottom"] (defScope s_Ratio_init) := ⟨rfl, rfl, rfl, by decide +kernel, rfl, by decide +kernel, by decide +kernel⟩
abbrev s_Ratio_of : Stmt := inClass (top 16) 1
theorem sc_Ratio_of : FnScope ["number"] ["number"] (defScope s_Ratio_of) := ⟨rfl, rfl, rfl, by decide +kernel, rfl, by decide +kernel, by decide +kernel⟩
abbrev s_Ratio_is_number : Stmt := inClass (top 16) 2
theorem sc_Ratio_is_number : FnScope ["thing"] ["thing"] (defScope s_Ratio_is_number) := ⟨rfl, rfl, rfl, by decide +kernel, rfl, by decide +kernel, by decide +kernel⟩
abbrev s_Ratio_add : Stmt := inClass (top 16) 6
theorem sc_Ratio_add : FnScope ["self", "other", "right"] ["self", "other"] (defScope s_Ratio_add) := ⟨rfl, rfl, rfl, by decide +kernel, rfl, by decide +kernel, by decide +kernel⟩
abbrev s_Ratio_sub : Stmt := inClass (top 16) 8
theorem sc_Ratio_sub : FnScope ["self", "other"] ["self", "other"] (defScope s_Ratio_sub) := ⟨rfl, rfl, rfl, by decide +kernel, rfl, by decide +kernel, by decide +kernel⟩
abbrev s_Ratio_neg : Stmt := inClass (top 16) 16
theorem sc_Ratio_neg : FnScope ["self"] ["self"] (defScope s_Ratio_neg) := ⟨rfl, rfl, rfl, by decide +kernel, rfl, by decide +kernel, by decide +kernel⟩
abbrev s_Ratio_radd : Stmt := inClass (top 16) 7
theorem sc_Ratio_radd : FnScope ["self", "other"] ["self", "other"] (defScope s_Ratio_radd) := ⟨rfl, rfl, rfl, by decide +kernel, rfl, by decide +kernel, by decide +kernel⟩
abbrev s_Ratio_rsub : Stmt := inClass (top 16) 9
theorem sc_Ratio_rsub : FnScope ["self", "other"] ["self", "other"] (defScope s_Ratio_rsub) := ⟨rfl, rfl, rfl, by decide +kernel, rfl, by decide +kernel, by decide +kernel⟩
abbrev s_Ratio_eq : Stmt := inClass (top 16) 19
theorem sc_Ratio_eq : FnScope ["self", "other"] ["self", "other"] (defScope s_Ratio_eq) := ⟨rfl, rfl, rfl, by decide +kernel, rfl, by decide +kernel, by decide +kernel⟩
abbrev s_need_plain_weights : Stmt := top 22
theorem sc_need_plain_weights : FnScope ["weights", "count", "at", "weight"] ["weights", "count"] (defScope s_need_plain_weights) := ⟨rfl, rfl, rfl, by decide +kernel, rfl, by decide +kernel, by decide +kernel⟩
abbrev s_Duel_init : Stmt := inClass (top 27) 0
theorem sc_Duel_init : FnScope ["self", "weights", "level"] ["self", "weights", "level"] (defScope s_Duel_init) := ⟨rfl, rfl, rfl, by decide +kernel, rfl, by decide +kernel, by decide +kernel⟩
abbrev s_Duel_neg : Stmt := inClass (top 27) 3
theorem sc_Duel_neg : FnScope ["self", "weight"] ["self"] (defScope s_Duel_neg) := ⟨rfl, rfl, rfl, by decide +kernel, rfl, by decide +kernel, by decide +kernel⟩
abbrev s_Duel_eq : Stmt := inClass (top 27) 4
theorem sc_Duel_eq : FnScope ["self", "other"] ["self", "other"] (defScope s_Duel_eq) := ⟨rfl, rfl, rfl, by decide +kernel, rfl, by decide +kernel, by decide +kernel⟩
abbrev s_Duel_len : Stmt := inClass (top 27) 5
theorem sc_Duel_len : FnScope ["self"] ["self"] (defScope s_Duel_len) := ⟨rfl, rfl, rfl, by decide +kernel, rfl, by decide +kernel, by decide +kernel⟩
abbrev s_Lpen : Stmt := top 29
theorem sc_Lpen : FnScope ["_law_script"] ["_law_script"] (defScope s_Lpen) := ⟨rfl, rfl, rfl, by decide +kernel, rfl, by decide +kernel, by decide +kernel⟩
abbrev s_Ldraw : Stmt := top 30
theorem sc_Ldraw : FnScope ["_law_pen_here", "_law_many", "_law_digit", "_law_at", "_law_cell", "_law_great", "_law_mixed"] ["_law_pen_here", "_law_many"] (defScope s_Ldraw) := ⟨rfl, rfl, rfl, by decide +kernel, rfl, by decide +kernel, by decide +kernel⟩
abbrev s_Lpick : Stmt := top 31
theorem sc_Lpick : FnScope ["_law_pen_here", "_law_some"] ["_law_pen_here", "_law_some"] (defScope s_Lpick) := ⟨rfl, rfl, rfl, by decide +kernel, rfl, by decide +kernel, by decide +kernel⟩
abbrev s_Lweights : Stmt := top 32
theorem sc_Lweights : FnScope ["_law_pen_here", "_law_many", "_law_found", "_law_k", "_law_at", "_law_one"] ["_law_pen_here"] (defScope s_Lweights) := ⟨rfl, rfl, rfl, by decide +kernel, rfl, by decide +kernel, by decide +kernel⟩
abbrev s_Llevel : Stmt := top 33
theorem sc_Llevel : FnScope ["_law_pen_here", "_law_top", "_law_bottom"] ["_law_pen_here"] (defScope s_Llevel) := ⟨rfl, rfl, rfl, by decide +kernel, rfl, by decide +kernel, by decide +kernel⟩
abbrev s_Lnumber : Stmt := top 34
theorem sc_Lnumber : FnScope ["_law_height"] ["_law_height"] (defScope s_Lnumber) := ⟨rfl, rfl, rfl, by decide +kernel, rfl, by decide +kernel, by decide +kernel⟩
abbrev s_Lbent : Stmt := top 35
theorem sc_Lbent : FnScope ["_law_pen_here", "_law_row", "_law_worth", "_law_some", "_law_turn", "_law_way", "_law_at", "_law_one"] ["_law_pen_here", "_law_row", "_law_worth"] (defScope s_Lbent) := ⟨rfl, rfl, rfl, by decide +kernel, rfl, by decide +kernel, by decide +kernel⟩
abbrev s_Linteger : Stmt := top 36
theorem sc_Linteger : FnScope ["_law_thing"] ["_law_thing"] (defScope s_Linteger) := ⟨rfl, rfl, rfl, by decide +kernel, rfl, by decide +kernel, by decide +kernel⟩
abbrev s_Ldue : Stmt := top 37
theorem sc_Ldue : FnScope ["_law_some", "_law_worth", "_law_wrong", "_law_at", "_law_one"] ["_law_some", "_law_worth"] (defScope s_Ldue) := ⟨rfl, rfl, rfl, by decide +kernel, rfl, by decide +kernel, by decide +kernel⟩
abbrev s_Lheard : Stmt := top 38
theorem sc_Lheard : FnScope ["_law_handed", "_law_worth", "_law_caught", "error"] ["_law_handed", "_law_worth"] (defScope s_Lheard) := ⟨rfl, rfl, rfl, by decide +kernel, rfl, by decide +kernel, by decide +kernel⟩
abbrev s_Lmade_right : Stmt := top 39
theorem sc_Lmade_right : FnScope ["_law_pen_here", "_law_row", "_law_height", "_law_handed", "_law_number_here", "_law_made", "_law_told", "_law_turned", "_law_one", "_law_near", "_law_others"] ["_law_pen_here", "_law_row", "_law_height"] (defScope s_Lmade_right) := ⟨rfl, rfl, rfl, by decide +kernel, rfl, by decide +kernel, by decide +kernel⟩
abbrev s_law : Stmt := top 40
theorem sc_law : FnScope ["_law_script", "_law_pen_here", "_law_turn", "_law_row", "_law_height", "_law_again", "_law_some", "_law_worth", "_law_handed", "_law_plain", "_law_odd"] ["_law_script"] (defScope s_law) := ⟨rfl, rfl, rfl, by decide +kernel, rfl, by decide +kernel, by decide +kernel⟩
def e_BadWeights_init : He5.DefA := ⟨fun K => He.ma K (He.ga K "BadWeights") "__init__", "__init__", "BadWeights.__init__", defArgs s_BadWeights_init, defBody s_BadWeights_init, defScope s_BadWeights_init, [], []⟩
def e_is_integer_ratios : He5.DefA := ⟨fun K => He.ga K "is_integer_ratios", "is_integer", "is_integer", defArgs s_is_integer_ratios, defBody s_is_integer_ratios, defScope s_is_integer_ratios, [], []⟩
def e_is_integer_fits : He5.DefA := ⟨fun K => He.ga K "is_integer_fits", "is_integer", "is_integer", defArgs s_is_integer_fits, defBody s_is_integer_fits, defScope s_is_integer_fits, [], []⟩
def e_common_divisor : He5.DefA := ⟨fun K => He.ga K "common_divisor", "common_divisor", "common_divisor", defArgs s_common_divisor, defBody s_common_divisor, defScope s_common_divisor, [], []⟩
def e_Ratio_init : He5.DefA := ⟨fun K => He.ma K (He.ga K "Ratio") "__init__", "__init__", "Ratio.__init__", defArgs s_Ratio_init, defBody s_Ratio_init, defScope s_Ratio_init, [.int 1], []⟩
def e_Ratio_of : He5.DefA := ⟨fun K => He5.wf K (He.ga K "Ratio") "staticmethod" "of", "of", "Ratio.of", defArgs s_Ratio_of, defBody s_Ratio_of, defScope s_Ratio_of, [], []⟩
def e_Ratio_is_number : He5.DefA := ⟨fun K => He5.wf K (He.ga K "Ratio") "staticmethod" "is_number", "is_number", "Ratio.is_number", defArgs s_Ratio_is_number, defBody s_Ratio_is_number, defScope s_Ratio_is_number, [], []⟩
def e_Ratio_add : He5.DefA := ⟨fun K => He.ma K (He.ga K "Ratio") "__add__", "__add__", "Ratio.__add__", defArgs s_Ratio_add, defBody s_Ratio_add, defScope s_Ratio_add, [], []⟩
def e_Ratio_sub : He5.DefA := ⟨fun K => He.ma K (He.ga K "Ratio") "__sub__", "__sub__", "Ratio.__sub__", defArgs s_Ratio_sub, defBody s_Ratio_sub, defScope s_Ratio_sub, [], []⟩
def e_Ratio_neg : He5.DefA := ⟨fun K => He.ma K (He.ga K "Ratio") "__neg__", "__neg__", "Ratio.__neg__", defArgs s_Ratio_neg, defBody s_Ratio_neg, defScope s_Ratio_neg, [], []⟩
def e_Ratio_radd : He5.DefA := ⟨fun K => He.ma K (He.ga K "Ratio") "__radd__", "__radd__", "Ratio.__radd__", defArgs s_Ratio_radd, defBody s_Ratio_radd, defScope s_Ratio_radd, [], []⟩
def e_Ratio_rsub : He5.DefA := ⟨fun K => He.ma K (He.ga K "Ratio") "__rsub__", "__rsub__", "Ratio.__rsub__", defArgs s_Ratio_rsub, defBody s_Ratio_rsub, defScope s_Ratio_rsub, [], []⟩
def e_Ratio_eq : He5.DefA := ⟨fun K => He.ma K (He.ga K "Ratio") "__eq__", "__eq__", "Ratio.__eq__", defArgs s_Ratio_eq, defBody s_Ratio_eq, defScope s_Ratio_eq, [], []⟩
def e_need_plain_weights : He5.DefA := ⟨fun K => He.ga K "need_plain_weights", "need_plain_weights", "need_plain_weights", defArgs s_need_plain_weights, defBody s_need_plain_weights, defScope s_need_plain_weights, [], []⟩
def e_Duel_init : He5.DefA := ⟨fun K => He.ma K (He.ga K "Duel") "__init__", "__init__", "Duel.__init__", defArgs s_Duel_init, defBody s_Duel_init, defScope s_Duel_init, [.int 0], []⟩
def e_Duel_neg : He5.DefA := ⟨fun K => He.ma K (He.ga K "Duel") "__neg__", "__neg__", "Duel.__neg__", defArgs s_Duel_neg, defBody s_Duel_neg, defScope s_Duel_neg, [], []⟩
def e_Duel_eq : He5.DefA := ⟨fun K => He.ma K (He.ga K "Duel") "__eq__", "__eq__", "Duel.__eq__", defArgs s_Duel_eq, defBody s_Duel_eq, defScope s_Duel_eq, [], []⟩
def e_Duel_len : He5.DefA := ⟨fun K => He.ma K (He.ga K "Duel") "__len__", "__len__", "Duel.__len__", defArgs s_Duel_len, defBody s_Duel_len, defScope s_Duel_len, [], []⟩
def e_Lpen : He5.DefA := ⟨fun K => He.ga K "_law_pen", "_law_pen", "_law_pen", defArgs s_Lpen, defBody s_Lpen, defScope s_Lpen, [], []⟩
def e_Ldraw : He5.DefA := ⟨fun K => He.ga K "_law_draw", "_law_draw", "_law_draw", defArgs s_Ldraw, defBody s_Ldraw, defScope s_Ldraw, [], []⟩
def e_Lpick : He5.DefA := ⟨fun K => He.ga K "_law_pick", "_law_pick", "_law_pick", defArgs s_Lpick, defBody s_Lpick, defScope s_Lpick, [], []⟩
def e_Lweights : He5.DefA := ⟨fun K => He.ga K "_law_weights", "_law_weights", "_law_weights", defArgs s_Lweights, defBody s_Lweights, defScope s_Lweights, [], []⟩
def e_Llevel : He5.DefA := ⟨fun K => He.ga K "_law_level", "_law_level", "_law_level", defArgs s_Llevel, defBody s_Llevel, defScope s_Llevel, [], []⟩
def e_Lnumber : He5.DefA := ⟨fun K => He.ga K "_law_number", "_law_number", "_law_number", defArgs s_Lnumber, defBody s_Lnumber, defScope s_Lnumber, [], []⟩
def e_Lbent : He5.DefA := ⟨fun K => He.ga K "_law_bent", "_law_bent", "_law_bent", defArgs s_Lbent, defBody s_Lbent, defScope s_Lbent, [], []⟩
def e_Linteger : He5.DefA := ⟨fun K => He.ga K "_law_integer", "_law_integer", "_law_integer", defArgs s_Linteger, defBody s_Linteger, defScope s_Linteger, [], []⟩
def e_Ldue : He5.DefA := ⟨fun K => He.ga K "_law_due", "_law_due", "_law_due", defArgs s_Ldue, defBody s_Ldue, defScope s_Ldue, [], []⟩
def e_Lheard : He5.DefA := ⟨fun K => He.ga K "_law_heard", "_law_heard", "_law_heard", defArgs s_Lheard, defBody s_Lheard, defScope s_Lheard, [], []⟩
def e_Lmade_right : He5.DefA := ⟨fun K => He.ga K "_law_made_right", "_law_made_right", "_law_made_right", defArgs s_Lmade_right, defBody s_Lmade_right, defScope s_Lmade_right, [], []⟩
def e_law : He5.DefA := ⟨fun K => He.ga K "law", "law", "law", defArgs s_law, defBody s_law, defScope s_law, [], []⟩
def fn : List He5.DefA := [e_BadWeights_init, e_is_integer_ratios, e_is_integer_fits, e_common_divisor, e_Ratio_init, e_Ratio_of, e_Ratio_is_number, e_Ratio_add, e_Ratio_sub, e_Ratio_neg, e_Ratio_radd, e_Ratio_rsub, e_Ratio_eq, e_need_plain_weights, e_Duel_init, e_Duel_neg, e_Duel_eq, e_Duel_len, e_Lpen, e_Ldraw, e_Lpick, e_Lweights, e_Llevel, e_Lnumber, e_Lbent, e_Linteger, e_Ldue, e_Lheard, e_Lmade_right, e_law]
def fa0 : List EM.Fk := [fun K => (He.Fa.glo "EdgeError").ok K,
  fun K => (He.Fa.glo "BadRatio").ok K,
  fun K => (He.Fa.glo "BadWeights").ok K,
  fun K => (He.Fa.glo "Unlike").ok K,
  fun K => (He.Fa.glo "Ratio").ok K,
  fun K => (He.Fa.glo "Duel").ok K,
  fun K => (He.Fa.glo "is_integer_ratios").ok K,
  fun K => (He.Fa.glo "is_integer_fits").ok K,
  fun K => (He.Fa.glo "common_divisor").ok K,
  fun K => (He.Fa.glo "need_plain_weights").ok K,
  fun K => (He.Fa.glo "_law_pen").ok K,
  fun K => (He.Fa.glo "_law_draw").ok K,
  fun K => (He.Fa.glo "_law_pick").ok K,
  fun K => (He.Fa.glo "_law_weights").ok K,
  fun K => (He.Fa.glo "_law_level").ok K,
  fun K => (He.Fa.glo "_law_number").ok K,
  fun K => (He.Fa.glo "_law_bent").ok K,
  fun K => (He.Fa.glo "_law_integer").ok K,
  fun K => (He.Fa.glo "_law_due").ok K,
  fun K => (He.Fa.glo "_law_heard").ok K]
def fa1 : List EM.Fk := [fun K => (He.Fa.glo "_law_made_right").ok K,
  fun K => (He.Fa.glo "law").ok K,
  fun K => (He.Fa.free "len").ok K,
  fun K => (He.Fa.free "isinstance").ok K,
  fun K => (He.Fa.free "int").ok K,
  fun K => (He.Fa.free "bool").ok K,
  fun K => (He.Fa.free "abs").ok K,
  fun K => (He.Fa.free "range").ok K,
  fun K => (He.Fa.free "repr").ok K,
  fun K => (He.Fa.free "list").ok K,
  fun K => (He.Fa.free "tuple").ok K,
  fun K => (He.Fa.free "str").ok K,
  fun K => (He.Fa.free "zip").ok K,
  fun K => (He.Fa.free "enumerate").ok K,
  fun K => (He.Fa.free "min").ok K,
  fun K => (He.Fa.free "max").ok K,
  fun K => (He.Fa.free "sum").ok K,
  fun K => (He.Fa.free "any").ok K,
  fun K => (He.Fa.free "ValueError").ok K,
  fun K => (He.Fa.int "FEWEST_EDGES" 4).ok K]
def fa2 : List EM.Fk := [fun K => (He.Fa.int "MOST_EDGES" 128).ok K,
  fun K => (He.Fa.cls "Ratio").ok K,
  fun K => (He.Fa.mkr "Ratio").ok K,
  fun K => EM.isiB K (He.ga K "Ratio"),
  fun K => EM.creadB K (He.ga K "Ratio"),
  fun K => EM.smetB K (He.ga K "Ratio") "of",
  fun K => EM.smetB K (He.ga K "Ratio") "is_number",
  fun K => PySem.W.selfFirst K (He.ga K "Ratio"),
  fun K => decide (PySem.W.subIn K (.type "int") (.ref (He.ga K "Ratio")) = some false),
  fun K => decide (PySem.W.subIn K (.ref (He.ga K "Ratio")) (.type "int") = some false),
  fun K => (He.Fa.cls "Duel").ok K,
  fun K => (He.Fa.mkr "Duel").ok K,
  fun K => EM.isiB K (He.ga K "Duel"),
  fun K => EM.creadB K (He.ga K "Duel"),
  fun K => (He.Fa.noat "Ratio" "top").ok K,
  fun K => (He.Fa.noat "Ratio" "bottom").ok K,
  fun K => (He.Fa.noat "Duel" "weights").ok K,
  fun K => (He.Fa.noat "Duel" "level").ok K,
  fun K => (He.Fa.meth "Ratio" "__add__").ok K,
  fun K => (He.Fa.meth "Ratio" "__sub__").ok K]
def fa3 : List EM.Fk := [fun K => (He.Fa.meth "Ratio" "__neg__").ok K,
  fun K => (He.Fa.meth "Ratio" "__eq__").ok K,
  fun K => (He.Fa.meth "Ratio" "__radd__").ok K,
  fun K => (He.Fa.meth "Ratio" "__rsub__").ok K,
  fun K => (He.Fa.meth "Duel" "__neg__").ok K,
  fun K => (He.Fa.meth "Duel" "__eq__").ok K,
  fun K => (He.Fa.meth "Duel" "__len__").ok K,
  fun K => (He.Fa.noat "BadWeights" "part").ok K,
  fun K => L2.xfB K (He.ga K "BadWeights"),
  fun K => EM.oinB K (He.ga K "BadWeights"),
  fun K => EM.oexB K (He.ga K "BadWeights"),
  fun K => decide (PySem.W.exmOne K (.ref (He.ga K "BadWeights")) (.ref (He.ga K "EdgeError")) = some true),
  fun K => EM.excB K (He.ga K "BadWeights"),
  fun K => decide (PySem.W.kitOne K (.ref (He.ga K "BadWeights")) (.ref (He.ga K "BadWeights")) = some true),
  fun K => decide (PySem.W.kitOne K (.ref (He.ga K "BadWeights")) (.ref (He.ga K "BadRatio")) = some false),
  fun K => decide (PySem.W.kitOne K (.ref (He.ga K "BadWeights")) (.ref (He.ga K "Unlike")) = some false),
  fun K => decide (PySem.W.kitOne K (.type "int") (.ref (He.ga K "Ratio")) = some false),
  fun K => decide (PySem.W.kitOne K (.type "int") (.ref (He.ga K "Duel")) = some false),
  fun K => decide (PySem.W.kitOne K (.type "bool") (.ref (He.ga K "Ratio")) = some false),
  fun K => decide (PySem.W.kitOne K (.type "bool") (.ref (He.ga K "Duel")) = some false)]
def fa4 : List EM.Fk := [fun K => decide (PySem.W.kitOne K (.type "NoneType") (.ref (He.ga K "Ratio")) = some false),
  fun K => decide (PySem.W.kitOne K (.type "NoneType") (.ref (He.ga K "Duel")) = some false),
  fun K => decide (PySem.W.kitOne K (.type "str") (.ref (He.ga K "Ratio")) = some false),
  fun K => decide (PySem.W.kitOne K (.type "str") (.ref (He.ga K "Duel")) = some false),
  fun K => decide (PySem.W.kitOne K (.type "tuple") (.ref (He.ga K "Ratio")) = some false),
  fun K => decide (PySem.W.kitOne K (.type "tuple") (.ref (He.ga K "Duel")) = some false),
  fun K => decide (PySem.W.kitOne K (.type "list") (.ref (He.ga K "Ratio")) = some false),
  fun K => decide (PySem.W.kitOne K (.type "list") (.ref (He.ga K "Duel")) = some false),
  fun K => decide (PySem.W.kitOne K (.type "dict") (.ref (He.ga K "Ratio")) = some false),
  fun K => decide (PySem.W.kitOne K (.type "dict") (.ref (He.ga K "Duel")) = some false),
  fun K => decide (PySem.W.kitOne K (.ref (He.ga K "Ratio")) (.type "int") = some false),
  fun K => decide (PySem.W.kitOne K (.ref (He.ga K "Ratio")) (.type "bool") = some false),
  fun K => decide (PySem.W.kitOne K (.ref (He.ga K "Ratio")) (.type "list") = some false),
  fun K => decide (PySem.W.kitOne K (.ref (He.ga K "Ratio")) (.type "tuple") = some false),
  fun K => decide (PySem.W.kitOne K (.ref (He.ga K "Duel")) (.type "int") = some false),
  fun K => decide (PySem.W.kitOne K (.ref (He.ga K "Duel")) (.type "bool") = some false),
  fun K => decide (PySem.W.kitOne K (.ref (He.ga K "Duel")) (.type "list") = some false),
  fun K => decide (PySem.W.kitOne K (.ref (He.ga K "Duel")) (.type "tuple") = some false),
  fun K => decide (PySem.W.kitOne K (.ref (He.ga K "Ratio")) (.ref (He.ga K "Duel")) = some false),
  fun K => decide (PySem.W.kitOne K (.ref (He.ga K "Duel")) (.ref (He.ga K "Ratio")) = some false)]
def fa5 : List EM.Fk := [fun K => decide (PySem.W.subIn K (.ref (He.ga K "Duel")) (.ref (He.ga K "Ratio")) = some false),
  fun K => decide (PySem.W.subIn K (.ref (He.ga K "Ratio")) (.ref (He.ga K "Duel")) = some false),
  fun K => EM.apartB K (He.ga K "Ratio"),
  fun K => EM.apartB K (He.ga K "Duel"),
  fun K => EM.neB K (He.ga K "Duel"),
  fun K => decide (PySem.W.mroIn K (He.ga K "Duel") (.type "object") = some true)]
def fa : List EM.Fk := fa0 ++ fa1 ++ fa2 ++ fa3 ++ fa4 ++ fa5
end K40
namespace K40
open PySem PySem.Spec PyProof.Rows L2
abbrev R : PySem.W.OpenRow := PySem.W.OpenLaw.row PySem.Challenge.rw_edgesmeet_k40_duels_made
abbrev hk : PySem.W.Hook := EM.hookF 5 fa fn
def ob (s : PySem.W.SharedT) : He.AlD := EM.obsFG 5 fa fn (HandSHeadRun.getT s)
theorem ob_eq (s : PySem.W.SharedT) : ob s = hk.obs s.abs := EM.obsFG_eq (HandSHeadRun.getT_eq s)
def nm0 : List PySem.Str := ["_wall", "__name__", "EdgeError", "BadRatio", "NoDivisor", "Unlike", "BadWeights", "BadText", "FIGURES", "is_figures", "MOST_DIGITS", "is_integer", "is_integer_ratios", "common_divisor", "Ratio", "numbers_of", "need_alike", "is_integer_fits", "need_plain_weights", "weighed", "FEWEST_EDGES", "MOST_EDGES", "Duel", "_law_pen", "_law_draw", "_law_pick", "_law_weights", "_law_level", "_law_number", "_law_bent"]
def nm1 : List PySem.Str := ["_law_integer", "_law_due", "_law_heard", "_law_made_right"]
def names : List PySem.Str := nm0 ++ nm1
set_option maxHeartbeats 0 in
theorem run (w : World) : HandSHeadRun.RunEq R (PySem.W.view R.prog [40]) hk ob 20000 names w := by
  intro os
  kernel_rfl
end K40
/-! EM1: further rules over the hand layer: calls by positional promises, star calls, own operators, facts of the head by Bools. -/
namespace EM
open PySem PySem.Spec PyProof.Rows L2
/-! ### the Hook: facts as Bools of the written part -/
section
variable {fa : List Fk} {fn : List He5.DefA} {K : PySem.W.Frag}
theorem SaysF.fact (c : SaysF fa fn K) (i : Nat) {f : Fk} (h : fa[i]? = some f := by rfl) : f K = true := by
  have c1 := (He.ba (show ((fa.all fun f => f K) && fn.all fun d => d.ok K) = true from congrArg (fun z : He.AlD => z.1) c)).1
  exact List.all_eq_true.mp c1 f (List.mem_of_getElem? h)
theorem SaysF.def_ (c : SaysF fa fn K) (i : Nat) {d : He5.DefA} (h : fn[i]? = some d := by rfl) : ∃ fd, L2.FunD K d.name d.qual d.params d.body d.scope (d.dvs K) (d.kws K) (d.at_ K) fd := by
  have c2 := (He.ba (show ((fa.all fun f => f K) && fn.all fun d => d.ok K) = true from congrArg (fun z : He.AlD => z.1) c)).2
  have e : fn.map (fun d => He5.fnA K (d.at_ K)) = fn.map He5.DefA.val := congrArg (fun z : He.AlD => z.2) c
  have e2 : (fn.map fun d => He5.fnA K (d.at_ K))[i]? = (fn.map He5.DefA.val)[i]? := by rw [e]
  rw [List.getElem?_map, List.getElem?_map, h] at e2
  exact He5.DefA.funD (Option.some.inj e2) (List.all_eq_true.mp c2 d (List.mem_of_getElem? h))
end
/-! ### calls by a positional promise -/
abbrev CXp (X : Cx) : CXT := L2.CX X.prog X.w
def tCR (sp : Sp) (E : XK) (t : TA) : TE := fun σ H Q => t σ H fun vs H1 => sp vs H1 Q E
def tMR (C : Addr) (m : Str) (sp : Sp) (E : XK) (ta : TE) (t : TA) : TE := fun σ H Q => ta σ H fun x H1 => ∃ a dx fs, x = V.ref a ∧ H1 a = some (.ins C dx fs) ∧ fs.lookup m = none ∧ t σ H1 fun vs H2 => sp (x :: vs) H2 Q E
section
variable {X : Cx} {CX : CXT} {k : Nat} {f C : Addr} {sp : Sp} {E : XK} {x m : Str} {e o : Expr} {es : List Expr} {te ta : TE} {t : TA} {p sp_ pos apos : Pos}
/-- f(e, ..) -/
theorem pe_cR (F : FnR X.prog X.w X.K X.mg X.base CX k f sp) (hr : Room k X.A) (hk : PySem.W.keepIn X.K (.ref f) = true) (hm : X.mg x = some (.ref f)) (hx : Passes CX X E) (ha : PA X (e :: es) t) (hg : Gl X x := by rfl) (hd : (x == ("__debug__" : Str)) = false := by decide)
    (he : starEach (e :: es) X.env = (false, eval e X.env) :: starEach es X.env := by rfl) (hpl : (backTo pos (starEach es X.env)).any (·.1) = false := by rfl) :
    PE X (.Call (.Name x p) (e :: es) [] pos) (tCR sp E t) := by
  refine ⟨fun pins s σ H Q I h => ?_⟩
  refine wpAny_Call_Name_kw (ld_glob I hg hm ?_ hd)
  refine PySem.W.callWith_K (h₀ := X.base) I.ok.mod.kin hk (thn (ha.run pos pins s σ H _ I h) fun us s1 ⟨vs, H1, I1, r, q⟩ => ⟨I1.kIn, ?_⟩) he hpl
  exact wpAny_call (run_fnR F hr hx I1 r q)
/-- f() -/
theorem pe_cR0 (F : FnR X.prog X.w X.K X.mg X.base CX k f sp) (hr : Room k X.A) (hk : PySem.W.keepIn X.K (.ref f) = true) (hm : X.mg x = some (.ref f)) (hx : Passes CX X E) (hg : Gl X x := by rfl) (hd : (x == ("__debug__" : Str)) = false := by decide) :
    PE X (.Call (.Name x p) [] [] pos) (tCR sp E tNil) := by
  refine ⟨fun pins s σ H Q I h => ?_⟩
  refine wpAny_Call_Name_kw (ld_glob I hg hm ?_ hd)
  exact PySem.W.callWith_K0 I.kIn hk (wpAny_call (run_fnR (us := []) (vs := []) F hr hx I .nil h))
/-- C( *y): an instance made with what a list or tuple holds -/
theorem pe_mkS1 (M : Mk X.K C f) (F : FnR X.prog X.w X.K X.mg X.base CX k f sp) (hr : Room (k + 1) X.A) (hm : X.mg x = some (.ref C)) (hx : Passes CX X E) (he : PE X e te) (hg : Gl X x := by rfl) (hd : (x == ("__debug__" : Str)) = false := by decide)
    (hst : starEach [.Starred e sp_] X.env = [(true, eval e X.env)] := by rfl) :
    PE X (.Call (.Name x p) [.Starred e sp_] [] pos) (StX.tMakeR C sp E (StX.tStar X.K te tNil)) := by
  refine ⟨fun pins s σ H Q I h => ?_⟩
  refine wpAny_Call_Name_kw (ld_glob I hg hm ?_ hd)
  refine PySem.W.callWith_S (h₀ := X.base) I.ok.mod.kin M.kp (thn (he.run pins s σ H _ I h) fun v s1 ⟨y, H1, I1, ry, a, xs, ey, hxs, q⟩ => ?_) hst
  subst ey
  obtain rfl : v = Value.ref a := ry
  refine StX.star_any I1 hxs fun us s2 I2 rv => ⟨I2.kIn, ?_⟩
  have q2 := (show ∀ x dx, H1 x = Option.none → H1 dx = Option.none → dx ≠ x → sp (V.ref x :: (xs ++ [])) (upd (upd H1 dx (.own x)) x (.ins C dx [])) (fun v H2 => v = .non ∧ Q (.ref x) H2) E from q)
  rw [List.append_nil] at q2
  exact StX.run_makeR M F hr hx I2 rv q2
/-- o.m(e, ..) of an instance with a dict -/
theorem pe_mR {pl : Sem Bool} (he : PE X o ta) (c : Cls X.K C) (hm : Meth X.K C m f) (F : FnR X.prog X.w X.K X.mg X.base CX k f sp) (hr : Room k X.A) (hx : Passes CX X E) (ha : PA X (e :: es) t)
    (hst : starEach (e :: es) X.env = (false, eval e X.env) :: starEach es X.env := by rfl) (hpl : (backTo pos (starEach es X.env)).any (·.1) = false := by rfl)
    (ht : eval (.Call (.Attribute o m apos) (e :: es) [] pos) X.env = (do
      let ov ← eval o X.env
      standAt apos.atName
      let (f, first) ← holding [ov] (getMethod ov m pl)
      callWith pos f first (backTo pos (starEach (e :: es) X.env)) (backToKw pos (keywordEach [] X.env))) := by rfl) :
    PE X (.Call (.Attribute o m apos) (e :: es) [] pos) (tMR C m sp E ta t) := by
  refine ⟨fun pins s σ H Q I h => ?_⟩
  refine PySem.W.methodCall_KW (pl := pl) (thn (he.run pins s σ H _ I h) fun u s1 ⟨x, H1, I1, rx, a, dx, fs, ex, ea, l, q⟩ => ?_) ht
  subst ex
  obtain rfl : u = Value.ref a := rx
  refine getmeth_ok I1 ea c hm l ?_
  refine PySem.W.callWith_K (first := [.ref a]) (h₀ := X.base) I.ok.mod.kin hm.kp (thn (ha.run pos pins s1 σ H1 _ I1 q) fun us s2 ⟨vs, H2, I2, r, q2⟩ => ⟨I2.kIn, ?_⟩) hst hpl
  exact wpAny_call (run_fnR (us := .ref a :: us) (vs := .ref a :: vs) F hr hx I2 (.cons rfl r) q2)
/-- o.m() -/
theorem pe_mR0 {pl : Sem Bool} (he : PE X o ta) (c : Cls X.K C) (hm : Meth X.K C m f) (F : FnR X.prog X.w X.K X.mg X.base CX k f sp) (hr : Room k X.A) (hx : Passes CX X E)
    (ht : eval (.Call (.Attribute o m apos) [] [] pos) X.env = (do
      let ov ← eval o X.env
      standAt apos.atName
      let (f, first) ← holding [ov] (getMethod ov m pl)
      callWith pos f first (backTo pos (starEach [] X.env)) (backToKw pos (keywordEach [] X.env))) := by rfl) :
    PE X (.Call (.Attribute o m apos) [] [] pos) (tMR C m sp E ta tNil) := by
  refine ⟨fun pins s σ H Q I h => ?_⟩
  refine PySem.W.methodCall_KW (pl := pl) (thn (he.run pins s σ H _ I h) fun u s1 ⟨x, H1, I1, rx, a, dx, fs, ex, ea, l, q⟩ => ?_) ht
  subst ex
  obtain rfl : u = Value.ref a := rx
  refine getmeth_ok I1 ea c hm l ?_
  exact PySem.W.callWith_K0 (first := [.ref a]) I1.kIn hm.kp (wpAny_call (run_fnR (us := [.ref a]) (vs := [.ref a]) F hr hx I1 (.cons rfl .nil) q))
end
/-! ### from a def of the text to its positional promise -/
section
variable {P : Program} {w : World} {K : PySem.W.Frag} {mg : Str → Option Value} {base : Heap} {x qual : Str} {params : Arguments} {body : List Stmt} {scope : Scope} {dvs : List V} {kws : List (Str × V)} {f : Addr} {fd : FuncData}
/-- what is asked of a def's body -/
def Bod (P : Program) (w : World) (K : PySem.W.Frag) (mg : Str → Option Value) (base : Heap) (N : List Str) (qual : Str) (scope : Scope) (f : Addr) (body : List Stmt) (k : Nat) (sp : Sp) : Prop :=
  ∀ (cdv : Value) (A : Around) (outer : List Env) (s : Shared) (H : Hp) (vs : List V) (Q : VK) (E : XK), Room k (A.deeper (envOfC qual scope s.heap.objs.size f cdv)) → sp vs H Q E →
      ∃ t, PSs (cxOf (L2.CX P w) P w K mg base N qual scope f cdv A outer s H E) body t ∧ t { nx := fun _ H' => Q .non H', rt := Q } (start N vs) H
/-- a def without defaults -/
theorem fnr {N ps : List Str} {k : Nat} {sp : Sp} (F : FunD K x qual params body scope [] kws f fd) (S : FnScope N ps scope)
    (hb : ∀ (kV doc pm : Value) (an : Option Addr) (cdv ct : Value) (us : List Value), us.length = ps.length → bindArgs (PySem.W.fnOf x qual params body scope .none kV doc pm an cdv ct) ⟨us, []⟩ = pure (ps.zip us))
    (len : ∀ vs H Q E, sp vs H Q E → vs.length = ps.length) (hbody : Bod P w K mg base N qual scope f body k sp) : FnR P w K mg base (L2.CX P w) (k + 1) f sp := by
  have G := FunD.ok (P := P) (w := w) (mg := mg) (base := base) (CX := L2.CX P w) F S len hbody
  have B := F.bindsN hb
  have R := FnOk.raw (dvs := []) (ds := []) G B .nil
  refine R.imp fun vs H Q E h => ?_
  rw [List.append_nil]
  exact h
/-- def f( *v) and def f(a, *v) -/
theorem fnr_star {N ps : List Str} {pv : Str} {k : Nat} {sp : Sp} (F : FunD K x qual params body scope [] kws f fd) (S : FnScope N (ps ++ [pv]) scope)
    (hb : ∀ (kV doc pm : Value) (an : Option Addr) (cdv ct : Value) (us rest : List Value), us.length = ps.length → bindArgs (PySem.W.fnOf x qual params body scope .none kV doc pm an cdv ct) ⟨us ++ rest, []⟩ = (newTuple rest >>= fun t => pure (ps.zip us ++ [(pv, t)])))
    (hbody : Bod P w K mg base N qual scope f body k sp) :
    FnR P w K mg base (L2.CX P w) (k + 1) f (fun vs H Q E => ∃ ws rest, vs = ws ++ rest ∧ ws.length = ps.length ∧ rest.length ≤ sizeLine ∧ ∀ T, H T = none → sp (ws ++ [V.ref T]) (upd H T (.tup rest)) Q E) := by
  obtain ⟨oc, od, dV, kV, doc, pm, an, cdv, ct, osl, e, l, c, hd, _⟩ := F.ex
  rcases hd with ⟨_, e2⟩ | ⟨e2, _⟩
  · subst e2
    subst e
    exact StX.fn_star (sp := sp) l c S StX.cxUp (hb kV doc pm an cdv ct) (hbody cdv)
  · exact absurd rfl e2
end
end EM
/-! EM2: own operators, enumerate of a tuple, != of lists. -/
namespace PySem.W
open PyProof.Rows
section
variable {M : Model} {A : Around} {E : Value → Shared → Prop} {s : Shared} {K : Frag} {x C f : Addr} {ox : Obj} {od : Option Obj}
theorem em_ifBound {name : Str} {id : String} {args : List Value} {Q : Option Value → Shared → Prop} (X : K.In s.heap) (I : InstAt s.heap x ox C od) (hs : findIn K (.ref C) name = some (some (.builtin id)))
    (hb : ∀ self, bindSpecial (.builtin id) self = pure (.builtin id, [self])) (h : wpAny M A (call (.builtin id) (.ref x :: args)) (fun v => Q (some v)) E s) : wpAny M A (callSpecialIfBound? (.ref x) name args) Q E s := by
  simp only [callSpecialIfBound?, bindSpecialIfBound?]
  refine wpAny_holding (wpAny_bind (wpAny_bind (wpAny_bind (I.type.here ((looks_findIn X hs).here ?_)))))
  refine wpAny_bind (wpAny_askSetting (wpAny_ite ?_))
  have fin : wpAny M A (call (.builtin id) ([.ref x] ++ args) >>= fun v => pure (some v)) Q E s := wpAny_bind (wpAny_mono h (fun v s' h' => wpAny_pure h') fun _ _ h' => h')
  split
  · rw [hb]
    exact wpAny_bind (wpAny_pure (wpAny_pure (by exact fin)))
  · rw [hb]
    exact wpAny_tryCatch (wpAny_bind (wpAny_pure (wpAny_pure (by exact fin))))
end
section
variable {prog : Program} {w : World} {A : Around} {E : Value → Shared → Prop} {s : Shared} {K : Frag} {x C f L : Addr} {h₀ : Heap} {m : Str → Option Value} {ox : Obj} {od : Option Obj}
/-- x != b by the class's own == (object.__ne__ asks it) -/
theorem em_objNe {b : Value} {Q : Value → Shared → Prop} (hu : A.in1.units < cLine) (X : K.In s.heap) (I : InstAt s.heap x ox C od) (hm : mroIn K C (.type "object") = some true) (he : findIn K (.ref C) "__eq__" = some (some (.ref f))) (hf : isFn K (.ref f) = true)
    (h : wpAny (model prog w) A.in1 (call (.ref f) [.ref x, b]) (fun v s' => ∃ r, v = .bool r ∧ Q (.bool (!r)) s') E s) : wpAny (model prog w) A (call (.builtin "object.__ne__") [.ref x, b]) Q E s := by
  refine wpAny_call (codeAny_call_builtin PySem.F.slot_object_ne.plain PySem.F.entry_object_ne (check_slot (i := "object.__ne__") (owner := "object") (n := "__ne__") (by decide +kernel) (by decide +kernel) (I.type.andThen (looks_mroIn X hm)) (PySem.F.args_object_ne_2 _ _) ?_))
  unfold Builtin.«object.__ne__»
  refine wpAny_bind (m := slotArgs "__ne__" 1 _) (wpAny_pure ?_)
  refine wpAny_bind (m := cRoomFor _ _) (wpAny_cRoomFor hu ?_)
  refine wpAny_bind (m := callSpecialIfBound? (.ref x) (Str.ofString "__eq__") _) (ifBound_K X I he hf (wpAny_mono h (fun r s' hq => ?_) fun _ _ y => y))
  obtain ⟨r, rfl, q⟩ := hq
  exact wpAny_bind (m := truthy (.bool r)) (wpAny_truthy_bool (wpAny_pure q))
theorem em_ne {b tb : Value} {Q : Value → Shared → Prop} (hu : A.units + 1 < cLine) (F : Fr h₀ L s.heap m) (X₀ : K.In h₀) (I : InstAt s.heap x ox C od) (hb : Looks (model prog w) s.heap (typeOf b) tb) (hn : notFirst K C tb = true)
    (hs : findIn K (.ref C) "__ne__" = some (some (.builtin "object.__ne__"))) (hm : mroIn K C (.type "object") = some true) (he : findIn K (.ref C) "__eq__" = some (some (.ref f))) (hf : isFn K (.ref f) = true)
    (h : wpAny (model prog w) A.in1 (call (.ref f) [.ref x, b]) (fun v s' => ∃ r, v = .bool r ∧ Q (.bool (!r)) s') E s) : wpAny (model prog w) A (richCompare .NotEq (.ref x) b) Q E s := by
  have X := X₀.keeps F.keep
  have one : wpAny (model prog w) A (tryCompare (.ref x) "__ne__" b) (fun r s' => ∃ v, r = some v ∧ Q v s') E s := by
    unfold tryCompare
    refine wpAny_bind (em_ifBound X I hs PySem.F.slot_object_ne.bind (em_objNe hu X I hm he hf (wpAny_mono h (fun v s' hv => ?_) fun _ _ e => e)))
    obtain ⟨r, rfl, q⟩ := hv
    exact ⟨r, rfl, wpAny_pure ⟨_, rfl, q⟩⟩
  unfold richCompare
  simp only [oneThing_ref]
  refine wpAny_holding (wpAny_bind (wpAny_cRoomFor (Nat.lt_of_succ_lt hu) ?_))
  refine wpAny_bind (I.type.here (wpAny_bind (hb.here ?_)))
  split
  · rename_i q
    have e : subIn K tb (.ref C) = some false := by
      rcases Bool.or_eq_true_iff.mp hn with e | e
      · rw [beq_iff_eq.mp e] at q; simp at q
      · exact beq_iff_eq.mp e
    refine wpAny_bind ((looks_subIn X e).here ?_)
    simp only [Bool.false_eq_true, if_false]
    refine wpAny_bind (wpAny_mono one (fun r s' z => ?_) fun _ _ e => e)
    obtain ⟨v, rfl, hq⟩ := z
    exact wpAny_pure hq
  · refine wpAny_bind (wpAny_pure ?_)
    simp only [Bool.false_eq_true, if_false]
    refine wpAny_bind (wpAny_mono one (fun r s' z => ?_) fun _ _ e => e)
    obtain ⟨v, rfl, hq⟩ := z
    exact wpAny_pure hq
end
end PySem.W
namespace EM
open PySem PySem.Spec PyProof.Rows L2
/-! ### an instance with a dict, and what stands below it -/
section
variable {X : Cx} {pins : List (Addr × Obj)} {σ : L2.St} {H : Hp} {s : Shared} {a C dx : Addr} {fs : List (Str × V)}
theorem ins_at (I : Inv X pins σ H s) (h : H a = some (.ins C dx fs)) : ∃ ox od, PySem.W.InstAt s.heap a ox C (some od) ∧ ox.data = .plain := by
  obtain ⟨mA, O, _⟩ := ins_get I.hok h
  obtain ⟨od, J, _⟩ := O.look
  exact ⟨_, od, J, rfl⟩
end
/-- a one-place operator of the class's own -/
def rUnO (C : Addr) (sp : Sp) (E : XK) : V → Hp → VK → Prop := fun x H Q => ∃ a dx fs, x = .ref a ∧ H a = some (.ins C dx fs) ∧ sp [x] H Q E
section
variable {X : Cx} {CX : CXT} {n : Nat} {g C : Addr} {sp : Sp} {E : XK}
theorem un_invO (hs : PySem.W.findIn X.K (.ref C) "__invert__" = some (some (.ref g))) (hf : PySem.W.isFn X.K (.ref g) = true) (F : FnR X.prog X.w X.K X.mg X.base CX n g sp) (hr : Room n X.A) (hx : Passes CX X E) : UnR X (unaryOp .Invert) (rUnO C sp E) := by
  intro pins s σ H x v Q I rx h
  obtain ⟨a, dx, fs, rfl, ha, q⟩ := h
  cases (show v = Value.ref a from rx)
  obtain ⟨ox, od, J, _⟩ := ins_at I ha
  obtain ⟨m, hF⟩ := I.fr
  exact PySem.W.ksp_inv hF I.ok.mod.kin J hs hf (wpAny_call (run_fnR (us := [.ref a]) (vs := [.ref a]) F hr hx I (.cons rfl .nil) q))
theorem un_negO (hs : PySem.W.findIn X.K (.ref C) "__neg__" = some (some (.ref g))) (hf : PySem.W.isFn X.K (.ref g) = true) (F : FnR X.prog X.w X.K X.mg X.base CX n g sp) (hr : Room n X.A) (hx : Passes CX X E) : UnR X (unaryOp .USub) (rUnO C sp E) := by
  intro pins s σ H x v Q I rx h
  obtain ⟨a, dx, fs, rfl, ha, q⟩ := h
  cases (show v = Value.ref a from rx)
  obtain ⟨ox, od, J, _⟩ := ins_at I ha
  obtain ⟨m, hF⟩ := I.fr
  exact PySem.W.ksp_neg hF I.ok.mod.kin J hs hf (wpAny_call (run_fnR (us := [.ref a]) (vs := [.ref a]) F hr hx I (.cons rfl .nil) q))
/-- x op y of two instances of one class -/
def rCmpO (C : Addr) (sp : Sp) (E : XK) : R2 := fun x y H Q => ∃ a dx fs b dy gs, x = .ref a ∧ y = .ref b ∧ H a = some (.ins C dx fs) ∧ H b = some (.ins C dy gs) ∧ sp [x, y] H Q E
theorem notFirst_self {K : PySem.W.Frag} {C : Addr} : PySem.W.notFirst K C (.ref C) = true := by
  unfold PySem.W.notFirst
  simp
theorem op_cmpO {op : CmpOp} (hop : ∀ a b, compareOp op a b = richCompare op a b) (hs : PySem.W.findIn X.K (.ref C) (cmpInfo op).2.1 = some (some (.ref g))) (hf : PySem.W.isFn X.K (.ref g) = true) (F : FnR X.prog X.w X.K X.mg X.base CX n g sp)
    (hr : Room n X.A) (hx : Passes CX X E) : OpR X (compareOp op) (rCmpO C sp E) := by
  intro pins s σ H x y v u Q I rx ry h
  obtain ⟨a, dx, fs, b, dy, gs, rfl, rfl, ha, hb, q⟩ := h
  cases (show v = Value.ref a from rx)
  cases (show u = Value.ref b from ry)
  obtain ⟨ox, od, J, _⟩ := ins_at I ha
  obtain ⟨oy, od', J', _⟩ := ins_at I hb
  obtain ⟨m, hF⟩ := I.fr
  rw [hop]
  refine PySem.W.cmp_K (op := op) (tb := .ref C) hr.units0 hF I.ok.mod.kin J J'.type notFirst_self hs hf ?_
  refine wpAny_mono (wpAny_call (run_fnR (us := [.ref a, .ref b]) (vs := [.ref a, .ref b]) F hr hx I (.cons rfl (.cons rfl .nil)) q)) (fun w s' z => ?_) fun _ _ x => x
  obtain ⟨z', H', I', rz, qz⟩ := z
  exact SlX.cmpback rz ⟨z', H', I', rz, qz⟩
/-- x != y of two instances of one class whose == is its own -/
def rNeO (C : Addr) (sp : Sp) (E : XK) : R2 := fun x y H Q => ∃ a dx fs b dy gs, x = .ref a ∧ y = .ref b ∧ H a = some (.ins C dx fs) ∧ H b = some (.ins C dy gs) ∧ sp [x, y] H (fun z H' => ∃ r, z = .bl r ∧ Q (.bl (!r)) H') E
theorem op_neO (hs : PySem.W.findIn X.K (.ref C) "__ne__" = some (some (.builtin "object.__ne__"))) (hm : PySem.W.mroIn X.K C (.type "object") = some true) (he : PySem.W.findIn X.K (.ref C) "__eq__" = some (some (.ref g))) (hf : PySem.W.isFn X.K (.ref g) = true)
    (F : FnR X.prog X.w X.K X.mg X.base CX n g sp) (hr : Room (n + 1) X.A) (hx : Passes CX X E) : OpR X (compareOp .NotEq) (rNeO C sp E) := by
  intro pins s σ H x y v u Q I rx ry h
  obtain ⟨a, dx, fs, b, dy, gs, rfl, rfl, ha, hb, q⟩ := h
  cases (show v = Value.ref a from rx)
  cases (show u = Value.ref b from ry)
  obtain ⟨ox, od, J, _⟩ := ins_at I ha
  obtain ⟨oy, od', J', _⟩ := ins_at I hb
  obtain ⟨m, hF⟩ := I.fr
  show wpAny _ _ (richCompare .NotEq (.ref a) (.ref b)) _ _ _
  refine PySem.W.em_ne (tb := .ref C) (hu_of hr) hF I.ok.mod.kin J J'.type notFirst_self hs hm he hf ?_
  have c := SlX.run_at (us := [.ref a, .ref b]) (ws := [.ref a, .ref b]) F hr.in1 I.env0.in1 hx I (.cons rfl (.cons rfl .nil)) q
  refine wpAny_mono (wpAny_call c) (fun w s' z => ?_) fun _ _ x => x
  obtain ⟨z', H', I', rz, r, ez, qz⟩ := z
  subst ez
  cases (show w = Value.bool r from rz)
  exact ⟨r, rfl, .bl (!r), H', I', rfl, qz⟩
end
end EM
/-! EM3: enumerate of a tuple. -/
namespace PySem
open AutoSeq1 (wpAny_loadPart')
theorem em_enum_new1 {v : Value} {o : Obj} {H : Heap → Prop} (B : Begins v o H) :
    Meets (Builtin.«enumerate.__new__» ⟨[.type "enumerate", v], []⟩) (fun _ R s => H s.heap ∧
      R (.ok (.ret (.ref (s.heap.push o).objs.size))) { s with heap := (s.heap.push o).push { cls := .type "enumerate", data := .fields #[.none, .bool false, .ref s.heap.objs.size, rawInt 0, .none, .none] } }) :=
  .of_wp fun prog w A R s h => by
    obtain ⟨hp, g, d, tk, os⟩ := s; obtain ⟨h1, h⟩ := h
    have hsub := sub_enumerate
    have q1 : ∀ {A' : Around} {E : Value → Shared → Prop} {Q : Value → Shared → Prop}, Q (.ref hp.objs.size) ⟨hp.push o, g, d, tk, os⟩ → wpAny (model prog w) A' (pyIter v) Q E ⟨hp, g, d, tk, os⟩ :=
      fun q => B.iter prog w _ _ ⟨hp, g, d, tk, os⟩ _ h1 q
    wp_walk using q1
    refine wpAny_stack_any fun st => wpAny_pure ?_
    split
    · rename_i c _ _ _ _ _
      cases (c == Value.type "enumerate")
      · wp_walk using q1
        exact ⟨_, rfl, h⟩
      · wp_walk using q1
        exact ⟨_, rfl, h⟩
    · wp_walk using q1
      exact ⟨_, rfl, h⟩
section
variable {prog : Program} {w : World} {A : Around} {E : Value → Shared → Prop} {s : Shared}
theorem em_enum_begins {v : Value} {o : Obj} {H : Heap → Prop} {Q : Value → Shared → Prop} (B : Begins v o H) (h1 : H s.heap)
    (h : ∀ h', IsEnum h' (s.heap.objs.size + 1) s.heap.objs.size 0 .none → h'.get? s.heap.objs.size = some o → h'.objs.size = s.heap.objs.size + 2 →
      (∀ b o, s.heap.get? b = some o → h'.get? b = some o) → Q (.ref (s.heap.objs.size + 1)) { s with heap := h' }) :
    wpAny (model prog w) A (call (.type "enumerate") [v]) Q E s := by
  refine callType_new F.called_enumerate (by decide) (F.typeCall_enumerate_1 _) (F.newCall_enumerate_1 _) (fun obj => F.args_object_init_2 obj _) F.entry_enumerate_new
    (em_enum_new1 B) ⟨h1, ?_⟩
  have hz : (s.heap.push o).objs.size = s.heap.objs.size + 1 := Heap.size_push ..
  show _ ∧ _
  rw [hz]
  have he : IsEnum ((s.heap.push o).push { cls := .type "enumerate", data := .fields #[.none, .bool false, .ref s.heap.objs.size, rawInt 0, .none, .none] }) (s.heap.objs.size + 1) s.heap.objs.size 0 .none := by
    have := Heap.get?_push_size (s.heap.push o) (o := { cls := .type "enumerate", data := .fields #[.none, .bool false, .ref s.heap.objs.size, rawInt 0, .none, .none] }) rfl
    rw [hz] at this; exact this
  exact ⟨⟨_, he, rfl⟩, h _ he (Heap.get?_push_of_some _ (Heap.get?_push_size _ B.free)) (by rw [Heap.size_push, hz]) fun b o x => Heap.get?_push_of_some _ (Heap.get?_push_of_some _ x)⟩
end
end PySem
namespace EM
open PySem PySem.Spec PyProof.Rows L2
def IteT (K : PySem.W.Frag) (a : Addr) : It :=
  ⟨fun i H => ∃ (xs : List V) (x : V), SqT K H a xs ∧ xs[i]? = some x, fun i H v H' => ∃ T x, v = .ref T ∧ H T = none ∧ H' = upd H T (.tup [.int (i : Nat), x]) ∧ ∀ xs, SqT K H a xs → xs[i]? = some x, fun i H => ∃ xs : List V, SqT K H a xs ∧ xs.length ≤ i⟩
theorem turn_enumT {P : Program} {w : World} {K : PySem.W.Frag} {elts : List Expr} {kk : Nat} {tpos : Pos} (a e it : Addr) :
    Turn P w K (.Tuple elts kk tpos) (IteT K a) [e, it] e (fun i h => (∃ old, IsEnum h e it ((i : Nat) : Int) old) ∧ h.IsTupleIter it a i ∧ e ≠ it ∧ a ≠ it ∧ e ≠ a) where
  mem := by simp
  obj := fun i h st b hb => by
    obtain ⟨⟨old, he⟩, ⟨o, ho, hc, hd⟩, _⟩ := st
    have e' : b = e ∨ b = it := by simpa using hb
    rcases e' with z | z
    · rw [z]; exact ⟨_, he, fun v q => nomatch q⟩
    · rw [z]; exact ⟨o, ho, fun v q => by rw [hd] at q; cases q⟩
  keep := fun i h h' st k => let ⟨⟨old, he⟩, hi, hne⟩ := st; ⟨⟨old, k e (by simp) _ he⟩, hi.at fun o q => k it (by simp) o q, hne⟩
  item := by
    intro X hP hw hK hc i pins s σ H E I hf st hg
    subst hP hw hK
    obtain ⟨⟨old, he⟩, hit, hne, hai, hea⟩ := st
    obtain ⟨xs, x, hq, hx⟩ := hg
    obtain ⟨its, rv, p, hz⟩ := I.tuple hq
    obtain ⟨u, hu, ru⟩ := rv.get hx
    have hil2 : i < its.toArray.size := by
      have := (List.getElem?_eq_some_iff.mp hu).1
      simpa using this
    have hel : e < s.heap.objs.size := Heap.lt_size he
    have hil : it < s.heap.objs.size := by obtain ⟨_, q, _⟩ := hit; exact Heap.lt_size q
    have D := Draws.tuple (prog := X.prog) (w := X.w) (A := X.A.in1) (I.ok.hd hc) it a hai its.toArray
    refine wpAny_pyNext_enum_itemD D he ⟨hit, p⟩ hil2 hne (by simp [hne, hea]) fun y h' tk hy ho hst' hT hsz hk => ?_
    have ey : y = u := by
      have h1 : its.toArray[i]? = some u := by simpa using hu
      have h2 : its.toArray[i]? = some y := hy
      rw [h1] at h2
      exact (Option.some.inj h2).symm
    subst ey
    obtain ⟨hit', _⟩ := hst'
    refine ⟨_, rfl, wpAny_letOwnedTupleGo_enum (s := { s with heap := h', toks := tk + 1 }) ho fun h'' he' sb => ?_⟩
    have hT2 : h''.get? s.heap.objs.size = some { cls := .type "tuple", data := .seq #[.int i tk, y] } := (sb.2 _ (Nat.ne_of_gt hel)).trans hT
    have new : ObjOk X.prog X.w (upd H s.heap.objs.size (.tup [.int (i : Nat), x])) h'' s.heap.objs.size (.tup [.int (i : Nat), x]) :=
      ⟨by show 2 ≤ sizeLine; decide, [.int i tk, y], .cons ⟨_, rfl⟩ (.cons ru .nil), ⟨_, hT2, rfl, _, rfl⟩⟩
    have I1 : Inv X pins σ (upd H s.heap.objs.size (.tup [.int (i : Nat), x])) { s with heap := h'', toks := tk + 1 } :=
      I.turnedNew (ch := [e, it]) (fun b ob hb q => (sb.2 b (fun z => hb (by simp [z]))).trans (hk b ob (fun z => hb (by simp [z])) (fun z => hb (by simp [z])) q)) hf (Nat.le_refl _) new
    refine ⟨.ref s.heap.objs.size, _, I1, rfl, ⟨_, x, rfl, I.hok.fresh (Nat.le_refl _), rfl, fun ys hy => by rw [I.tuple_inj hy hq]; exact hx⟩, ⟨⟨y, ?_⟩, hit'.at fun o q => (sb.2 it (Ne.symm hne)).trans q, hne, hai, hea⟩, fun b hb => ?_⟩
    · have e1 : ((i + 1 : Nat) : Int) = (i : Int) + 1 := by omega
      rw [e1]; exact he'
    · have hb' : b < s.heap.objs.size := by
        have e' : b = e ∨ b = it := by simpa using hb
        rcases e' with z | z
        · rw [z]; exact hel
        · rw [z]; exact hil
      rw [upd_ne (Nat.ne_of_lt hb')]
      exact (hf b hb).1
  done := by
    intro X hP hw hK hc i pins s σ H E I hf st hg
    subst hP hw hK
    obtain ⟨⟨old, he⟩, hit, hne, hai, hea⟩ := st
    obtain ⟨xs, hq, hx⟩ := hg
    obtain ⟨its, rv, p, hz⟩ := I.tuple hq
    obtain ⟨f0, f1, f2, f3, f4, f5⟩ := hf it (by simp)
    have hl := rv.length
    have hT : s.TypeIs (.ref e) "enumerate" := ⟨_, he, rfl⟩
    unfold pyNext
    refine wpAny_bind (wpAny_attempt (wpAny_callSpecial?_slot (name := Str.ofString "__next__") hT F.slot_enumerate_next
      (wpAny_call_entry F.slot_enumerate_next hT F.entry_enumerate_next ?_ (F.args_enumerate_next_1 _))))
    show wpAny _ _ (field (.ref e) 2 >>= _) _ _ _
    refine wpAny_bind (wpAny_field he rfl (x := .ref it) rfl ?_)
    refine wpAny_bind (wpAny_nextOf_tuple_end (I.ok.hd hc) hit p (by simp; omega) fun h' x he' hx' => ?_)
    obtain ⟨o, ho, hc'⟩ := hx'
    refine wpAny_bind (wpAny_isInstance (T := "StopIteration") (b := true) ⟨o, ho, hc'⟩ isSubtype_stop ?_)
    exact wpAny_pure ⟨rfl, I.turned (t' := s.toks) (fun b o hb q => he' b o hb q) f0 f1 f3 f4 f5⟩
  self := fun A i s Q E st h => let ⟨⟨_, he⟩, _⟩ := st; wpAny_pyIter_enum he h
def iEnumT (K : PySem.W.Frag) (ta : TA) : TI := fun σ H R => ta σ H fun vs H1 => ∃ a xs, vs = [.ref a] ∧ SqT K H1 a xs ∧ R (IteT K a) H1
theorem pi_enumT {X : Cx} {e : Expr} {ta : TA} {p pos tpos : Pos} {elts : List Expr} {kk : Nat} (hg : Gl X "enumerate") (hm : X.mg "enumerate" = none) (ha : PA X [e] ta) (hs : starEach [e] X.env = [(false, eval e X.env)] := by rfl) :
    PI X (.Tuple elts kk tpos) (.Call (.Name "enumerate" p) [e] [] pos) (iEnumT X.K ta) := by
  refine ⟨fun pins s σ H R I h => ?_⟩
  refine Call_ (ld_blt I hg hm boot_enumerate (PyProof.Rows.callWith_type1 (thn (ha.run pos pins s σ H _ I h) fun us s1 ⟨vs, H1, I1, r1, q1⟩ => ?_) hs rfl))
  obtain ⟨a, xs, ex, hq, q⟩ := q1
  subst ex
  cases r1 with
  | cons r rr =>
    cases rr
    cases r
    obtain ⟨its, rv, p', hz⟩ := I1.tuple hq
    have hal : a < s1.heap.objs.size := by obtain ⟨_, q, _⟩ := p'; exact Heap.lt_size q
    refine em_enum_begins (begins_tuple a its.toArray) p' fun h' he hit hsz hk => wpAny_pyIter_enum he ?_
    have I2 : Inv X pins σ H1 { s1 with heap := h' } := I1.kept (t' := s1.toks) hk
    refine ⟨s1.heap.objs.size + 1, [s1.heap.objs.size + 1, s1.heap.objs.size], _, _, H1, rfl, I2, turn_enumT a (s1.heap.objs.size + 1) s1.heap.objs.size, ⟨⟨.none, he⟩, ⟨_, hit, rfl, rfl⟩, Nat.succ_ne_self _, Nat.ne_of_lt hal, Nat.ne_of_gt (Nat.lt_succ_of_lt hal)⟩, fun b hb => ?_, q⟩
    have e' : b = s1.heap.objs.size + 1 ∨ b = s1.heap.objs.size := by simpa using hb
    have hle : s1.heap.objs.size ≤ b := by
      rcases e' with z | z
      · rw [z]; exact Nat.le_add_right _ _
      · rw [z]; exact Nat.le_refl _
    exact I1.fpOk hle (I1.hok.fresh hle)
theorem walk_enumT {K : PySem.W.Frag} {a : Addr} {xs : List V} : Walk (IteT K a) xs.length (fun H => SqT K H a xs) (YPair (fun i => some (.int (i : Nat))) (fun i => xs[i]?)) :=
  ⟨fun i H hi g => ⟨xs, xs[i], g, List.getElem?_eq_getElem hi⟩, fun H g => ⟨xs, g, Nat.le_refl _⟩, fun i H x H' hi g ⟨T, y, e1, e2, e3, e4⟩ => ⟨T, .int (i : Nat), y, e1, e2, e3, rfl, e4 xs g⟩⟩
end EM
/-! EM4: calls with keywords, defaults, != of lists of the same objects, xs[::-1] of a tuple. -/
namespace EM
open PySem PySem.Spec PyProof.Rows L2
/-! ### keywords -/
abbrev Sp2 := List V → List V → Hp → VK → XK → Prop
def FnK (P : Program) (w : World) (K : PySem.W.Frag) (mg : Str → Option Value) (base : Heap) (CX : CXT) (k : Nat) (f : Addr) (ks : List Str) (sp : Sp2) : Prop :=
  ∀ (A : Around) (outer : List Env) (s : Shared) (H : Hp) (us ws : List Value) (vs zs : List V) (Q : VK) (E : XK), Room k A → Env0 P w K mg base A outer s H → Vals vs us → Vals zs ws → sp vs zs H Q E →
    codeAny (model P w) A (.call (.ref f) ⟨us, ks.zip ws⟩) (CR CX outer P w H s Q E) s
section
variable {P : Program} {w : World} {K : PySem.W.Frag} {mg : Str → Option Value} {base : Heap} {CX : CXT} {k n : Nat} {f : Addr} {fd : FuncData} {ps ks : List Str} {sp : Sp} {g : List Value → List Value → List Value} {gV : List V → List V → List V}
theorem fnk_of (F : FnOk P w K mg base CX k f fd ps sp) (hb : KBn K fd ps n ks g gV) : FnK P w K mg base CX k f ks (fun vs zs H Q E => vs.length = n ∧ zs.length = ks.length ∧ sp (gV vs zs) H Q E) := by
  intro A outer s H us ws vs zs Q E hr e0 r rz ⟨l1, l2, h⟩
  have r2 := hb.rel r rz
  have b := hb.to s us ws (e0.mod.kin.keeps fun b o e => (e0.bs b o e).1) (by rw [← r.length]; exact l1) (by rw [← rz.length]; exact l2)
  exact F.run A outer s H ⟨us, ks.zip ws⟩ (g us ws) (gV vs zs) Q E hr e0 b r2 h
end
def tCK (sp : Sp2) (E : XK) (t tk : TA) : TE := fun σ H Q => t σ H fun vs H1 => tk σ H1 fun zs H2 => sp vs zs H2 Q E
section
variable {X : Cx} {CX : CXT} {k n : Nat} {f : Addr} {ks : List Str} {sp : Sp2} {E : XK} {x : Str} {p pos : Pos} {e : Expr} {es : List Expr} {kws : List Keyword} {t tk : TA}
theorem run_fnK {pins : List (Addr × Obj)} {σ : L2.St} {H : Hp} {s : Shared} {Q : VK} {us ws : List Value} {vs zs : List V} (F : FnK X.prog X.w X.K X.mg X.base CX k f ks sp) (hr : Room k X.A) (hx : Passes CX X E)
    (I : Inv X pins σ H s) (r : Vals vs us) (rz : Vals zs ws) (h : sp vs zs H Q E) : wpAny (model X.prog X.w) X.A (call (.ref f) us (ks.zip ws)) (EP X pins σ Q) X.xe s := by
  refine wpAny_call (codeAny_mono (F X.A X.stack s H us ws vs zs Q E hr I.env0 r rz h) fun r s' hq => ?_)
  cases r with
  | error e => exact hx pins σ H s e s' I hq
  | ok fl =>
    cases fl with
    | ret u => exact I.after hq
    | next => exact False.elim hq
    | brk => exact False.elim hq
    | cont => exact False.elim hq
/-- f(e, .., k = v, ..) -/
theorem pe_cK (F : FnK X.prog X.w X.K X.mg X.base CX k f ks sp) (hr : Room k X.A) (hk : PySem.W.keepIn X.K (.ref f) = true) (hm : X.mg x = some (.ref f)) (hx : Passes CX X E)
    (ha : PA X (e :: es) t) (hkw : PK X kws tk) (hg : Gl X x := by rfl) (hall : (backToKw pos (keywordEach kws X.env)).all (·.1.isSome) = true := by rfl) (hks : (backToKw pos (keywordEach kws X.env)).filterMap (·.1) = ks := by rfl)
    (hdb : (x == ("__debug__" : Str)) = false := by decide) (he : starEach (e :: es) X.env = (false, eval e X.env) :: starEach es X.env := by rfl)
    (hpl : ((backTo pos (starEach (e :: es) X.env)).any (·.1) || (backToKw pos (keywordEach kws X.env)).any (·.1.isNone)) = false := by rfl) :
    PE X (.Call (.Name x p) (e :: es) kws pos) (tCK sp E t tk) := by
  refine ⟨fun pins s σ H Q I h => ?_⟩
  refine wpAny_Call_Name_kw (ld_glob I hg hm ?_ hdb)
  refine PySem.W.callWith_KW (h₀ := X.base) I.ok.mod.kin hk hall (thn (ha.run pos pins s σ H _ I h) fun us s1 ⟨vs, H1, I1, r, q⟩ => ?_) hpl he
  refine thn (hkw.run pos pins s1 σ H1 _ I1 q) fun ws s2 ⟨zs, H2, I2, rz, q2⟩ => ⟨I2.kIn, ?_⟩
  rw [hks]
  exact run_fnK F hr hx I2 r rz q2
/-- f(k = v, ..) -/
theorem pe_cK0 (F : FnK X.prog X.w X.K X.mg X.base CX k f ks sp) (hr : Room k X.A) (hk : PySem.W.keepIn X.K (.ref f) = true) (hm : X.mg x = some (.ref f)) (hx : Passes CX X E)
    (hkw : PK X kws tk) (hg : Gl X x := by rfl) (hall : (backToKw pos (keywordEach kws X.env)).all (·.1.isSome) = true := by rfl) (hks : (backToKw pos (keywordEach kws X.env)).filterMap (·.1) = ks := by rfl)
    (hdb : (x == ("__debug__" : Str)) = false := by decide)
    (hpl : ((backTo pos (starEach [] X.env)).any (·.1) || (backToKw pos (keywordEach kws X.env)).any (·.1.isNone)) = false := by rfl) :
    PE X (.Call (.Name x p) [] kws pos) (tCK sp E tNil tk) := by
  refine ⟨fun pins s σ H Q I h => ?_⟩
  refine wpAny_Call_Name_kw (ld_glob I hg hm ?_ hdb)
  refine PySem.W.callWith_KW0 (h₀ := X.base) I.ok.mod.kin hk hall ?_ hpl
  refine thn (hkw.run pos pins s σ H _ I h) fun ws s2 ⟨zs, H2, I2, rz, q2⟩ => ⟨I2.kIn, ?_⟩
  rw [hks]
  exact run_fnK (us := []) (vs := []) F hr hx I2 .nil rz q2
end
/-! ### a def with defaults, called by position -/
section
variable {P : Program} {w : World} {K : PySem.W.Frag} {mg : Str → Option Value} {base : Heap} {x qual : Str} {params : Arguments} {body : List Stmt} {scope : Scope} {dvs : List V} {kws : List (Str × V)} {f : Addr} {fd : FuncData}
/-- n values are written, the defaults behind the first j fill up -/
theorem fnr_dfl {N ps : List Str} {k : Nat} {sp : Sp} (n j : Nat) (F : FunD K x qual params body scope dvs kws f fd) (S : FnScope N ps scope) (hd : dvs ≠ []) (hn : n + (dvs.length - j) = ps.length)
    (h : ∀ (T : Addr) (kV doc pm : Value) (an : Option Addr) (cdv ct : Value) (us its : List Value), us.length = n → its.length = dvs.length →
      ∃ k, bindArgs (PySem.W.fnOf x qual params body scope (.ref T) kV doc pm an cdv ct) ⟨us, []⟩ = seqItems? (.ref T) >>= k ∧ k (some its.toArray) = pure (ps.zip (us ++ its.drop j)))
    (len : ∀ vs H Q E, sp vs H Q E → vs.length = ps.length) (hbody : Bod P w K mg base N qual scope f body k sp) : FnR P w K mg base (L2.CX P w) (k + 1) f (fun vs H Q E => sp (vs ++ dvs.drop j) H Q E) := by
  have G := FunD.ok (P := P) (w := w) (mg := mg) (base := base) (CX := L2.CX P w) F S len hbody
  obtain ⟨ds, hv, B⟩ := F.binds1 n j hd hn h
  exact FnOk.raw G B hv
/-- .. with keywords -/
theorem fnk_dfl {N ps : List Str} {k : Nat} {sp : Sp} (n : Nat) (ks : List Str) (g : {α : Type} → List α → List α → List α → List α) (F : FunD K x qual params body scope dvs kws f fd) (S : FnScope N ps scope) (hd : dvs ≠ [])
    (hrel : ∀ {vs ds zs : List V} {us its ws : List Value}, Vals vs us → Vals ds its → Vals zs ws → Vals (g vs ds zs) (g us its ws))
    (h : ∀ (T : Addr) (kV doc pm : Value) (an : Option Addr) (cdv ct : Value) (us its ws : List Value), us.length = n → its.length = dvs.length → ws.length = ks.length →
      ∃ k, bindArgs (PySem.W.fnOf x qual params body scope (.ref T) kV doc pm an cdv ct) ⟨us, ks.zip ws⟩ = seqItems? (.ref T) >>= k ∧ k (some its.toArray) = pure (ps.zip (g us its ws)))
    (len : ∀ vs H Q E, sp vs H Q E → vs.length = ps.length) (hbody : Bod P w K mg base N qual scope f body k sp) : FnK P w K mg base (L2.CX P w) (k + 1) f ks (fun vs zs H Q E => vs.length = n ∧ zs.length = ks.length ∧ sp (g vs dvs zs) H Q E) := by
  have G := FunD.ok (P := P) (w := w) (mg := mg) (base := base) (CX := L2.CX P w) F S len hbody
  obtain ⟨its, B⟩ := F.kbindsD n ks g hd hrel h
  exact fnk_of G B
end
end EM
/-! ### != of two lists whose items are equal -/
namespace GQ
open PySem PySem.SeqAt
open AutoSeq1 (wpAny_loadPart')
open MeetsSeq MeetsSeq2 MeetsSeq3 SeqRoads2
section
variable {prog : Program} {w : World} {A : Around} {R : Result → Shared → Prop}
theorem ne_loopG (l b : Addr) (N : Nat) (I : Nat → Shared → Prop) (hl : ListI prog w A (fun e s' => R (.error e) s') l b N I)
    (fin : ∀ s, I N s → R (.ok (.ret (.bool false))) s) (k : Nat) :
    ∀ i : Nat, N - i = k → i ≤ N → ∀ s, I i s →
      wpAny (model prog w) A.in1 (Builtin.«list.__eq__.loop» ⟨[.ref l, .ref b, rawInt i, rawInt 3], []⟩) (FinOf prog w A R) (fun e s' => R (.error e) s') s := by
  induction k with
  | zero =>
    intro i hk hi s h
    obtain ⟨items, items2, n, n2, hl1, hb1, hs1, hs2, _⟩ := hl _ _ h
    have hi' : i = N := by omega
    have hR : R (.ok (.ret (.bool false))) s := fin s (hi' ▸ h)
    obtain ⟨hp, g, d, tk, os⟩ := s
    wp_walk using wpAny_loadPart' hl1, wpAny_loadPart' hb1
    have hi1 : items[((i : Nat) : Int).toNat]? = none := by simp; omega
    have hi2 : items2[((i : Nat) : Int).toNat]? = none := by simp; omega
    rw [hi1, hi2]
    wp_walk using wpAny_loadPart' hl1, wpAny_loadPart' hb1
    show R (.ok (.ret (.bool (items.size != items2.size)))) _
    rw [hs1, hs2]
    simpa using hR
  | succ k ih =>
    intro i hk hi s h
    obtain ⟨items, items2, n, n2, hl1, hb1, hs1, hs2, turn⟩ := hl _ _ h
    have hlt : i < items.size := by omega
    have hlt2 : i < items2.size := by omega
    have ht := turn hlt hlt2
    obtain ⟨hp, g, d, tk, os⟩ := s
    wp_walk using wpAny_loadPart' hl1, wpAny_loadPart' hb1
    have hi1 : items[((i : Nat) : Int).toNat]? = some items[i] := by simp [hlt]
    have hi2 : items2[((i : Nat) : Int).toNat]? = some items2[i] := by simp [hlt2]
    have hc : ((i : Int) + 1) = ((i + 1 : Nat) : Int) := by omega
    rw [hi1, hi2]
    refine wpAny_bind (wpAny_mono ht (fun r s2 h2 => ?_) fun _ _ x => x)
    obtain ⟨hr, h2⟩ := h2
    subst hr
    have hrec := ih (i + 1) (by omega) (by omega) s2 h2
    obtain ⟨hp2, g2, d2, tk2, os2⟩ := s2
    wp_walk
    rw [hc]
    exact ⟨plainId_quiet plain_eq_loop _, codeAny_builtin entry_eq_loop (by
      rw [Around.under_plainId plain_eq_loop _]
      exact hrec)⟩
theorem list_neG (l b : Addr) (N : Nat) (I : Nat → Shared → Prop) (hl : ListI prog w A (fun e s' => R (.error e) s') l b N I)
    (fin : ∀ s, I N s → R (.ok (.ret (.bool false))) s) {s : Shared} (h : I 0 s) :
    wpAny (model prog w) A.in1 (Builtin.«list.__ne__» ⟨[.ref l, .ref b], []⟩) (FinOf prog w A R) (fun e s' => R (.error e) s') s := by
  obtain ⟨items, items2, n, n2, hl1, hb1, hs1, hs2, _⟩ := hl _ _ h
  have hrec := ne_loopG (A := A) (R := R) l b N I hl fin _ 0 rfl (Nat.zero_le _) s h
  obtain ⟨hp, g, d, tk, os⟩ := s
  have f3 := AutoSeq1.sub_list_list
  have hne : ¬ (items.size != items2.size) = true := by simp [hs1, hs2]
  wp_walk using wpAny_loadPart' hl1, wpAny_loadPart' hb1
  exact ⟨plainId_quiet plain_eq_loop _, codeAny_builtin entry_eq_loop (by
    rw [Around.under_plainId plain_eq_loop _]
    exact hrec)⟩
end
section
variable {prog : Program} {w : World} {A : Around} {E : Value → Shared → Prop} {s : Shared}
theorem rc_listNeG {l b : Addr} {N : Nat} {Q : Value → Shared → Prop} (hu : A.units < cLine) (I : Nat → Shared → Prop) (hl : ListI prog w A E l b N I)
    (fin : ∀ s, I N s → Q (.bool false) s) (h : I 0 s) : wpAny (model prog w) A (richCompare .NotEq (.ref l) (.ref b)) Q E s := by
  obtain ⟨items, items2, n, n2, hl1, hb1, _, _, _⟩ := hl _ _ h
  refine wpAny_richCompare_same_room (op := .NotEq) ⟨_, hl1, rfl⟩ ⟨_, hb1, rfl⟩ F.slot_list_ne (call_here F.slot_list_ne ⟨_, hl1, rfl⟩ F.entry_list_ne (F.args_list_ne_2 _ _) ?_) hu
  exact list_neG (R := wants (fun v s' => v ≠ .notImplemented ∧ Q v s') E) l b N I hl (fun s' q => ⟨(fun x => nomatch x), fin s' q⟩) h
end
end GQ
namespace EM
open PySem PySem.Spec PyProof.Rows L2
/-- the very same objects -/
def DSame : Eqv := fun x y _ => ∃ a, x = .ref a ∧ y = .ref a
theorem mon_same : Mon DSame := fun _ _ _ _ _ d => d
section
variable {X : Cx} {n : Nat} {D : Eqv}
theorem eqG_same : EqG X 0 DSame := by
  intro A pins s σ H x y u v sb I rx ry d
  obtain ⟨a, rfl, rfl⟩ := d
  cases rx
  cases ry
  unfold eqBool
  refine wpAny_holding ?_
  refine wpAny_ite_split (fun _ => ?_) (fun h => absurd (beq_self_eq_true _) h)
  exact wpAny_bind (wpAny_rule (wpAny_pure ⟨rfl, H, I, Ext.rfl'⟩))
/-- x != y of two lists whose items are seen to be equal -/
def rNeG (D : Eqv) : R2 := fun x y H Q => DList D x y H ∧ ∀ H', Ext H H' → Q (.bl false) H'
theorem op_neG (hD : Mon D) (h : EqG X n D) (hr : Room (n + 1) X.A) : OpR X (compareOp .NotEq) (rNeG D) := by
  intro pins s σ H x y v u Q I rx ry hq
  obtain ⟨d, q⟩ := hq
  obtain ⟨a, b, xs, ys, rfl, rfl, ha, hb, p⟩ := d
  cases rx
  cases ry
  have sb : Sub X (n + 1) X.A := ⟨hr, rfl⟩
  show wpAny (model X.prog X.w) X.A (richCompare .NotEq (.ref a) (.ref b)) (EP X pins σ Q) X.xe s
  refine GQ.rc_listNeG (N := xs.length) sb.room.units0 (fun _ s' => LoopI X pins σ H s') (fun i s' q => ?_) (fun s' ⟨H', I', e⟩ => ⟨.bl false, H', I', rfl, q H' e⟩) ⟨H, I, Ext.rfl'⟩
  obtain ⟨H1, I1, e1⟩ := id q
  obtain ⟨z, its, k, r, e⟩ := I1.hok a _ (e1 _ _ ha)
  obtain ⟨z2, its2, k2, r2, e2⟩ := I1.hok b _ (e1 _ _ hb)
  refine ⟨its.toArray, its2.toArray, k, k2, e, e2, by rw [List.size_toArray, ← r.length], by rw [List.size_toArray, ← r2.length, ← p.1], fun h1 h2 => ?_⟩
  exact turnG hD h sb p r r2 i h1 h2 s' q
end
end EM
/-! EM5: t[::-1] of a tuple. -/
namespace HT
open PySem PySem.Spec PyProof.Rows
section
variable {prog : Program} {w : World} {A : Around} {E : Value → Shared → Prop} {s : Shared}
theorem em_adjust (n : Nat) : Builtin.Slice.sliceAdjust none none (-1) (n : Int) = ((n : Int) - 1, -1) := by
  unfold Builtin.Slice.sliceAdjust
  simp
theorem em_places (n : Nat) : Builtin.Slice.slicePlaces ((n : Int) - 1) (-1) (-1) = n := by
  unfold Builtin.Slice.slicePlaces
  have h1 : ¬ ((-1 : Int) > 0) := by omega
  simp only [h1, if_false, Int.neg_neg, Int.ediv_one]
  split <;> omega
theorem em_pickG (f : Nat → Option Value) (l : List Value) (h : ∀ m, m < l.length → f m = l[m]?) : (List.range l.length).filterMap f = l := by
  induction l generalizing f with
  | nil => rfl
  | cons a r ih =>
    rw [List.length_cons, List.range_succ_eq_map, List.filterMap_cons]
    have h0 : f 0 = some a := by rw [h 0 (by simp)]; rfl
    rw [h0, List.filterMap_map]
    have := ih (f ∘ Nat.succ) (fun m hm => by
      show f (m + 1) = _
      rw [h (m + 1) (by simp; omega)]
      rfl)
    rw [this]
theorem em_pick (xs : Array Value) : ((List.range xs.size).filterMap fun (m : Nat) => xs[(((xs.size : Int) - 1) + (m : Int) * (-1)).toNat]?) = xs.toList.reverse := by
  have hl : xs.size = xs.toList.reverse.length := by simp
  have := em_pickG (fun (m : Nat) => xs[(((xs.size : Int) - 1) + (m : Int) * (-1)).toNat]?) xs.toList.reverse (fun m hm => by
    have hm' : m < xs.size := by simpa using hm
    have e1 : (((xs.size : Int) - 1) + (m : Int) * (-1)).toNat = xs.size - 1 - m := by omega
    show xs[(((xs.size : Int) - 1) + (m : Int) * (-1)).toNat]? = _
    rw [e1, List.getElem?_reverse (by simpa using hm')]
    simp)
  rw [← hl] at this
  exact this
theorem em_sliceApplied {sl : Addr} {vs : Value} {n : Nat} {Q : Int × Int × Nat → Shared → Prop} (hs : s.heap.IsSliceOf sl .none .none vs) (ps : IsPart vs (some (-1)))
    (h : Q ((n : Int) - 1, -1, n) s) : wpAny (model prog w) A (Builtin.Slice.sliceApplied (.ref sl) (pure (n : Int))) Q E s := by
  obtain ⟨os, hos, hcs, hds⟩ := id hs
  unfold Builtin.Slice.sliceApplied Builtin.Slice.sliceFields
  refine wpAny_bind (wpAny_bind (wpAny_field hos hds (x := .none) rfl (wpAny_bind (wpAny_field hos hds (x := .none) rfl (wpAny_bind (wpAny_field hos hds (x := vs) rfl (wpAny_pure ?_)))))))
  refine wpAny_bind (slicePart_ ps ?_)
  show wpAny _ _ (if ((-1 : Int) == 0) = true then _ else _) _ _ s
  rw [if_neg (by decide)]
  refine wpAny_bind (slicePart_none (wpAny_bind (slicePart_none (wpAny_bind (wpAny_pure ?_)))))
  show wpAny _ _ (match Builtin.Slice.sliceAdjust none none (-1) (n : Int) with | (lo, hi) => pure (lo, (-1 : Int), Builtin.Slice.slicePlaces lo hi (-1))) _ _ s
  rw [em_adjust n]
  show wpAny _ _ (pure ((n : Int) - 1, (-1 : Int), Builtin.Slice.slicePlaces ((n : Int) - 1) (-1) (-1))) _ _ s
  rw [em_places]
  exact wpAny_pure h
theorem em_revT {t sl : Addr} {items : Array Value} {vs : Value} {Q : Value → Shared → Prop} (ht : IsTup s.heap t items) (hs : s.heap.IsSliceOf sl .none .none vs) (ps : IsPart vs (some (-1)))
    (h : Q (.ref s.heap.objs.size) { s with heap := s.heap.push { cls := .type "tuple", data := .seq items.toList.reverse.toArray } })
    (hsz : items.size ≤ sizeLine) : wpAny (model prog w) A (getItem (.ref t) (.ref sl)) Q E s := by
  have htake : sizeOk (.seq items.toList.reverse.toArray) := by
    show items.toList.reverse.toArray.size ≤ sizeLine
    rw [List.size_toArray, List.length_reverse, Array.length_toList]
    exact hsz
  obtain ⟨os, hos, hcs, hds⟩ := id hs
  have hTs : s.TypeIs (.ref sl) "slice" := ⟨os, hos, hcs⟩
  unfold getItem
  try with_reducible refine wpAny_holding ?_
  first | refine wpAny_bind (wpAny_pure ?_) | skip
  refine wpAny_bind (wpAny_sequenceKey ht.typeIs (by decide) ?_)
  refine wpAny_bind (wpAny_callSpecial?_slot (name := Str.ofString "__getitem__") ht.typeIs PyProof.Rows.slot_tuple_getitem
    (wpAny_call_entry PyProof.Rows.slot_tuple_getitem ht.typeIs entry_tuple_getitem ?_ (args_tuple_getitem _ _)))
  show wpAny _ _ (Builtin.Tuple.tupleItemsOf (.ref t) >>= _) _ _ s
  refine wpAny_bind (tupleItemsOf_ ht ?_)
  refine wpAny_bind (wpAny_typeOf hTs ?_)
  rw [if_pos (by decide)]
  refine wpAny_bind (em_sliceApplied hs ps ?_)
  have hno : ¬ ((((items.size : Int) - 1) == 0 && (-1 : Int) == 1 && items.size == items.size) = true) := by
    intro q
    rw [Bool.and_eq_true, Bool.and_eq_true] at q
    exact absurd (eq_of_beq q.1.2) (by decide)
  show wpAny _ _ (if (((items.size : Int) - 1) == 0 && (-1 : Int) == 1 && items.size == items.size) = true then _ else _) _ _ s
  rw [if_neg hno, em_pick]
  first
    | exact wpAny_bind (m := Builtin.Tuple.tupleExact _) (wpAny_newObj_type (wpAny_pure ⟨_, rfl, wpAny_pure h⟩) htake)
    | exact wpAny_bind (m := Builtin.Tuple.tupleExact _) (wpAny_newObj_type (wpAny_bind (wpAny_pure (wpAny_pure ⟨_, rfl, wpAny_pure h⟩))) htake)
    | exact wpAny_bind (wpAny_bind (m := Builtin.Tuple.tupleExact _) (wpAny_newObj_type (wpAny_pure (wpAny_pure ⟨_, rfl, wpAny_pure h⟩)) htake))
    | exact wpAny_bind (wpAny_bind (m := Builtin.Tuple.tupleExact _) (wpAny_newObj_type (wpAny_pure ⟨_, rfl, wpAny_pure h⟩) htake))
end
end HT
namespace EM
open PySem PySem.Spec PyProof.Rows L2
section
variable {X : Cx}
def tRevT (K : PySem.W.Frag) (te : TE) : TE := fun σ H Q => te σ H fun x H1 => ∃ a xs, x = .ref a ∧ SqT K H1 a xs ∧ ∀ p, H1 p = none → Q (.ref p) (upd H1 p (.tup xs.reverse))
theorem pe_revT {e : Expr} {te : TE} {k : Nat} {p1 p2 p3 pos : Pos} (he : PE X e te) : PE X (.Subscript e (.Slice none none (some (.UnaryOp .USub (.Constant (.int 1) k p1) p2)) p3) pos) (tRevT X.K te) := by
  refine ⟨fun pins s σ H Q I h => ?_⟩
  refine Subscript_ (thn (he.run pins s σ H _ I h) fun v s1 ⟨x, H1, I1, r1, q1⟩ => ?_)
  obtain ⟨a, xs, ex, hx, q⟩ := q1
  subst ex
  cases r1
  have hst : PO X (some (.UnaryOp .USub (.Constant (.int 1) k p1) p2)) (tPart (tUn (rU fun i => .int (-i)) (tC (.int 1)))) := po_some (pe_un un_neg pe_int)
  refine wpAny_Slice (thn (po_none.run pins s1 σ H1 (fun o H2 => o = none ∧ H2 = H1) I1 ⟨rfl, rfl⟩) fun vl s2 ⟨l, H2, I2, pl, el, e2⟩ => ?_)
  subst el e2
  refine thn (po_none.run pins s2 σ H2 (fun o H3 => o = none ∧ H3 = H2) I2 ⟨rfl, rfl⟩) fun vu s3 ⟨u, H3, I3, pu, eu, e3⟩ => ?_
  subst eu e3
  refine thn (hst.run pins s3 σ H3 (fun o H4 => o = some (-1) ∧ H4 = H3) I3 ⟨1, rfl, -1, rfl, rfl, rfl⟩) fun vs s4 ⟨o, H4, I4, ps, eo, e4⟩ => ?_
  subst eo e4
  have I5 : Inv X pins σ H4 { s4 with heap := s4.heap.push { cls := .type "slice", data := .fields #[vl, vu, vs] } } := I4.kept (t' := s4.toks) fun b ob q => Heap.get?_push_of_some _ q
  obtain ⟨its, r, ht, hz⟩ := I5.tuple hx
  have hlen := r.length
  show wpAny (model X.prog X.w) X.A (subscriptTail e (.Slice none none (some (.UnaryOp .USub (.Constant (.int 1) k p1) p2)) p3) (.ref a) (.ref s4.heap.objs.size)) (EP X pins σ Q) X.xe { s4 with heap := s4.heap.push { cls := .type "slice", data := .fields #[vl, vu, vs] } }
  refine tail_any (ops := [.ref a, .ref s4.heap.objs.size]) ht.typeIs (PyProof.Rows.slot_tuple_getitem.lookup) ?_ (by with_unfolding_all rfl)
  cases pl
  cases pu
  refine HT.em_revT ht (Heap.IsSliceOf.new _ .none .none vs) ps ?_ (by rw [List.size_toArray]; omega)
  refine ⟨.ref _, _, I5.laid (t' := s4.toks) (o := .tup xs.reverse) (fun b ob q => Heap.get?_push_of_some _ q) (Nat.le_refl _) ?_, rfl, q _ (I5.hok.fresh (Nat.le_refl _))⟩
  exact ⟨by rw [List.length_reverse]; exact hz, _, r.reverse, IsTup.new _ _⟩
end
end EM
/-! EM6: constants of the module, facts of a class as Bools, heaps. -/
namespace EM
open PySem PySem.Spec PyProof.Rows L2
section
variable {X : Cx} {x : Str} {i : Int} {z : Str} {pos : Pos}
theorem pe_gI (hm : ∃ t, X.mg x = some (.int i t)) (hg : Gl X x := by rfl) (hd : (x == ("__debug__" : Str)) = false := by decide) : PE X (.Name x pos) (tC (.int i)) := by
  obtain ⟨t, h⟩ := hm
  exact pe_glob hg h ⟨t, rfl⟩ hd
theorem pe_gS (hm : ∃ t, X.mg x = some (.str z t)) (hg : Gl X x := by rfl) (hd : (x == ("__debug__" : Str)) = false := by decide) : PE X (.Name x pos) (tC (.str z)) := by
  obtain ⟨t, h⟩ := hm
  exact pe_glob hg h ⟨t, rfl⟩ hd
end
/-! ### facts of a class -/
theorem isiB_ty {K : PySem.W.Frag} {C : Addr} (c : isiB K C = true) (cl : Cls K C) {H : Hp} {a dx : Addr} {fs : List (Str × V)} (e : H a = some (.ins C dx fs)) : TyX K H (.ref a) (.ref C) := by
  obtain ⟨c1, c⟩ := He.ba c
  obtain ⟨c2, c⟩ := He.ba c
  obtain ⟨c3, c4⟩ := He.ba c
  exact .base (.ins e cl (He.eqO_ok c1) (He.eqO_ok c2) (of_decide_eq_true c3) (of_decide_eq_true c4))
theorem isiB_mro {K : PySem.W.Frag} {C : Addr} (c : isiB K C = true) : PySem.W.mroIn K C (.type "object") = some true := by
  obtain ⟨c1, c⟩ := He.ba c
  obtain ⟨c2, c⟩ := He.ba c
  obtain ⟨c3, c4⟩ := He.ba c
  exact of_decide_eq_true c4
theorem creadB_ok {K : PySem.W.Frag} {C : Addr} (c : creadB K C = true) : ClX.CRead K C (.type "type") := by
  obtain ⟨c1, c2⟩ := He.ba c
  exact ⟨c1, He.eqO_ok c2⟩
theorem cmetB_ok {K : PySem.W.Frag} {C : Addr} {m : Str} (c : cmetB K C m = true) : ClX.CMet K C (.type "type") m (He.ma K C m) (He5.wf K C "classmethod" m) := by
  obtain ⟨c1, c2⟩ := He.ba c
  exact He5.cmet_of c1 c2
theorem cintB_ok {K : PySem.W.Frag} {C : Addr} {f : Str} {i : Int} (c : cintB K C f i = true) : ∃ u, ClX.CVal K C (.type "type") f (.int i) u := by
  unfold cintB at c
  split at c
  · rename_i j t e
    have ej : j = i := of_decide_eq_true c
    subst ej
    exact ⟨_, e, ⟨t, rfl⟩⟩
  · cases c
/-! ### heaps -/
theorem same_upd {H : Hp} {p : Addr} {o : HO} (h : H p = none) : Same H (upd H p o) := fun b u e => by
  rw [upd_ne (ne_of_none e h)]
  exact e
theorem same_upd' {H H1 : Hp} {p : Addr} {o : HO} (e : Same H H1) (h : H p = none) : Same H (upd H1 p o) := fun b u ha => by
  rw [upd_ne (ne_of_none ha h)]
  exact e b u ha
theorem _root_.L2.Same.sqT {K : PySem.W.Frag} {H H' : Hp} {a : Addr} {xs : List V} (e : Same H H') (h : SqT K H a xs) : SqT K H' a xs := Evl.ex_t e h
theorem atI_m {α : Type} {xs : List α} {v : α} {i : Int} {j : Nat} (h : i + (xs.length : Int) = (j : Int)) (h0 : i < 0) (e : xs[j]? = some v) : atI xs i = some v := by
  have hj : j < xs.length := (List.getElem?_eq_some_iff.mp e).1
  have q : ixN xs.length i = some j := by
    unfold ixN
    rw [if_neg (by omega)]
    have : (i + (xs.length : Int)).toNat = j := by omega
    first
      | (rw [if_pos (by omega), this])
      | (split <;> simp_all <;> omega)
  unfold atI
  rw [q]
  exact e
theorem kII {K : PySem.W.Frag} : PySem.W.kitOne K (.type "int") (.type "int") = some true := kit_ty (by decide +kernel)
theorem kIB {K : PySem.W.Frag} : PySem.W.kitOne K (.type "int") (.type "bool") = some false := kit_ty (by decide +kernel)
theorem ifN {c : Bool} {A B : Prop} (h : c = false) (q : B) : if c = true then A else B := by
  rw [h, if_neg Bool.false_ne_true]
  exact q
theorem ifP {c : Bool} {A B : Prop} (h : c = true) (q : A) : if c = true then A else B := by
  rw [if_pos h]
  exact q
theorem yes {σ : L2.St} {H : Hp} {A B : Hp → Prop} (h : A H) : tYes σ H (fun b H3 => if b = true then A H3 else B H3) := by
  show if true = true then A H else B H
  rw [if_pos rfl]
  exact h
theorem dVi {a b : Int} : decide (V.int a = V.int b) = decide (a = b) := by
  by_cases h : a = b
  · subst h; simp
  · have : ¬ V.int a = V.int b := fun q => h (V.int.inj q)
    rw [decide_eq_false h, decide_eq_false this]
theorem cut_from (xs : List V) (j : Nat) (h : j ≤ xs.length) : cutV xs (some (j : Int)) none = xs.drop j := by
  unfold cutV
  have e1 : HT.sIx xs.length 0 (some (j : Int)) = j := by
    show (if (j : Int) < 0 then ((j : Int) + (xs.length : Int)).toNat else min (j : Int).toNat xs.length) = j
    rw [if_neg (by omega)]
    omega
  have e2 : HT.sIx xs.length xs.length none = xs.length := rfl
  rw [e1, e2]
  exact List.take_of_length_le (by rw [List.length_drop]; exact Nat.le_refl _)
theorem sz {n : Nat} (h : n ≤ 100000) : n ≤ sizeLine := Nat.le_trans h (by decide)
theorem szl {n : Nat} (h : n < 100000) : n < sizeLine := Nat.lt_of_lt_of_le h (by decide)
/-! ### data of ints, at any depth -/
theorem dp_ints {K : PySem.W.Frag} {H : Hp} : ∀ ns : List Int, DpAll K H (ns.map V.int) (ns.map PyData.int)
  | [] => .nil
  | n :: r => .cons (.int n) (dp_ints r)
theorem dp_rep {K : PySem.W.Frag} {H : Hp} {v : V} {d : PyData} (h : Dp K H v d) : ∀ n : Nat, DpAll K H (List.replicate n v) (List.replicate n d)
  | 0 => .nil
  | n + 1 => .cons h (dp_rep h n)
theorem lay_ints : ∀ ns : List Int, PyData.canLayAll0 (ns.map PyData.int) = true
  | [] => rfl
  | n :: r => by
    show (PyData.canLay0 (.int n) && PyData.canLayAll0 (r.map PyData.int)) = true
    rw [lay_ints r]
    rfl
theorem dep_ints : ∀ ns : List Int, PyData.depthAll (ns.map PyData.int) = 0
  | [] => rfl
  | n :: r => by
    show max (PyData.depth (.int n)) (PyData.depthAll (r.map PyData.int)) = 0
    rw [dep_ints r]
    rfl
theorem eqv_ints : ∀ ns ms : List Int, PyData.eqvAll (ns.map PyData.int) (ms.map PyData.int) = decide (ns = ms)
  | [], [] => by simp [PyData.eqvAll]
  | [], m :: r => by simp [PyData.eqvAll]
  | n :: r, [] => by simp [PyData.eqvAll]
  | n :: r, m :: q => by
    show (PyData.eqv (.int n) (.int m) && PyData.eqvAll (r.map PyData.int) (q.map PyData.int)) = _
    rw [eqv_ints r q]
    show ((n == m) && decide (r = q)) = _
    by_cases h : n = m
    · subst h
      by_cases h2 : r = q
      · subst h2; simp
      · simp [h2]
    · simp [h]
abbrev dT (ns : List Int) : PyData := .tuple (ns.map PyData.int)
abbrev dL (ns : List Int) : PyData := .list (ns.map PyData.int)
theorem shT (ns : List Int) : SeqAt.shaped (dT ns) = true := by
  unfold SeqAt.shaped
  rw [show (dT ns).canLay0 = PyData.canLayAll0 (ns.map PyData.int) from rfl, lay_ints, show (dT ns).depth = PyData.depthAll (ns.map PyData.int) + 1 from rfl, dep_ints]
  rfl
theorem shL (ns : List Int) : SeqAt.shaped (dL ns) = true := by
  unfold SeqAt.shaped
  rw [show (dL ns).canLay0 = PyData.canLayAll0 (ns.map PyData.int) from rfl, lay_ints, show (dL ns).depth = PyData.depthAll (ns.map PyData.int) + 1 from rfl, dep_ints]
  rfl
theorem eqvT (ns ms : List Int) : PyData.eqv (dT ns) (dT ms) = decide (ns = ms) := eqv_ints ns ms
theorem eqvL (ns ms : List Int) : PyData.eqv (dL ns) (dL ms) = decide (ns = ms) := eqv_ints ns ms
/-! ### a for over a list or a tuple -/
section
variable {X : Cx} {tg : Expr}
def iSeq (tl : TE) : TI := fun σ H R => tl σ H fun x H1 => ∃ a xs, x = .ref a ∧ (H1 a = some (.lst xs) ∨ H1 a = some (.tup xs)) ∧ ∀ J, Walk J xs.length (fun H' => H' a = H1 a) (YAt xs) → R J H1
theorem pi_seq {l : Expr} {tl : TE} (hl : PE X l tl) : PI X tg l (iSeq tl) := by
  refine ⟨fun pins s σ H R I h => ?_⟩
  refine thn (hl.run pins s σ H _ I h) fun v s1 ⟨x, H1, I1, r1, q1⟩ => ?_
  obtain ⟨a, xs, e, hq, q⟩ := q1
  subst e
  cases r1
  rcases hq with hq | hq
  · have q := q _ ((walk_list (K := X.K) (a := a) (xs := xs)).mono (fun H' e => SqL.of (e.trans hq)) fun _ _ _ _ _ _ y => y)
    obtain ⟨its, rv, p, hz⟩ := I1.list (SqL.of hq)
    refine wpAny_pyIter_list p.isList ?_
    refine ⟨s1.heap.objs.size, [s1.heap.objs.size], _, _, H1, rfl, I1.kept (t' := s1.toks) fun b o e => Heap.get?_push_of_some _ e, turn_list a _, ⟨_, Heap.get?_push_size _ rfl, rfl, rfl⟩, fun b hb => ?_, q⟩
    have e : b = s1.heap.objs.size := by simpa using hb
    subst e
    exact I1.fpOk (Nat.le_refl _) (I1.hok.fresh (Nat.le_refl _))
  · have q := q _ ((walk_tup (K := X.K) (a := a) (xs := xs)).mono (fun H' e => SqT.of (e.trans hq)) fun _ _ _ _ _ _ y => y)
    obtain ⟨its, rv, p, hz⟩ := I1.tuple (SqT.of hq)
    refine wpAny_pyIter_tuple (show s1.heap.IsTuple a its.toArray from p) ?_
    refine ⟨s1.heap.objs.size, [s1.heap.objs.size], _, _, H1, rfl, I1.kept (t' := s1.toks) fun b o e => Heap.get?_push_of_some _ e, turn_tuple a _, ⟨_, Heap.get?_push_size _ rfl, rfl, rfl⟩, fun b hb => ?_, q⟩
    have e : b = s1.heap.objs.size := by simpa using hb
    subst e
    exact I1.fpOk (Nat.le_refl _) (I1.hok.fresh (Nat.le_refl _))
end
theorem walk_zipT {K : PySem.W.Frag} {a b : Addr} {xs ys : List V} {n : Nat} (hn : n = min xs.length ys.length) : Walk (RZ.ItzT K a b) n (fun H => SqT K H a xs ∧ SqT K H b ys) (YPair (fun i => xs[i]?) (fun i => ys[i]?)) :=
  ⟨fun i H hi g => ⟨xs, ys, xs[i]'(by omega), ys[i]'(by omega), g.1, g.2, List.getElem?_eq_getElem (by omega), List.getElem?_eq_getElem (by omega)⟩,
   fun H g => ⟨xs, ys, g.1, g.2, by omega⟩, fun i H x H' hi g ⟨T, x1, y1, e1, e2, e3, e4, e5⟩ => ⟨T, x1, y1, e1, e2, e3, e4 xs g.1, e5 ys g.2⟩⟩
end EM
namespace PySem.W
open PyProof.Rows
section
variable {M : Model} {A : Around} {E : Value → Shared → Prop} {s : Shared} {K : Frag} {h₀ : Heap} {env : Env}
theorem em_evalArgs {f : Value} {x y : Bool × Sem Value} {rest : List (Bool × Sem Value)} {Q : Args → Shared → Prop}
    (h : wpAny M A (spliced (x :: y :: rest)) (fun vs s' => Q ⟨vs, []⟩ s') E s) : wpAny M A (evalArgs f true (x :: y :: rest) []) Q E s := by
  obtain ⟨b, x⟩ := x
  cases b <;>
  · unfold evalArgs
    show wpAny M A (spliced (_ :: y :: rest) >>= _) Q E s
    refine wpAny_bind (wpAny_mono h (fun vs s' h' => ?_) fun _ _ x => x)
    refine wpAny_holding ?_
    exact wpAny_bind (wpAny_pure (wpAny_bind (wpAny_pure (wpAny_pure h'))))
theorem em_callWith {pos p : Pos} {f : Value} {first : List Value} {e e2 : Expr} {rest : List Expr} {Q : Value → Shared → Prop} (_X : K.In h₀) (hk : keepIn K f = true) (h : wpAny M A (spliced (backTo pos (starEach (.Starred e p :: e2 :: rest) env))) (fun vs s₁ => K.In s₁.heap ∧ wpAny M A (call f (first ++ vs)) Q E s₁) E s)
    (he : ∃ b : Bool × Sem Value, backTo pos (starEach (.Starred e p :: e2 :: rest) env) = (true, b.2) :: (b.1, (backTo pos (starEach (e2 :: rest) env)).head!.2) :: (backTo pos (starEach (e2 :: rest) env)).tail) :
    wpAny M A (callWith pos f first (backTo pos (starEach (.Starred e p :: e2 :: rest) env)) []) Q E s := by
  obtain ⟨b, he⟩ := he
  rw [he] at h ⊢
  exact ks_call rfl (keeps_K hk) (em_evalArgs h)
end
end PySem.W
namespace EM
open PySem PySem.Spec PyProof.Rows L2
section
variable {X : Cx} {CX : CXT} {k : Nat} {f C : Addr} {sp : Sp} {E : XK} {x : Str} {e e2 : Expr} {es : List Expr} {t : TA} {p sp_ pos : Pos}
/-- C( *y, e, ..) -/
theorem pe_mkS2 (M : Mk X.K C f) (F : FnR X.prog X.w X.K X.mg X.base CX k f sp) (hr : Room (k + 1) X.A) (hm : X.mg x = some (.ref C)) (hx : Passes CX X E) (ha : PA X (.Starred e sp_ :: e2 :: es) t) (hg : Gl X x := by rfl) (hd : (x == ("__debug__" : Str)) = false := by decide)
    (he : ∃ b : Bool × Sem Value, backTo pos (starEach (.Starred e sp_ :: e2 :: es) X.env) = (true, b.2) :: (b.1, (backTo pos (starEach (e2 :: es) X.env)).head!.2) :: (backTo pos (starEach (e2 :: es) X.env)).tail := by exact ⟨(false, _), rfl⟩) :
    PE X (.Call (.Name x p) (.Starred e sp_ :: e2 :: es) [] pos) (StX.tMakeR C sp E t) := by
  refine ⟨fun pins s σ H Q I h => ?_⟩
  refine wpAny_Call_Name_kw (ld_glob I hg hm ?_ hd)
  refine PySem.W.em_callWith (h₀ := X.base) I.ok.mod.kin M.kp (thn (ha.run pos pins s σ H _ I h) fun us s1 ⟨vs, H1, I1, r, q⟩ => ⟨I1.kIn, ?_⟩) he
  exact StX.run_makeR M F hr hx I1 r q
end
end EM
/-! EM7: defs called where no repr is under way (guards), repr of data. -/
namespace EM
open PySem PySem.Spec PyProof.Rows L2
/-- a promise by positional values, where no container is being shown -/
def FnG (P : Program) (w : World) (K : PySem.W.Frag) (mg : Str → Option Value) (base : Heap) (CX : CXT) (k : Nat) (f : Addr) (sp : Sp) : Prop :=
  ∀ (A : Around) (outer : List Env) (s : Shared) (H : Hp) (us : List Value) (vs : List V) (Q : VK) (E : XK), Room k A → A.guards = some [] → Env0 P w K mg base A outer s H → Vals vs us → sp vs H Q E →
    codeAny (model P w) A (.call (.ref f) ⟨us, []⟩) (CR CX outer P w H s Q E) s
theorem gOf {P : Program} {w : World} {K : PySem.W.Frag} {mg : Str → Option Value} {base : Heap} {CX : CXT} {k : Nat} {f : Addr} {sp : Sp} (F : FnR P w K mg base CX k f sp) : FnG P w K mg base CX k f sp :=
  fun A outer s H us vs Q E hr _ e0 r h => F A outer s H us vs Q E hr e0 r h
section
variable {X : Cx} {CX : CXT} {k : Nat} {f C : Addr} {sp : Sp} {E : XK} {x m : Str} {e o : Expr} {es : List Expr} {te ta : TE} {t : TA} {p sp_ pos apos : Pos}
theorem run_fnG {pins : List (Addr × Obj)} {σ : L2.St} {H : Hp} {s : Shared} {Q : VK} {us : List Value} {vs : List V} (F : FnG X.prog X.w X.K X.mg X.base CX k f sp) (hr : Room k X.A) (hG : X.A.guards = some []) (hx : Passes CX X E) (I : Inv X pins σ H s) (r : Vals vs us) (h : sp vs H Q E) :
    wpAny (model X.prog X.w) X.A (call (.ref f) us) (EP X pins σ Q) X.xe s := by
  refine wpAny_call (codeAny_mono (F X.A X.stack s H us vs Q E hr hG I.env0 r h) fun r s' hq => ?_)
  cases r with
  | error e => exact hx pins σ H s e s' I hq
  | ok fl =>
    cases fl with
    | ret u => exact I.after hq
    | next => exact False.elim hq
    | brk => exact False.elim hq
    | cont => exact False.elim hq
/-- f(e, ..) -/
theorem pe_cG (F : FnG X.prog X.w X.K X.mg X.base CX k f sp) (hr : Room k X.A) (hG : X.A.guards = some []) (hk : PySem.W.keepIn X.K (.ref f) = true) (hm : X.mg x = some (.ref f)) (hx : Passes CX X E) (ha : PA X (e :: es) t) (hg : Gl X x := by rfl) (hd : (x == ("__debug__" : Str)) = false := by decide)
    (he : starEach (e :: es) X.env = (false, eval e X.env) :: starEach es X.env := by rfl) (hpl : (backTo pos (starEach es X.env)).any (·.1) = false := by rfl) :
    PE X (.Call (.Name x p) (e :: es) [] pos) (tCR sp E t) := by
  refine ⟨fun pins s σ H Q I h => ?_⟩
  refine wpAny_Call_Name_kw (ld_glob I hg hm ?_ hd)
  refine PySem.W.callWith_K (h₀ := X.base) I.ok.mod.kin hk (thn (ha.run pos pins s σ H _ I h) fun us s1 ⟨vs, H1, I1, r, q⟩ => ⟨I1.kIn, ?_⟩) he hpl
  exact run_fnG F hr hG hx I1 r q
end
section
variable {P : Program} {w : World} {K : PySem.W.Frag} {mg : Str → Option Value} {base : Heap} {x qual : Str} {params : Arguments} {body : List Stmt} {scope : Scope} {kws : List (Str × V)} {f : Addr} {fd : FuncData}
def BodG (P : Program) (w : World) (K : PySem.W.Frag) (mg : Str → Option Value) (base : Heap) (N : List Str) (qual : Str) (scope : Scope) (f : Addr) (body : List Stmt) (k : Nat) (sp : Sp) : Prop :=
  ∀ (cdv : Value) (A : Around) (outer : List Env) (s : Shared) (H : Hp) (vs : List V) (Q : VK) (E : XK), Room k (A.deeper (envOfC qual scope s.heap.objs.size f cdv)) → (A.deeper (envOfC qual scope s.heap.objs.size f cdv)).guards = some [] → sp vs H Q E →
      ∃ t, PSs (cxOf (L2.CX P w) P w K mg base N qual scope f cdv A outer s H E) body t ∧ t { nx := fun _ H' => Q .non H', rt := Q } (start N vs) H
/-- a def without defaults -/
theorem fng {N ps : List Str} {k : Nat} {sp : Sp} (F : FunD K x qual params body scope [] kws f fd) (S : FnScope N ps scope)
    (hb : ∀ (kV doc pm : Value) (an : Option Addr) (cdv ct : Value) (us : List Value), us.length = ps.length → bindArgs (PySem.W.fnOf x qual params body scope .none kV doc pm an cdv ct) ⟨us, []⟩ = pure (ps.zip us))
    (len : ∀ vs H Q E, sp vs H Q E → vs.length = ps.length) (hbody : BodG P w K mg base N qual scope f body k sp) : FnG P w K mg base (L2.CX P w) (k + 1) f sp := by
  obtain ⟨oc, od, dV, kV, doc, pm, an, cdv, ct, osl, e, l, c, hd, _⟩ := F.ex
  rcases hd with ⟨_, e2⟩ | ⟨e2, _⟩
  · subst e2
    subst e
    intro A outer s H us vs Q E hr hG e0 r h
    have hl := len vs H Q E h
    refine StX.run_bnd (G := fun vs' H' => vs' = vs ∧ H' = H) l c S hr e0 (fun A' Ex Q' hQ => ?_) (fun s2 H2 vs2 hg2 hr2 => ?_)
    · rw [hb kV doc pm an cdv ct us (by rw [← r.length]; exact hl)]
      exact wpAny_pure (hQ s H vs us e0 Un.refl rfl (fun _ _ z => z) r hl ⟨rfl, rfl⟩)
    · obtain ⟨rfl, rfl⟩ := hg2
      exact hbody cdv A outer s2 H2 vs2 Q E hr2 hG h
  · exact absurd rfl e2
end
/-! ### repr of data -/
mutual
theorem dp_nodict {K : PySem.W.Frag} {H : Hp} : ∀ (d : PyData) (v : V), Dp K H v d → d.hasDict = false
  | .none, _, _ => rfl
  | .bool _, _, _ => rfl
  | .int _, _, _ => rfl
  | .str _, _, _ => rfl
  | .list ds, _, h => by
    cases h with
    | lst _ h => exact dp_nodictAll ds _ h
  | .tuple ds, _, h => by
    cases h with
    | tup _ h => exact dp_nodictAll ds _ h
  | .dict _, _, h => by cases h
theorem dp_nodictAll {K : PySem.W.Frag} {H : Hp} : ∀ (ds : List PyData) (vs : List V), DpAll K H vs ds → PyData.hasDictAll ds = false
  | [], _, _ => rfl
  | d :: ds, _, h => by
    cases h with
    | cons h1 h2 =>
      show (d.hasDict || PyData.hasDictAll ds) = false
      rw [dp_nodict d _ h1, dp_nodictAll ds _ h2]
      rfl
end
def rRepr (K : PySem.W.Frag) : List V → Hp → VK → Prop := fun xs H Q => ∃ (x : V) (d : PyData), xs = [x] ∧ Dp K H x d ∧ d.showable = true ∧ d.shown.length ≤ sizeLine ∧ d.depth ≤ 64 ∧ Q (.str d.shown) H
section
variable {X : Cx}
theorem call_reprD (hG : X.A.guards = some []) (hu : X.A.units + 70 < cLine) : CallR X (.builtin "repr") (rRepr X.K) := by
  intro pins s σ H xs us Q I r h
  obtain ⟨x, d, rfl, hd, hs, hz, hdep, q⟩ := h
  cases r with
  | cons rx rr =>
    cases rr
    rename_i u
    obtain ⟨as, rd⟩ := Dp.reads I d x u hd rx
    have nd := dp_nodict d x hd
    cases hd with
    | non =>
      cases rx
      exact PySem.P.repr_of_none ⟨.str _, H, I.tok _, ⟨_, rfl⟩, q⟩
    | bl b =>
      cases rx
      refine PySem.P.repr_of_bool ⟨.str _, H, I.tok _, ⟨_, rfl⟩, ?_⟩
      cases b <;> exact q
    | int i =>
      obtain ⟨t, rfl⟩ := rx
      refine PySem.P.repr_of_int (of_decide_eq_true hs) ⟨.str _, H, I.tok _, ⟨_, rfl⟩, q⟩
    | str z =>
      obtain ⟨t, rfl⟩ := rx
      exact PySem.P.repr_of_str ⟨.str _, H, I.tok _, ⟨_, rfl⟩, q⟩ hz
    | lst hx hds =>
      cases rx
      exact repr_of_reads' rd hs (fun z => by rw [nd] at z; cases z) hG (by omega) (fun _ _ e => e) (fun h' u tk hk => ⟨.str _, H, I.kept hk, ⟨_, rfl⟩, q⟩) hz
    | tup hx hds =>
      cases rx
      exact repr_of_reads' rd hs (fun z => by rw [nd] at z; cases z) hG (by omega) (fun _ _ e => e) (fun h' u tk hk => ⟨.str _, H, I.kept hk, ⟨_, rfl⟩, q⟩) hz
end
end EM
/-! EM8: own exceptions with fields: facts as Bools, raise, fields read in a suite. -/
namespace EM
open PySem PySem.Spec PyProof.Rows L2
theorem oexB_ok {K : PySem.W.Frag} {C : Addr} (q : oexB K C = true) : OexC K C := by
  obtain ⟨q1, q⟩ := He.ba q
  obtain ⟨q2, q⟩ := He.ba q
  obtain ⟨q3, q⟩ := He.ba q
  obtain ⟨q4, q5⟩ := He.ba q
  refine ⟨?_, He.eqO_ok q2, of_decide_eq_true q3, of_decide_eq_true q4, q5⟩
  split at q1
  · rename_i t dd cd sl ho
    obtain ⟨a1, q1⟩ := He.ba q1
    obtain ⟨a2, q1⟩ := He.ba q1
    obtain ⟨a3, q1⟩ := He.ba q1
    split at q1
    · rename_i C' bm k0 k1 k2 k3 n k5 hm hs
      obtain ⟨b1, q1⟩ := He.ba q1
      obtain ⟨b2, b3⟩ := He.ba q1
      have e1 := of_decide_eq_true a1
      have e2 := of_decide_eq_true b1
      have e3 := of_decide_eq_true b2
      subst e1 e2 e3
      obtain ⟨nm, bs, mro, ns, qn, hd, sn, sub, ab, col, del⟩ := cd
      dsimp only at hm a2 a3
      have a3' : del = false := by simpa using a3
      subst hm a2 a3'
      have hsl : sl = #[k0, k1, k2, k3, some (.builtin "ValueError.__new__"), k5] := by
        obtain ⟨l⟩ := sl
        simp only at hs
        rw [hs]
      subst hsl
      exact ⟨nm, qn, ns, bs, bm, sn, sub, ab, col, dd, k0, k1, k2, k3, k5, ho, b3⟩
    · cases q1
  · cases q1
theorem oinB_ok {K : PySem.W.Frag} {C : Addr} (q : oinB K C = true) : PySem.W.findIn K (.ref C) "__init__" = some (some (.ref (He.ma K C "__init__"))) ∧ PySem.W.typeIn K (.ref (He.ma K C "__init__")) = some (.type "function") := by
  obtain ⟨a, b⟩ := He.ba q
  exact ⟨He.eqO_ok a, of_decide_eq_true b⟩
/-! ### __init__ of one field, of two -/
def spX1 (C : Addr) (f : Str) : Sp := fun vs H Q _ => ∃ (a : Addr) (v : V), vs = [.ref a, v] ∧ H a = some (exo a C none) ∧ ∀ dx, H dx = none → dx ≠ a → Q .non (upd (upd H dx (exd dx [(f, v)])) a (exo a C (some dx)))
def spX2 (C : Addr) (f g : Str) : Sp := fun vs H Q _ => ∃ (a : Addr) (v u : V), vs = [.ref a, v, u] ∧ H a = some (exo a C none) ∧ ∀ dx, H dx = none → dx ≠ a → Q .non (upd (upd (upd H dx (exd dx [(f, v)])) a (exo a C (some dx))) dx (exd dx [(g, u), (f, v)]))
theorem del_same_of {H : Hp} {a : Addr} {b : Addr} {o : HO} (e : H b = some o) (h : b ≠ a) : del H a b = some o := (del_ne h).trans e
def MonoA (ta : TA) : Prop := ∀ σ H Q Q', (∀ vs H1, Q vs H1 → Q' vs H1) → ta σ H Q → ta σ H Q'
def Mono (te : TE) : Prop := ∀ σ H Q Q', (∀ v H1, Q v H1 → Q' v H1) → te σ H Q → te σ H Q'
theorem m_var {i : Nat} : Mono (tVar i) := fun σ H Q Q' k ⟨v, e, q⟩ => ⟨v, e, k v H q⟩
theorem m_c {v : V} : Mono (tC v) := fun σ H Q Q' k q => k v H q
theorem ma_nil : MonoA tNil := fun σ H Q Q' k q => k [] H q
theorem ma_cons {te : TE} {ta : TA} (h1 : Mono te) (h2 : MonoA ta) : MonoA (tCons te ta) := fun σ H Q Q' k q => h1 σ H _ _ (fun v H1 q1 => h2 σ H1 _ _ (fun vs H2 q2 => k (v :: vs) H2 q2) q1) q
theorem ma_1c {v : V} : MonoA (tCons (tC v) tNil) := ma_cons m_c ma_nil
theorem ma_1v {i : Nat} : MonoA (tCons (tVar i) tNil) := ma_cons m_var ma_nil
theorem ma_2cc {v u : V} : MonoA (tCons (tC v) (tCons (tC u) tNil)) := ma_cons m_c ma_1c
theorem ma_2cv {v : V} {i : Nat} : MonoA (tCons (tC v) (tCons (tVar i) tNil)) := ma_cons m_c ma_1v
theorem ma_2vv {i j : Nat} : MonoA (tCons (tVar i) (tCons (tVar j) tNil)) := ma_cons m_var ma_1v
theorem m_cb {r : List V → Hp → VK → Prop} {ta : TA} (h : MonoA ta) (hr : ∀ vs H Q Q', (∀ v H1, Q v H1 → Q' v H1) → r vs H Q → r vs H Q') : Mono (tCB r ta) := fun σ H Q Q' k q => h σ H _ _ (fun vs H1 q1 => hr vs H1 Q Q' k q1) q
/-- the reading of raise C(..): the error's own dict is new, all else stays -/
def tRz (C : Addr) (fs : List V → List (Str × V)) (n : Nat) (W : WX) (ta : TA) : TS := fun _ σ H => ta σ H fun vs H1 => vs.length = n ∧ ∀ d H', Same H1 H' → H1 d = none → H' d = some (.xd (fs vs)) → W (.ref C) (some d) σ H'
section
variable {X : Cx} {CX : CXT} {x : Str} {C fI : Addr} {k : Nat} {fd : FuncData} {ps : List Str} {e : Expr} {es : List Expr} {ta : TA} {p pos pos2 : Pos} {W : WX} {f g : Str}
theorem ps_rz1 (hc : X.calm = true) (T : OexC X.K C) (iC : PySem.W.findIn X.K (.ref C) "__init__" = some (some (.ref fI)) ∧ PySem.W.typeIn X.K (.ref fI) = some (.type "function")) (F1 : FnOk X.prog X.w X.K X.mg X.base CX k fI fd ps (spX1 C f)) (hr : Room (k + 1) X.A) (hb : Binds X.K fd ps [])
    (hx : Passes CX X (fun _ _ _ => False)) (hm : X.mg x = some (.ref C)) (tk : Takes X W) (ha : PA X (e :: es) ta) (hg : Gl X x := by rfl)
    (hdb : (x == ("__debug__" : Str)) = false := by decide) (he : starEach (e :: es) X.env = (false, eval e X.env) :: starEach es X.env := by rfl) (hpl : (backTo pos (starEach es X.env)).any (·.1) = false := by rfl) (mono : MonoA ta := by first | exact ma_1c | exact ma_1v | exact ma_2cc | exact ma_2cv | exact ma_2vv | assumption) :
    PS X (.Raise (some (.Call (.Name x p) (e :: es) [] pos)) none pos2) (tRz C (fun vs => [(f, vs.headD .non)]) 1 W ta) := by
  have h := ps_raise (pos := pos2) hc tk (pmk_oex (p := p) (dvs := []) T iC.1 iC.2 F1 hr hb .nil hx hg hm ha hdb he hpl)
  refine ⟨fun pins s σ H D I hq => h.run pins s σ H D I (mono σ H _ _ (fun vs H1 q => ?_) hq)⟩
  obtain ⟨hl, q⟩ := q
  match vs, hl with
  | [v], _ =>
    refine ⟨by show 1 ≤ 1000; decide, fun a ha => ⟨a, v, rfl, upd_same, fun dx hdx hda => ⟨rfl, dx, [(f, v)], upd_same, ?_, ?_, ?_⟩⟩⟩
    · rw [upd_ne hda, upd_same]
    · rw [upd_ne hda] at hdx; exact hdx
    · have hdx' : H1 dx = none := by rw [upd_ne hda] at hdx; exact hdx
      refine q dx _ (fun b o eb => ?_) hdx' upd_same
      have n1 := ne_of_none eb hdx'
      have n2 := ne_of_none eb ha
      rw [upd_ne n1, del_ne n2, upd_ne n2, upd_ne n1, upd_ne n2]
      exact eb
theorem ps_rz2 (hc : X.calm = true) (T : OexC X.K C) (iC : PySem.W.findIn X.K (.ref C) "__init__" = some (some (.ref fI)) ∧ PySem.W.typeIn X.K (.ref fI) = some (.type "function")) (F1 : FnOk X.prog X.w X.K X.mg X.base CX k fI fd ps (spX2 C f g)) (hr : Room (k + 1) X.A) (hb : Binds X.K fd ps [])
    (hx : Passes CX X (fun _ _ _ => False)) (hm : X.mg x = some (.ref C)) (tk : Takes X W) (ha : PA X (e :: es) ta) (hg : Gl X x := by rfl)
    (hdb : (x == ("__debug__" : Str)) = false := by decide) (he : starEach (e :: es) X.env = (false, eval e X.env) :: starEach es X.env := by rfl) (hpl : (backTo pos (starEach es X.env)).any (·.1) = false := by rfl) (mono : MonoA ta := by first | exact ma_1c | exact ma_1v | exact ma_2cc | exact ma_2cv | exact ma_2vv | assumption) :
    PS X (.Raise (some (.Call (.Name x p) (e :: es) [] pos)) none pos2) (tRz C (fun vs => [(g, vs.getD 1 .non), (f, vs.headD .non)]) 2 W ta) := by
  have h := ps_raise (pos := pos2) hc tk (pmk_oex (p := p) (dvs := []) T iC.1 iC.2 F1 hr hb .nil hx hg hm ha hdb he hpl)
  refine ⟨fun pins s σ H D I hq => h.run pins s σ H D I (mono σ H _ _ (fun vs H1 q => ?_) hq)⟩
  obtain ⟨hl, q⟩ := q
  match vs, hl with
  | [v, u], _ =>
    refine ⟨by show 2 ≤ 1000; decide, fun a ha => ⟨a, v, u, rfl, upd_same, fun dx hdx hda => ⟨rfl, dx, [(g, u), (f, v)], ?_, upd_same, ?_, ?_⟩⟩⟩
    · rw [upd_ne hda.symm, upd_same]
    · rw [upd_ne hda] at hdx; exact hdx
    · have hdx' : H1 dx = none := by rw [upd_ne hda] at hdx; exact hdx
      refine q dx _ (fun b o eb => ?_) hdx' upd_same
      have n1 := ne_of_none eb hdx'
      have n2 := ne_of_none eb ha
      rw [upd_ne n1, del_ne n2, upd_ne n1, upd_ne n2, upd_ne n1, upd_ne n2]
      exact eb
end
end EM
/-! EM9: try with several except clauses, each with or without a name. -/
namespace EM
open PySem PySem.Spec PyProof.Rows L2
abbrev Hd := Value × Option Nat × (Addr → Value → Option Addr → TS)
/-- behind a suite that held its error in slot i -/
def gone (i : Nat) (D : Ends) : Ends := { nx := fun σ' H' => D.nx (σ'.set i none) H', rt := D.rt, bk := fun σ' H' => D.bk (σ'.set i none) H', ct := fun σ' H' => D.ct (σ'.set i none) H' }
def wHds (K : PySem.W.Frag) (Wout : WX) (D : Ends) : List Hd → WX
  | [] => Wout
  | (c, none, ts) :: r => fun cls d σ H => ∃ b, PySem.W.exmOne K cls c = some b ∧ (b = true → ∀ a, H a = none → ts a cls d D σ H) ∧ (b = false → wHds K Wout D r cls d σ H)
  | (c, some i, ts) :: r => fun cls d σ H => ∃ b, PySem.W.exmOne K cls c = some b ∧ (b = true → ∀ a, H a = none → ts a cls d (gone i D) (σ.set i (some (.ref a))) H) ∧ (b = false → wHds K Wout D r cls d σ H)
inductive HdsN (X : Cx) : List ExceptHandler → List Hd → Prop
  | nil : HdsN X [] []
  | cons {x : Str} {c : Value} {ts : Addr → Value → Option Addr → TS} {b₀ : Stmt} {suite : List Stmt} {np pos' : Pos} {hds : List ExceptHandler} {l : List Hd} (hc : Names X x c)
      (hsu : ∀ (a : Addr) (oe : Obj) (cls : Value) (d : Option Addr) (pn : List (Addr × Obj)), Zc cls d oe → (∃ vs, oe.data = .fields vs) → PSs (X.suite a ((a, oe) :: pn)) (b₀ :: suite) (ts a cls d)) (r : HdsN X hds l) :
      HdsN X (.ExceptHandler (some (.Name x np)) none (b₀ :: suite) pos' :: hds) ((c, none, ts) :: l)
  | named {x n : Str} {i : Nat} {c : Value} {ts : Addr → Value → Option Addr → TS} {b₀ : Stmt} {suite : List Stmt} {np pos' : Pos} {hds : List ExceptHandler} {l : List Hd} (hc : Names X x c) (hi : X.N[i]? = some n) (hln : X.env.kindOf n = some .local)
      (hsu : ∀ (a : Addr) (oe : Obj) (cls : Value) (d : Option Addr) (pn : List (Addr × Obj)), Zc cls d oe → (∃ vs, oe.data = .fields vs) → PSs (X.suite a ((a, oe) :: pn)) (b₀ :: suite) (ts a cls d)) (r : HdsN X hds l) :
      HdsN X (.ExceptHandler (some (.Name x np)) (some n) (b₀ :: suite) pos' :: hds) ((c, some i, ts) :: l)
section
variable {X : Cx} {body : List Stmt} {h₀ : ExceptHandler} {hds : List ExceptHandler} {l : List Hd} {pos : Pos} {tb : WX → TS} {Wout : WX}
theorem ps_try (hs : X.stack = X.env :: X.outer) (hf : X.env.frame = some X.env.locals) (hN : X.N.Nodup) (tk : Takes X Wout)
    (hb : ∀ (W : WX) (pn : List (Addr × Obj)) (xe : Value → Shared → Prop), Takes (X.tr pn xe) W → PassesOwn (model X.prog X.w) X.A X.env xe → PSs (X.tr pn xe) body (tb W))
    (hh : HdsN X (h₀ :: hds) l) : PS X (.Try body (h₀ :: hds) [] [] pos) (fun D σ H => tb (wHds X.K Wout D l) D σ H) := by
  refine ⟨fun pins s σ H D I h => ?_⟩
  have ok := I.ok
  have hfr : X.A.frames = some (X.env :: X.outer) := by rw [ok.frames, hs]
  refine wpAny_Try_except ?_
  refine wpAny_mono ((hb (wHds X.K Wout D l) (X.pn ++ pins) (fun e s₁ => wpAny (model X.prog X.w) X.A (noteFrame e X.env) (fun _ s₂ => wpAny (model X.prog X.w) X.A (setFlight e none) (fun _ s₃ =>
    wpAny (model X.prog X.w) X.A (handleBy e X.env (h₀ :: hds)) (SP X pins D) X.xe s₃) X.xe s₂) X.xe s₁) (fun u s' xx => ?_) PassesOwn.looking).run [] s σ H D (I.toTry _) h) (fun f s1 hsp => ?_) (fun e s1 he => he)
  · obtain ⟨a, B, sI, pins', σ', H', cls, d, rfl, J', nb, up, sky, na, os, ag, w⟩ := xx
    have J : Inv X pins σ' H' sI := J'.ofTry ok
    have sky' : Sky B (X.env :: X.outer) a (Zc cls d) X.env.locals s'.heap := by rw [← hs]; exact sky
    show wpAny (model X.prog X.w) X.A (noteFrame (.ref a) X.env) _ _ _
    refine Sky.land Zc.steady hfr hf sky' fun h3 fl3 up3 => ?_
    have J3 : Inv X pins σ' H' { s' with heap := h3 } := J.landed nb fl3.1 (up.trans up3) os ag
    obtain ⟨oe3, vs3, he3, hz3, hd3⟩ := fl3.there
    have nfr : a ∉ frs (X.env :: X.outer) := fun hm => by
      obtain ⟨_, o', e', hnf⟩ := fl3.2.2.1.mem hm
      rw [he3] at e'; cases e'
      exact hnf _ hd3
    have nL : a ≠ X.env.locals := fun z => nfr (List.mem_filterMap.mpr ⟨X.env, List.mem_cons_self, by rw [hf, z]⟩)
    have nF : a ∉ X.fs := fun hm => by
      obtain ⟨e, he, q⟩ := List.mem_filterMap.mp hm
      exact nfr (List.mem_filterMap.mpr ⟨e, List.mem_cons_of_mem _ he, q⟩)
    have S3 := J3.suite he3 hd3 na nL nF
    have LT : PySem.W.Looks (model X.prog X.w) h3 (typeOf (.ref a)) cls := fun A Q E s k q => wpAny_typeOf_ref (k _ _ he3) (by rw [hz3.1]; exact q)
    have test : ∀ {x : Str} {c : Value} {np : Pos}, Names X x c → ∀ {Q : Value → Shared → Prop} {E : Value → Shared → Prop}, Q c { s' with heap := h3 } → wpAny (model X.prog X.w) (X.A.mark (some (.ref a))) (eval (.Name x np) X.env) Q E { s' with heap := h3 } := fun {x c np} hc {Q E} q => by
      obtain ⟨hg, hdbg, hm | ⟨hm, hv, hnn⟩⟩ := hc
      · exact ld_glob (X := X.suite a ((a, oe3) :: (X.pn ++ pins))) S3 hg hm q hdbg
      · exact ld_blt (X := X.suite a ((a, oe3) :: (X.pn ++ pins))) S3 hg hm hv q hnn hdbg
    have go : ∀ {hds' : List ExceptHandler} {l' : List Hd}, HdsN X hds' l' → wHds X.K Wout D l' cls d σ' H' →
        wpAny (model X.prog X.w) X.A (handleBy (.ref a) X.env hds') (SP X pins D) X.xe { s' with heap := h3 } := by
      intro hds' l' hk
      induction hk with
      | nil =>
        intro w
        refine wpAny_handleBy_nil ?_
        obtain ⟨k1, k2, k3, oe, vs, T, oT, ts', he, hz, hd, h1, hr⟩ := id fl3
        unfold PySem.passOn
        refine wpAny_bind (wpAny_field he hd h1 ?_)
        rw [if_neg (show ¬ ((Value.ref T == Value.none) = true) from by simp)]
        have fin : wpAny (model X.prog X.w) X.A (setFlight (.ref a) X.env.frame) (fun _ s4 => wpAny (model X.prog X.w) X.A (throw (.ref a) : Sem Flow) (SP X pins D) X.xe s4) X.xe { s' with heap := h3 } := by
          rw [hf]
          refine HandSPX.setFlight_upZ fl3 fun h4 hh4 up4 => wpAny_throw (tk _ _ ?_)
          exact ⟨a, B, sI, pins, σ', H', cls, d, rfl, J, nb, (up.trans up3).trans up4, .inr (.inr (by rw [hs]; exact hh4)), na, os, ag, w⟩
        first
          | exact wpAny_bind (wpAny_pure (wpAny_bind fin))
          | exact wpAny_bind fin
      | @cons x c ts b₀ suite np pos' hds2 l2 hc hsu r ih =>
        intro w
        obtain ⟨b, hb1, hyes, hno⟩ := w
        refine wpAny_handleBy_cons (codeAny_handlers_test ?_) (by intro q; cases q)
        have LM := PySem.W.exm_one (M := model X.prog X.w) (J3.kIn) LT hb1
        refine test hc (LM.here ?_)
        cases b with
        | true =>
          refine codeAny_handlers_suite (HandSPX.lands_againZ fl3 fun h4 fl4 up4 => ?_)
          have J4 : Inv X pins σ' H' { s' with heap := h4 } := J.landed nb fl4.1 ((up.trans up3).trans up4) os ag
          obtain ⟨oe4, vs4, he4, hz4, hd4⟩ := fl4.there
          have S4 := J4.suite he4 hd4 na nL nF
          refine wpAny_mono ((hsu a oe4 cls d (X.pn ++ pins) hz4 ⟨_, hd4⟩).run [] _ _ H' _ S4 (hyes rfl a na)) (fun f s6 hsp => ?_) (fun _ _ z => False.elim z)
          cases f with
          | ret u =>
            obtain ⟨v6, σ6, H6, S6, r6, q6⟩ := hsp
            exact ⟨_, _, _, S6.unsuite ok, r6, q6⟩
          | next => obtain ⟨σ6, H6, S6, q6⟩ := hsp; exact ⟨_, _, S6.unsuite ok, q6⟩
          | brk => obtain ⟨σ6, H6, S6, q6⟩ := hsp; exact ⟨_, _, S6.unsuite ok, q6⟩
          | cont => obtain ⟨σ6, H6, S6, q6⟩ := hsp; exact ⟨_, _, S6.unsuite ok, q6⟩
        | false =>
          show wpAny _ X.A (handleBy (.ref a) X.env hds2) _ _ _
          exact ih (hno rfl)
      | @named x n i c ts b₀ suite np pos' hds2 l2 hc hi hln hsu r ih =>
        intro w
        obtain ⟨b, hb1, hyes, hno⟩ := w
        refine wpAny_handleBy_cons (codeAny_handlers_test ?_) (by intro q; cases q)
        have LM := PySem.W.exm_one (M := model X.prog X.w) (J3.kIn) LT hb1
        refine test hc (LM.here ?_)
        cases b with
        | true =>
          refine codeAny_handlers_suite_as (HandSPX.lands_againZ fl3 fun h4 fl4 up4 => ?_)
          have J4 : Inv X pins σ' H' { s' with heap := h4 } := J.landed nb fl4.1 ((up.trans up3).trans up4) os ag
          obtain ⟨oe4, vs4, he4, hz4, hd4⟩ := fl4.there
          have S4 := J4.suite he4 hd4 na nL nF
          refine store_ok (X := X.suite a ((a, oe4) :: (X.pn ++ pins))) (v := .ref a) S4 hN hi (Or.inl hln) rfl (fun s5 S5 => ?_) (.inr hln)
          refine wpAny_mono ((hsu a oe4 cls d (X.pn ++ pins) hz4 ⟨_, hd4⟩).run [] s5 _ H' _ S5 (hyes rfl a na)) (fun f s6 hsp => ?_) (fun _ _ z => False.elim z)
          have fin2 : ∀ {σ6 : L2.St} {H6 : Hp} {Q : Shared → Prop}, Inv (X.suite a ((a, oe4) :: (X.pn ++ pins))) [] σ6 H6 s6 → (∀ s7, Inv X pins (σ6.set i none) H6 s7 → Q s7) →
              wpAny (model X.prog X.w) X.A (do bindName X.env n .none; unbindBehindTheSuite X.env n pos') (fun _ s7 => Q s7) X.xe s6 := fun {σ6 H6 Q} S6 hq => gone_ok (S6.unsuite ok) hN hi hln hq
          cases f with
          | ret u =>
            obtain ⟨v6, σ6, H6, S6, r6, q6⟩ := hsp
            exact fin2 S6 fun s7 J7 => ⟨_, _, _, J7, r6, q6⟩
          | next => obtain ⟨σ6, H6, S6, q6⟩ := hsp; exact fin2 S6 fun s7 J7 => ⟨_, _, J7, q6⟩
          | brk => obtain ⟨σ6, H6, S6, q6⟩ := hsp; exact fin2 S6 fun s7 J7 => ⟨_, _, J7, q6⟩
          | cont => obtain ⟨σ6, H6, S6, q6⟩ := hsp; exact fin2 S6 fun s7 J7 => ⟨_, _, J7, q6⟩
        | false =>
          show wpAny _ X.A (handleBy (.ref a) X.env hds2) _ _ _
          exact ih (hno rfl)
    exact go hh w
  · cases f with
    | ret u =>
      obtain ⟨v, σ', H', J', r, q⟩ := hsp
      exact ⟨v, σ', H', J'.ofTry ok, r, q⟩
    | next => obtain ⟨σ', H', J', q⟩ := hsp; exact wpAny_execs_nil ⟨σ', H', J'.ofTry ok, q⟩
    | brk => obtain ⟨σ', H', J', q⟩ := hsp; exact ⟨σ', H', J'.ofTry ok, q⟩
    | cont => obtain ⟨σ', H', J', q⟩ := hsp; exact ⟨σ', H', J'.ofTry ok, q⟩
end
end EM
/-! EM10: what many laws share: the pen and its draws, plain rows of ints. -/
namespace EM
open PySem PySem.Spec PyProof.Rows L2
def scan (a : Int) : List Int → List Int
  | [] => [a]
  | w :: r => a :: scan (a + w) r
theorem scan_len (a : Int) (l : List Int) : (scan a l).length = l.length + 1 := by
  induction l generalizing a with
  | nil => rfl
  | cons w r ih => show (scan (a + w) r).length + 1 = r.length + 1 + 1; rw [ih]
theorem scan_snoc (a : Int) (l : List Int) (w : Int) : scan a (l ++ [w]) = scan a l ++ [a + l.sum + w] := by
  induction l generalizing a with
  | nil => simp [scan]
  | cons v r ih =>
    show a :: scan (a + v) (r ++ [w]) = a :: (scan (a + v) r ++ [a + (v :: r).sum + w])
    rw [ih, List.sum_cons]
    have : a + v + r.sum + w = a + (v + r.sum) + w := by omega
    rw [this]
theorem scan_last (a : Int) (l : List Int) : (scan a l)[l.length]? = some (a + l.sum) := by
  induction l generalizing a with
  | nil => simp [scan]
  | cons v r ih =>
    show (scan (a + v) r)[r.length]? = _
    rw [ih, List.sum_cons]
    congr 1
    omega
theorem take_snoc {α : Type} {l : List α} {i : Nat} {x : α} (h : l[i]? = some x) : l.take (i + 1) = l.take i ++ [x] := by
  rw [List.take_add_one, h]
  rfl
theorem map_at {l : List Int} {i : Nat} {y : V} (h : (l.map V.int)[i]? = some y) : ∃ z, l[i]? = some z ∧ y = .int z := by
  rw [List.getElem?_map] at h
  cases e : l[i]? with
  | none => rw [e] at h; cases h
  | some z => rw [e] at h; exact ⟨z, rfl, (Option.some.inj h).symm⟩
def good (ws : List Int) : Prop := ws.length % 2 = 1 ∧ 3 ≤ ws.length ∧ ws.length ≤ 127 ∧ ∀ x ∈ ws, 1 ≤ x ∧ x ≤ 1000
def sumsOf (ws : List Int) : List Int := List.zipWith (· + ·) ws (ws.drop 1)
theorem scan_at (l : List Int) (i : Nat) (h : i ≤ l.length) (a : Int) : (scan a l)[i]? = some (a + (l.take i).sum) := by
  induction l generalizing a i with
  | nil => 
    have : i = 0 := by simpa using h
    subst this
    simp [scan]
  | cons v r ih =>
    cases i with
    | zero => simp [scan]
    | succ i =>
      show (scan (a + v) r)[i]? = _
      rw [ih i (by simpa using h)]
      simp only [List.take_succ_cons, List.sum_cons]
      congr 1
      omega
theorem sums_len (ws : List Int) : (sumsOf ws).length = min ws.length (ws.length - 1) := by
  unfold sumsOf
  rw [List.length_zipWith, List.length_drop]
theorem sums_at {ws : List Int} {i : Nat} {a b : Int} (h1 : ws[i]? = some a) (h2 : (ws.drop 1)[i]? = some b) : (sumsOf ws)[i]? = some (a + b) := by
  unfold sumsOf
  rw [List.getElem?_zipWith, h1, h2]
/-- what draws: the cells, the index of the next one (at most n), the rest of a great cell -/
def Pen (H : Hp) (p l : Addr) (n : Nat) : Prop := ∃ (cells : List Int) (at_ rest : Int), H p = some (.lst [.ref l, .int at_, .int rest]) ∧ H l = some (.lst (cells.map V.int)) ∧ l ≠ p ∧ cells.length ≤ 63 ∧ 0 ≤ at_ ∧ at_ ≤ n
def spPen (K : PySem.W.Frag) : Sp := fun vs H Q _ => ∃ (a : Addr) (ns : List Int), vs = [.ref a] ∧ SqL K H a (ns.map V.int) ∧ ns.length ≤ 63 ∧ ∀ p l H', Same H H' → H p = none → Pen H' p l 0 → Q (.ref p) H'
def spDraw : Sp := fun vs H Q _ => ∃ (p l : Addr) (n : Nat) (many : Int), vs = [.ref p, .int many] ∧ Pen H p l n ∧ n ≤ 1000000 ∧ 1 ≤ many ∧ many < 10000000000000000000000000000000000000000000000000000000000000000000000000000000000000000000000000000 ∧ ∀ d H', 0 ≤ d → d < many → (∀ b o, H b = some o → b ≠ p → H' b = some o) → Pen H' p l (n + 1) → Q (.int d) H'
theorem draw_bd {m a A B C : Int} (m0 : 0 ≤ m) (m1 : m < 2147483648) (a0 : 0 ≤ a) (a1 : a ≤ 1000000) (hA : 0 ≤ A ∧ A ≤ 1000000) (hB : 0 ≤ B ∧ B ≤ 1000000) (hC : 0 ≤ C ∧ C ≤ 1000000) :
    (m * (2 * a + A) + B * a * a + C).natAbs < 2 ^ 64 := by
  have h1 : m * (2 * a + A) ≤ 2147483648 * 3000000 := Int.mul_le_mul (by omega) (by omega) (by omega) (by omega)
  have h2 : 0 ≤ m * (2 * a + A) := Int.mul_nonneg m0 (by omega)
  have h3 : B * a ≤ 1000000 * 1000000 := Int.mul_le_mul hB.2 a1 a0 (by omega)
  have h4 : 0 ≤ B * a := Int.mul_nonneg hB.1 a0
  have h5 : B * a * a ≤ 1000000 * 1000000 * 1000000 := Int.mul_le_mul h3 a1 a0 (by omega)
  have h6 : 0 ≤ B * a * a := Int.mul_nonneg h4 a0
  omega
theorem mul_bd {B a : Int} (a0 : 0 ≤ a) (a1 : a ≤ 1000000) (hB : 0 ≤ B ∧ B ≤ 1000000) : -(2 ^ 64) < B * a ∧ B * a < 2 ^ 64 := by
  have h3 : B * a ≤ 1000000 * 1000000 := Int.mul_le_mul hB.2 a1 a0 (by omega)
  have h4 : 0 ≤ B * a := Int.mul_nonneg hB.1 a0
  constructor <;> omega
theorem cut_ints (ns : List Int) (lo hi : Option Int) : ∃ ms : List Int, cutV (ns.map V.int) lo hi = ms.map V.int ∧ ms.length ≤ ns.length := by
  refine ⟨(ns.drop (HT.sIx (ns.map V.int).length 0 lo)).take (HT.sIx (ns.map V.int).length (ns.map V.int).length hi - HT.sIx (ns.map V.int).length 0 lo), ?_, ?_⟩
  · unfold cutV
    rw [List.map_take, List.map_drop]
  · rw [List.length_take, List.length_drop]
    omega
def Keep (p : Addr) (H H' : Hp) : Prop := ∀ b o, H b = some o → b ≠ p → H' b = some o
theorem Keep.refl {p : Addr} {H : Hp} : Keep p H H := fun _ _ e _ => e
theorem Keep.trans {p : Addr} {H H1 H2 : Hp} (a : Keep p H H1) (b : Keep p H1 H2) : Keep p H H2 := fun c o e n => b c o (a c o e n) n
theorem Keep.of {p : Addr} {H H1 : Hp} (a : Same H H1) : Keep p H H1 := fun c o e _ => a c o e
theorem Keep.mut {p : Addr} {H H1 : Hp} {D : Addr} {o : HO} (a : Keep p H H1) (h : H D = none) : Keep p H (upd H1 D o) := fun c u e n => by
  rw [upd_ne (ne_of_none e h)]
  exact a c u e n
theorem Pen.mono {H : Hp} {p l : Addr} {n m : Nat} (h : Pen H p l n) (e : n ≤ m) : Pen H p l m := by
  obtain ⟨c, a, r, h1, h2, h3, h4, h5, h6⟩ := h
  exact ⟨c, a, r, h1, h2, h3, h4, h5, by omega⟩
theorem Pen.same {H H' : Hp} {p l : Addr} {n : Nat} (h : Pen H p l n) (e : Same H H') : Pen H' p l n := by
  obtain ⟨c, a, r, h1, h2, h3, h4, h5, h6⟩ := h
  exact ⟨c, a, r, e _ _ h1, e _ _ h2, h3, h4, h5, h6⟩
theorem Pen.mut {H : Hp} {p l D : Addr} {o : HO} {n : Nat} (h : Pen H p l n) (n1 : D ≠ p) (n2 : D ≠ l) : Pen (upd H D o) p l n := by
  obtain ⟨c, a, r, h1, h2, h3, h4, h5, h6⟩ := h
  exact ⟨c, a, r, by rw [upd_ne n1.symm]; exact h1, by rw [upd_ne n2.symm]; exact h2, h3, h4, h5, h6⟩
theorem Pen.ne {H : Hp} {p l D : Addr} {n : Nat} (h : Pen H p l n) (hD : H D = none) : D ≠ p ∧ D ≠ l := by
  obtain ⟨c, a, r, h1, h2, _⟩ := h
  exact ⟨(ne_of_none h1 hD).symm, (ne_of_none h2 hD).symm⟩
theorem pick {xs : List V} {d : Int} (h0 : 0 ≤ d) (h1 : d < xs.length) : ∃ v, atI xs d = some v ∧ v ∈ xs := by
  have h : d.toNat < xs.length := by omega
  exact ⟨xs[d.toNat], at_of (j := d.toNat) (by omega) (List.getElem?_eq_getElem h), List.getElem_mem h⟩
def spPick : Sp := fun vs H Q _ => ∃ (p l : Addr) (n : Nat) (a : Addr) (xs : List V), vs = [.ref p, .ref a] ∧ Pen H p l n ∧ n ≤ 1000000 ∧ H a = some (.lst xs) ∧ a ≠ p ∧ 1 ≤ xs.length ∧ xs.length ≤ 1000000 ∧
  ∀ v H', v ∈ xs → Keep p H H' → Pen H' p l (n + 1) → Q v H'
end EM
/-! EM11: plain facts of texts of figures; a callee's exceptions under a try. -/
namespace EM
open PySem PySem.Spec PyProof.Rows L2 PySem.NumText
abbrev sg (a : Str) : List Nat := a.cps.toList
theorem str_ext {a b : Str} (h : sg a = sg b) : a = b := by
  obtain ⟨⟨x⟩⟩ := a
  obtain ⟨⟨y⟩⟩ := b
  have h' : x = y := h
  rw [h']
theorem len_sg (a : Str) : a.length = (sg a).length := rfl
def isDig (c : Nat) : Bool := decide (48 ≤ c ∧ c ≤ 57)
theorem mem_figs (c : Nat) : decide (c ∈ ("0123456789" : Str).cps.toList) = isDig c := by
  have e : ("0123456789" : Str).cps.toList = [48, 49, 50, 51, 52, 53, 54, 55, 56, 57] := by decide +kernel
  rw [e]
  unfold isDig
  by_cases h : 48 ≤ c ∧ c ≤ 57
  · rw [decide_eq_true h, decide_eq_true_eq]
    simp only [List.mem_cons, List.not_mem_nil, or_false]
    omega
  · rw [decide_eq_false h, decide_eq_false_iff_not]
    simp only [List.mem_cons, List.not_mem_nil, or_false]
    omega
theorem dig_all {l : List Nat} (h : l.all isDig = true) : AllDigits l := fun c hc => of_decide_eq_true (List.all_eq_true.mp h c hc)
/-- the worth of a text of figures -/
def worthT (a : Str) : Int := (digitsVal (sg a) : Nat)
theorem int_of_figs {a : Str} (h : (sg a).all isDig = true) (h1 : sg a ≠ []) (h2 : a.length ≤ 640) : intText? a = some (worthT a) :=
  intText_digits (dig_all h) h1 (by omega)
theorem worth_pos {a : Str} (h1 : sg a ≠ []) (h0 : (sg a).head? ≠ some 48) (h : (sg a).all isDig = true) : 1 ≤ worthT a := by
  unfold worthT
  cases e : sg a with
  | nil => exact absurd e h1
  | cons c r =>
    rw [e] at h0 h
    have hc := (dig_all h).head
    have : c ≠ 48 := fun z => h0 (by rw [z]; rfl)
    have := digitsVal_pos (c := c) (cs := r) (by omega)
    omega
theorem toNat_ofNat {c : Nat} (h : c < 55296) : (Char.ofNat c).toNat = c := by
  have hv : Nat.isValidChar c := Or.inl (by omega)
  unfold Char.ofNat
  rw [dif_pos hv]
  show (UInt32.ofNatLT c _).toNat = c
  rfl
theorem worth_text {a : Str} (h1 : sg a ≠ []) (h0 : (sg a).head? ≠ some 48) (h : (sg a).all isDig = true) : (Str.ofString (toString (worthT a))) = a := by
  apply str_ext
  have hd := dig_all h
  have ht : Nat.toDigits 10 (digitsVal (sg a)) = (sg a).map Char.ofNat := by
    refine toDigits_digitsVal ((sg a).length - 1) (sg a) ?_ hd ?_
    · cases e : sg a with
      | nil => exact absurd e h1
      | cons c r => simp
    · cases e : sg a with
      | nil => exact absurd e h1
      | cons c r =>
        rw [e] at h0 hd
        have := hd.head
        have : c ≠ 48 := fun z => h0 (by rw [z]; rfl)
        exact .inr ⟨c, r, rfl, by omega⟩
  show (cpsOfBytes 0 0 (toString (worthT a)).toByteArray.data.toList).toArray.toList = _
  rw [cpsOfBytes_string]
  have e2 : toString (worthT a) = String.ofList (Nat.toDigits 10 (digitsVal (sg a))) := rfl
  rw [e2, String.toList_ofList, ht, List.map_map]
  have : ∀ l : List Nat, AllDigits l → l.map (Char.toNat ∘ Char.ofNat) = l := by
    intro l
    induction l with
    | nil => intro _; rfl
    | cons c r ih =>
      intro hl
      rw [List.map_cons, ih hl.tail]
      show (Char.ofNat c).toNat :: r = c :: r
      rw [toNat_ofNat (by have := hl.head; omega)]
  exact this _ hd
section
variable {X : Cx} {W : WX}
theorem passes_len (tk : Takes X W) : Passes (L2.CX X.prog X.w) X (fun cls d H => ∀ σ : L2.St, σ.length = X.N.length → W cls d σ H) := fun pins σ H s e s' I c =>
  tk e s' (XE.of_call I (fun cls d H' h => h σ I.len) c)
end
end EM
/-! EM12: a list beside an empty list. -/
namespace EM
open PySem PySem.Spec PyProof.Rows L2
def rNeNil (K : PySem.W.Frag) : R2 := fun x y H Q => ∃ a b xs, x = .ref a ∧ y = .ref b ∧ SqL K H a xs ∧ SqL K H b [] ∧ Q (.bl (!xs.isEmpty)) H
def rEqNil (K : PySem.W.Frag) : R2 := fun x y H Q => ∃ a b xs, x = .ref a ∧ y = .ref b ∧ SqL K H a xs ∧ SqL K H b [] ∧ Q (.bl xs.isEmpty) H
section
variable {X : Cx}
theorem op_neNil (hu : X.A.units + 64 < cLine) : OpR X (compareOp .NotEq) (rNeNil X.K) := by
  intro pins s σ H x y v u Q I rx ry h
  obtain ⟨a, b, xs, rfl, rfl, ha, hb, q⟩ := h
  cases rx
  cases ry
  obtain ⟨its, r, pl, _⟩ := I.list ha
  obtain ⟨its2, r2, pl2, _⟩ := I.list hb
  have e2 : its2 = [] := by cases r2; rfl
  subst e2
  have hl := r.length
  show wpAny (model X.prog X.w) X.A (richCompare .NotEq (.ref a) (.ref b)) (EP X pins σ Q) X.xe s
  cases xs with
  | nil =>
    cases r
    exact SeqAt.RcNeAt.lists (e := fun _ => true) pl.isList pl2.isList rfl (by omega) (fun j h1 _ => absurd h1 (by simp)) _ _ _ _ ⟨.bl false, H, I, rfl, q⟩
  | cons c r0 =>
    refine SeqAt.RcNeAt.lists_lengths pl.isList pl2.isList ?_ (by omega) _ _ _ _ ⟨.bl true, H, I, rfl, q⟩
    rw [List.size_toArray, ← hl]
    rfl
theorem op_eqNil (hu : X.A.units + 64 < cLine) : OpR X (compareOp .Eq) (rEqNil X.K) := by
  intro pins s σ H x y v u Q I rx ry h
  obtain ⟨a, b, xs, rfl, rfl, ha, hb, q⟩ := h
  cases rx
  cases ry
  obtain ⟨its, r, pl, _⟩ := I.list ha
  obtain ⟨its2, r2, pl2, _⟩ := I.list hb
  have e2 : its2 = [] := by cases r2; rfl
  subst e2
  have hl := r.length
  show wpAny (model X.prog X.w) X.A (richCompare .Eq (.ref a) (.ref b)) (EP X pins σ Q) X.xe s
  cases xs with
  | nil =>
    cases r
    exact SeqAt.RcAt.lists (e := fun _ => true) pl.isList pl2.isList rfl (by omega) (fun j h1 _ => absurd h1 (by simp)) _ _ _ _ ⟨.bl true, H, I, rfl, q⟩
  | cons c r0 =>
    refine SeqAt.RcAt.lists_lengths pl.isList pl2.isList ?_ (by omega) _ _ _ _ ⟨.bl false, H, I, rfl, q⟩
    rw [List.size_toArray, ← hl]
    rfl
end
end EM
/-! EM13: marks: what stands at an address, promises of their defs. -/
namespace EM
open PySem PySem.Spec PyProof.Rows L2
def mf (wp ep sp : Addr) (b t u : Int) : List (Str × V) := [("widths", .ref wp), ("edge_row", .ref ep), ("sums", .ref sp), ("bars", .int b), ("total", .int t), ("span", .int u)]
/-- a mark of these widths stands at p -/
def MarkAt (K : PySem.W.Frag) (H : Hp) (p : Addr) (ws : List Int) : Prop := good ws ∧ ∃ dx wp ep sp, H p = some (.ins (He.ga K "Mark") dx (mf wp ep sp ((ws.length : Int) / 2 + 1) ws.sum (ws.take (ws.length - 1)).sum)) ∧ H wp = some (.tup (ws.map V.int)) ∧ H ep = some (.tup ((scan 0 ws).map V.int)) ∧ H sp = some (.tup ((sumsOf ws).map V.int))
theorem MarkAt.same {K : PySem.W.Frag} {H H' : Hp} {p : Addr} {ws : List Int} (h : MarkAt K H p ws) (e : Same H H') : MarkAt K H' p ws := by
  obtain ⟨g, dx, wp, ep, sp, h1, h2, h3, h4⟩ := h
  exact ⟨g, dx, wp, ep, sp, e _ _ h1, e _ _ h2, e _ _ h3, e _ _ h4⟩
def spIsInt (K : PySem.W.Frag) : Sp := fun vs H Q _ => ∃ x t b1 b2, vs = [x] ∧ TyX K H x t ∧ PySem.W.kitOne K t (.type "int") = some b1 ∧ PySem.W.kitOne K t (.type "bool") = some b2 ∧ Q (.bl (b1 && !b2)) H
theorem isInt_int {K : PySem.W.Frag} {H : Hp} {Q : VK} {E : XK} {i : Int} (q : Q (.bl true) H) : spIsInt K [.int i] H Q E := ⟨_, _, true, false, rfl, .base (.int i), kit_ty (by decide +kernel), kit_ty (by decide +kernel), q⟩
def spBetween : Sp := fun vs H Q _ => ∃ i lo hi : Int, vs = [.int i, .int lo, .int hi] ∧ Q (.bl (decide (lo ≤ i) && decide (i ≤ hi))) H
def spEdges (K : PySem.W.Frag) : Sp := fun vs H Q _ => ∃ (a : Addr) (ws : List Int), vs = [.ref a] ∧ SqT K H a (ws.map V.int) ∧ ws.length ≤ 1000 ∧ ∀ p H', Same H H' → H' p = some (.tup ((scan 0 ws).map V.int)) → Q (.ref p) H'
def spInit0 (K : PySem.W.Frag) : Sp := fun vs H Q _ => ∃ (x dx T : Addr) (ws : List Int), vs = [.ref x, .ref T] ∧ H x = some (.ins (He.ga K "Mark") dx []) ∧ H T = some (.tup (ws.map V.int)) ∧ good ws ∧
  ∀ H', (∀ b o, H b = some o → b ≠ x → H' b = some o) → MarkAt K H' x ws → Q .non H'
theorem good_rev {ws : List Int} (h : good ws) : good ws.reverse := by
  obtain ⟨h1, h2, h3, h4⟩ := h
  exact ⟨by rw [List.length_reverse]; exact h1, by rw [List.length_reverse]; exact h2, by rw [List.length_reverse]; exact h3, fun x hx => h4 x (List.mem_reverse.mp hx)⟩
abbrev spMI (K : PySem.W.Frag) : Sp := fun vs H Q E => ∃ ws rest, vs = ws ++ rest ∧ ws.length = ["self"].length ∧ rest.length ≤ sizeLine ∧ ∀ W, H W = none → spInit0 K (ws ++ [V.ref W]) (upd H W (.tup rest)) Q E
theorem mk_Mark {K : PySem.W.Frag} {H : Hp} {ws : List Int} {Q : VK} {E : XK} {vs : List V} (hv : vs = ws.map V.int) (hg : good ws) (q : ∀ p H', Same H H' → MarkAt K H' p ws → Q (.ref p) H') :
    ∀ x dx, H x = none → H dx = none → dx ≠ x → spMI K (V.ref x :: vs) (upd (upd H dx (.own x)) x (.ins (He.ga K "Mark") dx [])) (fun v H2 => v = .non ∧ Q (.ref x) H2) E := by
  intro x dx nx nd ne
  subst hv
  refine ⟨[.ref x], ws.map V.int, rfl, rfl, by rw [List.length_map]; exact sz (by have := hg.2.2.1; omega), fun W hW => ⟨x, dx, W, ws, rfl, ?_, upd_same, hg, fun H' k m => ⟨rfl, q x H' (fun b o e => ?_) m⟩⟩⟩
  · have nxW : x ≠ W := by
      intro z
      subst z
      rw [upd_same] at hW
      cases hW
    rw [upd_ne nxW, upd_same]
  · have n1 := ne_of_none e nx
    have n2 := ne_of_none e nd
    have nW : b ≠ W := by
      intro z
      subst z
      rw [upd_ne n1, upd_ne n2, e] at hW
      cases hW
    exact k b o (by rw [upd_ne nW, upd_ne n1, upd_ne n2]; exact e) n1
def spOf (K : PySem.W.Frag) : Sp := fun vs H Q _ => ∃ (c : V) (a : Addr) (ws : List Int), vs = [c, .ref a] ∧ (H a = some (.lst (ws.map V.int)) ∨ H a = some (.tup (ws.map V.int))) ∧ good ws ∧ ∀ p H', Same H H' → MarkAt K H' p ws → Q (.ref p) H'
def spInvert (K : PySem.W.Frag) : Sp := fun vs H Q _ => ∃ (p : Addr) (ws : List Int), vs = [.ref p] ∧ MarkAt K H p ws ∧ ∀ q H', Same H H' → MarkAt K H' q ws.reverse → Q (.ref q) H'
def spEqM (K : PySem.W.Frag) : Sp := fun vs H Q _ => ∃ (p q : Addr) (ws us : List Int), vs = [.ref p, .ref q] ∧ MarkAt K H p ws ∧ MarkAt K H q us ∧ Q (.bl (decide (ws = us))) H
def spPart : Sp := fun vs H Q _ => ∃ i : Int, vs = [.int i] ∧ 1 ≤ i ∧ i ≤ 1000 ∧ Q .non H
def spNeed : Sp := fun vs H Q _ => ∃ b g u : Int, vs = [.int b, .int g, .int u] ∧ (1 ≤ b ∧ b ≤ 62) ∧ (1 ≤ g ∧ g ≤ 1000) ∧ (1 ≤ u ∧ u ≤ 1000) ∧ Q .non H
theorem kSelf {K : PySem.W.Frag} {C : Addr} : PySem.W.kitOne K (.ref C) (.ref C) = some true := by
  unfold PySem.W.kitOne
  rw [if_pos (beq_self_eq_true _)]
end EM
/-! EM14: str of an instance with its own __str__. -/
namespace EM
open PySem PySem.Spec PyProof.Rows L2
def rStrO (C : Addr) (sp : Sp) (E : XK) : List V → Hp → VK → Prop := fun xs H Q => ∃ a dx fs, xs = [.ref a] ∧ H a = some (.ins C dx fs) ∧ sp [.ref a] H (fun z H' => ∃ r, z = .str r ∧ Q (.str r) H') E
section
variable {X : Cx} {CX : CXT} {n : Nat} {g C : Addr} {sp : Sp} {E : XK}
theorem call_strO (hs : PySem.W.findIn X.K (.ref C) "__str__" = some (some (.ref g))) (hf : PySem.W.isFn X.K (.ref g) = true) (F : FnR X.prog X.w X.K X.mg X.base CX n g sp) (hr : Room (n + 2) X.A) (hx : Passes CX X E) : CallR X (.type "str") (rStrO C sp E) := by
  intro pins s σ H xs us Q I r h
  obtain ⟨a, dx, fs, rfl, ha, q⟩ := h
  cases r with
  | cons rx rr =>
    cases rr
    rename_i u
    cases (show u = Value.ref a from rx)
    obtain ⟨ox, od, J, _⟩ := ins_at I ha
    refine PySem.W.kso_call (hr.in1.in1).units0 I.kIn J hs hf ?_
    have c := SlX.run_at (us := [.ref a]) (ws := [.ref a]) F hr.in1.in1 I.env0.in1.in1 hx I (.cons rfl .nil) q
    refine wpAny_mono (wpAny_call c) (fun w s' z => ?_) fun _ _ x => x
    obtain ⟨z', H', I', rz, r, ez, qz⟩ := z
    subst ez
    obtain ⟨t, rfl⟩ := (show ∃ t, w = Value.str r t from rz)
    exact ⟨.str r, H', I', ⟨t, rfl⟩, qz⟩
end
end EM
/-! EM15: how long a shown list or tuple is. -/
namespace EM
open PySem PySem.Spec PyProof.Rows L2
theorem app_len (a b : Str) : (a ++ b).length = a.length + b.length := by
  obtain ⟨x⟩ := a
  obtain ⟨y⟩ := b
  exact Array.size_append
theorem from_le : ∀ (ts : List Str) (k : Nat) (acc : Str), (textFrom k acc ts).length ≤ acc.length + (ts.map (·.length)).sum + 2 * ts.length
  | [], k, acc => by show acc.length ≤ _; omega
  | t :: r, k, acc => by
    have ih := from_le r (k + 1) (acc ++ (if k > 0 then ", " else "" : String) ++ t)
    have hc : (Str.ofString (if k > 0 then ", " else "" : String)).length ≤ 2 := by split <;> decide +kernel
    rw [app_len, app_len] at ih
    show (textFrom (k + 1) (acc ++ (if k > 0 then ", " else "" : String) ++ t) r).length ≤ _
    simp only [List.map_cons, List.sum_cons, List.length_cons]
    omega
theorem shown_sum : ∀ xs : List PyData, (((PyData.shownAll xs).map (·.length)).sum) = (xs.map fun d => d.shown.length).sum
  | [] => rfl
  | x :: r => by
    show x.shown.length + ((PyData.shownAll r).map (·.length)).sum = x.shown.length + (r.map fun d => d.shown.length).sum
    rw [shown_sum r]
theorem shown_n : ∀ xs : List PyData, (PyData.shownAll xs).length = xs.length
  | [] => rfl
  | x :: r => by
    show (PyData.shownAll r).length + 1 = r.length + 1
    rw [shown_n r]
theorem shown_list (xs : List PyData) : (PyData.list xs).shown.length ≤ (xs.map fun d => d.shown.length).sum + 2 * xs.length + 2 := by
  have h := from_le (PyData.shownAll xs) 0 "["
  have h1 : (Str.ofString "[").length = 1 := by decide +kernel
  have h2 : (Str.ofString "]").length = 1 := by decide +kernel
  show (textFrom 0 "[" (PyData.shownAll xs) ++ Str.ofString "]").length ≤ _
  rw [app_len]
  rw [shown_sum, shown_n] at h
  omega
theorem shown_tuple (xs : List PyData) : (PyData.tuple xs).shown.length ≤ (xs.map fun d => d.shown.length).sum + 2 * xs.length + 3 := by
  have h := StrLaws.join_length_le ", " (PyData.shownAll xs)
  have h1 : (Str.ofString "(").length = 1 := by decide +kernel
  have h2 : (Str.ofString ", ").length = 2 := by decide +kernel
  have h3 : (Str.ofString (if (PyData.shownAll xs).length == 1 then ",)" else ")" : String)).length ≤ 2 := by split <;> decide +kernel
  show (Str.ofString "(" ++ Str.join ", " (PyData.shownAll xs) ++ Str.ofString (if (PyData.shownAll xs).length == 1 then ",)" else ")" : String)).length ≤ _
  rw [app_len, app_len]
  rw [shown_sum, shown_n, h2] at h
  omega
/-- repr of it is let -/
structure ROk (d : PyData) : Prop where
  sh : d.showable = true
  ln : d.shown.length ≤ sizeLine
  dp : d.depth ≤ 64
theorem show_ints : ∀ ns : List Int, (∀ x ∈ ns, x.natAbs.log2 < 1920) → PyData.showableAll (ns.map PyData.int) = true
  | [], _ => rfl
  | n :: r, h => by
    show (decide (n.natAbs.log2 < 1920) && PyData.showableAll (r.map PyData.int)) = true
    rw [show_ints r fun x hx => h x (List.mem_cons_of_mem _ hx), decide_eq_true (h n List.mem_cons_self)]
    rfl
theorem sum_ints : ∀ ns : List Int, (∀ x ∈ ns, x.natAbs.log2 < 1920) → ((ns.map PyData.int).map fun d => d.shown.length).sum ≤ 1921 * ns.length
  | [], _ => Nat.le_refl _
  | n :: r, h => by
    have ih := sum_ints r fun x hx => h x (List.mem_cons_of_mem _ hx)
    have h1 : (PyData.shown (.int n)).length ≤ 1921 := int_text_len_1921 (h n List.mem_cons_self)
    simp only [List.map_cons, List.sum_cons, List.length_cons] at ih ⊢
    omega
theorem rokL (ns : List Int) (h : ∀ x ∈ ns, x.natAbs.log2 < 1920) (hl : ns.length ≤ 5000) : ROk (dL ns) := by
  have h1 := shown_list (ns.map PyData.int)
  have h2 := sum_ints ns h
  rw [List.length_map] at h1
  refine ⟨show_ints ns h, Nat.le_trans (show (PyData.list (ns.map PyData.int)).shown.length ≤ 10000000 by omega) (by decide), ?_⟩
  rw [show (dL ns).depth = PyData.depthAll (ns.map PyData.int) + 1 from rfl, dep_ints]
  decide
theorem rokT (ns : List Int) (h : ∀ x ∈ ns, x.natAbs.log2 < 1920) (hl : ns.length ≤ 5000) : ROk (dT ns) := by
  have h1 := shown_tuple (ns.map PyData.int)
  have h2 := sum_ints ns h
  rw [List.length_map] at h1
  refine ⟨show_ints ns h, Nat.le_trans (show (PyData.tuple (ns.map PyData.int)).shown.length ≤ 10000000 by omega) (by decide), ?_⟩
  rw [show (dT ns).depth = PyData.depthAll (ns.map PyData.int) + 1 from rfl, dep_ints]
  decide
end EM
/-! EM16: replace of written texts behind a test with a written int (a token is out then). -/
namespace EM
open PySem PySem.Spec PyProof.Rows L2
section
variable {X : Cx} {CX : CXT} {k : Nat} {f : Addr} {sp : Sp} {E : XK} {x : Str} {a e : Expr} {es : List Expr} {ta : TE} {t : TA} {p pos pos' cp : Pos}
/-- f(e, ..), one token out -/
theorem pet_cR (F : FnR X.prog X.w X.K X.mg X.base CX k f sp) (hr : Room k X.A) (hk : PySem.W.keepIn X.K (.ref f) = true) (hm : X.mg x = some (.ref f)) (hx : Passes CX X E) (ha : PAT X (e :: es) t) (hg : Gl X x := by rfl) (hd : (x == ("__debug__" : Str)) = false := by decide)
    (he : starEach (e :: es) X.env = (false, eval e X.env) :: starEach es X.env := by rfl) (hpl : (backTo pos (starEach es X.env)).any (·.1) = false := by rfl) :
    PET X (.Call (.Name x p) (e :: es) [] pos) (tCR sp E t) := by
  intro pins s σ H Q h0 I h
  refine wpAny_Call_Name_kw (ld_glob I hg hm ?_ hd)
  refine PySem.W.callWith_K (h₀ := X.base) I.ok.mod.kin hk (thn (ha pos pins s σ H _ h0 I h) fun us s1 ⟨vs, H1, I1, r, q⟩ => ⟨I1.kIn, ?_⟩) he hpl
  exact wpAny_call (run_fnR F hr hx I1 r q)
/-- behind a test with a written int a token is out -/
theorem pss_ifT {op : CmpOp} {r : R2} {i : Int} {j : Nat} {b c rest : List Stmt} {tb tc v : TS} (ho : OpR X (compareOp op) r) (ha : PE X a ta) (hm : behindInMarks op (.Constant (.int i) j cp) = false) (hb : PSsT X b tb) (hc : PSsT X c tc) (hv : PSsT X rest v) :
    PSs X (.If (.Compare a [op] [.Constant (.int i) j cp] pos) b c pos' :: rest) (tSeq (tIfS (tTest (tOp r ta (tC (.int i)))) tb tc) v) := by
  refine ⟨fun pins s σ H D I h => ?_⟩
  refine wpAny_execs_cons (wpAny_mono (Q := fun f s1 => 1 ≤ s1.toks ∧ SP X pins { D with nx := v D } f s1) (wpAny_If (wpAny_isTrue_Compare1 (thn (ha.run pins s σ H _ I h) fun z s1 ⟨x, H1, I1, r1, q1⟩ => wpAny_Constant_int ?_) hm)) (fun f s1 q => ?_) fun _ _ x => x)
  · refine wpAny_mono (PySem.wpAny_toks (ho pins { s1 with toks := s1.toks + 1 } σ H1 x (.int i) z (.int i s1.toks) _ (I1.tok _) r1 ⟨_, rfl⟩ q1)) (fun d s3 q => ?_) fun _ _ x => x.2
    obtain ⟨hk, y, H3, I3, r3, kk, e, q3⟩ := q
    have hk' : s1.toks + 1 ≤ s3.toks := hk
    subst e
    cases r3
    refine wpAny_truthy_bool ?_
    cases kk with
    | true =>
      refine wpAny_mono (PySem.wpAny_toks (hb pins s3 σ H3 _ (by omega) I3 q3)) (fun f s4 q => ?_) fun _ _ x => x.2
      exact ⟨by have := q.1; omega, q.2⟩
    | false =>
      refine wpAny_mono (PySem.wpAny_toks (hc pins s3 σ H3 _ (by omega) I3 q3)) (fun f s4 q => ?_) fun _ _ x => x.2
      exact ⟨by have := q.1; omega, q.2⟩
  · obtain ⟨hk, q⟩ := q
    cases f with
    | next =>
      obtain ⟨σ', H', I', q⟩ := q
      exact hv pins s1 σ' H' D hk I' q
    | ret v => exact q
    | brk => exact q
    | cont => exact q
end
end EM
/-! EM17: ratios: the common divisor, ratios made. -/
namespace EM
open PySem PySem.Spec PyProof.Rows L2
section
variable {X : Cx} {CX : CXT} {k : Nat} {f C : Addr} {sp : Sp} {E : XK} {x : Str} {e : Expr} {es : List Expr} {t : TA} {p pos : Pos}
/-- // by a divisor of either sign -/
theorem op_fdivWN : OpR X (binaryOp .FloorDiv) (rI (fun _ j => j ≠ 0 ∧ j.natAbs.log2 < 9000) fun i j => .int (i.fdiv j)) := opI fun i j _ _ _ _ _ hc q =>
  floordiv_int hc.1 q (.inl (PyProof.noPylong_of_log2 hc.2))
/-- C(e, ..) by the promise of its __init__ -/
theorem pe_mkR (M : Mk X.K C f) (F : FnR X.prog X.w X.K X.mg X.base CX k f sp) (hr : Room (k + 1) X.A) (hm : X.mg x = some (.ref C)) (hx : Passes CX X E) (ha : PA X (e :: es) t) (hg : Gl X x := by rfl) (hd : (x == ("__debug__" : Str)) = false := by decide)
    (he : starEach (e :: es) X.env = (false, eval e X.env) :: starEach es X.env := by rfl) (hpl : (backTo pos (starEach es X.env)).any (·.1) = false := by rfl) :
    PE X (.Call (.Name x p) (e :: es) [] pos) (StX.tMakeR C sp E t) := by
  refine ⟨fun pins s σ H Q I h => ?_⟩
  refine wpAny_Call_Name_kw (ld_glob I hg hm ?_ hd)
  refine PySem.W.callWith_K (h₀ := X.base) I.ok.mod.kin M.kp (thn (ha.run pos pins s σ H _ I h) fun us s1 ⟨vs, H1, I1, r, q⟩ => ⟨I1.kIn, ?_⟩) he hpl
  exact StX.run_makeR M F hr hx I1 r q
end
theorem fmod_less (a b : Int) (h : b ≠ 0) : (a.fmod b).natAbs < b.natAbs := by
  rcases Int.lt_or_gt_of_ne h with h | h
  · have e : a.fmod b = -((-a).fmod (-b)) := by
      have := Int.neg_fmod_neg (a := a) (b := b)
      omega
    have h1 := Int.fmod_lt_of_pos (-a) (b := -b) (by omega)
    have h2 := Int.fmod_nonneg_of_pos (-a) (b := -b) (by omega)
    rw [e]
    omega
  · have h1 := Int.fmod_lt_of_pos a (b := b) h
    have h2 := Int.fmod_nonneg_of_pos a (b := b) h
    omega
theorem gcd_fmod (a b : Int) : Int.gcd b (a.fmod b) = Int.gcd a b := by
  rw [Int.fmod_def, Int.gcd_sub_mul_left_right, Int.gcd_comm]
def spGcd : Sp := fun vs H Q _ => ∃ a b : Int, vs = [.int a, .int b] ∧ Q (.int (Int.gcd a b : Int)) H
/-- the sign of the bottom, times the common divisor -/
def shr (t b : Int) : Int := if b < 0 then -(Int.gcd t b : Int) else (Int.gcd t b : Int)
def nTop (t b : Int) : Int := t.fdiv (shr t b)
def nBot (t b : Int) : Int := b.fdiv (shr t b)
theorem shr_ne {t b : Int} (h : b ≠ 0) : shr t b ≠ 0 := by
  have : Int.gcd t b ≠ 0 := fun z => h (Int.gcd_eq_zero_iff.mp z).2
  unfold shr
  split <;> omega
theorem shr_abs (t b : Int) : (shr t b).natAbs = Int.gcd t b := by
  unfold shr
  split <;> omega
theorem shr_le {t b : Int} (h : b ≠ 0) : (shr t b).natAbs ≤ b.natAbs := by
  rw [shr_abs]
  exact Nat.le_of_dvd (by omega) (Int.gcd_dvd_natAbs_right t b)
/-- the ratio of top t and bottom b stands at p -/
def rf (t b : Int) : List (Str × V) := [("top", .int t), ("bottom", .int b)]
def RatAt (K : PySem.W.Frag) (H : Hp) (p : Addr) (t b : Int) : Prop := ∃ dx, H p = some (.ins (He.ga K "Ratio") dx (rf t b))
theorem RatAt.same {K : PySem.W.Frag} {H H' : Hp} {p : Addr} {t b : Int} (h : RatAt K H p t b) (e : Same H H') : RatAt K H' p t b := by
  obtain ⟨dx, h⟩ := h
  exact ⟨dx, e _ _ h⟩
theorem log_le {a b : Nat} (h : a ≤ b) : a.log2 ≤ b.log2 := by
  by_cases h0 : a = 0
  · subst h0
    simp
  · exact (Nat.le_log2 (by omega)).mpr (Nat.le_trans (Nat.log2_self_le h0) h)
def spRat (K : PySem.W.Frag) : Sp := fun vs H Q _ => ∃ (x dx : Addr) (t b : Int), vs = [.ref x, .int t, .int b] ∧ H x = some (.ins (He.ga K "Ratio") dx []) ∧ b ≠ 0 ∧ b.natAbs.log2 < 9000 ∧
  ∀ H', (∀ c o, H c = some o → c ≠ x → H' c = some o) → RatAt K H' x (nTop t b) (nBot t b) → Q .non H'
end EM
/-! EM18: the end of a law whose promise wants that no guard is held (repr of data). -/
namespace EM
open PySem PySem.Spec PyProof.Rows L2
/-- behind an if whose else is left out the rest is read once -/
theorem ite_rest {c A : Prop} [Decidable c] {N : L2.St → Hp → Prop} {σ : L2.St} {H : Hp} (R : L2.St → Hp → Prop) (hr : ∀ σ H, R σ H → N σ H) (h1 : (∀ σ H, R σ H → N σ H) → c → A) (h2 : ¬ c → R σ H) : if c then A else N σ H := by
  by_cases h : c
  · rw [if_pos h]
    exact h1 hr h
  · rw [if_neg h]
    exact hr _ _ (h2 h)
section
variable {P : Program} {w : World} {K : PySem.W.Frag} {mg mb : Str → Option Value} {CX : CXT} {k : Nat} {fa a : Addr} {sp : Sp} {s1 : Shared} {us : List Value} {ns : List Int}
/-- what the script's heap is, seen from outside -/
def hp1 (a : Addr) (us : List Value) (ns : List Int) : Hp := fun b => if b = a then some (.frz { cls := .type "list", data := .seq us.toArray } (.lst (ns.map V.int))) else none
theorem callG (kx : K.In s1.heap) (gx : s1.heap.Ns mainGlobals mg) (bx : s1.heap.Ns builtinsNs mb) (b2 : ∀ x : Str, x ≠ "__name__" → mb x = bootBuiltins x) (nl : s1.heap.NoLimit) (ng : s1.gens = #[])
    (ha : s1.heap.get? a = some { cls := .type "list", data := .seq us.toArray }) (rm : Room k callerA)
    (F : ∀ base : Heap, K.In base → base.Ns mainGlobals mg → FnG P w K mg base CX k fa sp)
    (nx : ∀ H e s', CX [] H s1 (fun _ _ _ => False) e s' → False)
    (H : Hp) (hO : L2.Only H) (hS : sp [.ref a] H (fun v _ => v = .bl true) fun _ _ _ => False) (hok : HOk P w H s1.heap) (hA : ∀ b, H b ≠ none → b = a) (hK : H a ≠ none → K.lookup a = none) :
    codeAny (model P w) callerA (.call (.ref fa) ⟨[.ref a], []⟩) (fun r s' => r = .ok (.ret (.bool true)) ∧ OldK s1.heap s'.heap ∧ s'.os = s1.os ∧ AllBare s'.gens) s1 := by
  have out : ∀ {b : Addr} {o : Obj} {es : Array DictEntry} {n : Nat}, s1.heap.get? b = some o → o.data = .dict es n → H b = none := by
    intro b o es n e d
    apply Classical.byContradiction
    intro z
    have q := hA b z
    subst q
    rw [ha] at e
    cases e
    have d2 : Data.seq us.toArray _ = Data.dict es n := d
    cases d2
  have nsB : ∀ {b : Addr} {m : Str → Option Value}, s1.heap.Ns b m → (hidT s1.heap H).Ns b m := by
    intro b m ⟨o, es, n, e, d, r⟩
    exact ⟨o, es, n, hidT_get e (out e d), d, r⟩
  have inB : K.In (hidT s1.heap H) := by
    intro b o e
    refine hidT_get (kx b o e) (Classical.byContradiction fun z => ?_)
    have q := hA b z
    subst q
    rw [hK z] at e
    cases e
  have md : Mod K mg (hidT s1.heap H) := ⟨inB, nsB gx, ⟨mb, nsB bx, b2⟩, let ⟨mc, y1, y2⟩ := nl; ⟨mc, nsB y1, y2⟩⟩
  have ev : Env0 P w K mg (hidT s1.heap H) callerA [] s1 H :=
    ⟨rfl, md, fun b o e => of_hidT e, Nat.le_of_eq (hidT_size _ _), trivial, fun b hb => absurd (show b ∈ ([] : List Addr) from hb) (by simp), hok, .of_eq ng⟩
  refine codeAny_mono (F _ inB (nsB gx) callerA [] s1 H [.ref a] [.ref a] _ _ rm rfl ev (.cons rfl .nil) hS) fun r s2 h => ?_
  match r, h with
  | .error e, h => exact (nx H e s2 h).elim
  | .ok .next, h => exact False.elim h
  | .ok .brk, h => exact False.elim h
  | .ok .cont, h => exact False.elim h
  | .ok (.ret u), h =>
    obtain ⟨v, H2, os, bare, un, ok2, rv, q⟩ := h
    have q2 : v = .bl true := q
    subst q2
    obtain rfl : u = Value.bool true := rv
    refine ⟨rfl, OldK.of_keep fun b o e => ?_, os, bare⟩
    rcases hO b with z | ⟨ob, xs, z⟩
    · exact un.keep b o e z (fun y => absurd (show b ∈ ([] : List Addr) from y) (by simp)) (by simp)
    · have e1 := (hok b _ z).1
      have e2 := (ok2 b _ (un.frzs b ob _ z)).1
      rw [e] at e1
      cases e1
      exact e2
theorem lawG (kx : K.In s1.heap) (gx : s1.heap.Ns mainGlobals mg) (bx : s1.heap.Ns builtinsNs mb) (b2 : ∀ x : Str, x ≠ "__name__" → mb x = bootBuiltins x) (nl : s1.heap.NoLimit) (ng : s1.gens = #[])
    (ha : s1.heap.get? a = some { cls := .type "list", data := .seq us.toArray }) (hi : IntsAre us ns) (hl : ns.length ≤ sizeLine) (rm : Room k callerA)
    (F : ∀ base : Heap, K.In base → base.Ns mainGlobals mg → FnG P w K mg base CX k fa sp)
    (hS : ∀ H : Hp, L2.Only H → SqL K H a (ns.map V.int) → sp [.ref a] H (fun v _ => v = .bl true) fun _ _ _ => False)
    (nx : ∀ H e s', CX [] H s1 (fun _ _ _ => False) e s' → False) :
    codeAny (model P w) callerA (.call (.ref fa) ⟨[.ref a], []⟩) (fun r s' => r = .ok (.ret (.bool true)) ∧ OldK s1.heap s'.heap ∧ s'.os = s1.os ∧ AllBare s'.gens) s1 := by
  have rv := vals_ints hi
  have go := callG kx gx bx b2 nl ng ha rm F nx
  cases hk : K.lookup a with
  | some o =>
    have e := kx a o hk
    rw [ha] at e
    cases e
    have h1 : L2.Only (fun _ => none) := fun _ => .inl rfl
    refine go (fun _ => none) h1 (hS _ h1 (.inr ⟨_, us.toArray, _, hk, rfl, rfl, rfl, ?_, ?_⟩)) (fun b u z => ?_) (fun b z => absurd rfl z) fun z => absurd rfl z
    · rw [List.size_toArray, hi.length]
      exact hl
    · simpa using rv
    · cases z
  | none =>
    have at_a : hp1 a us ns a = some (.frz { cls := .type "list", data := .seq us.toArray } (.lst (ns.map V.int))) := if_pos rfl
    have off : ∀ {b}, b ≠ a → hp1 a us ns b = none := fun h => if_neg h
    have h1 : L2.Only (hp1 a us ns) := fun b => by
      by_cases h : b = a
      · subst h
        exact .inr ⟨_, _, at_a⟩
      · exact .inl (off h)
    refine go (hp1 a us ns) h1 (hS _ h1 (.inl (.inr ⟨_, at_a⟩))) (fun b u z => ?_) (fun b z => ?_) fun _ => hk
    · by_cases h : b = a
      · subst h
        rw [at_a] at z
        cases z
        exact ⟨ha, by rw [List.length_map]; exact hl, us, _, rv, ha⟩
      · rw [off h] at z
        cases z
    · exact Classical.byContradiction fun h => z (off h)
end
theorem walkG {l : PySem.W.OpenLaw} {n k : Nat} {q : Program} {loose : List Str} {XP : (Str → Option Value) → Heap → Prop} {YP : World → Heap → Prop} {d : DefRec}
    (hn : l.most = some n) (hn2 : n ≤ sizeLine) (hd : d.params.defaults = []) (rm : Room k callerA)
    (F : ∀ (w : World) (mg : Str → Option Value) (fa : Addr) (h : Heap), YP w h → h.Ns mainGlobals mg → mg d.name = some (.ref fa) →
      ∃ (K : PySem.W.Frag) (sp : Sp), K.In h ∧ (∀ (H : Hp) (a : Addr) (ns : List Int), ns.length ≤ n → SqL K H a (ns.map V.int) → sp [.ref a] H (fun v _ => v = .bl true) fun _ _ _ => False) ∧
        ∀ base : Heap, K.In base → base.Ns mainGlobals mg → FnG l.prog w K mg base (L2.CX l.prog w) k fa sp)
    (nx : ∀ (w : World) (H : Hp) (s : Shared) (e : Value) (s' : Shared), L2.CX l.prog w [] H s (fun _ _ _ => False) e s' → False) :
    PySem.W.WalkO q loose XP YP l.row.toRowW d [] (fun f vs => PySem.call f vs) := by
  refine Att.attach_call hn hd fun w s0 s1 mg mb fa o pm cd doc a us ns G Y ho hd hcd hmg hobj hints hlen hg => ?_
  obtain ⟨K, sp, kx, hS, hF⟩ := F w mg fa _ Y G.T.g hmg
  exact lawG kx G.T.g G.T.b G.T.builtins G.T.nolimit hg hobj hints (Nat.le_trans hlen hn2) rm hF (fun H _ hs => hS H a ns hlen hs) (nx w · s1)
end EM
/-! EM19: plain facts of texts with a stroke: split, partition; texts of numbers. -/
namespace EM
open PySem PySem.Spec PyProof.Rows L2 PySem.NumText Builtin Builtin.Str
theorem slash : ("/" : Str) = ⟨#[47]⟩ := by decide +kernel
theorem empt : ("" : Str) = Str.empty := by decide +kernel
theorem parts_len (x : Str) (w : Nat) : ∀ (l : List Nat) (a : Nat), (StrLaws.partsFrom x w a l).length = l.length + 1
  | [], _ => rfl
  | c :: r, a => by
    show (StrLaws.partsFrom x w (c + w) r).length + 1 = _
    rw [parts_len x w r]
    rfl
theorem sub_sg (x : Str) (a b : Nat) : sg (strSub x a b) = ((sg x).drop a).take (b - a) := StrLaws.strSub_toList x a b
theorem cut_two (x : Str) : (Txt.split x "/" = [x] ∧ Txt.partition x "/" = (x, ("" : Str), ("" : Str)) ∧ 47 ∉ sg x) ∨
    ∃ a b : Str, Txt.partition x "/" = (a, ("/" : Str), b) ∧ sg x = sg a ++ 47 :: sg b ∧ 47 ∉ sg a ∧ (Txt.split x "/" = [a, b] ∨ (3 ≤ (Txt.split x "/").length ∧ 47 ∈ sg b)) := by
  rw [slash, empt]
  rcases StrLaws.occ_head x ⟨#[47]⟩ (x.length + 1) (by omega) with ⟨e0, hn⟩ | ⟨i, r, e0, hi, hn⟩
  · refine .inl ⟨?_, ?_, fun hm => ?_⟩
    · unfold Txt.split
      split
      · rfl
      · rw [if_pos (by rw [e0]; rfl)]
    · have e1 : occurrences x ⟨#[47]⟩ 0 x.length 1 = [] := by
        rcases StrLaws.occ_head x ⟨#[47]⟩ 1 (Nat.le_refl 1) with ⟨e, _⟩ | ⟨j, _, _, hj, _⟩
        · exact e
        · exact absurd hj (hn j)
      unfold Txt.partition
      rw [e1]
    · obtain ⟨j, hj⟩ := List.getElem?_of_mem hm
      exact hn j ((StrLaws.subAt_one x 47 j).mpr hj)
  · have hm := (StrLaws.subAt_one x 47 i).mp hi
    obtain ⟨hlt, hmv⟩ := List.getElem?_eq_some_iff.mp hm
    refine .inr ⟨strSub x 0 i, strSub x (i + 1) x.length, ?_, ?_, fun hk => ?_, ?_⟩
    · unfold Txt.partition
      rcases StrLaws.occ_head x ⟨#[47]⟩ 1 (Nat.le_refl 1) with ⟨_, z⟩ | ⟨j, q, e1, hj, hn2⟩
      · exact absurd hi (z i)
      · have : j = i := by
          rcases Nat.lt_trichotomy j i with h | h | h
          · exact absurd hj (hn j h)
          · exact h
          · exact absurd hi (hn2 i h)
        subst this
        rw [e1]
        rfl
    · rw [sub_sg, sub_sg]
      have e : ((sg x).drop (i + 1)).take (x.length - (i + 1)) = (sg x).drop (i + 1) := List.take_of_length_le (by rw [List.length_drop]; show _ ≤ (sg x).length - _; exact Nat.le_refl _)
      rw [e, List.drop_zero, Nat.sub_zero, ← hmv, ← List.drop_eq_getElem_cons hlt, List.take_append_drop]
    · rw [sub_sg, List.drop_zero, Nat.sub_zero] at hk
      obtain ⟨j, hj⟩ := List.getElem?_of_mem hk
      have hji : j < i := by
        have := (List.getElem?_eq_some_iff.mp hj).1
        rw [List.length_take] at this
        omega
      rw [List.getElem?_take_of_lt hji] at hj
      exact hn j hji ((StrLaws.subAt_one x 47 j).mpr hj)
    · have hxl : 1 ≤ x.length := by
        have h5 : (sg x).length = x.length := rfl
        have h6 : i < (sg x).length := hlt
        omega
      have e1 : Txt.split x ⟨#[47]⟩ = StrLaws.partsFrom x 1 0 (i :: r) := by
        unfold Txt.split
        rw [if_neg, if_neg, e0, StrLaws.partsBetween_eq]
        · rfl
        · rw [e0]
          simp
        · have k1 : Builtin.Str.strKind (⟨#[47]⟩ : Str) = 1 := by decide +kernel
          have k2 : 1 ≤ Builtin.Str.strKind x := by
            unfold Builtin.Str.strKind
            split
            · exact Nat.le_refl _
            · split <;> omega
          rw [k1]
          have : (⟨#[47]⟩ : Str).length = 1 := rfl
          rw [this]
          simp
          omega
      rw [e1]
      cases r with
      | nil => exact .inl rfl
      | cons j q =>
        refine .inr ⟨by rw [parts_len]; simp, ?_⟩
        obtain ⟨f, c⟩ := StrLaws.occ_chain x ⟨#[47]⟩ (x.length + 1)
        rw [e0] at c
        have cj : i + 1 ≤ j := c.2.2.1
        have aj := (StrLaws.subAt_one x 47 j).mp c.2.2.2.1
        rw [sub_sg]
        have e : ((sg x).drop (i + 1)).take (x.length - (i + 1)) = (sg x).drop (i + 1) := List.take_of_length_le (by rw [List.length_drop]; show _ ≤ (sg x).length - _; exact Nat.le_refl _)
        rw [e]
        refine List.mem_of_getElem? (i := j - (i + 1)) ?_
        rw [List.getElem?_drop, show i + 1 + (j - (i + 1)) = j by omega]
        exact aj
theorem app_uniq {a b p q : List Nat} (h : a ++ 47 :: b = p ++ 47 :: q) (ha : 47 ∉ a) (hp : 47 ∉ p) : a = p ∧ b = q := by
  induction a generalizing p with
  | nil =>
    cases p with
    | nil => exact ⟨rfl, (List.cons.inj h).2⟩
    | cons c r =>
      have := (List.cons.inj h).1
      exact absurd (by rw [this]; exact List.mem_cons_self) hp
  | cons c r ih =>
    cases p with
    | nil =>
      have := (List.cons.inj h).1
      exact absurd (by rw [← this]; exact List.mem_cons_self) ha
    | cons d s =>
      obtain ⟨h1, h2⟩ := List.cons.inj h
      obtain ⟨h3, h4⟩ := ih h2 (fun z => ha (List.mem_cons_of_mem _ z)) (fun z => hp (List.mem_cons_of_mem _ z))
      exact ⟨by rw [h1, h3], h4⟩
theorem sg_app (a b : Str) : sg (a ++ b) = sg a ++ sg b := by
  show (a.cps ++ b.cps).toList = _
  rw [Array.toList_append]
theorem part_of {p q : Str} (hp : 47 ∉ sg p) : Txt.partition (p ++ "/" ++ q) "/" = (p, ("/" : Str), q) := by
  have e : sg (p ++ "/" ++ q) = sg p ++ 47 :: sg q := by
    rw [sg_app, sg_app, slash, List.append_assoc]
    rfl
  rcases cut_two (p ++ "/" ++ q) with ⟨_, _, h⟩ | ⟨a, b, h1, h2, h3, _⟩
  · exact absurd (by rw [e]; simp) h
  · rw [e] at h2
    obtain ⟨h5, h6⟩ := app_uniq h2 hp h3
    rw [h1, str_ext h5, str_ext h6]
theorem part_none {x : Str} (h : 47 ∉ sg x) : Txt.partition x "/" = (x, ("" : Str), ("" : Str)) := by
  rcases cut_two x with ⟨_, e, _⟩ | ⟨a, b, _, h2, _, _⟩
  · exact e
  · exact absurd (by rw [h2]; simp) h
/-! ### texts of numbers -/
theorem worth_inj {a b : Str} (h1 : sg a ≠ []) (h0 : (sg a).head? ≠ some 48) (h : (sg a).all isDig = true) (h1' : sg b ≠ []) (h0' : (sg b).head? ≠ some 48) (h' : (sg b).all isDig = true) (e : worthT a = worthT b) : a = b := by
  rw [← worth_text h1 h0 h, e, worth_text h1' h0' h']
def dig (n : Nat) : List Nat := (Nat.toDigits 10 n).map Char.toNat
theorem sg_of (s : String) : sg (Str.ofString s) = s.toList.map Char.toNat := by
  show (cpsOfBytes 0 0 s.toByteArray.data.toList).toArray.toList = _
  rw [cpsOfBytes_string]
theorem digs_text (n : Nat) : sg (Str.ofString (toString (n : Int))) = dig n := by
  rw [sg_of]
  have e2 : toString (n : Int) = String.ofList (Nat.toDigits 10 n) := rfl
  rw [e2, String.toList_ofList]
  rfl
theorem neg_text (n : Nat) (h : 1 ≤ n) : sg (Str.ofString (toString (-(n : Int)))) = 45 :: dig n := by
  rw [sg_of]
  obtain ⟨m, rfl⟩ : ∃ m, n = m + 1 := ⟨n - 1, by omega⟩
  have e2 : toString (-((m + 1 : Nat) : Int)) = "-" ++ String.ofList (Nat.toDigits 10 (m + 1)) := rfl
  rw [e2, String.toList_append, List.map_append]
  show [45] ++ (String.ofList (Nat.toDigits 10 (m + 1))).toList.map Char.toNat = _
  rw [String.toList_ofList]
  rfl
theorem dig_step (n : Nat) : dig n = if n < 10 then [48 + n] else dig (n / 10) ++ [48 + n % 10] := by
  unfold dig
  rw [Nat.toDigits_eq_if (by decide)]
  have hc : ∀ d, d < 10 → (Nat.digitChar d).toNat = 48 + d := by decide
  split
  · rename_i h
    rw [List.map_singleton, hc n h]
  · rw [List.map_append, List.map_singleton, hc _ (Nat.mod_lt _ (by decide))]
theorem dig_all10 (n : Nat) : (dig n).all isDig = true := by
  induction n using Nat.strongRecOn with
  | _ n ih =>
    rw [dig_step]
    split
    · rename_i h
      simp [isDig]
      omega
    · rw [List.all_append, ih (n / 10) (by omega)]
      simp [isDig]
      omega
theorem dig_ne (n : Nat) : dig n ≠ [] := by
  rw [dig_step]
  split <;> simp
theorem dig_head (n : Nat) (h : 1 ≤ n) : (dig n).head? ≠ some 48 := by
  induction n using Nat.strongRecOn with
  | _ n ih =>
    rw [dig_step]
    split
    · simp
      omega
    · have := ih (n / 10) (by omega) (by omega)
      cases e : dig (n / 10) with
      | nil => exact absurd e (dig_ne _)
      | cons c r =>
        rw [e] at this
        exact this
theorem dig_val (n : Nat) : digitsVal (dig n) = n := by
  induction n using Nat.strongRecOn with
  | _ n ih =>
    rw [dig_step]
    split
    · show 0 * 10 + (48 + n - 48) = n
      omega
    · rw [digitsVal_snoc, ih (n / 10) (by omega)]
      omega
theorem dig_len {n k : Nat} (hk : 0 < k) (h : n < 10 ^ k) : (dig n).length ≤ k := by
  unfold dig
  rw [List.length_map]
  exact (Nat.length_toDigits_le_iff (by decide) hk).mpr h
theorem no47 {l : List Nat} (h : l.all isDig = true) : 47 ∉ l := fun z => by
  have := List.all_eq_true.mp h 47 z
  exact absurd this (by decide)
theorem no45 {l : List Nat} (h : l.all isDig = true) : 45 ∉ l := fun z => by
  have := List.all_eq_true.mp h 45 z
  exact absurd this (by decide)
theorem int_neg {a p : Str} (e : sg a = 45 :: sg p) (h : (sg p).all isDig = true) (h1 : sg p ≠ []) (h2 : a.length ≤ 640) : intText? a = some (-(worthT p)) :=
  intText_neg e (dig_all h) h1 (by omega)
end EM
namespace EM
open PySem PySem.Spec PyProof.Rows L2
section
variable {X : Cx} {CX : CXT} {k : Nat} {f C : Addr} {sp : Sp} {E : XK} {x : Str} {e : Expr} {es : List Expr} {t : TA} {tf : TE} {p pos : Pos}
/-- c(e, ..), the class in a name of the def -/
theorem pe_mkV (M : Mk X.K C f) (F : FnR X.prog X.w X.K X.mg X.base CX k f sp) (hr : Room (k + 1) X.A) (hx : Passes CX X E) (hf : PE X (.Name x p) tf) (ha : PA X (e :: es) t)
    (he : starEach (e :: es) X.env = (false, eval e X.env) :: starEach es X.env := by rfl) (hpl : (backTo pos (starEach es X.env)).any (·.1) = false := by rfl) :
    PE X (.Call (.Name x p) (e :: es) [] pos) (fun σ H Q => tf σ H fun v H1 => v = .ref C ∧ StX.tMakeR C sp E t σ H1 Q) := by
  refine ⟨fun pins s σ H Q I h => ?_⟩
  refine wpAny_Call_Name_kw (thn (hf.run pins s σ H _ I h) fun u s1 ⟨c, H1, I1, rc, ec, q1⟩ => ?_)
  subst ec
  obtain rfl : u = Value.ref C := rc
  refine PySem.W.callWith_K (h₀ := X.base) I1.ok.mod.kin M.kp (thn (ha.run pos pins s1 σ H1 _ I1 q1) fun us s2 ⟨vs, H2, I2, r, q⟩ => ⟨I2.kIn, ?_⟩) he hpl
  exact StX.run_makeR M F hr hx I2 r q
end
theorem n_red {t b : Int} (h : Int.gcd t b = 1) (hb : 0 < b) : nTop t b = t ∧ nBot t b = b := by
  have e : shr t b = 1 := by
    unfold shr
    rw [if_neg (by omega), h]
    rfl
  unfold nTop nBot
  rw [e]
  exact ⟨Int.fdiv_one t, Int.fdiv_one b⟩
/-! ### slices at the first sign -/
theorem sg_cut (z : Str) (lo hi : Option Int) : sg (cutS z lo hi) = ((sg z).drop (HT.sIx z.length 0 lo)).take (HT.sIx z.length z.length hi - HT.sIx z.length 0 lo) := rfl
theorem cut_0 (z : Str) : cutS z (some 0) none = z := by
  apply str_ext
  rw [sg_cut]
  show (List.drop (min 0 z.length) (sg z)).take (z.length - min 0 z.length) = sg z
  rw [Nat.zero_min, List.drop_zero]
  exact List.take_of_length_le (by show (sg z).length ≤ (sg z).length - 0; omega)
theorem cut_1 (z : Str) : sg (cutS z (some 1) none) = (sg z).tail := by
  rw [sg_cut]
  show (List.drop (min 1 z.length) (sg z)).take (z.length - min 1 z.length) = (sg z).tail
  have hl : z.length = (sg z).length := rfl
  rw [List.take_of_length_le (by rw [List.length_drop]; omega)]
  cases e : sg z with
  | nil => simp
  | cons c r =>
    rw [hl, e]
    show List.drop (min 1 (r.length + 1)) (c :: r) = r
    rw [Nat.min_eq_left (by omega)]
    rfl
theorem cut_h (z : Str) : sg (cutS z none (some 1)) = (sg z).take 1 := by
  rw [sg_cut]
  show (List.drop 0 (sg z)).take (min 1 z.length - 0) = _
  have hl : z.length = (sg z).length := rfl
  rw [List.drop_zero, Nat.sub_zero]
  cases e : sg z with
  | nil => simp
  | cons c r =>
    rw [hl, e]
    show List.take (min 1 (r.length + 1)) (c :: r) = _
    rw [Nat.min_eq_left (by omega)]
theorem minus : ("-" : Str) = ⟨#[45]⟩ := by decide +kernel
def isNeg (a : Str) : Bool := decide (cutS a none (some 1) = "-")
def rest_ (a : Str) : Str := if isNeg a = true then cutS a (some 1) none else a
theorem neg_iff (a : Str) : isNeg a = true ↔ (sg a).head? = some 45 := by
  unfold isNeg
  rw [decide_eq_true_eq]
  constructor
  · intro h
    have := congrArg sg h
    rw [cut_h, minus] at this
    cases e : sg a with
    | nil => rw [e] at this; cases this
    | cons c r =>
      rw [e] at this
      have : [c] = [45] := this
      cases this
      rfl
  · intro h
    apply str_ext
    rw [cut_h, minus]
    cases e : sg a with
    | nil => rw [e] at h; cases h
    | cons c r =>
      rw [e] at h
      cases h
      rfl
theorem neg_text2 {a : Str} (h : isNeg a = true) : a = "-" ++ cutS a (some 1) none := by
  have h2 := (neg_iff a).mp h
  apply str_ext
  rw [sg_app, minus, cut_1]
  cases e : sg a with
  | nil => rw [e] at h2; cases h2
  | cons c r =>
    rw [e] at h2
    cases h2
    rfl
end EM
namespace EM
open PySem PySem.Spec PyProof.Rows L2 PySem.NumText
theorem ite_tC {c : Prop} [Decidable c] {a b : V} {σ : L2.St} {H : Hp} {K : VK} (R : V → Prop) (h : ∀ v, R v → K v H) (h1 : c → R a) (h2 : ¬ c → R b) : if c then tC a σ H K else tC b σ H K := by
  by_cases hc : c
  · rw [if_pos hc]
    exact h _ (h1 hc)
  · rw [if_neg hc]
    exact h _ (h2 hc)
theorem val_acc : ∀ (l : List Nat) (acc : Nat), AllDigits l → l.foldl (fun acc c => acc * 10 + (c - 48)) acc < (acc + 1) * 10 ^ l.length
  | [], acc, _ => by simp
  | c :: r, acc, h => by
    have h1 := val_acc r (acc * 10 + (c - 48)) h.tail
    have h2 := h.head
    rw [List.foldl_cons, List.length_cons, Nat.pow_succ]
    refine Nat.lt_of_lt_of_le h1 ?_
    have h3 : acc * 10 + (c - 48) + 1 ≤ (acc + 1) * 10 := by omega
    calc (acc * 10 + (c - 48) + 1) * 10 ^ r.length ≤ (acc + 1) * 10 * 10 ^ r.length := Nat.mul_le_mul_right _ h3
      _ = (acc + 1) * (10 ^ r.length * 10) := by rw [Nat.mul_assoc, Nat.mul_comm 10]
theorem worth_lt {a : Str} (h : (sg a).all isDig = true) {k : Nat} (hk : a.length ≤ k) : 0 ≤ worthT a ∧ worthT a < 10 ^ k := by
  have h1 := val_acc (sg a) 0 (dig_all h)
  have h2 : (10 : Nat) ^ (sg a).length ≤ 10 ^ k := Nat.pow_le_pow_right (by decide) hk
  have h3 : digitsVal (sg a) < 10 ^ k := by
    refine Nat.lt_of_lt_of_le h1 ?_
    rw [Nat.zero_add, Nat.one_mul]
    exact h2
  unfold worthT
  refine ⟨by omega, ?_⟩
  have h4 : ((digitsVal (sg a) : Nat) : Int) < ((10 ^ k : Nat) : Int) := Int.ofNat_lt.mpr h3
  simpa using h4
theorem log_60 {i : Int} (h : i.natAbs < 10 ^ 60) : i.natAbs.log2 < 1920 := by
  by_cases h0 : i.natAbs = 0
  · rw [h0]
    decide
  · exact (Nat.log2_lt h0).mpr (Nat.lt_of_lt_of_le h (Nat.le_trans (by decide : 10 ^ 60 ≤ 2 ^ 200) (Nat.pow_le_pow_right (by decide) (by decide))))
end EM
/-! EM20: repr of an instance with its own __repr__. -/
namespace PySem.W
open PySem PySem.Calls PyProof.Rows Builtin
theorem em_repr {prog : Program} {w : World} {A : Around} {K : Frag} {s : Shared} {x f C : Addr} {ox : Obj} {od : Option Obj} {E : Value → Shared → Prop} {Q : Value → Shared → Prop} (hu : A.in1.units < cLine) (X : K.In s.heap) (I : InstAt s.heap x ox C od)
    (hr : findIn K (.ref C) "__repr__" = some (some (.ref f))) (hf : isFn K (.ref f) = true) (h : wpAny (model prog w) A.in1 (call (.ref f) [.ref x]) (StrBack Q) E s) :
    wpAny (model prog w) A (call (.builtin "repr") [.ref x]) Q E s := by
  refine Calls.call_function_entry F.kind_repr F.plain_repr F.entry_repr (F.args_repr1 _) ?_
  unfold Builtin.«repr»
  refine wpAny_bind (m := oneArg "repr" _) (wpAny_pure ?_)
  refine wpAny_bind (m := cRoomFor _ _) (wpAny_cRoomFor hu ?_)
  refine wpAny_bind (m := specialOf (.ref x) (Str.ofString "__repr__")) ((I.type.andThen (looks_findIn X hr)).here ?_)
  refine wpAny_bind (m := callSpecialIfBound? (.ref x) (Str.ofString "__repr__")) (ifBound_K X I hr hf (wpAny_mono h (fun r s2 hq => ?_) fun _ _ y => y))
  cases r <;> first | exact hq.elim | skip
  refine wpAny_bind (wpAny_isInstance (T := "str") (b := true) (typeIs_str _ _ _) isSubtype_str_str ?_)
  exact wpAny_pure ⟨_, rfl, hq⟩
end PySem.W
namespace EM
open PySem PySem.Spec PyProof.Rows L2
section
variable {X : Cx} {CX : CXT} {n : Nat} {g C : Addr} {sp : Sp} {E : XK}
theorem call_reprO (hs : PySem.W.findIn X.K (.ref C) "__repr__" = some (some (.ref g))) (hf : PySem.W.isFn X.K (.ref g) = true) (F : FnR X.prog X.w X.K X.mg X.base CX n g sp) (hr : Room (n + 1) X.A) (hx : Passes CX X E) : CallR X (.builtin "repr") (rStrO C sp E) := by
  intro pins s σ H xs us Q I r h
  obtain ⟨a, dx, fs, rfl, ha, q⟩ := h
  cases r with
  | cons rx rr =>
    cases rr
    rename_i u
    cases (show u = Value.ref a from rx)
    obtain ⟨ox, od, J, _⟩ := ins_at I ha
    refine PySem.W.em_repr hr.in1.units0 I.kIn J hs hf ?_
    have c := SlX.run_at (us := [.ref a]) (ws := [.ref a]) F hr.in1 I.env0.in1 hx I (.cons rfl .nil) q
    refine wpAny_mono (wpAny_call c) (fun w s' z => ?_) fun _ _ x => x
    obtain ⟨z', H', I', rz, r, ez, qz⟩ := z
    subst ez
    obtain ⟨t, rfl⟩ := (show ∃ t, w = Value.str r t from rz)
    exact ⟨.str r, H', I', ⟨t, rfl⟩, qz⟩
end
end EM
/-! EM21: lowest terms. -/
namespace EM
open PySem PySem.Spec PyProof.Rows L2
theorem shr_pos {t b : Int} (h : 0 < b) : shr t b = (Int.gcd t b : Int) := if_neg (by omega)
theorem shr_neg {t b : Int} (h : b < 0) : shr t b = -(Int.gcd t b : Int) := if_pos h
theorem gcd_pos {t b : Int} (h : b ≠ 0) : 0 < (Int.gcd t b : Int) := by
  have : Int.gcd t b ≠ 0 := fun z => h (Int.gcd_eq_zero_iff.mp z).2
  omega
theorem top_pos {t b : Int} (h : 0 < b) : nTop t b = t / (Int.gcd t b : Int) := by
  unfold nTop
  rw [shr_pos h, Int.fdiv_eq_ediv_of_nonneg t (by have := gcd_pos (t := t) (b := b) (by omega); omega)]
theorem bot_pos {t b : Int} (h : 0 < b) : nBot t b = b / (Int.gcd t b : Int) := by
  unfold nBot
  rw [shr_pos h, Int.fdiv_eq_ediv_of_nonneg b (by have := gcd_pos (t := t) (b := b) (by omega); omega)]
theorem fdiv_exact {x g : Int} (hg : 0 < g) (hd : g ∣ x) : x.fdiv (-g) = 0 - x / g := by
  obtain ⟨m, rfl⟩ := hd
  rw [Int.mul_ediv_cancel_left m (by omega)]
  have e : g * m = (-g) * (-m) := by rw [Int.neg_mul_neg]
  rw [e, Int.mul_fdiv_cancel_left _ (by omega)]
  omega
theorem top_neg {t b : Int} (h : b < 0) : nTop t b = 0 - t / (Int.gcd t b : Int) := by
  unfold nTop
  rw [shr_neg h]
  exact fdiv_exact (gcd_pos (by omega)) (Int.gcd_dvd_left t b)
theorem bot_neg {t b : Int} (h : b < 0) : nBot t b = 0 - b / (Int.gcd t b : Int) := by
  unfold nBot
  rw [shr_neg h]
  exact fdiv_exact (gcd_pos (by omega)) (Int.gcd_dvd_right t b)
theorem div_abs_le (x g : Int) (hg : 0 < g) (hd : g ∣ x) : (x / g).natAbs ≤ x.natAbs := by
  obtain ⟨m, rfl⟩ := hd
  rw [Int.mul_ediv_cancel_left m (by omega), Int.natAbs_mul]
  exact Nat.le_mul_of_pos_left _ (by omega)
theorem n_abs {t b : Int} (h : b ≠ 0) : (nTop t b).natAbs ≤ t.natAbs ∧ (nBot t b).natAbs ≤ b.natAbs := by
  have hg := gcd_pos (t := t) h
  have h1 := div_abs_le t _ hg (Int.gcd_dvd_left t b)
  have h2 := div_abs_le b _ hg (Int.gcd_dvd_right t b)
  rcases Int.lt_or_gt_of_ne h with hn | hp
  · rw [top_neg hn, bot_neg hn]
    constructor <;> omega
  · rw [top_pos hp, bot_pos hp]
    exact ⟨h1, h2⟩
theorem bot_gt {t b : Int} (h : b ≠ 0) : 0 < nBot t b := by
  have hg := gcd_pos (t := t) h
  obtain ⟨m, hm⟩ := Int.gcd_dvd_right t b
  have e : b / (Int.gcd t b : Int) = m := by
    have : b / (Int.gcd t b : Int) = ((Int.gcd t b : Int) * m) / (Int.gcd t b : Int) := by rw [← hm]
    rw [this, Int.mul_ediv_cancel_left m (by omega)]
  rcases Int.lt_or_gt_of_ne h with hn | hp
  · rw [bot_neg hn, e]
    have : m < 0 := Int.neg_of_mul_neg_right (by rw [← hm]; exact hn) (by omega)
    omega
  · rw [bot_pos hp, e]
    exact Int.pos_of_mul_pos_right (by rw [← hm]; exact hp) (by omega)
theorem n_gcd {t b : Int} (h : b ≠ 0) : Int.gcd (nTop t b) (nBot t b) = 1 := by
  have hg := gcd_pos (t := t) h
  have e : Int.gcd (t / (Int.gcd t b : Int)) (b / (Int.gcd t b : Int)) = 1 := Int.gcd_ediv_gcd_ediv_gcd_of_ne_zero_right h
  rcases Int.lt_or_gt_of_ne h with hn | hp
  · rw [top_neg hn, bot_neg hn, Int.zero_sub, Int.zero_sub, Int.neg_gcd, Int.gcd_neg]
    exact e
  · rw [top_pos hp, bot_pos hp]
    exact e
theorem gcd_emod2 {a b : Int} (h : 0 < b) : Int.gcd b (a % b) = Int.gcd a b := by
  rw [← Int.fmod_eq_emod_of_nonneg a (by omega)]
  exact gcd_fmod a b
/-- the ints' tuple in lowest terms -/
def spCut : Sp := fun vs H Q _ => ∃ u l : Int, vs = [.int u, .int l] ∧ l ≠ 0 ∧ l.natAbs.log2 < 9000 ∧ ∀ p H', Same H H' → H p = none → H' p = some (.tup [.int (nTop u l), .int (nBot u l)]) → Q (.ref p) H'
theorem abs_gcd (u l : Int) : Int.gcd (if u < 0 then -u else u) (if l < 0 then -l else l) = Int.gcd u l := by
  split <;> split <;> simp only [Int.neg_gcd, Int.gcd_neg]
def spParts (K : PySem.W.Frag) : Sp := fun vs H Q _ => ∃ (p : Addr) (t b : Int), vs = [.ref p] ∧ RatAt K H p t b ∧ t.natAbs.log2 < 1920 ∧ b.natAbs.log2 < 1920 ∧ ∀ H', Same H H' → Q (.str (dT [t, b]).shown) H'
end EM
namespace EM
open PySem PySem.Spec PyProof.Rows L2
theorem mul_ok {x : Str} {n : Int} (hx : x.length = 1) (h0 : 0 ≤ n) (h1 : n ≤ 100000) : MulOk x n := by
  refine ⟨by simp; omega, fun h2 _ => ?_, fun _ _ => ?_⟩
  · have : (1 : Int) ≤ (2 ^ 63 - 1) / n := (Int.le_ediv_iff_mul_le (by omega)).mpr (by omega)
    rw [hx]
    omega
  · rw [hx, Nat.one_mul]
    have : 100000 ≤ sizeLine := by decide
    show decide (_ > sizeLine) = false
    rw [decide_eq_false_iff_not]
    omega
/-- a sign times an int -/
def rMulS : R2 := fun x y H Q => ∃ a n, x = .str a ∧ y = .int n ∧ a.length = 1 ∧ 0 ≤ n ∧ n ≤ 100000 ∧ ∀ b : Str, (b.length : Int) = n → Q (.str b) H
theorem op_mulS {X : Cx} : OpR X (binaryOp .Mult) rMulS := by
  intro pins s σ H x y v u Q I rx ry h
  obtain ⟨a, n, rfl, rfl, ha, h0, h1, q⟩ := h
  obtain ⟨t, rfl⟩ := rx
  obtain ⟨t', rfl⟩ := ry
  refine SB.mul (mul_ok ha h0 h1) fun t2 k => ⟨.str _, H, I.tok _, ⟨_, rfl⟩, q _ ?_⟩
  rw [len_mul_k1 ha, if_neg (by omega), Int.one_mul]
end EM
/-! EM22: defs that make lambdas: the head with their tables, the end of such a law. -/
namespace EM
open PySem PySem.Spec PyProof.Rows L2
/-! ### the code object and the table of a def -/
/-! ### a def whose code object is told -/
section
variable {P : Program} {w : World} {K : PySem.W.Frag} {mg : Str → Option Value} {base : Heap} {x qual : Str} {params : Arguments} {body : List Stmt} {scope : Scope} {kws : List (Str × V)} {f : Addr} {fd : FuncData}
theorem fngC {N ps : List Str} {k : Nat} {sp : Sp} (F : FunD K x qual params body scope [] kws f fd) (S : FnScope N ps scope)
    (hb : ∀ (kV doc pm : Value) (an : Option Addr) (cdv ct : Value) (us : List Value), us.length = ps.length → bindArgs (PySem.W.fnOf x qual params body scope .none kV doc pm an cdv ct) ⟨us, []⟩ = pure (ps.zip us))
    (len : ∀ vs H Q E, sp vs H Q E → vs.length = ps.length)
    (hbody : ∀ (A : Around) (outer : List Env) (s : Shared) (H : Hp) (vs : List V) (Q : VK) (E : XK), Room k (A.deeper (envOfC qual scope s.heap.objs.size f (codeV K f))) → (A.deeper (envOfC qual scope s.heap.objs.size f (codeV K f))).guards = some [] → sp vs H Q E →
      ∃ t, PSs (cxOf (L2.CX P w) P w K mg base N qual scope f (codeV K f) A outer s H E) body t ∧ t { nx := fun _ H' => Q .non H', rt := Q } (start N vs) H) : FnG P w K mg base (L2.CX P w) (k + 1) f sp := by
  obtain ⟨oc, od, dV, kV, doc, pm, an, cdv, ct, osl, e, lk, hc, hd, _⟩ := F.ex
  have ec : codeV K f = cdv := by
    unfold codeV
    rw [lk, e]
  rcases hd with ⟨_, e2⟩ | ⟨e2, _⟩
  · subst e2
    subst e
    intro A outer s H us vs Q E rm hG ev rv hsp
    have nl := len vs H Q E hsp
    refine StX.run_bnd (G := fun vs' H' => vs' = vs ∧ H' = H) lk hc S rm ev (fun A' Ex Q' hQ => ?_) (fun s2 H2 vs2 hg2 hr2 => ?_)
    · rw [hb kV doc pm an cdv ct us (by rw [← rv.length]; exact nl)]
      exact wpAny_pure (hQ s H vs us ev Un.refl rfl (fun _ _ z => z) rv nl ⟨rfl, rfl⟩)
    · obtain ⟨rfl, rfl⟩ := hg2
      rw [← ec] at hr2 ⊢
      exact hbody A outer s2 H2 vs2 Q E hr2 hG hsp
  · exact absurd rfl e2
end
end EM
/-! EM23: x(lambda: body), where no guard is held. -/
namespace EM
open PySem PySem.Spec PyProof.Rows L2
section
variable {X : Cx} {pins : List (Addr × Obj)} {σ : L2.St} {H : Hp} {s : Shared}
abbrev wide (n : Nat) (W : WX) : XK := fun cls d H => ∀ σ : L2.St, σ.length = n → W cls d σ H
/-- a(): what was handed in is a lambda of X -/
theorem pe_actG {Ng : List Str} {qg : Str} {sg : Scope} {g f c2 : Addr} {cdg pm ct : Value} {params : Arguments} {body : Expr} {scope : Scope} {k i : Nat} {a : Str} {pn : List (Addr × Obj)} {xe : Value → Shared → Prop} {W : WX} {Eg : XK} {tb : TE} {p1 p2 : Pos}
    (I : Inv X pins σ H s) (L : LamX.LamS X.env.scope scope) (hG : X.A.guards = some [])
    (hf : s.heap.get? f = some (PySem.W.kla_obj "<lambda>" (X.env.qual ++ "<lambda>") params body scope (cloFrom X.env.cells scope.names []) pm c2 ct)) (n1 : H f = none) (n2 : f ∉ frs X.stack)
    (hbind : bindArgs (PySem.W.kla_fn "<lambda>" (X.env.qual ++ "<lambda>") params body scope (cloFrom X.env.cells scope.names []) pm (.ref c2) ct) ⟨[], []⟩ = pure [])
    (tk : Takes ((cxOf (L2.CX X.prog X.w) X.prog X.w X.K X.mg X.base Ng qg sg g cdg X.A X.stack s H Eg).tr pn xe) W) (rm : Room (k + 1) (X.A.deeper (envOfC qg sg s.heap.objs.size g cdg)))
    (hbody : ∀ (A : Around) (outer : List Env) (s : Shared) (H : Hp), Room k (A.deeper (LamX.lamEnv X scope s.heap.objs.size f c2)) → (A.deeper (LamX.lamEnv X scope s.heap.objs.size f c2)).guards = some [] → PE (LamX.lamCx X A outer s H (wide Ng.length W) scope f c2) body tb)
    (hN : Ng[i]? = some a) (hv : Vis sg a) (hd : (a == ("__debug__" : Str)) = false := by decide) (hcd : (a == ("__classdict__" : Str)) = false := by decide) :
    PE ((cxOf (L2.CX X.prog X.w) X.prog X.w X.K X.mg X.base Ng qg sg g cdg X.A X.stack s H Eg).tr pn xe) (.Call (.Name a p1) [] [] p2)
      (fun σZ HZ Q => σZ[i]? = some (some (.ref f)) ∧ HZ c2 = some (LamX.CodeO c2 (X.env.qual ++ "<lambda>")) ∧ tb σ HZ Q) := by
  refine ⟨fun pz sz σz HZ Q IZ h => ?_⟩
  obtain ⟨h1, h2, h3⟩ := h
  refine wpAny_Call_Name_kw (thn ((pe_var (pos := p1) (i := i) hN hv hd hcd).run pz sz σz HZ (fun v H1 => v = .ref f ∧ H1 = HZ) IZ ⟨.ref f, h1, rfl, rfl⟩) fun u s1 hu => ?_)
  obtain ⟨v, H1, I1, r1, ev, eH⟩ := hu
  subst ev
  rw [eH] at I1
  obtain rfl : u = Value.ref f := r1
  have of1 := I1.base.keep f _ hf n1 n2 (fun z => nomatch (show f ∈ ([] : List Addr) from z))
  refine PySem.W.callWith_F0 ⟨_, _, _, _, of1⟩ ?_
  have un : Un (frs X.stack) [] H HZ s.heap s1.heap := I1.base
  obtain ⟨⟨oc, vs, t, e1, e2, e3⟩, _, _⟩ := I1.hok c2 _ h2
  have rc : codeAny (model X.prog X.w) (X.A.deeper (envOfC qg sg s.heap.objs.size g cdg)) (.call (.ref f) ⟨[], []⟩) (CR (L2.CX X.prog X.w) (envOfC qg sg s.heap.objs.size g cdg :: X.stack) X.prog X.w HZ s1 Q (wide Ng.length W)) s1 := by
    refine PySem.W.kla_callFunE rm.depth of1 rfl L.co L.gen rfl ⟨c2, oc, vs, t, rfl, e1, e2, e3⟩ ?_
    rw [hbind]
    refine wpAny_pure (wpAny_newFunctionEnv (fun y hy => (L.own y hy).2) (fun y hy => absurd hy (by simp)) (fun h2 hns hsb => ⟨I1.nolimit.fresh _ hsb, ?_⟩) L.kind)
    show codeAny _ _ (.expr body (LamX.lamEnv X scope s1.heap.objs.size f c2)) _ _
    have kp : ∀ b o, s1.heap.get? b = some o → h2.get? b = some o := fun b o e => hsb.extBut b o (Nat.ne_of_lt (Heap.lt_size e)) (Heap.get?_push_of_some _ e)
    have J := LamX.lam_start2 (E := wide Ng.length W) (f := f) (c' := c2) (tk := s1.toks + ([] : List (Str × Value)).length) I L I1.env0 rm.hd un hns kp
    refine PySem.W.kla_codeExpr (wpAny_mono ((hbody _ _ s1 HZ (rm.deeper _) hG).run [] _ _ HZ Q J h3) (fun v s' hq => ?_) fun e s' hq => hq)
    obtain ⟨w', H', J', rv, q⟩ := hq
    exact ⟨w', H', J'.os, J'.bare, J'.base, J'.hok, rv, q⟩
  have hx : Passes (L2.CX X.prog X.w) ((cxOf (L2.CX X.prog X.w) X.prog X.w X.K X.mg X.base Ng qg sg g cdg X.A X.stack s H Eg).tr pn xe) (wide Ng.length W) := passes_len tk
  refine wpAny_call (codeAny_mono rc fun r s' hq => ?_)
  match r, hq with
  | .error e, hq => exact hx pz σz HZ s1 e s' I1 hq
  | .ok (.ret u), hq => exact I1.after hq
  | .ok .next, hq => exact False.elim hq
  | .ok .brk, hq => exact False.elim hq
  | .ok .cont, hq => exact False.elim hq
end
/-- what a def that calls what it gets makes of it -/
def GivesG (X : Cx) (Ng : List Str) (x : Str) (sg : Scope) (g : Addr) (cdg : Value) (bg : List Stmt) (a q : Str) (TT : (XK → Hp → VK → Prop) → Hp → VK → Prop) : Prop :=
  ∀ (f c2 : Addr) (s : Shared) (H : Hp) (Q : VK) (tl : XK → Hp → VK → Prop),
    (∀ (W : WX) (pn : List (Addr × Obj)) (xe : Value → Shared → Prop) (p1 p2 : Pos), Takes ((cxOf (L2.CX X.prog X.w) X.prog X.w X.K X.mg X.base Ng x sg g cdg X.A X.stack s H E0).tr pn xe) W →
      PE ((cxOf (L2.CX X.prog X.w) X.prog X.w X.K X.mg X.base Ng x sg g cdg X.A X.stack s H E0).tr pn xe) (.Call (.Name a p1) [] [] p2) (fun σZ HZ Q => σZ[0]? = some (some (.ref f)) ∧ HZ c2 = some (LamX.CodeO c2 q) ∧ tl (wide Ng.length W) HZ Q)) →
    H c2 = some (LamX.CodeO c2 q) → TT tl H Q →
    ∃ t, PSs (cxOf (L2.CX X.prog X.w) X.prog X.w X.K X.mg X.base Ng x sg g cdg X.A X.stack s H E0) bg t ∧ t { nx := fun _ H' => Q .non H', rt := Q } (L2.start Ng [.ref f]) H
section
variable {X : Cx}
/-- x(lambda: body) -/
theorem pe_lamG {T : List (Addr × Str)} {TT : (XK → Hp → VK → Prop) → Hp → VK → Prop} {x a : Str} {g c P : Addr} {k : Nat} {pg : Arguments} {bg : List Stmt} {sg : Scope} {fd : FuncData} {Ng : List Str}
    {params : Arguments} {body : Expr} {scope : Scope} {t : XK → TE} {p lpos pos : Pos} (F : FunD X.K x x pg bg sg [] [] g fd) (hm : X.mg x = some (.ref g))
    (hb : ∀ (kV doc pm : Value) (an : Option Addr) (cdv ct : Value) (us : List Value), us.length = [a].length → bindArgs (PySem.W.fnOf x x pg bg sg .none kV doc pm an cdv ct) ⟨us, []⟩ = pure ([a].zip us))
    (Sg : FnScope Ng [a] sg) (hNg : Ng[0]? = some a) (hva : Vis sg a) (hG : X.A.guards = some [])
    (gv : GivesG X Ng x sg g (codeV X.K g) bg a (X.env.qual ++ "<lambda>") TT)
    (TB : LamX.TabB X.base X.mg c P) (hcode : X.env.code = .ref c) (mT : (P, X.env.qual ++ "<lambda>") ∈ T) (uT : ∀ p ∈ T, p.1 = P → p.2 = X.env.qual ++ "<lambda>") (rm : Room (k + 2) X.A)
    (L : LamX.LamS X.env.scope scope) (hdef : defaultsOf params X.env = ([], []))
    (hbind : ∀ (q : Str) (cl : List (Str × Addr)) (pm cv ctv : Value), bindArgs (PySem.W.kla_fn "<lambda>" q params body scope cl pm cv ctv) ⟨[], []⟩ = pure [])
    (hbody : ∀ (A : Around) (outer : List Env) (s : Shared) (H : Hp) (E : XK) (f c2 : Addr), Room k (A.deeper (LamX.lamEnv X scope s.heap.objs.size f c2)) → (A.deeper (LamX.lamEnv X scope s.heap.objs.size f c2)).guards = some [] → PE (LamX.lamCx X A outer s H E scope f c2) body (t E))
    (hg : Gl X x := by rfl) (hdb : (x == ("__debug__" : Str)) = false := by decide) (hd : (a == ("__debug__" : Str)) = false := by decide) (hcd : (a == ("__classdict__" : Str)) = false := by decide) :
    PE X (.Call (.Name x p) [.Lambda params body scope lpos] [] pos) (LamX.tLam T TT t) := by
  refine ⟨fun pins s σ H Q I h => ?_⟩
  obtain ⟨hT, h⟩ := h
  have hk := F.kp
  have B := F.bindsN hb
  obtain ⟨oc, od, dV, kV, doc, pm, an, cdv, ct, osl, e, lk, hcg, _, _⟩ := F.ex
  have ec : codeV X.K g = cdv := by
    unfold codeV
    rw [lk, e]
  rw [ec] at gv
  subst e
  refine wpAny_Call_Name_kw (ld_glob I hg hm ?_ hdb)
  refine PySem.W.callWith_K (h₀ := X.base) I.ok.mod.kin hk ?_ (by rfl) (by rfl)
  show wpAny _ _ (spliced ((false, eval (.Lambda params body scope lpos) X.env) :: backTo pos (starEach [] X.env))) _ _ s
  refine Calls.spliced_cons (LamX.lam_make2 I TB hcode mT uT hT hdef (L.has I.ok) fun f c2 pm2 ctv H1 s2 I1 eN T1 hf n1 n2 hco => ?_)
  refine Calls.spliced_nil ⟨I1.kIn, ?_⟩
  have rc : codeAny (model X.prog X.w) X.A (.call (.ref g) ⟨[.ref f], []⟩) (CR (L2.CX X.prog X.w) X.stack X.prog X.w H1 s2 Q E0) s2 := by
    refine LamX.run_ofS (N := Ng) (ps := [a]) (us := [.ref f]) (vs := [.ref f]) lk hcg Sg rm I1.env0 (B s2 [.ref f] I1.kIn rfl) (.cons rfl .nil) rfl fun rm2 => ?_
    exact gv f c2 s2 H1 Q (fun E H' Q' => t E σ H' Q') (fun W pn xe p1 p2 tk => pe_actG (i := 0) I1 L hG hf n1 n2 (hbind _ _ _ _ _) tk rm2 (fun A outer s H rm3 hG3 => hbody A outer s H _ f c2 rm3 hG3) hNg hva hd hcd) hco (h H1 eN T1)
  refine wpAny_call (codeAny_mono rc fun r s3 hq => ?_)
  match r, hq with
  | .error e, hq =>
    obtain ⟨_, _, _, _, _, _, _, _, _, _, _, _, z⟩ := hq
    exact z.elim
  | .ok (.ret u), hq => exact I1.after hq
  | .ok .next, hq => exact False.elim hq
  | .ok .brk, hq => exact False.elim hq
  | .ok .cont, hq => exact False.elim hq
end
end EM
/-! EM24: the end of a law whose defs make lambdas, where no guard is held. -/
namespace EM
open PySem PySem.Spec PyProof.Rows L2
section
variable {P : Program} {w : World} {K : PySem.W.Frag} {mg mb : Str → Option Value} {CX : CXT} {k : Nat} {fa a : Addr} {sp : Sp} {s1 : Shared} {us : List Value} {ns : List Int} {cs : List (Addr × Addr)}
abbrev tabO : Obj := { cls := .none, data := .fields #[] }
theorem callGT (kx : K.In s1.heap) (gx : s1.heap.Ns mainGlobals mg) (bx : s1.heap.Ns builtinsNs mb) (b2 : ∀ x : Str, x ≠ "__name__" → mb x = bootBuiltins x) (nl : s1.heap.NoLimit) (ng : s1.gens = #[])
    (te : ∀ p ∈ cs, s1.heap.get? p.2 = some tabO) (to : ∀ p ∈ cs, K.lookup p.2 = none) (tc : ∀ p ∈ cs, PySem.W.CodeHd s1.heap p.1 p.2)
    (bm : ∃ (bm : Addr) (ob : Obj), mg "__builtins__" = some (.ref bm) ∧ bm ≠ builtinsNs ∧ s1.heap.get? bm = some ob ∧ ob.cls = .type "module" ∧ ob.dict = some builtinsNs ∧ ob.data = .plain)
    (ha : s1.heap.get? a = some { cls := .type "list", data := .seq us.toArray }) (rm : Room k callerA)
    (F : ∀ base : Heap, K.In base → base.Ns mainGlobals mg → (∀ p ∈ cs, LamX.TabB base mg p.1 p.2) → FnG P w K mg base CX k fa sp)
    (nx : ∀ H e s', CX [] H s1 (fun _ _ _ => False) e s' → False)
    (H : Hp) (hH : ∀ p ∈ cs, H p.2 = some (.tbl #[])) (hO : ∀ b, H b = none ∨ b ∈ cs.map (·.2) ∨ ∃ o xs, H b = some (.frz o (.lst xs))) (hS : sp [.ref a] H (fun v _ => v = .bl true) fun _ _ _ => False) (hok : HOk P w H s1.heap)
    (hA : ∀ b, H b ≠ none → b = a ∨ b ∈ cs.map (·.2)) (hK : H a ≠ none → K.lookup a = none) :
    codeAny (model P w) callerA (.call (.ref fa) ⟨[.ref a], []⟩) (fun r s' => r = .ok (.ret (.bool true)) ∧ OldK s1.heap s'.heap ∧ s'.os = s1.os ∧ AllBare s'.gens) s1 := by
  have isT : ∀ b : Addr, b ∈ cs.map (·.2) → s1.heap.get? b = some tabO := fun b hb => by
    obtain ⟨p, hp, e⟩ := List.mem_map.mp hb
    rw [← e]
    exact te p hp
  have free : ∀ {b : Addr} {o : Obj}, s1.heap.get? b = some o → (∀ vs n, o.data ≠ .seq vs n) → o.data ≠ .fields #[] → H b = none := by
    intro b o e h1 h2
    apply Classical.byContradiction
    intro z
    rcases hA b z with y | y
    · rw [y, ha] at e
      cases e
      exact h1 _ _ rfl
    · rw [isT b y] at e
      cases e
      exact h2 rfl
  have nsB : ∀ {b : Addr} {m : Str → Option Value}, s1.heap.Ns b m → (hidT s1.heap H).Ns b m := by
    intro b m ⟨o, es, n, e, d, r⟩
    exact ⟨o, es, n, hidT_get e (free e (fun vs n z => by rw [d] at z; cases z) fun z => by rw [d] at z; cases z), d, r⟩
  have inB : K.In (hidT s1.heap H) := by
    intro b o e
    refine hidT_get (kx b o e) (Classical.byContradiction fun z => ?_)
    rcases hA b z with y | y
    · subst y
      rw [hK z] at e
      cases e
    · obtain ⟨p, hp, ep⟩ := List.mem_map.mp y
      rw [← ep, to p hp] at e
      cases e
  have md : Mod K mg (hidT s1.heap H) := ⟨inB, nsB gx, ⟨mb, nsB bx, b2⟩, let ⟨mc, y1, y2⟩ := nl; ⟨mc, nsB y1, y2⟩⟩
  have tb : ∀ p ∈ cs, LamX.TabB (hidT s1.heap H) mg p.1 p.2 := by
    intro p hp
    have hTp := te p hp
    refine ⟨?_, ?_, fun z => ?_⟩
    · obtain ⟨o, vs, file, tf, flags, tg, inF, text, tt, e1, r1, r2, r3, rest⟩ := tc p hp
      refine ⟨o, vs, file, tf, flags, tg, inF, text, tt, hidT_get e1 (free e1 (fun vs n z => ?_) fun z => ?_), r1, r2, r3, rest⟩
      · rw [r2] at z
        cases z
      · rw [r2] at z
        cases z
        simp at r3
    · obtain ⟨m, ob, c1, c2, c3, c4, c5, c6⟩ := bm
      refine ⟨m, ob, c1, c2, fun q => ?_, fun q => ?_, hidT_get c3 (free c3 (fun vs n z => by rw [c6] at z; cases z) fun z => by rw [c6] at z; cases z), c4, c5, c6⟩
      · obtain ⟨o, es, ep, e, hd, _⟩ := gx
        rw [q, e] at c3
        cases c3
        rw [hd] at c6
        cases c6
      · rw [q, hTp] at c3
        cases c3
        cases c6
    · obtain ⟨o, es, ep, e, hd, _⟩ := gx
      rw [z, hTp] at e
      cases e
      cases hd
  have ev : Env0 P w K mg (hidT s1.heap H) callerA [] s1 H :=
    ⟨rfl, md, fun b o e => of_hidT e, Nat.le_of_eq (hidT_size _ _), trivial, fun b hb => absurd (show b ∈ ([] : List Addr) from hb) (by simp), hok, .of_eq ng⟩
  refine codeAny_mono (F _ inB (nsB gx) tb callerA [] s1 H [.ref a] [.ref a] _ _ rm rfl ev (.cons rfl .nil) hS) fun r s2 h => ?_
  match r, h with
  | .error e, h => exact (nx H e s2 h).elim
  | .ok .next, h => exact False.elim h
  | .ok .brk, h => exact False.elim h
  | .ok .cont, h => exact False.elim h
  | .ok (.ret u), h =>
    obtain ⟨v, H2, os, bare, un, ok2, rv, q⟩ := h
    have q2 : v = .bl true := q
    subst q2
    obtain rfl : u = Value.bool true := rv
    have same : ∀ b o, b ∉ cs.map (·.2) → s1.heap.get? b = some o → s2.heap.get? b = some o := by
      intro b o nb e
      rcases hO b with z | z | ⟨ob, xs, z⟩
      · exact un.keep b o e z (fun y => absurd (show b ∈ ([] : List Addr) from y) (by simp)) (by simp)
      · exact absurd z nb
      · have e1 := (hok b _ z).1
        have e2 := (ok2 b _ (un.frzs b ob _ z)).1
        rw [e] at e1
        cases e1
        exact e2
    have grown : ∀ p ∈ cs, ∃ more : Array Value, s2.heap.get? p.2 = some { cls := .none, data := .fields more } := by
      intro p hp
      obtain ⟨more, z⟩ := un.tbls p.2 #[] (hH p hp)
      exact ⟨_, ok2 p.2 _ z⟩
    refine ⟨rfl, ⟨fun b o e => ?_, fun b o e => ?_⟩, os, bare⟩
    · by_cases hb : b ∈ cs.map (·.2)
      · obtain ⟨p, hp, ep⟩ := List.mem_map.mp hb
        obtain ⟨more, hm⟩ := grown p hp
        subst ep
        rw [te p hp] at e
        cases e
        exact .inr (.inl ⟨((tc p hp).tab (te p hp)).isCodeTable, rfl, #[], more, rfl, by rw [Array.empty_append]; exact hm⟩)
      · exact .inl (same b o hb e)
    · by_cases hb : b ∈ cs.map (·.2)
      · obtain ⟨p, hp, ep⟩ := List.mem_map.mp hb
        obtain ⟨more, hm⟩ := grown p hp
        subst ep
        exact ⟨_, hm⟩
      · exact ⟨o, same b o hb e⟩
open Classical in
/-- the tables, the script or nothing -/
noncomputable def hp2 (cs : List (Addr × Addr)) (u : Option HO) (a : Addr) : Hp := fun b => if b ∈ cs.map (·.2) then some (.tbl #[]) else if b = a then u else none
theorem lawGT (kx : K.In s1.heap) (gx : s1.heap.Ns mainGlobals mg) (bx : s1.heap.Ns builtinsNs mb) (b2 : ∀ x : Str, x ≠ "__name__" → mb x = bootBuiltins x) (nl : s1.heap.NoLimit) (ng : s1.gens = #[])
    (te : ∀ p ∈ cs, s1.heap.get? p.2 = some tabO) (to : ∀ p ∈ cs, K.lookup p.2 = none) (tc : ∀ p ∈ cs, PySem.W.CodeHd s1.heap p.1 p.2)
    (bm : ∃ (bm : Addr) (ob : Obj), mg "__builtins__" = some (.ref bm) ∧ bm ≠ builtinsNs ∧ s1.heap.get? bm = some ob ∧ ob.cls = .type "module" ∧ ob.dict = some builtinsNs ∧ ob.data = .plain)
    (ha : s1.heap.get? a = some { cls := .type "list", data := .seq us.toArray }) (hi : IntsAre us ns) (hl : ns.length ≤ sizeLine) (rm : Room k callerA)
    (F : ∀ base : Heap, K.In base → base.Ns mainGlobals mg → (∀ p ∈ cs, LamX.TabB base mg p.1 p.2) → FnG P w K mg base CX k fa sp)
    (hS : ∀ H : Hp, (∀ p ∈ cs, H p.2 = some (.tbl #[])) → SqL K H a (ns.map V.int) → sp [.ref a] H (fun v _ => v = .bl true) fun _ _ _ => False)
    (nx : ∀ H e s', CX [] H s1 (fun _ _ _ => False) e s' → False) :
    codeAny (model P w) callerA (.call (.ref fa) ⟨[.ref a], []⟩) (fun r s' => r = .ok (.ret (.bool true)) ∧ OldK s1.heap s'.heap ∧ s'.os = s1.os ∧ AllBare s'.gens) s1 := by
  have rv := vals_ints hi
  have go := callGT kx gx bx b2 nl ng te to tc bm ha rm F nx
  have aT : a ∉ cs.map (·.2) := fun z => by
    obtain ⟨p, hp, e⟩ := List.mem_map.mp z
    have q := te p hp
    rw [e, ha] at q
    have q2 : Data.seq us.toArray _ = Data.fields #[] := congrArg Obj.data (Option.some.inj q)
    cases q2
  have at_t : ∀ u, ∀ p ∈ cs, hp2 cs u a p.2 = some (.tbl #[]) := fun u p hp => if_pos (List.mem_map.mpr ⟨p, hp, rfl⟩)
  have at_a : ∀ u, hp2 cs u a a = u := fun u => (if_neg aT).trans (if_pos rfl)
  have off : ∀ u b, b ∉ cs.map (·.2) → b ≠ a → hp2 cs u a b = none := fun u b h1 h2 => (if_neg h1).trans (if_neg h2)
  have at_b : ∀ u b, b ∈ cs.map (·.2) → hp2 cs u a b = some (.tbl #[]) := fun u b h => if_pos h
  cases hk : K.lookup a with
  | some o =>
    have e := kx a o hk
    rw [ha] at e
    cases e
    refine go (hp2 cs none a) (at_t none) (fun b => ?_) (hS _ (at_t none) (.inr ⟨_, us.toArray, _, hk, rfl, rfl, rfl, ?_, ?_⟩)) (fun b u z => ?_) (fun b z => ?_) fun z => absurd (at_a none) z
    · by_cases h : b ∈ cs.map (·.2)
      · exact .inr (.inl h)
      · by_cases h2 : b = a
        · subst h2
          exact .inl (at_a none)
        · exact .inl (off _ b h h2)
    · rw [List.size_toArray, hi.length]
      exact hl
    · simpa using rv
    · by_cases h : b ∈ cs.map (·.2)
      · rw [at_b _ b h] at z
        cases z
        obtain ⟨p, hp, e⟩ := List.mem_map.mp h
        rw [← e]
        exact te p hp
      · by_cases h2 : b = a
        · subst h2
          rw [at_a none] at z
          cases z
        · rw [off _ b h h2] at z
          cases z
    · apply Classical.byContradiction
      intro y
      exact z (off _ b (fun h => y (.inr h)) fun h => y (.inl h))
  | none =>
    obtain ⟨u, eu⟩ : ∃ u : Option HO, u = some (.frz { cls := .type "list", data := .seq us.toArray } (.lst (ns.map V.int))) := ⟨_, rfl⟩
    refine go (hp2 cs u a) (at_t u) (fun b => ?_) (hS _ (at_t u) (.inl (.inr ⟨_, (at_a u).trans eu⟩))) (fun b o z => ?_) (fun b z => ?_) fun _ => hk
    · by_cases h : b ∈ cs.map (·.2)
      · exact .inr (.inl h)
      · by_cases h2 : b = a
        · subst h2
          exact .inr (.inr ⟨_, _, (at_a u).trans eu⟩)
        · exact .inl (off _ b h h2)
    · by_cases h : b ∈ cs.map (·.2)
      · rw [at_b _ b h] at z
        cases z
        obtain ⟨p, hp, e⟩ := List.mem_map.mp h
        rw [← e]
        exact te p hp
      · by_cases h2 : b = a
        · subst h2
          rw [at_a u, eu] at z
          cases z
          exact ⟨ha, by rw [List.length_map]; exact hl, us, _, rv, ha⟩
        · rw [off _ b h h2] at z
          cases z
    · apply Classical.byContradiction
      intro y
      exact z (off _ b (fun h => y (.inr h)) fun h => y (.inl h))
end
theorem walkGT {l : PySem.W.OpenLaw} {n k : Nat} {q : Program} {loose : List Str} {XP : (Str → Option Value) → Heap → Prop} {YP : World → Heap → Prop} {d : DefRec}
    (hn : l.most = some n) (hn2 : n ≤ sizeLine) (hd : d.params.defaults = []) (rm : Room k callerA)
    (F : ∀ (w : World) (mg : Str → Option Value) (fa : Addr) (h : Heap), YP w h → h.Ns mainGlobals mg → mg d.name = some (.ref fa) →
      ∃ (K : PySem.W.Frag) (cs : List (Addr × Addr)) (sp : Sp), K.In h ∧ (∀ p ∈ cs, h.get? p.2 = some tabO) ∧ (∀ p ∈ cs, K.lookup p.2 = none) ∧ (∀ p ∈ cs, PySem.W.CodeHd h p.1 p.2) ∧
        (∀ (H : Hp) (a : Addr) (ns : List Int), ns.length ≤ n → (∀ p ∈ cs, H p.2 = some (.tbl #[])) → SqL K H a (ns.map V.int) → sp [.ref a] H (fun v _ => v = .bl true) fun _ _ _ => False) ∧
        ∀ base : Heap, K.In base → base.Ns mainGlobals mg → (∀ p ∈ cs, LamX.TabB base mg p.1 p.2) → FnG l.prog w K mg base (L2.CX l.prog w) k fa sp)
    (nx : ∀ (w : World) (H : Hp) (s : Shared) (e : Value) (s' : Shared), L2.CX l.prog w [] H s (fun _ _ _ => False) e s' → False) :
    PySem.W.WalkO q loose XP YP l.row.toRowW d [] (fun f vs => PySem.call f vs) := by
  refine Att.attach_callB hn hd fun w s0 s1 mg mb fa o pm cd doc a us ns G Y ho hd hcd hmg hobj hints hlen hbits hg => ?_
  obtain ⟨K, cs, sp, kx, te, to, tc, hS, hF⟩ := F w mg fa _ Y G.T.g hmg
  exact lawGT kx G.T.g G.T.b G.T.builtins G.T.nolimit hg te to tc G.T.bmain hobj hints (Nat.le_trans hlen hn2) rm hF (fun H ht hs => hS H a ns hlen ht hs) (nx w · s1)
end EM
/-! EM25: C.m(..), m a static method; C(k = v, ..). -/
namespace EM
open PySem PySem.Spec PyProof.Rows L2
/-- C.m is a static method, its def at g -/
structure SMet (K : PySem.W.Frag) (C : Addr) (m : Str) (g : Addr) : Prop where
  at_ : PySem.W.findCls K (.ref C) (.type "type") m = some (.get (.builtin "staticmethod.__get__") (.ref (He.ma K C m)) .none (.ref C))
  rc : ∃ rest, PySem.W.recIn K (He.ma K C m) "staticmethod" = some (.ref g :: rest)
theorem smetB_ok {K : PySem.W.Frag} {C : Addr} {m : Str} (c : smetB K C m = true) : SMet K C m (He5.wf K C "staticmethod" m) := by
  obtain ⟨h1, h2⟩ := He5.wrapB_ok c
  exact ⟨h1, h2⟩
def tSM (C : Addr) (sp : Sp) (E : XK) (ta : TE) (t : TA) : TE := fun σ H Q => ta σ H fun x H1 => x = .ref C ∧ t σ H1 fun vs H2 => sp vs H2 Q E
def tSMK (C : Addr) (sp : Sp2) (E : XK) (ta : TE) (tk : TA) : TE := fun σ H Q => ta σ H fun x H1 => x = .ref C ∧ tk σ H1 fun zs H2 => sp [] zs H2 Q E
section
variable {X : Cx} {CX : CXT} {k : Nat} {C g : Addr} {sp : Sp} {sp2 : Sp2} {E : XK} {o e : Expr} {es : List Expr} {m : Str} {pos apos : Pos} {ta : TE} {t tk : TA} {pl : Sem Bool} {kws : List Keyword} {ks : List Str}
theorem getsm_ok {pins : List (Addr × Obj)} {σ : L2.St} {H : Hp} {s : Shared} {A : Around} {E : Value → Shared → Prop} {Q : Value × List Value → Shared → Prop} (I : Inv X pins σ H s) (r : ClX.CRead X.K C (.type "type")) (c : SMet X.K C m g)
    (h : ∀ s', Inv X pins σ H s' → Q (.ref g, []) s') : wpAny (model X.prog X.w) A (getMethod (.ref C) m pl) Q E s := by
  obtain ⟨rest, hp⟩ := c.rc
  refine PySem.W.method_cls I.kIn r.ga (PySem.W.cls_bind I.kIn r.rd c.at_ ?_)
  exact wpAny_call (PySem.W.sm_get (s := { s with toks := s.toks + 1 }) I.kIn hp (PySem.W.handed_on rfl (h _ (I.tok _))))
/-- C.m(e, ..) -/
theorem pe_smR (he : PE X o ta) (r : ClX.CRead X.K C (.type "type")) (c : SMet X.K C m g) (F : FnR X.prog X.w X.K X.mg X.base CX k g sp) (hr : Room k X.A) (hk : PySem.W.keepIn X.K (.ref g) = true) (hx : Passes CX X E) (ha : PA X (e :: es) t)
    (hst : starEach (e :: es) X.env = (false, eval e X.env) :: starEach es X.env := by rfl) (hpl : (backTo pos (starEach es X.env)).any (·.1) = false := by rfl)
    (ht : eval (.Call (.Attribute o m apos) (e :: es) [] pos) X.env = (do
      let ov ← eval o X.env
      standAt apos.atName
      let (f, first) ← holding [ov] (getMethod ov m pl)
      callWith pos f first (backTo pos (starEach (e :: es) X.env)) (backToKw pos (keywordEach [] X.env))) := by rfl) :
    PE X (.Call (.Attribute o m apos) (e :: es) [] pos) (tSM C sp E ta t) := by
  refine ⟨fun pins s σ H Q I h => ?_⟩
  refine PySem.W.methodCall_KW (pl := pl) (thn (he.run pins s σ H _ I h) fun u s1 hu => ?_) ht
  obtain ⟨x, H1, I1, rx, ex, q⟩ := hu
  subst ex
  obtain rfl : u = Value.ref C := rx
  refine getsm_ok I1 r c fun s2 I2 => ?_
  refine PySem.W.callWith_K (h₀ := X.base) (first := []) I2.ok.mod.kin hk (thn (ha.run pos pins s2 σ H1 _ I2 q) fun us s3 ⟨vs, H2, I3, rv, q2⟩ => ⟨I3.kIn, ?_⟩) hst hpl
  exact wpAny_call (run_fnR F hr hx I3 rv q2)
/-- C.m(k = v, ..) -/
theorem pe_smK (he : PE X o ta) (r : ClX.CRead X.K C (.type "type")) (c : SMet X.K C m g) (F : FnK X.prog X.w X.K X.mg X.base CX k g ks sp2) (hr : Room k X.A) (hk : PySem.W.keepIn X.K (.ref g) = true) (hx : Passes CX X E) (hkw : PK X kws tk)
    (hall : (backToKw pos (keywordEach kws X.env)).all (·.1.isSome) = true := by rfl) (hks : (backToKw pos (keywordEach kws X.env)).filterMap (·.1) = ks := by rfl)
    (hpl : ((backTo pos (starEach [] X.env)).any (·.1) || (backToKw pos (keywordEach kws X.env)).any (·.1.isNone)) = false := by rfl)
    (ht : eval (.Call (.Attribute o m apos) [] kws pos) X.env = (do
      let ov ← eval o X.env
      standAt apos.atName
      let (f, first) ← holding [ov] (getMethod ov m pl)
      callWith pos f first (backTo pos (starEach [] X.env)) (backToKw pos (keywordEach kws X.env))) := by rfl) :
    PE X (.Call (.Attribute o m apos) [] kws pos) (tSMK C sp2 E ta tk) := by
  refine ⟨fun pins s σ H Q I h => ?_⟩
  refine PySem.W.methodCall_KW (pl := pl) (thn (he.run pins s σ H _ I h) fun u s1 hu => ?_) ht
  obtain ⟨x, H1, I1, rx, ex, q⟩ := hu
  subst ex
  obtain rfl : u = Value.ref C := rx
  refine getsm_ok I1 r c fun s2 I2 => ?_
  refine PySem.W.callWith_KW0 (h₀ := X.base) I2.ok.mod.kin hk hall ?_ hpl
  refine thn (hkw.run pos pins s2 σ H1 _ I2 q) fun ws s3 ⟨zs, H2, I3, rz, q2⟩ => ⟨I3.kIn, ?_⟩
  rw [hks]
  exact run_fnK (us := []) (vs := []) F hr hx I3 .nil rz q2
end
end EM
/-! EM26: Ratios made of anything. -/
namespace EM
open PySem PySem.Spec PyProof.Rows L2
/-- no integer -/
def oddI (K : PySem.W.Frag) (H : Hp) (v : V) : Prop := ∃ t b1 b2, TyX K H v t ∧ PySem.W.kitOne K t (.type "int") = some b1 ∧ PySem.W.kitOne K t (.type "bool") = some b2 ∧ (b1 && !b2) = false
def xdP (z : Str) : HO := .xd [("part", .str z)]
def spRatX (K : PySem.W.Frag) : Sp := fun vs H Q E => ∃ (x dx : Addr) (u l : V), vs = [.ref x, u, l] ∧ H x = some (.ins (He.ga K "Ratio") dx []) ∧
  ((oddI K H u ∧ ∀ d H', Same H H' → H d = none → H' d = some (xdP "top") → E (.ref (He.ga K "BadRatio")) (some d) H') ∨
   ∃ t, u = .int t ∧ (((oddI K H l ∨ l = .int 0) ∧ ∀ d H', Same H H' → H d = none → H' d = some (xdP "bottom") → E (.ref (He.ga K "BadRatio")) (some d) H') ∨
     ∃ b, l = .int b ∧ b ≠ 0 ∧ b.natAbs.log2 < 9000 ∧ ∀ H', (∀ c o, H c = some o → c ≠ x → H' c = some o) → RatAt K H' x (nTop t b) (nBot t b) → Q .non H'))
/-- things that are no integers and no Ratios -/
def OddN (H : Hp) (p : Addr) (v : V) : Prop := v = .non ∨ (∃ b, v = .bl b) ∨ (∃ s, v = .str s) ∨ ∃ a, v = .ref a ∧ a ≠ p ∧ ((∃ xs, H a = some (.tup xs)) ∨ (∃ xs, H a = some (.lst xs)) ∨ ∃ kv, H a = some (.dK kv))
theorem OddN.keep {H H' : Hp} {p : Addr} {v : V} (h : OddN H p v) (k : Keep p H H') : OddN H' p v := by
  rcases h with h | h | h | ⟨a, e, n, h⟩
  · exact .inl h
  · exact .inr (.inl h)
  · exact .inr (.inr (.inl h))
  · refine .inr (.inr (.inr ⟨a, e, n, ?_⟩))
    rcases h with ⟨xs, h⟩ | ⟨xs, h⟩ | ⟨kv, h⟩
    · exact .inl ⟨xs, k _ _ h n⟩
    · exact .inr (.inl ⟨xs, k _ _ h n⟩)
    · exact .inr (.inr ⟨kv, k _ _ h n⟩)
theorem OddN.ext {H H' : Hp} {p : Addr} {v : V} (h : OddN H p v) (k : ∀ b o, H b = some o → b ≠ p → (∀ ps, o ≠ .tbl ps) → H' b = some o) : OddN H' p v := by
  rcases h with h | h | h | ⟨a, e, n, h⟩
  · exact .inl h
  · exact .inr (.inl h)
  · exact .inr (.inr (.inl h))
  · refine .inr (.inr (.inr ⟨a, e, n, ?_⟩))
    rcases h with ⟨xs, h⟩ | ⟨xs, h⟩ | ⟨kv, h⟩
    · exact .inl ⟨xs, k _ _ h n (fun _ z => by cases z)⟩
    · exact .inr (.inl ⟨xs, k _ _ h n (fun _ z => by cases z)⟩)
    · exact .inr (.inr ⟨kv, k _ _ h n (fun _ z => by cases z)⟩)
theorem OddN.ty {K : PySem.W.Frag} {H : Hp} {p : Addr} {v : V} (h : OddN H p v) : ∃ T b1 b2, TyX K H v (.type T) ∧ PySem.W.kitOne K (.type T) (.type "int") = some b1 ∧ PySem.W.kitOne K (.type T) (.type "bool") = some b2 ∧ (b1 && !b2) = false ∧ T ∈ ["bool", "NoneType", "str", "tuple", "list", "dict"] := by
  rcases h with rfl | ⟨b, rfl⟩ | ⟨s, rfl⟩ | ⟨a, rfl, n, h⟩
  · exact ⟨"NoneType", false, false, .base .non, kit_ty (by decide +kernel), kit_ty (by decide +kernel), rfl, by decide⟩
  · exact ⟨"bool", true, true, .base (.bl b), kit_ty (by decide +kernel), kit_ty (by decide +kernel), rfl, by decide⟩
  · exact ⟨"str", false, false, .base (.str s), kit_ty (by decide +kernel), kit_ty (by decide +kernel), rfl, by decide⟩
  · rcases h with ⟨xs, h⟩ | ⟨xs, h⟩ | ⟨kv, h⟩
    · exact ⟨"tuple", false, false, .base (.tup h), kit_ty (by decide +kernel), kit_ty (by decide +kernel), rfl, by decide⟩
    · exact ⟨"list", false, false, .base (.lst h), kit_ty (by decide +kernel), kit_ty (by decide +kernel), rfl, by decide⟩
    · exact ⟨"dict", false, false, .base (.dK h), kit_ty (by decide +kernel), kit_ty (by decide +kernel), rfl, by decide⟩
theorem OddN.int {K : PySem.W.Frag} {H : Hp} {p : Addr} {v : V} (h : OddN H p v) : oddI K H v := by
  obtain ⟨T, b1, b2, h1, h2, h3, h4, _⟩ := h.ty (K := K)
  exact ⟨_, b1, b2, h1, h2, h3, h4⟩
/-- x(..) under a lambda: nothing but tables and the pen is written -/
def KeepN (p : Addr) (H H' : Hp) : Prop := ∀ b o, H b = some o → b ≠ p → (∀ ps, o ≠ .tbl ps) → H' b = some o
theorem KeepN.of {p : Addr} {H H' : Hp} (k : Keep p H H') : KeepN p H H' := fun b o e n _ => k b o e n
theorem KeepN.ext {p : Addr} {H H' : Hp} (k : LamX.ExtN H H') : KeepN p H H' := fun b o e _ t => k b o e t
theorem KeepN.trans {p : Addr} {H H1 H2 : Hp} (a : KeepN p H H1) (b : KeepN p H1 H2) : KeepN p H H2 := fun c o e n t => b c o (a c o e n t) n t
theorem Pen.extN {H H' : Hp} {p l : Addr} {n : Nat} (h : Pen H p l n) (e : LamX.ExtN H H') : Pen H' p l n := by
  obtain ⟨c, a, r, h1, h2, h3, h4, h5, h6⟩ := h
  exact ⟨c, a, r, e _ _ h1 (fun _ z => by cases z), e _ _ h2 (fun _ z => by cases z), h3, h4, h5, h6⟩
end EM
/-! EM27: own binary operators: an instance with one of its class, with an int. -/
namespace EM
open PySem PySem.Spec PyProof.Rows L2
/-- what is asked of the class C for the operator named nm: its def at g, the reflected one at r -/
structure BinC (K : PySem.W.Frag) (C : Addr) (nm : String) (g r : Addr) : Prop where
  first : PySem.W.selfFirst K C = true
  at_ : PySem.W.findIn K (.ref C) (PySem.dunder nm) = some (some (.ref g))
  fn : PySem.W.isFn K (.ref g) = true
  rat : PySem.W.findIn K (.ref C) (dunderR nm) = some (some (.ref r))
  rfn : PySem.W.isFn K (.ref r) = true
  sub : PySem.W.subIn K (.type "int") (.ref C) = some false
def rBinO (C : Addr) (sp : Sp) (E : XK) : R2 := fun x y H Q => ∃ a dx fs, x = .ref a ∧ H a = some (.ins C dx fs) ∧ ((∃ b dy gs, y = .ref b ∧ H b = some (.ins C dy gs)) ∨ ∃ i, y = .int i) ∧ sp [.ref a, y] H Q E
section
variable {X : Cx} {CX : CXT} {n : Nat} {g r C : Addr} {sp : Sp} {E : XK}
theorem op_binO {op : Operator} {fo ro : Option Value} (B : BinC X.K C op.info.2 g r) (h1 : PySem.W.findIn X.K (.type "int") (PySem.dunder op.info.2) = some fo) (h2 : PySem.W.findIn X.K (.type "int") (dunderR op.info.2) = some ro)
    (F : FnR X.prog X.w X.K X.mg X.base CX n g sp) (rm : Room n X.A) (hx : Passes CX X E) : OpR X (binaryOp op) (rBinO C sp E) := by
  intro pins s σ H x y v u Q I rx ry h
  obtain ⟨a, dx, fs, rfl, ha, hy, q⟩ := h
  cases (show v = Value.ref a from rx)
  obtain ⟨ox, od, J, _⟩ := ins_at I ha
  obtain ⟨m, hF⟩ := I.fr
  have back : ∀ {w : Value} {s2 : Shared}, EP X pins σ Q w s2 → PySem.W.CmpBack (EP X pins σ Q) w s2 := fun {w s2} z => by
    obtain ⟨z', H', I', rz, qz⟩ := z
    exact SlX.cmpback rz ⟨z', H', I', rz, qz⟩
  have run : wpAny (model X.prog X.w) X.A (call (.ref g) [.ref a, u]) (PySem.W.CmpBack (EP X pins σ Q)) X.xe s :=
    wpAny_mono (wpAny_call (run_fnR (us := [.ref a, u]) (vs := [.ref a, y]) F rm hx I (.cons rfl (.cons ry .nil)) q)) (fun w s2 z => back z) fun _ _ x => x
  rcases hy with ⟨b, dy, gs, rfl, hb⟩ | ⟨i, rfl⟩
  · cases (show u = Value.ref b from ry)
    obtain ⟨oy, od', J', _⟩ := ins_at I hb
    exact PySem.W.binop_K hF I.ok.mod.kin J J'.type B.first B.at_ B.fn run
  · obtain ⟨t, rfl⟩ := ry
    exact PySem.W.ksp_binT (T := "int") hF I.ok.mod.kin J rfl B.first B.at_ B.fn B.rat (.inr ⟨_, rfl⟩) h1 h2 B.sub run
end
end EM
/-! EM28: i op x, x an instance with a reflected operator of its own. -/
namespace PySem.W
open Lean Elab Tactic Meta PySem PySem.Calls PyProof.Rows
section
variable {prog : Program} {w : World} {A : Around} {E : Value → Shared → Prop} {s : Shared} {K : Frag} {x C L f g : Addr} {h₀ : Heap} {m : Str → Option Value} {ox : Obj} {od : Option Obj}
theorem em_rbin {op : Operator} {i : Int} {t : Tok} {fo ro : Option Value} {Q : Value → Shared → Prop} (F : Fr h₀ L s.heap m) (X₀ : K.In h₀) (I : InstAt s.heap x ox C od) (hc : selfFirst K C = true)
    (hs : findIn K (.ref C) (PySem.dunder op.info.2) = some (some (.ref f))) (hr : findIn K (.ref C) (dunderR op.info.2) = some (some (.ref g))) (hg : isFn K (.ref g) = true)
    (h1 : findIn K (.type "int") (PySem.dunder op.info.2) = some fo) (h2 : findIn K (.type "int") (dunderR op.info.2) = some ro) (hl : ((fo.isSome && !isSeqSlot fo) || (ro.isSome && !isSeqSlot ro)) = true) (hsub : subIn K (.ref C) (.type "int") = some false)
    (hd : ∀ (E : Value → Shared → Prop) (Q' : Option Value → Shared → Prop), Q' none s → wpAny (model prog w) A (tryMethod (.int i t) (PySem.dunder op.info.2) (.ref x)) Q' E s)
    (h : wpAny (model prog w) A (call (.ref g) [.ref x, .int i t]) (CmpBack Q) E s) : wpAny (model prog w) A (binaryOp op (.int i t) (.ref x)) Q E s := by
  have X := X₀.keeps F.keep
  obtain ⟨cd, rest, hcd, hm⟩ := ksp_first hc
  rcases hi : op.info with ⟨sym, nm'⟩
  rw [hi] at hs hr h1 h2 hd
  dsimp only at hs hr h1 h2 hd
  have one := ksp_try X I hr hg h
  obtain ⟨hh, gg, d, tt, os⟩ := s
  have L1 : Looks (model prog w) hh (typeOf (.int i t)) (.type "int") := Looks.of_pure rfl
  have L2 : Looks (model prog w) hh (typeOf (.ref x)) (.ref C) := I.type
  have L3 : Looks (model prog w) hh (fillsNumberSlot (.type "int") nm') true := hl ▸ ksp_fillsT X h1 h2
  have L4 : Looks (model prog w) hh (fillsNumberSlot (.ref C) nm') true := fills_K X hcd hm hs
  have L5 : Looks (model prog w) hh (isSubtype (.ref C) (.type "int")) false := looks_subIn X hsub
  have L6 : Looks (model prog w) hh (numberSlotInPython (.type "int") nm') false := Looks.of_pure rfl
  have hne : (Value.type "int" == Value.ref C) = false := Bool.eq_false_iff.mpr fun q => by cases beq_iff_eq.mp q
  simp only [binaryOp, hi]
  refine wpAny_holding (wpAny_bind ?_)
  unfold binaryOp1
  refine wpAny_bind (L1.at (wpAny_bind (L2.at (wpAny_bind (L3.at ?_)))))
  simp only [hne, Bool.false_eq_true, if_false]
  ksp_lk
  refine hd _ _ ?_
  ksp_lk
  refine wpAny_mono one (fun r s' hr' => ?_) fun _ _ e => e
  obtain ⟨v, rfl, hq⟩ := hr'
  ksp_lk
  exact hq
end
end PySem.W
namespace PySem.W
open PySem PySem.Calls PyProof.Rows Builtin Builtin.Int
section
variable {prog : Program} {w : World} {A : Around} {E : Value → Shared → Prop} {s : Shared} {x C : Addr} {ox : Obj} {od : Option Obj}
theorem int_is (i : Int) (t : Tok) (h : Heap) : Looks (model prog w) h (isInstance (.int i t) (.type "int")) true := by
  intro A Q E s k q
  exact wpAny_isInstance (T := "int") (b := true) (typeIs_int _ _ _) (by rfl) q
theorem em_nobin {name : String} {fB : Int → Int → Sem Fin} {i : Int} {t : Tok} {Q : Fin → Shared → Prop} (I : InstAt s.heap x ox C od) (hd : ox.data = .plain) (h : wpAny (model prog w) A (ret .notImplemented) Q E s) :
    wpAny (model prog w) A (intBinary name fB false ⟨[.int i t, .ref x], []⟩) Q E s := by
  unfold intBinary
  refine wpAny_bind (m := slotArgs name 1 _) (wpAny_pure ?_)
  refine wpAny_bind (m := intOfSelf _) (wpAny_pure ?_)
  refine wpAny_bind (m := asInt? (.ref x)) ?_
  unfold asInt?
  refine wpAny_bind (wpAny_load I.at_ ?_)
  rw [hd]
  refine wpAny_pure ?_
  exact wpAny_bind (wpAny_rule h)
theorem em_decl {nm : Str} {id n name : String} {fB : Int → Int → Sem Fin} {bi : Builtin} {i : Int} {t : Tok} (S : Slot "int" nm id) (en : entryFor table id = some bi) (hk : builtinKind id = some .slot) (hsp : splitId id = some ("int", n)) (ha : ∀ a b : Value, argsOk id ⟨[a, b], []⟩)
    (hb : ∀ args, bi args = intBinary name fB false args) (I : InstAt s.heap x ox C od) (hd : ox.data = .plain) (E : Value → Shared → Prop) (Q : Option Value → Shared → Prop) (q : Q none s) : wpAny (model prog w) A (tryMethod (.int i t) nm (.ref x)) Q E s := by
  refine wpAny_tryMethod_declines (typeIs_int _ _ _) S (wpAny_call (codeAny_call_builtin S.plain en (check_slot hk hsp (int_is i t _) (ha _ _) ?_)))
  rw [hb]
  exact em_nobin I hd (wpAny_pure ⟨rfl, q⟩)
theorem decl_add {i : Int} {t : Tok} (I : InstAt s.heap x ox C od) (hd : ox.data = .plain) (E : Value → Shared → Prop) (Q : Option Value → Shared → Prop) (q : Q none s) : wpAny (model prog w) A (tryMethod (.int i t) (PySem.dunder "add") (.ref x)) Q E s :=
  em_decl (n := "__add__") F.slot_int_add F.entry_int_add (by decide +kernel) (by decide +kernel) F.args_int_add_2 (fun _ => rfl) I hd E Q q
theorem decl_sub {i : Int} {t : Tok} (I : InstAt s.heap x ox C od) (hd : ox.data = .plain) (E : Value → Shared → Prop) (Q : Option Value → Shared → Prop) (q : Q none s) : wpAny (model prog w) A (tryMethod (.int i t) (PySem.dunder "sub") (.ref x)) Q E s :=
  em_decl (n := "__sub__") F.slot_int_sub F.entry_int_sub (by decide +kernel) (by decide +kernel) F.args_int_sub_2 (fun _ => rfl) I hd E Q q
theorem decl_mul {i : Int} {t : Tok} (I : InstAt s.heap x ox C od) (hd : ox.data = .plain) (E : Value → Shared → Prop) (Q : Option Value → Shared → Prop) (q : Q none s) : wpAny (model prog w) A (tryMethod (.int i t) (PySem.dunder "mul") (.ref x)) Q E s :=
  em_decl (n := "__mul__") F.slot_int_mul F.entry_int_mul (by decide +kernel) (by decide +kernel) F.args_int_mul_2 (fun _ => rfl) I hd E Q q
end
end PySem.W
/-! EM29: i op x as a rule of the hand layer. -/
namespace EM
open PySem PySem.Spec PyProof.Rows L2
def rBinR (C : Addr) (sp : Sp) (E : XK) : R2 := fun x y H Q => ∃ i b dy gs, x = .int i ∧ y = .ref b ∧ H b = some (.ins C dy gs) ∧ sp [.ref b, .int i] H Q E
section
variable {X : Cx} {CX : CXT} {n : Nat} {g r C : Addr} {sp : Sp} {E : XK}
theorem op_binR {op : Operator} {fo ro : Option Value} (B : BinC X.K C op.info.2 g r) (h1 : PySem.W.findIn X.K (.type "int") (PySem.dunder op.info.2) = some fo) (h2 : PySem.W.findIn X.K (.type "int") (dunderR op.info.2) = some ro)
    (hl : ((fo.isSome && !isSeqSlot fo) || (ro.isSome && !isSeqSlot ro)) = true) (hsub : PySem.W.subIn X.K (.ref C) (.type "int") = some false)
    (hd : ∀ {s : Shared} {x : Addr} {ox : Obj} {od : Option Obj} {i : Int} {t : Tok}, PySem.W.InstAt s.heap x ox C od → ox.data = .plain → ∀ (E : Value → Shared → Prop) (Q : Option Value → Shared → Prop), Q none s → wpAny (model X.prog X.w) X.A (tryMethod (.int i t) (PySem.dunder op.info.2) (.ref x)) Q E s)
    (F : FnR X.prog X.w X.K X.mg X.base CX n r sp) (rm : Room n X.A) (hx : Passes CX X E) : OpR X (binaryOp op) (rBinR C sp E) := by
  intro pins s σ H x y v u Q I rx ry h
  obtain ⟨i, b, dy, gs, rfl, rfl, hb, q⟩ := h
  obtain ⟨t, rfl⟩ := rx
  cases (show u = Value.ref b from ry)
  obtain ⟨oy, od, J, hp⟩ := ins_at I hb
  obtain ⟨m, hF⟩ := I.fr
  have run : wpAny (model X.prog X.w) X.A (call (.ref r) [.ref b, .int i t]) (PySem.W.CmpBack (EP X pins σ Q)) X.xe s :=
    wpAny_mono (wpAny_call (run_fnR (us := [.ref b, .int i t]) (vs := [.ref b, .int i]) F rm hx I (.cons rfl (.cons ⟨t, rfl⟩ .nil)) q)) (fun w s2 z => by
      obtain ⟨z', H', I', rz, qz⟩ := z
      exact SlX.cmpback rz ⟨z', H', I', rz, qz⟩) fun _ _ x => x
  exact PySem.W.em_rbin hF I.ok.mod.kin J B.first B.at_ B.rat B.rfn h1 h2 hl hsub (fun E Q' q' => hd J (by first | exact hp | exact hp.1 | exact hp.2 | exact hp.1.1) E Q' q') run
end
end EM
/-! EM30: abs(x), not x of an instance with its own __abs__, __bool__. -/
namespace PySem.W
open PySem PySem.Calls PyProof.Rows Builtin
theorem em_abs {prog : Program} {w : World} {A : Around} {K : Frag} {s : Shared} {x f C : Addr} {ox : Obj} {od : Option Obj} {E : Value → Shared → Prop} {Q : Value → Shared → Prop} (X : K.In s.heap) (I : InstAt s.heap x ox C od)
    (hr : findIn K (.ref C) "__abs__" = some (some (.ref f))) (hf : isFn K (.ref f) = true) (h : wpAny (model prog w) A.in1 (call (.ref f) [.ref x]) Q E s) :
    wpAny (model prog w) A (call (.builtin "abs") [.ref x]) Q E s := by
  refine Calls.call_function_entry PyProof.Rows.kind_abs PyProof.Rows.plain_abs PyProof.Rows.entry_abs (PyProof.Rows.args_abs _) ?_
  unfold Builtin.«abs»
  refine wpAny_bind (m := oneArg "abs" _) (wpAny_pure ?_)
  refine wpAny_bind (m := callSpecial? (.ref x) (Str.ofString "__abs__")) (special_fn X I hr (beq_iff_eq.mp hf) (wpAny_mono h (fun r s2 hq => ?_) fun _ _ y => y))
  exact wpAny_pure ⟨_, rfl, hq⟩
end PySem.W
namespace EM
open PySem PySem.Spec PyProof.Rows L2
def rAbsO (C : Addr) (sp : Sp) (E : XK) : List V → Hp → VK → Prop := fun xs H Q => ∃ a dx fs, xs = [.ref a] ∧ H a = some (.ins C dx fs) ∧ sp [.ref a] H Q E
section
variable {X : Cx} {CX : CXT} {n : Nat} {g C : Addr} {sp : Sp} {E : XK} {e : Expr} {te : TE} {pos : Pos}
theorem call_absO (hs : PySem.W.findIn X.K (.ref C) "__abs__" = some (some (.ref g))) (hf : PySem.W.isFn X.K (.ref g) = true) (F : FnR X.prog X.w X.K X.mg X.base CX n g sp) (hr : Room (n + 1) X.A) (hx : Passes CX X E) : CallR X (.builtin "abs") (rAbsO C sp E) := by
  intro pins s σ H xs us Q I r h
  obtain ⟨a, dx, fs, rfl, ha, q⟩ := h
  cases r with
  | cons rx rr =>
    cases rr
    rename_i u
    cases (show u = Value.ref a from rx)
    obtain ⟨ox, od, J, _⟩ := ins_at I ha
    refine PySem.W.em_abs I.kIn J hs hf ?_
    exact wpAny_call (SlX.run_at (us := [.ref a]) (ws := [.ref a]) F hr.in1 I.env0.in1 hx I (.cons rfl .nil) q)
/-- the truth of an instance with its own __bool__ -/
def tTruO (C : Addr) (sp : Sp) (E : XK) (te : TE) : TT := fun σ H Q => te σ H fun x H1 => ∃ a dx fs, x = .ref a ∧ H1 a = some (.ins C dx fs) ∧ sp [.ref a] H1 (fun z H' => ∃ k, z = .bl k ∧ Q k H') E
theorem pt_truO (hs : PySem.W.findIn X.K (.ref C) "__bool__" = some (some (.ref g))) (hf : PySem.W.isFn X.K (.ref g) = true) (F : FnR X.prog X.w X.K X.mg X.base CX n g sp) (hr : Room n X.A) (hx : Passes CX X E) (he : PE X e te)
    (hp : ∀ whole, isTrue e X.env whole = (do let v ← whole; standAt e.pos; holding [v] (truthy v)) := by intro _; rfl) : PT X e (tTruO C sp E te) := by
  refine ⟨fun pins s σ H Q I h => ?_⟩
  refine isTrue_plain (thn (he.run pins s σ H _ I h) fun v s1 ⟨x, H1, I1, r1, a, dx, fs, ex, ha, q1⟩ => ?_) (hp _)
  subst ex
  cases (show v = Value.ref a from r1)
  obtain ⟨ox, od, J, _⟩ := ins_at I1 ha
  obtain ⟨m, hF⟩ := I1.fr
  refine PySem.W.truthy_K hF I1.ok.mod.kin J hs hf ?_
  refine wpAny_mono (wpAny_call (run_fnR (us := [.ref a]) (vs := [.ref a]) F hr hx I1 (.cons rfl .nil) q1)) (fun w s2 z => ?_) fun _ _ x => x
  obtain ⟨z', H', I', rz, k, ez, qz⟩ := z
  subst ez
  cases (show w = Value.bool k from rz)
  exact ⟨H', I', qz⟩
end
end EM
/-! EM31: two readings of one operator; bool(x) of an instance; op= without an own one; C() of an own error; o.m(k = v). -/
namespace PySem.W
open PySem PySem.Calls PyProof.Rows Builtin
section
variable {prog : Program} {w : World} {A : Around} {K : Frag} {s : Shared} {x f C L : Addr} {h₀ : Heap} {m : Str → Option Value} {ox : Obj} {od : Option Obj} {E : Value → Shared → Prop}
theorem em_boolNew {z : Value} : MeetsIn prog w (Builtin.«bool.__new__» ⟨[.type "bool", z], []⟩) (fun A R s => wpAny (model prog w) A.in1 (truthy z) (fun b s2 => R (.ok (.ret (.bool b))) s2) (fun e s2 => R (.error e) s2) s) := by
  refine MeetsIn.of_wp fun A R s hs => ?_
  have f1 := F.conv_sub_bool
  unfold Builtin.«bool.__new__»
  dsimp only
  refine wpAny_bind (m := isType (.type "bool")) (wpAny_pure ?_)
  refine wpAny_bind (m := isSubtype (.type "bool") (.type "bool")) ((Looks.of_pure f1).here ?_)
  refine wpAny_bind (m := someArgs "bool" 0 1 _) (wpAny_pure ?_)
  refine wpAny_bind (m := truthy z) (wpAny_mono hs (fun b s2 h => ?_) fun _ _ y => y)
  exact wpAny_pure ⟨_, rfl, h⟩
theorem em_bool {z : Value} {Q : Value → Shared → Prop} (h : wpAny (model prog w) A.in1.in1 (truthy z) (fun b s2 => Q (.bool b) s2) E s) : wpAny (model prog w) A (call (.type "bool") [z]) Q E s := by
  refine callType_newIn F.called_bool F.newNe_bool (F.typeCall_bool_1 z) (F.newCall_bool_1 z) (fun obj => F.args_object_init_2 obj z) F.entry_bool_new em_boolNew ?_
  exact wpAny_mono h (fun b s2 q => ⟨rfl, q⟩) fun _ _ y => y
end
end PySem.W
namespace PySem.W
open PySem PySem.Calls PyProof.Rows
/-- no op= of the class's own: its line is itself and object -/
def noInB (K : Frag) (C : Addr) (nm : String) : Bool := (match clsIn K C with
  | some cd => decide (cd.mro = [.ref C, .type "object"])
  | none => false) && (decide (findIn K (.ref C) (dunderI nm) = some none) && decide (findIn K (.type "object") (dunderI nm) = some none))
section
variable {prog : Program} {w : World} {A : Around} {K : Frag} {s : Shared} {x f r C L : Addr} {h₀ : Heap} {m : Str → Option Value} {ox oy : Obj} {od : Option Obj} {E : Value → Shared → Prop}
theorem em_noIn {nm : String} {add : Bool} (q : noInB K C nm = true) (X : K.In s.heap) : Looks (model prog w) s.heap (fillsInplaceSlot (.ref C) nm add) false := by
  obtain ⟨q1, q2⟩ := Bool.and_eq_true_iff.mp q
  obtain ⟨q2, q3⟩ := Bool.and_eq_true_iff.mp q2
  have q2 := of_decide_eq_true q2
  have q3 := of_decide_eq_true q3
  cases hc : clsIn K C with
  | none => rw [hc] at q1; cases q1
  | some cd =>
    rw [hc] at q1
    have hm : cd.mro = [.ref C, .type "object"] := of_decide_eq_true q1
    intro A Q E s2 k z
    have X2 := X.keeps k
    have Lm : Looks (model prog w) s2.heap (mroOf (.ref C)) cd.mro := (looks_clsIn X2 hc).andThen (f := fun cd => pure cd.mro) .now
    have Lc : Looks (model prog w) s2.heap (typeLookup (.ref C) (dunderI nm)) none := looks_findIn X2 q2
    have Lo : Looks (model prog w) s2.heap (typeLookup (.type "object") (dunderI nm)) none := looks_findIn X2 q3
    unfold fillsInplaceSlot
    refine wpAny_bind (Lm.here ?_)
    rw [hm, List.anyM_cons]
    refine wpAny_bind (wpAny_bind (Lc.here (wpAny_pure ?_)))
    rw [List.anyM_cons]
    refine wpAny_bind (wpAny_bind (Lo.here (wpAny_pure ?_)))
    exact wpAny_pure z
theorem em_inplace {op : Operator} {b : Value} {Q : Value → Shared → Prop} (X : K.In s.heap) (I : InstAt s.heap x ox C od) (q : noInB K C op.info.2 = true)
    (h : wpAny (model prog w) A (binaryOp1 op.info.2 (.ref x) b) (fun r s2 => ∃ v, r = some v ∧ Q v s2) E s) : wpAny (model prog w) A (inplaceOp op (.ref x) b) Q E s := by
  unfold inplaceOp
  refine wpAny_holding (wpAny_bind (I.type.here (wpAny_bind ((em_noIn q X).here ?_))))
  simp only [Bool.false_eq_true, if_false]
  refine wpAny_bind (m := binaryOp1 _ _ _) (wpAny_mono h (fun z s2 hz => ?_) fun _ _ y => y)
  obtain ⟨v, rfl, hq⟩ := hz
  exact wpAny_pure hq
/-- the first road of a binary operator: the instance's own def -/
theorem em_bin1 {nm : String} {b tb : Value} {lo : Bool} {Q : Value → Shared → Prop} (X : K.In s.heap) (I : InstAt s.heap x ox C od) (hb : Looks (model prog w) s.heap (typeOf b) tb) (hc : selfFirst K C = true)
    (hs : findIn K (.ref C) (PySem.dunder nm) = some (some (.ref f))) (hf : isFn K (.ref f) = true) (hr : findIn K (.ref C) (dunderR nm) = some (some (.ref r)))
    (hk : tb = .ref C ∨ ∃ T fo ro, tb = .type T ∧ findIn K (.type T) (PySem.dunder nm) = some fo ∧ findIn K (.type T) (dunderR nm) = some ro ∧ subIn K (.type T) (.ref C) = some false)
    (h : wpAny (model prog w) A (call (.ref f) [.ref x, b]) (CmpBack Q) E s) : wpAny (model prog w) A (binaryOp1 nm (.ref x) b) (fun r s2 => ∃ v, r = some v ∧ Q v s2) E s := by
  obtain ⟨cd, rest, hcd, hm⟩ := ksp_first hc
  have one := ksp_try X I hs hf h
  have t1 : Looks (model prog w) s.heap (typeOf (.ref x)) (.ref C) := I.type
  have t3 : Looks (model prog w) s.heap (fillsNumberSlot (.ref C) nm) true := fills_K X hcd hm hs
  have t6 : Looks (model prog w) s.heap (numberSlotInPython (.ref C) nm) true := ksp_inPy X hs hr (.inr ⟨_, rfl⟩)
  have fin : ∀ (k : Option Value → Sem (Option Value)), (∀ v, k (some v) = pure (some v)) → wpAny (model prog w) A (tryMethod (.ref x) (PySem.dunder nm) b >>= k) (fun r s2 => ∃ v, r = some v ∧ Q v s2) E s := fun k hk => by
    refine wpAny_bind (wpAny_mono one (fun z s2 hz => ?_) fun _ _ y => y)
    obtain ⟨v, rfl, hq⟩ := hz
    rw [hk]
    exact wpAny_pure ⟨v, rfl, hq⟩
  unfold binaryOp1
  refine wpAny_bind (t1.here (wpAny_bind (hb.here (wpAny_bind (t3.here ?_)))))
  rcases hk with rfl | ⟨T, fo, ro, rfl, h1, h2, hsub⟩
  · simp only [beq_self_eq_true, if_true]
    refine wpAny_bind (wpAny_pure ?_)
    simp only [Bool.and_false, Bool.false_eq_true, if_false, Bool.false_and]
    refine wpAny_bind (wpAny_pure ?_)
    simp only [Bool.false_eq_true, if_false, if_true]
    exact fin _ fun v => rfl
  · have hne : (Value.ref C == Value.type T) = false := Bool.eq_false_iff.mpr fun q => by cases beq_iff_eq.mp q
    have t4 : Looks (model prog w) s.heap (fillsNumberSlot (.type T) nm) ((fo.isSome && !isSeqSlot fo) || (ro.isSome && !isSeqSlot ro)) := ksp_fillsT X h1 h2
    have t5 : Looks (model prog w) s.heap (isSubtype (.type T) (.ref C)) false := looks_subIn X hsub
    have t7 : Looks (model prog w) s.heap (numberSlotInPython (.type T) nm) false := Looks.of_pure rfl
    have t8 : Looks (model prog w) s.heap (typeLookup (.type T) (dunderR nm)) ro := looks_findIn X h2
    simp only [hne, Bool.false_eq_true, if_false]
    refine wpAny_bind (t4.here ?_)
    cases ((fo.isSome && !isSeqSlot fo) || (ro.isSome && !isSeqSlot ro)) with
    | false =>
      simp only [Bool.and_false, Bool.false_eq_true, if_false, Bool.false_and]
      refine wpAny_bind (wpAny_pure ?_)
      simp only [Bool.false_eq_true, if_false, if_true]
      exact fin _ fun v => rfl
    | true =>
      simp only [Bool.and_self, Bool.false_eq_true, if_false, if_true, Bool.true_and, Bool.not_false]
      refine wpAny_bind (t5.here ?_)
      simp only [Bool.false_eq_true, if_false, if_true, Bool.not_false]
      refine wpAny_bind (t6.here ?_)
      simp only [Bool.false_eq_true, if_false, if_true, Bool.not_false]
      refine wpAny_bind (t7.here ?_)
      simp only [Bool.false_eq_true, if_false, if_true, Bool.not_false]
      refine wpAny_bind (t8.here ?_)
      exact fin _ fun v => rfl
end
end PySem.W
namespace EM
open PySem PySem.Spec PyProof.Rows L2
section
variable {X : Cx} {CX : CXT} {n k : Nat} {g r C : Addr} {sp : Sp} {E : XK} {o e : Expr} {es : List Expr} {ta te : TE} {t tk : TA} {m : Str} {apos pos p : Pos}
/-- one of two readings -/
theorem op_two {f : Value → Value → Sem Value} {r1 r2 : R2} (h1 : OpR X f r1) (h2 : OpR X f r2) : OpR X f (fun x y H Q => r1 x y H Q ∨ r2 x y H Q) := by
  intro pins s σ H x y v u Q I rx ry h
  rcases h with h | h
  · exact h1 pins s σ H x y v u Q I rx ry h
  · exact h2 pins s σ H x y v u Q I rx ry h
theorem un_two {f : Value → Sem Value} {r1 r2 : V → Hp → VK → Prop} (h1 : UnR X f r1) (h2 : UnR X f r2) : UnR X f (fun x H Q => r1 x H Q ∨ r2 x H Q) := by
  intro pins s σ H x v Q I rx h
  rcases h with h | h
  · exact h1 pins s σ H x v Q I rx h
  · exact h2 pins s σ H x v Q I rx h
theorem call_two {f : Value} {r1 r2 : List V → Hp → VK → Prop} (h1 : CallR X f r1) (h2 : CallR X f r2) : CallR X f (fun xs H Q => r1 xs H Q ∨ r2 xs H Q) := by
  intro pins s σ H xs us Q I r h
  rcases h with h | h
  · exact h1 pins s σ H xs us Q I r h
  · exact h2 pins s σ H xs us Q I r h
/-- bool(x) -/
def rBoolO (C : Addr) (sp : Sp) (E : XK) : List V → Hp → VK → Prop := fun xs H Q => ∃ a dx fs, xs = [.ref a] ∧ H a = some (.ins C dx fs) ∧ sp [.ref a] H (fun z H' => ∃ k, z = .bl k ∧ Q (.bl k) H') E
theorem call_boolO (hs : PySem.W.findIn X.K (.ref C) "__bool__" = some (some (.ref g))) (hf : PySem.W.isFn X.K (.ref g) = true) (F : FnR X.prog X.w X.K X.mg X.base CX n g sp) (hr : Room (n + 2) X.A) (hx : Passes CX X E) : CallR X (.type "bool") (rBoolO C sp E) := by
  intro pins s σ H xs us Q I r h
  obtain ⟨a, dx, fs, rfl, ha, q⟩ := h
  cases r with
  | cons rx rr =>
    cases rr
    rename_i u
    cases (show u = Value.ref a from rx)
    obtain ⟨ox, od, J, _⟩ := ins_at I ha
    obtain ⟨m, hF⟩ := I.fr
    refine PySem.W.em_bool (PySem.W.truthy_K hF I.ok.mod.kin J hs hf ?_)
    have c := SlX.run_at (us := [.ref a]) (ws := [.ref a]) F hr.in1.in1 I.env0.in1.in1 hx I (.cons rfl .nil) q
    refine wpAny_mono (wpAny_call c) (fun w s2 z => ?_) fun _ _ x => x
    obtain ⟨z', H', I', rz, k, ez, qz⟩ := z
    subst ez
    cases (show w = Value.bool k from rz)
    exact ⟨.bl k, H', I', rfl, qz⟩
/-- x op= y of an instance without an own op= -/
theorem iop_binO {op : Operator} {fo ro : Option Value} (B : BinC X.K C op.info.2 g r) (hn : PySem.W.noInB X.K C op.info.2 = true) (h1 : PySem.W.findIn X.K (.type "int") (PySem.dunder op.info.2) = some fo) (h2 : PySem.W.findIn X.K (.type "int") (dunderR op.info.2) = some ro)
    (F : FnR X.prog X.w X.K X.mg X.base CX n g sp) (rm : Room n X.A) (hx : Passes CX X E) : OpR X (inplaceOp op) (rBinO C sp E) := by
  intro pins s σ H x y v u Q I rx ry h
  obtain ⟨a, dx, fs, rfl, ha, hy, q⟩ := h
  cases (show v = Value.ref a from rx)
  obtain ⟨ox, od, J, _⟩ := ins_at I ha
  have run : wpAny (model X.prog X.w) X.A (call (.ref g) [.ref a, u]) (PySem.W.CmpBack (EP X pins σ Q)) X.xe s :=
    wpAny_mono (wpAny_call (run_fnR (us := [.ref a, u]) (vs := [.ref a, y]) F rm hx I (.cons rfl (.cons ry .nil)) q)) (fun w s2 z => by
      obtain ⟨z', H', I', rz, qz⟩ := z
      exact SlX.cmpback rz ⟨z', H', I', rz, qz⟩) fun _ _ x => x
  refine PySem.W.em_inplace I.kIn J hn ?_
  rcases hy with ⟨b, dy, gs, rfl, hb⟩ | ⟨i, rfl⟩
  · cases (show u = Value.ref b from ry)
    obtain ⟨oy, od', J', _⟩ := ins_at I hb
    exact PySem.W.em_bin1 (lo := true) I.kIn J J'.type B.first B.at_ B.fn B.rat (.inl rfl) run
  · obtain ⟨t, rfl⟩ := ry
    exact PySem.W.em_bin1 (lo := true) I.kIn J (PySem.W.Looks.of_pure rfl) B.first B.at_ B.fn B.rat (.inr ⟨"int", fo, ro, rfl, h1, h2, B.sub⟩) run
/-- C() of an own error without an own __init__ -/
theorem pmk_own0 {bmB : List Value} {B newId initId : String} {x : Str} (F : ExcBaseFacts B newId initId bmB) (q : PySem.W.excIn X.K C bmB newId = true) (gC : X.mg x = some (.ref C)) (kC : PySem.W.keepIn X.K (.ref C) = true) (rz : Raises X (.ref C)) (hg : Gl X x := by rfl)
    (hdb : (x == ("__debug__" : Str)) = false := by decide) : PMk X (.Call (.Name x p) [] [] pos) (fun _ H Q => Q (.ref C) none H) := by
  intro pins s σ H Q I h
  refine wpAny_Call_Name_kw (ld_glob I hg gC ?_ hdb)
  refine PySem.W.callWith_K0 I.kIn kC ?_
  obtain ⟨bm, N, nm, qn, bs, hdct, sn, sub, ab, col, dd, k0, k1, k2, k3, k5, mN, hC, hN, hni, T⟩ := exc_obj I.kIn q
  refine wpAny_call_exc_subT F T hC hN hni (fun h2 e hm => ?_) (by show 0 ≤ sizeLine; exact Nat.zero_le _)
  exact mk_of I hm rz h (I.hok.gone hm.new)
/-- o.m(k = v, ..) of an instance with a dict -/
def tMK (C : Addr) (m : Str) (sp : Sp2) (E : XK) (ta : TE) (tk : TA) : TE := fun σ H Q => ta σ H fun x H1 => ∃ a dx fs, x = V.ref a ∧ H1 a = some (.ins C dx fs) ∧ fs.lookup m = none ∧ tk σ H1 fun zs H2 => sp [x] zs H2 Q E
theorem pe_mK {f : Addr} {ks : List Str} {kws : List Keyword} {sp : Sp2} {pl : Sem Bool} (he : PE X o ta) (c : Cls X.K C) (hm : Meth X.K C m f) (F : FnK X.prog X.w X.K X.mg X.base CX k f ks sp) (hr : Room k X.A) (hx : Passes CX X E) (hkw : PK X kws tk)
    (hall : (backToKw pos (keywordEach kws X.env)).all (·.1.isSome) = true := by rfl) (hks : (backToKw pos (keywordEach kws X.env)).filterMap (·.1) = ks := by rfl)
    (hpl : ((backTo pos (starEach [] X.env)).any (·.1) || (backToKw pos (keywordEach kws X.env)).any (·.1.isNone)) = false := by rfl)
    (ht : eval (.Call (.Attribute o m apos) [] kws pos) X.env = (do
      let ov ← eval o X.env
      standAt apos.atName
      let (f, first) ← holding [ov] (getMethod ov m pl)
      callWith pos f first (backTo pos (starEach [] X.env)) (backToKw pos (keywordEach kws X.env))) := by rfl) :
    PE X (.Call (.Attribute o m apos) [] kws pos) (tMK C m sp E ta tk) := by
  refine ⟨fun pins s σ H Q I h => ?_⟩
  refine PySem.W.methodCall_KW (pl := pl) (thn (he.run pins s σ H _ I h) fun u s1 ⟨x, H1, I1, rx, a, dx, fs, ex, ea, l, q⟩ => ?_) ht
  subst ex
  obtain rfl : u = Value.ref a := rx
  refine getmeth_ok I1 ea c hm l ?_
  refine PySem.W.callWith_KW0 (first := [.ref a]) (h₀ := X.base) I.ok.mod.kin hm.kp hall ?_ hpl
  refine thn (hkw.run pos pins s1 σ H1 _ I1 q) fun ws s2 ⟨zs, H2, I2, rz, q2⟩ => ⟨I2.kIn, ?_⟩
  rw [hks]
  exact run_fnK (us := [.ref a]) (vs := [.ref a]) F hr hx I2 (.cons rfl .nil) rz q2
end
end EM
/-! EM32: numbers: Ratios in lowest terms and ints; what their operators promise. -/
namespace EM
open PySem PySem.Spec PyProof.Rows L2
structure Low (t b : Int) : Prop where
  pos : 0 < b
  red : Int.gcd t b = 1
def Bt (n : Nat) (i : Int) : Prop := i.natAbs < 2 ^ n
theorem Bt.mono {n m : Nat} {i : Int} (h : Bt n i) (e : n ≤ m) : Bt m i := Nat.lt_of_lt_of_le h (Nat.pow_le_pow_right (by decide) e)
theorem Bt.log {n : Nat} {i : Int} (h : Bt n i) (h0 : 0 < n) : i.natAbs.log2 < n := PySem.Flt.log2_lt_of h0 h
theorem Bt.le {n : Nat} {i j : Int} (h : Bt n i) (e : j.natAbs ≤ i.natAbs) : Bt n j := Nat.lt_of_le_of_lt e h
theorem Bt.mul {n m : Nat} {i j : Int} (h : Bt n i) (g : Bt m j) : Bt (n + m) (i * j) := wide_lt h g
theorem Bt.neg {n : Nat} {i : Int} (h : Bt n i) : Bt n (-i) := h.le (by omega)
theorem Bt.add {n : Nat} {i j : Int} (h : Bt n i) (g : Bt n j) : Bt (n + 1) (i + j) := by
  have h1 : i.natAbs < 2 ^ n := h
  have h2 : j.natAbs < 2 ^ n := g
  show (i + j).natAbs < 2 ^ (n + 1)
  rw [Nat.pow_succ]
  omega
theorem Bt.lt {n : Nat} {i : Int} (h : i < (2 : Int) ^ n) (g : -((2 : Int) ^ n) < i) : Bt n i := by
  have e : ((2 ^ n : Nat) : Int) = (2 : Int) ^ n := by
    rw [Int.natCast_pow]
    rfl
  show i.natAbs < 2 ^ n
  omega
theorem wideB {n m : Nat} {i j : Int} (h : Bt n i) (g : Bt m j) (h0 : 0 < n := by decide) (h1 : 0 < m := by decide) (e : n + m ≤ 1000000 := by decide) : CMulW i j := wide_mul h g h0 h1 e
theorem shr_dvd {t b : Int} : shr t b ∣ t ∧ shr t b ∣ b := by
  unfold shr
  split
  · exact ⟨Int.neg_dvd.mpr (Int.gcd_dvd_left ..), Int.neg_dvd.mpr (Int.gcd_dvd_right ..)⟩
  · exact ⟨Int.gcd_dvd_left .., Int.gcd_dvd_right ..⟩
theorem n_mul {t b : Int} : nTop t b * shr t b = t ∧ nBot t b * shr t b = b := by
  obtain ⟨h1, h2⟩ := shr_dvd (t := t) (b := b)
  exact ⟨Int.fdiv_mul_cancel h1, Int.fdiv_mul_cancel h2⟩
theorem n_low {t b : Int} (h : b ≠ 0) : Low (nTop t b) (nBot t b) := ⟨bot_gt h, n_gcd h⟩
theorem n_cross {t b : Int} : nTop t b * b = t * nBot t b := by
  obtain ⟨h1, h2⟩ := n_mul (t := t) (b := b)
  have e1 : nTop t b * b = nTop t b * (nBot t b * shr t b) := by rw [h2]
  have e2 : t * nBot t b = nTop t b * shr t b * nBot t b := by rw [h1]
  rw [e1, e2, Int.mul_assoc, Int.mul_comm (shr t b)]
theorem low_eq {t b u c : Int} (h : Low t b) (g : Low u c) (e : t * c = u * b) : t = u ∧ b = c := by
  have d1 : b ∣ c := by
    have : b ∣ t * c := ⟨u, by rw [e, Int.mul_comm]⟩
    have : b.natAbs ∣ t.natAbs * c.natAbs := by
      rw [← Int.natAbs_mul]
      exact Int.natAbs_dvd_natAbs.mpr this
    have co : Nat.Coprime b.natAbs t.natAbs := by
      rw [Nat.coprime_iff_gcd_eq_one, Nat.gcd_comm]
      exact h.red
    exact Int.natAbs_dvd_natAbs.mp (Nat.Coprime.dvd_of_dvd_mul_left co this)
  have d2 : c ∣ b := by
    have : c ∣ u * b := ⟨t, by rw [← e, Int.mul_comm]⟩
    have : c.natAbs ∣ u.natAbs * b.natAbs := by
      rw [← Int.natAbs_mul]
      exact Int.natAbs_dvd_natAbs.mpr this
    have co : Nat.Coprime c.natAbs u.natAbs := by
      rw [Nat.coprime_iff_gcd_eq_one, Nat.gcd_comm]
      exact g.red
    exact Int.natAbs_dvd_natAbs.mp (Nat.Coprime.dvd_of_dvd_mul_left co this)
  have p1 := h.pos
  have p2 := g.pos
  have eb : b = c := Int.le_antisymm (Int.le_of_dvd p2 d1) (Int.le_of_dvd p1 d2)
  subst eb
  exact ⟨Int.eq_of_mul_eq_mul_right (by omega) e, rfl⟩
theorem n_eq {t b u c : Int} (hb : b ≠ 0) (hc : c ≠ 0) (e : t * c = u * b) : nTop t b = nTop u c ∧ nBot t b = nBot u c := by
  refine low_eq (n_low hb) (n_low hc) ?_
  have h1 := n_cross (t := t) (b := b)
  have h2 := n_cross (t := u) (b := c)
  refine Int.eq_of_mul_eq_mul_right (a := b * c) (by simp [hb, hc]) ?_
  calc nTop t b * nBot u c * (b * c) = (nTop t b * b) * (nBot u c * c) := by ac_rfl
    _ = t * nBot t b * (nBot u c * c) := by rw [h1]
    _ = (t * c) * (nBot t b * nBot u c) := by ac_rfl
    _ = (u * b) * (nBot t b * nBot u c) := by rw [e]
    _ = (u * nBot u c) * nBot t b * b := by ac_rfl
    _ = (nTop u c * c) * nBot t b * b := by rw [h2]
    _ = nTop u c * nBot t b * (b * c) := by ac_rfl
theorem n_self {t b : Int} (h : Low t b) : nTop t b = t ∧ nBot t b = b := n_red h.red h.pos
theorem low_neg {t b : Int} (h : Low t b) : Low (-t) b := ⟨h.pos, by
  show Nat.gcd (-t).natAbs b.natAbs = 1
  rw [Int.natAbs_neg]
  exact h.red⟩
theorem low_one (i : Int) : Low i 1 := ⟨by decide, Int.gcd_one_right i⟩
theorem n_neg {t b : Int} (h : b ≠ 0) : nTop (-t) b = -nTop t b ∧ nBot (-t) b = nBot t b := by
  refine low_eq (n_low h) (low_neg (n_low h)) ?_
  have h1 := n_cross (t := t) (b := b)
  have h2 := n_cross (t := -t) (b := b)
  refine Int.eq_of_mul_eq_mul_right (a := b) h ?_
  calc nTop (-t) b * nBot t b * b = (nTop (-t) b * b) * nBot t b := by ac_rfl
    _ = -t * nBot (-t) b * nBot t b := by rw [h2]
    _ = -(t * nBot t b) * nBot (-t) b := by rw [Int.neg_mul, Int.neg_mul, Int.neg_mul]; ac_rfl
    _ = -(nTop t b * b) * nBot (-t) b := by rw [h1]
    _ = -nTop t b * nBot (-t) b * b := by rw [Int.neg_mul, Int.neg_mul, Int.neg_mul]; ac_rfl
theorem n_bt {t b : Int} {n m : Nat} (h : b ≠ 0) (ht : Bt n t) (hb : Bt m b) : Bt n (nTop t b) ∧ Bt m (nBot t b) := ⟨ht.le (n_abs h).1, hb.le (n_abs h).2⟩
/-! ### numbers -/
def Num (K : PySem.W.Frag) (H : Hp) (v : V) (t b : Int) : Prop := Low t b ∧ ((∃ a, v = .ref a ∧ RatAt K H a t b) ∨ (v = .int t ∧ b = 1))
theorem Num.same {K : PySem.W.Frag} {H H' : Hp} {v : V} {t b : Int} (h : Num K H v t b) (e : Same H H') : Num K H' v t b := by
  obtain ⟨l, h⟩ := h
  refine ⟨l, ?_⟩
  rcases h with ⟨a, rfl, r⟩ | h
  · exact .inl ⟨a, rfl, r.same e⟩
  · exact .inr h
theorem Num.rat {K : PySem.W.Frag} {H : Hp} {a : Addr} {t b : Int} (h : RatAt K H a t b) (l : Low t b) : Num K H (.ref a) t b := ⟨l, .inl ⟨a, rfl, h⟩⟩
theorem Num.int {K : PySem.W.Frag} {H : Hp} (i : Int) : Num K H (.int i) i 1 := ⟨low_one i, .inr ⟨rfl, rfl⟩⟩
/-- no number at all -/
def NoNum (K : PySem.W.Frag) (H : Hp) (v : V) : Prop := ∃ t b1 b2, TyX K H v t ∧ PySem.W.kitOne K t (.type "int") = some b1 ∧ PySem.W.kitOne K t (.type "bool") = some b2 ∧ (b1 && !b2) = false ∧ PySem.W.kitOne K t (.ref (He.ga K "Ratio")) = some false
/-- a new Ratio: x by y in lowest terms -/
def RatRes (K : PySem.W.Frag) (H : Hp) (Q : VK) (x y : Int) : Prop := ∀ p H', Same H H' → H p = none → RatAt K H' p (nTop x y) (nBot x y) → Q (.ref p) H'
def spIsNum (K : PySem.W.Frag) : Sp := fun vs H Q _ => ∃ v, vs = [v] ∧ ((((∃ a t b, v = .ref a ∧ RatAt K H a t b) ∨ ∃ i, v = .int i) ∧ Q (.bl true) H) ∨ (NoNum K H v ∧ Q (.bl false) H))
def spOfN (K : PySem.W.Frag) : Sp := fun vs H Q _ => ∃ v t b, vs = [v] ∧ Num K H v t b ∧ ∀ a H', Same H H' → RatAt K H' a t b → Q (.ref a) H'
theorem isNum {K : PySem.W.Frag} {H : Hp} {v : V} {t b : Int} {Q : VK} {E : XK} (h : Num K H v t b) (q : Q (.bl true) H) : spIsNum K [v] H Q E := by
  refine ⟨v, rfl, .inl ⟨?_, q⟩⟩
  rcases h with ⟨_, ⟨a, e, r⟩ | ⟨e, _⟩⟩
  · exact .inl ⟨a, t, b, e, r⟩
  · exact .inr ⟨t, e⟩
/-- two numbers, the first one a Ratio; all of at most n bits -/
structure Two (K : PySem.W.Frag) (H : Hp) (n : Nat) (x : Addr) (v : V) (t b u c : Int) : Prop where
  rat : RatAt K H x t b
  low : Low t b
  num : Num K H v u c
  bt : Bt n t
  bb : Bt n b
  bu : Bt n u
  bc : Bt n c
theorem Two.same {K : PySem.W.Frag} {H H' : Hp} {n : Nat} {x : Addr} {v : V} {t b u c : Int} (h : Two K H n x v t b u c) (e : Same H H') : Two K H' n x v t b u c := ⟨h.rat.same e, h.low, h.num.same e, h.bt, h.bb, h.bu, h.bc⟩
def spAdd (K : PySem.W.Frag) : Sp := fun vs H Q _ => ∃ x v t b u c, vs = [.ref x, v] ∧ Two K H 2000 x v t b u c ∧ RatRes K H Q (t * c + u * b) (b * c)
def spSub (K : PySem.W.Frag) : Sp := fun vs H Q _ => ∃ x v t b u c, vs = [.ref x, v] ∧ Two K H 2000 x v t b u c ∧ RatRes K H Q (t * c + -u * b) (b * c)
def spRsub (K : PySem.W.Frag) : Sp := fun vs H Q _ => ∃ x v t b u c, vs = [.ref x, v] ∧ Two K H 2000 x v t b u c ∧ RatRes K H Q (-t * c + u * b) (b * c)
def spMul (K : PySem.W.Frag) : Sp := fun vs H Q _ => ∃ x v t b u c, vs = [.ref x, v] ∧ Two K H 2000 x v t b u c ∧ RatRes K H Q (t * u) (b * c)
def spNeg (K : PySem.W.Frag) : Sp := fun vs H Q _ => ∃ x t b, vs = [.ref x] ∧ RatAt K H x t b ∧ Low t b ∧ b.natAbs.log2 < 9000 ∧ ∀ p H', Same H H' → H p = none → RatAt K H' p (-t) b → Q (.ref p) H'
def spAbs (K : PySem.W.Frag) : Sp := fun vs H Q _ => ∃ x t b, vs = [.ref x] ∧ RatAt K H x t b ∧ Low t b ∧ b.natAbs.log2 < 9000 ∧ ∀ p H', Same H H' → H p = none → RatAt K H' p (if t < 0 then -t else t) b → Q (.ref p) H'
def spBool (K : PySem.W.Frag) : Sp := fun vs H Q _ => ∃ x t b, vs = [.ref x] ∧ RatAt K H x t b ∧ Q (.bl (t != 0)) H
def spOver (K : PySem.W.Frag) : Sp := fun vs H Q E => ∃ x v t b u c, vs = [.ref x, v] ∧ Two K H 2000 x v t b u c ∧ (u ≠ 0 → RatRes K H Q (t * c) (b * u)) ∧ (u = 0 → ∀ H', Same H H' → E (.ref (He.ga K "NoDivisor")) none H')
end EM
namespace EM
open PySem PySem.Spec PyProof.Rows L2
theorem low_abs {t b : Int} (h : Low t b) : Low (if t < 0 then -t else t) b := by
  split
  · exact low_neg h
  · exact h
theorem mk_Rat {K : PySem.W.Frag} {H : Hp} {Q : VK} {E : XK} {x y : Int} (hy : y ≠ 0) (hl : y.natAbs.log2 < 9000) (k : RatRes K H Q x y) (p dx : Addr) (hp : H p = none) (hdx : H dx = none) (ndx : dx ≠ p) :
    spRat K [.ref p, .int x, .int y] (upd (upd H dx (.own p)) p (.ins (He.ga K "Ratio") dx [])) (fun v H2 => v = .non ∧ Q (.ref p) H2) E :=
  ⟨p, dx, x, y, rfl, upd_same, hy, hl, fun H' k' rat => ⟨rfl, k p H' (fun b o e => k' b o (by rw [upd_ne (ne_of_none e hp), upd_ne (ne_of_none e hdx)]; exact e) (ne_of_none e hp)) hp rat⟩⟩
theorem same_new {H H' : Hp} {p dx : Addr} {o1 o2 : HO} (k : ∀ c o, upd (upd H dx o1) p o2 c = some o → c ≠ p → H' c = some o) (hp : H p = none) (hdx : H dx = none) : Same H H' :=
  fun b o e => k b o (by rw [upd_ne (ne_of_none e hp), upd_ne (ne_of_none e hdx)]; exact e) (ne_of_none e hp)
theorem Num.kind {K : PySem.W.Frag} {H : Hp} {v : V} {t b : Int} (h : Num K H v t b) : (∃ a t b, v = .ref a ∧ RatAt K H a t b) ∨ ∃ i, v = .int i := by
  rcases h with ⟨_, ⟨a, e, r⟩ | ⟨e, _⟩⟩
  · exact .inl ⟨a, t, b, e, r⟩
  · exact .inr ⟨t, e⟩
theorem two_y {K : PySem.W.Frag} {H : Hp} {n : Nat} {x : Addr} {v : V} {t b u c : Int} (W : Two K H n x v t b u c) : (∃ b dy gs, v = .ref b ∧ H b = some (.ins (He.ga K "Ratio") dy gs)) ∨ ∃ i, v = .int i := by
  rcases W.num.2 with ⟨a, e, da, ha⟩ | ⟨e, _⟩
  · exact .inl ⟨a, da, _, e, ha⟩
  · exact .inr ⟨_, e⟩
/-- a def without defaults, called with some values by position and the rest by keyword, in order -/
theorem fnk1 {P : Program} {w : World} {K : PySem.W.Frag} {mg : Str → Option Value} {base : Heap} {x qual : Str} {params : Arguments} {body : List Stmt} {scope : Scope} {kws : List (Str × V)} {f : Addr} {fd : FuncData} {N ps ks : List Str} {k n : Nat} {sp : Sp}
    (F : FunD K x qual params body scope [] kws f fd) (S : FnScope N ps scope)
    (h : ∀ (kV doc pm : Value) (an : Option Addr) (cdv ct : Value) (us ws : List Value), us.length = n → ws.length = ks.length → bindArgs (PySem.W.fnOf x qual params body scope .none kV doc pm an cdv ct) ⟨us, ks.zip ws⟩ = pure (ps.zip (us ++ ws)))
    (len : ∀ vs H Q E, sp vs H Q E → vs.length = ps.length) (hbody : Bod P w K mg base N qual scope f body k sp) : FnK P w K mg base (L2.CX P w) (k + 1) f ks (fun vs zs H Q E => vs.length = n ∧ zs.length = ks.length ∧ sp (vs ++ zs) H Q E) := by
  refine fnk_of (g := fun us ws => us ++ ws) (gV := fun vs zs => vs ++ zs) (FunD.ok (P := P) (w := w) (mg := mg) (base := base) (CX := L2.CX P w) F S len hbody) ⟨fun s us ws X l1 l2 => ?_, fun r1 r2 => r1.append r2⟩
  obtain ⟨oc, od, dV, kV, doc, pm, an, cdv, ct, osl, rfl, lk, hcd, hD, hK⟩ := F.ex
  rcases hD with ⟨_, rfl⟩ | ⟨e, _⟩
  · exact .of_eq (h kV doc pm an cdv ct us ws l1 l2)
  · exact absurd rfl e
end EM
/-! EM33: the state of a law's own code: what is kept (Ext), what stands (At), the pen and the tables (Bs); displays told by New. -/
namespace EM
open PySem PySem.Spec PyProof.Rows L2
theorem pr {P : Prop} (h : P) : P := h
/-- a promise, not to be opened by itself -/
structure Sw (sp : Sp) (vs : List V) (H : Hp) (Q : VK) (E : XK) : Prop where
  h : sp vs H Q E
structure Sw2 (sp : Sp2) (vs zs : List V) (H : Hp) (Q : VK) (E : XK) : Prop where
  h : sp vs zs H Q E
section
variable {P : Program} {w : World} {K : PySem.W.Frag} {mg : Str → Option Value} {base : Heap} {CX : CXT} {k : Nat} {f : Addr} {sp : Sp} {sp2 : Sp2} {ks : List Str}
theorem _root_.L2.FnR.sw (F : FnR P w K mg base CX k f sp) : FnR P w K mg base CX k f (Sw sp) := F.imp fun _ _ _ _ h => h.h
theorem FnG.sw (F : FnG P w K mg base CX k f sp) : FnG P w K mg base CX k f (Sw sp) := fun A outer s H us vs Q E hr hG e0 r h => F A outer s H us vs Q E hr hG e0 r h.h
theorem FnK.sw (F : FnK P w K mg base CX k f ks sp2) : FnK P w K mg base CX k f ks (Sw2 sp2) := fun A outer s H us ws vs zs Q E hr e0 r rz h => F A outer s H us ws vs zs Q E hr e0 r rz h.h
end
/-- all but the pen and the tables stays -/
structure Ext (p : Addr) (H H' : Hp) : Prop where
  k : KeepN p H H'
structure At (p : Addr) (H : Hp) (a : Addr) (o : HO) : Prop where
  at_ : H a = some o
  ne : a ≠ p
  nt : ∀ ps, o ≠ .tbl ps
structure Bs (T : List (Addr × Str)) (p l : Addr) (n : Nat) (H : Hp) : Prop where
  pen : Pen H p l n
  tab : LamX.Tabs T H
structure New (H : Hp) (q : Addr) (o : HO) (H' : Hp) : Prop where
  free : H q = none
  same : Same H H'
  at_ : H' q = some o
section
variable {T : List (Addr × Str)} {p l q a : Addr} {n m : Nat} {H H1 H2 H' : Hp} {o : HO} {K : PySem.W.Frag}
theorem Ext.refl : Ext p H H := ⟨fun _ _ e _ _ => e⟩
theorem Ext.trans (x : Ext p H H1) (y : Ext p H1 H2) : Ext p H H2 := ⟨x.k.trans y.k⟩
theorem Ext.same (s : Same H H') : Ext p H H' := ⟨KeepN.of (Keep.of s)⟩
theorem Ext.keep (s : Keep p H H') : Ext p H H' := ⟨KeepN.of s⟩
theorem Ext.extN (s : LamX.ExtN H H') : Ext p H H' := ⟨KeepN.ext s⟩
theorem At.ext (x : Ext p H H') (h : At p H a o) : At p H' a o := ⟨x.k _ _ h.at_ h.ne h.nt, h.ne, h.nt⟩
theorem At.get (h : At p H a o) : H a = some o := h.at_
theorem At.sqL {xs : List V} (h : At p H a (.lst xs)) : SqL K H a xs := SqL.of h.at_
theorem At.sqT {xs : List V} (h : At p H a (.tup xs)) : SqT K H a xs := SqT.of h.at_
theorem Bs.same (B : Bs T p l n H) (s : Same H H') : Bs T p l n H' := ⟨B.pen.same s, B.tab.ext s⟩
theorem Bs.mono (B : Bs T p l n H) (e : n ≤ m) : Bs T p l m H := ⟨B.pen.mono e, B.tab⟩
theorem Bs.ext (B : Bs T p l n H) (s : LamX.ExtN H H') (t : LamX.Tabs T H') : Bs T p l n H' := ⟨B.pen.extN s, t⟩
theorem Bs.ne (B : Bs T p l n H) (h : H a = none) : a ≠ p := (B.pen.ne h).1
theorem Bs.nel (B : Bs T p l n H) (h : H a = none) : a ≠ l := (B.pen.ne h).2
theorem tabs_keep (t : LamX.Tabs T H) (P : Pen H p l n) (k : Keep p H H') : LamX.Tabs T H' := by
  obtain ⟨cells, at_, r, hp, _⟩ := P
  intro q hq
  obtain ⟨ps, h1, h2, h3⟩ := t q hq
  refine ⟨ps, k _ _ h1 (ne_of h1 hp (by intro z; cases z)), h2, fun pos cv hc => ?_⟩
  obtain ⟨c, e1, e2⟩ := h3 pos cv hc
  exact ⟨c, e1, k _ _ e2 (ne_of e2 hp (by unfold LamX.CodeO; intro z; cases z))⟩
theorem tabs_mut {xs : List V} (t : LamX.Tabs T H) (hM : H a = some (.lst xs)) : LamX.Tabs T (upd H a o) := by
  intro q hq
  obtain ⟨ps, h1, h2, h3⟩ := t q hq
  refine ⟨ps, by rw [upd_ne (ne_of h1 hM (by intro z; cases z))]; exact h1, h2, fun pos cv hc => ?_⟩
  obtain ⟨c, e1, e2⟩ := h3 pos cv hc
  exact ⟨c, e1, by rw [upd_ne (ne_of e2 hM (by unfold LamX.CodeO; intro z; cases z))]; exact e2⟩
/-- what is no list is not the pen -/
theorem Bs.at_ (B : Bs T p l n H) (h : H a = some o) (hl : ∀ xs, o ≠ .lst xs) (ht : ∀ ps, o ≠ .tbl ps) : At p H a o := by
  obtain ⟨cells, at_, r, hp, _⟩ := B.pen
  exact ⟨h, ne_of h hp (hl _), ht⟩
theorem Bs.new (B : Bs T p l n H) (x : New H q o H') (ht : ∀ ps, o ≠ .tbl ps) : At p H' q o := ⟨x.at_, B.ne x.free, ht⟩
theorem New.bs {G : Addr → Hp → Prop} (B : Bs T p l n H) (ht : ∀ ps, o ≠ .tbl ps) (k : ∀ q H', Ext p H H' → Bs T p l n H' → At p H' q o → H q = none → G q H') : ∀ q H', New H q o H' → G q H' :=
  fun q H' x => k q H' (Ext.same x.same) (B.same x.same) (B.new x ht) x.free
theorem New.upd {G : Addr → Hp → Prop} (k : ∀ q H', New H q o H' → G q H') : ∀ q, H q = none → G q (L2.upd H q o) := fun q h => k q _ ⟨h, same_upd h, upd_same⟩
theorem draw_bs {Q : VK} {E : XK} {many : Int} (B : Bs T p l n H) (h1 : n ≤ 1000000) (h2 : 1 ≤ many) (h3 : many < 10000000000000000000000000000000000000000000000000000000000000000000000000000000000000000000000000000)
    (k : ∀ d H', 0 ≤ d → d < many → Ext p H H' → Bs T p l (n + 1) H' → Q (.int d) H') : Sw spDraw [.ref p, .int many] H Q E :=
  ⟨⟨p, l, n, many, rfl, B.pen, h1, h2, h3, fun d H' d0 d1 k1 P1 => k d H' d0 d1 (Ext.keep k1) ⟨P1, tabs_keep B.tab B.pen k1⟩⟩⟩
theorem pick_bs {Q : VK} {E : XK} {xs : List V} (B : Bs T p l n H) (h1 : n ≤ 1000000) (ha : At p H a (.lst xs)) (h2 : 1 ≤ xs.length) (h3 : xs.length ≤ 1000000)
    (k : ∀ v H', v ∈ xs → Ext p H H' → Bs T p l (n + 1) H' → Q v H') : Sw spPick [.ref p, .ref a] H Q E :=
  ⟨⟨p, l, n, a, xs, rfl, B.pen, h1, ha.at_, ha.ne, h2, h3, fun v H' hv k1 P1 => k v H' hv (Ext.keep k1) ⟨P1, tabs_keep B.tab B.pen k1⟩⟩⟩
/-! ### Ratios and numbers that are not the pen -/
structure RatP (K : PySem.W.Frag) (p : Addr) (H : Hp) (a : Addr) (t b : Int) : Prop where
  rat : RatAt K H a t b
  ne : a ≠ p
theorem RatP.ext {t b : Int} (x : Ext p H H') (h : RatP K p H a t b) : RatP K p H' a t b := by
  obtain ⟨⟨dx, h⟩, n⟩ := h
  exact ⟨⟨dx, x.k _ _ h n (fun _ z => by cases z)⟩, n⟩
theorem RatP.get {t b : Int} (h : RatP K p H a t b) : RatAt K H a t b := h.rat
theorem RatP.of {t b : Int} (B : Bs T p l n H) (h : RatAt K H a t b) : RatP K p H a t b := by
  obtain ⟨dx, h⟩ := h
  obtain ⟨cells, at_, r, hp, _⟩ := B.pen
  exact ⟨⟨dx, h⟩, ne_of h hp (by intro z; cases z)⟩
structure NumP (K : PySem.W.Frag) (p : Addr) (H : Hp) (v : V) (t b : Int) : Prop where
  num : Num K H v t b
  ne : v ≠ .ref p
theorem NumP.get {v : V} {t b : Int} (h : NumP K p H v t b) : Num K H v t b := h.num
theorem NumP.ext {v : V} {t b : Int} (x : Ext p H H') (h : NumP K p H v t b) : NumP K p H' v t b := by
  obtain ⟨⟨lo, h⟩, n⟩ := h
  refine ⟨⟨lo, ?_⟩, n⟩
  rcases h with ⟨a, rfl, r⟩ | h
  · exact .inl ⟨a, rfl, (RatP.ext x ⟨r, fun z => n (by rw [z])⟩).rat⟩
  · exact .inr h
theorem RatP.num {t b : Int} (h : RatP K p H a t b) (lo : Low t b) : NumP K p H (.ref a) t b := ⟨Num.rat h.rat lo, fun z => h.ne (by cases z; rfl)⟩
theorem NumP.int (i : Int) : NumP K p H (.int i) i 1 := ⟨Num.int i, fun z => by cases z⟩
theorem RatRes.bs {Q : VK} {x y : Int} (B : Bs T p l n H) (k : ∀ a H', Ext p H H' → Bs T p l n H' → RatP K p H' a (nTop x y) (nBot x y) → Q (.ref a) H') : RatRes K H Q x y :=
  fun a H' s _ r => k a H' (Ext.same s) (B.same s) (RatP.of (B.same s) r)
theorem RatRes.to {Q : VK} {x y x' y' : Int} (k : RatRes K H Q x y) (e1 : x = x') (e2 : y = y') : RatRes K H Q x' y' := by
  subst e1 e2
  exact k
end
/-! ### readings that may be weakened -/
section
variable {X : Cx} {e : Expr} {es : List Expr} {t t' : TE} {ta : TA} {pos : Pos}
theorem _root_.L2.PE.of (h : PE X e t) (w : ∀ σ H Q, t' σ H Q → t σ H Q) : PE X e t' := ⟨fun pins s σ H Q I q => h.run pins s σ H Q I (w σ H Q q)⟩
def mcA (ta : TA) : TA := fun σ H Q => ∃ R : List V → Hp → Prop, ta σ H R ∧ ∀ xs H1, R xs H1 → Q xs H1
def mcE (t : TE) : TE := fun σ H Q => ∃ R : VK, t σ H R ∧ ∀ v H1, R v H1 → Q v H1
theorem _root_.L2.PA.mc (h : PA X es ta) : PA X es (mcA ta) := by
  refine ⟨fun pos pins s σ H Q I hq => ?_⟩
  obtain ⟨R, hR, k⟩ := hq
  refine thn (h.run pos pins s σ H R I hR) fun us s1 z => ?_
  obtain ⟨vs, H', I', r, q⟩ := z
  exact ⟨vs, H', I', r, k _ _ q⟩
theorem _root_.L2.PE.mc (h : PE X e t) : PE X e (mcE t) := by
  refine ⟨fun pins s σ H Q I hq => ?_⟩
  obtain ⟨R, hR, k⟩ := hq
  refine thn (h.run pins s σ H R I hR) fun u s1 z => ?_
  obtain ⟨v, H', I', r, q⟩ := z
  exact ⟨v, H', I', r, k _ _ q⟩
def tTupN (t : TA) : TE := fun σ H Q => t σ H fun xs H1 => xs.length ≤ 100000 ∧ ∀ p H', New H1 p (.tup xs) H' → Q (.ref p) H'
def tLstN (t : TA) : TE := fun σ H Q => t σ H fun xs H1 => xs.length ≤ 100000 ∧ ∀ p H', New H1 p (.lst xs) H' → Q (.ref p) H'
theorem pe_tupN {x1} (h : PA X es ta) : PE X (.Tuple es x1 pos) (tTupN ta) :=
  (pe_tup h.mc).of fun σ H Q q => ⟨_, q, fun xs H1 ⟨z, k⟩ => ⟨sz z, New.upd k⟩⟩
theorem pe_lstN (h : PA X es ta) : PE X (.List es pos) (tLstN ta) :=
  (pe_lst h.mc).of fun σ H Q q => ⟨_, q, fun xs H1 ⟨z, k⟩ => ⟨sz z, New.upd k⟩⟩
/-- list + list -/
def rCatN : R2 := fun x y H Q => ∃ a b xs ys, x = .ref a ∧ y = .ref b ∧ H a = some (.lst xs) ∧ H b = some (.lst ys) ∧ xs.length + ys.length ≤ 100000 ∧ ∀ q H', New H q (.lst (xs ++ ys)) H' → Q (.ref q) H'
end
end EM
namespace EM
open PySem PySem.Spec PyProof.Rows L2
section
variable {X : Cx}
theorem _root_.L2.opR_of {f : Value → Value → Sem Value} {r r' : R2} (h : OpR X f r) (w : ∀ x y H Q, r' x y H Q → r x y H Q) : OpR X f r' := fun pins s σ H x y v u Q I rx ry q => h pins s σ H x y v u Q I rx ry (w _ _ _ _ q)
theorem _root_.L2.unR_of {f : Value → Sem Value} {r r' : V → Hp → VK → Prop} (h : UnR X f r) (w : ∀ x H Q, r' x H Q → r x H Q) : UnR X f r' := fun pins s σ H x v Q I rx q => h pins s σ H x v Q I rx (w _ _ _ q)
theorem _root_.L2.callR_of {f : Value} {r r' : List V → Hp → VK → Prop} (h : CallR X f r) (w : ∀ xs H Q, r' xs H Q → r xs H Q) : CallR X f r' := fun pins s σ H xs us Q I rx q => h pins s σ H xs us Q I rx (w _ _ _ q)
theorem op_catN : OpR X (binaryOp .Add) rCatN := opR_of op_cat fun x y H Q ⟨a, b, xs, ys, e1, e2, h1, h2, z, k⟩ => ⟨a, b, xs, ys, e1, e2, h1, h2, sz z, New.upd k⟩
/-- a list times a small number -/
def rRepN : R2 := fun x y H Q => ∃ l k xs, x = .ref l ∧ y = .int k ∧ H l = some (.lst xs) ∧ 0 ≤ k ∧ k ≤ 1000 ∧ xs.length ≤ 100 ∧ ∀ q H', New H q (.lst (List.replicate k.toNat xs).flatten) H' → Q (.ref q) H'
theorem op_repN : OpR X (binaryOp .Mult) rRepN := opR_of op_rep fun x y H Q ⟨l, k, xs, e1, e2, h, k0, k1, z, q⟩ => ⟨l, k, xs, e1, e2, h, by omega, by omega, by
  refine sz (Nat.le_trans (Nat.mul_le_mul z (show k.toNat ≤ 1000 by omega)) (by decide)), New.upd q⟩
/-! ### numbers under operators -/
structure Rw (K : PySem.W.Frag) (H : Hp) (Q : VK) (x y : Int) : Prop where
  h : RatRes K H Q x y
def rNumN (K : PySem.W.Frag) (F : Int → Int → Int → Int → Int) (G : Int → Int → Int → Int → Int) : R2 := fun x y H Q => ∃ t b u c, Num K H x t b ∧ Num K H y u c ∧ ((∃ a, x = .ref a) ∨ ∃ a, y = .ref a) ∧ Bt 2000 t ∧ Bt 2000 b ∧ Bt 2000 u ∧ Bt 2000 c ∧ Rw K H Q (F t b u c) (G t b u c)
def rNumL (K : PySem.W.Frag) (F : Int → Int → Int → Int → Int) (G : Int → Int → Int → Int → Int) : R2 := fun x y H Q => ∃ a t b u c, x = .ref a ∧ Num K H (.ref a) t b ∧ Num K H y u c ∧ Bt 2000 t ∧ Bt 2000 b ∧ Bt 2000 u ∧ Bt 2000 c ∧ Rw K H Q (F t b u c) (G t b u c)
theorem num_ref {K : PySem.W.Frag} {H : Hp} {a : Addr} {t b : Int} (h : Num K H (.ref a) t b) : RatAt K H a t b := by
  rcases h.2 with ⟨a', e, r⟩ | ⟨e, _⟩
  · cases e
    exact r
  · cases e
theorem op_numL {f : Value → Value → Sem Value} {F G : Int → Int → Int → Int → Int} {sp1 : Sp} {E : XK} (h1 : OpR X f (rBinO (He.ga X.K "Ratio") sp1 E))
    (c1 : ∀ a y t b u c H Q, Two X.K H 2000 a y t b u c → RatRes X.K H Q (F t b u c) (G t b u c) → sp1 [.ref a, y] H Q E) : OpR X f (rNumL X.K F G) := by
  refine opR_of h1 fun x y H Q h => ?_
  obtain ⟨a, t, b, u, c, rfl, n1, n2, bt, bb, bu, bc, ⟨k⟩⟩ := h
  have ra := num_ref n1
  have W : Two X.K H 2000 a y t b u c := ⟨ra, n1.1, n2, bt, bb, bu, bc⟩
  obtain ⟨dx, ra⟩ := ra
  exact ⟨a, dx, _, rfl, ra, two_y W, c1 _ _ _ _ _ _ _ _ W k⟩
theorem op_numN {f : Value → Value → Sem Value} {F G : Int → Int → Int → Int → Int} {sp1 sp2 : Sp} {E E' : XK} (h1 : OpR X f (rBinO (He.ga X.K "Ratio") sp1 E)) (h2 : OpR X f (rBinR (He.ga X.K "Ratio") sp2 E'))
    (c1 : ∀ a y t b u c H Q, Two X.K H 2000 a y t b u c → RatRes X.K H Q (F t b u c) (G t b u c) → sp1 [.ref a, y] H Q E)
    (c2 : ∀ a t u c H Q, Two X.K H 2000 a (.int t) u c t 1 → RatRes X.K H Q (F t 1 u c) (G t 1 u c) → sp2 [.ref a, .int t] H Q E') : OpR X f (rNumN X.K F G) := by
  refine opR_of (op_two (op_numL h1 c1) h2) fun x y H Q h => ?_
  obtain ⟨t, b, u, c, n1, n2, hr, bt, bb, bu, bc, ⟨k⟩⟩ := h
  rcases n1.2 with ⟨a, rfl, r⟩ | ⟨rfl, rfl⟩
  · exact .inl ⟨a, t, b, u, c, rfl, n1, n2, bt, bb, bu, bc, ⟨k⟩⟩
  · rcases n2.2 with ⟨a, rfl, r⟩ | ⟨rfl, rfl⟩
    · have W : Two X.K H 2000 a (.int t) u c t 1 := ⟨r, n2.1, n1, bu, bc, bt, bb⟩
      obtain ⟨dx, r⟩ := r
      exact .inr ⟨t, a, dx, _, rfl, rfl, r, c2 _ _ _ _ _ _ W k⟩
    · rcases hr with ⟨a, e⟩ | ⟨a, e⟩ <;> cases e
end
/-- a comprehension of plain values: each turn draws at most c times -/
theorem lc_sc {T : List (Addr × Str)} {p l : Addr} {m c : Nat} {J : It} {n : Nat} {G : Hp → Prop} {Y : Nat → Hp → V → Hp → Prop} (w : Walk J n G Y) {g : TG} {tt : TT} {te : TE} {vs : List Nat} {σ : L2.St} {H1 : Hp} {D : Addr} {Q : VK} (hD : H1 D = none)
    (B : Bs T p l m H1) (f : Nat → V → Prop) (hn : n ≤ 100000) (hG : ∀ H, Ext p H1 H → G H)
    (hs : ∀ i x H H', i < n → Ext p H1 H → Bs T p l (m + c * i) H → Y i H x H' → g x (wipe σ vs) H' fun σ2 H2 => wipe σ2 vs = wipe σ vs ∧ tt σ2 H2 fun b H3 => b = true ∧ te σ2 H3 fun y H4 => Ext p H H4 ∧ Bs T p l (m + c * (i + 1)) H4 ∧ f i y)
    (mg : ∀ x σ H (R R' : L2.St → Hp → Prop), (∀ σ H, R σ H → R' σ H) → g x σ H R → g x σ H R') (mt : ∀ σ H (R R' : Bool → Hp → Prop), (∀ b H, R b H → R' b H) → tt σ H R → tt σ H R')
    (hd : ∀ ys H', ys.length = n → (∀ i y, ys[i]? = some y → f i y) → Ext p H1 H' → Bs T p l (m + c * n) H' → At p H' D (.lst ys) → Q (.ref D) H') :
    ∃ W : Nat → Nat → Hp → Prop, (∃ m, W 0 m (upd H1 D (.lst []))) ∧ ∀ i m H, W i m H →
      (J.stop i H ∧ Q (.ref D) H) ∨ (J.go i H ∧ ∃ Nx : Hp → Prop, (∀ H', Nx H' → ∃ m', m' < m ∧ W (i + 1) m' H') ∧ ∀ x H', J.yld i H x H' → g x (wipe σ vs) H' fun σ2 H2 => wipe σ2 vs = wipe σ vs ∧ tt σ2 H2 fun b H3 =>
        if b = true then mcE te σ2 H3 fun y H4 => ∃ acc, H4 D = some (.lst acc) ∧ acc.length < sizeLine ∧ Nx (upd H4 D (.lst (acc ++ [y]))) else Nx H3) := by
  have nDp := B.ne hD
  have nDl := B.nel hD
  refine lc_it w (fun i H => ∃ acc, At p H D (.lst acc) ∧ acc.length = i ∧ (∀ j y, acc[j]? = some y → f j y) ∧ Ext p H1 H ∧ Bs T p l (m + c * i) H) ⟨[], ⟨upd_same, nDp, fun _ z => by cases z⟩, rfl, fun j y z => by simp at z, Ext.same (same_upd hD), B.same (same_upd hD)⟩ (fun i H hi ⟨acc, _, _, _, x, _⟩ => hG H x) ?_ ?_
  · rintro i x H H' hi ⟨acc, hA, hl, hf, x1, B1⟩ y
    refine mg _ _ _ _ _ (fun σ2 H2 h => ⟨h.1, mt _ _ _ _ (fun b H3 h3 => ?_) h.2⟩) (hs i x H H' hi x1 B1 y)
    obtain ⟨rfl, h4⟩ := h3
    rw [if_pos rfl]
    refine ⟨_, h4, fun v H4 h5 => ?_⟩
    obtain ⟨x4, B4, hv⟩ := h5
    have hA4 := hA.ext x4
    refine ⟨acc, hA4.at_, by rw [hl]; exact szl (by omega), acc ++ [v], ⟨upd_same, nDp, fun _ z => by cases z⟩, by simp [hl], fun j y hj => ?_, ⟨fun b o e nb nt => ?_⟩, ⟨?_, tabs_mut B4.tab hA4.at_⟩⟩
    · rcases Nat.lt_or_ge j acc.length with h | h
      · rw [List.getElem?_append_left h] at hj
        exact hf j y hj
      · rw [List.getElem?_append_right h] at hj
        have : j - acc.length = 0 := by
          apply Classical.byContradiction
          intro z
          rw [List.getElem?_eq_none (by simp; omega)] at hj
          cases hj
        rw [this] at hj
        have e : j = i := by omega
        subst e
        cases hj
        exact hv
    · have e4 := x4.k _ _ (x1.k _ _ e nb nt) nb nt
      rw [upd_ne (ne_of_none e hD)]
      exact e4
    · exact B4.pen.mut nDp nDl
  · rintro H ⟨acc, hA, hl, hf, x1, B1⟩
    exact hd acc H hl hf x1 B1 hA
end EM
/-! EM34: what making a Ratio, negating it and showing its parts promise; lowest terms. -/
namespace EM
open PySem PySem.Spec PyProof.Rows L2
def spMkN (K : PySem.W.Frag) : Sp := fun vs H Q _ => ∃ t b, vs = [.int t, .int b] ∧ b ≠ 0 ∧ b.natAbs.log2 < 9000 ∧ RatRes K H Q t b
structure Su (r : V → Hp → VK → Prop) (x : V) (H : Hp) (Q : VK) : Prop where
  h : r x H Q
def rNegN (K : PySem.W.Frag) (F : Int → Int) : V → Hp → VK → Prop := fun x H Q => ∃ a t b, x = .ref a ∧ RatAt K H a t b ∧ Low t b ∧ Bt 2000 b ∧ ∀ p H', Same H H' → H p = none → RatAt K H' p (F t) b → Q (.ref p) H'
section
variable {T : List (Addr × Str)} {p l q a : Addr} {n m : Nat} {H H1 H2 H' : Hp} {o : HO} {K : PySem.W.Frag}
/-- a new Ratio of lowest terms (t, b) -/
theorem RatRes.low {Q : VK} {x y t b : Int} (B : Bs T p l n H) (lo : Low t b) (hy : y ≠ 0) (e : x * b = t * y) (k : ∀ a H', Ext p H H' → Bs T p l n H' → RatP K p H' a t b → Q (.ref a) H') : RatRes K H Q x y := by
  obtain ⟨e1, e2⟩ := low_eq (n_low (t := x) hy) lo (by
    have h1 := n_cross (t := x) (b := y)
    refine Int.eq_of_mul_eq_mul_right (a := y) hy ?_
    calc nTop x y * b * y = (nTop x y * y) * b := by ac_rfl
      _ = x * nBot x y * b := by rw [h1]
      _ = (x * b) * nBot x y := by ac_rfl
      _ = (t * y) * nBot x y := by rw [e]
      _ = t * nBot x y * y := by ac_rfl)
  refine RatRes.bs B fun a H' x1 B1 r => ?_
  rw [e1, e2] at r
  exact k a H' x1 B1 r
theorem Rw.bs {Q : VK} {x y : Int} (B : Bs T p l n H) (k : ∀ a H', Ext p H H' → Bs T p l n H' → RatP K p H' a (nTop x y) (nBot x y) → Q (.ref a) H') : Rw K H Q x y := ⟨RatRes.bs B k⟩
theorem Rw.low {Q : VK} {x y t b : Int} (B : Bs T p l n H) (lo : Low t b) (hy : y ≠ 0) (e : x * b = t * y) (k : ∀ a H', Ext p H H' → Bs T p l n H' → RatP K p H' a t b → Q (.ref a) H') : Rw K H Q x y := ⟨RatRes.low B lo hy e k⟩
/-- the same as another fraction in lowest terms -/
theorem Rw.to {Q : VK} {x y x' y' : Int} (B : Bs T p l n H) (h : y ≠ 0) (h' : y' ≠ 0) (e : x * y' = x' * y) (k : ∀ a H', Ext p H H' → Bs T p l n H' → RatP K p H' a (nTop x' y') (nBot x' y') → Q (.ref a) H') : Rw K H Q x y := by
  obtain ⟨e1, e2⟩ := n_eq h h' e
  exact Rw.bs B fun a H' x1 B1 r => k a H' x1 B1 (by rw [← e1, ← e2]; exact r)
theorem neg_bs {Q : VK} {F : Int → Int} {t b : Int} (B : Bs T p l n H) (ra : RatP K p H a t b) (lo : Low t b) (hb : Bt 2000 b) (k : ∀ q H', Ext p H H' → Bs T p l n H' → RatP K p H' q (F t) b → Q (.ref q) H') : Su (rNegN K F) (.ref a) H Q :=
  ⟨⟨a, t, b, rfl, ra.rat, lo, hb, fun q H' s _ r => k q H' (Ext.same s) (B.same s) (RatP.of (B.same s) r)⟩⟩
theorem parts_bs {Q : VK} {E : XK} {t b : Int} (B : Bs T p l n H) (ra : RatP K p H a t b) (ht : Bt 1900 t) (hb : Bt 1900 b) (k : ∀ H', Ext p H H' → Bs T p l n H' → Q (.str (PyData.tuple [.int t, .int b]).shown) H') : Sw (spParts K) [.ref a] H Q E :=
  ⟨⟨a, t, b, rfl, ra.rat, Nat.lt_trans (ht.log (by decide)) (by decide), Nat.lt_trans (hb.log (by decide)) (by decide), fun H' s => k H' (Ext.same s) (B.same s)⟩⟩
end
end EM
/-! EM35: helpers of the stepping words: guards of goals, powers of written ints, bounds by bits. -/
namespace EM
open PySem PySem.Spec PyProof.Rows L2
theorem gI {a b : Int} (h : a ≤ b) : a ≤ b := h
theorem gJ {a b : Int} (h : a < b) : a < b := h
theorem gN {a b : Nat} (h : a ≤ b) : a ≤ b := h
theorem gM {a b : Nat} (h : a < b) : a < b := h
theorem gE {a b : Int} (h : a ≠ b) : a ≠ b := h
theorem gB {n : Nat} {i : Int} (h : Bt n i) : Bt n i := h
theorem gIf {c : Bool} {A B : Prop} (h : if c = true then A else B) : if c = true then A else B := h
theorem gTru {K : PySem.W.Frag} {x : V} {H : Hp} {k : Bool} (h : TruV K x H k) : TruV K x H k := h
theorem ifNotT {A B : Prop} (h : B) : if (!true) = true then A else B := h
theorem ifNotF {A B : Prop} (h : A) : if (!false) = true then A else B := h
theorem gRef {x y : V} (h : (∃ a, x = .ref a) ∨ ∃ a, y = .ref a) : (∃ a, x = V.ref a) ∨ ∃ a, y = V.ref a := h
theorem gEq {α : Type} {a b : α} (h : a = b) : a = b := h
def rPowV (i j v : Int) : R2 := fun x y H Q => x = .int i ∧ y = .int j ∧ Q (.int v) H
theorem op_powV {X : Cx} (i j v : Int) (h : CPow i j) (h2 : i ^ j.toNat = v) : OpR X (binaryOp .Pow) (rPowV i j v) := opR_of op_pow fun x y H Q ⟨e1, e2, q⟩ => ⟨i, j, e1, e2, h, by show Q (.int (i ^ j.toNat)) H; rw [h2]; exact q⟩
theorem _root_.EM.Bt.add' {n m : Nat} {i j : Int} (h : Bt n i) (g : Bt m j) : Bt (max n m + 1) (i + j) := (h.mono (Nat.le_max_left ..)).add (g.mono (Nat.le_max_right ..))
theorem _root_.EM.Bt.sub' {n m : Nat} {i j : Int} (h : Bt n i) (g : Bt m j) : Bt (max n m + 1) (i - j) := by
  rw [Int.sub_eq_add_neg]
  exact h.add' g.neg
theorem _root_.EM.Bt.lit (n : Nat) (i : Int) (h : decide (i.natAbs < 2 ^ n) = true) : Bt n i := (of_decide_eq_true h : i.natAbs < 2 ^ n)
theorem _root_.EM.Bt.top {n : Nat} {t b : Int} (ht : Bt n t) (h : b ≠ 0) : Bt n (nTop t b) := ht.le (n_abs h).1
theorem _root_.EM.Bt.bot {n : Nat} {t b : Int} (hb : Bt n b) (h : b ≠ 0) : Bt n (nBot t b) := hb.le (n_abs h).2
theorem _root_.EM.Bt.rng {i : Int} (n : Nat) (h : -((2 : Int) ^ n) < i) (g : i < (2 : Int) ^ n) : Bt n i := .lt g h
theorem _root_.EM.Bt.rng32 {i : Int} (h : -4294967296 < i) (g : i < 4294967296) : Bt 32 i := .rng 32 (by omega) (by omega)
theorem _root_.EM.Bt.rng70 {i : Int} (h : -1180591620717411303424 < i) (g : i < 1180591620717411303424) : Bt 70 i := .rng 70 (by omega) (by omega)
theorem _root_.EM.Bt.rng200 {i : Int} (h : -1606938044258990275541962092341162602522202993782792835301376 < i) (g : i < 1606938044258990275541962092341162602522202993782792835301376) : Bt 200 i := .rng 200 (by omega) (by omega)
theorem wideM {n m : Nat} {i j : Int} (h : Bt n i) (g : Bt m j) (h0 : 0 < n ∧ 0 < m ∧ n + m ≤ 1000000) : CMulW i j := wide_mul h g h0.1 h0.2.1 h0.2.2
section
variable {T : List (Addr × Str)} {p l q a : Addr} {n m : Nat} {H H1 H2 H' : Hp} {o : HO} {K : PySem.W.Frag}
theorem cut_bs {Q : VK} {E : XK} {u c : Int} (B : Bs T p l n H) (h0 : c ≠ 0) (hb : Bt 2000 c) (k : ∀ q H', Ext p H H' → Bs T p l n H' → At p H' q (.tup [.int (nTop u c), .int (nBot u c)]) → Q (.ref q) H') : Sw spCut [.int u, .int c] H Q E :=
  ⟨⟨u, c, rfl, h0, Nat.lt_trans (hb.log (by decide)) (by decide), fun q H' s nq hq => k q H' (Ext.same s) (B.same s) ((B.same s).at_ hq (fun _ z => by cases z) (fun _ z => by cases z))⟩⟩
/-- a text of data -/
theorem repr_bs {Q : VK} {x : V} {d : PyData} (h : Dp K H x d) (h1 : d.showable = true) (h2 : d.shown.length ≤ sizeLine) (h3 : d.depth ≤ 64) (q : Q (.str d.shown) H) : rRepr K [x] H Q := ⟨x, d, rfl, h, h1, h2, h3, q⟩
theorem repr_ints {Q : VK} {ns : List Int} (h : H a = some (.tup (ns.map V.int))) (hb : ∀ x ∈ ns, Bt 1900 x) (hl : ns.length ≤ 5000) (q : Q (.str (dT ns).shown) H) : rRepr K [.ref a] H Q :=
  have r := rokT ns (fun x hx => Nat.lt_trans ((hb x hx).log (by decide)) (by decide)) hl
  ⟨_, dT ns, rfl, .tup (SqT.of h) (dp_ints ns), r.sh, r.ln, r.dp, q⟩
end
end EM
namespace EM
theorem Bt.mulM {n m k : Nat} {i j : Int} (h : Bt n i) (g : Bt m j) (e : n + m ≤ k) : Bt k (i * j) := (h.mul g).mono e
theorem Bt.addM {n m k : Nat} {i j : Int} (h : Bt n i) (g : Bt m j) (e : max n m + 1 ≤ k) : Bt k (i + j) := (h.add' g).mono e
theorem Bt.subM {n m k : Nat} {i j : Int} (h : Bt n i) (g : Bt m j) (e : max n m + 1 ≤ k) : Bt k (i - j) := (h.sub' g).mono e
theorem Bt.negM {n k : Nat} {i : Int} (h : Bt n i) (e : n ≤ k) : Bt k (-i) := h.neg.mono e
end EM
namespace EM
open PySem L2
theorem Ext.back {p : Addr} {H H1 H2 : Hp} (y : Ext p H1 H2) (x : Ext p H H1) : Ext p H H2 := x.trans y
end EM
namespace EM
open PySem PySem.Spec PyProof.Rows L2
theorem ifEqI {a b : Int} {A B : Prop} (h1 : a = b → A) (h2 : a ≠ b → B) : if decide (V.int a = V.int b) = true then A else B := by
  rw [dVi]
  exact ite2 (fun z => h1 (of_decide_eq_true z)) (fun z => h2 (by simpa using z))
theorem ifNeI {a b : Int} {A B : Prop} (h1 : a ≠ b → A) (h2 : a = b → B) : if (!decide (V.int a = V.int b)) = true then A else B := by
  rw [dVi]
  exact ite2 (fun z => h1 (by simpa using z)) (fun z => h2 (by simpa using z))
theorem ifLt {a b : Int} {A B : Prop} (h1 : a < b → A) (h2 : b ≤ a → B) : if decide (a < b) = true then A else B :=
  ite2 (fun z => h1 (of_decide_eq_true z)) (fun z => h2 (by simpa using z))
theorem ifLe {a b : Int} {A B : Prop} (h1 : a ≤ b → A) (h2 : b < a → B) : if decide (a ≤ b) = true then A else B :=
  ite2 (fun z => h1 (of_decide_eq_true z)) (fun z => h2 (by simpa using z))
end EM
/-! EM36: data that may be shown and compared (Fd), told in one word; repr and == as rules for the stepping words. -/
namespace EM
open PySem PySem.Spec PyProof.Rows L2
/-! ### signs within the line -/
def okS (x : Str) : Prop := ∀ c ∈ sg x, c < 1114112
theorem okS_of (s : String) : okS (Str.ofString s) := by
  intro c hc
  rw [sg_of] at hc
  obtain ⟨d, _, rfl⟩ := List.mem_map.mp hc
  have := d.valid
  show d.val.toNat < _
  rcases this with h | h
  · have h' : d.val.toNat < 0xd800 := h
    omega
  · exact h.2
theorem okS.app {a b : Str} (h1 : okS a) (h2 : okS b) : okS (a ++ b) := by
  intro c hc
  rw [sg_app] at hc
  rcases List.mem_append.mp hc with h | h
  · exact h1 c h
  · exact h2 c h
theorem okS.lay {x : Str} (h : okS x) : PyData.canLay0 (.str x) = true := by
  show (x.cps.all fun c => decide (c < 0x110000)) = true
  rw [Array.all_eq_true']
  intro c hc
  exact decide_eq_true (h c (Array.mem_toList_iff.mpr hc))
theorem okS_from : ∀ (ts : List Str) (k : Nat) (a : Str), okS a → (∀ t ∈ ts, okS t) → okS (textFrom k a ts)
  | [], _, _, h, _ => h
  | t :: r, k, a, h, hr => okS_from r (k + 1) _ ((h.app (okS_of _)).app (hr t List.mem_cons_self)) fun x hx => hr x (List.mem_cons_of_mem _ hx)
theorem okS_join (s : Str) (hs : okS s) : ∀ ts : List Str, (∀ t ∈ ts, okS t) → okS (Str.join s ts)
  | [], _ => okS_of ""
  | [x], h => h x List.mem_cons_self
  | x :: y :: r, h => by
    show okS (x ++ s ++ Str.join s (y :: r))
    exact ((h x List.mem_cons_self).app hs).app (okS_join s hs (y :: r) fun t ht => h t (List.mem_cons_of_mem _ ht))
theorem okS_list (ts : List Str) (h : ∀ t ∈ ts, okS t) : okS (listText ts) := (okS_from ts 0 _ (okS_of _) h).app (okS_of _)
theorem okS_tuple (ts : List Str) (h : ∀ t ∈ ts, okS t) : okS (tupleText ts) := ((okS_of _).app (okS_join _ (okS_of _) ts h)).app (okS_of _)
/-- a datum that may be shown and compared: its text has at most n signs, it is at most m deep -/
structure Fd (n m : Nat) (d : PyData) : Prop where
  lay : d.canLay0 = true
  sh : d.showable = true
  len : d.shown.length ≤ n
  dep : d.depth ≤ m
  self : PyData.eqv d d = true
  ok : okS d.shown
structure FdL (n m : Nat) (ds : List PyData) : Prop where
  lay : PyData.canLayAll0 ds = true
  sh : PyData.showableAll ds = true
  len : (ds.map fun d => d.shown.length).sum + 2 * ds.length ≤ n
  dep : PyData.depthAll ds ≤ m
  self : PyData.eqvAll ds ds = true
  ok : ∀ t ∈ PyData.shownAll ds, okS t
theorem Fd.int {i : Int} (h : Bt 1900 i) : Fd 1921 0 (.int i) := by
  have h1 : i.natAbs.log2 < 1920 := Nat.lt_trans (h.log (by decide)) (by decide)
  refine ⟨rfl, decide_eq_true h1, int_text_len_1921 h1, Nat.le_refl _, ?_, okS_of _⟩
  show (i == i) = true
  simp
theorem Fd.bool (b : Bool) : Fd 5 0 (.bool b) := by
  refine ⟨rfl, rfl, ?_, Nat.le_refl _, ?_, ?_⟩
  · cases b <;> decide +kernel
  · cases b <;> rfl
  · cases b <;> exact okS_of _
theorem Fd.non : Fd 4 0 .none := ⟨rfl, rfl, by decide +kernel, Nat.le_refl _, rfl, okS_of _⟩
theorem FdL.nil : FdL 0 0 [] := ⟨rfl, rfl, Nat.le_refl _, Nat.le_refl _, rfl, fun t h => by cases h⟩
theorem FdL.cons {n1 m1 n2 m2 : Nat} {d : PyData} {ds : List PyData} (h : Fd n1 m1 d) (g : FdL n2 m2 ds) : FdL (n1 + n2 + 2) (max m1 m2) (d :: ds) := by
  refine ⟨?_, ?_, ?_, ?_, ?_, ?_⟩
  · show (d.canLay0 && PyData.canLayAll0 ds) = true
    rw [h.lay, g.lay]
    rfl
  · show (d.showable && PyData.showableAll ds) = true
    rw [h.sh, g.sh]
    rfl
  · have := h.len
    have := g.len
    simp only [List.map_cons, List.sum_cons, List.length_cons]
    omega
  · show max d.depth (PyData.depthAll ds) ≤ _
    have := h.dep
    have := g.dep
    omega
  · show (PyData.eqv d d && PyData.eqvAll ds ds) = true
    rw [h.self, g.self]
    rfl
  · intro t ht
    rcases List.mem_cons.mp (show t ∈ d.shown :: PyData.shownAll ds from ht) with e | e
    · rw [e]
      exact h.ok
    · exact g.ok t e
theorem Fd.list {n m : Nat} {ds : List PyData} (g : FdL n m ds) : Fd (n + 3) (m + 1) (.list ds) := by
  have h1 := shown_list ds
  have h2 := g.len
  exact ⟨g.lay, g.sh, by omega, Nat.succ_le_succ g.dep, g.self, okS_list _ g.ok⟩
theorem Fd.tup {n m : Nat} {ds : List PyData} (g : FdL n m ds) : Fd (n + 3) (m + 1) (.tuple ds) := by
  have h1 := shown_tuple ds
  have h2 := g.len
  exact ⟨g.lay, g.sh, by omega, Nat.succ_le_succ g.dep, g.self, okS_tuple _ g.ok⟩
theorem Fd.mono {n m n' m' : Nat} {d : PyData} (h : Fd n m d) (e1 : n ≤ n') (e2 : m ≤ m') : Fd n' m' d := ⟨h.lay, h.sh, Nat.le_trans h.len e1, Nat.le_trans h.dep e2, h.self, h.ok⟩
theorem FdL.mono {n m n' m' : Nat} {d : List PyData} (h : FdL n m d) (e1 : n ≤ n') (e2 : m ≤ m') : FdL n' m' d := ⟨h.lay, h.sh, Nat.le_trans h.len e1, Nat.le_trans h.dep e2, h.self, h.ok⟩
theorem FdL.all {n m k : Nat} : ∀ {ds : List PyData}, (∀ d ∈ ds, Fd n m d) → ds.length ≤ k → FdL ((n + 2) * k) m ds
  | [], _, _ => FdL.nil.mono (Nat.zero_le _) (Nat.zero_le _)
  | d :: r, h, l => by
    cases k with
    | zero => simp at l
    | succ k =>
      refine (FdL.cons (h d List.mem_cons_self) (FdL.all (k := k) (fun x hx => h x (List.mem_cons_of_mem _ hx)) (by simpa using l))).mono ?_ ?_
      · rw [Nat.mul_succ]
        omega
      · omega
theorem FdL.ints {ns : List Int} {k : Nat} (h : ∀ x ∈ ns, Bt 1900 x) (l : ns.length ≤ k) : FdL (1923 * k) 0 (ns.map .int) := FdL.all (fun d hd => by
  obtain ⟨i, hi, rfl⟩ := List.mem_map.mp hd
  exact Fd.int (h i hi)) (by rw [List.length_map]; exact l)
theorem Fd.shaped {n m : Nat} {d : PyData} (h : Fd n m d) (e : m ≤ 64) : SeqAt.shaped d = true := by
  unfold SeqAt.shaped
  rw [h.lay, decide_eq_true (Nat.le_trans h.dep e)]
  rfl
/-- compared alone: no bound of the text is asked (texts within) -/
structure Fe (m : Nat) (d : PyData) : Prop where
  lay : d.canLay0 = true
  dep : d.depth ≤ m
  self : PyData.eqv d d = true
structure FeL (m : Nat) (ds : List PyData) : Prop where
  lay : PyData.canLayAll0 ds = true
  dep : PyData.depthAll ds ≤ m
  self : PyData.eqvAll ds ds = true
theorem Fd.fe {n m : Nat} {d : PyData} (h : Fd n m d) : Fe m d := ⟨h.lay, h.dep, h.self⟩
theorem Fe.str {x : Str} (h : okS x) : Fe 0 (.str x) := ⟨h.lay, Nat.le_refl _, by show (x == x) = true; simp⟩
theorem Fe.int (i : Int) : Fe 0 (.int i) := ⟨rfl, Nat.le_refl _, by show (i == i) = true; simp⟩
theorem Fe.bool (b : Bool) : Fe 0 (.bool b) := ⟨rfl, Nat.le_refl _, by cases b <;> rfl⟩
theorem Fe.non : Fe 0 .none := ⟨rfl, Nat.le_refl _, rfl⟩
theorem FeL.nil : FeL 0 [] := ⟨rfl, Nat.le_refl _, rfl⟩
theorem FeL.cons {m1 m2 : Nat} {d : PyData} {ds : List PyData} (h : Fe m1 d) (g : FeL m2 ds) : FeL (max m1 m2) (d :: ds) := by
  refine ⟨?_, ?_, ?_⟩
  · show (d.canLay0 && PyData.canLayAll0 ds) = true
    rw [h.lay, g.lay]
    rfl
  · show max d.depth (PyData.depthAll ds) ≤ _
    have := h.dep
    have := g.dep
    omega
  · show (PyData.eqv d d && PyData.eqvAll ds ds) = true
    rw [h.self, g.self]
    rfl
theorem Fe.list {m : Nat} {ds : List PyData} (g : FeL m ds) : Fe (m + 1) (.list ds) := ⟨g.lay, Nat.succ_le_succ g.dep, g.self⟩
theorem Fe.tup {m : Nat} {ds : List PyData} (g : FeL m ds) : Fe (m + 1) (.tuple ds) := ⟨g.lay, Nat.succ_le_succ g.dep, g.self⟩
theorem FeL.all {m : Nat} : ∀ {ds : List PyData}, (∀ d ∈ ds, Fe m d) → FeL m ds
  | [], _ => ⟨rfl, Nat.zero_le _, rfl⟩
  | d :: r, h => by
    have q := FeL.cons (h d List.mem_cons_self) (FeL.all fun x hx => h x (List.mem_cons_of_mem _ hx))
    rw [Nat.max_self] at q
    exact q
theorem Fe.shaped {m : Nat} {d : PyData} (h : Fe m d) (e : m ≤ 64) : SeqAt.shaped d = true := by
  unfold SeqAt.shaped
  rw [h.lay, decide_eq_true (Nat.le_trans h.dep e)]
  rfl
/-! ### readings that are opened by a lemma alone -/
structure Sr (r : List V → Hp → VK → Prop) (xs : List V) (H : Hp) (Q : VK) : Prop where
  h : r xs H Q
structure So (r : R2) (x y : V) (H : Hp) (Q : VK) : Prop where
  h : r x y H Q
section
variable {X : Cx}
theorem callR_sw {f : Value} {r : List V → Hp → VK → Prop} (h : CallR X f r) : CallR X f (Sr r) := callR_of h fun _ _ _ q => q.h
theorem op_sw {f : Value → Value → Sem Value} {r : R2} (h : OpR X f r) : OpR X f (So r) := opR_of h fun _ _ _ _ q => q.h
theorem un_sw {f : Value → Sem Value} {r : V → Hp → VK → Prop} (h : UnR X f r) : UnR X f (Su r) := unR_of h fun _ _ _ q => q.h
theorem pip_of {op : Operator} {r : R2} (h : OpR X (inplaceOp op) r) : PIp X op r := fun pins s σ H x y v u Q I rx ry q => h pins s σ H x y v u Q I rx ry q
end
section
variable {T : List (Addr × Str)} {p l q a b : Addr} {n m : Nat} {H H1 H2 H' : Hp} {o : HO} {K : PySem.W.Frag} {Q : VK} {x y : V} {d e : PyData}
theorem repr_sw (h : Dp K H x d) (g : Fd n m d) (e : n ≤ 10000000 ∧ m ≤ 64) (k : Q (.str d.shown) H) : Sr (rRepr K) [x] H Q :=
  ⟨x, d, rfl, h, g.sh, Nat.le_trans g.len (Nat.le_trans e.1 (by decide)), Nat.le_trans g.dep e.2, k⟩
theorem eqd_sw (h : Dp K H x d) (g : Dp K H y e) (f1 : Fe n d) (f2 : Fe m e) (z : n ≤ 64 ∧ m ≤ 64) (k : Q (.bl (PyData.eqv d e)) H) : So (rEqD K) x y H Q :=
  ⟨d, e, h, g, f1.shaped z.1, f2.shaped z.2, k⟩
theorem ned_sw (h : Dp K H x d) (g : Dp K H y e) (f1 : Fe n d) (f2 : Fe m e) (z : n ≤ 64 ∧ m ≤ 64) (k : Q (.bl (!PyData.eqv d e)) H) : So (rNeD K) x y H Q :=
  ⟨d, e, h, g, f1.shaped z.1, f2.shaped z.2, k⟩
/-- the same datum twice -/
theorem eqd_same (h : Dp K H x d) (g : Dp K H y d) (f : Fe n d) (z : n ≤ 64) (k : Q (.bl true) H) : So (rEqD K) x y H Q :=
  eqd_sw h g f f ⟨z, z⟩ (by rw [f.self]; exact k)
theorem ned_same (h : Dp K H x d) (g : Dp K H y d) (f : Fe n d) (z : n ≤ 64) (k : Q (.bl false) H) : So (rNeD K) x y H Q :=
  ned_sw h g f f ⟨z, z⟩ (by rw [f.self]; exact k)
theorem dp_lst {ds : List PyData} {xs : List V} (h : H a = some (.lst xs)) (g : DpAll K H xs ds) : Dp K H (.ref a) (.list ds) := .lst (SqL.of h) g
theorem dp_tup {ds : List PyData} {xs : List V} (h : H a = some (.tup xs)) (g : DpAll K H xs ds) : Dp K H (.ref a) (.tuple ds) := .tup (SqT.of h) g
end
end EM
namespace EM
open PySem PySem.Spec PyProof.Rows L2
section
variable {T : List (Addr × Str)} {p l q a b : Addr} {n m : Nat} {H H1 H2 H' : Hp} {o : HO} {K : PySem.W.Frag} {Q : VK} {E : XK}
theorem mk_low {t b : Int} (B : Bs T p l n H) (lo : Low t b) (hb : Bt 2000 b) (k : ∀ a H', Ext p H H' → Bs T p l n H' → RatP K p H' a t b → Q (.ref a) H') : Sw (spMkN K) [.int t, .int b] H Q E :=
  ⟨⟨t, b, rfl, by have := lo.pos; omega, Nat.lt_trans (hb.log (by decide)) (by decide), RatRes.low B lo (by have := lo.pos; omega) rfl k⟩⟩
theorem num_l {t b : Int} (h : NumP K p H (.ref a) t b) : RatP K p H a t b := ⟨num_ref h.num, fun z => h.ne (by rw [z])⟩
end
end EM
namespace EM
open PySem PySem.Spec PyProof.Rows L2
theorem RatP.getK {K K' : PySem.W.Frag} {p a : Addr} {H : Hp} {t b : Int} (h : RatP K p H a t b) (e : K = K') : RatAt K' H a t b := e ▸ h.rat
theorem NumP.getK {K K' : PySem.W.Frag} {p : Addr} {v : V} {H : Hp} {t b : Int} (h : NumP K p H v t b) (e : K = K') : Num K' H v t b := e ▸ h.num
end EM
namespace EM
open PySem PySem.Spec PyProof.Rows L2
theorem num_of_rat {K : PySem.W.Frag} {p a : Addr} {H : Hp} {t b : Int} (h : RatP K p H a t b) (lo : Low t b) : NumP K p H (.ref a) t b := h.num lo
end EM
namespace EM
open PySem PySem.Spec PyProof.Rows L2
theorem Bt.topL {n k : Nat} {t b : Int} (ht : Bt n t) (h : b ≠ 0) (e : n ≤ k) : Bt k (nTop t b) := (ht.top h).mono e
theorem Bt.botL {n k : Nat} {t b : Int} (hb : Bt n b) (h : b ≠ 0) (e : n ≤ k) : Bt k (nBot t b) := (hb.bot h).mono e
/-- (t/b + u/c) - u/c -/
theorem back_low {t b u c : Int} (b0 : b ≠ 0) (c0 : c ≠ 0) : (nTop (t * c + u * b) (b * c) * c + -u * nBot (t * c + u * b) (b * c)) * b = t * (nBot (t * c + u * b) (b * c) * c) := by
  have h := n_cross (t := t * c + u * b) (b := b * c)
  generalize nTop (t * c + u * b) (b * c) = x at h ⊢
  generalize nBot (t * c + u * b) (b * c) = y at h ⊢
  have e : (x * c + -u * y) * b = x * (b * c) - u * b * y := by
    rw [Int.add_mul, Int.sub_eq_add_neg, Int.neg_mul, Int.neg_mul]
    congr 1
    · ac_rfl
    · congr 1
      ac_rfl
  rw [e, h, Int.add_mul, Int.sub_eq_add_neg]
  have : t * c * y + u * b * y + -(u * b * y) = t * c * y := by omega
  rw [this]
  ac_rfl
end EM
namespace EM
open PySem PySem.Spec PyProof.Rows L2
section
variable {X : Cx} {CX : CXT} {n : Nat} {g C : Addr} {sp : Sp} {E : XK}
def rNotO (C : Addr) (sp : Sp) (E : XK) : V → Hp → VK → Prop := fun x H Q => ∃ a dx fs, x = .ref a ∧ H a = some (.ins C dx fs) ∧ sp [.ref a] H (fun z H' => ∃ k, z = .bl k ∧ Q (.bl (!k)) H') E
theorem un_notO (hs : PySem.W.findIn X.K (.ref C) "__bool__" = some (some (.ref g))) (hf : PySem.W.isFn X.K (.ref g) = true) (F : FnR X.prog X.w X.K X.mg X.base CX n g sp) (hr : Room n X.A) (hx : Passes CX X E) : UnR X (unaryOp .Not) (rNotO C sp E) := by
  intro pins s σ H x v Q I rx h
  obtain ⟨a, dx, fs, rfl, ha, q⟩ := h
  cases (show v = Value.ref a from rx)
  obtain ⟨ox, od, J, _⟩ := ins_at I ha
  obtain ⟨m, hF⟩ := I.fr
  refine not_of (PySem.W.truthy_K hF I.ok.mod.kin J hs hf ?_)
  refine wpAny_mono (wpAny_call (run_fnR (us := [.ref a]) (vs := [.ref a]) F hr hx I (.cons rfl .nil) q)) (fun w s2 z => ?_) fun _ _ x => x
  obtain ⟨z', H', I', rz, k, ez, qz⟩ := z
  subst ez
  cases (show w = Value.bool k from rz)
  exact ⟨.bl (!k), H', I', rfl, qz⟩
end
end EM
namespace EM
open PySem PySem.Spec PyProof.Rows L2
section
variable {T : List (Addr × Str)} {p l q a b : Addr} {n m : Nat} {H H1 H2 H' : Hp} {o : HO} {K : PySem.W.Frag} {Q : VK} {E : XK}
theorem over_sp {x : Addr} {v : V} {t b u c : Int} (B : Bs T p l n H) (rx : RatP K p H x t b) (lo : Low t b) (ny : NumP K p H v u c) (bt : Bt 2000 t) (bb : Bt 2000 b) (bu : Bt 2000 u) (bc : Bt 2000 c)
    (k : u ≠ 0 → ∀ a H', Ext p H H' → Bs T p l n H' → RatP K p H' a (nTop (t * c) (b * u)) (nBot (t * c) (b * u)) → Q (.ref a) H') (k0 : u = 0 → ∀ H', Ext p H H' → Bs T p l n H' → E (.ref (He.ga K "NoDivisor")) none H') : spOver K [.ref x, v] H Q E :=
  ⟨x, v, t, b, u, c, rfl, ⟨rx.rat, lo, ny.num, bt, bb, bu, bc⟩, fun u0 => RatRes.bs B (k u0), fun u0 H' s => k0 u0 H' (Ext.same s) (B.same s)⟩
theorem RatP.at_ {t b : Int} (h : RatP K p H a t b) : ∃ dx, At p H a (.ins (He.ga K "Ratio") dx (rf t b)) := by
  obtain ⟨⟨dx, h⟩, n⟩ := h
  exact ⟨dx, h, n, fun _ z => by cases z⟩
end
end EM
namespace EM
open PySem PySem.Spec PyProof.Rows L2
theorem mk2 {X : Cx} {b : List Stmt} {t : TS} {D : Ends} {σ : L2.St} {H : Hp} (d : PSs X b t) (h : t D σ H) : ∃ t, PSs X b t ∧ t D σ H := ⟨t, d, h⟩
end EM
namespace EM
theorem rsub_low {t b u c : Int} : (u * b + -t * c) * nBot (t * c + (0 - u) * b) (b * c) = (0 - nTop (t * c + (0 - u) * b) (b * c)) * (c * b) := by
  have h := n_cross (t := t * c + (0 - u) * b) (b := b * c)
  have e : u * b + -t * c = -(t * c + (0 - u) * b) := by
    rw [Int.zero_sub, Int.neg_mul, Int.neg_mul]
    omega
  rw [e]
  generalize nTop (t * c + (0 - u) * b) (b * c) = x at h ⊢
  generalize nBot (t * c + (0 - u) * b) (b * c) = y at h ⊢
  generalize t * c + (0 - u) * b = z at h ⊢
  rw [Int.neg_mul, ← h, Int.zero_sub, Int.neg_mul, Int.mul_comm c b]
theorem low_zs {t b : Int} (h : Low t b) : Low (0 - t) b := by
  rw [Int.zero_sub]
  exact low_neg h
end EM
/-! EM37: int // x, int % x where x is an instance; == and the order of an instance with an int. -/
namespace PySem.W
open PySem PySem.Calls PyProof.Rows Builtin Builtin.Int
section
variable {prog : Program} {w : World} {A : Around} {E : Value → Shared → Prop} {s : Shared} {x C : Addr} {ox : Obj} {od : Option Obj}
theorem em_declW {nm : Str} {id n : String} {bi : Builtin} {i : Int} {t : Tok} (S : Slot "int" nm id) (en : entryFor table id = some bi) (hk : builtinKind id = some .slot) (hsp : splitId id = some ("int", n)) (ha : ∀ a b : Value, argsOk id ⟨[a, b], []⟩)
    (hb : ∀ (A : Around) (E : Value → Shared → Prop) (Q : Fin → Shared → Prop), wpAny (model prog w) A (ret .notImplemented) Q E s → wpAny (model prog w) A (bi ⟨[.int i t, .ref x], []⟩) Q E s) (I : InstAt s.heap x ox C od) (hd : ox.data = .plain) (E : Value → Shared → Prop) (Q : Option Value → Shared → Prop) (q : Q none s) : wpAny (model prog w) A (tryMethod (.int i t) nm (.ref x)) Q E s := by
  refine wpAny_tryMethod_declines (typeIs_int _ _ _) S (wpAny_call (codeAny_call_builtin S.plain en (check_slot hk hsp (int_is i t _) (ha _ _) ?_)))
  exact hb _ _ _ (wpAny_pure ⟨rfl, q⟩)
theorem decl_mod {i : Int} {t : Tok} (I : InstAt s.heap x ox C od) (hd : ox.data = .plain) (E : Value → Shared → Prop) (Q : Option Value → Shared → Prop) (q : Q none s) : wpAny (model prog w) A (tryMethod (.int i t) (PySem.dunder "mod") (.ref x)) Q E s :=
  em_declW (n := "__mod__") F.slot_int_mod F.entry_int_mod (by decide +kernel) (by decide +kernel) F.args_int_mod_2 (fun A E Q h => by
    unfold Builtin.«int.__mod__»
    exact em_nobin I hd h) I hd E Q q
theorem decl_floordiv {i : Int} {t : Tok} (I : InstAt s.heap x ox C od) (hd : ox.data = .plain) (E : Value → Shared → Prop) (Q : Option Value → Shared → Prop) (q : Q none s) : wpAny (model prog w) A (tryMethod (.int i t) (PySem.dunder "floordiv") (.ref x)) Q E s :=
  em_declW (n := "__floordiv__") F.slot_int_floordiv F.entry_int_floordiv (by decide +kernel) (by decide +kernel) F.args_int_floordiv_2 (fun A E Q h => by
    unfold Builtin.«int.__floordiv__»
    refine wpAny_bind (m := exactOperandsForPylong false _) ?_
    unfold exactOperandsForPylong
    rw [if_pos (by rfl)]
    refine wpAny_bind (m := asInt? (.int i t)) (wpAny_pure ?_)
    refine wpAny_bind (m := asInt? (.ref x)) ?_
    unfold asInt?
    refine wpAny_bind (wpAny_load I.at_ ?_)
    rw [hd]
    refine wpAny_pure ?_
    refine wpAny_pure ?_
    exact em_nobin I hd h) I hd E Q q
end
end PySem.W
namespace EM
open PySem PySem.Spec PyProof.Rows L2
section
variable {X : Cx} {CX : CXT} {n : Nat} {g C : Addr} {sp : Sp} {E : XK}
/-- x op y of an instance with an instance of its class or an int -/
theorem op_cmpI {op : CmpOp} (hop : ∀ a b, compareOp op a b = richCompare op a b) (hs : PySem.W.findIn X.K (.ref C) (cmpInfo op).2.1 = some (some (.ref g))) (hf : PySem.W.isFn X.K (.ref g) = true) (hi : PySem.W.subIn X.K (.type "int") (.ref C) = some false) (F : FnR X.prog X.w X.K X.mg X.base CX n g sp)
    (hr : Room n X.A) (hx : Passes CX X E) : OpR X (compareOp op) (rBinO C sp E) := by
  intro pins s σ H x y v u Q I rx ry h
  obtain ⟨a, dx, fs, rfl, ha, hy, q⟩ := h
  cases (show v = Value.ref a from rx)
  obtain ⟨ox, od, J, _⟩ := ins_at I ha
  obtain ⟨m, hF⟩ := I.fr
  have run : wpAny (model X.prog X.w) X.A (call (.ref g) [.ref a, u]) (PySem.W.CmpBack (EP X pins σ Q)) X.xe s :=
    wpAny_mono (wpAny_call (run_fnR (us := [.ref a, u]) (vs := [.ref a, y]) F hr hx I (.cons rfl (.cons ry .nil)) q)) (fun w s2 z => by
      obtain ⟨z', H', I', rz, qz⟩ := z
      exact SlX.cmpback rz ⟨z', H', I', rz, qz⟩) fun _ _ x => x
  rw [hop]
  rcases hy with ⟨b, dy, gs, rfl, hb⟩ | ⟨i, rfl⟩
  · cases (show u = Value.ref b from ry)
    obtain ⟨oy, od', J', _⟩ := ins_at I hb
    exact PySem.W.cmp_K (op := op) (tb := .ref C) hr.units0 hF I.ok.mod.kin J J'.type notFirst_self hs hf run
  · obtain ⟨t, rfl⟩ := ry
    exact PySem.W.cmp_K (op := op) (tb := .type "int") hr.units0 hF I.ok.mod.kin J (PySem.W.Looks.of_pure rfl) (by unfold PySem.W.notFirst; rw [hi]; simp) hs hf run
end
end EM
/-! EM38: a Ratio's fields and methods by RatAt; of, is_number, over as steps. -/
namespace EM
open PySem PySem.Spec PyProof.Rows L2
section
variable {X : Cx} {CX : CXT} {k : Nat} {f : Addr} {sp : Sp} {E : XK} {m : Str} {e o : Expr} {es : List Expr} {ta : TE} {t : TA} {pos apos : Pos} {pl : Sem Bool}
def tMRN (K : PySem.W.Frag) (sp : Sp) (E : XK) (ta : TE) (t : TA) : TE := fun σ H Q => ta σ H fun x H1 => ∃ a u c, x = V.ref a ∧ RatAt K H1 a u c ∧ t σ H1 fun vs H2 => sp (x :: vs) H2 Q E
/-- o.m(e, ..) of a Ratio -/
theorem pe_mRN (he : PE X o ta) (c : Cls X.K (He.ga X.K "Ratio")) (hm : Meth X.K (He.ga X.K "Ratio") m f) (hl : ∀ u c, (rf u c).lookup m = none) (F : FnR X.prog X.w X.K X.mg X.base CX k f sp) (hr : Room k X.A) (hx : Passes CX X E) (ha : PA X (e :: es) t)
    (hst : starEach (e :: es) X.env = (false, eval e X.env) :: starEach es X.env := by rfl) (hpl : (backTo pos (starEach es X.env)).any (·.1) = false := by rfl)
    (ht : eval (.Call (.Attribute o m apos) (e :: es) [] pos) X.env = (do
      let ov ← eval o X.env
      standAt apos.atName
      let (f, first) ← holding [ov] (getMethod ov m pl)
      callWith pos f first (backTo pos (starEach (e :: es) X.env)) (backToKw pos (keywordEach [] X.env))) := by rfl) :
    PE X (.Call (.Attribute o m apos) (e :: es) [] pos) (tMRN X.K sp E ta t) :=
  (pe_mR he.mc c hm F hr hx ha hst hpl ht).of fun σ H Q q => ⟨_, q, fun x H1 ⟨a, u, c, e, ⟨dx, r⟩, k⟩ => ⟨a, dx, _, e, r, hl u c, k⟩⟩
/-- o.m() of a Ratio -/
theorem pe_mRN0 (he : PE X o ta) (c : Cls X.K (He.ga X.K "Ratio")) (hm : Meth X.K (He.ga X.K "Ratio") m f) (hl : ∀ u c, (rf u c).lookup m = none) (F : FnR X.prog X.w X.K X.mg X.base CX k f sp) (hr : Room k X.A) (hx : Passes CX X E)
    (ht : eval (.Call (.Attribute o m apos) [] [] pos) X.env = (do
      let ov ← eval o X.env
      standAt apos.atName
      let (f, first) ← holding [ov] (getMethod ov m pl)
      callWith pos f first (backTo pos (starEach [] X.env)) (backToKw pos (keywordEach [] X.env))) := by rfl) :
    PE X (.Call (.Attribute o m apos) [] [] pos) (tMRN X.K sp E ta tNil) :=
  (pe_mR0 he.mc c hm F hr hx ht).of fun σ H Q q => ⟨_, q, fun x H1 ⟨a, u, c, e, ⟨dx, r⟩, k⟩ => ⟨a, dx, _, e, r, hl u c, k⟩⟩
end
section
variable {T : List (Addr × Str)} {p l q a b : Addr} {n m : Nat} {H H1 H2 H' : Hp} {o : HO} {K : PySem.W.Frag} {Q : VK} {E : XK}
theorem isNum_sw {v : V} {t b : Int} (h : NumP K p H v t b) (k : Q (.bl true) H) : Sw (spIsNum K) [v] H Q E := ⟨isNum h.num k⟩
theorem of_sw {v : V} {t b : Int} (B : Bs T p l n H) (h : NumP K p H v t b) (k : ∀ a H', Ext p H H' → Bs T p l n H' → RatP K p H' a t b → Q (.ref a) H') : Sw (spOfN K) [v] H Q E :=
  ⟨⟨v, t, b, rfl, h.num, fun a H' s r => k a H' (Ext.same s) (B.same s) (RatP.of (B.same s) r)⟩⟩
theorem over_sw {x : Addr} {v : V} {t b u c : Int} (B : Bs T p l n H) (rx : RatP K p H x t b) (lo : Low t b) (ny : NumP K p H v u c) (bt : Bt 2000 t) (bb : Bt 2000 b) (bu : Bt 2000 u) (bc : Bt 2000 c)
    (k : u ≠ 0 → ∀ a H', Ext p H H' → Bs T p l n H' → RatP K p H' a (nTop (t * c) (b * u)) (nBot (t * c) (b * u)) → Q (.ref a) H') (k0 : u = 0 → ∀ H', Ext p H H' → Bs T p l n H' → E (.ref (He.ga K "NoDivisor")) none H') : Sw (spOver K) [.ref x, v] H Q E :=
  ⟨over_sp B rx lo ny bt bb bu bc k k0⟩
end
/-! ### promises of //, % and the roundings -/
def spFloor (K : PySem.W.Frag) : Sp := fun vs H Q _ => ∃ (T : List (Addr × Str)) (p l : Addr) (n : Nat) (x : Addr) (t b : Int), vs = [.ref x] ∧ Bs T p l n H ∧ RatP K p H x t b ∧ 0 < b ∧ Bt 2000 b ∧ Q (.int (t / b)) H
def spCeil (K : PySem.W.Frag) : Sp := fun vs H Q _ => ∃ (T : List (Addr × Str)) (p l : Addr) (n : Nat) (x : Addr) (t b : Int), vs = [.ref x] ∧ Bs T p l n H ∧ RatP K p H x t b ∧ 0 < b ∧ Bt 2000 b ∧ Q (.int (-(-t / b))) H
def qFl (t b u c : Int) : Int := nTop (t * c) (b * u) / nBot (t * c) (b * u)
structure TwoP (K : PySem.W.Frag) (T : List (Addr × Str)) (p l : Addr) (n : Nat) (H : Hp) (x : Addr) (v : V) (t b u c : Int) : Prop where
  B : Bs T p l n H
  rx : RatP K p H x t b
  lo : Low t b
  ny : NumP K p H v u c
  bt : Bt 400 t
  bb : Bt 400 b
  bu : Bt 400 u
  bc : Bt 400 c
def spFdiv (K : PySem.W.Frag) : Sp := fun vs H Q E => ∃ T p l n x v t b u c, vs = [.ref x, v] ∧ TwoP K T p l n H x v t b u c ∧ (u ≠ 0 → ∀ H', Ext p H H' → Bs T p l n H' → Q (.int (qFl t b u c)) H') ∧ (u = 0 → ∀ H', Ext p H H' → Bs T p l n H' → E (.ref (He.ga K "NoDivisor")) none H')
def spRfdiv (K : PySem.W.Frag) : Sp := fun vs H Q E => ∃ T p l n x v t b u c, vs = [.ref x, v] ∧ TwoP K T p l n H x v t b u c ∧ (t ≠ 0 → ∀ H', Ext p H H' → Bs T p l n H' → Q (.int (qFl u c t b)) H') ∧ (t = 0 → ∀ H', Ext p H H' → Bs T p l n H' → E (.ref (He.ga K "NoDivisor")) none H')
def spMod (K : PySem.W.Frag) : Sp := fun vs H Q E => ∃ T p l n x v t b u c, vs = [.ref x, v] ∧ TwoP K T p l n H x v t b u c ∧ (u ≠ 0 → ∀ a H', Ext p H H' → Bs T p l n H' → RatP K p H' a (nTop (t * c - qFl t b u c * u * b) (b * c)) (nBot (t * c - qFl t b u c * u * b) (b * c)) → Q (.ref a) H') ∧ (u = 0 → ∀ H', Ext p H H' → Bs T p l n H' → E (.ref (He.ga K "NoDivisor")) none H')
def spRmod (K : PySem.W.Frag) : Sp := fun vs H Q E => ∃ T p l n x v t b u c, vs = [.ref x, v] ∧ TwoP K T p l n H x v t b u c ∧ (t ≠ 0 → ∀ a H', Ext p H H' → Bs T p l n H' → RatP K p H' a (nTop (u * b - qFl u c t b * t * c) (c * b)) (nBot (u * b - qFl u c t b * t * c) (c * b)) → Q (.ref a) H') ∧ (t = 0 → ∀ H', Ext p H H' → Bs T p l n H' → E (.ref (He.ga K "NoDivisor")) none H')
def spEqN (K : PySem.W.Frag) : Sp := fun vs H Q _ => ∃ T p l n x v t b u c, vs = [.ref x, v] ∧ TwoP K T p l n H x v t b u c ∧ ∀ H', Ext p H H' → Bs T p l n H' → Q (.bl (decide (V.int (nTop (t * c + -u * b) (b * c)) = V.int 0))) H'
end EM
namespace EM
open PySem PySem.Spec PyProof.Rows L2
section
variable {X : Cx} {e : Expr} {ta : TE} {pos : Pos}
def tRatF (K : PySem.W.Frag) (g : Int → Int → Int) (ta : TE) : TE := fun σ H Q => ta σ H fun x H1 => ∃ a t b, x = V.ref a ∧ RatAt K H1 a t b ∧ Q (.int (g t b)) H1
theorem pe_topN (he : PE X e ta) (c : Cls X.K (He.ga X.K "Ratio")) (na : NoAttr X.K (He.ga X.K "Ratio") "top") (hb : attributeBase e "top" X.env (eval e X.env) = eval e X.env) : PE X (.Attribute e "top" pos) (tRatF X.K (fun t _ => t) ta) :=
  (pe_fld he.mc hb).of fun σ H Q q => ⟨_, q, fun x H1 ⟨a, t, b, e, ⟨dx, r⟩, k⟩ => ⟨a, _, dx, _, .int t, e, r, c, na, rfl, k⟩⟩
theorem pe_botN (he : PE X e ta) (c : Cls X.K (He.ga X.K "Ratio")) (na : NoAttr X.K (He.ga X.K "Ratio") "bottom") (hb : attributeBase e "bottom" X.env (eval e X.env) = eval e X.env) : PE X (.Attribute e "bottom" pos) (tRatF X.K (fun _ b => b) ta) :=
  (pe_fld he.mc hb).of fun σ H Q q => ⟨_, q, fun x H1 ⟨a, t, b, e, ⟨dx, r⟩, k⟩ => ⟨a, _, dx, _, .int b, e, r, c, na, rfl, k⟩⟩
end
end EM
namespace EM
open PySem PySem.Spec PyProof.Rows L2
section
variable {X : Cx} {f : Value → Value → Sem Value} {sp sp1 sp2 : Sp} {E E' : XK}
def rOpL (K : PySem.W.Frag) (sp : Sp) (E : XK) : R2 := fun x y H Q => ∃ a t b u c, x = .ref a ∧ RatAt K H a t b ∧ Num K H y u c ∧ sp [.ref a, y] H Q E
theorem op_L (h : OpR X f (rBinO (He.ga X.K "Ratio") sp E)) : OpR X f (rOpL X.K sp E) := by
  refine opR_of h fun x y H Q h => ?_
  obtain ⟨a, t, b, u, c, rfl, ⟨dx, ra⟩, n2, k⟩ := h
  refine ⟨a, dx, _, rfl, ra, ?_, k⟩
  rcases n2.2 with ⟨a', e, da, ha⟩ | ⟨e, _⟩
  · exact .inl ⟨a', da, _, e, ha⟩
  · exact .inr ⟨_, e⟩
/-- either side may be an int, not both -/
def rOpN (K : PySem.W.Frag) (sp1 sp2 : Sp) (E : XK) : R2 := fun x y H Q => (∃ a t b u c, x = .ref a ∧ RatAt K H a t b ∧ Num K H y u c ∧ sp1 [.ref a, y] H Q E) ∨ (∃ i a t b, x = .int i ∧ y = .ref a ∧ RatAt K H a t b ∧ sp2 [.ref a, .int i] H Q E)
theorem op_LR (h : OpR X f (rBinO (He.ga X.K "Ratio") sp1 E)) (h2 : OpR X f (rBinR (He.ga X.K "Ratio") sp2 E)) : OpR X f (rOpN X.K sp1 sp2 E) := by
  refine opR_of (op_two (op_L h) h2) fun x y H Q h => ?_
  rcases h with h | ⟨i, a, t, b, rfl, rfl, ⟨dx, r⟩, k⟩
  · exact .inl h
  · exact .inr ⟨i, a, dx, _, rfl, rfl, r, k⟩
end
def nearV (t b : Int) : V := if nTop (nTop (t * 2 + 1 * b) (b * 2) * 1 + -(nTop (t * 2 + 1 * b) (b * 2) / nBot (t * 2 + 1 * b) (b * 2)) * nBot (t * 2 + 1 * b) (b * 2)) (nBot (t * 2 + 1 * b) (b * 2) * 1) = 0 then .non else .int (nTop (t * 2 + 1 * b) (b * 2) / nBot (t * 2 + 1 * b) (b * 2))
def spNear (K : PySem.W.Frag) : Sp := fun vs H Q _ => ∃ (T : List (Addr × Str)) (p l : Addr) (n : Nat) (x : Addr) (t b : Int), vs = [.ref x] ∧ Bs T p l n H ∧ RatP K p H x t b ∧ Low t b ∧ Bt 300 t ∧ Bt 300 b ∧ ∀ H', Ext p H H' → Bs T p l n H' → Q (nearV t b) H'
theorem mod_e {t b u c w T B : Int} (h : T * (c * 1) = u * w * B) : (t * B + -T * b) * (b * c) = (t * c - w * u * b) * (b * B) := by
  rw [Int.mul_one] at h
  have e1 : (t * B + -T * b) * (b * c) = t * B * b * c - T * c * (b * b) := by
    rw [Int.add_mul, Int.sub_eq_add_neg, Int.neg_mul, Int.neg_mul]
    congr 1
    · ac_rfl
    · congr 1
      ac_rfl
  have e2 : (t * c - w * u * b) * (b * B) = t * B * b * c - u * w * B * (b * b) := by
    rw [Int.sub_mul]
    congr 1
    · ac_rfl
    · ac_rfl
  rw [e1, e2, h]
end EM
namespace EM
theorem Bt.div {n : Nat} {i j : Int} (h : Bt n i) (hj : 0 < j) : Bt n (i / j) := by
  refine h.le ?_
  rcases Int.lt_or_le i 0 with hi | hi
  · have h1 : i ≤ i / j := Int.le_ediv_of_mul_le hj (by
      have : i * j ≤ i * 1 := Int.mul_le_mul_of_nonpos_left (by omega) (by omega)
      omega)
    have h2 : i / j < 0 := Int.ediv_neg_of_neg_of_pos hi hj
    omega
  · have h1 : i / j ≤ i := Int.ediv_le_self j hi
    have h2 : 0 ≤ i / j := Int.ediv_nonneg hi (by omega)
    omega
end EM
namespace EM
open PySem PySem.Spec PyProof.Rows L2
theorem Bt.divM {n k : Nat} {i j : Int} (h : Bt n i) (hj : 0 < j) (e : n ≤ k) : Bt k (i / j) := (h.div hj).mono e
/-- the nearest integer of t / b as the law reckons it -/
def nearL (t b : Int) : V := if 2 * (t - t / b * b) = b then .non else if 2 * (t - t / b * b) < b then .int (t / b) else .int (t / b + 1)
theorem div_n {x y : Int} (hy : 0 < y) : nTop x y / nBot x y = x / y := by
  obtain ⟨h1, h2⟩ := n_mul (t := x) (b := y)
  have hp := (n_low (t := x) (b := y) (by omega)).pos
  have hs : 0 < shr x y := by
    apply Classical.byContradiction
    intro z
    have : nBot x y * shr x y ≤ nBot x y * 0 := Int.mul_le_mul_of_nonneg_left (by omega) (by omega)
    omega
  have e : x / y = nTop x y * shr x y / (nBot x y * shr x y) := by rw [h1, h2]
  rw [e, Int.mul_ediv_mul_of_pos_left _ _ hs]
theorem near_eq {t b : Int} (hb : 0 < b) : nearV t b = nearL t b := by
  have h2 : 0 < b * 2 := by omega
  have c := n_cross (t := t * 2 + 1 * b) (b := b * 2)
  have p1 := (n_low (t := t * 2 + 1 * b) (b := b * 2) (by omega)).pos
  unfold nearV nearL
  rw [div_n h2]
  have r1 : 0 ≤ t % b := Int.emod_nonneg _ (by omega)
  have r2 : t % b < b := Int.emod_lt_of_pos _ hb
  have ed : t - t / b * b = t % b := by
    have := Int.mul_ediv_add_emod t b
    rw [Int.mul_comm] at this
    omega
  rw [ed]
  have eq0 : t = t / b * b + t % b := by omega
  generalize t / b = q at eq0 ⊢
  generalize t % b = r at eq0 r1 r2 ⊢
  subst eq0
  have ex : (q * b + r) * 2 + 1 * b = q * (b * 2) + (2 * r + b) := by
    rw [Int.add_mul, Int.mul_assoc]
    omega
  have ef : ∀ k m : Int, 0 ≤ m → m < b * 2 → (q * b + r) * 2 + 1 * b = k * (b * 2) + m → ((q * b + r) * 2 + 1 * b) / (b * 2) = k := fun k m h0 h1 e => by
    rw [e, Int.add_comm, Int.add_mul_ediv_right _ _ (by omega), Int.ediv_eq_zero_of_lt h0 h1]
    omega
  have ez : ∀ k m : Int, (q * b + r) * 2 + 1 * b = k * (b * 2) + m → (nTop (nTop ((q * b + r) * 2 + 1 * b) (b * 2) * 1 + -k * nBot ((q * b + r) * 2 + 1 * b) (b * 2)) (nBot ((q * b + r) * 2 + 1 * b) (b * 2) * 1) = 0 ↔ m = 0) := fun k m e => by
    generalize hT : nTop ((q * b + r) * 2 + 1 * b) (b * 2) = T at c p1 ⊢
    generalize hB : nBot ((q * b + r) * 2 + 1 * b) (b * 2) = B at c p1 ⊢
    have z : ∀ X Y : Int, 0 < Y → (nTop X Y = 0 ↔ X = 0) := fun X Y hY => by
      have h := n_cross (t := X) (b := Y)
      have hp := (n_low (t := X) (b := Y) (by omega)).pos
      constructor
      · intro h0
        rw [h0, Int.zero_mul] at h
        rcases Int.mul_eq_zero.mp h.symm with h | h
        · exact h
        · omega
      · intro h0
        rw [h0, Int.zero_mul] at h
        rcases Int.mul_eq_zero.mp h with h | h
        · rw [h0]; exact h
        · omega
    rw [z _ _ (by omega)]
    have e3 : (T * 1 + -k * B) * (b * 2) = m * B := by
      rw [Int.mul_one, Int.add_mul, c, e, Int.neg_mul, Int.neg_mul, Int.add_mul]
      have : k * (b * 2) * B = k * B * (b * 2) := by ac_rfl
      omega
    constructor
    · intro h0
      rw [h0, Int.zero_mul] at e3
      rcases Int.mul_eq_zero.mp e3.symm with h | h
      · exact h
      · omega
    · intro h0
      rw [h0, Int.zero_mul] at e3
      rcases Int.mul_eq_zero.mp e3 with h | h
      · exact h
      · omega
  rcases Int.lt_trichotomy (2 * r) b with h | h | h
  · rw [ef q (2 * r + b) (by omega) (by omega) ex, if_neg (fun z => by have := (ez q _ ex).mp z; omega), if_neg (by omega), if_pos h]
  · have e4 : (q * b + r) * 2 + 1 * b = (q + 1) * (b * 2) + 0 := by
      rw [ex, Int.add_mul]
      omega
    rw [ef (q + 1) 0 (by omega) (by omega) e4, if_pos ((ez (q + 1) 0 e4).mpr rfl), if_pos h]
  · have e4 : (q * b + r) * 2 + 1 * b = (q + 1) * (b * 2) + (2 * r - b) := by
      rw [ex, Int.add_mul]
      omega
    rw [ef (q + 1) (2 * r - b) (by omega) (by omega) e4, if_neg (fun z => by have := (ez (q + 1) _ e4).mp z; omega), if_neg (by omega), if_neg (by omega)]
theorem ceil_eq {t b : Int} (lo : Low t b) : -(-t / b) = t / b + (if 1 < b then 1 else 0) := by
  have hb := lo.pos
  have r1 : 0 ≤ t % b := Int.emod_nonneg _ (by omega)
  have r2 : t % b < b := Int.emod_lt_of_pos _ hb
  have eq0 : b * (t / b) + t % b = t := Int.mul_ediv_add_emod t b
  split
  · rename_i h1
    have hr : t % b ≠ 0 := fun z => by
      have d : b ∣ t := Int.dvd_of_emod_eq_zero z
      have := lo.red
      have e : Int.gcd t b = b.natAbs := by
        show Nat.gcd t.natAbs b.natAbs = b.natAbs
        exact Nat.gcd_eq_right (Int.natAbs_dvd_natAbs.mpr d)
      omega
    have e : -t = -(t / b + 1) * b + (b - t % b) := by
      rw [Int.neg_mul, Int.add_mul, Int.mul_comm (t / b) b]
      omega
    rw [e, Int.add_comm, Int.add_mul_ediv_right _ _ (by omega), Int.ediv_eq_zero_of_lt (by omega) (by omega)]
    omega
  · have : b = 1 := by omega
    subst this
    simp
theorem qFl_eq {t b u c : Int} (h : b * u ≠ 0) : qFl t b u c = if b * u < 0 then (0 - t * c) / (0 - b * u) else t * c / (b * u) := by
  unfold qFl
  split
  · rename_i hn
    obtain ⟨e1, e2⟩ := n_eq (t := t * c) (b := b * u) (u := 0 - t * c) (c := 0 - b * u) h (by omega) (by
      rw [Int.zero_sub, Int.zero_sub, Int.mul_neg, Int.neg_mul])
    rw [e1, e2, div_n (by omega)]
  · rw [div_n (by omega)]
end EM
namespace EM
open PySem PySem.Spec PyProof.Rows L2
theorem call_intN {X : Cx} : CallR X (.type "int") (fun xs H Q => ∃ i, xs = [.int i] ∧ Q (.int i) H) := callR_of call_int1 fun _ _ _ h => .inl h
theorem call_intBN {X : Cx} : CallR X (.type "int") (fun xs H Q => ∃ k, xs = [.bl k] ∧ Q (.int (if k then 1 else 0)) H) := callR_of call_int1 fun _ _ _ h => .inr h
end EM
/-! EM39: append in a law's own code: one object is written (Mu). -/
namespace EM
open PySem PySem.Spec PyProof.Rows L2
structure Mu (l : Addr) (H H' : Hp) (o : HO) : Prop where
  at_ : H' l = some o
  old : ∀ b, b ≠ l → H' b = H b
theorem Mu.upd {l : Addr} {H : Hp} {o : HO} : Mu l H (L2.upd H l o) o := ⟨upd_same, fun b n => upd_ne n⟩
section
variable {T : List (Addr × Str)} {p l0 l b : Addr} {n : Nat} {H H' : Hp} {o o2 : HO} {K : PySem.W.Frag} {xs ys : List V} {v : V} {t c : Int}
theorem Mu.eq (m : Mu l H H' o) : H' = L2.upd H l o := by
  funext b
  by_cases h : b = l
  · rw [h, m.at_, upd_same]
  · rw [m.old b h, upd_ne h]
theorem Mu.bs (m : Mu l H H' o) (B : Bs T p l0 n H) (h : At p H l (.lst xs)) (nl : l ≠ l0) : Bs T p l0 n H' := by
  rw [m.eq]
  exact ⟨B.pen.mut h.ne nl, tabs_mut B.tab h.at_⟩
theorem Mu.at_n (m : Mu l H H' o) (h : At p H b o2) (nb : b ≠ l) : At p H' b o2 := ⟨by rw [m.old b nb]; exact h.at_, h.ne, h.nt⟩
theorem Mu.at_k (m : Mu l H H' o) (h : At p H b o2) (g : At p H l (.lst xs)) (nk : ∀ xs, o2 ≠ .lst xs) : At p H' b o2 := m.at_n h (ne_of h.at_ g.at_ (nk _))
theorem Mu.here (m : Mu l H H' (.lst ys)) (g : At p H l (.lst xs)) : At p H' l (.lst ys) := ⟨m.at_, g.ne, fun _ z => by cases z⟩
theorem Mu.rat (m : Mu l H H' o) (h : RatP K p H b t c) (g : At p H l (.lst xs)) : RatP K p H' b t c := by
  obtain ⟨⟨dx, h⟩, n⟩ := h
  exact ⟨⟨dx, by rw [m.old b (ne_of h g.at_ (by intro z; cases z))]; exact h⟩, n⟩
theorem Mu.num (m : Mu l H H' o) (h : NumP K p H v t c) (g : At p H l (.lst xs)) : NumP K p H' v t c := by
  obtain ⟨⟨lo, h⟩, n⟩ := h
  refine ⟨⟨lo, ?_⟩, n⟩
  rcases h with ⟨a, rfl, r⟩ | h
  · exact .inl ⟨a, rfl, (m.rat (K := K) ⟨r, fun z => n (by rw [z])⟩ g).rat⟩
  · exact .inr h
theorem Bs.nel' (B : Bs T p l0 n H) (h : H b = none) : b ≠ l0 := B.nel h
end
section
variable {X : Cx} {o e : Expr} {to te : TE}
def tAppN (to te : TE) : TE := fun σ H Q => to σ H fun x H1 => ∃ l ys, x = V.ref l ∧ H1 l = some (.lst ys) ∧ te σ H1 fun v H2 => ∃ xs, H2 l = some (.lst xs) ∧ xs.length < 100000 ∧ ∀ H3, Mu l H2 H3 (.lst (xs ++ [v])) → Q .non H3
end
end EM
namespace EM
open PySem PySem.Spec PyProof.Rows L2
section
variable {X : Cx} {o e : Expr} {to te : TE} {apos cpos : Pos}
/-- o.append(e) -/
theorem pe_appN (ho : PE X o to) (he : PE X e te) (hbase : attributeBase o "append" X.env (eval o X.env) = eval o X.env := by rfl)
    (hfew : ((backTo cpos (starEach [e] X.env)).all (fun x => !x.1) && (backToKw cpos (keywordEach [] X.env)).all (fun x => x.1.isSome) && decide ([e].length + ([] : List Keyword).length + (if ([] : List Keyword).isEmpty then 0 else 1) < 30)) = true := by rfl)
    (hline : (apos.endLine == cpos.line) = true := by rfl) (hs : starEach [e] X.env = (false, eval e X.env) :: starEach [] X.env := by rfl) (hplain : (backTo cpos (starEach [] X.env)).any (·.1) = false := by rfl) :
    PE X (.Call (.Attribute o "append" apos) [e] [] cpos) (tAppN to te) :=
  (pe_bm PySem.F.plainAttrs_list PySem.F.slot_list_append PySem.F.type_list_append mt_append ho.mc (pa_cons he.mc pa_nil hs) hbase hfew hline hs hplain).of fun σ H Q q => ⟨_, q, fun x H1 ⟨l, ys, e1, h1, h2⟩ => by
    subst e1
    exact ⟨.inl ⟨rfl, ys, SqL.of h1⟩, _, h2, fun v H2 ⟨xs, h3, h4, h5⟩ => ⟨l, xs, v, rfl, rfl, h3, szl h4, h5 _ Mu.upd⟩⟩⟩
end
end EM
/-! EM40: y op x, a comparison whose left value's builtin declines an instance on the right. -/
namespace PySem.W
open PySem PySem.Calls PyProof.Rows Builtin
section
variable {prog : Program} {w : World} {A : Around} {E : Value → Shared → Prop} {s : Shared} {K : Frag} {x C L f : Addr} {h₀ : Heap} {m : Str → Option Value} {ox : Obj} {od : Option Obj}
theorem em_cmpR {op : CmpOp} {a : Value} {B : String} {Q : Value → Shared → Prop} (hu : A.units < cLine) (F : Fr h₀ L s.heap m) (X₀ : K.In h₀) (I : InstAt s.heap x ox C od) (ha : s.TypeIs a B) (ho : oneThing? op a (.ref x) = none) (hn : subIn K (.ref C) (.type B) = some false)
    (hd : ∀ (E : Value → Shared → Prop) (Q' : Option Value → Shared → Prop), Q' none s → wpAny (model prog w) A (tryCompare a (cmpInfo op).2.1 (.ref x)) Q' E s)
    (one : wpAny (model prog w) A (tryCompare (.ref x) (cmpInfo op).2.2 a) (fun r s' => ∃ v, r = some v ∧ Q v s') E s) : wpAny (model prog w) A (richCompare op a (.ref x)) Q E s := by
  have X := X₀.keeps F.keep
  have hne : (Value.type B != Value.ref C) = true := by
    simp
  unfold richCompare
  simp only [ho]
  refine wpAny_holding (wpAny_bind (wpAny_cRoomFor hu ?_))
  refine wpAny_bind (wpAny_typeOf ha (wpAny_bind (I.type.here ?_)))
  simp only [hne, if_true]
  refine wpAny_bind ((looks_subIn X hn).here ?_)
  simp only [Bool.false_eq_true, if_false]
  refine wpAny_bind (hd _ _ ?_)
  simp only [Bool.not_false, if_true]
  refine wpAny_bind (wpAny_mono one (fun r s' z => ?_) fun _ _ e => e)
  obtain ⟨v, rfl, hq⟩ := z
  exact wpAny_pure hq
/-- the own one answers from behind -/
theorem em_back {op : CmpOp} {a : Value} {Q : Value → Shared → Prop} (F : Fr h₀ L s.heap m) (X₀ : K.In h₀) (I : InstAt s.heap x ox C od) (hs : findIn K (.ref C) (cmpInfo op).2.2 = some (some (.ref f))) (hf : isFn K (.ref f) = true)
    (h : wpAny (model prog w) A (call (.ref f) [.ref x, a]) (CmpBack Q) E s) : wpAny (model prog w) A (tryCompare (.ref x) (cmpInfo op).2.2 a) (fun r s' => ∃ v, r = some v ∧ Q v s') E s := by
  unfold tryCompare
  refine wpAny_bind (ifBound_K (X₀.keeps F.keep) I hs hf (wpAny_mono h (fun v s' hv => ?_) fun _ _ e => e))
  cases v <;> first | exact hv.elim | exact wpAny_pure ⟨_, rfl, hv⟩
/-- != by the own == from behind -/
theorem em_backNe {a : Value} {Q : Value → Shared → Prop} (hu : A.units + 1 < cLine) (F : Fr h₀ L s.heap m) (X₀ : K.In h₀) (I : InstAt s.heap x ox C od)
    (hs : findIn K (.ref C) "__ne__" = some (some (.builtin "object.__ne__"))) (hm : mroIn K C (.type "object") = some true) (he : findIn K (.ref C) "__eq__" = some (some (.ref f))) (hf : isFn K (.ref f) = true)
    (h : wpAny (model prog w) A.in1 (call (.ref f) [.ref x, a]) (fun v s' => ∃ r, v = .bool r ∧ Q (.bool (!r)) s') E s) : wpAny (model prog w) A (tryCompare (.ref x) (cmpInfo .NotEq).2.2 a) (fun r s' => ∃ v, r = some v ∧ Q v s') E s := by
  have X := X₀.keeps F.keep
  unfold tryCompare
  refine wpAny_bind (em_ifBound X I hs PySem.F.slot_object_ne.bind (em_objNe hu X I hm he hf (wpAny_mono h (fun v s' hv => ?_) fun _ _ e => e)))
  obtain ⟨r, rfl, q⟩ := hv
  exact ⟨r, rfl, wpAny_pure ⟨_, rfl, q⟩⟩
theorem typeIs_keep {s s' : Shared} {a : Value} {B : String} (h : s.TypeIs a B) (k : ∀ b o, s.heap.get? b = some o → s'.heap.get? b = some o) : s'.TypeIs a B := by
  cases a with
  | ref a =>
    obtain ⟨o, e, c⟩ := h
    exact ⟨o, k _ _ e, c⟩
  | _ => exact h
theorem decl_cmp {a : Value} {B id ow n : String} {nm : Str} {bi : Builtin} (hT : s.TypeIs a B) (S : Slot B nm id) (en : entryFor table id = some bi) (hk : builtinKind id = some .slot) (hsp : splitId id = some (ow, n)) (ha : argsOk id ⟨[a, .ref x], []⟩)
    (hs : isSubtype (.type B) (.type ow) = pure true)
    (hb : ∀ (A : Around) (E : Value → Shared → Prop) (Q : Fin → Shared → Prop), wpAny (model prog w) A (ret .notImplemented) Q E s → wpAny (model prog w) A (bi ⟨[a, .ref x], []⟩) Q E s) (E : Value → Shared → Prop) (Q : Option Value → Shared → Prop) (q : Q none s) : wpAny (model prog w) A (tryCompare a nm (.ref x)) Q E s := by
  refine wpAny_tryCompare_declines hT S (wpAny_call (codeAny_call_builtin S.plain en (check_slot hk hsp (fun A Q E s' k q => ?_) ha (hb _ _ _ (wpAny_pure ⟨rfl, q⟩)))))
  exact wpAny_isInstance (typeIs_keep hT k) hs q
theorem dec_list_eq {a : Addr} {oa : Obj} (X : K.In s.heap) (I : InstAt s.heap x ox C od) (ha : s.heap.get? a = some oa) (hc : oa.cls = .type "list") (hm : mroIn K C (.type "list") = some false) (E : Value → Shared → Prop) (Q : Option Value → Shared → Prop) (q : Q none s) : wpAny (model prog w) A (tryCompare (.ref a) (cmpInfo .Eq).2.1 (.ref x)) Q E s :=
  decl_cmp (s := s) (a := .ref a) (B := "list") (ow := "list") (n := "__eq__") (show s.TypeIs (.ref a) "list" from ⟨_, ha, hc⟩) F.slot_list_eq F.entry_list_eq (by decide +kernel) (by decide +kernel) (F.args_list_eq_2 _ _) (by rw [isSubtype_type]; kernel_rfl) (fun A E Q h => by
    have L : Looks (model prog w) s.heap (isInstance (.ref x) (.type "list")) false := I.type.andThen (looks_mroIn X hm)
    unfold Builtin.«list.__eq__»
    refine wpAny_bind (m := slotArgs "__eq__" 1 _) (wpAny_pure ?_)
    refine wpAny_bind (m := isInstance (.ref x) (.type "list")) (L.here ?_)
    exact h) E Q q
theorem dec_list_ne {a : Addr} {oa : Obj} (X : K.In s.heap) (I : InstAt s.heap x ox C od) (ha : s.heap.get? a = some oa) (hc : oa.cls = .type "list") (hm : mroIn K C (.type "list") = some false) (E : Value → Shared → Prop) (Q : Option Value → Shared → Prop) (q : Q none s) : wpAny (model prog w) A (tryCompare (.ref a) (cmpInfo .NotEq).2.1 (.ref x)) Q E s :=
  decl_cmp (s := s) (a := .ref a) (B := "list") (ow := "list") (n := "__ne__") (show s.TypeIs (.ref a) "list" from ⟨_, ha, hc⟩) F.slot_list_ne F.entry_list_ne (by decide +kernel) (by decide +kernel) (F.args_list_ne_2 _ _) (by rw [isSubtype_type]; kernel_rfl) (fun A E Q h => by
    have L : Looks (model prog w) s.heap (isInstance (.ref x) (.type "list")) false := I.type.andThen (looks_mroIn X hm)
    unfold Builtin.«list.__ne__»
    refine wpAny_bind (m := slotArgs "__ne__" 1 _) (wpAny_pure ?_)
    refine wpAny_bind (m := isInstance (.ref x) (.type "list")) (L.here ?_)
    exact h) E Q q
theorem dec_tuple_eq {a : Addr} {oa : Obj} (X : K.In s.heap) (I : InstAt s.heap x ox C od) (ha : s.heap.get? a = some oa) (hc : oa.cls = .type "tuple") (hm : mroIn K C (.type "tuple") = some false) (E : Value → Shared → Prop) (Q : Option Value → Shared → Prop) (q : Q none s) : wpAny (model prog w) A (tryCompare (.ref a) (cmpInfo .Eq).2.1 (.ref x)) Q E s :=
  decl_cmp (s := s) (a := .ref a) (B := "tuple") (ow := "tuple") (n := "__eq__") (show s.TypeIs (.ref a) "tuple" from ⟨_, ha, hc⟩) F.slot_tuple_eq F.entry_tuple_eq (by decide +kernel) (by decide +kernel) (F.args_tuple_eq_2 _ _) (by rw [isSubtype_type]; kernel_rfl) (fun A E Q h => by
    have L : Looks (model prog w) s.heap (isInstance (.ref x) (.type "tuple")) false := I.type.andThen (looks_mroIn X hm)
    unfold Builtin.«tuple.__eq__»
    refine wpAny_bind (m := slotArgs "__eq__" 1 _) (wpAny_pure ?_)
    refine wpAny_bind (m := isInstance (.ref x) (.type "tuple")) (L.here ?_)
    exact h) E Q q
theorem dec_tuple_ne {a : Addr} {oa : Obj} (X : K.In s.heap) (I : InstAt s.heap x ox C od) (ha : s.heap.get? a = some oa) (hc : oa.cls = .type "tuple") (hm : mroIn K C (.type "tuple") = some false) (E : Value → Shared → Prop) (Q : Option Value → Shared → Prop) (q : Q none s) : wpAny (model prog w) A (tryCompare (.ref a) (cmpInfo .NotEq).2.1 (.ref x)) Q E s :=
  decl_cmp (s := s) (a := .ref a) (B := "tuple") (ow := "tuple") (n := "__ne__") (show s.TypeIs (.ref a) "tuple" from ⟨_, ha, hc⟩) F.slot_tuple_ne F.entry_tuple_ne (by decide +kernel) (by decide +kernel) (F.args_tuple_ne_2 _ _) (by rw [isSubtype_type]; kernel_rfl) (fun A E Q h => by
    have L : Looks (model prog w) s.heap (isInstance (.ref x) (.type "tuple")) false := I.type.andThen (looks_mroIn X hm)
    unfold Builtin.«tuple.__ne__»
    refine wpAny_bind (m := slotArgs "__ne__" 1 _) (wpAny_pure ?_)
    refine wpAny_bind (m := isInstance (.ref x) (.type "tuple")) (L.here ?_)
    exact h) E Q q
theorem dec_dict_eq {a : Addr} {oa : Obj} (X : K.In s.heap) (I : InstAt s.heap x ox C od) (ha : s.heap.get? a = some oa) (hc : oa.cls = .type "dict") (hm : mroIn K C (.type "dict") = some false) (E : Value → Shared → Prop) (Q : Option Value → Shared → Prop) (q : Q none s) : wpAny (model prog w) A (tryCompare (.ref a) (cmpInfo .Eq).2.1 (.ref x)) Q E s :=
  decl_cmp (s := s) (a := .ref a) (B := "dict") (ow := "dict") (n := "__eq__") (show s.TypeIs (.ref a) "dict" from ⟨_, ha, hc⟩) F.slot_dict_eq F.entry_dict_eq (by decide +kernel) (by decide +kernel) (F.args_dict_eq_2 _ _) (by rw [isSubtype_type]; kernel_rfl) (fun A E Q h => by
    have L : Looks (model prog w) s.heap (isInstance (.ref x) (.type "dict")) false := I.type.andThen (looks_mroIn X hm)
    unfold Builtin.«dict.__eq__»
    refine wpAny_bind (m := Builtin.Dict.dictSlotArgs "__eq__" _) (wpAny_pure ?_)
    refine wpAny_bind (m := isInstance (.ref x) (.type "dict")) (L.here ?_)
    exact wpAny_bind (wpAny_rule h)) E Q q
theorem dec_dict_ne {a : Addr} {oa : Obj} (X : K.In s.heap) (I : InstAt s.heap x ox C od) (ha : s.heap.get? a = some oa) (hc : oa.cls = .type "dict") (hm : mroIn K C (.type "dict") = some false) (E : Value → Shared → Prop) (Q : Option Value → Shared → Prop) (q : Q none s) : wpAny (model prog w) A (tryCompare (.ref a) (cmpInfo .NotEq).2.1 (.ref x)) Q E s :=
  decl_cmp (s := s) (a := .ref a) (B := "dict") (ow := "dict") (n := "__ne__") (show s.TypeIs (.ref a) "dict" from ⟨_, ha, hc⟩) F.slot_dict_ne F.entry_dict_ne (by decide +kernel) (by decide +kernel) (F.args_dict_ne_2 _ _) (by rw [isSubtype_type]; kernel_rfl) (fun A E Q h => by
    have L : Looks (model prog w) s.heap (isInstance (.ref x) (.type "dict")) false := I.type.andThen (looks_mroIn X hm)
    unfold Builtin.«dict.__ne__»
    refine wpAny_bind (m := Builtin.Dict.dictSlotArgs "__ne__" _) (wpAny_pure ?_)
    refine wpAny_bind (m := isInstance (.ref x) (.type "dict")) (L.here ?_)
    exact wpAny_bind (wpAny_rule h)) E Q q
theorem dec_non_eq  (I : InstAt s.heap x ox C od) (hd : ox.data = .plain) (E : Value → Shared → Prop) (Q : Option Value → Shared → Prop) (q : Q none s) : wpAny (model prog w) A (tryCompare .none (cmpInfo .Eq).2.1 (.ref x)) Q E s :=
  decl_cmp (s := s) (a := .none) (B := "NoneType") (ow := "NoneType") (n := "__eq__") (show s.TypeIs .none "NoneType" from rfl) F.slot_NoneType_eq F.entry_NoneType_eq (by decide +kernel) (by decide +kernel) (F.args_NoneType_eq_2 _ _) (by rw [isSubtype_type]; kernel_rfl) (fun A E Q h => by
    unfold Builtin.«NoneType.__eq__»
    exact wpAny_bind (m := slotArgs "__eq__" 1 _) (wpAny_pure h)) E Q q
theorem dec_non_ne  (I : InstAt s.heap x ox C od) (hd : ox.data = .plain) (E : Value → Shared → Prop) (Q : Option Value → Shared → Prop) (q : Q none s) : wpAny (model prog w) A (tryCompare .none (cmpInfo .NotEq).2.1 (.ref x)) Q E s :=
  decl_cmp (s := s) (a := .none) (B := "NoneType") (ow := "NoneType") (n := "__ne__") (show s.TypeIs .none "NoneType" from rfl) F.slot_NoneType_ne F.entry_NoneType_ne (by decide +kernel) (by decide +kernel) (F.args_NoneType_ne_2 _ _) (by rw [isSubtype_type]; kernel_rfl) (fun A E Q h => by
    unfold Builtin.«NoneType.__ne__»
    exact wpAny_bind (m := slotArgs "__ne__" 1 _) (wpAny_pure h)) E Q q
theorem dec_bl_eq {b : Bool} (I : InstAt s.heap x ox C od) (hd : ox.data = .plain) (E : Value → Shared → Prop) (Q : Option Value → Shared → Prop) (q : Q none s) : wpAny (model prog w) A (tryCompare (.bool b) (cmpInfo .Eq).2.1 (.ref x)) Q E s :=
  decl_cmp (s := s) (a := (.bool b)) (B := "bool") (ow := "int") (n := "__eq__") (show s.TypeIs (.bool b) "bool" from rfl) F.slot_bool_eq F.entry_int_eq (by decide +kernel) (by decide +kernel) (F.args_int_eq_2 _ _) (by rw [isSubtype_type]; kernel_rfl) (fun A E Q h => by
    unfold Builtin.«int.__eq__»
    refine wpAny_bind (m := slotArgs "__eq__" 1 _) (wpAny_pure ?_)
    refine wpAny_bind (m := Builtin.Int.intOfSelf _) (wpAny_pure ?_)
    refine wpAny_bind (m := asInt? (.ref x)) ?_
    unfold asInt?
    refine wpAny_bind (wpAny_load I.at_ ?_)
    rw [hd]
    refine wpAny_pure ?_
    exact wpAny_bind (wpAny_rule h)) E Q q
theorem dec_bl_ne {b : Bool} (I : InstAt s.heap x ox C od) (hd : ox.data = .plain) (E : Value → Shared → Prop) (Q : Option Value → Shared → Prop) (q : Q none s) : wpAny (model prog w) A (tryCompare (.bool b) (cmpInfo .NotEq).2.1 (.ref x)) Q E s :=
  decl_cmp (s := s) (a := (.bool b)) (B := "bool") (ow := "int") (n := "__ne__") (show s.TypeIs (.bool b) "bool" from rfl) F.slot_bool_ne F.entry_int_ne (by decide +kernel) (by decide +kernel) (F.args_int_ne_2 _ _) (by rw [isSubtype_type]; kernel_rfl) (fun A E Q h => by
    unfold Builtin.«int.__ne__»
    refine wpAny_bind (m := slotArgs "__ne__" 1 _) (wpAny_pure ?_)
    refine wpAny_bind (m := Builtin.Int.intOfSelf _) (wpAny_pure ?_)
    refine wpAny_bind (m := asInt? (.ref x)) ?_
    unfold asInt?
    refine wpAny_bind (wpAny_load I.at_ ?_)
    rw [hd]
    refine wpAny_pure ?_
    exact wpAny_bind (wpAny_rule h)) E Q q
theorem dec_int_eq {i : Int} {t : Tok} (I : InstAt s.heap x ox C od) (hd : ox.data = .plain) (E : Value → Shared → Prop) (Q : Option Value → Shared → Prop) (q : Q none s) : wpAny (model prog w) A (tryCompare (.int i t) (cmpInfo .Eq).2.1 (.ref x)) Q E s :=
  decl_cmp (s := s) (a := (.int i t)) (B := "int") (ow := "int") (n := "__eq__") (show s.TypeIs (.int i t) "int" from (typeIs_int _ _ _)) F.slot_int_eq F.entry_int_eq (by decide +kernel) (by decide +kernel) (F.args_int_eq_2 _ _) (by rw [isSubtype_type]; kernel_rfl) (fun A E Q h => by
    unfold Builtin.«int.__eq__»
    refine wpAny_bind (m := slotArgs "__eq__" 1 _) (wpAny_pure ?_)
    refine wpAny_bind (m := Builtin.Int.intOfSelf _) (wpAny_pure ?_)
    refine wpAny_bind (m := asInt? (.ref x)) ?_
    unfold asInt?
    refine wpAny_bind (wpAny_load I.at_ ?_)
    rw [hd]
    refine wpAny_pure ?_
    exact wpAny_bind (wpAny_rule h)) E Q q
theorem dec_int_ne {i : Int} {t : Tok} (I : InstAt s.heap x ox C od) (hd : ox.data = .plain) (E : Value → Shared → Prop) (Q : Option Value → Shared → Prop) (q : Q none s) : wpAny (model prog w) A (tryCompare (.int i t) (cmpInfo .NotEq).2.1 (.ref x)) Q E s :=
  decl_cmp (s := s) (a := (.int i t)) (B := "int") (ow := "int") (n := "__ne__") (show s.TypeIs (.int i t) "int" from (typeIs_int _ _ _)) F.slot_int_ne F.entry_int_ne (by decide +kernel) (by decide +kernel) (F.args_int_ne_2 _ _) (by rw [isSubtype_type]; kernel_rfl) (fun A E Q h => by
    unfold Builtin.«int.__ne__»
    refine wpAny_bind (m := slotArgs "__ne__" 1 _) (wpAny_pure ?_)
    refine wpAny_bind (m := Builtin.Int.intOfSelf _) (wpAny_pure ?_)
    refine wpAny_bind (m := asInt? (.ref x)) ?_
    unfold asInt?
    refine wpAny_bind (wpAny_load I.at_ ?_)
    rw [hd]
    refine wpAny_pure ?_
    exact wpAny_bind (wpAny_rule h)) E Q q
theorem dec_int_lt {i : Int} {t : Tok} (I : InstAt s.heap x ox C od) (hd : ox.data = .plain) (E : Value → Shared → Prop) (Q : Option Value → Shared → Prop) (q : Q none s) : wpAny (model prog w) A (tryCompare (.int i t) (cmpInfo .Lt).2.1 (.ref x)) Q E s :=
  decl_cmp (s := s) (a := (.int i t)) (B := "int") (ow := "int") (n := "__lt__") (show s.TypeIs (.int i t) "int" from (typeIs_int _ _ _)) F.slot_int_lt F.entry_int_lt (by decide +kernel) (by decide +kernel) (F.args_int_lt_2 _ _) (by rw [isSubtype_type]; kernel_rfl) (fun A E Q h => by
    unfold Builtin.«int.__lt__»
    refine wpAny_bind (m := slotArgs "__lt__" 1 _) (wpAny_pure ?_)
    refine wpAny_bind (m := Builtin.Int.intOfSelf _) (wpAny_pure ?_)
    refine wpAny_bind (m := asInt? (.ref x)) ?_
    unfold asInt?
    refine wpAny_bind (wpAny_load I.at_ ?_)
    rw [hd]
    refine wpAny_pure ?_
    exact wpAny_bind (wpAny_rule h)) E Q q
theorem dec_int_le {i : Int} {t : Tok} (I : InstAt s.heap x ox C od) (hd : ox.data = .plain) (E : Value → Shared → Prop) (Q : Option Value → Shared → Prop) (q : Q none s) : wpAny (model prog w) A (tryCompare (.int i t) (cmpInfo .LtE).2.1 (.ref x)) Q E s :=
  decl_cmp (s := s) (a := (.int i t)) (B := "int") (ow := "int") (n := "__le__") (show s.TypeIs (.int i t) "int" from (typeIs_int _ _ _)) F.slot_int_le F.entry_int_le (by decide +kernel) (by decide +kernel) (F.args_int_le_2 _ _) (by rw [isSubtype_type]; kernel_rfl) (fun A E Q h => by
    unfold Builtin.«int.__le__»
    refine wpAny_bind (m := slotArgs "__le__" 1 _) (wpAny_pure ?_)
    refine wpAny_bind (m := Builtin.Int.intOfSelf _) (wpAny_pure ?_)
    refine wpAny_bind (m := asInt? (.ref x)) ?_
    unfold asInt?
    refine wpAny_bind (wpAny_load I.at_ ?_)
    rw [hd]
    refine wpAny_pure ?_
    exact wpAny_bind (wpAny_rule h)) E Q q
theorem dec_int_gt {i : Int} {t : Tok} (I : InstAt s.heap x ox C od) (hd : ox.data = .plain) (E : Value → Shared → Prop) (Q : Option Value → Shared → Prop) (q : Q none s) : wpAny (model prog w) A (tryCompare (.int i t) (cmpInfo .Gt).2.1 (.ref x)) Q E s :=
  decl_cmp (s := s) (a := (.int i t)) (B := "int") (ow := "int") (n := "__gt__") (show s.TypeIs (.int i t) "int" from (typeIs_int _ _ _)) F.slot_int_gt F.entry_int_gt (by decide +kernel) (by decide +kernel) (F.args_int_gt_2 _ _) (by rw [isSubtype_type]; kernel_rfl) (fun A E Q h => by
    unfold Builtin.«int.__gt__»
    refine wpAny_bind (m := slotArgs "__gt__" 1 _) (wpAny_pure ?_)
    refine wpAny_bind (m := Builtin.Int.intOfSelf _) (wpAny_pure ?_)
    refine wpAny_bind (m := asInt? (.ref x)) ?_
    unfold asInt?
    refine wpAny_bind (wpAny_load I.at_ ?_)
    rw [hd]
    refine wpAny_pure ?_
    exact wpAny_bind (wpAny_rule h)) E Q q
theorem dec_int_ge {i : Int} {t : Tok} (I : InstAt s.heap x ox C od) (hd : ox.data = .plain) (E : Value → Shared → Prop) (Q : Option Value → Shared → Prop) (q : Q none s) : wpAny (model prog w) A (tryCompare (.int i t) (cmpInfo .GtE).2.1 (.ref x)) Q E s :=
  decl_cmp (s := s) (a := (.int i t)) (B := "int") (ow := "int") (n := "__ge__") (show s.TypeIs (.int i t) "int" from (typeIs_int _ _ _)) F.slot_int_ge F.entry_int_ge (by decide +kernel) (by decide +kernel) (F.args_int_ge_2 _ _) (by rw [isSubtype_type]; kernel_rfl) (fun A E Q h => by
    unfold Builtin.«int.__ge__»
    refine wpAny_bind (m := slotArgs "__ge__" 1 _) (wpAny_pure ?_)
    refine wpAny_bind (m := Builtin.Int.intOfSelf _) (wpAny_pure ?_)
    refine wpAny_bind (m := asInt? (.ref x)) ?_
    unfold asInt?
    refine wpAny_bind (wpAny_load I.at_ ?_)
    rw [hd]
    refine wpAny_pure ?_
    exact wpAny_bind (wpAny_rule h)) E Q q
theorem dec_str_eq {z : Str} {t : Tok} (I : InstAt s.heap x ox C od) (hd : ox.data = .plain) (E : Value → Shared → Prop) (Q : Option Value → Shared → Prop) (q : Q none s) : wpAny (model prog w) A (tryCompare (.str z t) (cmpInfo .Eq).2.1 (.ref x)) Q E s :=
  decl_cmp (s := s) (a := (.str z t)) (B := "str") (ow := "str") (n := "__eq__") (show s.TypeIs (.str z t) "str" from (typeIs_str _ _ _)) F.slot_str_eq F.entry_str_eq (by decide +kernel) (by decide +kernel) (F.args_str_eq_2 _ _) (by rw [isSubtype_type]; kernel_rfl) (fun A E Q h => by
    unfold Builtin.«str.__eq__»
    refine wpAny_bind (m := Builtin.Str.strSlot "__eq__" 1 _) (wpAny_pure ?_)
    refine wpAny_bind (m := asStr? (.ref x)) ?_
    unfold asStr?
    refine wpAny_bind (wpAny_load I.at_ ?_)
    rw [hd]
    refine wpAny_pure ?_
    exact wpAny_bind (wpAny_rule h)) E Q q
theorem dec_str_ne {z : Str} {t : Tok} (I : InstAt s.heap x ox C od) (hd : ox.data = .plain) (E : Value → Shared → Prop) (Q : Option Value → Shared → Prop) (q : Q none s) : wpAny (model prog w) A (tryCompare (.str z t) (cmpInfo .NotEq).2.1 (.ref x)) Q E s :=
  decl_cmp (s := s) (a := (.str z t)) (B := "str") (ow := "str") (n := "__ne__") (show s.TypeIs (.str z t) "str" from (typeIs_str _ _ _)) F.slot_str_ne F.entry_str_ne (by decide +kernel) (by decide +kernel) (F.args_str_ne_2 _ _) (by rw [isSubtype_type]; kernel_rfl) (fun A E Q h => by
    unfold Builtin.«str.__ne__»
    refine wpAny_bind (m := Builtin.Str.strSlot "__ne__" 1 _) (wpAny_pure ?_)
    refine wpAny_bind (m := asStr? (.ref x)) ?_
    unfold asStr?
    refine wpAny_bind (wpAny_load I.at_ ?_)
    rw [hd]
    refine wpAny_pure ?_
    exact wpAny_bind (wpAny_rule h)) E Q q
end
end PySem.W
/-! EM41: comparisons of an instance with anything, on either side. -/
namespace EM
open PySem PySem.Spec PyProof.Rows L2
/-- values of Python's own kinds -/
inductive DecT (H : Hp) : V → String → Prop
  | int (i : Int) : DecT H (.int i) "int"
  | non : DecT H .non "NoneType"
  | bl (b : Bool) : DecT H (.bl b) "bool"
  | str (z : Str) : DecT H (.str z) "str"
  | tup {a : Addr} {xs : List V} (h : H a = some (.tup xs)) : DecT H (.ref a) "tuple"
  | lst {a : Addr} {xs : List V} (h : H a = some (.lst xs)) : DecT H (.ref a) "list"
  | dct {a : Addr} {kv : List (Key × V)} (h : H a = some (.dK kv)) : DecT H (.ref a) "dict"
/-- a class that is below none of Python's own kinds, and none of these below it -/
structure Apart (K : PySem.W.Frag) (C : Addr) : Prop where
  dn : ∀ T ∈ ["int", "NoneType", "bool", "str", "tuple", "list", "dict"], PySem.W.subIn K (.ref C) (.type T) = some false
  up : ∀ T ∈ ["int", "NoneType", "bool", "str", "tuple", "list", "dict"], PySem.W.subIn K (.type T) (.ref C) = some false
theorem apartB_ok {K : PySem.W.Frag} {C : Addr} (h : apartB K C = true) : Apart K C := by
  have q := List.all_eq_true.mp h
  exact ⟨fun T hT => of_decide_eq_true (Bool.and_eq_true_iff.mp (q T hT)).1, fun T hT => of_decide_eq_true (Bool.and_eq_true_iff.mp (q T hT)).2⟩
theorem DecT.mem {H : Hp} {v : V} {T : String} (d : DecT H v T) : T ∈ ["int", "NoneType", "bool", "str", "tuple", "list", "dict"] := by
  cases d <;> simp
section
variable {X : Cx} {CX : CXT} {n : Nat} {g C : Addr} {sp : Sp} {E : XK} {pins : List (Addr × Obj)} {σ : L2.St} {H : Hp} {s : Shared}
theorem DecT.is {v : V} {u : Value} {T : String} (I : Inv X pins σ H s) (r : RelV v u) (d : DecT H v T) : s.TypeIs u T := by
  cases d with
  | int i =>
    obtain ⟨t, rfl⟩ := r
    exact typeIs_int _ _ _
  | non =>
    cases (show u = Value.none from r)
    exact rfl
  | bl b =>
    cases (show u = Value.bool b from r)
    exact rfl
  | str z =>
    obtain ⟨t, rfl⟩ := r
    exact typeIs_str _ _ _
  | tup h =>
    cases (show u = Value.ref _ from r)
    obtain ⟨its, rv, ⟨o, e, c, _⟩, hz⟩ := I.tuple (SqT.of h)
    exact ⟨o, e, c⟩
  | lst h =>
    cases (show u = Value.ref _ from r)
    obtain ⟨z, its, k, r, e⟩ := I.hok _ _ h
    exact ⟨_, e, rfl⟩
  | @dct a kv h =>
    cases (show u = Value.ref _ from r)
    obtain ⟨_, _, vs, _, o, es, ep, h1, h2, _⟩ := (show ObjOk X.prog X.w H s.heap a (.dK kv) from I.hok a _ h)
    exact ⟨o, h1, h2.1⟩
theorem DecT.one {v : V} {u : Value} {T : String} (op : CmpOp) (a : Addr) (I : Inv X pins σ H s) (r : RelV v u) (d : DecT H v T) : oneThing? op u (.ref a) = none := (d.is I r).oneThing_none op _
/-- the builtin == and != decline -/
theorem DecT.eq {v : V} {u : Value} {T : String} {x : Addr} {ox : Obj} {od : Option Obj} (I : Inv X pins σ H s) (r : RelV v u) (d : DecT H v T) (A : Apart X.K C) (J : PySem.W.InstAt s.heap x ox C od) (hd : ox.data = .plain) (A' : Around) (E : Value → Shared → Prop) (Q : Option Value → Shared → Prop) (q : Q none s) :
    wpAny (model X.prog X.w) A' (tryCompare u (cmpInfo .Eq).2.1 (.ref x)) Q E s := by
  have XK := I.kIn
  cases d with
  | int i =>
    obtain ⟨t, rfl⟩ := r
    exact PySem.W.dec_int_eq J hd E Q q
  | non =>
    cases (show u = Value.none from r)
    exact PySem.W.dec_non_eq J hd E Q q
  | bl b =>
    cases (show u = Value.bool b from r)
    exact PySem.W.dec_bl_eq J hd E Q q
  | str z =>
    obtain ⟨t, rfl⟩ := r
    exact PySem.W.dec_str_eq J hd E Q q
  | tup h =>
    cases (show u = Value.ref _ from r)
    obtain ⟨o, e, c⟩ := (show ∃ o, s.heap.get? _ = some o ∧ o.cls = Value.type "tuple" from (DecT.tup h).is I r)
    exact PySem.W.dec_tuple_eq XK J e c (A.dn _ (by decide)) E Q q
  | lst h =>
    cases (show u = Value.ref _ from r)
    obtain ⟨o, e, c⟩ := (show ∃ o, s.heap.get? _ = some o ∧ o.cls = Value.type "list" from (DecT.lst h).is I r)
    exact PySem.W.dec_list_eq XK J e c (A.dn _ (by decide)) E Q q
  | dct h =>
    cases (show u = Value.ref _ from r)
    obtain ⟨o, e, c⟩ := (show ∃ o, s.heap.get? _ = some o ∧ o.cls = Value.type "dict" from (DecT.dct h).is I r)
    exact PySem.W.dec_dict_eq XK J e c (A.dn _ (by decide)) E Q q
theorem DecT.ne {v : V} {u : Value} {T : String} {x : Addr} {ox : Obj} {od : Option Obj} (I : Inv X pins σ H s) (r : RelV v u) (d : DecT H v T) (A : Apart X.K C) (J : PySem.W.InstAt s.heap x ox C od) (hd : ox.data = .plain) (A' : Around) (E : Value → Shared → Prop) (Q : Option Value → Shared → Prop) (q : Q none s) :
    wpAny (model X.prog X.w) A' (tryCompare u (cmpInfo .NotEq).2.1 (.ref x)) Q E s := by
  have XK := I.kIn
  cases d with
  | int i =>
    obtain ⟨t, rfl⟩ := r
    exact PySem.W.dec_int_ne J hd E Q q
  | non =>
    cases (show u = Value.none from r)
    exact PySem.W.dec_non_ne J hd E Q q
  | bl b =>
    cases (show u = Value.bool b from r)
    exact PySem.W.dec_bl_ne J hd E Q q
  | str z =>
    obtain ⟨t, rfl⟩ := r
    exact PySem.W.dec_str_ne J hd E Q q
  | tup h =>
    cases (show u = Value.ref _ from r)
    obtain ⟨o, e, c⟩ := (show ∃ o, s.heap.get? _ = some o ∧ o.cls = Value.type "tuple" from (DecT.tup h).is I r)
    exact PySem.W.dec_tuple_ne XK J e c (A.dn _ (by decide)) E Q q
  | lst h =>
    cases (show u = Value.ref _ from r)
    obtain ⟨o, e, c⟩ := (show ∃ o, s.heap.get? _ = some o ∧ o.cls = Value.type "list" from (DecT.lst h).is I r)
    exact PySem.W.dec_list_ne XK J e c (A.dn _ (by decide)) E Q q
  | dct h =>
    cases (show u = Value.ref _ from r)
    obtain ⟨o, e, c⟩ := (show ∃ o, s.heap.get? _ = some o ∧ o.cls = Value.type "dict" from (DecT.dct h).is I r)
    exact PySem.W.dec_dict_ne XK J e c (A.dn _ (by decide)) E Q q
/-- x op y: an instance on the left, on the right one of its class or a value of Python's own kinds -/
def rCmpL (C : Addr) (sp : Sp) (E : XK) : R2 := fun x y H Q => ∃ a dx fs, x = .ref a ∧ H a = some (.ins C dx fs) ∧ ((∃ b dy gs, y = .ref b ∧ H b = some (.ins C dy gs)) ∨ ∃ T, DecT H y T) ∧ sp [.ref a, y] H Q E
def rNeL (C : Addr) (sp : Sp) (E : XK) : R2 := fun x y H Q => rCmpL C sp E x y H fun z H' => ∃ r, z = .bl r ∧ Q (.bl (!r)) H'
/-- y op x: a value of Python's own kinds on the left, an instance on the right -/
def rCmpR (P : V → Prop) (C : Addr) (sp : Sp) (E : XK) : R2 := fun y x H Q => ∃ a dx fs, x = .ref a ∧ H a = some (.ins C dx fs) ∧ (∃ T, DecT H y T) ∧ P y ∧ sp [.ref a, y] H Q E
def rNeR (C : Addr) (sp : Sp) (E : XK) : R2 := fun y x H Q => rCmpR (fun _ => True) C sp E y x H fun z H' => ∃ r, z = .bl r ∧ Q (.bl (!r)) H'
theorem notFirst_of {K : PySem.W.Frag} {t : Value} (h : PySem.W.subIn K t (.ref C) = some false) : PySem.W.notFirst K C t = true := by
  unfold PySem.W.notFirst
  rw [h]
  simp
theorem tyLooks {v : V} {u : Value} {T : String} (I : Inv X pins σ H s) (r : RelV v u) (d : DecT H v T) : PySem.W.Looks (model X.prog X.w) s.heap (typeOf u) (.type T) := by
  have q := d.is I r
  intro A Q E s' k hq
  exact wpAny_typeOf (PySem.W.typeIs_keep q k) hq
theorem op_cmpL {op : CmpOp} (hop : ∀ a b, compareOp op a b = richCompare op a b) (hs : PySem.W.findIn X.K (.ref C) (cmpInfo op).2.1 = some (some (.ref g))) (hf : PySem.W.isFn X.K (.ref g) = true) (A : Apart X.K C) (F : FnR X.prog X.w X.K X.mg X.base CX n g sp)
    (hr : Room n X.A) (hx : Passes CX X E) : OpR X (compareOp op) (rCmpL C sp E) := by
  intro pins s σ H x y v u Q I rx ry h
  obtain ⟨a, dx, fs, rfl, ha, hy, q⟩ := h
  cases (show v = Value.ref a from rx)
  obtain ⟨ox, od, J, _⟩ := ins_at I ha
  obtain ⟨m, hF⟩ := I.fr
  have run : wpAny (model X.prog X.w) X.A (call (.ref g) [.ref a, u]) (PySem.W.CmpBack (EP X pins σ Q)) X.xe s :=
    wpAny_mono (wpAny_call (run_fnR (us := [.ref a, u]) (vs := [.ref a, y]) F hr hx I (.cons rfl (.cons ry .nil)) q)) (fun w s2 z => by
      obtain ⟨z', H', I', rz, qz⟩ := z
      exact SlX.cmpback rz ⟨z', H', I', rz, qz⟩) fun _ _ x => x
  rw [hop]
  rcases hy with ⟨b, dy, gs, rfl, hb⟩ | ⟨T, hd⟩
  · cases (show u = Value.ref b from ry)
    obtain ⟨oy, od', J', _⟩ := ins_at I hb
    exact PySem.W.cmp_K (op := op) (tb := .ref C) hr.units0 hF I.ok.mod.kin J J'.type notFirst_self hs hf run
  · exact PySem.W.cmp_K (op := op) (tb := .type T) hr.units0 hF I.ok.mod.kin J (tyLooks I ry hd) (notFirst_of (A.up _ hd.mem)) hs hf run
theorem op_neL (hs : PySem.W.findIn X.K (.ref C) "__ne__" = some (some (.builtin "object.__ne__"))) (hm : PySem.W.mroIn X.K C (.type "object") = some true) (he : PySem.W.findIn X.K (.ref C) "__eq__" = some (some (.ref g))) (hf : PySem.W.isFn X.K (.ref g) = true) (A : Apart X.K C)
    (F : FnR X.prog X.w X.K X.mg X.base CX n g sp) (hr : Room (n + 1) X.A) (hx : Passes CX X E) : OpR X (compareOp .NotEq) (rNeL C sp E) := by
  intro pins s σ H x y v u Q I rx ry h
  obtain ⟨a, dx, fs, rfl, ha, hy, q⟩ := h
  cases (show v = Value.ref a from rx)
  obtain ⟨ox, od, J, _⟩ := ins_at I ha
  obtain ⟨m, hF⟩ := I.fr
  show wpAny _ _ (richCompare .NotEq (.ref a) u) _ _ _
  have c := SlX.run_at (us := [.ref a, u]) (ws := [.ref a, y]) F hr.in1 I.env0.in1 hx I (.cons rfl (.cons ry .nil)) q
  have run : wpAny (model X.prog X.w) X.A.in1 (call (.ref g) [.ref a, u]) (fun v s' => ∃ r, v = .bool r ∧ EP X pins σ Q (.bool (!r)) s') X.xe s := by
    refine wpAny_mono (wpAny_call c) (fun w s' z => ?_) fun _ _ x => x
    obtain ⟨z', H', I', rz, r, ez, qz⟩ := z
    subst ez
    cases (show w = Value.bool r from rz)
    exact ⟨r, rfl, .bl (!r), H', I', rfl, qz⟩
  rcases hy with ⟨b, dy, gs, rfl, hb⟩ | ⟨T, hd⟩
  · cases (show u = Value.ref b from ry)
    obtain ⟨oy, od', J', _⟩ := ins_at I hb
    exact PySem.W.em_ne (tb := .ref C) (hu_of hr) hF I.ok.mod.kin J J'.type notFirst_self hs hm he hf run
  · exact PySem.W.em_ne (tb := .type T) (hu_of hr) hF I.ok.mod.kin J (tyLooks I ry hd) (notFirst_of (A.up _ hd.mem)) hs hm he hf run
theorem op_cmpR {op : CmpOp} {P : V → Prop} (hop : ∀ a b, compareOp op a b = richCompare op a b) (hs : PySem.W.findIn X.K (.ref C) (cmpInfo op).2.2 = some (some (.ref g))) (hf : PySem.W.isFn X.K (.ref g) = true) (A : Apart X.K C)
    (hd : ∀ {pins : List (Addr × Obj)} {σ : L2.St} {H : Hp} {s : Shared} {v : V} {u : Value} {T : String} {x : Addr} {ox : Obj} {od : Option Obj}, Inv X pins σ H s → RelV v u → DecT H v T → P v → PySem.W.InstAt s.heap x ox C od → ox.data = .plain → ∀ (A' : Around) (E : Value → Shared → Prop) (Q : Option Value → Shared → Prop), Q none s →
      wpAny (model X.prog X.w) A' (tryCompare u (cmpInfo op).2.1 (.ref x)) Q E s)
    (F : FnR X.prog X.w X.K X.mg X.base CX n g sp) (hr : Room n X.A) (hx : Passes CX X E) : OpR X (compareOp op) (rCmpR P C sp E) := by
  intro pins s σ H y x u v Q I ry rx h
  obtain ⟨a, dx, fs, rfl, ha, ⟨T, d⟩, hp, q⟩ := h
  cases (show v = Value.ref a from rx)
  obtain ⟨ox, od, J, pl⟩ := ins_at I ha
  obtain ⟨m, hF⟩ := I.fr
  have run : wpAny (model X.prog X.w) X.A (call (.ref g) [.ref a, u]) (PySem.W.CmpBack (EP X pins σ Q)) X.xe s :=
    wpAny_mono (wpAny_call (run_fnR (us := [.ref a, u]) (vs := [.ref a, y]) F hr hx I (.cons rfl (.cons ry .nil)) q)) (fun w s2 z => by
      obtain ⟨z', H', I', rz, qz⟩ := z
      exact SlX.cmpback rz ⟨z', H', I', rz, qz⟩) fun _ _ x => x
  rw [hop]
  exact PySem.W.em_cmpR hr.units0 hF I.ok.mod.kin J (d.is I ry) (d.one op a I ry) (A.dn _ d.mem) (fun E Q' q' => hd I ry d hp J pl _ E Q' q') (PySem.W.em_back hF I.ok.mod.kin J hs hf run)
theorem op_eqR (hs : PySem.W.findIn X.K (.ref C) "__eq__" = some (some (.ref g))) (hf : PySem.W.isFn X.K (.ref g) = true) (A : Apart X.K C) (F : FnR X.prog X.w X.K X.mg X.base CX n g sp) (hr : Room n X.A) (hx : Passes CX X E) : OpR X (compareOp .Eq) (rCmpR (fun _ => True) C sp E) :=
  op_cmpR (op := .Eq) (fun _ _ => rfl) hs hf A (fun I r d _ J pl A' E Q q => d.eq I r A J pl A' E Q q) F hr hx
theorem op_neR (hs : PySem.W.findIn X.K (.ref C) "__ne__" = some (some (.builtin "object.__ne__"))) (hm : PySem.W.mroIn X.K C (.type "object") = some true) (he : PySem.W.findIn X.K (.ref C) "__eq__" = some (some (.ref g))) (hf : PySem.W.isFn X.K (.ref g) = true) (A : Apart X.K C)
    (F : FnR X.prog X.w X.K X.mg X.base CX n g sp) (hr : Room (n + 1) X.A) (hx : Passes CX X E) : OpR X (compareOp .NotEq) (rNeR C sp E) := by
  intro pins s σ H y x u v Q I ry rx h
  obtain ⟨a, dx, fs, rfl, ha, ⟨T, d⟩, _, q⟩ := h
  cases (show v = Value.ref a from rx)
  obtain ⟨ox, od, J, pl⟩ := ins_at I ha
  obtain ⟨m, hF⟩ := I.fr
  have c := SlX.run_at (us := [.ref a, u]) (ws := [.ref a, y]) F hr.in1 I.env0.in1 hx I (.cons rfl (.cons ry .nil)) q
  have run : wpAny (model X.prog X.w) X.A.in1 (call (.ref g) [.ref a, u]) (fun v s' => ∃ r, v = .bool r ∧ EP X pins σ Q (.bool (!r)) s') X.xe s := by
    refine wpAny_mono (wpAny_call c) (fun w s' z => ?_) fun _ _ x => x
    obtain ⟨z', H', I', rz, r, ez, qz⟩ := z
    subst ez
    cases (show w = Value.bool r from rz)
    exact ⟨r, rfl, .bl (!r), H', I', rfl, qz⟩
  show wpAny _ _ (richCompare .NotEq u (.ref a)) _ _ _
  exact PySem.W.em_cmpR (op := .NotEq) hr.units0 hF I.ok.mod.kin J (d.is I ry) (d.one _ a I ry) (A.dn _ d.mem) (fun E Q' q' => d.ne I ry A J pl _ E Q' q') (PySem.W.em_backNe (hu_of hr) hF I.ok.mod.kin J hs hm he hf run)
theorem op_ltR {op : CmpOp} (hop : op = .Lt ∨ op = .LtE ∨ op = .Gt ∨ op = .GtE) (hs : PySem.W.findIn X.K (.ref C) (cmpInfo op).2.2 = some (some (.ref g))) (hf : PySem.W.isFn X.K (.ref g) = true) (A : Apart X.K C) (F : FnR X.prog X.w X.K X.mg X.base CX n g sp) (hr : Room n X.A) (hx : Passes CX X E) : OpR X (compareOp op) (rCmpR (fun v => ∃ i, v = .int i) C sp E) := by
  refine op_cmpR (op := op) (by rcases hop with rfl | rfl | rfl | rfl <;> exact fun _ _ => rfl) hs hf A (fun I r d hp J pl A' E Q q => ?_) F hr hx
  obtain ⟨i, rfl⟩ := hp
  obtain ⟨t, rfl⟩ := r
  rcases hop with rfl | rfl | rfl | rfl
  · exact PySem.W.dec_int_lt J pl E Q q
  · exact PySem.W.dec_int_le J pl E Q q
  · exact PySem.W.dec_int_gt J pl E Q q
  · exact PySem.W.dec_int_ge J pl E Q q
end
end EM
/-! EM42: behind an append: stepping; merging behind three statements. -/
namespace EM
open PySem PySem.Spec PyProof.Rows L2
section
variable {T : List (Addr × Str)} {p l0 l b : Addr} {n : Nat} {H H1 H' : Hp} {o o2 : HO} {xs ys : List V}
theorem nel2 (h : H b = none) (B : Bs T p l0 n H) : b ≠ l0 := B.nel h
theorem gMu {R : Hp → Prop} (h : ∀ H', Mu l H H' o → R H') : ∀ H', Mu l H H' o → R H' := h
theorem mu_bs {R : Hp → Prop} (B : Bs T p l0 n H) (g : At p H l (.lst xs)) (nl : l ≠ l0) (k : ∀ H', Mu l H H' (.lst ys) → Bs T p l0 n H' → R H') : ∀ H', Mu l H H' (.lst ys) → R H' :=
  fun H' m => k H' m (m.bs B g nl)
/-- what stood ahead of a new list stays behind an append to it -/
theorem Ext.mu {p : Addr} {H0 Hn H1 H2 : Hp} (x : Ext p H0 Hn) (hn : Hn l = none) (y : Ext p Hn H1) (m : Mu l H1 H2 o) : Ext p H0 H2 := ⟨fun b ob e nb nt => by
  have h1 := x.k b ob e nb nt
  have h2 := y.k b ob h1 nb nt
  have nl : b ≠ l := fun z => by rw [z, hn] at h1; cases h1
  rw [m.old b nl]
  exact h2⟩
/-- (kept out of the way of the stepping words) -/
structure XtM (p : Addr) (H H' : Hp) : Prop where
  x : Ext p H H'
theorem nn1 (h : H l = none) (g : At p H b o) : b ≠ l := ne_of_none g.at_ h
theorem nn2 (h : H b = none) (g : At p H l o) : b ≠ l := fun z => (ne_of_none g.at_ h) z.symm
theorem gAt (h : At p H b o) : At p H b o := h
theorem gRat {K : PySem.W.Frag} {t c : Int} (h : RatP K p H b t c) : RatP K p H b t c := h
theorem gNum {K : PySem.W.Frag} {v : V} {t c : Int} (h : NumP K p H v t c) : NumP K p H v t c := h
end
/-- what stands behind three statements is read once -/
theorem seq3_rest {A B C R : TS} {D : Ends} {σ : L2.St} {H : Hp} (S : L2.St → Hp → Prop) (h1 : ∀ R : TS, (∀ σ H', S σ H' → R D σ H') → tSeq A (tSeq B (tSeq C R)) D σ H) (h2 : ∀ σ H', S σ H' → R D σ H') : tSeq A (tSeq B (tSeq C R)) D σ H := h1 R h2
theorem seq2_rest {A B R : TS} {D : Ends} {σ : L2.St} {H : Hp} (S : L2.St → Hp → Prop) (h1 : ∀ R : TS, (∀ σ H', S σ H' → R D σ H') → tSeq A (tSeq B R) D σ H) (h2 : ∀ σ H', S σ H' → R D σ H') : tSeq A (tSeq B R) D σ H := h1 R h2
theorem seq1_rest {A R : TS} {D : Ends} {σ : L2.St} {H : Hp} (S : L2.St → Hp → Prop) (h1 : ∀ R : TS, (∀ σ H', S σ H' → R D σ H') → tSeq A R D σ H) (h2 : ∀ σ H', S σ H' → R D σ H') : tSeq A R D σ H := h1 R h2
/-- the same, the goal being the field nx of what stands behind (it is taken for a first statement) -/
theorem seq4_rest {Z A B C R : TS} {D : Ends} {σ : L2.St} {H : Hp} (S : L2.St → Hp → Prop) (h1 : ∀ R : TS, (∀ σ H', S σ H' → R D σ H') → tSeq Z (tSeq A (tSeq B (tSeq C R))) D σ H) (h2 : ∀ σ H', S σ H' → R D σ H') : tSeq Z (tSeq A (tSeq B (tSeq C R))) D σ H := h1 R h2
end EM
/-! EM43: the order of numbers: own comparisons of Ratios, with an int on either side, told in one word. -/
namespace EM
open PySem PySem.Spec PyProof.Rows L2
/-- what a comparison of two ints tells -/
def relB : CmpOp → Int → Int → Bool
  | .Lt, x, y => decide (x < y)
  | .LtE, x, y => decide (x ≤ y)
  | .Gt, x, y => decide (y < x)
  | .GtE, x, y => decide (y ≤ x)
  | .Eq, x, y => decide (V.int x = V.int y)
  | .NotEq, x, y => !decide (V.int x = V.int y)
  | _, _, _ => false
theorem relB_of {op : CmpOp} {x y x' y' : Int} (h : x' < y' ↔ x < y) (g : y' < x' ↔ y < x) : relB op x' y' = relB op x y := by
  have e : x' = y' ↔ x = y := by omega
  have h2 : x' ≤ y' ↔ x ≤ y := by omega
  have g2 : y' ≤ x' ↔ y ≤ x := by omega
  cases op <;> simp only [relB, dVi] <;> first | rfl | (simp [e]; done) | (simp [h, g]; done) | (simp [h2, g2]; done)
/-- the sign of a fraction is that of its top -/
theorem top_sign {z d : Int} (h : 0 < d) : (nTop z d < 0 ↔ z < 0) ∧ (0 < nTop z d ↔ 0 < z) := by
  have e := n_cross (t := z) (b := d)
  have p := (n_low (t := z) (by omega : d ≠ 0)).pos
  generalize nTop z d = x at *
  generalize nBot z d = y at *
  constructor
  · constructor
    · intro hx
      have : x * d < 0 := Int.mul_neg_of_neg_of_pos hx h
      rw [e] at this
      apply Classical.byContradiction
      intro q
      have := Int.mul_nonneg (by omega : 0 ≤ z) (by omega : 0 ≤ y)
      omega
    · intro hz
      have : z * y < 0 := Int.mul_neg_of_neg_of_pos hz p
      rw [← e] at this
      apply Classical.byContradiction
      intro q
      have := Int.mul_nonneg (by omega : 0 ≤ x) (by omega : 0 ≤ d)
      omega
  · constructor
    · intro hx
      have : 0 < x * d := Int.mul_pos hx h
      rw [e] at this
      apply Classical.byContradiction
      intro q
      have : z * y ≤ 0 := Int.mul_nonpos_of_nonpos_of_nonneg (by omega) (by omega)
      omega
    · intro hz
      have : 0 < z * y := Int.mul_pos hz p
      rw [← e] at this
      apply Classical.byContradiction
      intro q
      have : x * d ≤ 0 := Int.mul_nonpos_of_nonpos_of_nonneg (by omega) (by omega)
      omega
theorem top_zero {z d : Int} (h : 0 < d) : nTop z d = 0 ↔ z = 0 := by
  have := top_sign (z := z) h
  omega
/-- two fractions told otherwise are compared alike -/
theorem cross_lt {t b u c T B U C : Int} (b0 : 0 < b) (c0 : 0 < c) (B0 : 0 < B) (C0 : 0 < C) (e1 : t * B = T * b) (e2 : u * C = U * c) : t * c < u * b ↔ T * C < U * B := by
  have p1 : t * c * (B * C) = T * C * (b * c) := by
    calc t * c * (B * C) = (t * B) * (c * C) := by ac_rfl
      _ = T * b * (c * C) := by rw [e1]
      _ = T * C * (b * c) := by ac_rfl
  have p2 : u * b * (B * C) = U * B * (b * c) := by
    calc u * b * (B * C) = (u * C) * (b * B) := by ac_rfl
      _ = U * c * (b * B) := by rw [e2]
      _ = U * B * (b * c) := by ac_rfl
  have q1 : 0 < B * C := Int.mul_pos B0 C0
  have q2 : 0 < b * c := Int.mul_pos b0 c0
  constructor
  · intro h
    have := Int.mul_lt_mul_of_pos_right h q1
    rw [p1, p2] at this
    exact Int.lt_of_mul_lt_mul_right this (by omega)
  · intro h
    have := Int.mul_lt_mul_of_pos_right h q2
    rw [← p1, ← p2] at this
    exact Int.lt_of_mul_lt_mul_right this (by omega)
theorem cross_rel {op : CmpOp} {t b u c T B U C : Int} (b0 : 0 < b) (c0 : 0 < c) (B0 : 0 < B) (C0 : 0 < C) (e1 : t * B = T * b) (e2 : u * C = U * c) : relB op (t * c) (u * b) = relB op (T * C) (U * B) :=
  relB_of (cross_lt b0 c0 B0 C0 e1 e2) (cross_lt c0 b0 C0 B0 e2 e1)
/-! ### own comparisons -/
def relZ : CmpOp → Int → Bool := fun op z => relB op z 0
def spRel (K : PySem.W.Frag) (f : Int → Bool) : Sp := fun vs H Q _ => ∃ T p l n x v t b u c, vs = [.ref x, v] ∧ TwoP K T p l n H x v t b u c ∧ ∀ H', Ext p H H' → Bs T p l n H' → Q (.bl (f (nTop (t * c + -u * b) (b * c)))) H'
def spEqX (K : PySem.W.Frag) : Sp := fun vs H Q E => spRel K (relZ .Eq) vs H Q E ∨ ∃ x v, vs = [.ref x, v] ∧ NoNum K H v ∧ Q (.bl false) H
theorem rel_top {op : CmpOp} {z d : Int} (h : 0 < d) : relB op (nTop z d) 0 = relB op z 0 := by
  have := top_sign (z := z) h
  exact relB_of this.1 this.2
theorem rel_sub {op : CmpOp} {x y : Int} : relB op (x - y) 0 = relB op x y := relB_of (by omega) (by omega)
def flip : CmpOp → CmpOp
  | .Lt => .Gt | .LtE => .GtE | .Gt => .Lt | .GtE => .LtE | x => x
theorem rel_flip {op : CmpOp} {x y : Int} : relB (flip op) y x = relB op x y := by
  cases op <;> simp only [flip, relB, dVi] <;> first | rfl | (rw [Bool.beq_comm]) | (congr 1; rw [Bool.beq_comm]) | skip
  all_goals simp [eq_comm]
structure RelP (K : PySem.W.Frag) (op : CmpOp) (x y : V) (H : Hp) (Q : VK) : Prop where
  h : ∃ T p l n t b u c, Bs T p l n H ∧ NumP K p H x t b ∧ NumP K p H y u c ∧ ((∃ a, x = V.ref a) ∨ ∃ a, y = V.ref a) ∧ Bt 400 t ∧ Bt 400 b ∧ Bt 400 u ∧ Bt 400 c ∧ ∀ H', Ext p H H' → Bs T p l n H' → Q (.bl (relB op (t * c) (u * b))) H'
theorem rel_bs {K : PySem.W.Frag} {op : CmpOp} {x y : V} {H : Hp} {Q : VK} {T : List (Addr × Str)} {p l : Addr} {n : Nat} {t b u c : Int} (B : Bs T p l n H) (nx : NumP K p H x t b) (ny : NumP K p H y u c) (hr : (∃ a, x = V.ref a) ∨ ∃ a, y = V.ref a) (bt : Bt 400 t) (bb : Bt 400 b) (bu : Bt 400 u) (bc : Bt 400 c)
    (k : ∀ H', Ext p H H' → Bs T p l n H' → Q (.bl (relB op (t * c) (u * b))) H') : RelP K op x y H Q := ⟨T, p, l, n, t, b, u, c, B, nx, ny, hr, bt, bb, bu, bc, k⟩
theorem rel_val {op : CmpOp} {t b u c : Int} (lo : Low t b) (lo2 : Low u c) : relZ op (nTop (t * c + -u * b) (b * c)) = relB op (t * c) (u * b) := by
  unfold relZ
  rw [rel_top (Int.mul_pos lo.pos lo2.pos), Int.neg_mul, ← Int.sub_eq_add_neg, rel_sub]
section
variable {X : Cx} {n : Nat} {g gr : Addr} {E : XK}
theorem notInt_ref {K : PySem.W.Frag} {p a : Addr} {H : Hp} {t b : Int} (h : NumP K p H (.ref a) t b) : ∃ dx, H a = some (.ins (He.ga K "Ratio") dx (rf t b)) := by
  obtain ⟨⟨dx, h⟩, _⟩ := num_l h
  exact ⟨dx, h⟩
/-- <, <=, >, >= of numbers, one of them at least a Ratio -/
theorem op_rel {op : CmpOp} (hop : op = .Lt ∨ op = .LtE ∨ op = .Gt ∨ op = .GtE) (hs : PySem.W.findIn X.K (.ref (He.ga X.K "Ratio")) (cmpInfo op).2.1 = some (some (.ref g))) (hf : PySem.W.isFn X.K (.ref g) = true) (hs2 : PySem.W.findIn X.K (.ref (He.ga X.K "Ratio")) (cmpInfo op).2.2 = some (some (.ref gr))) (hf2 : PySem.W.isFn X.K (.ref gr) = true)
    (A : Apart X.K (He.ga X.K "Ratio")) (F : FnR X.prog X.w X.K X.mg X.base (L2.CX X.prog X.w) n g (Sw (spRel X.K (relZ op)))) (F2 : FnR X.prog X.w X.K X.mg X.base (L2.CX X.prog X.w) n gr (Sw (spRel X.K (relZ (flip op))))) (hr : Room n X.A) : OpR X (compareOp op) (RelP X.K op) := by
  have h1 := op_cmpL (E := E0) (op := op) (by rcases hop with rfl | rfl | rfl | rfl <;> exact fun _ _ => rfl) hs hf A F hr passL
  have h2 := op_ltR (E := E0) hop hs2 hf2 A F2 hr passL
  refine opR_of (op_two h1 h2) fun x y H Q ⟨h⟩ => ?_
  obtain ⟨T, p, l, m, t, b, u, c, B, nx, ny, hor, bt, bb, bu, bc, k⟩ := h
  have lo := nx.num.1
  have lo2 := ny.num.1
  rcases nx.num.2 with ⟨a, rfl, dx, ra⟩ | ⟨rfl, rfl⟩
  · refine .inl ⟨a, dx, _, rfl, ra, ?_, ⟨⟨T, p, l, m, a, y, t, b, u, c, rfl, ⟨B, num_l nx, lo, ny, bt, bb, bu, bc⟩, fun H' x1 B1 => by rw [rel_val lo lo2]; exact k H' x1 B1⟩⟩⟩
    rcases ny.num.2 with ⟨a2, rfl, dy, rb⟩ | ⟨rfl, _⟩
    · exact .inl ⟨a2, dy, _, rfl, rb⟩
    · exact .inr ⟨_, .int _⟩
  · rcases ny.num.2 with ⟨a2, rfl, dy, rb⟩ | ⟨rfl, rfl⟩
    · refine .inr ⟨a2, dy, _, rfl, rb, ⟨_, .int t⟩, ⟨t, rfl⟩, ⟨⟨T, p, l, m, a2, .int t, u, c, t, 1, rfl, ⟨B, num_l ny, lo2, nx, bu, bc, bt, bb⟩, fun H' x1 B1 => by rw [rel_val lo2 lo, rel_flip]; exact k H' x1 B1⟩⟩⟩
    · rcases hor with ⟨a, e⟩ | ⟨a, e⟩ <;> cases e
theorem op_relE (hs : PySem.W.findIn X.K (.ref (He.ga X.K "Ratio")) "__eq__" = some (some (.ref g))) (hf : PySem.W.isFn X.K (.ref g) = true) (A : Apart X.K (He.ga X.K "Ratio")) (F : FnR X.prog X.w X.K X.mg X.base (L2.CX X.prog X.w) n g (Sw (spEqX X.K))) (hr : Room n X.A) : OpR X (compareOp .Eq) (RelP X.K .Eq) := by
  have h1 := op_cmpL (E := E0) (op := .Eq) (fun _ _ => rfl) hs hf A F hr passL
  have h2 := op_eqR (E := E0) hs hf A F hr passL
  refine opR_of (op_two h1 h2) fun x y H Q ⟨h⟩ => ?_
  obtain ⟨T, p, l, m, t, b, u, c, B, nx, ny, hor, bt, bb, bu, bc, k⟩ := h
  have lo := nx.num.1
  have lo2 := ny.num.1
  rcases nx.num.2 with ⟨a, rfl, dx, ra⟩ | ⟨rfl, rfl⟩
  · refine .inl ⟨a, dx, _, rfl, ra, ?_, ⟨.inl ⟨T, p, l, m, a, y, t, b, u, c, rfl, ⟨B, num_l nx, lo, ny, bt, bb, bu, bc⟩, fun H' x1 B1 => by rw [rel_val lo lo2]; exact k H' x1 B1⟩⟩⟩
    rcases ny.num.2 with ⟨a2, rfl, dy, rb⟩ | ⟨rfl, _⟩
    · exact .inl ⟨a2, dy, _, rfl, rb⟩
    · exact .inr ⟨_, .int _⟩
  · rcases ny.num.2 with ⟨a2, rfl, dy, rb⟩ | ⟨rfl, rfl⟩
    · refine .inr ⟨a2, dy, _, rfl, rb, ⟨_, .int t⟩, trivial, ⟨.inl ⟨T, p, l, m, a2, .int t, u, c, t, 1, rfl, ⟨B, num_l ny, lo2, nx, bu, bc, bt, bb⟩, fun H' x1 B1 => by rw [(rel_val (op := .Eq) lo2 lo).trans (rel_flip (op := .Eq))]; exact k H' x1 B1⟩⟩⟩
    · rcases hor with ⟨a, e⟩ | ⟨a, e⟩ <;> cases e
theorem op_relN (hn : PySem.W.findIn X.K (.ref (He.ga X.K "Ratio")) "__ne__" = some (some (.builtin "object.__ne__"))) (hm : PySem.W.mroIn X.K (He.ga X.K "Ratio") (.type "object") = some true) (hs : PySem.W.findIn X.K (.ref (He.ga X.K "Ratio")) "__eq__" = some (some (.ref g))) (hf : PySem.W.isFn X.K (.ref g) = true) (A : Apart X.K (He.ga X.K "Ratio")) (F : FnR X.prog X.w X.K X.mg X.base (L2.CX X.prog X.w) n g (Sw (spEqX X.K))) (hr : Room (n + 1) X.A) : OpR X (compareOp .NotEq) (RelP X.K .NotEq) := by
  have h1 := op_neL (E := E0) hn hm hs hf A F hr passL
  have h2 := op_neR (E := E0) hn hm hs hf A F hr passL
  refine opR_of (op_two h1 h2) fun x y H Q ⟨h⟩ => ?_
  obtain ⟨T, p, l, m, t, b, u, c, B, nx, ny, hor, bt, bb, bu, bc, k⟩ := h
  have lo := nx.num.1
  have lo2 := ny.num.1
  have kk : ∀ H', Ext p H H' → Bs T p l m H' → Q (.bl (!relB .Eq (t * c) (u * b))) H' := k
  rcases nx.num.2 with ⟨a, rfl, dx, ra⟩ | ⟨rfl, rfl⟩
  · refine .inl ⟨a, dx, _, rfl, ra, ?_, ⟨.inl ⟨T, p, l, m, a, y, t, b, u, c, rfl, ⟨B, num_l nx, lo, ny, bt, bb, bu, bc⟩, fun H' x1 B1 => ⟨_, rfl, by rw [rel_val lo lo2]; exact kk H' x1 B1⟩⟩⟩⟩
    rcases ny.num.2 with ⟨a2, rfl, dy, rb⟩ | ⟨rfl, _⟩
    · exact .inl ⟨a2, dy, _, rfl, rb⟩
    · exact .inr ⟨_, .int _⟩
  · rcases ny.num.2 with ⟨a2, rfl, dy, rb⟩ | ⟨rfl, rfl⟩
    · refine .inr ⟨a2, dy, _, rfl, rb, ⟨_, .int t⟩, trivial, ⟨.inl ⟨T, p, l, m, a2, .int t, u, c, t, 1, rfl, ⟨B, num_l ny, lo2, nx, bu, bc, bt, bb⟩, fun H' x1 B1 => ⟨_, rfl, by rw [(rel_val (op := .Eq) lo2 lo).trans (rel_flip (op := .Eq))]; exact kk H' x1 B1⟩⟩⟩⟩
    · rcases hor with ⟨a, e⟩ | ⟨a, e⟩ <;> cases e
end
end EM
/-! EM44: a pick among ints. -/
namespace EM
open PySem PySem.Spec PyProof.Rows L2
inductive AllI : List V → List Int → Prop
  | nil : AllI [] []
  | cons {xs : List V} {ns : List Int} (i : Int) (h : AllI xs ns) : AllI (.int i :: xs) (i :: ns)
theorem AllI.map {xs : List V} {ns : List Int} (h : AllI xs ns) : xs = ns.map V.int := by
  induction h with
  | nil => rfl
  | cons i h ih => rw [ih]; rfl
section
variable {T : List (Addr × Str)} {p l q a : Addr} {n m : Nat} {H H1 H2 H' : Hp}
theorem pick_int {Q : VK} {E : XK} {xs : List V} {ns : List Int} (B : Bs T p l n H) (h1 : n ≤ 1000000) (ha : At p H a (.lst xs)) (hi : AllI xs ns) (h2 : 1 ≤ xs.length) (h3 : xs.length ≤ 1000000)
    (k : ∀ i H', i ∈ ns → Ext p H H' → Bs T p l (n + 1) H' → Q (.int i) H') : Sw spPick [.ref p, .ref a] H Q E :=
  pick_bs B h1 ha h2 h3 fun v H' hv x1 B1 => by
    rw [hi.map] at hv
    obtain ⟨i, hm, rfl⟩ := List.mem_map.mp hv
    exact k i H' hm x1 B1
end
end EM
namespace EM
open PySem PySem.Spec PyProof.Rows L2
/-! ### texts that are the same; if on them -/
structure EqS (x y : V) (H : Hp) (Q : VK) : Prop where
  h : ∃ z, x = .str z ∧ y = .str z ∧ Q (.bl true) H
structure NeS (x y : V) (H : Hp) (Q : VK) : Prop where
  h : ∃ z, x = .str z ∧ y = .str z ∧ Q (.bl false) H
theorem EqS.mk' {H : Hp} {Q : VK} {z : Str} (q : Q (.bl true) H) : EqS (.str z) (.str z) H Q := ⟨z, rfl, rfl, q⟩
theorem NeS.mk' {H : Hp} {Q : VK} {z : Str} (q : Q (.bl false) H) : NeS (.str z) (.str z) H Q := ⟨z, rfl, rfl, q⟩
theorem op_eqS {X : Cx} : OpR X (compareOp .Eq) EqS := opR_of op_eq fun x y H Q ⟨z, e1, e2, q⟩ => by
  subst e1 e2
  exact ⟨rfl, by rw [decide_eq_true rfl]; exact q⟩
theorem op_neS {X : Cx} : OpR X (compareOp .NotEq) NeS := opR_of op_ne fun x y H Q ⟨z, e1, e2, q⟩ => by
  subst e1 e2
  exact ⟨rfl, by rw [decide_eq_true rfl]; exact q⟩
/-! ### a sum or product of two numbers, either may be an int -/
structure NumOp (K : PySem.W.Frag) (F G : Int → Int → Int → Int → Int) (x y : V) (H : Hp) (Q : VK) : Prop where
  h : ∃ T p l n t b u c, Bs T p l n H ∧ NumP K p H x t b ∧ NumP K p H y u c ∧ Bt 400 t ∧ Bt 400 b ∧ Bt 400 u ∧ Bt 400 c ∧
    ∀ v t' b' H', Ext p H H' → Bs T p l n H' → NumP K p H' v t' b' → ((∃ a, x = V.ref a) ∨ (∃ a, y = V.ref a) → ∃ a, v = V.ref a) → t' * G t b u c = F t b u c * b' → (∀ N, Bt N (F t b u c) → Bt N t') → (∀ N, 0 < N → Bt N (G t b u c) → Bt N b') → Q v H'
theorem op_numop {X : Cx} {f : Value → Value → Sem Value} {F G : Int → Int → Int → Int → Int} {i : Int → Int → Int} (hi : OpR X f (rI CMulW fun x y => .int (i x y))) (hn : OpR X f (rNumN X.K F G)) (hF : ∀ t u, F t 1 u 1 = i t u) (hG : ∀ t u, G t 1 u 1 = 1) (hp : ∀ t b u c, 0 < b → 0 < c → 0 < G t b u c) (hw : ∀ t u, Bt 400 t → Bt 400 u → CMulW t u) : OpR X f (NumOp X.K F G) := by
  refine opR_of (op_two hi hn) fun x y H Q ⟨h⟩ => ?_
  obtain ⟨T, p, l, n, t, b, u, c, B, nx, ny, bt, bb, bu, bc, k⟩ := h
  have lo := nx.num.1
  have lo2 := ny.num.1
  have g0 := hp t b u c lo.pos lo2.pos
  have big : (∃ a, x = V.ref a) ∨ (∃ a, y = V.ref a) → rNumN X.K F G x y H Q := fun hor => by
    refine ⟨t, b, u, c, nx.num, ny.num, hor, bt.mono (by decide), bb.mono (by decide), bu.mono (by decide), bc.mono (by decide), Rw.bs B fun a H' x1 B1 r => ?_⟩
    exact k (.ref a) _ _ H' x1 B1 (r.num (n_low (by omega))) (fun _ => ⟨a, rfl⟩) n_cross (fun N h => h.top (by omega)) (fun N _ h => h.bot (by omega))
  rcases nx.num.2 with ⟨a, rfl, ra⟩ | ⟨rfl, rfl⟩
  · exact .inr (big (.inl ⟨a, rfl⟩))
  · rcases ny.num.2 with ⟨a, rfl, ra⟩ | ⟨rfl, rfl⟩
    · exact .inr (big (.inr ⟨a, rfl⟩))
    · refine .inl ⟨t, u, rfl, rfl, hw t u bt bu, k _ (i t u) 1 H (Ext.refl) B (NumP.int _) (fun h => ?_) (by rw [hF, hG]) (fun N h => by rw [← hF]; exact h) (fun N z h => by rw [hG] at h; exact h)⟩
      rcases h with ⟨a, e⟩ | ⟨a, e⟩ <;> cases e
end EM
/-! EM45: loops and comprehensions at which the stepping words stop. -/
namespace EM
open PySem PySem.Spec PyProof.Rows L2
/-- a loop at which the stepping words stop -/
structure FoS (J : It) (g : TG) (tb : TS) (D : Ends) (σ : L2.St) (H1 : Hp) : Prop where
  h : ∃ W : Nat → Nat → L2.St → Hp → Prop, (∃ m, W 0 m σ H1) ∧ ∀ i m σ H, W i m σ H →
    (J.stop i H ∧ D.nx σ H) ∨ (J.go i H ∧ ∃ N : L2.St → Hp → Prop, (∀ σ' H', N σ' H' → ∃ m', m' < m ∧ W (i + 1) m' σ' H') ∧ ∀ x H', J.yld i H x H' → g x σ H' fun σ2 H2 => tb { D with nx := N, ct := N, bk := D.nx } σ2 H2)
/-- a comprehension at which the stepping words stop -/
structure LcS (J : It) (g : TG) (tt : TT) (te : TE) (vs : List Nat) (σ : L2.St) (H1 : Hp) (Q : VK) : Prop where
  h : ∀ D, H1 D = none → ∃ W : Nat → Nat → Hp → Prop, (∃ m, W 0 m (upd H1 D (.lst []))) ∧ ∀ i m H, W i m H →
    (J.stop i H ∧ Q (.ref D) H) ∨ (J.go i H ∧ ∃ Nx : Hp → Prop, (∀ H', Nx H' → ∃ m', m' < m ∧ W (i + 1) m' H') ∧ ∀ x H', J.yld i H x H' → g x (wipe σ vs) H' fun σ2 H2 => wipe σ2 vs = wipe σ vs ∧ tt σ2 H2 fun b H3 =>
      if b = true then te σ2 H3 fun y H4 => ∃ acc, H4 D = some (.lst acc) ∧ acc.length < sizeLine ∧ Nx (upd H4 D (.lst (acc ++ [y]))) else Nx H3)
theorem _root_.L2.PS.of {X : Cx} {st : Stmt} {t t' : TS} (h : PS X st t) (w : ∀ D σ H, t' D σ H → t D σ H) : PS X st t' := ⟨fun pins s σ H D I q => h.run pins s σ H D I (w D σ H q)⟩
def tForN (wi : TI) (g : TG) (tb : TS) : TS := fun D σ H => wi σ H fun J H1 => FoS J g tb D σ H1
def tLcN (wi : TI) (g : TG) (tt : TT) (te : TE) (vs : List Nat) : TE := fun σ H Q => wi σ H fun J H1 => LcS J g tt te vs σ H1 Q
def mcI (wi : TI) : TI := fun σ H R => ∃ R' : It → Hp → Prop, wi σ H R' ∧ ∀ J H1, R' J H1 → R J H1
section
variable {X : Cx}
theorem _root_.L2.PI.mc {tg iter : Expr} {wi : TI} (h : PI X tg iter wi) : PI X tg iter (mcI wi) := by
  refine ⟨fun pins s σ H R I hq => ?_⟩
  obtain ⟨R', hR, k⟩ := hq
  refine thn (h.run pins s σ H R' I hR) fun u s1 z => thn z fun v s2 z2 => ?_
  obtain ⟨it, fp, tn, J, H2, e, I2, T, st2, f2, q⟩ := z2
  exact ⟨it, fp, tn, J, H2, e, I2, T, st2, f2, k _ _ q⟩
theorem forN {st : Stmt} {wi : TI} {g : TG} {tb : TS} (h : PS X st (tFor (mcI wi) g tb)) : PS X st (tForN wi g tb) := h.of fun D σ H q => ⟨_, q, fun J H1 z => z.h⟩
theorem lcN {e : Expr} {wi : TI} {g : TG} {tt : TT} {te : TE} {vs : List Nat} (h : PE X e (tLc (mcI wi) g tt te vs)) : PE X e (tLcN wi g tt te vs) := h.of fun σ H Q q => ⟨_, q, fun J H1 z => z.h⟩
theorem setLcN {st : Stmt} {wi : TI} {g g2 : TG} {tt : TT} {te : TE} {vs : List Nat} (h : PS X st (tAsg (tLc (mcI wi) g tt te vs) g2)) : PS X st (tAsg (tLcN wi g tt te vs) g2) := h.of fun D σ H q => ⟨_, q, fun J H1 z => z.h⟩
end
end EM
namespace EM
open PySem PySem.Spec PyProof.Rows L2
theorem mk_bs {T : List (Addr × Str)} {p l : Addr} {n : Nat} {H : Hp} {K : PySem.W.Frag} {Q : VK} {E : XK} {t b : Int} (B : Bs T p l n H) (h0 : b ≠ 0) (hb : Bt 2000 b) (k : ∀ a H', Ext p H H' → Bs T p l n H' → RatP K p H' a (nTop t b) (nBot t b) → Q (.ref a) H') : Sw (spMkN K) [.int t, .int b] H Q E :=
  ⟨⟨t, b, rfl, h0, Nat.lt_trans (hb.log (by decide)) (by decide), RatRes.bs B k⟩⟩
theorem move_lt {t b u c s f : Int} (hf : 0 < f) : (t * f + s * b) * (c * f) < (u * f + s * c) * (b * f) ↔ t * c < u * b := by
  have e1 : (t * f + s * b) * (c * f) = (t * c) * (f * f) + s * b * c * f := by
    rw [Int.add_mul]
    congr 1 <;> ac_rfl
  have e2 : (u * f + s * c) * (b * f) = (u * b) * (f * f) + s * b * c * f := by
    rw [Int.add_mul]
    congr 1 <;> ac_rfl
  have q : 0 < f * f := Int.mul_pos hf hf
  rw [e1, e2]
  constructor
  · intro h
    exact Int.lt_of_mul_lt_mul_right (show t * c * (f * f) < u * b * (f * f) by omega) (by omega)
  · intro h
    have := Int.mul_lt_mul_of_pos_right h q
    omega
theorem move_rel {op : CmpOp} {t b u c s f : Int} (hf : 0 < f) : relB op ((t * f + s * b) * (c * f)) ((u * f + s * c) * (b * f)) = relB op (t * c) (u * b) := relB_of (move_lt hf) (move_lt hf)
theorem times_lt {t b u c m k : Int} (hm : 0 < m) (hk : 0 < k) : (t * m) * (c * k) < (u * m) * (b * k) ↔ t * c < u * b := by
  have e1 : (t * m) * (c * k) = (t * c) * (m * k) := by ac_rfl
  have e2 : (u * m) * (b * k) = (u * b) * (m * k) := by ac_rfl
  have q : 0 < m * k := Int.mul_pos hm hk
  rw [e1, e2]
  exact ⟨fun h => Int.lt_of_mul_lt_mul_right h (by omega), fun h => Int.mul_lt_mul_of_pos_right h q⟩
theorem times_rel {op : CmpOp} {t b u c m k : Int} (hm : 0 < m) (hk : 0 < k) : relB op ((t * m) * (c * k)) ((u * m) * (b * k)) = relB op (t * c) (u * b) := relB_of (times_lt hm hk) (times_lt hm hk)
end EM
/-! EM46: comprehensions in one word. -/
namespace EM
open PySem PySem.Spec PyProof.Rows L2
/-- a comprehension: each turn draws at most c times; f tells of the values, in the heap as it then is -/
theorem lc_scH {T : List (Addr × Str)} {p l : Addr} {m : Nat} (c : Nat) {J : It} {n : Nat} {G : Hp → Prop} {Y : Nat → Hp → V → Hp → Prop} (w : Walk J n G Y) {g : TG} {tt : TT} {te : TE} {vs : List Nat} {σ : L2.St} {H1 : Hp} {D : Addr} {Q : VK} (hD : H1 D = none)
    (B : Bs T p l m H1) (f : Nat → V → Hp → Prop) (fx : ∀ i y H H', f i y H → Ext p H H' → f i y H') (fm : ∀ i y D xs ys H H', f i y H → Mu D H H' (.lst ys) → At p H D (.lst xs) → f i y H') (hn : n ≤ 100000) (hG : ∀ H, Ext p H1 H → G H)
    (hs : ∀ i x H H', i < n → Ext p H1 H → Bs T p l (m + c * i) H → Y i H x H' → g x (wipe σ vs) H' fun σ2 H2 => wipe σ2 vs = wipe σ vs ∧ tt σ2 H2 fun b H3 => b = true ∧ te σ2 H3 fun y H4 => Ext p H H4 ∧ Bs T p l (m + c * (i + 1)) H4 ∧ f i y H4)
    (mg : ∀ x σ H (R R' : L2.St → Hp → Prop), (∀ σ H, R σ H → R' σ H) → g x σ H R → g x σ H R') (mt : ∀ σ H (R R' : Bool → Hp → Prop), (∀ b H, R b H → R' b H) → tt σ H R → tt σ H R')
    (hd : ∀ ys H', ys.length = n → (∀ i y, ys[i]? = some y → f i y H') → Ext p H1 H' → Bs T p l (m + c * n) H' → At p H' D (.lst ys) → Q (.ref D) H') :
    ∃ W : Nat → Nat → Hp → Prop, (∃ m, W 0 m (upd H1 D (.lst []))) ∧ ∀ i m H, W i m H →
      (J.stop i H ∧ Q (.ref D) H) ∨ (J.go i H ∧ ∃ Nx : Hp → Prop, (∀ H', Nx H' → ∃ m', m' < m ∧ W (i + 1) m' H') ∧ ∀ x H', J.yld i H x H' → g x (wipe σ vs) H' fun σ2 H2 => wipe σ2 vs = wipe σ vs ∧ tt σ2 H2 fun b H3 =>
        if b = true then mcE te σ2 H3 fun y H4 => ∃ acc, H4 D = some (.lst acc) ∧ acc.length < sizeLine ∧ Nx (upd H4 D (.lst (acc ++ [y]))) else Nx H3) := by
  have nDp := B.ne hD
  have nDl := B.nel hD
  refine lc_it w (fun i H => ∃ acc, At p H D (.lst acc) ∧ acc.length = i ∧ (∀ j y, acc[j]? = some y → f j y H) ∧ Ext p H1 H ∧ Bs T p l (m + c * i) H) ⟨[], ⟨upd_same, nDp, fun _ z => by cases z⟩, rfl, fun j y z => by simp at z, Ext.same (same_upd hD), B.same (same_upd hD)⟩ (fun i H hi ⟨acc, _, _, _, x, _⟩ => hG H x) ?_ ?_
  · rintro i x H H' hi ⟨acc, hA, hl, hf, x1, B1⟩ y
    refine mg _ _ _ _ _ (fun σ2 H2 h => ⟨h.1, mt _ _ _ _ (fun b H3 h3 => ?_) h.2⟩) (hs i x H H' hi x1 B1 y)
    obtain ⟨rfl, h4⟩ := h3
    rw [if_pos rfl]
    refine ⟨_, h4, fun v H4 h5 => ?_⟩
    obtain ⟨x4, B4, hv⟩ := h5
    have hA4 := hA.ext x4
    have mu : Mu D H4 (upd H4 D (.lst (acc ++ [v]))) (.lst (acc ++ [v])) := Mu.upd
    refine ⟨acc, hA4.at_, by rw [hl]; exact szl (by omega), acc ++ [v], ⟨upd_same, nDp, fun _ z => by cases z⟩, by simp [hl], fun j y hj => ?_, ⟨fun b o e nb nt => ?_⟩, ⟨?_, tabs_mut B4.tab hA4.at_⟩⟩
    · rcases Nat.lt_or_ge j acc.length with h | h
      · rw [List.getElem?_append_left h] at hj
        exact fm _ _ _ _ _ _ _ (fx _ _ _ _ (hf j y hj) x4) mu hA4
      · rw [List.getElem?_append_right h] at hj
        have : j - acc.length = 0 := by
          apply Classical.byContradiction
          intro z
          rw [List.getElem?_eq_none (by simp; omega)] at hj
          cases hj
        rw [this] at hj
        have e : j = i := by omega
        subst e
        cases hj
        exact fm _ _ _ _ _ _ _ hv mu hA4
    · have e4 := x4.k _ _ (x1.k _ _ e nb nt) nb nt
      rw [upd_ne (ne_of_none e hD)]
      exact e4
    · exact B4.pen.mut nDp nDl
  · rintro H ⟨acc, hA, hl, hf, x1, B1⟩
    exact hd acc H hl hf x1 B1 hA
theorem LcS.lc {T : List (Addr × Str)} {p l : Addr} {m : Nat} (c : Nat) {J : It} {n : Nat} {G : Hp → Prop} {Y : Nat → Hp → V → Hp → Prop} (w : Walk J n G Y) {k : Nat} {te : TE} {vs : List Nat} {σ : L2.St} {H1 : Hp} {Q : VK}
    (B : Bs T p l m H1) (f : Nat → V → Hp → Prop) (hn : n ≤ 100000) (hG : ∀ H, Ext p H1 H → G H)
    (hs : ∀ i x H H', i < n → Ext p H1 H → Bs T p l (m + c * i) H → Y i H x H' → gName k x (wipe σ vs) H' fun σ2 H2 => wipe σ2 vs = wipe σ vs ∧ te σ2 H2 fun y H4 => Ext p H H4 ∧ Bs T p l (m + c * (i + 1)) H4 ∧ f i y H4)
    (hd : ∀ D ys H', H1 D = none → ys.length = n → (∀ i y, ys[i]? = some y → f i y H') → Ext p H1 H' → Bs T p l (m + c * n) H' → At p H' D (.lst ys) → Q (.ref D) H')
    (fx : ∀ i y H H', f i y H → Ext p H H' → f i y H' := by exact fun _ _ _ _ h _ => h) (fm : ∀ i y D xs ys H H', f i y H → Mu D H H' (.lst ys) → At p H D (.lst xs) → f i y H' := by exact fun _ _ _ _ _ _ _ h _ _ => h) :
    LcS J (gName k) tYes (mcE te) vs σ H1 Q :=
  ⟨fun D hD => lc_scH (g := gName k) (tt := tYes) c w hD B f fx fm hn hG (fun i x H H' h1 h2 h3 h4 => by
    have q := hs i x H H' h1 h2 h3 h4
    exact ⟨q.1, rfl, q.2⟩) (fun _ _ _ _ _ h q => h _ _ q) (fun _ _ _ _ h q => h _ _ q) (fun ys H' => hd D ys H' hD)⟩
/-- a comprehension over unpacked pairs and the like: any target -/
theorem LcS.lcG {T : List (Addr × Str)} {p l : Addr} {m : Nat} (c : Nat) {J : It} {n : Nat} {G : Hp → Prop} {Y : Nat → Hp → V → Hp → Prop} (w : Walk J n G Y) {g : TG} {te : TE} {vs : List Nat} {σ : L2.St} {H1 : Hp} {Q : VK}
    (mg : ∀ x σ H (R R' : L2.St → Hp → Prop), (∀ σ H, R σ H → R' σ H) → g x σ H R → g x σ H R')
    (B : Bs T p l m H1) (f : Nat → V → Hp → Prop) (hn : n ≤ 100000) (hG : ∀ H, Ext p H1 H → G H)
    (hs : ∀ i x H H', i < n → Ext p H1 H → Bs T p l (m + c * i) H → Y i H x H' → g x (wipe σ vs) H' fun σ2 H2 => wipe σ2 vs = wipe σ vs ∧ te σ2 H2 fun y H4 => Ext p H H4 ∧ Bs T p l (m + c * (i + 1)) H4 ∧ f i y H4)
    (hd : ∀ D ys H', H1 D = none → ys.length = n → (∀ i y, ys[i]? = some y → f i y H') → Ext p H1 H' → Bs T p l (m + c * n) H' → At p H' D (.lst ys) → Q (.ref D) H')
    (fx : ∀ i y H H', f i y H → Ext p H H' → f i y H' := by exact fun _ _ _ _ h _ => h) (fm : ∀ i y D xs ys H H', f i y H → Mu D H H' (.lst ys) → At p H D (.lst xs) → f i y H' := by exact fun _ _ _ _ _ _ _ h _ _ => h) :
    LcS J g tYes (mcE te) vs σ H1 Q :=
  ⟨fun D hD => lc_scH (g := g) (tt := tYes) c w hD B f fx fm hn hG (fun i x H H' h1 h2 h3 h4 => by
    refine mg x _ _ _ _ (fun σ2 H2 q => ?_) (hs i x H H' h1 h2 h3 h4)
    exact ⟨q.1, rfl, q.2⟩) mg (fun _ _ _ _ h q => h _ _ q) (fun ys H' => hd D ys H' hD)⟩
end EM
/-! EM47: isinstance of a list or a tuple; rows of numbers. -/
namespace EM
open PySem PySem.Spec PyProof.Rows L2
section
variable {T : List (Addr × Str)} {p l q a tp : Addr} {n m : Nat} {H H1 H2 H' : Hp} {o : HO} {K : PySem.W.Frag} {Q : VK} {x v : V} {xs : List V}
def rLenN (K : PySem.W.Frag) : List V → Hp → VK → Prop := fun vs H Q => ∃ x n, vs = [x] ∧ LenV K x H n ∧ Q (.int n) H
theorem call_lenN {X : Cx} : CallR X (.builtin "len") (Sr (rLenN X.K)) := callR_sw call_len
theorem lenL (h : At p H a (.lst xs)) (q : Q (.int xs.length) H) : Sr (rLenN K) [.ref a] H Q := ⟨.ref a, xs.length, rfl, .inl ⟨xs, SqL.of h.at_, rfl⟩, q⟩
theorem lenT (h : At p H a (.tup xs)) (q : Q (.int xs.length) H) : Sr (rLenN K) [.ref a] H Q := ⟨.ref a, xs.length, rfl, .inr ⟨xs, SqT.of h.at_, rfl⟩, q⟩
def NotSeqT (K : PySem.W.Frag) (H : Hp) (x : V) : Prop := ∃ t, TyX K H x t ∧ PySem.W.kitAny K t [.type "list", .type "tuple"] = some false
def rIsSeq (K : PySem.W.Frag) : List V → Hp → VK → Prop := fun vs H Q => ∃ x tp, vs = [x, .ref tp] ∧ H tp = some (.tup [.ty "list", .ty "tuple"]) ∧ (((∃ a xs, x = .ref a ∧ (H a = some (.lst xs) ∨ H a = some (.tup xs))) ∧ Q (.bl true) H) ∨ (NotSeqT K H x ∧ Q (.bl false) H))
theorem call_isSeq {X : Cx} : CallR X (.builtin "isinstance") (rIsSeq X.K) := callR_of call_isiT fun vs H Q ⟨x, tp, e, h, z⟩ => by
  rcases z with ⟨⟨a, xs, rfl, ha⟩, q⟩ | ⟨⟨t, ty, k⟩, q⟩
  · rcases ha with ha | ha
    · exact ⟨.ref a, tp, _, .type "list", [.type "list", .type "tuple"], true, e, h, .cons (.ty _) (.cons (.ty _) .nil), .base (.lst ha), kitAny_cons (b := true) (kit_ty (by decide +kernel)) (fun z => nomatch z) (fun _ => rfl), q⟩
    · exact ⟨.ref a, tp, _, .type "tuple", [.type "list", .type "tuple"], true, e, h, .cons (.ty _) (.cons (.ty _) .nil), .base (.tup ha), kitAny_cons (b := false) (kit_ty (by decide +kernel)) (fun _ => kitAny_cons (b := true) (kit_ty (by decide +kernel)) (fun z => nomatch z) (fun _ => rfl)) (fun z => nomatch z), q⟩
  · exact ⟨x, tp, _, t, [.type "list", .type "tuple"], false, e, h, .cons (.ty _) (.cons (.ty _) .nil), ty, k, q⟩
theorem isSeqL (ht : At p H tp (.tup [.ty "list", .ty "tuple"])) (ha : At p H a (.lst xs)) (q : Q (.bl true) H) : Sr (rIsSeq K) [.ref a, .ref tp] H Q := ⟨_, tp, rfl, ht.at_, .inl ⟨⟨a, xs, rfl, .inl ha.at_⟩, q⟩⟩
theorem isSeqT (ht : At p H tp (.tup [.ty "list", .ty "tuple"])) (ha : At p H a (.tup xs)) (q : Q (.bl true) H) : Sr (rIsSeq K) [.ref a, .ref tp] H Q := ⟨_, tp, rfl, ht.at_, .inl ⟨⟨a, xs, rfl, .inr ha.at_⟩, q⟩⟩
theorem isSeqN (ht : At p H tp (.tup [.ty "list", .ty "tuple"])) (hx : NotSeqT K H x) (q : Q (.bl false) H) : Sr (rIsSeq K) [x, .ref tp] H Q := ⟨_, tp, rfl, ht.at_, .inr ⟨hx, q⟩⟩
theorem nsq_ty {t : String} (h : TyX K H x (.type t)) (g : t = "int" ∨ t = "bool" ∨ t = "NoneType" ∨ t = "str" ∨ t = "dict") : NotSeqT K H x := by
  refine ⟨_, h, ?_⟩
  rcases g with rfl | rfl | rfl | rfl | rfl <;> exact kitAny_cons (b := false) (kit_ty (by decide +kernel)) (fun _ => kitAny_cons (b := false) (kit_ty (by decide +kernel)) (fun _ => rfl) (fun z => nomatch z)) (fun z => nomatch z)
/-- a list or a tuple -/
def SeqV (p : Addr) (H : Hp) (a : Addr) (xs : List V) : Prop := At p H a (.lst xs) ∨ At p H a (.tup xs)
theorem SeqV.ext (h : SeqV p H a xs) (y : Ext p H H') : SeqV p H' a xs := by
  rcases h with h | h
  · exact .inl (h.ext y)
  · exact .inr (h.ext y)
theorem SeqV.or (h : SeqV p H a xs) : H a = some (.lst xs) ∨ H a = some (.tup xs) := by
  rcases h with h | h
  · exact .inl h.at_
  · exact .inr h.at_
/-- the numbers of a row -/
structure NumsP (K : PySem.W.Frag) (p : Addr) (H : Hp) (xs : List V) (ts : List (Int × Int)) : Prop where
  len : xs.length = ts.length
  h : ∀ (i : Nat) (x : V) (t : Int × Int), xs[i]? = some x → ts[i]? = some t → NumP K p H x t.1 t.2
theorem NumsP.ext {ts : List (Int × Int)} (h : NumsP K p H xs ts) (y : Ext p H H') : NumsP K p H' xs ts := ⟨h.len, fun i x t e1 e2 => NumP.ext y (h.h i x t e1 e2)⟩
/-- a row of Ratios -/
structure RatsP (K : PySem.W.Frag) (p : Addr) (H : Hp) (xs : List V) (ts : List (Int × Int)) : Prop where
  len : xs.length = ts.length
  h : ∀ (i : Nat) (x : V) (t : Int × Int), xs[i]? = some x → ts[i]? = some t → ∃ a, x = .ref a ∧ RatP K p H a t.1 t.2
end
end EM
/-! EM48: a for over a list or a tuple, in one word; lists of Bools. -/
namespace EM
open PySem PySem.Spec PyProof.Rows L2
section
variable {T : List (Addr × Str)} {p l q a tp : Addr} {n m : Nat} {H H1 H2 H' : Hp} {o : HO} {K : PySem.W.Frag} {Q : VK} {x v : V} {xs : List V}
structure SqW (x : V) (H : Hp) (R : It → Hp → Prop) : Prop where
  h : ∃ a xs, x = V.ref a ∧ (H a = some (.lst xs) ∨ H a = some (.tup xs)) ∧ ∀ J, Walk J xs.length (fun H' => H' a = H a) (YAt xs) → R J H
def iSeqN (tl : TE) : TI := fun σ H R => tl σ H fun x H1 => SqW x H1 R
theorem pi_seqN {X : Cx} {tg l : Expr} {tl : TE} (hl : PE X l tl) : PI X tg l (iSeqN tl) := ⟨fun pins s σ H R I h => (pi_seq hl.mc).run pins s σ H R I ⟨_, h, fun v H1 z => z.h⟩⟩
theorem seqL {R : It → Hp → Prop} (h : At p H a (.lst xs)) (k : ∀ J, Walk J xs.length (fun H' => H' a = H a) (YAt xs) → R J H) : SqW (.ref a) H R := ⟨a, xs, rfl, .inl h.at_, k⟩
theorem seqT {R : It → Hp → Prop} (h : At p H a (.tup xs)) (k : ∀ J, Walk J xs.length (fun H' => H' a = H a) (YAt xs) → R J H) : SqW (.ref a) H R := ⟨a, xs, rfl, .inr h.at_, k⟩
theorem At.eq (h : At p H a o) (x : Ext p H H') : H' a = H a := (h.ext x).at_.trans h.at_.symm
theorem bls_of {ys : List V} {bs : List Bool} (h : ys.length = bs.length) (g : ∀ (i : Nat) (y : V), ys[i]? = some y → ∃ b, bs[i]? = some b ∧ y = .bl b) : ys = bs.map V.bl := by
  apply List.ext_getElem?
  intro i
  rw [List.getElem?_map]
  rcases Nat.lt_or_ge i ys.length with hi | hi
  · obtain ⟨b, e1, e2⟩ := g i ys[i] (List.getElem?_eq_getElem hi)
    rw [List.getElem?_eq_getElem hi, e1, e2]
    rfl
  · rw [List.getElem?_eq_none hi, List.getElem?_eq_none (by omega)]
    rfl
end
end EM
/-! EM49: a for in one word; folds; a first item. -/
namespace EM
open PySem PySem.Spec PyProof.Rows L2
theorem FoS.it {J : It} {n : Nat} {G : Hp → Prop} {Y : Nat → Hp → V → Hp → Prop} (w : Walk J n G Y) {g : TG} {tb : TS} {D : Ends} {σ : L2.St} {H : Hp} (Pv : Nat → L2.St → Hp → Prop) (h0 : Pv 0 σ H) (hG : ∀ i σ H, i ≤ n → Pv i σ H → G H)
    (hs : ∀ i x σ H H', i < n → Pv i σ H → Y i H x H' → g x σ H' fun σ2 H2 => tb { D with nx := Pv (i + 1), ct := Pv (i + 1), bk := D.nx } σ2 H2) (hd : ∀ σ H, Pv n σ H → D.nx σ H) : FoS J g tb D σ H := ⟨for_it w Pv h0 hG hs hd⟩
theorem atI0 {xs : List V} {v : V} (h : xs[0]? = some v) : atI xs 0 = some v := at_of (j := 0) (by rfl) h
theorem take_fold {α β : Type} {F : β → α → β} {s : β} {ts : List α} {i : Nat} {t : α} (h : ts[i]? = some t) : (ts.take (i + 1)).foldl F s = F ((ts.take i).foldl F s) t := by
  rw [List.take_succ, h, List.foldl_append]
  rfl
def foldE (F : Int × Int → Int × Int → Int × Int) (ts : List (Int × Int)) : Int × Int := ts.foldl F (ts.headD (0, 1))
def minF (f x : Int × Int) : Int × Int := if relB .Lt (x.1 * f.2) (f.1 * x.2) = true then x else f
def maxF (f x : Int × Int) : Int × Int := if relB .Lt (f.1 * x.2) (x.1 * f.2) = true then x else f
end EM
namespace EM
/-- an invariant at which the stepping words stop -/
structure Hold (P : Prop) : Prop where
  h : P
end EM
/-! EM50: dicts laid; == and != of an instance with what is none. -/
namespace EM
open PySem PySem.Spec PyProof.Rows L2
section
variable {T : List (Addr × Str)} {p l q a tp : Addr} {n m : Nat} {H H1 H2 H' : Hp} {o : HO} {K : PySem.W.Frag} {Q : VK} {x v y : V} {xs : List V}
structure DnS (o : HO) (H : Hp) (Q : VK) : Prop where
  h : ∀ p H', New H p o H' → Q (.ref p) H'
def tDnewN : TE := fun _ H Q => DnS (.dK []) H Q
theorem pe_dnewN {X : Cx} {pos : Pos} : PE X (.Dict [] [] pos) tDnewN := pe_dnewK.of fun σ H Q q => New.upd q.h
theorem DnS.bs (B : Bs T p l n H) (hk : ∀ ps, o ≠ .tbl ps) (k : ∀ q H', Ext p H H' → Bs T p l n H' → At p H' q o → H q = none → Q (.ref q) H') : DnS o H Q := ⟨New.bs B hk k⟩
theorem upd_upd {H : Hp} {p : Addr} {o o' : HO} : upd (upd H p o) p o' = upd H p o' := by
  funext b
  by_cases h : b = p
  · rw [h, upd_same, upd_same]
  · rw [upd_ne h, upd_ne h, upd_ne h]
def tDisp1 (i j : Int) : TE := fun _ H Q => DnS (.dK (mergeK [] [(.inl i, .int j)])) H Q
theorem pe_disp1 {X : Cx} {pos : Pos} {keys : List (Option Expr)} {values : List Expr} {i j : Int} (h : PE X (.Dict keys values pos) (tDisp [(tC (.int i), tC (.int j))])) : PE X (.Dict keys values pos) (tDisp1 i j) := h.of fun σ H Q q p hp => ⟨upd_same, [(.inl i, .int j)], rfl, Nat.le_of_ble_eq_true rfl, by
  show Q (.ref p) (upd (upd H p (.dK [])) p _)
  rw [upd_upd]
  exact New.upd q.h p hp⟩
theorem odd_tup (h : At p H a (.tup xs)) : OddN H p (.ref a) := .inr (.inr (.inr ⟨a, rfl, h.ne, .inl ⟨xs, h.at_⟩⟩))
theorem odd_lst (h : At p H a (.lst xs)) : OddN H p (.ref a) := .inr (.inr (.inr ⟨a, rfl, h.ne, .inr (.inl ⟨xs, h.at_⟩)⟩))
theorem odd_dct {kv : List (Key × V)} (h : At p H a (.dK kv)) : OddN H p (.ref a) := .inr (.inr (.inr ⟨a, rfl, h.ne, .inr (.inr ⟨kv, h.at_⟩)⟩))
theorem odd_non : OddN H p .non := .inl rfl
theorem odd_bl {b : Bool} : OddN H p (.bl b) := .inr (.inl ⟨b, rfl⟩)
theorem odd_str {z : Str} : OddN H p (.str z) := .inr (.inr (.inl ⟨z, rfl⟩))
theorem OddN.dec (h : OddN H p v) : ∃ T, DecT H v T := by
  rcases h with rfl | ⟨b, rfl⟩ | ⟨s, rfl⟩ | ⟨a, rfl, _, ⟨xs, h⟩ | ⟨xs, h⟩ | ⟨kv, h⟩⟩
  · exact ⟨_, .non⟩
  · exact ⟨_, .bl b⟩
  · exact ⟨_, .str s⟩
  · exact ⟨_, .tup h⟩
  · exact ⟨_, .lst h⟩
  · exact ⟨_, .dct h⟩
structure EqO (K : PySem.W.Frag) (x y : V) (H : Hp) (Q : VK) : Prop where
  h : ∃ p a t b, x = .ref a ∧ RatAt K H a t b ∧ OddN H p y ∧ Q (.bl false) H
structure EqB (K : PySem.W.Frag) (y x : V) (H : Hp) (Q : VK) : Prop where
  h : ∃ p a t b, x = .ref a ∧ RatAt K H a t b ∧ OddN H p y ∧ Q (.bl false) H
structure NeO (K : PySem.W.Frag) (x y : V) (H : Hp) (Q : VK) : Prop where
  h : ∃ p a t b, x = .ref a ∧ RatAt K H a t b ∧ OddN H p y ∧ Q (.bl true) H
theorem eqo_bs {t b : Int} (ra : RatP K p H a t b) (od : OddN H p y) (k : Q (.bl false) H) : EqO K (.ref a) y H Q := ⟨p, a, t, b, rfl, ra.rat, od, k⟩
theorem eqb_bs {t b : Int} (ra : RatP K p H a t b) (od : OddN H p y) (k : Q (.bl false) H) : EqB K y (.ref a) H Q := ⟨p, a, t, b, rfl, ra.rat, od, k⟩
theorem neo_bs {t b : Int} (ra : RatP K p H a t b) (od : OddN H p y) (k : Q (.bl true) H) : NeO K (.ref a) y H Q := ⟨p, a, t, b, rfl, ra.rat, od, k⟩
end
section
variable {X : Cx} {n : Nat} {g gr : Addr} {E : XK}
theorem op_eqO (hn : ∀ {H : Hp} {p : Addr} {v : V}, OddN H p v → NoNum X.K H v) (hs : PySem.W.findIn X.K (.ref (He.ga X.K "Ratio")) "__eq__" = some (some (.ref g))) (hf : PySem.W.isFn X.K (.ref g) = true) (A : Apart X.K (He.ga X.K "Ratio")) (F : FnR X.prog X.w X.K X.mg X.base (L2.CX X.prog X.w) n g (Sw (spEqX X.K))) (hr : Room n X.A) : OpR X (compareOp .Eq) (EqO X.K) :=
  opR_of (op_cmpL (E := E0) (op := .Eq) (fun _ _ => rfl) hs hf A F hr passL) fun x y H Q ⟨p, a, t, b, e, ⟨dx, ra⟩, od, q⟩ => ⟨a, dx, _, e, ra, .inr od.dec, ⟨.inr ⟨a, y, rfl, hn od, q⟩⟩⟩
theorem op_eqB (hn : ∀ {H : Hp} {p : Addr} {v : V}, OddN H p v → NoNum X.K H v) (hs : PySem.W.findIn X.K (.ref (He.ga X.K "Ratio")) "__eq__" = some (some (.ref g))) (hf : PySem.W.isFn X.K (.ref g) = true) (A : Apart X.K (He.ga X.K "Ratio")) (F : FnR X.prog X.w X.K X.mg X.base (L2.CX X.prog X.w) n g (Sw (spEqX X.K))) (hr : Room n X.A) : OpR X (compareOp .Eq) (EqB X.K) :=
  opR_of (op_eqR (E := E0) hs hf A F hr passL) fun y x H Q ⟨p, a, t, b, e, ⟨dx, ra⟩, od, q⟩ => ⟨a, dx, _, e, ra, od.dec, trivial, ⟨.inr ⟨a, y, rfl, hn od, q⟩⟩⟩
theorem op_neO' (hn : ∀ {H : Hp} {p : Addr} {v : V}, OddN H p v → NoNum X.K H v) (hne : PySem.W.findIn X.K (.ref (He.ga X.K "Ratio")) "__ne__" = some (some (.builtin "object.__ne__"))) (hm : PySem.W.mroIn X.K (He.ga X.K "Ratio") (.type "object") = some true) (hs : PySem.W.findIn X.K (.ref (He.ga X.K "Ratio")) "__eq__" = some (some (.ref g))) (hf : PySem.W.isFn X.K (.ref g) = true) (A : Apart X.K (He.ga X.K "Ratio")) (F : FnR X.prog X.w X.K X.mg X.base (L2.CX X.prog X.w) n g (Sw (spEqX X.K))) (hr : Room (n + 1) X.A) : OpR X (compareOp .NotEq) (NeO X.K) :=
  opR_of (op_neL (E := E0) hne hm hs hf A F hr passL) fun x y H Q ⟨p, a, t, b, e, ⟨dx, ra⟩, od, q⟩ => ⟨a, dx, _, e, ra, .inr od.dec, ⟨.inr ⟨a, y, rfl, hn od, ⟨false, rfl, q⟩⟩⟩⟩
end
end EM
namespace EM
open PySem L2
theorem reps_of {ys : List V} {v : V} {n : Nat} (h : ys.length = n) (g : ∀ (i : Nat) (y : V), ys[i]? = some y → y = v) : ys = List.replicate n v := by
  refine List.eq_replicate_iff.mpr ⟨h, fun y hy => ?_⟩
  obtain ⟨i, hi⟩ := List.mem_iff_getElem?.mp hy
  exact g i y hi
end EM
/-! EM51: tuple of a list; isinstance of a Ratio; lists of texts. -/
namespace EM
open PySem PySem.Spec PyProof.Rows L2
section
variable {T : List (Addr × Str)} {p l q a tp : Addr} {n m : Nat} {H H1 H2 H' : Hp} {o : HO} {K : PySem.W.Frag} {Q : VK} {x v y : V} {xs : List V}
def rTupN : List V → Hp → VK → Prop := fun vs H Q => ∃ a xs, vs = [.ref a] ∧ H a = some (.lst xs) ∧ DnS (.tup xs) H Q
theorem call_tupN {X : Cx} : CallR X (.type "tuple") (Sr rTupN) := callR_sw (callR_of call_tuple_of fun vs H Q ⟨a, xs, e, h, z⟩ => ⟨a, xs, e, .inl ⟨SqL.of h, New.upd z.h⟩⟩)
theorem tupL (h : At p H a (.lst xs)) (k : DnS (.tup xs) H Q) : Sr rTupN [.ref a] H Q := ⟨a, xs, rfl, h.at_, k⟩
def rIsR (K : PySem.W.Frag) : List V → Hp → VK → Prop := fun vs H Q => ∃ a t b, vs = [.ref a, .ref (He.ga K "Ratio")] ∧ RatAt K H a t b ∧ Q (.bl true) H
theorem isRat_bs {t b : Int} (h : RatP K p H a t b) (q : Q (.bl true) H) : Sr (rIsR K) [.ref a, .ref (He.ga K "Ratio")] H Q := ⟨a, t, b, rfl, h.rat, q⟩
/-- a list of texts -/
theorem dp_strs (zs : List Str) : DpAll K H (zs.map V.str) (zs.map PyData.str) := by
  induction zs with
  | nil => exact DpAll.nil
  | cons z r ih => exact DpAll.cons (Dp.str z) ih
theorem fe_strs {zs : List Str} (h : ∀ z ∈ zs, okS z) : Fe 1 (.list (zs.map PyData.str)) := Fe.list (FeL.all (fun d hd => by
  obtain ⟨z, hz, rfl⟩ := List.mem_map.mp hd
  exact Fe.str (h z hz)))
theorem eq_strs {b : Addr} {zs : List Str} (h : At p H a (.lst (zs.map V.str))) (g : At p H b (.lst (zs.map V.str))) (ok : ∀ z ∈ zs, okS z) (k : Q (.bl true) H) : So (rEqD K) (.ref a) (.ref b) H Q :=
  eqd_same (dp_lst h.at_ (dp_strs zs)) (dp_lst g.at_ (dp_strs zs)) (fe_strs ok) (by decide) k
/-- the pairs of a row -/
structure PairsP (p : Addr) (H : Hp) (xs : List V) (ts : List (Int × Int)) : Prop where
  len : xs.length = ts.length
  h : ∀ (i : Nat) (x : V) (t : Int × Int), xs[i]? = some x → ts[i]? = some t → ∃ q, x = .ref q ∧ At p H q (.tup [.int t.1, .int t.2])
theorem PairsP.ext {ts : List (Int × Int)} (h : PairsP p H xs ts) (y : Ext p H H') : PairsP p H' xs ts := ⟨h.len, fun i x t e1 e2 => by
  obtain ⟨q, e, a⟩ := h.h i x t e1 e2
  exact ⟨q, e, a.ext y⟩⟩
/-- the text of a number's parts, by what stands for it -/
def pText (v : V) (t : Int × Int) : Str := match v with
  | .ref _ => (PyData.tuple [.int t.1, .int t.2]).shown
  | _ => (PyData.int t.1).shown
theorem pText_ok {v : V} {t : Int × Int} (h1 : Bt 1900 t.1) (h2 : Bt 1900 t.2) : okS (pText v t) := by
  have f1 : okS (PyData.tuple [.int t.1, .int t.2]).shown := (Fd.tup (FdL.cons (Fd.int h1) (FdL.cons (Fd.int h2) FdL.nil))).ok
  have f2 : okS (PyData.int t.1).shown := (Fd.int h1).ok
  cases v <;> first | exact f1 | exact f2
def pTexts (xs : List V) (ts : List (Int × Int)) : List Str := List.zipWith pText xs ts
theorem pTexts_at {ts : List (Int × Int)} {i : Nat} {t : Int × Int} (h : xs[i]? = some x) (g : ts[i]? = some t) : (pTexts xs ts)[i]? = some (pText x t) := by
  unfold pTexts
  rw [List.getElem?_zipWith, h, g]
theorem pTexts_len {ts : List (Int × Int)} (h : xs.length = ts.length) : (pTexts xs ts).length = xs.length := by
  unfold pTexts
  rw [List.length_zipWith, ← h, Nat.min_self]
theorem pTexts_ok {ts : List (Int × Int)} (h : ∀ t ∈ ts, Bt 1900 t.1 ∧ Bt 1900 t.2) : ∀ z ∈ pTexts xs ts, okS z := by
  intro z hz
  unfold pTexts at hz
  obtain ⟨i, hi⟩ := List.mem_iff_getElem?.mp hz
  rw [List.getElem?_zipWith] at hi
  split at hi
  · rename_i x t e1 e2
    cases hi
    obtain ⟨b1, b2⟩ := h t (List.mem_of_getElem? e2)
    exact pText_ok b1 b2
  · cases hi
theorem strs_of {ys : List V} {zs : List Str} (h : ys.length = zs.length) (g : ∀ (i : Nat) (y : V), ys[i]? = some y → ∃ z, zs[i]? = some z ∧ y = .str z) : ys = zs.map V.str := by
  apply List.ext_getElem?
  intro i
  rw [List.getElem?_map]
  rcases Nat.lt_or_ge i ys.length with hi | hi
  · obtain ⟨z, e1, e2⟩ := g i ys[i] (List.getElem?_eq_getElem hi)
    rw [List.getElem?_eq_getElem hi, e1, e2]
    rfl
  · rw [List.getElem?_eq_none hi, List.getElem?_eq_none (by omega)]
    rfl
end
end EM
/-! EM52: marks that are not the pen; what makes no mark. -/
namespace EM
open PySem PySem.Spec PyProof.Rows L2
structure MarkP (K : PySem.W.Frag) (p : Addr) (H : Hp) (a : Addr) (ws : List Int) : Prop where
  good : good ws
  h : ∃ dx wp ep sp, At p H a (.ins (He.ga K "Mark") dx (mf wp ep sp ((ws.length : Int) / 2 + 1) ws.sum (ws.take (ws.length - 1)).sum)) ∧ At p H wp (.tup (ws.map V.int)) ∧ At p H ep (.tup ((scan 0 ws).map V.int)) ∧ At p H sp (.tup ((sumsOf ws).map V.int))
section
variable {T : List (Addr × Str)} {p l q a tp : Addr} {n m : Nat} {H H1 H2 H' : Hp} {o : HO} {K : PySem.W.Frag} {Q : VK} {x v y : V} {xs : List V} {ws : List Int}
theorem MarkP.ext (h : MarkP K p H a ws) (x : Ext p H H') : MarkP K p H' a ws := by
  obtain ⟨g, dx, wp, ep, sp, h1, h2, h3, h4⟩ := h
  exact ⟨g, dx, wp, ep, sp, h1.ext x, h2.ext x, h3.ext x, h4.ext x⟩
theorem MarkP.of (B : Bs T p l n H) (h : MarkAt K H a ws) : MarkP K p H a ws := by
  obtain ⟨g, dx, wp, ep, sp, h1, h2, h3, h4⟩ := h
  exact ⟨g, dx, wp, ep, sp, B.at_ h1 (fun _ z => by cases z) (fun _ z => by cases z), B.at_ h2 (fun _ z => by cases z) (fun _ z => by cases z), B.at_ h3 (fun _ z => by cases z) (fun _ z => by cases z), B.at_ h4 (fun _ z => by cases z) (fun _ z => by cases z)⟩
theorem MarkP.at_ (h : MarkP K p H a ws) : MarkAt K H a ws := by
  obtain ⟨g, dx, wp, ep, sp, h1, h2, h3, h4⟩ := h
  exact ⟨g, dx, wp, ep, sp, h1.at_, h2.at_, h3.at_, h4.at_⟩
/-- no integer -/
def OddM (K : PySem.W.Frag) (p : Addr) (H : Hp) (y : V) : Prop := OddN H p y ∨ ∃ a t b, y = .ref a ∧ RatP K p H a t b
theorem OddM.ext (h : OddM K p H y) (x : Ext p H H') : OddM K p H' y := by
  rcases h with h | ⟨a, t, b, e, h⟩
  · exact .inl (h.ext x.k)
  · exact .inr ⟨a, t, b, e, h.ext x⟩
def okW (y : V) : Prop := ∃ w : Int, y = .int w ∧ 1 ≤ w ∧ w ≤ 1000
def noW (K : PySem.W.Frag) (p : Addr) (H : Hp) (y : V) : Prop := (∃ w : Int, y = .int w ∧ ¬ (1 ≤ w ∧ w ≤ 1000)) ∨ OddM K p H y
theorem noW.ext (h : noW K p H y) (x : Ext p H H') : noW K p H' y := by
  rcases h with h | h
  · exact .inl h
  · exact .inr (h.ext x)
/-- these widths make no mark: what BadMark tells -/
def BadW (K : PySem.W.Frag) (p : Addr) (H : Hp) (xs : List V) (at_ : V) : Prop :=
  (at_ = .non ∧ (xs.length % 2 = 0 ∨ xs.length < 3 ∨ 127 < xs.length)) ∨
  ∃ i : Nat, at_ = .int i ∧ xs.length % 2 = 1 ∧ 3 ≤ xs.length ∧ xs.length ≤ 127 ∧ (∀ j : Nat, j < i → ∃ y, xs[j]? = some y ∧ okW y) ∧ ∃ y, xs[i]? = some y ∧ noW K p H y
theorem BadW.ext {at_ : V} (h : BadW K p H xs at_) (x : Ext p H H') : BadW K p H' xs at_ := by
  rcases h with h | ⟨i, e, h1, h2, h3, h4, y, e2, h5⟩
  · exact .inl h
  · exact .inr ⟨i, e, h1, h2, h3, h4, y, e2, h5.ext x⟩
def xdA (v : V) : HO := .xd [("at", v)]
def spBtw (K : PySem.W.Frag) : Sp := fun vs H Q _ => ∃ (x : V) (lo hi : Int), vs = [x, .int lo, .int hi] ∧ ((∃ i, x = .int i ∧ Q (.bl (decide (lo ≤ i) && decide (i ≤ hi))) H) ∨ (oddI K H x ∧ Q (.bl false) H))
def spInitX (K : PySem.W.Frag) : Sp := fun vs H Q E => ∃ (T : List (Addr × Str)) (p l : Addr) (n : Nat) (x dx W : Addr) (xs : List V), vs = [.ref x, .ref W] ∧ Bs T p l n H ∧ H x = some (.ins (He.ga K "Mark") dx []) ∧ At p H W (.tup xs) ∧
  ((∃ ws, xs = ws.map V.int ∧ good ws ∧ ∀ H', (∀ b o, H b = some o → b ≠ x → H' b = some o) → MarkAt K H' x ws → Q .non H') ∨
   ∃ at_, BadW K p H xs at_ ∧ ∀ d H', Ext p H H' → Bs T p l n H' → At p H' d (xdA at_) → E (.ref (He.ga K "BadMark")) (some d) H')
abbrev spMIX (K : PySem.W.Frag) : Sp := fun vs H Q E => ∃ ws rest, vs = ws ++ rest ∧ ws.length = ["self"].length ∧ rest.length ≤ sizeLine ∧ ∀ W, H W = none → spInitX K (ws ++ [V.ref W]) (upd H W (.tup rest)) Q E
/-- Mark(..) -/
def spMarkX (K : PySem.W.Frag) : Sp := fun vs H Q E => ∃ (T : List (Addr × Str)) (p l : Addr) (n : Nat), Bs T p l n H ∧ vs.length ≤ 1000 ∧
  ((∃ ws, vs = ws.map V.int ∧ good ws ∧ ∀ a H', Ext p H H' → Bs T p l n H' → MarkP K p H' a ws → Q (.ref a) H') ∨
   ∃ at_, BadW K p H vs at_ ∧ ∀ d H', Ext p H H' → Bs T p l n H' → At p H' d (xdA at_) → E (.ref (He.ga K "BadMark")) (some d) H')
theorem mk_MarkX {vs : List V} {E : XK} (h : spMarkX K vs H Q E) : ∀ x dx, H x = none → H dx = none → dx ≠ x → spMIX K (V.ref x :: vs) (upd (upd H dx (.own x)) x (.ins (He.ga K "Mark") dx [])) (fun v H2 => v = .non ∧ Q (.ref x) H2) E := by
  intro x dx nx nd ne
  obtain ⟨T, p, l, n, B, hl, h⟩ := h
  refine ⟨[.ref x], vs, rfl, rfl, sz (by omega), fun W hW => ?_⟩
  have s1 : Same H (upd H dx (.own x)) := same_upd nd
  have nx1 : upd H dx (.own x) x = none := by rw [upd_ne ne.symm]; exact nx
  have s2 : Same (upd H dx (.own x)) (upd (upd H dx (.own x)) x (.ins (He.ga K "Mark") dx [])) := same_upd nx1
  have s3 := same_upd (o := HO.tup vs) hW
  have s : Same H (upd (upd (upd H dx (.own x)) x (.ins (He.ga K "Mark") dx [])) W (.tup vs)) := (s1.trans s2).trans s3
  have B3 := B.same s
  have x3 : Ext p H _ := Ext.same s
  have nxW : x ≠ W := by
    intro z
    subst z
    rw [upd_same] at hW
    cases hW
  refine ⟨T, p, l, n, x, dx, W, vs, rfl, B3, by rw [upd_ne nxW, upd_same], B3.at_ upd_same (fun _ z => by cases z) (fun _ z => by cases z), ?_⟩
  rcases h with ⟨ws, e, g, k⟩ | ⟨at_, hb, k⟩
  · refine .inl ⟨ws, e, g, fun H' kk m => ⟨rfl, ?_⟩⟩
    have s4 : Same H H' := fun b o eb => kk b o (s b o eb) (ne_of_none eb nx)
    exact k x H' (Ext.same s4) (B.same s4) (MarkP.of (B.same s4) m)
  · exact .inr ⟨at_, hb.ext x3, fun d H' x4 B4 a4 => k d H' (x3.trans x4) B4 a4⟩
end
end EM
/-! EM53: classmethods by keyword; properties; what a row of widths comes to. -/
namespace PySem.W
open PySem PySem.Calls PyProof.Rows
theorem em_callWith_MW {h₀ : Heap} {K : Frag} {M : Model} {A : Around} {E : Value → Shared → Prop} {s : Shared} {env : Env} {pos : Pos} {q g : Addr} {self : Value} {first : List Value} {Q : Value → Shared → Prop} {kws : List Keyword} (hf : fnIn K g = true) (hall : (backToKw pos (keywordEach kws env)).all (·.1.isSome) = true)
    (h : wpAny M A (evalAll ((backToKw pos (keywordEach kws env)).map (·.2))) (fun ks s₂ => MethP K q g self s₂.heap ∧ wpAny M A (call (.ref q) (first ++ []) (((backToKw pos (keywordEach kws env)).filterMap (·.1)).zip ks)) Q E s₂) E s)
    (hplain : ((backTo pos (starEach [] env)).any (·.1) || (backToKw pos (keywordEach kws env)).any (·.1.isNone)) = false) :
    wpAny M A (callWith pos (.ref q) first (backTo pos (starEach [] env)) (backToKw pos (keywordEach kws env))) Q E s :=
  callWith_of hplain (keeps_M hf) (evalArgs_kw2_nil hall h)
end PySem.W
namespace EM
open PySem PySem.Spec PyProof.Rows L2
/-! ### properties -/
theorem propB_ok {K : PySem.W.Frag} {C : Addr} {f : Str} (h : propB K C f = true) : PropOf K C f (He.ma K C f) (EM.pf K C f) := by
  unfold propB at h
  obtain ⟨h, h4⟩ := Bool.and_eq_true_iff.mp h
  obtain ⟨h, h3⟩ := Bool.and_eq_true_iff.mp h
  obtain ⟨h1, h2⟩ := Bool.and_eq_true_iff.mp h
  refine ⟨of_decide_eq_true h1, of_decide_eq_true h2, of_decide_eq_true h3, ?_⟩
  unfold EM.pf
  split at h4
  · rename_i g r e
    exact ⟨r, by rw [e]⟩
  · cases h4
/-! ### C.m(k = v), m a classmethod -/
section
variable {X : Cx} {CX : CXT} {k : Nat} {C p g : Addr} {mc : Value} {m : Str} {ks : List Str} {sp : Sp2} {E : XK} {o : Expr} {kws : List Keyword} {ta : TE} {tk : TA} {apos pos : Pos} {pl : Sem Bool}
def tCMethK (C : Addr) (sp : Sp2) (E : XK) (ta : TE) (tk : TA) : TE := fun σ H Q => ta σ H fun x H1 => x = .ref C ∧ tk σ H1 fun zs H2 => sp [.ref C] zs H2 Q E
theorem pe_cmK (he : PE X o ta) (r : ClX.CRead X.K C mc) (c : ClX.CMet X.K C mc m p g) (F : FnK X.prog X.w X.K X.mg X.base CX k g ks sp) (hr : Room k X.A) (hx : Passes CX X E) (hkw : PK X kws tk)
    (hall : (backToKw pos (keywordEach kws X.env)).all (·.1.isSome) = true := by rfl) (hks : (backToKw pos (keywordEach kws X.env)).filterMap (·.1) = ks := by rfl)
    (hpl : ((backTo pos (starEach [] X.env)).any (·.1) || (backToKw pos (keywordEach kws X.env)).any (·.1.isNone)) = false := by rfl)
    (ht : eval (.Call (.Attribute o m apos) [] kws pos) X.env = (do
      let ov ← eval o X.env
      standAt apos.atName
      let (f, first) ← holding [ov] (getMethod ov m pl)
      callWith pos f first (backTo pos (starEach [] X.env)) (backToKw pos (keywordEach kws X.env))) := by rfl) :
    PE X (.Call (.Attribute o m apos) [] kws pos) (tCMethK C sp E ta tk) := by
  refine ⟨fun pins s σ H Q I h => ?_⟩
  refine PySem.W.methodCall_KW (pl := pl) (thn (he.run pins s σ H _ I h) fun u s1 ⟨x, H1, I1, rx, ex, q⟩ => ?_) ht
  subst ex
  obtain rfl : u = Value.ref C := rx
  refine ClX.getmethcm_ok I1 r c fun s2 I2 => ?_
  refine PySem.W.em_callWith_MW (h₀ := X.base) (K := X.K) (self := .ref C) (first := []) c.fi hall ?_ hpl
  refine thn (hkw.run pos _ s2 σ H1 _ I2 q) fun ws s3 ⟨zs, H2, I3, rz, q2⟩ => ⟨⟨ClX.pin_at I3, I3.kIn⟩, ?_⟩
  rw [hks]
  have z : wpAny (model X.prog X.w) X.A (call (.ref s1.heap.objs.size) [] (ks.zip ws)) (EP X ((s1.heap.objs.size, PySem.W.methodObj (.ref g) (.ref C)) :: pins) σ Q) X.xe s3 :=
    wpAny_call (PySem.W.method_call (ClX.pin_at I3) (codeAny_mono (F X.A X.stack s3 H2 [.ref C] ws [.ref C] zs Q E hr I3.env0 (.cons rfl .nil) rz q2) fun r s' hq => by
      cases r with
      | error e => exact hx _ σ H2 s3 e s' I3 hq
      | ok fl =>
        cases fl with
        | ret u => exact I3.after hq
        | next => exact False.elim hq
        | brk => exact False.elim hq
        | cont => exact False.elim hq))
  exact thn z fun _ _ y => ClX.unpinE y
end
section
variable {T : List (Addr × Str)} {p l q a tp : Addr} {n m : Nat} {H H1 H2 H' : Hp} {o : HO} {K : PySem.W.Frag} {Q : VK} {E : XK} {x v y : V} {xs : List V} {ws : List Int}
/-- what Mark of these widths comes to -/
def MarkOut (K : PySem.W.Frag) (T : List (Addr × Str)) (p l : Addr) (n : Nat) (H : Hp) (xs : List V) (Q : VK) (E : XK) : Prop :=
  (∃ ws, xs = ws.map V.int ∧ good ws ∧ ∀ a H', Ext p H H' → Bs T p l n H' → MarkP K p H' a ws → Q (.ref a) H') ∨
  ∃ at_, BadW K p H xs at_ ∧ ∀ d H', Ext p H H' → Bs T p l n H' → At p H' d (xdA at_) → E (.ref (He.ga K "BadMark")) (some d) H'
theorem MarkOut.ext (h : MarkOut K T p l n H xs Q E) (x : Ext p H H1) : MarkOut K T p l n H1 xs Q E := by
  rcases h with ⟨ws, e, g, k⟩ | ⟨at_, b, k⟩
  · exact .inl ⟨ws, e, g, fun a H' x1 B1 m => k a H' (x.trans x1) B1 m⟩
  · exact .inr ⟨at_, b.ext x, fun d H' x1 B1 m => k d H' (x.trans x1) B1 m⟩
theorem MarkOut.sp (B : Bs T p l n H) (hl : xs.length ≤ 1000) (h : MarkOut K T p l n H xs Q E) : Sw (spMarkX K) xs H Q E := ⟨⟨T, p, l, n, B, hl, h⟩⟩
/-- Mark( *e) -/
def tStarM (K : PySem.W.Frag) (E : XK) (te : TE) : TE := fun σ H Q => te σ H fun v H1 => ∃ a xs, v = V.ref a ∧ (SqT K H1 a xs ∨ SqL K H1 a xs) ∧ Sw (spMarkX K) xs H1 Q E
end
end EM
/-! EM54: what a mark tells of itself, as data; lists of ints. -/
namespace EM
open PySem PySem.Spec PyProof.Rows L2
theorem ints_of {P : Int → Prop} : ∀ {ys : List V}, (∀ y ∈ ys, ∃ w : Int, y = V.int w ∧ P w) → ∃ ws : List Int, ys = ws.map V.int ∧ ∀ x ∈ ws, P x
  | [], _ => ⟨[], rfl, fun x h => by cases h⟩
  | y :: r, h => by
    obtain ⟨w, rfl, hw⟩ := h y List.mem_cons_self
    obtain ⟨ws, e, g⟩ := ints_of fun z hz => h z (List.mem_cons_of_mem _ hz)
    exact ⟨w :: ws, by rw [e]; rfl, fun x hx => by
      rcases List.mem_cons.mp hx with rfl | hx
      · exact hw
      · exact g x hx⟩
theorem sum_bd : ∀ {l : List Int}, (∀ x ∈ l, 1 ≤ x ∧ x ≤ 1000) → 0 ≤ l.sum ∧ l.sum ≤ 1000 * (l.length : Int)
  | [], _ => ⟨by simp, by simp⟩
  | x :: r, h => by
    have h1 := h x List.mem_cons_self
    have h2 := sum_bd (l := r) fun y hy => h y (List.mem_cons_of_mem _ hy)
    simp only [List.sum_cons, List.length_cons]
    omega
def seenD (ws : List Int) : PyData := .list [.tuple (ws.map .int), .tuple ((scan 0 ws).map .int), .tuple ((sumsOf ws).map .int), .int ((ws.length : Int) / 2 + 1), .int ws.sum, .int (ws.take (ws.length - 1)).sum]
theorem scan_bd {ws : List Int} (g : good ws) : ∀ x ∈ scan 0 ws, 0 ≤ x ∧ x ≤ 127000 := by
  intro x hx
  obtain ⟨i, hi⟩ := List.mem_iff_getElem?.mp hx
  have hl : i ≤ ws.length := by
    have := (List.getElem?_eq_some_iff.mp hi).1
    rw [scan_len] at this
    omega
  rw [scan_at ws i hl 0] at hi
  cases hi
  have b := sum_bd (l := ws.take i) fun y hy => g.2.2.2 y (List.mem_of_mem_take hy)
  have : ((ws.take i).length : Int) ≤ 127 := by
    have := g.2.2.1
    rw [List.length_take]
    omega
  omega
theorem take_bd {ws : List Int} (g : good ws) (i : Nat) : 0 ≤ (ws.take i).sum ∧ (ws.take i).sum ≤ 127000 := by
  have b := sum_bd (l := ws.take i) fun y hy => g.2.2.2 y (List.mem_of_mem_take hy)
  have : ((ws.take i).length : Int) ≤ 127 := by
    have := g.2.2.1
    rw [List.length_take]
    omega
  omega
theorem sums_bd {ws : List Int} (g : good ws) : ∀ x ∈ sumsOf ws, 0 ≤ x ∧ x ≤ 2000 := by
  intro x hx
  obtain ⟨i, hi⟩ := List.mem_iff_getElem?.mp hx
  unfold sumsOf at hi
  rw [List.getElem?_zipWith] at hi
  split at hi
  · rename_i a b e1 e2
    cases hi
    have h1 := g.2.2.2 a (List.mem_of_getElem? e1)
    have h2 := g.2.2.2 b (List.mem_of_mem_drop (List.mem_of_getElem? e2))
    omega
  · cases hi
theorem seen_fd {ws : List Int} (g : good ws) : Fd 2000000 2 (seenD ws) := by
  have hl := g.2.2.1
  have b32 : ∀ {i : Int}, 0 ≤ i → i ≤ 4000000 → Bt 1900 i := fun h h' => (Bt.rng32 (by omega) (by omega)).mono (by decide)
  have f1 := Fd.tup (FdL.ints (ns := ws) (k := 127) (fun x hx => by have := g.2.2.2 x hx; exact b32 (by omega) (by omega)) hl)
  have f2 := Fd.tup (FdL.ints (ns := scan 0 ws) (k := 128) (fun x hx => by have := scan_bd g x hx; exact b32 (by omega) (by omega)) (by rw [scan_len]; omega))
  have f3 := Fd.tup (FdL.ints (ns := sumsOf ws) (k := 127) (fun x hx => by have := sums_bd g x hx; exact b32 (by omega) (by omega)) (by rw [sums_len]; omega))
  have f4 := Fd.int (i := (ws.length : Int) / 2 + 1) (b32 (by omega) (by omega))
  have bs := take_bd g ws.length
  rw [List.take_of_length_le (Nat.le_refl _)] at bs
  have f5 := Fd.int (i := ws.sum) (b32 (by omega) (by omega))
  have bt := take_bd g (ws.length - 1)
  have f6 := Fd.int (i := (ws.take (ws.length - 1)).sum) (b32 (by omega) (by omega))
  exact (Fd.list (FdL.cons f1 (FdL.cons f2 (FdL.cons f3 (FdL.cons f4 (FdL.cons f5 (FdL.cons f6 FdL.nil))))))).mono (by decide) (by decide)
section
variable {T : List (Addr × Str)} {p l q a tp : Addr} {n m : Nat} {H H1 H2 H' : Hp} {o : HO} {K : PySem.W.Frag} {Q : VK} {E : XK} {x v y : V} {xs : List V} {ws : List Int}
theorem dp_tupI {ns : List Int} (h : At p H a (.tup (ns.map V.int))) : Dp K H (.ref a) (.tuple (ns.map .int)) := dp_tup h.at_ (dp_ints ns)
/-- a store by place -/
def rSetN : V → V → V → Hp → (Hp → Prop) → Prop := fun o i v H Q => ∃ p xs k j, o = V.ref p ∧ i = V.int k ∧ H p = some (.lst xs) ∧ ixN xs.length k = some j ∧ ∀ H3, Mu p H H3 (.lst (xs.set j v)) → Q H3
theorem set_listN {X : Cx} : PSet X rSetN := by
  intro pins s σ H o i v ov iv u Q I ro ri rv h
  obtain ⟨p, xs, k, j, e1, e2, h1, h2, q⟩ := h
  exact set_list pins s σ H o i v ov iv u Q I ro ri rv ⟨p, xs, k, j, e1, e2, h1, h2, q _ Mu.upd⟩
end
end EM
/-! EM55: an instance made with no argument. -/
namespace EM
open PySem PySem.Spec PyProof.Rows L2
section
variable {X : Cx} {CX : CXT} {k : Nat} {f C : Addr} {sp : Sp} {E : XK} {x : Str} {p pos : Pos}
theorem pe_mkR0 (M : Mk X.K C f) (F : FnR X.prog X.w X.K X.mg X.base CX k f sp) (hr : Room (k + 1) X.A) (hm : X.mg x = some (.ref C)) (hx : Passes CX X E) (hg : Gl X x := by rfl) (hd : (x == ("__debug__" : Str)) = false := by decide) :
    PE X (.Call (.Name x p) [] [] pos) (StX.tMakeR C sp E tNil) := by
  refine ⟨fun pins s σ H Q I h => ?_⟩
  refine wpAny_Call_Name_kw (ld_glob I hg hm ?_ hd)
  exact PySem.W.callWith_K0 I.kIn M.kp (StX.run_makeR M F hr hx I .nil h)
end
end EM
/-! EM56: slices of lists, a dict of three, what stands in a menu. -/
namespace EM
open PySem PySem.Spec PyProof.Rows L2
def rSlN : V → Option Int → Option Int → Hp → VK → Prop := fun x lo hi H Q => ∃ a xs, x = .ref a ∧ H a = some (.lst xs) ∧ ∀ q H', New H q (.lst (cutV xs lo hi)) H' → Q (.ref q) H'
theorem sl_listN {X : Cx} : SlR X rSlN := by
  intro pins s σ H x v vl vu lo hi sl Q I rx hs pl pu q
  obtain ⟨a, xs, e, h, k⟩ := q
  exact sl_list pins s σ H x v vl vu lo hi sl Q I rx hs pl pu ⟨a, xs, e, SqL.of h, New.upd k⟩
def tDisp3 (a b c d e f : Int) : TE := fun _ H Q => DnS (.dK (mergeK [] [(.inl a, .int b), (.inl c, .int d), (.inl e, .int f)])) H Q
theorem pe_disp3 {X : Cx} {pos : Pos} {keys : List (Option Expr)} {values : List Expr} {a b c d e f : Int} (h : PE X (.Dict keys values pos) (tDisp [(tC (.int a), tC (.int b)), (tC (.int c), tC (.int d)), (tC (.int e), tC (.int f))])) : PE X (.Dict keys values pos) (tDisp3 a b c d e f) := h.of fun σ H Q q p hp => ⟨upd_same, [(.inl a, .int b), (.inl c, .int d), (.inl e, .int f)], rfl, Nat.le_of_ble_eq_true rfl, by
  show Q (.ref p) (upd (upd H p (.dK [])) p _)
  rw [L2.upd_upd]
  exact New.upd q.h p hp⟩
def spMkN1 (K : PySem.W.Frag) : Sp := fun vs H Q _ => ∃ t, vs = [.int t] ∧ RatRes K H Q t 1
theorem mk1_bs {T : List (Addr × Str)} {p l : Addr} {n : Nat} {H : Hp} {K : PySem.W.Frag} {Q : VK} {E : XK} {t : Int} (B : Bs T p l n H) (k : ∀ a H', Ext p H H' → Bs T p l n H' → RatP K p H' a (nTop t 1) (nBot t 1) → Q (.ref a) H') : Sw (spMkN1 K) [.int t] H Q E := ⟨⟨t, rfl, RatRes.bs B k⟩⟩
end EM
/-! EM57: an instance's operator with anything on the right; anything times an instance; == and != of two own classes. -/
namespace PySem.W
open PySem PySem.Calls PyProof.Rows Builtin
section
variable {prog : Program} {w : World} {A : Around} {K : Frag} {s : Shared} {x b f r g C D L : Addr} {h₀ : Heap} {m : Str → Option Value} {ox oy : Obj} {od od' : Option Obj} {E : Value → Shared → Prop}
theorem em_bin {op : Operator} {a b : Value} {Q : Value → Shared → Prop} (h : wpAny (model prog w) A (binaryOp1 op.info.2 a b) (fun r s2 => ∃ v, r = some v ∧ Q v s2) E s) : wpAny (model prog w) A (binaryOp op a b) Q E s := by
  rcases hi : op.info with ⟨sym, nm⟩
  rw [hi] at h
  simp only [binaryOp, hi]
  refine wpAny_holding (wpAny_bind (wpAny_mono h (fun z s2 hz => ?_) fun _ _ y => y))
  obtain ⟨v, rfl, hq⟩ := hz
  exact wpAny_pure hq
/-- both of one class -/
theorem em_bin1S {nm : String} {b : Value} {Q : Value → Shared → Prop} (X : K.In s.heap) (I : InstAt s.heap x ox C od) (hb : Looks (model prog w) s.heap (typeOf b) (.ref C)) (hc : selfFirst K C = true)
    (hs : findIn K (.ref C) (PySem.dunder nm) = some (some (.ref f))) (hf : isFn K (.ref f) = true)
    (h : wpAny (model prog w) A (call (.ref f) [.ref x, b]) (CmpBack Q) E s) : wpAny (model prog w) A (binaryOp1 nm (.ref x) b) (fun r s2 => ∃ v, r = some v ∧ Q v s2) E s := by
  obtain ⟨cd, rest, hcd, hm⟩ := ksp_first hc
  have one := ksp_try X I hs hf h
  have t1 : Looks (model prog w) s.heap (typeOf (.ref x)) (.ref C) := I.type
  have t3 : Looks (model prog w) s.heap (fillsNumberSlot (.ref C) nm) true := fills_K X hcd hm hs
  unfold binaryOp1
  refine wpAny_bind (t1.here (wpAny_bind (hb.here (wpAny_bind (t3.here ?_)))))
  simp only [beq_self_eq_true, if_true]
  refine wpAny_bind (wpAny_pure ?_)
  simp only [Bool.and_false, Bool.false_eq_true, if_false, Bool.false_and]
  refine wpAny_bind (wpAny_pure ?_)
  simp only [Bool.false_eq_true, if_false, if_true]
  refine wpAny_bind (wpAny_mono one (fun z s2 hz => ?_) fun _ _ y => y)
  obtain ⟨v, rfl, hq⟩ := hz
  exact wpAny_pure ⟨v, rfl, hq⟩
/-- on the right one of another class that fills the slot too -/
theorem em_bin1C {nm : String} {g' r' : Addr} {Q : Value → Shared → Prop} (X : K.In s.heap) (I : InstAt s.heap x ox C od) (I' : InstAt s.heap b oy D od') (hc : selfFirst K C = true)
    (hs : findIn K (.ref C) (PySem.dunder nm) = some (some (.ref f))) (hf : isFn K (.ref f) = true) (hr : findIn K (.ref C) (dunderR nm) = some (some (.ref r)))
    (hc' : selfFirst K D = true) (hs' : findIn K (.ref D) (PySem.dunder nm) = some (some (.ref g'))) (hr' : findIn K (.ref D) (dunderR nm) = some (some (.ref r'))) (hne : D ≠ C) (hsub : subIn K (.ref D) (.ref C) = some false)
    (h : wpAny (model prog w) A (call (.ref f) [.ref x, .ref b]) (CmpBack Q) E s) : wpAny (model prog w) A (binaryOp1 nm (.ref x) (.ref b)) (fun r s2 => ∃ v, r = some v ∧ Q v s2) E s := by
  obtain ⟨cd, rest, hcd, hm⟩ := ksp_first hc
  obtain ⟨cd', rest', hcd', hm'⟩ := ksp_first hc'
  have one := ksp_try X I hs hf h
  have t1 : Looks (model prog w) s.heap (typeOf (.ref x)) (.ref C) := I.type
  have t2 : Looks (model prog w) s.heap (typeOf (.ref b)) (.ref D) := I'.type
  have t3 : Looks (model prog w) s.heap (fillsNumberSlot (.ref C) nm) true := fills_K X hcd hm hs
  have t4 : Looks (model prog w) s.heap (fillsNumberSlot (.ref D) nm) true := fills_K X hcd' hm' hs'
  have t5 : Looks (model prog w) s.heap (isSubtype (.ref D) (.ref C)) false := looks_subIn X hsub
  have t6 : Looks (model prog w) s.heap (numberSlotInPython (.ref C) nm) true := ksp_inPy X hs hr (.inr ⟨_, rfl⟩)
  have t7 : Looks (model prog w) s.heap (numberSlotInPython (.ref D) nm) true := ksp_inPy X hs' hr' (.inr ⟨_, rfl⟩)
  have hne' : (Value.ref C == Value.ref D) = false := Bool.eq_false_iff.mpr fun q => hne (by cases beq_iff_eq.mp q; rfl)
  unfold binaryOp1
  refine wpAny_bind (t1.here (wpAny_bind (t2.here (wpAny_bind (t3.here ?_)))))
  simp only [hne', Bool.false_eq_true, if_false]
  refine wpAny_bind (t4.here ?_)
  simp only [Bool.and_self, Bool.false_eq_true, if_false, if_true, Bool.true_and, Bool.not_false]
  refine wpAny_bind (t5.here ?_)
  simp only [Bool.false_eq_true, if_false, if_true, Bool.not_false]
  refine wpAny_bind (t6.here ?_)
  simp only [Bool.false_eq_true, if_false, if_true, Bool.not_false]
  refine wpAny_bind (t7.here ?_)
  simp only [Bool.false_eq_true, if_false, if_true, Bool.not_true]
  refine wpAny_bind (m := tryMethod _ _ _) (wpAny_mono one (fun z s2 hz => ?_) fun _ _ y => y)
  obtain ⟨v, rfl, hq⟩ := hz
  exact wpAny_pure ⟨v, rfl, hq⟩
/-- on the left a value of Python's own kinds -/
theorem em_rbin1 {nm : String} {a : Value} {T : String} {fo ro : Option Value} {Q : Value → Shared → Prop} (X : K.In s.heap) (I : InstAt s.heap x ox C od) (ha : Looks (model prog w) s.heap (typeOf a) (.type T)) (hc : selfFirst K C = true)
    (hs : findIn K (.ref C) (PySem.dunder nm) = some (some (.ref f))) (hr : findIn K (.ref C) (dunderR nm) = some (some (.ref g))) (hg : isFn K (.ref g) = true)
    (h1 : findIn K (.type T) (PySem.dunder nm) = some fo) (h2 : findIn K (.type T) (dunderR nm) = some ro) (hsub : subIn K (.ref C) (.type T) = some false)
    (hd : ((fo.isSome && !isSeqSlot fo) || (ro.isSome && !isSeqSlot ro)) = true → ∀ (E : Value → Shared → Prop) (Q' : Option Value → Shared → Prop), Q' none s → wpAny (model prog w) A (tryMethod a (PySem.dunder nm) (.ref x)) Q' E s)
    (h : wpAny (model prog w) A (call (.ref g) [.ref x, a]) (CmpBack Q) E s) : wpAny (model prog w) A (binaryOp1 nm a (.ref x)) (fun r s2 => ∃ v, r = some v ∧ Q v s2) E s := by
  obtain ⟨cd, rest, hcd, hm⟩ := ksp_first hc
  have one := ksp_try X I hr hg h
  have t2 : Looks (model prog w) s.heap (typeOf (.ref x)) (.ref C) := I.type
  have t3 : Looks (model prog w) s.heap (fillsNumberSlot (.type T) nm) ((fo.isSome && !isSeqSlot fo) || (ro.isSome && !isSeqSlot ro)) := ksp_fillsT X h1 h2
  have t4 : Looks (model prog w) s.heap (fillsNumberSlot (.ref C) nm) true := fills_K X hcd hm hs
  have t5 : Looks (model prog w) s.heap (isSubtype (.ref C) (.type T)) false := looks_subIn X hsub
  have t6 : Looks (model prog w) s.heap (numberSlotInPython (.type T) nm) false := Looks.of_pure rfl
  have hne : (Value.type T == Value.ref C) = false := Bool.eq_false_iff.mpr fun q => by cases beq_iff_eq.mp q
  have fin : ∀ (k : Option Value → Sem (Option Value)), (∀ v, k (some v) = pure (some v)) → wpAny (model prog w) A (tryMethod (.ref x) (dunderR nm) a >>= k) (fun r s2 => ∃ v, r = some v ∧ Q v s2) E s := fun k hk => by
    refine wpAny_bind (wpAny_mono one (fun z s2 hz => ?_) fun _ _ y => y)
    obtain ⟨v, rfl, hq⟩ := hz
    rw [hk]
    exact wpAny_pure ⟨v, rfl, hq⟩
  unfold binaryOp1
  refine wpAny_bind (ha.here (wpAny_bind (t2.here (wpAny_bind (t3.here ?_)))))
  simp only [hne, Bool.false_eq_true, if_false]
  refine wpAny_bind (t4.here ?_)
  cases hfl : ((fo.isSome && !isSeqSlot fo) || (ro.isSome && !isSeqSlot ro)) with
  | false =>
    simp only [Bool.false_eq_true, if_false, Bool.false_and, Bool.not_false, Bool.and_self, if_true]
    refine wpAny_bind (wpAny_pure ?_)
    simp only [Bool.false_eq_true, if_false, if_true, Bool.not_false, Bool.and_self]
    refine wpAny_bind (m := tryMethod _ _ _) (wpAny_mono one (fun z s2 hz => ?_) fun _ _ y => y)
    obtain ⟨v, rfl, hq⟩ := hz
    exact wpAny_bind (wpAny_rule (wpAny_pure ⟨v, rfl, hq⟩))
  | true =>
    simp only [Bool.and_self, Bool.false_eq_true, if_false, if_true, Bool.true_and, Bool.not_false]
    refine wpAny_bind (t5.here ?_)
    simp only [Bool.false_eq_true, if_false, if_true, Bool.not_false]
    refine wpAny_bind (t6.here ?_)
    simp only [Bool.false_eq_true, if_false, if_true, Bool.not_false]
    refine wpAny_bind (hd hfl _ _ ?_)
    simp only [Bool.false_eq_true, if_false, if_true, Bool.not_false, Bool.and_self]
    refine wpAny_bind (m := tryMethod _ _ _) (wpAny_mono one (fun z s2 hz => ?_) fun _ _ y => y)
    obtain ⟨v, rfl, hq⟩ := hz
    exact wpAny_bind (wpAny_rule (wpAny_pure ⟨v, rfl, hq⟩))
open Builtin.Int in
theorem em_nobinB {name : String} {fB : Int → Int → Sem Fin} {i : Bool} {Q : Fin → Shared → Prop} (I : InstAt s.heap x ox C od) (hd : ox.data = .plain) (h : wpAny (model prog w) A (ret .notImplemented) Q E s) :
    wpAny (model prog w) A (intBinary name fB false ⟨[.bool i, .ref x], []⟩) Q E s := by
  unfold intBinary
  refine wpAny_bind (m := slotArgs name 1 _) (wpAny_pure ?_)
  refine wpAny_bind (m := intOfSelf _) (wpAny_pure ?_)
  refine wpAny_bind (m := asInt? (.ref x)) ?_
  unfold asInt?
  refine wpAny_bind (wpAny_load I.at_ ?_)
  rw [hd]
  refine wpAny_pure ?_
  exact wpAny_bind (wpAny_rule h)
theorem bool_is (i : Bool) (h : Heap) : Looks (model prog w) h (isInstance (.bool i) (.type "int")) true := by
  intro A Q E s k q
  exact wpAny_isInstance (T := "bool") (b := true) rfl (by rw [isSubtype_type]; kernel_rfl) q
open Builtin.Int in
theorem em_declB {nm : Str} {id n name : String} {fB : Int → Int → Sem Fin} {bi : Builtin} {i : Bool} (S : Slot "bool" nm id) (en : entryFor table id = some bi) (hk : builtinKind id = some .slot) (hsp : splitId id = some ("int", n)) (ha : ∀ a b : Value, argsOk id ⟨[a, b], []⟩)
    (hb : ∀ args, bi args = intBinary name fB false args) (I : InstAt s.heap x ox C od) (hd : ox.data = .plain) (E : Value → Shared → Prop) (Q : Option Value → Shared → Prop) (q : Q none s) : wpAny (model prog w) A (tryMethod (.bool i) nm (.ref x)) Q E s := by
  refine wpAny_tryMethod_declines (show s.TypeIs (.bool i) "bool" from rfl) S (wpAny_call (codeAny_call_builtin S.plain en (check_slot hk hsp (bool_is i _) (ha _ _) ?_)))
  rw [hb]
  exact em_nobinB I hd (wpAny_pure ⟨rfl, q⟩)
theorem decl_mulB {i : Bool} (I : InstAt s.heap x ox C od) (hd : ox.data = .plain) (E : Value → Shared → Prop) (Q : Option Value → Shared → Prop) (q : Q none s) : wpAny (model prog w) A (tryMethod (.bool i) (PySem.dunder "mul") (.ref x)) Q E s :=
  em_declB (n := "__mul__") F.slot_bool_mul F.entry_int_mul (by decide +kernel) (by decide +kernel) F.args_int_mul_2 (fun _ => rfl) I hd E Q q
end
end PySem.W
namespace EM
open PySem PySem.Spec PyProof.Rows L2
/-- every kind's own tables know of nm -/
def KnowsT (K : PySem.W.Frag) (nm : String) : Prop := ∀ T ∈ ["int", "NoneType", "bool", "str", "tuple", "list", "dict"], ∃ fo ro, PySem.W.findIn K (.type T) (PySem.dunder nm) = some fo ∧ PySem.W.findIn K (.type T) (dunderR nm) = some ro ∧ (((fo.isSome && !isSeqSlot fo) || (ro.isSome && !isSeqSlot ro)) = true → T = "int" ∨ T = "bool")
theorem knows_mul {K : PySem.W.Frag} : KnowsT K "mul" := by
  intro T hT
  simp only [List.mem_cons, List.not_mem_nil, or_false] at hT
  rcases hT with rfl | rfl | rfl | rfl | rfl | rfl | rfl
  · exact ⟨_, _, rfl, rfl, fun _ => .inl rfl⟩
  · exact ⟨_, _, rfl, rfl, fun z => absurd z (by decide +kernel)⟩
  · exact ⟨_, _, rfl, rfl, fun _ => .inr rfl⟩
  · exact ⟨_, _, rfl, rfl, fun z => absurd z (by decide +kernel)⟩
  · exact ⟨_, _, rfl, rfl, fun z => absurd z (by decide +kernel)⟩
  · exact ⟨_, _, rfl, rfl, fun z => absurd z (by decide +kernel)⟩
  · exact ⟨_, _, rfl, rfl, fun z => absurd z (by decide +kernel)⟩
/-- x op y: y of the same class, of the class D, or of Python's own kinds -/
def rBinA (C D : Addr) (sp : Sp) (E : XK) : R2 := fun x y H Q => ∃ a dx fs, x = .ref a ∧ H a = some (.ins C dx fs) ∧ ((∃ b dy gs, y = .ref b ∧ H b = some (.ins C dy gs)) ∨ (∃ b dy gs, y = .ref b ∧ H b = some (.ins D dy gs)) ∨ ∃ T, DecT H y T) ∧ sp [.ref a, y] H Q E
def rBinS (C : Addr) (sp : Sp) (E : XK) : R2 := fun x y H Q => ∃ a dx fs b dy gs, x = .ref a ∧ H a = some (.ins C dx fs) ∧ y = .ref b ∧ H b = some (.ins C dy gs) ∧ sp [.ref a, y] H Q E
def rBinB (C : Addr) (sp : Sp) (E : XK) : R2 := fun y x H Q => ∃ a dx fs, x = .ref a ∧ H a = some (.ins C dx fs) ∧ (∃ T, DecT H y T) ∧ sp [.ref a, y] H Q E
def rCmpC (C D : Addr) (sp : Sp) (E : XK) : R2 := fun x y H Q => ∃ a dx fs b dy gs, x = .ref a ∧ H a = some (.ins C dx fs) ∧ y = .ref b ∧ H b = some (.ins D dy gs) ∧ sp [.ref a, y] H Q E
def rNeC (C D : Addr) (sp : Sp) (E : XK) : R2 := fun x y H Q => rCmpC C D sp E x y H fun z H' => ∃ r, z = .bl r ∧ Q (.bl (!r)) H'
theorem DecT.isI {H : Hp} {v : V} {T : String} (d : DecT H v T) (e : T = "int") : ∃ i, v = .int i := by
  cases d <;> first | exact ⟨_, rfl⟩ | exact absurd e (by decide +kernel)
theorem DecT.isB {H : Hp} {v : V} {T : String} (d : DecT H v T) (e : T = "bool") : ∃ i, v = .bl i := by
  cases d <;> first | exact ⟨_, rfl⟩ | exact absurd e (by decide +kernel)
section
variable {X : Cx} {CX : CXT} {n : Nat} {g r g' r' C D : Addr} {sp : Sp} {E : XK}
theorem run1 {pins : List (Addr × Obj)} {s : Shared} {σ : L2.St} {H : Hp} {a : Addr} {y : V} {u : Value} {Q : VK} (F : FnR X.prog X.w X.K X.mg X.base CX n g sp) (rm : Room n X.A) (hx : Passes CX X E) (I : Inv X pins σ H s) (ry : RelV y u) (q : sp [.ref a, y] H Q E) :
    wpAny (model X.prog X.w) X.A (call (.ref g) [.ref a, u]) (PySem.W.CmpBack (EP X pins σ Q)) X.xe s :=
  wpAny_mono (wpAny_call (run_fnR (us := [.ref a, u]) (vs := [.ref a, y]) F rm hx I (.cons rfl (.cons ry .nil)) q)) (fun w s2 z => by
    obtain ⟨z', H', I', rz, qz⟩ := z
    exact SlX.cmpback rz ⟨z', H', I', rz, qz⟩) fun _ _ x => x
theorem op_binA {op : Operator} (B : BinC X.K C op.info.2 g r) (BD : BinC X.K D op.info.2 g' r') (hne : D ≠ C) (hsub : PySem.W.subIn X.K (.ref D) (.ref C) = some false) (kn : KnowsT X.K op.info.2) (A : Apart X.K C)
    (F : FnR X.prog X.w X.K X.mg X.base CX n g sp) (rm : Room n X.A) (hx : Passes CX X E) : OpR X (binaryOp op) (rBinA C D sp E) := by
  intro pins s σ H x y v u Q I rx ry h
  obtain ⟨a, dx, fs, rfl, ha, hy, q⟩ := h
  cases (show v = Value.ref a from rx)
  obtain ⟨ox, od, J, _⟩ := ins_at I ha
  have run := run1 F rm hx I ry q
  refine PySem.W.em_bin ?_
  rcases hy with ⟨b, dy, gs, rfl, hb⟩ | ⟨b, dy, gs, rfl, hb⟩ | ⟨T, hd⟩
  · cases (show u = Value.ref b from ry)
    obtain ⟨oy, od', J', _⟩ := ins_at I hb
    exact PySem.W.em_bin1S I.kIn J J'.type B.first B.at_ B.fn run
  · cases (show u = Value.ref b from ry)
    obtain ⟨oy, od', J', _⟩ := ins_at I hb
    exact PySem.W.em_bin1C I.kIn J J' B.first B.at_ B.fn B.rat BD.first BD.at_ BD.rat hne hsub run
  · obtain ⟨fo, ro, h1, h2, _⟩ := kn T hd.mem
    exact PySem.W.em_bin1 (lo := true) I.kIn J (tyLooks I ry hd) B.first B.at_ B.fn B.rat (.inr ⟨T, fo, ro, rfl, h1, h2, A.up _ hd.mem⟩) run
theorem iop_binA {op : Operator} (B : BinC X.K C op.info.2 g r) (hn : PySem.W.noInB X.K C op.info.2 = true) (kn : KnowsT X.K op.info.2) (A : Apart X.K C)
    (F : FnR X.prog X.w X.K X.mg X.base CX n g sp) (rm : Room n X.A) (hx : Passes CX X E) : OpR X (inplaceOp op) (fun x y H Q => ∃ a dx fs, x = .ref a ∧ H a = some (.ins C dx fs) ∧ (∃ T, DecT H y T) ∧ sp [.ref a, y] H Q E) := by
  intro pins s σ H x y v u Q I rx ry h
  obtain ⟨a, dx, fs, rfl, ha, ⟨T, hd⟩, q⟩ := h
  cases (show v = Value.ref a from rx)
  obtain ⟨ox, od, J, _⟩ := ins_at I ha
  have run := run1 F rm hx I ry q
  refine PySem.W.em_inplace I.kIn J hn ?_
  obtain ⟨fo, ro, h1, h2, _⟩ := kn T hd.mem
  exact PySem.W.em_bin1 (lo := true) I.kIn J (tyLooks I ry hd) B.first B.at_ B.fn B.rat (.inr ⟨T, fo, ro, rfl, h1, h2, A.up _ hd.mem⟩) run
/-- an operator without a reflected one, both of one class -/
theorem op_binS {op : Operator} (hc : PySem.W.selfFirst X.K C = true) (hs : PySem.W.findIn X.K (.ref C) (PySem.dunder op.info.2) = some (some (.ref g))) (hf : PySem.W.isFn X.K (.ref g) = true)
    (F : FnR X.prog X.w X.K X.mg X.base CX n g sp) (rm : Room n X.A) (hx : Passes CX X E) : OpR X (binaryOp op) (rBinS C sp E) := by
  intro pins s σ H x y v u Q I rx ry h
  obtain ⟨a, dx, fs, b, dy, gs, rfl, ha, rfl, hb, q⟩ := h
  cases (show v = Value.ref a from rx)
  obtain ⟨ox, od, J, _⟩ := ins_at I ha
  have run := run1 F rm hx I ry q
  cases (show u = Value.ref b from ry)
  obtain ⟨oy, od', J', _⟩ := ins_at I hb
  exact PySem.W.em_bin (PySem.W.em_bin1S I.kIn J J'.type hc hs hf run)
theorem iop_binS {op : Operator} (hn : PySem.W.noInB X.K C op.info.2 = true) (hc : PySem.W.selfFirst X.K C = true) (hs : PySem.W.findIn X.K (.ref C) (PySem.dunder op.info.2) = some (some (.ref g))) (hf : PySem.W.isFn X.K (.ref g) = true)
    (F : FnR X.prog X.w X.K X.mg X.base CX n g sp) (rm : Room n X.A) (hx : Passes CX X E) : OpR X (inplaceOp op) (rBinS C sp E) := by
  intro pins s σ H x y v u Q I rx ry h
  obtain ⟨a, dx, fs, b, dy, gs, rfl, ha, rfl, hb, q⟩ := h
  cases (show v = Value.ref a from rx)
  obtain ⟨ox, od, J, _⟩ := ins_at I ha
  have run := run1 F rm hx I ry q
  cases (show u = Value.ref b from ry)
  obtain ⟨oy, od', J', _⟩ := ins_at I hb
  exact PySem.W.em_inplace I.kIn J hn (PySem.W.em_bin1S I.kIn J J'.type hc hs hf run)
/-- y * x -/
theorem op_mulB (B : BinC X.K C "mul" g r) (A : Apart X.K C) (F : FnR X.prog X.w X.K X.mg X.base CX n r sp) (rm : Room n X.A) (hx : Passes CX X E) : OpR X (binaryOp .Mult) (rBinB C sp E) := by
  intro pins s σ H y x u v Q I ry rx h
  obtain ⟨a, dx, fs, rfl, ha, ⟨T, hd⟩, q⟩ := h
  cases (show v = Value.ref a from rx)
  obtain ⟨ox, od, J, pl⟩ := ins_at I ha
  have run := run1 F rm hx I ry q
  refine PySem.W.em_bin ?_
  obtain ⟨fo, ro, h1, h2, hk⟩ := knows_mul (K := X.K) T hd.mem
  refine PySem.W.em_rbin1 (T := T) I.kIn J (tyLooks I ry hd) B.first B.at_ B.rat B.rfn h1 h2 (A.dn _ hd.mem) (fun z E Q' q' => ?_) run
  rcases hk z with e | e
  · obtain ⟨i, rfl⟩ := hd.isI e
    obtain ⟨t, rfl⟩ := ry
    exact PySem.W.decl_mul J pl E Q' q'
  · obtain ⟨i, rfl⟩ := hd.isB e
    cases (show u = Value.bool i from ry)
    exact PySem.W.decl_mulB J pl E Q' q'
theorem op_cmpC {op : CmpOp} (hop : ∀ a b, compareOp op a b = richCompare op a b) (hs : PySem.W.findIn X.K (.ref C) (cmpInfo op).2.1 = some (some (.ref g))) (hf : PySem.W.isFn X.K (.ref g) = true) (hsub : PySem.W.subIn X.K (.ref D) (.ref C) = some false) (F : FnR X.prog X.w X.K X.mg X.base CX n g sp)
    (hr : Room n X.A) (hx : Passes CX X E) : OpR X (compareOp op) (rCmpC C D sp E) := by
  intro pins s σ H x y v u Q I rx ry h
  obtain ⟨a, dx, fs, b, dy, gs, rfl, ha, rfl, hb, q⟩ := h
  cases (show v = Value.ref a from rx)
  obtain ⟨ox, od, J, _⟩ := ins_at I ha
  obtain ⟨m, hF⟩ := I.fr
  have run := run1 F hr hx I ry q
  rw [hop]
  cases (show u = Value.ref b from ry)
  obtain ⟨oy, od', J', _⟩ := ins_at I hb
  exact PySem.W.cmp_K (op := op) (tb := .ref D) hr.units0 hF I.ok.mod.kin J J'.type (notFirst_of hsub) hs hf run
theorem op_neC (hs : PySem.W.findIn X.K (.ref C) "__ne__" = some (some (.builtin "object.__ne__"))) (hm : PySem.W.mroIn X.K C (.type "object") = some true) (he : PySem.W.findIn X.K (.ref C) "__eq__" = some (some (.ref g))) (hf : PySem.W.isFn X.K (.ref g) = true) (hsub : PySem.W.subIn X.K (.ref D) (.ref C) = some false)
    (F : FnR X.prog X.w X.K X.mg X.base CX n g sp) (hr : Room (n + 1) X.A) (hx : Passes CX X E) : OpR X (compareOp .NotEq) (rNeC C D sp E) := by
  intro pins s σ H x y v u Q I rx ry h
  obtain ⟨a, dx, fs, b, dy, gs, rfl, ha, rfl, hb, q⟩ := h
  cases (show v = Value.ref a from rx)
  obtain ⟨ox, od, J, _⟩ := ins_at I ha
  obtain ⟨m, hF⟩ := I.fr
  show wpAny _ _ (richCompare .NotEq (.ref a) u) _ _ _
  have c := SlX.run_at (us := [.ref a, u]) (ws := [.ref a, .ref b]) F hr.in1 I.env0.in1 hx I (.cons rfl (.cons ry .nil)) q
  have run : wpAny (model X.prog X.w) X.A.in1 (call (.ref g) [.ref a, u]) (fun v s' => ∃ r, v = .bool r ∧ EP X pins σ Q (.bool (!r)) s') X.xe s := by
    refine wpAny_mono (wpAny_call c) (fun w s' z => ?_) fun _ _ x => x
    obtain ⟨z', H', I', rz, r, ez, qz⟩ := z
    subst ez
    cases (show w = Value.bool r from rz)
    exact ⟨r, rfl, .bl (!r), H', I', rfl, qz⟩
  cases (show u = Value.ref b from ry)
  obtain ⟨oy, od', J', _⟩ := ins_at I hb
  exact PySem.W.em_ne (tb := .ref D) (hu_of hr) hF I.ok.mod.kin J J'.type (notFirst_of hsub) hs hm he hf run
end
end EM
/-! EM58: comprehensions with a test, over anything; sums and multiples of marks. -/
namespace EM
open PySem PySem.Spec PyProof.Rows L2
theorem mcE_in {te : TE} {σ : L2.St} {H : Hp} {Q : VK} (h : te σ H Q) : mcE te σ H Q := ⟨_, h, fun _ _ z => z⟩
/-- a comprehension that draws nothing: P tells of the list so far -/
theorem LcS.lcP {T : List (Addr × Str)} {p l : Addr} {m : Nat} {J : It} {n : Nat} {G : Hp → Prop} {Y : Nat → Hp → V → Hp → Prop} (w : Walk J n G Y) {g : TG} {tt : TT} {te : TE} {vs : List Nat} {σ : L2.St} {H1 : Hp} {Q : VK}
    (B : Bs T p l m H1) (P : Nat → List V → Prop) (h0 : P 0 []) (hn : n ≤ 100000) (hG : ∀ H, Ext p H1 H → G H)
    (hs : ∀ i x acc H H' (Rf : Hp → Prop) (Rt : V → Hp → Prop), i < n → P i acc → Ext p H1 H → Bs T p l m H → Y i H x H' → (∀ H3, Ext p H H3 → Bs T p l m H3 → P (i + 1) acc → Rf H3) → (∀ y H4, Ext p H H4 → Bs T p l m H4 → P (i + 1) (acc ++ [y]) → Rt y H4) →
      g x (wipe σ vs) H' fun σ2 H2 => wipe σ2 vs = wipe σ vs ∧ tt σ2 H2 fun b H3 => if b = true then mcE te σ2 H3 Rt else Rf H3)
    (hd : ∀ D ys H', H1 D = none → P n ys → ys.length ≤ n → Ext p H1 H' → Bs T p l m H' → At p H' D (.lst ys) → Q (.ref D) H') : LcS J g tt (mcE te) vs σ H1 Q := by
  refine ⟨fun D hD => ?_⟩
  have nDp := B.ne hD
  have nDl := B.nel hD
  refine lc_it w (fun i H => ∃ acc, At p H D (.lst acc) ∧ acc.length ≤ i ∧ P i acc ∧ Ext p H1 H ∧ Bs T p l m H) ⟨[], ⟨upd_same, nDp, fun _ z => by cases z⟩, Nat.le_refl _, h0, Ext.same (same_upd hD), B.same (same_upd hD)⟩ (fun i H hi ⟨acc, _, _, _, x, _⟩ => hG H x) ?_ ?_
  · rintro i x H H' hi ⟨acc, hA, hl, hf, x1, B1⟩ y
    refine hs i x acc H H' _ _ hi hf x1 B1 y (fun H3 x3 B3 h3 => ⟨acc, hA.ext x3, by omega, h3, x1.trans x3, B3⟩) (fun v H4 x4 B4 h4 => ?_)
    have hA4 := hA.ext x4
    refine ⟨acc, hA4.at_, szl (by omega), acc ++ [v], ⟨upd_same, nDp, fun _ z => by cases z⟩, by simp; omega, h4, ⟨fun b o e nb nt => ?_⟩, ⟨?_, tabs_mut B4.tab hA4.at_⟩⟩
    · have e4 := x4.k _ _ (x1.k _ _ e nb nt) nb nt
      rw [upd_ne (ne_of_none e hD)]
      exact e4
    · exact B4.pen.mut nDp nDl
  · rintro H ⟨acc, hA, hl, hf, x1, B1⟩
    exact hd D acc H hD hf hl x1 B1 hA
section
variable {T : List (Addr × Str)} {p l q a b tp : Addr} {n m : Nat} {H H1 H2 H' : Hp} {o : HO} {K : PySem.W.Frag} {Q : VK} {E : XK} {x v y : V} {xs : List V} {ws us : List Int}
/-- what is no mark -/
def NoMk (K : PySem.W.Frag) (p : Addr) (H : Hp) (y : V) : Prop := (∃ i, y = .int i) ∨ OddM K p H y
theorem NoMk.ext (h : NoMk K p H y) (x : Ext p H H') : NoMk K p H' y := by
  rcases h with h | h
  · exact .inl h
  · exact .inr (h.ext x)
/-- BadMark(None) -/
def BadOut (K : PySem.W.Frag) (T : List (Addr × Str)) (p l : Addr) (n : Nat) (H : Hp) (E : XK) : Prop := ∀ d H', Ext p H H' → Bs T p l n H' → At p H' d (xdA .non) → E (.ref (He.ga K "BadMark")) (some d) H'
theorem BadOut.ext (h : BadOut K T p l n H E) (x : Ext p H H1) : BadOut K T p l n H1 E := fun d H' x1 B1 a1 => h d H' (x.trans x1) B1 a1
/-- m + m -/
def spAddM (K : PySem.W.Frag) : Sp := fun vs H Q E => ∃ (T : List (Addr × Str)) (p l a b : Addr) (n : Nat) (ws us : List Int), vs = [.ref a, .ref b] ∧ Bs T p l n H ∧ MarkP K p H a ws ∧ MarkP K p H b us ∧
  ((ws.length ≠ us.length ∧ ∀ H', Ext p H H' → Bs T p l n H' → E (.ref (He.ga K "Unlike")) none H') ∨ (ws.length = us.length ∧ MarkOut K T p l n H ((List.zipWith (· + ·) ws us).map V.int) Q E))
/-- m * v -/
def TimesOut (K : PySem.W.Frag) (T : List (Addr × Str)) (p l : Addr) (n : Nat) (H : Hp) (ws : List Int) (v : V) (Q : VK) (E : XK) : Prop :=
  (∃ i, v = .int i ∧ i < 1 ∧ BadOut K T p l n H E) ∨ (∃ i, v = .int i ∧ 1 ≤ i ∧ Bt 200 i ∧ MarkOut K T p l n H ((ws.map (· * i)).map V.int) Q E) ∨ (OddM K p H v ∧ BadOut K T p l n H E)
def spMulM (K : PySem.W.Frag) : Sp := fun vs H Q E => ∃ (T : List (Addr × Str)) (p l a : Addr) (n : Nat) (ws : List Int) (v : V), vs = [.ref a, v] ∧ Bs T p l n H ∧ MarkP K p H a ws ∧ TimesOut K T p l n H ws v Q E
/-- ~m -/
def spInvM (K : PySem.W.Frag) : Sp := fun vs H Q E => ∃ (T : List (Addr × Str)) (p l a : Addr) (n : Nat) (ws : List Int), vs = [.ref a] ∧ Bs T p l n H ∧ MarkP K p H a ws ∧ ∀ b H', Ext p H H' → Bs T p l n H' → MarkP K p H' b ws.reverse → Q (.ref b) H'
/-- m == v -/
def spEqMk (K : PySem.W.Frag) : Sp := fun vs H Q _ => ∃ (p a : Addr) (ws : List Int) (y : V), vs = [.ref a, y] ∧ MarkP K p H a ws ∧ ((∃ b us, y = .ref b ∧ MarkP K p H b us ∧ Q (.bl (decide (ws = us))) H) ∨ (NoMk K p H y ∧ Q (.bl false) H))
structure AddS (K : PySem.W.Frag) (E : XK) (x y : V) (H : Hp) (Q : VK) : Prop where
  h : spAddM K [x, y] H Q E
structure MulS (K : PySem.W.Frag) (E : XK) (x y : V) (H : Hp) (Q : VK) : Prop where
  h : spMulM K [x, y] H Q E
/-- v * m, v no Ratio -/
structure MulB (K : PySem.W.Frag) (E : XK) (x y : V) (H : Hp) (Q : VK) : Prop where
  h : spMulM K [y, x] H Q E ∧ ∃ T, DecT H x T
/-- x == y, at least one of them a mark -/
def eqW (K : PySem.W.Frag) (x y : V) (H : Hp) (R : Bool → Prop) : Prop := ∃ p, (∃ a b ws us, x = .ref a ∧ y = .ref b ∧ MarkP K p H a ws ∧ MarkP K p H b us ∧ R (decide (ws = us))) ∨ (∃ a ws, x = .ref a ∧ MarkP K p H a ws ∧ NoMk K p H y ∧ R false) ∨ (∃ a ws, y = .ref a ∧ MarkP K p H a ws ∧ NoMk K p H x ∧ R false)
structure EqW (K : PySem.W.Frag) (x y : V) (H : Hp) (Q : VK) : Prop where
  h : eqW K x y H fun r => Q (.bl r) H
structure NeW (K : PySem.W.Frag) (x y : V) (H : Hp) (Q : VK) : Prop where
  h : ∃ p, (∃ a b ws us, x = .ref a ∧ y = .ref b ∧ MarkP K p H a ws ∧ MarkP K p H b us ∧ Q (.bl (!decide (ws = us))) H) ∨ (∃ a ws, x = .ref a ∧ MarkP K p H a ws ∧ NoMk K p H y ∧ Q (.bl true) H)
theorem eqw_mm (h : MarkP K p H a ws) (g : MarkP K p H b us) (k : Q (.bl (decide (ws = us))) H) : EqW K (.ref a) (.ref b) H Q := ⟨p, .inl ⟨a, b, ws, us, rfl, rfl, h, g, k⟩⟩
theorem eqw_l (h : MarkP K p H a ws) (g : NoMk K p H y) (k : Q (.bl false) H) : EqW K (.ref a) y H Q := ⟨p, .inr (.inl ⟨a, ws, rfl, h, g, k⟩)⟩
theorem eqw_r (h : MarkP K p H a ws) (g : NoMk K p H y) (k : Q (.bl false) H) : EqW K y (.ref a) H Q := ⟨p, .inr (.inr ⟨a, ws, rfl, h, g, k⟩)⟩
theorem new_mm (h : MarkP K p H a ws) (g : MarkP K p H b us) (k : Q (.bl (!decide (ws = us))) H) : NeW K (.ref a) (.ref b) H Q := ⟨p, .inl ⟨a, b, ws, us, rfl, rfl, h, g, k⟩⟩
theorem new_l (h : MarkP K p H a ws) (g : NoMk K p H y) (k : Q (.bl true) H) : NeW K (.ref a) y H Q := ⟨p, .inr ⟨a, ws, rfl, h, g, k⟩⟩
theorem NoMk.int {i : Int} : NoMk K p H (.int i) := .inl ⟨i, rfl⟩
theorem MarkP.mu {c : Addr} {ys : List V} (h : MarkP K p H a ws) (g : At p H c (.lst xs)) (m : Mu c H H' (.lst ys)) : MarkP K p H' a ws := by
  obtain ⟨gd, dx, wp, ep, sp, h1, h2, h3, h4⟩ := h
  exact ⟨gd, dx, wp, ep, sp, m.at_k h1 g (fun _ z => by cases z), m.at_k h2 g (fun _ z => by cases z), m.at_k h3 g (fun _ z => by cases z), m.at_k h4 g (fun _ z => by cases z)⟩
theorem Mu.mark {c : Addr} {ys : List V} (m : Mu c H H' (.lst ys)) (h : MarkP K p H a ws) (g : At p H c (.lst xs)) : MarkP K p H' a ws := h.mu g m
/-- what a call tells: [text], ("mark", i), ("mark", None), ("unlike",) -/
inductive Tl (p : Addr) (H : Hp) (q : Addr) : PyData → Prop
  | txt {z : Str} (ok : okS z) (h : At p H q (.lst [.str z])) : Tl p H q (.list [.str z])
  | mk {i : Nat} (hi : i < 4000) (h : At p H q (.tup [.str "mark", .int (i : Nat)])) : Tl p H q (.tuple [.str "mark", .int (i : Nat)])
  | non (h : At p H q (.tup [.str "mark", .non])) : Tl p H q (.tuple [.str "mark", .none])
  | unl (h : At p H q (.tup [.str "unlike"])) : Tl p H q (.tuple [.str "unlike"])
theorem Tl.ext {d : PyData} (h : Tl p H q d) (x : Ext p H H') : Tl p H' q d := by
  cases h with
  | txt ok h => exact .txt ok (h.ext x)
  | mk hi h => exact .mk hi (h.ext x)
  | non h => exact .non (h.ext x)
  | unl h => exact .unl (h.ext x)
theorem Mu.tl {c : Addr} {ys : List V} {d : PyData} (m : Mu c H H' (.lst ys)) (h : Tl p H q d) (g : At p H c (.lst xs)) (hn : q ≠ c) : Tl p H' q d := by
  cases h with
  | txt ok h => exact .txt ok ⟨(m.old _ hn).trans h.at_, h.ne, h.nt⟩
  | mk hi h => exact .mk hi (m.at_k h g (fun _ z => by cases z))
  | non h => exact .non (m.at_k h g (fun _ z => by cases z))
  | unl h => exact .unl (m.at_k h g (fun _ z => by cases z))
theorem Tl.dp {d : PyData} (h : Tl p H q d) : Dp K H (.ref q) d := by
  cases h with
  | txt ok h => exact dp_lst h.at_ (.cons (.str _) .nil)
  | mk hi h => exact dp_tup h.at_ (.cons (.str _) (.cons (.int _) .nil))
  | non h => exact dp_tup h.at_ (.cons (.str _) (.cons .non .nil))
  | unl h => exact dp_tup h.at_ (.cons (.str _) .nil)
theorem Tl.fe {d : PyData} (h : Tl p H q d) : Fe 1 d := by
  cases h with
  | txt ok h => exact Fe.list (FeL.cons (Fe.str ok) FeL.nil)
  | mk hi h => exact Fe.tup (FeL.cons (Fe.str (okS_of _)) (FeL.cons (Fe.int _) FeL.nil))
  | non h => exact Fe.tup (FeL.cons (Fe.str (okS_of _)) (FeL.cons Fe.non FeL.nil))
  | unl h => exact Fe.tup (FeL.cons (Fe.str (okS_of _)) FeL.nil)
/-- sums and multiples: where they are above 1,000 -/
def Big (xs : List Int) (i : Nat) : Prop := ∃ w, xs[i]? = some w ∧ 1000 < w ∧ ∀ j u, j < i → xs[j]? = some u → u ≤ 1000
def SumOk (xs : List Int) : Prop := xs.length % 2 = 1 ∧ 3 ≤ xs.length ∧ xs.length ≤ 127 ∧ ∀ x ∈ xs, 1 ≤ x
theorem big_bad {xs : List Int} {i : Nat} (s : SumOk xs) (h : Big xs i) : BadW K p H (xs.map V.int) (.int i) := by
  obtain ⟨s1, s2, s3, s4⟩ := s
  obtain ⟨w, e, hw, hj⟩ := h
  refine .inr ⟨i, rfl, by simpa using s1, by simpa using s2, by simpa using s3, fun j hji => ?_, .int w, by rw [List.getElem?_map, e]; rfl, .inl ⟨w, rfl, by omega⟩⟩
  have hl : j < xs.length := by
    have := (List.getElem?_eq_some_iff.mp e).1
    omega
  have ej := List.getElem?_eq_getElem hl
  exact ⟨.int xs[j], by rw [List.getElem?_map, ej]; rfl, _, rfl, s4 _ (List.getElem_mem hl), hj j _ hji ej⟩
theorem big_or {xs : List Int} (s : SumOk xs) : good xs ∨ ∃ i, Big xs i := by
  rcases Classical.em (∃ i : Nat, ∃ w, xs[i]? = some w ∧ 1000 < w) with h | h
  · refine .inr ?_
    obtain ⟨i, hi⟩ := h
    have key : ∀ k i : Nat, i ≤ k → (∃ w, xs[i]? = some w ∧ 1000 < w) → ∃ i, Big xs i := by
      intro k
      induction k with
      | zero =>
        rintro i hk ⟨w, e, hw⟩
        exact ⟨i, w, e, hw, fun j u hj _ => by omega⟩
      | succ k ih =>
        rintro i hk ⟨w, e, hw⟩
        rcases Classical.em (∃ j : Nat, j < i ∧ ∃ w, xs[j]? = some w ∧ 1000 < w) with ⟨j, hj, hw2⟩ | hn
        · exact ih j (by omega) hw2
        · exact ⟨i, w, e, hw, fun j u hj eu => by
            rcases Int.lt_or_le 1000 u with hu | hu
            · exact absurd ⟨j, hj, u, eu, hu⟩ hn
            · exact hu⟩
    exact key i i (Nat.le_refl _) hi
  · refine .inl ⟨s.1, s.2.1, s.2.2.1, fun x hx => ⟨s.2.2.2 x hx, ?_⟩⟩
    obtain ⟨i, e⟩ := List.mem_iff_getElem?.mp hx
    rcases Int.lt_or_le 1000 x with hu | hu
    · exact absurd ⟨i, x, e, hu⟩ h
    · exact hu
theorem sumok_add {ws us : List Int} (h : good ws) (g : good us) (e : ws.length = us.length) : SumOk (List.zipWith (· + ·) ws us) := by
  obtain ⟨h1, h2, h3, h4⟩ := h
  have hl : (List.zipWith (· + ·) ws us).length = ws.length := by rw [List.length_zipWith, ← e, Nat.min_self]
  refine ⟨by omega, by omega, by omega, fun x hx => ?_⟩
  obtain ⟨i, ei⟩ := List.mem_iff_getElem?.mp hx
  rw [List.getElem?_zipWith] at ei
  split at ei
  · rename_i y z e1 e2
    cases ei
    have := h4 _ (List.mem_of_getElem? e1)
    have := g.2.2.2 _ (List.mem_of_getElem? e2)
    omega
  · cases ei
theorem sumok_mul {ws : List Int} {i : Int} (h : good ws) (hi : 1 ≤ i) : SumOk (ws.map (· * i)) := by
  obtain ⟨h1, h2, h3, h4⟩ := h
  refine ⟨by simpa using h1, by simpa using h2, by simpa using h3, fun x hx => ?_⟩
  obtain ⟨w, hw, rfl⟩ := List.mem_map.mp hx
  have := h4 w hw
  have h5 : 1 * 1 ≤ w * i := Int.mul_le_mul (by omega) hi (by decide) (by omega)
  omega
theorem good_revM {ws : List Int} (h : good ws) : good ws.reverse := by
  obtain ⟨h1, h2, h3, h4⟩ := h
  exact ⟨by simpa using h1, by simpa using h2, by simpa using h3, fun x hx => h4 x (List.mem_reverse.mp hx)⟩
/-- the widths and the edges, as data -/
def seen2 (ws : List Int) : PyData := .list [.tuple (ws.map .int), .tuple ((scan 0 ws).map .int)]
theorem seen2_fd {ws : List Int} (g : good ws) : Fd 2000000 2 (seen2 ws) := by
  have hl := g.2.2.1
  have b32 : ∀ {i : Int}, 0 ≤ i → i ≤ 4000000 → Bt 1900 i := fun h h' => (Bt.rng32 (by omega) (by omega)).mono (by decide)
  have f1 := Fd.tup (FdL.ints (ns := ws) (k := 127) (fun x hx => by have := g.2.2.2 x hx; exact b32 (by omega) (by omega)) hl)
  have f2 := Fd.tup (FdL.ints (ns := scan 0 ws) (k := 128) (fun x hx => by have := scan_bd g x hx; exact b32 (by omega) (by omega)) (by rw [scan_len]; omega))
  exact (Fd.list (FdL.cons f1 (FdL.cons f2 FdL.nil))).mono (by decide) (by decide)
theorem Bt.wide {w : Int} (h : 1 ≤ w ∧ w ≤ 1000) : Bt 33 w := (Bt.rng32 (by omega) (by omega)).mono (by decide)
end
/-! xs[::-1] -/
structure RvT (x : V) (H : Hp) (Q : VK) : Prop where
  h : ∃ a xs, x = .ref a ∧ H a = some (.tup xs) ∧ DnS (.tup xs.reverse) H Q
structure RvL (x : V) (H : Hp) (Q : VK) : Prop where
  h : ∃ a xs, x = .ref a ∧ H a = some (.lst xs) ∧ DnS (.lst xs.reverse) H Q
def tRevTN (te : TE) : TE := fun σ H Q => te σ H fun x H1 => RvT x H1 Q
def tRevLN (te : TE) : TE := fun σ H Q => te σ H fun x H1 => RvL x H1 Q
theorem pe_revTN {X : Cx} {e : Expr} {te : TE} {k : Nat} {p1 p2 p3 pos : Pos} (he : PE X e te) : PE X (.Subscript e (.Slice none none (some (.UnaryOp .USub (.Constant (.int 1) k p1) p2)) p3) pos) (tRevTN te) :=
  (pe_revT he.mc).of fun σ H Q q => ⟨_, q, fun x H1 ⟨⟨a, xs, e, h, z⟩⟩ => ⟨a, xs, e, SqT.of h, New.upd z.h⟩⟩
theorem pe_revLN {X : Cx} {e : Expr} {te : TE} {k : Nat} {p1 p2 p3 pos : Pos} (he : PE X e te) : PE X (.Subscript e (.Slice none none (some (.UnaryOp .USub (.Constant (.int 1) k p1) p2)) p3) pos) (tRevLN te) :=
  (pe_revL he.mc).of fun σ H Q q => ⟨_, q, fun x H1 ⟨⟨a, xs, e, h, z⟩⟩ => ⟨a, xs, e, SqL.of h, New.upd z.h⟩⟩
theorem rvT {p a : Addr} {H : Hp} {xs : List V} {Q : VK} (h : At p H a (.tup xs)) (k : DnS (.tup xs.reverse) H Q) : RvT (.ref a) H Q := ⟨a, xs, rfl, h.at_, k⟩
theorem rvL {p a : Addr} {H : Hp} {xs : List V} {Q : VK} (h : At p H a (.lst xs)) (k : DnS (.lst xs.reverse) H Q) : RvL (.ref a) H Q := ⟨a, xs, rfl, h.at_, k⟩
end EM
/-! EM59: zip of two tuples, in one word; what a pair of a zip or an enumerate is. -/
namespace EM
open PySem PySem.Spec PyProof.Rows L2
structure ZpT (K : PySem.W.Frag) (vs : List V) (H : Hp) (R : It → Hp → Prop) : Prop where
  h : ∃ a b xs ys, vs = [.ref a, .ref b] ∧ H a = some (.tup xs) ∧ H b = some (.tup ys) ∧ R (RZ.ItzT K a b) H
def iZpTN (K : PySem.W.Frag) (ta : TA) : TI := fun σ H R => ta σ H fun vs H1 => ZpT K vs H1 R
theorem pi_zipTN {X : Cx} {e e2 : Expr} {ta : TA} {p pos tpos : Pos} {elts : List Expr} {kk : Nat} (hg : Gl X "zip") (hm : X.mg "zip" = none) (ha : PA X [e, e2] ta)
    (hs : starEach [e, e2] X.env = (false, eval e X.env) :: starEach [e2] X.env := by rfl) (hpl : (backTo pos (starEach [e2] X.env)).any (·.1) = false := by rfl) :
    PI X (.Tuple elts kk tpos) (.Call (.Name "zip" p) [e, e2] [] pos) (iZpTN X.K ta) := ⟨fun pins s σ H R I h => (RZ.pi_zipA hg hm ha.mc hs hpl).run pins s σ H R I ⟨_, h, fun vs H1 ⟨⟨a, b, xs, ys, e, h1, h2, k⟩⟩ => ⟨a, b, xs, ys, e, .inr ⟨SqT.of h1, SqT.of h2, k⟩⟩⟩⟩
structure EnL (K : PySem.W.Frag) (vs : List V) (H : Hp) (R : It → Hp → Prop) : Prop where
  h : ∃ a xs, vs = [.ref a] ∧ H a = some (.lst xs) ∧ R (Ite K a) H
def iEnLN (K : PySem.W.Frag) (ta : TA) : TI := fun σ H R => ta σ H fun vs H1 => EnL K vs H1 R
theorem pi_enumLN {X : Cx} {e : Expr} {ta : TA} {p pos tpos : Pos} {elts : List Expr} {kk : Nat} (hg : Gl X "enumerate") (hm : X.mg "enumerate" = none) (ha : PA X [e] ta) (hs : starEach [e] X.env = [(false, eval e X.env)] := by rfl) :
    PI X (.Tuple elts kk tpos) (.Call (.Name "enumerate" p) [e] [] pos) (iEnLN X.K ta) := ⟨fun pins s σ H R I h => (pi_enum hg hm ha.mc hs).run pins s σ H R I ⟨_, h, fun vs H1 ⟨⟨a, xs, e, h1, k⟩⟩ => ⟨a, xs, e, SqL.of h1, k⟩⟩⟩
section
variable {T : List (Addr × Str)} {p l a b : Addr} {n : Nat} {H H' : Hp} {K : PySem.W.Frag} {xs ys : List V} {R : It → Hp → Prop}
theorem zpT (h : At p H a (.tup xs)) (g : At p H b (.tup ys)) (k : R (RZ.ItzT K a b) H) : ZpT K [.ref a, .ref b] H R := ⟨a, b, xs, ys, rfl, h.at_, g.at_, k⟩
theorem enL (h : At p H a (.lst xs)) (k : R (Ite K a) H) : EnL K [.ref a] H R := ⟨a, xs, rfl, h.at_, k⟩
theorem yp_open {f g : Nat → Option V} {i : Nat} {x : V} (B : Bs T p l n H) (y : YPair f g i H x H') : ∃ W a b, x = .ref W ∧ f i = some a ∧ g i = some b ∧ Ext p H H' ∧ Bs T p l n H' ∧ At p H' W (.tup [a, b]) := by
  obtain ⟨W, a, b, rfl, hW, e, ea, eb⟩ := y
  have s : Same H H' := by rw [e]; exact same_upd hW
  exact ⟨W, a, b, rfl, ea, eb, Ext.same s, B.same s, (B.same s).at_ (by rw [e]; exact upd_same) (fun _ z => by cases z) (fun _ z => by cases z)⟩
end
end EM
namespace EM
open PySem PySem.Spec PyProof.Rows L2
section
variable {p q c : Addr} {H H' : Hp} {d : PyData} {x : Addr} {r ys : List V}
theorem Tl.ne (h : Tl p H q d) (g : At p H c (.lst (.ref x :: r))) : q ≠ c := by
  intro e
  subst e
  have ga := g.at_
  cases h with
  | txt ok h =>
    rw [h.at_] at ga
    cases ga
  | mk hi h =>
    rw [h.at_] at ga
    cases ga
  | non h =>
    rw [h.at_] at ga
    cases ga
  | unl h =>
    rw [h.at_] at ga
    cases ga
theorem Mu.tlr (m : Mu c H H' (.lst ys)) (h : Tl p H q d) (g : At p H c (.lst (.ref x :: r))) : Tl p H' q d := m.tl h g (h.ne g)
end
end EM
/-! EM60: repr of a tuple of a text and an instance with its own __repr__; of a text and a dict with nothing in it. -/
namespace PySem.W
open PySem PySem.Calls PyProof.Rows Builtin Builtin.Tuple
section
variable {prog : Program} {w : World} {A : Around} {K : Frag} {s : Shared} {x f C T : Addr} {ox oT : Obj} {od : Option Obj} {E : Value → Shared → Prop} {name : Str}
theorem em_boundBy {M : Model} {last : Value → List Value → Sem Value} {Q : Option Value → Shared → Prop} (X : K.In s.heap) (I : InstAt s.heap x ox C od) (hs : findIn K (.ref C) name = some (some (.ref f))) (hf : isFn K (.ref f) = true)
    (h : wpAny M A (last (.ref f) [.ref x]) (fun v => Q (some v)) E s) : wpAny M A (callSpecialIfBoundBy? last (.ref x) name) Q E s := by
  simp only [callSpecialIfBoundBy?, bindSpecialIfBound?]
  refine wpAny_holding (wpAny_bind (wpAny_bind (wpAny_bind (I.type.here ((looks_findIn X hs).here ?_)))))
  refine wpAny_bind (wpAny_askSetting (wpAny_ite ?_))
  have fin : wpAny M A (last (.ref f) [.ref x] >>= fun v => pure (some v)) Q E s := wpAny_bind (wpAny_mono h (fun v s' h' => wpAny_pure h') fun _ _ h' => h')
  split
  · exact wpAny_bind ((bind_fn X _ (beq_iff_eq.mp hf)).here (wpAny_pure (by exact fin)))
  · exact wpAny_tryCatch (wpAny_bind ((bind_fn X _ (beq_iff_eq.mp hf)).here (wpAny_pure (by exact fin))))
theorem em_under {b : Nat} {Q : Str → Shared → Prop} (hb : b ≤ sizeLine) (hu : A.units < cLine) (X : K.In s.heap) (I : InstAt s.heap x ox C od) (hr : findIn K (.ref C) "__repr__" = some (some (.ref f))) (hf : isFn K (.ref f) = true)
    (h : wpAny (model prog w) A (call (.ref f) [.ref x]) (fun v s2 => ∃ z u, v = .str z u ∧ Q z s2) E s) : wpAny (model prog w) A (pyReprUnder b (.ref x)) Q E s := by
  refine wpAny_pyReprUnder_ref hb ?_
  unfold pyReprObjUnder pyReprObjBy
  refine wpAny_bind (wpAny_cRoomFor hu ?_)
  refine wpAny_bind (m := specialOf (.ref x) (Str.ofString "__repr__")) ((I.type.andThen (looks_findIn X hr)).here ?_)
  refine wpAny_bind (em_boundBy X I hr hf ?_)
  show wpAny (model prog w) A (call (.ref f) ([.ref x] ++ [])) _ E s
  refine wpAny_mono h (fun v s2 hv => ?_) fun _ _ y => y
  obtain ⟨z, u, rfl, hq⟩ := hv
  exact wpAny_bind (wpAny_isInstance (T := "str") (b := true) (typeIs_str _ _ _) isSubtype_str_str (wpAny_pure ⟨z, u, rfl, hq⟩))
/-- (z, v): v's own text is told under the tuple's -/
theorem em_ownPair {c : Code} {Q : Fin → Shared → Prop} {z : Str} {t : Tok} {v : Value} {n : Nat} (hg : A.guards = some []) (ha : s.heap.get? T = some oT) (hd : oT.data = .seq #[.str z t, v] n) (hz : (reprText z).length ≤ 1000)
    (hx : ∀ tk b, b ≤ 2000 → wpAny (model prog w) (A.under c) (pyReprUnder b v) (fun r s2 => (tupleText [reprText z, r]).length ≤ sizeLine ∧ ∀ u tk2, Q (.done (.ret (.str (tupleText [reprText z, r]) u))) { s2 with toks := tk2 }) E { s with toks := tk }) :
    wpOwn (model prog w) A c (tupleReprAt 0 ⟨[.ref T], []⟩) Q E s := by
  rw [tuple_repr_tree, tupleReprUnderWay_eq]
  refine wpOwn_bind (wpOwn_stackTailAny hg (tupGuardF_off _) (tupGuardF_pos _) ?_)
  rw [show (([] : List Code).any fun c => tupGuardF (.ref T) (c, default)) = false from rfl]
  refine wpOwn_of_wpAny ?_
  show wpAny _ _ (tupleReprRest 0 (.ref T)) _ _ s
  unfold tupleReprRest Builtin.Tuple.tupleItemsOf
  refine wpAny_bind (wpAny_bind (wpAny_seqItems ha hd (wpAny_pure ?_)))
  rw [← Array.forIn_toList]
  show wpAny _ _ ((forIn [Value.str z t, v] (⟨#[], 0⟩ : (Array Str × Nat)) tupBody) >>= _) _ _ _
  have h1000 : 3000 ≤ sizeLine := by decide
  rw [List.forIn_cons]
  refine wpAny_bind (wpAny_bind (wpAny_bind (ReprIs.str z t (by omega) _ (by omega) _ _ _ _ fun tk => wpAny_pure ?_)))
  show wpAny _ _ (forIn [v] _ _) _ _ _
  rw [List.forIn_cons]
  refine wpAny_bind (wpAny_bind (wpAny_mono (hx tk _ (by show 0 + ((reprText z).length + 2) + 1 ≤ 2000; omega)) (fun r s2 hq => wpAny_pure ?_) fun _ _ y => y))
  show wpAny _ _ (forIn [] _ _) _ _ _
  rw [List.forIn_nil]
  refine wpAny_pure ?_
  refine wpAny_bind (wpAny_mkStr (wpAny_pure ?_) ?_)
  · exact hq.2 _ _
  · exact hq.1
theorem em_reprPair {Q : Value → Shared → Prop} {z : Str} {t : Tok} {v : Value} {n : Nat} (hu : A.in1.units < cLine) (hg : A.guards = some []) (ha : s.heap.get? T = some oT) (hc : oT.cls = .type "tuple") (hd : oT.data = .seq #[.str z t, v] n) (hz : (reprText z).length ≤ 1000)
    (hx : ∀ tk b, b ≤ 2000 → wpAny (model prog w) (A.in1.under (.builtin "tuple.__repr__" ⟨[.ref T], []⟩)) (pyReprUnder b v) (fun r s2 => (tupleText [reprText z, r]).length ≤ sizeLine ∧ ∀ u tk2, Q (.str (tupleText [reprText z, r]) u) { s2 with toks := tk2 }) E { s with toks := tk }) :
    wpAny (model prog w) A (call (.builtin "repr") [.ref T]) Q E s := by
  have hTy : s.TypeIs (.ref T) "tuple" := ⟨oT, ha, hc⟩
  refine Calls.call_function_entry F.kind_repr F.plain_repr F.entry_repr (F.args_repr1 _) ?_
  unfold Builtin.«repr»
  refine wpAny_bind (m := oneArg "repr" _) (wpAny_pure ?_)
  refine wpAny_bind (m := cRoomFor _ _) (wpAny_cRoomFor hu ?_)
  refine wpAny_bind (wpAny_specialOf (name := Str.ofString "__repr__") hTy F.slot_tuple_repr.lookup ?_)
  refine wpAny_bind (m := callSpecialIfBound? (.ref T) (Str.ofString "__repr__")) (wpAny_callSpecialIfBound?_slotG (name := Str.ofString "__repr__") hTy F.slot_tuple_repr ?_)
  refine wpAny_call (codeAny_call_builtin_own (Code.quiet_builtin _ (by decide +kernel)) F.entry_tuple_repr (F.slot_tuple_repr.check _ _ _ _ _ _ _ _ hTy (F.args_tuple_repr_1 _) (em_ownPair hg ha hd hz fun tk b hb => ?_)))
  refine wpAny_mono (hx tk b hb) (fun r s2 hq => ⟨hq.1, fun u tk2 => ?_⟩) fun _ _ y => y
  exact wpAny_bind (wpAny_isInstance (T := "str") (b := true) (typeIs_str _ _ _) isSubtype_str_str (wpAny_pure ⟨_, rfl, hq.2 u tk2⟩))
end
end PySem.W
namespace EM
open PySem PySem.Spec PyProof.Rows L2
theorem tupRepr_depth {A : Around} {T : Addr} : (A.under (.builtin "tuple.__repr__" ⟨[.ref T], []⟩)).depth ≤ A.depth + 1 := by
  first | exact Nat.le_refl _ | (simp [Around.under, Code.weight, Code.isCreation, Code.isGuard, Code.isCaller, Code.frames, Code.isFrame, guardIds]; done) | (simp [Around.under, Code.weight, Code.isCreation, Code.isGuard, Code.isCaller, Code.frames, Code.isFrame, guardIds]; omega)
theorem tupRepr_units {A : Around} {T : Addr} : (A.under (.builtin "tuple.__repr__" ⟨[.ref T], []⟩)).units = A.units + 1 := units_under_tuple_repr A _
theorem Room.tupRepr {k : Nat} {A : Around} {T : Addr} (r : Room (k + 1) A) : Room k (A.under (.builtin "tuple.__repr__" ⟨[.ref T], []⟩)) :=
  ⟨r.hd, by have := r.dp; have := tupRepr_depth (A := A) (T := T); omega, by have := r.un; rw [tupRepr_units]; omega⟩
theorem Env0.tupRepr {P : Program} {w : World} {K : PySem.W.Frag} {mg : Str → Option Value} {base : Heap} {A : Around} {outer : List Env} {s : Shared} {H : Hp} {T : Addr} (e : Env0 P w K mg base A outer s H) :
    Env0 P w K mg base (A.under (.builtin "tuple.__repr__" ⟨[.ref T], []⟩)) outer s H := ⟨by first | exact e.frames | (simpa [Around.under, Code.envs, Code.isFrame, pushEnvs] using e.frames), e.mod, e.bs, e.bsz, e.funs, e.frf, e.hok, e.bare⟩
def rReprP (C : Addr) (sp : Sp) (E : XK) : List V → Hp → VK → Prop := fun xs H Q => ∃ T z a dx fs, xs = [.ref T] ∧ H T = some (.tup [.str z, .ref a]) ∧ H a = some (.ins C dx fs) ∧ (reprText z).length ≤ 1000 ∧ sp [.ref a] H (fun v H' => ∃ t, v = .str t ∧ (tupleText [reprText z, t]).length ≤ sizeLine ∧ Q (.str (tupleText [reprText z, t])) H') E
def rReprE : List V → Hp → VK → Prop := fun xs H Q => ∃ T z d, xs = [.ref T] ∧ H T = some (.tup [.str z, .ref d]) ∧ H d = some (.dK []) ∧ (reprText z).length ≤ 1000 ∧ Q (.str (tupleText [reprText z, dictText []])) H
section
variable {X : Cx} {CX : CXT} {n : Nat} {g C : Addr} {sp : Sp} {E : XK}
theorem tup_data {pins : List (Addr × Obj)} {s : Shared} {σ : L2.St} {H : Hp} {T : Addr} {z : Str} {v : V} (I : Inv X pins σ H s) (hT : H T = some (.tup [.str z, v])) : ∃ o t u n, s.heap.get? T = some o ∧ o.cls = .type "tuple" ∧ o.data = .seq #[.str z t, u] n ∧ RelV v u := by
  obtain ⟨its, rv, ⟨o, e, c, n, d⟩, _⟩ := I.tuple (SqT.of hT)
  cases rv with
  | cons r1 rr =>
    cases rr with
    | cons r2 rr2 =>
      cases rr2
      obtain ⟨t, rfl⟩ := r1
      exact ⟨o, t, _, n, e, c, d, r2⟩
theorem call_reprP (hs : PySem.W.findIn X.K (.ref C) "__repr__" = some (some (.ref g))) (hf : PySem.W.isFn X.K (.ref g) = true) (F : FnR X.prog X.w X.K X.mg X.base CX n g sp) (hG : X.A.guards = some []) (hr : Room (n + 2) X.A) (hx : Passes CX X E) : CallR X (.builtin "repr") (rReprP C sp E) := by
  intro pins s σ H xs us Q I r h
  obtain ⟨T, z, a, dx, fs, rfl, hT, ha, hz, q⟩ := h
  cases r with
  | cons rx rr =>
    cases rr
    rename_i u
    cases (show u = Value.ref T from rx)
    obtain ⟨o, t, u, n', e, c, d, ru⟩ := tup_data I hT
    cases (show u = Value.ref a from ru)
    refine PySem.W.em_reprPair (hr.in1).units0 hG e c d hz fun tk b hb => ?_
    have I2 : Inv X pins σ H { s with toks := tk } := I.tok tk
    obtain ⟨ox, od, J, _⟩ := ins_at I2 ha
    have hb2 : b ≤ sizeLine := Nat.le_trans hb (by decide)
    refine PySem.W.em_under hb2 (by rw [tupRepr_units]; have := (hr.in1).un; omega) I2.kIn J hs hf ?_
    have c2 := SlX.run_at (us := [.ref a]) (ws := [.ref a]) F (Room.tupRepr (T := T) hr.in1) (Env0.tupRepr (T := T) I2.env0.in1) hx I2 (.cons rfl .nil) q
    refine wpAny_mono (wpAny_call c2) (fun w s' z => ?_) fun _ _ x => x
    obtain ⟨z', H', I', rz, t2, ez, hl, qz⟩ := z
    subst ez
    obtain ⟨t3, rfl⟩ := (show ∃ t, w = Value.str t2 t from rz)
    exact ⟨t2, t3, rfl, hl, fun u tk2 => ⟨.str _, H', I'.tok tk2, ⟨u, rfl⟩, qz⟩⟩
theorem call_reprE (hG : X.A.guards = some []) (hr : Room n X.A) : CallR X (.builtin "repr") rReprE := by
  intro pins s σ H xs us Q I r h
  obtain ⟨T, z, a, rfl, hT, ha, hz, q⟩ := h
  cases r with
  | cons rx rr =>
    cases rr
    rename_i u
    cases (show u = Value.ref T from rx)
    obtain ⟨o, t, u, n', e, c, d, ru⟩ := tup_data I hT
    cases (show u = Value.ref a from ru)
    have hne : T ≠ a := fun z => by
      rw [z, ha] at hT
      cases hT
    have hl : (tupleText [reprText z, dictText []]).length ≤ sizeLine := by
      have h1 := tupleText_len_le [reprText z, dictText []]
      have h2 : (dictText []).length = 2 := by decide +kernel
      simp only [List.map_cons, List.map_nil, List.sum_cons, List.sum_nil, List.length_cons, List.length_nil, h2] at h1
      have h3 : 10000 ≤ sizeLine := by decide
      omega
    refine PySem.W.em_reprPair (by show X.A.units + 1 < cLine; have := hr.un; omega) hG e c d hz fun tk b hb => ?_
    have I2 : Inv X pins σ H { s with toks := tk } := I.tok tk
    obtain ⟨_, hsys, vs, kv, od, es, ep, e1, ed, e2, _, pr, _⟩ := I2.hok a _ ha
    cases kv
    have hes : es.toList = [] := by
      cases hp : es.toList with
      | nil => rfl
      | cons x r =>
        rw [hp] at pr
        cases pr
    have R : ReprK X.prog X.w [a] s.heap 1 (.ref a) (dictText []) := ReprK.dict e1 ed.1 e2 hsys (by simp) (by rw [hes]; exact .nil)
    refine R b (by have : (dictText []).length = 2 := by decide +kernel
                   have h3 : 10000 ≤ sizeLine := by decide
                   omega) _ _ _ _ _ (guards_under_guard (isGuard_tuple_repr _) hG) (fun b hb => ?_) (by rw [tupRepr_units]; show X.A.units + 1 + 1 + 1 < cLine; have := hr.un; omega) (fun b o e => e) fun h' tk2 hk => ⟨hl, fun u tk3 => ⟨.str _, H, I2.kept (t' := tk3) hk, ⟨u, rfl⟩, q⟩⟩
    rw [List.mem_singleton.mp hb]
    exact (Clear.nil a).cons hne
end
end EM
/-! EM61: len of an instance, an instance subscripted, by its own defs. -/
namespace EM
open PySem PySem.Spec PyProof.Rows L2
def rIxO (C : Addr) (sp : Sp) (E : XK) : R2 := fun x y H Q => ∃ a dx fs, x = .ref a ∧ H a = some (.ins C dx fs) ∧ sp [.ref a, y] H Q E
def rLenO (C : Addr) (sp : Sp) (E : XK) : List V → Hp → VK → Prop := fun xs H Q => ∃ a dx fs, xs = [.ref a] ∧ H a = some (.ins C dx fs) ∧ sp [.ref a] H (fun v H' => ∃ n : Nat, v = .int n ∧ n < 1000000 ∧ Q (.int n) H') E
section
variable {X : Cx} {CX : CXT} {n : Nat} {g C : Addr} {sp : Sp} {E : XK} {a b : Expr} {ta tb : TE} {pos : Pos}
theorem pe_ixO (hs : PySem.W.findIn X.K (.ref C) "__getitem__" = some (some (.ref g))) (hi : PySem.W.fnIn X.K g = true) (hf : PySem.W.isFn X.K (.ref g) = true) (F : FnR X.prog X.w X.K X.mg X.base CX n g sp) (hr : Room (n + 1) X.A) (hx : Passes CX X E)
    (ha : PE X a ta) (hb : PE X b tb) (hsl : ∀ o i, subscripted b true o i = runValue (.builtin "lifetime.subscript" ⟨[o, i], []⟩) := by exact fun _ _ => rfl) : PE X (.Subscript a b pos) (tOp (rIxO C sp E) ta tb) := by
  refine ⟨fun pins s σ H Q I h => ?_⟩
  refine Subscript_ (binT ha hb I h fun v u s2 x y H2 I2 rx ry q => ?_)
  obtain ⟨a, dx, fs, rfl, hA, q⟩ := q
  cases (show v = Value.ref a from rx)
  obtain ⟨ox, od, J, _⟩ := ins_at I2 hA
  obtain ⟨m, hF⟩ := I2.fr
  have c := SlX.run_at (us := [.ref a, u]) (ws := [.ref a, y]) F hr.in1 I2.env0.in1 hx I2 (.cons rfl (.cons ry .nil)) q
  exact PySem.W.sub_K hF I2.ok.mod.kin J hs hi hf (wpAny_call c) (hsl _ _)
theorem call_lenO (hs : PySem.W.findIn X.K (.ref C) "__len__" = some (some (.ref g))) (hf : PySem.W.isFn X.K (.ref g) = true) (F : FnR X.prog X.w X.K X.mg X.base CX n g sp) (hr : Room (n + 1) X.A) (hx : Passes CX X E) : CallR X (.builtin "len") (rLenO C sp E) := by
  intro pins s σ H xs us Q I r h
  obtain ⟨a, dx, fs, rfl, ha, q⟩ := h
  cases r with
  | cons rx rr =>
    cases rr
    rename_i u
    cases (show u = Value.ref a from rx)
    obtain ⟨ox, od, J, _⟩ := ins_at I ha
    obtain ⟨m, hF⟩ := I.fr
    refine PySem.W.len_K hF I.ok.mod.kin J hs hf ?_
    have c := SlX.run_at (us := [.ref a]) (ws := [.ref a]) F hr.in1 I.env0.in1 hx I (.cons rfl .nil) q
    refine wpAny_mono (wpAny_call c) (fun w s' z => ?_) fun _ _ x => x
    obtain ⟨z', H', I', rz, k, ez, hk, qz⟩ := z
    subst ez
    obtain ⟨t, rfl⟩ := (show ∃ t, w = Value.int k t from rz)
    exact ⟨⟨by omega, by omega⟩, ⟨.int k, H', I'.tok _, ⟨_, rfl⟩, qz⟩⟩
end
end EM
/-! EM62: an error kept in a name behind its except suite. -/
namespace EM
open PySem PySem.Spec PyProof.Rows L2
/-- a caught error of the class cls with the dict d, kept at a -/
def exK (a : Addr) (cls : Value) (d : Option Addr) : HO := .ext fun h => ∃ (oe : Obj) (vs : Array Value), h.get? a = some oe ∧ Zc cls d oe ∧ oe.data = .fields vs
theorem exK_ok {P : Program} {w : World} {H : Hp} {h : Heap} {a : Addr} {cls : Value} {d : Option Addr} {oe : Obj} (e : h.get? a = some oe) (z : Zc cls d oe) (f : ∃ vs, oe.data = .fields vs) : ObjOk P w H h a (exK a cls d) := by
  obtain ⟨vs, hv⟩ := f
  exact ⟨⟨oe, vs, e, z, hv⟩, ⟨oe, e⟩, fun _ _ ⟨o, v, q, r⟩ k => ⟨o, v, k o q, r⟩⟩
theorem exK_tup {a : Addr} {cls : Value} {d : Option Addr} {xs : List V} : exK a cls d ≠ .tup xs := fun z => by
  unfold exK at z
  cases z
theorem _root_.L2.Inv.trackX {X : Cx} {pins : List (Addr × Obj)} {σ : L2.St} {H : Hp} {s : Shared} {a : Addr} {cls : Value} {d : Option Addr} {oe : Obj} (I : Inv X pins σ H s) (e : s.heap.get? a = some oe) (hn : H a = none) (z : Zc cls d oe) (f : ∃ vs, oe.data = .fields vs) (n0 : X.s_0.heap.get? a = none) (nL : a ≠ X.env.locals)
    (npin : ∀ p ∈ X.pn ++ pins, p.1 ≠ a) (ncell : ∀ x c, X.env.cells.lookup x = some c → c ≠ a) : Inv X pins σ (upd H a (exK a cls d)) s where
  ok := I.ok
  os := I.os
  bare := I.bare
  base := {
    keep := I.base.keep
    slot := I.base.slot
    free := fun b o q n hx => by rw [upd_ne (fun z => by rw [z, n0] at q; cases q)]; exact I.base.free b o q n hx
    there := I.base.there
    tups := fun b xs q => by
      have := I.base.tups b xs q
      rw [upd_ne (ne_of_none this hn)]
      exact this
    frzs := fun b o u q => by
      have := I.base.frzs b o u q
      rw [upd_ne (ne_of_none this hn)]
      exact this
    tbls := fun b ps q => by
      obtain ⟨more, this⟩ := I.base.tbls b ps q
      exact ⟨more, by rw [upd_ne (ne_of_none this hn)]; exact this⟩ }
  loc := I.loc
  cell := I.cell
  free := by rw [upd_ne nL.symm]; exact I.free
  freeC := fun x c hc => by rw [upd_ne (ncell x c hc)]; exact I.freeC x c hc
  pin := fun p hp => by
    obtain ⟨h1, h2, h3⟩ := I.pin p hp
    exact ⟨h1, by rw [upd_ne (npin p hp)]; exact h2, h3⟩
  hok := L2.HOk.laidN I.hok (fun _ _ q => q) hn (exK_ok e z f)
  len := I.len
theorem sky_none {B : Heap} {l : List Env} {a : Addr} {Z : Obj → Prop} {L : Addr} {h : Heap} (s : Sky B l a Z L h) : B.get? a = none := by
  rcases s with s | s | s
  · exact s.2.1
  · exact s.2.1
  · exact s.2.1
/-- behind a suite that held its error in slot i: the error stays -/
def goneK (i : Nat) (a : Addr) (cls : Value) (d : Option Addr) (D : Ends) : Ends := { nx := fun σ' H' => D.nx (σ'.set i none) (upd H' a (exK a cls d)), rt := D.rt, bk := fun σ' H' => D.bk (σ'.set i none) H', ct := fun σ' H' => D.ct (σ'.set i none) H' }
def wHdsK (K : PySem.W.Frag) (Wout : WX) (D : Ends) : List Hd → WX
  | [] => Wout
  | (c, none, ts) :: r => fun cls d σ H => ∃ b, PySem.W.exmOne K cls c = some b ∧ (b = true → ∀ a, H a = none → ts a cls d D σ H) ∧ (b = false → wHdsK K Wout D r cls d σ H)
  | (c, some i, ts) :: r => fun cls d σ H => ∃ b, PySem.W.exmOne K cls c = some b ∧ (b = true → ∀ a, H a = none → ts a cls d (goneK i a cls d D) (σ.set i (some (.ref a))) H) ∧ (b = false → wHdsK K Wout D r cls d σ H)
section
variable {X : Cx} {body : List Stmt} {h₀ : ExceptHandler} {hds : List ExceptHandler} {l : List Hd} {pos : Pos} {tb : WX → TS} {Wout : WX}
theorem ps_tryK (hs : X.stack = X.env :: X.outer) (hf : X.env.frame = some X.env.locals) (hN : X.N.Nodup) (hx : X.ex = []) (tk : Takes X Wout)
    (hb : ∀ (W : WX) (pn : List (Addr × Obj)) (xe : Value → Shared → Prop), Takes (X.tr pn xe) W → PassesOwn (model X.prog X.w) X.A X.env xe → PSs (X.tr pn xe) body (tb W))
    (hh : HdsN X (h₀ :: hds) l) : PS X (.Try body (h₀ :: hds) [] [] pos) (fun D σ H => tb (wHdsK X.K Wout D l) D σ H) := by
  refine ⟨fun pins s σ H D I h => ?_⟩
  have ok := I.ok
  have hfr : X.A.frames = some (X.env :: X.outer) := by rw [ok.frames, hs]
  refine wpAny_Try_except ?_
  refine wpAny_mono ((hb (wHdsK X.K Wout D l) (X.pn ++ pins) (fun e s₁ => wpAny (model X.prog X.w) X.A (noteFrame e X.env) (fun _ s₂ => wpAny (model X.prog X.w) X.A (setFlight e none) (fun _ s₃ =>
    wpAny (model X.prog X.w) X.A (handleBy e X.env (h₀ :: hds)) (SP X pins D) X.xe s₃) X.xe s₂) X.xe s₁) (fun u s' xx => ?_) PassesOwn.looking).run [] s σ H D (I.toTry _) h) (fun f s1 hsp => ?_) (fun e s1 he => he)
  · obtain ⟨a, B, sI, pins', σ', H', cls, d, rfl, J', nb, up, sky, na, os, ag, w⟩ := xx
    have J : Inv X pins σ' H' sI := J'.ofTry ok
    have sky' : Sky B (X.env :: X.outer) a (Zc cls d) X.env.locals s'.heap := by rw [← hs]; exact sky
    show wpAny (model X.prog X.w) X.A (noteFrame (.ref a) X.env) _ _ _
    refine Sky.land Zc.steady hfr hf sky' fun h3 fl3 up3 => ?_
    have J3 : Inv X pins σ' H' { s' with heap := h3 } := J.landed nb fl3.1 (up.trans up3) os ag
    obtain ⟨oe3, vs3, he3, hz3, hd3⟩ := fl3.there
    have nfr : a ∉ frs (X.env :: X.outer) := fun hm => by
      obtain ⟨_, o', e', hnf⟩ := fl3.2.2.1.mem hm
      rw [he3] at e'; cases e'
      exact hnf _ hd3
    have nL : a ≠ X.env.locals := fun z => nfr (List.mem_filterMap.mpr ⟨X.env, List.mem_cons_self, by rw [hf, z]⟩)
    have nF : a ∉ X.fs := fun hm => by
      obtain ⟨e, he, q⟩ := List.mem_filterMap.mp hm
      exact nfr (List.mem_filterMap.mpr ⟨e, List.mem_cons_of_mem _ he, q⟩)
    have S3 := J3.suite he3 hd3 na nL nF
    have nI : sI.heap.get? a = none := by
      cases z : sI.heap.get? a with
      | none => rfl
      | some o =>
        have e1 := nb a o z (by rw [hs]; exact nfr)
        have e2 := sky_none sky
        rw [e1] at e2
        cases e2
    have n0 : X.s_0.heap.get? a = none := by
      cases z : X.s_0.heap.get? a with
      | none => rfl
      | some o =>
        obtain ⟨o', e'⟩ := J.base.there a o z (by rw [hx]; exact List.not_mem_nil)
        rw [nI] at e'
        cases e'
    have npin : ∀ p ∈ X.pn ++ pins, p.1 ≠ a := fun p hp z => by
      have e1 := (J.pin p hp).1
      rw [z, nI] at e1
      cases e1
    have ncell : ∀ x c, X.env.cells.lookup x = some c → c ≠ a := fun x c hc z => by
      obtain ⟨v, hv⟩ := J.cell x c hc
      obtain ⟨o, ho, _⟩ := hv
      rw [z, nI] at ho
      cases ho
    have LT : PySem.W.Looks (model X.prog X.w) h3 (typeOf (.ref a)) cls := fun A Q E s k q => wpAny_typeOf_ref (k _ _ he3) (by rw [hz3.1]; exact q)
    have test : ∀ {x : Str} {c : Value} {np : Pos}, Names X x c → ∀ {Q : Value → Shared → Prop} {E : Value → Shared → Prop}, Q c { s' with heap := h3 } → wpAny (model X.prog X.w) (X.A.mark (some (.ref a))) (eval (.Name x np) X.env) Q E { s' with heap := h3 } := fun {x c np} hc {Q E} q => by
      obtain ⟨hg, hdbg, hm | ⟨hm, hv, hnn⟩⟩ := hc
      · exact ld_glob (X := X.suite a ((a, oe3) :: (X.pn ++ pins))) S3 hg hm q hdbg
      · exact ld_blt (X := X.suite a ((a, oe3) :: (X.pn ++ pins))) S3 hg hm hv q hnn hdbg
    have go : ∀ {hds' : List ExceptHandler} {l' : List Hd}, HdsN X hds' l' → wHdsK X.K Wout D l' cls d σ' H' →
        wpAny (model X.prog X.w) X.A (handleBy (.ref a) X.env hds') (SP X pins D) X.xe { s' with heap := h3 } := by
      intro hds' l' hk
      induction hk with
      | nil =>
        intro w
        refine wpAny_handleBy_nil ?_
        obtain ⟨k1, k2, k3, oe, vs, T, oT, ts', he, hz, hd, h1, hr⟩ := id fl3
        unfold PySem.passOn
        refine wpAny_bind (wpAny_field he hd h1 ?_)
        rw [if_neg (show ¬ ((Value.ref T == Value.none) = true) from by simp)]
        have fin : wpAny (model X.prog X.w) X.A (setFlight (.ref a) X.env.frame) (fun _ s4 => wpAny (model X.prog X.w) X.A (throw (.ref a) : Sem Flow) (SP X pins D) X.xe s4) X.xe { s' with heap := h3 } := by
          rw [hf]
          refine HandSPX.setFlight_upZ fl3 fun h4 hh4 up4 => wpAny_throw (tk _ _ ?_)
          exact ⟨a, B, sI, pins, σ', H', cls, d, rfl, J, nb, (up.trans up3).trans up4, .inr (.inr (by rw [hs]; exact hh4)), na, os, ag, w⟩
        first
          | exact wpAny_bind (wpAny_pure (wpAny_bind fin))
          | exact wpAny_bind fin
      | @cons x c ts b₀ suite np pos' hds2 l2 hc hsu r ih =>
        intro w
        obtain ⟨b, hb1, hyes, hno⟩ := w
        refine wpAny_handleBy_cons (codeAny_handlers_test ?_) (by intro q; cases q)
        have LM := PySem.W.exm_one (M := model X.prog X.w) (J3.kIn) LT hb1
        refine test hc (LM.here ?_)
        cases b with
        | true =>
          refine codeAny_handlers_suite (HandSPX.lands_againZ fl3 fun h4 fl4 up4 => ?_)
          have J4 : Inv X pins σ' H' { s' with heap := h4 } := J.landed nb fl4.1 ((up.trans up3).trans up4) os ag
          obtain ⟨oe4, vs4, he4, hz4, hd4⟩ := fl4.there
          have S4 := J4.suite he4 hd4 na nL nF
          refine wpAny_mono ((hsu a oe4 cls d (X.pn ++ pins) hz4 ⟨_, hd4⟩).run [] _ _ H' _ S4 (hyes rfl a na)) (fun f s6 hsp => ?_) (fun _ _ z => False.elim z)
          cases f with
          | ret u =>
            obtain ⟨v6, σ6, H6, S6, r6, q6⟩ := hsp
            exact ⟨_, _, _, S6.unsuite ok, r6, q6⟩
          | next => obtain ⟨σ6, H6, S6, q6⟩ := hsp; exact ⟨_, _, S6.unsuite ok, q6⟩
          | brk => obtain ⟨σ6, H6, S6, q6⟩ := hsp; exact ⟨_, _, S6.unsuite ok, q6⟩
          | cont => obtain ⟨σ6, H6, S6, q6⟩ := hsp; exact ⟨_, _, S6.unsuite ok, q6⟩
        | false =>
          show wpAny _ X.A (handleBy (.ref a) X.env hds2) _ _ _
          exact ih (hno rfl)
      | @named x n i c ts b₀ suite np pos' hds2 l2 hc hi hln hsu r ih =>
        intro w
        obtain ⟨b, hb1, hyes, hno⟩ := w
        refine wpAny_handleBy_cons (codeAny_handlers_test ?_) (by intro q; cases q)
        have LM := PySem.W.exm_one (M := model X.prog X.w) (J3.kIn) LT hb1
        refine test hc (LM.here ?_)
        cases b with
        | true =>
          refine codeAny_handlers_suite_as (HandSPX.lands_againZ fl3 fun h4 fl4 up4 => ?_)
          have J4 : Inv X pins σ' H' { s' with heap := h4 } := J.landed nb fl4.1 ((up.trans up3).trans up4) os ag
          obtain ⟨oe4, vs4, he4, hz4, hd4⟩ := fl4.there
          have S4 := J4.suite he4 hd4 na nL nF
          refine store_ok (X := X.suite a ((a, oe4) :: (X.pn ++ pins))) (v := .ref a) S4 hN hi (Or.inl hln) rfl (fun s5 S5 => ?_) (.inr hln)
          refine wpAny_mono ((hsu a oe4 cls d (X.pn ++ pins) hz4 ⟨_, hd4⟩).run [] s5 _ H' _ S5 (hyes rfl a na)) (fun f s6 hsp => ?_) (fun _ _ z => False.elim z)
          have finK : ∀ {σ6 : L2.St} {H6 : Hp} {Q : Shared → Prop}, Inv (X.suite a ((a, oe4) :: (X.pn ++ pins))) [] σ6 H6 s6 → (∀ s7, Inv X pins (σ6.set i none) (upd H6 a (exK a cls d)) s7 → Q s7) →
              wpAny (model X.prog X.w) X.A (do bindName X.env n .none; unbindBehindTheSuite X.env n pos') (fun _ s7 => Q s7) X.xe s6 := fun {σ6 H6 Q} S6 hq => by
            obtain ⟨p1, p2, p3, p4, _⟩ := S6.pin (a, oe4) (List.mem_append.mpr (.inl List.mem_cons_self))
            exact gone_ok ((S6.unsuite ok).trackX p1 p2 hz4 ⟨_, hd4⟩ n0 nL npin ncell) hN hi hln hq
          have fin2 : ∀ {σ6 : L2.St} {H6 : Hp} {Q : Shared → Prop}, Inv (X.suite a ((a, oe4) :: (X.pn ++ pins))) [] σ6 H6 s6 → (∀ s7, Inv X pins (σ6.set i none) H6 s7 → Q s7) →
              wpAny (model X.prog X.w) X.A (do bindName X.env n .none; unbindBehindTheSuite X.env n pos') (fun _ s7 => Q s7) X.xe s6 := fun {σ6 H6 Q} S6 hq => gone_ok (S6.unsuite ok) hN hi hln hq
          cases f with
          | ret u =>
            obtain ⟨v6, σ6, H6, S6, r6, q6⟩ := hsp
            exact fin2 S6 fun s7 J7 => ⟨_, _, _, J7, r6, q6⟩
          | next => obtain ⟨σ6, H6, S6, q6⟩ := hsp; exact finK S6 fun s7 J7 => ⟨_, _, J7, q6⟩
          | brk => obtain ⟨σ6, H6, S6, q6⟩ := hsp; exact fin2 S6 fun s7 J7 => ⟨_, _, J7, q6⟩
          | cont => obtain ⟨σ6, H6, S6, q6⟩ := hsp; exact fin2 S6 fun s7 J7 => ⟨_, _, J7, q6⟩
        | false =>
          show wpAny _ X.A (handleBy (.ref a) X.env hds2) _ _ _
          exact ih (hno rfl)
    exact go hh w
  · cases f with
    | ret u =>
      obtain ⟨v, σ', H', J', r, q⟩ := hsp
      exact ⟨v, σ', H', J'.ofTry ok, r, q⟩
    | next => obtain ⟨σ', H', J', q⟩ := hsp; exact wpAny_execs_nil ⟨σ', H', J'.ofTry ok, q⟩
    | brk => obtain ⟨σ', H', J', q⟩ := hsp; exact ⟨σ', H', J'.ofTry ok, q⟩
    | cont => obtain ⟨σ', H', J', q⟩ := hsp; exact ⟨σ', H', J'.ofTry ok, q⟩
end
end EM
/-! EM63: isinstance and the fields of an error that is kept in a name. -/
namespace EM
open PySem PySem.Spec PyProof.Rows L2
structure ExcK (K : PySem.W.Frag) (D : Addr) : Prop where
  c : ExcC K D
  cl : (PySem.W.clsIn K D).isSome = true
theorem excB_ok {K : PySem.W.Frag} {D : Addr} (h : excB K D = true) : ExcK K D := by
  obtain ⟨h1, h⟩ := Bool.and_eq_true_iff.mp h
  obtain ⟨h2, h⟩ := Bool.and_eq_true_iff.mp h
  obtain ⟨h3, h⟩ := Bool.and_eq_true_iff.mp h
  obtain ⟨h4, h⟩ := Bool.and_eq_true_iff.mp h
  obtain ⟨h5, h⟩ := Bool.and_eq_true_iff.mp h
  obtain ⟨h6, h⟩ := Bool.and_eq_true_iff.mp h
  obtain ⟨h7, h⟩ := Bool.and_eq_true_iff.mp h
  obtain ⟨h8, h9⟩ := Bool.and_eq_true_iff.mp h
  exact ⟨⟨of_decide_eq_true h1, of_decide_eq_true h2, of_decide_eq_true h3, h4, of_decide_eq_true h5, of_decide_eq_true h6, of_decide_eq_true h7, of_decide_eq_true h8⟩, h9⟩
/-- an error of the class C with the fields fs is kept at a -/
structure ErrP (p : Addr) (H : Hp) (a C d : Addr) (fs : List (Str × V)) : Prop where
  at_ : At p H a (exK a (.ref C) (some d))
  xd : At p H d (.xd fs)
theorem exK_ntbl {a : Addr} {cls : Value} {d : Option Addr} : ∀ ps, exK a cls d ≠ .tbl ps := fun ps z => by
  unfold exK at z
  cases z
theorem exK_nlst {a : Addr} {cls : Value} {d : Option Addr} : ∀ xs, exK a cls d ≠ .lst xs := fun ps z => by
  unfold exK at z
  cases z
theorem ErrP.ext {p : Addr} {H H' : Hp} {a C d : Addr} {fs : List (Str × V)} (h : ErrP p H a C d fs) (x : Ext p H H') : ErrP p H' a C d fs := ⟨h.at_.ext x, h.xd.ext x⟩
theorem Mu.err {p : Addr} {H H' : Hp} {a C d c : Addr} {fs : List (Str × V)} {xs ys : List V} (m : Mu c H H' (.lst ys)) (h : ErrP p H a C d fs) (g : At p H c (.lst xs)) : ErrP p H' a C d fs :=
  ⟨m.at_k h.at_ g exK_nlst, m.at_k h.xd g (by intro _ z; cases z)⟩
/-- the kept error is tracked from here on -/
theorem Bs.keepX {T : List (Addr × Str)} {p l a : Addr} {n : Nat} {H : Hp} {cls : Value} {d : Option Addr} (B : Bs T p l n H) (h : H a = none) : New H a (exK a cls d) (upd H a (exK a cls d)) := ⟨h, same_upd h, upd_same⟩
def rIsX (K : PySem.W.Frag) : List V → Hp → VK → Prop := fun xs H Q => ∃ p a C d fs c, xs = [.ref a, c] ∧ ErrP p H a C d fs ∧ ExcK K C ∧
  ((∃ cv b, ClsV c cv ∧ PySem.W.kitOne K (.ref C) cv = some b ∧ Q (.bl b) H) ∨ (∃ tp cs us b, c = .ref tp ∧ H tp = some (.tup cs) ∧ Paired ClsV cs us ∧ PySem.W.kitAny K (.ref C) us = some b ∧ Q (.bl b) H))
section
variable {X : Cx} {p : Addr}
theorem err_inst {pins : List (Addr × Obj)} {s : Shared} {σ : L2.St} {H : Hp} {a C d : Addr} {fs : List (Str × V)} (I : Inv X pins σ H s) (h : ErrP p H a C d fs) : ∃ oe od, PySem.W.InstAt s.heap a oe C (some od) ∧ s.heap.get? a = some oe ∧ s.heap.get? d = some od ∧ (∃ vs, oe.data = .fields vs) := by
  obtain ⟨⟨oe, vs, h1, hz, hd⟩, _⟩ := I.hok a _ h.at_.at_
  obtain ⟨mA, hns, hr⟩ := (show ObjOk X.prog X.w H s.heap d (.xd fs) from I.hok d _ h.xd.at_)
  obtain ⟨od, ho, hl⟩ := lookIn_ns hns
  exact ⟨oe, od, ⟨h1, hz.1, by unfold PySem.W.notCls; rw [hd] <;> rfl, by rw [hz.2]; exact ho⟩, h1, ho, vs, hd⟩
theorem call_isX : CallR X (.builtin "isinstance") (rIsX X.K) := by
  intro pins s σ H xs us Q I r h
  obtain ⟨p, a, C, d, fs, c, rfl, he, K1, h⟩ := h
  obtain ⟨oe, od, J, h1, _, vs, hv⟩ := err_inst I he
  obtain ⟨u1, u2, rfl, r1, r2⟩ := vals2 r
  cases (show u1 = Value.ref a from r1)
  have Z := PySem.W.kitx_exc (x := a) (ox := oe) (od := some od) K1.cl K1.c.hg K1.c.hk K1.c.hs K1.c.ha K1.c.hn K1.c.ht K1.c.hm
  rcases h with ⟨cv, b, k, e, q⟩ | ⟨tp, cs, ws, b, rfl, hT, k, e, q⟩
  · have e2 := k.eq r2
    subst e2
    exact PySem.W.kia_one Z I.kIn J e (fun z => nomatch z) fun tk => ⟨.bl b, H, I.tok tk, rfl, q⟩
  · cases (show u2 = Value.ref tp from r2)
    obtain ⟨_, its, rv, o, h1, h2, n, h3⟩ := (show ObjOk X.prog X.w H s.heap tp (.tup cs) from I.hok tp _ hT)
    have e3 := ClsV.all k rv
    subst e3
    obtain ⟨oc, od, dt, sl⟩ := o
    simp only at h2 h3
    subst h2 h3
    exact PySem.W.kia_tup Z I.kIn J h1 e (fun z => nomatch z) fun tk => ⟨.bl b, H, I.tok tk, rfl, q⟩
/-- the reading of a field of a kept error -/
structure XkS (K : PySem.W.Frag) (n : Str) (x : V) (H1 : Hp) (Q : VK) : Prop where
  h : ∃ p a C d fs v, x = .ref a ∧ ErrP p H1 a C d fs ∧ XfC K C ∧ PySem.W.findIn K (.ref C) n = some none ∧ fs.lookup n = some v ∧ Q v H1
def tXk (K : PySem.W.Frag) (n : Str) (te : TE) : TE := fun σ H Q => te σ H fun x H1 => XkS K n x H1 Q
theorem pe_xk {e : Expr} {te : TE} {pos : Pos} {n : Str} (he : PE X e te) (hb : attributeBase e n X.env (eval e X.env) = eval e X.env := by rfl) : PE X (.Attribute e n pos) (tXk X.K n te) := by
  refine ⟨fun pins s σ H Q I h => ?_⟩
  refine attr_of hb (thn (he.run pins s σ H _ I h) fun u s1 hh => ?_)
  obtain ⟨x, H1, I1, rx, ⟨p, a, C, d, fs, v, ex, E1, T, hno, l, q⟩⟩ := hh
  subst ex
  obtain rfl : u = Value.ref a := rx
  obtain ⟨⟨oe, vs, h1, hz, hd⟩, _⟩ := I1.hok a _ E1.at_.at_
  obtain ⟨mA, hns, hr⟩ := (show ObjOk X.prog X.w H1 s1.heap d (.xd fs) from I1.hok d _ E1.xd.at_)
  obtain ⟨od, ho, hl⟩ := lookIn_ns hns
  obtain ⟨u, hu, ru⟩ := RelO.some_of (v := v) (o := mA n) (by rw [← l]; exact hr n)
  have J : PySem.W.InstAt s1.heap a oe C (some od) := ⟨h1, hz.1, by unfold PySem.W.notCls; rw [hd] <;> rfl, by rw [hz.2]; exact ho⟩
  exact HandSPX.exc_get I1.kIn J T.ga T.gg T.exC (PySem.W.findObj_own T.hdC hno rfl (by rw [hl, hu])) (handed_of ru) ⟨v, H1, I1.tok _, ru, q⟩
end
end EM
/-! EM64: an instance whose field is written; readings: rows of rising fractions. -/
namespace EM
open PySem PySem.Spec PyProof.Rows L2
/-- all but the pen, the tables and the instance r stays -/
structure XtR (p r : Addr) (H H' : Hp) : Prop where
  k : ∀ b o, H b = some o → b ≠ p → b ≠ r → (∀ ps, o ≠ .tbl ps) → H' b = some o
section
variable {T : List (Addr × Str)} {p l l0 r a b : Addr} {n : Nat} {H H1 H2 H' : Hp} {o o2 : HO} {K : PySem.W.Frag} {xs ys : List V} {v : V} {t c : Int} {C dx : Addr} {fs gs : List (Str × V)}
theorem XtR.refl : XtR p r H H := ⟨fun _ _ e _ _ _ => e⟩
theorem XtR.of (x : Ext p H H') : XtR p r H H' := ⟨fun b o e n1 _ n3 => x.k b o e n1 n3⟩
theorem XtR.trans (x : XtR p r H H1) (y : XtR p r H1 H2) : XtR p r H H2 := ⟨fun b o e n1 n2 n3 => y.k b o (x.k b o e n1 n2 n3) n1 n2 n3⟩
theorem XtR.mu (m : Mu r H H' o) : XtR p r H H' := ⟨fun b u e _ n2 _ => by rw [m.old b n2]; exact e⟩
theorem XtR.at_n (x : XtR p r H H') (h : At p H a o) (nr : a ≠ r) : At p H' a o := ⟨x.k a o h.at_ h.ne nr h.nt, h.ne, h.nt⟩
theorem XtR.at_ (x : XtR p r H H') (h : At p H a o) (g : At p H r (.ins C dx fs)) (ne : o ≠ .ins C dx fs) : At p H' a o := x.at_n h (ne_of h.at_ g.at_ ne)
theorem XtR.rat (x : XtR p r H H') (h : RatP K p H a t c) (g : At p H r (.ins C dx fs)) (ne : fs ≠ rf t c) : RatP K p H' a t c := by
  obtain ⟨⟨d, h⟩, n⟩ := h
  exact ⟨⟨d, x.k a _ h n (ne_of h g.at_ (by intro z; injection z with _ _ z; exact ne z.symm)) (fun _ z => by cases z)⟩, n⟩
theorem XtR.num (x : XtR p r H H') (h : NumP K p H v t c) (g : At p H r (.ins C dx fs)) (ne : fs ≠ rf t c) : NumP K p H' v t c := by
  obtain ⟨⟨lo, h⟩, n⟩ := h
  refine ⟨⟨lo, ?_⟩, n⟩
  rcases h with ⟨a, rfl, q⟩ | h
  · exact .inl ⟨a, rfl, (x.rat (K := K) ⟨q, fun z => n (by rw [z])⟩ g ne).rat⟩
  · exact .inr h
theorem tabs_mutI (t : LamX.Tabs T H) (hM : H a = some (.ins C dx fs)) : LamX.Tabs T (upd H a o) := by
  intro q hq
  obtain ⟨ps, h1, h2, h3⟩ := t q hq
  refine ⟨ps, by rw [upd_ne (ne_of h1 hM (by intro z; cases z))]; exact h1, h2, fun pos cv hc => ?_⟩
  obtain ⟨c, e1, e2⟩ := h3 pos cv hc
  exact ⟨c, e1, by rw [upd_ne (ne_of e2 hM (by unfold LamX.CodeO; intro z; cases z))]; exact e2⟩
theorem Mu.bsI (m : Mu r H H' o) (B : Bs T p l0 n H) (h : At p H r (.ins C dx fs)) : Bs T p l0 n H' := by
  rw [m.eq]
  obtain ⟨cells, at_, q, hp, hl, _⟩ := id B.pen
  exact ⟨B.pen.mut h.ne (ne_of h.at_ hl (by intro z; cases z)), tabs_mutI B.tab h.at_⟩
theorem Mu.hereI (m : Mu r H H' (.ins C dx gs)) (g : At p H r (.ins C dx fs)) : At p H' r (.ins C dx gs) := ⟨m.at_, g.ne, fun _ z => by cases z⟩
end
section
variable {X : Cx} {o e : Expr} {to te : TE} {f : Str} {pos pos' : Pos}
/-- o.f = e -/
def sFldN (K : PySem.W.Frag) (to tv : TE) (f : Str) : TS := fun D σ H => tv σ H fun y H1 => to σ H1 fun x H2 => ∃ a C dx fs, x = .ref a ∧ H2 a = some (.ins C dx fs) ∧ Cls K C ∧ NoAttr K C f ∧ fs.length < 1000 ∧
  ∀ H3, Mu a H2 H3 (.ins C dx (putF f y fs)) → D.nx σ H3
theorem ps_fldN (ha : PE X o to) (hv : PE X e te) (hs : swapsWith e (some (.Attribute o f pos')) pos.line X.env = pure false) : PS X (.Assign [.Attribute o f pos'] e pos) (sFldN X.K to te f) :=
  (ps_fld ha.mc hv.mc hs).of fun D σ H q => ⟨_, q, fun y H1 r1 => ⟨_, r1, fun x H2 ⟨a, C, dx, fs, e1, e2, e3, e4, e5, k⟩ => ⟨a, C, dx, fs, e1, e2, e3, e4, e5, k _ Mu.upd⟩⟩⟩
end
/-! ### readings -/
abbrev rdf (q : Addr) : List (Str × V) := [("own_edges", .ref q)]
/-- the reading at r holds the tuple q of the Ratios es -/
structure RdP (K : PySem.W.Frag) (p : Addr) (H : Hp) (r q : Addr) (es : List (Int × Int)) : Prop where
  h : ∃ dx xs, At p H r (.ins (He.ga K "Reading") dx (rdf q)) ∧ At p H q (.tup xs) ∧ RatsP K p H xs es
section
variable {T : List (Addr × Str)} {p l r q a b : Addr} {n : Nat} {H H1 H2 H' : Hp} {K : PySem.W.Frag} {xs ys : List V} {es : List (Int × Int)}
theorem RatsP.ext (h : RatsP K p H xs es) (x : Ext p H H') : RatsP K p H' xs es := ⟨h.len, fun i y t e1 e2 => by
  obtain ⟨a, e, r⟩ := h.h i y t e1 e2
  exact ⟨a, e, r.ext x⟩⟩
theorem RdP.ext (h : RdP K p H r q es) (x : Ext p H H') : RdP K p H' r q es := by
  obtain ⟨dx, xs, h1, h2, h3⟩ := h
  exact ⟨dx, xs, h1.ext x, h2.ext x, h3.ext x⟩
theorem rdf_ne {t b : Int} : rdf q ≠ rf t b := by
  intro z
  injection z with _ z
  cases z
theorem XtR.rats {C dx : Addr} (x : XtR p r H H') (h : RatsP K p H xs es) (g : At p H r (.ins C dx (rdf q))) : RatsP K p H' xs es := ⟨h.len, fun i y t e1 e2 => by
  obtain ⟨a, e, ra⟩ := h.h i y t e1 e2
  exact ⟨a, e, x.rat ra g rdf_ne⟩⟩
theorem XtR.pairs {C dx : Addr} {fs : List (Str × V)} (x : XtR p r H H') (h : PairsP p H xs es) (g : At p H r (.ins C dx fs)) : PairsP p H' xs es := ⟨h.len, fun i y t e1 e2 => by
  obtain ⟨a, e, ra⟩ := h.h i y t e1 e2
  exact ⟨a, e, x.at_ ra g (by intro z; cases z)⟩⟩
theorem Mu.rats {c : Addr} (m : Mu c H H' (.lst ys)) {zs : List V} (h : RatsP K p H xs es) (g : At p H c (.lst zs)) : RatsP K p H' xs es := ⟨h.len, fun i y t e1 e2 => by
  obtain ⟨a, e, ra⟩ := h.h i y t e1 e2
  exact ⟨a, e, m.rat ra g⟩⟩
theorem Mu.pairs {c : Addr} (m : Mu c H H' (.lst ys)) {zs : List V} (h : PairsP p H xs es) (g : At p H c (.lst zs)) : PairsP p H' xs es := ⟨h.len, fun i y t e1 e2 => by
  obtain ⟨a, e, ra⟩ := h.h i y t e1 e2
  exact ⟨a, e, m.at_k ra g (by intro _ z; cases z)⟩⟩
theorem Mu.rdp {c : Addr} (m : Mu c H H' (.lst ys)) {zs : List V} (h : RdP K p H r q es) (g : At p H c (.lst zs)) : RdP K p H' r q es := by
  obtain ⟨dx, xs, h1, h2, h3⟩ := h
  exact ⟨dx, xs, m.at_k h1 g (by intro _ z; cases z), m.at_k h2 g (by intro _ z; cases z), m.rats h3 g⟩
/-- another reading -/
theorem XtR.rdp {C dx q' r' : Addr} (x : XtR p r H H') (h : RdP K p H r' q' es) (g : At p H r (.ins C dx (rdf q))) (nr : r' ≠ r) : RdP K p H' r' q' es := by
  obtain ⟨dx, xs, h1, h2, h3⟩ := h
  exact ⟨dx, xs, x.at_n h1 nr, x.at_ h2 g (by intro z; cases z), x.rats h3 g⟩
theorem RdP.at_ (h : RdP K p H r q es) : ∃ dx, At p H r (.ins (He.ga K "Reading") dx (rdf q)) := let ⟨dx, _, h1, _⟩ := h.h; ⟨dx, h1⟩
/-- the field of a reading is written -/
theorem RdP.put {q' dx : Addr} (m : Mu r H H' (.ins (He.ga K "Reading") dx (rdf q'))) (g : At p H r (.ins (He.ga K "Reading") dx (rdf q))) (h2 : At p H q' (.tup xs)) (h3 : RatsP K p H xs es) : RdP K p H' r q' es :=
  have x : XtR p r H H' := XtR.mu m
  ⟨dx, xs, m.hereI g, x.at_ h2 g (by intro z; cases z), x.rats h3 g⟩
end
/-! ### rows, plainly -/
/-- a rising row of fractions in lowest terms, of at most n bits -/
structure RowOk (n : Nat) (es : List (Int × Int)) : Prop where
  low : ∀ e ∈ es, Low e.1 e.2
  bt : ∀ e ∈ es, Bt n e.1 ∧ Bt n e.2
  rise : ∀ (i : Nat) e f, es[i]? = some e → es[i + 1]? = some f → e.1 * f.2 < f.1 * e.2
def addF (b : Int × Int) (e : Int × Int) : Int × Int := (nTop (e.1 * b.2 + b.1 * e.2) (e.2 * b.2), nBot (e.1 * b.2 + b.1 * e.2) (e.2 * b.2))
def mulF (b : Int × Int) (e : Int × Int) : Int × Int := (nTop (e.1 * b.1) (e.2 * b.2), nBot (e.1 * b.1) (e.2 * b.2))
theorem RowOk.mono {n m : Nat} {es : List (Int × Int)} (h : RowOk n es) (e : n ≤ m) : RowOk m es := ⟨h.low, fun e he => ⟨(h.bt e he).1.mono ‹_›, (h.bt e he).2.mono ‹_›⟩, h.rise⟩
theorem addF_low {b e : Int × Int} (hb : Low b.1 b.2) (he : Low e.1 e.2) : Low (addF b e).1 (addF b e).2 := n_low (Int.mul_ne_zero (by have := he.pos; omega) (by have := hb.pos; omega))
theorem mulF_low {b e : Int × Int} (hb : Low b.1 b.2) (he : Low e.1 e.2) : Low (mulF b e).1 (mulF b e).2 := n_low (Int.mul_ne_zero (by have := he.pos; omega) (by have := hb.pos; omega))
theorem addF_bt {b e : Int × Int} {n m k : Nat} (hb : Low b.1 b.2) (he : Low e.1 e.2) (h1 : Bt n e.1 ∧ Bt n e.2) (h2 : Bt m b.1 ∧ Bt m b.2) (hk : n + m + 1 ≤ k) : Bt k (addF b e).1 ∧ Bt k (addF b e).2 := by
  have h0 : e.2 * b.2 ≠ 0 := Int.mul_ne_zero (by have := he.pos; omega) (by have := hb.pos; omega)
  have t1 : Bt (n + m + 1) (e.1 * b.2 + b.1 * e.2) := ((h1.1.mul h2.2).add' (h2.1.mul h1.2)).mono (by omega)
  have t2 : Bt (n + m) (e.2 * b.2) := h1.2.mul h2.2
  exact ⟨(t1.top h0).mono hk, (t2.bot h0).mono (by omega)⟩
theorem mulF_bt {b e : Int × Int} {n m k : Nat} (hb : Low b.1 b.2) (he : Low e.1 e.2) (h1 : Bt n e.1 ∧ Bt n e.2) (h2 : Bt m b.1 ∧ Bt m b.2) (hk : n + m ≤ k) : Bt k (mulF b e).1 ∧ Bt k (mulF b e).2 := by
  have h0 : e.2 * b.2 ≠ 0 := Int.mul_ne_zero (by have := he.pos; omega) (by have := hb.pos; omega)
  exact ⟨((h1.1.mul h2.1).top h0).mono hk, ((h1.2.mul h2.2).bot h0).mono hk⟩
theorem addF_lt {b e f : Int × Int} (hb : Low b.1 b.2) (he : Low e.1 e.2) (hf : Low f.1 f.2) : (addF b e).1 * (addF b f).2 < (addF b f).1 * (addF b e).2 ↔ e.1 * f.2 < f.1 * e.2 := by
  have b0 := hb.pos
  have e0 := he.pos
  have f0 := hf.pos
  have p1 : 0 < e.2 * b.2 := Int.mul_pos e0 b0
  have p2 : 0 < f.2 * b.2 := Int.mul_pos f0 b0
  refine (cross_lt (addF_low hb he).pos (addF_low hb hf).pos p1 p2 n_cross n_cross).trans ?_
  exact move_lt b0
theorem mulF_lt {b e f : Int × Int} (hb : Low b.1 b.2) (h0 : 0 < b.1) (he : Low e.1 e.2) (hf : Low f.1 f.2) : (mulF b e).1 * (mulF b f).2 < (mulF b f).1 * (mulF b e).2 ↔ e.1 * f.2 < f.1 * e.2 := by
  have b0 := hb.pos
  have e0 := he.pos
  have f0 := hf.pos
  have p1 : 0 < e.2 * b.2 := Int.mul_pos e0 b0
  have p2 : 0 < f.2 * b.2 := Int.mul_pos f0 b0
  refine (cross_lt (mulF_low hb he).pos (mulF_low hb hf).pos p1 p2 n_cross n_cross).trans ?_
  exact times_lt h0 b0
theorem RowOk.map {n k : Nat} {es : List (Int × Int)} {F : Int × Int → Int × Int} (h : RowOk n es) (hl : ∀ e ∈ es, Low (F e).1 (F e).2) (hb : ∀ e ∈ es, Bt k (F e).1 ∧ Bt k (F e).2) (hr : ∀ e ∈ es, ∀ f ∈ es, e.1 * f.2 < f.1 * e.2 → (F e).1 * (F f).2 < (F f).1 * (F e).2) : RowOk k (es.map F) := by
  refine ⟨fun e he => ?_, fun e he => ?_, fun i e f h1 h2 => ?_⟩
  · obtain ⟨e0, h0, rfl⟩ := List.mem_map.mp he
    exact hl _ h0
  · obtain ⟨e0, h0, rfl⟩ := List.mem_map.mp he
    exact hb _ h0
  · rw [List.getElem?_map] at h1 h2
    obtain ⟨e0, g1, rfl⟩ := Option.map_eq_some_iff.mp h1
    obtain ⟨f0, g2, rfl⟩ := Option.map_eq_some_iff.mp h2
    exact hr _ (List.mem_of_getElem? g1) _ (List.mem_of_getElem? g2) (h.rise i _ _ g1 g2)
theorem RowOk.add {n m k : Nat} {es : List (Int × Int)} {b : Int × Int} (h : RowOk n es) (hb : Low b.1 b.2) (h2 : Bt m b.1 ∧ Bt m b.2) (hk : n + m + 1 ≤ k) : RowOk k (es.map (addF b)) :=
  h.map (fun e he => addF_low hb (h.low e he)) (fun e he => addF_bt hb (h.low e he) (h.bt e he) h2 hk) (fun e he f hf z => (addF_lt hb (h.low e he) (h.low f hf)).mpr z)
theorem RowOk.mul {n m k : Nat} {es : List (Int × Int)} {b : Int × Int} (h : RowOk n es) (hb : Low b.1 b.2) (h0 : 0 < b.1) (h2 : Bt m b.1 ∧ Bt m b.2) (hk : n + m ≤ k) : RowOk k (es.map (mulF b)) :=
  h.map (fun e he => mulF_low hb (h.low e he)) (fun e he => mulF_bt hb (h.low e he) (h.bt e he) h2 hk) (fun e he f hf z => (mulF_lt hb h0 (h.low e he) (h.low f hf)).mpr z)
end EM
/-! EM65: the order of great numbers (EM43 with more bits). -/
namespace EM
open PySem PySem.Spec PyProof.Rows L2
structure TwoW (K : PySem.W.Frag) (T : List (Addr × Str)) (p l : Addr) (n : Nat) (H : Hp) (x : Addr) (v : V) (t b u c : Int) : Prop where
  B : Bs T p l n H
  rx : RatP K p H x t b
  lo : Low t b
  ny : NumP K p H v u c
  bt : Bt 2000 t
  bb : Bt 2000 b
  bu : Bt 2000 u
  bc : Bt 2000 c
def spRelW (K : PySem.W.Frag) (f : Int → Bool) : Sp := fun vs H Q _ => ∃ T p l n x v t b u c, vs = [.ref x, v] ∧ TwoW K T p l n H x v t b u c ∧ ∀ H', Ext p H H' → Bs T p l n H' → Q (.bl (f (nTop (t * c + -u * b) (b * c)))) H'
def spEqXW (K : PySem.W.Frag) : Sp := fun vs H Q E => spRelW K (relZ .Eq) vs H Q E ∨ ∃ x v, vs = [.ref x, v] ∧ NoNum K H v ∧ Q (.bl false) H
structure RelW (K : PySem.W.Frag) (op : CmpOp) (x y : V) (H : Hp) (Q : VK) : Prop where
  h : ∃ T p l n t b u c, Bs T p l n H ∧ NumP K p H x t b ∧ NumP K p H y u c ∧ ((∃ a, x = V.ref a) ∨ ∃ a, y = V.ref a) ∧ Bt 2000 t ∧ Bt 2000 b ∧ Bt 2000 u ∧ Bt 2000 c ∧ ∀ H', Ext p H H' → Bs T p l n H' → Q (.bl (relB op (t * c) (u * b))) H'
theorem relw_bs {K : PySem.W.Frag} {op : CmpOp} {x y : V} {H : Hp} {Q : VK} {T : List (Addr × Str)} {p l : Addr} {n : Nat} {t b u c : Int} (B : Bs T p l n H) (nx : NumP K p H x t b) (ny : NumP K p H y u c) (hr : (∃ a, x = V.ref a) ∨ ∃ a, y = V.ref a) (bt : Bt 2000 t) (bb : Bt 2000 b) (bu : Bt 2000 u) (bc : Bt 2000 c)
    (k : ∀ H', Ext p H H' → Bs T p l n H' → Q (.bl (relB op (t * c) (u * b))) H') : RelW K op x y H Q := ⟨T, p, l, n, t, b, u, c, B, nx, ny, hr, bt, bb, bu, bc, k⟩
section
variable {X : Cx} {n : Nat} {g gr : Addr} {E : XK}
/-- <, <=, >, >= of numbers, one of them at least a Ratio -/
theorem op_relW {op : CmpOp} (hop : op = .Lt ∨ op = .LtE ∨ op = .Gt ∨ op = .GtE) (hs : PySem.W.findIn X.K (.ref (He.ga X.K "Ratio")) (cmpInfo op).2.1 = some (some (.ref g))) (hf : PySem.W.isFn X.K (.ref g) = true) (hs2 : PySem.W.findIn X.K (.ref (He.ga X.K "Ratio")) (cmpInfo op).2.2 = some (some (.ref gr))) (hf2 : PySem.W.isFn X.K (.ref gr) = true)
    (A : Apart X.K (He.ga X.K "Ratio")) (F : FnR X.prog X.w X.K X.mg X.base (L2.CX X.prog X.w) n g (Sw (spRelW X.K (relZ op)))) (F2 : FnR X.prog X.w X.K X.mg X.base (L2.CX X.prog X.w) n gr (Sw (spRelW X.K (relZ (flip op))))) (hr : Room n X.A) : OpR X (compareOp op) (RelW X.K op) := by
  have h1 := op_cmpL (E := E0) (op := op) (by rcases hop with rfl | rfl | rfl | rfl <;> exact fun _ _ => rfl) hs hf A F hr passL
  have h2 := op_ltR (E := E0) hop hs2 hf2 A F2 hr passL
  refine opR_of (op_two h1 h2) fun x y H Q ⟨h⟩ => ?_
  obtain ⟨T, p, l, m, t, b, u, c, B, nx, ny, hor, bt, bb, bu, bc, k⟩ := h
  have lo := nx.num.1
  have lo2 := ny.num.1
  rcases nx.num.2 with ⟨a, rfl, dx, ra⟩ | ⟨rfl, rfl⟩
  · refine .inl ⟨a, dx, _, rfl, ra, ?_, ⟨⟨T, p, l, m, a, y, t, b, u, c, rfl, ⟨B, num_l nx, lo, ny, bt, bb, bu, bc⟩, fun H' x1 B1 => by rw [rel_val lo lo2]; exact k H' x1 B1⟩⟩⟩
    rcases ny.num.2 with ⟨a2, rfl, dy, rb⟩ | ⟨rfl, _⟩
    · exact .inl ⟨a2, dy, _, rfl, rb⟩
    · exact .inr ⟨_, .int _⟩
  · rcases ny.num.2 with ⟨a2, rfl, dy, rb⟩ | ⟨rfl, rfl⟩
    · refine .inr ⟨a2, dy, _, rfl, rb, ⟨_, .int t⟩, ⟨t, rfl⟩, ⟨⟨T, p, l, m, a2, .int t, u, c, t, 1, rfl, ⟨B, num_l ny, lo2, nx, bu, bc, bt, bb⟩, fun H' x1 B1 => by rw [rel_val lo2 lo, rel_flip]; exact k H' x1 B1⟩⟩⟩
    · rcases hor with ⟨a, e⟩ | ⟨a, e⟩ <;> cases e
theorem op_relEW (hs : PySem.W.findIn X.K (.ref (He.ga X.K "Ratio")) "__eq__" = some (some (.ref g))) (hf : PySem.W.isFn X.K (.ref g) = true) (A : Apart X.K (He.ga X.K "Ratio")) (F : FnR X.prog X.w X.K X.mg X.base (L2.CX X.prog X.w) n g (Sw (spEqXW X.K))) (hr : Room n X.A) : OpR X (compareOp .Eq) (RelW X.K .Eq) := by
  have h1 := op_cmpL (E := E0) (op := .Eq) (fun _ _ => rfl) hs hf A F hr passL
  have h2 := op_eqR (E := E0) hs hf A F hr passL
  refine opR_of (op_two h1 h2) fun x y H Q ⟨h⟩ => ?_
  obtain ⟨T, p, l, m, t, b, u, c, B, nx, ny, hor, bt, bb, bu, bc, k⟩ := h
  have lo := nx.num.1
  have lo2 := ny.num.1
  rcases nx.num.2 with ⟨a, rfl, dx, ra⟩ | ⟨rfl, rfl⟩
  · refine .inl ⟨a, dx, _, rfl, ra, ?_, ⟨.inl ⟨T, p, l, m, a, y, t, b, u, c, rfl, ⟨B, num_l nx, lo, ny, bt, bb, bu, bc⟩, fun H' x1 B1 => by rw [rel_val lo lo2]; exact k H' x1 B1⟩⟩⟩
    rcases ny.num.2 with ⟨a2, rfl, dy, rb⟩ | ⟨rfl, _⟩
    · exact .inl ⟨a2, dy, _, rfl, rb⟩
    · exact .inr ⟨_, .int _⟩
  · rcases ny.num.2 with ⟨a2, rfl, dy, rb⟩ | ⟨rfl, rfl⟩
    · refine .inr ⟨a2, dy, _, rfl, rb, ⟨_, .int t⟩, trivial, ⟨.inl ⟨T, p, l, m, a2, .int t, u, c, t, 1, rfl, ⟨B, num_l ny, lo2, nx, bu, bc, bt, bb⟩, fun H' x1 B1 => by rw [(rel_val (op := .Eq) lo2 lo).trans (rel_flip (op := .Eq))]; exact k H' x1 B1⟩⟩⟩
    · rcases hor with ⟨a, e⟩ | ⟨a, e⟩ <;> cases e
theorem op_relNW (hn : PySem.W.findIn X.K (.ref (He.ga X.K "Ratio")) "__ne__" = some (some (.builtin "object.__ne__"))) (hm : PySem.W.mroIn X.K (He.ga X.K "Ratio") (.type "object") = some true) (hs : PySem.W.findIn X.K (.ref (He.ga X.K "Ratio")) "__eq__" = some (some (.ref g))) (hf : PySem.W.isFn X.K (.ref g) = true) (A : Apart X.K (He.ga X.K "Ratio")) (F : FnR X.prog X.w X.K X.mg X.base (L2.CX X.prog X.w) n g (Sw (spEqXW X.K))) (hr : Room (n + 1) X.A) : OpR X (compareOp .NotEq) (RelW X.K .NotEq) := by
  have h1 := op_neL (E := E0) hn hm hs hf A F hr passL
  have h2 := op_neR (E := E0) hn hm hs hf A F hr passL
  refine opR_of (op_two h1 h2) fun x y H Q ⟨h⟩ => ?_
  obtain ⟨T, p, l, m, t, b, u, c, B, nx, ny, hor, bt, bb, bu, bc, k⟩ := h
  have lo := nx.num.1
  have lo2 := ny.num.1
  have kk : ∀ H', Ext p H H' → Bs T p l m H' → Q (.bl (!relB .Eq (t * c) (u * b))) H' := k
  rcases nx.num.2 with ⟨a, rfl, dx, ra⟩ | ⟨rfl, rfl⟩
  · refine .inl ⟨a, dx, _, rfl, ra, ?_, ⟨.inl ⟨T, p, l, m, a, y, t, b, u, c, rfl, ⟨B, num_l nx, lo, ny, bt, bb, bu, bc⟩, fun H' x1 B1 => ⟨_, rfl, by rw [rel_val lo lo2]; exact kk H' x1 B1⟩⟩⟩⟩
    rcases ny.num.2 with ⟨a2, rfl, dy, rb⟩ | ⟨rfl, _⟩
    · exact .inl ⟨a2, dy, _, rfl, rb⟩
    · exact .inr ⟨_, .int _⟩
  · rcases ny.num.2 with ⟨a2, rfl, dy, rb⟩ | ⟨rfl, rfl⟩
    · refine .inr ⟨a2, dy, _, rfl, rb, ⟨_, .int t⟩, trivial, ⟨.inl ⟨T, p, l, m, a2, .int t, u, c, t, 1, rfl, ⟨B, num_l ny, lo2, nx, bu, bc, bt, bb⟩, fun H' x1 B1 => ⟨_, rfl, by rw [(rel_val (op := .Eq) lo2 lo).trans (rel_flip (op := .Eq))]; exact kk H' x1 B1⟩⟩⟩⟩
    · rcases hor with ⟨a, e⟩ | ⟨a, e⟩ <;> cases e
end
end EM
/-! EM66: == of tuples whose items are compared by defs of the program. -/
namespace PySem.SeqAt
open AutoSeq1 (wpAny_loadPart')
open MeetsSeq MeetsSeq2 MeetsSeq3 SeqRoads2
section
variable {prog : Program} {w : World}
theorem em_tuple_eq (l b : Addr) (items items2 : Array Value) (n n2 : Nat) (dd dd2 : Option Addr) (sl sl2 : Array (Option Value)) (P : Nat → Shared → Prop) :
    MeetsIn prog w (Builtin.«tuple.__eq__» ⟨[.ref l, .ref b], []⟩)
      (fun A R s => s.heap.get? l = some { cls := .type "tuple", dict := dd, data := .seq items n, slots := sl } ∧ s.heap.get? b = some { cls := .type "tuple", dict := dd2, data := .seq items2 n2, slots := sl2 } ∧
        P 0 s ∧ (∀ j (h1 : j < items.size) (h2 : j < items2.size) s', P j s' → wpAny (model prog w) A.in1 (eqBool items[j] items2[j]) (fun k s'' => if k = true then P (j + 1) s'' else R (.ok (.ret (.bool false))) s'') (fun e s'' => R (.error e) s'') s') ∧
        (∀ s', P (min items.size items2.size) s' → R (.ok (.ret (.bool (items.size == items2.size)))) s')) :=
  .of_wp fun A R s h => by
    obtain ⟨hp, g, d, tk, os⟩ := s; obtain ⟨hl, hb, h0, he, h⟩ := h
    have f2 := AutoSeq1.sub_tuple_tuple
    have hZ : (items.toList.zip items2.toList).length = min items.size items2.size := by simp
    wp_walk using wpAny_loadPart' hl, wpAny_loadPart' hb, wpAny_forIn_list _ (fun rest b s' => (b.1 = none ∧ ∃ i, rest = (items.toList.zip items2.toList).drop i ∧ i ≤ min items.size items2.size ∧ P i s')) _
    case turn =>
      rintro ⟨y, x⟩ rest b s' ⟨hb', i, hz, hi, hP⟩
      have hlt : i < (items.toList.zip items2.toList).length := by
        rcases Nat.lt_or_ge i (items.toList.zip items2.toList).length with h' | h'
        · exact h'
        · rw [List.drop_of_length_le h'] at hz; cases hz
      have hm : i < min items.size items2.size := hZ ▸ hlt
      have h1 : i < items.size := Nat.lt_of_lt_of_le hm (Nat.min_le_left _ _)
      have h2 : i < items2.size := Nat.lt_of_lt_of_le hm (Nat.min_le_right _ _)
      rw [List.drop_eq_getElem_cons hlt] at hz
      injection hz with hyx hrest
      have hy : y = items[i] := by have := congrArg Prod.fst hyx; simpa using this
      have hx : x = items2[i] := by have := congrArg Prod.snd hyx; simpa using this
      subst hy hx
      refine wpAny_bind (wpAny_mono (he i h1 h2 _ hP) (fun k s'' hk => ?_) (fun _ _ z => z))
      cases k with
      | true =>
        rw [if_pos rfl] at hk
        wp_walk
        exact ⟨rfl, i + 1, hrest, by omega, hk⟩
      | false =>
        rw [if_neg Bool.false_ne_true] at hk
        wp_walk
        exact ⟨_, rfl, by simpa using hk⟩
    case fin =>
      rintro ⟨b1, b2⟩ s' ⟨hb', i, hz, hi, hP⟩
      simp only at hb'
      subst hb'
      have hge : min items.size items2.size ≤ i := by
        rcases Nat.lt_or_ge i (items.toList.zip items2.toList).length with h' | h'
        · rw [List.drop_eq_getElem_cons h'] at hz; cases hz
        · exact hZ ▸ h'
      have hie : i = min items.size items2.size := by omega
      subst hie
      have := h s' hP
      wp_walk
      exact ⟨_, rfl, by simpa [Builtin.Tuple.tupleCompareSizes] using this⟩
    case h =>
      exact ⟨rfl, 0, rfl, by omega, h0⟩
end
section
variable {prog : Program} {w : World} {A : Around} {s : Shared}
theorem em_rc_tuples {E : Value → Shared → Prop} {l b : Addr} {items items2 : Array Value} {Q : Value → Shared → Prop} (hl : s.heap.IsTuple l items) (hb : s.heap.IsTuple b items2) (hu : A.units < cLine)
    (P : Nat → Shared → Prop) (h0 : P 0 s) (he : ∀ j (h1 : j < items.size) (h2 : j < items2.size) s', P j s' → wpAny (model prog w) A.in1 (eqBool items[j] items2[j]) (fun k s'' => if k = true then P (j + 1) s'' else Q (.bool false) s'') E s')
    (h : ∀ s', P (min items.size items2.size) s' → Q (.bool (items.size == items2.size)) s') :
    wpAny (model prog w) A (richCompare .Eq (.ref l) (.ref b)) Q E s := by
  obtain ⟨⟨cls, dd, data, sl⟩, ho, hc, n, hd⟩ := id hl
  obtain ⟨⟨cls2, dd2, data2, sl2⟩, ho2, hc2, n2, hd2⟩ := id hb
  simp only at hc hd hc2 hd2
  subst hc hd hc2 hd2
  exact wpAny_richCompare_same_room (T := "tuple") (op := .Eq) ⟨_, ho, rfl⟩ ⟨_, ho2, rfl⟩ F.slot_tuple_eq (call_meetsIn F.slot_tuple_eq ⟨_, ho, rfl⟩ F.entry_tuple_eq (F.args_tuple_eq_2 _ _) (em_tuple_eq l b items items2 n n2 dd dd2 sl sl2 P)
    ⟨ho, ho2, h0, fun j h1 h2 s' hP => wpAny_mono (he j h1 h2 s' hP) (fun k s'' hk => by
      cases k with
      | true => rw [if_pos rfl] at hk; rw [if_pos rfl]; exact hk
      | false =>
        rw [if_neg Bool.false_ne_true] at hk
        rw [if_neg Bool.false_ne_true]
        exact ⟨(fun x => nomatch x), hk⟩) (fun _ _ z => z), fun s' hP => ⟨(fun x => nomatch x), h s' hP⟩⟩) hu
end
end PySem.SeqAt
/-! EM67: promises of readings; fields read anew; a subscript of an instance that is set; tuples of Ratios compared. -/
namespace EM
open PySem PySem.Spec PyProof.Rows L2
/-! ### fields -/
structure FldS (K : PySem.W.Frag) (f : Str) (x : V) (H : Hp) (Q : VK) : Prop where
  h : ∃ a C dx fs v, x = .ref a ∧ H a = some (.ins C dx fs) ∧ Cls K C ∧ NoAttr K C f ∧ fs.lookup f = some v ∧ Q v H
def tFldN (K : PySem.W.Frag) (f : Str) (te : TE) : TE := fun σ H Q => te σ H fun x H1 => FldS K f x H1 Q
theorem pe_fldN {X : Cx} {e : Expr} {te : TE} {pos : Pos} {f : Str} (he : PE X e te) (hab : attributeBase e f X.env (eval e X.env) = eval e X.env := by rfl) : PE X (.Attribute e f pos) (tFldN X.K f te) :=
  (pe_fld he.mc hab).of fun σ H Q q => ⟨_, q, fun x H1 ⟨⟨a, C, dx, fs, v, e, h, c, n, l, k⟩⟩ => ⟨a, C, dx, fs, v, e, h, c, n, l, k⟩⟩
theorem fld_bs {K : PySem.W.Frag} {f : Str} {p a C dx : Addr} {H : Hp} {fs : List (Str × V)} {v : V} {Q : VK} (h : At p H a (.ins C dx fs)) (c : Cls K C) (n : NoAttr K C f) (e : fs.lookup f = some v) (k : Q v H) : FldS K f (.ref a) H Q := ⟨a, C, dx, fs, v, rfl, h.at_, c, n, e, k⟩
/-! ### isinstance of kept errors, told -/
theorem isX_own {K : PySem.W.Frag} {p a C d D : Addr} {fs : List (Str × V)} {H : Hp} {b : Bool} {Q : VK} (h : ErrP p H a C d fs) (k : ExcK K C) (e : PySem.W.kitOne K (.ref C) (.ref D) = some b) (q : Q (.bl b) H) : Sr (rIsX K) [.ref a, .ref D] H Q :=
  ⟨p, a, C, d, fs, _, rfl, h, k, .inl ⟨_, b, .own D, e, q⟩⟩
theorem isX_ty {K : PySem.W.Frag} {p a C d : Addr} {n : String} {fs : List (Str × V)} {H : Hp} {b : Bool} {Q : VK} (h : ErrP p H a C d fs) (k : ExcK K C) (e : PySem.W.kitOne K (.ref C) (.type n) = some b) (q : Q (.bl b) H) : Sr (rIsX K) [.ref a, .ty n] H Q :=
  ⟨p, a, C, d, fs, _, rfl, h, k, .inl ⟨_, b, .ty n, e, q⟩⟩
theorem clsV_refs : ∀ cs : List Addr, Paired ClsV (cs.map V.ref) (cs.map Value.ref)
  | [] => .nil
  | c :: r => .cons (.own c) (clsV_refs r)
theorem isX_tup {K : PySem.W.Frag} {p a C d tp : Addr} {cs : List Addr} {fs : List (Str × V)} {H : Hp} {b : Bool} {Q : VK} (h : ErrP p H a C d fs) (k : ExcK K C) (ht : At p H tp (.tup (cs.map V.ref))) (e : PySem.W.kitAny K (.ref C) (cs.map Value.ref) = some b) (q : Q (.bl b) H) : Sr (rIsX K) [.ref a, .ref tp] H Q :=
  ⟨p, a, C, d, fs, _, rfl, h, k, .inr ⟨tp, _, _, b, rfl, ht.at_, clsV_refs cs, e, q⟩⟩
theorem kitAny_no {K : PySem.W.Frag} {t : Value} : ∀ cs : List Addr, (∀ c ∈ cs, PySem.W.kitOne K t (.ref c) = some false) → PySem.W.kitAny K t (cs.map Value.ref) = some false
  | [], _ => rfl
  | c :: r, h => kitAny_cons (b := false) (h c List.mem_cons_self) (fun _ => kitAny_no r fun x hx => h x (List.mem_cons_of_mem _ hx)) (fun z => nomatch z)
/-! ### promises of readings -/
/-- an index that is none -/
def NoIxR (K : PySem.W.Frag) (p : Addr) (H : Hp) (m : Nat) (y : V) : Prop := (∃ i, y = .int i ∧ ¬ (0 ≤ i ∧ i < (m : Int))) ∨ OddM K p H y
theorem NoIxR.ext {K : PySem.W.Frag} {p : Addr} {H H' : Hp} {m : Nat} {y : V} (h : NoIxR K p H m y) (x : Ext p H H') : NoIxR K p H' m y := by
  rcases h with h | h
  · exact .inl h
  · exact .inr (h.ext x)
/-- an own error with one field -/
def ErrOut (K : PySem.W.Frag) (T : List (Addr × Str)) (p l : Addr) (n : Nat) (H : Hp) (E : XK) (C f : Str) (v : V) : Prop := ∀ d H', Ext p H H' → Bs T p l n H' → At p H' d (.xd [(f, v)]) → E (.ref (He.ga K C)) (some d) H'
theorem ErrOut.ext {K : PySem.W.Frag} {T : List (Addr × Str)} {p l : Addr} {n : Nat} {H H1 : Hp} {E : XK} {C f : Str} {v : V} (h : ErrOut K T p l n H E C f v) (x : Ext p H H1) : ErrOut K T p l n H1 E C f v := fun d H' x1 B1 a1 => h d H' (x.trans x1) B1 a1
def spCountR : Sp := fun vs H Q _ => ∃ m : Nat, vs = [.int m] ∧ Q (.bl (decide (m % 2 = 0 ∧ 4 ≤ m ∧ m ≤ 128))) H
def spNeedE (K : PySem.W.Frag) : Sp := fun vs H Q E => ∃ (T : List (Addr × Str)) (p l : Addr) (n m : Nat) (v : V), vs = [v, .int m] ∧ Bs T p l n H ∧ ((∃ i : Nat, v = .int i ∧ i < m ∧ Q .non H) ∨ (NoIxR K p H m v ∧ ErrOut K T p l n H E "NoEdge" "value" v))
def okLen (n : Nat) : Prop := n % 2 = 0 ∧ 4 ≤ n ∧ n ≤ 128
def spEdgesR (K : PySem.W.Frag) : Sp := fun vs H Q _ => ∃ (T : List (Addr × Str)) (p l a : Addr) (n : Nat) (xs : List V) (es : List (Int × Int)), vs = [.ref a] ∧ Bs T p l n H ∧ At p H a (.tup xs) ∧ NumsP K p H xs es ∧ RowOk 2000 es ∧ es.length ≤ 128 ∧
  ∀ q ys H', Ext p H H' → Bs T p l n H' → At p H' q (.tup ys) → RatsP K p H' ys es → Q (.ref q) H'
def spInitR (K : PySem.W.Frag) : Sp := fun vs H Q _ => ∃ (T : List (Addr × Str)) (p l x dx W : Addr) (n : Nat) (xs : List V) (es : List (Int × Int)), vs = [.ref x, .ref W] ∧ Bs T p l n H ∧ H x = some (.ins (He.ga K "Reading") dx []) ∧ At p H W (.tup xs) ∧ NumsP K p H xs es ∧ RowOk 2000 es ∧ okLen es.length ∧
  ∀ H' q, XtR p x H H' → Bs T p l n H' → RdP K p H' x q es → Q .non H'
abbrev spInitRS (K : PySem.W.Frag) : Sp := fun vs H Q E => ∃ ws rest, vs = ws ++ rest ∧ ws.length = ["self"].length ∧ rest.length ≤ sizeLine ∧ ∀ W, H W = none → spInitR K (ws ++ [V.ref W]) (upd H W (.tup rest)) Q E
/-- nothing that is kept stood at r -/
structure Fresh (p : Addr) (H : Hp) (r : Addr) : Prop where
  h : ∀ o, H r = some o → r = p ∨ ∃ ps, o = .tbl ps
theorem Fresh.none {p r : Addr} {H : Hp} (h : H r = none) : Fresh p H r := ⟨fun o e => by rw [h] at e; cases e⟩
theorem Fresh.back {p r : Addr} {H H1 : Hp} (f : Fresh p H1 r) (x : Ext p H H1) : Fresh p H r := ⟨fun o e => Classical.byContradiction fun z => by
  have n1 : r ≠ p := fun y => z (.inl y)
  have n2 : ∀ ps, o ≠ .tbl ps := fun ps y => z (.inr ⟨ps, y⟩)
  exact z (f.h o (x.k r o e n1 n2))⟩
theorem Fresh.ne {p r a : Addr} {H : Hp} {o : HO} (f : Fresh p H r) (h : At p H a o) : r ≠ a := fun z => by
  subst z
  rcases f.h o h.at_ with e | ⟨ps, e⟩
  · exact h.ne e
  · exact h.nt ps e
/-- Reading(..) of rising numbers -/
def spReadX (K : PySem.W.Frag) : Sp := fun vs H Q _ => ∃ (T : List (Addr × Str)) (p l : Addr) (n : Nat) (es : List (Int × Int)), Bs T p l n H ∧ NumsP K p H vs es ∧ RowOk 2000 es ∧ okLen es.length ∧
  ∀ r q H', Ext p H H' → Bs T p l n H' → RdP K p H' r q es → Fresh p H r → Q (.ref r) H'
theorem XtR.toExt {p x : Addr} {H0 H H' : Hp} (x1 : Ext p H0 H) (y : XtR p x H H') (nx : H0 x = none) : Ext p H0 H' := ⟨fun b o e n1 n3 => y.k b o (x1.k b o e n1 n3) n1 (ne_of_none e nx) n3⟩
theorem mk_ReadX {K : PySem.W.Frag} {H : Hp} {Q : VK} {vs : List V} {E : XK} (h : spReadX K vs H Q E) : ∀ x dx, H x = none → H dx = none → dx ≠ x → spInitRS K (V.ref x :: vs) (upd (upd H dx (.own x)) x (.ins (He.ga K "Reading") dx [])) (fun v H2 => v = .non ∧ Q (.ref x) H2) E := by
  intro x dx nx nd ne
  obtain ⟨T, p, l, n, es, B, hv, ho, hl, k⟩ := h
  refine ⟨[.ref x], vs, rfl, rfl, sz (by rw [hv.len]; have := hl.2.2; omega), fun W hW => ?_⟩
  have s1 : Same H (upd H dx (.own x)) := same_upd nd
  have nx1 : upd H dx (.own x) x = none := by rw [upd_ne ne.symm]; exact nx
  have s2 : Same (upd H dx (.own x)) (upd (upd H dx (.own x)) x (.ins (He.ga K "Reading") dx [])) := same_upd nx1
  have s3 := same_upd (o := HO.tup vs) hW
  have s : Same H (upd (upd (upd H dx (.own x)) x (.ins (He.ga K "Reading") dx [])) W (.tup vs)) := (s1.trans s2).trans s3
  have B3 := B.same s
  have x3 : Ext p H _ := Ext.same s
  have nxW : x ≠ W := by
    intro z
    subst z
    rw [upd_same] at hW
    cases hW
  exact ⟨T, p, l, x, dx, W, n, vs, es, rfl, B3, by rw [upd_ne nxW, upd_same], B3.at_ upd_same (fun _ z => by cases z) (fun _ z => by cases z), hv.ext x3, ho, hl, fun H' q y B' rd => ⟨rfl, k x q H' (XtR.toExt x3 y nx) B' rd (Fresh.none nx)⟩⟩
def spOfR (K : PySem.W.Frag) : Sp := fun vs H Q _ => ∃ (T : List (Addr × Str)) (p l a : Addr) (n : Nat) (c : V) (xs : List V) (es : List (Int × Int)), vs = [c, .ref a] ∧ Bs T p l n H ∧ SeqV p H a xs ∧ NumsP K p H xs es ∧ RowOk 2000 es ∧ okLen es.length ∧
  ∀ r q H', Ext p H H' → Bs T p l n H' → RdP K p H' r q es → Fresh p H r → Q (.ref r) H'
def spRdEdges (K : PySem.W.Frag) : Sp := fun vs H Q _ => ∃ (p r q : Addr) (es : List (Int × Int)), vs = [.ref r] ∧ RdP K p H r q es ∧ Q (.ref q) H
structure RdgS (K : PySem.W.Frag) (x : V) (H : Hp) (Q : VK) : Prop where
  h : ∃ (p r q : Addr) (es : List (Int × Int)), x = .ref r ∧ RdP K p H r q es ∧ Q (.ref q) H
def tRdg (K : PySem.W.Frag) (te : TE) : TE := fun σ H Q => te σ H fun x H1 => RdgS K x H1 Q
theorem rdg_bs {K : PySem.W.Frag} {p r q : Addr} {es : List (Int × Int)} {H : Hp} {Q : VK} (h : RdP K p H r q es) (k : Q (.ref q) H) : RdgS K (.ref r) H Q := ⟨p, r, q, es, rfl, h, k⟩
/-- Reading( *e) -/
def tStarR (K : PySem.W.Frag) (E : XK) (te : TE) : TE := fun σ H Q => te σ H fun v H1 => ∃ a xs, v = V.ref a ∧ (SqT K H1 a xs ∨ SqL K H1 a xs) ∧ Sw (spReadX K) xs H1 Q E
/-! ### r[i] = v by an own __setitem__ -/
def rSetO (C : Addr) (sp : Sp) (E : XK) : V → V → V → Hp → (Hp → Prop) → Prop := fun o i v H Q => ∃ a dx fs, o = .ref a ∧ H a = some (.ins C dx fs) ∧ sp [.ref a, i, v] H (fun _ H' => Q H') E
section
variable {X : Cx} {CX : CXT} {n : Nat} {g C : Addr} {sp : Sp} {E : XK}
theorem set_own (hq : PySem.W.noSeq X.K C = true) (hs : PySem.W.findIn X.K (.ref C) "__setitem__" = some (some (.ref g))) (hf : PySem.W.isFn X.K (.ref g) = true) (F : FnR X.prog X.w X.K X.mg X.base CX n g sp) (hr : Room n X.A) (hx : Passes CX X E) : PSet X (rSetO C sp E) := by
  intro pins s σ H o i v ov iv u Q I ro ri rv h
  obtain ⟨a, dx, fs, rfl, hA, q⟩ := h
  cases (show ov = Value.ref a from ro)
  obtain ⟨ox, od, J, _⟩ := ins_at I hA
  obtain ⟨m, hF⟩ := I.fr
  have c := run_fnR (us := [.ref a, iv, u]) (vs := [.ref a, i, v]) F hr hx I (.cons rfl (.cons ri (.cons rv .nil))) q
  refine PySem.W.ksp_setItem hF I.ok.mod.kin J hq hs hf (wpAny_mono (wpAny_call c) (fun w s' z => ?_) fun _ _ z => z)
  obtain ⟨z', H', I', rz, qz⟩ := z
  exact ⟨H', I', qz⟩
end
/-! ### tuples of Ratios compared -/
structure EqT (K : PySem.W.Frag) (x y : V) (H : Hp) (Q : VK) : Prop where
  h : ∃ T p l n a b xs ys es fs, x = .ref a ∧ y = .ref b ∧ Bs T p l n H ∧ At p H a (.tup xs) ∧ At p H b (.tup ys) ∧ RatsP K p H xs es ∧ RatsP K p H ys fs ∧ RowOk 2000 es ∧ RowOk 2000 fs ∧ ∀ H', Ext p H H' → Bs T p l n H' → Q (.bl (decide (es = fs))) H'
theorem rel_eq {t b u c : Int} (h : Low t b) (g : Low u c) : relB .Eq (t * c) (u * b) = decide ((t, b) = (u, c)) := by
  show decide (V.int (t * c) = V.int (u * b)) = _
  rw [dVi]
  by_cases z : (t, b) = (u, c)
  · injection z with e1 e2
    subst e1 e2
    simp
  · rw [decide_eq_false z]
    refine decide_eq_false (fun e => ?_)
    obtain ⟨e1, e2⟩ := low_eq h g e
    exact z (by rw [e1, e2])
section
variable {X : Cx} {n : Nat} {g : Addr}
theorem op_eqT (hs : PySem.W.findIn X.K (.ref (He.ga X.K "Ratio")) "__eq__" = some (some (.ref g))) (hf : PySem.W.isFn X.K (.ref g) = true) (F : FnR X.prog X.w X.K X.mg X.base (L2.CX X.prog X.w) n g (Sw (spEqXW X.K))) (hr : Room (n + 1) X.A) : OpR X (compareOp .Eq) (EqT X.K) := by
  intro pins s σ H x y v u Q I rx ry h
  obtain ⟨T, p, l, m, a, b, xs, ys, es, fs, rfl, rfl, B, ha, hb, ra, rb, oe, of_, k⟩ := h.h
  cases (show v = Value.ref a from rx)
  cases (show u = Value.ref b from ry)
  obtain ⟨its, rv, pa, _⟩ := I.tuple (SqT.of ha.at_)
  obtain ⟨its2, rv2, pb, _⟩ := I.tuple (SqT.of hb.at_)
  have la : its.toArray.size = es.length := by rw [List.size_toArray, ← rv.length, ra.len]
  have lb : its2.toArray.size = fs.length := by rw [List.size_toArray, ← rv2.length, rb.len]
  show wpAny (model X.prog X.w) X.A (richCompare .Eq (.ref a) (.ref b)) (EP X pins σ Q) X.xe s
  refine PySem.SeqAt.em_rc_tuples pa pb hr.units0 (fun i s' => ∃ H', Inv X pins σ H' s' ∧ Ext p H H' ∧ Bs T p l m H' ∧ ∀ j, j < i → es[j]? = fs[j]?) ⟨H, I, Ext.refl, B, fun j z => absurd z (Nat.not_lt_zero j)⟩ ?_ ?_
  · rintro j h1 h2 s' ⟨H1, I1, x1, B1, hj⟩
    have j1 : j < es.length := by omega
    have j2 : j < fs.length := by omega
    have je : j < xs.length := by rw [ra.len]; exact j1
    have jf : j < ys.length := by rw [rb.len]; exact j2
    obtain ⟨a', ea, ra'⟩ := (ra.ext x1).h j _ _ (List.getElem?_eq_getElem je) (List.getElem?_eq_getElem j1)
    obtain ⟨b', eb, rb'⟩ := (rb.ext x1).h j _ _ (List.getElem?_eq_getElem jf) (List.getElem?_eq_getElem j2)
    obtain ⟨u1, e1, r1⟩ := rv.get (i := j) (List.getElem?_eq_getElem je)
    obtain ⟨u2, e2, r2⟩ := rv2.get (i := j) (List.getElem?_eq_getElem jf)
    rw [ea] at r1
    rw [eb] at r2
    cases (show u1 = Value.ref a' from r1)
    cases (show u2 = Value.ref b' from r2)
    have i1 : its.toArray[j] = Value.ref a' := by
      have := (List.getElem?_eq_some_iff.mp e1).2
      simpa using this
    have i2 : its2.toArray[j] = Value.ref b' := by
      have := (List.getElem?_eq_some_iff.mp e2).2
      simpa using this
    rw [i1, i2]
    have me := List.getElem_mem j1
    have mf := List.getElem_mem j2
    have lo := oe.low _ me
    have lo2 := of_.low _ mf
    have fin : ∀ (r : Bool) (H2 : Hp) (s2 : Shared), Inv X pins σ H2 s2 → Ext p H1 H2 → Bs T p l m H2 → r = decide (es[j] = fs[j]) →
        (if r = true then ∃ H', Inv X pins σ H' s2 ∧ Ext p H H' ∧ Bs T p l m H' ∧ ∀ i, i < j + 1 → es[i]? = fs[i]? else EP X pins σ Q (.bool false) s2) := by
      rintro r H2 s2 I2 x2 B2 rfl
      by_cases z : es[j] = fs[j]
      · rw [decide_eq_true z, if_pos rfl]
        refine ⟨H2, I2, x1.trans x2, B2, fun i hi => ?_⟩
        rcases Nat.lt_or_ge i j with h | h
        · exact hj i h
        · have : i = j := by omega
          subst this
          rw [List.getElem?_eq_getElem j1, List.getElem?_eq_getElem j2, z]
      · rw [decide_eq_false z, if_neg Bool.false_ne_true]
        refine ⟨.bl false, H2, I2, rfl, ?_⟩
        have := k H2 (x1.trans x2) B2
        rwa [decide_eq_false (fun e => z (by subst e; rfl))] at this
    unfold eqBool
    refine wpAny_holding ?_
    refine wpAny_ite_split (fun hab => ?_) (fun _ => ?_)
    · have e : a' = b' := by have := eq_of_beq hab; injection this
      subst e
      obtain ⟨⟨d1, g1⟩, _⟩ := ra'
      obtain ⟨⟨d2, g2⟩, _⟩ := rb'
      rw [g1] at g2
      have ee : es[j] = fs[j] := by
        injection g2 with g2
        injection g2 with _ _ g2
        simp only [rf, List.cons.injEq, Prod.mk.injEq, V.int.injEq, true_and, and_true] at g2
        exact Prod.ext g2.1 g2.2
      first
        | exact wpAny_bind (wpAny_rule (wpAny_pure (fin true H1 s' I1 Ext.refl B1 (decide_eq_true ee).symm)))
        | exact wpAny_rule (wpAny_pure (fin true H1 s' I1 Ext.refl B1 (decide_eq_true ee).symm))
    · obtain ⟨m', hF⟩ := I1.fr
      obtain ⟨⟨d1, g1⟩, n1⟩ := ra'
      obtain ⟨⟨d2, g2⟩, n2⟩ := rb'
      obtain ⟨ox, od, J, _⟩ := ins_at I1 g1
      obtain ⟨oy, od', J', _⟩ := ins_at I1 g2
      have q : Sw (spEqXW X.K) [.ref a', .ref b'] H1 (fun z H2 => ∃ r, z = .bl r ∧ r = decide (es[j] = fs[j]) ∧ Ext p H1 H2 ∧ Bs T p l m H2) E0 :=
        ⟨.inl ⟨T, p, l, m, a', .ref b', _, _, _, _, rfl, ⟨B1, ⟨⟨d1, g1⟩, n1⟩, lo, RatP.num ⟨⟨d2, g2⟩, n2⟩ lo2, (oe.bt _ me).1, (oe.bt _ me).2, (of_.bt _ mf).1, (of_.bt _ mf).2⟩, fun H2 x2 B2 => ⟨_, rfl, (rel_val lo lo2).trans (rel_eq lo lo2), x2, B2⟩⟩⟩
      have c := SlX.run_at (us := [.ref a', .ref b']) (ws := [.ref a', .ref b']) F hr.in1 I1.env0.in1 passL I1 (.cons rfl (.cons rfl .nil)) q
      refine wpAny_bind (PySem.W.cmp_K (op := .Eq) (tb := .ref (He.ga X.K "Ratio")) hr.in1.units0 hF I1.ok.mod.kin J J'.type notFirst_self hs hf (wpAny_mono (wpAny_call c) (fun w s2 z => ?_) fun _ _ z => z))
      obtain ⟨z', H2, I2, rz, r, rfl, er, x2, B2⟩ := z
      cases (show w = Value.bool r from rz)
      have tr : wpAny (model X.prog X.w) X.A.in1 (truthOfDropped (Value.bool r)) (fun k s'' => if k = true then ∃ H', L2.Inv X pins σ H' s'' ∧ Ext p H H' ∧ Bs T p l m H' ∧ ∀ i, i < j + 1 → es[i]? = fs[i]? else EP X pins σ Q (.bool false) s'') X.xe s2 := wpAny_truthy_bool (fin r H2 s2 I2 x2 B2 er)
      exact SlX.cmpback (z := .bl r) (show L2.RelV (.bl r) (Value.bool r) from rfl) tr
  · rintro s' ⟨H1, I1, x1, B1, hj⟩
    refine ⟨.bl (its.toArray.size == its2.toArray.size), H1, I1, rfl, ?_⟩
    have e : (its.toArray.size == its2.toArray.size) = decide (es = fs) := by
      rw [la, lb]
      by_cases z : es = fs
      · subst z
        simp
      · rw [decide_eq_false z]
        simp only [beq_eq_false_iff_ne, ne_eq]
        intro e
        apply z
        apply List.ext_getElem?
        intro i
        rcases Nat.lt_or_ge i es.length with h | h
        · exact hj i (by rw [la, lb]; omega)
        · rw [List.getElem?_eq_none h, List.getElem?_eq_none (by omega)]
    rw [e]
    exact k H1 x1 B1
end
end EM
/-! EM68: enumerate of a tuple, told; rows grown item by item. -/
namespace EM
open PySem PySem.Spec PyProof.Rows L2
structure EnT (K : PySem.W.Frag) (vs : List V) (H : Hp) (R : It → Hp → Prop) : Prop where
  h : ∃ a xs, vs = [.ref a] ∧ H a = some (.tup xs) ∧ R (IteT K a) H
def iEnTN (K : PySem.W.Frag) (ta : TA) : TI := fun σ H R => ta σ H fun vs H1 => EnT K vs H1 R
theorem pi_enumTN {X : Cx} {e : Expr} {ta : TA} {p pos tpos : Pos} {elts : List Expr} {kk : Nat} (hg : Gl X "enumerate") (hm : X.mg "enumerate" = none) (ha : PA X [e] ta) (hs : starEach [e] X.env = [(false, eval e X.env)] := by rfl) :
    PI X (.Tuple elts kk tpos) (.Call (.Name "enumerate" p) [e] [] pos) (iEnTN X.K ta) := ⟨fun pins s σ H R I h => (pi_enumT hg hm ha.mc hs).run pins s σ H R I ⟨_, h, fun vs H1 ⟨⟨a, xs, e, h1, k⟩⟩ => ⟨a, xs, e, SqT.of h1, k⟩⟩⟩
section
variable {T : List (Addr × Str)} {p l a b : Addr} {n : Nat} {H H' : Hp} {K : PySem.W.Frag} {xs ys : List V} {R : It → Hp → Prop} {es fs : List (Int × Int)}
theorem enT (h : At p H a (.tup xs)) (k : R (IteT K a) H) : EnT K [.ref a] H R := ⟨a, xs, rfl, h.at_, k⟩
theorem Mu.nums {c : Addr} {zs us : List V} (m : Mu c H H' (.lst us)) (h : NumsP K p H xs es) (g : At p H c (.lst zs)) : NumsP K p H' xs es := ⟨h.len, fun i x t e1 e2 => m.num (h.h i x t e1 e2) g⟩
theorem RatsP.nil : RatsP K p H [] [] := ⟨rfl, fun i x t e => by simp at e⟩
theorem RatsP.snoc {e : Int × Int} (h : RatsP K p H xs es) (g : RatP K p H a e.1 e.2) : RatsP K p H (xs ++ [.ref a]) (es ++ [e]) := by
  refine ⟨by simp [h.len], fun i x t e1 e2 => ?_⟩
  rcases Nat.lt_or_ge i xs.length with z | z
  · rw [List.getElem?_append_left z] at e1
    rw [List.getElem?_append_left (by rw [← h.len]; exact z)] at e2
    exact h.h i x t e1 e2
  · rw [List.getElem?_append_right z] at e1
    rw [List.getElem?_append_right (by rw [← h.len]; exact z)] at e2
    rw [← h.len] at e2
    rcases Nat.eq_zero_or_pos (i - xs.length) with z0 | z0
    · rw [z0] at e1 e2
      cases e1
      cases e2
      exact ⟨a, rfl, g⟩
    · rw [List.getElem?_eq_none (by simp; omega)] at e1
      cases e1
theorem PairsP.nil : PairsP p H [] [] := ⟨rfl, fun i x t e => by simp at e⟩
theorem PairsP.snoc {e : Int × Int} (h : PairsP p H xs es) (g : At p H a (.tup [.int e.1, .int e.2])) : PairsP p H (xs ++ [.ref a]) (es ++ [e]) := by
  refine ⟨by simp [h.len], fun i x t e1 e2 => ?_⟩
  rcases Nat.lt_or_ge i xs.length with z | z
  · rw [List.getElem?_append_left z] at e1
    rw [List.getElem?_append_left (by rw [← h.len]; exact z)] at e2
    exact h.h i x t e1 e2
  · rw [List.getElem?_append_right z] at e1
    rw [List.getElem?_append_right (by rw [← h.len]; exact z)] at e2
    rw [← h.len] at e2
    rcases Nat.eq_zero_or_pos (i - xs.length) with z0 | z0
    · rw [z0] at e1 e2
      cases e1
      cases e2
      exact ⟨a, rfl, g⟩
    · rw [List.getElem?_eq_none (by simp; omega)] at e1
      cases e1
/-- an item of a row -/
theorem RatsP.get {i : Nat} {e : Int × Int} (h : RatsP K p H xs es) (g : es[i]? = some e) : ∃ a, xs[i]? = some (.ref a) ∧ RatP K p H a e.1 e.2 := by
  have hi : i < xs.length := by rw [h.len]; exact (List.getElem?_eq_some_iff.mp g).1
  obtain ⟨a, ea, r⟩ := h.h i _ e (List.getElem?_eq_getElem hi) g
  exact ⟨a, by rw [List.getElem?_eq_getElem hi, ea], r⟩
theorem PairsP.get {i : Nat} {e : Int × Int} (h : PairsP p H xs es) (g : es[i]? = some e) : ∃ a, xs[i]? = some (.ref a) ∧ At p H a (.tup [.int e.1, .int e.2]) := by
  have hi : i < xs.length := by rw [h.len]; exact (List.getElem?_eq_some_iff.mp g).1
  obtain ⟨a, ea, r⟩ := h.h i _ e (List.getElem?_eq_getElem hi) g
  exact ⟨a, by rw [List.getElem?_eq_getElem hi, ea], r⟩
theorem NumsP.get {i : Nat} {e : Int × Int} (h : NumsP K p H xs es) (g : es[i]? = some e) : ∃ v, xs[i]? = some v ∧ NumP K p H v e.1 e.2 := by
  have hi : i < xs.length := by rw [h.len]; exact (List.getElem?_eq_some_iff.mp g).1
  exact ⟨_, List.getElem?_eq_getElem hi, h.h i _ e (List.getElem?_eq_getElem hi) g⟩
theorem RatsP.nums {n : Nat} (h : RatsP K p H xs es) (o : RowOk n es) : NumsP K p H xs es := ⟨h.len, fun i x t e1 e2 => by
  obtain ⟨a, rfl, r⟩ := h.h i x t e1 e2
  exact r.num (o.low t (List.mem_of_getElem? e2))⟩
theorem RdP.put0 {r q' dx : Addr} {fs : List (Str × V)} (m : Mu r H H' (.ins (He.ga K "Reading") dx (rdf q'))) (g : At p H r (.ins (He.ga K "Reading") dx fs)) (h2 : At p H q' (.tup xs)) (h3 : RatsP K p H xs es) (hne : ∀ t b, fs ≠ rf t b) : RdP K p H' r q' es :=
  have x : XtR p r H H' := XtR.mu m
  ⟨dx, xs, m.hereI g, x.at_ h2 g (by intro z; cases z), ⟨h3.len, fun i y t e1 e2 => by
    obtain ⟨a, e, ra⟩ := h3.h i y t e1 e2
    exact ⟨a, e, x.rat ra g (hne _ _)⟩⟩⟩
theorem take_snocE {α : Type} {l : List α} {i : Nat} {x : α} (h : l[i]? = some x) : l.take (i + 1) = l.take i ++ [x] := by
  rw [List.take_add_one, h]
  rfl
theorem RowOk.not_le {n i : Nat} {e f : Int × Int} (o : RowOk n es) (h1 : es[i]? = some e) (h2 : es[i + 1]? = some f) : relB .LtE (f.1 * e.2) (e.1 * f.2) = false := by
  have := o.rise i e f h1 h2
  show decide (f.1 * e.2 ≤ e.1 * f.2) = false
  exact decide_eq_false (by omega)
end
/-! ### starred items of a display, slices of tuples -/
structure StrS (x : V) (H : Hp) (k : List V → Prop) : Prop where
  h : ∃ p xs, x = .ref p ∧ H p = some (.tup xs) ∧ k xs
def tStarN (te : TE) (t : TA) : TA := fun σ H Q => te σ H fun x H1 => StrS x H1 fun xs => t σ H1 fun ys H2 => Q (xs ++ ys) H2
theorem pa_starN {X : Cx} {e : Expr} {es : List Expr} {te : TE} {t : TA} {p : Pos} (he : PE X e te) (hr : PA X es t) (hs : starEach (.Starred e p :: es) X.env = (true, eval e X.env) :: starEach es X.env := by rfl) : PA X (.Starred e p :: es) (tStarN te t) :=
  ⟨fun pos pins s σ H Q I h => (StX.pa_star he.mc hr.mc hs).run pos pins s σ H Q I ⟨_, h, fun x H1 ⟨⟨q, xs, e, hx, k⟩⟩ => ⟨q, xs, e, .inl (SqT.of hx), _, k, fun _ _ z => z⟩⟩⟩
theorem strT {p a : Addr} {H : Hp} {xs : List V} {k : List V → Prop} (h : At p H a (.tup xs)) (q : k xs) : StrS (.ref a) H k := ⟨a, xs, rfl, h.at_, q⟩
structure SlT (x : V) (lo hi : Option Int) (H : Hp) (Q : VK) : Prop where
  h : ∃ a xs, x = .ref a ∧ H a = some (.tup xs) ∧ ¬ (HT.sIx xs.length 0 lo = 0 ∧ HT.sIx xs.length xs.length hi = xs.length) ∧ DnS (.tup (cutV xs lo hi)) H Q
theorem sl_tupN {X : Cx} : SlR X SlT := by
  intro pins s σ H x v vl vu lo hi sl Q I rx hs pl pu q
  obtain ⟨a, xs, e, h, z, k⟩ := q
  exact sl_tup pins s σ H x v vl vu lo hi sl Q I rx hs pl pu ⟨a, xs, e, SqT.of h, z, New.upd k.h⟩
theorem cut_to (xs : List V) (j : Nat) (h : j ≤ xs.length) : cutV xs none (some (j : Int)) = xs.take j := by
  unfold cutV
  rw [HT.sIx_nat, Nat.min_eq_left h]
  simp [HT.sIx_none]
theorem slT_to {p a : Addr} {H : Hp} {xs : List V} {j : Nat} {Q : VK} (h : At p H a (.tup xs)) (hj : j < xs.length) (k : DnS (.tup (xs.take j)) H Q) : SlT (.ref a) none (some (j : Int)) H Q :=
  ⟨a, xs, rfl, h.at_, by rw [HT.sIx_nat]; omega, by rw [cut_to xs j (by omega)]; exact k⟩
theorem slT_from {p a : Addr} {H : Hp} {xs : List V} {j : Nat} {Q : VK} (h : At p H a (.tup xs)) (hj : j ≤ xs.length) (h0 : 0 < j) (k : DnS (.tup (xs.drop j)) H Q) : SlT (.ref a) (some (j : Int)) none H Q :=
  ⟨a, xs, rfl, h.at_, by rw [HT.sIx_nat]; omega, by rw [cut_from xs j hj]; exact k⟩
theorem RatsP.set {K : PySem.W.Frag} {p a : Addr} {H : Hp} {xs : List V} {es : List (Int × Int)} {i : Nat} {e : Int × Int} (h : RatsP K p H xs es) (g : RatP K p H a e.1 e.2) : RatsP K p H (xs.set i (.ref a)) (es.set i e) := by
  refine ⟨by simp [h.len], fun j x t e1 e2 => ?_⟩
  rw [List.getElem?_set] at e1 e2
  by_cases z : i = j
  · subst z
    by_cases hl : i < xs.length
    · rw [if_pos rfl, if_pos hl] at e1
      rw [if_pos rfl, if_pos (by rw [← h.len]; exact hl)] at e2
      cases e1
      cases e2
      exact ⟨a, rfl, g⟩
    · rw [if_pos rfl, if_neg hl] at e1
      cases e1
  · rw [if_neg z] at e1 e2
    exact h.h j x t e1 e2
theorem set_cut {α : Type} (xs : List α) (i : Nat) (x : α) (h : i < xs.length) : xs.set i x = xs.take i ++ ([x] ++ xs.drop (i + 1)) := by
  rw [List.set_eq_take_append_cons_drop, if_pos h]
  rfl
theorem ma_opI {f : Int → Int → V} {i : Nat} {v : V} : MonoA (tCons (tOp (rI0 f) (tVar i) (tC v)) tNil) := ma_cons (fun σ H Q Q' k q => m_var σ H _ _ (fun x H1 q1 => by
  obtain ⟨a, b, e1, e2, q2⟩ := q1
  exact ⟨a, b, e1, e2, k _ _ q2⟩) q) ma_nil
section
variable {p r q a C d : Addr} {H H' : Hp} {K : PySem.W.Frag} {xs : List V} {es : List (Int × Int)} {fs : List (Str × V)}
theorem ErrP.xt (x : Ext p H H') (h : ErrP p H a C d fs) : ErrP p H' a C d fs := h.ext x
theorem RatsP.xt (x : Ext p H H') (h : RatsP K p H xs es) : RatsP K p H' xs es := h.ext x
theorem NumsP.xt (x : Ext p H H') (h : NumsP K p H xs es) : NumsP K p H' xs es := h.ext x
theorem PairsP.xt (x : Ext p H H') (h : PairsP p H xs es) : PairsP p H' xs es := h.ext x
theorem RdP.xt (x : Ext p H H') (h : RdP K p H r q es) : RdP K p H' r q es := h.ext x
end
end EM
/-! EM69: fractions over one bottom: bounds that do not grow with every sum. -/
namespace EM
open PySem PySem.Spec PyProof.Rows L2
/-- in lowest terms, the bottom divides D, the value is at most M -/
structure Dv (D M : Nat) (e : Int × Int) : Prop where
  low : Low e.1 e.2
  dvd : e.2 ∣ (D : Int)
  le : (e.1.natAbs : Int) ≤ M * e.2
theorem Dv.mono {D M D' M' : Nat} {e : Int × Int} (h : Dv D M e) (h1 : D ∣ D') (h2 : M ≤ M') : Dv D' M' e :=
  ⟨h.low, Int.dvd_trans h.dvd (Int.natCast_dvd_natCast.mpr h1), Int.le_trans h.le (Int.mul_le_mul_of_nonneg_right (by omega) (Int.le_of_lt h.low.pos))⟩
theorem dvd_cop {a b : Int} {D : Int} (h : Low a b) (g : b ∣ a * D) : b ∣ D := by
  have h1 : b.natAbs ∣ a.natAbs * D.natAbs := by
    have := Int.natAbs_dvd_natAbs.mpr g
    rwa [Int.natAbs_mul] at this
  have h2 : Nat.Coprime b.natAbs a.natAbs := by
    have := h.red
    rw [Int.gcd_comm] at this
    exact this
  exact Int.natAbs_dvd_natAbs.mp (h2.dvd_of_dvd_mul_left h1)
theorem n_dvd {x y X : Int} {D : Nat} (hy : y ≠ 0) (e : x * D = X * y) : nBot x y ∣ (D : Int) := by
  refine dvd_cop (n_low (t := x) hy) ?_
  have h1 := n_cross (t := x) (b := y)
  have h2 : nTop x y * (D : Int) = X * nBot x y := by
    refine Int.eq_of_mul_eq_mul_right (a := y) hy ?_
    calc nTop x y * D * y = (nTop x y * y) * D := by ac_rfl
      _ = x * nBot x y * D := by rw [h1]
      _ = (x * D) * nBot x y := by ac_rfl
      _ = (X * y) * nBot x y := by rw [e]
      _ = X * nBot x y * y := by ac_rfl
  rw [h2]
  exact Int.dvd_mul_left _ _
theorem n_le {x y : Int} {M : Nat} (hy : 0 < y) (h : (x.natAbs : Int) ≤ M * y) : ((nTop x y).natAbs : Int) ≤ M * nBot x y := by
  have lo := n_low (t := x) (show y ≠ 0 by omega)
  have h1 := n_cross (t := x) (b := y)
  have e : ((nTop x y).natAbs : Int) * y = (x.natAbs : Int) * nBot x y := by
    have := congrArg Int.natAbs h1
    rw [Int.natAbs_mul, Int.natAbs_mul] at this
    have z := congrArg (Nat.cast : Nat → Int) this
    rw [Int.natCast_mul, Int.natCast_mul] at z
    rw [show ((y.natAbs : Nat) : Int) = y from by omega, show (((nBot x y).natAbs : Nat) : Int) = nBot x y from by have := lo.pos; omega] at z
    exact z
  refine Int.le_of_mul_le_mul_right (a := y) ?_ hy
  rw [e]
  calc (x.natAbs : Int) * nBot x y ≤ (M * y) * nBot x y := Int.mul_le_mul_of_nonneg_right h (Int.le_of_lt lo.pos)
    _ = M * nBot x y * y := by ac_rfl
theorem Dv.frac {x y : Int} {D M : Nat} (hy : 0 < y) (hd : y ∣ (D : Int)) (h : (x.natAbs : Int) ≤ M * y) : Dv D M (nTop x y, nBot x y) := by
  refine ⟨n_low (by omega), ?_, n_le hy h⟩
  obtain ⟨k, hk⟩ := hd
  exact n_dvd (X := x * k) (by omega) (by rw [hk]; ac_rfl)
theorem Dv.add {D M N : Nat} {b e : Int × Int} (hb : Dv D N b) (he : Dv D M e) : Dv D (M + N) (addF b e) := by
  have b0 := hb.low.pos
  have e0 := he.low.pos
  have y0 : 0 < e.2 * b.2 := Int.mul_pos e0 b0
  refine ⟨addF_low hb.low he.low, ?_, ?_⟩
  · obtain ⟨k1, h1⟩ := he.dvd
    obtain ⟨k2, h2⟩ := hb.dvd
    refine n_dvd (X := e.1 * k1 + b.1 * k2) (by omega) ?_
    calc (e.1 * b.2 + b.1 * e.2) * (D : Int) = e.1 * b.2 * D + b.1 * e.2 * D := Int.add_mul ..
      _ = e.1 * b.2 * (e.2 * k1) + b.1 * e.2 * (b.2 * k2) := by rw [← h1, ← h2]
      _ = (e.1 * k1 + b.1 * k2) * (e.2 * b.2) := by rw [Int.add_mul]; congr 1 <;> ac_rfl
  · refine n_le y0 ?_
    have h1 : ((e.1 * b.2).natAbs : Int) ≤ M * e.2 * b.2 := by
      rw [Int.natAbs_mul, Int.natCast_mul, show ((b.2.natAbs : Nat) : Int) = b.2 from by omega]
      exact Int.mul_le_mul_of_nonneg_right he.le (by omega)
    have h2 : ((b.1 * e.2).natAbs : Int) ≤ N * b.2 * e.2 := by
      rw [Int.natAbs_mul, Int.natCast_mul, show ((e.2.natAbs : Nat) : Int) = e.2 from by omega]
      exact Int.mul_le_mul_of_nonneg_right hb.le (by omega)
    have h3 : (((e.1 * b.2 + b.1 * e.2).natAbs : Nat) : Int) ≤ ((e.1 * b.2).natAbs : Int) + ((b.1 * e.2).natAbs : Int) := by omega
    have h4 : ((M + N : Nat) : Int) * (e.2 * b.2) = M * e.2 * b.2 + N * b.2 * e.2 := by
      rw [Int.natCast_add, Int.add_mul]
      congr 1 <;> ac_rfl
    rw [h4]
    omega
theorem Dv.mul {D D2 M N : Nat} {b e : Int × Int} (hb : Dv D2 N b) (he : Dv D M e) : Dv (D * D2) (M * N) (mulF b e) := by
  have b0 := hb.low.pos
  have e0 := he.low.pos
  have y0 : 0 < e.2 * b.2 := Int.mul_pos e0 b0
  refine ⟨mulF_low hb.low he.low, ?_, ?_⟩
  · obtain ⟨k1, h1⟩ := he.dvd
    obtain ⟨k2, h2⟩ := hb.dvd
    refine n_dvd (X := e.1 * b.1 * (k1 * k2)) (by omega) ?_
    rw [Int.natCast_mul, h1, h2]
    ac_rfl
  · refine n_le y0 ?_
    rw [Int.natAbs_mul, Int.natCast_mul, Int.natCast_mul]
    calc (e.1.natAbs : Int) * (b.1.natAbs : Int) ≤ (M * e.2) * (N * b.2) := Int.mul_le_mul he.le hb.le (by omega) (Int.le_trans (by omega) he.le)
      _ = M * N * (e.2 * b.2) := by ac_rfl
theorem Dv.neg {D M : Nat} {e : Int × Int} (h : Dv D M e) : Dv D M (-e.1, e.2) := ⟨low_neg h.low, h.dvd, by rw [show (-e.1, e.2).1 = -e.1 from rfl, Int.natAbs_neg]; exact h.le⟩
theorem Dv.bt {D M k m : Nat} {e : Int × Int} (h : Dv D M e) (hD : 0 < D) (h1 : D < 2 ^ k) (h2 : M < 2 ^ m) : Bt (k + m) e.1 ∧ Bt (k + m) e.2 := by
  have e0 := h.low.pos
  have h3 : e.2.natAbs ≤ D := by
    have := Nat.le_of_dvd hD (Int.natCast_dvd_natCast.mp (by rw [Int.dvd_natAbs.symm] at *; exact (Int.natAbs_dvd.mpr h.dvd)))
    exact this
  have k2 : Bt k e.2 := Nat.lt_of_le_of_lt h3 h1
  refine ⟨?_, k2.mono (by omega)⟩
  have h4 := h.le
  have h5 : e.1.natAbs ≤ M * e.2.natAbs := by
    have : ((M * e.2.natAbs : Nat) : Int) = M * e.2 := by
      rw [Int.natCast_mul, show ((e.2.natAbs : Nat) : Int) = e.2 from by omega]
    omega
  show e.1.natAbs < 2 ^ (k + m)
  rw [Nat.pow_add]
  refine Nat.lt_of_le_of_lt h5 ?_
  rw [Nat.mul_comm (2 ^ k)]
  exact Nat.mul_lt_mul'' h2 k2
/-- a rising row over the bottom D -/
structure RowD (D M : Nat) (es : List (Int × Int)) : Prop where
  dv : ∀ e ∈ es, Dv D M e
  rise : ∀ (i : Nat) e f, es[i]? = some e → es[i + 1]? = some f → e.1 * f.2 < f.1 * e.2
theorem RowD.mono {D M D' M' : Nat} {es : List (Int × Int)} (h : RowD D M es) (h1 : D ∣ D') (h2 : M ≤ M') : RowD D' M' es := ⟨fun e he => (h.dv e he).mono h1 h2, h.rise⟩
theorem RowD.ok {D M k m n : Nat} {es : List (Int × Int)} (h : RowD D M es) (hD : 0 < D) (h1 : D < 2 ^ k) (h2 : M < 2 ^ m) (hn : k + m ≤ n) : RowOk n es :=
  ⟨fun e he => (h.dv e he).low, fun e he => ⟨((h.dv e he).bt hD h1 h2).1.mono hn, ((h.dv e he).bt hD h1 h2).2.mono hn⟩, h.rise⟩
theorem RowD.add {D M N : Nat} {es : List (Int × Int)} {b : Int × Int} (h : RowD D M es) (hb : Dv D N b) : RowD D (M + N) (es.map (addF b)) := by
  refine ⟨fun e he => ?_, fun i e f h1 h2 => ?_⟩
  · obtain ⟨e0, h0, rfl⟩ := List.mem_map.mp he
    exact hb.add (h.dv _ h0)
  · rw [List.getElem?_map] at h1 h2
    obtain ⟨e0, g1, rfl⟩ := Option.map_eq_some_iff.mp h1
    obtain ⟨f0, g2, rfl⟩ := Option.map_eq_some_iff.mp h2
    exact (addF_lt hb.low (h.dv _ (List.mem_of_getElem? g1)).low (h.dv _ (List.mem_of_getElem? g2)).low).mpr (h.rise i _ _ g1 g2)
theorem RowD.mul {D D2 M N : Nat} {es : List (Int × Int)} {b : Int × Int} (h : RowD D M es) (hb : Dv D2 N b) (h0 : 0 < b.1) : RowD (D * D2) (M * N) (es.map (mulF b)) := by
  refine ⟨fun e he => ?_, fun i e f h1 h2 => ?_⟩
  · obtain ⟨e0, h0, rfl⟩ := List.mem_map.mp he
    exact hb.mul (h.dv _ h0)
  · rw [List.getElem?_map] at h1 h2
    obtain ⟨e0, g1, rfl⟩ := Option.map_eq_some_iff.mp h1
    obtain ⟨f0, g2, rfl⟩ := Option.map_eq_some_iff.mp h2
    exact (mulF_lt hb.low h0 (h.dv _ (List.mem_of_getElem? g1)).low (h.dv _ (List.mem_of_getElem? g2)).low).mpr (h.rise i _ _ g1 g2)
/-- more is greater -/
theorem addF_gt {b e : Int × Int} (hb : Low b.1 b.2) (he : Low e.1 e.2) (h0 : 0 < b.1) : e.1 * (addF b e).2 < (addF b e).1 * e.2 := by
  have b0 := hb.pos
  have e0 := he.pos
  have p1 : 0 < e.2 * b.2 := Int.mul_pos e0 b0
  refine (cross_lt (t := e.1) (b := e.2) (u := e.1 * b.2 + b.1 * e.2) (c := e.2 * b.2) e0 p1 e0 (addF_low hb he).pos rfl n_cross.symm).mp ?_
  have h1 : (e.1 * b.2 + b.1 * e.2) * e.2 = e.1 * (e.2 * b.2) + b.1 * e.2 * e.2 := by
    rw [Int.add_mul]
    congr 1
    ac_rfl
  rw [h1]
  have : 0 < b.1 * e.2 * e.2 := Int.mul_pos (Int.mul_pos h0 e0) e0
  omega
theorem RowD.snoc {D M : Nat} {es : List (Int × Int)} {e f : Int × Int} (h : RowD D M es) (hf : Dv D M f) (hl : ∀ e, es[es.length - 1]? = some e → e.1 * f.2 < f.1 * e.2) : RowD D M (es ++ [f]) := by
  refine ⟨fun x hx => ?_, fun i x y h1 h2 => ?_⟩
  · rcases List.mem_append.mp hx with z | z
    · exact h.dv x z
    · rw [List.mem_singleton.mp z]
      exact hf
  · rcases Nat.lt_or_ge (i + 1) es.length with z | z
    · rw [List.getElem?_append_left (by omega)] at h1
      rw [List.getElem?_append_left z] at h2
      exact h.rise i x y h1 h2
    · rw [List.getElem?_append_right z] at h2
      rcases Nat.eq_zero_or_pos (i + 1 - es.length) with z0 | z0
      · rw [z0] at h2
        cases h2
        rw [List.getElem?_append_left (by omega)] at h1
        rw [show i = es.length - 1 by omega] at h1
        exact hl x h1
      · rw [List.getElem?_eq_none (by simp; omega)] at h2
        cases h2
theorem Ext.muF {p F : Addr} {H H1 H2 : Hp} {o : HO} (f : Fresh p H F) (y : Ext p H H1) (m : Mu F H1 H2 o) : Ext p H H2 := ⟨fun b u e nb nt => by
  have hb : b ≠ F := fun z => by
    subst z
    rcases f.h u e with h | ⟨ps, h⟩
    · exact nb h
    · exact nt ps h
  rw [m.old b hb]
  exact y.k b u e nb nt⟩
end EM
/-! EM70: a statement at which the stepping word stops, what stands behind it read once. -/
namespace EM
open PySem PySem.Spec PyProof.Rows L2
structure StopS (t : TS) (D : Ends) (σ : L2.St) (H : Hp) : Prop where
  h : t D σ H
def tStop (t : TS) : TS := fun D σ H => StopS t D σ H
theorem ps_stop {X : Cx} {st : Stmt} {t : TS} (h : PS X st t) : PS X st (tStop t) := h.of fun _ _ _ q => q.h
theorem stop_rest {t : TS} {D : Ends} {σ : L2.St} {H : Hp} (S : L2.St → Hp → Prop) (h1 : ∀ N : L2.St → Hp → Prop, (∀ σ H, S σ H → N σ H) → t { nx := N, rt := D.rt, bk := D.bk, ct := D.ct } σ H) (h2 : ∀ σ H, S σ H → D.nx σ H) : StopS t D σ H := ⟨h1 D.nx h2⟩
theorem stop_go {t : TS} {D : Ends} {σ : L2.St} {H : Hp} (h : t D σ H) : StopS t D σ H := ⟨h⟩
end EM
/-! EM71: list(list), rows of pairs as data. -/
namespace EM
open PySem PySem.Spec PyProof.Rows L2
def rLstLN : List V → Hp → VK → Prop := fun vs H Q => ∃ a xs, vs = [.ref a] ∧ H a = some (.lst xs) ∧ DnS (.lst xs) H Q
theorem call_listLN {X : Cx} : CallR X (.type "list") (Sr rLstLN) := callR_sw (callR_of call_list_of fun vs H Q ⟨a, xs, e, h, z⟩ => ⟨a, xs, e, .inl (SqL.of h), New.upd z.h⟩)
theorem lstLL {p a : Addr} {H : Hp} {xs : List V} {Q : VK} (h : At p H a (.lst xs)) (k : DnS (.lst xs) H Q) : Sr rLstLN [.ref a] H Q := ⟨a, xs, rfl, h.at_, k⟩
def pairD (e : Int × Int) : PyData := .tuple [.int e.1, .int e.2]
theorem eqv_pair (e f : Int × Int) : PyData.eqv (pairD e) (pairD f) = decide (e = f) := by
  show ((e.1 == f.1) && ((e.2 == f.2) && true)) = decide (e = f)
  by_cases h : e = f
  · subst h
    simp
  · rw [decide_eq_false h, Bool.and_true, Bool.and_eq_false_iff]
    by_cases h1 : e.1 = f.1
    · right
      simp only [beq_eq_false_iff_ne, ne_eq]
      exact fun h2 => h (Prod.ext h1 h2)
    · left
      simpa using h1
theorem eqv_pairs : ∀ es fs : List (Int × Int), PyData.eqvAll (es.map pairD) (fs.map pairD) = decide (es = fs)
  | [], [] => rfl
  | [], f :: r => rfl
  | e :: r, [] => rfl
  | e :: r, f :: s => by
    show (PyData.eqv (pairD e) (pairD f) && PyData.eqvAll (r.map pairD) (s.map pairD)) = _
    rw [eqv_pair, eqv_pairs r s]
    simp [List.cons.injEq, Bool.decide_and]
theorem dp_pairs {K : PySem.W.Frag} {p : Addr} {H : Hp} : ∀ {xs : List V} {es : List (Int × Int)}, PairsP p H xs es → DpAll K H xs (es.map pairD)
  | [], [], _ => .nil
  | [], e :: r, h => by have := h.len; simp at this
  | x :: r, [], h => by have := h.len; simp at this
  | x :: r, e :: s, h => by
    obtain ⟨q, rfl, a⟩ := h.h 0 x e rfl rfl
    exact .cons (dp_tup a.at_ (.cons (.int _) (.cons (.int _) .nil))) (dp_pairs ⟨by have := h.len; simpa using this, fun i y t e1 e2 => h.h (i + 1) y t e1 e2⟩)
theorem fe_pairs (es : List (Int × Int)) : Fe 2 (.list (es.map pairD)) := Fe.list (FeL.all (m := 1) (fun d hd => by
  obtain ⟨e, _, rfl⟩ := List.mem_map.mp hd
  exact (Fe.tup (FeL.cons (Fe.int _) (FeL.cons (Fe.int _) FeL.nil)))))
/-- rows of pairs compared -/
theorem eq_rows {K : PySem.W.Frag} {p a b : Addr} {H : Hp} {xs ys : List V} {es fs : List (Int × Int)} {Q : VK} (h : At p H a (.lst xs)) (g : At p H b (.lst ys)) (hp : PairsP p H xs es) (gp : PairsP p H ys fs) (k : Q (.bl (decide (es = fs))) H) : So (rEqD K) (.ref a) (.ref b) H Q := by
  refine eqd_sw (dp_lst h.at_ (dp_pairs hp)) (dp_lst g.at_ (dp_pairs gp)) (fe_pairs es) (fe_pairs fs) (by decide) ?_
  have e : PyData.eqv (.list (es.map pairD)) (.list (fs.map pairD)) = decide (es = fs) := eqv_pairs es fs
  rw [e]
  exact k
end EM
/-! EM72: an instance whose class has an operator but no reflected one, with an int; an operator in place by its own def. -/
namespace EM
open PySem PySem.Spec PyProof.Rows L2
def rBinI (C : Addr) (sp : Sp) (E : XK) : R2 := fun x y H Q => ∃ a dx fs i, x = .ref a ∧ H a = some (.ins C dx fs) ∧ y = .int i ∧ sp [.ref a, y] H Q E
def rIopO (C : Addr) (sp : Sp) (E : XK) : R2 := fun x y H Q => ∃ a dx fs, x = .ref a ∧ H a = some (.ins C dx fs) ∧ sp [.ref a, y] H Q E
section
variable {X : Cx} {CX : CXT} {n : Nat} {g C : Addr} {sp : Sp} {E : XK}
theorem op_binI {op : Operator} {fo ro : Option Value} (hc : PySem.W.selfFirst X.K C = true) (hs : PySem.W.findIn X.K (.ref C) (PySem.dunder op.info.2) = some (some (.ref g))) (hf : PySem.W.isFn X.K (.ref g) = true) (hr : PySem.W.findIn X.K (.ref C) (dunderR op.info.2) = some none) (hi : PySem.W.subIn X.K (.type "int") (.ref C) = some false)
    (h1 : PySem.W.findIn X.K (.type "int") (PySem.dunder op.info.2) = some fo) (h2 : PySem.W.findIn X.K (.type "int") (dunderR op.info.2) = some ro)
    (F : FnR X.prog X.w X.K X.mg X.base CX n g sp) (rm : Room n X.A) (hx : Passes CX X E) : OpR X (binaryOp op) (rBinI C sp E) := by
  intro pins s σ H x y v u Q I rx ry h
  obtain ⟨a, dx, fs, i, rfl, ha, rfl, q⟩ := h
  cases (show v = Value.ref a from rx)
  obtain ⟨ox, od, J, _⟩ := ins_at I ha
  obtain ⟨m, hF⟩ := I.fr
  have run := run1 F rm hx I ry q
  obtain ⟨t, rfl⟩ := ry
  exact PySem.W.ksp_binT (T := "int") hF I.ok.mod.kin J rfl hc hs hf hr (.inl rfl) h1 h2 hi run
theorem iop_own {op : Operator} (hc : PySem.W.selfFirst X.K C = true) (hs : PySem.W.findIn X.K (.ref C) (dunderI op.info.2) = some (some (.ref g))) (hf : PySem.W.isFn X.K (.ref g) = true)
    (F : FnR X.prog X.w X.K X.mg X.base CX n g sp) (rm : Room n X.A) (hx : Passes CX X E) : OpR X (inplaceOp op) (rIopO C sp E) := by
  intro pins s σ H x y v u Q I rx ry h
  obtain ⟨a, dx, fs, rfl, ha, q⟩ := h
  cases (show v = Value.ref a from rx)
  obtain ⟨ox, od, J, _⟩ := ins_at I ha
  obtain ⟨m, hF⟩ := I.fr
  exact PySem.W.ksp_inplace hF I.ok.mod.kin J hc hs hf (run1 F rm hx I ry q)
end
end EM
/-! EM73: targets of two names hand on what is wanted. -/
namespace EM
open PySem PySem.Spec PyProof.Rows L2
theorem mg_two {K : PySem.W.Frag} {i j : Nat} : ∀ (x : V) (σ : L2.St) (H : Hp) (R R' : L2.St → Hp → Prop), (∀ σ H, R σ H → R' σ H) → gTup K 2 (gCons (gName i) (gCons (gName j) gNil)) x σ H R → gTup K 2 (gCons (gName i) (gCons (gName j) gNil)) x σ H R' := by
  intro x σ H R R' h q
  obtain ⟨a, xs, e, hs, hl, v, r, e1, v2, r2, e2, e3, q⟩ := q
  exact ⟨a, xs, e, hs, hl, v, r, e1, v2, r2, e2, e3, h _ _ q⟩
end EM
/-! EM74: fractions over one bottom as whole numbers. -/
namespace EM
open PySem PySem.Spec PyProof.Rows L2
/-- the number of D-th parts -/
def sc (D : Nat) (e : Int × Int) : Int := e.1 * ((D : Int) / e.2)
section
variable {D M N : Nat} {b e f : Int × Int}
theorem Dv.sc_mul (h : Dv D M e) : sc D e * e.2 = e.1 * D := by
  unfold sc
  rw [Int.mul_assoc, Int.ediv_mul_cancel h.dvd]
theorem Dv.sc_add (hb : Dv D N b) (he : Dv D M e) : sc D (addF b e) = sc D e + sc D b := by
  have ha := hb.add he
  have b0 := hb.low.pos
  have e0 := he.low.pos
  have a0 := ha.low.pos
  have h1 := ha.sc_mul
  have h2 := hb.sc_mul
  have h3 := he.sc_mul
  have h4 : (addF b e).1 * (e.2 * b.2) = (e.1 * b.2 + b.1 * e.2) * (addF b e).2 := n_cross
  generalize addF b e = a at *
  generalize sc D a = A at *
  generalize sc D b = B at *
  generalize sc D e = E at *
  obtain ⟨a1, a2⟩ := a
  obtain ⟨b1, b2⟩ := b
  obtain ⟨e1, e2⟩ := e
  simp only at *
  have z : (A - (E + B)) * (a2 * (e2 * b2)) = 0 := by
    have e1' : (A - (E + B)) * (a2 * (e2 * b2)) = (A * a2) * (e2 * b2) - (E * e2) * (b2 * a2) - (B * b2) * (e2 * a2) := by grind
    rw [e1', h1, h2, h3]
    have : a1 * D * (e2 * b2) = (a1 * (e2 * b2)) * D := by grind
    rw [this, h4]
    grind
  have p : a2 * (e2 * b2) ≠ 0 := Int.mul_ne_zero (by omega) (Int.mul_ne_zero (by omega) (by omega))
  rcases Int.mul_eq_zero.mp z with z | z
  · omega
  · exact absurd z p
theorem Dv.sc_cross (he : Dv D M e) (hf : Dv D N f) : (e.1 * f.2) * D = sc D e * (e.2 * f.2) ∧ (f.1 * e.2) * D = sc D f * (e.2 * f.2) := by
  have h1 := he.sc_mul
  have h2 := hf.sc_mul
  constructor
  · rw [← Int.mul_assoc, h1]; ac_rfl
  · rw [Int.mul_comm e.2, ← Int.mul_assoc, h2]; ac_rfl
theorem Dv.sc_lt (hD : 0 < D) (he : Dv D M e) (hf : Dv D N f) : e.1 * f.2 < f.1 * e.2 ↔ sc D e < sc D f := by
  obtain ⟨h1, h2⟩ := he.sc_cross hf
  have p : 0 < e.2 * f.2 := Int.mul_pos he.low.pos hf.low.pos
  have d : (0 : Int) < D := by omega
  constructor
  · intro h
    have := Int.mul_lt_mul_of_pos_right h d
    rw [h1, h2] at this
    exact Int.lt_of_mul_lt_mul_right this (Int.le_of_lt p)
  · intro h
    have := Int.mul_lt_mul_of_pos_right h p
    rw [← h1, ← h2] at this
    exact Int.lt_of_mul_lt_mul_right this (Int.le_of_lt d)
theorem Dv.sc_inj (hD : 0 < D) (he : Dv D M e) (hf : Dv D N f) (h : sc D e = sc D f) : e = f := by
  obtain ⟨h1, h2⟩ := he.sc_cross hf
  rw [h, ← h2] at h1
  have d : (D : Int) ≠ 0 := by omega
  obtain ⟨z1, z2⟩ := low_eq he.low hf.low (Int.eq_of_mul_eq_mul_right d h1)
  exact Prod.ext z1 z2
end
theorem sc_neg {D : Nat} {x y : Int} : sc D (-x, y) = -sc D (x, y) := by
  unfold sc
  exact Int.neg_mul ..
theorem Dv.half {D M : Nat} {e : Int × Int} (h : Dv D M e) : Dv (2 * D) M (nTop e.1 (2 * e.2), nBot e.1 (2 * e.2)) := by
  have p := h.low.pos
  refine Dv.frac (by omega) ?_ ?_
  · obtain ⟨k, hk⟩ := h.dvd
    exact ⟨k, by rw [Int.natCast_mul, hk, ← Int.mul_assoc]; rfl⟩
  · have := h.le
    refine Int.le_trans this ?_
    exact Int.mul_le_mul_of_nonneg_left (by omega) (by omega)
end EM
/-! EM75: lambdas that are kept: the function object is tracked from its making on; a def is called with it later. -/
namespace EM
open PySem PySem.Spec PyProof.Rows L2
/-- just this object stands at a -/
def exO (a : Addr) (o : Obj) : HO := .ext fun h => h.get? a = some o
theorem exO_ok {P : Program} {w : World} {H : Hp} {h : Heap} {a : Addr} {o : Obj} (e : h.get? a = some o) : ObjOk P w H h a (exO a o) := ⟨e, ⟨o, e⟩, fun _ _ q k => k o q⟩
theorem exO_ntbl {a : Addr} {o : Obj} : ∀ ps, exO a o ≠ .tbl ps := fun ps z => by
  unfold exO at z
  cases z
theorem exO_nlst {a : Addr} {o : Obj} : ∀ xs, exO a o ≠ .lst xs := fun ps z => by
  unfold exO at z
  cases z
theorem codeO_nlst {a : Addr} {q : Str} : ∀ xs, LamX.CodeO a q ≠ .lst xs := fun ps z => by
  unfold LamX.CodeO at z
  cases z
/-- what was not there at the frame's start may be tracked -/
theorem _root_.L2.Inv.trackO {X : Cx} {pins : List (Addr × Obj)} {σ : L2.St} {H : Hp} {s : Shared} {a : Addr} {oe : Obj} (I : Inv X pins σ H s) (e : s.heap.get? a = some oe) (hn : H a = none) (n0 : X.s_0.heap.get? a = none) (nL : a ≠ X.env.locals)
    (npin : ∀ p ∈ X.pn ++ pins, p.1 ≠ a) (ncell : ∀ x c, X.env.cells.lookup x = some c → c ≠ a) : Inv X pins σ (upd H a (exO a oe)) s := by
  have st : ∀ b u, H b = some u → upd H a (exO a oe) b = some u := fun b u q => by
    rw [upd_ne (ne_of_none q hn)]
    exact q
  exact ⟨I.ok, I.os, I.bare, ⟨I.base.keep, I.base.slot, fun b o q n hx => by
      rw [upd_ne (fun z => by rw [z, n0] at q; cases q)]
      exact I.base.free b o q n hx, I.base.there, fun b xs q => st _ _ (I.base.tups b xs q), fun b o u q => st _ _ (I.base.frzs b o u q), fun b ps q => by
      obtain ⟨more, z⟩ := I.base.tbls b ps q
      exact ⟨more, st _ _ z⟩⟩,
    I.loc, I.cell, by rw [upd_ne nL.symm]; exact I.free, fun x c hc => by rw [upd_ne (ncell x c hc)]; exact I.freeC x c hc, fun p hp => by
      obtain ⟨h1, h2, h3⟩ := I.pin p hp
      exact ⟨h1, by rw [upd_ne (npin p hp)]; exact h2, h3⟩,
    L2.HOk.laidN I.hok (fun _ _ q => q) hn (exO_ok e), I.len⟩
section
variable {X : Cx} {pins : List (Addr × Obj)} {σ : L2.St} {H : Hp} {s : Shared}
abbrev lamObj (X : Cx) (params : Arguments) (body : Expr) (scope : Scope) (pm : Value) (c2 : Addr) (ct : Value) : Obj := PySem.W.kla_obj "<lambda>" (X.env.qual ++ "<lambda>") params body scope (cloFrom X.env.cells scope.names []) pm c2 ct
/-- an object that was not there when the lambda was made: it may be tracked behind it -/
theorem track_new {H1 : Hp} {s1 : Shared} {f : Addr} {oe : Obj} (I : Inv X pins σ H s) (J : Inv X pins σ H1 s1) (hx : X.ex = []) (e : s1.heap.get? f = some oe) (n : s.heap.get? f = none) (hn : H1 f = none) : Inv X pins σ (upd H1 f (exO f oe)) s1 := by
  refine J.trackO e hn ?_ ?_ (fun p hp z => ?_) (fun x c hc z => ?_)
  · cases z : X.s_0.heap.get? f with
    | none => rfl
    | some o =>
      obtain ⟨o', e'⟩ := I.base.there f o z (by rw [hx]; exact List.not_mem_nil)
      rw [n] at e'
      cases e'
  · intro z
    obtain ⟨m, hns, _⟩ := I.loc
    obtain ⟨o, _, _, e', _⟩ := hns
    rw [← z, n] at e'
    cases e'
  · have e' := (I.pin p hp).1
    rw [z, n] at e'
    cases e'
  · obtain ⟨v, o, e', _⟩ := I.cell x c hc
    rw [z, n] at e'
    cases e'
/-- the lambda is made, and its object is tracked -/
theorem lam_makeK {T : List (Addr × Str)} {c B : Addr} {params : Arguments} {body : Expr} {scope : Scope} {lp : Pos} {E Q : Value → Shared → Prop} (I : Inv X pins σ H s) (hx : X.ex = []) (TB : LamX.TabB X.base X.mg c B) (hcode : X.env.code = .ref c)
    (mT : (B, X.env.qual ++ "<lambda>") ∈ T) (uT : ∀ p ∈ T, p.1 = B → p.2 = X.env.qual ++ "<lambda>") (hT : LamX.Tabs T H) (hdef : defaultsOf params X.env = ([], [])) (hfree : ∀ y ∈ scope.names, y.2 = .free → ∃ c, X.env.cells.lookup y.1 = some c)
    (k : ∀ (f c2 : Addr) (pm ct : Value) (H1 : Hp) (s1 : Shared), Inv X pins σ H1 s1 → LamX.ExtN H H1 → LamX.Tabs T H1 → H1 f = some (exO f (lamObj X params body scope pm c2 ct)) → H1 c2 = some (LamX.CodeO c2 (X.env.qual ++ "<lambda>")) → Q (.ref f) s1) :
    wpAny (model X.prog X.w) X.A (eval (.Lambda params body scope lp) X.env) Q E s := by
  obtain ⟨ps, atB, tri, am⟩ := hT _ mT
  have atB2 := I.hok B _ atB
  have atB3 : s.heap.get? B = some { cls := .none, data := .fields ps } := atB2
  apply PySem.W.kla_eval hdef
  -- what is wanted, once the new object is known
  have fin : ∀ (f c2 : Addr) (pm ct : Value) (H1 : Hp) (s1 : Shared), Inv X pins σ H1 s1 → LamX.ExtN H H1 → LamX.Tabs T H1 → s.heap.get? f = none → s1.heap.get? f = some (lamObj X params body scope pm c2 ct) → H1 f = none → H1 c2 = some (LamX.CodeO c2 (X.env.qual ++ "<lambda>")) → Q (.ref f) s1 := by
    intro f c2 pm ct H1 s1 J x1 t1 nf ef hf hc
    have J2 := track_new I J hx ef nf hf
    have up : ∀ b u, H1 b = some u → upd H1 f (exO f (lamObj X params body scope pm c2 ct)) b = some u := fun b u q => by
      rw [upd_ne (ne_of_none q hf)]
      exact q
    exact k f c2 pm ct _ s1 J2 (x1.trans (LamX.ExtN.of up)) (t1.ext up) upd_same (up _ _ hc)
  have none_ : ∀ {a : Addr}, s.heap.objs.size ≤ a → s.heap.get? a = none := fun {a} ha => by
    cases z : s.heap.get? a with
    | none => rfl
    | some o => exact absurd (Heap.lt_size z) (Nat.not_lt.mpr ha)
  have glob := I.mod.glob.keeps I.bk
  have cd := TB.code.keeps I.bk
  have bm := TB.bm.keeps I.bk
  cases hit : codeAmong lp ps.toList with
  | some cv =>
    obtain ⟨c2, rfl, hco⟩ := am lp cv hit
    refine PySem.W.kla_makeFunctionHit (P := B) (c := c) (mg := X.mg) (ps := ps) (closure_ok hfree) I.ok.glob glob hcode cd atB3 tri hit bm (fun ct hp tk kp le => ?_)
    have kp2 : ∀ b o, s.heap.get? b = some o → (hp.push (lamObj X params body scope ((X.mg "__name__").getD .none) c2 ct)).get? b = some o := fun b o q => Heap.get?_push_of_some _ (kp b o q)
    exact fin _ c2 _ ct H _ (I.kept (t' := tk) kp2) (LamX.ExtN.refl H) hT (none_ le) (Heap.get?_push_size _ rfl) (I.hok.fresh le) hco
  | none =>
    refine PySem.W.kla_makeFunction (P := B) (c := c) (mg := X.mg) (ps := ps) (closure_ok hfree) I.ok.glob glob hcode cd atB3 tri hit TB.gP bm (fun c3 ct hp tk hxb le lt rec_ hB => ?_)
    obtain ⟨c2, oc, vs, t, e0, e1, e2, e3⟩ := rec_
    cases e0
    have le2 : s.heap.objs.size ≤ hp.objs.size := Nat.le_of_lt (Nat.lt_of_le_of_lt le lt)
    have nc : H c3 = none := I.hok.fresh le
    have nBc : B ≠ c3 := ne_of_none atB nc
    have J := LamX.inv_table (h' := hp.push (lamObj X params body scope ((X.mg "__name__").getD .none) c3 ct)) (t' := tk) (more := #[rawInt lp.line, rawInt lp.col, .ref c3]) I atB (fun b o nb q => Heap.get?_push_of_some _ (hxb b o nb q)) (Heap.get?_push_of_some _ hB) le
      ⟨oc, vs, t, Heap.get?_push_of_some _ e1, e2, e3⟩
    have x1 : LamX.ExtN H (upd (upd H B (.tbl (ps ++ #[rawInt lp.line, rawInt lp.col, .ref c3]))) c3 (LamX.CodeO c3 (X.env.qual ++ "<lambda>"))) := by
      intro b o q n
      have nb : b ≠ B := fun z => by
        rw [z, atB] at q
        exact n ps (Option.some.inj q).symm
      rw [upd_ne (ne_of_none q nc), upd_ne nb]
      exact q
    have lst : (ps ++ #[rawInt lp.line, rawInt lp.col, Value.ref c3]).toList = ps.toList ++ [rawInt lp.line, rawInt lp.col, .ref c3] := Array.toList_append
    refine fin hp.objs.size c3 _ ct _ _ J x1 (fun p hp2 => ?_) (none_ le2) (Heap.get?_push_size _ rfl) ?_ upd_same
    · by_cases hb : p.1 = B
      · refine ⟨_, by rw [hb, upd_ne nBc, upd_same], by rw [lst]; exact PySem.TriplesOk_snoc _ _ _ _ tri, fun pp cv hcv => ?_⟩
        rw [uT p hp2 hb]
        rw [lst] at hcv
        rcases LamX.among_app _ tri hcv with z | z
        · obtain ⟨c0, z1, z2⟩ := am pp cv z
          exact ⟨c0, z1, x1 _ _ z2 LamX.codeO_ne⟩
        · exact ⟨c3, z, upd_same⟩
      · obtain ⟨ps2, a1, a2, a3⟩ := hT p hp2
        refine ⟨ps2, by rw [upd_ne (ne_of_none a1 nc), upd_ne hb]; exact a1, a2, fun pp cv hcv => ?_⟩
        obtain ⟨c0, z1, z2⟩ := a3 pp cv hcv
        exact ⟨c0, z1, x1 _ _ z2 LamX.codeO_ne⟩
    · have n2 : hp.objs.size ≠ B := Nat.ne_of_gt (Nat.lt_of_lt_of_le (Heap.lt_size atB3) le2)
      have n3 : hp.objs.size ≠ c3 := Nat.ne_of_gt lt
      rw [upd_ne n3, upd_ne n2]
      exact I.hok.fresh le2
end
/-! ### the rules -/
structure LamK (X : Cx) (T : List (Addr × Str)) (params : Arguments) (body : Expr) (scope : Scope) (H : Hp) (Q : VK) : Prop where
  tab : LamX.Tabs T H
  k : ∀ (f c2 : Addr) (pm ct : Value) (H1 : Hp), LamX.ExtN H H1 → LamX.Tabs T H1 → H1 f = some (exO f (lamObj X params body scope pm c2 ct)) → H1 c2 = some (LamX.CodeO c2 (X.env.qual ++ "<lambda>")) → Q (.ref f) H1
def tLamK (X : Cx) (T : List (Addr × Str)) (params : Arguments) (body : Expr) (scope : Scope) : TE := fun _ H Q => LamK X T params body scope H Q
/-- lambda: body, as a value -/
theorem pe_lamK {X : Cx} {T : List (Addr × Str)} {c B : Addr} {params : Arguments} {body : Expr} {scope : Scope} {lp : Pos} (hx : X.ex = []) (TB : LamX.TabB X.base X.mg c B) (hcode : X.env.code = .ref c) (mT : (B, X.env.qual ++ "<lambda>") ∈ T) (uT : ∀ p ∈ T, p.1 = B → p.2 = X.env.qual ++ "<lambda>")
    (L : LamX.LamS X.env.scope scope) (hdef : defaultsOf params X.env = ([], [])) : PE X (.Lambda params body scope lp) (tLamK X T params body scope) :=
  ⟨fun pins s σ H Q I h => lam_makeK I hx TB hcode mT uT h.tab hdef (L.has I.ok) fun f c2 pm ct H1 s1 J x1 t1 hf hc => ⟨.ref f, H1, J, rfl, h.k f c2 pm ct H1 x1 t1 hf hc⟩⟩
section
variable {X : Cx} {pins : List (Addr × Obj)} {σ : L2.St} {H : Hp} {s : Shared}
/-- a(): what was handed in is a kept lambda of X -/
theorem pe_actK {Ng : List Str} {qg : Str} {sg : Scope} {g f c2 : Addr} {cdg pm ct : Value} {params : Arguments} {body : Expr} {scope : Scope} {k i : Nat} {a : Str} {pn : List (Addr × Obj)} {xe : Value → Shared → Prop} {W : WX} {Eg : XK} {tb : TE} {p1 p2 : Pos}
    (I : Inv X pins σ H s) (L : LamX.LamS X.env.scope scope) (hG : X.A.guards = some [])
    (hbind : bindArgs (PySem.W.kla_fn "<lambda>" (X.env.qual ++ "<lambda>") params body scope (cloFrom X.env.cells scope.names []) pm (.ref c2) ct) ⟨[], []⟩ = pure [])
    (tk : Takes ((cxOf (L2.CX X.prog X.w) X.prog X.w X.K X.mg X.base Ng qg sg g cdg X.A X.stack s H Eg).tr pn xe) W) (rm : Room (k + 1) (X.A.deeper (envOfC qg sg s.heap.objs.size g cdg)))
    (hbody : ∀ (A : Around) (outer : List Env) (s : Shared) (H : Hp), Room k (A.deeper (LamX.lamEnv X scope s.heap.objs.size f c2)) → (A.deeper (LamX.lamEnv X scope s.heap.objs.size f c2)).guards = some [] → PE (LamX.lamCx X A outer s H (wide Ng.length W) scope f c2) body tb)
    (hN : Ng[i]? = some a) (hv : Vis sg a) (hd : (a == ("__debug__" : Str)) = false := by decide) (hcd : (a == ("__classdict__" : Str)) = false := by decide) :
    PE ((cxOf (L2.CX X.prog X.w) X.prog X.w X.K X.mg X.base Ng qg sg g cdg X.A X.stack s H Eg).tr pn xe) (.Call (.Name a p1) [] [] p2)
      (fun σZ HZ Q => σZ[i]? = some (some (.ref f)) ∧ (HZ f = some (exO f (lamObj X params body scope pm c2 ct)) ∧ HZ c2 = some (LamX.CodeO c2 (X.env.qual ++ "<lambda>"))) ∧ tb σ HZ Q) := by
  refine ⟨fun pz sz σz HZ Q IZ h => ?_⟩
  obtain ⟨h1, ⟨hf, h2⟩, h3⟩ := h
  refine wpAny_Call_Name_kw (thn ((pe_var (pos := p1) (i := i) hN hv hd hcd).run pz sz σz HZ (fun v H1 => v = .ref f ∧ H1 = HZ) IZ ⟨.ref f, h1, rfl, rfl⟩) fun u s1 hu => ?_)
  obtain ⟨v, H1, I1, r1, ev, eH⟩ := hu
  subst ev
  rw [eH] at I1
  obtain rfl : u = Value.ref f := r1
  have of1 : s1.heap.get? f = some (lamObj X params body scope pm c2 ct) := (I1.hok f _ hf).1
  refine PySem.W.callWith_F0 ⟨_, _, _, _, of1⟩ ?_
  have un : Un (frs X.stack) [] H HZ s.heap s1.heap := I1.base
  obtain ⟨⟨oc, vs, t, e1, e2, e3⟩, _, _⟩ := I1.hok c2 _ h2
  have rc : codeAny (model X.prog X.w) (X.A.deeper (envOfC qg sg s.heap.objs.size g cdg)) (.call (.ref f) ⟨[], []⟩) (CR (L2.CX X.prog X.w) (envOfC qg sg s.heap.objs.size g cdg :: X.stack) X.prog X.w HZ s1 Q (wide Ng.length W)) s1 := by
    refine PySem.W.kla_callFunE rm.depth of1 rfl L.co L.gen rfl ⟨c2, oc, vs, t, rfl, e1, e2, e3⟩ ?_
    rw [hbind]
    refine wpAny_pure (wpAny_newFunctionEnv (fun y hy => (L.own y hy).2) (fun y hy => absurd hy (by simp)) (fun h2 hns hsb => ⟨I1.nolimit.fresh _ hsb, ?_⟩) L.kind)
    show codeAny _ _ (.expr body (LamX.lamEnv X scope s1.heap.objs.size f c2)) _ _
    have kp : ∀ b o, s1.heap.get? b = some o → h2.get? b = some o := fun b o e => hsb.extBut b o (Nat.ne_of_lt (Heap.lt_size e)) (Heap.get?_push_of_some _ e)
    have J := LamX.lam_start2 (E := wide Ng.length W) (f := f) (c' := c2) (tk := s1.toks + ([] : List (Str × Value)).length) I L I1.env0 rm.hd un hns kp
    refine PySem.W.kla_codeExpr (wpAny_mono ((hbody _ _ s1 HZ (rm.deeper _) hG).run [] _ _ HZ Q J h3) (fun v s' hq => ?_) fun e s' hq => hq)
    obtain ⟨w', H', J', rv, q⟩ := hq
    exact ⟨w', H', J'.os, J'.bare, J'.base, J'.hok, rv, q⟩
  have hx : Passes (L2.CX X.prog X.w) ((cxOf (L2.CX X.prog X.w) X.prog X.w X.K X.mg X.base Ng qg sg g cdg X.A X.stack s H Eg).tr pn xe) (wide Ng.length W) := passes_len tk
  refine wpAny_call (codeAny_mono rc fun r s' hq => ?_)
  match r, hq with
  | .error e, hq => exact hx pz σz HZ s1 e s' I1 hq
  | .ok (.ret u), hq => exact I1.after hq
  | .ok .next, hq => exact False.elim hq
  | .ok .brk, hq => exact False.elim hq
  | .ok .cont, hq => exact False.elim hq
end
/-- what a def that calls what it gets makes of it; G: what is known of the lambda's objects -/
def GivesK (X : Cx) (Ng : List Str) (x : Str) (sg : Scope) (g : Addr) (cdg : Value) (bg : List Stmt) (a : Str) (TT : (XK → Hp → VK → Prop) → Hp → VK → Prop) : Prop :=
  ∀ (f : Addr) (G : Hp → Prop) (s : Shared) (H : Hp) (Q : VK) (tl : XK → Hp → VK → Prop),
    (∀ (W : WX) (pn : List (Addr × Obj)) (xe : Value → Shared → Prop) (p1 p2 : Pos), Takes ((cxOf (L2.CX X.prog X.w) X.prog X.w X.K X.mg X.base Ng x sg g cdg X.A X.stack s H E0).tr pn xe) W →
      PE ((cxOf (L2.CX X.prog X.w) X.prog X.w X.K X.mg X.base Ng x sg g cdg X.A X.stack s H E0).tr pn xe) (.Call (.Name a p1) [] [] p2) (fun σZ HZ Q => σZ[0]? = some (some (.ref f)) ∧ G HZ ∧ tl (wide Ng.length W) HZ Q)) →
    G H → TT tl H Q →
    ∃ t, PSs (cxOf (L2.CX X.prog X.w) X.prog X.w X.K X.mg X.base Ng x sg g cdg X.A X.stack s H E0) bg t ∧ t { nx := fun _ H' => Q .non H', rt := Q } (L2.start Ng [.ref f]) H
theorem GivesK.gives {X : Cx} {Ng : List Str} {x a q : Str} {sg : Scope} {g : Addr} {cdg : Value} {bg : List Stmt} {TT : (XK → Hp → VK → Prop) → Hp → VK → Prop} (h : GivesK X Ng x sg g cdg bg a TT) : GivesG X Ng x sg g cdg bg a q TT :=
  fun f c2 s H Q tl act hc ht => h f (fun HZ => HZ c2 = some (LamX.CodeO c2 q)) s H Q tl act hc ht
/-- the reading of x(e), e being a kept lambda -/
structure HearK (X : Cx) (k : Nat) (TT : (XK → Hp → VK → Prop) → Hp → VK → Prop) (σ : L2.St) (v : V) (H1 : Hp) (Q : VK) : Prop where
  h : ∃ (f c2 : Addr) (pm ct : Value) (params : Arguments) (body : Expr) (scope : Scope) (t : XK → TE), v = .ref f ∧ H1 f = some (exO f (lamObj X params body scope pm c2 ct)) ∧ H1 c2 = some (LamX.CodeO c2 (X.env.qual ++ "<lambda>")) ∧
    LamX.LamS X.env.scope scope ∧ (∀ (q : Str) (cl : List (Str × Addr)) (pm cv ctv : Value), bindArgs (PySem.W.kla_fn "<lambda>" q params body scope cl pm cv ctv) ⟨[], []⟩ = pure []) ∧
    (∀ (A : Around) (outer : List Env) (s : Shared) (H : Hp) (E : XK) (f c2 : Addr), Room k (A.deeper (LamX.lamEnv X scope s.heap.objs.size f c2)) → (A.deeper (LamX.lamEnv X scope s.heap.objs.size f c2)).guards = some [] → PE (LamX.lamCx X A outer s H E scope f c2) body (t E)) ∧
    TT (fun E H' Q' => t E σ H' Q') H1 Q
def tHearK (X : Cx) (k : Nat) (TT : (XK → Hp → VK → Prop) → Hp → VK → Prop) (te : TE) : TE := fun σ H Q => te σ H fun v H1 => HearK X k TT σ v H1 Q
section
variable {X : Cx}
/-- x(e): e's value is a kept lambda -/
theorem pe_callK {TT : (XK → Hp → VK → Prop) → Hp → VK → Prop} {x a : Str} {g : Addr} {k : Nat} {pg : Arguments} {bg : List Stmt} {sg : Scope} {fd : FuncData} {Ng : List Str}
    {te : TE} {e : Expr} {p pos : Pos} (he : PE X e te) (F : FunD X.K x x pg bg sg [] [] g fd) (hm : X.mg x = some (.ref g))
    (hb : ∀ (kV doc pm : Value) (an : Option Addr) (cdv ct : Value) (us : List Value), us.length = [a].length → bindArgs (PySem.W.fnOf x x pg bg sg .none kV doc pm an cdv ct) ⟨us, []⟩ = pure ([a].zip us))
    (Sg : FnScope Ng [a] sg) (hNg : Ng[0]? = some a) (hva : Vis sg a) (hG : X.A.guards = some []) (gv : GivesK X Ng x sg g (codeV X.K g) bg a TT) (rm : Room (k + 2) X.A)
    (hg : Gl X x := by rfl) (hdb : (x == ("__debug__" : Str)) = false := by decide) (hd : (a == ("__debug__" : Str)) = false := by decide) (hcd : (a == ("__classdict__" : Str)) = false := by decide)
    (hst : starEach [e] X.env = [(false, eval e X.env)] := by rfl) :
    PE X (.Call (.Name x p) [e] [] pos) (tHearK X k TT te) := by
  refine ⟨fun pins s σ H Q I h => ?_⟩
  have hk := F.kp
  have B := F.bindsN hb
  obtain ⟨oc, od, dV, kV, doc, pmg, an, cdv, ctg, osl, ee, lk, hcg, _, _⟩ := F.ex
  have ec : codeV X.K g = cdv := by
    unfold codeV
    rw [lk, ee]
  rw [ec] at gv
  subst ee
  refine wpAny_Call_Name_kw (ld_glob I hg hm ?_ hdb)
  refine PySem.W.callWith_K (h₀ := X.base) I.ok.mod.kin hk ?_ hst (by rfl)
  rw [hst]
  show wpAny _ _ (spliced ((false, eval e X.env) :: backTo pos (starEach [] X.env))) _ _ s
  refine Calls.spliced_cons (thn (he.run pins s σ H _ I h) fun u s2 hu => ?_)
  obtain ⟨v, H1, I1, r1, ⟨f, c2, pm, ct, params, body, scope, t, ev, hf, hco, L, hbind, hbody, ht⟩⟩ := hu
  subst ev
  obtain rfl : u = Value.ref f := r1
  refine Calls.spliced_nil ⟨I1.kIn, ?_⟩
  have rc : codeAny (model X.prog X.w) X.A (.call (.ref g) ⟨[.ref f], []⟩) (CR (L2.CX X.prog X.w) X.stack X.prog X.w H1 s2 Q E0) s2 := by
    refine LamX.run_ofS (N := Ng) (ps := [a]) (us := [.ref f]) (vs := [.ref f]) lk hcg Sg rm I1.env0 (B s2 [.ref f] I1.kIn rfl) (.cons rfl .nil) rfl fun rm2 => ?_
    exact gv f (fun HZ => HZ f = some (exO f (lamObj X params body scope pm c2 ct)) ∧ HZ c2 = some (LamX.CodeO c2 (X.env.qual ++ "<lambda>"))) s2 H1 Q (fun E H' Q' => t E σ H' Q')
      (fun W pn xe p1 p2 tk => pe_actK (i := 0) I1 L hG (hbind _ _ _ _ _) tk rm2 (fun A outer s H rm3 hG3 => hbody A outer s H _ f c2 rm3 hG3) hNg hva hd hcd) ⟨hf, hco⟩ ht
  refine wpAny_call (codeAny_mono rc fun r s3 hq => ?_)
  match r, hq with
  | .error e, hq =>
    obtain ⟨_, _, _, _, _, _, _, _, _, _, _, _, z⟩ := hq
    exact z.elim
  | .ok (.ret u), hq => exact I1.after hq
  | .ok .next, hq => exact False.elim hq
  | .ok .brk, hq => exact False.elim hq
  | .ok .cont, hq => exact False.elim hq
/-- one of two readings -/
theorem _root_.L2.PE.or {e : Expr} {t1 t2 : TE} (h1 : PE X e t1) (h2 : PE X e t2) : PE X e (fun σ H Q => t1 σ H Q ∨ t2 σ H Q) := ⟨fun pins s σ H Q I h => h.elim (h1.run pins s σ H Q I) (h2.run pins s σ H Q I)⟩
end
end EM
/-! EM76: w in (i, j, ..) for ints; texts of numbers. -/
namespace EM
open PySem PySem.Spec PyProof.Rows L2
structure InN (K : PySem.W.Frag) (x y : V) (H : Hp) (Q : VK) : Prop where
  h : rIn K false x y H Q
structure NotInN (K : PySem.W.Frag) (x y : V) (H : Hp) (Q : VK) : Prop where
  h : rIn K true x y H Q
theorem op_inN {X : Cx} : OpR X (compareOp .In) (InN X.K) := opR_of op_in_seq fun _ _ _ _ h => h.h
theorem op_notInN {X : Cx} : OpR X (compareOp .NotIn) (NotInN X.K) := opR_of op_notIn_seq fun _ _ _ _ h => h.h
theorem inV_int {w : Int} : ∀ {xs : List Int}, inV (.int w) (xs.map V.int) = decide (w ∈ xs)
  | [] => by simp [inV]
  | x :: xs => by
    have ih := inV_int (w := w) (xs := xs)
    unfold inV at ih ⊢
    rw [List.map_cons, List.any_cons, ih]
    have e : eqV (.int x) (.int w) = decide (x = w) := by
      show (x == w) = _
      by_cases h : x = w <;> simp [h]
    rw [e]
    by_cases h : x = w
    · subst h; simp
    · have h2 : ¬ w = x := fun z => h z.symm
      simp [h, h2]
theorem flat_ints : ∀ {xs : List Int}, (xs.map V.int).all flatV = true
  | [] => rfl
  | _ :: xs => by rw [List.map_cons, List.all_cons, flat_ints]; rfl
section
variable {K : PySem.W.Frag} {p a : Addr} {H : Hp} {Q : VK} {w : Int}
theorem inN_int (is : List Int) (h : At p H a (.tup (is.map V.int))) (k : Q (.bl (decide (w ∈ is))) H) : InN K (.int w) (.ref a) H Q :=
  ⟨a, _, rfl, .inr (SqT.of h.at_), rfl, flat_ints, by rw [if_neg (by decide), inV_int]; exact k⟩
end
/-- the text of a number, as repr tells it -/
def numText (rt : Int → Int → Str) (v : V) (t b : Int) : Str := match v with
  | .int i => (PyData.int i).shown
  | _ => rt t b
theorem okS_app {a b : Str} (h : okS a) (g : okS b) : okS (a ++ b) := by
  intro c hc
  rw [sg_app] at hc
  rcases List.mem_append.mp hc with z | z
  · exact h c z
  · exact g c z
end EM
/-! EM77: an operator whose left side's own def declines (NotImplemented), the right side's reflected def answers; an instance op one of another class, without a reflected def. -/
namespace PySem.W
open PySem PySem.Calls PyProof.Rows Builtin
section
variable {prog : Program} {w : World} {A : Around} {K : Frag} {s : Shared} {x b f r g C D L : Addr} {h₀ : Heap} {m : Str → Option Value} {ox oy : Obj} {od od' : Option Obj} {E : Value → Shared → Prop}
/-- a def declines: what is told behind it -/
def DecBack (Z : Shared → Prop) : Value → Shared → Prop := fun v s1 => v = .notImplemented ∧ Z s1
theorem em_tryNo {Z : Shared → Prop} {Q : Option Value → Shared → Prop} {name : Str} {c : Value} (X : K.In s.heap) (I : InstAt s.heap x ox C od) (hs : findIn K (.ref C) name = some (some (.ref f))) (hf : isFn K (.ref f) = true)
    (h : wpAny (model prog w) A (call (.ref f) [.ref x, c]) (DecBack Z) E s) (q : ∀ s1, Z s1 → Q none s1) : wpAny (model prog w) A (tryMethod (.ref x) name c) Q E s := by
  unfold tryMethod
  refine wpAny_bind (special_fn X I hs (beq_iff_eq.mp hf) (wpAny_mono h (fun v s1 hv => ?_) fun _ _ e => e))
  obtain ⟨rfl, hz⟩ := hv
  exact wpAny_pure (q _ hz)
/-- own def of the left side, the right one being of another class -/
theorem em_bin1N {nm : String} {g' : Addr} {rc rd : Option Value} {Q : Value → Shared → Prop} (X : K.In s.heap) (I : InstAt s.heap x ox C od) (J : InstAt s.heap b oy D od') (hc : selfFirst K C = true)
    (hs : findIn K (.ref C) (PySem.dunder nm) = some (some (.ref f))) (hf : isFn K (.ref f) = true) (hr : findIn K (.ref C) (dunderR nm) = some rc) (pc : rc = none ∨ ∃ g : Addr, rc = some (.ref g))
    (hd : selfFirst K D = true) (hsd : findIn K (.ref D) (PySem.dunder nm) = some (some (.ref g'))) (hrd : findIn K (.ref D) (dunderR nm) = some rd) (pd : rd = none ∨ ∃ g : Addr, rd = some (.ref g)) (hne : D ≠ C) (hsub : subIn K (.ref D) (.ref C) = some false)
    (h : wpAny (model prog w) A (call (.ref f) [.ref x, .ref b]) (CmpBack Q) E s) : wpAny (model prog w) A (binaryOp1 nm (.ref x) (.ref b)) (fun r s2 => ∃ v, r = some v ∧ Q v s2) E s := by
  obtain ⟨cd, rest, hcd, hm⟩ := ksp_first hc
  obtain ⟨cd', rest', hcd', hm'⟩ := ksp_first hd
  have one := ksp_try X I hs hf h
  have l1 : Looks (model prog w) s.heap (typeOf (.ref x)) (.ref C) := I.type
  have l2 : Looks (model prog w) s.heap (typeOf (.ref b)) (.ref D) := J.type
  have l3 : Looks (model prog w) s.heap (fillsNumberSlot (.ref C) nm) true := fills_K X hcd hm hs
  have l4 : Looks (model prog w) s.heap (fillsNumberSlot (.ref D) nm) true := fills_K X hcd' hm' hsd
  have l5 : Looks (model prog w) s.heap (isSubtype (.ref D) (.ref C)) false := looks_subIn X hsub
  have l6 : Looks (model prog w) s.heap (numberSlotInPython (.ref C) nm) true := ksp_inPy X hs hr pc
  have l7 : Looks (model prog w) s.heap (numberSlotInPython (.ref D) nm) true := ksp_inPy X hsd hrd pd
  have hn' : (Value.ref C == Value.ref D) = false := Bool.eq_false_iff.mpr fun q => hne (by cases beq_iff_eq.mp q; rfl)
  unfold binaryOp1
  refine wpAny_bind (l1.here (wpAny_bind (l2.here (wpAny_bind (l3.here ?_)))))
  simp only [hn', Bool.false_eq_true, if_false]
  refine wpAny_bind (l4.here ?_)
  simp only [Bool.and_self, Bool.false_eq_true, if_false, if_true, Bool.true_and, Bool.not_false]
  refine wpAny_bind (l5.here ?_)
  simp only [Bool.false_eq_true, if_false, if_true, Bool.not_false]
  refine wpAny_bind (l6.here ?_)
  simp only [Bool.false_eq_true, if_false, if_true, Bool.not_false]
  refine wpAny_bind (l7.here ?_)
  simp only [Bool.false_eq_true, if_false, if_true, Bool.not_true]
  refine wpAny_bind (m := tryMethod _ _ _) (wpAny_mono one (fun z s2 hz => ?_) fun _ _ y => y)
  obtain ⟨v, rfl, hq⟩ := hz
  exact wpAny_pure ⟨v, rfl, hq⟩
/-- the left side's own def declines; the right side's reflected def is asked -/
theorem em_bin1D {nm : String} {g' : Addr} {rc : Option Value} {Q : Value → Shared → Prop} (X : K.In s.heap) (I : InstAt s.heap x ox C od) (J : InstAt s.heap b oy D od') (hc : selfFirst K C = true)
    (hs : findIn K (.ref C) (PySem.dunder nm) = some (some (.ref f))) (hf : isFn K (.ref f) = true) (hr : findIn K (.ref C) (dunderR nm) = some rc) (pc : rc = none ∨ ∃ g : Addr, rc = some (.ref g))
    (hd : selfFirst K D = true) (hsd : findIn K (.ref D) (PySem.dunder nm) = some (some (.ref g'))) (hrd : findIn K (.ref D) (dunderR nm) = some (some (.ref g))) (hg : isFn K (.ref g) = true) (hne : D ≠ C) (hsub : subIn K (.ref D) (.ref C) = some false)
    (h : wpAny (model prog w) A (call (.ref f) [.ref x, .ref b]) (DecBack fun s1 => K.In s1.heap ∧ (∃ o1 d1, InstAt s1.heap x o1 C d1) ∧ (∃ o2 d2, InstAt s1.heap b o2 D d2) ∧ wpAny (model prog w) A (call (.ref g) [.ref b, .ref x]) (CmpBack Q) E s1) E s) :
    wpAny (model prog w) A (binaryOp1 nm (.ref x) (.ref b)) (fun r s2 => ∃ v, r = some v ∧ Q v s2) E s := by
  obtain ⟨cd, rest, hcd, hm⟩ := ksp_first hc
  obtain ⟨cd', rest', hcd', hm'⟩ := ksp_first hd
  have l1 : Looks (model prog w) s.heap (typeOf (.ref x)) (.ref C) := I.type
  have l2 : Looks (model prog w) s.heap (typeOf (.ref b)) (.ref D) := J.type
  have l3 : Looks (model prog w) s.heap (fillsNumberSlot (.ref C) nm) true := fills_K X hcd hm hs
  have l4 : Looks (model prog w) s.heap (fillsNumberSlot (.ref D) nm) true := fills_K X hcd' hm' hsd
  have l5 : Looks (model prog w) s.heap (isSubtype (.ref D) (.ref C)) false := looks_subIn X hsub
  have l6 : Looks (model prog w) s.heap (numberSlotInPython (.ref C) nm) true := ksp_inPy X hs hr pc
  have l7 : Looks (model prog w) s.heap (numberSlotInPython (.ref D) nm) true := ksp_inPy X hsd hrd (.inr ⟨_, rfl⟩)
  have hn' : (Value.ref C == Value.ref D) = false := Bool.eq_false_iff.mpr fun q => hne (by cases beq_iff_eq.mp q; rfl)
  unfold binaryOp1
  refine wpAny_bind (l1.here (wpAny_bind (l2.here (wpAny_bind (l3.here ?_)))))
  simp only [hn', Bool.false_eq_true, if_false]
  refine wpAny_bind (l4.here ?_)
  simp only [Bool.and_self, Bool.false_eq_true, if_false, if_true, Bool.true_and, Bool.not_false]
  refine wpAny_bind (l5.here ?_)
  simp only [Bool.false_eq_true, if_false, if_true, Bool.not_false]
  refine wpAny_bind (l6.here ?_)
  simp only [Bool.false_eq_true, if_false, if_true, Bool.not_false]
  refine wpAny_bind (l7.here ?_)
  simp only [Bool.false_eq_true, if_false, if_true, Bool.not_true]
  refine wpAny_bind (m := tryMethod _ _ _) (em_tryNo X I hs hf h fun s1 hz => ?_)
  obtain ⟨X1, ⟨o1, d1, I1⟩, ⟨o2, d2, J1⟩, run⟩ := hz
  have two := ksp_try X1 J1 hrd hg run
  have n1 : Looks (model prog w) s1.heap (typeOf (.ref x)) (.ref C) := I1.type
  have n2 : Looks (model prog w) s1.heap (typeOf (.ref b)) (.ref D) := J1.type
  simp only [Bool.false_eq_true, if_false, if_true, Bool.not_false, Bool.and_self]
  refine wpAny_bind (n1.here (wpAny_bind (n2.here ?_)))
  simp only [hn', Bool.false_eq_true, if_false]
  refine wpAny_bind (m := tryMethod _ _ _) (wpAny_mono two (fun z s2 hz => ?_) fun _ _ y => y)
  obtain ⟨v, rfl, hq⟩ := hz
  exact wpAny_bind (wpAny_rule (wpAny_pure ⟨v, rfl, hq⟩))
end
end PySem.W
namespace EM
open PySem PySem.Spec PyProof.Rows L2
/-- a def that declines at its first test -/
theorem run_declines {P : Program} {w : World} {K : PySem.W.Frag} {mg : Str → Option Value} {base : Heap} {x qual : Str} {params : Arguments} {body rest els : List Stmt} {scope : Scope} {kws : List (Str × V)} {f : Addr} {fd : FuncData} {N ps : List Str} {c : Expr} {p1 p2 p3 : Pos} {k : Nat} {A : Around} {outer : List Env} {s : Shared} {H : Hp} {us : List Value} {vs : List V} {G : Hp → Prop}
    (F : FunD K x qual params body scope [] kws f fd) (S : FnScope N ps scope)
    (hb : ∀ (kV doc pm : Value) (an : Option Addr) (cdv ct : Value) (us : List Value), us.length = ps.length → bindArgs (PySem.W.fnOf x qual params body scope .none kV doc pm an cdv ct) ⟨us, []⟩ = pure (ps.zip us))
    (eb : body = .If c [.Return (some (.Name "NotImplemented" p1)) p2] els p3 :: rest) (hgl : scope.names.lookup ("NotImplemented" : Str) = some .globalImplicit) (hmg : mg "NotImplemented" = none)
    (rm : Room (k + 1) A) (e0 : Env0 P w K mg base A outer s H) (ev : Vals vs us) (nl : vs.length = ps.length)
    (hc : ∀ cdv : Value, Room k (A.deeper (envOfC qual scope s.heap.objs.size f cdv)) → ∃ t, PT (cxOf (L2.CX P w) P w K mg base N qual scope f cdv A outer s H E0) c t ∧ t (start N vs) H (fun b H1 => b = true ∧ G H1)) :
    codeAny (model P w) A (.call (.ref f) ⟨us, []⟩) (fun r s1 => r = .ok (.ret .notImplemented) ∧ CE outer P w H s (fun _ H1 => G H1) .none s1) s := by
  have B := F.bindsN hb
  obtain ⟨oc, od, dV, kV, doc, pm, an, cdv, ct, osl, e, lk, hcd, _, _⟩ := F.ex
  have kin : K.In s.heap := e0.mod.kin.keeps fun b o e => (e0.bs b o e).1
  have nolim : s.heap.NoLimit := e0.mod.nolimit.keeps fun b o e => (e0.bs b o e).1
  have ul : us.length = ps.length := by rw [← ev.length]; exact nl
  have kinds : ∀ y ∈ ps.zip us, scope.names.lookup y.1 = some .local ∨ (scope.names.lookup y.1 = some .cell ∧ ((cellsFrom (s.heap.objs.size + 1) scope.names []).lookup y.1).isSome = true) := by
    rintro ⟨n, v⟩ hy
    have hn := S.par n (List.of_mem_zip hy).1
    exact hn.elim Or.inl fun q => Or.inr ⟨q, PySem.W.cellsFrom_some _ _ _ (.inl q)⟩
  subst e
  have bt := B s us kin (by rw [List.append_nil]; exact ul)
  rw [List.append_nil] at bt
  apply codeAny_call_function rm.depth (kin _ _ lk) rfl S.co S.gen rfl (PySem.W.codeRec_of kin hcd)
  refine bt _ _ _ _ ?_
  refine wpAny_newFunctionEnv_cells S.kind kinds fun env he s1 st => ?_
  subst he
  refine ⟨nolim.keeps st.toInCall.keep, codeAny_func ?_⟩
  obtain ⟨t, ht, hq⟩ := hc cdv (rm.deeper _)
  have I : Inv (cxOf (L2.CX P w) P w K mg base N qual scope f cdv A outer s H E0) [] (L2.start N vs) H s1 := inv_start S rm.hd e0 nl ev st
  subst eb
  refine wpAny_execs_cons (wpAny_If (wpAny_mono (ht.run [] s1 _ H _ I hq) (fun d s2 hd => ?_) fun e s2 he => ?_))
  · obtain ⟨H2, I2, rfl, g⟩ := hd
    have ret_ := ld_blt (E := fun e s2 => False) (Q := fun v s2 => v = .notImplemented ∧ CE outer P w H s (fun _ H1 => G H1) .none s2) (pos := p1) I2 hgl hmg (by rfl : bootBuiltins "NotImplemented" = some .notImplemented) ⟨rfl, ⟨.non, H2, I2.os, I2.bare, I2.base, I2.hok, rfl, g⟩⟩
    refine wpAny_execs_cons (wpAny_Return_some (wpAny_mono ret_ (fun v s3 hv => ?_) fun _ _ z => z.elim))
    obtain ⟨rfl, z⟩ := hv
    exact ⟨rfl, z⟩
  · have no : ∀ e3 s3, CX P w outer H s E0 e3 s3 → False := fun e3 s3 z => by
      obtain ⟨_, _, _, _, _, _, _, _, _, _, _, _, z⟩ := z
      exact z
    exact wpAny_mono he (fun _ s3 z => (no _ _ z).elim) (fun e3 s3 z => (no _ _ z).elim)
/-- x op y, y being an instance of another class -/
def rBinN (C D : Addr) (sp : Sp) (E : XK) : R2 := fun x y H Q => ∃ a dx fs b dy gs, x = .ref a ∧ H a = some (.ins C dx fs) ∧ y = .ref b ∧ H b = some (.ins D dy gs) ∧ sp [.ref a, y] H Q E
section
variable {X : Cx} {CX : CXT} {n : Nat} {g r g' C D : Addr} {sp : Sp} {E : XK}
theorem op_binN {op : Operator} {rc rd : Option Value} (hc : PySem.W.selfFirst X.K C = true) (hs : PySem.W.findIn X.K (.ref C) (PySem.dunder op.info.2) = some (some (.ref g))) (hf : PySem.W.isFn X.K (.ref g) = true) (hr : PySem.W.findIn X.K (.ref C) (dunderR op.info.2) = some rc) (pc : rc = none ∨ ∃ g : Addr, rc = some (.ref g))
    (hd : PySem.W.selfFirst X.K D = true) (hsd : PySem.W.findIn X.K (.ref D) (PySem.dunder op.info.2) = some (some (.ref g'))) (hrd : PySem.W.findIn X.K (.ref D) (dunderR op.info.2) = some rd) (pd : rd = none ∨ ∃ g : Addr, rd = some (.ref g)) (hne : D ≠ C) (hsub : PySem.W.subIn X.K (.ref D) (.ref C) = some false)
    (F : FnR X.prog X.w X.K X.mg X.base CX n g sp) (rm : Room n X.A) (hx : Passes CX X E) : OpR X (binaryOp op) (rBinN C D sp E) := by
  intro pins s σ H x y v u Q I rx ry h
  obtain ⟨a, dx, fs, b, dy, gs, rfl, ha, rfl, hb, q⟩ := h
  cases (show v = Value.ref a from rx)
  have run := run1 F rm hx I ry q
  cases (show u = Value.ref b from ry)
  obtain ⟨ox, od, J, _⟩ := ins_at I ha
  obtain ⟨oy, od', J', _⟩ := ins_at I hb
  exact PySem.W.em_bin (PySem.W.em_bin1N I.kIn J J' hc hs hf hr pc hd hsd hrd pd hne hsub run)
/-- y op x: y's own def declines, x's reflected def answers -/
def rBinD (C D : Addr) (sp : Sp) (E : XK) : R2 := fun y x H Q => ∃ a dx fs b dy gs, y = .ref b ∧ H b = some (.ins C dy gs) ∧ x = .ref a ∧ H a = some (.ins D dx fs) ∧ sp [.ref a, y] H Q E
theorem op_binD {op : Operator} {rc : Option Value} (hc : PySem.W.selfFirst X.K C = true) (hs : PySem.W.findIn X.K (.ref C) (PySem.dunder op.info.2) = some (some (.ref g))) (hf : PySem.W.isFn X.K (.ref g) = true) (hr : PySem.W.findIn X.K (.ref C) (dunderR op.info.2) = some rc) (pc : rc = none ∨ ∃ g : Addr, rc = some (.ref g))
    (hd : PySem.W.selfFirst X.K D = true) (hsd : PySem.W.findIn X.K (.ref D) (PySem.dunder op.info.2) = some (some (.ref g'))) (hrd : PySem.W.findIn X.K (.ref D) (dunderR op.info.2) = some (some (.ref r))) (hg : PySem.W.isFn X.K (.ref r) = true) (hne : D ≠ C) (hsub : PySem.W.subIn X.K (.ref D) (.ref C) = some false)
    (dec : ∀ (A : Around) (outer : List Env) (s : Shared) (H : Hp) (us : List Value) (a b dx dy : Addr) (fs gs : List (Str × V)), Room n A → Env0 X.prog X.w X.K X.mg X.base A outer s H → Vals [V.ref b, V.ref a] us → H b = some (.ins C dy gs) → H a = some (.ins D dx fs) →
      codeAny (model X.prog X.w) A (.call (.ref g) ⟨us, []⟩) (fun r s1 => r = .ok (.ret .notImplemented) ∧ CE outer X.prog X.w H s (fun _ H1 => H1 = H) .none s1) s)
    (F : FnR X.prog X.w X.K X.mg X.base CX n r sp) (rm : Room n X.A) (hx : Passes CX X E) : OpR X (binaryOp op) (rBinD C D sp E) := by
  intro pins s σ H y x v u Q I ry rx h
  obtain ⟨a, dx, fs, b, dy, gs, rfl, hb, rfl, ha, q⟩ := h
  cases (show v = Value.ref b from ry)
  cases (show u = Value.ref a from rx)
  obtain ⟨ox, od, J, _⟩ := ins_at I hb
  obtain ⟨oy, od', J', _⟩ := ins_at I ha
  refine PySem.W.em_bin (PySem.W.em_bin1D I.kIn J J' hc hs hf hr pc hd hsd hrd hg hne hsub ?_)
  refine wpAny_call (codeAny_mono (dec X.A X.stack s H [.ref b, .ref a] a b dx dy fs gs rm I.env0 (.cons rfl (.cons rfl .nil)) hb ha) fun r s1 hq => ?_)
  obtain ⟨rfl, ce⟩ := hq
  obtain ⟨z, H1, I1, _, rfl⟩ := I.after ce
  obtain ⟨o1, d1, K1, _⟩ := ins_at I1 hb
  obtain ⟨o2, d2, K2, _⟩ := ins_at I1 ha
  exact ⟨rfl, I1.kIn, ⟨o1, d1, K1⟩, ⟨o2, d2, K2⟩, run1 F rm hx I1 ry q⟩
end
end EM
/-! EM78: enumerate, list(..), tuple(..) of a list or a tuple; integers among other items. -/
namespace EM
open PySem PySem.Spec PyProof.Rows L2
theorem walk_weak {J : It} {n : Nat} {G G' : Hp → Prop} {Y : Nat → Hp → V → Hp → Prop} (w : Walk J n G Y) (c : ∀ H, G' H → G H) : Walk J n G' Y := ⟨fun i H hi g => w.goes i H hi (c H g), fun H g => w.stops H (c H g), fun i H x H' hi g y => w.yields i H x H' hi (c H g) y⟩
structure EnS (K : PySem.W.Frag) (vs : List V) (H : Hp) (R : It → Hp → Prop) : Prop where
  h : ∃ a xs, vs = [.ref a] ∧ (H a = some (.lst xs) ∨ H a = some (.tup xs)) ∧ ∀ J, Walk J xs.length (fun H' => H' a = H a) (YPair (fun i => some (.int (i : Nat))) (fun i => xs[i]?)) → R J H
def iEnSN (K : PySem.W.Frag) (ta : TA) : TI := fun σ H R => ta σ H fun vs H1 => EnS K vs H1 R
theorem pi_enumSN {X : Cx} {e : Expr} {ta : TA} {p pos tpos : Pos} {elts : List Expr} {kk : Nat} (hg : Gl X "enumerate") (hm : X.mg "enumerate" = none) (ha0 : PA X [e] ta) (hs : starEach [e] X.env = [(false, eval e X.env)] := by rfl) :
    PI X (.Tuple elts kk tpos) (.Call (.Name "enumerate" p) [e] [] pos) (iEnSN X.K ta) := by
  have ha := ha0.mc
  refine ⟨fun pins s σ H R I h => ?_⟩
  refine Call_ (ld_blt I hg hm boot_enumerate (PyProof.Rows.callWith_type1 (thn (ha.run pos pins s σ H _ I ⟨_, h, fun _ _ z => z⟩) fun us s1 hz => ?_) hs rfl))
  obtain ⟨vs, H1, I1, r1, ⟨a, xs, ex, hq, q⟩⟩ := hz
  subst ex
  cases r1 with
  | cons r rr =>
    cases rr
    cases r
    have fp : ∀ {h2 : Heap} (J : Inv X pins σ H1 { s1 with heap := h2 }) (b : Addr), b ∈ [s1.heap.objs.size + 1, s1.heap.objs.size] → s1.heap.objs.size ≤ b := fun J b hb => by
      have z : b = s1.heap.objs.size + 1 ∨ b = s1.heap.objs.size := by simpa using hb
      rcases z with z | z
      · rw [z]; exact Nat.le_succ _
      · rw [z]; exact Nat.le_refl _
    rcases hq with hq | hq
    · obtain ⟨its, rv, pl, _⟩ := I1.list (SqL.of hq)
      refine call_enumerate_list pl.isList fun h2 e1 e2 e3 kp => wpAny_pyIter_enum e1 ?_
      have J : Inv X pins σ H1 { s1 with heap := h2 } := I1.kept (t' := s1.toks) kp
      exact ⟨s1.heap.objs.size + 1, [s1.heap.objs.size + 1, s1.heap.objs.size], _, _, H1, rfl, J, turn_enum a (s1.heap.objs.size + 1) s1.heap.objs.size, ⟨⟨.none, e1⟩, e2, Nat.succ_ne_self _⟩, fun b hb => I1.fpOk (fp J b hb) (I1.hok.fresh (fp J b hb)),
        q _ (walk_weak (walk_enum (K := X.K)) fun H' e => SqL.of (e.trans hq))⟩
    · obtain ⟨its, rv, pt, _⟩ := I1.tuple (SqT.of hq)
      have al : a < s1.heap.objs.size := by obtain ⟨_, z, _⟩ := pt; exact Heap.lt_size z
      refine em_enum_begins (begins_tuple a its.toArray) pt fun h2 e1 e2 e3 kp => wpAny_pyIter_enum e1 ?_
      have J : Inv X pins σ H1 { s1 with heap := h2 } := I1.kept (t' := s1.toks) kp
      exact ⟨s1.heap.objs.size + 1, [s1.heap.objs.size + 1, s1.heap.objs.size], _, _, H1, rfl, J, turn_enumT a (s1.heap.objs.size + 1) s1.heap.objs.size, ⟨⟨.none, e1⟩, ⟨_, e2, rfl, rfl⟩, Nat.succ_ne_self _, Nat.ne_of_lt al, Nat.ne_of_gt (Nat.lt_succ_of_lt al)⟩, fun b hb => I1.fpOk (fp J b hb) (I1.hok.fresh (fp J b hb)),
        q _ (walk_weak (walk_enumT (K := X.K)) fun H' e => SqT.of (e.trans hq))⟩
structure LstS (vs : List V) (H : Hp) (Q : VK) : Prop where
  h : ∃ a xs, vs = [.ref a] ∧ (H a = some (.lst xs) ∨ H a = some (.tup xs)) ∧ DnS (.lst xs) H Q
structure TupS (vs : List V) (H : Hp) (Q : VK) : Prop where
  h : ∃ a xs, vs = [.ref a] ∧ ((H a = some (.lst xs) ∧ DnS (.tup xs) H Q) ∨ (H a = some (.tup xs) ∧ Q (.ref a) H))
theorem call_listSN {X : Cx} : CallR X (.type "list") LstS := callR_of call_list_of fun vs H Q ⟨⟨a, xs, e, h, z⟩⟩ => ⟨a, xs, e, h.imp SqL.of SqT.of, New.upd z.h⟩
theorem call_tupSN {X : Cx} : CallR X (.type "tuple") TupS := callR_of call_tuple_of fun vs H Q ⟨⟨a, xs, e, h⟩⟩ => ⟨a, xs, e, h.imp (fun z => ⟨SqL.of z.1, New.upd z.2.h⟩) fun z => ⟨SqT.of z.1, z.2⟩⟩
structure SumS (vs : List V) (H : Hp) (Q : VK) : Prop where
  h : ∃ (a : Addr) (ns : List Int), vs = [V.ref a] ∧ H a = some (.lst (ns.map V.int)) ∧ Q (.int ns.sum) H
structure AnyS (vs : List V) (H : Hp) (Q : VK) : Prop where
  h : ∃ (a : Addr) (bs : List Bool), vs = [V.ref a] ∧ H a = some (.lst (bs.map V.bl)) ∧ Q (.bl (bs.any id)) H
theorem call_sumSN {X : Cx} (hc : X.calm = true) : CallR X (.builtin "sum") SumS := callR_of (cr_sum hc) fun vs H Q ⟨⟨a, ns, e, h, z⟩⟩ => ⟨a, ns, e, SqL.of h, z⟩
theorem call_anySN {X : Cx} (hc : X.calm = true) : CallR X (.builtin "any") AnyS := callR_of (cr_any hc) fun vs H Q ⟨⟨a, ns, e, h, z⟩⟩ => ⟨a, ns, e, SqL.of h, z⟩
section
variable {K : PySem.W.Frag} {T : List (Addr × Str)} {p l a b : Addr} {n : Nat} {H H' : Hp} {xs ys : List V} {Q : VK}
theorem enS {R : It → Hp → Prop} (h : SeqV p H a xs) (k : ∀ J, Walk J xs.length (fun H' => H' a = H a) (YPair (fun i => some (.int (i : Nat))) (fun i => xs[i]?)) → R J H) : EnS K [.ref a] H R := ⟨a, xs, rfl, h.or, k⟩
theorem seqS {R : It → Hp → Prop} (h : SeqV p H a xs) (k : ∀ J, Walk J xs.length (fun H' => H' a = H a) (YAt xs) → R J H) : SqW (.ref a) H R := ⟨a, xs, rfl, h.or, k⟩
theorem lstS (h : SeqV p H a xs) (k : DnS (.lst xs) H Q) : LstS [.ref a] H Q := ⟨a, xs, rfl, h.or, k⟩
theorem tupSL (h : At p H a (.lst xs)) (k : DnS (.tup xs) H Q) : TupS [.ref a] H Q := ⟨a, xs, rfl, .inl ⟨h.at_, k⟩⟩
theorem tupST (h : At p H a (.tup xs)) (k : Q (.ref a) H) : TupS [.ref a] H Q := ⟨a, xs, rfl, .inr ⟨h.at_, k⟩⟩
theorem SeqV.xt (x : Ext p H H') (h : SeqV p H a xs) : SeqV p H' a xs := h.ext x
theorem SeqV.eq (h : SeqV p H a xs) (x : Ext p H H') : H' a = H a := h.elim (·.eq x) (·.eq x)
theorem isSeqS {tp : Addr} (ht : At p H tp (.tup [.ty "list", .ty "tuple"])) (ha : SeqV p H a xs) (q : Q (.bl true) H) : Sr (rIsSeq K) [.ref a, .ref tp] H Q := ha.elim (fun z => isSeqL ht z q) (fun z => isSeqT ht z q)
theorem lenS (ha : SeqV p H a xs) (q : Q (.int xs.length) H) : Sr (rLenN K) [.ref a] H Q := ha.elim (fun z => lenL z q) (fun z => lenT z q)
theorem sumS {ns : List Int} (h : At p H a (.lst (ns.map V.int))) (k : Q (.int ns.sum) H) : SumS [.ref a] H Q := ⟨a, ns, rfl, h.at_, k⟩
theorem anyS {bs : List Bool} (h : At p H a (.lst (bs.map V.bl))) (k : Q (.bl (bs.any id)) H) : AnyS [.ref a] H Q := ⟨a, bs, rfl, h.at_, k⟩
end
/-! ### integers among other items -/
/-- a value that is the integer o, or is none -/
def ItI (K : PySem.W.Frag) (p : Addr) (H : Hp) (v : V) : Option Int → Prop
  | some i => v = .int i
  | none => OddM K p H v
theorem ItI.ext {K : PySem.W.Frag} {p : Addr} {H H' : Hp} {v : V} {o : Option Int} (h : ItI K p H v o) (x : Ext p H H') : ItI K p H' v o := by
  cases o with
  | some e => exact h
  | none => exact OddM.ext h x
structure ItsI (K : PySem.W.Frag) (p : Addr) (H : Hp) (xs : List V) (os : List (Option Int)) : Prop where
  len : xs.length = os.length
  h : ∀ (i : Nat) (v : V) (o : Option Int), xs[i]? = some v → os[i]? = some o → ItI K p H v o
theorem ItsI.ext {K : PySem.W.Frag} {p : Addr} {H H' : Hp} {xs : List V} {os : List (Option Int)} (h : ItsI K p H xs os) (x : Ext p H H') : ItsI K p H' xs os := ⟨h.len, fun i v o a b => (h.h i v o a b).ext x⟩
theorem ItsI.xt {K : PySem.W.Frag} {p : Addr} {H H' : Hp} {xs : List V} {os : List (Option Int)} (x : Ext p H H') (h : ItsI K p H xs os) : ItsI K p H' xs os := h.ext x
theorem ItsI.all {K : PySem.W.Frag} {p : Addr} {H : Hp} {ws : List Int} : ItsI K p H (ws.map V.int) (ws.map some) := ⟨by simp, fun i v o a b => by
  rw [List.getElem?_map] at a b
  cases e : ws[i]? with
  | none => rw [e] at a; cases a
  | some w =>
    rw [e] at a b
    cases a
    cases b
    exact (rfl : V.int w = V.int w)⟩
/-- the first item that is no integer -/
def fstN : List (Option Int) → Option Nat
  | [] => none
  | none :: _ => some 0
  | some _ :: r => (fstN r).map (· + 1)
theorem fst_at : ∀ {os : List (Option Int)} {i : Nat}, (∀ j, j < i → ∃ w, os[j]? = some (some w)) → os[i]? = some none → fstN os = some i
  | [], i, _, h => by simp at h
  | none :: r, 0, _, _ => rfl
  | none :: r, i + 1, hj, _ => by
    obtain ⟨w, z⟩ := hj 0 (Nat.succ_pos _)
    simp at z
  | some x :: r, 0, _, h => by simp at h
  | some x :: r, i + 1, hj, h => by
    show (fstN r).map (· + 1) = _
    rw [fst_at (os := r) (i := i) (fun j z => hj (j + 1) (by omega)) h]
    rfl
theorem fst_no : ∀ {os : List (Option Int)}, (∀ j, j < os.length → ∃ w, os[j]? = some (some w)) → fstN os = none ∧ os = (os.map (·.getD 0)).map some
  | [], _ => ⟨rfl, rfl⟩
  | none :: r, h => by
    obtain ⟨w, z⟩ := h 0 (Nat.succ_pos _)
    simp at z
  | some x :: r, h => by
    obtain ⟨h1, h2⟩ := fst_no (os := r) (fun j z => h (j + 1) (Nat.succ_lt_succ z))
    constructor
    · show (fstN r).map (· + 1) = none
      rw [h1]; rfl
    · show some x :: r = some x :: (r.map (·.getD 0)).map some
      rw [← h2]
theorem fst_some (ws : List Int) : fstN (ws.map some) = none := by
  induction ws with
  | nil => rfl
  | cons w r ih =>
    show (fstN (r.map some)).map (· + 1) = none
    rw [ih]; rfl
/-- the integers of items that are all integers -/
def intsO (os : List (Option Int)) : List Int := os.map (·.getD 0)
theorem intsO_some (ws : List Int) : intsO (ws.map some) = ws := by
  unfold intsO
  rw [List.map_map]
  have : (fun o : Option Int => o.getD 0) ∘ some = id := rfl
  rw [this, List.map_id]
/-- items that are all integers -/
theorem ItsI.ints {K : PySem.W.Frag} {p : Addr} {H : Hp} {xs : List V} {os : List (Option Int)} (h : ItsI K p H xs os) (e : os = (intsO os).map some) : xs = (intsO os).map V.int := by
  apply List.ext_getElem?
  intro i
  rw [List.getElem?_map]
  rcases Nat.lt_or_ge i xs.length with z | z
  · obtain ⟨w, ew⟩ : ∃ w, (intsO os)[i]? = some w := ⟨_, List.getElem?_eq_getElem (by unfold intsO; rw [List.length_map, ← h.len]; exact z)⟩
    have eo : os[i]? = some (some w) := by rw [e, List.getElem?_map, ew]; rfl
    have := h.h i _ _ (List.getElem?_eq_getElem z) eo
    rw [List.getElem?_eq_getElem z, ew, show xs[i] = V.int w from this]
    rfl
  · rw [List.getElem?_eq_none z, List.getElem?_eq_none (by unfold intsO; rw [List.length_map, ← h.len]; exact z)]
    rfl
end EM
namespace K40
open PySem PySem.Spec PyProof.Rows L2
structure Tx (K : PySem.W.Frag) (mg : Str → Option Value) : Prop where
  says : EM.SaysF fa fn K
  ex : ∃ h : Heap, K.In h ∧ h.Ns mainGlobals mg
section
variable {K : PySem.W.Frag} {mg : Str → Option Value}
theorem Tx.g_EdgeError (T : Tx K mg) : mg "EdgeError" = some (.ref (He.ga K "EdgeError")) :=
  have c := T.says.fact 0 (f := fun K => (He.Fa.glo "EdgeError").ok K) (by rfl)
  let ⟨_, X, G⟩ := T.ex; He.glo_ok X G c
theorem Tx.g_BadRatio (T : Tx K mg) : mg "BadRatio" = some (.ref (He.ga K "BadRatio")) :=
  have c := T.says.fact 1 (f := fun K => (He.Fa.glo "BadRatio").ok K) (by rfl)
  let ⟨_, X, G⟩ := T.ex; He.glo_ok X G c
theorem Tx.g_BadWeights (T : Tx K mg) : mg "BadWeights" = some (.ref (He.ga K "BadWeights")) :=
  have c := T.says.fact 2 (f := fun K => (He.Fa.glo "BadWeights").ok K) (by rfl)
  let ⟨_, X, G⟩ := T.ex; He.glo_ok X G c
theorem Tx.g_Unlike (T : Tx K mg) : mg "Unlike" = some (.ref (He.ga K "Unlike")) :=
  have c := T.says.fact 3 (f := fun K => (He.Fa.glo "Unlike").ok K) (by rfl)
  let ⟨_, X, G⟩ := T.ex; He.glo_ok X G c
theorem Tx.g_Ratio (T : Tx K mg) : mg "Ratio" = some (.ref (He.ga K "Ratio")) :=
  have c := T.says.fact 4 (f := fun K => (He.Fa.glo "Ratio").ok K) (by rfl)
  let ⟨_, X, G⟩ := T.ex; He.glo_ok X G c
theorem Tx.g_Duel (T : Tx K mg) : mg "Duel" = some (.ref (He.ga K "Duel")) :=
  have c := T.says.fact 5 (f := fun K => (He.Fa.glo "Duel").ok K) (by rfl)
  let ⟨_, X, G⟩ := T.ex; He.glo_ok X G c
theorem Tx.g_is_integer_ratios (T : Tx K mg) : mg "is_integer_ratios" = some (.ref (He.ga K "is_integer_ratios")) :=
  have c := T.says.fact 6 (f := fun K => (He.Fa.glo "is_integer_ratios").ok K) (by rfl)
  let ⟨_, X, G⟩ := T.ex; He.glo_ok X G c
theorem Tx.g_is_integer_fits (T : Tx K mg) : mg "is_integer_fits" = some (.ref (He.ga K "is_integer_fits")) :=
  have c := T.says.fact 7 (f := fun K => (He.Fa.glo "is_integer_fits").ok K) (by rfl)
  let ⟨_, X, G⟩ := T.ex; He.glo_ok X G c
theorem Tx.g_common_divisor (T : Tx K mg) : mg "common_divisor" = some (.ref (He.ga K "common_divisor")) :=
  have c := T.says.fact 8 (f := fun K => (He.Fa.glo "common_divisor").ok K) (by rfl)
  let ⟨_, X, G⟩ := T.ex; He.glo_ok X G c
theorem Tx.g_need_plain_weights (T : Tx K mg) : mg "need_plain_weights" = some (.ref (He.ga K "need_plain_weights")) :=
  have c := T.says.fact 9 (f := fun K => (He.Fa.glo "need_plain_weights").ok K) (by rfl)
  let ⟨_, X, G⟩ := T.ex; He.glo_ok X G c
theorem Tx.g__law_pen (T : Tx K mg) : mg "_law_pen" = some (.ref (He.ga K "_law_pen")) :=
  have c := T.says.fact 10 (f := fun K => (He.Fa.glo "_law_pen").ok K) (by rfl)
  let ⟨_, X, G⟩ := T.ex; He.glo_ok X G c
theorem Tx.g__law_draw (T : Tx K mg) : mg "_law_draw" = some (.ref (He.ga K "_law_draw")) :=
  have c := T.says.fact 11 (f := fun K => (He.Fa.glo "_law_draw").ok K) (by rfl)
  let ⟨_, X, G⟩ := T.ex; He.glo_ok X G c
theorem Tx.g__law_pick (T : Tx K mg) : mg "_law_pick" = some (.ref (He.ga K "_law_pick")) :=
  have c := T.says.fact 12 (f := fun K => (He.Fa.glo "_law_pick").ok K) (by rfl)
  let ⟨_, X, G⟩ := T.ex; He.glo_ok X G c
theorem Tx.g__law_weights (T : Tx K mg) : mg "_law_weights" = some (.ref (He.ga K "_law_weights")) :=
  have c := T.says.fact 13 (f := fun K => (He.Fa.glo "_law_weights").ok K) (by rfl)
  let ⟨_, X, G⟩ := T.ex; He.glo_ok X G c
theorem Tx.g__law_level (T : Tx K mg) : mg "_law_level" = some (.ref (He.ga K "_law_level")) :=
  have c := T.says.fact 14 (f := fun K => (He.Fa.glo "_law_level").ok K) (by rfl)
  let ⟨_, X, G⟩ := T.ex; He.glo_ok X G c
theorem Tx.g__law_number (T : Tx K mg) : mg "_law_number" = some (.ref (He.ga K "_law_number")) :=
  have c := T.says.fact 15 (f := fun K => (He.Fa.glo "_law_number").ok K) (by rfl)
  let ⟨_, X, G⟩ := T.ex; He.glo_ok X G c
theorem Tx.g__law_bent (T : Tx K mg) : mg "_law_bent" = some (.ref (He.ga K "_law_bent")) :=
  have c := T.says.fact 16 (f := fun K => (He.Fa.glo "_law_bent").ok K) (by rfl)
  let ⟨_, X, G⟩ := T.ex; He.glo_ok X G c
theorem Tx.g__law_integer (T : Tx K mg) : mg "_law_integer" = some (.ref (He.ga K "_law_integer")) :=
  have c := T.says.fact 17 (f := fun K => (He.Fa.glo "_law_integer").ok K) (by rfl)
  let ⟨_, X, G⟩ := T.ex; He.glo_ok X G c
theorem Tx.g__law_due (T : Tx K mg) : mg "_law_due" = some (.ref (He.ga K "_law_due")) :=
  have c := T.says.fact 18 (f := fun K => (He.Fa.glo "_law_due").ok K) (by rfl)
  let ⟨_, X, G⟩ := T.ex; He.glo_ok X G c
theorem Tx.g__law_heard (T : Tx K mg) : mg "_law_heard" = some (.ref (He.ga K "_law_heard")) :=
  have c := T.says.fact 19 (f := fun K => (He.Fa.glo "_law_heard").ok K) (by rfl)
  let ⟨_, X, G⟩ := T.ex; He.glo_ok X G c
theorem Tx.g__law_made_right (T : Tx K mg) : mg "_law_made_right" = some (.ref (He.ga K "_law_made_right")) :=
  have c := T.says.fact 20 (f := fun K => (He.Fa.glo "_law_made_right").ok K) (by rfl)
  let ⟨_, X, G⟩ := T.ex; He.glo_ok X G c
theorem Tx.g_law (T : Tx K mg) : mg "law" = some (.ref (He.ga K "law")) :=
  have c := T.says.fact 21 (f := fun K => (He.Fa.glo "law").ok K) (by rfl)
  let ⟨_, X, G⟩ := T.ex; He.glo_ok X G c
theorem Tx.f_len (T : Tx K mg) : mg "len" = none :=
  have c := T.says.fact 22 (f := fun K => (He.Fa.free "len").ok K) (by rfl)
  let ⟨_, X, G⟩ := T.ex; He.free_ok X G c
theorem Tx.f_isinstance (T : Tx K mg) : mg "isinstance" = none :=
  have c := T.says.fact 23 (f := fun K => (He.Fa.free "isinstance").ok K) (by rfl)
  let ⟨_, X, G⟩ := T.ex; He.free_ok X G c
theorem Tx.f_int (T : Tx K mg) : mg "int" = none :=
  have c := T.says.fact 24 (f := fun K => (He.Fa.free "int").ok K) (by rfl)
  let ⟨_, X, G⟩ := T.ex; He.free_ok X G c
theorem Tx.f_bool (T : Tx K mg) : mg "bool" = none :=
  have c := T.says.fact 25 (f := fun K => (He.Fa.free "bool").ok K) (by rfl)
  let ⟨_, X, G⟩ := T.ex; He.free_ok X G c
theorem Tx.f_abs (T : Tx K mg) : mg "abs" = none :=
  have c := T.says.fact 26 (f := fun K => (He.Fa.free "abs").ok K) (by rfl)
  let ⟨_, X, G⟩ := T.ex; He.free_ok X G c
theorem Tx.f_range (T : Tx K mg) : mg "range" = none :=
  have c := T.says.fact 27 (f := fun K => (He.Fa.free "range").ok K) (by rfl)
  let ⟨_, X, G⟩ := T.ex; He.free_ok X G c
theorem Tx.f_repr (T : Tx K mg) : mg "repr" = none :=
  have c := T.says.fact 28 (f := fun K => (He.Fa.free "repr").ok K) (by rfl)
  let ⟨_, X, G⟩ := T.ex; He.free_ok X G c
theorem Tx.f_list (T : Tx K mg) : mg "list" = none :=
  have c := T.says.fact 29 (f := fun K => (He.Fa.free "list").ok K) (by rfl)
  let ⟨_, X, G⟩ := T.ex; He.free_ok X G c
theorem Tx.f_tuple (T : Tx K mg) : mg "tuple" = none :=
  have c := T.says.fact 30 (f := fun K => (He.Fa.free "tuple").ok K) (by rfl)
  let ⟨_, X, G⟩ := T.ex; He.free_ok X G c
theorem Tx.f_str (T : Tx K mg) : mg "str" = none :=
  have c := T.says.fact 31 (f := fun K => (He.Fa.free "str").ok K) (by rfl)
  let ⟨_, X, G⟩ := T.ex; He.free_ok X G c
theorem Tx.f_zip (T : Tx K mg) : mg "zip" = none :=
  have c := T.says.fact 32 (f := fun K => (He.Fa.free "zip").ok K) (by rfl)
  let ⟨_, X, G⟩ := T.ex; He.free_ok X G c
theorem Tx.f_enumerate (T : Tx K mg) : mg "enumerate" = none :=
  have c := T.says.fact 33 (f := fun K => (He.Fa.free "enumerate").ok K) (by rfl)
  let ⟨_, X, G⟩ := T.ex; He.free_ok X G c
theorem Tx.f_min (T : Tx K mg) : mg "min" = none :=
  have c := T.says.fact 34 (f := fun K => (He.Fa.free "min").ok K) (by rfl)
  let ⟨_, X, G⟩ := T.ex; He.free_ok X G c
theorem Tx.f_max (T : Tx K mg) : mg "max" = none :=
  have c := T.says.fact 35 (f := fun K => (He.Fa.free "max").ok K) (by rfl)
  let ⟨_, X, G⟩ := T.ex; He.free_ok X G c
theorem Tx.f_sum (T : Tx K mg) : mg "sum" = none :=
  have c := T.says.fact 36 (f := fun K => (He.Fa.free "sum").ok K) (by rfl)
  let ⟨_, X, G⟩ := T.ex; He.free_ok X G c
theorem Tx.f_any (T : Tx K mg) : mg "any" = none :=
  have c := T.says.fact 37 (f := fun K => (He.Fa.free "any").ok K) (by rfl)
  let ⟨_, X, G⟩ := T.ex; He.free_ok X G c
theorem Tx.f_ValueError (T : Tx K mg) : mg "ValueError" = none :=
  have c := T.says.fact 38 (f := fun K => (He.Fa.free "ValueError").ok K) (by rfl)
  let ⟨_, X, G⟩ := T.ex; He.free_ok X G c
theorem Tx.g_FEWEST_EDGES (T : Tx K mg) : ∃ t, mg "FEWEST_EDGES" = some (.int 4 t) :=
  have c := T.says.fact 39 (f := fun K => (He.Fa.int "FEWEST_EDGES" 4).ok K) (by rfl)
  let ⟨_, X, G⟩ := T.ex; He.int_ok X G c
theorem Tx.g_MOST_EDGES (T : Tx K mg) : ∃ t, mg "MOST_EDGES" = some (.int 128 t) :=
  have c := T.says.fact 40 (f := fun K => (He.Fa.int "MOST_EDGES" 128).ok K) (by rfl)
  let ⟨_, X, G⟩ := T.ex; He.int_ok X G c
theorem Tx.cl_Ratio (T : Tx K mg) : Cls K (He.ga K "Ratio") :=
  have c := T.says.fact 41 (f := fun K => (He.Fa.cls "Ratio").ok K) (by rfl)
  He.cls_ok c
theorem Tx.mk_Ratio (T : Tx K mg) : Mk K (He.ga K "Ratio") (He.ma K (He.ga K "Ratio") "__init__") :=
  have c := T.says.fact 42 (f := fun K => (He.Fa.mkr "Ratio").ok K) (by rfl)
  He.mkr_ok c
theorem Tx.isi_Ratio (T : Tx K mg) : EM.isiB K (He.ga K "Ratio") = true :=
  have c := T.says.fact 43 (f := fun K => EM.isiB K (He.ga K "Ratio")) (by rfl)
  c
theorem Tx.cr_Ratio (T : Tx K mg) : ClX.CRead K (He.ga K "Ratio") (.type "type") :=
  have c := T.says.fact 44 (f := fun K => EM.creadB K (He.ga K "Ratio")) (by rfl)
  EM.creadB_ok c
theorem Tx.sm_Ratio_of (T : Tx K mg) : EM.SMet K (He.ga K "Ratio") "of" (He5.wf K (He.ga K "Ratio") "staticmethod" "of") :=
  have c := T.says.fact 45 (f := fun K => EM.smetB K (He.ga K "Ratio") "of") (by rfl)
  EM.smetB_ok c
theorem Tx.sm_Ratio_is_number (T : Tx K mg) : EM.SMet K (He.ga K "Ratio") "is_number" (He5.wf K (He.ga K "Ratio") "staticmethod" "is_number") :=
  have c := T.says.fact 46 (f := fun K => EM.smetB K (He.ga K "Ratio") "is_number") (by rfl)
  EM.smetB_ok c
theorem Tx.sf_Ratio (T : Tx K mg) : PySem.W.selfFirst K (He.ga K "Ratio") = true :=
  have c := T.says.fact 47 (f := fun K => PySem.W.selfFirst K (He.ga K "Ratio")) (by rfl)
  c
theorem Tx.si_Ratio (T : Tx K mg) : PySem.W.subIn K (.type "int") (.ref (He.ga K "Ratio")) = some false :=
  have c := T.says.fact 48 (f := fun K => decide (PySem.W.subIn K (.type "int") (.ref (He.ga K "Ratio")) = some false)) (by rfl)
  of_decide_eq_true c
theorem Tx.is_Ratio (T : Tx K mg) : PySem.W.subIn K (.ref (He.ga K "Ratio")) (.type "int") = some false :=
  have c := T.says.fact 49 (f := fun K => decide (PySem.W.subIn K (.ref (He.ga K "Ratio")) (.type "int") = some false)) (by rfl)
  of_decide_eq_true c
theorem Tx.cl_Duel (T : Tx K mg) : Cls K (He.ga K "Duel") :=
  have c := T.says.fact 50 (f := fun K => (He.Fa.cls "Duel").ok K) (by rfl)
  He.cls_ok c
theorem Tx.mk_Duel (T : Tx K mg) : Mk K (He.ga K "Duel") (He.ma K (He.ga K "Duel") "__init__") :=
  have c := T.says.fact 51 (f := fun K => (He.Fa.mkr "Duel").ok K) (by rfl)
  He.mkr_ok c
theorem Tx.isi_Duel (T : Tx K mg) : EM.isiB K (He.ga K "Duel") = true :=
  have c := T.says.fact 52 (f := fun K => EM.isiB K (He.ga K "Duel")) (by rfl)
  c
theorem Tx.cr_Duel (T : Tx K mg) : ClX.CRead K (He.ga K "Duel") (.type "type") :=
  have c := T.says.fact 53 (f := fun K => EM.creadB K (He.ga K "Duel")) (by rfl)
  EM.creadB_ok c
theorem Tx.na_Ratio_top (T : Tx K mg) : NoAttr K (He.ga K "Ratio") "top" :=
  have c := T.says.fact 54 (f := fun K => (He.Fa.noat "Ratio" "top").ok K) (by rfl)
  He.noat_ok c
theorem Tx.na_Ratio_bottom (T : Tx K mg) : NoAttr K (He.ga K "Ratio") "bottom" :=
  have c := T.says.fact 55 (f := fun K => (He.Fa.noat "Ratio" "bottom").ok K) (by rfl)
  He.noat_ok c
theorem Tx.na_Duel_weights (T : Tx K mg) : NoAttr K (He.ga K "Duel") "weights" :=
  have c := T.says.fact 56 (f := fun K => (He.Fa.noat "Duel" "weights").ok K) (by rfl)
  He.noat_ok c
theorem Tx.na_Duel_level (T : Tx K mg) : NoAttr K (He.ga K "Duel") "level" :=
  have c := T.says.fact 57 (f := fun K => (He.Fa.noat "Duel" "level").ok K) (by rfl)
  He.noat_ok c
theorem Tx.m_Ratio_add (T : Tx K mg) : Meth K (He.ga K "Ratio") "__add__" (He.ma K (He.ga K "Ratio") "__add__") :=
  have c := T.says.fact 58 (f := fun K => (He.Fa.meth "Ratio" "__add__").ok K) (by rfl)
  He.meth_ok c
theorem Tx.m_Ratio_sub (T : Tx K mg) : Meth K (He.ga K "Ratio") "__sub__" (He.ma K (He.ga K "Ratio") "__sub__") :=
  have c := T.says.fact 59 (f := fun K => (He.Fa.meth "Ratio" "__sub__").ok K) (by rfl)
  He.meth_ok c
theorem Tx.m_Ratio_neg (T : Tx K mg) : Meth K (He.ga K "Ratio") "__neg__" (He.ma K (He.ga K "Ratio") "__neg__") :=
  have c := T.says.fact 60 (f := fun K => (He.Fa.meth "Ratio" "__neg__").ok K) (by rfl)
  He.meth_ok c
theorem Tx.m_Ratio_eq (T : Tx K mg) : Meth K (He.ga K "Ratio") "__eq__" (He.ma K (He.ga K "Ratio") "__eq__") :=
  have c := T.says.fact 61 (f := fun K => (He.Fa.meth "Ratio" "__eq__").ok K) (by rfl)
  He.meth_ok c
theorem Tx.m_Ratio_radd (T : Tx K mg) : Meth K (He.ga K "Ratio") "__radd__" (He.ma K (He.ga K "Ratio") "__radd__") :=
  have c := T.says.fact 62 (f := fun K => (He.Fa.meth "Ratio" "__radd__").ok K) (by rfl)
  He.meth_ok c
theorem Tx.m_Ratio_rsub (T : Tx K mg) : Meth K (He.ga K "Ratio") "__rsub__" (He.ma K (He.ga K "Ratio") "__rsub__") :=
  have c := T.says.fact 63 (f := fun K => (He.Fa.meth "Ratio" "__rsub__").ok K) (by rfl)
  He.meth_ok c
theorem Tx.m_Duel_neg (T : Tx K mg) : Meth K (He.ga K "Duel") "__neg__" (He.ma K (He.ga K "Duel") "__neg__") :=
  have c := T.says.fact 64 (f := fun K => (He.Fa.meth "Duel" "__neg__").ok K) (by rfl)
  He.meth_ok c
theorem Tx.m_Duel_eq (T : Tx K mg) : Meth K (He.ga K "Duel") "__eq__" (He.ma K (He.ga K "Duel") "__eq__") :=
  have c := T.says.fact 65 (f := fun K => (He.Fa.meth "Duel" "__eq__").ok K) (by rfl)
  He.meth_ok c
theorem Tx.m_Duel_len (T : Tx K mg) : Meth K (He.ga K "Duel") "__len__" (He.ma K (He.ga K "Duel") "__len__") :=
  have c := T.says.fact 66 (f := fun K => (He.Fa.meth "Duel" "__len__").ok K) (by rfl)
  He.meth_ok c
theorem Tx.na_BadWeights_part (T : Tx K mg) : NoAttr K (He.ga K "BadWeights") "part" :=
  have c := T.says.fact 67 (f := fun K => (He.Fa.noat "BadWeights" "part").ok K) (by rfl)
  He.noat_ok c
theorem Tx.xf_BadWeights (T : Tx K mg) : L2.XfC K (He.ga K "BadWeights") :=
  have c := T.says.fact 68 (f := fun K => L2.xfB K (He.ga K "BadWeights")) (by rfl)
  L2.xfB_ok c
theorem Tx.oi_BadWeights (T : Tx K mg) : PySem.W.findIn K (.ref (He.ga K "BadWeights")) "__init__" = some (some (.ref (He.ma K (He.ga K "BadWeights") "__init__"))) ∧ PySem.W.typeIn K (.ref (He.ma K (He.ga K "BadWeights") "__init__")) = some (.type "function") :=
  have c := T.says.fact 69 (f := fun K => EM.oinB K (He.ga K "BadWeights")) (by rfl)
  EM.oinB_ok c
theorem Tx.ox_BadWeights (T : Tx K mg) : OexC K (He.ga K "BadWeights") :=
  have c := T.says.fact 70 (f := fun K => EM.oexB K (He.ga K "BadWeights")) (by rfl)
  EM.oexB_ok c
theorem Tx.xm_BadWeights_EdgeError (T : Tx K mg) : PySem.W.exmOne K (.ref (He.ga K "BadWeights")) (.ref (He.ga K "EdgeError")) = some true :=
  have c := T.says.fact 71 (f := fun K => decide (PySem.W.exmOne K (.ref (He.ga K "BadWeights")) (.ref (He.ga K "EdgeError")) = some true)) (by rfl)
  of_decide_eq_true c
theorem Tx.xc_BadWeights (T : Tx K mg) : EM.ExcK K (He.ga K "BadWeights") :=
  have c := T.says.fact 72 (f := fun K => EM.excB K (He.ga K "BadWeights")) (by rfl)
  EM.excB_ok c
theorem Tx.kit_BadWeights_BadWeights (T : Tx K mg) : PySem.W.kitOne K (.ref (He.ga K "BadWeights")) (.ref (He.ga K "BadWeights")) = some true :=
  have c := T.says.fact 73 (f := fun K => decide (PySem.W.kitOne K (.ref (He.ga K "BadWeights")) (.ref (He.ga K "BadWeights")) = some true)) (by rfl)
  of_decide_eq_true c
theorem Tx.kit_BadWeights_BadRatio (T : Tx K mg) : PySem.W.kitOne K (.ref (He.ga K "BadWeights")) (.ref (He.ga K "BadRatio")) = some false :=
  have c := T.says.fact 74 (f := fun K => decide (PySem.W.kitOne K (.ref (He.ga K "BadWeights")) (.ref (He.ga K "BadRatio")) = some false)) (by rfl)
  of_decide_eq_true c
theorem Tx.kit_BadWeights_Unlike (T : Tx K mg) : PySem.W.kitOne K (.ref (He.ga K "BadWeights")) (.ref (He.ga K "Unlike")) = some false :=
  have c := T.says.fact 75 (f := fun K => decide (PySem.W.kitOne K (.ref (He.ga K "BadWeights")) (.ref (He.ga K "Unlike")) = some false)) (by rfl)
  of_decide_eq_true c
theorem Tx.kit_int_Ratio (T : Tx K mg) : PySem.W.kitOne K (.type "int") (.ref (He.ga K "Ratio")) = some false :=
  have c := T.says.fact 76 (f := fun K => decide (PySem.W.kitOne K (.type "int") (.ref (He.ga K "Ratio")) = some false)) (by rfl)
  of_decide_eq_true c
theorem Tx.kit_int_Duel (T : Tx K mg) : PySem.W.kitOne K (.type "int") (.ref (He.ga K "Duel")) = some false :=
  have c := T.says.fact 77 (f := fun K => decide (PySem.W.kitOne K (.type "int") (.ref (He.ga K "Duel")) = some false)) (by rfl)
  of_decide_eq_true c
theorem Tx.kit_bool_Ratio (T : Tx K mg) : PySem.W.kitOne K (.type "bool") (.ref (He.ga K "Ratio")) = some false :=
  have c := T.says.fact 78 (f := fun K => decide (PySem.W.kitOne K (.type "bool") (.ref (He.ga K "Ratio")) = some false)) (by rfl)
  of_decide_eq_true c
theorem Tx.kit_bool_Duel (T : Tx K mg) : PySem.W.kitOne K (.type "bool") (.ref (He.ga K "Duel")) = some false :=
  have c := T.says.fact 79 (f := fun K => decide (PySem.W.kitOne K (.type "bool") (.ref (He.ga K "Duel")) = some false)) (by rfl)
  of_decide_eq_true c
theorem Tx.kit_NoneType_Ratio (T : Tx K mg) : PySem.W.kitOne K (.type "NoneType") (.ref (He.ga K "Ratio")) = some false :=
  have c := T.says.fact 80 (f := fun K => decide (PySem.W.kitOne K (.type "NoneType") (.ref (He.ga K "Ratio")) = some false)) (by rfl)
  of_decide_eq_true c
theorem Tx.kit_NoneType_Duel (T : Tx K mg) : PySem.W.kitOne K (.type "NoneType") (.ref (He.ga K "Duel")) = some false :=
  have c := T.says.fact 81 (f := fun K => decide (PySem.W.kitOne K (.type "NoneType") (.ref (He.ga K "Duel")) = some false)) (by rfl)
  of_decide_eq_true c
theorem Tx.kit_str_Ratio (T : Tx K mg) : PySem.W.kitOne K (.type "str") (.ref (He.ga K "Ratio")) = some false :=
  have c := T.says.fact 82 (f := fun K => decide (PySem.W.kitOne K (.type "str") (.ref (He.ga K "Ratio")) = some false)) (by rfl)
  of_decide_eq_true c
theorem Tx.kit_str_Duel (T : Tx K mg) : PySem.W.kitOne K (.type "str") (.ref (He.ga K "Duel")) = some false :=
  have c := T.says.fact 83 (f := fun K => decide (PySem.W.kitOne K (.type "str") (.ref (He.ga K "Duel")) = some false)) (by rfl)
  of_decide_eq_true c
theorem Tx.kit_tuple_Ratio (T : Tx K mg) : PySem.W.kitOne K (.type "tuple") (.ref (He.ga K "Ratio")) = some false :=
  have c := T.says.fact 84 (f := fun K => decide (PySem.W.kitOne K (.type "tuple") (.ref (He.ga K "Ratio")) = some false)) (by rfl)
  of_decide_eq_true c
theorem Tx.kit_tuple_Duel (T : Tx K mg) : PySem.W.kitOne K (.type "tuple") (.ref (He.ga K "Duel")) = some false :=
  have c := T.says.fact 85 (f := fun K => decide (PySem.W.kitOne K (.type "tuple") (.ref (He.ga K "Duel")) = some false)) (by rfl)
  of_decide_eq_true c
theorem Tx.kit_list_Ratio (T : Tx K mg) : PySem.W.kitOne K (.type "list") (.ref (He.ga K "Ratio")) = some false :=
  have c := T.says.fact 86 (f := fun K => decide (PySem.W.kitOne K (.type "list") (.ref (He.ga K "Ratio")) = some false)) (by rfl)
  of_decide_eq_true c
theorem Tx.kit_list_Duel (T : Tx K mg) : PySem.W.kitOne K (.type "list") (.ref (He.ga K "Duel")) = some false :=
  have c := T.says.fact 87 (f := fun K => decide (PySem.W.kitOne K (.type "list") (.ref (He.ga K "Duel")) = some false)) (by rfl)
  of_decide_eq_true c
theorem Tx.kit_dict_Ratio (T : Tx K mg) : PySem.W.kitOne K (.type "dict") (.ref (He.ga K "Ratio")) = some false :=
  have c := T.says.fact 88 (f := fun K => decide (PySem.W.kitOne K (.type "dict") (.ref (He.ga K "Ratio")) = some false)) (by rfl)
  of_decide_eq_true c
theorem Tx.kit_dict_Duel (T : Tx K mg) : PySem.W.kitOne K (.type "dict") (.ref (He.ga K "Duel")) = some false :=
  have c := T.says.fact 89 (f := fun K => decide (PySem.W.kitOne K (.type "dict") (.ref (He.ga K "Duel")) = some false)) (by rfl)
  of_decide_eq_true c
theorem Tx.kit_Ratio_int (T : Tx K mg) : PySem.W.kitOne K (.ref (He.ga K "Ratio")) (.type "int") = some false :=
  have c := T.says.fact 90 (f := fun K => decide (PySem.W.kitOne K (.ref (He.ga K "Ratio")) (.type "int") = some false)) (by rfl)
  of_decide_eq_true c
theorem Tx.kit_Ratio_bool (T : Tx K mg) : PySem.W.kitOne K (.ref (He.ga K "Ratio")) (.type "bool") = some false :=
  have c := T.says.fact 91 (f := fun K => decide (PySem.W.kitOne K (.ref (He.ga K "Ratio")) (.type "bool") = some false)) (by rfl)
  of_decide_eq_true c
theorem Tx.kit_Ratio_list (T : Tx K mg) : PySem.W.kitOne K (.ref (He.ga K "Ratio")) (.type "list") = some false :=
  have c := T.says.fact 92 (f := fun K => decide (PySem.W.kitOne K (.ref (He.ga K "Ratio")) (.type "list") = some false)) (by rfl)
  of_decide_eq_true c
theorem Tx.kit_Ratio_tuple (T : Tx K mg) : PySem.W.kitOne K (.ref (He.ga K "Ratio")) (.type "tuple") = some false :=
  have c := T.says.fact 93 (f := fun K => decide (PySem.W.kitOne K (.ref (He.ga K "Ratio")) (.type "tuple") = some false)) (by rfl)
  of_decide_eq_true c
theorem Tx.kit_Duel_int (T : Tx K mg) : PySem.W.kitOne K (.ref (He.ga K "Duel")) (.type "int") = some false :=
  have c := T.says.fact 94 (f := fun K => decide (PySem.W.kitOne K (.ref (He.ga K "Duel")) (.type "int") = some false)) (by rfl)
  of_decide_eq_true c
theorem Tx.kit_Duel_bool (T : Tx K mg) : PySem.W.kitOne K (.ref (He.ga K "Duel")) (.type "bool") = some false :=
  have c := T.says.fact 95 (f := fun K => decide (PySem.W.kitOne K (.ref (He.ga K "Duel")) (.type "bool") = some false)) (by rfl)
  of_decide_eq_true c
theorem Tx.kit_Duel_list (T : Tx K mg) : PySem.W.kitOne K (.ref (He.ga K "Duel")) (.type "list") = some false :=
  have c := T.says.fact 96 (f := fun K => decide (PySem.W.kitOne K (.ref (He.ga K "Duel")) (.type "list") = some false)) (by rfl)
  of_decide_eq_true c
theorem Tx.kit_Duel_tuple (T : Tx K mg) : PySem.W.kitOne K (.ref (He.ga K "Duel")) (.type "tuple") = some false :=
  have c := T.says.fact 97 (f := fun K => decide (PySem.W.kitOne K (.ref (He.ga K "Duel")) (.type "tuple") = some false)) (by rfl)
  of_decide_eq_true c
theorem Tx.kit_Ratio_Duel (T : Tx K mg) : PySem.W.kitOne K (.ref (He.ga K "Ratio")) (.ref (He.ga K "Duel")) = some false :=
  have c := T.says.fact 98 (f := fun K => decide (PySem.W.kitOne K (.ref (He.ga K "Ratio")) (.ref (He.ga K "Duel")) = some false)) (by rfl)
  of_decide_eq_true c
theorem Tx.kit_Duel_Ratio (T : Tx K mg) : PySem.W.kitOne K (.ref (He.ga K "Duel")) (.ref (He.ga K "Ratio")) = some false :=
  have c := T.says.fact 99 (f := fun K => decide (PySem.W.kitOne K (.ref (He.ga K "Duel")) (.ref (He.ga K "Ratio")) = some false)) (by rfl)
  of_decide_eq_true c
theorem Tx.sb_Duel_Ratio (T : Tx K mg) : PySem.W.subIn K (.ref (He.ga K "Duel")) (.ref (He.ga K "Ratio")) = some false :=
  have c := T.says.fact 100 (f := fun K => decide (PySem.W.subIn K (.ref (He.ga K "Duel")) (.ref (He.ga K "Ratio")) = some false)) (by rfl)
  of_decide_eq_true c
theorem Tx.sb_Ratio_Duel (T : Tx K mg) : PySem.W.subIn K (.ref (He.ga K "Ratio")) (.ref (He.ga K "Duel")) = some false :=
  have c := T.says.fact 101 (f := fun K => decide (PySem.W.subIn K (.ref (He.ga K "Ratio")) (.ref (He.ga K "Duel")) = some false)) (by rfl)
  of_decide_eq_true c
theorem Tx.ap_Ratio (T : Tx K mg) : EM.Apart K (He.ga K "Ratio") :=
  have c := T.says.fact 102 (f := fun K => EM.apartB K (He.ga K "Ratio")) (by rfl)
  EM.apartB_ok c
theorem Tx.ap_Duel (T : Tx K mg) : EM.Apart K (He.ga K "Duel") :=
  have c := T.says.fact 103 (f := fun K => EM.apartB K (He.ga K "Duel")) (by rfl)
  EM.apartB_ok c
theorem Tx.ne_Duel (T : Tx K mg) : PySem.W.findIn K (.ref (He.ga K "Duel")) "__ne__" = some (some (.builtin "object.__ne__")) :=
  have c := T.says.fact 104 (f := fun K => EM.neB K (He.ga K "Duel")) (by rfl)
  He.eqO_ok c
theorem Tx.mo_Duel (T : Tx K mg) : PySem.W.mroIn K (He.ga K "Duel") (.type "object") = some true :=
  have c := T.says.fact 105 (f := fun K => decide (PySem.W.mroIn K (He.ga K "Duel") (.type "object") = some true)) (by rfl)
  of_decide_eq_true c
theorem Tx.d_BadWeights_init (T : Tx K mg) : ∃ fd, FunD K "__init__" "BadWeights.__init__" (defArgs s_BadWeights_init) (defBody s_BadWeights_init) (defScope s_BadWeights_init) [] [] (He.ma K (He.ga K "BadWeights") "__init__") fd := T.says.def_ 0 (d := e_BadWeights_init) (by rfl)
theorem Tx.d_is_integer_ratios (T : Tx K mg) : ∃ fd, FunD K "is_integer" "is_integer" (defArgs s_is_integer_ratios) (defBody s_is_integer_ratios) (defScope s_is_integer_ratios) [] [] (He.ga K "is_integer_ratios") fd := T.says.def_ 1 (d := e_is_integer_ratios) (by rfl)
theorem Tx.d_is_integer_fits (T : Tx K mg) : ∃ fd, FunD K "is_integer" "is_integer" (defArgs s_is_integer_fits) (defBody s_is_integer_fits) (defScope s_is_integer_fits) [] [] (He.ga K "is_integer_fits") fd := T.says.def_ 2 (d := e_is_integer_fits) (by rfl)
theorem Tx.d_common_divisor (T : Tx K mg) : ∃ fd, FunD K "common_divisor" "common_divisor" (defArgs s_common_divisor) (defBody s_common_divisor) (defScope s_common_divisor) [] [] (He.ga K "common_divisor") fd := T.says.def_ 3 (d := e_common_divisor) (by rfl)
theorem Tx.d_Ratio_init (T : Tx K mg) : ∃ fd, FunD K "__init__" "Ratio.__init__" (defArgs s_Ratio_init) (defBody s_Ratio_init) (defScope s_Ratio_init) [.int 1] [] (He.ma K (He.ga K "Ratio") "__init__") fd := T.says.def_ 4 (d := e_Ratio_init) (by rfl)
theorem Tx.d_Ratio_of (T : Tx K mg) : ∃ fd, FunD K "of" "Ratio.of" (defArgs s_Ratio_of) (defBody s_Ratio_of) (defScope s_Ratio_of) [] [] (He5.wf K (He.ga K "Ratio") "staticmethod" "of") fd := T.says.def_ 5 (d := e_Ratio_of) (by rfl)
theorem Tx.d_Ratio_is_number (T : Tx K mg) : ∃ fd, FunD K "is_number" "Ratio.is_number" (defArgs s_Ratio_is_number) (defBody s_Ratio_is_number) (defScope s_Ratio_is_number) [] [] (He5.wf K (He.ga K "Ratio") "staticmethod" "is_number") fd := T.says.def_ 6 (d := e_Ratio_is_number) (by rfl)
theorem Tx.d_Ratio_add (T : Tx K mg) : ∃ fd, FunD K "__add__" "Ratio.__add__" (defArgs s_Ratio_add) (defBody s_Ratio_add) (defScope s_Ratio_add) [] [] (He.ma K (He.ga K "Ratio") "__add__") fd := T.says.def_ 7 (d := e_Ratio_add) (by rfl)
theorem Tx.d_Ratio_sub (T : Tx K mg) : ∃ fd, FunD K "__sub__" "Ratio.__sub__" (defArgs s_Ratio_sub) (defBody s_Ratio_sub) (defScope s_Ratio_sub) [] [] (He.ma K (He.ga K "Ratio") "__sub__") fd := T.says.def_ 8 (d := e_Ratio_sub) (by rfl)
theorem Tx.d_Ratio_neg (T : Tx K mg) : ∃ fd, FunD K "__neg__" "Ratio.__neg__" (defArgs s_Ratio_neg) (defBody s_Ratio_neg) (defScope s_Ratio_neg) [] [] (He.ma K (He.ga K "Ratio") "__neg__") fd := T.says.def_ 9 (d := e_Ratio_neg) (by rfl)
theorem Tx.d_Ratio_radd (T : Tx K mg) : ∃ fd, FunD K "__radd__" "Ratio.__radd__" (defArgs s_Ratio_radd) (defBody s_Ratio_radd) (defScope s_Ratio_radd) [] [] (He.ma K (He.ga K "Ratio") "__radd__") fd := T.says.def_ 10 (d := e_Ratio_radd) (by rfl)
theorem Tx.d_Ratio_rsub (T : Tx K mg) : ∃ fd, FunD K "__rsub__" "Ratio.__rsub__" (defArgs s_Ratio_rsub) (defBody s_Ratio_rsub) (defScope s_Ratio_rsub) [] [] (He.ma K (He.ga K "Ratio") "__rsub__") fd := T.says.def_ 11 (d := e_Ratio_rsub) (by rfl)
theorem Tx.d_Ratio_eq (T : Tx K mg) : ∃ fd, FunD K "__eq__" "Ratio.__eq__" (defArgs s_Ratio_eq) (defBody s_Ratio_eq) (defScope s_Ratio_eq) [] [] (He.ma K (He.ga K "Ratio") "__eq__") fd := T.says.def_ 12 (d := e_Ratio_eq) (by rfl)
theorem Tx.d_need_plain_weights (T : Tx K mg) : ∃ fd, FunD K "need_plain_weights" "need_plain_weights" (defArgs s_need_plain_weights) (defBody s_need_plain_weights) (defScope s_need_plain_weights) [] [] (He.ga K "need_plain_weights") fd := T.says.def_ 13 (d := e_need_plain_weights) (by rfl)
theorem Tx.d_Duel_init (T : Tx K mg) : ∃ fd, FunD K "__init__" "Duel.__init__" (defArgs s_Duel_init) (defBody s_Duel_init) (defScope s_Duel_init) [.int 0] [] (He.ma K (He.ga K "Duel") "__init__") fd := T.says.def_ 14 (d := e_Duel_init) (by rfl)
theorem Tx.d_Duel_neg (T : Tx K mg) : ∃ fd, FunD K "__neg__" "Duel.__neg__" (defArgs s_Duel_neg) (defBody s_Duel_neg) (defScope s_Duel_neg) [] [] (He.ma K (He.ga K "Duel") "__neg__") fd := T.says.def_ 15 (d := e_Duel_neg) (by rfl)
theorem Tx.d_Duel_eq (T : Tx K mg) : ∃ fd, FunD K "__eq__" "Duel.__eq__" (defArgs s_Duel_eq) (defBody s_Duel_eq) (defScope s_Duel_eq) [] [] (He.ma K (He.ga K "Duel") "__eq__") fd := T.says.def_ 16 (d := e_Duel_eq) (by rfl)
theorem Tx.d_Duel_len (T : Tx K mg) : ∃ fd, FunD K "__len__" "Duel.__len__" (defArgs s_Duel_len) (defBody s_Duel_len) (defScope s_Duel_len) [] [] (He.ma K (He.ga K "Duel") "__len__") fd := T.says.def_ 17 (d := e_Duel_len) (by rfl)
theorem Tx.d_Lpen (T : Tx K mg) : ∃ fd, FunD K "_law_pen" "_law_pen" (defArgs s_Lpen) (defBody s_Lpen) (defScope s_Lpen) [] [] (He.ga K "_law_pen") fd := T.says.def_ 18 (d := e_Lpen) (by rfl)
theorem Tx.d_Ldraw (T : Tx K mg) : ∃ fd, FunD K "_law_draw" "_law_draw" (defArgs s_Ldraw) (defBody s_Ldraw) (defScope s_Ldraw) [] [] (He.ga K "_law_draw") fd := T.says.def_ 19 (d := e_Ldraw) (by rfl)
theorem Tx.d_Lpick (T : Tx K mg) : ∃ fd, FunD K "_law_pick" "_law_pick" (defArgs s_Lpick) (defBody s_Lpick) (defScope s_Lpick) [] [] (He.ga K "_law_pick") fd := T.says.def_ 20 (d := e_Lpick) (by rfl)
theorem Tx.d_Lweights (T : Tx K mg) : ∃ fd, FunD K "_law_weights" "_law_weights" (defArgs s_Lweights) (defBody s_Lweights) (defScope s_Lweights) [] [] (He.ga K "_law_weights") fd := T.says.def_ 21 (d := e_Lweights) (by rfl)
theorem Tx.d_Llevel (T : Tx K mg) : ∃ fd, FunD K "_law_level" "_law_level" (defArgs s_Llevel) (defBody s_Llevel) (defScope s_Llevel) [] [] (He.ga K "_law_level") fd := T.says.def_ 22 (d := e_Llevel) (by rfl)
theorem Tx.d_Lnumber (T : Tx K mg) : ∃ fd, FunD K "_law_number" "_law_number" (defArgs s_Lnumber) (defBody s_Lnumber) (defScope s_Lnumber) [] [] (He.ga K "_law_number") fd := T.says.def_ 23 (d := e_Lnumber) (by rfl)
theorem Tx.d_Lbent (T : Tx K mg) : ∃ fd, FunD K "_law_bent" "_law_bent" (defArgs s_Lbent) (defBody s_Lbent) (defScope s_Lbent) [] [] (He.ga K "_law_bent") fd := T.says.def_ 24 (d := e_Lbent) (by rfl)
theorem Tx.d_Linteger (T : Tx K mg) : ∃ fd, FunD K "_law_integer" "_law_integer" (defArgs s_Linteger) (defBody s_Linteger) (defScope s_Linteger) [] [] (He.ga K "_law_integer") fd := T.says.def_ 25 (d := e_Linteger) (by rfl)
theorem Tx.d_Ldue (T : Tx K mg) : ∃ fd, FunD K "_law_due" "_law_due" (defArgs s_Ldue) (defBody s_Ldue) (defScope s_Ldue) [] [] (He.ga K "_law_due") fd := T.says.def_ 26 (d := e_Ldue) (by rfl)
theorem Tx.d_Lheard (T : Tx K mg) : ∃ fd, FunD K "_law_heard" "_law_heard" (defArgs s_Lheard) (defBody s_Lheard) (defScope s_Lheard) [] [] (He.ga K "_law_heard") fd := T.says.def_ 27 (d := e_Lheard) (by rfl)
theorem Tx.d_Lmade_right (T : Tx K mg) : ∃ fd, FunD K "_law_made_right" "_law_made_right" (defArgs s_Lmade_right) (defBody s_Lmade_right) (defScope s_Lmade_right) [] [] (He.ga K "_law_made_right") fd := T.says.def_ 28 (d := e_Lmade_right) (by rfl)
theorem Tx.d_law (T : Tx K mg) : ∃ fd, FunD K "law" "law" (defArgs s_law) (defBody s_law) (defScope s_law) [] [] (He.ga K "law") fd := T.says.def_ 29 (d := e_law) (by rfl)
theorem Tx.k_is_integer_ratios (T : Tx K mg) : PySem.W.keepIn K (.ref (He.ga K "is_integer_ratios")) = true := let ⟨_, F⟩ := T.d_is_integer_ratios; F.kp
theorem Tx.k_is_integer_fits (T : Tx K mg) : PySem.W.keepIn K (.ref (He.ga K "is_integer_fits")) = true := let ⟨_, F⟩ := T.d_is_integer_fits; F.kp
theorem Tx.k_common_divisor (T : Tx K mg) : PySem.W.keepIn K (.ref (He.ga K "common_divisor")) = true := let ⟨_, F⟩ := T.d_common_divisor; F.kp
theorem Tx.k_need_plain_weights (T : Tx K mg) : PySem.W.keepIn K (.ref (He.ga K "need_plain_weights")) = true := let ⟨_, F⟩ := T.d_need_plain_weights; F.kp
theorem Tx.k__law_pen (T : Tx K mg) : PySem.W.keepIn K (.ref (He.ga K "_law_pen")) = true := let ⟨_, F⟩ := T.d_Lpen; F.kp
theorem Tx.k__law_draw (T : Tx K mg) : PySem.W.keepIn K (.ref (He.ga K "_law_draw")) = true := let ⟨_, F⟩ := T.d_Ldraw; F.kp
theorem Tx.k__law_pick (T : Tx K mg) : PySem.W.keepIn K (.ref (He.ga K "_law_pick")) = true := let ⟨_, F⟩ := T.d_Lpick; F.kp
theorem Tx.k__law_weights (T : Tx K mg) : PySem.W.keepIn K (.ref (He.ga K "_law_weights")) = true := let ⟨_, F⟩ := T.d_Lweights; F.kp
theorem Tx.k__law_level (T : Tx K mg) : PySem.W.keepIn K (.ref (He.ga K "_law_level")) = true := let ⟨_, F⟩ := T.d_Llevel; F.kp
theorem Tx.k__law_number (T : Tx K mg) : PySem.W.keepIn K (.ref (He.ga K "_law_number")) = true := let ⟨_, F⟩ := T.d_Lnumber; F.kp
theorem Tx.k__law_bent (T : Tx K mg) : PySem.W.keepIn K (.ref (He.ga K "_law_bent")) = true := let ⟨_, F⟩ := T.d_Lbent; F.kp
theorem Tx.k__law_integer (T : Tx K mg) : PySem.W.keepIn K (.ref (He.ga K "_law_integer")) = true := let ⟨_, F⟩ := T.d_Linteger; F.kp
theorem Tx.k__law_due (T : Tx K mg) : PySem.W.keepIn K (.ref (He.ga K "_law_due")) = true := let ⟨_, F⟩ := T.d_Ldue; F.kp
theorem Tx.k__law_heard (T : Tx K mg) : PySem.W.keepIn K (.ref (He.ga K "_law_heard")) = true := let ⟨_, F⟩ := T.d_Lheard; F.kp
theorem Tx.k__law_made_right (T : Tx K mg) : PySem.W.keepIn K (.ref (He.ga K "_law_made_right")) = true := let ⟨_, F⟩ := T.d_Lmade_right; F.kp
theorem Tx.k_law (T : Tx K mg) : PySem.W.keepIn K (.ref (He.ga K "law")) = true := let ⟨_, F⟩ := T.d_law; F.kp
theorem Tx.k_Ratio_of (T : Tx K mg) : PySem.W.keepIn K (.ref (He5.wf K (He.ga K "Ratio") "staticmethod" "of")) = true := let ⟨_, F⟩ := T.d_Ratio_of; F.kp
theorem Tx.k_Ratio_is_number (T : Tx K mg) : PySem.W.keepIn K (.ref (He5.wf K (He.ga K "Ratio") "staticmethod" "is_number")) = true := let ⟨_, F⟩ := T.d_Ratio_is_number; F.kp
end
end K40

namespace K40
open PySem PySem.Spec PyProof.Rows L2 EM
section
variable {P : Program} {w : World} {K : PySem.W.Frag} {mg : Str → Option Value} {base : Heap}
theorem ok_Lpen (T : Tx K mg) : FnR P w K mg base (L2.CX P w) 1 (He.ga K "_law_pen") (spPen K) := by
  obtain ⟨fd, F⟩ := T.d_Lpen
  refine EM.fnr F sc_Lpen (fun _ _ _ _ _ _ us hl => match us, hl with | [_], _ => rfl) (fun vs H Q E h => ?_) (fun cdv A outer s H vs Q E hr h => ?_)
  · obtain ⟨a, ns, rfl, _⟩ := h
    rfl
  · obtain ⟨a, ns, rfl, hS, hl, k⟩ := h
    obtain ⟨ms, ems, hms⟩ := cut_ints ns none (some 63)
    refine ⟨_, (PSs.nox (pss_one (ps_ret (pe_lst (pa_cons (pe_callTy call_list_of (by rfl) T.f_list (by decide +kernel) (pa_cons (pe_slice sl_list (pv 0) po_none (po_some pe_int)) pa_nil)) (pa_cons pe_int (pa_cons pe_int pa_nil))))))), ?_⟩
    refine ⟨_, rfl, 63, rfl, a, _, rfl, hS, fun c hc => ⟨c, _, rfl, .inl (SqL.of upd_same), fun l hl2 => ⟨(by show 3 ≤ sizeLine; decide), fun p hp => ?_⟩⟩⟩
    have s1 : Same H _ := same_upd (o := .lst (cutV (ns.map V.int) none (some 63))) hc
    have s2 := same_upd' (o := .lst (cutV (ns.map V.int) none (some 63))) s1 (s1.free hl2)
    have n2 : H p = none := s2.free hp
    have nlp : l ≠ p := by
      intro z
      subst z
      rw [upd_same] at hp
      cases hp
    refine k p l _ (same_upd' s2 n2) n2 ⟨ms, 0, 0, upd_same, ?_, nlp, by omega, by omega, by omega⟩
    rw [upd_ne nlp, upd_same, ems]
theorem ok_Ldraw (T : Tx K mg) : FnR P w K mg base (L2.CX P w) 1 (He.ga K "_law_draw") (spDraw) := by
  obtain ⟨fd, F⟩ := T.d_Ldraw
  refine EM.fnr F sc_Ldraw (fun _ _ _ _ _ _ us hl => match us, hl with | [_, _], _ => rfl) (fun vs H Q E h => ?_) (fun cdv A outer s H vs Q E hr h => ?_)
  · obtain ⟨p, l, n, many, rfl, _⟩ := h
    rfl
  · obtain ⟨p, l, n, many, rfl, ⟨cells, at_, rest, hp, hlc, nlp, hcl, a0, a1⟩, hn, m1, m2, k⟩ := h
    have wm : CDivW 0 many := wide_div (b := 400) (by omega) (by omega) (by decide) (by decide)
    have wd : ∀ i, CDivW i many := fun i => wm
    have md : ∀ i : Int, 0 ≤ i % many ∧ i % many < many := fun i => ⟨Int.emod_nonneg _ (by omega), Int.emod_lt_of_pos _ (by omega)⟩
    refine ⟨_, (PSs.nox (pss_cons (ps_if (pt_cmpR op_gt (pe_ix ix_list (pv 0) pe_int (fun _ _ => rfl)) pe_int (nomark _))
  (pss_cons (ps_set (i := 2) sc_Ldraw.nd rfl (Or.inl rfl) (pe_op op_mod (pe_callTy call_int1 (by rfl) T.f_int (by decide +kernel) (pa_cons (pe_ix ix_list (pv 0) pe_int (fun _ _ => rfl)) pa_nil)) (pv 1)))
 (pss_cons (ps_asg (pe_op op_fdivW (pe_callTy call_int1 (by rfl) T.f_int (by decide +kernel) (pa_cons (pe_ix ix_list (pv 0) pe_int (fun _ _ => rfl)) pa_nil)) (pv 1)) (pg_sub (pv 0) pe_int set_list))
 (pss_one (ps_ret (pv 2))))) pss_nil)
 (pss_cons (ps_set (i := 3) sc_Ldraw.nd rfl (Or.inl rfl) (pe_ix ix_list (pv 0) pe_int (fun _ _ => rfl)))
 (pss_cons (ps_asg (pe_op op_add (pv 3) pe_int) (pg_sub (pv 0) pe_int set_list))
 (pss_cons (ps_set (i := 4) sc_Ldraw.nd rfl (Or.inl rfl) (pe_op op_add (pe_op op_mul pe_int (pv 3)) pe_int))
 (pss_cons (ps_if (pt_cmpR (op_neD hr.units) (pe_ix ix_list (pv 0) pe_int (fun _ _ => rfl)) (pe_lst pa_nil) (nomark _))
  (pss_one (ps_set (i := 4) sc_Ldraw.nd rfl (Or.inl rfl) (pe_ix ix_list (pe_ix ix_list (pv 0) pe_int (fun _ _ => rfl)) (pe_op op_mod (pe_callTy call_int1 (by rfl) T.f_int (by decide +kernel) (pa_cons (pv 3) pa_nil)) (pe_callB call_len (by rfl) T.f_len boot_len (pa_cons (pe_ix ix_list (pv 0) pe_int (fun _ _ => rfl)) pa_nil))) (fun _ _ => rfl)))) pss_nil)
 (pss_cons (ps_if (PW.pt (pw_and (pt_cmpR op_lt (pv 3) (pe_callB call_len (by rfl) T.f_len boot_len (pa_cons (pe_ix ix_list (pv 0) pe_int (fun _ _ => rfl)) pa_nil)) (nomark _)) (pw_and1 (pt_cmpR op_ge (pe_callB call_abs (by rfl) T.f_abs (by decide +kernel) (pa_cons (pv 4) pa_nil)) (pe_op op_pow pe_int pe_int) (nomark _)))))
  (pss_cons (ps_set (i := 5) sc_Ldraw.nd rfl (Or.inl rfl) (pe_op op_add (pe_op op_mul pe_int (pe_op op_sub (pe_callB call_abs (by rfl) T.f_abs (by decide +kernel) (pa_cons (pv 4) pa_nil)) (pe_op op_pow pe_int pe_int))) (pe_callTy call_int1 (by rfl) T.f_int (by decide +kernel) (pa_cons (pe_cmpR op_lt (pv 4) pe_int (nomark _)) pa_nil))))
 (pss_cons (ps_asg (pe_op op_fdivW (pe_callTy call_int1 (by rfl) T.f_int (by decide +kernel) (pa_cons (pv 5) pa_nil)) (pv 1)) (pg_sub (pv 0) pe_int set_list))
 (pss_one (ps_ret (pe_op op_mod (pe_callTy call_int1 (by rfl) T.f_int (by decide +kernel) (pa_cons (pv 5) pa_nil)) (pv 1)))))) pss_nil)
 (pss_cons (ps_set (i := 6) sc_Ldraw.nd rfl (Or.inl rfl) (pe_op op_mod (pe_callTy call_int1 (by rfl) T.f_int (by decide +kernel) (pa_cons (pe_op op_pow (pe_op op_add (pe_op op_add (pe_op op_mod (pe_callTy call_int1 (by rfl) T.f_int (by decide +kernel) (pa_cons (pv 4) pa_nil)) pe_int) (pe_op op_mul pe_int (pv 3))) pe_int) pe_int) pa_nil)) pe_int))
 (pss_cons (ps_set (i := 6) sc_Ldraw.nd rfl (Or.inl rfl) (pe_op op_mod (pe_callTy call_int1 (by rfl) T.f_int (by decide +kernel) (pa_cons (pe_op op_pow (pe_op op_add (pe_op op_add (pe_op op_mul (pv 6) (pe_op op_add (pe_op op_mul pe_int (pv 3)) pe_int)) (pe_op op_mul (pe_op op_mul pe_int (pv 3)) (pv 3))) pe_int) pe_int) pa_nil)) pe_int))
 (pss_one (ps_ret (pe_op op_mod (pe_callTy call_int1 (by rfl) T.f_int (by decide +kernel) (pa_cons (pe_op op_fdiv (pv 6) pe_int) pa_nil)) (pv 1))))))))))))), ?_⟩
    -- if pen[2] > 0
    refine ⟨_, rfl, p, _, 2, _, rfl, rfl, SqL.of hp, rfl, _, _, rfl, rfl, _, rfl, ite2 (fun c => ?_) (fun c => ?_)⟩
    · refine ⟨_, rfl, p, _, 2, _, rfl, rfl, SqL.of hp, rfl, .inl ⟨_, rfl, _, rfl, _, _, rfl, rfl, (by show (0 : Int) < many; omega), ?_⟩⟩
      refine ⟨_, rfl, p, _, 2, _, rfl, rfl, SqL.of hp, rfl, .inl ⟨_, rfl, _, rfl, _, _, rfl, rfl, wd _, ?_⟩⟩
      refine ⟨_, rfl, p, _, 2, 2, rfl, rfl, hp, rfl, ?_⟩
      refine ⟨_, rfl, k _ _ (md _).1 (md _).2 (fun b o e hb => by rw [upd_ne hb]; exact e) ⟨cells, at_, _, upd_same, by rw [upd_ne nlp]; exact hlc, nlp, hcl, a0, by omega⟩⟩
    · have a2 : at_ ≤ 1000000 := by omega
      -- at = pen[1]; pen[1] = at + 1; cell = ..
      refine ⟨_, rfl, p, _, 1, _, rfl, rfl, SqL.of hp, rfl, ?_⟩
      refine ⟨_, rfl, _, _, rfl, rfl, _, rfl, p, _, 1, 1, rfl, rfl, hp, rfl, ?_⟩
      refine ⟨_, rfl, _, _, rfl, rfl, .inl ⟨by decide, by decide⟩, _, _, rfl, rfl, ?_⟩
      obtain ⟨H1, eH1⟩ : ∃ H1, H1 = upd H p (.lst ([V.ref l, V.int at_, V.int rest].set 1 (.int (at_ + 1)))) := ⟨_, rfl⟩
      rw [← eH1]
      have hp1 : H1 p = some (.lst [.ref l, .int (at_ + 1), .int rest]) := by rw [eH1]; exact upd_same
      have hl1 : H1 l = some (.lst (cells.map V.int)) := by rw [eH1, upd_ne nlp]; exact hlc
      have k1 : ∀ b o, H b = some o → b ≠ p → H1 b = some o := fun b o e hb => by rw [eH1, upd_ne hb]; exact e
      clear eH1
      -- if pen[0] != []
      refine ⟨_, rfl, p, _, 0, _, rfl, rfl, SqL.of hp1, rfl, (by show 0 ≤ sizeLine; decide), fun q hq => ⟨dL cells, dL [], .lst (SqL.of (by rw [upd_ne (ne_of_none hl1 hq)]; exact hl1)) (dp_ints cells), .lst (SqL.of upd_same) .nil, shL cells, shL [], _, rfl, ?_⟩⟩
      obtain ⟨H2, eH2⟩ : ∃ H2, H2 = upd H1 q (.lst []) := ⟨_, rfl⟩
      rw [← eH2]
      have hp2 : H2 p = some (.lst [.ref l, .int (at_ + 1), .int rest]) := by rw [eH2, upd_ne (ne_of_none hp1 hq)]; exact hp1
      have hl2 : H2 l = some (.lst (cells.map V.int)) := by rw [eH2, upd_ne (ne_of_none hl1 hq)]; exact hl1
      have k2 : ∀ b o, H b = some o → b ≠ p → H2 b = some o := fun b o e hb => by rw [eH2, upd_ne (ne_of_none (k1 b o e hb) hq)]; exact k1 b o e hb
      clear eH2
      rw [eqvL]
      refine ite2 (fun c2 => ?_) (fun c2 => ?_)
      · have hc0 : 0 < cells.length := by
          cases cells with
          | nil => simp at c2
          | cons _ _ => simp
        have hm : 0 ≤ at_ % (cells.length : Int) ∧ at_ % (cells.length : Int) < cells.length := ⟨Int.emod_nonneg _ (by omega), Int.emod_lt_of_pos _ (by omega)⟩
        have hj : (at_ % (cells.length : Int)).toNat < cells.length := by omega
        refine ⟨_, rfl, p, _, 0, _, rfl, rfl, SqL.of hp2, rfl, _, rfl, .inl ⟨_, rfl, _, rfl, p, _, 0, _, rfl, rfl, SqL.of hp2, rfl, _, _, rfl, .inl ⟨_, SqL.of hl2, rfl⟩, _, _, rfl, rfl, ?_, l, _, _, .int (cells[(at_ % (cells.length : Int)).toNat]), rfl, rfl, SqL.of hl2, ?_, ?_⟩⟩
        · show (0 : Int) < ((cells.map V.int).length : Nat)
          rw [List.length_map]; omega
        · rw [List.length_map]
          exact at_of (j := (at_ % (cells.length : Int)).toNat) (by omega) (by rw [List.getElem?_map, List.getElem?_eq_getElem hj]; rfl)
        refine ⟨_, rfl, _, rfl, p, _, 0, _, rfl, rfl, SqL.of hp2, rfl, _, _, rfl, .inl ⟨_, SqL.of hl2, rfl⟩, _, _, rfl, rfl, _, rfl, ite2 (fun c3 => ?_) (fun c3 => ?_)⟩
        · refine ⟨_, rfl, _, rfl, _, _, rfl, rfl, ⟨by decide, by decide, by decide⟩, _, _, rfl, rfl, _, rfl, ite2 (fun c4 => ?_) (fun c4 => ?_)⟩
          · refine ⟨_, rfl, _, rfl, _, _, rfl, rfl, ⟨by decide, by decide, by decide⟩, _, _, rfl, rfl, _, _, rfl, rfl, .inl ⟨by decide, by decide⟩, _, rfl, _, _, rfl, rfl, .inr ⟨_, rfl, _, _, rfl, rfl, ?_⟩⟩
            refine ⟨_, rfl, .inl ⟨_, rfl, _, rfl, _, _, rfl, rfl, wd _, ?_⟩⟩
            refine ⟨_, rfl, p, _, 2, 2, rfl, rfl, hp2, rfl, ?_⟩
            refine ⟨_, rfl, .inl ⟨_, rfl, _, rfl, _, _, rfl, rfl, (by show (0 : Int) < many; omega), ?_⟩⟩
            exact k _ _ (md _).1 (md _).2 (fun b o e hb => by rw [upd_ne hb]; exact k2 b o e hb) ⟨cells, at_ + 1, _, upd_same, by rw [upd_ne nlp]; exact hl2, nlp, hcl, by omega, by omega⟩
          · refine ⟨_, rfl, .inl ⟨_, rfl, _, _, rfl, rfl, (by show (0 : Int) < _; decide), _, rfl, _, _, rfl, rfl, .inl ⟨by decide, by decide⟩, _, _, rfl, rfl, _, _, rfl, rfl, _, _, rfl, rfl, ⟨by decide, by decide, by omega⟩, .inl ⟨_, rfl, _, _, rfl, rfl, (by show (0 : Int) < _; decide), ?_⟩⟩⟩
            refine ⟨_, rfl, _, rfl, _, _, rfl, rfl, .inl ⟨by decide, by decide⟩, _, _, rfl, rfl, _, _, rfl, rfl, .inl ⟨by omega, by omega⟩, _, rfl, _, _, rfl, rfl, .inl ⟨by decide, by decide⟩, _, rfl, _, _, rfl, rfl, .inl (mul_bd a0 a2 ⟨by decide, by decide⟩), _, _, rfl, rfl, _, _, rfl, rfl, _, _, rfl, rfl, ⟨by decide, by decide, draw_bd (by omega) (by omega) a0 a2 ⟨by decide, by decide⟩ ⟨by decide, by decide⟩ ⟨by decide, by decide⟩⟩, .inl ⟨_, rfl, _, _, rfl, rfl, (by show (0 : Int) < _; decide), ?_⟩⟩
            refine ⟨_, rfl, _, _, rfl, rfl, ⟨by decide, by decide⟩, .inl ⟨_, rfl, _, rfl, _, _, rfl, rfl, (by show (0 : Int) < many; omega), ?_⟩⟩
            exact k _ _ (md _).1 (md _).2 k2 ⟨cells, at_ + 1, _, hp2, hl2, nlp, hcl, by omega, by omega⟩
        · refine ifN rfl ?_
          refine ⟨_, rfl, .inl ⟨_, rfl, _, _, rfl, rfl, (by show (0 : Int) < _; decide), _, rfl, _, _, rfl, rfl, .inl ⟨by decide, by decide⟩, _, _, rfl, rfl, _, _, rfl, rfl, _, _, rfl, rfl, ⟨by decide, by decide, by omega⟩, .inl ⟨_, rfl, _, _, rfl, rfl, (by show (0 : Int) < _; decide), ?_⟩⟩⟩
          refine ⟨_, rfl, _, rfl, _, _, rfl, rfl, .inl ⟨by decide, by decide⟩, _, _, rfl, rfl, _, _, rfl, rfl, .inl ⟨by omega, by omega⟩, _, rfl, _, _, rfl, rfl, .inl ⟨by decide, by decide⟩, _, rfl, _, _, rfl, rfl, .inl (mul_bd a0 a2 ⟨by decide, by decide⟩), _, _, rfl, rfl, _, _, rfl, rfl, _, _, rfl, rfl, ⟨by decide, by decide, draw_bd (by omega) (by omega) a0 a2 ⟨by decide, by decide⟩ ⟨by decide, by decide⟩ ⟨by decide, by decide⟩⟩, .inl ⟨_, rfl, _, _, rfl, rfl, (by show (0 : Int) < _; decide), ?_⟩⟩
          refine ⟨_, rfl, _, _, rfl, rfl, ⟨by decide, by decide⟩, .inl ⟨_, rfl, _, rfl, _, _, rfl, rfl, (by show (0 : Int) < many; omega), ?_⟩⟩
          exact k _ _ (md _).1 (md _).2 k2 ⟨cells, at_ + 1, _, hp2, hl2, nlp, hcl, by omega, by omega⟩
      · refine ⟨_, rfl, _, rfl, p, _, 0, _, rfl, rfl, SqL.of hp2, rfl, _, _, rfl, .inl ⟨_, SqL.of hl2, rfl⟩, _, _, rfl, rfl, _, rfl, ite2 (fun c3 => ?_) (fun c3 => ?_)⟩
        · refine ⟨_, rfl, _, rfl, _, _, rfl, rfl, ⟨by decide, by decide, by decide⟩, _, _, rfl, rfl, _, rfl, ite2 (fun c4 => ?_) (fun c4 => ?_)⟩
          · refine ⟨_, rfl, _, rfl, _, _, rfl, rfl, ⟨by decide, by decide, by decide⟩, _, _, rfl, rfl, _, _, rfl, rfl, .inl ⟨by decide, by decide⟩, _, rfl, _, _, rfl, rfl, .inr ⟨_, rfl, _, _, rfl, rfl, ?_⟩⟩
            refine ⟨_, rfl, .inl ⟨_, rfl, _, rfl, _, _, rfl, rfl, wd _, ?_⟩⟩
            refine ⟨_, rfl, p, _, 2, 2, rfl, rfl, hp2, rfl, ?_⟩
            refine ⟨_, rfl, .inl ⟨_, rfl, _, rfl, _, _, rfl, rfl, (by show (0 : Int) < many; omega), ?_⟩⟩
            exact k _ _ (md _).1 (md _).2 (fun b o e hb => by rw [upd_ne hb]; exact k2 b o e hb) ⟨cells, at_ + 1, _, upd_same, by rw [upd_ne nlp]; exact hl2, nlp, hcl, by omega, by omega⟩
          · refine ⟨_, rfl, .inl ⟨_, rfl, _, _, rfl, rfl, (by show (0 : Int) < _; decide), _, rfl, _, _, rfl, rfl, .inl ⟨by decide, by decide⟩, _, _, rfl, rfl, _, _, rfl, rfl, _, _, rfl, rfl, ⟨by decide, by decide, by omega⟩, .inl ⟨_, rfl, _, _, rfl, rfl, (by show (0 : Int) < _; decide), ?_⟩⟩⟩
            refine ⟨_, rfl, _, rfl, _, _, rfl, rfl, .inl ⟨by decide, by decide⟩, _, _, rfl, rfl, _, _, rfl, rfl, .inl ⟨by omega, by omega⟩, _, rfl, _, _, rfl, rfl, .inl ⟨by decide, by decide⟩, _, rfl, _, _, rfl, rfl, .inl (mul_bd a0 a2 ⟨by decide, by decide⟩), _, _, rfl, rfl, _, _, rfl, rfl, _, _, rfl, rfl, ⟨by decide, by decide, draw_bd (by omega) (by omega) a0 a2 ⟨by decide, by decide⟩ ⟨by decide, by decide⟩ ⟨by decide, by decide⟩⟩, .inl ⟨_, rfl, _, _, rfl, rfl, (by show (0 : Int) < _; decide), ?_⟩⟩
            refine ⟨_, rfl, _, _, rfl, rfl, ⟨by decide, by decide⟩, .inl ⟨_, rfl, _, rfl, _, _, rfl, rfl, (by show (0 : Int) < many; omega), ?_⟩⟩
            exact k _ _ (md _).1 (md _).2 k2 ⟨cells, at_ + 1, _, hp2, hl2, nlp, hcl, by omega, by omega⟩
        · refine ifN rfl ?_
          refine ⟨_, rfl, .inl ⟨_, rfl, _, _, rfl, rfl, (by show (0 : Int) < _; decide), _, rfl, _, _, rfl, rfl, .inl ⟨by decide, by decide⟩, _, _, rfl, rfl, _, _, rfl, rfl, _, _, rfl, rfl, ⟨by decide, by decide, by omega⟩, .inl ⟨_, rfl, _, _, rfl, rfl, (by show (0 : Int) < _; decide), ?_⟩⟩⟩
          refine ⟨_, rfl, _, rfl, _, _, rfl, rfl, .inl ⟨by decide, by decide⟩, _, _, rfl, rfl, _, _, rfl, rfl, .inl ⟨by omega, by omega⟩, _, rfl, _, _, rfl, rfl, .inl ⟨by decide, by decide⟩, _, rfl, _, _, rfl, rfl, .inl (mul_bd a0 a2 ⟨by decide, by decide⟩), _, _, rfl, rfl, _, _, rfl, rfl, _, _, rfl, rfl, ⟨by decide, by decide, draw_bd (by omega) (by omega) a0 a2 ⟨by decide, by decide⟩ ⟨by decide, by decide⟩ ⟨by decide, by decide⟩⟩, .inl ⟨_, rfl, _, _, rfl, rfl, (by show (0 : Int) < _; decide), ?_⟩⟩
          refine ⟨_, rfl, _, _, rfl, rfl, ⟨by decide, by decide⟩, .inl ⟨_, rfl, _, rfl, _, _, rfl, rfl, (by show (0 : Int) < many; omega), ?_⟩⟩
          exact k _ _ (md _).1 (md _).2 k2 ⟨cells, at_ + 1, _, hp2, hl2, nlp, hcl, by omega, by omega⟩
theorem ok_Lpick (T : Tx K mg) : FnR P w K mg base (L2.CX P w) 2 (He.ga K "_law_pick") (spPick) := by
  obtain ⟨fd, F⟩ := T.d_Lpick
  refine EM.fnr F sc_Lpick (fun _ _ _ _ _ _ us hl => match us, hl with | [_, _], _ => rfl) (fun vs H Q E h => ?_) (fun cdv A outer s H vs Q E hr h => ?_)
  · obtain ⟨p, l, n, a, xs, rfl, _⟩ := h
    rfl
  · obtain ⟨p, l, n, a, xs, rfl, hP, hn, ha, nap, hx, hx2, k⟩ := h
    refine ⟨_, (PSs.nox (pss_one (ps_ret (pe_ix ix_list (pv 1) (EM.pe_cR (ok_Ldraw T) (hr.mono (by decide)) T.k__law_draw T.g__law_draw passL (pa_cons (pv 0) (pa_cons (pe_callB call_len (by rfl) T.f_len boot_len (pa_cons (pv 1) pa_nil)) pa_nil))) (fun _ _ => rfl))))), ?_⟩
    refine ⟨_, rfl, _, rfl, _, rfl, _, _, rfl, .inl ⟨_, SqL.of ha, rfl⟩, p, l, n, xs.length, rfl, hP, hn, by omega, by omega, fun d H' d0 d1 k1 P1 => ?_⟩
    obtain ⟨v, hv, hmem⟩ := pick (xs := xs) d0 d1
    exact ⟨a, _, _, v, rfl, rfl, SqL.of (k1 _ _ ha nap), hv, k v H' hmem k1 P1⟩
end
end K40
namespace K40
open PySem PySem.Spec PyProof.Rows L2 EM
section
variable {P : Program} {w : World} {K : PySem.W.Frag} {mg : Str → Option Value} {base : Heap}
theorem ok_is_integer_ratios (T : Tx K mg) : FnR P w K mg base (L2.CX P w) 1 (He.ga K "is_integer_ratios") (spIsInt K) := by
  obtain ⟨fd, F⟩ := T.d_is_integer_ratios
  refine EM.fnr F sc_is_integer_ratios (fun _ _ _ _ _ _ us hl => match us, hl with | [_], _ => rfl) (fun vs H Q E h => ?_) (fun cdv A outer s H vs Q E hr h => ?_)
  · obtain ⟨x, t, b1, b2, rfl, _⟩ := h
    rfl
  · obtain ⟨x, t, b1, b2, rfl, ty, k1, k2, q⟩ := h
    refine ⟨_, (PSs.nox (pss_one (ps_ret (pe_and (pe_callB call_isi (by rfl) T.f_isinstance (by decide +kernel) (pa_cons (pv 0) (pa_cons (pe_bltn (v := .ty "int") (by rfl) T.f_int boot_int rfl) pa_nil))) (pe_one (pe_not (pe_callB call_isi (by rfl) T.f_isinstance (by decide +kernel) (pa_cons (pv 0) (pa_cons (pe_bltn (v := .ty "bool") (by rfl) T.f_bool boot_bool rfl) pa_nil))))))))), ?_⟩
    refine ⟨_, rfl, x, .ty "int", t, .type "int", b1, rfl, .ty "int", ty, k1, b1, rfl, ?_⟩
    cases b1 with
    | false => exact iteF q
    | true => exact iteT ⟨_, rfl, x, .ty "bool", t, .type "bool", b2, rfl, .ty "bool", ty, k2, b2, rfl, q⟩
end
end K40
namespace K40
open PySem PySem.Spec PyProof.Rows L2 EM
section
variable {P : Program} {w : World} {K : PySem.W.Frag} {mg : Str → Option Value} {base : Heap}
theorem ok_is_integer_fits (T : Tx K mg) : FnR P w K mg base (L2.CX P w) 1 (He.ga K "is_integer_fits") (spIsInt K) := by
  obtain ⟨fd, F⟩ := T.d_is_integer_fits
  refine EM.fnr F sc_is_integer_fits (fun _ _ _ _ _ _ us hl => match us, hl with | [_], _ => rfl) (fun vs H Q E h => ?_) (fun cdv A outer s H vs Q E hr h => ?_)
  · obtain ⟨x, t, b1, b2, rfl, _⟩ := h
    rfl
  · obtain ⟨x, t, b1, b2, rfl, ty, k1, k2, q⟩ := h
    refine ⟨_, (PSs.nox (pss_one (ps_ret (pe_and (pe_callB call_isi (by rfl) T.f_isinstance (by decide +kernel) (pa_cons (pv 0) (pa_cons (pe_bltn (v := .ty "int") (by rfl) T.f_int boot_int rfl) pa_nil))) (pe_one (pe_not (pe_callB call_isi (by rfl) T.f_isinstance (by decide +kernel) (pa_cons (pv 0) (pa_cons (pe_bltn (v := .ty "bool") (by rfl) T.f_bool boot_bool rfl) pa_nil))))))))), ?_⟩
    refine ⟨_, rfl, x, .ty "int", t, .type "int", b1, rfl, .ty "int", ty, k1, b1, rfl, ?_⟩
    cases b1 with
    | false => exact iteF q
    | true => exact iteT ⟨_, rfl, x, .ty "bool", t, .type "bool", b2, rfl, .ty "bool", ty, k2, b2, rfl, q⟩
end
end K40
namespace K40
open PySem PySem.Spec PyProof.Rows L2 EM
theorem len_rat {K : PySem.W.Frag} : ∀ vs H Q E, spRat K vs H Q E → vs.length = ["self", "top", "bottom"].length := by
  intro vs H Q E h
  obtain ⟨x, dx, t, b, rfl, _⟩ := h
  rfl
section
variable {P : Program} {w : World} {K : PySem.W.Frag} {mg : Str → Option Value} {base : Heap}
theorem ok_common_divisor (T : Tx K mg) : FnR P w K mg base (L2.CX P w) 1 (He.ga K "common_divisor") (spGcd) := by
  obtain ⟨fd, F⟩ := T.d_common_divisor
  refine EM.fnr F sc_common_divisor (fun _ _ _ _ _ _ us hl => match us, hl with | [_, _], _ => rfl) (fun vs H Q E h => ?_) (fun cdv A outer s H vs Q E hr h => ?_)
  · obtain ⟨a, b, rfl, _⟩ := h
    rfl
  · obtain ⟨a, b, rfl, k⟩ := h
    refine ⟨_, (PSs.nox (pss_cons (ps_while PassesOwn.never (pt_cmpR op_ne (pv 1) pe_int (nomark _))
  (pss_one (ps_par (by rfl) sc_common_divisor.nd (i := 0) (j := 1) rfl rfl (by decide) rfl rfl (pa_cons (pv 1) (pa_cons (pe_op op_modN (pv 0) (pv 1)) pa_nil)) (by rfl))))
 (pss_one (ps_ret (pe_callB call_abs (by rfl) T.f_abs (by decide +kernel) (pa_cons (pv 0) pa_nil)))))), ?_⟩
    refine ⟨fun m σ H' => ∃ a' b', σ = [some (.int a'), some (.int b')] ∧ H' = H ∧ Int.gcd a' b' = Int.gcd a b ∧ m = b'.natAbs, ⟨_, a, b, rfl, rfl, rfl, rfl⟩, ?_⟩
    rintro m σ H' ⟨a', b', rfl, rfl, hg, rfl⟩
    refine ⟨_, rfl, rfl, _, rfl, ite2 (fun c => ?_) (fun c => ?_)⟩
    · have hb : b' ≠ 0 := fun z => by
        subst z
        simp at c
      refine ⟨fun σ H1 => ∃ a1 b1, σ = [some (.int a1), some (.int b1)] ∧ H1 = H' ∧ Int.gcd a1 b1 = Int.gcd a b ∧ b1.natAbs < b'.natAbs, ?_, ?_⟩
      · rintro σ H1 ⟨a1, b1, e1, e2, e3, e4⟩
        exact ⟨_, e4, a1, b1, e1, e2, e3, rfl⟩
      · exact ⟨_, rfl, _, rfl, _, rfl, _, _, rfl, rfl, hb, _, _, rfl, b', _, rfl, rfl, by rw [gcd_fmod]; exact hg, fmod_less _ _ hb⟩
    · have hb : b' = 0 := by
        apply Classical.byContradiction
        intro z
        exact c (by simp [z])
      subst hb
      have e : ((Int.gcd a b : Nat) : Int) = if a' < 0 then -a' else a' := by
        rw [← hg, Int.gcd_zero_right]
        split <;> omega
      rw [e] at k
      exact ⟨_, rfl, _, rfl, k⟩
theorem bod_rat (T : Tx K mg) (f : Addr) : Bod P w K mg base ["self", "top", "bottom", "shared"] "Ratio.__init__" (defScope s_Ratio_init) f (defBody s_Ratio_init) 1 (spRat K) := by
  intro cdv A outer s H vs Q E hr h
  obtain ⟨x, dx, t, b, rfl, hx, b0, bl, k⟩ := h
  refine ⟨_, (PSs.nox (pss_cons (ps_if (pt_not (pt_val (EM.pe_cR (ok_is_integer_ratios T) (hr.mono (by decide)) T.k_is_integer_ratios T.g_is_integer_ratios passL (pa_cons (pv 1) pa_nil))))
  (pss_one ps_never) pss_nil)
 (pss_cons (ps_if (PW.pt (pw_or (pt_not (pt_val (EM.pe_cR (ok_is_integer_ratios T) (hr.mono (by decide)) T.k_is_integer_ratios T.g_is_integer_ratios passL (pa_cons (pv 2) pa_nil)))) (pw_or1 (pt_cmpR op_eq (pv 2) pe_int (nomark _)))))
  (pss_one ps_never) pss_nil)
 (pss_cons (ps_set (i := 3) sc_Ratio_init.nd rfl (Or.inl rfl) (EM.pe_cR (ok_common_divisor T) (hr.mono (by decide)) T.k_common_divisor T.g_common_divisor passL (pa_cons (pv 1) (pa_cons (pv 2) pa_nil))))
 (pss_cons (ps_if (pt_cmpR op_lt (pv 2) pe_int (nomark _))
  (pss_one (ps_set (i := 3) sc_Ratio_init.nd rfl (Or.inl rfl) (pe_un un_neg (pv 3)))) pss_nil)
 (pss_cons (ps_fld (pv 0) (pe_op op_fdivWN (pv 1) (pv 3)) rfl)
 (pss_one (ps_fld (pv 0) (pe_op op_fdivWN (pv 2) (pv 3)) rfl)))))))), ?_⟩
  refine ⟨_, rfl, _, _, true, false, rfl, .base (.int t), kit_ty (by decide +kernel), kit_ty (by decide +kernel), _, rfl, ifN rfl ?_⟩
  refine ⟨_, rfl, _, _, true, false, rfl, .base (.int b), kit_ty (by decide +kernel), kit_ty (by decide +kernel), _, rfl, ifN rfl ⟨_, rfl, rfl, _, rfl, ifN (by simp [b0]) ?_⟩⟩
  have hs0 := shr_ne (t := t) b0
  have hs1 : (shr t b).natAbs.log2 < 9000 := Nat.lt_of_le_of_lt (log_le (shr_le b0)) bl
  refine ⟨_, rfl, _, rfl, t, b, rfl, ?_⟩
  refine ⟨_, rfl, _, _, rfl, rfl, _, rfl, ite2 (fun c => ?_) (fun c => ?_)⟩
  · have e : shr t b = -(Int.gcd t b : Int) := if_pos (by simpa using c)
    refine ⟨_, rfl, _, rfl, ?_⟩
    refine ⟨_, rfl, _, rfl, _, _, rfl, rfl, ⟨by rw [← e]; exact hs0, by rw [← e]; exact hs1⟩, _, rfl, x, _, dx, _, rfl, hx, T.cl_Ratio, T.na_Ratio_top, (by show 0 < 1000; decide), ?_⟩
    refine ⟨_, rfl, _, rfl, _, _, rfl, rfl, ⟨by rw [← e]; exact hs0, by rw [← e]; exact hs1⟩, _, rfl, x, _, dx, _, rfl, upd_same, T.cl_Ratio, T.na_Ratio_bottom, (by show 1 < 1000; decide), ?_⟩
    refine k _ (fun c o h hc => by rw [upd_ne hc, upd_ne hc]; exact h) ⟨dx, ?_⟩
    rw [upd_same]
    unfold nTop nBot
    rw [e]
    rfl
  · have e : shr t b = (Int.gcd t b : Int) := if_neg (by simpa using c)
    refine ⟨_, rfl, _, rfl, _, _, rfl, rfl, ⟨by rw [← e]; exact hs0, by rw [← e]; exact hs1⟩, _, rfl, x, _, dx, _, rfl, hx, T.cl_Ratio, T.na_Ratio_top, (by show 0 < 1000; decide), ?_⟩
    refine ⟨_, rfl, _, rfl, _, _, rfl, rfl, ⟨by rw [← e]; exact hs0, by rw [← e]; exact hs1⟩, _, rfl, x, _, dx, _, rfl, upd_same, T.cl_Ratio, T.na_Ratio_bottom, (by show 1 < 1000; decide), ?_⟩
    refine k _ (fun c o h hc => by rw [upd_ne hc, upd_ne hc]; exact h) ⟨dx, ?_⟩
    rw [upd_same]
    unfold nTop nBot
    rw [e]
    rfl
theorem ok_Ratio2 (T : Tx K mg) : FnR P w K mg base (L2.CX P w) 2 (He.ma K (He.ga K "Ratio") "__init__") (fun vs H Q E => spRat K (vs ++ []) H Q E) := by
  obtain ⟨fd, F⟩ := T.d_Ratio_init
  exact EM.fnr_dfl 3 1 F sc_Ratio_init (by intro z; cases z) rfl (fun T kV doc pm an cdv ct us its h1 h2 => match us, h1, its, h2 with | [_, _, _], _, [_], _ => ⟨_, rfl, rfl⟩) len_rat (bod_rat T _)
theorem ok_Ratio1 (T : Tx K mg) : FnR P w K mg base (L2.CX P w) 2 (He.ma K (He.ga K "Ratio") "__init__") (fun vs H Q E => spRat K (vs ++ [.int 1]) H Q E) := by
  obtain ⟨fd, F⟩ := T.d_Ratio_init
  exact EM.fnr_dfl 2 0 F sc_Ratio_init (by intro z; cases z) rfl (fun T kV doc pm an cdv ct us its h1 h2 => match us, h1, its, h2 with | [_, _], _, [_], _ => ⟨_, rfl, rfl⟩) len_rat (bod_rat T _)
end
end K40
namespace K40
open PySem PySem.Spec PyProof.Rows L2 EM
theorem binC_add {K : PySem.W.Frag} {mg : Str → Option Value} (T : Tx K mg) : BinC K (He.ga K "Ratio") "add" (He.ma K (He.ga K "Ratio") "__add__") (He.ma K (He.ga K "Ratio") "__radd__") := ⟨T.sf_Ratio, T.m_Ratio_add.at_, T.m_Ratio_add.fn, T.m_Ratio_radd.at_, T.m_Ratio_radd.fn, T.si_Ratio⟩
theorem binC_sub {K : PySem.W.Frag} {mg : Str → Option Value} (T : Tx K mg) : BinC K (He.ga K "Ratio") "sub" (He.ma K (He.ga K "Ratio") "__sub__") (He.ma K (He.ga K "Ratio") "__rsub__") := ⟨T.sf_Ratio, T.m_Ratio_sub.at_, T.m_Ratio_sub.fn, T.m_Ratio_rsub.at_, T.m_Ratio_rsub.fn, T.si_Ratio⟩
section
variable {P : Program} {w : World} {K : PySem.W.Frag} {mg : Str → Option Value} {base : Heap}
theorem ok_Ratio_is_number (T : Tx K mg) : FnR P w K mg base (L2.CX P w) 2 (He5.wf K (He.ga K "Ratio") "staticmethod" "is_number") (spIsNum K) := by
  obtain ⟨fd, F⟩ := T.d_Ratio_is_number
  refine EM.fnr F sc_Ratio_is_number (fun _ _ _ _ _ _ us hl => match us, hl with | [_], _ => rfl) (fun vs H Q E h => ?_) (fun cdv A outer s H vs Q E hr h => ?_)
  · obtain ⟨v, rfl, _⟩ := h
    rfl
  · obtain ⟨v, rfl, h⟩ := h
    refine ⟨_, (PSs.nox (pss_one (ps_ret (pe_or (pe_callB call_isi (by rfl) T.f_isinstance (by decide +kernel) (pa_cons (pv 0) (pa_cons (pe_glob (v := .ref (He.ga K "Ratio")) (by rfl) T.g_Ratio rfl) pa_nil))) (pe_one (EM.pe_cR (ok_is_integer_ratios T) (hr.mono (by decide)) T.k_is_integer_ratios T.g_is_integer_ratios passL (pa_cons (pv 0) pa_nil))))))), ?_⟩
    rcases h with ⟨⟨a, t, b, rfl, dx, hp⟩ | ⟨i, rfl⟩, q⟩ | ⟨⟨ty, b1, b2, tx, k1, k2, hb, kr⟩, q⟩
    · exact ⟨_, rfl, .ref a, .ref (He.ga K "Ratio"), _, _, true, rfl, .own _, isiB_ty T.isi_Ratio T.cl_Ratio hp, kSelf, true, rfl, iteT q⟩
    · exact ⟨_, rfl, .int i, .ref (He.ga K "Ratio"), .type "int", .ref (He.ga K "Ratio"), false, rfl, .own _, .base (.int i), T.kit_int_Ratio, false, rfl, iteF ⟨_, rfl, _, _, true, false, rfl, .base (.int i), kit_ty (by decide +kernel), kit_ty (by decide +kernel), q⟩⟩
    · refine ⟨_, rfl, v, .ref (He.ga K "Ratio"), ty, .ref (He.ga K "Ratio"), false, rfl, .own _, tx, kr, false, rfl, iteF ⟨_, rfl, _, _, b1, b2, rfl, tx, k1, k2, ?_⟩⟩
      rw [hb]
      exact q
theorem ok_Ratio_of (T : Tx K mg) : FnR P w K mg base (L2.CX P w) 4 (He5.wf K (He.ga K "Ratio") "staticmethod" "of") (spOfN K) := by
  obtain ⟨fd, F⟩ := T.d_Ratio_of
  refine EM.fnr F sc_Ratio_of (fun _ _ _ _ _ _ us hl => match us, hl with | [_], _ => rfl) (fun vs H Q E h => ?_) (fun cdv A outer s H vs Q E hr h => ?_)
  · obtain ⟨v, t, b, rfl, _⟩ := h
    rfl
  · obtain ⟨v, t, b, rfl, ⟨low, hv⟩, k⟩ := h
    refine ⟨_, (PSs.nox (pss_one (ps_ret (pe_ifExp (pt_val (pe_callB call_isi (by rfl) T.f_isinstance (by decide +kernel) (pa_cons (pv 0) (pa_cons (pe_glob (v := .ref (He.ga K "Ratio")) (by rfl) T.g_Ratio rfl) pa_nil)))) (pv 0) (EM.pe_mkR T.mk_Ratio (ok_Ratio1 T) (hr.mono (by decide)) T.g_Ratio passL (pa_cons (pv 0) pa_nil)))))), ?_⟩
    rcases hv with ⟨a, rfl, dx, hp⟩ | ⟨rfl, rfl⟩
    · exact ⟨_, rfl, .ref a, .ref (He.ga K "Ratio"), _, _, true, rfl, .own _, isiB_ty T.isi_Ratio T.cl_Ratio hp, kSelf, true, rfl, iteT ⟨_, rfl, k a H (Same.refl _) ⟨dx, hp⟩⟩⟩
    · refine ⟨_, rfl, .int t, .ref (He.ga K "Ratio"), .type "int", .ref (He.ga K "Ratio"), false, rfl, .own _, .base (.int t), T.kit_int_Ratio, false, rfl, iteF ⟨_, rfl, fun p dx np hdx ndx => ⟨p, dx, _, _, rfl, upd_same, by decide, by decide, fun H' k' rat => ⟨rfl, ?_⟩⟩⟩⟩
      obtain ⟨n1, n2⟩ := n_self (low_one t)
      rw [n1, n2] at rat
      exact k p H' (same_new k' np hdx) rat
theorem ok_Ratio_add (T : Tx K mg) : FnR P w K mg base (L2.CX P w) 5 (He.ma K (He.ga K "Ratio") "__add__") (spAdd K) := by
  obtain ⟨fd, F⟩ := T.d_Ratio_add
  refine EM.fnr F sc_Ratio_add (fun _ _ _ _ _ _ us hl => match us, hl with | [_, _], _ => rfl) (fun vs H Q E h => ?_) (fun cdv A outer s H vs Q E hr h => ?_)
  · obtain ⟨x, v, t, b, u, c, rfl, _⟩ := h
    rfl
  · obtain ⟨x, v, t, b, u, c, rfl, W, k⟩ := h
    have bc0 : b * c ≠ 0 := Int.mul_ne_zero (by have := W.low.pos; omega) (by have := W.num.1.pos; omega)
    have bcl : (b * c).natAbs.log2 < 9000 := Nat.lt_trans ((W.bb.mul W.bc).log (by decide)) (by decide)
    refine ⟨_, (PSs.nox (pss_cons (ps_if (pt_not (pt_val (EM.pe_smR (pe_glob (v := .ref (He.ga K "Ratio")) (by rfl) T.g_Ratio rfl) T.cr_Ratio T.sm_Ratio_is_number (ok_Ratio_is_number T) (hr.mono (by decide)) T.k_Ratio_is_number passL (pa_cons (pv 1) pa_nil))))
  (pss_one (ps_never)) pss_nil)
 (pss_cons (ps_set (i := 2) sc_Ratio_add.nd rfl (Or.inl rfl) (EM.pe_smR (pe_glob (v := .ref (He.ga K "Ratio")) (by rfl) T.g_Ratio rfl) T.cr_Ratio T.sm_Ratio_of (ok_Ratio_of T) (hr.mono (by decide)) T.k_Ratio_of passL (pa_cons (pv 1) pa_nil)))
 (pss_one (ps_ret (EM.pe_mkR T.mk_Ratio (ok_Ratio2 T) (hr.mono (by decide)) T.g_Ratio passL (pa_cons (pe_op op_add (pe_op op_mulW (pe_fld (pv 0) rfl) (pe_fld (pv 2) rfl)) (pe_op op_mulW (pe_fld (pv 2) rfl) (pe_fld (pv 0) rfl))) (pa_cons (pe_op op_mulW (pe_fld (pv 0) rfl) (pe_fld (pv 2) rfl)) pa_nil)))))))), ?_⟩
    obtain ⟨dx, hx⟩ := W.rat
    refine ⟨rfl, _, rfl, v, rfl, .inl ⟨W.num.kind, _, rfl, ifN rfl ?_⟩⟩
    refine ⟨rfl, _, rfl, v, u, c, rfl, W.num, fun r H1 s1 rr => ?_⟩
    have hx1 := s1 _ _ hx
    obtain ⟨dr, hr1⟩ := rr
    have k1 : RatRes K H1 Q (t * c + u * b) (b * c) := fun p H2 s2 np rat => k p H2 (s1.trans s2) (s1.free np) rat
    exact ⟨_, rfl, x, _, dx, _, _, rfl, hx1, T.cl_Ratio, T.na_Ratio_top, rfl, _, rfl, r, _, dr, _, _, rfl, hr1, T.cl_Ratio, T.na_Ratio_bottom, rfl, _, _, rfl, rfl, wideB W.bt W.bc,
      _, rfl, r, _, dr, _, _, rfl, hr1, T.cl_Ratio, T.na_Ratio_top, rfl, _, rfl, x, _, dx, _, _, rfl, hx1, T.cl_Ratio, T.na_Ratio_bottom, rfl, _, _, rfl, rfl, wideB W.bu W.bb, _, _, rfl, rfl,
      _, rfl, x, _, dx, _, _, rfl, hx1, T.cl_Ratio, T.na_Ratio_bottom, rfl, _, rfl, r, _, dr, _, _, rfl, hr1, T.cl_Ratio, T.na_Ratio_bottom, rfl, _, _, rfl, rfl, wideB W.bb W.bc, fun p dx hp hdx ndx => ⟨p, dx, _, _, rfl, upd_same, bc0, bcl, fun H' k' rat => ⟨rfl, k1 p H' (same_new k' hp hdx) hp rat⟩⟩⟩
theorem ok_Ratio_radd (T : Tx K mg) : FnR P w K mg base (L2.CX P w) 6 (He.ma K (He.ga K "Ratio") "__radd__") (spAdd K) := by
  obtain ⟨fd, F⟩ := T.d_Ratio_radd
  refine EM.fnr F sc_Ratio_radd (fun _ _ _ _ _ _ us hl => match us, hl with | [_, _], _ => rfl) (fun vs H Q E h => ?_) (fun cdv A outer s H vs Q E hr h => ?_)
  · obtain ⟨x, v, t, b, u, c, rfl, _⟩ := h
    rfl
  · obtain ⟨x, v, t, b, u, c, rfl, W, k⟩ := h
    have bc0 : b * c ≠ 0 := Int.mul_ne_zero (by have := W.low.pos; omega) (by have := W.num.1.pos; omega)
    have bcl : (b * c).natAbs.log2 < 9000 := Nat.lt_trans ((W.bb.mul W.bc).log (by decide)) (by decide)
    refine ⟨_, (PSs.nox (pss_one (ps_ret (pe_op (EM.op_binO (binC_add T) rfl rfl (ok_Ratio_add T) (hr.mono (by decide)) passL) (pv 0) (pv 1))))), ?_⟩
    obtain ⟨dx, hx⟩ := W.rat
    exact ⟨_, rfl, _, rfl, x, dx, _, rfl, hx, two_y W, x, v, t, b, u, c, rfl, ⟨⟨dx, hx⟩, W.low, W.num, W.bt, W.bb, W.bu, W.bc⟩, k⟩
theorem ok_Ratio_neg (T : Tx K mg) : FnR P w K mg base (L2.CX P w) 4 (He.ma K (He.ga K "Ratio") "__neg__") (spNeg K) := by
  obtain ⟨fd, F⟩ := T.d_Ratio_neg
  refine EM.fnr F sc_Ratio_neg (fun _ _ _ _ _ _ us hl => match us, hl with | [_], _ => rfl) (fun vs H Q E h => ?_) (fun cdv A outer s H vs Q E hr h => ?_)
  · obtain ⟨x, t, b, rfl, _⟩ := h
    rfl
  · obtain ⟨x, t, b, rfl, ⟨dx, hx⟩, low, lb, k⟩ := h
    refine ⟨_, (PSs.nox (pss_one (ps_ret (EM.pe_mkR T.mk_Ratio (ok_Ratio2 T) (hr.mono (by decide)) T.g_Ratio passL (pa_cons (pe_un un_neg (pe_fld (pv 0) rfl)) (pa_cons (pe_fld (pv 0) rfl) pa_nil)))))), ?_⟩
    have lw : Low (-t) b := low_neg low
    refine ⟨_, rfl, x, _, dx, _, _, rfl, hx, T.cl_Ratio, T.na_Ratio_top, rfl, _, rfl, _, rfl, x, _, dx, _, _, rfl, hx, T.cl_Ratio, T.na_Ratio_bottom, rfl, fun p dx np hdx ndx => ⟨p, dx, _, _, rfl, upd_same, by have := low.pos; omega, lb, fun H' k' rat => ⟨rfl, ?_⟩⟩⟩
    obtain ⟨n1, n2⟩ := n_self lw
    rw [n1, n2] at rat
    exact k p H' (same_new k' np hdx) np rat
theorem ok_Ratio_sub (T : Tx K mg) : FnR P w K mg base (L2.CX P w) 6 (He.ma K (He.ga K "Ratio") "__sub__") (spSub K) := by
  obtain ⟨fd, F⟩ := T.d_Ratio_sub
  refine EM.fnr F sc_Ratio_sub (fun _ _ _ _ _ _ us hl => match us, hl with | [_, _], _ => rfl) (fun vs H Q E h => ?_) (fun cdv A outer s H vs Q E hr h => ?_)
  · obtain ⟨x, v, t, b, u, c, rfl, _⟩ := h
    rfl
  · obtain ⟨x, v, t, b, u, c, rfl, W, k⟩ := h
    have bc0 : b * c ≠ 0 := Int.mul_ne_zero (by have := W.low.pos; omega) (by have := W.num.1.pos; omega)
    have bcl : (b * c).natAbs.log2 < 9000 := Nat.lt_trans ((W.bb.mul W.bc).log (by decide)) (by decide)
    refine ⟨_, (PSs.nox (pss_cons (ps_if (pt_not (pt_val (EM.pe_smR (pe_glob (v := .ref (He.ga K "Ratio")) (by rfl) T.g_Ratio rfl) T.cr_Ratio T.sm_Ratio_is_number (ok_Ratio_is_number T) (hr.mono (by decide)) T.k_Ratio_is_number passL (pa_cons (pv 1) pa_nil))))
  (pss_one (ps_never)) pss_nil)
 (pss_one (ps_ret (pe_op (EM.op_binO (binC_add T) rfl rfl (ok_Ratio_add T) (hr.mono (by decide)) passL) (pv 0) (pe_un (EM.un_two un_neg (EM.un_negO T.m_Ratio_neg.at_ T.m_Ratio_neg.fn (ok_Ratio_neg T) (hr.mono (by decide)) passL)) (pv 1))))))), ?_⟩
    obtain ⟨dx, hx⟩ := W.rat
    refine ⟨rfl, _, rfl, v, rfl, .inl ⟨W.num.kind, _, rfl, ifN rfl ?_⟩⟩
    refine ⟨_, rfl, _, rfl, ?_⟩
    rcases W.num.2 with ⟨a, rfl, da, ha⟩ | ⟨rfl, rfl⟩
    · refine .inr ⟨a, da, _, rfl, ha, a, u, c, rfl, ⟨da, ha⟩, W.num.1, Nat.lt_trans (W.bc.log (by decide)) (by decide), fun p H1 s1 np rat => ?_⟩
      obtain ⟨dp, hp⟩ := rat
      exact ⟨x, dx, _, rfl, s1 _ _ hx, .inl ⟨p, dp, _, rfl, hp⟩, x, .ref p, t, b, -u, c, rfl, ⟨⟨dx, s1 _ _ hx⟩, W.low, Num.rat ⟨dp, hp⟩ (low_neg W.num.1), W.bt, W.bb, W.bu.neg, W.bc⟩, fun q H2 s2 nq rat2 => k q H2 (s1.trans s2) (s1.free nq) rat2⟩
    · exact .inl ⟨u, rfl, x, dx, _, rfl, hx, .inr ⟨_, rfl⟩, x, .int (-u), t, b, -u, 1, rfl, ⟨⟨dx, hx⟩, W.low, Num.int _, W.bt, W.bb, W.bu.neg, W.bc⟩, k⟩
theorem ok_Ratio_rsub (T : Tx K mg) : FnR P w K mg base (L2.CX P w) 6 (He.ma K (He.ga K "Ratio") "__rsub__") (spRsub K) := by
  obtain ⟨fd, F⟩ := T.d_Ratio_rsub
  refine EM.fnr F sc_Ratio_rsub (fun _ _ _ _ _ _ us hl => match us, hl with | [_, _], _ => rfl) (fun vs H Q E h => ?_) (fun cdv A outer s H vs Q E hr h => ?_)
  · obtain ⟨x, v, t, b, u, c, rfl, _⟩ := h
    rfl
  · obtain ⟨x, v, t, b, u, c, rfl, W, k⟩ := h
    have bc0 : b * c ≠ 0 := Int.mul_ne_zero (by have := W.low.pos; omega) (by have := W.num.1.pos; omega)
    have bcl : (b * c).natAbs.log2 < 9000 := Nat.lt_trans ((W.bb.mul W.bc).log (by decide)) (by decide)
    refine ⟨_, (PSs.nox (pss_one (ps_ret (pe_op (EM.op_binO (binC_add T) rfl rfl (ok_Ratio_add T) (hr.mono (by decide)) passL) (pe_un (EM.un_negO T.m_Ratio_neg.at_ T.m_Ratio_neg.fn (ok_Ratio_neg T) (hr.mono (by decide)) passL) (pv 0)) (pv 1))))), ?_⟩
    obtain ⟨dx, hx⟩ := W.rat
    refine ⟨_, rfl, x, dx, _, rfl, hx, x, t, b, rfl, ⟨dx, hx⟩, W.low, Nat.lt_trans (W.bb.log (by decide)) (by decide), fun p H1 s1 np rat => ?_⟩
    obtain ⟨dp, hp⟩ := rat
    have W1 : Two K H1 2000 p v (-t) b u c := ⟨⟨dp, hp⟩, low_neg W.low, W.num.same s1, W.bt.neg, W.bb, W.bu, W.bc⟩
    exact ⟨_, rfl, p, dp, _, rfl, hp, two_y W1, p, v, -t, b, u, c, rfl, W1, fun q H2 s2 nq rat2 => k q H2 (s1.trans s2) (s1.free nq) rat2⟩
end
end K40
namespace K40
open PySem PySem.Spec PyProof.Rows L2 EM
section
variable {X : Cx}
theorem op_addN (T : Tx X.K X.mg) (hr : Room 6 X.A) : OpR X (binaryOp .Add) (rNumN X.K (fun t b u c => t * c + u * b) (fun _ b _ c => b * c)) :=
  op_numN (E := E0) (E' := E0) (op_binO (binC_add T) rfl rfl (ok_Ratio_add T) (hr.mono (by decide)) passL)
    (op_binR (binC_add T) rfl rfl (by decide +kernel) T.is_Ratio PySem.W.decl_add (ok_Ratio_radd T) hr passL)
    (fun a y t b u c H Q W k => ⟨a, y, t, b, u, c, rfl, W, k⟩)
    (fun a t u c H Q W k => ⟨a, .int t, u, c, t, 1, rfl, W, k.to (by rw [Int.add_comm]) (Int.mul_comm ..)⟩)
theorem op_subN (T : Tx X.K X.mg) (hr : Room 6 X.A) : OpR X (binaryOp .Sub) (rNumN X.K (fun t b u c => t * c + -u * b) (fun _ b _ c => b * c)) :=
  op_numN (E := E0) (E' := E0) (op_binO (binC_sub T) rfl rfl (ok_Ratio_sub T) (hr.mono (by decide)) passL)
    (op_binR (binC_sub T) rfl rfl (by decide +kernel) T.is_Ratio PySem.W.decl_sub (ok_Ratio_rsub T) hr passL)
    (fun a y t b u c H Q W k => ⟨a, y, t, b, u, c, rfl, W, k⟩)
    (fun a t u c H Q W k => ⟨a, .int t, u, c, t, 1, rfl, W, k.to (by rw [Int.add_comm]) (Int.mul_comm ..)⟩)
theorem un_negN (T : Tx X.K X.mg) (hr : Room 5 X.A) : UnR X (unaryOp .USub) (Su (rNegN X.K (fun t => -t))) :=
  un_sw (unR_of (EM.un_negO (E := E0) T.m_Ratio_neg.at_ T.m_Ratio_neg.fn (ok_Ratio_neg T) (hr.mono (by decide)) passL) fun x H Q ⟨a, t, b, e, ⟨dx, ra⟩, lo, lb, k⟩ => ⟨a, dx, _, e, ra, e ▸ ⟨a, t, b, rfl, ⟨dx, ra⟩, lo, Nat.lt_trans (lb.log (by decide)) (by decide), k⟩⟩)
theorem pe_mkN (T : Tx X.K X.mg) (hr : Room 3 X.A) {e1 : Expr} {es : List Expr} {ta : TA} {p pos : Pos} (ha : PA X (e1 :: es) ta) (hg : Gl X "Ratio" := by rfl) (he : starEach (e1 :: es) X.env = (false, eval e1 X.env) :: starEach es X.env := by rfl) (hpl : (backTo pos (starEach es X.env)).any (·.1) = false := by rfl) :
    PE X (.Call (.Name "Ratio" p) (e1 :: es) [] pos) (tCR (Sw (spMkN X.K)) E0 ta) :=
  (EM.pe_mkR (E := E0) T.mk_Ratio (ok_Ratio2 T) hr T.g_Ratio passL ha.mc hg (by decide) he hpl).of fun σ H Q q => ⟨_, q, fun vs H1 ⟨⟨t, b, e, b0, lb, k⟩⟩ x dx hx hdx ndx => by
    subst e
    exact mk_Rat b0 lb k x dx hx hdx ndx⟩
theorem op_addN_ {K : PySem.W.Frag} {mg : Str → Option Value} (T : Tx K mg) (hr : Room 6 X.A) (e1 : X.K = K := by rfl) (e2 : X.mg = mg := by rfl) : OpR X (binaryOp .Add) (rNumN K (fun t b u c => t * c + u * b) (fun _ b _ c => b * c)) := by
  subst e1 e2
  exact op_addN T hr
theorem op_subN_ {K : PySem.W.Frag} {mg : Str → Option Value} (T : Tx K mg) (hr : Room 6 X.A) (e1 : X.K = K := by rfl) (e2 : X.mg = mg := by rfl) : OpR X (binaryOp .Sub) (rNumN K (fun t b u c => t * c + -u * b) (fun _ b _ c => b * c)) := by
  subst e1 e2
  exact op_subN T hr
theorem un_negN_ {K : PySem.W.Frag} {mg : Str → Option Value} (T : Tx K mg) (hr : Room 5 X.A) (e1 : X.K = K := by rfl) (e2 : X.mg = mg := by rfl) : UnR X (unaryOp .USub) (Su (rNegN K (fun t => -t))) := by
  subst e1 e2
  exact un_negN T hr
theorem pe_mkN_ {K : PySem.W.Frag} {mg : Str → Option Value} (T : Tx K mg) (hr : Room 3 X.A) {e1 : Expr} {es : List Expr} {ta : TA} {p pos : Pos} (ha : PA X (e1 :: es) ta) (hg : Gl X "Ratio" := by rfl) (he : starEach (e1 :: es) X.env = (false, eval e1 X.env) :: starEach es X.env := by rfl) (hpl : (backTo pos (starEach es X.env)).any (·.1) = false := by rfl) (eK : X.K = K := by rfl) (eM : X.mg = mg := by rfl) :
    PE X (.Call (.Name "Ratio" p) (e1 :: es) [] pos) (tCR (Sw (spMkN K)) E0 ta) := by
  subst eK eM
  exact pe_mkN T hr ha hg he hpl
end
end K40
namespace K40
open PySem PySem.Spec PyProof.Rows L2 EM
local macro_rules | `(tactic| sizeOf_list_dec) => `(tactic| first
  | with_reducible assumption
  | ((with_reducible apply EM.At.ext); (focus (with_reducible assumption)); (focus sizeOf_list_dec))
  | ((with_reducible apply EM.RatP.ext); (focus (with_reducible assumption)); (focus sizeOf_list_dec))
  | ((with_reducible apply EM.NumP.ext); (focus (with_reducible assumption)); (focus sizeOf_list_dec))
  | (with_reducible exact EM.Ext.refl)
  | ((with_reducible apply EM.Ext.back); (focus (with_reducible assumption)); (focus sizeOf_list_dec))
  | exact EM.NumP.int _
  | ((with_reducible apply EM.Mu.at_k); (focus (with_reducible assumption)); (focus sizeOf_list_dec); (focus sizeOf_list_dec); (focus (intro _ z; cases z; done)))
  | ((with_reducible apply EM.Mu.at_n); (focus (with_reducible assumption)); (focus sizeOf_list_dec); (focus (first | with_reducible assumption | ((apply EM.nn1); (focus (with_reducible assumption)); (focus sizeOf_list_dec)) | ((apply EM.nn2); (focus (with_reducible assumption)); (focus sizeOf_list_dec)))))
  | ((with_reducible apply EM.Mu.here); (focus (with_reducible assumption)); (focus sizeOf_list_dec))
  | ((with_reducible apply EM.Mu.rat); (focus (with_reducible assumption)); (focus sizeOf_list_dec); (focus sizeOf_list_dec))
  | ((with_reducible apply EM.Mu.num); (focus (with_reducible assumption)); (focus sizeOf_list_dec); (focus sizeOf_list_dec))
  | ((with_reducible apply EM.num_of_rat); (focus sizeOf_list_dec); (focus (first | with_reducible assumption | (apply EM.n_low; assumption))))
  | ((with_reducible apply EM.SeqV.xt); (focus (with_reducible assumption)); (focus sizeOf_list_dec))
  | ((with_reducible apply EM.ItsI.xt); (focus (with_reducible assumption)); (focus sizeOf_list_dec))
  | ((with_reducible apply EM.RatsP.xt); (focus (with_reducible assumption)); (focus sizeOf_list_dec))
  | ((with_reducible apply EM.PairsP.xt); (focus (with_reducible assumption)); (focus sizeOf_list_dec)))
local macro_rules | `(tactic| decreasing_trivial_pre_omega) => `(tactic| first
  | with_reducible assumption
  | exact EM.Bt.mono (by with_reducible assumption) (by decide)
  | exact EM.Bt.lit _ _ (by decide +kernel)
  | ((with_reducible refine EM.Bt.rng32 ?_ ?_) <;> omega)
  | ((with_reducible refine EM.Bt.rng70 ?_ ?_) <;> omega)
  | ((with_reducible refine EM.Bt.rng200 ?_ ?_) <;> omega)
  | ((with_reducible apply EM.Bt.mulM); (focus decreasing_trivial_pre_omega); (focus decreasing_trivial_pre_omega); (focus (first | decide | exact Nat.le_refl _)))
  | ((with_reducible apply EM.Bt.addM); (focus decreasing_trivial_pre_omega); (focus decreasing_trivial_pre_omega); (focus (first | decide | exact Nat.le_refl _)))
  | ((with_reducible apply EM.Bt.subM); (focus decreasing_trivial_pre_omega); (focus decreasing_trivial_pre_omega); (focus (first | decide | exact Nat.le_refl _)))
  | ((with_reducible apply EM.Bt.topL); (focus decreasing_trivial_pre_omega); (focus assumption); (focus (first | decide | exact Nat.le_refl _)))
  | ((with_reducible apply EM.Bt.botL); (focus decreasing_trivial_pre_omega); (focus assumption); (focus (first | decide | exact Nat.le_refl _)))
  | ((with_reducible apply EM.Bt.divM); (focus decreasing_trivial_pre_omega); (focus assumption); (focus (first | decide | exact Nat.le_refl _)))
  | ((with_reducible apply EM.Bt.negM); (focus decreasing_trivial_pre_omega); (focus (first | decide | exact Nat.le_refl _))))
local macro_rules | `(tactic| array_get_dec) => `(tactic| first
  | with_reducible assumption
  | ((with_reducible refine EM.gEq ?_); exact rfl)
  | ((with_reducible refine EM.gTru ?_); exact rfl)
  | ((with_reducible refine EM.gRef ?_); first | exact Or.inl ⟨_, rfl⟩ | exact Or.inr ⟨_, rfl⟩)
  | ((with_reducible apply EM.At.get); sizeOf_list_dec)
  | ((with_reducible apply EM.At.sqL); sizeOf_list_dec)
  | ((with_reducible apply EM.At.sqT); sizeOf_list_dec)
  | ((with_reducible apply EM.RatP.getK); (focus sizeOf_list_dec); (focus (exact rfl)))
  | (with_reducible exact EM.Num.int _)
  | ((with_reducible apply EM.NumP.getK); (focus sizeOf_list_dec); (focus (exact rfl)))
  | ((with_reducible apply EM.At.ext); (focus (with_reducible assumption)); (focus sizeOf_list_dec))
  | ((with_reducible apply EM.RatP.ext); (focus (with_reducible assumption)); (focus sizeOf_list_dec))
  | ((with_reducible apply EM.NumP.ext); (focus (with_reducible assumption)); (focus sizeOf_list_dec))
  | with_reducible exact Tx.cl_Ratio (by assumption)
  | with_reducible exact Tx.cl_Duel (by assumption)
  | with_reducible exact Tx.na_Ratio_top (by assumption)
  | with_reducible exact Tx.na_Ratio_bottom (by assumption)
  | with_reducible exact Tx.na_Duel_weights (by assumption)
  | with_reducible exact Tx.na_Duel_level (by assumption)
  | ((with_reducible refine EM.gAt ?_); sizeOf_list_dec)
  | ((with_reducible refine EM.gRat ?_); sizeOf_list_dec)
  | ((with_reducible refine EM.gNum ?_); sizeOf_list_dec)
  | ((with_reducible apply EM.TwoP.mk); (focus (with_reducible assumption)); (focus sizeOf_list_dec); (focus (first | with_reducible assumption | (apply EM.n_low; assumption))); (focus sizeOf_list_dec); (focus decreasing_trivial_pre_omega); (focus decreasing_trivial_pre_omega); (focus decreasing_trivial_pre_omega); (focus decreasing_trivial_pre_omega))
  | (with_reducible exact EM.Ext.refl)
  | ((with_reducible apply EM.Ext.back); (focus (with_reducible assumption)); (focus sizeOf_list_dec))
  | ((with_reducible apply EM.Bs.mono); (focus (with_reducible assumption)); omega)
  | ((with_reducible refine EM.gN ?_); first | decide | omega | exact Nat.le_of_ble_eq_true rfl | (simp only [List.length_cons, List.length_nil, List.length_append]; omega))
  | ((with_reducible refine EM.gM ?_); first | decide | omega | exact Nat.le_of_ble_eq_true rfl)
  | ((with_reducible refine EM.gI ?_); first | decide | omega)
  | ((with_reducible refine EM.gJ ?_); first | decide | omega)
  | ((with_reducible refine EM.gE ?_); first | decide | omega)
  | ((with_reducible refine EM.gB ?_); decreasing_trivial_pre_omega)
  | ((with_reducible apply EM.wideM); (focus decreasing_trivial_pre_omega); (focus decreasing_trivial_pre_omega); (focus decide)))
local macro_rules | `(tactic| infer_instance) => `(tactic| first
  | with_reducible assumption
  | exact DpAll.nil
  | (apply DpAll.cons; (focus infer_instance); (focus infer_instance))
  | with_reducible exact Dp.int _
  | exact Dp.int _
  | with_reducible exact Dp.str _
  | exact Dp.bl _
  | exact Dp.non
  | ((with_reducible apply EM.dp_lst); (focus array_get_dec); (focus infer_instance))
  | ((with_reducible apply EM.dp_tup); (focus array_get_dec); (focus infer_instance))
  | exact EM.dp_ints _)
local macro_rules | `(tactic| nofun) => `(tactic| first
  | with_reducible assumption
  | exact EM.FeL.nil
  | exact EM.FdL.nil
  | (apply EM.FeL.cons; (focus nofun); (focus nofun))
  | (apply EM.FdL.cons; (focus nofun); (focus nofun))
  | exact EM.Fe.int _
  | exact EM.Fe.bool _
  | exact EM.Fe.non
  | exact EM.Fe.str (EM.okS_of _)
  | (apply EM.Fe.str; apply EM.Fd.ok; (focus nofun))
  | (apply EM.Fe.list; (focus nofun))
  | (apply EM.Fe.tup; (focus nofun))
  | (apply EM.Fd.int; (focus decreasing_trivial_pre_omega))
  | exact EM.Fd.bool _
  | exact EM.Fd.non
  | (refine EM.Fd.bool _)
  | (apply EM.Fd.list; (focus nofun))
  | (apply EM.Fd.tup; (focus nofun)))
local macro_rules | `(tactic| array_mem_dec) => `(tactic| ((with_reducible refine EM.pr ?_); first
  | (with_reducible refine L2.iteT ?_)
  | (with_reducible refine L2.iteF ?_)
  | (with_reducible refine EM.ifNotT ?_)
  | (with_reducible refine EM.ifNotF ?_)
  | ((fail_if_success (with_reducible refine EM.gIf ?_)); first
  | array_get_dec
  | (refine EM.mk_low (by with_reducible assumption) (by with_reducible assumption) ?_ ?_; (focus array_get_dec))
  | (apply EM.isNum_sw; (focus sizeOf_list_dec))
  | (apply EM.of_sw; (focus (with_reducible assumption)); (focus sizeOf_list_dec))
  | (apply EM.neg_bs; (focus (with_reducible assumption)); (focus sizeOf_list_dec); (focus array_get_dec); (focus array_get_dec))
  | (apply EM.relw_bs; (focus (with_reducible assumption)); (focus sizeOf_list_dec); (focus sizeOf_list_dec); (focus array_get_dec); (focus decreasing_trivial_pre_omega); (focus decreasing_trivial_pre_omega); (focus decreasing_trivial_pre_omega); (focus decreasing_trivial_pre_omega))
  | ((with_reducible refine EM.New.bs (by with_reducible assumption) ?_ ?_); (focus (intro _ z; cases z; done)))
  | ((with_reducible refine EM.gMu ?_); (with_reducible apply EM.mu_bs); (focus (with_reducible assumption)); (focus sizeOf_list_dec); (focus (apply EM.nel2; (focus (with_reducible assumption)); (focus (with_reducible assumption)))); intro _ _ _)
  | intro _
  | (apply And.intro; (focus array_get_dec))
  | apply Exists.intro
  | (refine EM.draw_bs (by with_reducible assumption) ?_ ?_ ?_ ?_; (focus array_get_dec); (focus array_get_dec); (focus (first | decide | omega)))
  | (apply EM.pick_bs; (focus (with_reducible assumption)); (focus array_get_dec); (focus sizeOf_list_dec); (focus (exact Nat.le_of_ble_eq_true rfl)); (focus (exact Nat.le_of_ble_eq_true rfl)))
  | ((apply EM.repr_sw); (focus infer_instance); (focus nofun); (focus decide))
  | ((apply EM.eqd_same); (focus infer_instance); (focus infer_instance); (focus nofun); (focus decide))
  | ((apply EM.ned_same); (focus infer_instance); (focus infer_instance); (focus nofun); (focus decide))
  | ((apply EM.eqd_sw); (focus infer_instance); (focus infer_instance); (focus nofun); (focus nofun); (focus decide))
  | ((apply EM.ned_sw); (focus infer_instance); (focus infer_instance); (focus nofun); (focus nofun); (focus decide))
  | (refine EM.cut_bs (by with_reducible assumption) ?_ ?_ ?_; (focus array_get_dec); (focus array_get_dec)))))
section
variable {P : Program} {w : World} {K : PySem.W.Frag} {mg : Str → Option Value} {base : Heap}
theorem ok_Ratio_eq (T : Tx K mg) : FnR P w K mg base (L2.CX P w) 7 (He.ma K (He.ga K "Ratio") "__eq__") (spEqXW K) := by
  obtain ⟨fd, F⟩ := T.d_Ratio_eq
  refine EM.fnr F sc_Ratio_eq (fun _ _ _ _ _ _ us hl => match us, hl with | [_, _], _ => rfl) (fun vs H Q E h => ?_) (fun cdv A outer s H vs Q E hr h => ?_)
  · rcases h with ⟨T0, p, l, n, x, v, t, b, u, c, rfl, _⟩ | ⟨x, v, rfl, _⟩ <;> rfl
  · rcases h with ⟨T0, p, l, n, x, v, t, b, u, c, rfl, ⟨B0, rx, lo, ny, bt, bb, bu, bc⟩, k⟩ | ⟨x, v, rfl, nn, k⟩
    · skip
      refine ⟨_, (PSs.nox (pss_one (ps_ret (pe_and (EM.pe_smR (pe_glob (v := .ref (He.ga K "Ratio")) (by rfl) T.g_Ratio rfl) T.cr_Ratio T.sm_Ratio_is_number ((ok_Ratio_is_number T).sw) (hr.mono (by decide)) T.k_Ratio_is_number passL (pa_cons (pv 1) pa_nil)) (pe_one (pe_cmpR op_eq (EM.pe_topN (pe_op (op_subN_ T (hr.mono (by decide))) (pv 0) (pv 1)) T.cl_Ratio T.na_Ratio_top rfl) pe_int (nomark _))))))), ?_⟩
      repeat' array_mem_dec
      refine Rw.bs (x := t * c + -u * b) (y := b * c) B0 fun a H1 x1 B1 r1 => ?_
      repeat' array_mem_dec
      exact k _ x1 B1
    · refine ⟨_, (PSs.nox (pss_one (ps_ret (pe_and (EM.pe_smR (pe_glob (v := .ref (He.ga K "Ratio")) (by rfl) T.g_Ratio rfl) T.cr_Ratio T.sm_Ratio_is_number ((ok_Ratio_is_number T).sw) (hr.mono (by decide)) T.k_Ratio_is_number passL (pa_cons (pv 1) pa_nil)) (pe_one (pe_cmpR op_eq (EM.pe_topN (pe_op (op_subN_ T (hr.mono (by decide))) (pv 0) (pv 1)) T.cl_Ratio T.na_Ratio_top rfl) pe_int (nomark _))))))), ?_⟩
      repeat' array_mem_dec
      refine ⟨⟨v, rfl, .inr ⟨nn, ?_⟩⟩⟩
      repeat' array_mem_dec
theorem op_rEq (T : Tx K mg) {X : Cx} (hr : Room 8 X.A) (e1 : X.K = K := by rfl) (e2 : X.mg = mg := by rfl) : OpR X (compareOp .Eq) (RelW K .Eq) := by
  subst e1 e2
  exact op_relEW T.m_Ratio_eq.at_ T.m_Ratio_eq.fn T.ap_Ratio (ok_Ratio_eq T).sw (hr.mono (by decide))
theorem op_tEq (T : Tx K mg) {X : Cx} (hr : Room 8 X.A) (e1 : X.K = K := by rfl) (e2 : X.mg = mg := by rfl) : OpR X (compareOp .Eq) (EqT K) := by
  subst e1 e2
  exact op_eqT T.m_Ratio_eq.at_ T.m_Ratio_eq.fn (ok_Ratio_eq T).sw hr
end
end K40
namespace K40
open PySem PySem.Spec PyProof.Rows L2 EM
section
variable {P : Program} {w : World} {K : PySem.W.Frag} {mg : Str → Option Value} {base : Heap}
theorem mk_BadWeights (T : Tx K mg) : ∃ fd, FnOk P w K mg base (L2.CX P w) 1 (He.ma K (He.ga K "BadWeights") "__init__") fd ["self", "part"] (spX1 (He.ga K "BadWeights") "part") ∧ Binds K fd ["self", "part"] [] := by
  obtain ⟨fd, F⟩ := T.d_BadWeights_init
  refine ⟨fd, FunD.ok (CX := L2.CX P w) F sc_BadWeights_init (fun vs H Q E h => ?_) (fun cdv A outer s H vs Q E hr h => ?_), F.bindsN (fun _ _ _ _ _ _ us hl => match us, hl with | [_, _], _ => rfl)⟩
  · obtain ⟨a, v, rfl, _⟩ := h
    rfl
  · obtain ⟨a, v, rfl, ha, k⟩ := h
    refine ⟨_, (PSs.nox (pss_one (ps_ost (pv 0) (pv 1)))), ?_⟩
    exact ⟨_, rfl, _, rfl, a, He.ga K "BadWeights", rfl, T.ox_BadWeights, T.na_BadWeights_part, .inl ⟨ha, fun dx hdx hda => k dx hdx hda⟩⟩
end
end K40
namespace K40
open PySem PySem.Spec PyProof.Rows L2 EM

instance (n : Nat) : Decidable (okLen n) := inferInstanceAs (Decidable (_ ∧ _ ∧ _))
/-- what is wrong with weights, of the right number -/
def badW (os : List (Option Int)) : Option V := match fstN os with
  | some i => some (.int (i : Nat))
  | none => if (intsO os).sum ≠ 0 then some (.str "sum") else if (intsO os).all (fun w => decide (w = 0)) then some (.str "zero") else none
/-- what is wrong with weights and a level -/
def badD (os : List (Option Int)) (lv : Bool) : Option V := if okLen os.length then (match badW os with
  | some v => some v
  | none => if lv then none else some (.str "level")) else some .non
theorem badW_ints {os : List (Option Int)} (h : badW os = none) : os = (intsO os).map some := by
  have f : fstN os = none := by
    unfold badW at h
    split at h
    · cases h
    · assumption
  clear h
  induction os with
  | nil => rfl
  | cons o r ih =>
    cases o with
    | none => cases f
    | some w =>
      have f2 : fstN r = none := by
        have f3 : (fstN r).map (· + 1) = none := f
        cases e : fstN r with
        | none => rfl
        | some i => rw [e] at f3; cases f3
      show some w :: r = some w :: (intsO r).map some
      rw [← ih f2]
structure DuelP (K : PySem.W.Frag) (p : Addr) (H : Hp) (d : Addr) (ws : List Int) (e : Int × Int) : Prop where
  h : ∃ dx q a, At p H d (.ins (He.ga K "Duel") dx [("weights", .ref q), ("level", .ref a)]) ∧ At p H q (.tup (ws.map V.int)) ∧ RatP K p H a e.1 e.2 ∧ Low e.1 e.2
theorem DuelP.ext {K : PySem.W.Frag} {p : Addr} {H H' : Hp} {d : Addr} {ws : List Int} {e : Int × Int} (h : DuelP K p H d ws e) (x : Ext p H H') : DuelP K p H' d ws e := by
  obtain ⟨dx, q, a, h1, h2, h3, h4⟩ := h
  exact ⟨dx, q, a, h1.ext x, h2.ext x, h3.ext x, h4⟩
theorem DuelP.xt {K : PySem.W.Frag} {p : Addr} {H H' : Hp} {d : Addr} {ws : List Int} {e : Int × Int} (x : Ext p H H') (h : DuelP K p H d ws e) : DuelP K p H' d ws e := h.ext x
def spNeedW (K : PySem.W.Frag) : Sp := fun vs H Q E => ∃ (T : List (Addr × Str)) (p l a : Addr) (n : Nat) (xs : List V) (os : List (Option Int)), vs = [.ref a, .int (os.length : Nat)] ∧ Bs T p l n H ∧ SeqV p H a xs ∧ ItsI K p H xs os ∧ os.length ≤ 1000 ∧
  (∀ v, badW os = some v → ErrOut K T p l n H E "BadWeights" "part" v) ∧ (badW os = none → ∀ H', Ext p H H' → Bs T p l n H' → Q .non H')
/-- neither a list nor a tuple -/
def NotSq (K : PySem.W.Frag) (p : Addr) (H : Hp) (v : V) : Prop := v = .non ∨ (∃ i, v = .int i) ∨ (∃ s, v = .str s) ∨ (∃ b, v = .bl b) ∨ (∃ a kv, v = .ref a ∧ At p H a (.dK kv)) ∨ (∃ a t b, v = .ref a ∧ RatP K p H a t b) ∨ (∃ a ws e, v = .ref a ∧ DuelP K p H a ws e)
theorem NotSq.ext {K : PySem.W.Frag} {p : Addr} {H H' : Hp} {v : V} (h : NotSq K p H v) (x : Ext p H H') : NotSq K p H' v := by
  rcases h with h | h | h | h | ⟨a, kv, e, h⟩ | ⟨a, t, b, e, h⟩ | ⟨a, ws, f, e, h⟩
  · exact .inl h
  · exact .inr (.inl h)
  · exact .inr (.inr (.inl h))
  · exact .inr (.inr (.inr (.inl h)))
  · exact .inr (.inr (.inr (.inr (.inl ⟨a, kv, e, h.ext x⟩))))
  · exact .inr (.inr (.inr (.inr (.inr (.inl ⟨a, t, b, e, h.ext x⟩)))))
  · exact .inr (.inr (.inr (.inr (.inr (.inr ⟨a, ws, f, e, h.ext x⟩)))))
theorem NotSq.t {K : PySem.W.Frag} {mg : Str → Option Value} (T : Tx K mg) {p : Addr} {H : Hp} {v : V} (h : NotSq K p H v) : NotSeqT K H v := by
  rcases h with rfl | ⟨i, rfl⟩ | ⟨s, rfl⟩ | ⟨b, rfl⟩ | ⟨a, kv, rfl, h⟩ | ⟨a, t, b, rfl, ⟨dx, h⟩, n⟩ | ⟨a, ws, e, rfl, dx, q, c, h, _⟩
  · exact nsq_ty (.base .non) (by simp)
  · exact nsq_ty (.base (.int i)) (by simp)
  · exact nsq_ty (.base (.str s)) (by simp)
  · exact nsq_ty (.base (.bl b)) (by simp)
  · exact nsq_ty (.base (.dK h.at_)) (by simp)
  · exact ⟨_, isiB_ty T.isi_Ratio T.cl_Ratio h, kitAny_cons (b := false) T.kit_Ratio_list (fun _ => kitAny_cons (b := false) T.kit_Ratio_tuple (fun _ => rfl) (fun z => nomatch z)) (fun z => nomatch z)⟩
  · exact ⟨_, isiB_ty T.isi_Duel T.cl_Duel h.at_, kitAny_cons (b := false) T.kit_Duel_list (fun _ => kitAny_cons (b := false) T.kit_Duel_tuple (fun _ => rfl) (fun z => nomatch z)) (fun z => nomatch z)⟩
/-- what the making of a duel comes to -/
structure InD (K : PySem.W.Frag) (T : List (Addr × Str)) (p l : Addr) (n : Nat) (H : Hp) (E : XK) (wv lv : V) (told : List Int → Int × Int → Prop) : Prop where
  h : (NotSq K p H wv ∧ ErrOut K T p l n H E "BadWeights" "part" .non) ∨ ∃ (a : Addr) (xs : List V) (os : List (Option Int)), wv = .ref a ∧ SeqV p H a xs ∧ ItsI K p H xs os ∧ os.length ≤ 1000 ∧
    ((∃ t b, NumP K p H lv t b ∧ Bt 2000 t ∧ Bt 2000 b ∧ (∀ v, badD os true = some v → ErrOut K T p l n H E "BadWeights" "part" v) ∧ (badD os true = none → told (intsO os) (t, b))) ∨
     (OddN H p lv ∧ ∀ v, badD os false = some v → ErrOut K T p l n H E "BadWeights" "part" v))
theorem InD.ext {K : PySem.W.Frag} {T : List (Addr × Str)} {p l : Addr} {n : Nat} {H H1 : Hp} {E : XK} {wv lv : V} {t t' : List Int → Int × Int → Prop} (h : InD K T p l n H E wv lv t) (x : Ext p H H1) (w : ∀ ws e, t ws e → t' ws e) : InD K T p l n H1 E wv lv t' := by
  refine ⟨?_⟩
  rcases h.h with ⟨h1, h2⟩ | ⟨a, xs, os, e, h1, h2, h3, ⟨t, b, n1, b1, b2, g1, g2⟩ | ⟨o, g⟩⟩
  · exact .inl ⟨h1.ext x, h2.ext x⟩
  · exact .inr ⟨a, xs, os, e, h1.ext x, h2.ext x, h3, .inl ⟨t, b, n1.ext x, b1, b2, fun v z => (g1 v z).ext x, fun z => w _ _ (g2 z)⟩⟩
  · exact .inr ⟨a, xs, os, e, h1.ext x, h2.ext x, h3, .inr ⟨OddN.ext o x.k, fun v z => (g v z).ext x⟩⟩
def spInitD (K : PySem.W.Frag) : Sp := fun vs H Q E => ∃ (T : List (Addr × Str)) (p l x dx : Addr) (n : Nat) (wv lv : V), vs = [.ref x, wv, lv] ∧ Bs T p l n H ∧ H x = some (.ins (He.ga K "Duel") dx []) ∧
  InD K T p l n H E wv lv fun ws e => ∀ H', XtR p x H H' → Bs T p l n H' → DuelP K p H' x ws e → Q .non H'
/-- Duel(weights, level) -/
def spDuel (K : PySem.W.Frag) : Sp := fun vs H Q E => ∃ (T : List (Addr × Str)) (p l : Addr) (n : Nat) (wv lv : V), vs = [wv, lv] ∧ Bs T p l n H ∧
  InD K T p l n H E wv lv fun ws e => ∀ d H', Ext p H H' → Bs T p l n H' → DuelP K p H' d ws e → Fresh p H d → Q (.ref d) H'
theorem mk_Duel {K : PySem.W.Frag} {H : Hp} {Q : VK} {vs : List V} {E : XK} (h : spDuel K vs H Q E) : ∀ x dx, H x = none → H dx = none → dx ≠ x → spInitD K (V.ref x :: vs) (upd (upd H dx (.own x)) x (.ins (He.ga K "Duel") dx [])) (fun v H2 => v = .non ∧ Q (.ref x) H2) E := by
  intro x dx nx nd ne
  obtain ⟨T, p, l, n, wv, lv, rfl, B, h⟩ := h
  have s1 : Same H (upd H dx (.own x)) := same_upd nd
  have nx1 : upd H dx (.own x) x = none := by rw [upd_ne ne.symm]; exact nx
  have s2 : Same (upd H dx (.own x)) (upd (upd H dx (.own x)) x (.ins (He.ga K "Duel") dx [])) := same_upd nx1
  have s := s1.trans s2
  exact ⟨T, p, l, x, dx, n, wv, lv, rfl, B.same s, upd_same, h.ext (Ext.same s) fun ws e k H' y B' d => ⟨rfl, k x H' (XtR.toExt (Ext.same s) y nx) B' d (Fresh.none nx)⟩⟩
structure LevS (K : PySem.W.Frag) (vs : List V) (H : Hp) (Q : VK) : Prop where
  h : spDuel K vs H Q E0
theorem oddN_no {K : PySem.W.Frag} {mg : Str → Option Value} (T : Tx K mg) {H : Hp} {p : Addr} {v : V} (h : OddN H p v) : NoNum K H v := by
  obtain ⟨ty, b1, b2, h1, h2, h3, h4, h5⟩ := h.ty (K := K)
  refine ⟨_, b1, b2, h1, h2, h3, h4, ?_⟩
  simp only [List.mem_cons, List.not_mem_nil, or_false] at h5
  rcases h5 with rfl | rfl | rfl | rfl | rfl | rfl
  · exact T.kit_bool_Ratio
  · exact T.kit_NoneType_Ratio
  · exact T.kit_str_Ratio
  · exact T.kit_tuple_Ratio
  · exact T.kit_list_Ratio
  · exact T.kit_dict_Ratio
theorem oddM_int {K : PySem.W.Frag} {mg : Str → Option Value} (T : Tx K mg) {H : Hp} {p : Addr} {y : V} (h : OddM K p H y) : oddI K H y := by
  rcases h with h | ⟨a, t, b, rfl, ⟨dx, h⟩, n⟩
  · exact h.int
  · exact ⟨_, false, false, isiB_ty T.isi_Ratio T.cl_Ratio h, T.kit_Ratio_int, T.kit_Ratio_bool, rfl⟩
local macro_rules | `(tactic| sizeOf_list_dec) => `(tactic| first
  | with_reducible assumption
  | ((with_reducible apply EM.At.ext); (focus (with_reducible assumption)); (focus sizeOf_list_dec))
  | ((with_reducible apply EM.RatP.ext); (focus (with_reducible assumption)); (focus sizeOf_list_dec))
  | ((with_reducible apply EM.NumP.ext); (focus (with_reducible assumption)); (focus sizeOf_list_dec))
  | (with_reducible exact EM.Ext.refl)
  | ((with_reducible apply EM.Ext.back); (focus (with_reducible assumption)); (focus sizeOf_list_dec))
  | exact EM.NumP.int _
  | ((with_reducible apply EM.Mu.at_k); (focus (with_reducible assumption)); (focus sizeOf_list_dec); (focus sizeOf_list_dec); (focus (intro _ z; cases z; done)))
  | ((with_reducible apply EM.Mu.at_n); (focus (with_reducible assumption)); (focus sizeOf_list_dec); (focus (first | with_reducible assumption | ((apply EM.nn1); (focus (with_reducible assumption)); (focus sizeOf_list_dec)) | ((apply EM.nn2); (focus (with_reducible assumption)); (focus sizeOf_list_dec)))))
  | ((with_reducible apply EM.Mu.here); (focus (with_reducible assumption)); (focus sizeOf_list_dec))
  | ((with_reducible apply EM.Mu.rat); (focus (with_reducible assumption)); (focus sizeOf_list_dec); (focus sizeOf_list_dec))
  | ((with_reducible apply EM.Mu.num); (focus (with_reducible assumption)); (focus sizeOf_list_dec); (focus sizeOf_list_dec))
  | ((with_reducible apply EM.num_of_rat); (focus sizeOf_list_dec); (focus (first | with_reducible assumption | (apply EM.n_low; assumption))))
  | ((with_reducible apply EM.SeqV.xt); (focus (with_reducible assumption)); (focus sizeOf_list_dec))
  | ((with_reducible apply EM.ItsI.xt); (focus (with_reducible assumption)); (focus sizeOf_list_dec))
  | ((with_reducible apply EM.RatsP.xt); (focus (with_reducible assumption)); (focus sizeOf_list_dec))
  | ((with_reducible apply EM.PairsP.xt); (focus (with_reducible assumption)); (focus sizeOf_list_dec)))
local macro_rules | `(tactic| decreasing_trivial_pre_omega) => `(tactic| first
  | with_reducible assumption
  | exact EM.Bt.mono (by with_reducible assumption) (by decide)
  | exact EM.Bt.lit _ _ (by decide +kernel)
  | ((with_reducible refine EM.Bt.rng32 ?_ ?_) <;> omega)
  | ((with_reducible refine EM.Bt.rng70 ?_ ?_) <;> omega)
  | ((with_reducible refine EM.Bt.rng200 ?_ ?_) <;> omega)
  | ((with_reducible apply EM.Bt.mulM); (focus decreasing_trivial_pre_omega); (focus decreasing_trivial_pre_omega); (focus (first | decide | exact Nat.le_refl _)))
  | ((with_reducible apply EM.Bt.addM); (focus decreasing_trivial_pre_omega); (focus decreasing_trivial_pre_omega); (focus (first | decide | exact Nat.le_refl _)))
  | ((with_reducible apply EM.Bt.subM); (focus decreasing_trivial_pre_omega); (focus decreasing_trivial_pre_omega); (focus (first | decide | exact Nat.le_refl _)))
  | ((with_reducible apply EM.Bt.topL); (focus decreasing_trivial_pre_omega); (focus assumption); (focus (first | decide | exact Nat.le_refl _)))
  | ((with_reducible apply EM.Bt.botL); (focus decreasing_trivial_pre_omega); (focus assumption); (focus (first | decide | exact Nat.le_refl _)))
  | ((with_reducible apply EM.Bt.divM); (focus decreasing_trivial_pre_omega); (focus assumption); (focus (first | decide | exact Nat.le_refl _)))
  | ((with_reducible apply EM.Bt.negM); (focus decreasing_trivial_pre_omega); (focus (first | decide | exact Nat.le_refl _))))
local macro_rules | `(tactic| array_get_dec) => `(tactic| first
  | with_reducible assumption
  | ((with_reducible refine EM.gEq ?_); exact rfl)
  | ((with_reducible refine EM.gTru ?_); exact rfl)
  | ((with_reducible refine EM.gRef ?_); first | exact Or.inl ⟨_, rfl⟩ | exact Or.inr ⟨_, rfl⟩)
  | ((with_reducible apply EM.At.get); sizeOf_list_dec)
  | ((with_reducible apply EM.At.sqL); sizeOf_list_dec)
  | ((with_reducible apply EM.At.sqT); sizeOf_list_dec)
  | ((with_reducible apply EM.RatP.getK); (focus sizeOf_list_dec); (focus (exact rfl)))
  | (with_reducible exact EM.Num.int _)
  | ((with_reducible apply EM.NumP.getK); (focus sizeOf_list_dec); (focus (exact rfl)))
  | ((with_reducible apply EM.At.ext); (focus (with_reducible assumption)); (focus sizeOf_list_dec))
  | ((with_reducible apply EM.RatP.ext); (focus (with_reducible assumption)); (focus sizeOf_list_dec))
  | ((with_reducible apply EM.NumP.ext); (focus (with_reducible assumption)); (focus sizeOf_list_dec))
  | with_reducible exact Tx.cl_Ratio (by assumption)
  | with_reducible exact Tx.cl_Duel (by assumption)
  | with_reducible exact Tx.na_Ratio_top (by assumption)
  | with_reducible exact Tx.na_Ratio_bottom (by assumption)
  | with_reducible exact Tx.na_Duel_weights (by assumption)
  | with_reducible exact Tx.na_Duel_level (by assumption)
  | ((with_reducible refine EM.gAt ?_); sizeOf_list_dec)
  | ((with_reducible refine EM.gRat ?_); sizeOf_list_dec)
  | ((with_reducible refine EM.gNum ?_); sizeOf_list_dec)
  | ((with_reducible apply EM.TwoP.mk); (focus (with_reducible assumption)); (focus sizeOf_list_dec); (focus (first | with_reducible assumption | (apply EM.n_low; assumption))); (focus sizeOf_list_dec); (focus decreasing_trivial_pre_omega); (focus decreasing_trivial_pre_omega); (focus decreasing_trivial_pre_omega); (focus decreasing_trivial_pre_omega))
  | (with_reducible exact EM.Ext.refl)
  | ((with_reducible apply EM.Ext.back); (focus (with_reducible assumption)); (focus sizeOf_list_dec))
  | ((with_reducible apply EM.Bs.mono); (focus (with_reducible assumption)); omega)
  | ((with_reducible refine EM.gN ?_); first | decide | omega | exact Nat.le_of_ble_eq_true rfl | (simp only [List.length_cons, List.length_nil, List.length_append]; omega))
  | ((with_reducible refine EM.gM ?_); first | decide | omega | exact Nat.le_of_ble_eq_true rfl)
  | ((with_reducible refine EM.gI ?_); first | decide | omega)
  | ((with_reducible refine EM.gJ ?_); first | decide | omega)
  | ((with_reducible refine EM.gE ?_); first | decide | omega)
  | ((with_reducible refine EM.gB ?_); decreasing_trivial_pre_omega)
  | ((with_reducible apply EM.wideM); (focus decreasing_trivial_pre_omega); (focus decreasing_trivial_pre_omega); (focus decide)))
local macro_rules | `(tactic| infer_instance) => `(tactic| first
  | with_reducible assumption
  | exact DpAll.nil
  | (apply DpAll.cons; (focus infer_instance); (focus infer_instance))
  | with_reducible exact Dp.int _
  | exact Dp.int _
  | with_reducible exact Dp.str _
  | exact Dp.bl _
  | exact Dp.non
  | ((with_reducible apply EM.dp_lst); (focus array_get_dec); (focus infer_instance))
  | ((with_reducible apply EM.dp_tup); (focus array_get_dec); (focus infer_instance))
  | exact EM.dp_ints _)
local macro_rules | `(tactic| nofun) => `(tactic| first
  | with_reducible assumption
  | exact EM.FeL.nil
  | exact EM.FdL.nil
  | (apply EM.FeL.cons; (focus nofun); (focus nofun))
  | (apply EM.FdL.cons; (focus nofun); (focus nofun))
  | exact EM.Fe.int _
  | exact EM.Fe.bool _
  | exact EM.Fe.non
  | exact EM.Fe.str (EM.okS_of _)
  | (apply EM.Fe.str; apply EM.Fd.ok; (focus nofun))
  | (apply EM.Fe.list; (focus nofun))
  | (apply EM.Fe.tup; (focus nofun))
  | (apply EM.Fd.int; (focus decreasing_trivial_pre_omega))
  | exact EM.Fd.bool _
  | exact EM.Fd.non
  | (refine EM.Fd.bool _)
  | (apply EM.Fd.list; (focus nofun))
  | (apply EM.Fd.tup; (focus nofun)))
local macro_rules | `(tactic| array_mem_dec) => `(tactic| ((with_reducible refine EM.pr ?_); first
  | (with_reducible refine L2.iteT ?_)
  | (with_reducible refine L2.iteF ?_)
  | (with_reducible refine EM.ifNotT ?_)
  | (with_reducible refine EM.ifNotF ?_)
  | ((fail_if_success (with_reducible refine EM.gIf ?_)); first
  | array_get_dec
  | (refine EM.mk_low (by with_reducible assumption) (by with_reducible assumption) ?_ ?_; (focus array_get_dec))
  | (apply EM.isNum_sw; (focus sizeOf_list_dec))
  | (apply EM.of_sw; (focus (with_reducible assumption)); (focus sizeOf_list_dec))
  | (apply EM.neg_bs; (focus (with_reducible assumption)); (focus sizeOf_list_dec); (focus array_get_dec); (focus array_get_dec))
  | (apply EM.relw_bs; (focus (with_reducible assumption)); (focus sizeOf_list_dec); (focus sizeOf_list_dec); (focus array_get_dec); (focus decreasing_trivial_pre_omega); (focus decreasing_trivial_pre_omega); (focus decreasing_trivial_pre_omega); (focus decreasing_trivial_pre_omega))
  | ((apply EM.DnS.bs); (focus (with_reducible assumption)); (focus (intro _ z; cases z; done)))
  | ((apply EM.seqL); (focus sizeOf_list_dec))
  | ((apply EM.seqT); (focus sizeOf_list_dec))
  | ((apply EM.seqS); (focus sizeOf_list_dec))
  | ((apply EM.enS); (focus sizeOf_list_dec))
  | ((apply EM.lenL); (focus sizeOf_list_dec))
  | ((apply EM.lenT); (focus sizeOf_list_dec))
  | ((apply EM.lenS); (focus sizeOf_list_dec))
  | ((apply EM.isSeqL); (focus sizeOf_list_dec); (focus sizeOf_list_dec))
  | ((apply EM.isSeqT); (focus sizeOf_list_dec); (focus sizeOf_list_dec))
  | ((apply EM.isSeqS); (focus sizeOf_list_dec); (focus sizeOf_list_dec))
  | ((apply EM.lstS); (focus sizeOf_list_dec))
  | ((apply EM.sumS); (focus sizeOf_list_dec))
  | ((apply EM.tupSL); (focus sizeOf_list_dec))
  | ((apply EM.tupST); (focus sizeOf_list_dec))
  | ((apply EM.fld_bs); (focus sizeOf_list_dec); (focus (exact Tx.cl_Duel (by assumption))); (focus (first | exact Tx.na_Duel_weights (by assumption) | exact Tx.na_Duel_level (by assumption))); (focus (exact rfl)))
  | ((apply EM.anyS); (focus sizeOf_list_dec))
  | ((with_reducible refine EM.New.bs (by with_reducible assumption) ?_ ?_); (focus (intro _ z; cases z; done)))
  | ((with_reducible refine EM.gMu ?_); (with_reducible apply EM.mu_bs); (focus (with_reducible assumption)); (focus sizeOf_list_dec); (focus (apply EM.nel2; (focus (with_reducible assumption)); (focus (with_reducible assumption)))); intro _ _ _)
  | intro _
  | (apply And.intro; (focus array_get_dec))
  | apply Exists.intro
  | (refine EM.draw_bs (by with_reducible assumption) ?_ ?_ ?_ ?_; (focus array_get_dec); (focus array_get_dec); (focus (first | decide | omega)))
  | (apply EM.pick_bs; (focus (with_reducible assumption)); (focus array_get_dec); (focus sizeOf_list_dec); (focus (exact Nat.le_of_ble_eq_true rfl)); (focus (exact Nat.le_of_ble_eq_true rfl)))
  | ((apply EM.repr_sw); (focus infer_instance); (focus nofun); (focus decide))
  | ((apply EM.eqd_same); (focus infer_instance); (focus infer_instance); (focus nofun); (focus decide))
  | ((apply EM.ned_same); (focus infer_instance); (focus infer_instance); (focus nofun); (focus decide))
  | ((apply EM.eqd_sw); (focus infer_instance); (focus infer_instance); (focus nofun); (focus nofun); (focus decide))
  | ((apply EM.ned_sw); (focus infer_instance); (focus infer_instance); (focus nofun); (focus nofun); (focus decide))
  | (refine EM.cut_bs (by with_reducible assumption) ?_ ?_ ?_; (focus array_get_dec); (focus array_get_dec)))))
section
variable {P : Program} {w : World} {K : PySem.W.Frag} {mg : Str → Option Value} {base : Heap}
theorem ok_need_plain_weights (T : Tx K mg) : FnR P w K mg base (L2.CX P w) 6 (He.ga K "need_plain_weights") (spNeedW K) := by
  obtain ⟨fd, F⟩ := T.d_need_plain_weights
  refine EM.fnr F sc_need_plain_weights (fun _ _ _ _ _ _ us hl => match us, hl with | [_, _], _ => rfl) (fun vs H Q E h => ?_) (fun cdv A outer s H vs Q E hr h => ?_)
  · obtain ⟨T0, p, l, a, n, xs, os, rfl, _⟩ := h
    rfl
  · obtain ⟨T0, p, l, a, n, xs, os, rfl, B0, aX, it, hl, bad, good⟩ := h
    obtain ⟨fdBadWeights, okBadWeights, bBadWeights⟩ := mk_BadWeights (P := P) (w := w) (base := base) T
    have tk := takes_of (X := cxOf (L2.CX P w) P w K mg base ["weights", "count", "at", "weight"] "need_plain_weights" (defScope s_need_plain_weights) (He.ga K "need_plain_weights") cdv A outer s H E) (E := E) rfl rfl rfl rfl
    have hxl := it.len
    refine ⟨_, (pss_cons (ps_if (PW.pt (pw_or (pt_not (pt_val (pe_callB (callR_sw EM.call_isSeq) (by rfl) T.f_isinstance (by decide +kernel) (pa_cons (pv 0) (pa_cons (EM.pe_tupN (pa_cons (pe_bltn (v := .ty "list") (by rfl) T.f_list boot_list rfl) (pa_cons (pe_bltn (v := .ty "tuple") (by rfl) T.f_tuple boot_tuple rfl) pa_nil))) pa_nil))))) (pw_or1 (pt_cmpR op_ne (pe_callB EM.call_lenN (by rfl) T.f_len boot_len (pa_cons (pv 0) pa_nil)) (pv 1) (nomark _)))))
  (pss_one (EM.ps_rz1 rfl T.ox_BadWeights T.oi_BadWeights okBadWeights (hr.mono (by decide)) bBadWeights passL T.g_BadWeights tk (pa_cons pe_non pa_nil))) pss_nil)
 (pss_cons (EM.forN (ps_for (passes_of rfl) rfl (EM.pi_enumSN (by rfl) T.f_enumerate (pa_cons (pv 0) pa_nil)).mc (pg_tup (by rfl) (pgs_cons (pg_name (i := 2) sc_need_plain_weights.nd rfl (Or.inl rfl)) (pgs_cons (pg_name (i := 3) sc_need_plain_weights.nd rfl (Or.inl rfl)) pgs_nil)))
  (pss_one (ps_if (pt_not (pt_val (EM.pe_cR ((ok_is_integer_fits T).sw) (hr.mono (by decide)) T.k_is_integer_fits T.g_is_integer_fits passL (pa_cons (pv 3) pa_nil))))
  (pss_one (EM.ps_rz1 rfl T.ox_BadWeights T.oi_BadWeights okBadWeights (hr.mono (by decide)) bBadWeights passL T.g_BadWeights tk (pa_cons (pv 2) pa_nil))) pss_nil))))
 (pss_cons (ps_if (pt_cmpR op_ne (pe_callB (EM.call_sumSN rfl) (by rfl) T.f_sum (by decide +kernel) (pa_cons (pe_callTy EM.call_listSN (by rfl) T.f_list (by decide +kernel) (pa_cons (pv 0) pa_nil)) pa_nil)) pe_int (nomark _))
  (pss_one (EM.ps_rz1 rfl T.ox_BadWeights T.oi_BadWeights okBadWeights (hr.mono (by decide)) bBadWeights passL T.g_BadWeights tk (pa_cons pe_str pa_nil))) pss_nil)
 (pss_one (ps_if (pt_not (pt_val (pe_callB (EM.call_anySN rfl) (by rfl) T.f_any (by decide +kernel) (pa_cons (EM.lcN (pe_lc (own := [("weight", 3)]) (g := gName 3) rfl sc_need_plain_weights.nd (EM.pi_seqN (pv 0)).mc (blkOk_by (N := ["weights", "count", "at", "weight"]) (sc := defScope s_need_plain_weights) (by decide +kernel)) (fun _ _ _ _ _ => (pg_name (i := 3) sc_need_plain_weights.nd rfl (Or.inl rfl))) (fun _ _ _ _ _ => pts_nil) (fun _ _ _ _ _ => (PE.mc (pe_cmpR op_ne (pv 3) pe_int (nomark _)))))) pa_nil))))
  (pss_one (EM.ps_rz1 rfl T.ox_BadWeights T.oi_BadWeights okBadWeights (hr.mono (by decide)) bBadWeights passL T.g_BadWeights tk (pa_cons pe_str pa_nil))) pss_nil))))), ?_⟩
    repeat' array_mem_dec
    rename_i q1 H1 x1 B1 a1 n1
    rw [hxl]
    refine ifNeI (fun z => absurd rfl z) (fun _ => ?_)
    clear a1 n1
    repeat' array_mem_dec
    rename_i J wk
    refine FoS.it wk (fun i σ H2 => Hold (∃ v2 v3, σ = [some (.ref a), some (.int (os.length : Nat)), v2, v3] ∧ (∀ j, j < i → ∃ w, os[j]? = some (some w)) ∧ Ext p H H2 ∧ Bs T0 p l n H2)) ⟨⟨_, _, rfl, fun j z => absurd z (Nat.not_lt_zero j), x1, B1⟩⟩ (fun i σ H2 _ ⟨⟨_, _, _, _, x, _⟩⟩ => (aX.eq x).trans (aX.eq x1).symm) ?_ ?_
    · rintro i y σ H2 H3 hi ⟨⟨v2, v3, rfl, fine, x02, B2⟩⟩ hy
      obtain ⟨W, a', b', rfl, ea, eb, x3, B3, aW⟩ := yp_open B2 hy
      cases ea
      obtain ⟨o, eo⟩ : ∃ o, os[i]? = some o := ⟨_, List.getElem?_eq_getElem (by omega)⟩
      have x03 := x02.trans x3
      have itm := (it.ext x03).h i b' o eb eo
      clear x02 B2 x3
      cases o with
      | none =>
        have od : OddM K p H3 b' := itm
        repeat' array_mem_dec
        obtain ⟨t, b1, b2, ty, k1, k2, eb⟩ := oddM_int T od
        refine ⟨⟨b', t, b1, b2, rfl, ty, k1, k2, ?_⟩⟩
        rw [eb]
        repeat' array_mem_dec
        rename_i d Hd sd nd hd
        have e1 : badW os = some (.int (i : Nat)) := by unfold badW; rw [fst_at fine eo]
        exact bad _ e1 d Hd (x03.trans (Ext.same sd)) (B3.same sd) ((B3.same sd).at_ hd (fun _ z => by cases z) (fun _ z => by cases z))
      | some w =>
        obtain rfl : b' = .int w := itm
        repeat' array_mem_dec
        refine ⟨⟨.int w, _, true, false, rfl, .base (.int w), kit_ty (by decide +kernel), kit_ty (by decide +kernel), ?_⟩⟩
        repeat' array_mem_dec
        exact ⟨⟨_, _, rfl, fun j hj => by
          rcases Nat.lt_or_ge j i with z | z
          · exact fine j z
          · have : j = i := by omega
            subst this
            exact ⟨w, eo⟩, x03, B3⟩⟩
    · rintro σ H2 ⟨⟨v2, v3, rfl, fine, x02, B2⟩⟩
      rw [hxl] at fine
      obtain ⟨f1, f2⟩ := fst_no fine
      have hx : xs = (intsO os).map V.int := it.ints f2
      have aX2 := aX.ext x02
      rw [hx] at aX2
      have wl : (intsO os).length = os.length := by unfold intsO; rw [List.length_map]
      repeat' array_mem_dec
      rename_i q3 H3 x3 B3 a3 n3
      refine ifNeI (fun z => ?_) (fun z => ?_)
      · have e1 : badW os = some (.str "sum") := by unfold badW; rw [f1]; exact if_pos z
        repeat' array_mem_dec
        rename_i d Hd sd nd hd
        exact bad _ e1 d Hd (x02.trans (x3.trans (Ext.same sd))) (B3.same sd) ((B3.same sd).at_ hd (fun _ z => by cases z) (fun _ z => by cases z))
      · have aX3 := aX2.ext x3
        have n0 : ¬ ((intsO os).sum ≠ 0) := fun y => y z
        repeat' array_mem_dec
        rename_i J2 wk2
        refine LcS.lc 0 wk2 B3 (fun j y H' => Hold (∃ w, (intsO os)[j]? = some w ∧ y = .bl (!decide (w = 0)))) (by rw [List.length_map]; omega) (fun H' x => aX3.eq x) ?_ ?_
        · rintro j y K2 K3 hk y2 C2 ⟨rfl, hv⟩
          rw [List.getElem?_map] at hv
          obtain ⟨w, ew, rfl⟩ := Option.map_eq_some_iff.mp hv
          repeat' array_mem_dec
          exact ⟨⟨w, ew, by rw [dVi]⟩⟩
        rintro D ys H4 hD hyl hf x4 B4 aD
        have eys : ys = ((intsO os).map fun w => !decide (w = 0)).map V.bl := bls_of (by rw [hyl, List.length_map, List.length_map]) (fun i y e => by
          obtain ⟨⟨w, e1, e2⟩⟩ := hf i y e
          exact ⟨_, by rw [List.getElem?_map, e1]; rfl, e2⟩)
        rw [eys] at aD
        have ea : (((intsO os).map fun w => !decide (w = 0)).any id) = !((intsO os).all fun w => decide (w = 0)) := by
          rw [List.any_map, List.not_all_eq_any_not]
          rfl
        have x04 := x02.trans (x3.trans x4)
        have B4' : Bs T0 p l n H4 := B4.mono (by omega)
        clear B4
        repeat' array_mem_dec
        rw [ea]
        cases hz : (intsO os).all fun w => decide (w = 0) with
        | true =>
          have e1 : badW os = some (.str "zero") := by unfold badW; rw [f1]; show (if _ then _ else _) = _; rw [if_neg n0, if_pos hz]
          refine ifP rfl ?_
          repeat' array_mem_dec
          rename_i d Hd sd nd hd
          exact bad _ e1 d Hd (x04.trans (Ext.same sd)) (B4'.same sd) ((B4'.same sd).at_ hd (fun _ z => by cases z) (fun _ z => by cases z))
        | false =>
          have e1 : badW os = none := by unfold badW; rw [f1]; show (if _ then _ else _) = _; rw [if_neg n0, hz]; rfl
          refine ifN rfl ?_
          repeat' array_mem_dec
          exact good e1 H4 x04 B4'
end
end K40
namespace K40
open PySem PySem.Spec PyProof.Rows L2 EM
local macro_rules | `(tactic| sizeOf_list_dec) => `(tactic| first
  | with_reducible assumption
  | ((with_reducible apply EM.At.ext); (focus (with_reducible assumption)); (focus sizeOf_list_dec))
  | ((with_reducible apply EM.RatP.ext); (focus (with_reducible assumption)); (focus sizeOf_list_dec))
  | ((with_reducible apply EM.NumP.ext); (focus (with_reducible assumption)); (focus sizeOf_list_dec))
  | (with_reducible exact EM.Ext.refl)
  | ((with_reducible apply EM.Ext.back); (focus (with_reducible assumption)); (focus sizeOf_list_dec))
  | exact EM.NumP.int _
  | ((with_reducible apply EM.Mu.at_k); (focus (with_reducible assumption)); (focus sizeOf_list_dec); (focus sizeOf_list_dec); (focus (intro _ z; cases z; done)))
  | ((with_reducible apply EM.Mu.at_n); (focus (with_reducible assumption)); (focus sizeOf_list_dec); (focus (first | with_reducible assumption | ((apply EM.nn1); (focus (with_reducible assumption)); (focus sizeOf_list_dec)) | ((apply EM.nn2); (focus (with_reducible assumption)); (focus sizeOf_list_dec)))))
  | ((with_reducible apply EM.Mu.here); (focus (with_reducible assumption)); (focus sizeOf_list_dec))
  | ((with_reducible apply EM.Mu.rat); (focus (with_reducible assumption)); (focus sizeOf_list_dec); (focus sizeOf_list_dec))
  | ((with_reducible apply EM.Mu.num); (focus (with_reducible assumption)); (focus sizeOf_list_dec); (focus sizeOf_list_dec))
  | ((with_reducible apply EM.num_of_rat); (focus sizeOf_list_dec); (focus (first | with_reducible assumption | (apply EM.n_low; assumption))))
  | ((with_reducible apply EM.SeqV.xt); (focus (with_reducible assumption)); (focus sizeOf_list_dec))
  | ((with_reducible apply EM.ItsI.xt); (focus (with_reducible assumption)); (focus sizeOf_list_dec))
  | ((with_reducible apply EM.RatsP.xt); (focus (with_reducible assumption)); (focus sizeOf_list_dec))
  | ((with_reducible apply EM.PairsP.xt); (focus (with_reducible assumption)); (focus sizeOf_list_dec)))
local macro_rules | `(tactic| decreasing_trivial_pre_omega) => `(tactic| first
  | with_reducible assumption
  | exact EM.Bt.mono (by with_reducible assumption) (by decide)
  | exact EM.Bt.lit _ _ (by decide +kernel)
  | ((with_reducible refine EM.Bt.rng32 ?_ ?_) <;> omega)
  | ((with_reducible refine EM.Bt.rng70 ?_ ?_) <;> omega)
  | ((with_reducible refine EM.Bt.rng200 ?_ ?_) <;> omega)
  | ((with_reducible apply EM.Bt.mulM); (focus decreasing_trivial_pre_omega); (focus decreasing_trivial_pre_omega); (focus (first | decide | exact Nat.le_refl _)))
  | ((with_reducible apply EM.Bt.addM); (focus decreasing_trivial_pre_omega); (focus decreasing_trivial_pre_omega); (focus (first | decide | exact Nat.le_refl _)))
  | ((with_reducible apply EM.Bt.subM); (focus decreasing_trivial_pre_omega); (focus decreasing_trivial_pre_omega); (focus (first | decide | exact Nat.le_refl _)))
  | ((with_reducible apply EM.Bt.topL); (focus decreasing_trivial_pre_omega); (focus assumption); (focus (first | decide | exact Nat.le_refl _)))
  | ((with_reducible apply EM.Bt.botL); (focus decreasing_trivial_pre_omega); (focus assumption); (focus (first | decide | exact Nat.le_refl _)))
  | ((with_reducible apply EM.Bt.divM); (focus decreasing_trivial_pre_omega); (focus assumption); (focus (first | decide | exact Nat.le_refl _)))
  | ((with_reducible apply EM.Bt.negM); (focus decreasing_trivial_pre_omega); (focus (first | decide | exact Nat.le_refl _))))
local macro_rules | `(tactic| array_get_dec) => `(tactic| first
  | with_reducible assumption
  | ((with_reducible refine EM.gEq ?_); exact rfl)
  | ((with_reducible refine EM.gTru ?_); exact rfl)
  | ((with_reducible refine EM.gRef ?_); first | exact Or.inl ⟨_, rfl⟩ | exact Or.inr ⟨_, rfl⟩)
  | ((with_reducible apply EM.At.get); sizeOf_list_dec)
  | ((with_reducible apply EM.At.sqL); sizeOf_list_dec)
  | ((with_reducible apply EM.At.sqT); sizeOf_list_dec)
  | ((with_reducible apply EM.RatP.getK); (focus sizeOf_list_dec); (focus (exact rfl)))
  | (with_reducible exact EM.Num.int _)
  | ((with_reducible apply EM.NumP.getK); (focus sizeOf_list_dec); (focus (exact rfl)))
  | ((with_reducible apply EM.At.ext); (focus (with_reducible assumption)); (focus sizeOf_list_dec))
  | ((with_reducible apply EM.RatP.ext); (focus (with_reducible assumption)); (focus sizeOf_list_dec))
  | ((with_reducible apply EM.NumP.ext); (focus (with_reducible assumption)); (focus sizeOf_list_dec))
  | with_reducible exact Tx.cl_Ratio (by assumption)
  | with_reducible exact Tx.cl_Duel (by assumption)
  | with_reducible exact Tx.na_Ratio_top (by assumption)
  | with_reducible exact Tx.na_Ratio_bottom (by assumption)
  | with_reducible exact Tx.na_Duel_weights (by assumption)
  | with_reducible exact Tx.na_Duel_level (by assumption)
  | ((with_reducible refine EM.gAt ?_); sizeOf_list_dec)
  | ((with_reducible refine EM.gRat ?_); sizeOf_list_dec)
  | ((with_reducible refine EM.gNum ?_); sizeOf_list_dec)
  | ((with_reducible apply EM.TwoP.mk); (focus (with_reducible assumption)); (focus sizeOf_list_dec); (focus (first | with_reducible assumption | (apply EM.n_low; assumption))); (focus sizeOf_list_dec); (focus decreasing_trivial_pre_omega); (focus decreasing_trivial_pre_omega); (focus decreasing_trivial_pre_omega); (focus decreasing_trivial_pre_omega))
  | (with_reducible exact EM.Ext.refl)
  | ((with_reducible apply EM.Ext.back); (focus (with_reducible assumption)); (focus sizeOf_list_dec))
  | ((with_reducible apply EM.Bs.mono); (focus (with_reducible assumption)); omega)
  | ((with_reducible refine EM.gN ?_); first | decide | omega | exact Nat.le_of_ble_eq_true rfl | (simp only [List.length_cons, List.length_nil, List.length_append]; omega))
  | ((with_reducible refine EM.gM ?_); first | decide | omega | exact Nat.le_of_ble_eq_true rfl)
  | ((with_reducible refine EM.gI ?_); first | decide | omega)
  | ((with_reducible refine EM.gJ ?_); first | decide | omega)
  | ((with_reducible refine EM.gE ?_); first | decide | omega)
  | ((with_reducible refine EM.gB ?_); decreasing_trivial_pre_omega)
  | ((with_reducible apply EM.wideM); (focus decreasing_trivial_pre_omega); (focus decreasing_trivial_pre_omega); (focus decide)))
local macro_rules | `(tactic| infer_instance) => `(tactic| first
  | with_reducible assumption
  | exact DpAll.nil
  | (apply DpAll.cons; (focus infer_instance); (focus infer_instance))
  | with_reducible exact Dp.int _
  | exact Dp.int _
  | with_reducible exact Dp.str _
  | exact Dp.bl _
  | exact Dp.non
  | ((with_reducible apply EM.dp_lst); (focus array_get_dec); (focus infer_instance))
  | ((with_reducible apply EM.dp_tup); (focus array_get_dec); (focus infer_instance))
  | exact EM.dp_ints _)
local macro_rules | `(tactic| nofun) => `(tactic| first
  | with_reducible assumption
  | exact EM.FeL.nil
  | exact EM.FdL.nil
  | (apply EM.FeL.cons; (focus nofun); (focus nofun))
  | (apply EM.FdL.cons; (focus nofun); (focus nofun))
  | exact EM.Fe.int _
  | exact EM.Fe.bool _
  | exact EM.Fe.non
  | exact EM.Fe.str (EM.okS_of _)
  | (apply EM.Fe.str; apply EM.Fd.ok; (focus nofun))
  | (apply EM.Fe.list; (focus nofun))
  | (apply EM.Fe.tup; (focus nofun))
  | (apply EM.Fd.int; (focus decreasing_trivial_pre_omega))
  | exact EM.Fd.bool _
  | exact EM.Fd.non
  | (refine EM.Fd.bool _)
  | (apply EM.Fd.list; (focus nofun))
  | (apply EM.Fd.tup; (focus nofun)))
local macro_rules | `(tactic| array_mem_dec) => `(tactic| ((with_reducible refine EM.pr ?_); first
  | (with_reducible refine L2.iteT ?_)
  | (with_reducible refine L2.iteF ?_)
  | (with_reducible refine EM.ifNotT ?_)
  | (with_reducible refine EM.ifNotF ?_)
  | ((fail_if_success (with_reducible refine EM.gIf ?_)); first
  | array_get_dec
  | (refine EM.mk_low (by with_reducible assumption) (by with_reducible assumption) ?_ ?_; (focus array_get_dec))
  | (apply EM.isNum_sw; (focus sizeOf_list_dec))
  | (apply EM.of_sw; (focus (with_reducible assumption)); (focus sizeOf_list_dec))
  | (apply EM.neg_bs; (focus (with_reducible assumption)); (focus sizeOf_list_dec); (focus array_get_dec); (focus array_get_dec))
  | (apply EM.relw_bs; (focus (with_reducible assumption)); (focus sizeOf_list_dec); (focus sizeOf_list_dec); (focus array_get_dec); (focus decreasing_trivial_pre_omega); (focus decreasing_trivial_pre_omega); (focus decreasing_trivial_pre_omega); (focus decreasing_trivial_pre_omega))
  | ((apply EM.DnS.bs); (focus (with_reducible assumption)); (focus (intro _ z; cases z; done)))
  | ((apply EM.seqL); (focus sizeOf_list_dec))
  | ((apply EM.seqT); (focus sizeOf_list_dec))
  | ((apply EM.seqS); (focus sizeOf_list_dec))
  | ((apply EM.enS); (focus sizeOf_list_dec))
  | ((apply EM.lenL); (focus sizeOf_list_dec))
  | ((apply EM.lenT); (focus sizeOf_list_dec))
  | ((apply EM.lenS); (focus sizeOf_list_dec))
  | ((apply EM.isSeqL); (focus sizeOf_list_dec); (focus sizeOf_list_dec))
  | ((apply EM.isSeqT); (focus sizeOf_list_dec); (focus sizeOf_list_dec))
  | ((apply EM.isSeqS); (focus sizeOf_list_dec); (focus sizeOf_list_dec))
  | ((apply EM.lstS); (focus sizeOf_list_dec))
  | ((apply EM.sumS); (focus sizeOf_list_dec))
  | ((apply EM.tupSL); (focus sizeOf_list_dec))
  | ((apply EM.tupST); (focus sizeOf_list_dec))
  | ((apply EM.fld_bs); (focus sizeOf_list_dec); (focus (exact Tx.cl_Duel (by assumption))); (focus (first | exact Tx.na_Duel_weights (by assumption) | exact Tx.na_Duel_level (by assumption))); (focus (exact rfl)))
  | ((with_reducible refine EM.New.bs (by with_reducible assumption) ?_ ?_); (focus (intro _ z; cases z; done)))
  | ((with_reducible refine EM.gMu ?_); (with_reducible apply EM.mu_bs); (focus (with_reducible assumption)); (focus sizeOf_list_dec); (focus (apply EM.nel2; (focus (with_reducible assumption)); (focus (with_reducible assumption)))); intro _ _ _)
  | intro _
  | (apply And.intro; (focus array_get_dec))
  | apply Exists.intro
  | (refine EM.draw_bs (by with_reducible assumption) ?_ ?_ ?_ ?_; (focus array_get_dec); (focus array_get_dec); (focus (first | decide | omega)))
  | (apply EM.pick_bs; (focus (with_reducible assumption)); (focus array_get_dec); (focus sizeOf_list_dec); (focus (exact Nat.le_of_ble_eq_true rfl)); (focus (exact Nat.le_of_ble_eq_true rfl)))
  | ((apply EM.repr_sw); (focus infer_instance); (focus nofun); (focus decide))
  | ((apply EM.eqd_same); (focus infer_instance); (focus infer_instance); (focus nofun); (focus decide))
  | ((apply EM.ned_same); (focus infer_instance); (focus infer_instance); (focus nofun); (focus decide))
  | ((apply EM.eqd_sw); (focus infer_instance); (focus infer_instance); (focus nofun); (focus nofun); (focus decide))
  | ((apply EM.ned_sw); (focus infer_instance); (focus infer_instance); (focus nofun); (focus nofun); (focus decide))
  | (refine EM.cut_bs (by with_reducible assumption) ?_ ?_ ?_; (focus array_get_dec); (focus array_get_dec)))))
section
variable {P : Program} {w : World} {K : PySem.W.Frag} {mg : Str → Option Value} {base : Heap}
theorem len_initD {K : PySem.W.Frag} : ∀ vs H Q E, spInitD K vs H Q E → vs.length = ["self", "weights", "level"].length := by
  intro vs H Q E h
  obtain ⟨T, p, l, x, dx, n, wv, lv, rfl, _⟩ := h
  rfl
theorem bod_Duel_init (T : Tx K mg) (f : Addr) : Bod P w K mg base ["self", "weights", "level"] "Duel.__init__" (defScope s_Duel_init) f (defBody s_Duel_init) 9 (spInitD K) := by
  intro cdv A outer s H vs Q E hr h
  obtain ⟨T0, p, l, x, dx, n, wv, lv, rfl, B0, hx, h⟩ := h
  have aX : At p H x (.ins (He.ga K "Duel") dx []) := B0.at_ hx (by intro _ z; cases z) (by intro _ z; cases z)
  obtain ⟨fdBadWeights, okBadWeights, bBadWeights⟩ := mk_BadWeights (P := P) (w := w) (base := base) T
  have tk := takes_of (X := cxOf (L2.CX P w) P w K mg base ["self", "weights", "level"] "Duel.__init__" (defScope s_Duel_init) (f) cdv A outer s H E) (E := E) rfl rfl rfl rfl
  refine ⟨_, (pss_cons (ps_if (PW.pt (pw_or (pt_not (pt_val (pe_callB (callR_sw EM.call_isSeq) (by rfl) T.f_isinstance (by decide +kernel) (pa_cons (pv 1) (pa_cons (EM.pe_tupN (pa_cons (pe_bltn (v := .ty "list") (by rfl) T.f_list boot_list rfl) (pa_cons (pe_bltn (v := .ty "tuple") (by rfl) T.f_tuple boot_tuple rfl) pa_nil))) pa_nil))))) (pw_or1 (pt_cmpR op_eq (pe_op op_mod (pe_callB EM.call_lenN (by rfl) T.f_len boot_len (pa_cons (pv 1) pa_nil)) pe_int) pe_int (nomark _)))))
  (pss_one (EM.ps_rz1 rfl T.ox_BadWeights T.oi_BadWeights okBadWeights (hr.mono (by decide)) bBadWeights passL T.g_BadWeights tk (pa_cons pe_non pa_nil))) pss_nil)
 (pss_cons (ps_if (pt_not (pt_chain op_le op_le (EM.pe_gI T.g_FEWEST_EDGES) (pe_callB EM.call_lenN (by rfl) T.f_len boot_len (pa_cons (pv 1) pa_nil)) (EM.pe_gI T.g_MOST_EDGES)))
  (pss_one (EM.ps_rz1 rfl T.ox_BadWeights T.oi_BadWeights okBadWeights (hr.mono (by decide)) bBadWeights passL T.g_BadWeights tk (pa_cons pe_non pa_nil))) pss_nil)
 (pss_cons (ps_expr (EM.pe_cR ((ok_need_plain_weights T).sw) (hr.mono (by decide)) T.k_need_plain_weights T.g_need_plain_weights (passes_call tk (fun _ _ _ _ h => h)) (pa_cons (pv 1) (pa_cons (pe_callB EM.call_lenN (by rfl) T.f_len boot_len (pa_cons (pv 1) pa_nil)) pa_nil))))
 (pss_cons (ps_if (pt_not (pt_val (EM.pe_smR (pe_glob (v := .ref (He.ga K "Ratio")) (by rfl) T.g_Ratio rfl) T.cr_Ratio T.sm_Ratio_is_number ((ok_Ratio_is_number T).sw) (hr.mono (by decide)) T.k_Ratio_is_number passL (pa_cons (pv 2) pa_nil))))
  (pss_one (EM.ps_rz1 rfl T.ox_BadWeights T.oi_BadWeights okBadWeights (hr.mono (by decide)) bBadWeights passL T.g_BadWeights tk (pa_cons pe_str pa_nil))) pss_nil)
 (pss_cons (EM.ps_fldN (pv 0) (pe_callTy EM.call_tupSN (by rfl) T.f_tuple (by decide +kernel) (pa_cons (pv 1) pa_nil)) rfl)
 (pss_one (EM.ps_fldN (pv 0) (EM.pe_smR (pe_glob (v := .ref (He.ga K "Ratio")) (by rfl) T.g_Ratio rfl) T.cr_Ratio T.sm_Ratio_of ((ok_Ratio_of T).sw) (hr.mono (by decide)) T.k_Ratio_of passL (pa_cons (pv 2) pa_nil)) rfl))))))), ?_⟩
  rcases h.h with ⟨ns, bad⟩ | ⟨a, xs, os, rfl, aS, it, hl, h⟩
  · have nt := ns.t T
    repeat' array_mem_dec
    rename_i q1 H1 x1 B1 a1 n1
    refine isSeqN a1 ((ns.ext x1).t T) ?_
    repeat' array_mem_dec
    rename_i d Hd sd nd hd
    exact bad d Hd (x1.trans (Ext.same sd)) (B1.same sd) ((B1.same sd).at_ hd (fun _ z => by cases z) (fun _ z => by cases z))
  · have hxl := it.len
    have err : ∀ (v : V) (d : Addr) (H2 Hd : Hp) (bl : Bool), (ErrOut K T0 p l n H E "BadWeights" "part" v) → Ext p H H2 → Bs T0 p l n H2 → Same H2 Hd → Hd d = some (.xd [("part", v)]) → E (.ref (He.ga K "BadWeights")) (some d) Hd := fun v d H2 Hd bl bad x B s e => bad d Hd (x.trans (Ext.same s)) (B.same s) ((B.same s).at_ e (fun _ z => by cases z) (fun _ z => by cases z))
    have few : ¬ okLen os.length → ErrOut K T0 p l n H E "BadWeights" "part" .non := fun c => by
      have e : ∀ b, badD os b = some .non := fun b => by unfold badD; rw [if_neg c]
      rcases h with ⟨t, b, nv, b1, b2, bad, _⟩ | ⟨od, bad⟩
      · exact bad _ (e _)
      · exact bad _ (e _)
    have wrong : okLen os.length → ∀ v, badW os = some v → ErrOut K T0 p l n H E "BadWeights" "part" v := fun c v e => by
      have e2 : ∀ b, badD os b = some v := fun b => by unfold badD; rw [if_pos c, e]
      rcases h with ⟨t, b, nv, b1, b2, bad, _⟩ | ⟨od, bad⟩
      · exact bad _ (e2 _)
      · exact bad _ (e2 _)
    repeat' array_mem_dec
    rename_i q1 H1 x1 B1 a1 n1
    rw [hxl]
    refine ifEqI (fun z => ?_) (fun z => ?_)
    · repeat' array_mem_dec
      rename_i d Hd sd nd hd
      exact err _ d _ Hd true (few (fun c => by have := c.1; omega)) x1 B1 sd hd
    repeat' array_mem_dec
    rw [hxl]
    have E2 : ∀ d Hd, Same H1 Hd → Hd d = some (.xd [("part", V.non)]) → ¬ okLen os.length → E (.ref (He.ga K "BadWeights")) (some d) Hd := fun d Hd sd hd c => err _ d _ Hd true (few c) x1 B1 sd hd
    refine ifLe (fun z2 => ?_) (fun z2 => ?_)
    · repeat' array_mem_dec
      cases z3 : decide ((os.length : Int) ≤ 128) with
      | false =>
        have z4 : ¬ (os.length : Int) ≤ 128 := of_decide_eq_false z3
        refine ifP rfl ?_
        repeat' array_mem_dec
        rename_i d Hd sd nd hd
        exact E2 d Hd sd hd (fun c => by have := c.2.2; omega)
      | true =>
      have z4 : (os.length : Int) ≤ 128 := of_decide_eq_true z3
      have okl : okLen os.length := ⟨by omega, by omega, by omega⟩
      refine ifN rfl ?_
      repeat' array_mem_dec
      rw [hxl]
      refine ⟨⟨T0, p, l, a, n, xs, os, rfl, B1, aS.ext x1, it.ext x1, hl, fun v e => (wrong okl v e).ext x1, fun ew H2 x2 B2 => ?_⟩⟩
      have x02 := x1.trans x2
      have aS2 := aS.ext x02
      have aX2 := aX.ext x02
      have e1 : ∀ b, badD os b = if b then none else some (.str "level") := fun b => by unfold badD; rw [if_pos okl, ew]
      rcases h with ⟨t, b, nv, b1, b2, bad, good⟩ | ⟨od, bad⟩
      · have good2 := good (e1 true)
        have lo := nv.num.1
        have nv2 := nv.ext x02
        have hx : xs = (intsO os).map V.int := it.ints (badW_ints ew)
        have fin : ∀ (q : Addr) (H3 : Hp), Ext p H H3 → Bs T0 p l n H3 → At p H3 q (.tup ((intsO os).map V.int)) → ∀ H4, Mu x H3 H4 (.ins (He.ga K "Duel") dx [("weights", .ref q)]) → ∀ a5 H5, Ext p H4 H5 → Bs T0 p l n H5 → RatP K p H5 a5 t b → ∀ H6, Mu x H5 H6 (.ins (He.ga K "Duel") dx [("weights", .ref q), ("level", .ref a5)]) → Q .non H6 := fun q H3 x3 B3 aq H4 m4 a5 H5 x5 B5 r5 H6 m6 => by
          have aX3 := aX.ext x3
          have aX4 : At p H4 x (.ins (He.ga K "Duel") dx [("weights", .ref q)]) := m4.hereI aX3
          have aX5 := aX4.ext x5
          have B6 := m6.bsI B5 aX5
          have X36 : XtR p x H3 H6 := ((XtR.mu m4).trans (XtR.of x5)).trans (XtR.mu m6)
          have r6 : RatP K p H6 a5 t b := (XtR.mu m6).rat r5 aX5 (by intro z; injection z with z _; injection z with z _; exact absurd z (by decide +kernel))
          exact good2 H6 ((XtR.of x3).trans X36) B6 ⟨dx, q, a5, m6.hereI aX5, X36.at_ aq aX3 (by intro z; cases z), r6, lo⟩
        rw [hx] at aS2
        have REST : ∀ (q : Addr) (H3 : Hp), Ext p H2 H3 → Bs T0 p l n H3 → At p H3 q (.tup ((intsO os).map V.int)) → True := fun _ _ _ _ _ => trivial
        rcases aS2 with aL | aL
        · repeat' array_mem_dec
          rename_i q3 H3 x3 B3 a3 n3
          refine ⟨T.cl_Duel, T.na_Duel_weights, by decide, fun H4 m4 => ?_⟩
          have aX3 := aX2.ext x3
          have B4 := m4.bsI B3 aX3
          have nv4 : NumP K p H4 lv t b := (XtR.mu m4).num (nv2.ext x3) aX3 (by intro z; cases z)
          have aX4 : At p H4 x (.ins (He.ga K "Duel") dx [("weights", .ref q3)]) := m4.hereI aX3
          repeat' array_mem_dec
          rename_i a5 H5 x5 B5 r5
          refine ⟨T.cl_Duel, T.na_Duel_level, by show 1 < 1000; decide, fun H6 m6 => ?_⟩
          exact fin q3 H3 (x02.trans x3) B3 a3 H4 m4 a5 H5 x5 B5 r5 H6 m6
        · repeat' array_mem_dec
          refine ⟨T.cl_Duel, T.na_Duel_weights, by decide, fun H4 m4 => ?_⟩
          have B4 := m4.bsI B2 aX2
          have nv4 : NumP K p H4 lv t b := (XtR.mu m4).num nv2 aX2 (by intro z; cases z)
          have aX4 : At p H4 x (.ins (He.ga K "Duel") dx [("weights", .ref a)]) := m4.hereI aX2
          repeat' array_mem_dec
          rename_i a5 H5 x5 B5 r5
          refine ⟨T.cl_Duel, T.na_Duel_level, by show 1 < 1000; decide, fun H6 m6 => ?_⟩
          exact fin a H2 x02 B2 aL H4 m4 a5 H5 x5 B5 r5 H6 m6
      · have bad2 := bad _ (e1 false)
        have od2 : OddN H2 p lv := OddN.ext od x02.k
        repeat' array_mem_dec
        refine ⟨⟨lv, rfl, .inr ⟨oddN_no T od2, ?_⟩⟩⟩
        repeat' array_mem_dec
        rename_i d Hd sd nd hd
        exact err _ d _ Hd true bad2 x02 B2 sd hd
    · refine ⟨_, rfl, ifP rfl ?_⟩
      repeat' array_mem_dec
      rename_i d Hd sd nd hd
      exact E2 d Hd sd hd (fun c => by have := c.2.1; omega)
end
end K40
namespace K40
open PySem PySem.Spec PyProof.Rows L2 EM

theorem ints_at {ys : List V} {ws : List Int} (h : ys.length = ws.length) (g : ∀ (i : Nat) (y : V), ys[i]? = some y → ∃ w, ws[i]? = some w ∧ y = .int w) : ys = ws.map V.int := by
  apply List.ext_getElem?
  intro i
  rw [List.getElem?_map]
  rcases Nat.lt_or_ge i ys.length with hi | hi
  · obtain ⟨b, e1, e2⟩ := g i ys[i] (List.getElem?_eq_getElem hi)
    rw [List.getElem?_eq_getElem hi, e1, e2]
    rfl
  · rw [List.getElem?_eq_none hi, List.getElem?_eq_none (by omega)]
    rfl
theorem ok_Duel2 {P : Program} {w : World} {K : PySem.W.Frag} {mg : Str → Option Value} {base : Heap} (T : Tx K mg) : FnR P w K mg base (L2.CX P w) 10 (He.ma K (He.ga K "Duel") "__init__") (fun vs H Q E => spInitD K (vs ++ []) H Q E) := by
  obtain ⟨fd, F⟩ := T.d_Duel_init
  exact EM.fnr_dfl 3 1 F sc_Duel_init (by intro z; cases z) rfl (fun T kV doc pm an cdv ct us its h1 h2 => match us, h1, its, h2 with | [_, _, _], _, [_], _ => ⟨_, rfl, rfl⟩) len_initD (bod_Duel_init T _)
theorem ok_Duel1 {P : Program} {w : World} {K : PySem.W.Frag} {mg : Str → Option Value} {base : Heap} (T : Tx K mg) : FnR P w K mg base (L2.CX P w) 10 (He.ma K (He.ga K "Duel") "__init__") (fun vs H Q E => spInitD K (vs ++ [.int 0]) H Q E) := by
  obtain ⟨fd, F⟩ := T.d_Duel_init
  exact EM.fnr_dfl 2 0 F sc_Duel_init (by intro z; cases z) rfl (fun T kV doc pm an cdv ct us its h1 h2 => match us, h1, its, h2 with | [_, _], _, [_], _ => ⟨_, rfl, rfl⟩) len_initD (bod_Duel_init T _)
/-- Duel(weights): the level is 0 -/
def spDuel1 (K : PySem.W.Frag) : Sp := fun vs H Q E => spDuel K (vs ++ [.int 0]) H Q E
def negF (e : Int × Int) : Int × Int := (-e.1, e.2)
theorem pe_mkD {K : PySem.W.Frag} {mg : Str → Option Value} (T : Tx K mg) {X : Cx} {E : XK} {e1 : Expr} {es : List Expr} {ta : TA} {p pos : Pos} (hr : Room 11 X.A) (hx : Passes (L2.CX X.prog X.w) X E) (ha : PA X (e1 :: es) ta) (hg : Gl X "Duel" := by rfl) (he : starEach (e1 :: es) X.env = (false, eval e1 X.env) :: starEach es X.env := by rfl) (hpl : (backTo pos (starEach es X.env)).any (·.1) = false := by rfl) (eK : X.K = K := by rfl) (eM : X.mg = mg := by rfl) :
    PE X (.Call (.Name "Duel" p) (e1 :: es) [] pos) (tCR (Sw (spDuel K)) E ta) := by
  subst eK eM
  exact (EM.pe_mkR (E := E) T.mk_Duel (ok_Duel2 T) hr T.g_Duel hx ha.mc hg (by decide) he hpl).of fun σ H Q q => ⟨_, q, fun vs H1 ⟨h⟩ x dx hx hdx ndx => by
    show spInitD _ ((V.ref x :: vs) ++ []) _ _ _
    rw [List.append_nil]
    exact mk_Duel h x dx hx hdx ndx⟩
theorem pe_mkD1 {K : PySem.W.Frag} {mg : Str → Option Value} (T : Tx K mg) {X : Cx} {E : XK} {e1 : Expr} {es : List Expr} {ta : TA} {p pos : Pos} (hr : Room 11 X.A) (hx : Passes (L2.CX X.prog X.w) X E) (ha : PA X (e1 :: es) ta) (hg : Gl X "Duel" := by rfl) (he : starEach (e1 :: es) X.env = (false, eval e1 X.env) :: starEach es X.env := by rfl) (hpl : (backTo pos (starEach es X.env)).any (·.1) = false := by rfl) (eK : X.K = K := by rfl) (eM : X.mg = mg := by rfl) :
    PE X (.Call (.Name "Duel" p) (e1 :: es) [] pos) (tCR (Sw (spDuel1 K)) E ta) := by
  subst eK eM
  exact (EM.pe_mkR (E := E) T.mk_Duel (ok_Duel1 T) hr T.g_Duel hx ha.mc hg (by decide) he hpl).of fun σ H Q q => ⟨_, q, fun vs H1 ⟨h⟩ x dx hx hdx ndx => mk_Duel h x dx hx hdx ndx⟩
/-- right weights -/
def GoodW (ws : List Int) : Prop := badD (ws.map some) true = none
theorem GoodW.p {ws : List Int} (h : GoodW ws) : okLen ws.length ∧ ws.sum = 0 ∧ ∃ w ∈ ws, w ≠ 0 := by
  unfold GoodW badD badW at h
  rw [fst_some, intsO_some, List.length_map] at h
  by_cases c : okLen ws.length
  · rw [if_pos c] at h
    refine ⟨c, ?_⟩
    by_cases s : ws.sum = 0
    · refine ⟨s, Classical.byContradiction fun z => ?_⟩
      have a : ws.all (fun w => decide (w = 0)) = true := List.all_eq_true.mpr fun w hw => decide_eq_true (Classical.byContradiction fun y => z ⟨w, hw, y⟩)
      simp only [s, ne_eq, not_true_eq_false, if_false, a, if_true] at h
      cases h
    · simp only [ne_eq, s, not_false_eq_true, if_true] at h
      cases h
  · rw [if_neg c] at h
    cases h
theorem GoodW.of {ws : List Int} (h1 : okLen ws.length) (h2 : ws.sum = 0) (h3 : ∃ w ∈ ws, w ≠ 0) : GoodW ws := by
  unfold GoodW badD badW
  rw [fst_some, intsO_some, List.length_map, if_pos h1]
  have a : ws.all (fun w => decide (w = 0)) = false := by
    obtain ⟨w, hw, n⟩ := h3
    cases e : ws.all (fun w => decide (w = 0)) with
    | false => rfl
    | true => exact absurd (of_decide_eq_true (List.all_eq_true.mp e w hw)) n
  simp only [h2, ne_eq, not_true_eq_false, if_false, a, Bool.false_eq_true]
  rfl
theorem sum_neg (ws : List Int) : (ws.map fun w => -w).sum = -ws.sum := by
  induction ws with
  | nil => rfl
  | cons w r ih => rw [List.map_cons, List.sum_cons, List.sum_cons, ih]; omega
theorem GoodW.neg {ws : List Int} (h : GoodW ws) : GoodW (ws.map fun w => -w) := by
  obtain ⟨h1, h2, w, hw, n⟩ := h.p
  exact .of (by rw [List.length_map]; exact h1) (by rw [sum_neg, h2]; rfl) ⟨-w, List.mem_map.mpr ⟨w, hw, rfl⟩, by omega⟩
/-- a duel of right weights is made -/
theorem mkD_good {K : PySem.W.Frag} {T : List (Addr × Str)} {p l a : Addr} {n : Nat} {H : Hp} {ws : List Int} {lv : V} {t b : Int} {Q : VK} {E : XK} (B : Bs T p l n H) (h : SeqV p H a (ws.map V.int)) (g : GoodW ws) (nv : NumP K p H lv t b) (bt : Bt 2000 t) (bb : Bt 2000 b)
    (k : ∀ d H', Ext p H H' → Bs T p l n H' → DuelP K p H' d ws (t, b) → Fresh p H d → Q (.ref d) H') : Sw (spDuel K) [.ref a, lv] H Q E :=
  ⟨⟨T, p, l, n, _, _, rfl, B, ⟨.inr ⟨a, _, ws.map some, rfl, h, ItsI.all, by rw [List.length_map]; have := g.p.1.2.2; omega, .inl ⟨t, b, nv, bt, bb, fun v e => (by rw [show badD (ws.map some) true = none from g] at e; cases e), fun _ => by rw [intsO_some]; exact k⟩⟩⟩⟩⟩
def spNegD (K : PySem.W.Frag) : Sp := fun vs H Q _ => ∃ (T : List (Addr × Str)) (p l d : Addr) (n : Nat) (ws : List Int) (e : Int × Int), vs = [.ref d] ∧ Bs T p l n H ∧ DuelP K p H d ws e ∧ GoodW ws ∧ Bt 1900 e.1 ∧ Bt 1900 e.2 ∧
  ∀ d' H', Ext p H H' → Bs T p l n H' → DuelP K p H' d' (ws.map fun w => -w) (negF e) → Fresh p H d' → Q (.ref d') H'
/-- a value that is no duel -/
def NoDu (K : PySem.W.Frag) (H : Hp) (v : V) : Prop := ∃ t, TyX K H v t ∧ PySem.W.kitOne K t (.ref (He.ga K "Duel")) = some false
def spEqDu (K : PySem.W.Frag) : Sp := fun vs H Q _ => ∃ (T : List (Addr × Str)) (p l d : Addr) (n : Nat) (v : V) (ws : List Int) (e : Int × Int), vs = [.ref d, v] ∧ Bs T p l n H ∧ DuelP K p H d ws e ∧ Bt 1900 e.1 ∧ Bt 1900 e.2 ∧
  ((∃ d' ws' e', v = .ref d' ∧ DuelP K p H d' ws' e' ∧ Bt 1900 e'.1 ∧ Bt 1900 e'.2 ∧ ∀ H', Ext p H H' → Bs T p l n H' → Q (.bl (decide (ws = ws') && decide (e = e'))) H') ∨ (NoDu K H v ∧ Q (.bl false) H))
def spLenD (K : PySem.W.Frag) : Sp := fun vs H Q _ => ∃ (p d : Addr) (ws : List Int) (e : Int × Int), vs = [.ref d] ∧ DuelP K p H d ws e ∧ Q (.int (ws.length : Nat)) H
local macro_rules | `(tactic| sizeOf_list_dec) => `(tactic| first
  | with_reducible assumption
  | ((with_reducible apply EM.At.ext); (focus (with_reducible assumption)); (focus sizeOf_list_dec))
  | ((with_reducible apply EM.RatP.ext); (focus (with_reducible assumption)); (focus sizeOf_list_dec))
  | ((with_reducible apply EM.NumP.ext); (focus (with_reducible assumption)); (focus sizeOf_list_dec))
  | (with_reducible exact EM.Ext.refl)
  | ((with_reducible apply EM.Ext.back); (focus (with_reducible assumption)); (focus sizeOf_list_dec))
  | exact EM.NumP.int _
  | ((with_reducible apply EM.Mu.at_k); (focus (with_reducible assumption)); (focus sizeOf_list_dec); (focus sizeOf_list_dec); (focus (intro _ z; cases z; done)))
  | ((with_reducible apply EM.Mu.at_n); (focus (with_reducible assumption)); (focus sizeOf_list_dec); (focus (first | with_reducible assumption | ((apply EM.nn1); (focus (with_reducible assumption)); (focus sizeOf_list_dec)) | ((apply EM.nn2); (focus (with_reducible assumption)); (focus sizeOf_list_dec)))))
  | ((with_reducible apply EM.Mu.here); (focus (with_reducible assumption)); (focus sizeOf_list_dec))
  | ((with_reducible apply EM.Mu.rat); (focus (with_reducible assumption)); (focus sizeOf_list_dec); (focus sizeOf_list_dec))
  | ((with_reducible apply EM.Mu.num); (focus (with_reducible assumption)); (focus sizeOf_list_dec); (focus sizeOf_list_dec))
  | ((with_reducible apply EM.num_of_rat); (focus sizeOf_list_dec); (focus (first | with_reducible assumption | (apply EM.n_low; assumption))))
  | ((with_reducible apply EM.SeqV.xt); (focus (with_reducible assumption)); (focus sizeOf_list_dec))
  | ((with_reducible apply EM.ItsI.xt); (focus (with_reducible assumption)); (focus sizeOf_list_dec))
  | ((with_reducible apply EM.RatsP.xt); (focus (with_reducible assumption)); (focus sizeOf_list_dec))
  | ((with_reducible apply EM.PairsP.xt); (focus (with_reducible assumption)); (focus sizeOf_list_dec)))
local macro_rules | `(tactic| decreasing_trivial_pre_omega) => `(tactic| first
  | with_reducible assumption
  | exact EM.Bt.mono (by with_reducible assumption) (by decide)
  | exact EM.Bt.lit _ _ (by decide +kernel)
  | ((with_reducible refine EM.Bt.rng32 ?_ ?_) <;> omega)
  | ((with_reducible refine EM.Bt.rng70 ?_ ?_) <;> omega)
  | ((with_reducible refine EM.Bt.rng200 ?_ ?_) <;> omega)
  | ((with_reducible apply EM.Bt.mulM); (focus decreasing_trivial_pre_omega); (focus decreasing_trivial_pre_omega); (focus (first | decide | exact Nat.le_refl _)))
  | ((with_reducible apply EM.Bt.addM); (focus decreasing_trivial_pre_omega); (focus decreasing_trivial_pre_omega); (focus (first | decide | exact Nat.le_refl _)))
  | ((with_reducible apply EM.Bt.subM); (focus decreasing_trivial_pre_omega); (focus decreasing_trivial_pre_omega); (focus (first | decide | exact Nat.le_refl _)))
  | ((with_reducible apply EM.Bt.topL); (focus decreasing_trivial_pre_omega); (focus assumption); (focus (first | decide | exact Nat.le_refl _)))
  | ((with_reducible apply EM.Bt.botL); (focus decreasing_trivial_pre_omega); (focus assumption); (focus (first | decide | exact Nat.le_refl _)))
  | ((with_reducible apply EM.Bt.divM); (focus decreasing_trivial_pre_omega); (focus assumption); (focus (first | decide | exact Nat.le_refl _)))
  | ((with_reducible apply EM.Bt.negM); (focus decreasing_trivial_pre_omega); (focus (first | decide | exact Nat.le_refl _))))
local macro_rules | `(tactic| array_get_dec) => `(tactic| first
  | with_reducible assumption
  | ((with_reducible refine EM.gEq ?_); exact rfl)
  | ((with_reducible refine EM.gTru ?_); exact rfl)
  | ((with_reducible refine EM.gRef ?_); first | exact Or.inl ⟨_, rfl⟩ | exact Or.inr ⟨_, rfl⟩)
  | ((with_reducible apply EM.At.get); sizeOf_list_dec)
  | ((with_reducible apply EM.At.sqL); sizeOf_list_dec)
  | ((with_reducible apply EM.At.sqT); sizeOf_list_dec)
  | ((with_reducible apply EM.RatP.getK); (focus sizeOf_list_dec); (focus (exact rfl)))
  | (with_reducible exact EM.Num.int _)
  | ((with_reducible apply EM.NumP.getK); (focus sizeOf_list_dec); (focus (exact rfl)))
  | ((with_reducible apply EM.At.ext); (focus (with_reducible assumption)); (focus sizeOf_list_dec))
  | ((with_reducible apply EM.RatP.ext); (focus (with_reducible assumption)); (focus sizeOf_list_dec))
  | ((with_reducible apply EM.NumP.ext); (focus (with_reducible assumption)); (focus sizeOf_list_dec))
  | with_reducible exact Tx.cl_Ratio (by assumption)
  | with_reducible exact Tx.cl_Duel (by assumption)
  | with_reducible exact Tx.na_Ratio_top (by assumption)
  | with_reducible exact Tx.na_Ratio_bottom (by assumption)
  | with_reducible exact Tx.na_Duel_weights (by assumption)
  | with_reducible exact Tx.na_Duel_level (by assumption)
  | ((with_reducible refine EM.gAt ?_); sizeOf_list_dec)
  | ((with_reducible refine EM.gRat ?_); sizeOf_list_dec)
  | ((with_reducible refine EM.gNum ?_); sizeOf_list_dec)
  | ((with_reducible apply EM.TwoP.mk); (focus (with_reducible assumption)); (focus sizeOf_list_dec); (focus (first | with_reducible assumption | (apply EM.n_low; assumption))); (focus sizeOf_list_dec); (focus decreasing_trivial_pre_omega); (focus decreasing_trivial_pre_omega); (focus decreasing_trivial_pre_omega); (focus decreasing_trivial_pre_omega))
  | (with_reducible exact EM.Ext.refl)
  | ((with_reducible apply EM.Ext.back); (focus (with_reducible assumption)); (focus sizeOf_list_dec))
  | ((with_reducible apply EM.Bs.mono); (focus (with_reducible assumption)); omega)
  | ((with_reducible refine EM.gN ?_); first | decide | omega | exact Nat.le_of_ble_eq_true rfl | (simp only [List.length_cons, List.length_nil, List.length_append]; omega))
  | ((with_reducible refine EM.gM ?_); first | decide | omega | exact Nat.le_of_ble_eq_true rfl)
  | ((with_reducible refine EM.gI ?_); first | decide | omega)
  | ((with_reducible refine EM.gJ ?_); first | decide | omega)
  | ((with_reducible refine EM.gE ?_); first | decide | omega)
  | ((with_reducible refine EM.gB ?_); decreasing_trivial_pre_omega)
  | ((with_reducible apply EM.wideM); (focus decreasing_trivial_pre_omega); (focus decreasing_trivial_pre_omega); (focus decide)))
local macro_rules | `(tactic| infer_instance) => `(tactic| first
  | with_reducible assumption
  | exact DpAll.nil
  | (apply DpAll.cons; (focus infer_instance); (focus infer_instance))
  | with_reducible exact Dp.int _
  | exact Dp.int _
  | with_reducible exact Dp.str _
  | exact Dp.bl _
  | exact Dp.non
  | ((with_reducible apply EM.dp_lst); (focus array_get_dec); (focus infer_instance))
  | ((with_reducible apply EM.dp_tup); (focus array_get_dec); (focus infer_instance))
  | exact EM.dp_ints _)
local macro_rules | `(tactic| nofun) => `(tactic| first
  | with_reducible assumption
  | exact EM.FeL.nil
  | exact EM.FdL.nil
  | (apply EM.FeL.cons; (focus nofun); (focus nofun))
  | (apply EM.FdL.cons; (focus nofun); (focus nofun))
  | exact EM.Fe.int _
  | exact EM.Fe.bool _
  | exact EM.Fe.non
  | exact EM.Fe.str (EM.okS_of _)
  | (apply EM.Fe.str; apply EM.Fd.ok; (focus nofun))
  | (apply EM.Fe.list; (focus nofun))
  | (apply EM.Fe.tup; (focus nofun))
  | (apply EM.Fd.int; (focus decreasing_trivial_pre_omega))
  | exact EM.Fd.bool _
  | exact EM.Fd.non
  | (refine EM.Fd.bool _)
  | (apply EM.Fd.list; (focus nofun))
  | (apply EM.Fd.tup; (focus nofun)))
local macro_rules | `(tactic| array_mem_dec) => `(tactic| ((with_reducible refine EM.pr ?_); first
  | (with_reducible refine L2.iteT ?_)
  | (with_reducible refine L2.iteF ?_)
  | (with_reducible refine EM.ifNotT ?_)
  | (with_reducible refine EM.ifNotF ?_)
  | ((fail_if_success (with_reducible refine EM.gIf ?_)); first
  | array_get_dec
  | (refine EM.mk_low (by with_reducible assumption) (by with_reducible assumption) ?_ ?_; (focus array_get_dec))
  | (apply EM.isNum_sw; (focus sizeOf_list_dec))
  | (apply EM.of_sw; (focus (with_reducible assumption)); (focus sizeOf_list_dec))
  | (apply EM.neg_bs; (focus (with_reducible assumption)); (focus sizeOf_list_dec); (focus array_get_dec); (focus array_get_dec))
  | (apply EM.relw_bs; (focus (with_reducible assumption)); (focus sizeOf_list_dec); (focus sizeOf_list_dec); (focus array_get_dec); (focus decreasing_trivial_pre_omega); (focus decreasing_trivial_pre_omega); (focus decreasing_trivial_pre_omega); (focus decreasing_trivial_pre_omega))
  | ((apply EM.DnS.bs); (focus (with_reducible assumption)); (focus (intro _ z; cases z; done)))
  | ((apply EM.seqL); (focus sizeOf_list_dec))
  | ((apply EM.seqT); (focus sizeOf_list_dec))
  | ((apply EM.seqS); (focus sizeOf_list_dec))
  | ((apply EM.enS); (focus sizeOf_list_dec))
  | ((apply EM.lenL); (focus sizeOf_list_dec))
  | ((apply EM.lenT); (focus sizeOf_list_dec))
  | ((apply EM.lenS); (focus sizeOf_list_dec))
  | ((apply EM.isSeqL); (focus sizeOf_list_dec); (focus sizeOf_list_dec))
  | ((apply EM.isSeqT); (focus sizeOf_list_dec); (focus sizeOf_list_dec))
  | ((apply EM.isSeqS); (focus sizeOf_list_dec); (focus sizeOf_list_dec))
  | ((apply EM.lstS); (focus sizeOf_list_dec))
  | ((apply EM.sumS); (focus sizeOf_list_dec))
  | ((apply EM.tupSL); (focus sizeOf_list_dec))
  | ((apply EM.tupST); (focus sizeOf_list_dec))
  | ((apply EM.fld_bs); (focus sizeOf_list_dec); (focus (exact Tx.cl_Duel (by assumption))); (focus (first | exact Tx.na_Duel_weights (by assumption) | exact Tx.na_Duel_level (by assumption))); (focus (exact rfl)))
  | ((with_reducible refine EM.New.bs (by with_reducible assumption) ?_ ?_); (focus (intro _ z; cases z; done)))
  | ((with_reducible refine EM.gMu ?_); (with_reducible apply EM.mu_bs); (focus (with_reducible assumption)); (focus sizeOf_list_dec); (focus (apply EM.nel2; (focus (with_reducible assumption)); (focus (with_reducible assumption)))); intro _ _ _)
  | intro _
  | (apply And.intro; (focus array_get_dec))
  | apply Exists.intro
  | (refine EM.draw_bs (by with_reducible assumption) ?_ ?_ ?_ ?_; (focus array_get_dec); (focus array_get_dec); (focus (first | decide | omega)))
  | (apply EM.pick_bs; (focus (with_reducible assumption)); (focus array_get_dec); (focus sizeOf_list_dec); (focus (exact Nat.le_of_ble_eq_true rfl)); (focus (exact Nat.le_of_ble_eq_true rfl)))
  | ((apply EM.repr_sw); (focus infer_instance); (focus nofun); (focus decide))
  | ((apply EM.eqd_same); (focus infer_instance); (focus infer_instance); (focus nofun); (focus decide))
  | ((apply EM.ned_same); (focus infer_instance); (focus infer_instance); (focus nofun); (focus decide))
  | ((apply EM.eqd_sw); (focus infer_instance); (focus infer_instance); (focus nofun); (focus nofun); (focus decide))
  | ((apply EM.ned_sw); (focus infer_instance); (focus infer_instance); (focus nofun); (focus nofun); (focus decide))
  | (refine EM.cut_bs (by with_reducible assumption) ?_ ?_ ?_; (focus array_get_dec); (focus array_get_dec)))))
section
variable {P : Program} {w : World} {K : PySem.W.Frag} {mg : Str → Option Value} {base : Heap}
theorem ok_Duel_neg (T : Tx K mg) : FnR P w K mg base (L2.CX P w) 12 (He.ma K (He.ga K "Duel") "__neg__") (spNegD K) := by
  obtain ⟨fd, F⟩ := T.d_Duel_neg
  refine EM.fnr F sc_Duel_neg (fun _ _ _ _ _ _ us hl => match us, hl with | [_], _ => rfl) (fun vs H Q E h => ?_) (fun cdv A outer s H vs Q E hr h => ?_)
  · obtain ⟨T0, p, l, d, n, ws, e, rfl, _⟩ := h
    rfl
  · obtain ⟨T0, p, l, d, n, ws, e, rfl, B0, ⟨dx, q, a, h1, h2, h3, h4⟩, g, bt, bb, k⟩ := h
    refine ⟨_, (PSs.nox (pss_one (ps_ret (pe_mkD T (hr.mono (by decide)) passL (pa_cons (EM.lcN (pe_lc (own := [("weight", 1)]) (g := gName 1) rfl sc_Duel_neg.nd (EM.pi_seqN (EM.pe_fldN (pv 0))).mc (blkOk_by (N := ["self", "weight"]) (sc := defScope s_Duel_neg) (by decide +kernel)) (fun _ _ _ _ _ => (pg_name (i := 1) sc_Duel_neg.nd rfl (Or.inl rfl))) (fun _ _ _ _ _ => pts_nil) (fun _ _ _ _ _ => (PE.mc (pe_un un_neg (pv 1)))))) (pa_cons (pe_un (un_negN_ T (hr.mono (by decide))) (EM.pe_fldN (pv 0))) pa_nil)))))), ?_⟩
    repeat' array_mem_dec
    rename_i J wk
    refine LcS.lc 0 wk B0 (fun j y H' => Hold (∃ w, (ws.map fun w => -w)[j]? = some w ∧ y = .int w)) (by rw [List.length_map]; have := g.p.1.2.2; omega) (fun H' x => h2.eq x) ?_ ?_
    · rintro j y K2 K3 hk y2 C2 ⟨rfl, hv⟩
      rw [List.getElem?_map] at hv
      obtain ⟨w, ew, rfl⟩ := Option.map_eq_some_iff.mp hv
      repeat' array_mem_dec
      exact ⟨⟨_, by rw [List.getElem?_map, ew]; rfl, rfl⟩⟩
    rintro D ys H4 hD hyl hf x4 B4' aD
    have B4 : Bs T0 p l n H4 := B4'.mono (by omega)
    clear B4'
    have eys : ys = (ws.map fun w => -w).map V.int := ints_at (by rw [hyl, List.length_map, List.length_map]) (fun i y e => by
      obtain ⟨⟨w, e1, e2⟩⟩ := hf i y e
      exact ⟨w, e1, e2⟩)
    rw [eys] at aD
    have r4 := h3.ext x4
    have h14 := h1.ext x4
    repeat' array_mem_dec
    rename_i q5 H5 x5 B5 r5
    refine mkD_good B5 (.inl (aD.ext x5)) g.neg (r5.num (low_neg h4)) (bt.neg.mono (by decide)) (bb.mono (by decide)) fun d' H6 x6 B6 d6 f6 => ?_
    exact k d' H6 (x4.trans (x5.trans x6)) B6 d6 (f6.back (x4.trans x5))
theorem ok_Duel_eq (T : Tx K mg) : FnR P w K mg base (L2.CX P w) 9 (He.ma K (He.ga K "Duel") "__eq__") (spEqDu K) := by
  obtain ⟨fd, F⟩ := T.d_Duel_eq
  refine EM.fnr F sc_Duel_eq (fun _ _ _ _ _ _ us hl => match us, hl with | [_, _], _ => rfl) (fun vs H Q E h => ?_) (fun cdv A outer s H vs Q E hr h => ?_)
  · obtain ⟨T0, p, l, d, n, v, ws, e, rfl, _⟩ := h
    rfl
  · obtain ⟨T0, p, l, d, n, v, ws, e, rfl, B0, ⟨dx, q, a, h1, h2, h3, h4⟩, bt, bb, h⟩ := h
    refine ⟨_, (PSs.nox (pss_one (ps_ret (pe_and (pe_callB call_isi (by rfl) T.f_isinstance (by decide +kernel) (pa_cons (pv 1) (pa_cons (pe_glob (v := .ref (He.ga K "Duel")) (by rfl) T.g_Duel rfl) pa_nil))) (pe_and (pe_cmpR (op_sw (op_eqD hr.units)) (EM.pe_fldN (pv 0)) (EM.pe_fldN (pv 1)) (nomark _)) (pe_one (pe_cmpR (op_rEq T (hr.mono (by decide))) (EM.pe_fldN (pv 0)) (EM.pe_fldN (pv 1)) (nomark _)))))))), ?_⟩
    rcases h with ⟨d', ws', e', rfl, ⟨dy, q', a', g1, g2, g3, g4⟩, bt', bb', k⟩ | ⟨⟨t, ty, kt⟩, k⟩
    · refine ⟨_, rfl, .ref d', .ref (He.ga K "Duel"), _, _, true, rfl, .own _, isiB_ty T.isi_Duel T.cl_Duel g1.at_, kSelf, true, rfl, iteT ?_⟩
      repeat' array_mem_dec
      refine ⟨dT ws, dT ws', .tup (SqT.of h2.at_) (dp_ints ws), .tup (SqT.of g2.at_) (dp_ints ws'), shT ws, shT ws', ?_⟩
      rw [eqvT]
      by_cases c : ws = ws'
      · rw [decide_eq_true c]
        have n1 := h3.num h4
        have n2 := g3.num g4
        repeat' array_mem_dec
        rename_i H1 x1 B1
        have k2 := k H1 x1 B1
        rw [decide_eq_true c, Bool.true_and] at k2
        rw [rel_eq h4 g4]
        exact k2
      · rw [decide_eq_false c]
        have k2 := k H Ext.refl B0
        rw [decide_eq_false c] at k2
        repeat' array_mem_dec
        exact k2
    · exact ⟨_, rfl, v, .ref (He.ga K "Duel"), t, _, false, rfl, .own _, ty, kt, false, rfl, iteF k⟩
theorem ok_Duel_len (T : Tx K mg) : FnR P w K mg base (L2.CX P w) 1 (He.ma K (He.ga K "Duel") "__len__") (spLenD K) := by
  obtain ⟨fd, F⟩ := T.d_Duel_len
  refine EM.fnr F sc_Duel_len (fun _ _ _ _ _ _ us hl => match us, hl with | [_], _ => rfl) (fun vs H Q E h => ?_) (fun cdv A outer s H vs Q E hr h => ?_)
  · obtain ⟨p, d, ws, e, rfl, _⟩ := h
    rfl
  · obtain ⟨p, d, ws, e, rfl, ⟨dx, q, a, h1, h2, h3, h4⟩, k⟩ := h
    rw [← List.length_map (f := V.int)] at k
    refine ⟨_, (PSs.nox (pss_one (ps_ret (pe_callB EM.call_lenN (by rfl) T.f_len boot_len (pa_cons (EM.pe_fldN (pv 0)) pa_nil))))), ?_⟩
    repeat' array_mem_dec
end
end K40
namespace K40
open PySem PySem.Spec PyProof.Rows L2 EM

theorem sum_set : ∀ {l : List Int} {i : Nat} {x v : Int}, l[i]? = some x → (l.set i v).sum = l.sum - x + v
  | [], i, x, v, h => by simp at h
  | y :: r, 0, x, v, h => by
    have : y = x := by simpa using h
    subst this
    rw [List.set_cons_zero, List.sum_cons, List.sum_cons]
    omega
  | y :: r, i + 1, x, v, h => by
    have h2 : r[i]? = some x := by simpa using h
    rw [List.set_cons_succ, List.sum_cons, List.sum_cons, sum_set h2]
    omega
theorem sum_bd {B : Int} : ∀ {l : List Int}, (∀ w ∈ l, -B ≤ w ∧ w ≤ B) → -(l.length * B) ≤ l.sum ∧ l.sum ≤ l.length * B
  | [], _ => by simp
  | y :: r, h => by
    have h1 := h y List.mem_cons_self
    have h2 := sum_bd (l := r) fun w hw => h w (List.mem_cons_of_mem _ hw)
    rw [List.sum_cons, List.length_cons]
    have e : ((r.length + 1 : Nat) : Int) * B = r.length * B + B := by
      rw [Int.natCast_add, Int.add_mul]
      simp
    rw [e]
    omega
theorem sum_snoc (l : List Int) (x : Int) : (l ++ [x]).sum = l.sum + x := by rw [List.sum_append]; simp
def G60 : Int := 10 ^ 60
def spWeights : Sp := fun vs H Q _ => ∃ (T : List (Addr × Str)) (p l : Addr) (n : Nat), vs = [.ref p] ∧ Bs T p l n H ∧ n ≤ 800000 ∧ ∀ q ws H', GoodW ws → (∀ w ∈ ws, Bt 210 w) → Ext p H H' → Bs T p l (n + 300) H' → At p H' q (.lst (ws.map V.int)) → Q (.ref q) H'
def spLevel : Sp := fun vs H Q _ => ∃ (T : List (Addr × Str)) (p l : Addr) (n : Nat), vs = [.ref p] ∧ Bs T p l n H ∧ n ≤ 800000 ∧ ∀ q t b H', Low t b → -20 ≤ t → t ≤ 20 → b ≤ 7 → Ext p H H' → Bs T p l (n + 2) H' → At p H' q (.tup [.int t, .int b]) → Q (.ref q) H'
def spNumber (K : PySem.W.Frag) : Sp := fun vs H Q _ => ∃ (T : List (Addr × Str)) (p l q : Addr) (n : Nat) (t b : Int), vs = [.ref q] ∧ Bs T p l n H ∧ At p H q (.tup [.int t, .int b]) ∧ Low t b ∧ Bt 1900 t ∧ Bt 1900 b ∧ ∀ v H', NumP K p H' v t b → Ext p H H' → Bs T p l n H' → Q v H'
local macro_rules | `(tactic| sizeOf_list_dec) => `(tactic| first
  | with_reducible assumption
  | ((with_reducible apply EM.At.ext); (focus (with_reducible assumption)); (focus sizeOf_list_dec))
  | ((with_reducible apply EM.RatP.ext); (focus (with_reducible assumption)); (focus sizeOf_list_dec))
  | ((with_reducible apply EM.NumP.ext); (focus (with_reducible assumption)); (focus sizeOf_list_dec))
  | (with_reducible exact EM.Ext.refl)
  | ((with_reducible apply EM.Ext.back); (focus (with_reducible assumption)); (focus sizeOf_list_dec))
  | exact EM.NumP.int _
  | ((with_reducible apply EM.Mu.at_k); (focus (with_reducible assumption)); (focus sizeOf_list_dec); (focus sizeOf_list_dec); (focus (intro _ z; cases z; done)))
  | ((with_reducible apply EM.Mu.at_n); (focus (with_reducible assumption)); (focus sizeOf_list_dec); (focus (first | with_reducible assumption | ((apply EM.nn1); (focus (with_reducible assumption)); (focus sizeOf_list_dec)) | ((apply EM.nn2); (focus (with_reducible assumption)); (focus sizeOf_list_dec)))))
  | ((with_reducible apply EM.Mu.here); (focus (with_reducible assumption)); (focus sizeOf_list_dec))
  | ((with_reducible apply EM.Mu.rat); (focus (with_reducible assumption)); (focus sizeOf_list_dec); (focus sizeOf_list_dec))
  | ((with_reducible apply EM.Mu.num); (focus (with_reducible assumption)); (focus sizeOf_list_dec); (focus sizeOf_list_dec))
  | ((with_reducible apply EM.num_of_rat); (focus sizeOf_list_dec); (focus (first | with_reducible assumption | (apply EM.n_low; assumption))))
  | ((with_reducible apply EM.SeqV.xt); (focus (with_reducible assumption)); (focus sizeOf_list_dec))
  | ((with_reducible apply EM.ItsI.xt); (focus (with_reducible assumption)); (focus sizeOf_list_dec))
  | ((with_reducible apply EM.RatsP.xt); (focus (with_reducible assumption)); (focus sizeOf_list_dec))
  | ((with_reducible apply EM.PairsP.xt); (focus (with_reducible assumption)); (focus sizeOf_list_dec)))
local macro_rules | `(tactic| decreasing_trivial_pre_omega) => `(tactic| first
  | with_reducible assumption
  | exact EM.Bt.mono (by with_reducible assumption) (by decide)
  | exact EM.Bt.lit _ _ (by decide +kernel)
  | ((with_reducible refine EM.Bt.rng32 ?_ ?_) <;> omega)
  | ((with_reducible refine EM.Bt.rng70 ?_ ?_) <;> omega)
  | ((with_reducible refine EM.Bt.rng200 ?_ ?_) <;> omega)
  | ((with_reducible apply EM.Bt.mulM); (focus decreasing_trivial_pre_omega); (focus decreasing_trivial_pre_omega); (focus (first | decide | exact Nat.le_refl _)))
  | ((with_reducible apply EM.Bt.addM); (focus decreasing_trivial_pre_omega); (focus decreasing_trivial_pre_omega); (focus (first | decide | exact Nat.le_refl _)))
  | ((with_reducible apply EM.Bt.subM); (focus decreasing_trivial_pre_omega); (focus decreasing_trivial_pre_omega); (focus (first | decide | exact Nat.le_refl _)))
  | ((with_reducible apply EM.Bt.topL); (focus decreasing_trivial_pre_omega); (focus assumption); (focus (first | decide | exact Nat.le_refl _)))
  | ((with_reducible apply EM.Bt.botL); (focus decreasing_trivial_pre_omega); (focus assumption); (focus (first | decide | exact Nat.le_refl _)))
  | ((with_reducible apply EM.Bt.divM); (focus decreasing_trivial_pre_omega); (focus assumption); (focus (first | decide | exact Nat.le_refl _)))
  | ((with_reducible apply EM.Bt.negM); (focus decreasing_trivial_pre_omega); (focus (first | decide | exact Nat.le_refl _))))
local macro_rules | `(tactic| array_get_dec) => `(tactic| first
  | with_reducible assumption
  | ((with_reducible refine EM.gEq ?_); exact rfl)
  | ((with_reducible refine EM.gTru ?_); exact rfl)
  | ((with_reducible refine EM.gRef ?_); first | exact Or.inl ⟨_, rfl⟩ | exact Or.inr ⟨_, rfl⟩)
  | ((with_reducible apply EM.At.get); sizeOf_list_dec)
  | ((with_reducible apply EM.At.sqL); sizeOf_list_dec)
  | ((with_reducible apply EM.At.sqT); sizeOf_list_dec)
  | ((with_reducible apply EM.RatP.getK); (focus sizeOf_list_dec); (focus (exact rfl)))
  | (with_reducible exact EM.Num.int _)
  | ((with_reducible apply EM.NumP.getK); (focus sizeOf_list_dec); (focus (exact rfl)))
  | ((with_reducible apply EM.At.ext); (focus (with_reducible assumption)); (focus sizeOf_list_dec))
  | ((with_reducible apply EM.RatP.ext); (focus (with_reducible assumption)); (focus sizeOf_list_dec))
  | ((with_reducible apply EM.NumP.ext); (focus (with_reducible assumption)); (focus sizeOf_list_dec))
  | with_reducible exact Tx.cl_Ratio (by assumption)
  | with_reducible exact Tx.cl_Duel (by assumption)
  | with_reducible exact Tx.na_Ratio_top (by assumption)
  | with_reducible exact Tx.na_Ratio_bottom (by assumption)
  | with_reducible exact Tx.na_Duel_weights (by assumption)
  | with_reducible exact Tx.na_Duel_level (by assumption)
  | ((with_reducible refine EM.gAt ?_); sizeOf_list_dec)
  | ((with_reducible refine EM.gRat ?_); sizeOf_list_dec)
  | ((with_reducible refine EM.gNum ?_); sizeOf_list_dec)
  | ((with_reducible apply EM.TwoP.mk); (focus (with_reducible assumption)); (focus sizeOf_list_dec); (focus (first | with_reducible assumption | (apply EM.n_low; assumption))); (focus sizeOf_list_dec); (focus decreasing_trivial_pre_omega); (focus decreasing_trivial_pre_omega); (focus decreasing_trivial_pre_omega); (focus decreasing_trivial_pre_omega))
  | (with_reducible exact EM.Ext.refl)
  | ((with_reducible apply EM.Ext.back); (focus (with_reducible assumption)); (focus sizeOf_list_dec))
  | ((with_reducible apply EM.Bs.mono); (focus (with_reducible assumption)); omega)
  | ((with_reducible refine EM.gN ?_); first | decide | omega | exact Nat.le_of_ble_eq_true rfl | (simp only [List.length_cons, List.length_nil, List.length_append]; omega))
  | ((with_reducible refine EM.gM ?_); first | decide | omega | exact Nat.le_of_ble_eq_true rfl)
  | ((with_reducible refine EM.gI ?_); first | decide | omega)
  | ((with_reducible refine EM.gJ ?_); first | decide | omega)
  | ((with_reducible refine EM.gE ?_); first | decide | omega)
  | ((with_reducible refine EM.gB ?_); decreasing_trivial_pre_omega)
  | ((with_reducible apply EM.wideM); (focus decreasing_trivial_pre_omega); (focus decreasing_trivial_pre_omega); (focus decide)))
local macro_rules | `(tactic| infer_instance) => `(tactic| first
  | with_reducible assumption
  | exact DpAll.nil
  | (apply DpAll.cons; (focus infer_instance); (focus infer_instance))
  | with_reducible exact Dp.int _
  | exact Dp.int _
  | with_reducible exact Dp.str _
  | exact Dp.bl _
  | exact Dp.non
  | ((with_reducible apply EM.dp_lst); (focus array_get_dec); (focus infer_instance))
  | ((with_reducible apply EM.dp_tup); (focus array_get_dec); (focus infer_instance))
  | exact EM.dp_ints _)
local macro_rules | `(tactic| nofun) => `(tactic| first
  | with_reducible assumption
  | exact EM.FeL.nil
  | exact EM.FdL.nil
  | (apply EM.FeL.cons; (focus nofun); (focus nofun))
  | (apply EM.FdL.cons; (focus nofun); (focus nofun))
  | exact EM.Fe.int _
  | exact EM.Fe.bool _
  | exact EM.Fe.non
  | exact EM.Fe.str (EM.okS_of _)
  | (apply EM.Fe.str; apply EM.Fd.ok; (focus nofun))
  | (apply EM.Fe.list; (focus nofun))
  | (apply EM.Fe.tup; (focus nofun))
  | (apply EM.Fd.int; (focus decreasing_trivial_pre_omega))
  | exact EM.Fd.bool _
  | exact EM.Fd.non
  | (refine EM.Fd.bool _)
  | (apply EM.Fd.list; (focus nofun))
  | (apply EM.Fd.tup; (focus nofun)))
local macro_rules | `(tactic| array_mem_dec) => `(tactic| ((with_reducible refine EM.pr ?_); first
  | (with_reducible refine L2.iteT ?_)
  | (with_reducible refine L2.iteF ?_)
  | (with_reducible refine EM.ifNotT ?_)
  | (with_reducible refine EM.ifNotF ?_)
  | ((fail_if_success (with_reducible refine EM.gIf ?_)); first
  | array_get_dec
  | (refine EM.mk_low (by with_reducible assumption) (by with_reducible assumption) ?_ ?_; (focus array_get_dec))
  | (apply EM.isNum_sw; (focus sizeOf_list_dec))
  | (apply EM.of_sw; (focus (with_reducible assumption)); (focus sizeOf_list_dec))
  | (apply EM.neg_bs; (focus (with_reducible assumption)); (focus sizeOf_list_dec); (focus array_get_dec); (focus array_get_dec))
  | (apply EM.relw_bs; (focus (with_reducible assumption)); (focus sizeOf_list_dec); (focus sizeOf_list_dec); (focus array_get_dec); (focus decreasing_trivial_pre_omega); (focus decreasing_trivial_pre_omega); (focus decreasing_trivial_pre_omega); (focus decreasing_trivial_pre_omega))
  | ((apply EM.DnS.bs); (focus (with_reducible assumption)); (focus (intro _ z; cases z; done)))
  | ((apply EM.seqL); (focus sizeOf_list_dec))
  | ((apply EM.seqT); (focus sizeOf_list_dec))
  | ((apply EM.seqS); (focus sizeOf_list_dec))
  | ((apply EM.enS); (focus sizeOf_list_dec))
  | ((apply EM.lenL); (focus sizeOf_list_dec))
  | ((apply EM.lenT); (focus sizeOf_list_dec))
  | ((apply EM.lenS); (focus sizeOf_list_dec))
  | ((apply EM.isSeqL); (focus sizeOf_list_dec); (focus sizeOf_list_dec))
  | ((apply EM.isSeqT); (focus sizeOf_list_dec); (focus sizeOf_list_dec))
  | ((apply EM.isSeqS); (focus sizeOf_list_dec); (focus sizeOf_list_dec))
  | ((apply EM.lstS); (focus sizeOf_list_dec))
  | ((apply EM.sumS); (focus sizeOf_list_dec))
  | ((apply EM.tupSL); (focus sizeOf_list_dec))
  | ((apply EM.tupST); (focus sizeOf_list_dec))
  | ((apply EM.fld_bs); (focus sizeOf_list_dec); (focus (exact Tx.cl_Duel (by assumption))); (focus (first | exact Tx.na_Duel_weights (by assumption) | exact Tx.na_Duel_level (by assumption))); (focus (exact rfl)))
  | ((with_reducible refine EM.New.bs (by with_reducible assumption) ?_ ?_); (focus (intro _ z; cases z; done)))
  | ((with_reducible refine EM.gMu ?_); (with_reducible apply EM.mu_bs); (focus (with_reducible assumption)); (focus sizeOf_list_dec); (focus (apply EM.nel2; (focus (with_reducible assumption)); (focus (with_reducible assumption)))); intro _ _ _)
  | intro _
  | (apply And.intro; (focus array_get_dec))
  | apply Exists.intro
  | (refine EM.draw_bs (by with_reducible assumption) ?_ ?_ ?_ ?_; (focus array_get_dec); (focus array_get_dec); (focus (first | decide | omega)))
  | (apply EM.pick_int; (focus (with_reducible assumption)); (focus array_get_dec); (focus sizeOf_list_dec); (focus ((repeat' (first | exact EM.AllI.nil | apply EM.AllI.cons)); done)); (focus (exact Nat.le_of_ble_eq_true rfl)); (focus (exact Nat.le_of_ble_eq_true rfl)))
  | (apply EM.pick_bs; (focus (with_reducible assumption)); (focus array_get_dec); (focus sizeOf_list_dec); (focus (exact Nat.le_of_ble_eq_true rfl)); (focus (exact Nat.le_of_ble_eq_true rfl)))
  | ((apply EM.repr_sw); (focus infer_instance); (focus nofun); (focus decide))
  | ((apply EM.eqd_same); (focus infer_instance); (focus infer_instance); (focus nofun); (focus decide))
  | ((apply EM.ned_same); (focus infer_instance); (focus infer_instance); (focus nofun); (focus decide))
  | ((apply EM.eqd_sw); (focus infer_instance); (focus infer_instance); (focus nofun); (focus nofun); (focus decide))
  | ((apply EM.ned_sw); (focus infer_instance); (focus infer_instance); (focus nofun); (focus nofun); (focus decide))
  | (refine EM.cut_bs (by with_reducible assumption) ?_ ?_ ?_; (focus array_get_dec); (focus array_get_dec)))))
section
variable {P : Program} {w : World} {K : PySem.W.Frag} {mg : Str → Option Value} {base : Heap}
theorem ok_Lweights (T : Tx K mg) : FnR P w K mg base (L2.CX P w) 3 (He.ga K "_law_weights") (spWeights) := by
  obtain ⟨fd, F⟩ := T.d_Lweights
  refine EM.fnr F sc_Lweights (fun _ _ _ _ _ _ us hl => match us, hl with | [_], _ => rfl) (fun vs H Q E h => ?_) (fun cdv A outer s H vs Q E hr h => ?_)
  · obtain ⟨T0, p, l, n, rfl, _⟩ := h
    rfl
  · obtain ⟨T0, p, l, n, rfl, B0, hn, k⟩ := h
    refine ⟨_, (PSs.nox (pss_cons (ps_set (i := 1) sc_Lweights.nd rfl (Or.inl rfl) (EM.pe_cR ((ok_Lpick T).sw) (hr.mono (by decide)) T.k__law_pick T.g__law_pick passL (pa_cons (pv 0) (pa_cons (EM.pe_lstN (pa_cons pe_int (pa_cons pe_int (pa_cons pe_int (pa_cons pe_int (pa_cons pe_int (pa_cons pe_int pa_nil))))))) pa_nil))))
 (pss_cons (EM.setLcN (ps_setLc (i := 2) (own := [("_law_k", 3)]) (g := gName 3) rfl sc_Lweights.nd rfl rfl (sw_true rfl rfl rfl (by decide +kernel)) (pi_range1 (by rfl) T.f_range (pa_cons (pe_op op_sub (pv 1) pe_int) pa_nil)).mc (blkOk_by (N := ["_law_pen_here", "_law_many", "_law_found", "_law_k", "_law_at", "_law_one"]) (sc := defScope s_Lweights) (by decide +kernel)) (fun _ _ _ _ _ => (pg_name (i := 3) sc_Lweights.nd rfl (Or.inl rfl))) (fun _ _ _ _ _ => pts_nil) (fun _ _ _ _ _ => (PE.mc (EM.pe_cR ((ok_Lpick T).sw) (hr.mono (by decide)) T.k__law_pick T.g__law_pick passL (pa_cons (pv 0) (pa_cons (EM.pe_lstN (pa_cons pe_int (pa_cons pe_int (pa_cons pe_int (pa_cons (pe_un un_neg pe_int) (pa_cons pe_int (pa_cons (pe_op op_sub (EM.pe_cR ((ok_Ldraw T).sw) (hr.mono (by decide)) T.k__law_draw T.g__law_draw passL (pa_cons (pv 0) (pa_cons pe_int pa_nil))) pe_int) pa_nil))))))) pa_nil)))))))
 (pss_cons (ps_set (i := 4) sc_Lweights.nd rfl (Or.inl rfl) (EM.pe_cR ((ok_Ldraw T).sw) (hr.mono (by decide)) T.k__law_draw T.g__law_draw passL (pa_cons (pv 0) (pa_cons (pe_op op_sub (pv 1) pe_int) pa_nil))))
 (pss_cons (ps_asg (pe_op op_add (pe_ix ix_list (pv 2) (pv 4) (fun _ _ => rfl)) (EM.pe_cR ((ok_Lpick T).sw) (hr.mono (by decide)) T.k__law_pick T.g__law_pick passL (pa_cons (pv 0) (pa_cons (EM.pe_lstN (pa_cons pe_int (pa_cons pe_int (pa_cons (pe_op op_sub (pe_op (EM.op_powV 10 59 100000000000000000000000000000000000000000000000000000000000 ⟨by decide, by decide, by decide⟩ (by decide +kernel)) pe_int pe_int) (EM.pe_cR ((ok_Ldraw T).sw) (hr.mono (by decide)) T.k__law_draw T.g__law_draw passL (pa_cons (pv 0) (pa_cons pe_int pa_nil)))) pa_nil)))) pa_nil)))) (pg_sub (pv 2) (pv 4) EM.set_listN))
 (pss_cons (ps_expr (EM.pe_appN (pv 2) (pe_op op_sub pe_int (pe_callB (EM.call_sumSN rfl) (by rfl) T.f_sum (by decide +kernel) (pa_cons (pv 2) pa_nil)))))
 (pss_cons (ps_if (pt_cmpR (EM.op_eqNil hr.units) (EM.lcN (pe_lc (own := [("_law_one", 5)]) (g := gName 5) rfl sc_Lweights.nd (EM.pi_seqN (pv 2)).mc (blkOk_by (N := ["_law_pen_here", "_law_many", "_law_found", "_law_k", "_law_at", "_law_one"]) (sc := defScope s_Lweights) (by decide +kernel)) (fun _ _ _ _ _ => (pg_name (i := 5) sc_Lweights.nd rfl (Or.inl rfl))) (fun _ _ _ _ _ => (pts_one (pt_cmpR op_ne (pv 5) pe_int (nomark _)))) (fun _ _ _ _ _ => (PE.mc (pv 5))))) (EM.pe_lstN pa_nil) (nomark _))
  (pss_cons (ps_asg pe_int (pg_sub (pv 2) pe_int EM.set_listN))
 (pss_one (ps_asg (pe_un un_neg pe_int) (pg_sub (pv 2) (pe_op op_add (pv 4) pe_int) EM.set_listN)))) pss_nil)
 (pss_one (ps_ret (pv 2)))))))))), ?_⟩
    repeat' array_mem_dec
    rename_i L1 H1 x1 B1 a1 n1 m H2 hm x2 B2
    obtain ⟨mn, rfl, m4, m128, m2⟩ : ∃ mn : Nat, m = mn ∧ 4 ≤ mn ∧ mn ≤ 128 ∧ mn % 2 = 0 := by
      simp only [List.mem_cons, List.not_mem_nil, or_false] at hm
      rcases hm with rfl | rfl | rfl | rfl | rfl | rfl
      · exact ⟨4, rfl, by decide, by decide, by decide⟩
      · exact ⟨4, rfl, by decide, by decide, by decide⟩
      · exact ⟨6, rfl, by decide, by decide, by decide⟩
      · exact ⟨8, rfl, by decide, by decide, by decide⟩
      · exact ⟨12, rfl, by decide, by decide, by decide⟩
      · exact ⟨128, rfl, by decide, by decide, by decide⟩
    have x02 := x1.trans x2
    clear x1 x2 B1 a1 n1 hm
    refine ⟨by omega, by omega, ?_⟩
    refine LcS.lc 2 walk_range B2 (fun i y _ => ∃ w : Int, y = .int w ∧ -100 ≤ w ∧ w ≤ 100) (by omega) (fun _ _ => trivial) ?_ ?_
    · rintro i y K2 K3 hi y2 C2 ⟨rfl, rfl⟩
      repeat' array_mem_dec
      rename_i d H5 d0 d1 x5 B5 q6 H6 x6 B6 a6 n6 z H7 hz x7 B7
      simp only [List.mem_cons, List.not_mem_nil, or_false] at hz
      omega
    rintro D ys H4 hD hlen hf x4 B4 aD
    obtain ⟨ws, rfl, hw5⟩ := ints_of (P := fun w => -100 ≤ w ∧ w ≤ 100) (ys := ys) (fun y hy => by
      obtain ⟨i, hi⟩ := List.mem_iff_getElem?.mp hy
      exact hf i y hi)
    have hm : (ws.map V.int).length = ws.length := List.length_map ..
    have hl : ws.length = mn - 1 := by rw [← hm, hlen]; omega
    clear hf
    repeat' array_mem_dec
    rename_i d H5 d0 d1 x5 B5
    have hdl : d.toNat < ws.length := by omega
    have ew : ws[d.toNat]? = some (ws.getD d.toNat 0) := by rw [List.getD_eq_getElem?_getD, List.getElem?_eq_getElem hdl]; rfl
    refine ⟨at_of (j := d.toNat) (by omega) (by rw [List.getElem?_map, ew]; rfl), ?_⟩
    repeat' array_mem_dec
    rename_i e H6 e0 e1 x6 B6 q7 H7 x7 B7 a7 n7 z H8 hz x8 B8
    have hz2 : 0 ≤ z ∧ z ≤ G60 := by
      unfold G60
      simp only [List.mem_cons, List.not_mem_nil, or_false] at hz
      rcases hz with rfl | rfl | rfl
      · decide +kernel
      · decide +kernel
      · omega
    have hj : ixN (ws.map V.int).length d = some d.toNat := by
      unfold ixN
      rw [if_pos d0, if_pos (by omega)]
    refine ⟨hj, fun H9 mu => ?_⟩
    have aD8 : At p H8 D (.lst (ws.map V.int)) := by array_get_dec
    have hw0 := hw5 _ (List.mem_of_getElem? ew)
    rw [show (ws.map V.int).set d.toNat (.int (ws.getD d.toNat 0 + z)) = (ws.set d.toNat (ws.getD d.toNat 0 + z)).map V.int from List.map_set.symm] at mu
    obtain ⟨us, hus⟩ : ∃ us, us = ws.set d.toNat (ws.getD d.toNat 0 + z) := ⟨_, rfl⟩
    rw [← hus] at mu
    have ul : us.length = mn - 1 := by rw [hus, List.length_set]; exact hl
    have ub : ∀ w ∈ us, -(2 * G60) ≤ w ∧ w ≤ 2 * G60 := fun w hw => by
      rw [hus] at hw
      have g6 : (1000 : Int) ≤ G60 := by decide +kernel
      rcases List.mem_or_eq_of_mem_set hw with h | h
      · have := hw5 w h
        omega
      · omega
    have x48 : Ext p H2 H8 := x4.trans (x5.trans (x6.trans (x7.trans x8)))
    have x49 : Ext p H2 H9 := Ext.mu (Hn := H2) Ext.refl hD x48 mu
    have aD9 : At p H9 D (.lst (us.map V.int)) := mu.here aD8
    have B9 : Bs T0 p l (n + 260) H9 := (mu.bs B8 aD8 (nel2 hD B2)).mono (by omega)
    clear x48 mu aD8 hus hw0 hj hz hz2 a7 n7 x8 x7 x6 x5 B8 B7 B6 B5 ew hdl hw5 aD B4 hm hlen
    repeat' array_mem_dec
    refine ⟨by rw [List.length_map]; omega, fun H10 mu => ?_⟩
    have bds := sum_bd ub
    have g6 : (G60 : Int) = 1000000000000000000000000000000000000000000000000000000000000 := by decide +kernel
    rw [show us.map V.int ++ [V.int (0 - us.sum)] = (us ++ [0 - us.sum]).map V.int by rw [List.map_append]; rfl] at mu
    have x010 : Ext p H2 H10 := Ext.mu (Hn := H2) Ext.refl hD x49 mu
    have aD10 : At p H10 D (.lst ((us ++ [0 - us.sum]).map V.int)) := mu.here aD9
    have B10 : Bs T0 p l (n + 260) H10 := mu.bs B9 aD9 (nel2 hD B2)
    have vl : (us ++ [0 - us.sum]).length = mn := by rw [List.length_append]; simp; omega
    have vs0 : (us ++ [0 - us.sum]).sum = 0 := by rw [sum_snoc]; omega
    have vb : ∀ w ∈ us ++ [0 - us.sum], Bt 210 w := fun w hw => by
      have h2 : -(400 * G60) ≤ w ∧ w ≤ 400 * G60 := by
        rcases List.mem_append.mp hw with h | h
        · have := ub w h
          omega
        · rw [List.mem_singleton.mp h]
          have : (us.length : Int) ≤ 128 := by omega
          have h3 : (us.length : Int) * (2 * G60) ≤ 128 * (2 * G60) := Int.mul_le_mul_of_nonneg_right this (by omega)
          omega
      show w.natAbs < 2 ^ 210
      rw [show (2 : Nat) ^ 210 = 1645504557321206042154969182557350504982735865633579863348609024 from by decide +kernel]
      omega
    obtain ⟨fs, hfs⟩ : ∃ fs, fs = us ++ [0 - us.sum] := ⟨_, rfl⟩
    rw [← hfs] at aD10 vl vs0 vb
    clear mu aD9 B9 x49 bds ub hfs
    repeat' array_mem_dec
    rename_i J wk
    refine LcS.lcP wk B10 (fun i acc => acc = [] ↔ ∀ (j : Nat) (w : Int), j < i → fs[j]? = some w → w = 0) ⟨fun _ j w z => absurd z (Nat.not_lt_zero j), fun _ => rfl⟩ (by rw [List.length_map]; omega) (fun H' x => aD10.eq x) ?_ ?_
    · rintro i y acc K2 K3 Rf Rt hk hP y2 C2 ⟨rfl, hv⟩ kf kt
      rw [List.getElem?_map] at hv
      obtain ⟨w, ew, rfl⟩ := Option.map_eq_some_iff.mp hv
      repeat' array_mem_dec
      refine ifNeI (fun z => ?_) (fun z => ?_)
      · exact ⟨Rt, ⟨.int w, rfl, kt _ _ Ext.refl C2 ⟨fun h => absurd h (by simp), fun h => absurd (h i w (by omega) ew) z⟩⟩, fun _ _ q => q⟩
      · refine kf _ Ext.refl C2 ⟨fun h j v hj e => ?_, fun h => hP.mpr fun j v hj e => h j v (by omega) e⟩
        rcases Nat.lt_or_ge j i with c | c
        · exact hP.mp h j v c e
        · have : j = i := by omega
          subst this
          rw [ew] at e
          cases e
          exact z
    rintro E2 ys H11 hE hP hyl x11 B11 aE
    rw [List.length_map, vl] at hP
    repeat' array_mem_dec
    rename_i q12 H12 x12 B12 a12 n12
    have x112 := x11.trans x12
    have aD12 := aD10.ext x112
    have xH12 : Ext p H H12 := (x02.trans x010).trans x112
    cases hy : ys.isEmpty with
    | true =>
      have hz := hP.mp (List.isEmpty_iff.mp hy)
      have dl : d.toNat + 1 < mn := by omega
      have f0 : fs[0]? = some 0 := by
        have e : fs[0]? = some (fs[0]'(by omega)) := List.getElem?_eq_getElem (by omega)
        rw [e, hz 0 _ (by omega) e]
      have f1 : fs[d.toNat + 1]? = some 0 := by
        have e : fs[d.toNat + 1]? = some (fs[d.toNat + 1]'(by omega)) := List.getElem?_eq_getElem (by omega)
        rw [e, hz _ _ dl e]
      have f2 : (fs.set 0 1)[d.toNat + 1]? = some 0 := by
        rw [List.getElem?_set_ne (by omega)]
        exact f1
      have s1 := sum_set (v := 1) f0
      have s2 := sum_set (v := -1) f2
      have gw : GoodW ((fs.set 0 1).set (d.toNat + 1) (-1)) := .of (by rw [List.length_set, List.length_set, vl]; exact ⟨m2, m4, m128⟩) (by rw [s2, s1, vs0]; decide) ⟨-1, List.mem_iff_getElem?.mpr ⟨d.toNat + 1, by rw [List.getElem?_set_self (by rw [List.length_set]; omega)]⟩, by decide⟩
      have gb : ∀ w ∈ (fs.set 0 1).set (d.toNat + 1) (-1), Bt 210 w := fun w hw => by
        rcases List.mem_or_eq_of_mem_set hw with h | rfl
        · rcases List.mem_or_eq_of_mem_set h with h | rfl
          · exact vb w h
          · exact Bt.lit _ _ (by decide +kernel)
        · exact Bt.lit _ _ (by decide +kernel)
      have j0 : ixN (fs.map V.int).length 0 = some 0 := by
        unfold ixN
        rw [if_pos (by decide), if_pos (by rw [List.length_map]; omega)]
        rfl
      have j1 : ixN ((fs.set 0 1).map V.int).length (d + 1) = some (d.toNat + 1) := by
        unfold ixN
        rw [if_pos (by omega), if_pos (by rw [List.length_map, List.length_set]; omega)]
        congr 1
        omega
      refine ifP rfl ?_
      repeat' array_mem_dec
      rename_i H13 mu1 B13
      have e0 : (fs.map V.int).set 0 (.int 1) = (fs.set 0 1).map V.int := List.map_set.symm
      refine ⟨by rw [e0]; exact j1, fun H14 mu2 => ?_⟩
      have aD13 : At p H13 D (.lst ((fs.map V.int).set 0 (.int 1))) := mu1.here aD12
      have aD14 := mu2.here aD13
      have e1 : ((fs.map V.int).set 0 (.int 1)).set (d.toNat + 1) ((fun i => V.int (-i)) 1) = ((fs.set 0 1).set (d.toNat + 1) (-1)).map V.int := by rw [e0]; exact List.map_set.symm
      rw [e1] at aD14
      have x13 : Ext p H2 H13 := Ext.mu (Hn := H2) Ext.refl hD (x010.trans x112) mu1
      have x14 : Ext p H2 H14 := Ext.mu (Hn := H2) Ext.refl hD x13 mu2
      have B14 := mu2.bs B13 aD13 (nel2 hD B2)
      exact ⟨_, rfl, k D _ H14 gw gb (x02.trans x14) (B14.mono (by omega)) aD14⟩
    | false =>
      refine ifN rfl ?_
      have gw : GoodW fs := .of (by rw [vl]; exact ⟨m2, m4, m128⟩) vs0 (Classical.byContradiction fun z => by
        have : ys = [] := hP.mpr fun j w hj e => Classical.byContradiction fun y => z ⟨w, List.mem_of_getElem? e, y⟩
        rw [this] at hy
        cases hy)
      exact ⟨_, rfl, k D _ H12 gw vb xH12 (B12.mono (by omega)) aD12⟩
end
end K40
namespace K40
open PySem PySem.Spec PyProof.Rows L2 EM

theorem low_small {t b : Int} (h1 : -20 ≤ t) (h2 : t ≤ 20) (h3 : b = 1 ∨ b = 2 ∨ b = 3 ∨ b = 7) (h4 : b = 1 ∨ t % b ≠ 0) : Low t b := by
  have h5 : t = -20 ∨ t = -19 ∨ t = -18 ∨ t = -17 ∨ t = -16 ∨ t = -15 ∨ t = -14 ∨ t = -13 ∨ t = -12 ∨ t = -11 ∨ t = -10 ∨ t = -9 ∨ t = -8 ∨ t = -7 ∨ t = -6 ∨ t = -5 ∨ t = -4 ∨ t = -3 ∨ t = -2 ∨ t = -1 ∨ t = 0 ∨ t = 1 ∨ t = 2 ∨ t = 3 ∨ t = 4 ∨ t = 5 ∨ t = 6 ∨ t = 7 ∨ t = 8 ∨ t = 9 ∨ t = 10 ∨ t = 11 ∨ t = 12 ∨ t = 13 ∨ t = 14 ∨ t = 15 ∨ t = 16 ∨ t = 17 ∨ t = 18 ∨ t = 19 ∨ t = 20 := by omega
  refine ⟨by omega, ?_⟩
  rcases h3 with rfl | rfl | rfl | rfl
  · exact Int.gcd_one_right t
  all_goals
    rcases h4 with h4 | h4
    · cases h4
    · rcases h5 with rfl | rfl | rfl | rfl | rfl | rfl | rfl | rfl | rfl | rfl | rfl | rfl | rfl | rfl | rfl | rfl | rfl | rfl | rfl | rfl | rfl | rfl | rfl | rfl | rfl | rfl | rfl | rfl | rfl | rfl | rfl | rfl | rfl | rfl | rfl | rfl | rfl | rfl | rfl | rfl | rfl <;> first | decide | exact absurd (by decide) h4
local macro_rules | `(tactic| sizeOf_list_dec) => `(tactic| first
  | with_reducible assumption
  | ((with_reducible apply EM.At.ext); (focus (with_reducible assumption)); (focus sizeOf_list_dec))
  | ((with_reducible apply EM.RatP.ext); (focus (with_reducible assumption)); (focus sizeOf_list_dec))
  | ((with_reducible apply EM.NumP.ext); (focus (with_reducible assumption)); (focus sizeOf_list_dec))
  | (with_reducible exact EM.Ext.refl)
  | ((with_reducible apply EM.Ext.back); (focus (with_reducible assumption)); (focus sizeOf_list_dec))
  | exact EM.NumP.int _
  | ((with_reducible apply EM.Mu.at_k); (focus (with_reducible assumption)); (focus sizeOf_list_dec); (focus sizeOf_list_dec); (focus (intro _ z; cases z; done)))
  | ((with_reducible apply EM.Mu.at_n); (focus (with_reducible assumption)); (focus sizeOf_list_dec); (focus (first | with_reducible assumption | ((apply EM.nn1); (focus (with_reducible assumption)); (focus sizeOf_list_dec)) | ((apply EM.nn2); (focus (with_reducible assumption)); (focus sizeOf_list_dec)))))
  | ((with_reducible apply EM.Mu.here); (focus (with_reducible assumption)); (focus sizeOf_list_dec))
  | ((with_reducible apply EM.Mu.rat); (focus (with_reducible assumption)); (focus sizeOf_list_dec); (focus sizeOf_list_dec))
  | ((with_reducible apply EM.Mu.num); (focus (with_reducible assumption)); (focus sizeOf_list_dec); (focus sizeOf_list_dec))
  | ((with_reducible apply EM.num_of_rat); (focus sizeOf_list_dec); (focus (first | with_reducible assumption | (apply EM.n_low; assumption))))
  | ((with_reducible apply EM.SeqV.xt); (focus (with_reducible assumption)); (focus sizeOf_list_dec))
  | ((with_reducible apply EM.ItsI.xt); (focus (with_reducible assumption)); (focus sizeOf_list_dec))
  | ((with_reducible apply EM.RatsP.xt); (focus (with_reducible assumption)); (focus sizeOf_list_dec))
  | ((with_reducible apply EM.PairsP.xt); (focus (with_reducible assumption)); (focus sizeOf_list_dec)))
local macro_rules | `(tactic| decreasing_trivial_pre_omega) => `(tactic| first
  | with_reducible assumption
  | exact EM.Bt.mono (by with_reducible assumption) (by decide)
  | exact EM.Bt.lit _ _ (by decide +kernel)
  | ((with_reducible refine EM.Bt.rng32 ?_ ?_) <;> omega)
  | ((with_reducible refine EM.Bt.rng70 ?_ ?_) <;> omega)
  | ((with_reducible refine EM.Bt.rng200 ?_ ?_) <;> omega)
  | ((with_reducible apply EM.Bt.mulM); (focus decreasing_trivial_pre_omega); (focus decreasing_trivial_pre_omega); (focus (first | decide | exact Nat.le_refl _)))
  | ((with_reducible apply EM.Bt.addM); (focus decreasing_trivial_pre_omega); (focus decreasing_trivial_pre_omega); (focus (first | decide | exact Nat.le_refl _)))
  | ((with_reducible apply EM.Bt.subM); (focus decreasing_trivial_pre_omega); (focus decreasing_trivial_pre_omega); (focus (first | decide | exact Nat.le_refl _)))
  | ((with_reducible apply EM.Bt.topL); (focus decreasing_trivial_pre_omega); (focus assumption); (focus (first | decide | exact Nat.le_refl _)))
  | ((with_reducible apply EM.Bt.botL); (focus decreasing_trivial_pre_omega); (focus assumption); (focus (first | decide | exact Nat.le_refl _)))
  | ((with_reducible apply EM.Bt.divM); (focus decreasing_trivial_pre_omega); (focus assumption); (focus (first | decide | exact Nat.le_refl _)))
  | ((with_reducible apply EM.Bt.negM); (focus decreasing_trivial_pre_omega); (focus (first | decide | exact Nat.le_refl _))))
local macro_rules | `(tactic| array_get_dec) => `(tactic| first
  | with_reducible assumption
  | ((with_reducible refine EM.gEq ?_); exact rfl)
  | ((with_reducible refine EM.gTru ?_); exact rfl)
  | ((with_reducible refine EM.gRef ?_); first | exact Or.inl ⟨_, rfl⟩ | exact Or.inr ⟨_, rfl⟩)
  | ((with_reducible apply EM.At.get); sizeOf_list_dec)
  | ((with_reducible apply EM.At.sqL); sizeOf_list_dec)
  | ((with_reducible apply EM.At.sqT); sizeOf_list_dec)
  | ((with_reducible apply EM.RatP.getK); (focus sizeOf_list_dec); (focus (exact rfl)))
  | (with_reducible exact EM.Num.int _)
  | ((with_reducible apply EM.NumP.getK); (focus sizeOf_list_dec); (focus (exact rfl)))
  | ((with_reducible apply EM.At.ext); (focus (with_reducible assumption)); (focus sizeOf_list_dec))
  | ((with_reducible apply EM.RatP.ext); (focus (with_reducible assumption)); (focus sizeOf_list_dec))
  | ((with_reducible apply EM.NumP.ext); (focus (with_reducible assumption)); (focus sizeOf_list_dec))
  | with_reducible exact Tx.cl_Ratio (by assumption)
  | with_reducible exact Tx.cl_Duel (by assumption)
  | with_reducible exact Tx.na_Ratio_top (by assumption)
  | with_reducible exact Tx.na_Ratio_bottom (by assumption)
  | with_reducible exact Tx.na_Duel_weights (by assumption)
  | with_reducible exact Tx.na_Duel_level (by assumption)
  | ((with_reducible refine EM.gAt ?_); sizeOf_list_dec)
  | ((with_reducible refine EM.gRat ?_); sizeOf_list_dec)
  | ((with_reducible refine EM.gNum ?_); sizeOf_list_dec)
  | ((with_reducible apply EM.TwoP.mk); (focus (with_reducible assumption)); (focus sizeOf_list_dec); (focus (first | with_reducible assumption | (apply EM.n_low; assumption))); (focus sizeOf_list_dec); (focus decreasing_trivial_pre_omega); (focus decreasing_trivial_pre_omega); (focus decreasing_trivial_pre_omega); (focus decreasing_trivial_pre_omega))
  | (with_reducible exact EM.Ext.refl)
  | ((with_reducible apply EM.Ext.back); (focus (with_reducible assumption)); (focus sizeOf_list_dec))
  | ((with_reducible apply EM.Bs.mono); (focus (with_reducible assumption)); omega)
  | ((with_reducible refine EM.gN ?_); first | decide | omega | exact Nat.le_of_ble_eq_true rfl | (simp only [List.length_cons, List.length_nil, List.length_append]; omega))
  | ((with_reducible refine EM.gM ?_); first | decide | omega | exact Nat.le_of_ble_eq_true rfl)
  | ((with_reducible refine EM.gI ?_); first | decide | omega)
  | ((with_reducible refine EM.gJ ?_); first | decide | omega)
  | ((with_reducible refine EM.gE ?_); first | decide | omega)
  | ((with_reducible refine EM.gB ?_); decreasing_trivial_pre_omega)
  | ((with_reducible apply EM.wideM); (focus decreasing_trivial_pre_omega); (focus decreasing_trivial_pre_omega); (focus decide)))
local macro_rules | `(tactic| infer_instance) => `(tactic| first
  | with_reducible assumption
  | exact DpAll.nil
  | (apply DpAll.cons; (focus infer_instance); (focus infer_instance))
  | with_reducible exact Dp.int _
  | exact Dp.int _
  | with_reducible exact Dp.str _
  | exact Dp.bl _
  | exact Dp.non
  | ((with_reducible apply EM.dp_lst); (focus array_get_dec); (focus infer_instance))
  | ((with_reducible apply EM.dp_tup); (focus array_get_dec); (focus infer_instance))
  | exact EM.dp_ints _)
local macro_rules | `(tactic| nofun) => `(tactic| first
  | with_reducible assumption
  | exact EM.FeL.nil
  | exact EM.FdL.nil
  | (apply EM.FeL.cons; (focus nofun); (focus nofun))
  | (apply EM.FdL.cons; (focus nofun); (focus nofun))
  | exact EM.Fe.int _
  | exact EM.Fe.bool _
  | exact EM.Fe.non
  | exact EM.Fe.str (EM.okS_of _)
  | (apply EM.Fe.str; apply EM.Fd.ok; (focus nofun))
  | (apply EM.Fe.list; (focus nofun))
  | (apply EM.Fe.tup; (focus nofun))
  | (apply EM.Fd.int; (focus decreasing_trivial_pre_omega))
  | exact EM.Fd.bool _
  | exact EM.Fd.non
  | (refine EM.Fd.bool _)
  | (apply EM.Fd.list; (focus nofun))
  | (apply EM.Fd.tup; (focus nofun)))
local macro_rules | `(tactic| array_mem_dec) => `(tactic| ((with_reducible refine EM.pr ?_); first
  | (with_reducible refine L2.iteT ?_)
  | (with_reducible refine L2.iteF ?_)
  | (with_reducible refine EM.ifNotT ?_)
  | (with_reducible refine EM.ifNotF ?_)
  | ((fail_if_success (with_reducible refine EM.gIf ?_)); first
  | array_get_dec
  | (refine EM.mk_low (by with_reducible assumption) (by with_reducible assumption) ?_ ?_; (focus array_get_dec))
  | (apply EM.isNum_sw; (focus sizeOf_list_dec))
  | (apply EM.of_sw; (focus (with_reducible assumption)); (focus sizeOf_list_dec))
  | (apply EM.neg_bs; (focus (with_reducible assumption)); (focus sizeOf_list_dec); (focus array_get_dec); (focus array_get_dec))
  | (apply EM.relw_bs; (focus (with_reducible assumption)); (focus sizeOf_list_dec); (focus sizeOf_list_dec); (focus array_get_dec); (focus decreasing_trivial_pre_omega); (focus decreasing_trivial_pre_omega); (focus decreasing_trivial_pre_omega); (focus decreasing_trivial_pre_omega))
  | ((apply EM.DnS.bs); (focus (with_reducible assumption)); (focus (intro _ z; cases z; done)))
  | ((apply EM.seqL); (focus sizeOf_list_dec))
  | ((apply EM.seqT); (focus sizeOf_list_dec))
  | ((apply EM.seqS); (focus sizeOf_list_dec))
  | ((apply EM.enS); (focus sizeOf_list_dec))
  | ((apply EM.lenL); (focus sizeOf_list_dec))
  | ((apply EM.lenT); (focus sizeOf_list_dec))
  | ((apply EM.lenS); (focus sizeOf_list_dec))
  | ((apply EM.isSeqL); (focus sizeOf_list_dec); (focus sizeOf_list_dec))
  | ((apply EM.isSeqT); (focus sizeOf_list_dec); (focus sizeOf_list_dec))
  | ((apply EM.isSeqS); (focus sizeOf_list_dec); (focus sizeOf_list_dec))
  | ((apply EM.lstS); (focus sizeOf_list_dec))
  | ((apply EM.sumS); (focus sizeOf_list_dec))
  | ((apply EM.tupSL); (focus sizeOf_list_dec))
  | ((apply EM.tupST); (focus sizeOf_list_dec))
  | ((apply EM.fld_bs); (focus sizeOf_list_dec); (focus (exact Tx.cl_Duel (by assumption))); (focus (first | exact Tx.na_Duel_weights (by assumption) | exact Tx.na_Duel_level (by assumption))); (focus (exact rfl)))
  | ((with_reducible refine EM.New.bs (by with_reducible assumption) ?_ ?_); (focus (intro _ z; cases z; done)))
  | ((with_reducible refine EM.gMu ?_); (with_reducible apply EM.mu_bs); (focus (with_reducible assumption)); (focus sizeOf_list_dec); (focus (apply EM.nel2; (focus (with_reducible assumption)); (focus (with_reducible assumption)))); intro _ _ _)
  | intro _
  | (apply And.intro; (focus array_get_dec))
  | apply Exists.intro
  | (refine EM.draw_bs (by with_reducible assumption) ?_ ?_ ?_ ?_; (focus array_get_dec); (focus array_get_dec); (focus (first | decide | omega)))
  | (apply EM.pick_int; (focus (with_reducible assumption)); (focus array_get_dec); (focus sizeOf_list_dec); (focus ((repeat' (first | exact EM.AllI.nil | apply EM.AllI.cons)); done)); (focus (exact Nat.le_of_ble_eq_true rfl)); (focus (exact Nat.le_of_ble_eq_true rfl)))
  | (apply EM.pick_bs; (focus (with_reducible assumption)); (focus array_get_dec); (focus sizeOf_list_dec); (focus (exact Nat.le_of_ble_eq_true rfl)); (focus (exact Nat.le_of_ble_eq_true rfl)))
  | ((apply EM.repr_sw); (focus infer_instance); (focus nofun); (focus decide))
  | ((apply EM.eqd_same); (focus infer_instance); (focus infer_instance); (focus nofun); (focus decide))
  | ((apply EM.ned_same); (focus infer_instance); (focus infer_instance); (focus nofun); (focus decide))
  | ((apply EM.eqd_sw); (focus infer_instance); (focus infer_instance); (focus nofun); (focus nofun); (focus decide))
  | ((apply EM.ned_sw); (focus infer_instance); (focus infer_instance); (focus nofun); (focus nofun); (focus decide))
  | (refine EM.cut_bs (by with_reducible assumption) ?_ ?_ ?_; (focus array_get_dec); (focus array_get_dec)))))
section
variable {P : Program} {w : World} {K : PySem.W.Frag} {mg : Str → Option Value} {base : Heap}
theorem ok_Llevel (T : Tx K mg) : FnR P w K mg base (L2.CX P w) 3 (He.ga K "_law_level") (spLevel) := by
  obtain ⟨fd, F⟩ := T.d_Llevel
  refine EM.fnr F sc_Llevel (fun _ _ _ _ _ _ us hl => match us, hl with | [_], _ => rfl) (fun vs H Q E h => ?_) (fun cdv A outer s H vs Q E hr h => ?_)
  · obtain ⟨T0, p, l, n, rfl, _⟩ := h
    rfl
  · obtain ⟨T0, p, l, n, rfl, B0, hn, k⟩ := h
    refine ⟨_, (PSs.nox (pss_cons (ps_par (by rfl) sc_Llevel.nd (i := 1) (j := 2) rfl rfl (by decide) rfl rfl (pa_cons (pe_op op_sub (EM.pe_cR ((ok_Ldraw T).sw) (hr.mono (by decide)) T.k__law_draw T.g__law_draw passL (pa_cons (pv 0) (pa_cons pe_int pa_nil))) pe_int) (pa_cons (EM.pe_cR ((ok_Lpick T).sw) (hr.mono (by decide)) T.k__law_pick T.g__law_pick passL (pa_cons (pv 0) (pa_cons (EM.pe_lstN (pa_cons pe_int (pa_cons pe_int (pa_cons pe_int (pa_cons pe_int (pa_cons pe_int pa_nil)))))) pa_nil))) pa_nil)) (by rfl))
 (pss_cons (EM.ps_stop (ps_while PassesOwn.never (PW.pt (pw_and (pt_cmpR op_gt (pv 2) pe_int (nomark _)) (pw_and1 (pt_cmpR op_eq (pe_op op_mod (pe_callTy EM.call_intN (by rfl) T.f_int (by decide +kernel) (pa_cons (pv 1) pa_nil)) (pv 2)) pe_int (nomark _)))))
  (pss_one (ps_par (by rfl) sc_Llevel.nd (i := 1) (j := 2) rfl rfl (by decide) rfl rfl (pa_cons (pe_op op_fdivW (pv 1) (pv 2)) (pa_cons pe_int pa_nil)) (by rfl)))))
 (pss_one (ps_ret (EM.pe_tupN (pa_cons (pv 1) (pa_cons (pv 2) pa_nil)))))))), ?_⟩
    repeat' array_mem_dec
    rename_i d H1 d0 d1 x1 B1 L2 H2 x2 B2 a2 n2 b H3 hb x3 B3
    have hb2 : b = 1 ∨ b = 2 ∨ b = 3 ∨ b = 7 := by
      simp only [List.mem_cons, List.not_mem_nil, or_false] at hb
      omega
    have x03 := x1.trans (x2.trans x3)
    have fin : ∀ t b : Int, -20 ≤ t → t ≤ 20 → (b = 1 ∨ b = 2 ∨ b = 3 ∨ b = 7) → (b = 1 ∨ t % b ≠ 0) → Low t b := fun t b h1 h2 h3 h4 => low_small h1 h2 h3 h4
    refine stop_go ?_
    refine ⟨fun m σ H' => ∃ t b : Int, σ = [some (.ref p), some (.int t), some (.int b)] ∧ H' = H3 ∧ m = b.natAbs ∧ -20 ≤ t ∧ t ≤ 20 ∧ (b = 1 ∨ b = 2 ∨ b = 3 ∨ b = 7), ⟨_, _, _, rfl, rfl, rfl, by omega, by omega, hb2⟩, ?_⟩
    rintro m σ H' ⟨t, b, rfl, rfl, rfl, t0, t1, hb3⟩
    have hb0 : 0 < b := by omega
    repeat' array_mem_dec
    refine ite2 (fun c => ?_) (fun c => ?_)
    · have c1 : 1 < b := of_decide_eq_true c
      repeat' array_mem_dec
      refine ifEqI (fun z => ?_) (fun z => ?_)
      · refine ⟨fun σ' H'' => σ' = [some (.ref p), some (.int (t / b)), some (.int 1)] ∧ H'' = H', ?_, ?_⟩
        · rintro σ' H'' ⟨rfl, rfl⟩
          refine ⟨(1 : Int).natAbs, by omega, t / b, 1, rfl, rfl, rfl, ?_, ?_, .inl rfl⟩
          · rcases hb3 with rfl | rfl | rfl | rfl <;> omega
          · rcases hb3 with rfl | rfl | rfl | rfl <;> omega
        · have wb : CDivW t b := ⟨hb0, by rcases hb3 with rfl | rfl | rfl | rfl <;> decide⟩
          repeat' array_mem_dec
      · repeat' array_mem_dec
        rename_i q4 H4 x4 B4 a4 n4
        exact k q4 t b H4 (fin t b t0 t1 hb3 (.inr z)) t0 t1 (by omega) (x03.trans x4) B4 a4
    · have c1 : ¬ 1 < b := fun z => c (decide_eq_true z)
      have hb1 : b = 1 := by omega
      refine ite2 (fun z => absurd z Bool.false_ne_true) (fun _ => ?_)
      repeat' array_mem_dec
      rename_i q4 H4 x4 B4 a4 n4
      exact k q4 t b H4 (fin t b t0 t1 hb3 (.inl hb1)) t0 t1 (by omega) (x03.trans x4) B4 a4
theorem ok_Lnumber (T : Tx K mg) : FnR P w K mg base (L2.CX P w) 4 (He.ga K "_law_number") (spNumber K) := by
  obtain ⟨fd, F⟩ := T.d_Lnumber
  refine EM.fnr F sc_Lnumber (fun _ _ _ _ _ _ us hl => match us, hl with | [_], _ => rfl) (fun vs H Q E h => ?_) (fun cdv A outer s H vs Q E hr h => ?_)
  · obtain ⟨T0, p, l, q, n, t, b, rfl, _⟩ := h
    rfl
  · obtain ⟨T0, p, l, q, n, t, b, rfl, B0, aq, lo, bt, bb, k⟩ := h
    have b0 := lo.pos
    refine ⟨_, (PSs.nox (pss_one (ps_ret (pe_ifExp (PW.pt (pw_and (pt_cmpR op_eq (pe_ix ix_tup (pv 0) pe_int (fun _ _ => rfl)) pe_int (nomark _)) (pw_and1 (pt_cmpR op_eq (pe_op op_mod (pe_callTy EM.call_intN (by rfl) T.f_int (by decide +kernel) (pa_cons (pe_ix ix_tup (pv 0) pe_int (fun _ _ => rfl)) pa_nil)) pe_int) pe_int (nomark _))))) (pe_ix ix_tup (pv 0) pe_int (fun _ _ => rfl)) (pe_mkN_ T (hr.mono (by decide)) (pa_cons (pe_ix ix_tup (pv 0) pe_int (fun _ _ => rfl)) (pa_cons (pe_ix ix_tup (pv 0) pe_int (fun _ _ => rfl)) pa_nil))))))), ?_⟩
    repeat' array_mem_dec
    refine ifEqI (fun z => ?_) (fun z => ?_)
    · repeat' array_mem_dec
      refine ifEqI (fun z2 => ?_) (fun z2 => ?_)
      · repeat' array_mem_dec
        refine k (.int t) H ?_ Ext.refl B0
        rw [z]
        exact NumP.int t
      · repeat' array_mem_dec
        rename_i a1 H1 x1 B1 r1
        exact k (.ref a1) H1 (r1.num lo) x1 B1
    · repeat' array_mem_dec
      rename_i a1 H1 x1 B1 r1
      exact k (.ref a1) H1 (r1.num lo) x1 B1
end
end K40
namespace K40
open PySem PySem.Spec PyProof.Rows L2 EM

theorem resV (v : Option V) : True := trivial
/-- the part that is wrong, in a list, or none -/
def partL (v : Option V) : List V := match v with
  | some x => [x]
  | none => []
def spDueD (K : PySem.W.Frag) : Sp := fun vs H Q _ => ∃ (T : List (Addr × Str)) (p l a : Addr) (n : Nat) (xs : List V) (os : List (Option Int)) (lv : V) (lb : Bool), vs = [.ref a, lv] ∧ Bs T p l n H ∧ At p H a (.lst xs) ∧ ItsI K p H xs os ∧ os.length ≤ 1000 ∧ (if lb then ∃ t b, NumP K p H lv t b else OddN H p lv) ∧
  ∀ q H', Ext p H H' → Bs T p l n H' → At p H' q (.lst (partL (badD os lb))) → Q (.ref q) H'
theorem partL_data {K : PySem.W.Frag} {p q : Addr} {H : Hp} (os : List (Option Int)) (lb : Bool) (h : At p H q (.lst (partL (badD os lb)))) : True := trivial
local macro_rules | `(tactic| sizeOf_list_dec) => `(tactic| first
  | with_reducible assumption
  | ((with_reducible apply EM.At.ext); (focus (with_reducible assumption)); (focus sizeOf_list_dec))
  | ((with_reducible apply EM.RatP.ext); (focus (with_reducible assumption)); (focus sizeOf_list_dec))
  | ((with_reducible apply EM.NumP.ext); (focus (with_reducible assumption)); (focus sizeOf_list_dec))
  | (with_reducible exact EM.Ext.refl)
  | ((with_reducible apply EM.Ext.back); (focus (with_reducible assumption)); (focus sizeOf_list_dec))
  | exact EM.NumP.int _
  | ((with_reducible apply EM.Mu.at_k); (focus (with_reducible assumption)); (focus sizeOf_list_dec); (focus sizeOf_list_dec); (focus (intro _ z; cases z; done)))
  | ((with_reducible apply EM.Mu.at_n); (focus (with_reducible assumption)); (focus sizeOf_list_dec); (focus (first | with_reducible assumption | ((apply EM.nn1); (focus (with_reducible assumption)); (focus sizeOf_list_dec)) | ((apply EM.nn2); (focus (with_reducible assumption)); (focus sizeOf_list_dec)))))
  | ((with_reducible apply EM.Mu.here); (focus (with_reducible assumption)); (focus sizeOf_list_dec))
  | ((with_reducible apply EM.Mu.rat); (focus (with_reducible assumption)); (focus sizeOf_list_dec); (focus sizeOf_list_dec))
  | ((with_reducible apply EM.Mu.num); (focus (with_reducible assumption)); (focus sizeOf_list_dec); (focus sizeOf_list_dec))
  | ((with_reducible apply EM.num_of_rat); (focus sizeOf_list_dec); (focus (first | with_reducible assumption | (apply EM.n_low; assumption))))
  | ((with_reducible apply EM.SeqV.xt); (focus (with_reducible assumption)); (focus sizeOf_list_dec))
  | ((with_reducible apply EM.ItsI.xt); (focus (with_reducible assumption)); (focus sizeOf_list_dec))
  | ((with_reducible apply EM.RatsP.xt); (focus (with_reducible assumption)); (focus sizeOf_list_dec))
  | ((with_reducible apply EM.PairsP.xt); (focus (with_reducible assumption)); (focus sizeOf_list_dec)))
local macro_rules | `(tactic| decreasing_trivial_pre_omega) => `(tactic| first
  | with_reducible assumption
  | exact EM.Bt.mono (by with_reducible assumption) (by decide)
  | exact EM.Bt.lit _ _ (by decide +kernel)
  | ((with_reducible refine EM.Bt.rng32 ?_ ?_) <;> omega)
  | ((with_reducible refine EM.Bt.rng70 ?_ ?_) <;> omega)
  | ((with_reducible refine EM.Bt.rng200 ?_ ?_) <;> omega)
  | ((with_reducible apply EM.Bt.mulM); (focus decreasing_trivial_pre_omega); (focus decreasing_trivial_pre_omega); (focus (first | decide | exact Nat.le_refl _)))
  | ((with_reducible apply EM.Bt.addM); (focus decreasing_trivial_pre_omega); (focus decreasing_trivial_pre_omega); (focus (first | decide | exact Nat.le_refl _)))
  | ((with_reducible apply EM.Bt.subM); (focus decreasing_trivial_pre_omega); (focus decreasing_trivial_pre_omega); (focus (first | decide | exact Nat.le_refl _)))
  | ((with_reducible apply EM.Bt.topL); (focus decreasing_trivial_pre_omega); (focus assumption); (focus (first | decide | exact Nat.le_refl _)))
  | ((with_reducible apply EM.Bt.botL); (focus decreasing_trivial_pre_omega); (focus assumption); (focus (first | decide | exact Nat.le_refl _)))
  | ((with_reducible apply EM.Bt.divM); (focus decreasing_trivial_pre_omega); (focus assumption); (focus (first | decide | exact Nat.le_refl _)))
  | ((with_reducible apply EM.Bt.negM); (focus decreasing_trivial_pre_omega); (focus (first | decide | exact Nat.le_refl _))))
local macro_rules | `(tactic| array_get_dec) => `(tactic| first
  | with_reducible assumption
  | ((with_reducible refine EM.gEq ?_); exact rfl)
  | ((with_reducible refine EM.gTru ?_); exact rfl)
  | ((with_reducible refine EM.gRef ?_); first | exact Or.inl ⟨_, rfl⟩ | exact Or.inr ⟨_, rfl⟩)
  | ((with_reducible apply EM.At.get); sizeOf_list_dec)
  | ((with_reducible apply EM.At.sqL); sizeOf_list_dec)
  | ((with_reducible apply EM.At.sqT); sizeOf_list_dec)
  | ((with_reducible apply EM.RatP.getK); (focus sizeOf_list_dec); (focus (exact rfl)))
  | (with_reducible exact EM.Num.int _)
  | ((with_reducible apply EM.NumP.getK); (focus sizeOf_list_dec); (focus (exact rfl)))
  | ((with_reducible apply EM.At.ext); (focus (with_reducible assumption)); (focus sizeOf_list_dec))
  | ((with_reducible apply EM.RatP.ext); (focus (with_reducible assumption)); (focus sizeOf_list_dec))
  | ((with_reducible apply EM.NumP.ext); (focus (with_reducible assumption)); (focus sizeOf_list_dec))
  | with_reducible exact Tx.cl_Ratio (by assumption)
  | with_reducible exact Tx.cl_Duel (by assumption)
  | with_reducible exact Tx.na_Ratio_top (by assumption)
  | with_reducible exact Tx.na_Ratio_bottom (by assumption)
  | with_reducible exact Tx.na_Duel_weights (by assumption)
  | with_reducible exact Tx.na_Duel_level (by assumption)
  | ((with_reducible refine EM.gAt ?_); sizeOf_list_dec)
  | ((with_reducible refine EM.gRat ?_); sizeOf_list_dec)
  | ((with_reducible refine EM.gNum ?_); sizeOf_list_dec)
  | ((with_reducible apply EM.TwoP.mk); (focus (with_reducible assumption)); (focus sizeOf_list_dec); (focus (first | with_reducible assumption | (apply EM.n_low; assumption))); (focus sizeOf_list_dec); (focus decreasing_trivial_pre_omega); (focus decreasing_trivial_pre_omega); (focus decreasing_trivial_pre_omega); (focus decreasing_trivial_pre_omega))
  | (with_reducible exact EM.Ext.refl)
  | ((with_reducible apply EM.Ext.back); (focus (with_reducible assumption)); (focus sizeOf_list_dec))
  | ((with_reducible apply EM.Bs.mono); (focus (with_reducible assumption)); omega)
  | ((with_reducible refine EM.gN ?_); first | decide | omega | exact Nat.le_of_ble_eq_true rfl | (simp only [List.length_cons, List.length_nil, List.length_append]; omega))
  | ((with_reducible refine EM.gM ?_); first | decide | omega | exact Nat.le_of_ble_eq_true rfl)
  | ((with_reducible refine EM.gI ?_); first | decide | omega)
  | ((with_reducible refine EM.gJ ?_); first | decide | omega)
  | ((with_reducible refine EM.gE ?_); first | decide | omega)
  | ((with_reducible refine EM.gB ?_); decreasing_trivial_pre_omega)
  | ((with_reducible apply EM.wideM); (focus decreasing_trivial_pre_omega); (focus decreasing_trivial_pre_omega); (focus decide)))
local macro_rules | `(tactic| infer_instance) => `(tactic| first
  | with_reducible assumption
  | exact DpAll.nil
  | (apply DpAll.cons; (focus infer_instance); (focus infer_instance))
  | with_reducible exact Dp.int _
  | exact Dp.int _
  | with_reducible exact Dp.str _
  | exact Dp.bl _
  | exact Dp.non
  | ((with_reducible apply EM.dp_lst); (focus array_get_dec); (focus infer_instance))
  | ((with_reducible apply EM.dp_tup); (focus array_get_dec); (focus infer_instance))
  | exact EM.dp_ints _)
local macro_rules | `(tactic| nofun) => `(tactic| first
  | with_reducible assumption
  | exact EM.FeL.nil
  | exact EM.FdL.nil
  | (apply EM.FeL.cons; (focus nofun); (focus nofun))
  | (apply EM.FdL.cons; (focus nofun); (focus nofun))
  | exact EM.Fe.int _
  | exact EM.Fe.bool _
  | exact EM.Fe.non
  | exact EM.Fe.str (EM.okS_of _)
  | (apply EM.Fe.str; apply EM.Fd.ok; (focus nofun))
  | (apply EM.Fe.list; (focus nofun))
  | (apply EM.Fe.tup; (focus nofun))
  | (apply EM.Fd.int; (focus decreasing_trivial_pre_omega))
  | exact EM.Fd.bool _
  | exact EM.Fd.non
  | (refine EM.Fd.bool _)
  | (apply EM.Fd.list; (focus nofun))
  | (apply EM.Fd.tup; (focus nofun)))
local macro_rules | `(tactic| array_mem_dec) => `(tactic| ((with_reducible refine EM.pr ?_); first
  | (with_reducible refine L2.iteT ?_)
  | (with_reducible refine L2.iteF ?_)
  | (with_reducible refine EM.ifNotT ?_)
  | (with_reducible refine EM.ifNotF ?_)
  | ((fail_if_success (with_reducible refine EM.gIf ?_)); first
  | array_get_dec
  | (refine EM.mk_low (by with_reducible assumption) (by with_reducible assumption) ?_ ?_; (focus array_get_dec))
  | (apply EM.isNum_sw; (focus sizeOf_list_dec))
  | (apply EM.of_sw; (focus (with_reducible assumption)); (focus sizeOf_list_dec))
  | (apply EM.neg_bs; (focus (with_reducible assumption)); (focus sizeOf_list_dec); (focus array_get_dec); (focus array_get_dec))
  | (apply EM.relw_bs; (focus (with_reducible assumption)); (focus sizeOf_list_dec); (focus sizeOf_list_dec); (focus array_get_dec); (focus decreasing_trivial_pre_omega); (focus decreasing_trivial_pre_omega); (focus decreasing_trivial_pre_omega); (focus decreasing_trivial_pre_omega))
  | ((apply EM.DnS.bs); (focus (with_reducible assumption)); (focus (intro _ z; cases z; done)))
  | ((apply EM.seqL); (focus sizeOf_list_dec))
  | ((apply EM.seqT); (focus sizeOf_list_dec))
  | ((apply EM.seqS); (focus sizeOf_list_dec))
  | ((apply EM.enS); (focus sizeOf_list_dec))
  | ((apply EM.lenL); (focus sizeOf_list_dec))
  | ((apply EM.lenT); (focus sizeOf_list_dec))
  | ((apply EM.lenS); (focus sizeOf_list_dec))
  | ((apply EM.isSeqL); (focus sizeOf_list_dec); (focus sizeOf_list_dec))
  | ((apply EM.isSeqT); (focus sizeOf_list_dec); (focus sizeOf_list_dec))
  | ((apply EM.isSeqS); (focus sizeOf_list_dec); (focus sizeOf_list_dec))
  | ((apply EM.lstS); (focus sizeOf_list_dec))
  | ((apply EM.sumS); (focus sizeOf_list_dec))
  | ((apply EM.tupSL); (focus sizeOf_list_dec))
  | ((apply EM.tupST); (focus sizeOf_list_dec))
  | ((apply EM.fld_bs); (focus sizeOf_list_dec); (focus (exact Tx.cl_Duel (by assumption))); (focus (first | exact Tx.na_Duel_weights (by assumption) | exact Tx.na_Duel_level (by assumption))); (focus (exact rfl)))
  | ((with_reducible refine EM.New.bs (by with_reducible assumption) ?_ ?_); (focus (intro _ z; cases z; done)))
  | ((with_reducible refine EM.gMu ?_); (with_reducible apply EM.mu_bs); (focus (with_reducible assumption)); (focus sizeOf_list_dec); (focus (apply EM.nel2; (focus (with_reducible assumption)); (focus (with_reducible assumption)))); intro _ _ _)
  | intro _
  | (apply And.intro; (focus array_get_dec))
  | apply Exists.intro
  | (refine EM.draw_bs (by with_reducible assumption) ?_ ?_ ?_ ?_; (focus array_get_dec); (focus array_get_dec); (focus (first | decide | omega)))
  | (apply EM.pick_bs; (focus (with_reducible assumption)); (focus array_get_dec); (focus sizeOf_list_dec); (focus (exact Nat.le_of_ble_eq_true rfl)); (focus (exact Nat.le_of_ble_eq_true rfl)))
  | ((apply EM.repr_sw); (focus infer_instance); (focus nofun); (focus decide))
  | ((apply EM.eqd_same); (focus infer_instance); (focus infer_instance); (focus nofun); (focus decide))
  | ((apply EM.ned_same); (focus infer_instance); (focus infer_instance); (focus nofun); (focus decide))
  | ((apply EM.eqd_sw); (focus infer_instance); (focus infer_instance); (focus nofun); (focus nofun); (focus decide))
  | ((apply EM.ned_sw); (focus infer_instance); (focus infer_instance); (focus nofun); (focus nofun); (focus decide))
  | (refine EM.cut_bs (by with_reducible assumption) ?_ ?_ ?_; (focus array_get_dec); (focus array_get_dec)))))
section
variable {P : Program} {w : World} {K : PySem.W.Frag} {mg : Str → Option Value} {base : Heap}
theorem ok_Linteger (T : Tx K mg) : FnR P w K mg base (L2.CX P w) 1 (He.ga K "_law_integer") (spIsInt K) := by
  obtain ⟨fd, F⟩ := T.d_Linteger
  refine EM.fnr F sc_Linteger (fun _ _ _ _ _ _ us hl => match us, hl with | [_], _ => rfl) (fun vs H Q E h => ?_) (fun cdv A outer s H vs Q E hr h => ?_)
  · obtain ⟨x, t, b1, b2, rfl, _⟩ := h
    rfl
  · obtain ⟨x, t, b1, b2, rfl, ty, k1, k2, q⟩ := h
    refine ⟨_, (PSs.nox (pss_one (ps_ret (pe_and (pe_callB call_isi (by rfl) T.f_isinstance (by decide +kernel) (pa_cons (pv 0) (pa_cons (pe_bltn (v := .ty "int") (by rfl) T.f_int boot_int rfl) pa_nil))) (pe_one (pe_not (pe_callB call_isi (by rfl) T.f_isinstance (by decide +kernel) (pa_cons (pv 0) (pa_cons (pe_bltn (v := .ty "bool") (by rfl) T.f_bool boot_bool rfl) pa_nil))))))))), ?_⟩
    refine ⟨_, rfl, x, .ty "int", t, .type "int", b1, rfl, .ty "int", ty, k1, b1, rfl, ?_⟩
    cases b1 with
    | false => exact iteF q
    | true => exact iteT ⟨_, rfl, x, .ty "bool", t, .type "bool", b2, rfl, .ty "bool", ty, k2, b2, rfl, q⟩
theorem ok_Ldue (T : Tx K mg) : FnR P w K mg base (L2.CX P w) 3 (He.ga K "_law_due") (spDueD K) := by
  obtain ⟨fd, F⟩ := T.d_Ldue
  refine EM.fnr F sc_Ldue (fun _ _ _ _ _ _ us hl => match us, hl with | [_, _], _ => rfl) (fun vs H Q E h => ?_) (fun cdv A outer s H vs Q E hr h => ?_)
  · obtain ⟨T0, p, l, a, n, xs, os, lv, lb, rfl, _⟩ := h
    rfl
  · obtain ⟨T0, p, l, a, n, xs, os, lv, lb, rfl, B0, aS, it, hl, hlv, k⟩ := h
    have hxl := it.len
    have few : ¬ okLen os.length → partL (badD os lb) = [.non] := fun c => by unfold badD; rw [if_neg c]; rfl
    refine ⟨_, (PSs.nox (pss_cons (ps_if (PW.pt (pw_or (pt_cmpR op_eq (pe_op op_mod (pe_callTy EM.call_intN (by rfl) T.f_int (by decide +kernel) (pa_cons (pe_callB EM.call_lenN (by rfl) T.f_len boot_len (pa_cons (pv 0) pa_nil)) pa_nil)) pe_int) pe_int (nomark _)) (pw_or1 (pt_not (pt_chain op_le op_le pe_int (pe_callB EM.call_lenN (by rfl) T.f_len boot_len (pa_cons (pv 0) pa_nil)) pe_int)))))
  (pss_one (ps_ret (EM.pe_lstN (pa_cons pe_non pa_nil)))) pss_nil)
 (pss_cons (EM.setLcN (ps_setLc (i := 2) (own := [("_law_at", 3)]) (g := gName 3) (tt := tNot (tB (tCR (Sw (spIsInt K)) E0 (tCons (tOp (rIxL K) (tVar 0) (tVar 3)) tNil)))) rfl sc_Ldue.nd rfl rfl (sw_true rfl rfl rfl (by decide +kernel)) (pi_range1 (by rfl) T.f_range (pa_cons (pe_callB EM.call_lenN (by rfl) T.f_len boot_len (pa_cons (pv 0) pa_nil)) pa_nil)).mc (blkOk_by (N := ["_law_some", "_law_worth", "_law_wrong", "_law_at", "_law_one"]) (sc := defScope s_Ldue) (by decide +kernel)) (fun _ _ _ _ _ => (pg_name (i := 3) sc_Ldue.nd rfl (Or.inl rfl))) (fun _ _ _ _ _ => (pts_one (pt_not (pt_val (EM.pe_cR ((ok_Linteger T).sw) (hr.mono (by decide)) T.k__law_integer T.g__law_integer passL (pa_cons (pe_ix ix_list (pv 0) (pv 3) (fun _ _ => rfl)) pa_nil)))))) (fun _ _ _ _ _ => (PE.mc (pv 3)))))
 (pss_cons (ps_if (pt_cmpR (EM.op_neNil hr.units) (pv 2) (EM.pe_lstN pa_nil) (nomark _))
  (pss_one (ps_ret (pe_slice EM.sl_listN (pv 2) po_none (po_some pe_int)))) pss_nil)
 (pss_cons (ps_if (pt_cmpR op_ne (pe_callB (EM.call_sumSN rfl) (by rfl) T.f_sum (by decide +kernel) (pa_cons (pv 0) pa_nil)) pe_int (nomark _))
  (pss_one (ps_ret (EM.pe_lstN (pa_cons pe_str pa_nil)))) pss_nil)
 (pss_cons (ps_if (pt_cmpR (EM.op_eqNil hr.units) (EM.lcN (pe_lc (own := [("_law_one", 4)]) (g := gName 4) rfl sc_Ldue.nd (EM.pi_seqN (pv 0)).mc (blkOk_by (N := ["_law_some", "_law_worth", "_law_wrong", "_law_at", "_law_one"]) (sc := defScope s_Ldue) (by decide +kernel)) (fun _ _ _ _ _ => (pg_name (i := 4) sc_Ldue.nd rfl (Or.inl rfl))) (fun _ _ _ _ _ => (pts_one (pt_cmpR op_ne (pv 4) pe_int (nomark _)))) (fun _ _ _ _ _ => (PE.mc (pv 4))))) (EM.pe_lstN pa_nil) (nomark _))
  (pss_one (ps_ret (EM.pe_lstN (pa_cons pe_str pa_nil)))) pss_nil)
 (pss_one (ps_ret (pe_ifExp (PW.pt (pw_or (pt_val (pe_callB (callR_sw call_isi) (by rfl) T.f_isinstance (by decide +kernel) (pa_cons (pv 1) (pa_cons (pe_glob (v := .ref (He.ga K "Ratio")) (by rfl) T.g_Ratio rfl) pa_nil)))) (pw_or1 (pt_val (EM.pe_cR ((ok_Linteger T).sw) (hr.mono (by decide)) T.k__law_integer T.g__law_integer passL (pa_cons (pv 1) pa_nil)))))) (EM.pe_lstN pa_nil) (EM.pe_lstN (pa_cons pe_str pa_nil))))))))))), ?_⟩
    repeat' array_mem_dec
    rw [hxl]
    refine ifEqI (fun z => ?_) (fun z => ?_)
    · repeat' array_mem_dec
      rename_i q1 H1 x1 B1 a1 n1
      exact k q1 H1 x1 B1 (by rw [few (fun c => by have := c.1; omega)]; exact a1)
    repeat' array_mem_dec
    rw [hxl]
    refine ifLe (fun z2 => ?_) (fun z2 => ?_)
    · repeat' array_mem_dec
      cases z3 : decide ((os.length : Int) ≤ 128) with
      | false =>
        have z4 : ¬ (os.length : Int) ≤ 128 := of_decide_eq_false z3
        refine ifP rfl ?_
        repeat' array_mem_dec
        rename_i q1 H1 x1 B1 a1 n1
        exact k q1 H1 x1 B1 (by rw [few (fun c => by have := c.2.2; omega)]; exact a1)
      | true =>
      have z4 : (os.length : Int) ≤ 128 := of_decide_eq_true z3
      have okl : okLen os.length := ⟨by omega, by omega, by omega⟩
      refine ifN rfl ?_
      repeat' array_mem_dec
      refine LcS.lcP walk_range B0 (fun i acc => (acc = [] ∧ ∀ j, j < i → ∃ w, os[j]? = some (some w)) ∨ ∃ (j : Nat) (r : List V), fstN os = some j ∧ acc = .int j :: r) (.inl ⟨rfl, fun j z => absurd z (Nat.not_lt_zero j)⟩) (by omega) (fun _ _ => trivial) ?_ ?_
      · rintro i y acc K2 K3 Rf Rt hk hP y2 C2 ⟨rfl, rfl⟩ kf kt
        have hi : i < os.length := by omega
        obtain ⟨o, eo⟩ : ∃ o, os[i]? = some o := ⟨_, List.getElem?_eq_getElem hi⟩
        have ev : xs[i]? = some (xs[i]'(by omega)) := List.getElem?_eq_getElem (by omega)
        have itm := (it.ext y2).h i _ o ev eo
        have aS2 := aS.ext y2
        have ix : atI xs (0 + (i : Int)) = some (xs[i]'(by omega)) := at_of (j := i) (by omega) ev
        generalize xs[i]'(by omega) = v at ev itm ix
        repeat' array_mem_dec
        cases o with
        | none =>
          have od : OddM K p K3 v := itm
          obtain ⟨t, b1, b2, ty, k1, k2, eb⟩ := oddM_int T od
          refine ⟨⟨v, t, b1, b2, rfl, ty, k1, k2, ?_⟩⟩
          rw [eb]
          refine ⟨_, rfl, ifP rfl ⟨Rt, ⟨_, rfl, kt _ _ Ext.refl C2 (.inr ?_)⟩, fun _ _ q => q⟩⟩
          rcases hP with ⟨rfl, fine⟩ | ⟨j, r, e1, rfl⟩
          · exact ⟨i, [], fst_at fine eo, by show [V.int (0 + (i : Int))] = _; rw [Int.zero_add]⟩
          · exact ⟨j, _, e1, rfl⟩
        | some w =>
          obtain rfl : v = .int w := itm
          refine ⟨⟨.int w, _, true, false, rfl, .base (.int w), kit_ty (by decide +kernel), kit_ty (by decide +kernel), ?_⟩⟩
          refine ⟨_, rfl, ifN rfl (kf _ Ext.refl C2 ?_)⟩
          rcases hP with ⟨rfl, fine⟩ | h
          · refine .inl ⟨rfl, fun j hj => ?_⟩
            rcases Nat.lt_or_ge j i with c | c
            · exact fine j c
            · have : j = i := by omega
              subst this
              exact ⟨w, eo⟩
          · exact .inr h
      rintro E2 ys H4 hE hP hyl x4 B4 aE
      have aS4 := aS.ext x4
      have it4 := it.ext x4
      rcases hP with ⟨rfl, fine⟩ | ⟨j, r, fj, rfl⟩
      · obtain ⟨f1, f2⟩ := fst_no (os := os) (fun j hj => fine j (by omega))
        have hx : xs = (intsO os).map V.int := it.ints f2
        have wl : (intsO os).length = os.length := by unfold intsO; rw [List.length_map]
        rw [hx] at aS4
        repeat' array_mem_dec
        rename_i q5 H5 x5 B5 a5 n5
        refine ifN rfl ?_
        have aS5 := aS4.ext x5
        have x05 := x4.trans x5
        clear aE a5 n5
        repeat' array_mem_dec
        refine ifNeI (fun s => ?_) (fun s => ?_)
        · have e1 : badD os lb = some (.str "sum") := by unfold badD badW; rw [if_pos okl, f1]; simp only [ne_eq, s, not_false_eq_true, if_true]
          repeat' array_mem_dec
          rename_i q6 H6 x6 B6 a6 n6
          exact k q6 H6 (x05.trans x6) B6 (by rw [e1]; exact a6)
        · repeat' array_mem_dec
          rename_i J wk
          refine LcS.lcP wk B5 (fun i acc => acc = [] ↔ ∀ (j : Nat) (w : Int), j < i → (intsO os)[j]? = some w → w = 0) ⟨fun _ j w z => absurd z (Nat.not_lt_zero j), fun _ => rfl⟩ (by rw [List.length_map]; omega) (fun H' x => aS5.eq x) ?_ ?_
          · rintro i y acc K2 K3 Rf Rt hk hP y2 C2 ⟨rfl, hv⟩ kf kt
            rw [List.getElem?_map] at hv
            obtain ⟨w, ew, rfl⟩ := Option.map_eq_some_iff.mp hv
            repeat' array_mem_dec
            refine ifNeI (fun z => ?_) (fun z => ?_)
            · exact ⟨Rt, ⟨.int w, rfl, kt _ _ Ext.refl C2 ⟨fun h => absurd h (by simp), fun h => absurd (h i w (by omega) ew) z⟩⟩, fun _ _ q => q⟩
            · refine kf _ Ext.refl C2 ⟨fun h j v hj e => ?_, fun h => hP.mpr fun j v hj e => h j v (by omega) e⟩
              rcases Nat.lt_or_ge j i with c | c
              · exact hP.mp h j v c e
              · have : j = i := by omega
                subst this
                rw [ew] at e
                cases e
                exact z
          rintro E3 ys H6 hE3 hP3 hyl3 x6 B6 aE3
          rw [List.length_map, wl] at hP3
          repeat' array_mem_dec
          rename_i q7 H7 x7 B7 a7 n7
          have x07 := x05.trans (x6.trans x7)
          have it7 := it4.ext (x5.trans (x6.trans x7))
          clear x5 x6 x7 x05 a7 n7 aE3 B5 B6
          cases hy : ys.isEmpty with
          | true =>
            have az : (intsO os).all (fun w => decide (w = 0)) = true := List.all_eq_true.mpr fun w hw => by
              obtain ⟨j, hj⟩ := List.mem_iff_getElem?.mp hw
              have jl : j < os.length := by rw [← wl]; exact (List.getElem?_eq_some_iff.mp hj).1
              exact decide_eq_true (hP3.mp (List.isEmpty_iff.mp hy) j w jl hj)
            have e1 : badD os lb = some (.str "zero") := by unfold badD badW; rw [if_pos okl, f1]; simp only [ne_eq, s, not_true_eq_false, if_false, az, if_true]
            refine ifP rfl ?_
            repeat' array_mem_dec
            rename_i q8 H8 x8 B8 a8 n8
            exact k q8 H8 (x07.trans x8) B8 (by rw [e1]; exact a8)
          | false =>
            have az : (intsO os).all (fun w => decide (w = 0)) = false := by
              cases e : (intsO os).all (fun w => decide (w = 0)) with
              | false => rfl
              | true =>
                have : ys = [] := hP3.mpr fun j w hj ew => of_decide_eq_true (List.all_eq_true.mp e w (List.mem_of_getElem? ew))
                rw [this] at hy
                cases hy
            have e1 : badD os lb = if lb then none else some (.str "level") := by unfold badD badW; rw [if_pos okl, f1]; simp only [ne_eq, s, not_true_eq_false, if_false, az, Bool.false_eq_true]
            refine ifN rfl ?_
            cases lb with
            | true =>
              obtain ⟨t, b, nv⟩ : ∃ t b, NumP K p H lv t b := hlv
              have nv7 := nv.ext x07
              repeat' array_mem_dec
              have end1 : ∀ q8 H8, Ext p H7 H8 → Bs T0 p l n H8 → At p H8 q8 (.lst []) → Q (.ref q8) H8 := fun q8 H8 x8 B8 a8 => k q8 H8 (x07.trans x8) B8 (by rw [e1]; exact a8)
              rcases nv7.num.2 with ⟨c, rfl, ⟨dc, hc⟩⟩ | ⟨rfl, rfl⟩
              · refine ⟨.ref c, .ref (He.ga K "Ratio"), _, _, true, rfl, .own _, isiB_ty T.isi_Ratio T.cl_Ratio hc, kSelf, ?_⟩
                repeat' array_mem_dec
                rename_i q8 H8 x8 B8 a8 n8
                exact end1 q8 H8 x8 B8 a8
              · refine ⟨.int t, .ref (He.ga K "Ratio"), .type "int", .ref (He.ga K "Ratio"), false, rfl, .own _, .base (.int t), T.kit_int_Ratio, ?_⟩
                repeat' array_mem_dec
                refine ⟨⟨.int t, _, true, false, rfl, .base (.int t), kit_ty (by decide +kernel), kit_ty (by decide +kernel), ?_⟩⟩
                repeat' array_mem_dec
                refine ifP rfl ?_
                repeat' array_mem_dec
                rename_i q8 H8 x8 B8 a8 n8
                exact end1 q8 H8 x8 B8 a8
            | false =>
              have od : OddN H p lv := hlv
              obtain ⟨t, b1, b2, ty, k1, k2, eb, kr⟩ := oddN_no T (OddN.ext od x07.k)
              repeat' array_mem_dec
              refine ⟨lv, .ref (He.ga K "Ratio"), t, _, false, rfl, .own _, ty, kr, ?_⟩
              repeat' array_mem_dec
              refine ⟨⟨lv, t, b1, b2, rfl, ty, k1, k2, ?_⟩⟩
              rw [eb]
              repeat' array_mem_dec
              rename_i q8 H8 x8 B8 a8 n8
              exact k q8 H8 (x07.trans x8) B8 (by rw [e1]; exact a8)
      · repeat' array_mem_dec
        rename_i q5 H5 x5 B5 a5 n5
        refine ifP rfl ?_
        repeat' array_mem_dec
        rename_i q6 H6 x6 B6 a6 n6
        have e1 : badD os lb = some (.int (j : Nat)) := by unfold badD badW; rw [if_pos okl, fj]
        refine k q6 H6 (x4.trans (x5.trans x6)) B6 ?_
        rw [e1]
        exact a6
    · refine ⟨_, rfl, ifP rfl ?_⟩
      repeat' array_mem_dec
      rename_i q1 H1 x1 B1 a1 n1
      exact k q1 H1 x1 B1 (by rw [few (fun c => by have := c.2.1; omega)]; exact a1)
end
end K40
namespace K40
open PySem PySem.Spec PyProof.Rows L2 EM

/-- what is heard of weights and a level: the part that is wrong, in a list -/
def InH (K : PySem.W.Frag) (T : List (Addr × Str)) (p l : Addr) (n : Nat) (H : Hp) (wv lv : V) (Q : VK) : Prop :=
  (NotSq K p H wv ∧ ∀ q H', Ext p H H' → Bs T p l n H' → At p H' q (.lst [.non]) → Q (.ref q) H') ∨
  ∃ (a : Addr) (xs : List V) (os : List (Option Int)) (lb : Bool), wv = .ref a ∧ SeqV p H a xs ∧ ItsI K p H xs os ∧ os.length ≤ 1000 ∧ (if lb then ∃ t b, NumP K p H lv t b ∧ Bt 2000 t ∧ Bt 2000 b else OddN H p lv) ∧
    ∀ q H', Ext p H H' → Bs T p l n H' → At p H' q (.lst (partL (badD os lb))) → Q (.ref q) H'

def spHeardD (K : PySem.W.Frag) : Sp := fun vs H Q _ => ∃ (T : List (Addr × Str)) (p l : Addr) (n : Nat) (wv lv : V), vs = [wv, lv] ∧ Bs T p l n H ∧ InH K T p l n H wv lv Q
theorem duel_by {K : PySem.W.Frag} {T : List (Addr × Str)} {p l : Addr} {n : Nat} {H : Hp} {wv lv : V} {Q Q' : VK} {E2 : XK} (B : Bs T p l n H) (err : ∀ v, (∀ q H', Ext p H H' → Bs T p l n H' → At p H' q (.lst [v]) → Q (.ref q) H') → ErrOut K T p l n H E2 "BadWeights" "part" v)
    (main : (∀ v, (∀ q H', Ext p H H' → Bs T p l n H' → At p H' q (.lst [v]) → Q (.ref q) H') → ErrOut K T p l n H E2 "BadWeights" "part" v) → InD K T p l n H E2 wv lv fun ws e => ∀ d H', Ext p H H' → Bs T p l n H' → DuelP K p H' d ws e → Fresh p H d → Q' (.ref d) H') : Sw (spDuel K) [wv, lv] H Q' E2 := ⟨⟨T, p, l, n, wv, lv, rfl, B, main err⟩⟩
theorem isX_BadWeights {K K' : PySem.W.Frag} {mg : Str → Option Value} (T : Tx K mg) (eK : K' = K) {p a d tp : Addr} {fs : List (Str × V)} {H : Hp} {Q : VK} (h : ErrP p H a (He.ga K "BadWeights") d fs) (ht : At p H tp (.tup [.ref (He.ga K "BadRatio"), .ref (He.ga K "Unlike")])) (q : Q (.bl false) H) : Sr (rIsX K') [.ref a, .ref tp] H Q := by
  subst eK
  exact isX_tup (cs := [He.ga K' "BadRatio", He.ga K' "Unlike"]) h T.xc_BadWeights ht (kitAny_no _ (by
    simp only [List.mem_cons, List.not_mem_nil, or_false, forall_eq_or_imp, forall_eq]
    exact ⟨T.kit_BadWeights_BadRatio, T.kit_BadWeights_Unlike⟩)) q
theorem xk_bs_BadWeights {K K' : PySem.W.Frag} {mg : Str → Option Value} (T : Tx K mg) (eK : K' = K) {p a d : Addr} {v : V} {H : Hp} {Q : VK} (h : ErrP p H a (He.ga K "BadWeights") d [("part", v)]) (q : Q v H) : XkS K' "part" (.ref a) H Q := by
  subst eK
  exact ⟨p, a, _, d, _, v, rfl, h, T.xf_BadWeights, T.na_BadWeights_part, rfl, q⟩
local macro_rules | `(tactic| sizeOf_list_dec) => `(tactic| first
  | with_reducible assumption
  | ((with_reducible apply EM.At.ext); (focus (with_reducible assumption)); (focus sizeOf_list_dec))
  | ((with_reducible apply EM.RatP.ext); (focus (with_reducible assumption)); (focus sizeOf_list_dec))
  | ((with_reducible apply EM.NumP.ext); (focus (with_reducible assumption)); (focus sizeOf_list_dec))
  | (with_reducible exact EM.Ext.refl)
  | ((with_reducible apply EM.Ext.back); (focus (with_reducible assumption)); (focus sizeOf_list_dec))
  | exact EM.NumP.int _
  | ((with_reducible apply EM.Mu.at_k); (focus (with_reducible assumption)); (focus sizeOf_list_dec); (focus sizeOf_list_dec); (focus (intro _ z; cases z; done)))
  | ((with_reducible apply EM.Mu.at_n); (focus (with_reducible assumption)); (focus sizeOf_list_dec); (focus (first | with_reducible assumption | ((apply EM.nn1); (focus (with_reducible assumption)); (focus sizeOf_list_dec)) | ((apply EM.nn2); (focus (with_reducible assumption)); (focus sizeOf_list_dec)))))
  | ((with_reducible apply EM.Mu.here); (focus (with_reducible assumption)); (focus sizeOf_list_dec))
  | ((with_reducible apply EM.Mu.rat); (focus (with_reducible assumption)); (focus sizeOf_list_dec); (focus sizeOf_list_dec))
  | ((with_reducible apply EM.Mu.num); (focus (with_reducible assumption)); (focus sizeOf_list_dec); (focus sizeOf_list_dec))
  | ((with_reducible apply EM.num_of_rat); (focus sizeOf_list_dec); (focus (first | with_reducible assumption | (apply EM.n_low; assumption))))
  | ((with_reducible apply EM.SeqV.xt); (focus (with_reducible assumption)); (focus sizeOf_list_dec))
  | ((with_reducible apply EM.ItsI.xt); (focus (with_reducible assumption)); (focus sizeOf_list_dec))
  | ((with_reducible apply EM.RatsP.xt); (focus (with_reducible assumption)); (focus sizeOf_list_dec))
  | ((with_reducible apply EM.PairsP.xt); (focus (with_reducible assumption)); (focus sizeOf_list_dec))
  | ((with_reducible apply EM.ErrP.xt); (focus (with_reducible assumption)); (focus sizeOf_list_dec))
  | ((with_reducible apply EM.Mu.err); (focus (with_reducible assumption)); (focus sizeOf_list_dec); (focus sizeOf_list_dec)))
local macro_rules | `(tactic| decreasing_trivial_pre_omega) => `(tactic| first
  | with_reducible assumption
  | exact EM.Bt.mono (by with_reducible assumption) (by decide)
  | exact EM.Bt.lit _ _ (by decide +kernel)
  | ((with_reducible refine EM.Bt.rng32 ?_ ?_) <;> omega)
  | ((with_reducible refine EM.Bt.rng70 ?_ ?_) <;> omega)
  | ((with_reducible refine EM.Bt.rng200 ?_ ?_) <;> omega)
  | ((with_reducible apply EM.Bt.mulM); (focus decreasing_trivial_pre_omega); (focus decreasing_trivial_pre_omega); (focus (first | decide | exact Nat.le_refl _)))
  | ((with_reducible apply EM.Bt.addM); (focus decreasing_trivial_pre_omega); (focus decreasing_trivial_pre_omega); (focus (first | decide | exact Nat.le_refl _)))
  | ((with_reducible apply EM.Bt.subM); (focus decreasing_trivial_pre_omega); (focus decreasing_trivial_pre_omega); (focus (first | decide | exact Nat.le_refl _)))
  | ((with_reducible apply EM.Bt.topL); (focus decreasing_trivial_pre_omega); (focus assumption); (focus (first | decide | exact Nat.le_refl _)))
  | ((with_reducible apply EM.Bt.botL); (focus decreasing_trivial_pre_omega); (focus assumption); (focus (first | decide | exact Nat.le_refl _)))
  | ((with_reducible apply EM.Bt.divM); (focus decreasing_trivial_pre_omega); (focus assumption); (focus (first | decide | exact Nat.le_refl _)))
  | ((with_reducible apply EM.Bt.negM); (focus decreasing_trivial_pre_omega); (focus (first | decide | exact Nat.le_refl _))))
local macro_rules | `(tactic| array_get_dec) => `(tactic| first
  | with_reducible assumption
  | ((with_reducible refine EM.gEq ?_); exact rfl)
  | ((with_reducible refine EM.gTru ?_); exact rfl)
  | ((with_reducible refine EM.gRef ?_); first | exact Or.inl ⟨_, rfl⟩ | exact Or.inr ⟨_, rfl⟩)
  | ((with_reducible apply EM.At.get); sizeOf_list_dec)
  | ((with_reducible apply EM.At.sqL); sizeOf_list_dec)
  | ((with_reducible apply EM.At.sqT); sizeOf_list_dec)
  | ((with_reducible apply EM.RatP.getK); (focus sizeOf_list_dec); (focus (exact rfl)))
  | (with_reducible exact EM.Num.int _)
  | ((with_reducible apply EM.NumP.getK); (focus sizeOf_list_dec); (focus (exact rfl)))
  | ((with_reducible apply EM.At.ext); (focus (with_reducible assumption)); (focus sizeOf_list_dec))
  | ((with_reducible apply EM.RatP.ext); (focus (with_reducible assumption)); (focus sizeOf_list_dec))
  | ((with_reducible apply EM.NumP.ext); (focus (with_reducible assumption)); (focus sizeOf_list_dec))
  | with_reducible exact Tx.cl_Ratio (by assumption)
  | with_reducible exact Tx.cl_Duel (by assumption)
  | with_reducible exact Tx.na_Ratio_top (by assumption)
  | with_reducible exact Tx.na_Ratio_bottom (by assumption)
  | with_reducible exact Tx.na_Duel_weights (by assumption)
  | with_reducible exact Tx.na_Duel_level (by assumption)
  | ((with_reducible refine EM.gAt ?_); sizeOf_list_dec)
  | ((with_reducible refine EM.gRat ?_); sizeOf_list_dec)
  | ((with_reducible refine EM.gNum ?_); sizeOf_list_dec)
  | ((with_reducible apply EM.TwoP.mk); (focus (with_reducible assumption)); (focus sizeOf_list_dec); (focus (first | with_reducible assumption | (apply EM.n_low; assumption))); (focus sizeOf_list_dec); (focus decreasing_trivial_pre_omega); (focus decreasing_trivial_pre_omega); (focus decreasing_trivial_pre_omega); (focus decreasing_trivial_pre_omega))
  | (with_reducible exact EM.Ext.refl)
  | ((with_reducible apply EM.Ext.back); (focus (with_reducible assumption)); (focus sizeOf_list_dec))
  | ((with_reducible apply EM.Bs.mono); (focus (with_reducible assumption)); omega)
  | ((with_reducible refine EM.gN ?_); first | decide | omega | exact Nat.le_of_ble_eq_true rfl | (simp only [List.length_cons, List.length_nil, List.length_append]; omega))
  | ((with_reducible refine EM.gM ?_); first | decide | omega | exact Nat.le_of_ble_eq_true rfl)
  | ((with_reducible refine EM.gI ?_); first | decide | omega)
  | ((with_reducible refine EM.gJ ?_); first | decide | omega)
  | ((with_reducible refine EM.gE ?_); first | decide | omega)
  | ((with_reducible refine EM.gB ?_); decreasing_trivial_pre_omega)
  | ((with_reducible apply EM.wideM); (focus decreasing_trivial_pre_omega); (focus decreasing_trivial_pre_omega); (focus decide)))
local macro_rules | `(tactic| infer_instance) => `(tactic| first
  | with_reducible assumption
  | exact DpAll.nil
  | (apply DpAll.cons; (focus infer_instance); (focus infer_instance))
  | with_reducible exact Dp.int _
  | exact Dp.int _
  | with_reducible exact Dp.str _
  | exact Dp.bl _
  | exact Dp.non
  | ((with_reducible apply EM.dp_lst); (focus array_get_dec); (focus infer_instance))
  | ((with_reducible apply EM.dp_tup); (focus array_get_dec); (focus infer_instance))
  | exact EM.dp_ints _)
local macro_rules | `(tactic| nofun) => `(tactic| first
  | with_reducible assumption
  | exact EM.FeL.nil
  | exact EM.FdL.nil
  | (apply EM.FeL.cons; (focus nofun); (focus nofun))
  | (apply EM.FdL.cons; (focus nofun); (focus nofun))
  | exact EM.Fe.int _
  | exact EM.Fe.bool _
  | exact EM.Fe.non
  | exact EM.Fe.str (EM.okS_of _)
  | (apply EM.Fe.str; apply EM.Fd.ok; (focus nofun))
  | (apply EM.Fe.list; (focus nofun))
  | (apply EM.Fe.tup; (focus nofun))
  | (apply EM.Fd.int; (focus decreasing_trivial_pre_omega))
  | exact EM.Fd.bool _
  | exact EM.Fd.non
  | (refine EM.Fd.bool _)
  | (apply EM.Fd.list; (focus nofun))
  | (apply EM.Fd.tup; (focus nofun)))
local macro_rules | `(tactic| array_mem_dec) => `(tactic| ((with_reducible refine EM.pr ?_); first
  | (with_reducible refine L2.iteT ?_)
  | (with_reducible refine L2.iteF ?_)
  | (with_reducible refine EM.ifNotT ?_)
  | (with_reducible refine EM.ifNotF ?_)
  | ((fail_if_success (with_reducible refine EM.gIf ?_)); first
  | array_get_dec
  | ((apply EM.isX_own); (focus sizeOf_list_dec); (focus (exact Tx.xc_BadWeights (by assumption))); (focus (exact Tx.kit_BadWeights_BadWeights (by assumption))))
  | ((apply isX_BadWeights); (focus assumption); (focus (exact rfl)); (focus sizeOf_list_dec); (focus sizeOf_list_dec))
  | ((apply xk_bs_BadWeights); (focus assumption); (focus (exact rfl)); (focus sizeOf_list_dec))
  | (refine EM.mk_low (by with_reducible assumption) (by with_reducible assumption) ?_ ?_; (focus array_get_dec))
  | (apply EM.isNum_sw; (focus sizeOf_list_dec))
  | (apply EM.of_sw; (focus (with_reducible assumption)); (focus sizeOf_list_dec))
  | (apply EM.neg_bs; (focus (with_reducible assumption)); (focus sizeOf_list_dec); (focus array_get_dec); (focus array_get_dec))
  | (apply EM.relw_bs; (focus (with_reducible assumption)); (focus sizeOf_list_dec); (focus sizeOf_list_dec); (focus array_get_dec); (focus decreasing_trivial_pre_omega); (focus decreasing_trivial_pre_omega); (focus decreasing_trivial_pre_omega); (focus decreasing_trivial_pre_omega))
  | ((apply EM.DnS.bs); (focus (with_reducible assumption)); (focus (intro _ z; cases z; done)))
  | ((apply EM.seqL); (focus sizeOf_list_dec))
  | ((apply EM.seqT); (focus sizeOf_list_dec))
  | ((apply EM.seqS); (focus sizeOf_list_dec))
  | ((apply EM.enS); (focus sizeOf_list_dec))
  | ((apply EM.lenL); (focus sizeOf_list_dec))
  | ((apply EM.lenT); (focus sizeOf_list_dec))
  | ((apply EM.lenS); (focus sizeOf_list_dec))
  | ((apply EM.isSeqL); (focus sizeOf_list_dec); (focus sizeOf_list_dec))
  | ((apply EM.isSeqT); (focus sizeOf_list_dec); (focus sizeOf_list_dec))
  | ((apply EM.isSeqS); (focus sizeOf_list_dec); (focus sizeOf_list_dec))
  | ((apply EM.lstS); (focus sizeOf_list_dec))
  | ((apply EM.sumS); (focus sizeOf_list_dec))
  | ((apply EM.tupSL); (focus sizeOf_list_dec))
  | ((apply EM.tupST); (focus sizeOf_list_dec))
  | ((apply EM.fld_bs); (focus sizeOf_list_dec); (focus (exact Tx.cl_Duel (by assumption))); (focus (first | exact Tx.na_Duel_weights (by assumption) | exact Tx.na_Duel_level (by assumption))); (focus (exact rfl)))
  | ((with_reducible refine EM.New.bs (by with_reducible assumption) ?_ ?_); (focus (intro _ z; cases z; done)))
  | ((with_reducible refine EM.gMu ?_); (with_reducible apply EM.mu_bs); (focus (with_reducible assumption)); (focus sizeOf_list_dec); (focus (apply EM.nel2; (focus (with_reducible assumption)); (focus (with_reducible assumption)))); intro _ _ _)
  | intro _
  | (apply And.intro; (focus array_get_dec))
  | apply Exists.intro
  | (refine EM.draw_bs (by with_reducible assumption) ?_ ?_ ?_ ?_; (focus array_get_dec); (focus array_get_dec); (focus (first | decide | omega)))
  | (apply EM.pick_bs; (focus (with_reducible assumption)); (focus array_get_dec); (focus sizeOf_list_dec); (focus (exact Nat.le_of_ble_eq_true rfl)); (focus (exact Nat.le_of_ble_eq_true rfl)))
  | ((apply EM.repr_sw); (focus infer_instance); (focus nofun); (focus decide))
  | ((apply EM.eqd_same); (focus infer_instance); (focus infer_instance); (focus nofun); (focus decide))
  | ((apply EM.ned_same); (focus infer_instance); (focus infer_instance); (focus nofun); (focus decide))
  | ((apply EM.eqd_sw); (focus infer_instance); (focus infer_instance); (focus nofun); (focus nofun); (focus decide))
  | ((apply EM.ned_sw); (focus infer_instance); (focus infer_instance); (focus nofun); (focus nofun); (focus decide))
  | (refine EM.cut_bs (by with_reducible assumption) ?_ ?_ ?_; (focus array_get_dec); (focus array_get_dec)))))
section
variable {P : Program} {w : World} {K : PySem.W.Frag} {mg : Str → Option Value} {base : Heap}
theorem ok_Lheard (T : Tx K mg) : FnR P w K mg base (L2.CX P w) 14 (He.ga K "_law_heard") (spHeardD K) := by
  obtain ⟨fd, F⟩ := T.d_Lheard
  refine EM.fnr F sc_Lheard (fun _ _ _ _ _ _ us hl => match us, hl with | [_, _], _ => rfl) (fun vs H Q E h => ?_) (fun cdv A outer s H vs Q E hr h => ?_)
  · obtain ⟨T0, p, l, n, wv, lv, rfl, _⟩ := h
    rfl
  · obtain ⟨T0, p, l, n, wv, lv, rfl, B0, h⟩ := h
    apply EM.mk2
    · apply pss_cons (ps_set (i := 2) sc_Lheard.nd rfl (Or.inl rfl) pe_non)
      apply pss_cons
      · apply EM.ps_tryK (X := cxOf (L2.CX P w) P w K mg base ["_law_handed", "_law_worth", "_law_caught", "error"] "_law_heard" (defScope s_Lheard) (He.ga K "_law_heard") cdv A outer s H E) (tb := fun W => tDrop (tCR (Sw (spDuel K)) (wide 4 W) (tCons (tVar 0) (tCons (tVar 1) tNil)))) rfl rfl sc_Lheard.nd rfl takes0
        · intro W pn xe tkW pw
          exact pss_one (ps_expr (pe_mkD T (hr.mono (by decide)) (passes_len tkW) (pa_cons (pv 0) (pa_cons (pv 1) pa_nil))))
        · exact (.named (c := .ref (He.ga K "EdgeError")) (i := 3) ⟨by rfl, by decide, .inl T.g_EdgeError⟩ rfl rfl (fun a oe cls d pn hz hf => (pss_one (ps_set (i := 2) sc_Lheard.nd rfl (Or.inl rfl) (pv 3)))) .nil)
      · exact (pss_cons (ps_if (pt_cmpR op_isN (pv 2) pe_non (nomark _))
  (pss_one (ps_ret (EM.pe_lstN pa_nil))) pss_nil)
 (pss_cons (ps_if (PW.pt (pw_or (pt_not (pt_val (pe_callB (callR_sw EM.call_isX) (by rfl) T.f_isinstance (by decide +kernel) (pa_cons (pv 2) (pa_cons (pe_glob (v := .ref (He.ga K "BadWeights")) (by rfl) T.g_BadWeights rfl) pa_nil))))) (pw_or1 (pt_val (pe_callB (callR_sw EM.call_isX) (by rfl) T.f_isinstance (by decide +kernel) (pa_cons (pv 2) (pa_cons (EM.pe_tupN (pa_cons (pe_glob (v := .ref (He.ga K "BadRatio")) (by rfl) T.g_BadRatio rfl) (pa_cons (pe_glob (v := .ref (He.ga K "Unlike")) (by rfl) T.g_Unlike rfl) pa_nil))) pa_nil)))))))
  (pss_one (ps_ret (EM.pe_lstN (pa_cons pe_str (pa_cons pe_str pa_nil))))) pss_nil)
 (pss_one (ps_ret (EM.pe_lstN (pa_cons (EM.pe_xk (pv 2)) pa_nil))))))
    · repeat' array_mem_dec
      refine duel_by (Q := Q) B0 ?_ (fun err => ?_)
      · intro v k d H1 x1 B1 a1 σ' hσ
        match σ', hσ with
        | [v0, v1, v2, v3], _ =>
        refine ⟨true, T.xm_BadWeights_EdgeError, fun _ a ha => ?_, fun z => nomatch z⟩
        have nw := B1.keepX (cls := .ref (He.ga K "BadWeights")) (d := some d) ha
        have x2 : Ext p H1 (upd H1 a (exK a (.ref (He.ga K "BadWeights")) (some d))) := Ext.same nw.same
        have B2 := B1.same nw.same
        have ep : ErrP p (upd H1 a (exK a (.ref (He.ga K "BadWeights")) (some d))) a (He.ga K "BadWeights") d [("part", v)] := ⟨B1.new nw exK_ntbl, a1.ext x2⟩
        have x02 := x1.trans x2
        clear h
        repeat' array_mem_dec
        refine ifN (by rfl) ?_
        repeat' array_mem_dec
        rename_i q4 H4 x4 B4 a4 n4 q5 H5 x5 B5 a5 n5
        exact k q5 H5 ((x02.trans x4).trans x5) B5 a5
      · refine ⟨?_⟩
        rcases h with ⟨ns, k⟩ | ⟨a, xs, os, lb, rfl, sq, it, hl, hlv, k⟩
        · exact .inl ⟨ns, err _ k⟩
        · have e3 : ∀ v, badD os lb = some v → ErrOut K T0 p l n H _ "BadWeights" "part" v := fun v e => err v fun q H' x B a' => k q H' x B (by rw [e]; exact a')
          refine .inr ⟨a, xs, os, rfl, sq, it, hl, ?_⟩
          cases lb with
          | true =>
            obtain ⟨t, b, nv, bt, bb⟩ : ∃ t b, NumP K p H lv t b ∧ Bt 2000 t ∧ Bt 2000 b := hlv
            refine .inl ⟨t, b, nv, bt, bb, e3, fun e d H' x B dp f => ?_⟩
            repeat' array_mem_dec
            refine ifP rfl ?_
            repeat' array_mem_dec
            rename_i q5 H5 x5 B5 a5 n5
            exact k q5 H5 (x.trans x5) B5 (by rw [e]; exact a5)
          | false => exact .inr ⟨hlv, e3⟩
end
end K40
namespace K40
open PySem PySem.Spec PyProof.Rows L2 EM

/-- a level as it is passed: a number, or none -/
def LevP (K : PySem.W.Frag) (p : Addr) (H : Hp) (lv : V) (lb : Bool) : Prop := if lb then ∃ t b, NumP K p H lv t b ∧ Bt 2000 t ∧ Bt 2000 b else OddN H p lv
theorem LevP.ext {K : PySem.W.Frag} {p : Addr} {H H' : Hp} {lv : V} {lb : Bool} (h : LevP K p H lv lb) (x : Ext p H H') : LevP K p H' lv lb := by
  cases lb with
  | true =>
    obtain ⟨t, b, h, b1, b2⟩ : ∃ t b, NumP K p H lv t b ∧ Bt 2000 t ∧ Bt 2000 b := h
    exact (⟨t, b, h.ext x, b1, b2⟩ : ∃ t b, NumP K p H' lv t b ∧ Bt 2000 t ∧ Bt 2000 b)
  | false => exact (OddN.ext (show OddN H p lv from h) x.k : OddN H' p lv)
def spBent (K : PySem.W.Frag) : Sp := fun vs H Q _ => ∃ (T : List (Addr × Str)) (p l a : Addr) (n : Nat) (ws : List Int) (lv : V) (lb : Bool), vs = [.ref p, .ref a, lv] ∧ Bs T p l n H ∧ n ≤ 800000 ∧ At p H a (.lst (ws.map V.int)) ∧ ws.length ≤ 128 ∧ LevP K p H lv lb ∧
  ∀ q S xs os lv' lb' H', Ext p H H' → Bs T p l (n + 10) H' → At p H' q (.tup [.ref S, lv']) → At p H' S (.lst xs) → ItsI K p H' xs os → os.length ≤ 140 → LevP K p H' lv' lb' → Q (.ref q) H'
theorem ItsI.set {K : PySem.W.Frag} {p : Addr} {H : Hp} {xs : List V} {os : List (Option Int)} {i : Nat} {v : V} {o : Option Int} (h : ItsI K p H xs os) (g : ItI K p H v o) : ItsI K p H (xs.set i v) (os.set i o) := ⟨by rw [List.length_set, List.length_set, h.len], fun j u w a b => by
  rw [List.getElem?_set] at a b
  by_cases z : i = j
  · rw [if_pos z] at a b
    by_cases y : j < xs.length
    · rw [if_pos (by rw [z]; exact y)] at a
      rw [if_pos (by rw [z, ← h.len]; exact y)] at b
      cases a
      cases b
      exact g
    · rw [if_neg (by rw [z]; exact y)] at a
      cases a
  · rw [if_neg z] at a b
    exact h.h j u w a b⟩
theorem ItsI.app {K : PySem.W.Frag} {p : Addr} {H : Hp} {xs ys : List V} {os us : List (Option Int)} (h : ItsI K p H xs os) (g : ItsI K p H ys us) : ItsI K p H (xs ++ ys) (os ++ us) := ⟨by rw [List.length_append, List.length_append, h.len, g.len], fun j u w a b => by
  rcases Nat.lt_or_ge j xs.length with z | z
  · rw [List.getElem?_append_left z] at a
    rw [List.getElem?_append_left (by rw [← h.len]; exact z)] at b
    exact h.h j u w a b
  · rw [List.getElem?_append_right z] at a
    rw [List.getElem?_append_right (by rw [← h.len]; exact z), ← h.len] at b
    exact g.h _ u w a b⟩
theorem ItsI.take {K : PySem.W.Frag} {p : Addr} {H : Hp} {xs : List V} {os : List (Option Int)} {m : Nat} (h : ItsI K p H xs os) : ItsI K p H (xs.take m) (os.take m) := ⟨by rw [List.length_take, List.length_take, h.len], fun j u w a b => by
  rw [List.getElem?_take] at a b
  by_cases z : j < m
  · rw [if_pos z] at a b
    exact h.h j u w a b
  · rw [if_neg z] at a
    cases a⟩
theorem ItsI.zeros {K : PySem.W.Frag} {p : Addr} {H : Hp} {m : Nat} {ys : List V} (h : ys = List.replicate m (.int 0)) : ItsI K p H ys (List.replicate m (some 0)) := by
  subst h
  exact ⟨by simp, fun j u w a b => by
    have a' := List.mem_of_getElem? a
    have b' := List.mem_of_getElem? b
    rw [(List.mem_replicate.mp a').2, (List.mem_replicate.mp b').2]
    exact (rfl : V.int 0 = V.int 0)⟩
theorem Mu.odd {p S : Addr} {H H' : Hp} {xs ys : List V} {v : V} (m : Mu S H H' (.lst ys)) (g : At p H S (.lst xs)) (h : OddN H p v) : OddN H' p v := by
  rcases h with h | h | h | ⟨a, e, n, h⟩
  · exact .inl h
  · exact .inr (.inl h)
  · exact .inr (.inr (.inl h))
  · by_cases z : a = S
    · subst z
      exact .inr (.inr (.inr ⟨a, e, n, .inr (.inl ⟨ys, m.at_⟩)⟩))
    · exact .inr (.inr (.inr ⟨a, e, n, by rw [m.old a z]; exact h⟩))
theorem Mu.iti {K : PySem.W.Frag} {p S : Addr} {H H' : Hp} {xs ys : List V} {v : V} {o : Option Int} (m : Mu S H H' (.lst ys)) (g : At p H S (.lst xs)) (w : ItI K p H v o) : ItI K p H' v o := by
  cases o with
  | some e => exact w
  | none =>
    rcases (show OddM K p H v from w) with w | ⟨c, t, b, e, r⟩
    · exact (.inl (Mu.odd m g w) : OddM K p H' v)
    · exact (.inr ⟨c, t, b, e, m.rat r g⟩ : OddM K p H' v)
theorem Mu.its {K : PySem.W.Frag} {p S : Addr} {H H' : Hp} {xs ys zs : List V} {os : List (Option Int)} (m : Mu S H H' (.lst ys)) (g : At p H S (.lst xs)) (h : ItsI K p H zs os) : ItsI K p H' zs os := ⟨h.len, fun i v o a b => Mu.iti m g (h.h i v o a b)⟩
theorem Mu.lev {K : PySem.W.Frag} {p S : Addr} {H H' : Hp} {xs ys : List V} {lv : V} {lb : Bool} (m : Mu S H H' (.lst ys)) (g : At p H S (.lst xs)) (h : LevP K p H lv lb) : LevP K p H' lv lb := by
  cases lb with
  | true =>
    obtain ⟨t, b, h, b1, b2⟩ : ∃ t b, NumP K p H lv t b ∧ Bt 2000 t ∧ Bt 2000 b := h
    exact (⟨t, b, m.num h g, b1, b2⟩ : ∃ t b, NumP K p H' lv t b ∧ Bt 2000 t ∧ Bt 2000 b)
  | false => exact (Mu.odd m g (show OddN H p lv from h) : OddN H' p lv)
local macro_rules | `(tactic| sizeOf_list_dec) => `(tactic| first
  | with_reducible assumption
  | ((with_reducible apply EM.At.ext); (focus (with_reducible assumption)); (focus sizeOf_list_dec))
  | ((with_reducible apply EM.RatP.ext); (focus (with_reducible assumption)); (focus sizeOf_list_dec))
  | ((with_reducible apply EM.NumP.ext); (focus (with_reducible assumption)); (focus sizeOf_list_dec))
  | (with_reducible exact EM.Ext.refl)
  | ((with_reducible apply EM.Ext.back); (focus (with_reducible assumption)); (focus sizeOf_list_dec))
  | exact EM.NumP.int _
  | ((with_reducible apply EM.Mu.at_k); (focus (with_reducible assumption)); (focus sizeOf_list_dec); (focus sizeOf_list_dec); (focus (intro _ z; cases z; done)))
  | ((with_reducible apply EM.Mu.at_n); (focus (with_reducible assumption)); (focus sizeOf_list_dec); (focus (first | with_reducible assumption | ((apply EM.nn1); (focus (with_reducible assumption)); (focus sizeOf_list_dec)) | ((apply EM.nn2); (focus (with_reducible assumption)); (focus sizeOf_list_dec)))))
  | ((with_reducible apply EM.Mu.here); (focus (with_reducible assumption)); (focus sizeOf_list_dec))
  | ((with_reducible apply EM.Mu.rat); (focus (with_reducible assumption)); (focus sizeOf_list_dec); (focus sizeOf_list_dec))
  | ((with_reducible apply EM.Mu.num); (focus (with_reducible assumption)); (focus sizeOf_list_dec); (focus sizeOf_list_dec))
  | ((with_reducible apply EM.num_of_rat); (focus sizeOf_list_dec); (focus (first | with_reducible assumption | (apply EM.n_low; assumption))))
  | ((with_reducible apply EM.SeqV.xt); (focus (with_reducible assumption)); (focus sizeOf_list_dec))
  | ((with_reducible apply EM.ItsI.xt); (focus (with_reducible assumption)); (focus sizeOf_list_dec))
  | ((with_reducible apply EM.RatsP.xt); (focus (with_reducible assumption)); (focus sizeOf_list_dec))
  | ((with_reducible apply EM.PairsP.xt); (focus (with_reducible assumption)); (focus sizeOf_list_dec)))
local macro_rules | `(tactic| decreasing_trivial_pre_omega) => `(tactic| first
  | with_reducible assumption
  | exact EM.Bt.mono (by with_reducible assumption) (by decide)
  | exact EM.Bt.lit _ _ (by decide +kernel)
  | ((with_reducible refine EM.Bt.rng32 ?_ ?_) <;> omega)
  | ((with_reducible refine EM.Bt.rng70 ?_ ?_) <;> omega)
  | ((with_reducible refine EM.Bt.rng200 ?_ ?_) <;> omega)
  | ((with_reducible apply EM.Bt.mulM); (focus decreasing_trivial_pre_omega); (focus decreasing_trivial_pre_omega); (focus (first | decide | exact Nat.le_refl _)))
  | ((with_reducible apply EM.Bt.addM); (focus decreasing_trivial_pre_omega); (focus decreasing_trivial_pre_omega); (focus (first | decide | exact Nat.le_refl _)))
  | ((with_reducible apply EM.Bt.subM); (focus decreasing_trivial_pre_omega); (focus decreasing_trivial_pre_omega); (focus (first | decide | exact Nat.le_refl _)))
  | ((with_reducible apply EM.Bt.topL); (focus decreasing_trivial_pre_omega); (focus assumption); (focus (first | decide | exact Nat.le_refl _)))
  | ((with_reducible apply EM.Bt.botL); (focus decreasing_trivial_pre_omega); (focus assumption); (focus (first | decide | exact Nat.le_refl _)))
  | ((with_reducible apply EM.Bt.divM); (focus decreasing_trivial_pre_omega); (focus assumption); (focus (first | decide | exact Nat.le_refl _)))
  | ((with_reducible apply EM.Bt.negM); (focus decreasing_trivial_pre_omega); (focus (first | decide | exact Nat.le_refl _))))
local macro_rules | `(tactic| array_get_dec) => `(tactic| first
  | with_reducible assumption
  | ((with_reducible refine EM.gEq ?_); exact rfl)
  | ((with_reducible refine EM.gTru ?_); exact rfl)
  | ((with_reducible refine EM.gRef ?_); first | exact Or.inl ⟨_, rfl⟩ | exact Or.inr ⟨_, rfl⟩)
  | ((with_reducible apply EM.At.get); sizeOf_list_dec)
  | ((with_reducible apply EM.At.sqL); sizeOf_list_dec)
  | ((with_reducible apply EM.At.sqT); sizeOf_list_dec)
  | ((with_reducible apply EM.RatP.getK); (focus sizeOf_list_dec); (focus (exact rfl)))
  | (with_reducible exact EM.Num.int _)
  | ((with_reducible apply EM.NumP.getK); (focus sizeOf_list_dec); (focus (exact rfl)))
  | ((with_reducible apply EM.At.ext); (focus (with_reducible assumption)); (focus sizeOf_list_dec))
  | ((with_reducible apply EM.RatP.ext); (focus (with_reducible assumption)); (focus sizeOf_list_dec))
  | ((with_reducible apply EM.NumP.ext); (focus (with_reducible assumption)); (focus sizeOf_list_dec))
  | with_reducible exact Tx.cl_Ratio (by assumption)
  | with_reducible exact Tx.cl_Duel (by assumption)
  | with_reducible exact Tx.na_Ratio_top (by assumption)
  | with_reducible exact Tx.na_Ratio_bottom (by assumption)
  | with_reducible exact Tx.na_Duel_weights (by assumption)
  | with_reducible exact Tx.na_Duel_level (by assumption)
  | ((with_reducible refine EM.gAt ?_); sizeOf_list_dec)
  | ((with_reducible refine EM.gRat ?_); sizeOf_list_dec)
  | ((with_reducible refine EM.gNum ?_); sizeOf_list_dec)
  | ((with_reducible apply EM.TwoP.mk); (focus (with_reducible assumption)); (focus sizeOf_list_dec); (focus (first | with_reducible assumption | (apply EM.n_low; assumption))); (focus sizeOf_list_dec); (focus decreasing_trivial_pre_omega); (focus decreasing_trivial_pre_omega); (focus decreasing_trivial_pre_omega); (focus decreasing_trivial_pre_omega))
  | (with_reducible exact EM.Ext.refl)
  | ((with_reducible apply EM.Ext.back); (focus (with_reducible assumption)); (focus sizeOf_list_dec))
  | ((with_reducible apply EM.Bs.mono); (focus (with_reducible assumption)); omega)
  | ((with_reducible refine EM.gN ?_); first | decide | omega | exact Nat.le_of_ble_eq_true rfl | (simp only [List.length_cons, List.length_nil, List.length_append]; omega))
  | ((with_reducible refine EM.gM ?_); first | decide | omega | exact Nat.le_of_ble_eq_true rfl)
  | ((with_reducible refine EM.gI ?_); first | decide | omega)
  | ((with_reducible refine EM.gJ ?_); first | decide | omega)
  | ((with_reducible refine EM.gE ?_); first | decide | omega)
  | ((with_reducible refine EM.gB ?_); decreasing_trivial_pre_omega)
  | ((with_reducible apply EM.wideM); (focus decreasing_trivial_pre_omega); (focus decreasing_trivial_pre_omega); (focus decide)))
local macro_rules | `(tactic| infer_instance) => `(tactic| first
  | with_reducible assumption
  | exact DpAll.nil
  | (apply DpAll.cons; (focus infer_instance); (focus infer_instance))
  | with_reducible exact Dp.int _
  | exact Dp.int _
  | with_reducible exact Dp.str _
  | exact Dp.bl _
  | exact Dp.non
  | ((with_reducible apply EM.dp_lst); (focus array_get_dec); (focus infer_instance))
  | ((with_reducible apply EM.dp_tup); (focus array_get_dec); (focus infer_instance))
  | exact EM.dp_ints _)
local macro_rules | `(tactic| nofun) => `(tactic| first
  | with_reducible assumption
  | exact EM.FeL.nil
  | exact EM.FdL.nil
  | (apply EM.FeL.cons; (focus nofun); (focus nofun))
  | (apply EM.FdL.cons; (focus nofun); (focus nofun))
  | exact EM.Fe.int _
  | exact EM.Fe.bool _
  | exact EM.Fe.non
  | exact EM.Fe.str (EM.okS_of _)
  | (apply EM.Fe.str; apply EM.Fd.ok; (focus nofun))
  | (apply EM.Fe.list; (focus nofun))
  | (apply EM.Fe.tup; (focus nofun))
  | (apply EM.Fd.int; (focus decreasing_trivial_pre_omega))
  | exact EM.Fd.bool _
  | exact EM.Fd.non
  | (refine EM.Fd.bool _)
  | (apply EM.Fd.list; (focus nofun))
  | (apply EM.Fd.tup; (focus nofun)))
local macro_rules | `(tactic| array_mem_dec) => `(tactic| ((with_reducible refine EM.pr ?_); first
  | (with_reducible refine L2.iteT ?_)
  | (with_reducible refine L2.iteF ?_)
  | (with_reducible refine EM.ifNotT ?_)
  | (with_reducible refine EM.ifNotF ?_)
  | ((fail_if_success (with_reducible refine EM.gIf ?_)); first
  | array_get_dec
  | (refine EM.mk_low (by with_reducible assumption) (by with_reducible assumption) ?_ ?_; (focus array_get_dec))
  | (apply EM.isNum_sw; (focus sizeOf_list_dec))
  | (apply EM.of_sw; (focus (with_reducible assumption)); (focus sizeOf_list_dec))
  | (apply EM.neg_bs; (focus (with_reducible assumption)); (focus sizeOf_list_dec); (focus array_get_dec); (focus array_get_dec))
  | (apply EM.relw_bs; (focus (with_reducible assumption)); (focus sizeOf_list_dec); (focus sizeOf_list_dec); (focus array_get_dec); (focus decreasing_trivial_pre_omega); (focus decreasing_trivial_pre_omega); (focus decreasing_trivial_pre_omega); (focus decreasing_trivial_pre_omega))
  | ((apply EM.DnS.bs); (focus (with_reducible assumption)); (focus (intro _ z; cases z; done)))
  | ((apply EM.seqL); (focus sizeOf_list_dec))
  | ((apply EM.seqT); (focus sizeOf_list_dec))
  | ((apply EM.seqS); (focus sizeOf_list_dec))
  | ((apply EM.enS); (focus sizeOf_list_dec))
  | ((apply EM.lenL); (focus sizeOf_list_dec))
  | ((apply EM.lenT); (focus sizeOf_list_dec))
  | ((apply EM.lenS); (focus sizeOf_list_dec))
  | ((apply EM.isSeqL); (focus sizeOf_list_dec); (focus sizeOf_list_dec))
  | ((apply EM.isSeqT); (focus sizeOf_list_dec); (focus sizeOf_list_dec))
  | ((apply EM.isSeqS); (focus sizeOf_list_dec); (focus sizeOf_list_dec))
  | ((apply EM.lstS); (focus sizeOf_list_dec))
  | ((apply EM.sumS); (focus sizeOf_list_dec))
  | ((apply EM.tupSL); (focus sizeOf_list_dec))
  | ((apply EM.tupST); (focus sizeOf_list_dec))
  | ((apply EM.fld_bs); (focus sizeOf_list_dec); (focus (exact Tx.cl_Duel (by assumption))); (focus (first | exact Tx.na_Duel_weights (by assumption) | exact Tx.na_Duel_level (by assumption))); (focus (exact rfl)))
  | ((apply EM.mk1_bs); (focus (with_reducible assumption)))
  | ((with_reducible refine EM.New.bs (by with_reducible assumption) ?_ ?_); (focus (intro _ z; cases z; done)))
  | ((with_reducible refine EM.gMu ?_); (with_reducible apply EM.mu_bs); (focus (with_reducible assumption)); (focus sizeOf_list_dec); (focus (apply EM.nel2; (focus (with_reducible assumption)); (focus (with_reducible assumption)))); intro _ _ _)
  | intro _
  | (apply And.intro; (focus array_get_dec))
  | apply Exists.intro
  | (refine EM.draw_bs (by with_reducible assumption) ?_ ?_ ?_ ?_; (focus array_get_dec); (focus array_get_dec); (focus (first | decide | omega)))
  | (apply EM.pick_bs; (focus (with_reducible assumption)); (focus array_get_dec); (focus sizeOf_list_dec); (focus (exact Nat.le_of_ble_eq_true rfl)); (focus (exact Nat.le_of_ble_eq_true rfl)))
  | ((apply EM.repr_sw); (focus infer_instance); (focus nofun); (focus decide))
  | ((apply EM.eqd_same); (focus infer_instance); (focus infer_instance); (focus nofun); (focus decide))
  | ((apply EM.ned_same); (focus infer_instance); (focus infer_instance); (focus nofun); (focus decide))
  | ((apply EM.eqd_sw); (focus infer_instance); (focus infer_instance); (focus nofun); (focus nofun); (focus decide))
  | ((apply EM.ned_sw); (focus infer_instance); (focus infer_instance); (focus nofun); (focus nofun); (focus decide))
  | (refine EM.cut_bs (by with_reducible assumption) ?_ ?_ ?_; (focus array_get_dec); (focus array_get_dec)))))
section
variable {P : Program} {w : World} {K : PySem.W.Frag} {mg : Str → Option Value} {base : Heap}
theorem pe_mkR1 {K : PySem.W.Frag} {mg : Str → Option Value} (T : Tx K mg) {X : Cx} (hr : Room 3 X.A) {e1 : Expr} {es : List Expr} {ta : TA} {p pos : Pos} (ha : PA X (e1 :: es) ta) (hg : Gl X "Ratio" := by rfl) (he : starEach (e1 :: es) X.env = (false, eval e1 X.env) :: starEach es X.env := by rfl) (hpl : (backTo pos (starEach es X.env)).any (·.1) = false := by rfl) (eK : X.K = K := by rfl) (eM : X.mg = mg := by rfl) :
    PE X (.Call (.Name "Ratio" p) (e1 :: es) [] pos) (tCR (Sw (spMkN1 K)) E0 ta) := by
  subst eK eM
  exact (EM.pe_mkR (E := E0) T.mk_Ratio (ok_Ratio1 T) hr T.g_Ratio passL ha.mc hg (by decide) he hpl).of fun σ H Q q => ⟨_, q, fun vs H1 ⟨⟨t, e, k⟩⟩ x dx hx hdx ndx => by
    subst e
    exact mk_Rat (by decide) (by decide) k x dx hx hdx ndx⟩
theorem ok_Lbent (T : Tx K mg) : FnR P w K mg base (L2.CX P w) 4 (He.ga K "_law_bent") (spBent K) := by
  obtain ⟨fd, F⟩ := T.d_Lbent
  refine EM.fnr F sc_Lbent (fun _ _ _ _ _ _ us hl => match us, hl with | [_, _, _], _ => rfl) (fun vs H Q E h => ?_) (fun cdv A outer s H vs Q E hr h => ?_)
  · obtain ⟨T0, p, l, a, n, ws, lv, lb, rfl, _⟩ := h
    rfl
  · obtain ⟨T0, p, l, a, n, ws, lv, lb, rfl, B0, hn, aR, hl, hlv, k⟩ := h
    have sR : SeqV p H a (ws.map V.int) := .inl aR
    refine ⟨_, (PSs.nox (pss_cons (ps_set (i := 3) sc_Lbent.nd rfl (Or.inl rfl) (pe_callTy EM.call_listSN (by rfl) T.f_list (by decide +kernel) (pa_cons (pv 1) pa_nil)))
 (pss_cons (EM.forN (ps_for PassesOwn.never rfl (pi_range1 (by rfl) T.f_range (pa_cons (EM.pe_cR ((ok_Ldraw T).sw) (hr.mono (by decide)) T.k__law_draw T.g__law_draw passL (pa_cons (pv 0) (pa_cons pe_int pa_nil))) pa_nil)).mc (pg_name (i := 4) sc_Lbent.nd rfl (Or.inl rfl))
  (pss_cons (ps_par (by rfl) sc_Lbent.nd (i := 5) (j := 6) rfl rfl (by decide) rfl rfl (pa_cons (EM.pe_cR ((ok_Ldraw T).sw) (hr.mono (by decide)) T.k__law_draw T.g__law_draw passL (pa_cons (pv 0) (pa_cons pe_int pa_nil))) (pa_cons (EM.pe_cR ((ok_Ldraw T).sw) (hr.mono (by decide)) T.k__law_draw T.g__law_draw passL (pa_cons (pv 0) (pa_cons (pe_callB (call_max2 rfl) (by rfl) T.f_max (by decide +kernel) (pa_cons pe_int (pa_cons (pe_callB EM.call_lenN (by rfl) T.f_len boot_len (pa_cons (pv 3) pa_nil)) pa_nil))) pa_nil))) pa_nil)) (by rfl))
 (pss_one (ps_if (PW.pt (pw_and (pt_cmpR op_lt (pv 5) pe_int (nomark _)) (pw_and1 (pt_cmpR (EM.op_neNil hr.units) (pv 3) (EM.pe_lstN pa_nil) (nomark _)))))
  (pss_one (ps_asg (EM.pe_cR ((ok_Lpick T).sw) (hr.mono (by decide)) T.k__law_pick T.g__law_pick passL (pa_cons (pv 0) (pa_cons (EM.pe_lstN (pa_cons pe_non (pa_cons pe_bl (pa_cons pe_bl (pa_cons pe_str (pa_cons (EM.pe_lstN (pa_cons pe_int pa_nil)) (pa_cons (EM.pe_tupN pa_nil) (pa_cons (pe_mkR1 T (hr.mono (by decide)) (pa_cons pe_int pa_nil)) (pa_cons (pe_op (EM.op_powV 10 58 10000000000000000000000000000000000000000000000000000000000 ⟨by decide, by decide, by decide⟩ (by decide +kernel)) pe_int pe_int) pa_nil))))))))) pa_nil))) (pg_sub (pv 3) (pv 6) EM.set_listN))) (pss_one (ps_if (pt_cmpR op_eq (pv 5) pe_int (nomark _))
  (pss_one (ps_set (i := 3) sc_Lbent.nd rfl (Or.inl rfl) (pe_op EM.op_catN (pv 3) (EM.pe_lstN (pa_cons pe_int pa_nil))))) (pss_one (ps_if (pt_cmpR op_eq (pv 5) pe_int (nomark _))
  (pss_one (ps_set (i := 3) sc_Lbent.nd rfl (Or.inl rfl) (pe_slice EM.sl_listN (pv 3) po_none (po_some (pe_un un_neg pe_int))))) (pss_one (ps_if (pt_cmpR op_eq (pv 5) pe_int (nomark _))
  (pss_one (EM.setLcN (ps_setLc (i := 3) (own := [("_law_one", 7)]) (g := gName 7) rfl sc_Lbent.nd rfl rfl (sw_true rfl rfl rfl (by decide +kernel)) (EM.pi_seqN (pv 3)).mc (blkOk_by (N := ["_law_pen_here", "_law_row", "_law_worth", "_law_some", "_law_turn", "_law_way", "_law_at", "_law_one"]) (sc := defScope s_Lbent) (by decide +kernel)) (fun _ _ _ _ _ => (pg_name (i := 7) sc_Lbent.nd rfl (Or.inl rfl))) (fun _ _ _ _ _ => pts_nil) (fun _ _ _ _ _ => (PE.mc pe_int))))) (pss_one (ps_if (pt_cmpR op_eq (pv 5) pe_int (nomark _))
  (pss_one (ps_set (i := 3) sc_Lbent.nd rfl (Or.inl rfl) (pe_op EM.op_catN (pv 3) (pe_op EM.op_repN (EM.pe_lstN (pa_cons pe_int pa_nil)) (pe_op op_sub pe_int (pe_callB EM.call_lenN (by rfl) T.f_len boot_len (pa_cons (pv 3) pa_nil))))))) (pss_one (ps_set (i := 2) sc_Lbent.nd rfl (Or.inl rfl) (EM.pe_cR ((ok_Lpick T).sw) (hr.mono (by decide)) T.k__law_pick T.g__law_pick passL (pa_cons (pv 0) (pa_cons (EM.pe_lstN (pa_cons pe_non (pa_cons pe_str (pa_cons pe_bl (pa_cons (EM.pe_tupN (pa_cons pe_int pa_nil)) (pa_cons (EM.pe_lstN pa_nil) (pa_cons (EM.pe_dnewN) (pa_cons pe_str pa_nil)))))))) pa_nil))))))))))))))))))
 (pss_one (ps_ret (EM.pe_tupN (pa_cons (pv 3) (pa_cons (pv 2) pa_nil)))))))), ?_⟩
    repeat' array_mem_dec
    rename_i S1 H1 x1 B1 a1 n1 d H2 d0 d1 x2 B2
    refine FoS.it walk_range (fun i σ H3 => Hold (∃ S xs os lv' lb' v4 v5 v6 v7, σ = [some (.ref p), some (.ref a), some lv', some (.ref S), v4, v5, v6, v7] ∧ At p H3 S (.lst xs) ∧ ItsI K p H3 xs os ∧ os.length ≤ 128 + 2 * i ∧ LevP K p H3 lv' lb' ∧ Fresh p H S ∧ S ≠ l ∧ Ext p H H3 ∧ Bs T0 p l (n + 1 + 3 * i) H3))
      ⟨⟨S1, _, ws.map some, lv, lb, _, _, _, _, rfl, a1.ext x2, ItsI.all, by rw [List.length_map]; omega, hlv.ext (x1.trans x2), Fresh.none n1, B0.nel n1, x1.trans x2, B2⟩⟩ (fun _ _ _ _ _ => trivial) ?_ ?_
    · rintro i y σ H3 H4 hi ⟨⟨S, xs, os, lv', lb', v4, v5, v6, v7, rfl, aS, it, hlen, hlv', fS, nS, x03, B3⟩⟩ ⟨rfl, rfl⟩
      have hxl := it.len
      have i2 : i < 2 := by omega
      repeat' array_mem_dec
      rename_i w H5 w0 w1 x5 B5 d H6 d0 d1 x6 B6
      have hw : w = 0 ∨ w = 1 ∨ w = 2 ∨ w = 3 ∨ w = 4 ∨ w = 5 ∨ w = 6 ∨ w = 7 := by omega
      have aS6 := aS.ext (x5.trans x6)
      have it6 := it.ext (x5.trans x6)
      have lv6 := hlv'.ext (x5.trans x6)
      have x06 := x03.trans (x5.trans x6)
      have aR6 : SeqV p H6 a (ws.map V.int) := sR.ext x06
      clear aS it hlv' x03
      --STOP
      rcases hw with rfl | rfl | rfl | rfl | rfl | rfl | rfl | rfl
      · refine ifP rfl ?_
        repeat' array_mem_dec
        rename_i q7 H7 x7 B7 a7 n7
        cases hx : xs.isEmpty with
        | true =>
          refine ifN rfl ?_
          repeat' array_mem_dec
          refine ifN rfl ?_
          repeat' array_mem_dec
          refine ifN rfl ?_
          repeat' array_mem_dec
          refine ifN rfl ?_
          repeat' array_mem_dec
          refine ifN rfl ?_
          repeat' array_mem_dec
          rename_i q1 H8 x8 B8 a8 n8 q2 H9 x9 B9 a9 n9 q3 H10 x10 B10 a10 n10 q4 H11 x11 B11 a11 n11 v H12 hv x12 B12
          have y8 : Ext p H8 H12 := x9.trans (x10.trans (x11.trans x12))
          have od : OddN H12 p v := by
            simp only [List.mem_cons, List.not_mem_nil, or_false] at hv
            rcases hv with rfl | rfl | rfl | rfl | rfl | rfl | rfl
            · exact odd_non
            · exact odd_str
            · exact odd_bl
            · exact odd_tup (a8.ext y8)
            · exact odd_lst (a9.ext (x10.trans (x11.trans x12)))
            · exact odd_dct (a10.ext (x11.trans x12))
            · exact odd_str
          have x612 : Ext p H6 H12 := x7.trans (x8.trans y8)
          exact ⟨⟨S, xs, os, v, false, _, _, _, _, rfl, aS6.ext x612, it6.ext x612, by omega, od, fS, nS, x06.trans x612, B12.mono (by omega)⟩⟩
        | false =>
          refine ifP rfl ?_
          repeat' array_mem_dec
          rename_i q8 H8 x8 B8 a8 n8 q9 H9 x9 B9 a9 n9 r1 H10 x10 B10 a10 q4 H11 x11 B11 a11 n11 v H12 hv x12 B12
          have hne : 0 < xs.length := by
            cases xs with
            | nil => cases hx
            | cons _ _ => exact Nat.succ_pos _
          have hd : d.toNat < xs.length := by
            split at d1 <;> omega
          have hj : ixN xs.length d = some d.toNat := by
            unfold ixN
            rw [if_pos d0, if_pos (by omega)]
          refine ⟨hj, fun H13 mu => ?_⟩
          have y8 : Ext p H8 H12 := x9.trans (x10.trans (x11.trans x12))
          have x612 : Ext p H6 H12 := x7.trans (x8.trans y8)
          have aS12 := aS6.ext x612
          have x6d : Ext p H H12 := x06.trans x612
          obtain ⟨o, ho⟩ : ∃ o, ItI K p H12 v o := by
            have od : OddN H12 p v → ∃ o, ItI K p H12 v o := fun h => ⟨none, (.inl h : OddM K p H12 v)⟩
            simp only [List.mem_cons, List.not_mem_nil, or_false] at hv
            rcases hv with rfl | rfl | rfl | rfl | rfl | rfl | rfl | rfl
            · exact od odd_non
            · exact od odd_bl
            · exact od odd_bl
            · exact od odd_str
            · exact od (odd_lst (a8.ext y8))
            · exact od (odd_tup (a9.ext (x10.trans (x11.trans x12))))
            · exact ⟨none, (.inr ⟨_, _, _, rfl, a10.ext (x11.trans x12)⟩ : OddM K p H12 _)⟩
            · exact ⟨some _, (rfl : V.int _ = V.int _)⟩
          exact ⟨⟨S, _, os.set d.toNat o, lv', lb', _, _, _, _, rfl, mu.here aS12, ItsI.set (Mu.its mu aS12 (it6.ext x612)) (Mu.iti mu aS12 ho), by rw [List.length_set]; omega, Mu.lev mu aS12 (lv6.ext x612), fS, nS, Ext.muF fS x6d mu, (mu.bs B12 aS12 nS).mono (by omega)⟩⟩
      · refine ifP rfl ?_
        repeat' array_mem_dec
        rename_i q7 H7 x7 B7 a7 n7
        cases hx : xs.isEmpty with
        | true =>
          refine ifN rfl ?_
          repeat' array_mem_dec
          refine ifN rfl ?_
          repeat' array_mem_dec
          refine ifN rfl ?_
          repeat' array_mem_dec
          refine ifN rfl ?_
          repeat' array_mem_dec
          refine ifN rfl ?_
          repeat' array_mem_dec
          rename_i q1 H8 x8 B8 a8 n8 q2 H9 x9 B9 a9 n9 q3 H10 x10 B10 a10 n10 q4 H11 x11 B11 a11 n11 v H12 hv x12 B12
          have y8 : Ext p H8 H12 := x9.trans (x10.trans (x11.trans x12))
          have od : OddN H12 p v := by
            simp only [List.mem_cons, List.not_mem_nil, or_false] at hv
            rcases hv with rfl | rfl | rfl | rfl | rfl | rfl | rfl
            · exact odd_non
            · exact odd_str
            · exact odd_bl
            · exact odd_tup (a8.ext y8)
            · exact odd_lst (a9.ext (x10.trans (x11.trans x12)))
            · exact odd_dct (a10.ext (x11.trans x12))
            · exact odd_str
          have x612 : Ext p H6 H12 := x7.trans (x8.trans y8)
          exact ⟨⟨S, xs, os, v, false, _, _, _, _, rfl, aS6.ext x612, it6.ext x612, by omega, od, fS, nS, x06.trans x612, B12.mono (by omega)⟩⟩
        | false =>
          refine ifP rfl ?_
          repeat' array_mem_dec
          rename_i q8 H8 x8 B8 a8 n8 q9 H9 x9 B9 a9 n9 r1 H10 x10 B10 a10 q4 H11 x11 B11 a11 n11 v H12 hv x12 B12
          have hne : 0 < xs.length := by
            cases xs with
            | nil => cases hx
            | cons _ _ => exact Nat.succ_pos _
          have hd : d.toNat < xs.length := by
            split at d1 <;> omega
          have hj : ixN xs.length d = some d.toNat := by
            unfold ixN
            rw [if_pos d0, if_pos (by omega)]
          refine ⟨hj, fun H13 mu => ?_⟩
          have y8 : Ext p H8 H12 := x9.trans (x10.trans (x11.trans x12))
          have x612 : Ext p H6 H12 := x7.trans (x8.trans y8)
          have aS12 := aS6.ext x612
          have x6d : Ext p H H12 := x06.trans x612
          obtain ⟨o, ho⟩ : ∃ o, ItI K p H12 v o := by
            have od : OddN H12 p v → ∃ o, ItI K p H12 v o := fun h => ⟨none, (.inl h : OddM K p H12 v)⟩
            simp only [List.mem_cons, List.not_mem_nil, or_false] at hv
            rcases hv with rfl | rfl | rfl | rfl | rfl | rfl | rfl | rfl
            · exact od odd_non
            · exact od odd_bl
            · exact od odd_bl
            · exact od odd_str
            · exact od (odd_lst (a8.ext y8))
            · exact od (odd_tup (a9.ext (x10.trans (x11.trans x12))))
            · exact ⟨none, (.inr ⟨_, _, _, rfl, a10.ext (x11.trans x12)⟩ : OddM K p H12 _)⟩
            · exact ⟨some _, (rfl : V.int _ = V.int _)⟩
          exact ⟨⟨S, _, os.set d.toNat o, lv', lb', _, _, _, _, rfl, mu.here aS12, ItsI.set (Mu.its mu aS12 (it6.ext x612)) (Mu.iti mu aS12 ho), by rw [List.length_set]; omega, Mu.lev mu aS12 (lv6.ext x612), fS, nS, Ext.muF fS x6d mu, (mu.bs B12 aS12 nS).mono (by omega)⟩⟩
      · refine ifN rfl ?_
        repeat' array_mem_dec
        refine ifP rfl ?_
        repeat' array_mem_dec
        rename_i q7 H7 x7 B7 a7 n7 q8 H8 x8 B8 a8 n8
        have x68 := x7.trans x8
        exact ⟨⟨q8, _, os ++ List.replicate 1 (some 0), lv', lb', _, _, _, _, rfl, a8, ItsI.app (it6.ext x68) (ItsI.zeros (m := 1) rfl), by rw [List.length_append, List.length_replicate]; omega, lv6.ext x68, (Fresh.none n8).back (x06.trans x7), B7.nel n8, x06.trans x68, B8.mono (by omega)⟩⟩
      · refine ifN rfl ?_
        repeat' array_mem_dec
        refine ifN rfl ?_
        repeat' array_mem_dec
        refine ifP rfl ?_
        repeat' array_mem_dec
        rename_i q8 H8 x8 B8 a8 n8
        have e : cutV xs none (some (-1)) = xs.take (HT.sIx xs.length xs.length (some (-1))) := by
          unfold cutV
          rw [HT.sIx_none, List.drop_zero, Nat.sub_zero]
        rw [e] at a8
        exact ⟨⟨q8, _, os.take _, lv', lb', _, _, _, _, rfl, a8, ItsI.take (it6.ext x8), by rw [List.length_take]; omega, lv6.ext x8, (Fresh.none n8).back x06, B6.nel n8, x06.trans x8, B8.mono (by omega)⟩⟩
      · refine ifN rfl ?_
        repeat' array_mem_dec
        refine ifN rfl ?_
        repeat' array_mem_dec
        refine ifN rfl ?_
        repeat' array_mem_dec
        refine ifP rfl ?_
        repeat' array_mem_dec
        rename_i J wk
        refine LcS.lc 0 wk B6 (fun _ y _ => y = .int 0) (by omega) (fun H' x => aS6.eq x) ?_ ?_
        · rintro j y K2 K3 hk y2 C2 ⟨rfl, hv⟩
          repeat' array_mem_dec
        rintro D ys H8 hD hyl hf x8 B8 aD
        have e : ys = List.replicate xs.length (.int 0) := List.eq_replicate_iff.mpr ⟨hyl, fun y hy => by
          obtain ⟨j, hj⟩ := List.mem_iff_getElem?.mp hy
          exact hf j y hj⟩
        exact ⟨⟨D, ys, List.replicate xs.length (some 0), lv', lb', _, _, _, _, rfl, aD, ItsI.zeros e, by rw [List.length_replicate]; omega, lv6.ext x8, (Fresh.none hD).back x06, B6.nel hD, x06.trans x8, B8.mono (by omega)⟩⟩
      · refine ifN rfl ?_
        repeat' array_mem_dec
        refine ifN rfl ?_
        repeat' array_mem_dec
        refine ifN rfl ?_
        repeat' array_mem_dec
        refine ifN rfl ?_
        repeat' array_mem_dec
        refine ifP rfl ?_
        repeat' array_mem_dec
        rename_i q7 H7 x7 B7 a7 n7 q8 H8 x8 B8 a8 n8
        have e : (List.replicate (130 - (xs.length : Int)).toNat [V.int 0]).flatten = List.replicate (130 - (xs.length : Int)).toNat (V.int 0) := List.flatten_replicate_singleton
        rw [e] at a8 ⊢
        have x68 := x7.trans x8
        refine ⟨by rw [List.length_replicate]; omega, New.bs B8 nofun fun q9 H9 x9 B9 a9 n9 => ?_⟩
        have x69 := x68.trans x9
        exact ⟨⟨q9, _, os ++ List.replicate (130 - (xs.length : Int)).toNat (some 0), lv', lb', _, _, _, _, rfl, a9, ItsI.app (it6.ext x69) (ItsI.zeros rfl), by rw [List.length_append, List.length_replicate]; omega, lv6.ext x69, (Fresh.none n9).back (x06.trans x68), B8.nel n9, x06.trans x69, B9.mono (by omega)⟩⟩
      · refine ifN rfl ?_
        repeat' array_mem_dec
        refine ifN rfl ?_
        repeat' array_mem_dec
        refine ifN rfl ?_
        repeat' array_mem_dec
        refine ifN rfl ?_
        repeat' array_mem_dec
        refine ifN rfl ?_
        repeat' array_mem_dec
        rename_i q1 H8 x8 B8 a8 n8 q2 H9 x9 B9 a9 n9 q3 H10 x10 B10 a10 n10 q4 H11 x11 B11 a11 n11 v H12 hv x12 B12
        have y8 : Ext p H8 H12 := x9.trans (x10.trans (x11.trans x12))
        have od : OddN H12 p v := by
          simp only [List.mem_cons, List.not_mem_nil, or_false] at hv
          rcases hv with rfl | rfl | rfl | rfl | rfl | rfl | rfl
          · exact odd_non
          · exact odd_str
          · exact odd_bl
          · exact odd_tup (a8.ext y8)
          · exact odd_lst (a9.ext (x10.trans (x11.trans x12)))
          · exact odd_dct (a10.ext (x11.trans x12))
          · exact odd_str
        have x612 : Ext p H6 H12 := x8.trans y8
        exact ⟨⟨S, xs, os, v, false, _, _, _, _, rfl, aS6.ext x612, it6.ext x612, by omega, od, fS, nS, x06.trans x612, B12.mono (by omega)⟩⟩
      · refine ifN rfl ?_
        repeat' array_mem_dec
        refine ifN rfl ?_
        repeat' array_mem_dec
        refine ifN rfl ?_
        repeat' array_mem_dec
        refine ifN rfl ?_
        repeat' array_mem_dec
        refine ifN rfl ?_
        repeat' array_mem_dec
        rename_i q1 H8 x8 B8 a8 n8 q2 H9 x9 B9 a9 n9 q3 H10 x10 B10 a10 n10 q4 H11 x11 B11 a11 n11 v H12 hv x12 B12
        have y8 : Ext p H8 H12 := x9.trans (x10.trans (x11.trans x12))
        have od : OddN H12 p v := by
          simp only [List.mem_cons, List.not_mem_nil, or_false] at hv
          rcases hv with rfl | rfl | rfl | rfl | rfl | rfl | rfl
          · exact odd_non
          · exact odd_str
          · exact odd_bl
          · exact odd_tup (a8.ext y8)
          · exact odd_lst (a9.ext (x10.trans (x11.trans x12)))
          · exact odd_dct (a10.ext (x11.trans x12))
          · exact odd_str
        have x612 : Ext p H6 H12 := x8.trans y8
        exact ⟨⟨S, xs, os, v, false, _, _, _, _, rfl, aS6.ext x612, it6.ext x612, by omega, od, fS, nS, x06.trans x612, B12.mono (by omega)⟩⟩
    · rintro σ H3 ⟨⟨S, xs, os, lv', lb', v4, v5, v6, v7, rfl, aS, it, hlen, hlv', fS, nS, x03, B3⟩⟩
      repeat' array_mem_dec
      rename_i q4 H4 x4 B4 a4 n4
      exact k q4 S xs os lv' lb' H4 (x03.trans x4) (B4.mono (by omega)) a4 (aS.ext x4) (it.ext x4) (by omega) (hlv'.ext x4)
end
end K40
namespace K40
open PySem PySem.Spec PyProof.Rows L2 EM
theorem oddN_du {K : PySem.W.Frag} {mg : Str → Option Value} (T : Tx K mg) {H : Hp} {p : Addr} {v : V} (h : OddN H p v) : NoDu K H v := by
  obtain ⟨ty, b1, b2, h1, h2, h3, h4, h5⟩ := h.ty (K := K)
  refine ⟨_, h1, ?_⟩
  simp only [List.mem_cons, List.not_mem_nil, or_false] at h5
  rcases h5 with rfl | rfl | rfl | rfl | rfl | rfl
  · exact T.kit_bool_Duel
  · exact T.kit_NoneType_Duel
  · exact T.kit_str_Duel
  · exact T.kit_tuple_Duel
  · exact T.kit_list_Duel
  · exact T.kit_dict_Duel
theorem int_du {K : PySem.W.Frag} {mg : Str → Option Value} (T : Tx K mg) {H : Hp} {i : Int} : NoDu K H (.int i) := ⟨_, .base (.int i), T.kit_int_Duel⟩
/-- an int, or a value that is no number: no duel, and of no own class -/
def Pl (p : Addr) (H : Hp) (v : V) : Prop := (∃ i, v = .int i) ∨ OddN H p v
theorem Pl.dec {p : Addr} {H : Hp} {v : V} (h : Pl p H v) : ∃ T, DecT H v T := by
  rcases h with ⟨i, rfl⟩ | h
  · exact ⟨_, .int i⟩
  · exact h.dec
theorem Pl.no {K : PySem.W.Frag} {mg : Str → Option Value} (T : Tx K mg) {p : Addr} {H : Hp} {v : V} (h : Pl p H v) : NoDu K H v := by
  rcases h with ⟨i, rfl⟩ | h
  · exact int_du T
  · exact oddN_du T h
structure DuS (K : PySem.W.Frag) (x y : V) (H : Hp) (g : Bool → Bool) (Q : VK) : Prop where
  h : ∃ (T : List (Addr × Str)) (p l d : Addr) (n : Nat) (ws : List Int) (e : Int × Int), Bs T p l n H ∧ DuelP K p H d ws e ∧ Bt 1900 e.1 ∧ Bt 1900 e.2 ∧
    ((∃ d' ws' e', x = .ref d ∧ y = .ref d' ∧ DuelP K p H d' ws' e' ∧ Bt 1900 e'.1 ∧ Bt 1900 e'.2 ∧ ∀ H', Ext p H H' → Bs T p l n H' → Q (.bl (g (decide (ws = ws') && decide (e = e')))) H') ∨
     (x = .ref d ∧ Pl p H y ∧ Q (.bl (g false)) H) ∨ (y = .ref d ∧ Pl p H x ∧ Q (.bl (g false)) H))
abbrev EqDuS (K : PySem.W.Frag) : V → V → Hp → VK → Prop := fun x y H Q => DuS K x y H id Q
structure NeDuS (K : PySem.W.Frag) (x y : V) (H : Hp) (Q : VK) : Prop where
  h : ∃ (T : List (Addr × Str)) (p l d d' : Addr) (n : Nat) (ws ws' : List Int) (e e' : Int × Int), x = .ref d ∧ y = .ref d' ∧ Bs T p l n H ∧ DuelP K p H d ws e ∧ Bt 1900 e.1 ∧ Bt 1900 e.2 ∧ DuelP K p H d' ws' e' ∧ Bt 1900 e'.1 ∧ Bt 1900 e'.2 ∧ ∀ H', Ext p H H' → Bs T p l n H' → Q (.bl (!(decide (ws = ws') && decide (e = e')))) H'
theorem op_eqDu {K : PySem.W.Frag} {mg : Str → Option Value} (T : Tx K mg) {X : Cx} (hr : Room 9 X.A) (e1 : X.K = K := by rfl) (e2 : X.mg = mg := by rfl) : OpR X (compareOp .Eq) (EqDuS K) := by
  subst e1 e2
  have o1 := op_cmpL (X := X) (E := E0) (op := .Eq) (fun _ _ => rfl) T.m_Duel_eq.at_ T.m_Duel_eq.fn T.ap_Duel (ok_Duel_eq (P := X.prog) (w := X.w) (base := X.base) T) hr passL
  have o3 := op_eqR (X := X) (E := E0) T.m_Duel_eq.at_ T.m_Duel_eq.fn T.ap_Duel (ok_Duel_eq (P := X.prog) (w := X.w) (base := X.base) T) hr passL
  rintro pins s σ H x y v u Q I rx ry ⟨⟨T0, p, l, d, n, ws, e, B, dp, bt, bb, h⟩⟩
  obtain ⟨dx, q, a, h1, _⟩ := id dp
  rcases h with ⟨d', ws', e', rfl, rfl, dp', bt', bb', k⟩ | ⟨rfl, pl, k⟩ | ⟨rfl, pl, k⟩
  · obtain ⟨dy, q', a', g1, _⟩ := id dp'
    exact o1 pins s σ H _ _ v u Q I rx ry ⟨d, dx, _, rfl, h1.at_, .inl ⟨d', dy, _, rfl, g1.at_⟩, T0, p, l, d, n, _, ws, e, rfl, B, dp, bt, bb, .inl ⟨d', ws', e', rfl, dp', bt', bb', k⟩⟩
  · exact o1 pins s σ H _ _ v u Q I rx ry ⟨d, dx, _, rfl, h1.at_, .inr pl.dec, T0, p, l, d, n, _, ws, e, rfl, B, dp, bt, bb, .inr ⟨pl.no T, k⟩⟩
  · exact o3 pins s σ H _ _ v u Q I rx ry ⟨d, dx, _, rfl, h1.at_, pl.dec, trivial, T0, p, l, d, n, _, ws, e, rfl, B, dp, bt, bb, .inr ⟨pl.no T, k⟩⟩
theorem op_neDu {K : PySem.W.Frag} {mg : Str → Option Value} (T : Tx K mg) {X : Cx} (hr : Room 10 X.A) (e1 : X.K = K := by rfl) (e2 : X.mg = mg := by rfl) : OpR X (compareOp .NotEq) (NeDuS K) := by
  subst e1 e2
  have o1 := op_neL (X := X) (E := E0) T.ne_Duel T.mo_Duel T.m_Duel_eq.at_ T.m_Duel_eq.fn T.ap_Duel (ok_Duel_eq (P := X.prog) (w := X.w) (base := X.base) T) hr passL
  rintro pins s σ H x y v u Q I rx ry ⟨⟨T0, p, l, d, d', n, ws, ws', e, e', rfl, rfl, B, dp, bt, bb, dp', bt', bb', k⟩⟩
  obtain ⟨dx, q, a, h1, _⟩ := id dp
  obtain ⟨dy, q', a', g1, _⟩ := id dp'
  exact o1 pins s σ H _ _ v u Q I rx ry ⟨d, dx, _, rfl, h1.at_, .inl ⟨d', dy, _, rfl, g1.at_⟩, T0, p, l, d, n, _, ws, e, rfl, B, dp, bt, bb, .inl ⟨d', ws', e', rfl, dp', bt', bb', fun H' x B' => ⟨_, rfl, k H' x B'⟩⟩⟩
structure NegS (K : PySem.W.Frag) (x : V) (H : Hp) (Q : VK) : Prop where
  h : spNegD K [x] H Q E0
theorem un_negDu {K : PySem.W.Frag} {mg : Str → Option Value} (T : Tx K mg) {X : Cx} (hr : Room 12 X.A) (e1 : X.K = K := by rfl) (e2 : X.mg = mg := by rfl) : UnR X (unaryOp .USub) (NegS K) := by
  subst e1 e2
  refine unR_of (un_negO (E := E0) T.m_Duel_neg.at_ T.m_Duel_neg.fn (ok_Duel_neg T) hr passL) fun x H Q ⟨h⟩ => ?_
  obtain ⟨T0, p, l, d, n, ws, e, ex, B, dp, _⟩ := id h
  cases ex
  obtain ⟨dx, q, a, h1, _⟩ := id dp
  exact ⟨d, dx, _, rfl, h1.at_, h⟩
structure LenD (K : PySem.W.Frag) (xs : List V) (H : Hp) (Q : VK) : Prop where
  h : ∃ p d ws e, xs = [.ref d] ∧ DuelP K p H d ws e ∧ ws.length < 1000000 ∧ Q (.int (ws.length : Nat)) H
theorem lenD {K : PySem.W.Frag} {p d : Addr} {ws : List Int} {e : Int × Int} {H : Hp} {Q : VK} (h : DuelP K p H d ws e) (hl : ws.length < 1000000) (k : Q (.int (ws.length : Nat)) H) : LenD K [.ref d] H Q := ⟨p, d, ws, e, rfl, h, hl, k⟩
theorem call_lenD {K : PySem.W.Frag} {mg : Str → Option Value} (T : Tx K mg) {X : Cx} (hr : Room 2 X.A) (e1 : X.K = K := by rfl) (e2 : X.mg = mg := by rfl) : CallR X (.builtin "len") (LenD K) := by
  subst e1 e2
  refine callR_of (call_lenO (E := E0) T.m_Duel_len.at_ T.m_Duel_len.fn (ok_Duel_len (P := X.prog) (w := X.w) (base := X.base) T) hr passL) fun xs H Q ⟨⟨p, d, ws, e, ex, m, hl, k⟩⟩ => ?_
  subst ex
  obtain ⟨dx, q, a, h1, _⟩ := id m
  exact ⟨d, dx, _, rfl, h1.at_, p, d, ws, e, rfl, m, _, rfl, hl, k⟩
theorem two_duel {K : PySem.W.Frag} {T : List (Addr × Str)} {p l a : Addr} {n : Nat} {H : Hp} {ws : List Int} {lv : V} {t b : Int} {c : Bool} {A B : Prop} (Q : VK) (B0 : Bs T p l n H) (h : SeqV p H a (ws.map V.int)) (g : GoodW ws) (nv : NumP K p H lv t b) (bt : Bt 2000 t) (bb : Bt 2000 b)
    (k : ∀ d H', Ext p H H' → Bs T p l n H' → DuelP K p H' d ws (t, b) → Fresh p H d → Q (.ref d) H') (fB : (∀ E, Sw (spDuel K) [.ref a, lv] H Q E) → B) (fA : (∀ E, Sw (spDuel K) [.ref a, lv] H Q E) → A) : if c = true then A else B := by
  have s : ∀ E, Sw (spDuel K) [.ref a, lv] H Q E := fun E => mkD_good B0 h g nv bt bb k
  cases c
  · exact fB s
  · exact fA s

theorem DuelP.mu {K : PySem.W.Frag} {p S : Addr} {H H' : Hp} {d : Addr} {ws : List Int} {e : Int × Int} {xs ys : List V} (m : Mu S H H' (.lst ys)) (g : At p H S (.lst xs)) (h : DuelP K p H d ws e) : DuelP K p H' d ws e := by
  obtain ⟨dx, q, a, h1, h2, h3, h4⟩ := h
  exact ⟨dx, q, a, m.at_k h1 g (by intro _ z; cases z), m.at_k h2 g (by intro _ z; cases z), m.rat h3 g, h4⟩
/-- another value than the duel of ws and e -/
def Oth (K : PySem.W.Frag) (p : Addr) (ws : List Int) (e : Int × Int) (H : Hp) (v : V) : Prop := (∃ d' ws' e', v = .ref d' ∧ DuelP K p H d' ws' e' ∧ Bt 1900 e'.1 ∧ Bt 1900 e'.2 ∧ ¬ (ws = ws' ∧ e = e') ∧ ¬ (ws' = ws ∧ e' = e)) ∨ Pl p H v
theorem Oth.ext {K : PySem.W.Frag} {p : Addr} {ws : List Int} {e : Int × Int} {H H' : Hp} {v : V} (h : Oth K p ws e H v) (x : Ext p H H') : Oth K p ws e H' v := by
  rcases h with ⟨d', ws', e', r, h, b⟩ | ⟨i, r⟩ | h
  · exact .inl ⟨d', ws', e', r, h.ext x, b⟩
  · exact .inr (.inl ⟨i, r⟩)
  · exact .inr (.inr (OddN.ext h x.k))
theorem Oth.du {K : PySem.W.Frag} {p d : Addr} {ws us : List Int} {e f : Int × Int} {H : Hp} (h : DuelP K p H d us f) (b1 : Bt 1900 f.1) (b2 : Bt 1900 f.2) (n : ¬ (ws = us ∧ e = f)) : Oth K p ws e H (.ref d) := .inl ⟨d, us, f, rfl, h, b1, b2, n, fun z => n ⟨z.1.symm, z.2.symm⟩⟩
theorem Oth.pl {K : PySem.W.Frag} {p : Addr} {ws : List Int} {e : Int × Int} {H : Hp} {v : V} (h : OddN H p v) : Oth K p ws e H v := .inr (.inr h)
theorem no_and {A B : Prop} [Decidable A] [Decidable B] (h : ¬ (A ∧ B)) : (decide A && decide B) = false := by
  by_cases a : A
  · by_cases b : B
    · exact absurd ⟨a, b⟩ h
    · rw [decide_eq_false b, Bool.and_false]
  · rw [decide_eq_false a, Bool.false_and]
section
variable {K : PySem.W.Frag} {T : List (Addr × Str)} {p l d : Addr} {n : Nat} {H : Hp} {ws : List Int} {e : Int × Int} {v : V} {Q : VK}
theorem duS_l (B : Bs T p l n H) (h : DuelP K p H d ws e) (b1 : Bt 1900 e.1) (b2 : Bt 1900 e.2) (o : Oth K p ws e H v) (k : ∀ H', Ext p H H' → Bs T p l n H' → Q (.bl false) H') : EqDuS K (.ref d) v H Q := by
  refine ⟨T, p, l, d, n, ws, e, B, h, b1, b2, ?_⟩
  rcases o with ⟨d', ws', e', rfl, h', b1', b2', n1, n2⟩ | o
  · exact .inl ⟨d', ws', e', rfl, rfl, h', b1', b2', fun H' x B' => by rw [no_and n1]; exact k H' x B'⟩
  · exact .inr (.inl ⟨rfl, o, k H Ext.refl B⟩)
theorem duS_r (B : Bs T p l n H) (h : DuelP K p H d ws e) (b1 : Bt 1900 e.1) (b2 : Bt 1900 e.2) (o : Oth K p ws e H v) (k : ∀ H', Ext p H H' → Bs T p l n H' → Q (.bl false) H') : EqDuS K v (.ref d) H Q := by
  rcases o with ⟨d', ws', e', rfl, h', b1', b2', n1, n2⟩ | o
  · refine ⟨T, p, l, d', n, ws', e', B, h', b1', b2', .inl ⟨d, ws, e, rfl, rfl, h, b1, b2, fun H' x B' => ?_⟩⟩
    rw [no_and n2]
    exact k H' x B'
  · exact ⟨T, p, l, d, n, ws, e, B, h, b1, b2, .inr (.inr ⟨rfl, o, k H Ext.refl B⟩)⟩
theorem duS_same {d' : Addr} {ws' : List Int} {e' : Int × Int} (B : Bs T p l n H) (h : DuelP K p H d ws e) (h' : DuelP K p H d' ws' e') (b1 : Bt 1900 e.1) (b2 : Bt 1900 e.2) (e1 : ws = ws') (e2 : e = e') (k : ∀ H', Ext p H H' → Bs T p l n H' → Q (.bl true) H') : EqDuS K (.ref d) (.ref d') H Q := by
  subst e1 e2
  exact ⟨T, p, l, d, n, ws, e, B, h, b1, b2, .inl ⟨d', ws, e, rfl, rfl, h', b1, b2, fun H' x B' => by rw [decide_eq_true rfl, decide_eq_true rfl]; exact k H' x B'⟩⟩
end
theorem low_addb {t b : Int} (h : Low t b) : Low (t + b) b := ⟨h.pos, by
  have g := h.red
  simpa using g⟩
theorem neg_ne {ws : List Int} (h : ∃ w ∈ ws, w ≠ 0) : ¬ ws = ws.map fun w => -w := fun z => by
  obtain ⟨w, hw, n⟩ := h
  obtain ⟨j, hj⟩ := List.mem_iff_getElem?.mp hw
  have e : (ws.map fun w => -w)[j]? = some w := by rw [← z]; exact hj
  rw [List.getElem?_map, hj] at e
  have : -w = w := Option.some.inj e
  omega
theorem neg_neg_map (ws : List Int) : (ws.map fun w => -w).map (fun w => -w) = ws := by
  induction ws with
  | nil => rfl
  | cons w r ih => rw [List.map_cons, List.map_cons, ih, Int.neg_neg]
end K40
namespace K40
open PySem PySem.Spec PyProof.Rows L2 EM

def spMadeR (K : PySem.W.Frag) : Sp := fun vs H Q _ => ∃ (T : List (Addr × Str)) (p l a q : Addr) (n : Nat) (ws : List Int) (t b : Int), vs = [.ref p, .ref a, .ref q] ∧ Bs T p l n H ∧ n ≤ 800000 ∧ At p H a (.lst (ws.map V.int)) ∧ GoodW ws ∧ (∀ w ∈ ws, Bt 210 w) ∧ At p H q (.tup [.int t, .int b]) ∧ Low t b ∧ -20 ≤ t ∧ t ≤ 20 ∧ b ≤ 7 ∧
  ∀ H', Ext p H H' → Bs T p l (n + 1) H' → Q (.bl true) H'
theorem Oth.mu {K : PySem.W.Frag} {p S : Addr} {ws : List Int} {e : Int × Int} {H H' : Hp} {xs ys : List V} {v : V} (m : Mu S H H' (.lst ys)) (g : At p H S (.lst xs)) (h : Oth K p ws e H v) : Oth K p ws e H' v := by
  rcases h with ⟨d', ws', e', r, h, b⟩ | ⟨i, r⟩ | h
  · exact .inl ⟨d', ws', e', r, DuelP.mu m g h, b⟩
  · exact .inr (.inl ⟨i, r⟩)
  · exact .inr (.inr (Mu.odd m g h))
local macro_rules | `(tactic| sizeOf_list_dec) => `(tactic| first
  | with_reducible assumption
  | ((with_reducible apply EM.At.ext); (focus (with_reducible assumption)); (focus sizeOf_list_dec))
  | ((with_reducible apply EM.RatP.ext); (focus (with_reducible assumption)); (focus sizeOf_list_dec))
  | ((with_reducible apply EM.NumP.ext); (focus (with_reducible assumption)); (focus sizeOf_list_dec))
  | (with_reducible exact EM.Ext.refl)
  | ((with_reducible apply EM.Ext.back); (focus (with_reducible assumption)); (focus sizeOf_list_dec))
  | exact EM.NumP.int _
  | ((with_reducible apply EM.Mu.at_k); (focus (with_reducible assumption)); (focus sizeOf_list_dec); (focus sizeOf_list_dec); (focus (intro _ z; cases z; done)))
  | ((with_reducible apply EM.Mu.at_n); (focus (with_reducible assumption)); (focus sizeOf_list_dec); (focus (first | with_reducible assumption | ((apply EM.nn1); (focus (with_reducible assumption)); (focus sizeOf_list_dec)) | ((apply EM.nn2); (focus (with_reducible assumption)); (focus sizeOf_list_dec)))))
  | ((with_reducible apply EM.Mu.here); (focus (with_reducible assumption)); (focus sizeOf_list_dec))
  | ((with_reducible apply EM.Mu.rat); (focus (with_reducible assumption)); (focus sizeOf_list_dec); (focus sizeOf_list_dec))
  | ((with_reducible apply EM.Mu.num); (focus (with_reducible assumption)); (focus sizeOf_list_dec); (focus sizeOf_list_dec))
  | ((with_reducible apply EM.num_of_rat); (focus sizeOf_list_dec); (focus (first | with_reducible assumption | (apply EM.n_low; assumption))))
  | ((with_reducible apply EM.SeqV.xt); (focus (with_reducible assumption)); (focus sizeOf_list_dec))
  | ((with_reducible apply EM.ItsI.xt); (focus (with_reducible assumption)); (focus sizeOf_list_dec))
  | ((with_reducible apply EM.RatsP.xt); (focus (with_reducible assumption)); (focus sizeOf_list_dec))
  | ((with_reducible apply EM.PairsP.xt); (focus (with_reducible assumption)); (focus sizeOf_list_dec)))
local macro_rules | `(tactic| decreasing_trivial_pre_omega) => `(tactic| first
  | with_reducible assumption
  | exact EM.Bt.mono (by with_reducible assumption) (by decide)
  | exact EM.Bt.lit _ _ (by decide +kernel)
  | ((with_reducible refine EM.Bt.rng32 ?_ ?_) <;> omega)
  | ((with_reducible refine EM.Bt.rng70 ?_ ?_) <;> omega)
  | ((with_reducible refine EM.Bt.rng200 ?_ ?_) <;> omega)
  | ((with_reducible apply EM.Bt.mulM); (focus decreasing_trivial_pre_omega); (focus decreasing_trivial_pre_omega); (focus (first | decide | exact Nat.le_refl _)))
  | ((with_reducible apply EM.Bt.addM); (focus decreasing_trivial_pre_omega); (focus decreasing_trivial_pre_omega); (focus (first | decide | exact Nat.le_refl _)))
  | ((with_reducible apply EM.Bt.subM); (focus decreasing_trivial_pre_omega); (focus decreasing_trivial_pre_omega); (focus (first | decide | exact Nat.le_refl _)))
  | ((with_reducible apply EM.Bt.topL); (focus decreasing_trivial_pre_omega); (focus assumption); (focus (first | decide | exact Nat.le_refl _)))
  | ((with_reducible apply EM.Bt.botL); (focus decreasing_trivial_pre_omega); (focus assumption); (focus (first | decide | exact Nat.le_refl _)))
  | ((with_reducible apply EM.Bt.divM); (focus decreasing_trivial_pre_omega); (focus assumption); (focus (first | decide | exact Nat.le_refl _)))
  | ((with_reducible apply EM.Bt.negM); (focus decreasing_trivial_pre_omega); (focus (first | decide | exact Nat.le_refl _))))
local macro_rules | `(tactic| array_get_dec) => `(tactic| first
  | with_reducible assumption
  | ((with_reducible refine EM.gEq ?_); exact rfl)
  | ((with_reducible refine EM.gTru ?_); exact rfl)
  | ((with_reducible refine EM.gRef ?_); first | exact Or.inl ⟨_, rfl⟩ | exact Or.inr ⟨_, rfl⟩)
  | ((with_reducible apply EM.At.get); sizeOf_list_dec)
  | ((with_reducible apply EM.At.sqL); sizeOf_list_dec)
  | ((with_reducible apply EM.At.sqT); sizeOf_list_dec)
  | ((with_reducible apply EM.RatP.getK); (focus sizeOf_list_dec); (focus (exact rfl)))
  | (with_reducible exact EM.Num.int _)
  | ((with_reducible apply EM.NumP.getK); (focus sizeOf_list_dec); (focus (exact rfl)))
  | ((with_reducible apply EM.At.ext); (focus (with_reducible assumption)); (focus sizeOf_list_dec))
  | ((with_reducible apply EM.RatP.ext); (focus (with_reducible assumption)); (focus sizeOf_list_dec))
  | ((with_reducible apply EM.NumP.ext); (focus (with_reducible assumption)); (focus sizeOf_list_dec))
  | with_reducible exact Tx.cl_Ratio (by assumption)
  | with_reducible exact Tx.cl_Duel (by assumption)
  | with_reducible exact Tx.na_Ratio_top (by assumption)
  | with_reducible exact Tx.na_Ratio_bottom (by assumption)
  | with_reducible exact Tx.na_Duel_weights (by assumption)
  | with_reducible exact Tx.na_Duel_level (by assumption)
  | ((with_reducible refine EM.gAt ?_); sizeOf_list_dec)
  | ((with_reducible refine EM.gRat ?_); sizeOf_list_dec)
  | ((with_reducible refine EM.gNum ?_); sizeOf_list_dec)
  | ((with_reducible apply EM.TwoP.mk); (focus (with_reducible assumption)); (focus sizeOf_list_dec); (focus (first | with_reducible assumption | (apply EM.n_low; assumption))); (focus sizeOf_list_dec); (focus decreasing_trivial_pre_omega); (focus decreasing_trivial_pre_omega); (focus decreasing_trivial_pre_omega); (focus decreasing_trivial_pre_omega))
  | (with_reducible exact EM.Ext.refl)
  | ((with_reducible apply EM.Ext.back); (focus (with_reducible assumption)); (focus sizeOf_list_dec))
  | ((with_reducible apply EM.Bs.mono); (focus (with_reducible assumption)); omega)
  | ((with_reducible refine EM.gN ?_); first | decide | omega | exact Nat.le_of_ble_eq_true rfl | (simp only [List.length_cons, List.length_nil, List.length_append]; omega))
  | ((with_reducible refine EM.gM ?_); first | decide | omega | exact Nat.le_of_ble_eq_true rfl)
  | ((with_reducible refine EM.gI ?_); first | decide | omega)
  | ((with_reducible refine EM.gJ ?_); first | decide | omega)
  | ((with_reducible refine EM.gE ?_); first | decide | omega)
  | ((with_reducible refine EM.gB ?_); decreasing_trivial_pre_omega)
  | ((with_reducible apply EM.wideM); (focus decreasing_trivial_pre_omega); (focus decreasing_trivial_pre_omega); (focus decide)))
local macro_rules | `(tactic| infer_instance) => `(tactic| first
  | with_reducible assumption
  | exact DpAll.nil
  | (apply DpAll.cons; (focus infer_instance); (focus infer_instance))
  | with_reducible exact Dp.int _
  | exact Dp.int _
  | with_reducible exact Dp.str _
  | exact Dp.bl _
  | exact Dp.non
  | ((with_reducible apply EM.dp_lst); (focus array_get_dec); (focus infer_instance))
  | ((with_reducible apply EM.dp_tup); (focus array_get_dec); (focus infer_instance))
  | exact EM.dp_ints _)
local macro_rules | `(tactic| nofun) => `(tactic| first
  | with_reducible assumption
  | exact EM.FeL.nil
  | exact EM.FdL.nil
  | (apply EM.FeL.cons; (focus nofun); (focus nofun))
  | (apply EM.FdL.cons; (focus nofun); (focus nofun))
  | exact EM.Fe.int _
  | exact EM.Fe.bool _
  | exact EM.Fe.non
  | exact EM.Fe.str (EM.okS_of _)
  | (apply EM.Fe.str; apply EM.Fd.ok; (focus nofun))
  | (apply EM.Fe.list; (focus nofun))
  | (apply EM.Fe.tup; (focus nofun))
  | (apply EM.Fd.int; (focus decreasing_trivial_pre_omega))
  | exact EM.Fd.bool _
  | exact EM.Fd.non
  | (refine EM.Fd.bool _)
  | (apply EM.Fd.list; (focus nofun))
  | (apply EM.Fd.tup; (focus nofun)))
local macro_rules | `(tactic| array_mem_dec) => `(tactic| ((with_reducible refine EM.pr ?_); first
  | (with_reducible refine L2.iteT ?_)
  | (with_reducible refine L2.iteF ?_)
  | (with_reducible refine EM.ifNotT ?_)
  | (with_reducible refine EM.ifNotF ?_)
  | ((fail_if_success (with_reducible refine EM.gIf ?_)); first
  | array_get_dec
  | (refine EM.mk_low (by with_reducible assumption) (by with_reducible assumption) ?_ ?_; (focus array_get_dec))
  | (apply EM.isNum_sw; (focus sizeOf_list_dec))
  | (apply EM.of_sw; (focus (with_reducible assumption)); (focus sizeOf_list_dec))
  | (apply EM.neg_bs; (focus (with_reducible assumption)); (focus sizeOf_list_dec); (focus array_get_dec); (focus array_get_dec))
  | (apply EM.relw_bs; (focus (with_reducible assumption)); (focus sizeOf_list_dec); (focus sizeOf_list_dec); (focus array_get_dec); (focus decreasing_trivial_pre_omega); (focus decreasing_trivial_pre_omega); (focus decreasing_trivial_pre_omega); (focus decreasing_trivial_pre_omega))
  | ((apply EM.DnS.bs); (focus (with_reducible assumption)); (focus (intro _ z; cases z; done)))
  | ((apply EM.seqL); (focus sizeOf_list_dec))
  | ((apply EM.seqT); (focus sizeOf_list_dec))
  | ((apply EM.seqS); (focus sizeOf_list_dec))
  | ((apply EM.enS); (focus sizeOf_list_dec))
  | ((apply EM.lenL); (focus sizeOf_list_dec))
  | ((apply EM.lenT); (focus sizeOf_list_dec))
  | ((apply EM.lenS); (focus sizeOf_list_dec))
  | ((apply EM.isSeqL); (focus sizeOf_list_dec); (focus sizeOf_list_dec))
  | ((apply EM.isSeqT); (focus sizeOf_list_dec); (focus sizeOf_list_dec))
  | ((apply EM.isSeqS); (focus sizeOf_list_dec); (focus sizeOf_list_dec))
  | ((apply EM.lstS); (focus sizeOf_list_dec))
  | ((apply EM.sumS); (focus sizeOf_list_dec))
  | ((apply EM.tupSL); (focus sizeOf_list_dec))
  | ((apply EM.tupST); (focus sizeOf_list_dec))
  | ((apply EM.fld_bs); (focus sizeOf_list_dec); (focus (exact Tx.cl_Duel (by assumption))); (focus (first | exact Tx.na_Duel_weights (by assumption) | exact Tx.na_Duel_level (by assumption))); (focus (exact rfl)))
  | ((apply lenD); (focus sizeOf_list_dec); (focus omega))
  | (with_reducible apply EM.NeS.mk')
  | ((with_reducible refine EM.New.bs (by with_reducible assumption) ?_ ?_); (focus (intro _ z; cases z; done)))
  | ((with_reducible refine EM.gMu ?_); (with_reducible apply EM.mu_bs); (focus (with_reducible assumption)); (focus sizeOf_list_dec); (focus (apply EM.nel2; (focus (with_reducible assumption)); (focus (with_reducible assumption)))); intro _ _ _)
  | intro _
  | (apply And.intro; (focus array_get_dec))
  | apply Exists.intro
  | (refine EM.draw_bs (by with_reducible assumption) ?_ ?_ ?_ ?_; (focus array_get_dec); (focus array_get_dec); (focus (first | decide | omega)))
  | (apply EM.pick_bs; (focus (with_reducible assumption)); (focus array_get_dec); (focus sizeOf_list_dec); (focus (exact Nat.le_of_ble_eq_true rfl)); (focus (exact Nat.le_of_ble_eq_true rfl)))
  | ((apply EM.repr_sw); (focus infer_instance); (focus nofun); (focus decide))
  | ((apply EM.eqd_same); (focus infer_instance); (focus infer_instance); (focus nofun); (focus decide))
  | ((apply EM.ned_same); (focus infer_instance); (focus infer_instance); (focus nofun); (focus decide))
  | ((apply EM.eqd_sw); (focus infer_instance); (focus infer_instance); (focus nofun); (focus nofun); (focus decide))
  | ((apply EM.ned_sw); (focus infer_instance); (focus infer_instance); (focus nofun); (focus nofun); (focus decide))
  | (refine EM.cut_bs (by with_reducible assumption) ?_ ?_ ?_; (focus array_get_dec); (focus array_get_dec)))))
section
variable {P : Program} {w : World} {K : PySem.W.Frag} {mg : Str → Option Value} {base : Heap}
theorem ok_Lmade_right (T : Tx K mg) : FnG P w K mg base (L2.CX P w) 13 (He.ga K "_law_made_right") (spMadeR K) := by
  obtain ⟨fd, F⟩ := T.d_Lmade_right
  refine EM.fng F sc_Lmade_right (fun _ _ _ _ _ _ us hl => match us, hl with | [_, _, _], _ => rfl) (fun vs H Q E h => ?_) (fun cdv A outer s H vs Q E hr hG h => ?_)
  · obtain ⟨T0, p, l, a, q, n, ws, t, b, rfl, _⟩ := h
    rfl
  · obtain ⟨T0, p, l, a, q, n, ws, t, b, rfl, B0, hn, aR, g, gb, aq, lo, t0, t1, b1, k⟩ := h
    obtain ⟨fdD, FD⟩ := T.d_Duel_init
    have okD := FunD.ok (P := P) (w := w) (mg := mg) (base := base) (CX := L2.CX P w) FD sc_Duel_init len_initD (bod_Duel_init T _)
    obtain ⟨itsD, hbD⟩ := FunD.kbindsD (ps := ["self", "weights", "level"]) FD 1 ["weights", "level"] (fun us its ws => us ++ ws) (by intro z; cases z) (fun h1 h2 h3 => h1.append h3)
      (fun T kV doc pm an cdv ct us its ws h1 h2 h3 => match us, h1, its, h2, ws, h3 with | [_], _, [_], _, [_, _], _ => ⟨_, rfl, rfl⟩)
    have sR : SeqV p H a (ws.map V.int) := .inl aR
    have hwl : ws.length ≤ 128 := g.p.1.2.2
    have hu70 : (A.deeper (envOfC "_law_made_right" (defScope s_Lmade_right) s.heap.objs.size (He.ga K "_law_made_right") cdv)).units + 70 < cLine := by have := hr.un; omega
    have b0 := lo.pos
    have bt : Bt 1900 t := (Bt.rng32 (by omega) (by omega)).mono (by decide)
    have bb : Bt 1900 b := (Bt.rng32 (by omega) (by omega)).mono (by decide)
    have fw : FdL (1923 * 128) 0 (ws.map .int) := FdL.ints (fun x hx => (gb x hx).mono (by decide)) hwl
    have fn : FdL (1923 * 128) 0 ((ws.map fun w => -w).map .int) := FdL.ints (fun x hx => by
      obtain ⟨w, hw, rfl⟩ := List.mem_map.mp hx
      exact (gb w hw).neg.mono (by decide)) (by rw [List.length_map]; exact hwl)
    have bl : Bt 1900 ((ws.length : Nat) : Int) := (Bt.rng32 (by omega) (by omega)).mono (by decide)
    have fd1 := Fd.list (FdL.cons (Fd.tup fw) (FdL.cons (Fd.int bl) (FdL.cons (Fd.int bt) (FdL.cons (Fd.int bb) (FdL.cons (Fd.bool true) FdL.nil)))))
    have bl2 : Bt 1900 (((ws.map V.int).length : Nat) : Int) := by rw [List.length_map]; exact bl
    have fd3 := Fd.list (FdL.cons (Fd.tup fw) (FdL.cons (Fd.int bl2) (FdL.cons (Fd.int bt) (FdL.cons (Fd.int bb) (FdL.cons (Fd.bool true) FdL.nil)))))
    have bz : Bt 1900 (0 - t) := by rw [Int.zero_sub]; exact bt.neg
    have fd4 := Fd.list (FdL.cons (Fd.tup fn) (FdL.cons (Fd.int bz) (FdL.cons (Fd.int bb) FdL.nil)))
    have fd2 := Fd.list (FdL.cons (Fd.tup fn) (FdL.cons (Fd.int bt.neg) (FdL.cons (Fd.int bb) FdL.nil)))
    refine ⟨_, (PSs.nox (pss_cons (ps_par (by rfl) sc_Lmade_right.nd (i := 3) (j := 4) rfl rfl (by decide) rfl rfl (pa_cons (pe_callTy EM.call_listSN (by rfl) T.f_list (by decide +kernel) (pa_cons (pv 1) pa_nil)) (pa_cons (EM.pe_cR ((ok_Lnumber T).sw) (hr.mono (by decide)) T.k__law_number T.g__law_number passL (pa_cons (pv 2) pa_nil)) pa_nil)) (by rfl))
 (pss_cons (ps_set (i := 5) sc_Lmade_right.nd rfl (Or.inr rfl) (pe_ifExp (pt_cmpR op_eq (EM.pe_cR ((ok_Ldraw T).sw) (hr.mono (by decide)) T.k__law_draw T.g__law_draw passL (pa_cons (pv 0) (pa_cons pe_int pa_nil))) pe_int (nomark _)) ((pe_makeK0 (k := 10) (ks := ["weights", "level"]) (gV := fun vs zs => vs ++ zs) T.mk_Duel okD (hr.mono (by decide)) (by rfl) T.g_Duel hbD passL (pk_cons (pv 3) (pk_cons (pv 4) pk_nil)))) (pe_mkD T (hr.mono (by decide)) passL (pa_cons (pv 3) (pa_cons (pv 4) pa_nil)))))
 (pss_cons (ps_asg (pe_op op_add (pe_ix ix_list (pv 3) pe_int (fun _ _ => rfl)) pe_int) (pg_sub (pv 3) pe_int EM.set_listN))
 (pss_cons (ps_expr (EM.pe_appN (pv 3) pe_int))
 (pss_cons (ps_set (i := 6) sc_Lmade_right.nd rfl (Or.inl rfl) (EM.pe_lstN (pa_cons (EM.pe_fldN (pv 5)) (pa_cons (pe_callB (call_lenD T (hr.mono (by decide))) (by rfl) T.f_len boot_len (pa_cons (pv 5) pa_nil)) (pa_cons (EM.pe_topN (EM.pe_fldN (pv 5)) T.cl_Ratio T.na_Ratio_top rfl) (pa_cons (EM.pe_botN (EM.pe_fldN (pv 5)) T.cl_Ratio T.na_Ratio_bottom rfl) (pa_cons (pe_callB (callR_sw call_isi) (by rfl) T.f_isinstance (by decide +kernel) (pa_cons (EM.pe_fldN (pv 5)) (pa_cons (pe_glob (v := .ref (He.ga K "Ratio")) (by rfl) T.g_Ratio rfl) pa_nil))) pa_nil)))))))
 (pss_cons (ps_if (pt_cmpR op_neS (pe_callB (callR_sw (EM.call_reprD hG hu70)) (by rfl) T.f_repr (by decide +kernel) (pa_cons (pv 6) pa_nil)) (pe_callB (callR_sw (EM.call_reprD hG hu70)) (by rfl) T.f_repr (by decide +kernel) (pa_cons (EM.pe_lstN (pa_cons (pe_callTy EM.call_tupSN (by rfl) T.f_tuple (by decide +kernel) (pa_cons (pv 1) pa_nil)) (pa_cons (pe_callB EM.call_lenN (by rfl) T.f_len boot_len (pa_cons (pv 1) pa_nil)) (pa_cons (pe_ix ix_tup (pv 2) pe_int (fun _ _ => rfl)) (pa_cons (pe_ix ix_tup (pv 2) pe_int (fun _ _ => rfl)) (pa_cons pe_bl pa_nil)))))) pa_nil)) (nomark _))
  (pss_one (ps_ret pe_bl)) pss_nil)
 (pss_cons (ps_set (i := 7) sc_Lmade_right.nd rfl (Or.inl rfl) (pe_un (un_negDu T (hr.mono (by decide))) (pv 5)))
 (pss_cons (ps_set (i := 6) sc_Lmade_right.nd rfl (Or.inl rfl) (EM.pe_lstN (pa_cons (EM.pe_fldN (pv 7)) (pa_cons (EM.pe_topN (EM.pe_fldN (pv 7)) T.cl_Ratio T.na_Ratio_top rfl) (pa_cons (EM.pe_botN (EM.pe_fldN (pv 7)) T.cl_Ratio T.na_Ratio_bottom rfl) pa_nil)))))
 (pss_cons (ps_if (pt_cmpR op_neS (pe_callB (callR_sw (EM.call_reprD hG hu70)) (by rfl) T.f_repr (by decide +kernel) (pa_cons (pv 6) pa_nil)) (pe_callB (callR_sw (EM.call_reprD hG hu70)) (by rfl) T.f_repr (by decide +kernel) (pa_cons (EM.pe_lstN (pa_cons (pe_callTy EM.call_tupSN (by rfl) T.f_tuple (by decide +kernel) (pa_cons (EM.lcN (pe_lc (own := [("_law_one", 8)]) (g := gName 8) rfl sc_Lmade_right.nd (EM.pi_seqN (pv 1)).mc (blkOk_by (N := ["_law_pen_here", "_law_row", "_law_height", "_law_handed", "_law_number_here", "_law_made", "_law_told", "_law_turned", "_law_one", "_law_near", "_law_others"]) (sc := defScope s_Lmade_right) (by decide +kernel)) (fun _ _ _ _ _ => (pg_name (i := 8) sc_Lmade_right.nd rfl (Or.inl rfl))) (fun _ _ _ _ _ => pts_nil) (fun _ _ _ _ _ => (PE.mc (pe_op op_sub pe_int (pv 8)))))) pa_nil)) (pa_cons (pe_op op_sub pe_int (pe_ix ix_tup (pv 2) pe_int (fun _ _ => rfl))) (pa_cons (pe_ix ix_tup (pv 2) pe_int (fun _ _ => rfl)) pa_nil)))) pa_nil)) (nomark _))
  (pss_one (ps_ret pe_bl)) pss_nil)
 (pss_cons (ps_set (i := 9) sc_Lmade_right.nd rfl (Or.inl rfl) (pe_callTy EM.call_listSN (by rfl) T.f_list (by decide +kernel) (pa_cons (pv 1) pa_nil)))
 (pss_cons (ps_asg (pe_op op_add (pe_ix ix_list (pv 9) pe_int (fun _ _ => rfl)) pe_int) (pg_sub (pv 9) pe_int EM.set_listN))
 (pss_cons (ps_asg (pe_op op_sub (pe_ix ix_list (pv 9) (pe_un un_neg pe_int) (fun _ _ => rfl)) pe_int) (pg_sub (pv 9) (pe_un un_neg pe_int) EM.set_listN))
 (pss_cons (ps_set (i := 10) sc_Lmade_right.nd rfl (Or.inl rfl) (EM.pe_lstN (pa_cons (pe_mkD T (hr.mono (by decide)) passL (pa_cons (pv 1) (pa_cons (pe_mkN_ T (hr.mono (by decide)) (pa_cons (pe_op op_add (pe_ix ix_tup (pv 2) pe_int (fun _ _ => rfl)) (pe_ix ix_tup (pv 2) pe_int (fun _ _ => rfl))) (pa_cons (pe_ix ix_tup (pv 2) pe_int (fun _ _ => rfl)) pa_nil))) pa_nil))) (pa_cons (pv 7) (pa_cons (pv 1) (pa_cons (pe_callTy EM.call_tupSN (by rfl) T.f_tuple (by decide +kernel) (pa_cons (pv 1) pa_nil)) (pa_cons pe_non (pa_cons pe_int pa_nil))))))))
 (pss_cons (ps_if (pt_cmpR (EM.op_neNil hr.units) (EM.lcN (pe_lc (own := [("_law_one", 8)]) (g := gName 8) rfl sc_Lmade_right.nd (EM.pi_seqN (pv 9)).mc (blkOk_by (N := ["_law_pen_here", "_law_row", "_law_height", "_law_handed", "_law_number_here", "_law_made", "_law_told", "_law_turned", "_law_one", "_law_near", "_law_others"]) (sc := defScope s_Lmade_right) (by decide +kernel)) (fun _ _ _ _ _ => (pg_name (i := 8) sc_Lmade_right.nd rfl (Or.inl rfl))) (fun _ _ _ _ _ => (pts_one (pt_cmpR op_ne (pv 8) pe_int (nomark _)))) (fun _ _ _ _ _ => (PE.mc (pv 8))))) (EM.pe_lstN pa_nil) (nomark _))
  (pss_one (ps_expr (EM.pe_appN (pv 10) (pe_mkD T (hr.mono (by decide)) passL (pa_cons (pv 9) (pa_cons (pv 4) pa_nil)))))) pss_nil)
 (pss_cons (ps_if (pt_cmpR (EM.op_neNil hr.units) (EM.lcN (pe_lc (own := [("_law_one", 8)]) (g := gName 8) rfl sc_Lmade_right.nd (EM.pi_seqN (pv 10)).mc (blkOk_by (N := ["_law_pen_here", "_law_row", "_law_height", "_law_handed", "_law_number_here", "_law_made", "_law_told", "_law_turned", "_law_one", "_law_near", "_law_others"]) (sc := defScope s_Lmade_right) (by decide +kernel)) (fun _ _ _ _ _ => (pg_name (i := 8) sc_Lmade_right.nd rfl (Or.inl rfl))) (fun _ _ _ _ _ => (pts_one (PW.pt (pw_or (pt_cmpR (op_eqDu T (hr.mono (by decide))) (pv 5) (pv 8) (nomark _)) (pw_or1 (pt_cmpR (op_eqDu T (hr.mono (by decide))) (pv 8) (pv 5) (nomark _))))))) (fun _ _ _ _ _ => (PE.mc (pv 8))))) (EM.pe_lstN pa_nil) (nomark _))
  (pss_one (ps_ret pe_bl)) pss_nil)
 (pss_one (ps_ret (pe_and (pe_cmpR (op_eqDu T (hr.mono (by decide))) (pv 5) (pe_mkD T (hr.mono (by decide)) passL (pa_cons (pe_callTy EM.call_tupSN (by rfl) T.f_tuple (by decide +kernel) (pa_cons (pv 1) pa_nil)) (pa_cons (pe_mkN_ T (hr.mono (by decide)) (pa_cons (pe_ix ix_tup (pv 2) pe_int (fun _ _ => rfl)) (pa_cons (pe_ix ix_tup (pv 2) pe_int (fun _ _ => rfl)) pa_nil))) pa_nil))) (nomark _)) (pe_one (pe_cmpR (op_eqDu T (hr.mono (by decide))) (pe_un (un_negDu T (hr.mono (by decide))) (pv 7)) (pv 5) (nomark _)))))))))))))))))))))), ?_⟩
    repeat' array_mem_dec
    rename_i D H1 x1 B1 aD nD
    refine ⟨⟨T0, p, l, q, n, t, b, rfl, B1, aq.ext x1, lo, bt, bb, fun lv H2 nv x2 B2 => ?_⟩⟩
    repeat' array_mem_dec
    rename_i d3 H3 d0 d1 x3 B3
    have x03 : Ext p H H3 := x1.trans (x2.trans x3)
    have aD3 := aD.ext (x2.trans x3)
    have fD : Fresh p H D := Fresh.none nD
    have nl : D ≠ l := B0.nel nD
    have nv3 := nv.ext x3
    clear aD nv x1 x2 x3 B1 B2
    refine two_duel ?mkQ B3 (.inl aD3) g nv3 (bt.mono (by decide)) (bb.mono (by decide)) ?mkR (fun h => ?mkB) (fun h => ?mkA)
    --S0
    case mkB =>
      repeat' array_mem_dec
      exact h _
    case mkA =>
      exact ⟨_, rfl, _, rfl, rfl, rfl, fun x dx hx hdx ndx => mk_Duel (h _).1 x dx hx hdx ndx⟩
    intro d4 H4 x4 B4 dp4 f4
    have aD4 := aD3.ext x4
    have nv4 := nv3.ext x4
    have x04 := x03.trans x4
    clear aD3 nv3 x4 B3
    obtain ⟨w0, ew⟩ : ∃ w0, ws[0]? = some w0 := ⟨_, List.getElem?_eq_getElem (by have := g.p.1.2.1; omega)⟩
    have bw0 := gb w0 (List.mem_of_getElem? ew)
    have ix0 : atI (ws.map V.int) 0 = some (.int w0) := at_of (j := 0) rfl (by rw [List.getElem?_map, ew]; rfl)
    repeat' array_mem_dec
    --S2
    have hj : ixN (ws.map V.int).length 0 = some 0 := by
      unfold ixN
      rw [if_pos (by decide), if_pos (by rw [List.length_map]; have := g.p.1.2.1; omega)]
      rfl
    refine ⟨hj, fun H5 mu => ?_⟩
    have x05 : Ext p H H5 := Ext.muF fD x04 mu
    have aD5 := mu.here aD4
    have dp5 := DuelP.mu mu aD4 dp4
    have nv5 := mu.num nv4 aD4
    have B5 := mu.bs B4 aD4 nl
    have f5 : Fresh p H d4 := f4.back x03
    clear mu dp4 nv4 B4 aD4 f4
    repeat' array_mem_dec
    --S3
    refine ⟨by rw [List.length_set, List.length_map]; omega, fun H6 mu => ?_⟩
    have x06 : Ext p H H6 := Ext.muF fD x05 mu
    have dp6 := DuelP.mu mu aD5 dp5
    have nv6 := mu.num nv5 aD5
    have B6 := mu.bs B5 aD5 nl
    have aR6 := aR.ext x06
    have aq6 := aq.ext x06
    clear mu dp5 nv5 B5 aD5 x05 fD nl aq B0 sR
    obtain ⟨dx, qW, aL, i1, i2, i3, i4⟩ := id dp6
    obtain ⟨⟨dc, hc⟩, hnc⟩ := id i3
    repeat' array_mem_dec
    --S4
    refine ⟨.ref aL, .ref (He.ga K "Ratio"), _, _, true, rfl, .own _, isiB_ty T.isi_Ratio T.cl_Ratio hc, kSelf, ?_⟩
    repeat' array_mem_dec
    --S5
    rw [List.length_map]
    refine NeS.mk' ⟨_, rfl, ifN rfl ?_⟩
    repeat' array_mem_dec
    --S6
    rename_i q7 H7 x7 B7 a7 n7 q8 H8 x8 B8 a8 n8 q9 H9 x9 B9 a9 n9
    have x69 := x7.trans (x8.trans x9)
    have x09 := x06.trans x69
    have dp9 := dp6.ext x69
    refine ⟨⟨T0, p, l, d4, _, ws, (t, b), rfl, B9, dp9, g, bt, bb, fun d10 H10 x10 B10 dp10 f10 => ?_⟩⟩
    have nv10 := nv6.ext (x69.trans x10)
    have aR10 := aR6.ext (x69.trans x10)
    have aq10 := aq6.ext (x69.trans x10)
    have dpm := dp9.ext x10
    have x010 := x09.trans x10
    clear x7 x8 x9 a7 a8 a9 n7 n8 n9 B7 B8 B9 x69 x09 dp9 dp6 nv6 B6 aR6 aq6 i1 i2 i3 i4 hnc hc x06 x10
    obtain ⟨dy, qN, aN, j1, j2, j3o, j4o⟩ := id dp10
    have j3 : RatP K p H10 aN (-t) b := j3o
    have j4 : Low (-t) b := j4o
    clear j3o j4o
    repeat' array_mem_dec
    --S7
    rename_i q11 H11 x11 B11 a11 n11 J wk
    have aR11 := aR10.ext x11
    refine LcS.lc 0 wk B11 (fun j y H' => Hold (∃ w, (ws.map fun w => -w)[j]? = some w ∧ y = .int w)) (by rw [List.length_map]; omega) (fun H' x => aR11.eq x) ?_ ?_
    · rintro j y K2 K3 hk y2 C2 ⟨rfl, hv⟩
      rw [List.getElem?_map] at hv
      obtain ⟨w, ew, rfl⟩ := Option.map_eq_some_iff.mp hv
      repeat' array_mem_dec
      exact ⟨⟨-w, by rw [List.getElem?_map, ew]; rfl, congrArg V.int (Int.zero_sub w)⟩⟩
    rintro D2 ys H12 hD2 hyl hf x12 B12o aD2
    have B12 : Bs T0 p l (n + 1) H12 := B12o.mono (by omega)
    clear B12o
    have eys : ys = (ws.map fun w => -w).map V.int := ints_at (by rw [hyl, List.length_map, List.length_map]) (fun i y e => by
      obtain ⟨⟨w, e1, e2⟩⟩ := hf i y e
      exact ⟨w, e1, e2⟩)
    rw [eys] at aD2
    have x1012 := x11.trans x12
    have a12 := aq10.ext x1012
    clear a11 n11 x11 x12 aR11 hf eys
    repeat' array_mem_dec
    --S8
    rw [Int.zero_sub]
    refine NeS.mk' ⟨_, rfl, ifN rfl ?_⟩
    rename_i q13 H13 x13 B13 a13 n13 q14 H14 x14 B14 a14 n14
    have x1014 := x1012.trans (x13.trans x14)
    have x014 := x010.trans x1014
    have dp14 := dp10.ext x1014
    have dm14 := dpm.ext x1014
    have nv14 := nv10.ext x1014
    have aR14 := aR10.ext x1014
    have aq14 := aq10.ext x1014
    clear a13 a14 n13 n14 x13 x14 B13 x1012 aD2 a12 dp10 dpm nv10 aR10 aq10 x010 j1 j2 j3 j4 B10 B11 B12
    have sR14 : SeqV p H14 a (ws.map .int) := .inl aR14
    obtain ⟨us, hus⟩ : ∃ us, us = ws.set 0 (w0 + 1) := ⟨_, rfl⟩
    have e0 : (ws.map V.int).set 0 (V.int (w0 + 1)) = us.map V.int := by rw [hus]; exact List.map_set.symm
    have ul : us.length = ws.length := by rw [hus, List.length_set]
    have wlen4 : 4 ≤ ws.length := g.p.1.2.1
    obtain ⟨wl, el⟩ : ∃ wl, us[us.length - 1]? = some wl := ⟨_, List.getElem?_eq_getElem (by omega)⟩
    obtain ⟨vs, hvs⟩ : ∃ vs, vs = us.set (us.length - 1) (wl - 1) := ⟨_, rfl⟩
    have vl : vs.length = ws.length := by rw [hvs, List.length_set, ul]
    have ixL : atI ((ws.map V.int).set 0 (V.int (w0 + 1))) (-1) = some (.int wl) := by
      rw [e0]
      exact atI_m (j := us.length - 1) (by rw [List.length_map]; omega) (by omega) (by rw [List.getElem?_map, el]; rfl)
    have hjL : ixN ((ws.map V.int).set 0 (V.int (w0 + 1))).length (-1) = some (us.length - 1) := by
      rw [e0]
      unfold ixN
      rw [if_neg (by decide), if_pos (by rw [List.length_map]; omega), List.length_map]
      congr 1
      omega
    have lo2 := low_addb lo
    repeat' array_mem_dec
    --S10
    rename_i N H15 x15 B15 a15 n15 H16 mu1 B16 H17 mu2 B17 rB H18 x18 B18 r18
    have fN : Fresh p H14 N := Fresh.none n15
    have aN16 := mu1.here a15
    have aN17 := mu2.here aN16
    have e2 : ((ws.map V.int).set 0 (V.int (w0 + 1))).set (us.length - 1) (V.int (wl - 1)) = vs.map V.int := by rw [e0, hvs]; exact List.map_set.symm
    have aN17' : At p H17 N (.lst (vs.map V.int)) := by rw [← e2]; exact aN17
    have x1417 : Ext p H14 H17 := Ext.muF fN (Ext.muF fN x15 mu1) mu2
    have x1418 := x1417.trans x18
    have dp18 := dp14.ext x1418
    have dm18 := dm14.ext x1418
    have nv18 := nv14.ext x1418
    have aR18 := aR14.ext x1418
    have aq18 := aq14.ext x1418
    have aN18 := aN17'.ext x18
    have x018 := x014.trans x1418
    have bt2 : Bt 1900 (t + b) := (Bt.rng32 (by omega) (by omega)).mono (by decide)
    clear mu1 mu2 aN16 aN17 aN17' B15 B16 B17 x1417 x1418 x18 dp14 dm14 nv14 aR14 aq14 sR14 x014 fN a15 n15 x15 ixL hjL ix0 hj B14
    refine mkD_good B18 (.inl aR18) g (r18.num lo2) (bt2.mono (by decide)) (bb.mono (by decide)) fun d19 H19 x19 B19 dp19 f19 => ?_
    have sR19 : SeqV p H19 a (ws.map .int) := .inl (aR18.ext x19)
    have aN19 := aN18.ext x19
    repeat' array_mem_dec
    --S11
    rename_i tR H20 x20 B20 a20 n20 O H21 x21 B21 aO nO J wk
    have x1821 := x19.trans (x20.trans x21)
    have aN21 := aN19.ext (x20.trans x21)
    have aT21 := a20.ext x21
    have dp21 := dp18.ext x1821
    have dm21 := dm18.ext x1821
    have dB21 := dp19.ext (x20.trans x21)
    have nv21 := nv18.ext x1821
    have aR21 := aR18.ext x1821
    have aq21 := aq18.ext x1821
    have x021 := x018.trans x1821
    have nOl : O ≠ l := B20.nel nO
    have fO : Fresh p H O := (Fresh.none nO).back (x018.trans (x19.trans x20))
    clear x1821 x19 x20 x21 a20 n20 nO B18 B19 B20 dp18 dm18 dp19 f19 nv18 aR18 aq18 aN18 aN19 sR19 x018 r18
    refine LcS.lcP wk B21 (fun i acc => acc = [] ↔ ∀ (j : Nat) (w : Int), j < i → vs[j]? = some w → w = 0) ⟨fun _ j w z => absurd z (Nat.not_lt_zero j), fun _ => rfl⟩ (by rw [List.length_map]; omega) (fun H' x => aN21.eq x) ?_ ?_
    · rintro i y acc K2 K3 Rf Rt hk hP y2 C2 ⟨rfl, hv⟩ kf kt
      rw [List.getElem?_map] at hv
      obtain ⟨w, ew, rfl⟩ := Option.map_eq_some_iff.mp hv
      repeat' array_mem_dec
      refine ifNeI (fun z => ?_) (fun z => ?_)
      · exact ⟨Rt, ⟨.int w, rfl, kt _ _ Ext.refl C2 ⟨fun h => absurd h (by simp), fun h => absurd (h i w (by omega) ew) z⟩⟩, fun _ _ q => q⟩
      · refine kf _ Ext.refl C2 ⟨fun h j v hj e => ?_, fun h => hP.mpr fun j v hj e => h j v (by omega) e⟩
        rcases Nat.lt_or_ge j i with c | c
        · exact hP.mp h j v c e
        · have : j = i := by omega
          subst this
          rw [ew] at e
          cases e
          exact z
    rintro E2 ys2 H22 hE hP hyl2 x22 B22 aE
    rw [List.length_map] at hP
    repeat' array_mem_dec
    --S12
    rename_i q23 H23 x23 B23 a23 n23
    have x2123 := x22.trans x23
    have b0 := lo.pos
    have aO23 := aO.ext x2123
    have aN23 := aN21.ext x2123
    have aT23 := aT21.ext x2123
    have dn23 := dp21.ext x2123
    have dm23 := dm21.ext x2123
    have dB23 := dB21.ext x2123
    have nv23 := nv21.ext x2123
    have aR23 := aR21.ext x2123
    have aq23 := aq21.ext x2123
    have x023 := x021.trans x2123
    have o1 : Oth K p ws (t, b) H23 (.ref d19) := Oth.du dB23 bt2 bb (fun z => by
      have := congrArg Prod.fst z.2
      have : t = t + b := this
      omega)
    have o2 : Oth K p ws (t, b) H23 (.ref d10) := Oth.du dn23 bt.neg bb (fun z => neg_ne g.p.2.2 z.1)
    have o3 : Oth K p ws (t, b) H23 (.ref a) := Oth.pl (odd_lst aR23)
    have o4 : Oth K p ws (t, b) H23 (.ref tR) := Oth.pl (odd_tup aT23)
    have o5 : Oth K p ws (t, b) H23 .non := Oth.pl odd_non
    have o6 : Oth K p ws (t, b) H23 (.int 0) := .inr (.inl ⟨0, rfl⟩)
    have f0 : us[0]? = some (w0 + 1) := by rw [hus, List.getElem?_set_self (by omega)]
    have g0 : vs[0]? = some (w0 + 1) := by rw [hvs, List.getElem?_set_ne (by omega)]; exact f0
    clear x2123 aO aN21 aT21 dp21 dm21 dB21 nv21 aR21 aq21 x021 a23 n23 x22 x23 B21 B22 aE
    cases hy : ys2.isEmpty with
    | true =>
      refine ifN rfl ?_
      repeat' array_mem_dec
      have BO := B23
      have aOO := aO23
      have dmO := dm23
      have dnO := dn23
      have aRO := aR23
      have aqO := aq23
      have xO := x023
      have oth : ∀ v ∈ [V.ref d19, V.ref d10, V.ref a, V.ref tR, V.non, V.int 0], Oth K p ws (t, b) H23 v := fun v hv => by
        simp only [List.mem_cons, List.not_mem_nil, or_false] at hv
        rcases hv with rfl | rfl | rfl | rfl | rfl | rfl
        · exact o1
        · exact o2
        · exact o3
        · exact o4
        · exact o5
        · exact o6
      clear B23 aO23 dm23 dn23 aR23 aq23 x023 o1 o2 o3 o4 o5 o6 nv23 aN23 aT23 dB23
      rename_i J2 wk2
      refine LcS.lcP wk2 BO (fun i acc => acc = []) rfl (by simp only [List.length_cons, List.length_nil, List.length_append]; omega) (fun H' x => aOO.eq x) ?_ ?_
      · rintro i y acc K2 K3 Rf Rt hk hP y2 C2 ⟨rfl, hv⟩ kf kt
        have ot := (oth y (List.mem_of_getElem? hv)).ext y2
        have dmk := dmO.ext y2
        repeat' array_mem_dec
        refine duS_l C2 dmk bt bb ot fun Ha xa Ba => ?_
        repeat' array_mem_dec
        refine duS_r Ba (dmk.ext xa) bt bb (ot.ext xa) fun Hb xb Bb => ?_
        repeat' array_mem_dec
        --S13
        exact kf _ (xa.trans xb) Bb hP
      rintro E3 ys3 H25 hE3 hP3 hyl3 x25 B25 aE3
      subst hP3
      repeat' array_mem_dec
      rename_i q26 H26 x26 B26 a26 n26
      refine ifN rfl ?_
      have x2526 := x25.trans x26
      have sRz : SeqV p H26 a (ws.map .int) := .inl (aRO.ext x2526)
      have aqz := aqO.ext x2526
      repeat' array_mem_dec
      rename_i q27 H27 x27 B27 a27 n27 r28 H28 x28 B28 rr28
      refine mkD_good B28 (.inr (a27.ext x28)) g (rr28.num lo) (bt.mono (by decide)) (bb.mono (by decide)) fun d29 H29 x29 B29 dp29 f29 => ?_
      have xO29 := x2526.trans (x27.trans (x28.trans x29))
      have dm29 := dmO.ext xO29
      have dn29 := dnO.ext xO29
      repeat' array_mem_dec
      refine duS_same B29 dm29 dp29 bt bb rfl rfl fun H30 x30 B30 => ?_
      repeat' array_mem_dec
      refine ⟨⟨T0, p, l, d10, _, _, negF (t, b), rfl, B30, dn29.ext x30, g.neg, bt.neg, bb, fun d31 H31 x31 B31 dp31 f31 => ?_⟩⟩
      repeat' array_mem_dec
      refine duS_same B31 dp31 ((dm29.ext x30).ext x31) bt.neg.neg bb (neg_neg_map ws) (Prod.ext (Int.neg_neg t) rfl) fun H32 x32 B32 => ?_
      repeat' array_mem_dec
      --S14
      exact k H32 (xO.trans (xO29.trans (x30.trans (x31.trans x32)))) B32
    | false =>
      have gv : GoodW vs := .of (by rw [vl]; exact g.p.1) (by
        have s1 := sum_set (v := w0 + 1) ew
        have s2 := sum_set (v := wl - 1) el
        have s0 := g.p.2.1
        rw [hvs, s2, hus, s1]
        omega) (Classical.byContradiction fun z => by
        have : ys2 = [] := hP.mpr fun j w hj e => Classical.byContradiction fun y => z ⟨w, List.mem_of_getElem? e, y⟩
        rw [this] at hy
        cases hy)
      refine ifP rfl ?_
      repeat' array_mem_dec
      refine mkD_good B23 (.inl aN23) gv nv23 (bt.mono (by decide)) (bb.mono (by decide)) fun d24 H24 x24 B24 dp24 f24 => ?_
      have aO24 := aO23.ext x24
      have o1' := o1.ext x24
      have o2' := o2.ext x24
      have o3' := o3.ext x24
      have o4' := o4.ext x24
      have dm24 := dm23.ext x24
      have dn24 := dn23.ext x24
      have aR24 := aR23.ext x24
      have aq24 := aq23.ext x24
      have x024 := x023.trans x24
      have o7 : Oth K p ws (t, b) H24 (.ref d24) := Oth.du dp24 bt bb (fun z => by
        have e := congrArg (fun l : List Int => l[0]?) z.1
        rw [show ws[0]? = some w0 from ew, show vs[0]? = some (w0 + 1) from g0] at e
        have := Option.some.inj e
        omega)
      clear B23 aO23 dm23 dn23 aR23 aq23 x023 o1 o2 o3 o4 o5 o6 nv23 aN23 aT23 dB23
      repeat' array_mem_dec
      rename_i H25 mu J2 wk2
      have x025 : Ext p H H25 := Ext.muF fO x024 mu
      have aOO := mu.here aO24
      have BO : Bs T0 p l (n + 1) H25 := mu.bs B24 aO24 nOl
      have dmO := DuelP.mu mu aO24 dm24
      have dnO := DuelP.mu mu aO24 dn24
      have aRO := aR.ext x025
      have aqO : At p H25 q (.tup [.int t, .int b]) := mu.at_k aq24 aO24 (by intro _ z; cases z)
      have xO := x025
      have oth : ∀ v ∈ [V.ref d19, V.ref d10, V.ref a, V.ref tR, V.non, V.int 0] ++ [V.ref d24], Oth K p ws (t, b) H25 v := fun v hv => by
        simp only [List.mem_append, List.mem_cons, List.not_mem_nil, or_false] at hv
        rcases hv with (rfl | rfl | rfl | rfl | rfl | rfl) | rfl
        · exact Oth.mu mu aO24 o1'
        · exact Oth.mu mu aO24 o2'
        · exact Oth.mu mu aO24 o3'
        · exact Oth.mu mu aO24 o4'
        · exact Oth.pl odd_non
        · exact .inr (.inl ⟨0, rfl⟩)
        · exact Oth.mu mu aO24 o7
      clear mu aO24 B24 dm24 dn24 aR24 aq24 x024 x025 o1' o2' o3' o4' o7 dp24 f24 x24
      refine LcS.lcP wk2 BO (fun i acc => acc = []) rfl (by simp only [List.length_cons, List.length_nil, List.length_append]; omega) (fun H' x => aOO.eq x) ?_ ?_
      · rintro i y acc K2 K3 Rf Rt hk hP y2 C2 ⟨rfl, hv⟩ kf kt
        have ot := (oth y (List.mem_of_getElem? hv)).ext y2
        have dmk := dmO.ext y2
        repeat' array_mem_dec
        refine duS_l C2 dmk bt bb ot fun Ha xa Ba => ?_
        repeat' array_mem_dec
        refine duS_r Ba (dmk.ext xa) bt bb (ot.ext xa) fun Hb xb Bb => ?_
        repeat' array_mem_dec
        --S13
        exact kf _ (xa.trans xb) Bb hP
      rintro E3 ys3 H25 hE3 hP3 hyl3 x25 B25 aE3
      subst hP3
      repeat' array_mem_dec
      rename_i q26 H26 x26 B26 a26 n26
      refine ifN rfl ?_
      have x2526 := x25.trans x26
      have sRz : SeqV p H26 a (ws.map .int) := .inl (aRO.ext x2526)
      have aqz := aqO.ext x2526
      repeat' array_mem_dec
      rename_i q27 H27 x27 B27 a27 n27 r28 H28 x28 B28 rr28
      refine mkD_good B28 (.inr (a27.ext x28)) g (rr28.num lo) (bt.mono (by decide)) (bb.mono (by decide)) fun d29 H29 x29 B29 dp29 f29 => ?_
      have xO29 := x2526.trans (x27.trans (x28.trans x29))
      have dm29 := dmO.ext xO29
      have dn29 := dnO.ext xO29
      repeat' array_mem_dec
      refine duS_same B29 dm29 dp29 bt bb rfl rfl fun H30 x30 B30 => ?_
      repeat' array_mem_dec
      refine ⟨⟨T0, p, l, d10, _, _, negF (t, b), rfl, B30, dn29.ext x30, g.neg, bt.neg, bb, fun d31 H31 x31 B31 dp31 f31 => ?_⟩⟩
      repeat' array_mem_dec
      refine duS_same B31 dp31 ((dm29.ext x30).ext x31) bt.neg.neg bb (neg_neg_map ws) (Prod.ext (Int.neg_neg t) rfl) fun H32 x32 B32 => ?_
      repeat' array_mem_dec
      --S14
      exact k H32 (xO.trans (xO29.trans (x30.trans (x31.trans x32)))) B32
end
end K40
namespace K40
open PySem PySem.Spec PyProof.Rows L2 EM

def spLaw (K : PySem.W.Frag) : Sp := fun vs H Q _ => ∃ (a : Addr) (ns : List Int), vs = [.ref a] ∧ SqL K H a (ns.map V.int) ∧ ns.length ≤ 63 ∧ ∀ H', Q (.bl true) H'
def tDisp4 (a b c d e f g h : Int) : TE := fun _ H Q => DnS (.dK (mergeK [] [(.inl a, .int b), (.inl c, .int (-d)), (.inl e, .int f), (.inl g, .int h)])) H Q
theorem pe_disp4 {X : Cx} {pos : Pos} {keys : List (Option Expr)} {values : List Expr} {a b c d e f g h : Int} (h0 : PE X (.Dict keys values pos) (tDisp [(tC (.int a), tC (.int b)), (tC (.int c), tUn (rU fun i => .int (-i)) (tC (.int d))), (tC (.int e), tC (.int f)), (tC (.int g), tC (.int h))])) : PE X (.Dict keys values pos) (tDisp4 a b c d e f g h) := h0.of fun σ H Q q p hp => ⟨_, rfl, upd_same, [(.inl a, .int b), (.inl c, .int (-d)), (.inl e, .int f), (.inl g, .int h)], rfl, Nat.le_of_ble_eq_true rfl, by
  show Q (.ref p) (upd (upd H p (.dK [])) p _)
  rw [L2.upd_upd]
  exact New.upd q.h p hp⟩
theorem fstN_lt : ∀ {os : List (Option Int)} {i : Nat}, fstN os = some i → i < os.length
  | [], _, h => by cases h
  | none :: r, i, h => by cases h; exact Nat.succ_pos _
  | some w :: r, i, h => by
    have f3 : (fstN r).map (· + 1) = some i := h
    cases e : fstN r with
    | none => rw [e] at f3; cases f3
    | some j =>
      rw [e] at f3
      have : j + 1 = i := Option.some.inj f3
      have := fstN_lt e
      show i < r.length + 1
      omega
theorem partL_cases {os : List (Option Int)} {lb : Bool} (hl : os.length ≤ 1000) : badD os lb = none ∨ badD os lb = some .non ∨ (∃ i : Nat, i < 1000 ∧ badD os lb = some (.int (i : Nat))) ∨ badD os lb = some (.str "sum") ∨ badD os lb = some (.str "zero") ∨ badD os lb = some (.str "level") := by
  unfold badD badW
  split
  · cases e : fstN os with
    | some i =>
      have := fstN_lt e
      exact .inr (.inr (.inl ⟨i, by omega, rfl⟩))
    | none =>
      simp only
      by_cases s : (intsO os).sum ≠ 0
      · rw [if_pos s]
        exact .inr (.inr (.inr (.inl rfl)))
      · rw [if_neg s]
        by_cases z : (intsO os).all (fun w => decide (w = 0)) = true
        · rw [if_pos z]
          exact .inr (.inr (.inr (.inr (.inl rfl))))
        · rw [if_neg z]
          cases lb
          · exact .inr (.inr (.inr (.inr (.inr rfl))))
          · exact .inl rfl
  · exact .inr (.inl rfl)
/-- a value that is no right row of weights: None is told of it -/
def OddW (K : PySem.W.Frag) (p : Addr) (H : Hp) (v : V) : Prop := NotSq K p H v ∨ ∃ (a : Addr) (ws : List Int), v = .ref a ∧ SeqV p H a (ws.map V.int) ∧ ws.length < 4
theorem OddW.ext {K : PySem.W.Frag} {p : Addr} {H H' : Hp} {v : V} (h : OddW K p H v) (x : Ext p H H') : OddW K p H' v := by
  rcases h with h | ⟨a, ws, e, h, l⟩
  · exact .inl (h.ext x)
  · exact .inr ⟨a, ws, e, h.ext x, l⟩
theorem heardOdd {K : PySem.W.Frag} {T : List (Addr × Str)} {p l : Addr} {n : Nat} {H : Hp} {v lv : V} {Q : VK} {E : XK} (B : Bs T p l n H) (h : OddW K p H v) (hlv : lv = .int 0 ∨ lv = .non) (k : ∀ q H', Ext p H H' → Bs T p l n H' → At p H' q (.lst [.non]) → Q (.ref q) H') : Sw (spHeardD K) [v, lv] H Q E := by
  refine ⟨⟨T, p, l, n, v, lv, rfl, B, ?_⟩⟩
  rcases h with h | ⟨a, ws, rfl, h, hl⟩
  · exact .inl ⟨h, k⟩
  · have few : ∀ lb, partL (badD (ws.map some) lb) = [.non] := fun lb => by
      unfold badD
      rw [if_neg (fun c => by
        have h4 := c.2.1
        rw [List.length_map] at h4
        omega)]
      rfl
    rcases hlv with rfl | rfl
    · exact .inr ⟨a, _, ws.map some, true, rfl, h, ItsI.all, by rw [List.length_map]; omega, ⟨0, 1, NumP.int 0, Bt.lit _ _ (by decide +kernel), Bt.lit _ _ (by decide +kernel)⟩, fun q H' x B' a' => k q H' x B' (by rw [few] at a'; exact a')⟩
    · exact .inr ⟨a, _, ws.map some, false, rfl, h, ItsI.all, by rw [List.length_map]; omega, odd_non, fun q H' x B' a' => k q H' x B' (by rw [few] at a'; exact a')⟩
theorem mkD1_good {K : PySem.W.Frag} {T : List (Addr × Str)} {p l a : Addr} {n : Nat} {H : Hp} {ws : List Int} {Q : VK} {E : XK} (B : Bs T p l n H) (h : SeqV p H a (ws.map V.int)) (g : GoodW ws)
    (k : ∀ d H', Ext p H H' → Bs T p l n H' → DuelP K p H' d ws (0, 1) → Fresh p H d → Q (.ref d) H') : Sw (spDuel1 K) [.ref a] H Q E := by
  obtain ⟨h⟩ := mkD_good (E := E) B h g (NumP.int 0) (Bt.lit _ _ (by decide +kernel)) (Bt.lit _ _ (by decide +kernel)) k
  exact ⟨h⟩
theorem levX {K : PySem.W.Frag} {p : Addr} {H : Hp} {lv : V} {lb : Bool} (h : LevP K p H lv lb) : if lb then ∃ t b, NumP K p H lv t b else OddN H p lv := by
  cases lb with
  | true =>
    obtain ⟨t, b, h, _⟩ : ∃ t b, NumP K p H lv t b ∧ Bt 2000 t ∧ Bt 2000 b := h
    exact ⟨t, b, h⟩
  | false => exact h
theorem fd_of {z s : Str} (h : (PyData.str z).shown = s) (g : (decide ((PyData.str z).canLay0 = true) && decide ((PyData.str z).showable = true) && decide ((PyData.str z).shown.length ≤ 100) && decide ((PyData.str z).depth ≤ 0) && decide (PyData.eqv (.str z) (.str z) = true)) = true) (o : okS s) : Fd 100 0 (.str z) := by
  simp only [Bool.and_eq_true, decide_eq_true_eq] at g
  obtain ⟨⟨⟨⟨g1, g2⟩, g3⟩, g4⟩, g5⟩ := g
  exact ⟨g1, g2, g3, g4, g5, by rw [h]; exact o⟩
theorem fd_sum : Fd 100 0 (.str "sum") := fd_of (s := "'sum'") (by decide +kernel) (by decide +kernel) (okS_of _)
theorem fd_zero : Fd 100 0 (.str "zero") := fd_of (s := "'zero'") (by decide +kernel) (by decide +kernel) (okS_of _)
theorem fd_level : Fd 100 0 (.str "level") := fd_of (s := "'level'") (by decide +kernel) (by decide +kernel) (okS_of _)
def plainW : List Int := [0, 1, -1, 0]
theorem plain_good : GoodW plainW := .of ⟨by decide, by decide, by decide⟩ (by decide) ⟨1, by decide, by decide⟩
local macro_rules | `(tactic| sizeOf_list_dec) => `(tactic| first
  | with_reducible assumption
  | ((with_reducible apply EM.At.ext); (focus (with_reducible assumption)); (focus sizeOf_list_dec))
  | ((with_reducible apply EM.RatP.ext); (focus (with_reducible assumption)); (focus sizeOf_list_dec))
  | ((with_reducible apply EM.NumP.ext); (focus (with_reducible assumption)); (focus sizeOf_list_dec))
  | (with_reducible exact EM.Ext.refl)
  | ((with_reducible apply EM.Ext.back); (focus (with_reducible assumption)); (focus sizeOf_list_dec))
  | exact EM.NumP.int _
  | ((with_reducible apply EM.Mu.at_k); (focus (with_reducible assumption)); (focus sizeOf_list_dec); (focus sizeOf_list_dec); (focus (intro _ z; cases z; done)))
  | ((with_reducible apply EM.Mu.at_n); (focus (with_reducible assumption)); (focus sizeOf_list_dec); (focus (first | with_reducible assumption | ((apply EM.nn1); (focus (with_reducible assumption)); (focus sizeOf_list_dec)) | ((apply EM.nn2); (focus (with_reducible assumption)); (focus sizeOf_list_dec)))))
  | ((with_reducible apply EM.Mu.here); (focus (with_reducible assumption)); (focus sizeOf_list_dec))
  | ((with_reducible apply EM.Mu.rat); (focus (with_reducible assumption)); (focus sizeOf_list_dec); (focus sizeOf_list_dec))
  | ((with_reducible apply EM.Mu.num); (focus (with_reducible assumption)); (focus sizeOf_list_dec); (focus sizeOf_list_dec))
  | ((with_reducible apply EM.num_of_rat); (focus sizeOf_list_dec); (focus (first | with_reducible assumption | (apply EM.n_low; assumption))))
  | ((with_reducible apply EM.SeqV.xt); (focus (with_reducible assumption)); (focus sizeOf_list_dec))
  | ((with_reducible apply EM.ItsI.xt); (focus (with_reducible assumption)); (focus sizeOf_list_dec))
  | ((with_reducible apply EM.RatsP.xt); (focus (with_reducible assumption)); (focus sizeOf_list_dec))
  | ((with_reducible apply EM.PairsP.xt); (focus (with_reducible assumption)); (focus sizeOf_list_dec)))
local macro_rules | `(tactic| decreasing_trivial_pre_omega) => `(tactic| first
  | with_reducible assumption
  | exact EM.Bt.mono (by with_reducible assumption) (by decide)
  | exact EM.Bt.lit _ _ (by decide +kernel)
  | ((with_reducible refine EM.Bt.rng32 ?_ ?_) <;> omega)
  | ((with_reducible refine EM.Bt.rng70 ?_ ?_) <;> omega)
  | ((with_reducible refine EM.Bt.rng200 ?_ ?_) <;> omega)
  | ((with_reducible apply EM.Bt.mulM); (focus decreasing_trivial_pre_omega); (focus decreasing_trivial_pre_omega); (focus (first | decide | exact Nat.le_refl _)))
  | ((with_reducible apply EM.Bt.addM); (focus decreasing_trivial_pre_omega); (focus decreasing_trivial_pre_omega); (focus (first | decide | exact Nat.le_refl _)))
  | ((with_reducible apply EM.Bt.subM); (focus decreasing_trivial_pre_omega); (focus decreasing_trivial_pre_omega); (focus (first | decide | exact Nat.le_refl _)))
  | ((with_reducible apply EM.Bt.topL); (focus decreasing_trivial_pre_omega); (focus assumption); (focus (first | decide | exact Nat.le_refl _)))
  | ((with_reducible apply EM.Bt.botL); (focus decreasing_trivial_pre_omega); (focus assumption); (focus (first | decide | exact Nat.le_refl _)))
  | ((with_reducible apply EM.Bt.divM); (focus decreasing_trivial_pre_omega); (focus assumption); (focus (first | decide | exact Nat.le_refl _)))
  | ((with_reducible apply EM.Bt.negM); (focus decreasing_trivial_pre_omega); (focus (first | decide | exact Nat.le_refl _))))
local macro_rules | `(tactic| array_get_dec) => `(tactic| first
  | with_reducible assumption
  | ((with_reducible refine EM.gEq ?_); exact rfl)
  | ((with_reducible refine EM.gTru ?_); exact rfl)
  | ((with_reducible refine EM.gRef ?_); first | exact Or.inl ⟨_, rfl⟩ | exact Or.inr ⟨_, rfl⟩)
  | ((with_reducible apply EM.At.get); sizeOf_list_dec)
  | ((with_reducible apply EM.At.sqL); sizeOf_list_dec)
  | ((with_reducible apply EM.At.sqT); sizeOf_list_dec)
  | ((with_reducible apply EM.RatP.getK); (focus sizeOf_list_dec); (focus (exact rfl)))
  | (with_reducible exact EM.Num.int _)
  | ((with_reducible apply EM.NumP.getK); (focus sizeOf_list_dec); (focus (exact rfl)))
  | ((with_reducible apply EM.At.ext); (focus (with_reducible assumption)); (focus sizeOf_list_dec))
  | ((with_reducible apply EM.RatP.ext); (focus (with_reducible assumption)); (focus sizeOf_list_dec))
  | ((with_reducible apply EM.NumP.ext); (focus (with_reducible assumption)); (focus sizeOf_list_dec))
  | with_reducible exact Tx.cl_Ratio (by assumption)
  | with_reducible exact Tx.cl_Duel (by assumption)
  | with_reducible exact Tx.na_Ratio_top (by assumption)
  | with_reducible exact Tx.na_Ratio_bottom (by assumption)
  | with_reducible exact Tx.na_Duel_weights (by assumption)
  | with_reducible exact Tx.na_Duel_level (by assumption)
  | ((with_reducible refine EM.gAt ?_); sizeOf_list_dec)
  | ((with_reducible refine EM.gRat ?_); sizeOf_list_dec)
  | ((with_reducible refine EM.gNum ?_); sizeOf_list_dec)
  | ((with_reducible apply EM.TwoP.mk); (focus (with_reducible assumption)); (focus sizeOf_list_dec); (focus (first | with_reducible assumption | (apply EM.n_low; assumption))); (focus sizeOf_list_dec); (focus decreasing_trivial_pre_omega); (focus decreasing_trivial_pre_omega); (focus decreasing_trivial_pre_omega); (focus decreasing_trivial_pre_omega))
  | (with_reducible exact EM.Ext.refl)
  | ((with_reducible apply EM.Ext.back); (focus (with_reducible assumption)); (focus sizeOf_list_dec))
  | ((with_reducible apply EM.Bs.mono); (focus (with_reducible assumption)); omega)
  | ((with_reducible refine EM.gN ?_); first | decide | omega | exact Nat.le_of_ble_eq_true rfl | (simp only [List.length_cons, List.length_nil, List.length_append]; omega))
  | ((with_reducible refine EM.gM ?_); first | decide | omega | exact Nat.le_of_ble_eq_true rfl)
  | ((with_reducible refine EM.gI ?_); first | decide | omega)
  | ((with_reducible refine EM.gJ ?_); first | decide | omega)
  | ((with_reducible refine EM.gE ?_); first | decide | omega)
  | ((with_reducible refine EM.gB ?_); decreasing_trivial_pre_omega)
  | ((with_reducible apply EM.wideM); (focus decreasing_trivial_pre_omega); (focus decreasing_trivial_pre_omega); (focus decide)))
local macro_rules | `(tactic| infer_instance) => `(tactic| first
  | with_reducible assumption
  | exact DpAll.nil
  | (apply DpAll.cons; (focus infer_instance); (focus infer_instance))
  | with_reducible exact Dp.int _
  | exact Dp.int _
  | with_reducible exact Dp.str _
  | exact Dp.bl _
  | exact Dp.non
  | ((with_reducible apply EM.dp_lst); (focus array_get_dec); (focus infer_instance))
  | ((with_reducible apply EM.dp_tup); (focus array_get_dec); (focus infer_instance))
  | exact EM.dp_ints _)
local macro_rules | `(tactic| nofun) => `(tactic| first
  | with_reducible assumption
  | exact EM.FeL.nil
  | exact EM.FdL.nil
  | (apply EM.FeL.cons; (focus nofun); (focus nofun))
  | (apply EM.FdL.cons; (focus nofun); (focus nofun))
  | exact EM.Fe.int _
  | exact EM.Fe.bool _
  | exact EM.Fe.non
  | exact EM.Fe.str (EM.okS_of _)
  | (apply EM.Fe.str; apply EM.Fd.ok; (focus nofun))
  | (apply EM.Fe.list; (focus nofun))
  | (apply EM.Fe.tup; (focus nofun))
  | (apply EM.Fd.int; (focus decreasing_trivial_pre_omega))
  | exact EM.Fd.bool _
  | exact EM.Fd.non
  | (refine EM.Fd.bool _)
  | (apply EM.Fd.list; (focus nofun))
  | (apply EM.Fd.tup; (focus nofun)))
local macro_rules | `(tactic| array_mem_dec) => `(tactic| ((with_reducible refine EM.pr ?_); first
  | (with_reducible refine L2.iteT ?_)
  | (with_reducible refine L2.iteF ?_)
  | (with_reducible refine EM.ifNotT ?_)
  | (with_reducible refine EM.ifNotF ?_)
  | ((fail_if_success (with_reducible refine EM.gIf ?_)); first
  | array_get_dec
  | (refine EM.mk_low (by with_reducible assumption) (by with_reducible assumption) ?_ ?_; (focus array_get_dec))
  | (apply EM.isNum_sw; (focus sizeOf_list_dec))
  | (apply EM.of_sw; (focus (with_reducible assumption)); (focus sizeOf_list_dec))
  | (apply EM.neg_bs; (focus (with_reducible assumption)); (focus sizeOf_list_dec); (focus array_get_dec); (focus array_get_dec))
  | (apply EM.relw_bs; (focus (with_reducible assumption)); (focus sizeOf_list_dec); (focus sizeOf_list_dec); (focus array_get_dec); (focus decreasing_trivial_pre_omega); (focus decreasing_trivial_pre_omega); (focus decreasing_trivial_pre_omega); (focus decreasing_trivial_pre_omega))
  | ((apply EM.DnS.bs); (focus (with_reducible assumption)); (focus (intro _ z; cases z; done)))
  | ((apply EM.seqL); (focus sizeOf_list_dec))
  | ((apply EM.seqT); (focus sizeOf_list_dec))
  | ((apply EM.seqS); (focus sizeOf_list_dec))
  | ((apply EM.enS); (focus sizeOf_list_dec))
  | ((apply EM.lenL); (focus sizeOf_list_dec))
  | ((apply EM.lenT); (focus sizeOf_list_dec))
  | ((apply EM.lenS); (focus sizeOf_list_dec))
  | ((apply EM.isSeqL); (focus sizeOf_list_dec); (focus sizeOf_list_dec))
  | ((apply EM.isSeqT); (focus sizeOf_list_dec); (focus sizeOf_list_dec))
  | ((apply EM.isSeqS); (focus sizeOf_list_dec); (focus sizeOf_list_dec))
  | ((apply EM.lstS); (focus sizeOf_list_dec))
  | ((apply EM.sumS); (focus sizeOf_list_dec))
  | ((apply EM.tupSL); (focus sizeOf_list_dec))
  | ((apply EM.tupST); (focus sizeOf_list_dec))
  | ((apply EM.fld_bs); (focus sizeOf_list_dec); (focus (exact Tx.cl_Duel (by assumption))); (focus (first | exact Tx.na_Duel_weights (by assumption) | exact Tx.na_Duel_level (by assumption))); (focus (exact rfl)))
  | ((apply EM.mk1_bs); (focus (with_reducible assumption)))
  | (with_reducible apply EM.NeS.mk')
  | ((with_reducible refine EM.New.bs (by with_reducible assumption) ?_ ?_); (focus (intro _ z; cases z; done)))
  | ((with_reducible refine EM.gMu ?_); (with_reducible apply EM.mu_bs); (focus (with_reducible assumption)); (focus sizeOf_list_dec); (focus (apply EM.nel2; (focus (with_reducible assumption)); (focus (with_reducible assumption)))); intro _ _ _)
  | intro _
  | (apply And.intro; (focus array_get_dec))
  | apply Exists.intro
  | (refine EM.draw_bs (by with_reducible assumption) ?_ ?_ ?_ ?_; (focus array_get_dec); (focus array_get_dec); (focus (first | decide | omega)))
  | (apply EM.pick_bs; (focus (with_reducible assumption)); (focus array_get_dec); (focus sizeOf_list_dec); (focus (exact Nat.le_of_ble_eq_true rfl)); (focus (exact Nat.le_of_ble_eq_true rfl)))
  | ((apply EM.repr_sw); (focus infer_instance); (focus nofun); (focus decide))
  | ((apply EM.eqd_same); (focus infer_instance); (focus infer_instance); (focus nofun); (focus decide))
  | ((apply EM.ned_same); (focus infer_instance); (focus infer_instance); (focus nofun); (focus decide))
  | ((apply EM.eqd_sw); (focus infer_instance); (focus infer_instance); (focus nofun); (focus nofun); (focus decide))
  | ((apply EM.ned_sw); (focus infer_instance); (focus infer_instance); (focus nofun); (focus nofun); (focus decide))
  | (refine EM.cut_bs (by with_reducible assumption) ?_ ?_ ?_; (focus array_get_dec); (focus array_get_dec)))))
section
variable {P : Program} {w : World} {K : PySem.W.Frag} {mg : Str → Option Value} {base : Heap}
theorem ok_law (T : Tx K mg) : FnG P w K mg base (L2.CX P w) 17 (He.ga K "law") (spLaw K) := by
  obtain ⟨fd, F⟩ := T.d_law
  refine EM.fng F sc_law (fun _ _ _ _ _ _ us hl => match us, hl with | [_], _ => rfl) (fun vs H Q E h => ?_) (fun cdv A outer s H vs Q E hr hG h => ?_)
  · obtain ⟨a, ns, rfl, _⟩ := h
    rfl
  · obtain ⟨a, ns, rfl, hS, hl, k⟩ := h
    have hu70 : (A.deeper (envOfC "law" (defScope s_law) s.heap.objs.size (He.ga K "law") cdv)).units + 70 < cLine := by have := hr.un; omega
    have fw1 := fd_sum
    have fw2 := fd_zero
    have fw3 := fd_level
    refine ⟨_, (PSs.nox (pss_cons (ps_set (i := 1) sc_law.nd rfl (Or.inl rfl) (EM.pe_cR ((ok_Lpen T).sw) (hr.mono (by decide)) T.k__law_pen T.g__law_pen passL (pa_cons (pv 0) pa_nil)))
 (pss_cons (EM.forN (ps_for PassesOwn.never rfl (pi_range1 (by rfl) T.f_range (pa_cons pe_int pa_nil)).mc (pg_name (i := 2) sc_law.nd rfl (Or.inl rfl))
  (pss_cons (ps_par (by rfl) sc_law.nd (i := 3) (j := 4) rfl rfl (by decide) rfl rfl (pa_cons (EM.pe_cR ((ok_Lweights T).sw) (hr.mono (by decide)) T.k__law_weights T.g__law_weights passL (pa_cons (pv 1) pa_nil)) (pa_cons (EM.pe_cR ((ok_Llevel T).sw) (hr.mono (by decide)) T.k__law_level T.g__law_level passL (pa_cons (pv 1) pa_nil)) pa_nil)) (by rfl))
 (pss_cons (ps_if (pt_not (pt_val (EM.pe_cG ((ok_Lmade_right T).sw) (hr.mono (by decide)) hG T.k__law_made_right T.g__law_made_right passL (pa_cons (pv 1) (pa_cons (pv 3) (pa_cons (pv 4) pa_nil))))))
  (pss_one (ps_ret pe_bl)) pss_nil)
 (pss_one (EM.forN (ps_for PassesOwn.never rfl (pi_range1 (by rfl) T.f_range (pa_cons pe_int pa_nil)).mc (pg_name (i := 5) sc_law.nd rfl (Or.inl rfl))
  (pss_cons (ps_asg (EM.pe_cR ((ok_Lbent T).sw) (hr.mono (by decide)) T.k__law_bent T.g__law_bent passL (pa_cons (pv 1) (pa_cons (pv 3) (pa_cons (EM.pe_cR ((ok_Lnumber T).sw) (hr.mono (by decide)) T.k__law_number T.g__law_number passL (pa_cons (pv 4) pa_nil)) pa_nil)))) (pg_tup (by rfl) (pgs_cons (pg_name (i := 6) sc_law.nd rfl (Or.inl rfl)) (pgs_cons (pg_name (i := 7) sc_law.nd rfl (Or.inl rfl)) pgs_nil))))
 (pss_cons (ps_set (i := 8) sc_law.nd rfl (Or.inl rfl) (pe_ifExp (pt_cmpR op_eq (EM.pe_cR ((ok_Ldraw T).sw) (hr.mono (by decide)) T.k__law_draw T.g__law_draw passL (pa_cons (pv 1) (pa_cons pe_int pa_nil))) pe_int (nomark _)) (pv 6) (pe_callTy EM.call_tupSN (by rfl) T.f_tuple (by decide +kernel) (pa_cons (pv 6) pa_nil))))
 (pss_one (ps_if (pt_cmpR op_neS (pe_callB (callR_sw (EM.call_reprD hG hu70)) (by rfl) T.f_repr (by decide +kernel) (pa_cons (EM.pe_cR ((ok_Lheard T).sw) (hr.mono (by decide)) T.k__law_heard T.g__law_heard passL (pa_cons (pv 8) (pa_cons (pv 7) pa_nil))) pa_nil)) (pe_callB (callR_sw (EM.call_reprD hG hu70)) (by rfl) T.f_repr (by decide +kernel) (pa_cons (EM.pe_cR ((ok_Ldue T).sw) (hr.mono (by decide)) T.k__law_due T.g__law_due passL (pa_cons (pv 6) (pa_cons (pv 7) pa_nil))) pa_nil)) (nomark _))
  (pss_one (ps_ret pe_bl)) pss_nil)))))))))))
 (pss_cons (ps_set (i := 9) sc_law.nd rfl (Or.inl rfl) (pe_mkD1 T (hr.mono (by decide)) passL (pa_cons (EM.pe_tupN (pa_cons pe_int (pa_cons pe_int (pa_cons (pe_un un_neg pe_int) (pa_cons pe_int pa_nil))))) pa_nil)))
 (pss_cons (ps_if (PW.pt (pw_or (pt_cmpR op_neS (pe_callB (callR_sw (EM.call_reprD hG hu70)) (by rfl) T.f_repr (by decide +kernel) (pa_cons (EM.pe_lstN (pa_cons (EM.pe_topN (EM.pe_fldN (pv 9)) T.cl_Ratio T.na_Ratio_top rfl) (pa_cons (EM.pe_botN (EM.pe_fldN (pv 9)) T.cl_Ratio T.na_Ratio_bottom rfl) pa_nil))) pa_nil)) pe_str (nomark _)) (pw_or1 (pt_cmpR (op_neDu T (hr.mono (by decide))) (pv 9) (pe_mkD T (hr.mono (by decide)) passL (pa_cons (EM.pe_lstN (pa_cons pe_int (pa_cons pe_int (pa_cons (pe_un un_neg pe_int) (pa_cons pe_int pa_nil))))) (pa_cons pe_int pa_nil))) (nomark _)))))
  (pss_one (ps_ret pe_bl)) pss_nil)
 (pss_cons (EM.forN (ps_for PassesOwn.never rfl (EM.pi_seqN (EM.pe_lstN (pa_cons pe_non (pa_cons pe_int (pa_cons pe_bl (pa_cons pe_str (pa_cons (EM.pe_dnewN) (pa_cons (pe_disp4 (pe_disp (pps_cons pe_int pe_int (pps_cons pe_int (pe_un un_neg pe_int) (pps_cons pe_int pe_int (pps_cons pe_int pe_int pps_nil)))) rfl rfl (by simp) (by decide))) (pa_cons (pe_mkR1 T (hr.mono (by decide)) (pa_cons pe_int pa_nil)) (pa_cons (EM.pe_tupN pa_nil) (pa_cons (EM.pe_lstN pa_nil) (pa_cons (EM.pe_tupN (pa_cons pe_int (pa_cons (pe_un un_neg pe_int) pa_nil))) (pa_cons (pv 9) pa_nil))))))))))))).mc (pg_name (i := 10) sc_law.nd rfl (Or.inl rfl))
  (pss_one (ps_if (PW.pt (pw_or (pt_cmpR (op_sw (op_neD hr.units)) (EM.pe_cR ((ok_Lheard T).sw) (hr.mono (by decide)) T.k__law_heard T.g__law_heard passL (pa_cons (pv 10) (pa_cons pe_int pa_nil))) (EM.pe_lstN (pa_cons pe_non pa_nil)) (nomark _)) (pw_or1 (pt_cmpR (op_sw (op_neD hr.units)) (EM.pe_cR ((ok_Lheard T).sw) (hr.mono (by decide)) T.k__law_heard T.g__law_heard passL (pa_cons (pv 10) (pa_cons pe_non pa_nil))) (EM.pe_lstN (pa_cons pe_non pa_nil)) (nomark _)))))
  (pss_one (ps_ret pe_bl)) pss_nil))))
 (pss_one (ps_ret pe_bl)))))))), ?_⟩
    refine ⟨_, rfl, ⟨⟨a, ns, rfl, hS, hl, fun p l H1 s1 np P1 => ?_⟩⟩⟩
    have B0 : Bs [] p l 0 H1 := ⟨P1, fun _ h => by cases h⟩
    repeat' array_mem_dec
    refine FoS.it walk_range (fun i σ H2 => Hold (∃ v2 v3 v4 v5 v6 v7 v8 v9 v10 : Option V, σ = [some (.ref a), some (.ref p), v2, v3, v4, v5, v6, v7, v8, v9, v10] ∧ Bs [] p l (1000 * i) H2)) ⟨⟨_, _, _, _, _, _, _, _, _, rfl, B0⟩⟩ (fun _ _ _ _ _ => trivial) ?_ ?_
    · rintro i y σ H2 H3 hi ⟨⟨v2, v3, v4, v5, v6, v7, v8, v9, v10, rfl, B2⟩⟩ ⟨rfl, rfl⟩
      have i6 : i < 6 := hi
      repeat' array_mem_dec
      refine ⟨⟨[], p, l, _, rfl, B2, by omega, fun R ws H4 g gb x4 B4 aR => ?_⟩⟩
      repeat' array_mem_dec
      refine ⟨⟨[], p, l, _, rfl, B4, by omega, fun q t b H5 lo t0 t1 b1 x5 B5 aq => ?_⟩⟩
      have aR5 := aR.ext x5
      have b0 := lo.pos
      have bt : Bt 1900 t := (Bt.rng32 (by omega) (by omega)).mono (by decide)
      have bb : Bt 1900 b := (Bt.rng32 (by omega) (by omega)).mono (by decide)
      have wl := g.p.1.2.2
      clear aR x4 x5 B4
      repeat' array_mem_dec
      refine ⟨⟨[], p, l, R, q, _, ws, t, b, rfl, B5, by omega, aR5, g, gb, aq, lo, t0, t1, b1, fun H6 x6 B6 => ?_⟩⟩
      have aR6 := aR5.ext x6
      have aq6 := aq.ext x6
      have B6' : Bs [] p l (1000 * i + 400) H6 := B6.mono (by omega)
      clear B6 x6 aR5 aq B5
      repeat' array_mem_dec
      refine FoS.it walk_range (fun j σ H7 => Hold (∃ v5 v6 v7 v8 v9 v10 : Option V, σ = [some (.ref a), some (.ref p), some (.int (0 + (i : Int))), some (.ref R), some (.ref q), v5, v6, v7, v8, v9, v10] ∧ At p H7 R (.lst (ws.map V.int)) ∧ At p H7 q (.tup [.int t, .int b]) ∧ Bs [] p l (1000 * i + 400 + 40 * j) H7)) ⟨⟨_, _, _, _, _, _, rfl, aR6, aq6, B6'⟩⟩ (fun _ _ _ _ _ => trivial) ?_ ?_
      · rintro j y σ H7 H7' hj ⟨⟨v5, v6, v7, v8, v9, v10, rfl, aR7, aq7, B7⟩⟩ ⟨rfl, rfl⟩
        have j4 : j < 4 := hj
        clear B6' aR6 aq6
        repeat' array_mem_dec
        refine ⟨⟨[], p, l, q, _, t, b, rfl, B7, aq7, lo, bt, bb, fun v H8 nv x8 B8 => ?_⟩⟩
        have aR8 := aR7.ext x8
        have aq8 := aq7.ext x8
        repeat' array_mem_dec
        refine ⟨⟨[], p, l, R, _, ws, v, true, rfl, B8, by omega, aR8, by omega, (⟨t, b, nv, bt.mono (by decide), bb.mono (by decide)⟩ : ∃ t b, NumP K p H8 v t b ∧ Bt 2000 t ∧ Bt 2000 b), fun q2 S xs os lv' lb' H9 x9 B9 a9 aS9 it9 hl9 lv9 => ?_⟩⟩
        have aR9 := aR8.ext x9
        have aq9 := aq8.ext x9
        clear aR8 aq8 nv x9 B8 x8 aR7 aq7 B7
        repeat' array_mem_dec
        rename_i d H10 d0 d1 x10 B10
        have aS10 := aS9.ext x10
        have it10 := it9.ext x10
        have lv10 := lv9.ext x10
        have aR10 := aR9.ext x10
        have aq10 := aq9.ext x10
        clear aS9 it9 lv9 aR9 aq9 a9 x10 B9
        refine ifEqI (fun z => ?_) (fun z => ?_)
        · repeat' array_mem_dec
          --Q1
          refine ⟨⟨[], p, l, _, .ref S, lv', rfl, B10, .inr ⟨S, xs, os, lb', rfl, .inl aS10, it10, by omega, lv10, fun q20 H20 x20 B20 a20 => ?_⟩⟩⟩
          have aS20 := aS10.ext x20
          have it20 := it10.ext x20
          have lv20 := levX (lv10.ext x20)
          have aR20 := aR10.ext x20
          have aq20 := aq10.ext x20
          clear aS10 it10 lv10 aR10 aq10 x20 B10
          rcases partL_cases (os := os) (lb := lb') (by omega) with e1 | e1 | ⟨z1, hz1, e1⟩ | e1 | e1 | e1
          · have a20' : At p H20 q20 (.lst []) := by rw [e1] at a20; exact a20
            clear a20
            repeat' array_mem_dec
            refine ⟨⟨[], p, l, S, _, xs, os, lv', lb', rfl, B20, aS20, it20, by omega, lv20, fun q21 H21 x21 B21 a21 => ?_⟩⟩
            have a21' : At p H21 q21 (.lst []) := by rw [e1] at a21; exact a21
            clear a21
            repeat' array_mem_dec
            exact ⟨⟨_, _, _, _, _, _, rfl, aR20.ext x21, aq20.ext x21, B21.mono (by omega)⟩⟩
          · have a20' : At p H20 q20 (.lst [.non]) := by rw [e1] at a20; exact a20
            clear a20
            repeat' array_mem_dec
            refine ⟨⟨[], p, l, S, _, xs, os, lv', lb', rfl, B20, aS20, it20, by omega, lv20, fun q21 H21 x21 B21 a21 => ?_⟩⟩
            have a21' : At p H21 q21 (.lst [.non]) := by rw [e1] at a21; exact a21
            clear a21
            repeat' array_mem_dec
            exact ⟨⟨_, _, _, _, _, _, rfl, aR20.ext x21, aq20.ext x21, B21.mono (by omega)⟩⟩
          · have a20' : At p H20 q20 (.lst [.int (z1 : Nat)]) := by rw [e1] at a20; exact a20
            clear a20
            have bz : Bt 1900 ((z1 : Nat) : Int) := (Bt.rng32 (by omega) (by omega)).mono (by decide)
            repeat' array_mem_dec
            refine ⟨⟨[], p, l, S, _, xs, os, lv', lb', rfl, B20, aS20, it20, by omega, lv20, fun q21 H21 x21 B21 a21 => ?_⟩⟩
            have a21' : At p H21 q21 (.lst [.int (z1 : Nat)]) := by rw [e1] at a21; exact a21
            clear a21
            repeat' array_mem_dec
            exact ⟨⟨_, _, _, _, _, _, rfl, aR20.ext x21, aq20.ext x21, B21.mono (by omega)⟩⟩
          · have a20' : At p H20 q20 (.lst [.str "sum"]) := by rw [e1] at a20; exact a20
            clear a20
            repeat' array_mem_dec
            refine ⟨⟨[], p, l, S, _, xs, os, lv', lb', rfl, B20, aS20, it20, by omega, lv20, fun q21 H21 x21 B21 a21 => ?_⟩⟩
            have a21' : At p H21 q21 (.lst [.str "sum"]) := by rw [e1] at a21; exact a21
            clear a21
            repeat' array_mem_dec
            exact ⟨⟨_, _, _, _, _, _, rfl, aR20.ext x21, aq20.ext x21, B21.mono (by omega)⟩⟩
          · have a20' : At p H20 q20 (.lst [.str "zero"]) := by rw [e1] at a20; exact a20
            clear a20
            repeat' array_mem_dec
            refine ⟨⟨[], p, l, S, _, xs, os, lv', lb', rfl, B20, aS20, it20, by omega, lv20, fun q21 H21 x21 B21 a21 => ?_⟩⟩
            have a21' : At p H21 q21 (.lst [.str "zero"]) := by rw [e1] at a21; exact a21
            clear a21
            repeat' array_mem_dec
            exact ⟨⟨_, _, _, _, _, _, rfl, aR20.ext x21, aq20.ext x21, B21.mono (by omega)⟩⟩
          · have a20' : At p H20 q20 (.lst [.str "level"]) := by rw [e1] at a20; exact a20
            clear a20
            repeat' array_mem_dec
            refine ⟨⟨[], p, l, S, _, xs, os, lv', lb', rfl, B20, aS20, it20, by omega, lv20, fun q21 H21 x21 B21 a21 => ?_⟩⟩
            have a21' : At p H21 q21 (.lst [.str "level"]) := by rw [e1] at a21; exact a21
            clear a21
            repeat' array_mem_dec
            exact ⟨⟨_, _, _, _, _, _, rfl, aR20.ext x21, aq20.ext x21, B21.mono (by omega)⟩⟩
        · repeat' array_mem_dec
          rename_i q11 H11 x11 B11 a11 n11
          have aS11 := aS10.ext x11
          have it11 := it10.ext x11
          have lv11 := lv10.ext x11
          have aR11 := aR10.ext x11
          have aq11 := aq10.ext x11
          clear aS10 it10 lv10 aR10 aq10 B10 x11 n11
          --Q2
          refine ⟨⟨[], p, l, _, .ref q11, lv', rfl, B11, .inr ⟨q11, xs, os, lb', rfl, .inr a11, it11, by omega, lv11, fun q20 H20 x20 B20 a20 => ?_⟩⟩⟩
          have aS20 := aS11.ext x20
          have it20 := it11.ext x20
          have lv20 := levX (lv11.ext x20)
          have aR20 := aR11.ext x20
          have aq20 := aq11.ext x20
          clear aS11 it11 lv11 aR11 aq11 x20 B11
          rcases partL_cases (os := os) (lb := lb') (by omega) with e1 | e1 | ⟨z1, hz1, e1⟩ | e1 | e1 | e1
          · have a20' : At p H20 q20 (.lst []) := by rw [e1] at a20; exact a20
            clear a20
            repeat' array_mem_dec
            refine ⟨⟨[], p, l, S, _, xs, os, lv', lb', rfl, B20, aS20, it20, by omega, lv20, fun q21 H21 x21 B21 a21 => ?_⟩⟩
            have a21' : At p H21 q21 (.lst []) := by rw [e1] at a21; exact a21
            clear a21
            repeat' array_mem_dec
            exact ⟨⟨_, _, _, _, _, _, rfl, aR20.ext x21, aq20.ext x21, B21.mono (by omega)⟩⟩
          · have a20' : At p H20 q20 (.lst [.non]) := by rw [e1] at a20; exact a20
            clear a20
            repeat' array_mem_dec
            refine ⟨⟨[], p, l, S, _, xs, os, lv', lb', rfl, B20, aS20, it20, by omega, lv20, fun q21 H21 x21 B21 a21 => ?_⟩⟩
            have a21' : At p H21 q21 (.lst [.non]) := by rw [e1] at a21; exact a21
            clear a21
            repeat' array_mem_dec
            exact ⟨⟨_, _, _, _, _, _, rfl, aR20.ext x21, aq20.ext x21, B21.mono (by omega)⟩⟩
          · have a20' : At p H20 q20 (.lst [.int (z1 : Nat)]) := by rw [e1] at a20; exact a20
            clear a20
            have bz : Bt 1900 ((z1 : Nat) : Int) := (Bt.rng32 (by omega) (by omega)).mono (by decide)
            repeat' array_mem_dec
            refine ⟨⟨[], p, l, S, _, xs, os, lv', lb', rfl, B20, aS20, it20, by omega, lv20, fun q21 H21 x21 B21 a21 => ?_⟩⟩
            have a21' : At p H21 q21 (.lst [.int (z1 : Nat)]) := by rw [e1] at a21; exact a21
            clear a21
            repeat' array_mem_dec
            exact ⟨⟨_, _, _, _, _, _, rfl, aR20.ext x21, aq20.ext x21, B21.mono (by omega)⟩⟩
          · have a20' : At p H20 q20 (.lst [.str "sum"]) := by rw [e1] at a20; exact a20
            clear a20
            repeat' array_mem_dec
            refine ⟨⟨[], p, l, S, _, xs, os, lv', lb', rfl, B20, aS20, it20, by omega, lv20, fun q21 H21 x21 B21 a21 => ?_⟩⟩
            have a21' : At p H21 q21 (.lst [.str "sum"]) := by rw [e1] at a21; exact a21
            clear a21
            repeat' array_mem_dec
            exact ⟨⟨_, _, _, _, _, _, rfl, aR20.ext x21, aq20.ext x21, B21.mono (by omega)⟩⟩
          · have a20' : At p H20 q20 (.lst [.str "zero"]) := by rw [e1] at a20; exact a20
            clear a20
            repeat' array_mem_dec
            refine ⟨⟨[], p, l, S, _, xs, os, lv', lb', rfl, B20, aS20, it20, by omega, lv20, fun q21 H21 x21 B21 a21 => ?_⟩⟩
            have a21' : At p H21 q21 (.lst [.str "zero"]) := by rw [e1] at a21; exact a21
            clear a21
            repeat' array_mem_dec
            exact ⟨⟨_, _, _, _, _, _, rfl, aR20.ext x21, aq20.ext x21, B21.mono (by omega)⟩⟩
          · have a20' : At p H20 q20 (.lst [.str "level"]) := by rw [e1] at a20; exact a20
            clear a20
            repeat' array_mem_dec
            refine ⟨⟨[], p, l, S, _, xs, os, lv', lb', rfl, B20, aS20, it20, by omega, lv20, fun q21 H21 x21 B21 a21 => ?_⟩⟩
            have a21' : At p H21 q21 (.lst [.str "level"]) := by rw [e1] at a21; exact a21
            clear a21
            repeat' array_mem_dec
            exact ⟨⟨_, _, _, _, _, _, rfl, aR20.ext x21, aq20.ext x21, B21.mono (by omega)⟩⟩
      · rintro σ H7 ⟨⟨v5, v6, v7, v8, v9, v10, rfl, aR7, aq7, B7⟩⟩
        repeat' array_mem_dec
        exact ⟨⟨_, _, _, _, _, _, _, _, _, rfl, B7.mono (by omega)⟩⟩
    · rintro σ H2 ⟨⟨v2, v3, v4, v5, v6, v7, v8, v9, v10, rfl, B2⟩⟩
      clear B0 P1 s1 np hS
      repeat' array_mem_dec
      rename_i q3 H3 x3 B3 a3 n3
      refine mkD1_good (ws := plainW) B3 (.inr a3) plain_good fun d4 H4 x4 B4 dp4 f4 => ?_
      obtain ⟨dx, qW, aL, i1, i2, i3, i4⟩ := id dp4
      clear a3 n3 x3 x4 B2 B3 f4
      repeat' array_mem_dec
      --Q3
      rename_i q5 H5 x5 B5 a5 n5
      have dp5 := dp4.ext x5
      refine ⟨"[0, 1]", congrArg V.str (by decide +kernel), rfl, ?_⟩
      clear a5 n5 i1 i2 i3 dp4 x5 B4
      repeat' array_mem_dec
      rename_i q6 H6 x6 B6 a6 n6
      refine mkD_good (ws := plainW) B6 (.inl a6) plain_good (NumP.int 0) (Bt.lit _ _ (by decide +kernel)) (Bt.lit _ _ (by decide +kernel)) fun d7 H7 x7 B7 dp7 f7 => ?_
      have dp5' := dp5.ext (x6.trans x7)
      clear a6 n6 x6 x7 dp5 B5 B6 f7
      repeat' array_mem_dec
      refine ⟨⟨[], p, l, d4, d7, _, plainW, plainW, (0, 1), (0, 1), rfl, rfl, B7, dp5', Bt.lit _ _ (by decide +kernel), Bt.lit _ _ (by decide +kernel), dp7, Bt.lit _ _ (by decide +kernel), Bt.lit _ _ (by decide +kernel), fun H8 x8 B8 => ?_⟩⟩
      have dp8 := dp5'.ext x8
      clear dp5' dp7 x8 B7
      repeat' array_mem_dec
      --Q4
      refine ifN (by decide) ?_
      repeat' array_mem_dec
      --Q5
      rename_i qE HE xE BE aE nE qD HD xD BD aD nD rA HA xA BA rrA qT HT xT BT aT nT qL HL xL BL aL0 nL qU HU xU BU aU nU qZ HZ xZ BZ aZ nZ J wk
      have yL := xU.trans xZ
      have yT := xL.trans yL
      have yA := xT.trans yT
      have yD := xA.trans yA
      have yE := xD.trans yD
      have y0 := xE.trans yE
      have odd : ∀ v ∈ [V.non, .int 7, .bl true, .str "1010", .ref qE, .ref qD, .ref rA, .ref qT, .ref qL, .ref qU, .ref d4], OddW K p HZ v := fun v hv => by
        simp only [List.mem_cons, List.not_mem_nil, or_false] at hv
        rcases hv with rfl | rfl | rfl | rfl | rfl | rfl | rfl | rfl | rfl | rfl | rfl
        · exact .inl (.inl rfl)
        · exact .inl (.inr (.inl ⟨7, rfl⟩))
        · exact .inl (.inr (.inr (.inr (.inl ⟨true, rfl⟩))))
        · exact .inl (.inr (.inr (.inl ⟨"1010", rfl⟩)))
        · exact .inl (.inr (.inr (.inr (.inr (.inl ⟨qE, _, rfl, aE.ext yE⟩)))))
        · exact .inl (.inr (.inr (.inr (.inr (.inl ⟨qD, _, rfl, aD.ext yD⟩)))))
        · exact .inl (.inr (.inr (.inr (.inr (.inr (.inl ⟨rA, _, _, rfl, rrA.ext yA⟩))))))
        · exact .inr ⟨qT, [], rfl, .inr (aT.ext yT), by decide⟩
        · exact .inr ⟨qL, [], rfl, .inl (aL0.ext yL), by decide⟩
        · exact .inr ⟨qU, [1, -1], rfl, .inr (aU.ext xZ), by decide⟩
        · exact .inl (.inr (.inr (.inr (.inr (.inr (.inr ⟨d4, _, _, rfl, dp8.ext y0⟩))))))
      refine FoS.it wk (fun i σ H2 => Hold (∃ w10 : Option V, σ = [some (.ref a), some (.ref p), v2, v3, v4, v5, v6, v7, v8, some (.ref d4), w10] ∧ Ext p HZ H2 ∧ Bs [] p l _ H2)) ⟨⟨_, rfl, Ext.refl, BZ⟩⟩ (fun i σ H2 _ ⟨⟨_, _, x, _⟩⟩ => aZ.eq x) ?_ ?_
      · rintro i y σ H2 H3 hi ⟨⟨w10, rfl, x2, B2⟩⟩ ⟨rfl, hv⟩
        have ov := (odd y (List.mem_of_getElem? hv)).ext x2
        clear odd y0 yE yD yA yT yL aE aD rrA aT aL0 aU xU xL xT xA xD xE xZ BE BD BA BT BL BU nE nD nT nL nU nZ
        repeat' array_mem_dec
        refine heardOdd B2 ov (.inl rfl) fun q7 H7 x7 B7 a7 => ?_
        repeat' array_mem_dec
        --Q6
        rename_i q9 H9 x9 B9 a9 n9
        refine heardOdd B9 (ov.ext (x7.trans x9)) (.inr rfl) fun q10 H10 x10 B10 a10 => ?_
        repeat' array_mem_dec
        --Q7
        rename_i q11 H11 x11 B11 a11 n11
        exact ⟨⟨_, rfl, x2.trans (x7.trans (x9.trans (x10.trans x11))), B11⟩⟩
      · rintro σ H2 ⟨⟨w10, rfl, x2, B2⟩⟩
        repeat' array_mem_dec
        exact k _
end
end K40
open PySem PySem.W PySem.Calls PyProof.Rows
set_option maxHeartbeats 0 in
theorem PySem.Challenge.cw_edgesmeet_k40_duels_made_holds : PySem.Challenge.rw_edgesmeet_k40_duels_made.Holds := by
  w_on; o_law
  refine HandSHeadRun.head_any (r := OpenLaw.row PySem.Challenge.rw_edgesmeet_k40_duels_made) (q := view (OpenLaw.row PySem.Challenge.rw_edgesmeet_k40_duels_made).prog [40]) (H := K40.hk) (ob := K40.ob) (M := 20000) (loose := K40.names) (d := HandSHeadRun.topDef (OpenLaw.row PySem.Challenge.rw_edgesmeet_k40_duels_made).prog 40) (kwd := []) K40.ob_eq
    (by kernel_rfl) (fun s => by kernel_rfl) K40.run (by kernel_rfl) (by kernel_rfl) (by kernel_rfl) (by rfl) (by first | assumption | decide +kernel) (by decide +kernel) ⟨rfl, rfl, rfl, rfl, rfl, by decide +kernel⟩ ?hw ?hc
  case hw => w_witness2
  case hc =>
    refine EM.walkG (l := PySem.Challenge.rw_edgesmeet_k40_duels_made) (n := 63) (k := 17) rfl (by decide) (by kernel_rfl) ⟨rfl, by decide, by decide⟩ ?F ?Z
    case Z =>
      rintro w H s e s' ⟨_, _, _, _, _, _, _, _, _, _, _, _, z⟩
      exact z
    intro w mg fa h Y G hmg0
    obtain ⟨K, KX, c⟩ := Y
    have hmg : mg ("law" : PySem.Str) = some (.ref fa) := by
      have e : (HandSHeadRun.topDef (OpenLaw.row PySem.Challenge.rw_edgesmeet_k40_duels_made).prog 40).name = ("law" : PySem.Str) := by kernel_rfl
      rw [← e]
      exact hmg0
    have T : K40.Tx K mg := ⟨c, h, KX, G⟩
    have e := hmg.symm.trans T.g_law
    cases e
    exact ⟨K, K40.spLaw K, KX, fun H a ns hl hS => ⟨a, ns, rfl, hS, hl, fun _ => rfl⟩, fun base _ _ => K40.ok_law T⟩
