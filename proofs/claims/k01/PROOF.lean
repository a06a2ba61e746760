import PyProof.Rows.All
import Wide.All
import OpenK.AllK
import Wide.FinOn
import KE.KStateDown
import KE.KOpsOwn
import HandS.ForMost
import HandS.ForExc
import HandS.Wide
import HandS.Defaults
import HandS.Star
import HandS.ClsMeth
import HandS.IsInst
import HandS.OwnEq
import HandS.Walk
import HandS.Zip
import HandS.Style
import HandS.Property
import HandS.Head0
import HandS.Head1
import HandS.Head2
import HandS.HeadEnd
import HandS.HeadHook1
import HandS.HeadHook2
import HandS.HeadNt
import HandS.SlotsOwn
import KE.GoesEnum
import KE.GoesMore
import HandS.MakeKw
import HandS.Evl
import PyProof.ReprRoads
import PyProof.ReprReads
import HandS.ExcInit
import HandS.ExcField
import HandS.TryMany
import HandS.Small
import KE.IntTextText
import KE.IntTextLaws
import HandS.Text
import HandS.Codes
import HandS.AnyAll
import PyProof.NeKinds
import PyProof.EqAt
import KE.KCallOwn
import PyProof.StrBlockL
import PyProof.Rows.RegStrFacts
import HandS.ReplaceLit
import KE.KFmtOwn
import HandS.FStr
import HandS.Lambda
import HandS.EndTab
import HandS.HeadHook4
import KE.KNestM
import HandS.MakeKwOnly
import OpenK.KMeth
import PyProof.TwoTypes
import OpenK.KOps
import PyProof.Rows.FactsN_abs
import PyProof.Rows.Range3
import HandS.ExcOwn
import HandS.ExcValue
import KE.KExcIs
import HandS.ExcIs
import KE.KEqNest
import PyProof.StrLawsRepr
import PySem.Challenge.RW_edgesmeet_k01_errors_and_their_fields
set_option Elab.async false
set_option linter.all false
set_option maxRecDepth 100000
set_option maxHeartbeats 4000000
namespace EM
open PySem PySem.Spec PyProof.Rows L2
abbrev Fk := PySem.W.Frag → Bool
def obsF (fa : List Fk) (fn : List He5.DefA) (K : PySem.W.Frag) : He.AlD := ((fa.all fun f => f K) && fn.all fun d => d.ok K, fn.map fun d => He5.fnA K (d.at_ K))
def valF (fn : List He5.DefA) : He.AlD := (true, fn.map He5.DefA.val)
def SaysF (fa : List Fk) (fn : List He5.DefA) (K : PySem.W.Frag) : Prop := obsF fa fn K = valF fn
/-- attributes of the class itself are read plainly -/
def creadB (K : PySem.W.Frag) (C : Addr) : Bool := PySem.W.readsIn K C (.type "type") && He.eqO (PySem.W.specialIn K (.ref C) "__getattribute__") (some (some (.builtin "type.__getattribute__")))
/-- the i-th of cs is one of the i-th of ds and of no other -/
def kitRowsB (K : PySem.W.Frag) (cs ds : List Addr) : Bool := (List.range cs.length).all fun i => (List.range ds.length).all fun j => match cs[i]?, ds[j]? with
  | some C, some D => decide (PySem.W.kitOne K (.ref C) (.ref D) = some (decide (i = j)))
  | _, _ => true
/-- none of cs is one of these -/
def kitNoneB (K : PySem.W.Frag) (cs : List Addr) (us : List Value) : Bool := cs.all fun C => decide (PySem.W.kitAny K (.ref C) us = some false)
/-- each of cs is one of this -/
def kitOneB (K : PySem.W.Frag) (cs : List Addr) (u : Value) : Bool := cs.all fun C => decide (PySem.W.kitOne K (.ref C) u = some true)
/-- the class at C as an own exception class over ValueError whose instances have dicts -/
def oexB (K : PySem.W.Frag) (C : Addr) : Bool := (match K.lookup C with
    | some ⟨.type t, _, .cls cd, sl⟩ => decide (t = "type") && (cd.hasDict && (!cd.hasDel && match cd.mro, sl.toList with
      | .ref C' :: bm, [_, _, _, _, some (.builtin n), _] => decide (C' = C) && (decide (n = "ValueError.__new__") && PySem.HandSPX.refsVE bm)
      | _, _ => false))
    | _ => false) && (He.eqO (PySem.W.findIn K (.ref C) "__setattr__") (some (some (.builtin "object.__setattr__"))) && (decide (PySem.W.subIn K (.ref C) (.type "BaseException") = some true) && (decide (PySem.W.typeIn K (.ref C) = some (.type "type")) && PySem.W.keepIn K (.ref C))))
/-- its __init__ is a def -/
def oinB (K : PySem.W.Frag) (C : Addr) : Bool := He.eqO (PySem.W.findIn K (.ref C) "__init__") (some (some (.ref (He.ma K C "__init__")))) && decide (PySem.W.typeIn K (.ref (He.ma K C "__init__")) = some (.type "function"))
def excB (K : PySem.W.Frag) (D : Addr) : Bool :=
  decide (PySem.W.findIn K (.ref D) "__getattribute__" = some (some (.builtin "BaseException.__getattribute__"))) && (decide (PySem.W.findIn K (.ref D) "__getattr__" = some none) && (decide (PySem.W.subIn K (.ref D) (.type "BaseException") = some true) && (PySem.W.hasDictIn K D && (decide (PySem.W.findIn K (.ref D) "__class__" = some (some (.builtin "object.__class__"))) &&
  (decide (PySem.W.specialIn K (.builtin "object.__class__") "__get__" = some (some (.builtin "getset_descriptor.__get__"))) && (decide (PySem.W.takesIn K (.builtin "object.__class__") = some true) && (decide (PySem.W.mroIn K D (.type "object") = some true) && (PySem.W.clsIn K D).isSome)))))))
/-- each of cs is an own exception class as isinstance wants it -/
def excsB (K : PySem.W.Frag) (cs : List Addr) : Bool := cs.all fun C => excB K C
/-- the addresses looked at: the module's names, the statics, all others, the newest first -/
def asR (N : Nat) : List Addr := mainGlobals :: cStatics :: (List.range N).reverse
def obsRG (N : Nat) (fa : List Fk) (fn : List He5.DefA) (g : Addr → Option Obj) : He.AlD := obsF fa fn (He.frG g (asR N))
def hookR (N : Nat) (fa : List Fk) (fn : List He5.DefA) : PySem.W.Hook where
  α := He.AlD
  obs := fun s => obsRG N fa fn s.heap.get?
  val := fun _ => valF fn
  says := fun _ h => ∃ K : PySem.W.Frag, K.In h ∧ SaysF fa fn K
  of := fun _ _ e => ⟨_, He.frG_in, e⟩
  keeps := fun _ _ _ ⟨K, hK, c⟩ k => ⟨K, PySem.W.Frag.In.keeps hK k, c⟩
theorem obsRG_eq {N : Nat} {fa : List Fk} {fn : List He5.DefA} {g : Addr → Option Obj} {s : Shared} (h : ∀ a, g a = s.heap.get? a) : obsRG N fa fn g = (hookR N fa fn).obs s := by
  have e : g = s.heap.get? := funext h
  rw [e] <;> rfl
end EM
namespace K01
open PySem PySem.Spec PyProof.Rows L2
def top (i : Nat) : Stmt := PySem.Challenge.pw_edgesmeet_k01_errors_and_their_fields.main.body.getD i (.Pass ⟨0, 0, 0, 0⟩)
abbrev s_is_integer : Stmt := top 30
theorem sc_is_integer : FnScope ["thing"] ["thing"] (defScope s_is_integer) := ⟨rfl, rfl, rfl, by decide +kernel, rfl, by decide +kernel, by decide +kernel⟩
abbrev s_common_divisor : Stmt := top 31
theorem sc_common_divisor : FnScope ["one", "other"] ["one", "other"] (defScope s_common_divisor) := ⟨rfl, rfl, rfl, by decide +kernel, rfl, by decide +kernel, by decide +kernel⟩
abbrev s_Ratio_init : Stmt := inClass (top 32) 0
theorem sc_Ratio_init : FnScope ["self", "top", "bottom", "shared"] ["self", "top", "bottom"] (defScope s_Ratio_init) := ⟨rfl, rfl, rfl, by decide +kernel, rfl, by decide +kernel, by decide +kernel⟩
abbrev s_Ratio_repr : Stmt := inClass (top 32) 25
theorem sc_Ratio_repr : FnScope ["self"] ["self"] (defScope s_Ratio_repr) := ⟨rfl, rfl, rfl, by decide +kernel, rfl, by decide +kernel, by decide +kernel⟩
abbrev s_BadRatio_init : Stmt := inClass (top 3) 0
theorem sc_BadRatio_init : FnScope ["self", "part"] ["self", "part"] (defScope s_BadRatio_init) := ⟨rfl, rfl, rfl, by decide +kernel, rfl, by decide +kernel, by decide +kernel⟩
abbrev s_BadMark_init : Stmt := inClass (top 5) 0
theorem sc_BadMark_init : FnScope ["self", "at"] ["self", "at"] (defScope s_BadMark_init) := ⟨rfl, rfl, rfl, by decide +kernel, rfl, by decide +kernel, by decide +kernel⟩
abbrev s_NoEdge_init : Stmt := inClass (top 6) 0
theorem sc_NoEdge_init : FnScope ["self", "value"] ["self", "value"] (defScope s_NoEdge_init) := ⟨rfl, rfl, rfl, by decide +kernel, rfl, by decide +kernel, by decide +kernel⟩
abbrev s_BadReading_init : Stmt := inClass (top 8) 0
theorem sc_BadReading_init : FnScope ["self", "at"] ["self", "at"] (defScope s_BadReading_init) := ⟨rfl, rfl, rfl, by decide +kernel, rfl, by decide +kernel, by decide +kernel⟩
abbrev s_NotRising_init : Stmt := inClass (top 9) 0
theorem sc_NotRising_init : FnScope ["self", "at"] ["self", "at"] (defScope s_NotRising_init) := ⟨rfl, rfl, rfl, by decide +kernel, rfl, by decide +kernel, by decide +kernel⟩
abbrev s_NoStretch_init : Stmt := inClass (top 10) 0
theorem sc_NoStretch_init : FnScope ["self", "value"] ["self", "value"] (defScope s_NoStretch_init) := ⟨rfl, rfl, rfl, by decide +kernel, rfl, by decide +kernel, by decide +kernel⟩
abbrev s_BadView_init : Stmt := inClass (top 11) 0
theorem sc_BadView_init : FnScope ["self", "part"] ["self", "part"] (defScope s_BadView_init) := ⟨rfl, rfl, rfl, by decide +kernel, rfl, by decide +kernel, by decide +kernel⟩
abbrev s_BadTerms_init : Stmt := inClass (top 12) 0
theorem sc_BadTerms_init : FnScope ["self", "part"] ["self", "part"] (defScope s_BadTerms_init) := ⟨rfl, rfl, rfl, by decide +kernel, rfl, by decide +kernel, by decide +kernel⟩
abbrev s_BadWeights_init : Stmt := inClass (top 14) 0
theorem sc_BadWeights_init : FnScope ["self", "part"] ["self", "part"] (defScope s_BadWeights_init) := ⟨rfl, rfl, rfl, by decide +kernel, rfl, by decide +kernel, by decide +kernel⟩
abbrev s_BadName_init : Stmt := inClass (top 16) 0
theorem sc_BadName_init : FnScope ["self", "name"] ["self", "name"] (defScope s_BadName_init) := ⟨rfl, rfl, rfl, by decide +kernel, rfl, by decide +kernel, by decide +kernel⟩
abbrev s_NoName_init : Stmt := inClass (top 17) 0
theorem sc_NoName_init : FnScope ["self", "name"] ["self", "name"] (defScope s_NoName_init) := ⟨rfl, rfl, rfl, by decide +kernel, rfl, by decide +kernel, by decide +kernel⟩
abbrev s_TooMany_init : Stmt := inClass (top 18) 0
theorem sc_TooMany_init : FnScope ["self", "most"] ["self", "most"] (defScope s_TooMany_init) := ⟨rfl, rfl, rfl, by decide +kernel, rfl, by decide +kernel, by decide +kernel⟩
abbrev s_BadError_init : Stmt := inClass (top 20) 0
theorem sc_BadError_init : FnScope ["self", "value"] ["self", "value"] (defScope s_BadError_init) := ⟨rfl, rfl, rfl, by decide +kernel, rfl, by decide +kernel, by decide +kernel⟩
abbrev s_BadCount_init : Stmt := inClass (top 21) 0
theorem sc_BadCount_init : FnScope ["self", "value"] ["self", "value"] (defScope s_BadCount_init) := ⟨rfl, rfl, rfl, by decide +kernel, rfl, by decide +kernel, by decide +kernel⟩
abbrev s_Alike_init : Stmt := inClass (top 15) 0
theorem sc_Alike_init : FnScope ["self", "one", "other"] ["self", "one", "other"] (defScope s_Alike_init) := ⟨rfl, rfl, rfl, by decide +kernel, rfl, by decide +kernel, by decide +kernel⟩
abbrev s_TooLarge_init : Stmt := inClass (top 19) 0
theorem sc_TooLarge_init : FnScope ["self", "part", "most"] ["self", "part", "most"] (defScope s_TooLarge_init) := ⟨rfl, rfl, rfl, by decide +kernel, rfl, by decide +kernel, by decide +kernel⟩
abbrev s_BadText_init : Stmt := inClass (top 24) 0
theorem sc_BadText_init : FnScope ["self", "line", "word"] ["self", "line", "word"] (defScope s_BadText_init) := ⟨rfl, rfl, rfl, by decide +kernel, rfl, by decide +kernel, by decide +kernel⟩
abbrev s_Lpen : Stmt := top 35
theorem sc_Lpen : FnScope ["_law_script"] ["_law_script"] (defScope s_Lpen) := ⟨rfl, rfl, rfl, by decide +kernel, rfl, by decide +kernel, by decide +kernel⟩
abbrev s_Ldraw : Stmt := top 36
theorem sc_Ldraw : FnScope ["_law_pen_here", "_law_many", "_law_digit", "_law_begun", "_law_cell", "_law_great", "_law_mixed"] ["_law_pen_here", "_law_many"] (defScope s_Ldraw) := ⟨rfl, rfl, rfl, by decide +kernel, rfl, by decide +kernel, by decide +kernel⟩
abbrev s_Lpick : Stmt := top 37
theorem sc_Lpick : FnScope ["_law_pen_here", "_law_some"] ["_law_pen_here", "_law_some"] (defScope s_Lpick) := ⟨rfl, rfl, rfl, by decide +kernel, rfl, by decide +kernel, by decide +kernel⟩
abbrev s_Lthing : Stmt := top 38
theorem sc_Lthing : FnScope ["_law_pen_here", "_law_number", "_law_menu"] ["_law_pen_here"] (defScope s_Lthing) := ⟨rfl, rfl, rfl, by decide +kernel, rfl, by decide +kernel, by decide +kernel⟩
abbrev s_Lkinds : Stmt := top 39
theorem sc_Lkinds : FnScope ["_law_error", "_law_found", "_law_k", "_law_is_one"] ["_law_error"] (defScope s_Lkinds) := ⟨rfl, rfl, rfl, by decide +kernel, rfl, by decide +kernel, by decide +kernel⟩
abbrev s_Lis_based : Stmt := top 40
theorem sc_Lis_based : FnScope ["_law_error", "_law_others"] ["_law_error"] (defScope s_Lis_based) := ⟨rfl, rfl, rfl, by decide +kernel, rfl, by decide +kernel, by decide +kernel⟩
abbrev s_Lsingles : Stmt := top 41
theorem sc_Lsingles : FnScope ["_law_left", "_law_found", "_law_error"] ["_law_left"] (defScope s_Lsingles) := ⟨rfl, rfl, rfl, by decide +kernel, rfl, by decide +kernel, by decide +kernel⟩
abbrev s_Ldoubles : Stmt := top 42
theorem sc_Ldoubles : FnScope ["_law_left", "_law_right", "_law_found", "_law_error", "_law_named"] ["_law_left", "_law_right"] (defScope s_Ldoubles) := ⟨rfl, rfl, rfl, by decide +kernel, rfl, by decide +kernel, by decide +kernel⟩
abbrev s_law : Stmt := top 43
theorem sc_law : FnScope ["_law_script", "_law_pen_here", "_law_turn", "_law_left", "_law_right", "_law_rows", "_law_error", "_law_kept", "_law_k", "_law_due"] ["_law_script"] (defScope s_law) := ⟨rfl, rfl, rfl, by decide +kernel, rfl, by decide +kernel, by decide +kernel⟩
def e_is_integer : He5.DefA := ⟨fun K => He.ga K "is_integer", "is_integer", "is_integer", defArgs s_is_integer, defBody s_is_integer, defScope s_is_integer, [], []⟩
def e_common_divisor : He5.DefA := ⟨fun K => He.ga K "common_divisor", "common_divisor", "common_divisor", defArgs s_common_divisor, defBody s_common_divisor, defScope s_common_divisor, [], []⟩
def e_Ratio_init : He5.DefA := ⟨fun K => He.ma K (He.ga K "Ratio") "__init__", "__init__", "Ratio.__init__", defArgs s_Ratio_init, defBody s_Ratio_init, defScope s_Ratio_init, [.int 1], []⟩
def e_Ratio_repr : He5.DefA := ⟨fun K => He.ma K (He.ga K "Ratio") "__repr__", "__repr__", "Ratio.__repr__", defArgs s_Ratio_repr, defBody s_Ratio_repr, defScope s_Ratio_repr, [], []⟩
def e_BadRatio_init : He5.DefA := ⟨fun K => He.ma K (He.ga K "BadRatio") "__init__", "__init__", "BadRatio.__init__", defArgs s_BadRatio_init, defBody s_BadRatio_init, defScope s_BadRatio_init, [], []⟩
def e_BadMark_init : He5.DefA := ⟨fun K => He.ma K (He.ga K "BadMark") "__init__", "__init__", "BadMark.__init__", defArgs s_BadMark_init, defBody s_BadMark_init, defScope s_BadMark_init, [], []⟩
def e_NoEdge_init : He5.DefA := ⟨fun K => He.ma K (He.ga K "NoEdge") "__init__", "__init__", "NoEdge.__init__", defArgs s_NoEdge_init, defBody s_NoEdge_init, defScope s_NoEdge_init, [], []⟩
def e_BadReading_init : He5.DefA := ⟨fun K => He.ma K (He.ga K "BadReading") "__init__", "__init__", "BadReading.__init__", defArgs s_BadReading_init, defBody s_BadReading_init, defScope s_BadReading_init, [], []⟩
def e_NotRising_init : He5.DefA := ⟨fun K => He.ma K (He.ga K "NotRising") "__init__", "__init__", "NotRising.__init__", defArgs s_NotRising_init, defBody s_NotRising_init, defScope s_NotRising_init, [], []⟩
def e_NoStretch_init : He5.DefA := ⟨fun K => He.ma K (He.ga K "NoStretch") "__init__", "__init__", "NoStretch.__init__", defArgs s_NoStretch_init, defBody s_NoStretch_init, defScope s_NoStretch_init, [], []⟩
def e_BadView_init : He5.DefA := ⟨fun K => He.ma K (He.ga K "BadView") "__init__", "__init__", "BadView.__init__", defArgs s_BadView_init, defBody s_BadView_init, defScope s_BadView_init, [], []⟩
def e_BadTerms_init : He5.DefA := ⟨fun K => He.ma K (He.ga K "BadTerms") "__init__", "__init__", "BadTerms.__init__", defArgs s_BadTerms_init, defBody s_BadTerms_init, defScope s_BadTerms_init, [], []⟩
def e_BadWeights_init : He5.DefA := ⟨fun K => He.ma K (He.ga K "BadWeights") "__init__", "__init__", "BadWeights.__init__", defArgs s_BadWeights_init, defBody s_BadWeights_init, defScope s_BadWeights_init, [], []⟩
def e_BadName_init : He5.DefA := ⟨fun K => He.ma K (He.ga K "BadName") "__init__", "__init__", "BadName.__init__", defArgs s_BadName_init, defBody s_BadName_init, defScope s_BadName_init, [], []⟩
def e_NoName_init : He5.DefA := ⟨fun K => He.ma K (He.ga K "NoName") "__init__", "__init__", "NoName.__init__", defArgs s_NoName_init, defBody s_NoName_init, defScope s_NoName_init, [], []⟩
def e_TooMany_init : He5.DefA := ⟨fun K => He.ma K (He.ga K "TooMany") "__init__", "__init__", "TooMany.__init__", defArgs s_TooMany_init, defBody s_TooMany_init, defScope s_TooMany_init, [], []⟩
def e_BadError_init : He5.DefA := ⟨fun K => He.ma K (He.ga K "BadError") "__init__", "__init__", "BadError.__init__", defArgs s_BadError_init, defBody s_BadError_init, defScope s_BadError_init, [], []⟩
def e_BadCount_init : He5.DefA := ⟨fun K => He.ma K (He.ga K "BadCount") "__init__", "__init__", "BadCount.__init__", defArgs s_BadCount_init, defBody s_BadCount_init, defScope s_BadCount_init, [], []⟩
def e_Alike_init : He5.DefA := ⟨fun K => He.ma K (He.ga K "Alike") "__init__", "__init__", "Alike.__init__", defArgs s_Alike_init, defBody s_Alike_init, defScope s_Alike_init, [], []⟩
def e_TooLarge_init : He5.DefA := ⟨fun K => He.ma K (He.ga K "TooLarge") "__init__", "__init__", "TooLarge.__init__", defArgs s_TooLarge_init, defBody s_TooLarge_init, defScope s_TooLarge_init, [], []⟩
def e_BadText_init : He5.DefA := ⟨fun K => He.ma K (He.ga K "BadText") "__init__", "__init__", "BadText.__init__", defArgs s_BadText_init, defBody s_BadText_init, defScope s_BadText_init, [], []⟩
def e_Lpen : He5.DefA := ⟨fun K => He.ga K "_law_pen", "_law_pen", "_law_pen", defArgs s_Lpen, defBody s_Lpen, defScope s_Lpen, [], []⟩
def e_Ldraw : He5.DefA := ⟨fun K => He.ga K "_law_draw", "_law_draw", "_law_draw", defArgs s_Ldraw, defBody s_Ldraw, defScope s_Ldraw, [], []⟩
def e_Lpick : He5.DefA := ⟨fun K => He.ga K "_law_pick", "_law_pick", "_law_pick", defArgs s_Lpick, defBody s_Lpick, defScope s_Lpick, [], []⟩
def e_Lthing : He5.DefA := ⟨fun K => He.ga K "_law_thing", "_law_thing", "_law_thing", defArgs s_Lthing, defBody s_Lthing, defScope s_Lthing, [], []⟩
def e_Lkinds : He5.DefA := ⟨fun K => He.ga K "_law_kinds", "_law_kinds", "_law_kinds", defArgs s_Lkinds, defBody s_Lkinds, defScope s_Lkinds, [], []⟩
def e_Lis_based : He5.DefA := ⟨fun K => He.ga K "_law_is_based", "_law_is_based", "_law_is_based", defArgs s_Lis_based, defBody s_Lis_based, defScope s_Lis_based, [], []⟩
def e_Lsingles : He5.DefA := ⟨fun K => He.ga K "_law_singles", "_law_singles", "_law_singles", defArgs s_Lsingles, defBody s_Lsingles, defScope s_Lsingles, [], []⟩
def e_Ldoubles : He5.DefA := ⟨fun K => He.ga K "_law_doubles", "_law_doubles", "_law_doubles", defArgs s_Ldoubles, defBody s_Ldoubles, defScope s_Ldoubles, [], []⟩
def e_law : He5.DefA := ⟨fun K => He.ga K "law", "law", "law", defArgs s_law, defBody s_law, defScope s_law, [], []⟩
def fn : List He5.DefA := [e_is_integer, e_common_divisor, e_Ratio_init, e_Ratio_repr, e_BadRatio_init, e_BadMark_init, e_NoEdge_init, e_BadReading_init, e_NotRising_init, e_NoStretch_init, e_BadView_init, e_BadTerms_init, e_BadWeights_init, e_BadName_init, e_NoName_init, e_TooMany_init, e_BadError_init, e_BadCount_init, e_Alike_init, e_TooLarge_init, e_BadText_init, e_Lpen, e_Ldraw, e_Lpick, e_Lthing, e_Lkinds, e_Lis_based, e_Lsingles, e_Ldoubles, e_law]
def fa0 : List EM.Fk := [fun K => (He.Fa.glo "BadRatio").ok K,
  fun K => (He.Fa.glo "BadMark").ok K,
  fun K => (He.Fa.glo "NoEdge").ok K,
  fun K => (He.Fa.glo "BadReading").ok K,
  fun K => (He.Fa.glo "NotRising").ok K,
  fun K => (He.Fa.glo "NoStretch").ok K,
  fun K => (He.Fa.glo "BadView").ok K,
  fun K => (He.Fa.glo "BadTerms").ok K,
  fun K => (He.Fa.glo "BadWeights").ok K,
  fun K => (He.Fa.glo "BadName").ok K,
  fun K => (He.Fa.glo "NoName").ok K,
  fun K => (He.Fa.glo "TooMany").ok K,
  fun K => (He.Fa.glo "BadError").ok K,
  fun K => (He.Fa.glo "BadCount").ok K,
  fun K => (He.Fa.glo "Alike").ok K,
  fun K => (He.Fa.glo "TooLarge").ok K,
  fun K => (He.Fa.glo "BadText").ok K,
  fun K => (He.Fa.glo "NoDivisor").ok K,
  fun K => (He.Fa.glo "Unlike").ok K,
  fun K => (He.Fa.glo "NoTerms").ok K]
def fa1 : List EM.Fk := [fun K => (He.Fa.glo "Empty").ok K,
  fun K => (He.Fa.glo "Uneven").ok K,
  fun K => (He.Fa.glo "EdgeError").ok K,
  fun K => (He.Fa.glo "Ratio").ok K,
  fun K => (He.Fa.glo "is_integer").ok K,
  fun K => (He.Fa.glo "common_divisor").ok K,
  fun K => (He.Fa.glo "_law_pen").ok K,
  fun K => (He.Fa.glo "_law_draw").ok K,
  fun K => (He.Fa.glo "_law_pick").ok K,
  fun K => (He.Fa.glo "_law_thing").ok K,
  fun K => (He.Fa.glo "_law_kinds").ok K,
  fun K => (He.Fa.glo "_law_is_based").ok K,
  fun K => (He.Fa.glo "_law_singles").ok K,
  fun K => (He.Fa.glo "_law_doubles").ok K,
  fun K => (He.Fa.glo "law").ok K,
  fun K => (He.Fa.free "len").ok K,
  fun K => (He.Fa.free "isinstance").ok K,
  fun K => (He.Fa.free "int").ok K,
  fun K => (He.Fa.free "bool").ok K,
  fun K => (He.Fa.free "abs").ok K]
def fa2 : List EM.Fk := [fun K => (He.Fa.free "range").ok K,
  fun K => (He.Fa.free "repr").ok K,
  fun K => (He.Fa.free "list").ok K,
  fun K => (He.Fa.free "enumerate").ok K,
  fun K => (He.Fa.free "ValueError").ok K,
  fun K => (He.Fa.free "KeyError").ok K,
  fun K => (He.Fa.free "IndexError").ok K,
  fun K => (He.Fa.free "LookupError").ok K,
  fun K => (He.Fa.free "ArithmeticError").ok K,
  fun K => (He.Fa.free "OverflowError").ok K,
  fun K => (He.Fa.free "TypeError").ok K,
  fun K => (He.Fa.free "RuntimeError").ok K,
  fun K => (He.Fa.free "AttributeError").ok K,
  fun K => (He.Fa.cls "Ratio").ok K,
  fun K => (He.Fa.mkr "Ratio").ok K,
  fun K => EM.creadB K (He.ga K "Ratio"),
  fun K => (He.Fa.meth "Ratio" "__repr__").ok K,
  fun K => (He.Fa.noat "Ratio" "top").ok K,
  fun K => (He.Fa.noat "Ratio" "bottom").ok K,
  fun K => (He.Fa.noat "BadRatio" "part").ok K]
def fa3 : List EM.Fk := [fun K => L2.xfB K (He.ga K "BadRatio"),
  fun K => EM.oexB K (He.ga K "BadRatio"),
  fun K => EM.oinB K (He.ga K "BadRatio"),
  fun K => (He.Fa.noat "BadMark" "at").ok K,
  fun K => L2.xfB K (He.ga K "BadMark"),
  fun K => EM.oexB K (He.ga K "BadMark"),
  fun K => EM.oinB K (He.ga K "BadMark"),
  fun K => (He.Fa.noat "NoEdge" "value").ok K,
  fun K => L2.xfB K (He.ga K "NoEdge"),
  fun K => EM.oexB K (He.ga K "NoEdge"),
  fun K => EM.oinB K (He.ga K "NoEdge"),
  fun K => (He.Fa.noat "BadReading" "at").ok K,
  fun K => L2.xfB K (He.ga K "BadReading"),
  fun K => EM.oexB K (He.ga K "BadReading"),
  fun K => EM.oinB K (He.ga K "BadReading"),
  fun K => (He.Fa.noat "NotRising" "at").ok K,
  fun K => L2.xfB K (He.ga K "NotRising"),
  fun K => EM.oexB K (He.ga K "NotRising"),
  fun K => EM.oinB K (He.ga K "NotRising"),
  fun K => (He.Fa.noat "NoStretch" "value").ok K]
def fa4 : List EM.Fk := [fun K => L2.xfB K (He.ga K "NoStretch"),
  fun K => EM.oexB K (He.ga K "NoStretch"),
  fun K => EM.oinB K (He.ga K "NoStretch"),
  fun K => (He.Fa.noat "BadView" "part").ok K,
  fun K => L2.xfB K (He.ga K "BadView"),
  fun K => EM.oexB K (He.ga K "BadView"),
  fun K => EM.oinB K (He.ga K "BadView"),
  fun K => (He.Fa.noat "BadTerms" "part").ok K,
  fun K => L2.xfB K (He.ga K "BadTerms"),
  fun K => EM.oexB K (He.ga K "BadTerms"),
  fun K => EM.oinB K (He.ga K "BadTerms"),
  fun K => (He.Fa.noat "BadWeights" "part").ok K,
  fun K => L2.xfB K (He.ga K "BadWeights"),
  fun K => EM.oexB K (He.ga K "BadWeights"),
  fun K => EM.oinB K (He.ga K "BadWeights"),
  fun K => (He.Fa.noat "BadName" "name").ok K,
  fun K => L2.xfB K (He.ga K "BadName"),
  fun K => EM.oexB K (He.ga K "BadName"),
  fun K => EM.oinB K (He.ga K "BadName"),
  fun K => (He.Fa.noat "NoName" "name").ok K]
def fa5 : List EM.Fk := [fun K => L2.xfB K (He.ga K "NoName"),
  fun K => EM.oexB K (He.ga K "NoName"),
  fun K => EM.oinB K (He.ga K "NoName"),
  fun K => (He.Fa.noat "TooMany" "most").ok K,
  fun K => L2.xfB K (He.ga K "TooMany"),
  fun K => EM.oexB K (He.ga K "TooMany"),
  fun K => EM.oinB K (He.ga K "TooMany"),
  fun K => (He.Fa.noat "BadError" "value").ok K,
  fun K => L2.xfB K (He.ga K "BadError"),
  fun K => EM.oexB K (He.ga K "BadError"),
  fun K => EM.oinB K (He.ga K "BadError"),
  fun K => (He.Fa.noat "BadCount" "value").ok K,
  fun K => L2.xfB K (He.ga K "BadCount"),
  fun K => EM.oexB K (He.ga K "BadCount"),
  fun K => EM.oinB K (He.ga K "BadCount"),
  fun K => (He.Fa.noat "Alike" "one").ok K,
  fun K => (He.Fa.noat "Alike" "other").ok K,
  fun K => L2.xfB K (He.ga K "Alike"),
  fun K => EM.oexB K (He.ga K "Alike"),
  fun K => EM.oinB K (He.ga K "Alike")]
def fa6 : List EM.Fk := [fun K => (He.Fa.noat "TooLarge" "part").ok K,
  fun K => (He.Fa.noat "TooLarge" "most").ok K,
  fun K => L2.xfB K (He.ga K "TooLarge"),
  fun K => EM.oexB K (He.ga K "TooLarge"),
  fun K => EM.oinB K (He.ga K "TooLarge"),
  fun K => (He.Fa.noat "BadText" "line").ok K,
  fun K => (He.Fa.noat "BadText" "word").ok K,
  fun K => L2.xfB K (He.ga K "BadText"),
  fun K => EM.oexB K (He.ga K "BadText"),
  fun K => EM.oinB K (He.ga K "BadText"),
  fun K => PySem.W.excIn K (He.ga K "NoDivisor") [.type "ValueError", .type "Exception", .type "BaseException", .type "object"] "ValueError.__new__",
  fun K => decide (PySem.W.subIn K (.ref (He.ga K "NoDivisor")) (.type "BaseException") = some true),
  fun K => decide (PySem.W.typeIn K (.ref (He.ga K "NoDivisor")) = some (.type "type")),
  fun K => PySem.W.keepIn K (.ref (He.ga K "NoDivisor")),
  fun K => PySem.W.excIn K (He.ga K "Unlike") [.type "ValueError", .type "Exception", .type "BaseException", .type "object"] "ValueError.__new__",
  fun K => decide (PySem.W.subIn K (.ref (He.ga K "Unlike")) (.type "BaseException") = some true),
  fun K => decide (PySem.W.typeIn K (.ref (He.ga K "Unlike")) = some (.type "type")),
  fun K => PySem.W.keepIn K (.ref (He.ga K "Unlike")),
  fun K => PySem.W.excIn K (He.ga K "NoTerms") [.type "ValueError", .type "Exception", .type "BaseException", .type "object"] "ValueError.__new__",
  fun K => decide (PySem.W.subIn K (.ref (He.ga K "NoTerms")) (.type "BaseException") = some true)]
def fa7 : List EM.Fk := [fun K => decide (PySem.W.typeIn K (.ref (He.ga K "NoTerms")) = some (.type "type")),
  fun K => PySem.W.keepIn K (.ref (He.ga K "NoTerms")),
  fun K => PySem.W.excIn K (He.ga K "Empty") [.type "ValueError", .type "Exception", .type "BaseException", .type "object"] "ValueError.__new__",
  fun K => decide (PySem.W.subIn K (.ref (He.ga K "Empty")) (.type "BaseException") = some true),
  fun K => decide (PySem.W.typeIn K (.ref (He.ga K "Empty")) = some (.type "type")),
  fun K => PySem.W.keepIn K (.ref (He.ga K "Empty")),
  fun K => PySem.W.excIn K (He.ga K "Uneven") [.type "ValueError", .type "Exception", .type "BaseException", .type "object"] "ValueError.__new__",
  fun K => decide (PySem.W.subIn K (.ref (He.ga K "Uneven")) (.type "BaseException") = some true),
  fun K => decide (PySem.W.typeIn K (.ref (He.ga K "Uneven")) = some (.type "type")),
  fun K => PySem.W.keepIn K (.ref (He.ga K "Uneven")),
  fun K => PySem.W.excIn K (He.ga K "EdgeError") [.type "ValueError", .type "Exception", .type "BaseException", .type "object"] "ValueError.__new__",
  fun K => decide (PySem.W.subIn K (.ref (He.ga K "EdgeError")) (.type "BaseException") = some true),
  fun K => decide (PySem.W.typeIn K (.ref (He.ga K "EdgeError")) = some (.type "type")),
  fun K => PySem.W.keepIn K (.ref (He.ga K "EdgeError")),
  fun K => EM.kitRowsB K [He.ga K "BadRatio", He.ga K "BadMark", He.ga K "NoEdge", He.ga K "BadReading", He.ga K "NotRising", He.ga K "NoStretch", He.ga K "BadView", He.ga K "BadTerms", He.ga K "BadWeights", He.ga K "BadName", He.ga K "NoName", He.ga K "TooMany", He.ga K "BadError", He.ga K "BadCount", He.ga K "Alike", He.ga K "TooLarge", He.ga K "BadText", He.ga K "NoDivisor", He.ga K "Unlike", He.ga K "NoTerms", He.ga K "Empty", He.ga K "Uneven", He.ga K "EdgeError"] [He.ga K "BadRatio", He.ga K "BadMark", He.ga K "NoEdge", He.ga K "BadReading", He.ga K "NotRising", He.ga K "NoStretch", He.ga K "BadView", He.ga K "BadTerms", He.ga K "BadWeights", He.ga K "BadName", He.ga K "NoName", He.ga K "TooMany", He.ga K "BadError", He.ga K "BadCount", He.ga K "Alike", He.ga K "TooLarge", He.ga K "BadText", He.ga K "NoDivisor", He.ga K "Unlike", He.ga K "NoTerms", He.ga K "Empty", He.ga K "Uneven"],
  fun K => EM.excsB K [He.ga K "BadRatio", He.ga K "BadMark", He.ga K "NoEdge", He.ga K "BadReading", He.ga K "NotRising", He.ga K "NoStretch", He.ga K "BadView", He.ga K "BadTerms", He.ga K "BadWeights", He.ga K "BadName", He.ga K "NoName", He.ga K "TooMany", He.ga K "BadError", He.ga K "BadCount", He.ga K "Alike", He.ga K "TooLarge", He.ga K "BadText", He.ga K "NoDivisor", He.ga K "Unlike", He.ga K "NoTerms", He.ga K "Empty", He.ga K "Uneven", He.ga K "EdgeError"],
  fun K => EM.kitNoneB K [He.ga K "BadRatio", He.ga K "BadMark", He.ga K "NoEdge", He.ga K "BadReading", He.ga K "NotRising", He.ga K "NoStretch", He.ga K "BadView", He.ga K "BadTerms", He.ga K "BadWeights", He.ga K "BadName", He.ga K "NoName", He.ga K "TooMany", He.ga K "BadError", He.ga K "BadCount", He.ga K "Alike", He.ga K "TooLarge", He.ga K "BadText", He.ga K "NoDivisor", He.ga K "Unlike", He.ga K "NoTerms", He.ga K "Empty", He.ga K "Uneven", He.ga K "EdgeError"] [.type "KeyError", .type "IndexError", .type "LookupError", .type "ArithmeticError", .type "OverflowError"],
  fun K => EM.kitNoneB K [He.ga K "BadRatio", He.ga K "BadMark", He.ga K "NoEdge", He.ga K "BadReading", He.ga K "NotRising", He.ga K "NoStretch", He.ga K "BadView", He.ga K "BadTerms", He.ga K "BadWeights", He.ga K "BadName", He.ga K "NoName", He.ga K "TooMany", He.ga K "BadError", He.ga K "BadCount", He.ga K "Alike", He.ga K "TooLarge", He.ga K "BadText", He.ga K "NoDivisor", He.ga K "Unlike", He.ga K "NoTerms", He.ga K "Empty", He.ga K "Uneven", He.ga K "EdgeError"] [.type "TypeError", .type "RuntimeError", .type "AttributeError"],
  fun K => EM.kitOneB K [He.ga K "BadRatio", He.ga K "BadMark", He.ga K "NoEdge", He.ga K "BadReading", He.ga K "NotRising", He.ga K "NoStretch", He.ga K "BadView", He.ga K "BadTerms", He.ga K "BadWeights", He.ga K "BadName", He.ga K "NoName", He.ga K "TooMany", He.ga K "BadError", He.ga K "BadCount", He.ga K "Alike", He.ga K "TooLarge", He.ga K "BadText", He.ga K "NoDivisor", He.ga K "Unlike", He.ga K "NoTerms", He.ga K "Empty", He.ga K "Uneven", He.ga K "EdgeError"] (.type "ValueError"),
  fun K => EM.kitOneB K [He.ga K "BadRatio", He.ga K "BadMark", He.ga K "NoEdge", He.ga K "BadReading", He.ga K "NotRising", He.ga K "NoStretch", He.ga K "BadView", He.ga K "BadTerms", He.ga K "BadWeights", He.ga K "BadName", He.ga K "NoName", He.ga K "TooMany", He.ga K "BadError", He.ga K "BadCount", He.ga K "Alike", He.ga K "TooLarge", He.ga K "BadText", He.ga K "NoDivisor", He.ga K "Unlike", He.ga K "NoTerms", He.ga K "Empty", He.ga K "Uneven", He.ga K "EdgeError"] (.ref (He.ga K "EdgeError"))]
def fa : List EM.Fk := fa0 ++ fa1 ++ fa2 ++ fa3 ++ fa4 ++ fa5 ++ fa6 ++ fa7
end K01
namespace K01
open PySem PySem.Spec PyProof.Rows L2
abbrev R : PySem.W.OpenRow := PySem.W.OpenLaw.row PySem.Challenge.rw_edgesmeet_k01_errors_and_their_fields
abbrev hk : PySem.W.Hook := EM.hookR 2000 fa fn
def ob (s : PySem.W.SharedT) : He.AlD := EM.obsRG 2000 fa fn (HandSHeadRun.getT s)
theorem ob_eq (s : PySem.W.SharedT) : ob s = hk.obs s.abs := EM.obsRG_eq (HandSHeadRun.getT_eq s)
def nm0 : List PySem.Str := ["_wall", "__name__", "EdgeError", "BadRatio", "NoDivisor", "BadMark", "NoEdge", "Unlike", "BadReading", "NotRising", "NoStretch", "BadView", "BadTerms", "NoTerms", "BadWeights", "Alike", "BadName", "NoName", "TooMany", "TooLarge", "BadError", "BadCount", "Empty", "Uneven", "BadText", "FIGURES", "is_figures", "MOST_DIGITS", "is_integer", "common_divisor"]
def nm1 : List PySem.Str := ["Ratio", "numbers_of", "_law_pen", "_law_draw", "_law_pick", "_law_thing", "_law_kinds", "_law_is_based", "_law_singles", "_law_doubles"]
def names : List PySem.Str := nm0 ++ nm1
set_option maxHeartbeats 0 in
theorem run (w : World) : HandSHeadRun.RunEq R (PySem.W.view R.prog [43]) hk ob 20000 names w := by
  intro os
  kernel_rfl
end K01
/-! EM1: further rules over the hand layer: calls by positional promises, star calls, own operators, facts of the head by Bools. -/
namespace EM
open PySem PySem.Spec PyProof.Rows L2
/-! ### the Hook: facts as Bools of the written part -/
section
variable {fa : List Fk} {fn : List He5.DefA} {K : PySem.W.Frag}
theorem SaysF.fact (c : SaysF fa fn K) (i : Nat) {f : Fk} (h : fa[i]? = some f := by rfl) : f K = true := by
  have c1 := (He.ba (show ((fa.all fun f => f K) && fn.all fun d => d.ok K) = true from congrArg (fun z : He.AlD => z.1) c)).1
  exact List.all_eq_true.mp c1 f (List.mem_of_getElem? h)
theorem SaysF.def_ (c : SaysF fa fn K) (i : Nat) {d : He5.DefA} (h : fn[i]? = some d := by rfl) : ∃ fd, L2.FunD K d.name d.qual d.params d.body d.scope (d.dvs K) (d.kws K) (d.at_ K) fd := by
  have c2 := (He.ba (show ((fa.all fun f => f K) && fn.all fun d => d.ok K) = true from congrArg (fun z : He.AlD => z.1) c)).2
  have e : fn.map (fun d => He5.fnA K (d.at_ K)) = fn.map He5.DefA.val := congrArg (fun z : He.AlD => z.2) c
  have e2 : (fn.map fun d => He5.fnA K (d.at_ K))[i]? = (fn.map He5.DefA.val)[i]? := by rw [e]
  rw [List.getElem?_map, List.getElem?_map, h] at e2
  exact He5.DefA.funD (Option.some.inj e2) (List.all_eq_true.mp c2 d (List.mem_of_getElem? h))
end
/-! ### calls by a positional promise -/
def tCR (sp : Sp) (E : XK) (t : TA) : TE := fun σ H Q => t σ H fun vs H1 => sp vs H1 Q E
section
variable {X : Cx} {CX : CXT} {k : Nat} {f C : Addr} {sp : Sp} {E : XK} {x m : Str} {e o : Expr} {es : List Expr} {te ta : TE} {t : TA} {p sp_ pos apos : Pos}
/-- f(e, ..) -/
theorem pe_cR (F : FnR X.prog X.w X.K X.mg X.base CX k f sp) (hr : Room k X.A) (hk : PySem.W.keepIn X.K (.ref f) = true) (hm : X.mg x = some (.ref f)) (hx : Passes CX X E) (ha : PA X (e :: es) t) (hg : Gl X x := by rfl) (hd : (x == ("__debug__" : Str)) = false := by decide)
    (he : starEach (e :: es) X.env = (false, eval e X.env) :: starEach es X.env := by rfl) (hpl : (backTo pos (starEach es X.env)).any (·.1) = false := by rfl) :
    PE X (.Call (.Name x p) (e :: es) [] pos) (tCR sp E t) := by
  refine ⟨fun pins s σ H Q I h => ?_⟩
  refine wpAny_Call_Name_kw (ld_glob I hg hm ?_ hd)
  refine PySem.W.callWith_K (h₀ := X.base) I.ok.mod.kin hk (thn (ha.run pos pins s σ H _ I h) fun us s1 ⟨vs, H1, I1, r, q⟩ => ⟨I1.kIn, ?_⟩) he hpl
  exact wpAny_call (run_fnR F hr hx I1 r q)
end
/-! ### from a def of the text to its positional promise -/
section
variable {P : Program} {w : World} {K : PySem.W.Frag} {mg : Str → Option Value} {base : Heap} {x qual : Str} {params : Arguments} {body : List Stmt} {scope : Scope} {dvs : List V} {kws : List (Str × V)} {f : Addr} {fd : FuncData}
/-- what is asked of a def's body -/
def Bod (P : Program) (w : World) (K : PySem.W.Frag) (mg : Str → Option Value) (base : Heap) (N : List Str) (qual : Str) (scope : Scope) (f : Addr) (body : List Stmt) (k : Nat) (sp : Sp) : Prop :=
  ∀ (cdv : Value) (A : Around) (outer : List Env) (s : Shared) (H : Hp) (vs : List V) (Q : VK) (E : XK), Room k (A.deeper (envOfC qual scope s.heap.objs.size f cdv)) → sp vs H Q E →
      ∃ t, PSs (cxOf (L2.CX P w) P w K mg base N qual scope f cdv A outer s H E) body t ∧ t { nx := fun _ H' => Q .non H', rt := Q } (start N vs) H
/-- a def without defaults -/
theorem fnr {N ps : List Str} {k : Nat} {sp : Sp} (F : FunD K x qual params body scope [] kws f fd) (S : FnScope N ps scope)
    (hb : ∀ (kV doc pm : Value) (an : Option Addr) (cdv ct : Value) (us : List Value), us.length = ps.length → bindArgs (PySem.W.fnOf x qual params body scope .none kV doc pm an cdv ct) ⟨us, []⟩ = pure (ps.zip us))
    (len : ∀ vs H Q E, sp vs H Q E → vs.length = ps.length) (hbody : Bod P w K mg base N qual scope f body k sp) : FnR P w K mg base (L2.CX P w) (k + 1) f sp := by
  have G := FunD.ok (P := P) (w := w) (mg := mg) (base := base) (CX := L2.CX P w) F S len hbody
  have B := F.bindsN hb
  have R := FnOk.raw (dvs := []) (ds := []) G B .nil
  refine R.imp fun vs H Q E h => ?_
  rw [List.append_nil]
  exact h
end
end EM
/-! EM2: own operators, enumerate of a tuple, != of lists. -/
namespace PySem.W
open PyProof.Rows
end PySem.W
namespace EM
open PySem PySem.Spec PyProof.Rows L2
/-! ### an instance with a dict, and what stands below it -/
section
variable {X : Cx} {pins : List (Addr × Obj)} {σ : L2.St} {H : Hp} {s : Shared} {a C dx : Addr} {fs : List (Str × V)}
theorem ins_at (I : Inv X pins σ H s) (h : H a = some (.ins C dx fs)) : ∃ ox od, PySem.W.InstAt s.heap a ox C (some od) ∧ ox.data = .plain := by
  obtain ⟨mA, O, _⟩ := ins_get I.hok h
  obtain ⟨od, J, _⟩ := O.look
  exact ⟨_, od, J, rfl⟩
end
end EM
/-! EM3: enumerate of a tuple. -/
namespace PySem
open AutoSeq1 (wpAny_loadPart')
end PySem
namespace EM
open PySem PySem.Spec PyProof.Rows L2
end EM
/-! EM4: calls with keywords, defaults, != of lists of the same objects, xs[::-1] of a tuple. -/
namespace EM
open PySem PySem.Spec PyProof.Rows L2
/-! ### keywords -/
abbrev Sp2 := List V → List V → Hp → VK → XK → Prop
def FnK (P : Program) (w : World) (K : PySem.W.Frag) (mg : Str → Option Value) (base : Heap) (CX : CXT) (k : Nat) (f : Addr) (ks : List Str) (sp : Sp2) : Prop :=
  ∀ (A : Around) (outer : List Env) (s : Shared) (H : Hp) (us ws : List Value) (vs zs : List V) (Q : VK) (E : XK), Room k A → Env0 P w K mg base A outer s H → Vals vs us → Vals zs ws → sp vs zs H Q E →
    codeAny (model P w) A (.call (.ref f) ⟨us, ks.zip ws⟩) (CR CX outer P w H s Q E) s
/-! ### a def with defaults, called by position -/
section
variable {P : Program} {w : World} {K : PySem.W.Frag} {mg : Str → Option Value} {base : Heap} {x qual : Str} {params : Arguments} {body : List Stmt} {scope : Scope} {dvs : List V} {kws : List (Str × V)} {f : Addr} {fd : FuncData}
/-- n values are written, the defaults behind the first j fill up -/
theorem fnr_dfl {N ps : List Str} {k : Nat} {sp : Sp} (n j : Nat) (F : FunD K x qual params body scope dvs kws f fd) (S : FnScope N ps scope) (hd : dvs ≠ []) (hn : n + (dvs.length - j) = ps.length)
    (h : ∀ (T : Addr) (kV doc pm : Value) (an : Option Addr) (cdv ct : Value) (us its : List Value), us.length = n → its.length = dvs.length →
      ∃ k, bindArgs (PySem.W.fnOf x qual params body scope (.ref T) kV doc pm an cdv ct) ⟨us, []⟩ = seqItems? (.ref T) >>= k ∧ k (some its.toArray) = pure (ps.zip (us ++ its.drop j)))
    (len : ∀ vs H Q E, sp vs H Q E → vs.length = ps.length) (hbody : Bod P w K mg base N qual scope f body k sp) : FnR P w K mg base (L2.CX P w) (k + 1) f (fun vs H Q E => sp (vs ++ dvs.drop j) H Q E) := by
  have G := FunD.ok (P := P) (w := w) (mg := mg) (base := base) (CX := L2.CX P w) F S len hbody
  obtain ⟨ds, hv, B⟩ := F.binds1 n j hd hn h
  exact FnOk.raw G B hv
end
end EM
/-! ### != of two lists whose items are equal -/
namespace EM
open PySem PySem.Spec PyProof.Rows L2
end EM
/-! EM5: t[::-1] of a tuple. -/
namespace EM
open PySem PySem.Spec PyProof.Rows L2
end EM
/-! EM6: constants of the module, facts of a class as Bools, heaps. -/
namespace EM
open PySem PySem.Spec PyProof.Rows L2
/-! ### facts of a class -/
/-! ### heaps -/
theorem same_upd {H : Hp} {p : Addr} {o : HO} (h : H p = none) : Same H (upd H p o) := fun b u e => by
  rw [upd_ne (ne_of_none e h)]
  exact e
theorem same_upd' {H H1 : Hp} {p : Addr} {o : HO} (e : Same H H1) (h : H p = none) : Same H (upd H1 p o) := fun b u ha => by
  rw [upd_ne (ne_of_none ha h)]
  exact e b u ha
theorem ifN {c : Bool} {A B : Prop} (h : c = false) (q : B) : if c = true then A else B := by
  rw [h, if_neg Bool.false_ne_true]
  exact q
theorem sz {n : Nat} (h : n ≤ 100000) : n ≤ sizeLine := Nat.le_trans h (by decide)
theorem szl {n : Nat} (h : n < 100000) : n < sizeLine := Nat.lt_of_lt_of_le h (by decide)
/-! ### data of ints, at any depth -/
theorem dp_ints {K : PySem.W.Frag} {H : Hp} : ∀ ns : List Int, DpAll K H (ns.map V.int) (ns.map PyData.int)
  | [] => .nil
  | n :: r => .cons (.int n) (dp_ints r)
theorem lay_ints : ∀ ns : List Int, PyData.canLayAll0 (ns.map PyData.int) = true
  | [] => rfl
  | n :: r => by
    show (PyData.canLay0 (.int n) && PyData.canLayAll0 (r.map PyData.int)) = true
    rw [lay_ints r]
    rfl
theorem dep_ints : ∀ ns : List Int, PyData.depthAll (ns.map PyData.int) = 0
  | [] => rfl
  | n :: r => by
    show max (PyData.depth (.int n)) (PyData.depthAll (r.map PyData.int)) = 0
    rw [dep_ints r]
    rfl
theorem eqv_ints : ∀ ns ms : List Int, PyData.eqvAll (ns.map PyData.int) (ms.map PyData.int) = decide (ns = ms)
  | [], [] => by simp [PyData.eqvAll]
  | [], m :: r => by simp [PyData.eqvAll]
  | n :: r, [] => by simp [PyData.eqvAll]
  | n :: r, m :: q => by
    show (PyData.eqv (.int n) (.int m) && PyData.eqvAll (r.map PyData.int) (q.map PyData.int)) = _
    rw [eqv_ints r q]
    show ((n == m) && decide (r = q)) = _
    by_cases h : n = m
    · subst h
      by_cases h2 : r = q
      · subst h2; simp
      · simp [h2]
    · simp [h]
abbrev dL (ns : List Int) : PyData := .list (ns.map PyData.int)
theorem shL (ns : List Int) : SeqAt.shaped (dL ns) = true := by
  unfold SeqAt.shaped
  rw [show (dL ns).canLay0 = PyData.canLayAll0 (ns.map PyData.int) from rfl, lay_ints, show (dL ns).depth = PyData.depthAll (ns.map PyData.int) + 1 from rfl, dep_ints]
  rfl
theorem eqvL (ns ms : List Int) : PyData.eqv (dL ns) (dL ms) = decide (ns = ms) := eqv_ints ns ms
/-! ### a for over a list or a tuple -/
section
variable {X : Cx} {tg : Expr}
def iSeq (tl : TE) : TI := fun σ H R => tl σ H fun x H1 => ∃ a xs, x = .ref a ∧ (H1 a = some (.lst xs) ∨ H1 a = some (.tup xs)) ∧ ∀ J, Walk J xs.length (fun H' => H' a = H1 a) (YAt xs) → R J H1
theorem pi_seq {l : Expr} {tl : TE} (hl : PE X l tl) : PI X tg l (iSeq tl) := by
  refine ⟨fun pins s σ H R I h => ?_⟩
  refine thn (hl.run pins s σ H _ I h) fun v s1 ⟨x, H1, I1, r1, q1⟩ => ?_
  obtain ⟨a, xs, e, hq, q⟩ := q1
  subst e
  cases r1
  rcases hq with hq | hq
  · have q := q _ ((walk_list (K := X.K) (a := a) (xs := xs)).mono (fun H' e => SqL.of (e.trans hq)) fun _ _ _ _ _ _ y => y)
    obtain ⟨its, rv, p, hz⟩ := I1.list (SqL.of hq)
    refine wpAny_pyIter_list p.isList ?_
    refine ⟨s1.heap.objs.size, [s1.heap.objs.size], _, _, H1, rfl, I1.kept (t' := s1.toks) fun b o e => Heap.get?_push_of_some _ e, turn_list a _, ⟨_, Heap.get?_push_size _ rfl, rfl, rfl⟩, fun b hb => ?_, q⟩
    have e : b = s1.heap.objs.size := by simpa using hb
    subst e
    exact I1.fpOk (Nat.le_refl _) (I1.hok.fresh (Nat.le_refl _))
  · have q := q _ ((walk_tup (K := X.K) (a := a) (xs := xs)).mono (fun H' e => SqT.of (e.trans hq)) fun _ _ _ _ _ _ y => y)
    obtain ⟨its, rv, p, hz⟩ := I1.tuple (SqT.of hq)
    refine wpAny_pyIter_tuple (show s1.heap.IsTuple a its.toArray from p) ?_
    refine ⟨s1.heap.objs.size, [s1.heap.objs.size], _, _, H1, rfl, I1.kept (t' := s1.toks) fun b o e => Heap.get?_push_of_some _ e, turn_tuple a _, ⟨_, Heap.get?_push_size _ rfl, rfl, rfl⟩, fun b hb => ?_, q⟩
    have e : b = s1.heap.objs.size := by simpa using hb
    subst e
    exact I1.fpOk (Nat.le_refl _) (I1.hok.fresh (Nat.le_refl _))
end
end EM
namespace PySem.W
open PyProof.Rows
end PySem.W
namespace EM
open PySem PySem.Spec PyProof.Rows L2
end EM
/-! EM7: defs called where no repr is under way (guards), repr of data. -/
namespace EM
open PySem PySem.Spec PyProof.Rows L2
/-- a promise by positional values, where no container is being shown -/
def FnG (P : Program) (w : World) (K : PySem.W.Frag) (mg : Str → Option Value) (base : Heap) (CX : CXT) (k : Nat) (f : Addr) (sp : Sp) : Prop :=
  ∀ (A : Around) (outer : List Env) (s : Shared) (H : Hp) (us : List Value) (vs : List V) (Q : VK) (E : XK), Room k A → A.guards = some [] → Env0 P w K mg base A outer s H → Vals vs us → sp vs H Q E →
    codeAny (model P w) A (.call (.ref f) ⟨us, []⟩) (CR CX outer P w H s Q E) s
section
variable {P : Program} {w : World} {K : PySem.W.Frag} {mg : Str → Option Value} {base : Heap} {x qual : Str} {params : Arguments} {body : List Stmt} {scope : Scope} {kws : List (Str × V)} {f : Addr} {fd : FuncData}
def BodG (P : Program) (w : World) (K : PySem.W.Frag) (mg : Str → Option Value) (base : Heap) (N : List Str) (qual : Str) (scope : Scope) (f : Addr) (body : List Stmt) (k : Nat) (sp : Sp) : Prop :=
  ∀ (cdv : Value) (A : Around) (outer : List Env) (s : Shared) (H : Hp) (vs : List V) (Q : VK) (E : XK), Room k (A.deeper (envOfC qual scope s.heap.objs.size f cdv)) → (A.deeper (envOfC qual scope s.heap.objs.size f cdv)).guards = some [] → sp vs H Q E →
      ∃ t, PSs (cxOf (L2.CX P w) P w K mg base N qual scope f cdv A outer s H E) body t ∧ t { nx := fun _ H' => Q .non H', rt := Q } (start N vs) H
/-- a def without defaults -/
theorem fng {N ps : List Str} {k : Nat} {sp : Sp} (F : FunD K x qual params body scope [] kws f fd) (S : FnScope N ps scope)
    (hb : ∀ (kV doc pm : Value) (an : Option Addr) (cdv ct : Value) (us : List Value), us.length = ps.length → bindArgs (PySem.W.fnOf x qual params body scope .none kV doc pm an cdv ct) ⟨us, []⟩ = pure (ps.zip us))
    (len : ∀ vs H Q E, sp vs H Q E → vs.length = ps.length) (hbody : BodG P w K mg base N qual scope f body k sp) : FnG P w K mg base (L2.CX P w) (k + 1) f sp := by
  obtain ⟨oc, od, dV, kV, doc, pm, an, cdv, ct, osl, e, l, c, hd, _⟩ := F.ex
  rcases hd with ⟨_, e2⟩ | ⟨e2, _⟩
  · subst e2
    subst e
    intro A outer s H us vs Q E hr hG e0 r h
    have hl := len vs H Q E h
    refine StX.run_bnd (G := fun vs' H' => vs' = vs ∧ H' = H) l c S hr e0 (fun A' Ex Q' hQ => ?_) (fun s2 H2 vs2 hg2 hr2 => ?_)
    · rw [hb kV doc pm an cdv ct us (by rw [← r.length]; exact hl)]
      exact wpAny_pure (hQ s H vs us e0 Un.refl rfl (fun _ _ z => z) r hl ⟨rfl, rfl⟩)
    · obtain ⟨rfl, rfl⟩ := hg2
      exact hbody cdv A outer s2 H2 vs2 Q E hr2 hG h
  · exact absurd rfl e2
end
/-! ### repr of data -/
mutual
theorem dp_nodict {K : PySem.W.Frag} {H : Hp} : ∀ (d : PyData) (v : V), Dp K H v d → d.hasDict = false
  | .none, _, _ => rfl
  | .bool _, _, _ => rfl
  | .int _, _, _ => rfl
  | .str _, _, _ => rfl
  | .list ds, _, h => by
    cases h with
    | lst _ h => exact dp_nodictAll ds _ h
  | .tuple ds, _, h => by
    cases h with
    | tup _ h => exact dp_nodictAll ds _ h
  | .dict _, _, h => by cases h
theorem dp_nodictAll {K : PySem.W.Frag} {H : Hp} : ∀ (ds : List PyData) (vs : List V), DpAll K H vs ds → PyData.hasDictAll ds = false
  | [], _, _ => rfl
  | d :: ds, _, h => by
    cases h with
    | cons h1 h2 =>
      show (d.hasDict || PyData.hasDictAll ds) = false
      rw [dp_nodict d _ h1, dp_nodictAll ds _ h2]
      rfl
end
def rRepr (K : PySem.W.Frag) : List V → Hp → VK → Prop := fun xs H Q => ∃ (x : V) (d : PyData), xs = [x] ∧ Dp K H x d ∧ d.showable = true ∧ d.shown.length ≤ sizeLine ∧ d.depth ≤ 64 ∧ Q (.str d.shown) H
section
variable {X : Cx}
theorem call_reprD (hG : X.A.guards = some []) (hu : X.A.units + 70 < cLine) : CallR X (.builtin "repr") (rRepr X.K) := by
  intro pins s σ H xs us Q I r h
  obtain ⟨x, d, rfl, hd, hs, hz, hdep, q⟩ := h
  cases r with
  | cons rx rr =>
    cases rr
    rename_i u
    obtain ⟨as, rd⟩ := Dp.reads I d x u hd rx
    have nd := dp_nodict d x hd
    cases hd with
    | non =>
      cases rx
      exact PySem.P.repr_of_none ⟨.str _, H, I.tok _, ⟨_, rfl⟩, q⟩
    | bl b =>
      cases rx
      refine PySem.P.repr_of_bool ⟨.str _, H, I.tok _, ⟨_, rfl⟩, ?_⟩
      cases b <;> exact q
    | int i =>
      obtain ⟨t, rfl⟩ := rx
      refine PySem.P.repr_of_int (of_decide_eq_true hs) ⟨.str _, H, I.tok _, ⟨_, rfl⟩, q⟩
    | str z =>
      obtain ⟨t, rfl⟩ := rx
      exact PySem.P.repr_of_str ⟨.str _, H, I.tok _, ⟨_, rfl⟩, q⟩ hz
    | lst hx hds =>
      cases rx
      exact repr_of_reads' rd hs (fun z => by rw [nd] at z; cases z) hG (by omega) (fun _ _ e => e) (fun h' u tk hk => ⟨.str _, H, I.kept hk, ⟨_, rfl⟩, q⟩) hz
    | tup hx hds =>
      cases rx
      exact repr_of_reads' rd hs (fun z => by rw [nd] at z; cases z) hG (by omega) (fun _ _ e => e) (fun h' u tk hk => ⟨.str _, H, I.kept hk, ⟨_, rfl⟩, q⟩) hz
end
end EM
/-! EM8: own exceptions with fields: facts as Bools, raise, fields read in a suite. -/
namespace EM
open PySem PySem.Spec PyProof.Rows L2
theorem oexB_ok {K : PySem.W.Frag} {C : Addr} (q : oexB K C = true) : OexC K C := by
  obtain ⟨q1, q⟩ := He.ba q
  obtain ⟨q2, q⟩ := He.ba q
  obtain ⟨q3, q⟩ := He.ba q
  obtain ⟨q4, q5⟩ := He.ba q
  refine ⟨?_, He.eqO_ok q2, of_decide_eq_true q3, of_decide_eq_true q4, q5⟩
  split at q1
  · rename_i t dd cd sl ho
    obtain ⟨a1, q1⟩ := He.ba q1
    obtain ⟨a2, q1⟩ := He.ba q1
    obtain ⟨a3, q1⟩ := He.ba q1
    split at q1
    · rename_i C' bm k0 k1 k2 k3 n k5 hm hs
      obtain ⟨b1, q1⟩ := He.ba q1
      obtain ⟨b2, b3⟩ := He.ba q1
      have e1 := of_decide_eq_true a1
      have e2 := of_decide_eq_true b1
      have e3 := of_decide_eq_true b2
      subst e1 e2 e3
      obtain ⟨nm, bs, mro, ns, qn, hd, sn, sub, ab, col, del⟩ := cd
      dsimp only at hm a2 a3
      have a3' : del = false := by simpa using a3
      subst hm a2 a3'
      have hsl : sl = #[k0, k1, k2, k3, some (.builtin "ValueError.__new__"), k5] := by
        obtain ⟨l⟩ := sl
        simp only at hs
        rw [hs]
      subst hsl
      exact ⟨nm, qn, ns, bs, bm, sn, sub, ab, col, dd, k0, k1, k2, k3, k5, ho, b3⟩
    · cases q1
  · cases q1
theorem oinB_ok {K : PySem.W.Frag} {C : Addr} (q : oinB K C = true) : PySem.W.findIn K (.ref C) "__init__" = some (some (.ref (He.ma K C "__init__"))) ∧ PySem.W.typeIn K (.ref (He.ma K C "__init__")) = some (.type "function") := by
  obtain ⟨a, b⟩ := He.ba q
  exact ⟨He.eqO_ok a, of_decide_eq_true b⟩
/-! ### __init__ of one field, of two -/
def spX1 (C : Addr) (f : Str) : Sp := fun vs H Q _ => ∃ (a : Addr) (v : V), vs = [.ref a, v] ∧ H a = some (exo a C none) ∧ ∀ dx, H dx = none → dx ≠ a → Q .non (upd (upd H dx (exd dx [(f, v)])) a (exo a C (some dx)))
def spX2 (C : Addr) (f g : Str) : Sp := fun vs H Q _ => ∃ (a : Addr) (v u : V), vs = [.ref a, v, u] ∧ H a = some (exo a C none) ∧ ∀ dx, H dx = none → dx ≠ a → Q .non (upd (upd (upd H dx (exd dx [(f, v)])) a (exo a C (some dx))) dx (exd dx [(g, u), (f, v)]))
end EM
/-! EM9: try with several except clauses, each with or without a name. -/
namespace EM
open PySem PySem.Spec PyProof.Rows L2
abbrev Hd := Value × Option Nat × (Addr → Value → Option Addr → TS)
/-- behind a suite that held its error in slot i -/
def gone (i : Nat) (D : Ends) : Ends := { nx := fun σ' H' => D.nx (σ'.set i none) H', rt := D.rt, bk := fun σ' H' => D.bk (σ'.set i none) H', ct := fun σ' H' => D.ct (σ'.set i none) H' }
end EM
/-! EM10: what many laws share: the pen and its draws, plain rows of ints. -/
namespace EM
open PySem PySem.Spec PyProof.Rows L2
def scan (a : Int) : List Int → List Int
  | [] => [a]
  | w :: r => a :: scan (a + w) r
def good (ws : List Int) : Prop := ws.length % 2 = 1 ∧ 3 ≤ ws.length ∧ ws.length ≤ 127 ∧ ∀ x ∈ ws, 1 ≤ x ∧ x ≤ 1000
def sumsOf (ws : List Int) : List Int := List.zipWith (· + ·) ws (ws.drop 1)
/-- what draws: the cells, the index of the next one (at most n), the rest of a great cell -/
def Pen (H : Hp) (p l : Addr) (n : Nat) : Prop := ∃ (cells : List Int) (at_ rest : Int), H p = some (.lst [.ref l, .int at_, .int rest]) ∧ H l = some (.lst (cells.map V.int)) ∧ l ≠ p ∧ cells.length ≤ 63 ∧ 0 ≤ at_ ∧ at_ ≤ n
def spPen (K : PySem.W.Frag) : Sp := fun vs H Q _ => ∃ (a : Addr) (ns : List Int), vs = [.ref a] ∧ SqL K H a (ns.map V.int) ∧ ns.length ≤ 63 ∧ ∀ p l H', Same H H' → H p = none → Pen H' p l 0 → Q (.ref p) H'
def spDraw : Sp := fun vs H Q _ => ∃ (p l : Addr) (n : Nat) (many : Int), vs = [.ref p, .int many] ∧ Pen H p l n ∧ n ≤ 1000000 ∧ 1 ≤ many ∧ many < 10000000000000000000000000000000000000000000000000000000000000000000000000000000000000000000000000000 ∧ ∀ d H', 0 ≤ d → d < many → (∀ b o, H b = some o → b ≠ p → H' b = some o) → Pen H' p l (n + 1) → Q (.int d) H'
theorem draw_bd {m a A B C : Int} (m0 : 0 ≤ m) (m1 : m < 2147483648) (a0 : 0 ≤ a) (a1 : a ≤ 1000000) (hA : 0 ≤ A ∧ A ≤ 1000000) (hB : 0 ≤ B ∧ B ≤ 1000000) (hC : 0 ≤ C ∧ C ≤ 1000000) :
    (m * (2 * a + A) + B * a * a + C).natAbs < 2 ^ 64 := by
  have h1 : m * (2 * a + A) ≤ 2147483648 * 3000000 := Int.mul_le_mul (by omega) (by omega) (by omega) (by omega)
  have h2 : 0 ≤ m * (2 * a + A) := Int.mul_nonneg m0 (by omega)
  have h3 : B * a ≤ 1000000 * 1000000 := Int.mul_le_mul hB.2 a1 a0 (by omega)
  have h4 : 0 ≤ B * a := Int.mul_nonneg hB.1 a0
  have h5 : B * a * a ≤ 1000000 * 1000000 * 1000000 := Int.mul_le_mul h3 a1 a0 (by omega)
  have h6 : 0 ≤ B * a * a := Int.mul_nonneg h4 a0
  omega
theorem mul_bd {B a : Int} (a0 : 0 ≤ a) (a1 : a ≤ 1000000) (hB : 0 ≤ B ∧ B ≤ 1000000) : -(2 ^ 64) < B * a ∧ B * a < 2 ^ 64 := by
  have h3 : B * a ≤ 1000000 * 1000000 := Int.mul_le_mul hB.2 a1 a0 (by omega)
  have h4 : 0 ≤ B * a := Int.mul_nonneg hB.1 a0
  constructor <;> omega
theorem cut_ints (ns : List Int) (lo hi : Option Int) : ∃ ms : List Int, cutV (ns.map V.int) lo hi = ms.map V.int ∧ ms.length ≤ ns.length := by
  refine ⟨(ns.drop (HT.sIx (ns.map V.int).length 0 lo)).take (HT.sIx (ns.map V.int).length (ns.map V.int).length hi - HT.sIx (ns.map V.int).length 0 lo), ?_, ?_⟩
  · unfold cutV
    rw [List.map_take, List.map_drop]
  · rw [List.length_take, List.length_drop]
    omega
def Keep (p : Addr) (H H' : Hp) : Prop := ∀ b o, H b = some o → b ≠ p → H' b = some o
theorem Keep.refl {p : Addr} {H : Hp} : Keep p H H := fun _ _ e _ => e
theorem Keep.trans {p : Addr} {H H1 H2 : Hp} (a : Keep p H H1) (b : Keep p H1 H2) : Keep p H H2 := fun c o e n => b c o (a c o e n) n
theorem Keep.of {p : Addr} {H H1 : Hp} (a : Same H H1) : Keep p H H1 := fun c o e _ => a c o e
theorem Keep.mut {p : Addr} {H H1 : Hp} {D : Addr} {o : HO} (a : Keep p H H1) (h : H D = none) : Keep p H (upd H1 D o) := fun c u e n => by
  rw [upd_ne (ne_of_none e h)]
  exact a c u e n
theorem Pen.mono {H : Hp} {p l : Addr} {n m : Nat} (h : Pen H p l n) (e : n ≤ m) : Pen H p l m := by
  obtain ⟨c, a, r, h1, h2, h3, h4, h5, h6⟩ := h
  exact ⟨c, a, r, h1, h2, h3, h4, h5, by omega⟩
theorem Pen.same {H H' : Hp} {p l : Addr} {n : Nat} (h : Pen H p l n) (e : Same H H') : Pen H' p l n := by
  obtain ⟨c, a, r, h1, h2, h3, h4, h5, h6⟩ := h
  exact ⟨c, a, r, e _ _ h1, e _ _ h2, h3, h4, h5, h6⟩
theorem Pen.mut {H : Hp} {p l D : Addr} {o : HO} {n : Nat} (h : Pen H p l n) (n1 : D ≠ p) (n2 : D ≠ l) : Pen (upd H D o) p l n := by
  obtain ⟨c, a, r, h1, h2, h3, h4, h5, h6⟩ := h
  exact ⟨c, a, r, by rw [upd_ne n1.symm]; exact h1, by rw [upd_ne n2.symm]; exact h2, h3, h4, h5, h6⟩
theorem Pen.ne {H : Hp} {p l D : Addr} {n : Nat} (h : Pen H p l n) (hD : H D = none) : D ≠ p ∧ D ≠ l := by
  obtain ⟨c, a, r, h1, h2, _⟩ := h
  exact ⟨(ne_of_none h1 hD).symm, (ne_of_none h2 hD).symm⟩
theorem pick {xs : List V} {d : Int} (h0 : 0 ≤ d) (h1 : d < xs.length) : ∃ v, atI xs d = some v ∧ v ∈ xs := by
  have h : d.toNat < xs.length := by omega
  exact ⟨xs[d.toNat], at_of (j := d.toNat) (by omega) (List.getElem?_eq_getElem h), List.getElem_mem h⟩
def spPick : Sp := fun vs H Q _ => ∃ (p l : Addr) (n : Nat) (a : Addr) (xs : List V), vs = [.ref p, .ref a] ∧ Pen H p l n ∧ n ≤ 1000000 ∧ H a = some (.lst xs) ∧ a ≠ p ∧ 1 ≤ xs.length ∧ xs.length ≤ 1000000 ∧
  ∀ v H', v ∈ xs → Keep p H H' → Pen H' p l (n + 1) → Q v H'
end EM
/-! EM11: plain facts of texts of figures; a callee's exceptions under a try. -/
namespace EM
open PySem PySem.Spec PyProof.Rows L2 PySem.NumText
abbrev sg (a : Str) : List Nat := a.cps.toList
end EM
/-! EM12: a list beside an empty list. -/
namespace EM
open PySem PySem.Spec PyProof.Rows L2
def rEqNil (K : PySem.W.Frag) : R2 := fun x y H Q => ∃ a b xs, x = .ref a ∧ y = .ref b ∧ SqL K H a xs ∧ SqL K H b [] ∧ Q (.bl xs.isEmpty) H
section
variable {X : Cx}
theorem op_eqNil (hu : X.A.units + 64 < cLine) : OpR X (compareOp .Eq) (rEqNil X.K) := by
  intro pins s σ H x y v u Q I rx ry h
  obtain ⟨a, b, xs, rfl, rfl, ha, hb, q⟩ := h
  cases rx
  cases ry
  obtain ⟨its, r, pl, _⟩ := I.list ha
  obtain ⟨its2, r2, pl2, _⟩ := I.list hb
  have e2 : its2 = [] := by cases r2; rfl
  subst e2
  have hl := r.length
  show wpAny (model X.prog X.w) X.A (richCompare .Eq (.ref a) (.ref b)) (EP X pins σ Q) X.xe s
  cases xs with
  | nil =>
    cases r
    exact SeqAt.RcAt.lists (e := fun _ => true) pl.isList pl2.isList rfl (by omega) (fun j h1 _ => absurd h1 (by simp)) _ _ _ _ ⟨.bl true, H, I, rfl, q⟩
  | cons c r0 =>
    refine SeqAt.RcAt.lists_lengths pl.isList pl2.isList ?_ (by omega) _ _ _ _ ⟨.bl false, H, I, rfl, q⟩
    rw [List.size_toArray, ← hl]
    rfl
end
end EM
/-! EM13: marks: what stands at an address, promises of their defs. -/
namespace EM
open PySem PySem.Spec PyProof.Rows L2
def mf (wp ep sp : Addr) (b t u : Int) : List (Str × V) := [("widths", .ref wp), ("edge_row", .ref ep), ("sums", .ref sp), ("bars", .int b), ("total", .int t), ("span", .int u)]
/-- a mark of these widths stands at p -/
def MarkAt (K : PySem.W.Frag) (H : Hp) (p : Addr) (ws : List Int) : Prop := good ws ∧ ∃ dx wp ep sp, H p = some (.ins (He.ga K "Mark") dx (mf wp ep sp ((ws.length : Int) / 2 + 1) ws.sum (ws.take (ws.length - 1)).sum)) ∧ H wp = some (.tup (ws.map V.int)) ∧ H ep = some (.tup ((scan 0 ws).map V.int)) ∧ H sp = some (.tup ((sumsOf ws).map V.int))
theorem MarkAt.same {K : PySem.W.Frag} {H H' : Hp} {p : Addr} {ws : List Int} (h : MarkAt K H p ws) (e : Same H H') : MarkAt K H' p ws := by
  obtain ⟨g, dx, wp, ep, sp, h1, h2, h3, h4⟩ := h
  exact ⟨g, dx, wp, ep, sp, e _ _ h1, e _ _ h2, e _ _ h3, e _ _ h4⟩
def spIsInt (K : PySem.W.Frag) : Sp := fun vs H Q _ => ∃ x t b1 b2, vs = [x] ∧ TyX K H x t ∧ PySem.W.kitOne K t (.type "int") = some b1 ∧ PySem.W.kitOne K t (.type "bool") = some b2 ∧ Q (.bl (b1 && !b2)) H
end EM
/-! EM14: str of an instance with its own __str__. -/
namespace EM
open PySem PySem.Spec PyProof.Rows L2
end EM
/-! EM15: how long a shown list or tuple is. -/
namespace EM
open PySem PySem.Spec PyProof.Rows L2
theorem app_len (a b : Str) : (a ++ b).length = a.length + b.length := by
  obtain ⟨x⟩ := a
  obtain ⟨y⟩ := b
  exact Array.size_append
theorem from_le : ∀ (ts : List Str) (k : Nat) (acc : Str), (textFrom k acc ts).length ≤ acc.length + (ts.map (·.length)).sum + 2 * ts.length
  | [], k, acc => by show acc.length ≤ _; omega
  | t :: r, k, acc => by
    have ih := from_le r (k + 1) (acc ++ (if k > 0 then ", " else "" : String) ++ t)
    have hc : (Str.ofString (if k > 0 then ", " else "" : String)).length ≤ 2 := by split <;> decide +kernel
    rw [app_len, app_len] at ih
    show (textFrom (k + 1) (acc ++ (if k > 0 then ", " else "" : String) ++ t) r).length ≤ _
    simp only [List.map_cons, List.sum_cons, List.length_cons]
    omega
theorem shown_sum : ∀ xs : List PyData, (((PyData.shownAll xs).map (·.length)).sum) = (xs.map fun d => d.shown.length).sum
  | [] => rfl
  | x :: r => by
    show x.shown.length + ((PyData.shownAll r).map (·.length)).sum = x.shown.length + (r.map fun d => d.shown.length).sum
    rw [shown_sum r]
theorem shown_n : ∀ xs : List PyData, (PyData.shownAll xs).length = xs.length
  | [] => rfl
  | x :: r => by
    show (PyData.shownAll r).length + 1 = r.length + 1
    rw [shown_n r]
theorem shown_list (xs : List PyData) : (PyData.list xs).shown.length ≤ (xs.map fun d => d.shown.length).sum + 2 * xs.length + 2 := by
  have h := from_le (PyData.shownAll xs) 0 "["
  have h1 : (Str.ofString "[").length = 1 := by decide +kernel
  have h2 : (Str.ofString "]").length = 1 := by decide +kernel
  show (textFrom 0 "[" (PyData.shownAll xs) ++ Str.ofString "]").length ≤ _
  rw [app_len]
  rw [shown_sum, shown_n] at h
  omega
theorem shown_tuple (xs : List PyData) : (PyData.tuple xs).shown.length ≤ (xs.map fun d => d.shown.length).sum + 2 * xs.length + 3 := by
  have h := StrLaws.join_length_le ", " (PyData.shownAll xs)
  have h1 : (Str.ofString "(").length = 1 := by decide +kernel
  have h2 : (Str.ofString ", ").length = 2 := by decide +kernel
  have h3 : (Str.ofString (if (PyData.shownAll xs).length == 1 then ",)" else ")" : String)).length ≤ 2 := by split <;> decide +kernel
  show (Str.ofString "(" ++ Str.join ", " (PyData.shownAll xs) ++ Str.ofString (if (PyData.shownAll xs).length == 1 then ",)" else ")" : String)).length ≤ _
  rw [app_len, app_len]
  rw [shown_sum, shown_n, h2] at h
  omega
end EM
/-! EM16: replace of written texts behind a test with a written int (a token is out then). -/
namespace EM
open PySem PySem.Spec PyProof.Rows L2
end EM
/-! EM17: ratios: the common divisor, ratios made. -/
namespace EM
open PySem PySem.Spec PyProof.Rows L2
section
variable {X : Cx} {CX : CXT} {k : Nat} {f C : Addr} {sp : Sp} {E : XK} {x : Str} {e : Expr} {es : List Expr} {t : TA} {p pos : Pos}
/-- // by a divisor of either sign -/
theorem op_fdivWN : OpR X (binaryOp .FloorDiv) (rI (fun _ j => j ≠ 0 ∧ j.natAbs.log2 < 9000) fun i j => .int (i.fdiv j)) := opI fun i j _ _ _ _ _ hc q =>
  floordiv_int hc.1 q (.inl (PyProof.noPylong_of_log2 hc.2))
/-- C(e, ..) by the promise of its __init__ -/
theorem pe_mkR (M : Mk X.K C f) (F : FnR X.prog X.w X.K X.mg X.base CX k f sp) (hr : Room (k + 1) X.A) (hm : X.mg x = some (.ref C)) (hx : Passes CX X E) (ha : PA X (e :: es) t) (hg : Gl X x := by rfl) (hd : (x == ("__debug__" : Str)) = false := by decide)
    (he : starEach (e :: es) X.env = (false, eval e X.env) :: starEach es X.env := by rfl) (hpl : (backTo pos (starEach es X.env)).any (·.1) = false := by rfl) :
    PE X (.Call (.Name x p) (e :: es) [] pos) (StX.tMakeR C sp E t) := by
  refine ⟨fun pins s σ H Q I h => ?_⟩
  refine wpAny_Call_Name_kw (ld_glob I hg hm ?_ hd)
  refine PySem.W.callWith_K (h₀ := X.base) I.ok.mod.kin M.kp (thn (ha.run pos pins s σ H _ I h) fun us s1 ⟨vs, H1, I1, r, q⟩ => ⟨I1.kIn, ?_⟩) he hpl
  exact StX.run_makeR M F hr hx I1 r q
end
theorem fmod_less (a b : Int) (h : b ≠ 0) : (a.fmod b).natAbs < b.natAbs := by
  rcases Int.lt_or_gt_of_ne h with h | h
  · have e : a.fmod b = -((-a).fmod (-b)) := by
      have := Int.neg_fmod_neg (a := a) (b := b)
      omega
    have h1 := Int.fmod_lt_of_pos (-a) (b := -b) (by omega)
    have h2 := Int.fmod_nonneg_of_pos (-a) (b := -b) (by omega)
    rw [e]
    omega
  · have h1 := Int.fmod_lt_of_pos a (b := b) h
    have h2 := Int.fmod_nonneg_of_pos a (b := b) h
    omega
theorem gcd_fmod (a b : Int) : Int.gcd b (a.fmod b) = Int.gcd a b := by
  rw [Int.fmod_def, Int.gcd_sub_mul_left_right, Int.gcd_comm]
def spGcd : Sp := fun vs H Q _ => ∃ a b : Int, vs = [.int a, .int b] ∧ Q (.int (Int.gcd a b : Int)) H
/-- the sign of the bottom, times the common divisor -/
def shr (t b : Int) : Int := if b < 0 then -(Int.gcd t b : Int) else (Int.gcd t b : Int)
def nTop (t b : Int) : Int := t.fdiv (shr t b)
def nBot (t b : Int) : Int := b.fdiv (shr t b)
theorem shr_ne {t b : Int} (h : b ≠ 0) : shr t b ≠ 0 := by
  have : Int.gcd t b ≠ 0 := fun z => h (Int.gcd_eq_zero_iff.mp z).2
  unfold shr
  split <;> omega
theorem shr_abs (t b : Int) : (shr t b).natAbs = Int.gcd t b := by
  unfold shr
  split <;> omega
theorem shr_le {t b : Int} (h : b ≠ 0) : (shr t b).natAbs ≤ b.natAbs := by
  rw [shr_abs]
  exact Nat.le_of_dvd (by omega) (Int.gcd_dvd_natAbs_right t b)
/-- the ratio of top t and bottom b stands at p -/
def rf (t b : Int) : List (Str × V) := [("top", .int t), ("bottom", .int b)]
def RatAt (K : PySem.W.Frag) (H : Hp) (p : Addr) (t b : Int) : Prop := ∃ dx, H p = some (.ins (He.ga K "Ratio") dx (rf t b))
theorem RatAt.same {K : PySem.W.Frag} {H H' : Hp} {p : Addr} {t b : Int} (h : RatAt K H p t b) (e : Same H H') : RatAt K H' p t b := by
  obtain ⟨dx, h⟩ := h
  exact ⟨dx, e _ _ h⟩
theorem log_le {a b : Nat} (h : a ≤ b) : a.log2 ≤ b.log2 := by
  by_cases h0 : a = 0
  · subst h0
    simp
  · exact (Nat.le_log2 (by omega)).mpr (Nat.le_trans (Nat.log2_self_le h0) h)
def spRat (K : PySem.W.Frag) : Sp := fun vs H Q _ => ∃ (x dx : Addr) (t b : Int), vs = [.ref x, .int t, .int b] ∧ H x = some (.ins (He.ga K "Ratio") dx []) ∧ b ≠ 0 ∧ b.natAbs.log2 < 9000 ∧
  ∀ H', (∀ c o, H c = some o → c ≠ x → H' c = some o) → RatAt K H' x (nTop t b) (nBot t b) → Q .non H'
end EM
/-! EM18: the end of a law whose promise wants that no guard is held (repr of data). -/
namespace EM
open PySem PySem.Spec PyProof.Rows L2
section
variable {P : Program} {w : World} {K : PySem.W.Frag} {mg mb : Str → Option Value} {CX : CXT} {k : Nat} {fa a : Addr} {sp : Sp} {s1 : Shared} {us : List Value} {ns : List Int}
/-- what the script's heap is, seen from outside -/
def hp1 (a : Addr) (us : List Value) (ns : List Int) : Hp := fun b => if b = a then some (.frz { cls := .type "list", data := .seq us.toArray } (.lst (ns.map V.int))) else none
theorem callG (kx : K.In s1.heap) (gx : s1.heap.Ns mainGlobals mg) (bx : s1.heap.Ns builtinsNs mb) (b2 : ∀ x : Str, x ≠ "__name__" → mb x = bootBuiltins x) (nl : s1.heap.NoLimit) (ng : s1.gens = #[])
    (ha : s1.heap.get? a = some { cls := .type "list", data := .seq us.toArray }) (rm : Room k callerA)
    (F : ∀ base : Heap, K.In base → base.Ns mainGlobals mg → FnG P w K mg base CX k fa sp)
    (nx : ∀ H e s', CX [] H s1 (fun _ _ _ => False) e s' → False)
    (H : Hp) (hO : L2.Only H) (hS : sp [.ref a] H (fun v _ => v = .bl true) fun _ _ _ => False) (hok : HOk P w H s1.heap) (hA : ∀ b, H b ≠ none → b = a) (hK : H a ≠ none → K.lookup a = none) :
    codeAny (model P w) callerA (.call (.ref fa) ⟨[.ref a], []⟩) (fun r s' => r = .ok (.ret (.bool true)) ∧ OldK s1.heap s'.heap ∧ s'.os = s1.os ∧ AllBare s'.gens) s1 := by
  have out : ∀ {b : Addr} {o : Obj} {es : Array DictEntry} {n : Nat}, s1.heap.get? b = some o → o.data = .dict es n → H b = none := by
    intro b o es n e d
    apply Classical.byContradiction
    intro z
    have q := hA b z
    subst q
    rw [ha] at e
    cases e
    have d2 : Data.seq us.toArray _ = Data.dict es n := d
    cases d2
  have nsB : ∀ {b : Addr} {m : Str → Option Value}, s1.heap.Ns b m → (hidT s1.heap H).Ns b m := by
    intro b m ⟨o, es, n, e, d, r⟩
    exact ⟨o, es, n, hidT_get e (out e d), d, r⟩
  have inB : K.In (hidT s1.heap H) := by
    intro b o e
    refine hidT_get (kx b o e) (Classical.byContradiction fun z => ?_)
    have q := hA b z
    subst q
    rw [hK z] at e
    cases e
  have md : Mod K mg (hidT s1.heap H) := ⟨inB, nsB gx, ⟨mb, nsB bx, b2⟩, let ⟨mc, y1, y2⟩ := nl; ⟨mc, nsB y1, y2⟩⟩
  have ev : Env0 P w K mg (hidT s1.heap H) callerA [] s1 H :=
    ⟨rfl, md, fun b o e => of_hidT e, Nat.le_of_eq (hidT_size _ _), trivial, fun b hb => absurd (show b ∈ ([] : List Addr) from hb) (by simp), hok, .of_eq ng⟩
  refine codeAny_mono (F _ inB (nsB gx) callerA [] s1 H [.ref a] [.ref a] _ _ rm rfl ev (.cons rfl .nil) hS) fun r s2 h => ?_
  match r, h with
  | .error e, h => exact (nx H e s2 h).elim
  | .ok .next, h => exact False.elim h
  | .ok .brk, h => exact False.elim h
  | .ok .cont, h => exact False.elim h
  | .ok (.ret u), h =>
    obtain ⟨v, H2, os, bare, un, ok2, rv, q⟩ := h
    have q2 : v = .bl true := q
    subst q2
    obtain rfl : u = Value.bool true := rv
    refine ⟨rfl, OldK.of_keep fun b o e => ?_, os, bare⟩
    rcases hO b with z | ⟨ob, xs, z⟩
    · exact un.keep b o e z (fun y => absurd (show b ∈ ([] : List Addr) from y) (by simp)) (by simp)
    · have e1 := (hok b _ z).1
      have e2 := (ok2 b _ (un.frzs b ob _ z)).1
      rw [e] at e1
      cases e1
      exact e2
theorem lawG (kx : K.In s1.heap) (gx : s1.heap.Ns mainGlobals mg) (bx : s1.heap.Ns builtinsNs mb) (b2 : ∀ x : Str, x ≠ "__name__" → mb x = bootBuiltins x) (nl : s1.heap.NoLimit) (ng : s1.gens = #[])
    (ha : s1.heap.get? a = some { cls := .type "list", data := .seq us.toArray }) (hi : IntsAre us ns) (hl : ns.length ≤ sizeLine) (rm : Room k callerA)
    (F : ∀ base : Heap, K.In base → base.Ns mainGlobals mg → FnG P w K mg base CX k fa sp)
    (hS : ∀ H : Hp, L2.Only H → SqL K H a (ns.map V.int) → sp [.ref a] H (fun v _ => v = .bl true) fun _ _ _ => False)
    (nx : ∀ H e s', CX [] H s1 (fun _ _ _ => False) e s' → False) :
    codeAny (model P w) callerA (.call (.ref fa) ⟨[.ref a], []⟩) (fun r s' => r = .ok (.ret (.bool true)) ∧ OldK s1.heap s'.heap ∧ s'.os = s1.os ∧ AllBare s'.gens) s1 := by
  have rv := vals_ints hi
  have go := callG kx gx bx b2 nl ng ha rm F nx
  cases hk : K.lookup a with
  | some o =>
    have e := kx a o hk
    rw [ha] at e
    cases e
    have h1 : L2.Only (fun _ => none) := fun _ => .inl rfl
    refine go (fun _ => none) h1 (hS _ h1 (.inr ⟨_, us.toArray, _, hk, rfl, rfl, rfl, ?_, ?_⟩)) (fun b u z => ?_) (fun b z => absurd rfl z) fun z => absurd rfl z
    · rw [List.size_toArray, hi.length]
      exact hl
    · simpa using rv
    · cases z
  | none =>
    have at_a : hp1 a us ns a = some (.frz { cls := .type "list", data := .seq us.toArray } (.lst (ns.map V.int))) := if_pos rfl
    have off : ∀ {b}, b ≠ a → hp1 a us ns b = none := fun h => if_neg h
    have h1 : L2.Only (hp1 a us ns) := fun b => by
      by_cases h : b = a
      · subst h
        exact .inr ⟨_, _, at_a⟩
      · exact .inl (off h)
    refine go (hp1 a us ns) h1 (hS _ h1 (.inl (.inr ⟨_, at_a⟩))) (fun b u z => ?_) (fun b z => ?_) fun _ => hk
    · by_cases h : b = a
      · subst h
        rw [at_a] at z
        cases z
        exact ⟨ha, by rw [List.length_map]; exact hl, us, _, rv, ha⟩
      · rw [off h] at z
        cases z
    · exact Classical.byContradiction fun h => z (off h)
end
theorem walkG {l : PySem.W.OpenLaw} {n k : Nat} {q : Program} {loose : List Str} {XP : (Str → Option Value) → Heap → Prop} {YP : World → Heap → Prop} {d : DefRec}
    (hn : l.most = some n) (hn2 : n ≤ sizeLine) (hd : d.params.defaults = []) (rm : Room k callerA)
    (F : ∀ (w : World) (mg : Str → Option Value) (fa : Addr) (h : Heap), YP w h → h.Ns mainGlobals mg → mg d.name = some (.ref fa) →
      ∃ (K : PySem.W.Frag) (sp : Sp), K.In h ∧ (∀ (H : Hp) (a : Addr) (ns : List Int), ns.length ≤ n → SqL K H a (ns.map V.int) → sp [.ref a] H (fun v _ => v = .bl true) fun _ _ _ => False) ∧
        ∀ base : Heap, K.In base → base.Ns mainGlobals mg → FnG l.prog w K mg base (L2.CX l.prog w) k fa sp)
    (nx : ∀ (w : World) (H : Hp) (s : Shared) (e : Value) (s' : Shared), L2.CX l.prog w [] H s (fun _ _ _ => False) e s' → False) :
    PySem.W.WalkO q loose XP YP l.row.toRowW d [] (fun f vs => PySem.call f vs) := by
  refine Att.attach_call hn hd fun w s0 s1 mg mb fa o pm cd doc a us ns G Y ho hd hcd hmg hobj hints hlen hg => ?_
  obtain ⟨K, sp, kx, hS, hF⟩ := F w mg fa _ Y G.T.g hmg
  exact lawG kx G.T.g G.T.b G.T.builtins G.T.nolimit hg hobj hints (Nat.le_trans hlen hn2) rm hF (fun H _ hs => hS H a ns hlen hs) (nx w · s1)
end EM
/-! EM19: plain facts of texts with a stroke: split, partition; texts of numbers. -/
namespace EM
open PySem PySem.Spec PyProof.Rows L2 PySem.NumText Builtin Builtin.Str
theorem sg_app (a b : Str) : sg (a ++ b) = sg a ++ sg b := by
  show (a.cps ++ b.cps).toList = _
  rw [Array.toList_append]
/-! ### texts of numbers -/
theorem sg_of (s : String) : sg (Str.ofString s) = s.toList.map Char.toNat := by
  show (cpsOfBytes 0 0 s.toByteArray.data.toList).toArray.toList = _
  rw [cpsOfBytes_string]
end EM
namespace EM
open PySem PySem.Spec PyProof.Rows L2
/-! ### slices at the first sign -/
end EM
namespace EM
open PySem PySem.Spec PyProof.Rows L2 PySem.NumText
end EM
/-! EM20: repr of an instance with its own __repr__. -/
namespace PySem.W
open PySem PySem.Calls PyProof.Rows Builtin
end PySem.W
namespace EM
open PySem PySem.Spec PyProof.Rows L2
end EM
/-! EM21: lowest terms. -/
namespace EM
open PySem PySem.Spec PyProof.Rows L2
theorem shr_pos {t b : Int} (h : 0 < b) : shr t b = (Int.gcd t b : Int) := if_neg (by omega)
theorem shr_neg {t b : Int} (h : b < 0) : shr t b = -(Int.gcd t b : Int) := if_pos h
theorem gcd_pos {t b : Int} (h : b ≠ 0) : 0 < (Int.gcd t b : Int) := by
  have : Int.gcd t b ≠ 0 := fun z => h (Int.gcd_eq_zero_iff.mp z).2
  omega
theorem top_pos {t b : Int} (h : 0 < b) : nTop t b = t / (Int.gcd t b : Int) := by
  unfold nTop
  rw [shr_pos h, Int.fdiv_eq_ediv_of_nonneg t (by have := gcd_pos (t := t) (b := b) (by omega); omega)]
theorem bot_pos {t b : Int} (h : 0 < b) : nBot t b = b / (Int.gcd t b : Int) := by
  unfold nBot
  rw [shr_pos h, Int.fdiv_eq_ediv_of_nonneg b (by have := gcd_pos (t := t) (b := b) (by omega); omega)]
theorem fdiv_exact {x g : Int} (hg : 0 < g) (hd : g ∣ x) : x.fdiv (-g) = 0 - x / g := by
  obtain ⟨m, rfl⟩ := hd
  rw [Int.mul_ediv_cancel_left m (by omega)]
  have e : g * m = (-g) * (-m) := by rw [Int.neg_mul_neg]
  rw [e, Int.mul_fdiv_cancel_left _ (by omega)]
  omega
theorem top_neg {t b : Int} (h : b < 0) : nTop t b = 0 - t / (Int.gcd t b : Int) := by
  unfold nTop
  rw [shr_neg h]
  exact fdiv_exact (gcd_pos (by omega)) (Int.gcd_dvd_left t b)
theorem bot_neg {t b : Int} (h : b < 0) : nBot t b = 0 - b / (Int.gcd t b : Int) := by
  unfold nBot
  rw [shr_neg h]
  exact fdiv_exact (gcd_pos (by omega)) (Int.gcd_dvd_right t b)
theorem div_abs_le (x g : Int) (hg : 0 < g) (hd : g ∣ x) : (x / g).natAbs ≤ x.natAbs := by
  obtain ⟨m, rfl⟩ := hd
  rw [Int.mul_ediv_cancel_left m (by omega), Int.natAbs_mul]
  exact Nat.le_mul_of_pos_left _ (by omega)
theorem n_abs {t b : Int} (h : b ≠ 0) : (nTop t b).natAbs ≤ t.natAbs ∧ (nBot t b).natAbs ≤ b.natAbs := by
  have hg := gcd_pos (t := t) h
  have h1 := div_abs_le t _ hg (Int.gcd_dvd_left t b)
  have h2 := div_abs_le b _ hg (Int.gcd_dvd_right t b)
  rcases Int.lt_or_gt_of_ne h with hn | hp
  · rw [top_neg hn, bot_neg hn]
    constructor <;> omega
  · rw [top_pos hp, bot_pos hp]
    exact ⟨h1, h2⟩
theorem bot_gt {t b : Int} (h : b ≠ 0) : 0 < nBot t b := by
  have hg := gcd_pos (t := t) h
  obtain ⟨m, hm⟩ := Int.gcd_dvd_right t b
  have e : b / (Int.gcd t b : Int) = m := by
    have : b / (Int.gcd t b : Int) = ((Int.gcd t b : Int) * m) / (Int.gcd t b : Int) := by rw [← hm]
    rw [this, Int.mul_ediv_cancel_left m (by omega)]
  rcases Int.lt_or_gt_of_ne h with hn | hp
  · rw [bot_neg hn, e]
    have : m < 0 := Int.neg_of_mul_neg_right (by rw [← hm]; exact hn) (by omega)
    omega
  · rw [bot_pos hp, e]
    exact Int.pos_of_mul_pos_right (by rw [← hm]; exact hp) (by omega)
theorem n_gcd {t b : Int} (h : b ≠ 0) : Int.gcd (nTop t b) (nBot t b) = 1 := by
  have hg := gcd_pos (t := t) h
  have e : Int.gcd (t / (Int.gcd t b : Int)) (b / (Int.gcd t b : Int)) = 1 := Int.gcd_ediv_gcd_ediv_gcd_of_ne_zero_right h
  rcases Int.lt_or_gt_of_ne h with hn | hp
  · rw [top_neg hn, bot_neg hn, Int.zero_sub, Int.zero_sub, Int.neg_gcd, Int.gcd_neg]
    exact e
  · rw [top_pos hp, bot_pos hp]
    exact e
/-- the ints' tuple in lowest terms -/
def spCut : Sp := fun vs H Q _ => ∃ u l : Int, vs = [.int u, .int l] ∧ l ≠ 0 ∧ l.natAbs.log2 < 9000 ∧ ∀ p H', Same H H' → H p = none → H' p = some (.tup [.int (nTop u l), .int (nBot u l)]) → Q (.ref p) H'
end EM
namespace EM
open PySem PySem.Spec PyProof.Rows L2
end EM
/-! EM22: defs that make lambdas: the head with their tables, the end of such a law. -/
namespace EM
open PySem PySem.Spec PyProof.Rows L2
/-! ### the code object and the table of a def -/
/-! ### a def whose code object is told -/
end EM
/-! EM23: x(lambda: body), where no guard is held. -/
namespace EM
open PySem PySem.Spec PyProof.Rows L2
end EM
/-! EM24: the end of a law whose defs make lambdas, where no guard is held. -/
namespace EM
open PySem PySem.Spec PyProof.Rows L2
section
variable {P : Program} {w : World} {K : PySem.W.Frag} {mg mb : Str → Option Value} {CX : CXT} {k : Nat} {fa a : Addr} {sp : Sp} {s1 : Shared} {us : List Value} {ns : List Int} {cs : List (Addr × Addr)}
open Classical in
/-- the tables, the script or nothing -/
noncomputable def hp2 (cs : List (Addr × Addr)) (u : Option HO) (a : Addr) : Hp := fun b => if b ∈ cs.map (·.2) then some (.tbl #[]) else if b = a then u else none
end
end EM
namespace K01
open PySem PySem.Spec PyProof.Rows L2
structure Tx (K : PySem.W.Frag) (mg : Str → Option Value) : Prop where
  says : EM.SaysF fa fn K
  ex : ∃ h : Heap, K.In h ∧ h.Ns mainGlobals mg
end K01
namespace K01
open PySem PySem.Spec PyProof.Rows L2
theorem g_law0 {K : PySem.W.Frag} {mg : Str → Option Value} (T : Tx K mg) : mg "law" = some (.ref (He.ga K "law")) :=
  have c := T.says.fact 34 (f := fun K => (He.Fa.glo "law").ok K) (by rfl)
  let ⟨_, X, G⟩ := T.ex; He.glo_ok X G c
def spLaw (K : PySem.W.Frag) : Sp := fun vs H Q _ => ∃ (a : Addr) (ns : List Int), vs = [.ref a] ∧ SqL K H a (ns.map V.int) ∧ ns.length ≤ 63 ∧ ∀ H', Q (.bl true) H'
open PySem PySem.W PySem.Calls PyProof.Rows
set_option maxHeartbeats 0 in
theorem pre (hyp : ∀ (K : PySem.W.Frag) (mg : PySem.Str → Option Value) (T : Tx K mg) (P : PySem.Program) (w : PySem.World) (base : PySem.Heap), EM.FnG P w K mg base (L2.CX P w) 12 (He.ga K "law") (spLaw K)) : PySem.Challenge.rw_edgesmeet_k01_errors_and_their_fields.Holds := by
  w_on; o_law
  refine HandSHeadRun.head_any (r := OpenLaw.row PySem.Challenge.rw_edgesmeet_k01_errors_and_their_fields) (q := view (OpenLaw.row PySem.Challenge.rw_edgesmeet_k01_errors_and_their_fields).prog [43]) (H := K01.hk) (ob := K01.ob) (M := 20000) (loose := K01.names) (d := HandSHeadRun.topDef (OpenLaw.row PySem.Challenge.rw_edgesmeet_k01_errors_and_their_fields).prog 43) (kwd := []) K01.ob_eq
    (by kernel_rfl) (fun s => by kernel_rfl) K01.run (by kernel_rfl) (by kernel_rfl) (by kernel_rfl) (by rfl) (by first | assumption | decide +kernel) (by decide +kernel) ⟨rfl, rfl, rfl, rfl, rfl, by decide +kernel⟩ ?hw ?hc
  case hw => w_witness2
  case hc =>
    refine EM.walkG (l := PySem.Challenge.rw_edgesmeet_k01_errors_and_their_fields) (n := 63) (k := 12) rfl (by decide) (by kernel_rfl) ⟨rfl, by decide, by decide⟩ ?F ?Z
    case Z =>
      rintro w H s e s' ⟨_, _, _, _, _, _, _, _, _, _, _, _, z⟩
      exact z
    intro w mg fa h Y G hmg0
    obtain ⟨K, KX, c⟩ := Y
    have hmg : mg ("law" : PySem.Str) = some (.ref fa) := by
      have e : (HandSHeadRun.topDef (OpenLaw.row PySem.Challenge.rw_edgesmeet_k01_errors_and_their_fields).prog 43).name = ("law" : PySem.Str) := by kernel_rfl
      rw [← e]
      exact hmg0
    have T : K01.Tx K mg := ⟨c, h, KX, G⟩
    have e := hmg.symm.trans (g_law0 T)
    cases e
    exact ⟨K, K01.spLaw K, KX, fun H a ns hl hS => ⟨a, ns, rfl, hS, hl, fun _ => rfl⟩, fun base _ _ => hyp K mg T _ _ base⟩
end K01
/-! EM25: C.m(..), m a static method; C(k = v, ..). -/
namespace EM
open PySem PySem.Spec PyProof.Rows L2
end EM
/-! EM26: Ratios made of anything. -/
namespace EM
open PySem PySem.Spec PyProof.Rows L2
/-- no integer -/
def oddI (K : PySem.W.Frag) (H : Hp) (v : V) : Prop := ∃ t b1 b2, TyX K H v t ∧ PySem.W.kitOne K t (.type "int") = some b1 ∧ PySem.W.kitOne K t (.type "bool") = some b2 ∧ (b1 && !b2) = false
/-- things that are no integers and no Ratios -/
def OddN (H : Hp) (p : Addr) (v : V) : Prop := v = .non ∨ (∃ b, v = .bl b) ∨ (∃ s, v = .str s) ∨ ∃ a, v = .ref a ∧ a ≠ p ∧ ((∃ xs, H a = some (.tup xs)) ∨ (∃ xs, H a = some (.lst xs)) ∨ ∃ kv, H a = some (.dK kv))
theorem OddN.keep {H H' : Hp} {p : Addr} {v : V} (h : OddN H p v) (k : Keep p H H') : OddN H' p v := by
  rcases h with h | h | h | ⟨a, e, n, h⟩
  · exact .inl h
  · exact .inr (.inl h)
  · exact .inr (.inr (.inl h))
  · refine .inr (.inr (.inr ⟨a, e, n, ?_⟩))
    rcases h with ⟨xs, h⟩ | ⟨xs, h⟩ | ⟨kv, h⟩
    · exact .inl ⟨xs, k _ _ h n⟩
    · exact .inr (.inl ⟨xs, k _ _ h n⟩)
    · exact .inr (.inr ⟨kv, k _ _ h n⟩)
theorem OddN.ext {H H' : Hp} {p : Addr} {v : V} (h : OddN H p v) (k : ∀ b o, H b = some o → b ≠ p → (∀ ps, o ≠ .tbl ps) → H' b = some o) : OddN H' p v := by
  rcases h with h | h | h | ⟨a, e, n, h⟩
  · exact .inl h
  · exact .inr (.inl h)
  · exact .inr (.inr (.inl h))
  · refine .inr (.inr (.inr ⟨a, e, n, ?_⟩))
    rcases h with ⟨xs, h⟩ | ⟨xs, h⟩ | ⟨kv, h⟩
    · exact .inl ⟨xs, k _ _ h n (fun _ z => by cases z)⟩
    · exact .inr (.inl ⟨xs, k _ _ h n (fun _ z => by cases z)⟩)
    · exact .inr (.inr ⟨kv, k _ _ h n (fun _ z => by cases z)⟩)
theorem OddN.ty {K : PySem.W.Frag} {H : Hp} {p : Addr} {v : V} (h : OddN H p v) : ∃ T b1 b2, TyX K H v (.type T) ∧ PySem.W.kitOne K (.type T) (.type "int") = some b1 ∧ PySem.W.kitOne K (.type T) (.type "bool") = some b2 ∧ (b1 && !b2) = false ∧ T ∈ ["bool", "NoneType", "str", "tuple", "list", "dict"] := by
  rcases h with rfl | ⟨b, rfl⟩ | ⟨s, rfl⟩ | ⟨a, rfl, n, h⟩
  · exact ⟨"NoneType", false, false, .base .non, kit_ty (by decide +kernel), kit_ty (by decide +kernel), rfl, by decide⟩
  · exact ⟨"bool", true, true, .base (.bl b), kit_ty (by decide +kernel), kit_ty (by decide +kernel), rfl, by decide⟩
  · exact ⟨"str", false, false, .base (.str s), kit_ty (by decide +kernel), kit_ty (by decide +kernel), rfl, by decide⟩
  · rcases h with ⟨xs, h⟩ | ⟨xs, h⟩ | ⟨kv, h⟩
    · exact ⟨"tuple", false, false, .base (.tup h), kit_ty (by decide +kernel), kit_ty (by decide +kernel), rfl, by decide⟩
    · exact ⟨"list", false, false, .base (.lst h), kit_ty (by decide +kernel), kit_ty (by decide +kernel), rfl, by decide⟩
    · exact ⟨"dict", false, false, .base (.dK h), kit_ty (by decide +kernel), kit_ty (by decide +kernel), rfl, by decide⟩
theorem OddN.int {K : PySem.W.Frag} {H : Hp} {p : Addr} {v : V} (h : OddN H p v) : oddI K H v := by
  obtain ⟨T, b1, b2, h1, h2, h3, h4, _⟩ := h.ty (K := K)
  exact ⟨_, b1, b2, h1, h2, h3, h4⟩
/-- x(..) under a lambda: nothing but tables and the pen is written -/
def KeepN (p : Addr) (H H' : Hp) : Prop := ∀ b o, H b = some o → b ≠ p → (∀ ps, o ≠ .tbl ps) → H' b = some o
theorem KeepN.of {p : Addr} {H H' : Hp} (k : Keep p H H') : KeepN p H H' := fun b o e n _ => k b o e n
theorem KeepN.ext {p : Addr} {H H' : Hp} (k : LamX.ExtN H H') : KeepN p H H' := fun b o e _ t => k b o e t
theorem KeepN.trans {p : Addr} {H H1 H2 : Hp} (a : KeepN p H H1) (b : KeepN p H1 H2) : KeepN p H H2 := fun c o e n t => b c o (a c o e n t) n t
theorem Pen.extN {H H' : Hp} {p l : Addr} {n : Nat} (h : Pen H p l n) (e : LamX.ExtN H H') : Pen H' p l n := by
  obtain ⟨c, a, r, h1, h2, h3, h4, h5, h6⟩ := h
  exact ⟨c, a, r, e _ _ h1 (fun _ z => by cases z), e _ _ h2 (fun _ z => by cases z), h3, h4, h5, h6⟩
end EM
/-! EM27: own binary operators: an instance with one of its class, with an int. -/
namespace EM
open PySem PySem.Spec PyProof.Rows L2
end EM
/-! EM28: i op x, x an instance with a reflected operator of its own. -/
namespace PySem.W
open Lean Elab Tactic Meta PySem PySem.Calls PyProof.Rows
end PySem.W
namespace PySem.W
open PySem PySem.Calls PyProof.Rows Builtin Builtin.Int
end PySem.W
/-! EM29: i op x as a rule of the hand layer. -/
namespace EM
open PySem PySem.Spec PyProof.Rows L2
end EM
/-! EM30: abs(x), not x of an instance with its own __abs__, __bool__. -/
namespace PySem.W
open PySem PySem.Calls PyProof.Rows Builtin
end PySem.W
namespace EM
open PySem PySem.Spec PyProof.Rows L2
end EM
/-! EM31: two readings of one operator; bool(x) of an instance; op= without an own one; C() of an own error; o.m(k = v). -/
namespace PySem.W
open PySem PySem.Calls PyProof.Rows Builtin
end PySem.W
namespace PySem.W
open PySem PySem.Calls PyProof.Rows
end PySem.W
namespace EM
open PySem PySem.Spec PyProof.Rows L2
section
variable {X : Cx} {CX : CXT} {n k : Nat} {g r C : Addr} {sp : Sp} {E : XK} {o e : Expr} {es : List Expr} {ta te : TE} {t tk : TA} {m : Str} {apos pos p : Pos}
theorem call_two {f : Value} {r1 r2 : List V → Hp → VK → Prop} (h1 : CallR X f r1) (h2 : CallR X f r2) : CallR X f (fun xs H Q => r1 xs H Q ∨ r2 xs H Q) := by
  intro pins s σ H xs us Q I r h
  rcases h with h | h
  · exact h1 pins s σ H xs us Q I r h
  · exact h2 pins s σ H xs us Q I r h
/-- C() of an own error without an own __init__ -/
theorem pmk_own0 {bmB : List Value} {B newId initId : String} {x : Str} (F : ExcBaseFacts B newId initId bmB) (q : PySem.W.excIn X.K C bmB newId = true) (gC : X.mg x = some (.ref C)) (kC : PySem.W.keepIn X.K (.ref C) = true) (rz : Raises X (.ref C)) (hg : Gl X x := by rfl)
    (hdb : (x == ("__debug__" : Str)) = false := by decide) : PMk X (.Call (.Name x p) [] [] pos) (fun _ H Q => Q (.ref C) none H) := by
  intro pins s σ H Q I h
  refine wpAny_Call_Name_kw (ld_glob I hg gC ?_ hdb)
  refine PySem.W.callWith_K0 I.kIn kC ?_
  obtain ⟨bm, N, nm, qn, bs, hdct, sn, sub, ab, col, dd, k0, k1, k2, k3, k5, mN, hC, hN, hni, T⟩ := exc_obj I.kIn q
  refine wpAny_call_exc_subT F T hC hN hni (fun h2 e hm => ?_) (by show 0 ≤ sizeLine; exact Nat.zero_le _)
  exact mk_of I hm rz h (I.hok.gone hm.new)
end
end EM
/-! EM32: numbers: Ratios in lowest terms and ints; what their operators promise. -/
namespace EM
open PySem PySem.Spec PyProof.Rows L2
structure Low (t b : Int) : Prop where
  pos : 0 < b
  red : Int.gcd t b = 1
def Bt (n : Nat) (i : Int) : Prop := i.natAbs < 2 ^ n
theorem Bt.mono {n m : Nat} {i : Int} (h : Bt n i) (e : n ≤ m) : Bt m i := Nat.lt_of_lt_of_le h (Nat.pow_le_pow_right (by decide) e)
theorem Bt.log {n : Nat} {i : Int} (h : Bt n i) (h0 : 0 < n) : i.natAbs.log2 < n := PySem.Flt.log2_lt_of h0 h
theorem Bt.le {n : Nat} {i j : Int} (h : Bt n i) (e : j.natAbs ≤ i.natAbs) : Bt n j := Nat.lt_of_le_of_lt e h
theorem Bt.mul {n m : Nat} {i j : Int} (h : Bt n i) (g : Bt m j) : Bt (n + m) (i * j) := wide_lt h g
theorem Bt.neg {n : Nat} {i : Int} (h : Bt n i) : Bt n (-i) := h.le (by omega)
theorem Bt.add {n : Nat} {i j : Int} (h : Bt n i) (g : Bt n j) : Bt (n + 1) (i + j) := by
  have h1 : i.natAbs < 2 ^ n := h
  have h2 : j.natAbs < 2 ^ n := g
  show (i + j).natAbs < 2 ^ (n + 1)
  rw [Nat.pow_succ]
  omega
theorem Bt.lt {n : Nat} {i : Int} (h : i < (2 : Int) ^ n) (g : -((2 : Int) ^ n) < i) : Bt n i := by
  have e : ((2 ^ n : Nat) : Int) = (2 : Int) ^ n := by
    rw [Int.natCast_pow]
    rfl
  show i.natAbs < 2 ^ n
  omega
theorem shr_dvd {t b : Int} : shr t b ∣ t ∧ shr t b ∣ b := by
  unfold shr
  split
  · exact ⟨Int.neg_dvd.mpr (Int.gcd_dvd_left ..), Int.neg_dvd.mpr (Int.gcd_dvd_right ..)⟩
  · exact ⟨Int.gcd_dvd_left .., Int.gcd_dvd_right ..⟩
theorem n_mul {t b : Int} : nTop t b * shr t b = t ∧ nBot t b * shr t b = b := by
  obtain ⟨h1, h2⟩ := shr_dvd (t := t) (b := b)
  exact ⟨Int.fdiv_mul_cancel h1, Int.fdiv_mul_cancel h2⟩
theorem n_low {t b : Int} (h : b ≠ 0) : Low (nTop t b) (nBot t b) := ⟨bot_gt h, n_gcd h⟩
theorem n_cross {t b : Int} : nTop t b * b = t * nBot t b := by
  obtain ⟨h1, h2⟩ := n_mul (t := t) (b := b)
  have e1 : nTop t b * b = nTop t b * (nBot t b * shr t b) := by rw [h2]
  have e2 : t * nBot t b = nTop t b * shr t b * nBot t b := by rw [h1]
  rw [e1, e2, Int.mul_assoc, Int.mul_comm (shr t b)]
theorem low_eq {t b u c : Int} (h : Low t b) (g : Low u c) (e : t * c = u * b) : t = u ∧ b = c := by
  have d1 : b ∣ c := by
    have : b ∣ t * c := ⟨u, by rw [e, Int.mul_comm]⟩
    have : b.natAbs ∣ t.natAbs * c.natAbs := by
      rw [← Int.natAbs_mul]
      exact Int.natAbs_dvd_natAbs.mpr this
    have co : Nat.Coprime b.natAbs t.natAbs := by
      rw [Nat.coprime_iff_gcd_eq_one, Nat.gcd_comm]
      exact h.red
    exact Int.natAbs_dvd_natAbs.mp (Nat.Coprime.dvd_of_dvd_mul_left co this)
  have d2 : c ∣ b := by
    have : c ∣ u * b := ⟨t, by rw [← e, Int.mul_comm]⟩
    have : c.natAbs ∣ u.natAbs * b.natAbs := by
      rw [← Int.natAbs_mul]
      exact Int.natAbs_dvd_natAbs.mpr this
    have co : Nat.Coprime c.natAbs u.natAbs := by
      rw [Nat.coprime_iff_gcd_eq_one, Nat.gcd_comm]
      exact g.red
    exact Int.natAbs_dvd_natAbs.mp (Nat.Coprime.dvd_of_dvd_mul_left co this)
  have p1 := h.pos
  have p2 := g.pos
  have eb : b = c := Int.le_antisymm (Int.le_of_dvd p2 d1) (Int.le_of_dvd p1 d2)
  subst eb
  exact ⟨Int.eq_of_mul_eq_mul_right (by omega) e, rfl⟩
theorem n_eq {t b u c : Int} (hb : b ≠ 0) (hc : c ≠ 0) (e : t * c = u * b) : nTop t b = nTop u c ∧ nBot t b = nBot u c := by
  refine low_eq (n_low hb) (n_low hc) ?_
  have h1 := n_cross (t := t) (b := b)
  have h2 := n_cross (t := u) (b := c)
  refine Int.eq_of_mul_eq_mul_right (a := b * c) (by simp [hb, hc]) ?_
  calc nTop t b * nBot u c * (b * c) = (nTop t b * b) * (nBot u c * c) := by ac_rfl
    _ = t * nBot t b * (nBot u c * c) := by rw [h1]
    _ = (t * c) * (nBot t b * nBot u c) := by ac_rfl
    _ = (u * b) * (nBot t b * nBot u c) := by rw [e]
    _ = (u * nBot u c) * nBot t b * b := by ac_rfl
    _ = (nTop u c * c) * nBot t b * b := by rw [h2]
    _ = nTop u c * nBot t b * (b * c) := by ac_rfl
theorem low_neg {t b : Int} (h : Low t b) : Low (-t) b := ⟨h.pos, by
  show Nat.gcd (-t).natAbs b.natAbs = 1
  rw [Int.natAbs_neg]
  exact h.red⟩
theorem low_one (i : Int) : Low i 1 := ⟨by decide, Int.gcd_one_right i⟩
/-! ### numbers -/
def Num (K : PySem.W.Frag) (H : Hp) (v : V) (t b : Int) : Prop := Low t b ∧ ((∃ a, v = .ref a ∧ RatAt K H a t b) ∨ (v = .int t ∧ b = 1))
theorem Num.same {K : PySem.W.Frag} {H H' : Hp} {v : V} {t b : Int} (h : Num K H v t b) (e : Same H H') : Num K H' v t b := by
  obtain ⟨l, h⟩ := h
  refine ⟨l, ?_⟩
  rcases h with ⟨a, rfl, r⟩ | h
  · exact .inl ⟨a, rfl, r.same e⟩
  · exact .inr h
theorem Num.rat {K : PySem.W.Frag} {H : Hp} {a : Addr} {t b : Int} (h : RatAt K H a t b) (l : Low t b) : Num K H (.ref a) t b := ⟨l, .inl ⟨a, rfl, h⟩⟩
theorem Num.int {K : PySem.W.Frag} {H : Hp} (i : Int) : Num K H (.int i) i 1 := ⟨low_one i, .inr ⟨rfl, rfl⟩⟩
/-- a new Ratio: x by y in lowest terms -/
def RatRes (K : PySem.W.Frag) (H : Hp) (Q : VK) (x y : Int) : Prop := ∀ p H', Same H H' → H p = none → RatAt K H' p (nTop x y) (nBot x y) → Q (.ref p) H'
/-- two numbers, the first one a Ratio; all of at most n bits -/
structure Two (K : PySem.W.Frag) (H : Hp) (n : Nat) (x : Addr) (v : V) (t b u c : Int) : Prop where
  rat : RatAt K H x t b
  low : Low t b
  num : Num K H v u c
  bt : Bt n t
  bb : Bt n b
  bu : Bt n u
  bc : Bt n c
theorem Two.same {K : PySem.W.Frag} {H H' : Hp} {n : Nat} {x : Addr} {v : V} {t b u c : Int} (h : Two K H n x v t b u c) (e : Same H H') : Two K H' n x v t b u c := ⟨h.rat.same e, h.low, h.num.same e, h.bt, h.bb, h.bu, h.bc⟩
end EM
namespace EM
open PySem PySem.Spec PyProof.Rows L2
theorem mk_Rat {K : PySem.W.Frag} {H : Hp} {Q : VK} {E : XK} {x y : Int} (hy : y ≠ 0) (hl : y.natAbs.log2 < 9000) (k : RatRes K H Q x y) (p dx : Addr) (hp : H p = none) (hdx : H dx = none) (ndx : dx ≠ p) :
    spRat K [.ref p, .int x, .int y] (upd (upd H dx (.own p)) p (.ins (He.ga K "Ratio") dx [])) (fun v H2 => v = .non ∧ Q (.ref p) H2) E :=
  ⟨p, dx, x, y, rfl, upd_same, hy, hl, fun H' k' rat => ⟨rfl, k p H' (fun b o e => k' b o (by rw [upd_ne (ne_of_none e hp), upd_ne (ne_of_none e hdx)]; exact e) (ne_of_none e hp)) hp rat⟩⟩
end EM
/-! EM33: the state of a law's own code: what is kept (Ext), what stands (At), the pen and the tables (Bs); displays told by New. -/
namespace EM
open PySem PySem.Spec PyProof.Rows L2
theorem pr {P : Prop} (h : P) : P := h
/-- a promise, not to be opened by itself -/
structure Sw (sp : Sp) (vs : List V) (H : Hp) (Q : VK) (E : XK) : Prop where
  h : sp vs H Q E
structure Sw2 (sp : Sp2) (vs zs : List V) (H : Hp) (Q : VK) (E : XK) : Prop where
  h : sp vs zs H Q E
section
variable {P : Program} {w : World} {K : PySem.W.Frag} {mg : Str → Option Value} {base : Heap} {CX : CXT} {k : Nat} {f : Addr} {sp : Sp} {sp2 : Sp2} {ks : List Str}
theorem _root_.L2.FnR.sw (F : FnR P w K mg base CX k f sp) : FnR P w K mg base CX k f (Sw sp) := F.imp fun _ _ _ _ h => h.h
theorem FnG.sw (F : FnG P w K mg base CX k f sp) : FnG P w K mg base CX k f (Sw sp) := fun A outer s H us vs Q E hr hG e0 r h => F A outer s H us vs Q E hr hG e0 r h.h
theorem FnK.sw (F : FnK P w K mg base CX k f ks sp2) : FnK P w K mg base CX k f ks (Sw2 sp2) := fun A outer s H us ws vs zs Q E hr e0 r rz h => F A outer s H us ws vs zs Q E hr e0 r rz h.h
end
/-- all but the pen and the tables stays -/
structure Ext (p : Addr) (H H' : Hp) : Prop where
  k : KeepN p H H'
structure At (p : Addr) (H : Hp) (a : Addr) (o : HO) : Prop where
  at_ : H a = some o
  ne : a ≠ p
  nt : ∀ ps, o ≠ .tbl ps
structure Bs (T : List (Addr × Str)) (p l : Addr) (n : Nat) (H : Hp) : Prop where
  pen : Pen H p l n
  tab : LamX.Tabs T H
structure New (H : Hp) (q : Addr) (o : HO) (H' : Hp) : Prop where
  free : H q = none
  same : Same H H'
  at_ : H' q = some o
section
variable {T : List (Addr × Str)} {p l q a : Addr} {n m : Nat} {H H1 H2 H' : Hp} {o : HO} {K : PySem.W.Frag}
theorem Ext.refl : Ext p H H := ⟨fun _ _ e _ _ => e⟩
theorem Ext.trans (x : Ext p H H1) (y : Ext p H1 H2) : Ext p H H2 := ⟨x.k.trans y.k⟩
theorem Ext.same (s : Same H H') : Ext p H H' := ⟨KeepN.of (Keep.of s)⟩
theorem Ext.keep (s : Keep p H H') : Ext p H H' := ⟨KeepN.of s⟩
theorem Ext.extN (s : LamX.ExtN H H') : Ext p H H' := ⟨KeepN.ext s⟩
theorem At.ext (x : Ext p H H') (h : At p H a o) : At p H' a o := ⟨x.k _ _ h.at_ h.ne h.nt, h.ne, h.nt⟩
theorem At.get (h : At p H a o) : H a = some o := h.at_
theorem At.sqL {xs : List V} (h : At p H a (.lst xs)) : SqL K H a xs := SqL.of h.at_
theorem At.sqT {xs : List V} (h : At p H a (.tup xs)) : SqT K H a xs := SqT.of h.at_
theorem Bs.same (B : Bs T p l n H) (s : Same H H') : Bs T p l n H' := ⟨B.pen.same s, B.tab.ext s⟩
theorem Bs.mono (B : Bs T p l n H) (e : n ≤ m) : Bs T p l m H := ⟨B.pen.mono e, B.tab⟩
theorem Bs.ext (B : Bs T p l n H) (s : LamX.ExtN H H') (t : LamX.Tabs T H') : Bs T p l n H' := ⟨B.pen.extN s, t⟩
theorem Bs.ne (B : Bs T p l n H) (h : H a = none) : a ≠ p := (B.pen.ne h).1
theorem Bs.nel (B : Bs T p l n H) (h : H a = none) : a ≠ l := (B.pen.ne h).2
theorem tabs_keep (t : LamX.Tabs T H) (P : Pen H p l n) (k : Keep p H H') : LamX.Tabs T H' := by
  obtain ⟨cells, at_, r, hp, _⟩ := P
  intro q hq
  obtain ⟨ps, h1, h2, h3⟩ := t q hq
  refine ⟨ps, k _ _ h1 (ne_of h1 hp (by intro z; cases z)), h2, fun pos cv hc => ?_⟩
  obtain ⟨c, e1, e2⟩ := h3 pos cv hc
  exact ⟨c, e1, k _ _ e2 (ne_of e2 hp (by unfold LamX.CodeO; intro z; cases z))⟩
theorem tabs_mut {xs : List V} (t : LamX.Tabs T H) (hM : H a = some (.lst xs)) : LamX.Tabs T (upd H a o) := by
  intro q hq
  obtain ⟨ps, h1, h2, h3⟩ := t q hq
  refine ⟨ps, by rw [upd_ne (ne_of h1 hM (by intro z; cases z))]; exact h1, h2, fun pos cv hc => ?_⟩
  obtain ⟨c, e1, e2⟩ := h3 pos cv hc
  exact ⟨c, e1, by rw [upd_ne (ne_of e2 hM (by unfold LamX.CodeO; intro z; cases z))]; exact e2⟩
/-- what is no list is not the pen -/
theorem Bs.at_ (B : Bs T p l n H) (h : H a = some o) (hl : ∀ xs, o ≠ .lst xs) (ht : ∀ ps, o ≠ .tbl ps) : At p H a o := by
  obtain ⟨cells, at_, r, hp, _⟩ := B.pen
  exact ⟨h, ne_of h hp (hl _), ht⟩
theorem Bs.new (B : Bs T p l n H) (x : New H q o H') (ht : ∀ ps, o ≠ .tbl ps) : At p H' q o := ⟨x.at_, B.ne x.free, ht⟩
theorem New.bs {G : Addr → Hp → Prop} (B : Bs T p l n H) (ht : ∀ ps, o ≠ .tbl ps) (k : ∀ q H', Ext p H H' → Bs T p l n H' → At p H' q o → H q = none → G q H') : ∀ q H', New H q o H' → G q H' :=
  fun q H' x => k q H' (Ext.same x.same) (B.same x.same) (B.new x ht) x.free
theorem New.upd {G : Addr → Hp → Prop} (k : ∀ q H', New H q o H' → G q H') : ∀ q, H q = none → G q (L2.upd H q o) := fun q h => k q _ ⟨h, same_upd h, upd_same⟩
theorem draw_bs {Q : VK} {E : XK} {many : Int} (B : Bs T p l n H) (h1 : n ≤ 1000000) (h2 : 1 ≤ many) (h3 : many < 10000000000000000000000000000000000000000000000000000000000000000000000000000000000000000000000000000)
    (k : ∀ d H', 0 ≤ d → d < many → Ext p H H' → Bs T p l (n + 1) H' → Q (.int d) H') : Sw spDraw [.ref p, .int many] H Q E :=
  ⟨⟨p, l, n, many, rfl, B.pen, h1, h2, h3, fun d H' d0 d1 k1 P1 => k d H' d0 d1 (Ext.keep k1) ⟨P1, tabs_keep B.tab B.pen k1⟩⟩⟩
theorem pick_bs {Q : VK} {E : XK} {xs : List V} (B : Bs T p l n H) (h1 : n ≤ 1000000) (ha : At p H a (.lst xs)) (h2 : 1 ≤ xs.length) (h3 : xs.length ≤ 1000000)
    (k : ∀ v H', v ∈ xs → Ext p H H' → Bs T p l (n + 1) H' → Q v H') : Sw spPick [.ref p, .ref a] H Q E :=
  ⟨⟨p, l, n, a, xs, rfl, B.pen, h1, ha.at_, ha.ne, h2, h3, fun v H' hv k1 P1 => k v H' hv (Ext.keep k1) ⟨P1, tabs_keep B.tab B.pen k1⟩⟩⟩
/-! ### Ratios and numbers that are not the pen -/
structure RatP (K : PySem.W.Frag) (p : Addr) (H : Hp) (a : Addr) (t b : Int) : Prop where
  rat : RatAt K H a t b
  ne : a ≠ p
theorem RatP.ext {t b : Int} (x : Ext p H H') (h : RatP K p H a t b) : RatP K p H' a t b := by
  obtain ⟨⟨dx, h⟩, n⟩ := h
  exact ⟨⟨dx, x.k _ _ h n (fun _ z => by cases z)⟩, n⟩
theorem RatP.get {t b : Int} (h : RatP K p H a t b) : RatAt K H a t b := h.rat
theorem RatP.of {t b : Int} (B : Bs T p l n H) (h : RatAt K H a t b) : RatP K p H a t b := by
  obtain ⟨dx, h⟩ := h
  obtain ⟨cells, at_, r, hp, _⟩ := B.pen
  exact ⟨⟨dx, h⟩, ne_of h hp (by intro z; cases z)⟩
structure NumP (K : PySem.W.Frag) (p : Addr) (H : Hp) (v : V) (t b : Int) : Prop where
  num : Num K H v t b
  ne : v ≠ .ref p
theorem NumP.get {v : V} {t b : Int} (h : NumP K p H v t b) : Num K H v t b := h.num
theorem NumP.ext {v : V} {t b : Int} (x : Ext p H H') (h : NumP K p H v t b) : NumP K p H' v t b := by
  obtain ⟨⟨lo, h⟩, n⟩ := h
  refine ⟨⟨lo, ?_⟩, n⟩
  rcases h with ⟨a, rfl, r⟩ | h
  · exact .inl ⟨a, rfl, (RatP.ext x ⟨r, fun z => n (by rw [z])⟩).rat⟩
  · exact .inr h
theorem RatP.num {t b : Int} (h : RatP K p H a t b) (lo : Low t b) : NumP K p H (.ref a) t b := ⟨Num.rat h.rat lo, fun z => h.ne (by cases z; rfl)⟩
theorem NumP.int (i : Int) : NumP K p H (.int i) i 1 := ⟨Num.int i, fun z => by cases z⟩
theorem RatRes.bs {Q : VK} {x y : Int} (B : Bs T p l n H) (k : ∀ a H', Ext p H H' → Bs T p l n H' → RatP K p H' a (nTop x y) (nBot x y) → Q (.ref a) H') : RatRes K H Q x y :=
  fun a H' s _ r => k a H' (Ext.same s) (B.same s) (RatP.of (B.same s) r)
theorem RatRes.to {Q : VK} {x y x' y' : Int} (k : RatRes K H Q x y) (e1 : x = x') (e2 : y = y') : RatRes K H Q x' y' := by
  subst e1 e2
  exact k
end
/-! ### readings that may be weakened -/
section
variable {X : Cx} {e : Expr} {es : List Expr} {t t' : TE} {ta : TA} {pos : Pos}
theorem _root_.L2.PE.of (h : PE X e t) (w : ∀ σ H Q, t' σ H Q → t σ H Q) : PE X e t' := ⟨fun pins s σ H Q I q => h.run pins s σ H Q I (w σ H Q q)⟩
def mcA (ta : TA) : TA := fun σ H Q => ∃ R : List V → Hp → Prop, ta σ H R ∧ ∀ xs H1, R xs H1 → Q xs H1
def mcE (t : TE) : TE := fun σ H Q => ∃ R : VK, t σ H R ∧ ∀ v H1, R v H1 → Q v H1
theorem _root_.L2.PA.mc (h : PA X es ta) : PA X es (mcA ta) := by
  refine ⟨fun pos pins s σ H Q I hq => ?_⟩
  obtain ⟨R, hR, k⟩ := hq
  refine thn (h.run pos pins s σ H R I hR) fun us s1 z => ?_
  obtain ⟨vs, H', I', r, q⟩ := z
  exact ⟨vs, H', I', r, k _ _ q⟩
theorem _root_.L2.PE.mc (h : PE X e t) : PE X e (mcE t) := by
  refine ⟨fun pins s σ H Q I hq => ?_⟩
  obtain ⟨R, hR, k⟩ := hq
  refine thn (h.run pins s σ H R I hR) fun u s1 z => ?_
  obtain ⟨v, H', I', r, q⟩ := z
  exact ⟨v, H', I', r, k _ _ q⟩
def tTupN (t : TA) : TE := fun σ H Q => t σ H fun xs H1 => xs.length ≤ 100000 ∧ ∀ p H', New H1 p (.tup xs) H' → Q (.ref p) H'
def tLstN (t : TA) : TE := fun σ H Q => t σ H fun xs H1 => xs.length ≤ 100000 ∧ ∀ p H', New H1 p (.lst xs) H' → Q (.ref p) H'
theorem pe_tupN {x1} (h : PA X es ta) : PE X (.Tuple es x1 pos) (tTupN ta) :=
  (pe_tup h.mc).of fun σ H Q q => ⟨_, q, fun xs H1 ⟨z, k⟩ => ⟨sz z, New.upd k⟩⟩
theorem pe_lstN (h : PA X es ta) : PE X (.List es pos) (tLstN ta) :=
  (pe_lst h.mc).of fun σ H Q q => ⟨_, q, fun xs H1 ⟨z, k⟩ => ⟨sz z, New.upd k⟩⟩
/-- list + list -/
def rCatN : R2 := fun x y H Q => ∃ a b xs ys, x = .ref a ∧ y = .ref b ∧ H a = some (.lst xs) ∧ H b = some (.lst ys) ∧ xs.length + ys.length ≤ 100000 ∧ ∀ q H', New H q (.lst (xs ++ ys)) H' → Q (.ref q) H'
end
end EM
namespace EM
open PySem PySem.Spec PyProof.Rows L2
section
variable {X : Cx}
theorem _root_.L2.opR_of {f : Value → Value → Sem Value} {r r' : R2} (h : OpR X f r) (w : ∀ x y H Q, r' x y H Q → r x y H Q) : OpR X f r' := fun pins s σ H x y v u Q I rx ry q => h pins s σ H x y v u Q I rx ry (w _ _ _ _ q)
theorem _root_.L2.callR_of {f : Value} {r r' : List V → Hp → VK → Prop} (h : CallR X f r) (w : ∀ xs H Q, r' xs H Q → r xs H Q) : CallR X f r' := fun pins s σ H xs us Q I rx q => h pins s σ H xs us Q I rx (w _ _ _ q)
theorem op_catN : OpR X (binaryOp .Add) rCatN := opR_of op_cat fun x y H Q ⟨a, b, xs, ys, e1, e2, h1, h2, z, k⟩ => ⟨a, b, xs, ys, e1, e2, h1, h2, sz z, New.upd k⟩
/-- a list times a small number -/
def rRepN : R2 := fun x y H Q => ∃ l k xs, x = .ref l ∧ y = .int k ∧ H l = some (.lst xs) ∧ 0 ≤ k ∧ k ≤ 1000 ∧ xs.length ≤ 100 ∧ ∀ q H', New H q (.lst (List.replicate k.toNat xs).flatten) H' → Q (.ref q) H'
theorem op_repN : OpR X (binaryOp .Mult) rRepN := opR_of op_rep fun x y H Q ⟨l, k, xs, e1, e2, h, k0, k1, z, q⟩ => ⟨l, k, xs, e1, e2, h, by omega, by omega, by
  refine sz (Nat.le_trans (Nat.mul_le_mul z (show k.toNat ≤ 1000 by omega)) (by decide)), New.upd q⟩
/-! ### numbers under operators -/
structure Rw (K : PySem.W.Frag) (H : Hp) (Q : VK) (x y : Int) : Prop where
  h : RatRes K H Q x y
end
end EM
/-! EM34: what making a Ratio, negating it and showing its parts promise; lowest terms. -/
namespace EM
open PySem PySem.Spec PyProof.Rows L2
def spMkN (K : PySem.W.Frag) : Sp := fun vs H Q _ => ∃ t b, vs = [.int t, .int b] ∧ b ≠ 0 ∧ b.natAbs.log2 < 9000 ∧ RatRes K H Q t b
section
variable {T : List (Addr × Str)} {p l q a : Addr} {n m : Nat} {H H1 H2 H' : Hp} {o : HO} {K : PySem.W.Frag}
/-- a new Ratio of lowest terms (t, b) -/
theorem RatRes.low {Q : VK} {x y t b : Int} (B : Bs T p l n H) (lo : Low t b) (hy : y ≠ 0) (e : x * b = t * y) (k : ∀ a H', Ext p H H' → Bs T p l n H' → RatP K p H' a t b → Q (.ref a) H') : RatRes K H Q x y := by
  obtain ⟨e1, e2⟩ := low_eq (n_low (t := x) hy) lo (by
    have h1 := n_cross (t := x) (b := y)
    refine Int.eq_of_mul_eq_mul_right (a := y) hy ?_
    calc nTop x y * b * y = (nTop x y * y) * b := by ac_rfl
      _ = x * nBot x y * b := by rw [h1]
      _ = (x * b) * nBot x y := by ac_rfl
      _ = (t * y) * nBot x y := by rw [e]
      _ = t * nBot x y * y := by ac_rfl)
  refine RatRes.bs B fun a H' x1 B1 r => ?_
  rw [e1, e2] at r
  exact k a H' x1 B1 r
theorem Rw.bs {Q : VK} {x y : Int} (B : Bs T p l n H) (k : ∀ a H', Ext p H H' → Bs T p l n H' → RatP K p H' a (nTop x y) (nBot x y) → Q (.ref a) H') : Rw K H Q x y := ⟨RatRes.bs B k⟩
theorem Rw.low {Q : VK} {x y t b : Int} (B : Bs T p l n H) (lo : Low t b) (hy : y ≠ 0) (e : x * b = t * y) (k : ∀ a H', Ext p H H' → Bs T p l n H' → RatP K p H' a t b → Q (.ref a) H') : Rw K H Q x y := ⟨RatRes.low B lo hy e k⟩
/-- the same as another fraction in lowest terms -/
theorem Rw.to {Q : VK} {x y x' y' : Int} (B : Bs T p l n H) (h : y ≠ 0) (h' : y' ≠ 0) (e : x * y' = x' * y) (k : ∀ a H', Ext p H H' → Bs T p l n H' → RatP K p H' a (nTop x' y') (nBot x' y') → Q (.ref a) H') : Rw K H Q x y := by
  obtain ⟨e1, e2⟩ := n_eq h h' e
  exact Rw.bs B fun a H' x1 B1 r => k a H' x1 B1 (by rw [← e1, ← e2]; exact r)
end
end EM
/-! EM35: helpers of the stepping words: guards of goals, powers of written ints, bounds by bits. -/
namespace EM
open PySem PySem.Spec PyProof.Rows L2
theorem gI {a b : Int} (h : a ≤ b) : a ≤ b := h
theorem gJ {a b : Int} (h : a < b) : a < b := h
theorem gN {a b : Nat} (h : a ≤ b) : a ≤ b := h
theorem gM {a b : Nat} (h : a < b) : a < b := h
theorem gE {a b : Int} (h : a ≠ b) : a ≠ b := h
theorem gB {n : Nat} {i : Int} (h : Bt n i) : Bt n i := h
theorem gIf {c : Bool} {A B : Prop} (h : if c = true then A else B) : if c = true then A else B := h
theorem gTru {K : PySem.W.Frag} {x : V} {H : Hp} {k : Bool} (h : TruV K x H k) : TruV K x H k := h
theorem ifNotT {A B : Prop} (h : B) : if (!true) = true then A else B := h
theorem ifNotF {A B : Prop} (h : A) : if (!false) = true then A else B := h
theorem gRef {x y : V} (h : (∃ a, x = .ref a) ∨ ∃ a, y = .ref a) : (∃ a, x = V.ref a) ∨ ∃ a, y = V.ref a := h
theorem gEq {α : Type} {a b : α} (h : a = b) : a = b := h
def rPowV (i j v : Int) : R2 := fun x y H Q => x = .int i ∧ y = .int j ∧ Q (.int v) H
theorem op_powV {X : Cx} (i j v : Int) (h : CPow i j) (h2 : i ^ j.toNat = v) : OpR X (binaryOp .Pow) (rPowV i j v) := opR_of op_pow fun x y H Q ⟨e1, e2, q⟩ => ⟨i, j, e1, e2, h, by show Q (.int (i ^ j.toNat)) H; rw [h2]; exact q⟩
theorem _root_.EM.Bt.add' {n m : Nat} {i j : Int} (h : Bt n i) (g : Bt m j) : Bt (max n m + 1) (i + j) := (h.mono (Nat.le_max_left ..)).add (g.mono (Nat.le_max_right ..))
theorem _root_.EM.Bt.sub' {n m : Nat} {i j : Int} (h : Bt n i) (g : Bt m j) : Bt (max n m + 1) (i - j) := by
  rw [Int.sub_eq_add_neg]
  exact h.add' g.neg
theorem _root_.EM.Bt.lit (n : Nat) (i : Int) (h : decide (i.natAbs < 2 ^ n) = true) : Bt n i := (of_decide_eq_true h : i.natAbs < 2 ^ n)
theorem _root_.EM.Bt.top {n : Nat} {t b : Int} (ht : Bt n t) (h : b ≠ 0) : Bt n (nTop t b) := ht.le (n_abs h).1
theorem _root_.EM.Bt.bot {n : Nat} {t b : Int} (hb : Bt n b) (h : b ≠ 0) : Bt n (nBot t b) := hb.le (n_abs h).2
theorem _root_.EM.Bt.rng {i : Int} (n : Nat) (h : -((2 : Int) ^ n) < i) (g : i < (2 : Int) ^ n) : Bt n i := .lt g h
theorem _root_.EM.Bt.rng32 {i : Int} (h : -4294967296 < i) (g : i < 4294967296) : Bt 32 i := .rng 32 (by omega) (by omega)
theorem _root_.EM.Bt.rng70 {i : Int} (h : -1180591620717411303424 < i) (g : i < 1180591620717411303424) : Bt 70 i := .rng 70 (by omega) (by omega)
theorem _root_.EM.Bt.rng200 {i : Int} (h : -1606938044258990275541962092341162602522202993782792835301376 < i) (g : i < 1606938044258990275541962092341162602522202993782792835301376) : Bt 200 i := .rng 200 (by omega) (by omega)
theorem wideM {n m : Nat} {i j : Int} (h : Bt n i) (g : Bt m j) (h0 : 0 < n ∧ 0 < m ∧ n + m ≤ 1000000) : CMulW i j := wide_mul h g h0.1 h0.2.1 h0.2.2
section
variable {T : List (Addr × Str)} {p l q a : Addr} {n m : Nat} {H H1 H2 H' : Hp} {o : HO} {K : PySem.W.Frag}
theorem cut_bs {Q : VK} {E : XK} {u c : Int} (B : Bs T p l n H) (h0 : c ≠ 0) (hb : Bt 2000 c) (k : ∀ q H', Ext p H H' → Bs T p l n H' → At p H' q (.tup [.int (nTop u c), .int (nBot u c)]) → Q (.ref q) H') : Sw spCut [.int u, .int c] H Q E :=
  ⟨⟨u, c, rfl, h0, Nat.lt_trans (hb.log (by decide)) (by decide), fun q H' s nq hq => k q H' (Ext.same s) (B.same s) ((B.same s).at_ hq (fun _ z => by cases z) (fun _ z => by cases z))⟩⟩
end
end EM
namespace EM
theorem Bt.mulM {n m k : Nat} {i j : Int} (h : Bt n i) (g : Bt m j) (e : n + m ≤ k) : Bt k (i * j) := (h.mul g).mono e
theorem Bt.addM {n m k : Nat} {i j : Int} (h : Bt n i) (g : Bt m j) (e : max n m + 1 ≤ k) : Bt k (i + j) := (h.add' g).mono e
theorem Bt.subM {n m k : Nat} {i j : Int} (h : Bt n i) (g : Bt m j) (e : max n m + 1 ≤ k) : Bt k (i - j) := (h.sub' g).mono e
theorem Bt.negM {n k : Nat} {i : Int} (h : Bt n i) (e : n ≤ k) : Bt k (-i) := h.neg.mono e
end EM
namespace EM
open PySem L2
theorem Ext.back {p : Addr} {H H1 H2 : Hp} (y : Ext p H1 H2) (x : Ext p H H1) : Ext p H H2 := x.trans y
end EM
namespace EM
open PySem PySem.Spec PyProof.Rows L2
end EM
/-! EM36: data that may be shown and compared (Fd), told in one word; repr and == as rules for the stepping words. -/
namespace EM
open PySem PySem.Spec PyProof.Rows L2
/-! ### signs within the line -/
def okS (x : Str) : Prop := ∀ c ∈ sg x, c < 1114112
theorem okS_of (s : String) : okS (Str.ofString s) := by
  intro c hc
  rw [sg_of] at hc
  obtain ⟨d, _, rfl⟩ := List.mem_map.mp hc
  have := d.valid
  show d.val.toNat < _
  rcases this with h | h
  · have h' : d.val.toNat < 0xd800 := h
    omega
  · exact h.2
theorem okS.app {a b : Str} (h1 : okS a) (h2 : okS b) : okS (a ++ b) := by
  intro c hc
  rw [sg_app] at hc
  rcases List.mem_append.mp hc with h | h
  · exact h1 c h
  · exact h2 c h
theorem okS.lay {x : Str} (h : okS x) : PyData.canLay0 (.str x) = true := by
  show (x.cps.all fun c => decide (c < 0x110000)) = true
  rw [Array.all_eq_true']
  intro c hc
  exact decide_eq_true (h c (Array.mem_toList_iff.mpr hc))
theorem okS_from : ∀ (ts : List Str) (k : Nat) (a : Str), okS a → (∀ t ∈ ts, okS t) → okS (textFrom k a ts)
  | [], _, _, h, _ => h
  | t :: r, k, a, h, hr => okS_from r (k + 1) _ ((h.app (okS_of _)).app (hr t List.mem_cons_self)) fun x hx => hr x (List.mem_cons_of_mem _ hx)
theorem okS_join (s : Str) (hs : okS s) : ∀ ts : List Str, (∀ t ∈ ts, okS t) → okS (Str.join s ts)
  | [], _ => okS_of ""
  | [x], h => h x List.mem_cons_self
  | x :: y :: r, h => by
    show okS (x ++ s ++ Str.join s (y :: r))
    exact ((h x List.mem_cons_self).app hs).app (okS_join s hs (y :: r) fun t ht => h t (List.mem_cons_of_mem _ ht))
theorem okS_list (ts : List Str) (h : ∀ t ∈ ts, okS t) : okS (listText ts) := (okS_from ts 0 _ (okS_of _) h).app (okS_of _)
theorem okS_tuple (ts : List Str) (h : ∀ t ∈ ts, okS t) : okS (tupleText ts) := ((okS_of _).app (okS_join _ (okS_of _) ts h)).app (okS_of _)
/-- a datum that may be shown and compared: its text has at most n signs, it is at most m deep -/
structure Fd (n m : Nat) (d : PyData) : Prop where
  lay : d.canLay0 = true
  sh : d.showable = true
  len : d.shown.length ≤ n
  dep : d.depth ≤ m
  self : PyData.eqv d d = true
  ok : okS d.shown
structure FdL (n m : Nat) (ds : List PyData) : Prop where
  lay : PyData.canLayAll0 ds = true
  sh : PyData.showableAll ds = true
  len : (ds.map fun d => d.shown.length).sum + 2 * ds.length ≤ n
  dep : PyData.depthAll ds ≤ m
  self : PyData.eqvAll ds ds = true
  ok : ∀ t ∈ PyData.shownAll ds, okS t
theorem Fd.int {i : Int} (h : Bt 1900 i) : Fd 1921 0 (.int i) := by
  have h1 : i.natAbs.log2 < 1920 := Nat.lt_trans (h.log (by decide)) (by decide)
  refine ⟨rfl, decide_eq_true h1, int_text_len_1921 h1, Nat.le_refl _, ?_, okS_of _⟩
  show (i == i) = true
  simp
theorem Fd.bool (b : Bool) : Fd 5 0 (.bool b) := by
  refine ⟨rfl, rfl, ?_, Nat.le_refl _, ?_, ?_⟩
  · cases b <;> decide +kernel
  · cases b <;> rfl
  · cases b <;> exact okS_of _
theorem Fd.non : Fd 4 0 .none := ⟨rfl, rfl, by decide +kernel, Nat.le_refl _, rfl, okS_of _⟩
theorem FdL.nil : FdL 0 0 [] := ⟨rfl, rfl, Nat.le_refl _, Nat.le_refl _, rfl, fun t h => by cases h⟩
theorem FdL.cons {n1 m1 n2 m2 : Nat} {d : PyData} {ds : List PyData} (h : Fd n1 m1 d) (g : FdL n2 m2 ds) : FdL (n1 + n2 + 2) (max m1 m2) (d :: ds) := by
  refine ⟨?_, ?_, ?_, ?_, ?_, ?_⟩
  · show (d.canLay0 && PyData.canLayAll0 ds) = true
    rw [h.lay, g.lay]
    rfl
  · show (d.showable && PyData.showableAll ds) = true
    rw [h.sh, g.sh]
    rfl
  · have := h.len
    have := g.len
    simp only [List.map_cons, List.sum_cons, List.length_cons]
    omega
  · show max d.depth (PyData.depthAll ds) ≤ _
    have := h.dep
    have := g.dep
    omega
  · show (PyData.eqv d d && PyData.eqvAll ds ds) = true
    rw [h.self, g.self]
    rfl
  · intro t ht
    rcases List.mem_cons.mp (show t ∈ d.shown :: PyData.shownAll ds from ht) with e | e
    · rw [e]
      exact h.ok
    · exact g.ok t e
theorem Fd.list {n m : Nat} {ds : List PyData} (g : FdL n m ds) : Fd (n + 3) (m + 1) (.list ds) := by
  have h1 := shown_list ds
  have h2 := g.len
  exact ⟨g.lay, g.sh, by omega, Nat.succ_le_succ g.dep, g.self, okS_list _ g.ok⟩
theorem Fd.tup {n m : Nat} {ds : List PyData} (g : FdL n m ds) : Fd (n + 3) (m + 1) (.tuple ds) := by
  have h1 := shown_tuple ds
  have h2 := g.len
  exact ⟨g.lay, g.sh, by omega, Nat.succ_le_succ g.dep, g.self, okS_tuple _ g.ok⟩
theorem Fd.mono {n m n' m' : Nat} {d : PyData} (h : Fd n m d) (e1 : n ≤ n') (e2 : m ≤ m') : Fd n' m' d := ⟨h.lay, h.sh, Nat.le_trans h.len e1, Nat.le_trans h.dep e2, h.self, h.ok⟩
theorem FdL.mono {n m n' m' : Nat} {d : List PyData} (h : FdL n m d) (e1 : n ≤ n') (e2 : m ≤ m') : FdL n' m' d := ⟨h.lay, h.sh, Nat.le_trans h.len e1, Nat.le_trans h.dep e2, h.self, h.ok⟩
theorem FdL.all {n m k : Nat} : ∀ {ds : List PyData}, (∀ d ∈ ds, Fd n m d) → ds.length ≤ k → FdL ((n + 2) * k) m ds
  | [], _, _ => FdL.nil.mono (Nat.zero_le _) (Nat.zero_le _)
  | d :: r, h, l => by
    cases k with
    | zero => simp at l
    | succ k =>
      refine (FdL.cons (h d List.mem_cons_self) (FdL.all (k := k) (fun x hx => h x (List.mem_cons_of_mem _ hx)) (by simpa using l))).mono ?_ ?_
      · rw [Nat.mul_succ]
        omega
      · omega
theorem Fd.shaped {n m : Nat} {d : PyData} (h : Fd n m d) (e : m ≤ 64) : SeqAt.shaped d = true := by
  unfold SeqAt.shaped
  rw [h.lay, decide_eq_true (Nat.le_trans h.dep e)]
  rfl
/-- compared alone: no bound of the text is asked (texts within) -/
structure Fe (m : Nat) (d : PyData) : Prop where
  lay : d.canLay0 = true
  dep : d.depth ≤ m
  self : PyData.eqv d d = true
structure FeL (m : Nat) (ds : List PyData) : Prop where
  lay : PyData.canLayAll0 ds = true
  dep : PyData.depthAll ds ≤ m
  self : PyData.eqvAll ds ds = true
theorem Fe.str {x : Str} (h : okS x) : Fe 0 (.str x) := ⟨h.lay, Nat.le_refl _, by show (x == x) = true; simp⟩
theorem Fe.int (i : Int) : Fe 0 (.int i) := ⟨rfl, Nat.le_refl _, by show (i == i) = true; simp⟩
theorem Fe.bool (b : Bool) : Fe 0 (.bool b) := ⟨rfl, Nat.le_refl _, by cases b <;> rfl⟩
theorem Fe.non : Fe 0 .none := ⟨rfl, Nat.le_refl _, rfl⟩
theorem FeL.nil : FeL 0 [] := ⟨rfl, Nat.le_refl _, rfl⟩
theorem FeL.cons {m1 m2 : Nat} {d : PyData} {ds : List PyData} (h : Fe m1 d) (g : FeL m2 ds) : FeL (max m1 m2) (d :: ds) := by
  refine ⟨?_, ?_, ?_⟩
  · show (d.canLay0 && PyData.canLayAll0 ds) = true
    rw [h.lay, g.lay]
    rfl
  · show max d.depth (PyData.depthAll ds) ≤ _
    have := h.dep
    have := g.dep
    omega
  · show (PyData.eqv d d && PyData.eqvAll ds ds) = true
    rw [h.self, g.self]
    rfl
theorem Fe.list {m : Nat} {ds : List PyData} (g : FeL m ds) : Fe (m + 1) (.list ds) := ⟨g.lay, Nat.succ_le_succ g.dep, g.self⟩
theorem Fe.tup {m : Nat} {ds : List PyData} (g : FeL m ds) : Fe (m + 1) (.tuple ds) := ⟨g.lay, Nat.succ_le_succ g.dep, g.self⟩
theorem FeL.all {m : Nat} : ∀ {ds : List PyData}, (∀ d ∈ ds, Fe m d) → FeL m ds
  | [], _ => ⟨rfl, Nat.zero_le _, rfl⟩
  | d :: r, h => by
    have q := FeL.cons (h d List.mem_cons_self) (FeL.all fun x hx => h x (List.mem_cons_of_mem _ hx))
    rw [Nat.max_self] at q
    exact q
theorem Fe.shaped {m : Nat} {d : PyData} (h : Fe m d) (e : m ≤ 64) : SeqAt.shaped d = true := by
  unfold SeqAt.shaped
  rw [h.lay, decide_eq_true (Nat.le_trans h.dep e)]
  rfl
/-! ### readings that are opened by a lemma alone -/
structure Sr (r : List V → Hp → VK → Prop) (xs : List V) (H : Hp) (Q : VK) : Prop where
  h : r xs H Q
structure So (r : R2) (x y : V) (H : Hp) (Q : VK) : Prop where
  h : r x y H Q
section
variable {X : Cx}
theorem callR_sw {f : Value} {r : List V → Hp → VK → Prop} (h : CallR X f r) : CallR X f (Sr r) := callR_of h fun _ _ _ q => q.h
theorem op_sw {f : Value → Value → Sem Value} {r : R2} (h : OpR X f r) : OpR X f (So r) := opR_of h fun _ _ _ _ q => q.h
end
section
variable {T : List (Addr × Str)} {p l q a b : Addr} {n m : Nat} {H H1 H2 H' : Hp} {o : HO} {K : PySem.W.Frag} {Q : VK} {x y : V} {d e : PyData}
theorem repr_sw (h : Dp K H x d) (g : Fd n m d) (e : n ≤ 10000000 ∧ m ≤ 64) (k : Q (.str d.shown) H) : Sr (rRepr K) [x] H Q :=
  ⟨x, d, rfl, h, g.sh, Nat.le_trans g.len (Nat.le_trans e.1 (by decide)), Nat.le_trans g.dep e.2, k⟩
theorem eqd_sw (h : Dp K H x d) (g : Dp K H y e) (f1 : Fe n d) (f2 : Fe m e) (z : n ≤ 64 ∧ m ≤ 64) (k : Q (.bl (PyData.eqv d e)) H) : So (rEqD K) x y H Q :=
  ⟨d, e, h, g, f1.shaped z.1, f2.shaped z.2, k⟩
theorem ned_sw (h : Dp K H x d) (g : Dp K H y e) (f1 : Fe n d) (f2 : Fe m e) (z : n ≤ 64 ∧ m ≤ 64) (k : Q (.bl (!PyData.eqv d e)) H) : So (rNeD K) x y H Q :=
  ⟨d, e, h, g, f1.shaped z.1, f2.shaped z.2, k⟩
/-- the same datum twice -/
theorem eqd_same (h : Dp K H x d) (g : Dp K H y d) (f : Fe n d) (z : n ≤ 64) (k : Q (.bl true) H) : So (rEqD K) x y H Q :=
  eqd_sw h g f f ⟨z, z⟩ (by rw [f.self]; exact k)
theorem ned_same (h : Dp K H x d) (g : Dp K H y d) (f : Fe n d) (z : n ≤ 64) (k : Q (.bl false) H) : So (rNeD K) x y H Q :=
  ned_sw h g f f ⟨z, z⟩ (by rw [f.self]; exact k)
theorem dp_lst {ds : List PyData} {xs : List V} (h : H a = some (.lst xs)) (g : DpAll K H xs ds) : Dp K H (.ref a) (.list ds) := .lst (SqL.of h) g
theorem dp_tup {ds : List PyData} {xs : List V} (h : H a = some (.tup xs)) (g : DpAll K H xs ds) : Dp K H (.ref a) (.tuple ds) := .tup (SqT.of h) g
end
end EM
namespace EM
open PySem PySem.Spec PyProof.Rows L2
end EM
namespace EM
open PySem PySem.Spec PyProof.Rows L2
theorem RatP.getK {K K' : PySem.W.Frag} {p a : Addr} {H : Hp} {t b : Int} (h : RatP K p H a t b) (e : K = K') : RatAt K' H a t b := e ▸ h.rat
theorem NumP.getK {K K' : PySem.W.Frag} {p : Addr} {v : V} {H : Hp} {t b : Int} (h : NumP K p H v t b) (e : K = K') : Num K' H v t b := e ▸ h.num
end EM
namespace EM
open PySem PySem.Spec PyProof.Rows L2
theorem num_of_rat {K : PySem.W.Frag} {p a : Addr} {H : Hp} {t b : Int} (h : RatP K p H a t b) (lo : Low t b) : NumP K p H (.ref a) t b := h.num lo
end EM
namespace EM
open PySem PySem.Spec PyProof.Rows L2
theorem Bt.topL {n k : Nat} {t b : Int} (ht : Bt n t) (h : b ≠ 0) (e : n ≤ k) : Bt k (nTop t b) := (ht.top h).mono e
theorem Bt.botL {n k : Nat} {t b : Int} (hb : Bt n b) (h : b ≠ 0) (e : n ≤ k) : Bt k (nBot t b) := (hb.bot h).mono e
end EM
namespace EM
open PySem PySem.Spec PyProof.Rows L2
end EM
namespace EM
open PySem PySem.Spec PyProof.Rows L2
section
variable {T : List (Addr × Str)} {p l q a b : Addr} {n m : Nat} {H H1 H2 H' : Hp} {o : HO} {K : PySem.W.Frag} {Q : VK} {E : XK}
theorem RatP.at_ {t b : Int} (h : RatP K p H a t b) : ∃ dx, At p H a (.ins (He.ga K "Ratio") dx (rf t b)) := by
  obtain ⟨⟨dx, h⟩, n⟩ := h
  exact ⟨dx, h, n, fun _ z => by cases z⟩
end
end EM
namespace EM
open PySem PySem.Spec PyProof.Rows L2
end EM
namespace EM
end EM
/-! EM37: int // x, int % x where x is an instance; == and the order of an instance with an int. -/
namespace PySem.W
open PySem PySem.Calls PyProof.Rows Builtin Builtin.Int
end PySem.W
namespace EM
open PySem PySem.Spec PyProof.Rows L2
end EM
/-! EM38: a Ratio's fields and methods by RatAt; of, is_number, over as steps. -/
namespace EM
open PySem PySem.Spec PyProof.Rows L2
/-! ### promises of //, % and the roundings -/
structure TwoP (K : PySem.W.Frag) (T : List (Addr × Str)) (p l : Addr) (n : Nat) (H : Hp) (x : Addr) (v : V) (t b u c : Int) : Prop where
  B : Bs T p l n H
  rx : RatP K p H x t b
  lo : Low t b
  ny : NumP K p H v u c
  bt : Bt 400 t
  bb : Bt 400 b
  bu : Bt 400 u
  bc : Bt 400 c
end EM
namespace EM
open PySem PySem.Spec PyProof.Rows L2
end EM
namespace EM
open PySem PySem.Spec PyProof.Rows L2
end EM
namespace EM
theorem Bt.div {n : Nat} {i j : Int} (h : Bt n i) (hj : 0 < j) : Bt n (i / j) := by
  refine h.le ?_
  rcases Int.lt_or_le i 0 with hi | hi
  · have h1 : i ≤ i / j := Int.le_ediv_of_mul_le hj (by
      have : i * j ≤ i * 1 := Int.mul_le_mul_of_nonpos_left (by omega) (by omega)
      omega)
    have h2 : i / j < 0 := Int.ediv_neg_of_neg_of_pos hi hj
    omega
  · have h1 : i / j ≤ i := Int.ediv_le_self j hi
    have h2 : 0 ≤ i / j := Int.ediv_nonneg hi (by omega)
    omega
end EM
namespace EM
open PySem PySem.Spec PyProof.Rows L2
theorem Bt.divM {n k : Nat} {i j : Int} (h : Bt n i) (hj : 0 < j) (e : n ≤ k) : Bt k (i / j) := (h.div hj).mono e
end EM
namespace EM
open PySem PySem.Spec PyProof.Rows L2
end EM
/-! EM39: append in a law's own code: one object is written (Mu). -/
namespace EM
open PySem PySem.Spec PyProof.Rows L2
structure Mu (l : Addr) (H H' : Hp) (o : HO) : Prop where
  at_ : H' l = some o
  old : ∀ b, b ≠ l → H' b = H b
theorem Mu.upd {l : Addr} {H : Hp} {o : HO} : Mu l H (L2.upd H l o) o := ⟨upd_same, fun b n => upd_ne n⟩
section
variable {T : List (Addr × Str)} {p l0 l b : Addr} {n : Nat} {H H' : Hp} {o o2 : HO} {K : PySem.W.Frag} {xs ys : List V} {v : V} {t c : Int}
theorem Mu.eq (m : Mu l H H' o) : H' = L2.upd H l o := by
  funext b
  by_cases h : b = l
  · rw [h, m.at_, upd_same]
  · rw [m.old b h, upd_ne h]
theorem Mu.bs (m : Mu l H H' o) (B : Bs T p l0 n H) (h : At p H l (.lst xs)) (nl : l ≠ l0) : Bs T p l0 n H' := by
  rw [m.eq]
  exact ⟨B.pen.mut h.ne nl, tabs_mut B.tab h.at_⟩
theorem Mu.at_n (m : Mu l H H' o) (h : At p H b o2) (nb : b ≠ l) : At p H' b o2 := ⟨by rw [m.old b nb]; exact h.at_, h.ne, h.nt⟩
theorem Mu.at_k (m : Mu l H H' o) (h : At p H b o2) (g : At p H l (.lst xs)) (nk : ∀ xs, o2 ≠ .lst xs) : At p H' b o2 := m.at_n h (ne_of h.at_ g.at_ (nk _))
theorem Mu.here (m : Mu l H H' (.lst ys)) (g : At p H l (.lst xs)) : At p H' l (.lst ys) := ⟨m.at_, g.ne, fun _ z => by cases z⟩
theorem Mu.rat (m : Mu l H H' o) (h : RatP K p H b t c) (g : At p H l (.lst xs)) : RatP K p H' b t c := by
  obtain ⟨⟨dx, h⟩, n⟩ := h
  exact ⟨⟨dx, by rw [m.old b (ne_of h g.at_ (by intro z; cases z))]; exact h⟩, n⟩
theorem Mu.num (m : Mu l H H' o) (h : NumP K p H v t c) (g : At p H l (.lst xs)) : NumP K p H' v t c := by
  obtain ⟨⟨lo, h⟩, n⟩ := h
  refine ⟨⟨lo, ?_⟩, n⟩
  rcases h with ⟨a, rfl, r⟩ | h
  · exact .inl ⟨a, rfl, (m.rat (K := K) ⟨r, fun z => n (by rw [z])⟩ g).rat⟩
  · exact .inr h
end
section
variable {X : Cx} {o e : Expr} {to te : TE}
def tAppN (to te : TE) : TE := fun σ H Q => to σ H fun x H1 => ∃ l ys, x = V.ref l ∧ H1 l = some (.lst ys) ∧ te σ H1 fun v H2 => ∃ xs, H2 l = some (.lst xs) ∧ xs.length < 100000 ∧ ∀ H3, Mu l H2 H3 (.lst (xs ++ [v])) → Q .non H3
end
end EM
namespace EM
open PySem PySem.Spec PyProof.Rows L2
section
variable {X : Cx} {o e : Expr} {to te : TE} {apos cpos : Pos}
/-- o.append(e) -/
theorem pe_appN (ho : PE X o to) (he : PE X e te) (hbase : attributeBase o "append" X.env (eval o X.env) = eval o X.env := by rfl)
    (hfew : ((backTo cpos (starEach [e] X.env)).all (fun x => !x.1) && (backToKw cpos (keywordEach [] X.env)).all (fun x => x.1.isSome) && decide ([e].length + ([] : List Keyword).length + (if ([] : List Keyword).isEmpty then 0 else 1) < 30)) = true := by rfl)
    (hline : (apos.endLine == cpos.line) = true := by rfl) (hs : starEach [e] X.env = (false, eval e X.env) :: starEach [] X.env := by rfl) (hplain : (backTo cpos (starEach [] X.env)).any (·.1) = false := by rfl) :
    PE X (.Call (.Attribute o "append" apos) [e] [] cpos) (tAppN to te) :=
  (pe_bm PySem.F.plainAttrs_list PySem.F.slot_list_append PySem.F.type_list_append mt_append ho.mc (pa_cons he.mc pa_nil hs) hbase hfew hline hs hplain).of fun σ H Q q => ⟨_, q, fun x H1 ⟨l, ys, e1, h1, h2⟩ => by
    subst e1
    exact ⟨.inl ⟨rfl, ys, SqL.of h1⟩, _, h2, fun v H2 ⟨xs, h3, h4, h5⟩ => ⟨l, xs, v, rfl, rfl, h3, szl h4, h5 _ Mu.upd⟩⟩⟩
end
end EM
/-! EM40: y op x, a comparison whose left value's builtin declines an instance on the right. -/
namespace PySem.W
open PySem PySem.Calls PyProof.Rows Builtin
section
variable {prog : Program} {w : World} {A : Around} {E : Value → Shared → Prop} {s : Shared} {K : Frag} {x C L f : Addr} {h₀ : Heap} {m : Str → Option Value} {ox : Obj} {od : Option Obj}
theorem typeIs_keep {s s' : Shared} {a : Value} {B : String} (h : s.TypeIs a B) (k : ∀ b o, s.heap.get? b = some o → s'.heap.get? b = some o) : s'.TypeIs a B := by
  cases a with
  | ref a =>
    obtain ⟨o, e, c⟩ := h
    exact ⟨o, k _ _ e, c⟩
  | _ => exact h
theorem decl_cmp {a : Value} {B id ow n : String} {nm : Str} {bi : Builtin} (hT : s.TypeIs a B) (S : Slot B nm id) (en : entryFor table id = some bi) (hk : builtinKind id = some .slot) (hsp : splitId id = some (ow, n)) (ha : argsOk id ⟨[a, .ref x], []⟩)
    (hs : isSubtype (.type B) (.type ow) = pure true)
    (hb : ∀ (A : Around) (E : Value → Shared → Prop) (Q : Fin → Shared → Prop), wpAny (model prog w) A (ret .notImplemented) Q E s → wpAny (model prog w) A (bi ⟨[a, .ref x], []⟩) Q E s) (E : Value → Shared → Prop) (Q : Option Value → Shared → Prop) (q : Q none s) : wpAny (model prog w) A (tryCompare a nm (.ref x)) Q E s := by
  refine wpAny_tryCompare_declines hT S (wpAny_call (codeAny_call_builtin S.plain en (check_slot hk hsp (fun A Q E s' k q => ?_) ha (hb _ _ _ (wpAny_pure ⟨rfl, q⟩)))))
  exact wpAny_isInstance (typeIs_keep hT k) hs q
theorem dec_list_eq {a : Addr} {oa : Obj} (X : K.In s.heap) (I : InstAt s.heap x ox C od) (ha : s.heap.get? a = some oa) (hc : oa.cls = .type "list") (hm : mroIn K C (.type "list") = some false) (E : Value → Shared → Prop) (Q : Option Value → Shared → Prop) (q : Q none s) : wpAny (model prog w) A (tryCompare (.ref a) (cmpInfo .Eq).2.1 (.ref x)) Q E s :=
  decl_cmp (s := s) (a := .ref a) (B := "list") (ow := "list") (n := "__eq__") (show s.TypeIs (.ref a) "list" from ⟨_, ha, hc⟩) F.slot_list_eq F.entry_list_eq (by decide +kernel) (by decide +kernel) (F.args_list_eq_2 _ _) (by rw [isSubtype_type]; kernel_rfl) (fun A E Q h => by
    have L : Looks (model prog w) s.heap (isInstance (.ref x) (.type "list")) false := I.type.andThen (looks_mroIn X hm)
    unfold Builtin.«list.__eq__»
    refine wpAny_bind (m := slotArgs "__eq__" 1 _) (wpAny_pure ?_)
    refine wpAny_bind (m := isInstance (.ref x) (.type "list")) (L.here ?_)
    exact h) E Q q
theorem dec_list_ne {a : Addr} {oa : Obj} (X : K.In s.heap) (I : InstAt s.heap x ox C od) (ha : s.heap.get? a = some oa) (hc : oa.cls = .type "list") (hm : mroIn K C (.type "list") = some false) (E : Value → Shared → Prop) (Q : Option Value → Shared → Prop) (q : Q none s) : wpAny (model prog w) A (tryCompare (.ref a) (cmpInfo .NotEq).2.1 (.ref x)) Q E s :=
  decl_cmp (s := s) (a := .ref a) (B := "list") (ow := "list") (n := "__ne__") (show s.TypeIs (.ref a) "list" from ⟨_, ha, hc⟩) F.slot_list_ne F.entry_list_ne (by decide +kernel) (by decide +kernel) (F.args_list_ne_2 _ _) (by rw [isSubtype_type]; kernel_rfl) (fun A E Q h => by
    have L : Looks (model prog w) s.heap (isInstance (.ref x) (.type "list")) false := I.type.andThen (looks_mroIn X hm)
    unfold Builtin.«list.__ne__»
    refine wpAny_bind (m := slotArgs "__ne__" 1 _) (wpAny_pure ?_)
    refine wpAny_bind (m := isInstance (.ref x) (.type "list")) (L.here ?_)
    exact h) E Q q
theorem dec_tuple_eq {a : Addr} {oa : Obj} (X : K.In s.heap) (I : InstAt s.heap x ox C od) (ha : s.heap.get? a = some oa) (hc : oa.cls = .type "tuple") (hm : mroIn K C (.type "tuple") = some false) (E : Value → Shared → Prop) (Q : Option Value → Shared → Prop) (q : Q none s) : wpAny (model prog w) A (tryCompare (.ref a) (cmpInfo .Eq).2.1 (.ref x)) Q E s :=
  decl_cmp (s := s) (a := .ref a) (B := "tuple") (ow := "tuple") (n := "__eq__") (show s.TypeIs (.ref a) "tuple" from ⟨_, ha, hc⟩) F.slot_tuple_eq F.entry_tuple_eq (by decide +kernel) (by decide +kernel) (F.args_tuple_eq_2 _ _) (by rw [isSubtype_type]; kernel_rfl) (fun A E Q h => by
    have L : Looks (model prog w) s.heap (isInstance (.ref x) (.type "tuple")) false := I.type.andThen (looks_mroIn X hm)
    unfold Builtin.«tuple.__eq__»
    refine wpAny_bind (m := slotArgs "__eq__" 1 _) (wpAny_pure ?_)
    refine wpAny_bind (m := isInstance (.ref x) (.type "tuple")) (L.here ?_)
    exact h) E Q q
theorem dec_tuple_ne {a : Addr} {oa : Obj} (X : K.In s.heap) (I : InstAt s.heap x ox C od) (ha : s.heap.get? a = some oa) (hc : oa.cls = .type "tuple") (hm : mroIn K C (.type "tuple") = some false) (E : Value → Shared → Prop) (Q : Option Value → Shared → Prop) (q : Q none s) : wpAny (model prog w) A (tryCompare (.ref a) (cmpInfo .NotEq).2.1 (.ref x)) Q E s :=
  decl_cmp (s := s) (a := .ref a) (B := "tuple") (ow := "tuple") (n := "__ne__") (show s.TypeIs (.ref a) "tuple" from ⟨_, ha, hc⟩) F.slot_tuple_ne F.entry_tuple_ne (by decide +kernel) (by decide +kernel) (F.args_tuple_ne_2 _ _) (by rw [isSubtype_type]; kernel_rfl) (fun A E Q h => by
    have L : Looks (model prog w) s.heap (isInstance (.ref x) (.type "tuple")) false := I.type.andThen (looks_mroIn X hm)
    unfold Builtin.«tuple.__ne__»
    refine wpAny_bind (m := slotArgs "__ne__" 1 _) (wpAny_pure ?_)
    refine wpAny_bind (m := isInstance (.ref x) (.type "tuple")) (L.here ?_)
    exact h) E Q q
theorem dec_dict_eq {a : Addr} {oa : Obj} (X : K.In s.heap) (I : InstAt s.heap x ox C od) (ha : s.heap.get? a = some oa) (hc : oa.cls = .type "dict") (hm : mroIn K C (.type "dict") = some false) (E : Value → Shared → Prop) (Q : Option Value → Shared → Prop) (q : Q none s) : wpAny (model prog w) A (tryCompare (.ref a) (cmpInfo .Eq).2.1 (.ref x)) Q E s :=
  decl_cmp (s := s) (a := .ref a) (B := "dict") (ow := "dict") (n := "__eq__") (show s.TypeIs (.ref a) "dict" from ⟨_, ha, hc⟩) F.slot_dict_eq F.entry_dict_eq (by decide +kernel) (by decide +kernel) (F.args_dict_eq_2 _ _) (by rw [isSubtype_type]; kernel_rfl) (fun A E Q h => by
    have L : Looks (model prog w) s.heap (isInstance (.ref x) (.type "dict")) false := I.type.andThen (looks_mroIn X hm)
    unfold Builtin.«dict.__eq__»
    refine wpAny_bind (m := Builtin.Dict.dictSlotArgs "__eq__" _) (wpAny_pure ?_)
    refine wpAny_bind (m := isInstance (.ref x) (.type "dict")) (L.here ?_)
    exact wpAny_bind (wpAny_rule h)) E Q q
theorem dec_dict_ne {a : Addr} {oa : Obj} (X : K.In s.heap) (I : InstAt s.heap x ox C od) (ha : s.heap.get? a = some oa) (hc : oa.cls = .type "dict") (hm : mroIn K C (.type "dict") = some false) (E : Value → Shared → Prop) (Q : Option Value → Shared → Prop) (q : Q none s) : wpAny (model prog w) A (tryCompare (.ref a) (cmpInfo .NotEq).2.1 (.ref x)) Q E s :=
  decl_cmp (s := s) (a := .ref a) (B := "dict") (ow := "dict") (n := "__ne__") (show s.TypeIs (.ref a) "dict" from ⟨_, ha, hc⟩) F.slot_dict_ne F.entry_dict_ne (by decide +kernel) (by decide +kernel) (F.args_dict_ne_2 _ _) (by rw [isSubtype_type]; kernel_rfl) (fun A E Q h => by
    have L : Looks (model prog w) s.heap (isInstance (.ref x) (.type "dict")) false := I.type.andThen (looks_mroIn X hm)
    unfold Builtin.«dict.__ne__»
    refine wpAny_bind (m := Builtin.Dict.dictSlotArgs "__ne__" _) (wpAny_pure ?_)
    refine wpAny_bind (m := isInstance (.ref x) (.type "dict")) (L.here ?_)
    exact wpAny_bind (wpAny_rule h)) E Q q
theorem dec_non_eq  (I : InstAt s.heap x ox C od) (hd : ox.data = .plain) (E : Value → Shared → Prop) (Q : Option Value → Shared → Prop) (q : Q none s) : wpAny (model prog w) A (tryCompare .none (cmpInfo .Eq).2.1 (.ref x)) Q E s :=
  decl_cmp (s := s) (a := .none) (B := "NoneType") (ow := "NoneType") (n := "__eq__") (show s.TypeIs .none "NoneType" from rfl) F.slot_NoneType_eq F.entry_NoneType_eq (by decide +kernel) (by decide +kernel) (F.args_NoneType_eq_2 _ _) (by rw [isSubtype_type]; kernel_rfl) (fun A E Q h => by
    unfold Builtin.«NoneType.__eq__»
    exact wpAny_bind (m := slotArgs "__eq__" 1 _) (wpAny_pure h)) E Q q
theorem dec_non_ne  (I : InstAt s.heap x ox C od) (hd : ox.data = .plain) (E : Value → Shared → Prop) (Q : Option Value → Shared → Prop) (q : Q none s) : wpAny (model prog w) A (tryCompare .none (cmpInfo .NotEq).2.1 (.ref x)) Q E s :=
  decl_cmp (s := s) (a := .none) (B := "NoneType") (ow := "NoneType") (n := "__ne__") (show s.TypeIs .none "NoneType" from rfl) F.slot_NoneType_ne F.entry_NoneType_ne (by decide +kernel) (by decide +kernel) (F.args_NoneType_ne_2 _ _) (by rw [isSubtype_type]; kernel_rfl) (fun A E Q h => by
    unfold Builtin.«NoneType.__ne__»
    exact wpAny_bind (m := slotArgs "__ne__" 1 _) (wpAny_pure h)) E Q q
theorem dec_bl_eq {b : Bool} (I : InstAt s.heap x ox C od) (hd : ox.data = .plain) (E : Value → Shared → Prop) (Q : Option Value → Shared → Prop) (q : Q none s) : wpAny (model prog w) A (tryCompare (.bool b) (cmpInfo .Eq).2.1 (.ref x)) Q E s :=
  decl_cmp (s := s) (a := (.bool b)) (B := "bool") (ow := "int") (n := "__eq__") (show s.TypeIs (.bool b) "bool" from rfl) F.slot_bool_eq F.entry_int_eq (by decide +kernel) (by decide +kernel) (F.args_int_eq_2 _ _) (by rw [isSubtype_type]; kernel_rfl) (fun A E Q h => by
    unfold Builtin.«int.__eq__»
    refine wpAny_bind (m := slotArgs "__eq__" 1 _) (wpAny_pure ?_)
    refine wpAny_bind (m := Builtin.Int.intOfSelf _) (wpAny_pure ?_)
    refine wpAny_bind (m := asInt? (.ref x)) ?_
    unfold asInt?
    refine wpAny_bind (wpAny_load I.at_ ?_)
    rw [hd]
    refine wpAny_pure ?_
    exact wpAny_bind (wpAny_rule h)) E Q q
theorem dec_bl_ne {b : Bool} (I : InstAt s.heap x ox C od) (hd : ox.data = .plain) (E : Value → Shared → Prop) (Q : Option Value → Shared → Prop) (q : Q none s) : wpAny (model prog w) A (tryCompare (.bool b) (cmpInfo .NotEq).2.1 (.ref x)) Q E s :=
  decl_cmp (s := s) (a := (.bool b)) (B := "bool") (ow := "int") (n := "__ne__") (show s.TypeIs (.bool b) "bool" from rfl) F.slot_bool_ne F.entry_int_ne (by decide +kernel) (by decide +kernel) (F.args_int_ne_2 _ _) (by rw [isSubtype_type]; kernel_rfl) (fun A E Q h => by
    unfold Builtin.«int.__ne__»
    refine wpAny_bind (m := slotArgs "__ne__" 1 _) (wpAny_pure ?_)
    refine wpAny_bind (m := Builtin.Int.intOfSelf _) (wpAny_pure ?_)
    refine wpAny_bind (m := asInt? (.ref x)) ?_
    unfold asInt?
    refine wpAny_bind (wpAny_load I.at_ ?_)
    rw [hd]
    refine wpAny_pure ?_
    exact wpAny_bind (wpAny_rule h)) E Q q
theorem dec_int_eq {i : Int} {t : Tok} (I : InstAt s.heap x ox C od) (hd : ox.data = .plain) (E : Value → Shared → Prop) (Q : Option Value → Shared → Prop) (q : Q none s) : wpAny (model prog w) A (tryCompare (.int i t) (cmpInfo .Eq).2.1 (.ref x)) Q E s :=
  decl_cmp (s := s) (a := (.int i t)) (B := "int") (ow := "int") (n := "__eq__") (show s.TypeIs (.int i t) "int" from (typeIs_int _ _ _)) F.slot_int_eq F.entry_int_eq (by decide +kernel) (by decide +kernel) (F.args_int_eq_2 _ _) (by rw [isSubtype_type]; kernel_rfl) (fun A E Q h => by
    unfold Builtin.«int.__eq__»
    refine wpAny_bind (m := slotArgs "__eq__" 1 _) (wpAny_pure ?_)
    refine wpAny_bind (m := Builtin.Int.intOfSelf _) (wpAny_pure ?_)
    refine wpAny_bind (m := asInt? (.ref x)) ?_
    unfold asInt?
    refine wpAny_bind (wpAny_load I.at_ ?_)
    rw [hd]
    refine wpAny_pure ?_
    exact wpAny_bind (wpAny_rule h)) E Q q
theorem dec_int_ne {i : Int} {t : Tok} (I : InstAt s.heap x ox C od) (hd : ox.data = .plain) (E : Value → Shared → Prop) (Q : Option Value → Shared → Prop) (q : Q none s) : wpAny (model prog w) A (tryCompare (.int i t) (cmpInfo .NotEq).2.1 (.ref x)) Q E s :=
  decl_cmp (s := s) (a := (.int i t)) (B := "int") (ow := "int") (n := "__ne__") (show s.TypeIs (.int i t) "int" from (typeIs_int _ _ _)) F.slot_int_ne F.entry_int_ne (by decide +kernel) (by decide +kernel) (F.args_int_ne_2 _ _) (by rw [isSubtype_type]; kernel_rfl) (fun A E Q h => by
    unfold Builtin.«int.__ne__»
    refine wpAny_bind (m := slotArgs "__ne__" 1 _) (wpAny_pure ?_)
    refine wpAny_bind (m := Builtin.Int.intOfSelf _) (wpAny_pure ?_)
    refine wpAny_bind (m := asInt? (.ref x)) ?_
    unfold asInt?
    refine wpAny_bind (wpAny_load I.at_ ?_)
    rw [hd]
    refine wpAny_pure ?_
    exact wpAny_bind (wpAny_rule h)) E Q q
theorem dec_str_eq {z : Str} {t : Tok} (I : InstAt s.heap x ox C od) (hd : ox.data = .plain) (E : Value → Shared → Prop) (Q : Option Value → Shared → Prop) (q : Q none s) : wpAny (model prog w) A (tryCompare (.str z t) (cmpInfo .Eq).2.1 (.ref x)) Q E s :=
  decl_cmp (s := s) (a := (.str z t)) (B := "str") (ow := "str") (n := "__eq__") (show s.TypeIs (.str z t) "str" from (typeIs_str _ _ _)) F.slot_str_eq F.entry_str_eq (by decide +kernel) (by decide +kernel) (F.args_str_eq_2 _ _) (by rw [isSubtype_type]; kernel_rfl) (fun A E Q h => by
    unfold Builtin.«str.__eq__»
    refine wpAny_bind (m := Builtin.Str.strSlot "__eq__" 1 _) (wpAny_pure ?_)
    refine wpAny_bind (m := asStr? (.ref x)) ?_
    unfold asStr?
    refine wpAny_bind (wpAny_load I.at_ ?_)
    rw [hd]
    refine wpAny_pure ?_
    exact wpAny_bind (wpAny_rule h)) E Q q
theorem dec_str_ne {z : Str} {t : Tok} (I : InstAt s.heap x ox C od) (hd : ox.data = .plain) (E : Value → Shared → Prop) (Q : Option Value → Shared → Prop) (q : Q none s) : wpAny (model prog w) A (tryCompare (.str z t) (cmpInfo .NotEq).2.1 (.ref x)) Q E s :=
  decl_cmp (s := s) (a := (.str z t)) (B := "str") (ow := "str") (n := "__ne__") (show s.TypeIs (.str z t) "str" from (typeIs_str _ _ _)) F.slot_str_ne F.entry_str_ne (by decide +kernel) (by decide +kernel) (F.args_str_ne_2 _ _) (by rw [isSubtype_type]; kernel_rfl) (fun A E Q h => by
    unfold Builtin.«str.__ne__»
    refine wpAny_bind (m := Builtin.Str.strSlot "__ne__" 1 _) (wpAny_pure ?_)
    refine wpAny_bind (m := asStr? (.ref x)) ?_
    unfold asStr?
    refine wpAny_bind (wpAny_load I.at_ ?_)
    rw [hd]
    refine wpAny_pure ?_
    exact wpAny_bind (wpAny_rule h)) E Q q
end
end PySem.W
/-! EM41: comparisons of an instance with anything, on either side. -/
namespace EM
open PySem PySem.Spec PyProof.Rows L2
/-- values of Python's own kinds -/
inductive DecT (H : Hp) : V → String → Prop
  | int (i : Int) : DecT H (.int i) "int"
  | non : DecT H .non "NoneType"
  | bl (b : Bool) : DecT H (.bl b) "bool"
  | str (z : Str) : DecT H (.str z) "str"
  | tup {a : Addr} {xs : List V} (h : H a = some (.tup xs)) : DecT H (.ref a) "tuple"
  | lst {a : Addr} {xs : List V} (h : H a = some (.lst xs)) : DecT H (.ref a) "list"
  | dct {a : Addr} {kv : List (Key × V)} (h : H a = some (.dK kv)) : DecT H (.ref a) "dict"
/-- a class that is below none of Python's own kinds, and none of these below it -/
structure Apart (K : PySem.W.Frag) (C : Addr) : Prop where
  dn : ∀ T ∈ ["int", "NoneType", "bool", "str", "tuple", "list", "dict"], PySem.W.subIn K (.ref C) (.type T) = some false
  up : ∀ T ∈ ["int", "NoneType", "bool", "str", "tuple", "list", "dict"], PySem.W.subIn K (.type T) (.ref C) = some false
section
variable {X : Cx} {CX : CXT} {n : Nat} {g C : Addr} {sp : Sp} {E : XK} {pins : List (Addr × Obj)} {σ : L2.St} {H : Hp} {s : Shared}
theorem DecT.is {v : V} {u : Value} {T : String} (I : Inv X pins σ H s) (r : RelV v u) (d : DecT H v T) : s.TypeIs u T := by
  cases d with
  | int i =>
    obtain ⟨t, rfl⟩ := r
    exact typeIs_int _ _ _
  | non =>
    cases (show u = Value.none from r)
    exact rfl
  | bl b =>
    cases (show u = Value.bool b from r)
    exact rfl
  | str z =>
    obtain ⟨t, rfl⟩ := r
    exact typeIs_str _ _ _
  | tup h =>
    cases (show u = Value.ref _ from r)
    obtain ⟨its, rv, ⟨o, e, c, _⟩, hz⟩ := I.tuple (SqT.of h)
    exact ⟨o, e, c⟩
  | lst h =>
    cases (show u = Value.ref _ from r)
    obtain ⟨z, its, k, r, e⟩ := I.hok _ _ h
    exact ⟨_, e, rfl⟩
  | @dct a kv h =>
    cases (show u = Value.ref _ from r)
    obtain ⟨_, _, vs, _, o, es, ep, h1, h2, _⟩ := (show ObjOk X.prog X.w H s.heap a (.dK kv) from I.hok a _ h)
    exact ⟨o, h1, h2.1⟩
/-- the builtin == and != decline -/
theorem DecT.eq {v : V} {u : Value} {T : String} {x : Addr} {ox : Obj} {od : Option Obj} (I : Inv X pins σ H s) (r : RelV v u) (d : DecT H v T) (A : Apart X.K C) (J : PySem.W.InstAt s.heap x ox C od) (hd : ox.data = .plain) (A' : Around) (E : Value → Shared → Prop) (Q : Option Value → Shared → Prop) (q : Q none s) :
    wpAny (model X.prog X.w) A' (tryCompare u (cmpInfo .Eq).2.1 (.ref x)) Q E s := by
  have XK := I.kIn
  cases d with
  | int i =>
    obtain ⟨t, rfl⟩ := r
    exact PySem.W.dec_int_eq J hd E Q q
  | non =>
    cases (show u = Value.none from r)
    exact PySem.W.dec_non_eq J hd E Q q
  | bl b =>
    cases (show u = Value.bool b from r)
    exact PySem.W.dec_bl_eq J hd E Q q
  | str z =>
    obtain ⟨t, rfl⟩ := r
    exact PySem.W.dec_str_eq J hd E Q q
  | tup h =>
    cases (show u = Value.ref _ from r)
    obtain ⟨o, e, c⟩ := (show ∃ o, s.heap.get? _ = some o ∧ o.cls = Value.type "tuple" from (DecT.tup h).is I r)
    exact PySem.W.dec_tuple_eq XK J e c (A.dn _ (by decide)) E Q q
  | lst h =>
    cases (show u = Value.ref _ from r)
    obtain ⟨o, e, c⟩ := (show ∃ o, s.heap.get? _ = some o ∧ o.cls = Value.type "list" from (DecT.lst h).is I r)
    exact PySem.W.dec_list_eq XK J e c (A.dn _ (by decide)) E Q q
  | dct h =>
    cases (show u = Value.ref _ from r)
    obtain ⟨o, e, c⟩ := (show ∃ o, s.heap.get? _ = some o ∧ o.cls = Value.type "dict" from (DecT.dct h).is I r)
    exact PySem.W.dec_dict_eq XK J e c (A.dn _ (by decide)) E Q q
theorem DecT.ne {v : V} {u : Value} {T : String} {x : Addr} {ox : Obj} {od : Option Obj} (I : Inv X pins σ H s) (r : RelV v u) (d : DecT H v T) (A : Apart X.K C) (J : PySem.W.InstAt s.heap x ox C od) (hd : ox.data = .plain) (A' : Around) (E : Value → Shared → Prop) (Q : Option Value → Shared → Prop) (q : Q none s) :
    wpAny (model X.prog X.w) A' (tryCompare u (cmpInfo .NotEq).2.1 (.ref x)) Q E s := by
  have XK := I.kIn
  cases d with
  | int i =>
    obtain ⟨t, rfl⟩ := r
    exact PySem.W.dec_int_ne J hd E Q q
  | non =>
    cases (show u = Value.none from r)
    exact PySem.W.dec_non_ne J hd E Q q
  | bl b =>
    cases (show u = Value.bool b from r)
    exact PySem.W.dec_bl_ne J hd E Q q
  | str z =>
    obtain ⟨t, rfl⟩ := r
    exact PySem.W.dec_str_ne J hd E Q q
  | tup h =>
    cases (show u = Value.ref _ from r)
    obtain ⟨o, e, c⟩ := (show ∃ o, s.heap.get? _ = some o ∧ o.cls = Value.type "tuple" from (DecT.tup h).is I r)
    exact PySem.W.dec_tuple_ne XK J e c (A.dn _ (by decide)) E Q q
  | lst h =>
    cases (show u = Value.ref _ from r)
    obtain ⟨o, e, c⟩ := (show ∃ o, s.heap.get? _ = some o ∧ o.cls = Value.type "list" from (DecT.lst h).is I r)
    exact PySem.W.dec_list_ne XK J e c (A.dn _ (by decide)) E Q q
  | dct h =>
    cases (show u = Value.ref _ from r)
    obtain ⟨o, e, c⟩ := (show ∃ o, s.heap.get? _ = some o ∧ o.cls = Value.type "dict" from (DecT.dct h).is I r)
    exact PySem.W.dec_dict_ne XK J e c (A.dn _ (by decide)) E Q q
end
end EM
/-! EM42: behind an append: stepping; merging behind three statements. -/
namespace EM
open PySem PySem.Spec PyProof.Rows L2
section
variable {T : List (Addr × Str)} {p l0 l b : Addr} {n : Nat} {H H1 H' : Hp} {o o2 : HO} {xs ys : List V}
theorem nel2 (h : H b = none) (B : Bs T p l0 n H) : b ≠ l0 := B.nel h
theorem gMu {R : Hp → Prop} (h : ∀ H', Mu l H H' o → R H') : ∀ H', Mu l H H' o → R H' := h
theorem mu_bs {R : Hp → Prop} (B : Bs T p l0 n H) (g : At p H l (.lst xs)) (nl : l ≠ l0) (k : ∀ H', Mu l H H' (.lst ys) → Bs T p l0 n H' → R H') : ∀ H', Mu l H H' (.lst ys) → R H' :=
  fun H' m => k H' m (m.bs B g nl)
/-- what stood ahead of a new list stays behind an append to it -/
theorem Ext.mu {p : Addr} {H0 Hn H1 H2 : Hp} (x : Ext p H0 Hn) (hn : Hn l = none) (y : Ext p Hn H1) (m : Mu l H1 H2 o) : Ext p H0 H2 := ⟨fun b ob e nb nt => by
  have h1 := x.k b ob e nb nt
  have h2 := y.k b ob h1 nb nt
  have nl : b ≠ l := fun z => by rw [z, hn] at h1; cases h1
  rw [m.old b nl]
  exact h2⟩
theorem nn1 (h : H l = none) (g : At p H b o) : b ≠ l := ne_of_none g.at_ h
theorem nn2 (h : H b = none) (g : At p H l o) : b ≠ l := fun z => (ne_of_none g.at_ h) z.symm
theorem gAt (h : At p H b o) : At p H b o := h
theorem gRat {K : PySem.W.Frag} {t c : Int} (h : RatP K p H b t c) : RatP K p H b t c := h
theorem gNum {K : PySem.W.Frag} {v : V} {t c : Int} (h : NumP K p H v t c) : NumP K p H v t c := h
end
end EM
/-! EM43: the order of numbers: own comparisons of Ratios, with an int on either side, told in one word. -/
namespace EM
open PySem PySem.Spec PyProof.Rows L2
/-- two fractions told otherwise are compared alike -/
theorem cross_lt {t b u c T B U C : Int} (b0 : 0 < b) (c0 : 0 < c) (B0 : 0 < B) (C0 : 0 < C) (e1 : t * B = T * b) (e2 : u * C = U * c) : t * c < u * b ↔ T * C < U * B := by
  have p1 : t * c * (B * C) = T * C * (b * c) := by
    calc t * c * (B * C) = (t * B) * (c * C) := by ac_rfl
      _ = T * b * (c * C) := by rw [e1]
      _ = T * C * (b * c) := by ac_rfl
  have p2 : u * b * (B * C) = U * B * (b * c) := by
    calc u * b * (B * C) = (u * C) * (b * B) := by ac_rfl
      _ = U * c * (b * B) := by rw [e2]
      _ = U * B * (b * c) := by ac_rfl
  have q1 : 0 < B * C := Int.mul_pos B0 C0
  have q2 : 0 < b * c := Int.mul_pos b0 c0
  constructor
  · intro h
    have := Int.mul_lt_mul_of_pos_right h q1
    rw [p1, p2] at this
    exact Int.lt_of_mul_lt_mul_right this (by omega)
  · intro h
    have := Int.mul_lt_mul_of_pos_right h q2
    rw [← p1, ← p2] at this
    exact Int.lt_of_mul_lt_mul_right this (by omega)
/-! ### own comparisons -/
end EM
/-! EM44: a pick among ints. -/
namespace EM
open PySem PySem.Spec PyProof.Rows L2
inductive AllI : List V → List Int → Prop
  | nil : AllI [] []
  | cons {xs : List V} {ns : List Int} (i : Int) (h : AllI xs ns) : AllI (.int i :: xs) (i :: ns)
theorem AllI.map {xs : List V} {ns : List Int} (h : AllI xs ns) : xs = ns.map V.int := by
  induction h with
  | nil => rfl
  | cons i h ih => rw [ih]; rfl
end EM
namespace EM
open PySem PySem.Spec PyProof.Rows L2
/-! ### texts that are the same; if on them -/
structure NeS (x y : V) (H : Hp) (Q : VK) : Prop where
  h : ∃ z, x = .str z ∧ y = .str z ∧ Q (.bl false) H
theorem NeS.mk' {H : Hp} {Q : VK} {z : Str} (q : Q (.bl false) H) : NeS (.str z) (.str z) H Q := ⟨z, rfl, rfl, q⟩
theorem op_neS {X : Cx} : OpR X (compareOp .NotEq) NeS := opR_of op_ne fun x y H Q ⟨z, e1, e2, q⟩ => by
  subst e1 e2
  exact ⟨rfl, by rw [decide_eq_true rfl]; exact q⟩
/-! ### a sum or product of two numbers, either may be an int -/
end EM
/-! EM45: loops and comprehensions at which the stepping words stop. -/
namespace EM
open PySem PySem.Spec PyProof.Rows L2
/-- a loop at which the stepping words stop -/
structure FoS (J : It) (g : TG) (tb : TS) (D : Ends) (σ : L2.St) (H1 : Hp) : Prop where
  h : ∃ W : Nat → Nat → L2.St → Hp → Prop, (∃ m, W 0 m σ H1) ∧ ∀ i m σ H, W i m σ H →
    (J.stop i H ∧ D.nx σ H) ∨ (J.go i H ∧ ∃ N : L2.St → Hp → Prop, (∀ σ' H', N σ' H' → ∃ m', m' < m ∧ W (i + 1) m' σ' H') ∧ ∀ x H', J.yld i H x H' → g x σ H' fun σ2 H2 => tb { D with nx := N, ct := N, bk := D.nx } σ2 H2)
/-- a comprehension at which the stepping words stop -/
structure LcS (J : It) (g : TG) (tt : TT) (te : TE) (vs : List Nat) (σ : L2.St) (H1 : Hp) (Q : VK) : Prop where
  h : ∀ D, H1 D = none → ∃ W : Nat → Nat → Hp → Prop, (∃ m, W 0 m (upd H1 D (.lst []))) ∧ ∀ i m H, W i m H →
    (J.stop i H ∧ Q (.ref D) H) ∨ (J.go i H ∧ ∃ Nx : Hp → Prop, (∀ H', Nx H' → ∃ m', m' < m ∧ W (i + 1) m' H') ∧ ∀ x H', J.yld i H x H' → g x (wipe σ vs) H' fun σ2 H2 => wipe σ2 vs = wipe σ vs ∧ tt σ2 H2 fun b H3 =>
      if b = true then te σ2 H3 fun y H4 => ∃ acc, H4 D = some (.lst acc) ∧ acc.length < sizeLine ∧ Nx (upd H4 D (.lst (acc ++ [y]))) else Nx H3)
theorem _root_.L2.PS.of {X : Cx} {st : Stmt} {t t' : TS} (h : PS X st t) (w : ∀ D σ H, t' D σ H → t D σ H) : PS X st t' := ⟨fun pins s σ H D I q => h.run pins s σ H D I (w D σ H q)⟩
def tForN (wi : TI) (g : TG) (tb : TS) : TS := fun D σ H => wi σ H fun J H1 => FoS J g tb D σ H1
def tLcN (wi : TI) (g : TG) (tt : TT) (te : TE) (vs : List Nat) : TE := fun σ H Q => wi σ H fun J H1 => LcS J g tt te vs σ H1 Q
def mcI (wi : TI) : TI := fun σ H R => ∃ R' : It → Hp → Prop, wi σ H R' ∧ ∀ J H1, R' J H1 → R J H1
section
variable {X : Cx}
theorem _root_.L2.PI.mc {tg iter : Expr} {wi : TI} (h : PI X tg iter wi) : PI X tg iter (mcI wi) := by
  refine ⟨fun pins s σ H R I hq => ?_⟩
  obtain ⟨R', hR, k⟩ := hq
  refine thn (h.run pins s σ H R' I hR) fun u s1 z => thn z fun v s2 z2 => ?_
  obtain ⟨it, fp, tn, J, H2, e, I2, T, st2, f2, q⟩ := z2
  exact ⟨it, fp, tn, J, H2, e, I2, T, st2, f2, k _ _ q⟩
theorem forN {st : Stmt} {wi : TI} {g : TG} {tb : TS} (h : PS X st (tFor (mcI wi) g tb)) : PS X st (tForN wi g tb) := h.of fun D σ H q => ⟨_, q, fun J H1 z => z.h⟩
theorem lcN {e : Expr} {wi : TI} {g : TG} {tt : TT} {te : TE} {vs : List Nat} (h : PE X e (tLc (mcI wi) g tt te vs)) : PE X e (tLcN wi g tt te vs) := h.of fun σ H Q q => ⟨_, q, fun J H1 z => z.h⟩
theorem setLcN {st : Stmt} {wi : TI} {g g2 : TG} {tt : TT} {te : TE} {vs : List Nat} (h : PS X st (tAsg (tLc (mcI wi) g tt te vs) g2)) : PS X st (tAsg (tLcN wi g tt te vs) g2) := h.of fun D σ H q => ⟨_, q, fun J H1 z => z.h⟩
end
end EM
namespace EM
open PySem PySem.Spec PyProof.Rows L2
theorem mk_bs {T : List (Addr × Str)} {p l : Addr} {n : Nat} {H : Hp} {K : PySem.W.Frag} {Q : VK} {E : XK} {t b : Int} (B : Bs T p l n H) (h0 : b ≠ 0) (hb : Bt 2000 b) (k : ∀ a H', Ext p H H' → Bs T p l n H' → RatP K p H' a (nTop t b) (nBot t b) → Q (.ref a) H') : Sw (spMkN K) [.int t, .int b] H Q E :=
  ⟨⟨t, b, rfl, h0, Nat.lt_trans (hb.log (by decide)) (by decide), RatRes.bs B k⟩⟩
theorem move_lt {t b u c s f : Int} (hf : 0 < f) : (t * f + s * b) * (c * f) < (u * f + s * c) * (b * f) ↔ t * c < u * b := by
  have e1 : (t * f + s * b) * (c * f) = (t * c) * (f * f) + s * b * c * f := by
    rw [Int.add_mul]
    congr 1 <;> ac_rfl
  have e2 : (u * f + s * c) * (b * f) = (u * b) * (f * f) + s * b * c * f := by
    rw [Int.add_mul]
    congr 1 <;> ac_rfl
  have q : 0 < f * f := Int.mul_pos hf hf
  rw [e1, e2]
  constructor
  · intro h
    exact Int.lt_of_mul_lt_mul_right (show t * c * (f * f) < u * b * (f * f) by omega) (by omega)
  · intro h
    have := Int.mul_lt_mul_of_pos_right h q
    omega
theorem times_lt {t b u c m k : Int} (hm : 0 < m) (hk : 0 < k) : (t * m) * (c * k) < (u * m) * (b * k) ↔ t * c < u * b := by
  have e1 : (t * m) * (c * k) = (t * c) * (m * k) := by ac_rfl
  have e2 : (u * m) * (b * k) = (u * b) * (m * k) := by ac_rfl
  have q : 0 < m * k := Int.mul_pos hm hk
  rw [e1, e2]
  exact ⟨fun h => Int.lt_of_mul_lt_mul_right h (by omega), fun h => Int.mul_lt_mul_of_pos_right h q⟩
end EM
/-! EM46: comprehensions in one word. -/
namespace EM
open PySem PySem.Spec PyProof.Rows L2
end EM
/-! EM47: isinstance of a list or a tuple; rows of numbers. -/
namespace EM
open PySem PySem.Spec PyProof.Rows L2
section
variable {T : List (Addr × Str)} {p l q a tp : Addr} {n m : Nat} {H H1 H2 H' : Hp} {o : HO} {K : PySem.W.Frag} {Q : VK} {x v : V} {xs : List V}
def rLenN (K : PySem.W.Frag) : List V → Hp → VK → Prop := fun vs H Q => ∃ x n, vs = [x] ∧ LenV K x H n ∧ Q (.int n) H
theorem lenL (h : At p H a (.lst xs)) (q : Q (.int xs.length) H) : Sr (rLenN K) [.ref a] H Q := ⟨.ref a, xs.length, rfl, .inl ⟨xs, SqL.of h.at_, rfl⟩, q⟩
theorem lenT (h : At p H a (.tup xs)) (q : Q (.int xs.length) H) : Sr (rLenN K) [.ref a] H Q := ⟨.ref a, xs.length, rfl, .inr ⟨xs, SqT.of h.at_, rfl⟩, q⟩
def NotSeqT (K : PySem.W.Frag) (H : Hp) (x : V) : Prop := ∃ t, TyX K H x t ∧ PySem.W.kitAny K t [.type "list", .type "tuple"] = some false
def rIsSeq (K : PySem.W.Frag) : List V → Hp → VK → Prop := fun vs H Q => ∃ x tp, vs = [x, .ref tp] ∧ H tp = some (.tup [.ty "list", .ty "tuple"]) ∧ (((∃ a xs, x = .ref a ∧ (H a = some (.lst xs) ∨ H a = some (.tup xs))) ∧ Q (.bl true) H) ∨ (NotSeqT K H x ∧ Q (.bl false) H))
theorem isSeqL (ht : At p H tp (.tup [.ty "list", .ty "tuple"])) (ha : At p H a (.lst xs)) (q : Q (.bl true) H) : Sr (rIsSeq K) [.ref a, .ref tp] H Q := ⟨_, tp, rfl, ht.at_, .inl ⟨⟨a, xs, rfl, .inl ha.at_⟩, q⟩⟩
theorem isSeqT (ht : At p H tp (.tup [.ty "list", .ty "tuple"])) (ha : At p H a (.tup xs)) (q : Q (.bl true) H) : Sr (rIsSeq K) [.ref a, .ref tp] H Q := ⟨_, tp, rfl, ht.at_, .inl ⟨⟨a, xs, rfl, .inr ha.at_⟩, q⟩⟩
/-- a list or a tuple -/
def SeqV (p : Addr) (H : Hp) (a : Addr) (xs : List V) : Prop := At p H a (.lst xs) ∨ At p H a (.tup xs)
theorem SeqV.ext (h : SeqV p H a xs) (y : Ext p H H') : SeqV p H' a xs := by
  rcases h with h | h
  · exact .inl (h.ext y)
  · exact .inr (h.ext y)
/-- the numbers of a row -/
structure NumsP (K : PySem.W.Frag) (p : Addr) (H : Hp) (xs : List V) (ts : List (Int × Int)) : Prop where
  len : xs.length = ts.length
  h : ∀ (i : Nat) (x : V) (t : Int × Int), xs[i]? = some x → ts[i]? = some t → NumP K p H x t.1 t.2
theorem NumsP.ext {ts : List (Int × Int)} (h : NumsP K p H xs ts) (y : Ext p H H') : NumsP K p H' xs ts := ⟨h.len, fun i x t e1 e2 => NumP.ext y (h.h i x t e1 e2)⟩
/-- a row of Ratios -/
structure RatsP (K : PySem.W.Frag) (p : Addr) (H : Hp) (xs : List V) (ts : List (Int × Int)) : Prop where
  len : xs.length = ts.length
  h : ∀ (i : Nat) (x : V) (t : Int × Int), xs[i]? = some x → ts[i]? = some t → ∃ a, x = .ref a ∧ RatP K p H a t.1 t.2
end
end EM
/-! EM48: a for over a list or a tuple, in one word; lists of Bools. -/
namespace EM
open PySem PySem.Spec PyProof.Rows L2
section
variable {T : List (Addr × Str)} {p l q a tp : Addr} {n m : Nat} {H H1 H2 H' : Hp} {o : HO} {K : PySem.W.Frag} {Q : VK} {x v : V} {xs : List V}
structure SqW (x : V) (H : Hp) (R : It → Hp → Prop) : Prop where
  h : ∃ a xs, x = V.ref a ∧ (H a = some (.lst xs) ∨ H a = some (.tup xs)) ∧ ∀ J, Walk J xs.length (fun H' => H' a = H a) (YAt xs) → R J H
def iSeqN (tl : TE) : TI := fun σ H R => tl σ H fun x H1 => SqW x H1 R
theorem pi_seqN {X : Cx} {tg l : Expr} {tl : TE} (hl : PE X l tl) : PI X tg l (iSeqN tl) := ⟨fun pins s σ H R I h => (pi_seq hl.mc).run pins s σ H R I ⟨_, h, fun v H1 z => z.h⟩⟩
theorem seqL {R : It → Hp → Prop} (h : At p H a (.lst xs)) (k : ∀ J, Walk J xs.length (fun H' => H' a = H a) (YAt xs) → R J H) : SqW (.ref a) H R := ⟨a, xs, rfl, .inl h.at_, k⟩
theorem seqT {R : It → Hp → Prop} (h : At p H a (.tup xs)) (k : ∀ J, Walk J xs.length (fun H' => H' a = H a) (YAt xs) → R J H) : SqW (.ref a) H R := ⟨a, xs, rfl, .inr h.at_, k⟩
theorem At.eq (h : At p H a o) (x : Ext p H H') : H' a = H a := (h.ext x).at_.trans h.at_.symm
end
end EM
/-! EM49: a for in one word; folds; a first item. -/
namespace EM
open PySem PySem.Spec PyProof.Rows L2
theorem FoS.it {J : It} {n : Nat} {G : Hp → Prop} {Y : Nat → Hp → V → Hp → Prop} (w : Walk J n G Y) {g : TG} {tb : TS} {D : Ends} {σ : L2.St} {H : Hp} (Pv : Nat → L2.St → Hp → Prop) (h0 : Pv 0 σ H) (hG : ∀ i σ H, i ≤ n → Pv i σ H → G H)
    (hs : ∀ i x σ H H', i < n → Pv i σ H → Y i H x H' → g x σ H' fun σ2 H2 => tb { D with nx := Pv (i + 1), ct := Pv (i + 1), bk := D.nx } σ2 H2) (hd : ∀ σ H, Pv n σ H → D.nx σ H) : FoS J g tb D σ H := ⟨for_it w Pv h0 hG hs hd⟩
end EM
namespace EM
/-- an invariant at which the stepping words stop -/
structure Hold (P : Prop) : Prop where
  h : P
end EM
/-! EM50: dicts laid; == and != of an instance with what is none. -/
namespace EM
open PySem PySem.Spec PyProof.Rows L2
section
variable {T : List (Addr × Str)} {p l q a tp : Addr} {n m : Nat} {H H1 H2 H' : Hp} {o : HO} {K : PySem.W.Frag} {Q : VK} {x v y : V} {xs : List V}
structure DnS (o : HO) (H : Hp) (Q : VK) : Prop where
  h : ∀ p H', New H p o H' → Q (.ref p) H'
def tDnewN : TE := fun _ H Q => DnS (.dK []) H Q
theorem pe_dnewN {X : Cx} {pos : Pos} : PE X (.Dict [] [] pos) tDnewN := pe_dnewK.of fun σ H Q q => New.upd q.h
theorem DnS.bs (B : Bs T p l n H) (hk : ∀ ps, o ≠ .tbl ps) (k : ∀ q H', Ext p H H' → Bs T p l n H' → At p H' q o → H q = none → Q (.ref q) H') : DnS o H Q := ⟨New.bs B hk k⟩
theorem upd_upd {H : Hp} {p : Addr} {o o' : HO} : upd (upd H p o) p o' = upd H p o' := by
  funext b
  by_cases h : b = p
  · rw [h, upd_same, upd_same]
  · rw [upd_ne h, upd_ne h, upd_ne h]
end
end EM
namespace EM
open PySem L2
end EM
/-! EM51: tuple of a list; isinstance of a Ratio; lists of texts. -/
namespace EM
open PySem PySem.Spec PyProof.Rows L2
section
variable {T : List (Addr × Str)} {p l q a tp : Addr} {n m : Nat} {H H1 H2 H' : Hp} {o : HO} {K : PySem.W.Frag} {Q : VK} {x v y : V} {xs : List V}
def rTupN : List V → Hp → VK → Prop := fun vs H Q => ∃ a xs, vs = [.ref a] ∧ H a = some (.lst xs) ∧ DnS (.tup xs) H Q
theorem tupL (h : At p H a (.lst xs)) (k : DnS (.tup xs) H Q) : Sr rTupN [.ref a] H Q := ⟨a, xs, rfl, h.at_, k⟩
/-- the pairs of a row -/
structure PairsP (p : Addr) (H : Hp) (xs : List V) (ts : List (Int × Int)) : Prop where
  len : xs.length = ts.length
  h : ∀ (i : Nat) (x : V) (t : Int × Int), xs[i]? = some x → ts[i]? = some t → ∃ q, x = .ref q ∧ At p H q (.tup [.int t.1, .int t.2])
theorem PairsP.ext {ts : List (Int × Int)} (h : PairsP p H xs ts) (y : Ext p H H') : PairsP p H' xs ts := ⟨h.len, fun i x t e1 e2 => by
  obtain ⟨q, e, a⟩ := h.h i x t e1 e2
  exact ⟨q, e, a.ext y⟩⟩
end
end EM
/-! EM52: marks that are not the pen; what makes no mark. -/
namespace EM
open PySem PySem.Spec PyProof.Rows L2
structure MarkP (K : PySem.W.Frag) (p : Addr) (H : Hp) (a : Addr) (ws : List Int) : Prop where
  good : good ws
  h : ∃ dx wp ep sp, At p H a (.ins (He.ga K "Mark") dx (mf wp ep sp ((ws.length : Int) / 2 + 1) ws.sum (ws.take (ws.length - 1)).sum)) ∧ At p H wp (.tup (ws.map V.int)) ∧ At p H ep (.tup ((scan 0 ws).map V.int)) ∧ At p H sp (.tup ((sumsOf ws).map V.int))
section
variable {T : List (Addr × Str)} {p l q a tp : Addr} {n m : Nat} {H H1 H2 H' : Hp} {o : HO} {K : PySem.W.Frag} {Q : VK} {x v y : V} {xs : List V} {ws : List Int}
theorem MarkP.ext (h : MarkP K p H a ws) (x : Ext p H H') : MarkP K p H' a ws := by
  obtain ⟨g, dx, wp, ep, sp, h1, h2, h3, h4⟩ := h
  exact ⟨g, dx, wp, ep, sp, h1.ext x, h2.ext x, h3.ext x, h4.ext x⟩
theorem MarkP.of (B : Bs T p l n H) (h : MarkAt K H a ws) : MarkP K p H a ws := by
  obtain ⟨g, dx, wp, ep, sp, h1, h2, h3, h4⟩ := h
  exact ⟨g, dx, wp, ep, sp, B.at_ h1 (fun _ z => by cases z) (fun _ z => by cases z), B.at_ h2 (fun _ z => by cases z) (fun _ z => by cases z), B.at_ h3 (fun _ z => by cases z) (fun _ z => by cases z), B.at_ h4 (fun _ z => by cases z) (fun _ z => by cases z)⟩
theorem MarkP.at_ (h : MarkP K p H a ws) : MarkAt K H a ws := by
  obtain ⟨g, dx, wp, ep, sp, h1, h2, h3, h4⟩ := h
  exact ⟨g, dx, wp, ep, sp, h1.at_, h2.at_, h3.at_, h4.at_⟩
/-- no integer -/
def OddM (K : PySem.W.Frag) (p : Addr) (H : Hp) (y : V) : Prop := OddN H p y ∨ ∃ a t b, y = .ref a ∧ RatP K p H a t b
theorem OddM.ext (h : OddM K p H y) (x : Ext p H H') : OddM K p H' y := by
  rcases h with h | ⟨a, t, b, e, h⟩
  · exact .inl (h.ext x.k)
  · exact .inr ⟨a, t, b, e, h.ext x⟩
def okW (y : V) : Prop := ∃ w : Int, y = .int w ∧ 1 ≤ w ∧ w ≤ 1000
def noW (K : PySem.W.Frag) (p : Addr) (H : Hp) (y : V) : Prop := (∃ w : Int, y = .int w ∧ ¬ (1 ≤ w ∧ w ≤ 1000)) ∨ OddM K p H y
theorem noW.ext (h : noW K p H y) (x : Ext p H H') : noW K p H' y := by
  rcases h with h | h
  · exact .inl h
  · exact .inr (h.ext x)
/-- these widths make no mark: what BadMark tells -/
def BadW (K : PySem.W.Frag) (p : Addr) (H : Hp) (xs : List V) (at_ : V) : Prop :=
  (at_ = .non ∧ (xs.length % 2 = 0 ∨ xs.length < 3 ∨ 127 < xs.length)) ∨
  ∃ i : Nat, at_ = .int i ∧ xs.length % 2 = 1 ∧ 3 ≤ xs.length ∧ xs.length ≤ 127 ∧ (∀ j : Nat, j < i → ∃ y, xs[j]? = some y ∧ okW y) ∧ ∃ y, xs[i]? = some y ∧ noW K p H y
theorem BadW.ext {at_ : V} (h : BadW K p H xs at_) (x : Ext p H H') : BadW K p H' xs at_ := by
  rcases h with h | ⟨i, e, h1, h2, h3, h4, y, e2, h5⟩
  · exact .inl h
  · exact .inr ⟨i, e, h1, h2, h3, h4, y, e2, h5.ext x⟩
def xdA (v : V) : HO := .xd [("at", v)]
end
end EM
/-! EM53: classmethods by keyword; properties; what a row of widths comes to. -/
namespace PySem.W
open PySem PySem.Calls PyProof.Rows
end PySem.W
namespace EM
open PySem PySem.Spec PyProof.Rows L2
/-! ### properties -/
/-! ### C.m(k = v), m a classmethod -/
section
variable {T : List (Addr × Str)} {p l q a tp : Addr} {n m : Nat} {H H1 H2 H' : Hp} {o : HO} {K : PySem.W.Frag} {Q : VK} {E : XK} {x v y : V} {xs : List V} {ws : List Int}
/-- what Mark of these widths comes to -/
def MarkOut (K : PySem.W.Frag) (T : List (Addr × Str)) (p l : Addr) (n : Nat) (H : Hp) (xs : List V) (Q : VK) (E : XK) : Prop :=
  (∃ ws, xs = ws.map V.int ∧ good ws ∧ ∀ a H', Ext p H H' → Bs T p l n H' → MarkP K p H' a ws → Q (.ref a) H') ∨
  ∃ at_, BadW K p H xs at_ ∧ ∀ d H', Ext p H H' → Bs T p l n H' → At p H' d (xdA at_) → E (.ref (He.ga K "BadMark")) (some d) H'
theorem MarkOut.ext (h : MarkOut K T p l n H xs Q E) (x : Ext p H H1) : MarkOut K T p l n H1 xs Q E := by
  rcases h with ⟨ws, e, g, k⟩ | ⟨at_, b, k⟩
  · exact .inl ⟨ws, e, g, fun a H' x1 B1 m => k a H' (x.trans x1) B1 m⟩
  · exact .inr ⟨at_, b.ext x, fun d H' x1 B1 m => k d H' (x.trans x1) B1 m⟩
end
end EM
/-! EM54: what a mark tells of itself, as data; lists of ints. -/
namespace EM
open PySem PySem.Spec PyProof.Rows L2
end EM
/-! EM55: an instance made with no argument. -/
namespace EM
open PySem PySem.Spec PyProof.Rows L2
end EM
/-! EM56: slices of lists, a dict of three, what stands in a menu. -/
namespace EM
open PySem PySem.Spec PyProof.Rows L2
end EM
/-! EM57: an instance's operator with anything on the right; anything times an instance; == and != of two own classes. -/
namespace PySem.W
open PySem PySem.Calls PyProof.Rows Builtin
end PySem.W
namespace EM
open PySem PySem.Spec PyProof.Rows L2
end EM
/-! EM58: comprehensions with a test, over anything; sums and multiples of marks. -/
namespace EM
open PySem PySem.Spec PyProof.Rows L2
theorem mcE_in {te : TE} {σ : L2.St} {H : Hp} {Q : VK} (h : te σ H Q) : mcE te σ H Q := ⟨_, h, fun _ _ z => z⟩
/-- a comprehension that draws nothing: P tells of the list so far -/
theorem LcS.lcP {T : List (Addr × Str)} {p l : Addr} {m : Nat} {J : It} {n : Nat} {G : Hp → Prop} {Y : Nat → Hp → V → Hp → Prop} (w : Walk J n G Y) {g : TG} {tt : TT} {te : TE} {vs : List Nat} {σ : L2.St} {H1 : Hp} {Q : VK}
    (B : Bs T p l m H1) (P : Nat → List V → Prop) (h0 : P 0 []) (hn : n ≤ 100000) (hG : ∀ H, Ext p H1 H → G H)
    (hs : ∀ i x acc H H' (Rf : Hp → Prop) (Rt : V → Hp → Prop), i < n → P i acc → Ext p H1 H → Bs T p l m H → Y i H x H' → (∀ H3, Ext p H H3 → Bs T p l m H3 → P (i + 1) acc → Rf H3) → (∀ y H4, Ext p H H4 → Bs T p l m H4 → P (i + 1) (acc ++ [y]) → Rt y H4) →
      g x (wipe σ vs) H' fun σ2 H2 => wipe σ2 vs = wipe σ vs ∧ tt σ2 H2 fun b H3 => if b = true then mcE te σ2 H3 Rt else Rf H3)
    (hd : ∀ D ys H', H1 D = none → P n ys → ys.length ≤ n → Ext p H1 H' → Bs T p l m H' → At p H' D (.lst ys) → Q (.ref D) H') : LcS J g tt (mcE te) vs σ H1 Q := by
  refine ⟨fun D hD => ?_⟩
  have nDp := B.ne hD
  have nDl := B.nel hD
  refine lc_it w (fun i H => ∃ acc, At p H D (.lst acc) ∧ acc.length ≤ i ∧ P i acc ∧ Ext p H1 H ∧ Bs T p l m H) ⟨[], ⟨upd_same, nDp, fun _ z => by cases z⟩, Nat.le_refl _, h0, Ext.same (same_upd hD), B.same (same_upd hD)⟩ (fun i H hi ⟨acc, _, _, _, x, _⟩ => hG H x) ?_ ?_
  · rintro i x H H' hi ⟨acc, hA, hl, hf, x1, B1⟩ y
    refine hs i x acc H H' _ _ hi hf x1 B1 y (fun H3 x3 B3 h3 => ⟨acc, hA.ext x3, by omega, h3, x1.trans x3, B3⟩) (fun v H4 x4 B4 h4 => ?_)
    have hA4 := hA.ext x4
    refine ⟨acc, hA4.at_, szl (by omega), acc ++ [v], ⟨upd_same, nDp, fun _ z => by cases z⟩, by simp; omega, h4, ⟨fun b o e nb nt => ?_⟩, ⟨?_, tabs_mut B4.tab hA4.at_⟩⟩
    · have e4 := x4.k _ _ (x1.k _ _ e nb nt) nb nt
      rw [upd_ne (ne_of_none e hD)]
      exact e4
    · exact B4.pen.mut nDp nDl
  · rintro H ⟨acc, hA, hl, hf, x1, B1⟩
    exact hd D acc H hD hf hl x1 B1 hA
section
variable {T : List (Addr × Str)} {p l q a b tp : Addr} {n m : Nat} {H H1 H2 H' : Hp} {o : HO} {K : PySem.W.Frag} {Q : VK} {E : XK} {x v y : V} {xs : List V} {ws us : List Int}
/-- what is no mark -/
def NoMk (K : PySem.W.Frag) (p : Addr) (H : Hp) (y : V) : Prop := (∃ i, y = .int i) ∨ OddM K p H y
theorem NoMk.ext (h : NoMk K p H y) (x : Ext p H H') : NoMk K p H' y := by
  rcases h with h | h
  · exact .inl h
  · exact .inr (h.ext x)
/-- BadMark(None) -/
def BadOut (K : PySem.W.Frag) (T : List (Addr × Str)) (p l : Addr) (n : Nat) (H : Hp) (E : XK) : Prop := ∀ d H', Ext p H H' → Bs T p l n H' → At p H' d (xdA .non) → E (.ref (He.ga K "BadMark")) (some d) H'
theorem BadOut.ext (h : BadOut K T p l n H E) (x : Ext p H H1) : BadOut K T p l n H1 E := fun d H' x1 B1 a1 => h d H' (x.trans x1) B1 a1
theorem NoMk.int {i : Int} : NoMk K p H (.int i) := .inl ⟨i, rfl⟩
theorem MarkP.mu {c : Addr} {ys : List V} (h : MarkP K p H a ws) (g : At p H c (.lst xs)) (m : Mu c H H' (.lst ys)) : MarkP K p H' a ws := by
  obtain ⟨gd, dx, wp, ep, sp, h1, h2, h3, h4⟩ := h
  exact ⟨gd, dx, wp, ep, sp, m.at_k h1 g (fun _ z => by cases z), m.at_k h2 g (fun _ z => by cases z), m.at_k h3 g (fun _ z => by cases z), m.at_k h4 g (fun _ z => by cases z)⟩
/-- what a call tells: [text], ("mark", i), ("mark", None), ("unlike",) -/
inductive Tl (p : Addr) (H : Hp) (q : Addr) : PyData → Prop
  | txt {z : Str} (ok : okS z) (h : At p H q (.lst [.str z])) : Tl p H q (.list [.str z])
  | mk {i : Nat} (hi : i < 4000) (h : At p H q (.tup [.str "mark", .int (i : Nat)])) : Tl p H q (.tuple [.str "mark", .int (i : Nat)])
  | non (h : At p H q (.tup [.str "mark", .non])) : Tl p H q (.tuple [.str "mark", .none])
  | unl (h : At p H q (.tup [.str "unlike"])) : Tl p H q (.tuple [.str "unlike"])
theorem Tl.ext {d : PyData} (h : Tl p H q d) (x : Ext p H H') : Tl p H' q d := by
  cases h with
  | txt ok h => exact .txt ok (h.ext x)
  | mk hi h => exact .mk hi (h.ext x)
  | non h => exact .non (h.ext x)
  | unl h => exact .unl (h.ext x)
theorem Tl.dp {d : PyData} (h : Tl p H q d) : Dp K H (.ref q) d := by
  cases h with
  | txt ok h => exact dp_lst h.at_ (.cons (.str _) .nil)
  | mk hi h => exact dp_tup h.at_ (.cons (.str _) (.cons (.int _) .nil))
  | non h => exact dp_tup h.at_ (.cons (.str _) (.cons .non .nil))
  | unl h => exact dp_tup h.at_ (.cons (.str _) .nil)
end
/-! xs[::-1] -/
end EM
/-! EM59: zip of two tuples, in one word; what a pair of a zip or an enumerate is. -/
namespace EM
open PySem PySem.Spec PyProof.Rows L2
structure EnL (K : PySem.W.Frag) (vs : List V) (H : Hp) (R : It → Hp → Prop) : Prop where
  h : ∃ a xs, vs = [.ref a] ∧ H a = some (.lst xs) ∧ R (Ite K a) H
def iEnLN (K : PySem.W.Frag) (ta : TA) : TI := fun σ H R => ta σ H fun vs H1 => EnL K vs H1 R
theorem pi_enumLN {X : Cx} {e : Expr} {ta : TA} {p pos tpos : Pos} {elts : List Expr} {kk : Nat} (hg : Gl X "enumerate") (hm : X.mg "enumerate" = none) (ha : PA X [e] ta) (hs : starEach [e] X.env = [(false, eval e X.env)] := by rfl) :
    PI X (.Tuple elts kk tpos) (.Call (.Name "enumerate" p) [e] [] pos) (iEnLN X.K ta) := ⟨fun pins s σ H R I h => (pi_enum hg hm ha.mc hs).run pins s σ H R I ⟨_, h, fun vs H1 ⟨⟨a, xs, e, h1, k⟩⟩ => ⟨a, xs, e, SqL.of h1, k⟩⟩⟩
section
variable {T : List (Addr × Str)} {p l a b : Addr} {n : Nat} {H H' : Hp} {K : PySem.W.Frag} {xs ys : List V} {R : It → Hp → Prop}
theorem enL (h : At p H a (.lst xs)) (k : R (Ite K a) H) : EnL K [.ref a] H R := ⟨a, xs, rfl, h.at_, k⟩
theorem yp_open {f g : Nat → Option V} {i : Nat} {x : V} (B : Bs T p l n H) (y : YPair f g i H x H') : ∃ W a b, x = .ref W ∧ f i = some a ∧ g i = some b ∧ Ext p H H' ∧ Bs T p l n H' ∧ At p H' W (.tup [a, b]) := by
  obtain ⟨W, a, b, rfl, hW, e, ea, eb⟩ := y
  have s : Same H H' := by rw [e]; exact same_upd hW
  exact ⟨W, a, b, rfl, ea, eb, Ext.same s, B.same s, (B.same s).at_ (by rw [e]; exact upd_same) (fun _ z => by cases z) (fun _ z => by cases z)⟩
end
end EM
namespace EM
open PySem PySem.Spec PyProof.Rows L2
section
variable {p q c : Addr} {H H' : Hp} {d : PyData} {x : Addr} {r ys : List V}
theorem Tl.ne (h : Tl p H q d) (g : At p H c (.lst (.ref x :: r))) : q ≠ c := by
  intro e
  subst e
  have ga := g.at_
  cases h with
  | txt ok h =>
    rw [h.at_] at ga
    cases ga
  | mk hi h =>
    rw [h.at_] at ga
    cases ga
  | non h =>
    rw [h.at_] at ga
    cases ga
  | unl h =>
    rw [h.at_] at ga
    cases ga
end
end EM
/-! EM60: repr of a tuple of a text and an instance with its own __repr__; of a text and a dict with nothing in it. -/
namespace PySem.W
open PySem PySem.Calls PyProof.Rows Builtin Builtin.Tuple
section
variable {prog : Program} {w : World} {A : Around} {K : Frag} {s : Shared} {x f C T : Addr} {ox oT : Obj} {od : Option Obj} {E : Value → Shared → Prop} {name : Str}
theorem em_boundBy {M : Model} {last : Value → List Value → Sem Value} {Q : Option Value → Shared → Prop} (X : K.In s.heap) (I : InstAt s.heap x ox C od) (hs : findIn K (.ref C) name = some (some (.ref f))) (hf : isFn K (.ref f) = true)
    (h : wpAny M A (last (.ref f) [.ref x]) (fun v => Q (some v)) E s) : wpAny M A (callSpecialIfBoundBy? last (.ref x) name) Q E s := by
  simp only [callSpecialIfBoundBy?, bindSpecialIfBound?]
  refine wpAny_holding (wpAny_bind (wpAny_bind (wpAny_bind (I.type.here ((looks_findIn X hs).here ?_)))))
  refine wpAny_bind (wpAny_askSetting (wpAny_ite ?_))
  have fin : wpAny M A (last (.ref f) [.ref x] >>= fun v => pure (some v)) Q E s := wpAny_bind (wpAny_mono h (fun v s' h' => wpAny_pure h') fun _ _ h' => h')
  split
  · exact wpAny_bind ((bind_fn X _ (beq_iff_eq.mp hf)).here (wpAny_pure (by exact fin)))
  · exact wpAny_tryCatch (wpAny_bind ((bind_fn X _ (beq_iff_eq.mp hf)).here (wpAny_pure (by exact fin))))
theorem em_under {b : Nat} {Q : Str → Shared → Prop} (hb : b ≤ sizeLine) (hu : A.units < cLine) (X : K.In s.heap) (I : InstAt s.heap x ox C od) (hr : findIn K (.ref C) "__repr__" = some (some (.ref f))) (hf : isFn K (.ref f) = true)
    (h : wpAny (model prog w) A (call (.ref f) [.ref x]) (fun v s2 => ∃ z u, v = .str z u ∧ Q z s2) E s) : wpAny (model prog w) A (pyReprUnder b (.ref x)) Q E s := by
  refine wpAny_pyReprUnder_ref hb ?_
  unfold pyReprObjUnder pyReprObjBy
  refine wpAny_bind (wpAny_cRoomFor hu ?_)
  refine wpAny_bind (m := specialOf (.ref x) (Str.ofString "__repr__")) ((I.type.andThen (looks_findIn X hr)).here ?_)
  refine wpAny_bind (em_boundBy X I hr hf ?_)
  show wpAny (model prog w) A (call (.ref f) ([.ref x] ++ [])) _ E s
  refine wpAny_mono h (fun v s2 hv => ?_) fun _ _ y => y
  obtain ⟨z, u, rfl, hq⟩ := hv
  exact wpAny_bind (wpAny_isInstance (T := "str") (b := true) (typeIs_str _ _ _) isSubtype_str_str (wpAny_pure ⟨z, u, rfl, hq⟩))
end
end PySem.W
namespace EM
open PySem PySem.Spec PyProof.Rows L2
end EM
/-! EM61: len of an instance, an instance subscripted, by its own defs. -/
namespace EM
open PySem PySem.Spec PyProof.Rows L2
end EM
/-! EM62: an error kept in a name behind its except suite. -/
namespace EM
open PySem PySem.Spec PyProof.Rows L2
/-- a caught error of the class cls with the dict d, kept at a -/
def exK (a : Addr) (cls : Value) (d : Option Addr) : HO := .ext fun h => ∃ (oe : Obj) (vs : Array Value), h.get? a = some oe ∧ Zc cls d oe ∧ oe.data = .fields vs
theorem exK_ok {P : Program} {w : World} {H : Hp} {h : Heap} {a : Addr} {cls : Value} {d : Option Addr} {oe : Obj} (e : h.get? a = some oe) (z : Zc cls d oe) (f : ∃ vs, oe.data = .fields vs) : ObjOk P w H h a (exK a cls d) := by
  obtain ⟨vs, hv⟩ := f
  exact ⟨⟨oe, vs, e, z, hv⟩, ⟨oe, e⟩, fun _ _ ⟨o, v, q, r⟩ k => ⟨o, v, k o q, r⟩⟩
end EM
/-! EM63: isinstance and the fields of an error that is kept in a name. -/
namespace EM
open PySem PySem.Spec PyProof.Rows L2
structure ExcK (K : PySem.W.Frag) (D : Addr) : Prop where
  c : ExcC K D
  cl : (PySem.W.clsIn K D).isSome = true
theorem excB_ok {K : PySem.W.Frag} {D : Addr} (h : excB K D = true) : ExcK K D := by
  obtain ⟨h1, h⟩ := Bool.and_eq_true_iff.mp h
  obtain ⟨h2, h⟩ := Bool.and_eq_true_iff.mp h
  obtain ⟨h3, h⟩ := Bool.and_eq_true_iff.mp h
  obtain ⟨h4, h⟩ := Bool.and_eq_true_iff.mp h
  obtain ⟨h5, h⟩ := Bool.and_eq_true_iff.mp h
  obtain ⟨h6, h⟩ := Bool.and_eq_true_iff.mp h
  obtain ⟨h7, h⟩ := Bool.and_eq_true_iff.mp h
  obtain ⟨h8, h9⟩ := Bool.and_eq_true_iff.mp h
  exact ⟨⟨of_decide_eq_true h1, of_decide_eq_true h2, of_decide_eq_true h3, h4, of_decide_eq_true h5, of_decide_eq_true h6, of_decide_eq_true h7, of_decide_eq_true h8⟩, h9⟩
/-- an error of the class C with the fields fs is kept at a -/
structure ErrP (p : Addr) (H : Hp) (a C d : Addr) (fs : List (Str × V)) : Prop where
  at_ : At p H a (exK a (.ref C) (some d))
  xd : At p H d (.xd fs)
theorem exK_ntbl {a : Addr} {cls : Value} {d : Option Addr} : ∀ ps, exK a cls d ≠ .tbl ps := fun ps z => by
  unfold exK at z
  cases z
theorem exK_nlst {a : Addr} {cls : Value} {d : Option Addr} : ∀ xs, exK a cls d ≠ .lst xs := fun ps z => by
  unfold exK at z
  cases z
theorem ErrP.ext {p : Addr} {H H' : Hp} {a C d : Addr} {fs : List (Str × V)} (h : ErrP p H a C d fs) (x : Ext p H H') : ErrP p H' a C d fs := ⟨h.at_.ext x, h.xd.ext x⟩
theorem Mu.err {p : Addr} {H H' : Hp} {a C d c : Addr} {fs : List (Str × V)} {xs ys : List V} (m : Mu c H H' (.lst ys)) (h : ErrP p H a C d fs) (g : At p H c (.lst xs)) : ErrP p H' a C d fs :=
  ⟨m.at_k h.at_ g exK_nlst, m.at_k h.xd g (by intro _ z; cases z)⟩
/-- the kept error is tracked from here on -/
theorem Bs.keepX {T : List (Addr × Str)} {p l a : Addr} {n : Nat} {H : Hp} {cls : Value} {d : Option Addr} (B : Bs T p l n H) (h : H a = none) : New H a (exK a cls d) (upd H a (exK a cls d)) := ⟨h, same_upd h, upd_same⟩
def rIsX (K : PySem.W.Frag) : List V → Hp → VK → Prop := fun xs H Q => ∃ p a C d fs c, xs = [.ref a, c] ∧ ErrP p H a C d fs ∧ ExcK K C ∧
  ((∃ cv b, ClsV c cv ∧ PySem.W.kitOne K (.ref C) cv = some b ∧ Q (.bl b) H) ∨ (∃ tp cs us b, c = .ref tp ∧ H tp = some (.tup cs) ∧ Paired ClsV cs us ∧ PySem.W.kitAny K (.ref C) us = some b ∧ Q (.bl b) H))
section
variable {X : Cx} {p : Addr}
theorem err_inst {pins : List (Addr × Obj)} {s : Shared} {σ : L2.St} {H : Hp} {a C d : Addr} {fs : List (Str × V)} (I : Inv X pins σ H s) (h : ErrP p H a C d fs) : ∃ oe od, PySem.W.InstAt s.heap a oe C (some od) ∧ s.heap.get? a = some oe ∧ s.heap.get? d = some od ∧ (∃ vs, oe.data = .fields vs) := by
  obtain ⟨⟨oe, vs, h1, hz, hd⟩, _⟩ := I.hok a _ h.at_.at_
  obtain ⟨mA, hns, hr⟩ := (show ObjOk X.prog X.w H s.heap d (.xd fs) from I.hok d _ h.xd.at_)
  obtain ⟨od, ho, hl⟩ := lookIn_ns hns
  exact ⟨oe, od, ⟨h1, hz.1, by unfold PySem.W.notCls; rw [hd] <;> rfl, by rw [hz.2]; exact ho⟩, h1, ho, vs, hd⟩
theorem call_isX : CallR X (.builtin "isinstance") (rIsX X.K) := by
  intro pins s σ H xs us Q I r h
  obtain ⟨p, a, C, d, fs, c, rfl, he, K1, h⟩ := h
  obtain ⟨oe, od, J, h1, _, vs, hv⟩ := err_inst I he
  obtain ⟨u1, u2, rfl, r1, r2⟩ := vals2 r
  cases (show u1 = Value.ref a from r1)
  have Z := PySem.W.kitx_exc (x := a) (ox := oe) (od := some od) K1.cl K1.c.hg K1.c.hk K1.c.hs K1.c.ha K1.c.hn K1.c.ht K1.c.hm
  rcases h with ⟨cv, b, k, e, q⟩ | ⟨tp, cs, ws, b, rfl, hT, k, e, q⟩
  · have e2 := k.eq r2
    subst e2
    exact PySem.W.kia_one Z I.kIn J e (fun z => nomatch z) fun tk => ⟨.bl b, H, I.tok tk, rfl, q⟩
  · cases (show u2 = Value.ref tp from r2)
    obtain ⟨_, its, rv, o, h1, h2, n, h3⟩ := (show ObjOk X.prog X.w H s.heap tp (.tup cs) from I.hok tp _ hT)
    have e3 := ClsV.all k rv
    subst e3
    obtain ⟨oc, od, dt, sl⟩ := o
    simp only at h2 h3
    subst h2 h3
    exact PySem.W.kia_tup Z I.kIn J h1 e (fun z => nomatch z) fun tk => ⟨.bl b, H, I.tok tk, rfl, q⟩
/-- the reading of a field of a kept error -/
structure XkS (K : PySem.W.Frag) (n : Str) (x : V) (H1 : Hp) (Q : VK) : Prop where
  h : ∃ p a C d fs v, x = .ref a ∧ ErrP p H1 a C d fs ∧ XfC K C ∧ PySem.W.findIn K (.ref C) n = some none ∧ fs.lookup n = some v ∧ Q v H1
def tXk (K : PySem.W.Frag) (n : Str) (te : TE) : TE := fun σ H Q => te σ H fun x H1 => XkS K n x H1 Q
theorem pe_xk {e : Expr} {te : TE} {pos : Pos} {n : Str} (he : PE X e te) (hb : attributeBase e n X.env (eval e X.env) = eval e X.env := by rfl) : PE X (.Attribute e n pos) (tXk X.K n te) := by
  refine ⟨fun pins s σ H Q I h => ?_⟩
  refine attr_of hb (thn (he.run pins s σ H _ I h) fun u s1 hh => ?_)
  obtain ⟨x, H1, I1, rx, ⟨p, a, C, d, fs, v, ex, E1, T, hno, l, q⟩⟩ := hh
  subst ex
  obtain rfl : u = Value.ref a := rx
  obtain ⟨⟨oe, vs, h1, hz, hd⟩, _⟩ := I1.hok a _ E1.at_.at_
  obtain ⟨mA, hns, hr⟩ := (show ObjOk X.prog X.w H1 s1.heap d (.xd fs) from I1.hok d _ E1.xd.at_)
  obtain ⟨od, ho, hl⟩ := lookIn_ns hns
  obtain ⟨u, hu, ru⟩ := RelO.some_of (v := v) (o := mA n) (by rw [← l]; exact hr n)
  have J : PySem.W.InstAt s1.heap a oe C (some od) := ⟨h1, hz.1, by unfold PySem.W.notCls; rw [hd] <;> rfl, by rw [hz.2]; exact ho⟩
  exact HandSPX.exc_get I1.kIn J T.ga T.gg T.exC (PySem.W.findObj_own T.hdC hno rfl (by rw [hl, hu])) (handed_of ru) ⟨v, H1, I1.tok _, ru, q⟩
end
end EM
/-! EM64: an instance whose field is written; readings: rows of rising fractions. -/
namespace EM
open PySem PySem.Spec PyProof.Rows L2
/-- all but the pen, the tables and the instance r stays -/
structure XtR (p r : Addr) (H H' : Hp) : Prop where
  k : ∀ b o, H b = some o → b ≠ p → b ≠ r → (∀ ps, o ≠ .tbl ps) → H' b = some o
section
variable {T : List (Addr × Str)} {p l l0 r a b : Addr} {n : Nat} {H H1 H2 H' : Hp} {o o2 : HO} {K : PySem.W.Frag} {xs ys : List V} {v : V} {t c : Int} {C dx : Addr} {fs gs : List (Str × V)}
theorem XtR.refl : XtR p r H H := ⟨fun _ _ e _ _ _ => e⟩
theorem XtR.of (x : Ext p H H') : XtR p r H H' := ⟨fun b o e n1 _ n3 => x.k b o e n1 n3⟩
theorem XtR.trans (x : XtR p r H H1) (y : XtR p r H1 H2) : XtR p r H H2 := ⟨fun b o e n1 n2 n3 => y.k b o (x.k b o e n1 n2 n3) n1 n2 n3⟩
theorem XtR.mu (m : Mu r H H' o) : XtR p r H H' := ⟨fun b u e _ n2 _ => by rw [m.old b n2]; exact e⟩
theorem XtR.at_n (x : XtR p r H H') (h : At p H a o) (nr : a ≠ r) : At p H' a o := ⟨x.k a o h.at_ h.ne nr h.nt, h.ne, h.nt⟩
theorem XtR.at_ (x : XtR p r H H') (h : At p H a o) (g : At p H r (.ins C dx fs)) (ne : o ≠ .ins C dx fs) : At p H' a o := x.at_n h (ne_of h.at_ g.at_ ne)
theorem XtR.rat (x : XtR p r H H') (h : RatP K p H a t c) (g : At p H r (.ins C dx fs)) (ne : fs ≠ rf t c) : RatP K p H' a t c := by
  obtain ⟨⟨d, h⟩, n⟩ := h
  exact ⟨⟨d, x.k a _ h n (ne_of h g.at_ (by intro z; injection z with _ _ z; exact ne z.symm)) (fun _ z => by cases z)⟩, n⟩
theorem XtR.num (x : XtR p r H H') (h : NumP K p H v t c) (g : At p H r (.ins C dx fs)) (ne : fs ≠ rf t c) : NumP K p H' v t c := by
  obtain ⟨⟨lo, h⟩, n⟩ := h
  refine ⟨⟨lo, ?_⟩, n⟩
  rcases h with ⟨a, rfl, q⟩ | h
  · exact .inl ⟨a, rfl, (x.rat (K := K) ⟨q, fun z => n (by rw [z])⟩ g ne).rat⟩
  · exact .inr h
end
/-! ### readings -/
abbrev rdf (q : Addr) : List (Str × V) := [("own_edges", .ref q)]
/-- the reading at r holds the tuple q of the Ratios es -/
structure RdP (K : PySem.W.Frag) (p : Addr) (H : Hp) (r q : Addr) (es : List (Int × Int)) : Prop where
  h : ∃ dx xs, At p H r (.ins (He.ga K "Reading") dx (rdf q)) ∧ At p H q (.tup xs) ∧ RatsP K p H xs es
section
variable {T : List (Addr × Str)} {p l r q a b : Addr} {n : Nat} {H H1 H2 H' : Hp} {K : PySem.W.Frag} {xs ys : List V} {es : List (Int × Int)}
theorem RatsP.ext (h : RatsP K p H xs es) (x : Ext p H H') : RatsP K p H' xs es := ⟨h.len, fun i y t e1 e2 => by
  obtain ⟨a, e, r⟩ := h.h i y t e1 e2
  exact ⟨a, e, r.ext x⟩⟩
theorem RdP.ext (h : RdP K p H r q es) (x : Ext p H H') : RdP K p H' r q es := by
  obtain ⟨dx, xs, h1, h2, h3⟩ := h
  exact ⟨dx, xs, h1.ext x, h2.ext x, h3.ext x⟩
theorem RdP.at_ (h : RdP K p H r q es) : ∃ dx, At p H r (.ins (He.ga K "Reading") dx (rdf q)) := let ⟨dx, _, h1, _⟩ := h.h; ⟨dx, h1⟩
end
/-! ### rows, plainly -/
/-- a rising row of fractions in lowest terms, of at most n bits -/
structure RowOk (n : Nat) (es : List (Int × Int)) : Prop where
  low : ∀ e ∈ es, Low e.1 e.2
  bt : ∀ e ∈ es, Bt n e.1 ∧ Bt n e.2
  rise : ∀ (i : Nat) e f, es[i]? = some e → es[i + 1]? = some f → e.1 * f.2 < f.1 * e.2
def addF (b : Int × Int) (e : Int × Int) : Int × Int := (nTop (e.1 * b.2 + b.1 * e.2) (e.2 * b.2), nBot (e.1 * b.2 + b.1 * e.2) (e.2 * b.2))
def mulF (b : Int × Int) (e : Int × Int) : Int × Int := (nTop (e.1 * b.1) (e.2 * b.2), nBot (e.1 * b.1) (e.2 * b.2))
theorem RowOk.mono {n m : Nat} {es : List (Int × Int)} (h : RowOk n es) (e : n ≤ m) : RowOk m es := ⟨h.low, fun e he => ⟨(h.bt e he).1.mono ‹_›, (h.bt e he).2.mono ‹_›⟩, h.rise⟩
theorem addF_low {b e : Int × Int} (hb : Low b.1 b.2) (he : Low e.1 e.2) : Low (addF b e).1 (addF b e).2 := n_low (Int.mul_ne_zero (by have := he.pos; omega) (by have := hb.pos; omega))
theorem mulF_low {b e : Int × Int} (hb : Low b.1 b.2) (he : Low e.1 e.2) : Low (mulF b e).1 (mulF b e).2 := n_low (Int.mul_ne_zero (by have := he.pos; omega) (by have := hb.pos; omega))
theorem addF_bt {b e : Int × Int} {n m k : Nat} (hb : Low b.1 b.2) (he : Low e.1 e.2) (h1 : Bt n e.1 ∧ Bt n e.2) (h2 : Bt m b.1 ∧ Bt m b.2) (hk : n + m + 1 ≤ k) : Bt k (addF b e).1 ∧ Bt k (addF b e).2 := by
  have h0 : e.2 * b.2 ≠ 0 := Int.mul_ne_zero (by have := he.pos; omega) (by have := hb.pos; omega)
  have t1 : Bt (n + m + 1) (e.1 * b.2 + b.1 * e.2) := ((h1.1.mul h2.2).add' (h2.1.mul h1.2)).mono (by omega)
  have t2 : Bt (n + m) (e.2 * b.2) := h1.2.mul h2.2
  exact ⟨(t1.top h0).mono hk, (t2.bot h0).mono (by omega)⟩
theorem mulF_bt {b e : Int × Int} {n m k : Nat} (hb : Low b.1 b.2) (he : Low e.1 e.2) (h1 : Bt n e.1 ∧ Bt n e.2) (h2 : Bt m b.1 ∧ Bt m b.2) (hk : n + m ≤ k) : Bt k (mulF b e).1 ∧ Bt k (mulF b e).2 := by
  have h0 : e.2 * b.2 ≠ 0 := Int.mul_ne_zero (by have := he.pos; omega) (by have := hb.pos; omega)
  exact ⟨((h1.1.mul h2.1).top h0).mono hk, ((h1.2.mul h2.2).bot h0).mono hk⟩
theorem addF_lt {b e f : Int × Int} (hb : Low b.1 b.2) (he : Low e.1 e.2) (hf : Low f.1 f.2) : (addF b e).1 * (addF b f).2 < (addF b f).1 * (addF b e).2 ↔ e.1 * f.2 < f.1 * e.2 := by
  have b0 := hb.pos
  have e0 := he.pos
  have f0 := hf.pos
  have p1 : 0 < e.2 * b.2 := Int.mul_pos e0 b0
  have p2 : 0 < f.2 * b.2 := Int.mul_pos f0 b0
  refine (cross_lt (addF_low hb he).pos (addF_low hb hf).pos p1 p2 n_cross n_cross).trans ?_
  exact move_lt b0
theorem mulF_lt {b e f : Int × Int} (hb : Low b.1 b.2) (h0 : 0 < b.1) (he : Low e.1 e.2) (hf : Low f.1 f.2) : (mulF b e).1 * (mulF b f).2 < (mulF b f).1 * (mulF b e).2 ↔ e.1 * f.2 < f.1 * e.2 := by
  have b0 := hb.pos
  have e0 := he.pos
  have f0 := hf.pos
  have p1 : 0 < e.2 * b.2 := Int.mul_pos e0 b0
  have p2 : 0 < f.2 * b.2 := Int.mul_pos f0 b0
  refine (cross_lt (mulF_low hb he).pos (mulF_low hb hf).pos p1 p2 n_cross n_cross).trans ?_
  exact times_lt h0 b0
theorem RowOk.map {n k : Nat} {es : List (Int × Int)} {F : Int × Int → Int × Int} (h : RowOk n es) (hl : ∀ e ∈ es, Low (F e).1 (F e).2) (hb : ∀ e ∈ es, Bt k (F e).1 ∧ Bt k (F e).2) (hr : ∀ e ∈ es, ∀ f ∈ es, e.1 * f.2 < f.1 * e.2 → (F e).1 * (F f).2 < (F f).1 * (F e).2) : RowOk k (es.map F) := by
  refine ⟨fun e he => ?_, fun e he => ?_, fun i e f h1 h2 => ?_⟩
  · obtain ⟨e0, h0, rfl⟩ := List.mem_map.mp he
    exact hl _ h0
  · obtain ⟨e0, h0, rfl⟩ := List.mem_map.mp he
    exact hb _ h0
  · rw [List.getElem?_map] at h1 h2
    obtain ⟨e0, g1, rfl⟩ := Option.map_eq_some_iff.mp h1
    obtain ⟨f0, g2, rfl⟩ := Option.map_eq_some_iff.mp h2
    exact hr _ (List.mem_of_getElem? g1) _ (List.mem_of_getElem? g2) (h.rise i _ _ g1 g2)
theorem RowOk.add {n m k : Nat} {es : List (Int × Int)} {b : Int × Int} (h : RowOk n es) (hb : Low b.1 b.2) (h2 : Bt m b.1 ∧ Bt m b.2) (hk : n + m + 1 ≤ k) : RowOk k (es.map (addF b)) :=
  h.map (fun e he => addF_low hb (h.low e he)) (fun e he => addF_bt hb (h.low e he) (h.bt e he) h2 hk) (fun e he f hf z => (addF_lt hb (h.low e he) (h.low f hf)).mpr z)
theorem RowOk.mul {n m k : Nat} {es : List (Int × Int)} {b : Int × Int} (h : RowOk n es) (hb : Low b.1 b.2) (h0 : 0 < b.1) (h2 : Bt m b.1 ∧ Bt m b.2) (hk : n + m ≤ k) : RowOk k (es.map (mulF b)) :=
  h.map (fun e he => mulF_low hb (h.low e he)) (fun e he => mulF_bt hb (h.low e he) (h.bt e he) h2 hk) (fun e he f hf z => (mulF_lt hb h0 (h.low e he) (h.low f hf)).mpr z)
end EM
/-! EM65: the order of great numbers (EM43 with more bits). -/
namespace EM
open PySem PySem.Spec PyProof.Rows L2
end EM
/-! EM66: == of tuples whose items are compared by defs of the program. -/
namespace PySem.SeqAt
open AutoSeq1 (wpAny_loadPart')
open MeetsSeq MeetsSeq2 MeetsSeq3 SeqRoads2
end PySem.SeqAt
/-! EM67: promises of readings; fields read anew; a subscript of an instance that is set; tuples of Ratios compared. -/
namespace EM
open PySem PySem.Spec PyProof.Rows L2
/-! ### fields -/
/-! ### isinstance of kept errors, told -/
/-! ### promises of readings -/
/-- an index that is none -/
def NoIxR (K : PySem.W.Frag) (p : Addr) (H : Hp) (m : Nat) (y : V) : Prop := (∃ i, y = .int i ∧ ¬ (0 ≤ i ∧ i < (m : Int))) ∨ OddM K p H y
theorem NoIxR.ext {K : PySem.W.Frag} {p : Addr} {H H' : Hp} {m : Nat} {y : V} (h : NoIxR K p H m y) (x : Ext p H H') : NoIxR K p H' m y := by
  rcases h with h | h
  · exact .inl h
  · exact .inr (h.ext x)
/-- an own error with one field -/
def ErrOut (K : PySem.W.Frag) (T : List (Addr × Str)) (p l : Addr) (n : Nat) (H : Hp) (E : XK) (C f : Str) (v : V) : Prop := ∀ d H', Ext p H H' → Bs T p l n H' → At p H' d (.xd [(f, v)]) → E (.ref (He.ga K C)) (some d) H'
theorem ErrOut.ext {K : PySem.W.Frag} {T : List (Addr × Str)} {p l : Addr} {n : Nat} {H H1 : Hp} {E : XK} {C f : Str} {v : V} (h : ErrOut K T p l n H E C f v) (x : Ext p H H1) : ErrOut K T p l n H1 E C f v := fun d H' x1 B1 a1 => h d H' (x.trans x1) B1 a1
/-- nothing that is kept stood at r -/
structure Fresh (p : Addr) (H : Hp) (r : Addr) : Prop where
  h : ∀ o, H r = some o → r = p ∨ ∃ ps, o = .tbl ps
theorem Fresh.none {p r : Addr} {H : Hp} (h : H r = none) : Fresh p H r := ⟨fun o e => by rw [h] at e; cases e⟩
theorem Fresh.ne {p r a : Addr} {H : Hp} {o : HO} (f : Fresh p H r) (h : At p H a o) : r ≠ a := fun z => by
  subst z
  rcases f.h o h.at_ with e | ⟨ps, e⟩
  · exact h.ne e
  · exact h.nt ps e
/-! ### r[i] = v by an own __setitem__ -/
/-! ### tuples of Ratios compared -/
end EM
/-! EM68: enumerate of a tuple, told; rows grown item by item. -/
namespace EM
open PySem PySem.Spec PyProof.Rows L2
section
variable {T : List (Addr × Str)} {p l a b : Addr} {n : Nat} {H H' : Hp} {K : PySem.W.Frag} {xs ys : List V} {R : It → Hp → Prop} {es fs : List (Int × Int)}
theorem RatsP.nil : RatsP K p H [] [] := ⟨rfl, fun i x t e => by simp at e⟩
theorem PairsP.nil : PairsP p H [] [] := ⟨rfl, fun i x t e => by simp at e⟩
/-- an item of a row -/
theorem RatsP.get {i : Nat} {e : Int × Int} (h : RatsP K p H xs es) (g : es[i]? = some e) : ∃ a, xs[i]? = some (.ref a) ∧ RatP K p H a e.1 e.2 := by
  have hi : i < xs.length := by rw [h.len]; exact (List.getElem?_eq_some_iff.mp g).1
  obtain ⟨a, ea, r⟩ := h.h i _ e (List.getElem?_eq_getElem hi) g
  exact ⟨a, by rw [List.getElem?_eq_getElem hi, ea], r⟩
theorem PairsP.get {i : Nat} {e : Int × Int} (h : PairsP p H xs es) (g : es[i]? = some e) : ∃ a, xs[i]? = some (.ref a) ∧ At p H a (.tup [.int e.1, .int e.2]) := by
  have hi : i < xs.length := by rw [h.len]; exact (List.getElem?_eq_some_iff.mp g).1
  obtain ⟨a, ea, r⟩ := h.h i _ e (List.getElem?_eq_getElem hi) g
  exact ⟨a, by rw [List.getElem?_eq_getElem hi, ea], r⟩
theorem NumsP.get {i : Nat} {e : Int × Int} (h : NumsP K p H xs es) (g : es[i]? = some e) : ∃ v, xs[i]? = some v ∧ NumP K p H v e.1 e.2 := by
  have hi : i < xs.length := by rw [h.len]; exact (List.getElem?_eq_some_iff.mp g).1
  exact ⟨_, List.getElem?_eq_getElem hi, h.h i _ e (List.getElem?_eq_getElem hi) g⟩
end
/-! ### starred items of a display, slices of tuples -/
theorem RatsP.set {K : PySem.W.Frag} {p a : Addr} {H : Hp} {xs : List V} {es : List (Int × Int)} {i : Nat} {e : Int × Int} (h : RatsP K p H xs es) (g : RatP K p H a e.1 e.2) : RatsP K p H (xs.set i (.ref a)) (es.set i e) := by
  refine ⟨by simp [h.len], fun j x t e1 e2 => ?_⟩
  rw [List.getElem?_set] at e1 e2
  by_cases z : i = j
  · subst z
    by_cases hl : i < xs.length
    · rw [if_pos rfl, if_pos hl] at e1
      rw [if_pos rfl, if_pos (by rw [← h.len]; exact hl)] at e2
      cases e1
      cases e2
      exact ⟨a, rfl, g⟩
    · rw [if_pos rfl, if_neg hl] at e1
      cases e1
  · rw [if_neg z] at e1 e2
    exact h.h j x t e1 e2
end EM
/-! EM69: fractions over one bottom: bounds that do not grow with every sum. -/
namespace EM
open PySem PySem.Spec PyProof.Rows L2
/-- in lowest terms, the bottom divides D, the value is at most M -/
structure Dv (D M : Nat) (e : Int × Int) : Prop where
  low : Low e.1 e.2
  dvd : e.2 ∣ (D : Int)
  le : (e.1.natAbs : Int) ≤ M * e.2
theorem Dv.mono {D M D' M' : Nat} {e : Int × Int} (h : Dv D M e) (h1 : D ∣ D') (h2 : M ≤ M') : Dv D' M' e :=
  ⟨h.low, Int.dvd_trans h.dvd (Int.natCast_dvd_natCast.mpr h1), Int.le_trans h.le (Int.mul_le_mul_of_nonneg_right (by omega) (Int.le_of_lt h.low.pos))⟩
theorem dvd_cop {a b : Int} {D : Int} (h : Low a b) (g : b ∣ a * D) : b ∣ D := by
  have h1 : b.natAbs ∣ a.natAbs * D.natAbs := by
    have := Int.natAbs_dvd_natAbs.mpr g
    rwa [Int.natAbs_mul] at this
  have h2 : Nat.Coprime b.natAbs a.natAbs := by
    have := h.red
    rw [Int.gcd_comm] at this
    exact this
  exact Int.natAbs_dvd_natAbs.mp (h2.dvd_of_dvd_mul_left h1)
theorem n_dvd {x y X : Int} {D : Nat} (hy : y ≠ 0) (e : x * D = X * y) : nBot x y ∣ (D : Int) := by
  refine dvd_cop (n_low (t := x) hy) ?_
  have h1 := n_cross (t := x) (b := y)
  have h2 : nTop x y * (D : Int) = X * nBot x y := by
    refine Int.eq_of_mul_eq_mul_right (a := y) hy ?_
    calc nTop x y * D * y = (nTop x y * y) * D := by ac_rfl
      _ = x * nBot x y * D := by rw [h1]
      _ = (x * D) * nBot x y := by ac_rfl
      _ = (X * y) * nBot x y := by rw [e]
      _ = X * nBot x y * y := by ac_rfl
  rw [h2]
  exact Int.dvd_mul_left _ _
theorem n_le {x y : Int} {M : Nat} (hy : 0 < y) (h : (x.natAbs : Int) ≤ M * y) : ((nTop x y).natAbs : Int) ≤ M * nBot x y := by
  have lo := n_low (t := x) (show y ≠ 0 by omega)
  have h1 := n_cross (t := x) (b := y)
  have e : ((nTop x y).natAbs : Int) * y = (x.natAbs : Int) * nBot x y := by
    have := congrArg Int.natAbs h1
    rw [Int.natAbs_mul, Int.natAbs_mul] at this
    have z := congrArg (Nat.cast : Nat → Int) this
    rw [Int.natCast_mul, Int.natCast_mul] at z
    rw [show ((y.natAbs : Nat) : Int) = y from by omega, show (((nBot x y).natAbs : Nat) : Int) = nBot x y from by have := lo.pos; omega] at z
    exact z
  refine Int.le_of_mul_le_mul_right (a := y) ?_ hy
  rw [e]
  calc (x.natAbs : Int) * nBot x y ≤ (M * y) * nBot x y := Int.mul_le_mul_of_nonneg_right h (Int.le_of_lt lo.pos)
    _ = M * nBot x y * y := by ac_rfl
theorem Dv.add {D M N : Nat} {b e : Int × Int} (hb : Dv D N b) (he : Dv D M e) : Dv D (M + N) (addF b e) := by
  have b0 := hb.low.pos
  have e0 := he.low.pos
  have y0 : 0 < e.2 * b.2 := Int.mul_pos e0 b0
  refine ⟨addF_low hb.low he.low, ?_, ?_⟩
  · obtain ⟨k1, h1⟩ := he.dvd
    obtain ⟨k2, h2⟩ := hb.dvd
    refine n_dvd (X := e.1 * k1 + b.1 * k2) (by omega) ?_
    calc (e.1 * b.2 + b.1 * e.2) * (D : Int) = e.1 * b.2 * D + b.1 * e.2 * D := Int.add_mul ..
      _ = e.1 * b.2 * (e.2 * k1) + b.1 * e.2 * (b.2 * k2) := by rw [← h1, ← h2]
      _ = (e.1 * k1 + b.1 * k2) * (e.2 * b.2) := by rw [Int.add_mul]; congr 1 <;> ac_rfl
  · refine n_le y0 ?_
    have h1 : ((e.1 * b.2).natAbs : Int) ≤ M * e.2 * b.2 := by
      rw [Int.natAbs_mul, Int.natCast_mul, show ((b.2.natAbs : Nat) : Int) = b.2 from by omega]
      exact Int.mul_le_mul_of_nonneg_right he.le (by omega)
    have h2 : ((b.1 * e.2).natAbs : Int) ≤ N * b.2 * e.2 := by
      rw [Int.natAbs_mul, Int.natCast_mul, show ((e.2.natAbs : Nat) : Int) = e.2 from by omega]
      exact Int.mul_le_mul_of_nonneg_right hb.le (by omega)
    have h3 : (((e.1 * b.2 + b.1 * e.2).natAbs : Nat) : Int) ≤ ((e.1 * b.2).natAbs : Int) + ((b.1 * e.2).natAbs : Int) := by omega
    have h4 : ((M + N : Nat) : Int) * (e.2 * b.2) = M * e.2 * b.2 + N * b.2 * e.2 := by
      rw [Int.natCast_add, Int.add_mul]
      congr 1 <;> ac_rfl
    rw [h4]
    omega
theorem Dv.mul {D D2 M N : Nat} {b e : Int × Int} (hb : Dv D2 N b) (he : Dv D M e) : Dv (D * D2) (M * N) (mulF b e) := by
  have b0 := hb.low.pos
  have e0 := he.low.pos
  have y0 : 0 < e.2 * b.2 := Int.mul_pos e0 b0
  refine ⟨mulF_low hb.low he.low, ?_, ?_⟩
  · obtain ⟨k1, h1⟩ := he.dvd
    obtain ⟨k2, h2⟩ := hb.dvd
    refine n_dvd (X := e.1 * b.1 * (k1 * k2)) (by omega) ?_
    rw [Int.natCast_mul, h1, h2]
    ac_rfl
  · refine n_le y0 ?_
    rw [Int.natAbs_mul, Int.natCast_mul, Int.natCast_mul]
    calc (e.1.natAbs : Int) * (b.1.natAbs : Int) ≤ (M * e.2) * (N * b.2) := Int.mul_le_mul he.le hb.le (by omega) (Int.le_trans (by omega) he.le)
      _ = M * N * (e.2 * b.2) := by ac_rfl
theorem Dv.neg {D M : Nat} {e : Int × Int} (h : Dv D M e) : Dv D M (-e.1, e.2) := ⟨low_neg h.low, h.dvd, by rw [show (-e.1, e.2).1 = -e.1 from rfl, Int.natAbs_neg]; exact h.le⟩
theorem Dv.bt {D M k m : Nat} {e : Int × Int} (h : Dv D M e) (hD : 0 < D) (h1 : D < 2 ^ k) (h2 : M < 2 ^ m) : Bt (k + m) e.1 ∧ Bt (k + m) e.2 := by
  have e0 := h.low.pos
  have h3 : e.2.natAbs ≤ D := by
    have := Nat.le_of_dvd hD (Int.natCast_dvd_natCast.mp (by rw [Int.dvd_natAbs.symm] at *; exact (Int.natAbs_dvd.mpr h.dvd)))
    exact this
  have k2 : Bt k e.2 := Nat.lt_of_le_of_lt h3 h1
  refine ⟨?_, k2.mono (by omega)⟩
  have h4 := h.le
  have h5 : e.1.natAbs ≤ M * e.2.natAbs := by
    have : ((M * e.2.natAbs : Nat) : Int) = M * e.2 := by
      rw [Int.natCast_mul, show ((e.2.natAbs : Nat) : Int) = e.2 from by omega]
    omega
  show e.1.natAbs < 2 ^ (k + m)
  rw [Nat.pow_add]
  refine Nat.lt_of_le_of_lt h5 ?_
  rw [Nat.mul_comm (2 ^ k)]
  exact Nat.mul_lt_mul'' h2 k2
/-- a rising row over the bottom D -/
structure RowD (D M : Nat) (es : List (Int × Int)) : Prop where
  dv : ∀ e ∈ es, Dv D M e
  rise : ∀ (i : Nat) e f, es[i]? = some e → es[i + 1]? = some f → e.1 * f.2 < f.1 * e.2
theorem RowD.mono {D M D' M' : Nat} {es : List (Int × Int)} (h : RowD D M es) (h1 : D ∣ D') (h2 : M ≤ M') : RowD D' M' es := ⟨fun e he => (h.dv e he).mono h1 h2, h.rise⟩
theorem RowD.ok {D M k m n : Nat} {es : List (Int × Int)} (h : RowD D M es) (hD : 0 < D) (h1 : D < 2 ^ k) (h2 : M < 2 ^ m) (hn : k + m ≤ n) : RowOk n es :=
  ⟨fun e he => (h.dv e he).low, fun e he => ⟨((h.dv e he).bt hD h1 h2).1.mono hn, ((h.dv e he).bt hD h1 h2).2.mono hn⟩, h.rise⟩
theorem RowD.add {D M N : Nat} {es : List (Int × Int)} {b : Int × Int} (h : RowD D M es) (hb : Dv D N b) : RowD D (M + N) (es.map (addF b)) := by
  refine ⟨fun e he => ?_, fun i e f h1 h2 => ?_⟩
  · obtain ⟨e0, h0, rfl⟩ := List.mem_map.mp he
    exact hb.add (h.dv _ h0)
  · rw [List.getElem?_map] at h1 h2
    obtain ⟨e0, g1, rfl⟩ := Option.map_eq_some_iff.mp h1
    obtain ⟨f0, g2, rfl⟩ := Option.map_eq_some_iff.mp h2
    exact (addF_lt hb.low (h.dv _ (List.mem_of_getElem? g1)).low (h.dv _ (List.mem_of_getElem? g2)).low).mpr (h.rise i _ _ g1 g2)
theorem RowD.mul {D D2 M N : Nat} {es : List (Int × Int)} {b : Int × Int} (h : RowD D M es) (hb : Dv D2 N b) (h0 : 0 < b.1) : RowD (D * D2) (M * N) (es.map (mulF b)) := by
  refine ⟨fun e he => ?_, fun i e f h1 h2 => ?_⟩
  · obtain ⟨e0, h0, rfl⟩ := List.mem_map.mp he
    exact hb.mul (h.dv _ h0)
  · rw [List.getElem?_map] at h1 h2
    obtain ⟨e0, g1, rfl⟩ := Option.map_eq_some_iff.mp h1
    obtain ⟨f0, g2, rfl⟩ := Option.map_eq_some_iff.mp h2
    exact (mulF_lt hb.low h0 (h.dv _ (List.mem_of_getElem? g1)).low (h.dv _ (List.mem_of_getElem? g2)).low).mpr (h.rise i _ _ g1 g2)
end EM
/-! EM70: a statement at which the stepping word stops, what stands behind it read once. -/
namespace EM
open PySem PySem.Spec PyProof.Rows L2
end EM
/-! EM71: list(list), rows of pairs as data. -/
namespace EM
open PySem PySem.Spec PyProof.Rows L2
end EM
/-! EM72: an instance whose class has an operator but no reflected one, with an int; an operator in place by its own def. -/
namespace EM
open PySem PySem.Spec PyProof.Rows L2
end EM
/-! EM73: targets of two names hand on what is wanted. -/
namespace EM
open PySem PySem.Spec PyProof.Rows L2
end EM
/-! EM74: fractions over one bottom as whole numbers. -/
namespace EM
open PySem PySem.Spec PyProof.Rows L2
/-- the number of D-th parts -/
def sc (D : Nat) (e : Int × Int) : Int := e.1 * ((D : Int) / e.2)
end EM
/-! EM75: lambdas that are kept: the function object is tracked from its making on; a def is called with it later. -/
namespace EM
open PySem PySem.Spec PyProof.Rows L2
/-! ### the rules -/
end EM
/-! EM76: w in (i, j, ..) for ints; texts of numbers. -/
namespace EM
open PySem PySem.Spec PyProof.Rows L2
end EM
/-! EM77: an operator whose left side's own def declines (NotImplemented), the right side's reflected def answers; an instance op one of another class, without a reflected def. -/
namespace PySem.W
open PySem PySem.Calls PyProof.Rows Builtin
end PySem.W
namespace EM
open PySem PySem.Spec PyProof.Rows L2
end EM
/-! EM78: enumerate, list(..), tuple(..) of a list or a tuple; integers among other items. -/
namespace EM
open PySem PySem.Spec PyProof.Rows L2
section
variable {K : PySem.W.Frag} {T : List (Addr × Str)} {p l a b : Addr} {n : Nat} {H H' : Hp} {xs ys : List V} {Q : VK}
theorem SeqV.eq (h : SeqV p H a xs) (x : Ext p H H') : H' a = H a := h.elim (·.eq x) (·.eq x)
end
/-! ### integers among other items -/
/-- a value that is the integer o, or is none -/
def ItI (K : PySem.W.Frag) (p : Addr) (H : Hp) (v : V) : Option Int → Prop
  | some i => v = .int i
  | none => OddM K p H v
theorem ItI.ext {K : PySem.W.Frag} {p : Addr} {H H' : Hp} {v : V} {o : Option Int} (h : ItI K p H v o) (x : Ext p H H') : ItI K p H' v o := by
  cases o with
  | some e => exact h
  | none => exact OddM.ext h x
structure ItsI (K : PySem.W.Frag) (p : Addr) (H : Hp) (xs : List V) (os : List (Option Int)) : Prop where
  len : xs.length = os.length
  h : ∀ (i : Nat) (v : V) (o : Option Int), xs[i]? = some v → os[i]? = some o → ItI K p H v o
theorem ItsI.ext {K : PySem.W.Frag} {p : Addr} {H H' : Hp} {xs : List V} {os : List (Option Int)} (h : ItsI K p H xs os) (x : Ext p H H') : ItsI K p H' xs os := ⟨h.len, fun i v o a b => (h.h i v o a b).ext x⟩
theorem ItsI.all {K : PySem.W.Frag} {p : Addr} {H : Hp} {ws : List Int} : ItsI K p H (ws.map V.int) (ws.map some) := ⟨by simp, fun i v o a b => by
  rw [List.getElem?_map] at a b
  cases e : ws[i]? with
  | none => rw [e] at a; cases a
  | some w =>
    rw [e] at a b
    cases a
    cases b
    exact (rfl : V.int w = V.int w)⟩
end EM
/-! EM79: the head's run told in two parts (each part is a run of the kernel of its own, with less memory). -/
namespace EM
open PySem PySem.Spec PyProof.Rows L2
end EM
/-! EM80: x(e, ..) and x(k = v, ..) of an instance with its own __call__. -/
namespace PySem.W
open PySem PySem.Spec PySem.Calls PyProof.Rows
end PySem.W
namespace EM
open PySem PySem.Spec PyProof.Rows L2
end EM
/-! EM81: isinstance of a kept error without fields. -/
namespace EM
open PySem PySem.Spec PyProof.Rows L2
end EM
/-! EM82: repr of data that holds texts; zip of two lists. -/
namespace EM
open PySem PySem.Spec PyProof.Rows L2
/-- a datum that may be shown: its text has at most n signs, it is at most m deep -/
structure Fr (n m : Nat) (d : PyData) : Prop where
  sh : d.showable = true
  len : d.shown.length ≤ n
  dep : d.depth ≤ m
structure FrL (n m : Nat) (ds : List PyData) : Prop where
  sh : PyData.showableAll ds = true
  len : (ds.map fun d => d.shown.length).sum + 2 * ds.length ≤ n
  dep : PyData.depthAll ds ≤ m
theorem FrL.nil : FrL 0 0 [] := ⟨rfl, Nat.le_refl _, Nat.le_refl _⟩
theorem FrL.cons {n1 m1 n2 m2 : Nat} {d : PyData} {ds : List PyData} (h : Fr n1 m1 d) (g : FrL n2 m2 ds) : FrL (n1 + n2 + 2) (max m1 m2) (d :: ds) := by
  refine ⟨?_, ?_, ?_⟩
  · show (d.showable && PyData.showableAll ds) = true
    rw [h.sh, g.sh]
    rfl
  · have h1 := h.len
    have h2 := g.len
    simp only [List.map_cons, List.sum_cons, List.length_cons]
    omega
  · show max d.depth (PyData.depthAll ds) ≤ _
    have h1 := h.dep
    have h2 := g.dep
    omega
theorem Fr.list {n m : Nat} {ds : List PyData} (g : FrL n m ds) : Fr (n + 3) (m + 1) (.list ds) := by
  have h1 := shown_list ds
  have h2 := g.len
  exact ⟨g.sh, by omega, Nat.succ_le_succ g.dep⟩
theorem Fr.of {n m : Nat} {d : PyData} (h : Fd n m d) : Fr n m d := ⟨h.sh, h.len, h.dep⟩
theorem Fr.int {i : Int} (h : Bt 1900 i) : Fr 1921 0 (.int i) := .of (Fd.int h)
theorem Fr.str {z : Str} {k : Nat} (h : okS z) (l : z.length ≤ k) : Fr (10 * k + 2) 0 (.str z) := by
  refine ⟨rfl, ?_, Nat.le_refl _⟩
  have := StrLaws.reprText_len z fun c hc => Nat.lt_of_lt_of_le (h c hc) (by decide)
  show (reprText z).length ≤ _
  omega
/-! ### zip of two lists -/
end EM
/-! EM83: a formatted value of an instance with its own __str__. -/
namespace EM
open PySem PySem.Spec PyProof.Rows L2
end EM
/-! EM84: the head's facts over a part of the heap that is told by its addresses (no search for what the names reach). -/
namespace EM
open PySem PySem.Spec PySem.Calls PyProof.Rows L2
/-! ### the same with the tables of lambdas -/
end EM
/-! EM85: every second item of a list. -/
namespace EM
open PySem PySem.Spec PyProof.Rows L2
end EM
/-! EM86: an instance made of a class in a name, with a starred row. -/
namespace EM
open PySem PySem.Spec PyProof.Rows L2
end EM
/-! EM87: isinstance of a kept error without fields, of one class or of a tuple of classes. -/
namespace EM
open PySem PySem.Spec PyProof.Rows L2
structure IsY (K : PySem.W.Frag) (xs : List V) (H : Hp) (Q : VK) : Prop where
  h : ∃ p a C c, xs = [.ref a, c] ∧ At p H a (exK a (.ref C) none) ∧ ExcK K C ∧
    ((∃ cv b, ClsV c cv ∧ PySem.W.kitOne K (.ref C) cv = some b ∧ Q (.bl b) H) ∨ (∃ tp cs us b, c = .ref tp ∧ H tp = some (.tup cs) ∧ Paired ClsV cs us ∧ PySem.W.kitAny K (.ref C) us = some b ∧ Q (.bl b) H))
section
variable {X : Cx}
theorem call_isY : CallR X (.builtin "isinstance") (IsY X.K) := by
  rintro pins s σ H xs us Q I r ⟨⟨p, a, C, c, rfl, he, K1, h⟩⟩
  obtain ⟨⟨oe, vs, h1, hz, hd⟩, _⟩ := I.hok a _ he.at_
  have J : PySem.W.InstAt s.heap a oe C none := ⟨h1, hz.1, by unfold PySem.W.notCls; rw [hd] <;> rfl, by rw [hz.2]; exact trivial⟩
  obtain ⟨u1, u2, rfl, r1, r2⟩ := vals2 r
  cases (show u1 = Value.ref a from r1)
  have Z := PySem.W.kitx_exc (x := a) (ox := oe) (od := none) K1.cl K1.c.hg K1.c.hk K1.c.hs K1.c.ha K1.c.hn K1.c.ht K1.c.hm
  rcases h with ⟨cv, b, k, e, q⟩ | ⟨tp, cs, ws, b, rfl, hT, k, e, q⟩
  · have e2 := k.eq r2
    subst e2
    exact PySem.W.kia_one Z I.kIn J e (fun z => nomatch z) fun tk => ⟨.bl b, H, I.tok tk, rfl, q⟩
  · cases (show u2 = Value.ref tp from r2)
    obtain ⟨_, its, rv, o, h1, h2, n, h3⟩ := (show ObjOk X.prog X.w H s.heap tp (.tup cs) from I.hok tp _ hT)
    have e3 := ClsV.all k rv
    subst e3
    obtain ⟨oc, od, dt, sl⟩ := o
    simp only at h2 h3
    subst h2 h3
    exact PySem.W.kia_tup Z I.kIn J h1 e (fun z => nomatch z) fun tk => ⟨.bl b, H, I.tok tk, rfl, q⟩
end
end EM
namespace EM
open PySem PySem.Spec PyProof.Rows L2
end EM
/-! EM88: for x, y in zip(tuple, list), over the kit's zip of any two iterators. -/
namespace EM
open PySem PySem.Spec PyProof.Rows L2
end EM
/-! EM89: ifs whose rest is read once and is not seen in the branches; own operators between two instances of one class. -/
namespace EM
open PySem PySem.Spec PyProof.Rows L2
end EM
/-! EM90: C.m() of a classmethod, without an argument. -/
namespace EM
open PySem PySem.Spec PyProof.Rows L2
end EM
/-! EM91: tuples of Ratios compared, that need not rise. -/
namespace EM
open PySem PySem.Spec PyProof.Rows L2
end EM
/-! EM92: o.m(a, .., k = v, ..) of an instance. -/
namespace EM
open PySem PySem.Spec PyProof.Rows L2
end EM
/-! EM93: a tuple of the module that holds functions; a call of a function kept in a name. -/
namespace EM
open PySem PySem.Spec PyProof.Rows L2
end EM
/-! EM94: an own exception made and held as a value. -/
namespace EM
open PySem PySem.Spec PyProof.Rows L2
/-- the same heap in another state: nothing else is seen -/
theorem inv_state {X : Cx} {pins : List (Addr × Obj)} {σ : L2.St} {H : Hp} {s s' : Shared} (I : Inv X pins σ H s) (eh : s'.heap = s.heap) (eo : s'.os = s.os) (eb : AllBare s'.gens) : Inv X pins σ H s' where
  ok := I.ok
  os := by rw [eo]; exact I.os
  bare := eb
  base := by rw [eh]; exact I.base
  loc := by rw [eh]; exact I.loc
  cell := by rw [eh]; exact I.cell
  free := I.free
  freeC := I.freeC
  pin := by rw [eh]; exact I.pin
  hok := by rw [eh]; exact I.hok
  len := I.len
/-- what makes an exception gives it as a value -/
theorem pe_made {X : Cx} {e : Expr} {t : L2.St → Hp → XK → Prop} (h : PMk X e t) : PE X e (fun σ H Q => t σ H fun cls d H1 => ∀ a, H1 a = none → Q (.ref a) (upd H1 a (exK a cls d))) := by
  refine ⟨fun pins s σ H Q I q => ?_⟩
  refine thn (h pins s σ H _ I q) fun u s' hm => ?_
  obtain ⟨a, oe, vs, sI, H1, cls, d, eu, J, keep, gone, here, hz, hd, _, na, eo, eb, _, k⟩ := hm
  have J2 := J.laidN (t' := sI.toks) (h' := s'.heap) keep gone na (exK_ok (P := X.prog) (w := X.w) (H := upd H1 a (exK a cls d)) here hz ⟨vs, hd⟩)
  exact ⟨.ref a, _, inv_state J2 rfl eo eb, eu, k a na⟩
end EM
/-! EM95: an own exception class called with named arguments. -/
namespace EM
open PySem PySem.Spec PyProof.Rows PySem.HandSPX PySem.W PySem.Calls
section
variable {M : Model} {A : Around} {E : Value → Shared → Prop} {heap : Heap} {gs : Array GenState} {dr : Drawn} {tk : Nat} {os : OsState}
variable {nm q : Str} {C N : Addr} {bs bm bmB : List Value} {hdct : Bool} {sn : List Str} {sub : List Value} {ab : Bool} {col : Option Bool} {dd : Option Addr} {k0 k1 k2 k3 k5 : Option Value} {B newId initId : String}
/-- the look at the arguments of the class's __new__: names are let through -/
theorem xchk_named (F : ExcBaseFacts B newId initId bmB) (hT : ∀ y : String, bm.contains (.type y) = bmB.contains (.type y)) {named : List (Str × Value)} {Q : Unit → Shared → Prop}
    (at_ : heap.get? C = some (excClassObj nm q C N bs bm hdct sn sub ab col dd k0 k1 k2 k3 k5 newId)) (done : Q () ⟨heap, gs, dr, tk, os⟩) :
    wpAny M A (checkBuiltinCall newId ⟨[.ref C], named⟩) Q E ⟨heap, gs, dr, tk, os⟩ := by
  have isB : (Value.ref C :: bm).contains (.type B) = true := by
    rw [List.contains_cons, hT, F.hasB, Bool.or_true]
  have star := F.noStar
  simp only [checkBuiltinCall, F.newKind, F.newSplit, F.newRow]
  repeat (first
    | refine wpAny_loadPart_at at_ ?_
    | (refine wpAny_isSubtype_exc at_ ?_
       rw [isB])
    | refine wpAny_staticBase_exc at_ ?_
    | refine wpAny_madeBy_exc at_ ?_
    | simp only [bne_self_eq_false, Bool.false_eq_true, if_false]
    | wp_step)
  exact done
theorem xtck_named {named : List (Str × Value)} {Q : Unit → Shared → Prop} (at_ : heap.get? C = some (excClassObj nm q C N bs bm hdct sn sub ab col dd k0 k1 k2 k3 k5 newId)) (done : Q () ⟨heap, gs, dr, tk, os⟩) :
    wpAny M A (checkBuiltinCall "type.__call__" ⟨[.ref C], named⟩) Q E ⟨heap, gs, dr, tk, os⟩ := by
  have f3 := tc_sub
  have ty : (⟨heap, gs, dr, tk, os⟩ : Shared).TypeIs (.ref C) "type" := ⟨_, at_, rfl⟩
  simp only [checkBuiltinCall, tc_kind, tc_split]
  repeat (any_goals (first
    | assumption
    | with_reducible refine wpAny_loadPart_at at_ ?_
    | with_reducible refine wpAny_onRaise ?_
    | with_reducible refine wpAny_map ?_
    | wp_step))
end
section
variable {prog : Program} {w : World} {A : Around} {E : Value → Shared → Prop} {R : Result → Shared → Prop} {heap : Heap} {gs : Array GenState} {dr : Drawn} {tk : Nat} {os : OsState}
variable {nm q : Str} {C N : Addr} {bs bm bmB : List Value} {hdct : Bool} {sn : List Str} {sub : List Value} {ab : Bool} {col : Option Bool} {dd : Option Addr} {k0 k1 k2 k3 k5 : Option Value} {B newId initId : String}
theorem xnew_named (F : ExcBaseFacts B newId initId bmB) (hT : ∀ y : String, bm.contains (.type y) = bmB.contains (.type y)) {named : List (Str × Value)}
    (at_ : heap.get? C = some (excClassObj nm q C N bs bm hdct sn sub ab col dd k0 k1 k2 k3 k5 newId))
    (done : R (.ok (.ret (.ref (heap.objs.size + 1)))) ⟨(heap.push { cls := .type "tuple", data := .seq #[] }).push (excO C heap.objs.size), gs, dr, tk, os⟩) :
    codeAny (model prog w) A (.builtin newId ⟨[.ref C], named⟩) R ⟨heap, gs, dr, tk, os⟩ := by
  have ends := F.ends
  have isB : (Value.ref C :: bm).contains (.type B) = true := by
    rw [List.contains_cons, hT, F.hasB, Bool.or_true]
  have noA : (Value.ref C :: bm).contains (.type "AttributeError") = false := by
    rw [List.contains_cons, hT, F.noAttr]
    rfl
  have noN : (Value.ref C :: bm).contains (.type "NameError") = false := by
    rw [List.contains_cons, hT, F.noName]
    rfl
  refine codeAny_builtinAt F.entry ?_
  unfold Builtin.«BaseException.__new__»
  refine PySem.wpAt_bind ?_
  show PySem.wpAt _ _ _ (stack >>= _) _ _ _
  refine PySem.wpAt_bind (PySem.wpAt_stack fun p below => PySem.wpAt_of_wpAny ?_)
  wp_walk
  refine PySem.wpAt_of_wpAny ?_
  rw [F.owner]
  repeat (first
    | with_reducible refine wpAny_madeHere_exc F.canon at_ ?_
    | with_reducible refine wpAny_loadPart_at at_ ?_
    | (with_reducible refine wpAny_isSubtype_exc at_ ?_
       first | rw [isB] | rw [noA] | rw [noN])
    | wp_step)
  show R _ _
  rw [Heap.size_push]
  exact done
/-- type.__call__ of such a class with names alone: made, then its own __init__ -/
theorem xtype_named (F : ExcBaseFacts B newId initId bmB) (hT : ∀ y : String, bm.contains (.type y) = bmB.contains (.type y)) {named : List (Str × Value)} {fI : Addr} {Q : PySem.Fin → Shared → Prop}
    (at_ : heap.get? C = some (excClassObj nm q C N bs bm hdct sn sub ab col dd k0 k1 k2 k3 k5 newId))
    (ini : W.Looks (model prog w) heap (typeLookup (.ref C) "__init__") (some (.ref fI))) (bnd : ∀ self, W.Looks (model prog w) heap (bindSpecial (.ref fI) self) (.ref fI, [self]))
    (go : codeAny (model prog w) A (.call (.ref fI) ⟨[.ref (heap.objs.size + 1)], named⟩)
      (fun r s' => match r with
        | .ok (.ret v) => v = .none ∧ Q (.done (.ret (.ref (heap.objs.size + 1)))) s'
        | .ok _ => False
        | .error e => E e s')
      ⟨(heap.push (W.kdv_tup [])).push (excO C heap.objs.size), gs, dr, tk, os⟩) :
    wpAny (model prog w) A (Builtin.«type.__call__» ⟨[.ref C], named⟩) Q E ⟨heap, gs, dr, tk, os⟩ := by
  repeat (first
    | with_reducible refine wpAny_loadPart_at at_ ?_
    | with_reducible refine wpAny_madeBy_exc at_ ?_
    | wp_step)
  refine codeAny_call_builtin_code (Code.quiet_builtin _ F.quiet) (xchk_named F hT at_ ?_)
  refine xnew_named F hT at_ ?_
  show wpAny _ _ _ _ _ _
  have kept : ∀ b o, heap.get? b = some o → ((heap.push (W.kdv_tup [])).push (excO C heap.objs.size)).get? b = some o := fun b o e => Heap.get?_push_of_some _ (Heap.get?_push_of_some _ e)
  have at2 := kept _ _ at_
  have new : ((heap.push (W.kdv_tup [])).push (excO C heap.objs.size)).get? (heap.objs.size + 1) = some (excO C heap.objs.size) := by heap_get
  have own : (Value.ref C :: bm).contains (.ref C) = true := by simp
  have ini2 := ini.keeps kept
  have bnd2 := (bnd (.ref (heap.objs.size + 1))).keeps kept
  unfold isInstance
  repeat (first
    | with_reducible refine wpAny_loadPart_at new ?_
    | (with_reducible refine wpAny_isSubtype_exc at2 ?_
       rw [own])
    | wp_step)
  show wpAny _ _ (typeLookup (.ref C) _) _ _ _
  refine ini2.at ?_
  refine wpAny_holding (wpAny_bind (bnd2.at ?_))
  refine wpAny_bind (wpAny_call (codeAny_mono go fun r s' z => ?_))
  rcases r with e | (v | _ | _ | _) <;> first | exact z | exact z.elim | skip
  obtain ⟨rfl, z⟩ := z
  first
    | exact wpAny_pure (wpAny_pure z)
    | (wp_walk
       exact z)
theorem xcall_named (F : ExcBaseFacts B newId initId bmB) (hT : ∀ y : String, bm.contains (.type y) = bmB.contains (.type y)) {named : List (Str × Value)} {fI : Addr}
    (at_ : heap.get? C = some (excClassObj nm q C N bs bm hdct sn sub ab col dd k0 k1 k2 k3 k5 newId))
    (ini : W.Looks (model prog w) heap (typeLookup (.ref C) "__init__") (some (.ref fI))) (bnd : ∀ self, W.Looks (model prog w) heap (bindSpecial (.ref fI) self) (.ref fI, [self]))
    (go : codeAny (model prog w) (A.under (.builtin "type.__call__" ⟨[.ref C], named⟩)) (.call (.ref fI) ⟨[.ref (heap.objs.size + 1)], named⟩) (W.InitBack (heap.objs.size + 1) R)
      ⟨(heap.push (W.kdv_tup [])).push (excO C heap.objs.size), gs, dr, tk, os⟩) :
    codeAny (model prog w) A (.call (.ref C) ⟨[], named⟩) R ⟨heap, gs, dr, tk, os⟩ := by
  have f1 := tc_lookup
  have f2 := tc_bind (.ref C)
  have ty : (⟨heap, gs, dr, tk, os⟩ : Shared).TypeIs (.ref C) "type" := ⟨_, at_, rfl⟩
  refine codeAny_of_tree ?_
  show wpAny _ _ (callAny (.ref C) _) _ _ _
  repeat (any_goals (first
    | assumption
    | with_reducible refine wpAny_loadPart_at at_ ?_
    | wp_step))
  refine ⟨rfl, ?_⟩
  refine codeAny_call_builtin_at (Code.quiet_builtin _ (by decide +kernel)) entry_typeCall ?_
  refine xtck_named at_ ?_
  --C1
  refine xtype_named F hT at_ ini bnd ?_
  refine codeAny_mono go fun r s' z => ?_
  rcases r with e | (v | _ | _ | _) <;> exact z
end
end EM
/-! EM96: C(f = v, ..) of an own exception class. -/
namespace EM
open PySem PySem.Spec PyProof.Rows L2
section
variable {X : Cx} {CX : CXT} {k : Nat} {fI C : Addr} {fd : FuncData} {ps ks : List Str} {sp : Sp} {x : Str} {p pos : Pos} {kws : List Keyword} {tk : TA} {g : List Value → List Value → List Value} {gV : List V → List V → List V}
def tMkX (C : Addr) (m : Nat) (sp : Sp) (gV : List V → List V → List V) (tk : TA) : L2.St → Hp → XK → Prop := fun σ H Q => tk σ H fun zs H1 => zs.length = m ∧ ∀ a, H1 a = none →
  sp (gV [.ref a] zs) (upd H1 a (exo a C none)) (fun v H2 => v = .non ∧ ∃ (d : Addr) (fs : List (Str × V)), H2 a = some (exo a C (some d)) ∧ H2 d = some (exd d fs) ∧ H1 d = none ∧ Q (.ref C) (some d) (upd (del H2 a) d (.xd fs))) (fun _ _ _ => False)
theorem pmk_kw (T : OexC X.K C) (iC : PySem.W.findIn X.K (.ref C) "__init__" = some (some (.ref fI))) (tI : PySem.W.typeIn X.K (.ref fI) = some (.type "function"))
    (F1 : FnOk X.prog X.w X.K X.mg X.base CX k fI fd ps sp) (rm : Room (k + 1) X.A) (hb : KBn X.K fd ps 1 ks g gV) (hx : Passes CX X (fun _ _ _ => False)) (hg : Gl X x) (hm : X.mg x = some (.ref C)) (hkw : PK X kws tk)
    (hall : (backToKw pos (keywordEach kws X.env)).all (·.1.isSome) = true := by rfl) (hks : (backToKw pos (keywordEach kws X.env)).filterMap (·.1) = ks := by rfl) (hdb : (x == ("__debug__" : Str)) = false := by decide)
    (hpl : ((backTo pos (starEach [] X.env)).any (·.1) || (backToKw pos (keywordEach kws X.env)).any (·.1.isNone)) = false := by rfl) :
    PMk X (.Call (.Name x p) [] kws pos) (tMkX C ks.length sp gV tk) := by
  intro pins s σ H Q I h
  obtain ⟨nm, q, N, bs, bm, sn, sub, ab, col, dd, k0, k1, k2, k3, k5, clsAt, isVE⟩ := T.cls
  refine wpAny_Call_Name_kw (ld_glob I hg hm ?_ hdb)
  refine PySem.W.callWith_KW0 (h₀ := X.base) I.ok.mod.kin T.kC hall ?_ hpl
  refine thn (hkw.run pos pins s σ H _ I h) fun ws s1 ⟨zs, H1, I1, rz, lz, q1⟩ => ⟨I1.kIn, ?_⟩
  rw [hks]
  show wpAny _ _ (call (.ref C) [] (ks.zip ws)) _ _ _
  obtain ⟨hp, gg, dr, tt, os⟩ := s1
  have le1 : hp.objs.size ≤ hp.objs.size + 1 := Nat.le_succ _
  have fresh : H1 (hp.objs.size + 1) = none := I1.hok.fresh le1
  have told := q1 (hp.objs.size + 1) fresh
  have stay : ∀ b o, hp.get? b = some o → ((hp.push (PySem.W.kdv_tup [])).push (PySem.HandSPX.excO C hp.objs.size)).get? b = some o := fun b o e => Heap.get?_push_of_some _ (Heap.get?_push_of_some _ e)
  have here : ((hp.push (PySem.W.kdv_tup [])).push (PySem.HandSPX.excO C hp.objs.size)).get? (hp.objs.size + 1) = some (PySem.HandSPX.excO C hp.objs.size) := by heap_get
  have I2 : Inv X pins σ (upd H1 (hp.objs.size + 1) (exo (hp.objs.size + 1) C none)) ⟨(hp.push (PySem.W.kdv_tup [])).push (PySem.HandSPX.excO C hp.objs.size), gg, dr, tt, os⟩ :=
    I1.laid (t' := tt) (a := hp.objs.size + 1) (o := exo (hp.objs.size + 1) C none) (h' := (hp.push (PySem.W.kdv_tup [])).push (PySem.HandSPX.excO C hp.objs.size)) stay le1 (exo_ok here)
  have one : Vals [V.ref (hp.objs.size + 1)] [Value.ref (hp.objs.size + 1)] := .cons rfl .nil
  refine wpAny_call (xcall_named PySem.F.excBase_ValueError (fun y => PySem.HandSPX.refsVE_contains y bm isVE) (I1.kIn _ _ clsAt) (PySem.W.looks_findIn I1.kIn iC) (fun self => PySem.W.bind_fn I1.kIn self tI)
    (codeAny_mono (F1.run _ X.stack _ _ ⟨[Value.ref (hp.objs.size + 1)], ks.zip ws⟩ (g [Value.ref (hp.objs.size + 1)] ws) _ _ (fun _ _ _ => False) (rm.make C [] (ks.zip ws)) (I2.env0.make C [] (ks.zip ws)) (hb.to _ [Value.ref (hp.objs.size + 1)] ws I2.kIn rfl (rz.length.symm.trans lz)) (hb.rel one rz) told) fun r s' back => ?_))
  · cases r with
    | error er => exact hx pins σ _ _ er s' I2 back
    | ok fl =>
      cases fl with
      | ret u =>
        obtain ⟨v, H2, os2, bare2, un2, hok2, rv, ev, d, fs, ea, ed, hd1, q2⟩ := back
        subst ev
        obtain ⟨h2, g2, d2, t2, os'⟩ := s'
        exact ⟨rv, mk_end (raises_own T.exC T.tyC) I1 le1 stay un2 hok2 os2 bare2 ea ed hd1 q2⟩
      | next => exact False.elim back
      | brk => exact False.elim back
      | cont => exact False.elim back
end
end EM
/-! EM97: own exceptions of one field, of two, as values: by place and by name. -/
namespace EM
open PySem PySem.Spec PyProof.Rows L2
/-- the reading of C(..) as a value: the error and its dict are new, all else stays -/
def tXv (C : Addr) (fs : List V → List (Str × V)) (n : Nat) (ta : TA) : TE := fun σ H Q => ta σ H fun vs H1 => vs.length = n ∧ ∀ a d H', Same H1 H' → H1 d = none → H1 a = none → H' d = some (.xd (fs vs)) → H' a = some (exK a (.ref C) (some d)) → Q (.ref a) H'
/-- an error and its dict, told -/
theorem xv_end {H1 H2 : Hp} {d a' : Addr} {C : Addr} {fs : List (Str × V)} {Q : VK} (s : Same H1 H2) (nd : H1 d = none) (hd : H2 d = some (.xd fs)) (na : H2 a' = none)
    (q : ∀ a d H', Same H1 H' → H1 d = none → H1 a = none → H' d = some (.xd fs) → H' a = some (exK a (.ref C) (some d)) → Q (.ref a) H') : Q (.ref a') (upd H2 a' (exK a' (.ref C) (some d))) := by
  have n1 : H1 a' = none := by
    cases e : H1 a' with
    | none => rfl
    | some o => rw [s _ _ e] at na; cases na
  refine q a' d _ (s.trans (same_upd na)) nd n1 ?_ upd_same
  rw [upd_ne (fun z => by rw [z, na] at hd; cases hd)]
  exact hd
section
variable {X : Cx} {CX : CXT} {x : Str} {C fI : Addr} {k : Nat} {fd : FuncData} {ps : List Str} {e : Expr} {es : List Expr} {ta : TA} {p pos : Pos} {f g : Str}
theorem x1_heap {H1 : Hp} {a dx : Addr} {v : V} (ha : H1 a = none) (hdx : H1 dx = none) : Same H1 (upd (del (upd (upd (upd H1 a (exo a C none)) dx (exd dx [(f, v)])) a (exo a C (some dx))) a) dx (.xd [(f, v)])) := fun b o eb => by
  have n1 := ne_of_none eb hdx
  have n2 := ne_of_none eb ha
  rw [upd_ne n1, del_ne n2, upd_ne n2, upd_ne n1, upd_ne n2]
  exact eb
theorem pe_x1 (T : OexC X.K C) (iC : PySem.W.findIn X.K (.ref C) "__init__" = some (some (.ref fI)) ∧ PySem.W.typeIn X.K (.ref fI) = some (.type "function")) (F1 : FnOk X.prog X.w X.K X.mg X.base CX k fI fd ps (spX1 C f)) (hr : Room (k + 1) X.A) (hb : Binds X.K fd ps [])
    (hx : Passes CX X (fun _ _ _ => False)) (hm : X.mg x = some (.ref C)) (ha : PA X (e :: es) ta) (hg : Gl X x := by rfl)
    (hdb : (x == ("__debug__" : Str)) = false := by decide) (he : starEach (e :: es) X.env = (false, eval e X.env) :: starEach es X.env := by rfl) (hpl : (backTo pos (starEach es X.env)).any (·.1) = false := by rfl) :
    PE X (.Call (.Name x p) (e :: es) [] pos) (tXv C (fun vs => [(f, vs.headD .non)]) 1 (mcA ta)) := by
  have h := pe_made (pmk_oex (p := p) (dvs := []) T iC.1 iC.2 F1 hr hb .nil hx hg hm ha.mc hdb he hpl)
  refine h.of fun σ H Q q => ?_
  obtain ⟨R, hR, kk⟩ := q
  refine ⟨R, hR, fun vs H1 z => ?_⟩
  obtain ⟨hl, q⟩ := kk _ _ z
  match vs, hl with
  | [v], _ =>
    refine ⟨by show 1 ≤ 1000; decide, fun a ha => ⟨a, v, rfl, upd_same, fun dx hdx hda => ⟨rfl, dx, [(f, v)], upd_same, ?_, ?_, ?_⟩⟩⟩
    · rw [upd_ne hda, upd_same]
    · rw [upd_ne hda] at hdx; exact hdx
    · have hdx' : H1 dx = none := by rw [upd_ne hda] at hdx; exact hdx
      intro a' na
      exact xv_end (x1_heap ha hdx') hdx' upd_same na q
theorem pe_x1k {kws : List Keyword} {g2 : List Value → List Value → List Value} (T : OexC X.K C) (iC : PySem.W.findIn X.K (.ref C) "__init__" = some (some (.ref fI)) ∧ PySem.W.typeIn X.K (.ref fI) = some (.type "function")) (F1 : FnOk X.prog X.w X.K X.mg X.base CX k fI fd ps (spX1 C f)) (hr : Room (k + 1) X.A)
    (hb : KBn X.K fd ps 1 [f] g2 (fun vs zs => vs ++ zs)) (hx : Passes CX X (fun _ _ _ => False)) (hm : X.mg x = some (.ref C)) (hkw : PK X kws (mcA ta)) (hg : Gl X x := by rfl)
    (hall : (backToKw pos (keywordEach kws X.env)).all (·.1.isSome) = true := by rfl) (hks : (backToKw pos (keywordEach kws X.env)).filterMap (·.1) = [f] := by rfl) (hdb : (x == ("__debug__" : Str)) = false := by decide)
    (hpl : ((backTo pos (starEach [] X.env)).any (·.1) || (backToKw pos (keywordEach kws X.env)).any (·.1.isNone)) = false := by rfl) :
    PE X (.Call (.Name x p) [] kws pos) (tXv C (fun vs => [(f, vs.headD .non)]) 1 (mcA ta)) := by
  have h := pe_made (pmk_kw (p := p) T iC.1 iC.2 F1 hr hb hx hg hm hkw hall hks hdb hpl)
  refine h.of fun σ H Q q => ?_
  obtain ⟨R, hR, kk⟩ := q
  refine ⟨R, hR, fun vs H1 z => ?_⟩
  obtain ⟨hl, q⟩ := kk _ _ z
  match vs, hl with
  | [v], _ =>
    refine ⟨rfl, fun a ha => ⟨a, v, rfl, upd_same, fun dx hdx hda => ⟨rfl, dx, [(f, v)], upd_same, ?_, ?_, ?_⟩⟩⟩
    · rw [upd_ne hda, upd_same]
    · rw [upd_ne hda] at hdx; exact hdx
    · have hdx' : H1 dx = none := by rw [upd_ne hda] at hdx; exact hdx
      intro a' na
      exact xv_end (x1_heap ha hdx') hdx' upd_same na q
end
end EM
/-! EM98: own exceptions of two fields as values: by place and by name. -/
namespace EM
open PySem PySem.Spec PyProof.Rows L2
section
variable {X : Cx} {CX : CXT} {x : Str} {C fI : Addr} {k : Nat} {fd : FuncData} {ps : List Str} {e : Expr} {es : List Expr} {ta : TA} {p pos : Pos} {f g : Str}
theorem x2_heap {H1 : Hp} {a dx : Addr} {v u : V} (ha : H1 a = none) (hdx : H1 dx = none) : Same H1 (upd (del (upd (upd (upd (upd H1 a (exo a C none)) dx (exd dx [(f, v)])) a (exo a C (some dx))) dx (exd dx [(g, u), (f, v)])) a) dx (.xd [(g, u), (f, v)])) := fun b o eb => by
  have n1 := ne_of_none eb hdx
  have n2 := ne_of_none eb ha
  rw [upd_ne n1, del_ne n2, upd_ne n1, upd_ne n2, upd_ne n1, upd_ne n2]
  exact eb
theorem pe_x2 (T : OexC X.K C) (iC : PySem.W.findIn X.K (.ref C) "__init__" = some (some (.ref fI)) ∧ PySem.W.typeIn X.K (.ref fI) = some (.type "function")) (F1 : FnOk X.prog X.w X.K X.mg X.base CX k fI fd ps (spX2 C f g)) (hr : Room (k + 1) X.A) (hb : Binds X.K fd ps [])
    (hx : Passes CX X (fun _ _ _ => False)) (hm : X.mg x = some (.ref C)) (ha : PA X (e :: es) ta) (hg : Gl X x := by rfl)
    (hdb : (x == ("__debug__" : Str)) = false := by decide) (he : starEach (e :: es) X.env = (false, eval e X.env) :: starEach es X.env := by rfl) (hpl : (backTo pos (starEach es X.env)).any (·.1) = false := by rfl) :
    PE X (.Call (.Name x p) (e :: es) [] pos) (tXv C (fun vs => [(g, vs.getD 1 .non), (f, vs.headD .non)]) 2 (mcA ta)) := by
  have h := pe_made (pmk_oex (p := p) (dvs := []) T iC.1 iC.2 F1 hr hb .nil hx hg hm ha.mc hdb he hpl)
  refine h.of fun σ H Q q => ?_
  obtain ⟨R, hR, kk⟩ := q
  refine ⟨R, hR, fun vs H1 z => ?_⟩
  obtain ⟨hl, q⟩ := kk _ _ z
  match vs, hl with
  | [v, u], _ =>
    refine ⟨by show 2 ≤ 1000; decide, fun a ha => ⟨a, v, u, rfl, upd_same, fun dx hdx hda => ⟨rfl, dx, [(g, u), (f, v)], ?_, upd_same, ?_, ?_⟩⟩⟩
    · rw [upd_ne hda.symm, upd_same]
    · rw [upd_ne hda] at hdx; exact hdx
    · have hdx' : H1 dx = none := by rw [upd_ne hda] at hdx; exact hdx
      intro a' na
      exact xv_end (x2_heap ha hdx') hdx' upd_same na q
/-- by name, first the names of the call's own order: gV tells how they are put -/
theorem pe_x2k {kws : List Keyword} {n1 n2 : Str} {gg : List Value → List Value → List Value} {sw : Bool} (T : OexC X.K C) (iC : PySem.W.findIn X.K (.ref C) "__init__" = some (some (.ref fI)) ∧ PySem.W.typeIn X.K (.ref fI) = some (.type "function")) (F1 : FnOk X.prog X.w X.K X.mg X.base CX k fI fd ps (spX2 C f g)) (hr : Room (k + 1) X.A)
    (hb : KBn X.K fd ps 1 [n1, n2] gg (fun vs zs => vs ++ zs.reverse)) (hx : Passes CX X (fun _ _ _ => False)) (hm : X.mg x = some (.ref C)) (hkw : PK X kws (mcA ta)) (hg : Gl X x := by rfl)
    (hall : (backToKw pos (keywordEach kws X.env)).all (·.1.isSome) = true := by rfl) (hks : (backToKw pos (keywordEach kws X.env)).filterMap (·.1) = [n1, n2] := by rfl) (hdb : (x == ("__debug__" : Str)) = false := by decide)
    (hpl : ((backTo pos (starEach [] X.env)).any (·.1) || (backToKw pos (keywordEach kws X.env)).any (·.1.isNone)) = false := by rfl) :
    PE X (.Call (.Name x p) [] kws pos) (tXv C (fun vs => [(g, vs.headD .non), (f, vs.getD 1 .non)]) 2 (mcA ta)) := by
  have h := pe_made (pmk_kw (p := p) T iC.1 iC.2 F1 hr hb hx hg hm hkw hall hks hdb hpl)
  refine h.of fun σ H Q q => ?_
  obtain ⟨R, hR, kk⟩ := q
  refine ⟨R, hR, fun vs H1 z => ?_⟩
  obtain ⟨hl, q⟩ := kk _ _ z
  match vs, hl with
  | [u, v], _ =>
    refine ⟨rfl, fun a ha => ⟨a, v, u, rfl, upd_same, fun dx hdx hda => ⟨rfl, dx, [(g, u), (f, v)], ?_, upd_same, ?_, ?_⟩⟩⟩
    · rw [upd_ne hda.symm, upd_same]
    · rw [upd_ne hda] at hdx; exact hdx
    · have hdx' : H1 dx = none := by rw [upd_ne hda] at hdx; exact hdx
      intro a' na
      exact xv_end (x2_heap ha hdx') hdx' upd_same na q
end
end EM
/-! EM99: isinstance of errors against many classes, told by one look. -/
namespace EM
open PySem PySem.Spec PyProof.Rows L2
theorem kitRows_at {K : PySem.W.Frag} {cs ds : List Addr} (h : kitRowsB K cs ds = true) {i j : Nat} {C D : Addr} (hi : cs[i]? = some C) (hj : ds[j]? = some D) : PySem.W.kitOne K (.ref C) (.ref D) = some (decide (i = j)) := by
  have li := (List.getElem?_eq_some_iff.mp hi).1
  have lj := (List.getElem?_eq_some_iff.mp hj).1
  have h1 := List.all_eq_true.mp h i (List.mem_range.mpr li)
  have h2 := List.all_eq_true.mp h1 j (List.mem_range.mpr lj)
  rw [hi, hj] at h2
  exact of_decide_eq_true h2
theorem kitNone_at {K : PySem.W.Frag} {cs : List Addr} {us : List Value} (h : kitNoneB K cs us = true) {C : Addr} (hc : C ∈ cs) : PySem.W.kitAny K (.ref C) us = some false := of_decide_eq_true (List.all_eq_true.mp h C hc)
theorem kitOne_at {K : PySem.W.Frag} {cs : List Addr} {u : Value} (h : kitOneB K cs u = true) {C : Addr} (hc : C ∈ cs) : PySem.W.kitOne K (.ref C) u = some true := of_decide_eq_true (List.all_eq_true.mp h C hc)
theorem excs_at {K : PySem.W.Frag} {cs : List Addr} (h : excsB K cs = true) {C : Addr} (hc : C ∈ cs) : ExcK K C := excB_ok (List.all_eq_true.mp h C hc)
end EM
/-! EM100: repr of a list whose items are told each by its own law (data, dicts, instances with their own __repr__). -/
namespace PySem.W
open PySem PySem.Calls PyProof.Rows
theorem readsAll_mem {h : Heap} : ∀ {vs : List Value} {ds : List PyData} {as : List Addr} {x : Value}, ReadsAll h vs ds as → x ∈ vs → ∃ d ∈ ds, ∃ bs, Reads h x d bs
  | _, _, _, _, .nil, hx => nomatch hx
  | _, _, _, _, .cons r rs, hx => by
    rcases List.mem_cons.mp hx with rfl | hx
    · exact ⟨_, .head _, _, r⟩
    · obtain ⟨d, hd, bs, q⟩ := readsAll_mem rs hx
      exact ⟨d, .tail _ hd, bs, q⟩
theorem depthAll_mem : ∀ {ds : List PyData} {d : PyData}, d ∈ ds → d.depth ≤ PyData.depthAll ds
  | _ :: ds, d, h => by
    rcases List.mem_cons.mp h with rfl | h
    · exact Nat.le_max_left _ _
    · exact Nat.le_trans (depthAll_mem h) (Nat.le_max_right _ _)
/-- a list that holds x is none of those that x is read from -/
theorem list_not_mem {h : Heap} {a : Addr} {o : Obj} {its : List Value} {m : Nat} {x : Value} {d : PyData} {as bs : List Addr} (ha : h.get? a = some o) (hc : o.cls = .type "list") (hd : o.data = .seq its.toArray m)
    (hx : x ∈ its) (r : Reads h x d as) (hb : ReadAtMost h d.depth bs) : a ∉ bs := fun hm => by
  obtain ⟨d', as', r', hd'⟩ := hb a hm
  cases r' with
  | list e1 e2 e3 e4 =>
    rw [ha] at e1; cases e1
    rw [hd] at e3; cases e3
    obtain ⟨d2, hd2, bs2, r2⟩ := readsAll_mem e4 (by simpa using hx)
    obtain ⟨e, _⟩ := reads_det (fun _ _ e _ => e) r r2
    subst e
    have h1 := depthAll_mem hd2
    simp only [PyData.depth] at hd'
    omega
  | tuple e1 e2 e3 e4 =>
    rw [ha] at e1; cases e1
    rw [hc] at e2; injection e2 with z; exact absurd z (by decide)
  | dict e1 e2 e3 e4 e5 =>
    rw [ha] at e1; cases e1
    rw [hc] at e2; injection e2 with z; exact absurd z (by decide)
theorem pairs_inv {prog : Program} {w : World} {K : Type} [DecidableEq K] {knd : KeyKind prog w K} {e : DictEntry} {es : List DictEntry} {kv : K × Value} {kvs : List (K × Value)} : Pairs knd (e :: es) (kv :: kvs) → knd.is kv.1 e.key = true ∧ e.val = kv.2 ∧ Pairs knd es kvs
  | .cons h1 h2 h3 => ⟨h1, h2, h3⟩
theorem vals_app : ∀ {xs ys : List L2.V} {us ws : List Value}, L2.Vals xs us → L2.Vals ys ws → L2.Vals (xs ++ ys) (us ++ ws)
  | _, _, _, _, .nil, h => h
  | _, _, _, _, .cons r rs, h => .cons r (vals_app rs h)
theorem vals_strs : ∀ {ts : List Str} {us : List Value}, L2.Vals (ts.map L2.V.str) us → ∃ l : List (Str × Tok), us = strValues l ∧ l.map (·.1) = ts
  | [], _, .nil => ⟨[], rfl, rfl⟩
  | _ :: ts, _, .cons r rs => by
    obtain ⟨t, e⟩ := (show ∃ t, _ = Value.str _ t from r)
    obtain ⟨l, e1, e2⟩ := vals_strs rs
    exact ⟨(_, t) :: l, by rw [e, e1]; rfl, by rw [List.map_cons, e2]⟩
end PySem.W
namespace EM
open PySem PySem.Spec PyProof.Rows L2 Builtin Builtin.List
theorem loopRepr_depth {A : Around} {args : Args} : (A.under (.builtin "list.__repr__.loop" args)).depth ≤ A.depth + 1 := by
  first | exact Nat.le_refl _ | (simp [Around.under, Code.weight, Code.isCreation, Code.isGuard, Code.isCaller, Code.frames, Code.isFrame, guardIds]; done) | (simp [Around.under, Code.weight, Code.isCreation, Code.isGuard, Code.isCaller, Code.frames, Code.isFrame, guardIds]; omega)
theorem loopRepr_units {A : Around} {args : Args} : (A.under (.builtin "list.__repr__.loop" args)).units = A.units + 1 := units_under_list_loop A _
theorem Room.loopRepr {k : Nat} {A : Around} {args : Args} (r : Room (k + 1) A) : Room k (A.under (.builtin "list.__repr__.loop" args)) :=
  ⟨r.hd, by have := r.dp; have := loopRepr_depth (A := A) (args := args); omega, by have := r.un; rw [loopRepr_units]; omega⟩
theorem Env0.loopRepr {P : Program} {w : World} {K : PySem.W.Frag} {mg : Str → Option Value} {base : Heap} {A : Around} {outer : List Env} {s : Shared} {H : Hp} {args : Args} (e : Env0 P w K mg base A outer s H) :
    Env0 P w K mg base (A.under (.builtin "list.__repr__.loop" args)) outer s H := ⟨by first | exact e.frames | (simpa [Around.under, Code.envs, Code.isFrame, pushEnvs] using e.frames), e.mod, e.bs, e.bsz, e.funs, e.frf, e.hok, e.bare⟩
/-- the item v of the list at a is told as t -/
def RI (X : Cx) (a : Addr) (H : Hp) (v : V) (t : Str) : Prop := ∀ (rest : List Value) (base : Nat) (s : Shared) (Q : Str → Shared → Prop) (pins : List (Addr × Obj)) (σ : L2.St) (H' : Hp) (u : Value) (xs : List V) (i : Nat),
  base + t.length ≤ sizeLine → Same H H' → H a = some (.lst xs) → xs[i]? = some v → Inv X pins σ H' s → RelV v u → (∀ s', Inv X pins σ H' s' → Q t s') →
  (∀ (its : List Value) (n : Nat), s.heap.get? a = some { cls := .type "list", data := .seq its.toArray n } → u ∈ its) →
  wpAny (model X.prog X.w) (X.A.in1.under (.builtin "list.__repr__.loop" ⟨.ref a :: rest, []⟩)) (pyReprUnder base u) Q X.xe s
theorem ri_data {X : Cx} {a : Addr} {H : Hp} {v : V} {d : PyData} (hG : X.A.guards = some []) (hu : X.A.units + 70 < cLine) (hd : Dp X.K H v d) (hm : ∀ {H'}, Same H H' → Dp X.K H' v d) (hs : d.showable = true) (hz : d.shown.length ≤ sizeLine) (hdep : d.depth ≤ 64) : RI X a H v d.shown := by
  intro rest base s Q pins σ H' u xs i hb sm ha hi I r q mem
  obtain ⟨as, rd⟩ := Dp.reads I d v u (hm sm) r
  obtain ⟨bs, rb, rk⟩ := ReprK.of_reads (prog := X.prog) (w := X.w) rd hs (fun z => by rw [dp_nodict d v hd] at z; cases z) hz
  obtain ⟨its, n, rv, hl, _⟩ := I.lst (sm a _ ha)
  refine rk base hb _ _ _ _ _ (guards_under_guard (isGuard_list_loop _) (show X.A.in1.guards = some [] from hG)) (fun b hb => (Clear.nil b).cons fun e => ?_) (by rw [units_under_list_loop]; show X.A.units + 1 + 1 + _ < cLine; omega) (fun _ _ e => e) fun h' tk hk => q _ (I.kept hk)
  exact PySem.W.list_not_mem hl rfl rfl (mem its n hl) rd rb (e ▸ hb)
theorem ri_own {X : Cx} {CX : CXT} {n : Nat} {g C b dx a : Addr} {fs : List (Str × V)} {sp : Sp} {E0 : XK} {H : Hp} {t : Str} (hs : PySem.W.findIn X.K (.ref C) "__repr__" = some (some (.ref g))) (hf : PySem.W.isFn X.K (.ref g) = true) (F : FnR X.prog X.w X.K X.mg X.base CX n g sp)
    (hr : Room (n + 2) X.A) (hx : Passes CX X E0) (hb : H b = some (.ins C dx fs)) (hp : ∀ H', Same H H' → sp [.ref b] H' (fun v H2 => v = .str t ∧ H2 = H') E0) : RI X a H (.ref b) t := by
  intro rest base s Q pins σ H' u xs i hbz sm ha hi I r q mem
  cases (show u = Value.ref b from r)
  obtain ⟨ox, od, J, _⟩ := ins_at I (sm b _ hb)
  refine PySem.W.em_under (by omega) (by rw [loopRepr_units]; have := (hr.in1).un; omega) I.kIn J hs hf ?_
  have c2 := SlX.run_at (us := [.ref b]) (ws := [.ref b]) F (Room.loopRepr (args := ⟨.ref a :: rest, []⟩) hr.in1) (Env0.loopRepr (args := ⟨.ref a :: rest, []⟩) I.env0.in1) hx I (.cons rfl .nil) (hp H' sm)
  refine wpAny_mono (wpAny_call c2) (fun w s' z => ?_) fun _ _ x => x
  obtain ⟨z', H2, I', rz, ez, eH⟩ := z
  subst ez eH
  obtain ⟨t3, rfl⟩ := (show ∃ t', w = Value.str t t' from rz)
  exact ⟨t, t3, rfl, q s' I'⟩
/-- a dict whose values are ints -/
def kText : Key → Str
  | .inl i => toString i
  | .inr x => reprText x
structure KOk (k : Key) : Prop where
  h : ∀ {P : Program} {w : World} {u : Value}, keyIs k u = true → ReprIs P w u (kText k)
theorem kok_str {x : Str} (h : (reprText x).length ≤ sizeLine) : KOk (.inr x) := ⟨fun {P w u} e => by
  rcases keyIs_shape e with ⟨i, t, e1, e2⟩ | ⟨y, t, e1, e2⟩
  · cases e1
  · cases e1; subst e2
    exact ReprIs.str _ _ h⟩
theorem ri_dict0 {X : Cx} {a b : Addr} {H : Hp} (hG : X.A.guards = some []) (hu : X.A.units + 70 < cLine) (hb : H b = some (.dK [])) : RI X a H (.ref b) (dictText []) := by
  intro rest base s Q pins σ H' u xs i hbz sm ha hi I r q mem
  cases (show u = Value.ref b from r)
  have hne : a ≠ b := fun z => by rw [z, hb] at ha; cases ha
  obtain ⟨_, hsys, vs, kv, od, es, ep, e1, ed, e2, _, pr, _⟩ := I.hok b _ (sm b _ hb)
  cases kv
  have hes : es.toList = [] := by
    cases hp : es.toList with
    | nil => rfl
    | cons x r => rw [hp] at pr; cases pr
  have R : ReprK X.prog X.w [b] s.heap 1 (.ref b) (dictText []) := ReprK.dict e1 ed.1 e2 hsys (by simp) (by rw [hes]; exact .nil)
  refine R base hbz _ _ _ _ _ (guards_under_guard (isGuard_list_loop _) (show X.A.in1.guards = some [] from hG)) (fun c hc => ?_) (by rw [units_under_list_loop]; show X.A.units + 1 + 1 + 1 < cLine; omega) (fun _ _ e => e) fun h' tk hk => q _ (I.kept hk)
  rw [List.mem_singleton.mp hc]
  exact (Clear.nil b).cons hne
theorem ri_dict1 {X : Cx} {a b : Addr} {H : Hp} {k : Key} {n : Int} (hG : X.A.guards = some []) (hu : X.A.units + 70 < cLine) (hk : KOk k) (hn : n.natAbs.log2 < 1920) (hb : H b = some (.dK [(k, .int n)])) : RI X a H (.ref b) (dictText [kText k ++ ": " ++ toString n]) := by
  intro rest base s Q pins σ H' u xs i hbz sm ha hi I r q mem
  cases (show u = Value.ref b from r)
  have hne : a ≠ b := fun z => by rw [z, hb] at ha; cases ha
  obtain ⟨_, hsys, vs, kv, od, es, ep, e1, ed, e2, ek, pr, _⟩ := I.hok b _ (sm b _ hb)
  cases kv with
  | @cons _ kw _ _ r1 rr =>
    cases rr
    obtain ⟨ek1, t, ew⟩ := r1
    cases hp : es.toList with
    | nil => rw [hp] at pr; cases pr
    | cons x r =>
        rw [hp] at pr
        obtain ⟨p1, p2, p3⟩ := PySem.W.pairs_inv pr
        rw [← show k = kw.1 from ek1] at p1
        rw [show kw.2 = Value.int n t from ew] at p2
        cases p3
        have R : ReprK X.prog X.w [b] s.heap 1 (.ref b) (dictText [kText k ++ ": " ++ toString n]) := ReprK.dict e1 ed.1 e2 hsys (by simp) (by
          rw [hp]
          exact .cons (ReprK.of_is (hk.h p1) _ _ _) (by rw [p2]; exact ReprK.of_is (ReprIs.int t hn) _ _ _) .nil)
        refine R base hbz _ _ _ _ _ (guards_under_guard (isGuard_list_loop _) (show X.A.in1.guards = some [] from hG)) (fun c hc => ?_) (by rw [units_under_list_loop]; show X.A.units + 1 + 1 + 1 < cLine; omega) (fun _ _ e => e) fun h' tk hk => q _ (I.kept hk)
        rw [List.mem_singleton.mp hc]
        exact (Clear.nil b).cons hne
/-- the items that are left -/
theorem em_listLoop {X : Cx} {a P : Addr} {xs : List V} {ts : List Str} {base : Nat} {H : Hp} {pins : List (Addr × Obj)} {σ : L2.St} {R : Result → Shared → Prop} (hxa : H a = some (.lst xs)) (hPn : H P = none) (hlen : ts.length = xs.length)
    (hT : ∀ (i : Nat) (v : V), xs[i]? = some v → ∃ t, ts[i]? = some t ∧ RI X a H v t) (hsz : base + (listText ts).length ≤ sizeLine) (hRE : ∀ e s, X.xe e s → R (.error e) s) :
    ∀ (k i : Nat) (s : Shared), xs.length - i = k → i ≤ xs.length → Inv X pins σ (upd H P (.lst ((ts.take i).map V.str))) s →
    (∀ s' u, Inv X pins σ (upd H P (.lst (ts.map V.str))) s' → R (.ok (.ret (.str (listText ts) u))) s') →
    codeAny (model X.prog X.w) X.A.in1 (.builtin "list.__repr__.loop" ⟨[.ref a, rawInt i, .ref P, rawInt ((base + piled (ts.take i) : Nat) : Int)], []⟩) R s := by
  have hX : (listText ts).length = (textFrom 0 "[" ts).length + 1 := by
    show (textFrom 0 "[" ts ++ "]").length = _
    rw [strLen_append]; rfl
  have hL := textFrom_len ts 0 "["
  have hsz1 : xs.length ≤ sizeLine := by
    have h1 := hL.1
    rw [if_neg (Nat.lt_irrefl 0)] at h1
    omega
  have hsz2 : ∀ t ∈ ts, t.length ≤ sizeLine := fun t ht => by
    have h2 := hL.2.1 t ht
    omega
  have hsz3 : (listText ts).length ≤ sizeLine := by omega
  have hp3 := piled_le_listText ts
  have hne : a ≠ P := fun z => by rw [z, hPn] at hxa; cases hxa
  intro k
  induction k with
  | zero =>
    intro i s hk hi I hR
    have hin : i = xs.length := by omega
    have Ha : (upd H P (.lst ((ts.take i).map V.str))) a = some (.lst xs) := (upd_ne hne).trans hxa
    obtain ⟨its, n, rv, ha, _⟩ := I.lst Ha
    obtain ⟨ps, m, rp, hP, _⟩ := I.lst (show (upd H P (.lst ((ts.take i).map V.str))) P = _ from upd_same)
    obtain ⟨l, e1, e2⟩ := PySem.W.vals_strs rp
    have hl := rv.length
    refine codeAny_builtin F.entry_list_repr_loop ?_
    show wpAny _ _ («list.__repr__.loop» ⟨[.ref a, .int i 0, .ref P, .int ((base + piled (ts.take i) : Nat) : Int) 0], []⟩) _ _ s
    rw [repr_loop_tree]
    refine wpAny_bind (wpAny_listItems ha rfl ?_)
    have hnone : its.toArray[(i : Int).toNat]? = none := by simp; omega
    simp only [hnone]
    unfold reprEnd
    refine wpAny_bind (wpAny_listItems hP rfl ?_)
    rw [List.toList_toArray, e1, repr_fold]
    refine wpAny_bind (wpAny_pure ?_)
    have hall : l.map (·.1) = ts := by rw [e2, hin, ← hlen, List.take_length]
    rw [hall]
    have hfin : ts.take i = ts := by rw [hin, ← hlen, List.take_length]
    rw [hfin] at I
    refine wpAny_bind (wpAny_mkStr (wpAny_pure ?_) hsz3)
    exact hR _ _ (I.tok _)
  | succ k ih =>
    intro i s hk hi I hR
    have hlt : i < xs.length := by omega
    obtain ⟨t, ht, hrep⟩ := hT i xs[i] (by simp [hlt])
    have hp1 := piled_take_succ ht
    have hp2 := piled_take_le ts (i + 1)
    have Ha : (upd H P (.lst ((ts.take i).map V.str))) a = some (.lst xs) := (upd_ne hne).trans hxa
    obtain ⟨its, n, rv, ha, _⟩ := I.lst Ha
    obtain ⟨u, hu, ru⟩ := rv.get (show xs[i]? = some xs[i] by simp [hlt])
    refine codeAny_builtin F.entry_list_repr_loop ?_
    show wpAny _ _ («list.__repr__.loop» ⟨[.ref a, .int i 0, .ref P, .int ((base + piled (ts.take i) : Nat) : Int) 0], []⟩) _ _ s
    rw [repr_loop_tree]
    refine wpAny_bind (wpAny_listItems ha rfl ?_)
    have hsome : its.toArray[(i : Int).toNat]? = some u := by simpa using hu
    simp only [hsome]
    rw [Int.toNat_natCast]
    have hsame : Same H (upd H P (.lst ((ts.take i).map V.str))) := fun b o e => (upd_ne (fun z => by rw [z, hPn] at e; cases e)).trans e
    refine wpAny_bind (wpAny_holding (wpAny_mono (hrep _ (base + piled (ts.take i) + 1) s _ pins σ _ u xs i (by omega) hsame hxa (by simp [hlt]) I ru (fun s2 I2 => ?_) (fun its' n' e => ?_)) (fun _ _ z => z) hRE))
    · refine wpAny_bind (wpAny_mkStr ?_ (hsz2 t (List.mem_of_getElem? ht)))
      refine wpAny_bind ?_
      show wpAny _ _ (updateSeq P _) _ _ _
      have I3 := I2.tok (s2.toks + 1)
      obtain ⟨ps, m, rp, hP, hz⟩ := I3.lst (show (upd H P (.lst ((ts.take i).map V.str))) P = _ from upd_same)
      have hps := rp.length
      refine wpAny_updateSeq hP rfl (wpAny_pure ⟨F.quiet_list_repr_loop _, ?_⟩) (by rw [List.size_toArray, ← hps]; exact hz)
      have e1 : ((i : Int) + 1) = ((i + 1 : Nat) : Int) := by omega
      have e2 : base + piled (ts.take i) + (t.length + 2) = base + piled (ts.take (i + 1)) := by omega
      rw [e1, e2]
      have hts : (ts.take (i + 1)).map V.str = (ts.take i).map V.str ++ [V.str t] := by rw [List.take_add_one, ht, List.map_append]; rfl
      refine ih (i + 1) _ (by omega) hlt ?_ hR
      rw [hts]
      have e3 : ((ts.take i).map V.str ++ [V.str t]).length = i + 1 := by rw [List.length_append, List.length_map, List.length_take, Nat.min_eq_left (by omega)]; rfl
      have I4 := Inv.lset (t' := s2.toks + 1) (its' := ps ++ [.str t s2.toks]) (f := fun a => a.push (.str t s2.toks)) I3 (show (upd H P (.lst ((ts.take i).map V.str))) P = _ from upd_same) hP (by simp) (PySem.W.vals_app rp (.cons (show L2.RelV (V.str t) (.str t s2.toks) from ⟨_, rfl⟩) .nil)) (by rw [e3]; omega)
      rw [L2.upd_upd] at I4
      exact I4
    · rw [ha] at e
      have e2 : its = its' := by
        injection e with e
        injection e with _ _ e
        injection e with e
        injection e with e
      exact e2 ▸ List.mem_of_getElem? hu
/-- repr of the list at a: each item has its law -/
structure RLst (X : Cx) (H : Hp) (a : Addr) (ts : List Str) : Prop where
  h : ∃ x xs, H a = some (.lst (x :: xs)) ∧ ts.length = xs.length + 1 ∧ (∀ (i : Nat) (v : V), (x :: xs)[i]? = some v → ∃ t, ts[i]? = some t ∧ RI X a H v t) ∧ (listText ts).length ≤ sizeLine
def rReprL (X : Cx) : List V → Hp → VK → Prop := fun vs H Q => ∃ a ts, vs = [.ref a] ∧ RLst X H a ts ∧ ∀ H', Same H H' → Q (.str (listText ts)) H'
theorem call_reprL {X : Cx} (hG : X.A.guards = some []) (hr : Room 3 X.A) : CallR X (.builtin "repr") (rReprL X) := by
  intro pins s σ H xs us Q I r h
  obtain ⟨a, ts, rfl, ⟨x, ys, ha, hlen, hT, hsz⟩, q⟩ := h
  cases r with
  | cons rx rr =>
    cases rr
    rename_i u
    cases (show u = Value.ref a from rx)
    obtain ⟨its, n, rv, e, _⟩ := I.lst ha
    have hTy : s.TypeIs (.ref a) "list" := ⟨_, e, rfl⟩
    have hu : X.A.in1.units < cLine := hr.in1.units0
    cases rv with
    | cons r1 r2 =>
      rename_i v vs
      refine Calls.call_function_entry F.kind_repr F.plain_repr F.entry_repr (F.args_repr1 _) ?_
      unfold Builtin.«repr»
      refine wpAny_bind (m := oneArg "repr" _) (wpAny_pure ?_)
      refine wpAny_bind (m := cRoomFor _ _) (wpAny_cRoomFor hu ?_)
      refine wpAny_bind (wpAny_specialOf (name := Str.ofString "__repr__") hTy F.slot_list_repr.lookup ?_)
      refine wpAny_bind (m := callSpecialIfBound? (.ref a) (Str.ofString "__repr__")) (wpAny_callSpecialIfBound?_slot (name := Str.ofString "__repr__") hTy F.slot_list_repr ?_)
      refine wpAny_call (codeAny_call_builtin F.slot_list_repr.plain F.entry_list_repr (F.slot_list_repr.check _ _ _ _ _ _ _ _ hTy (F.args_list_repr_1 _) ?_))
      refine wpAny_list_repr_head (A := X.A.in1.in1) (g := []) (show X.A.guards = some [] from hG) (fun v rest kw hm => nomatch hm) e rfl ?_
      refine wpAny_bind (m := newList []) (wpAny_newObj_type ?_)
      refine wpAny_pure ⟨F.quiet_list_repr_loop _, ?_⟩
      have I2 := I.lnew (ys := []) (its := []) (t' := s.toks) .nil (Nat.zero_le _)
      refine em_listLoop (P := s.heap.objs.size) (base := 0) ha I.fresh hlen hT (by omega) (fun _ _ z => z) _ 0 _ rfl (Nat.zero_le _) I2 fun s' u I3 => ?_
      have sm : Same H (upd H s.heap.objs.size (.lst (ts.map V.str))) := fun b o e => (upd_ne (fun z => by rw [z, I.fresh] at e; cases e)).trans e
      exact wpAny_bind (wpAny_isInstance (T := "str") (b := true) (typeIs_str _ _ _) isSubtype_str_str (wpAny_pure ⟨_, rfl, .str _, _, I3, ⟨u, rfl⟩, q _ sm⟩))
end EM
/-! EM101: a def without defaults called by names. -/
namespace EM
open PySem PySem.Spec PyProof.Rows L2
theorem kbn_of {K : PySem.W.Frag} {x qual : Str} {params : Arguments} {body : List Stmt} {scope : Scope} {kws : List (Str × V)} {f : Addr} {fd : FuncData} {ps ks : List Str} {n : Nat} {g : List Value → List Value → List Value} {gV : List V → List V → List V}
    (F : FunD K x qual params body scope [] kws f fd) (rel : ∀ {vs : List V} {us : List Value} {zs : List V} {ws : List Value}, Vals vs us → Vals zs ws → Vals (gV vs zs) (g us ws))
    (h : ∀ (kV doc pm : Value) (an : Option Addr) (cdv ct : Value) (us ws : List Value), us.length = n → ws.length = ks.length → bindArgs (PySem.W.fnOf x qual params body scope .none kV doc pm an cdv ct) ⟨us, ks.zip ws⟩ = pure (ps.zip (g us ws))) : KBn K fd ps n ks g gV := by
  refine ⟨fun s us ws X l1 l2 => ?_, fun r1 r2 => rel r1 r2⟩
  obtain ⟨oc, od, dV, kV, doc, pm, an, cdv, ct, osl, rfl, lk, hcd, hD, hK⟩ := F.ex
  rcases hD with ⟨_, rfl⟩ | ⟨e, _⟩
  · exact .of_eq (h kV doc pm an cdv ct us ws l1 l2)
  · exact absurd rfl e
end EM
/-! EM102: a comprehension whose items are told by the heap, the list that is made known from the start. -/
namespace EM
open PySem PySem.Spec PyProof.Rows L2
/-- a comprehension that draws nothing: P tells of the list at D so far, and of the heap -/
theorem LcS.lcD {T : List (Addr × Str)} {p l : Addr} {m : Nat} {J : It} {n : Nat} {G : Hp → Prop} {Y : Nat → Hp → V → Hp → Prop} (w : Walk J n G Y) {g : TG} {tt : TT} {te : TE} {vs : List Nat} {σ : L2.St} {H1 : Hp} {Q : VK}
    (B : Bs T p l m H1) (P : Addr → Nat → List V → Hp → Prop) (h0 : ∀ D H, H1 D = none → Ext p H1 H → P D 0 [] H) (hn : n ≤ 100000) (hG : ∀ H, Ext p H1 H → G H)
    (hs : ∀ D i x acc H H' (Rf : Hp → Prop) (Rt : V → Hp → Prop), H1 D = none → i < n → At p H D (.lst acc) → P D i acc H → Ext p H1 H → Bs T p l m H → Y i H x H' → (∀ H3, Ext p H H3 → Bs T p l m H3 → P D (i + 1) acc H3 → Rf H3) →
      (∀ y H4, Ext p H H4 → Bs T p l m H4 → (∀ H5, Mu D H4 H5 (.lst (acc ++ [y])) → P D (i + 1) (acc ++ [y]) H5) → Rt y H4) → g x (wipe σ vs) H' fun σ2 H2 => wipe σ2 vs = wipe σ vs ∧ tt σ2 H2 fun b H3 => if b = true then mcE te σ2 H3 Rt else Rf H3)
    (hd : ∀ D ys H', H1 D = none → P D n ys H' → ys.length ≤ n → Ext p H1 H' → Bs T p l m H' → At p H' D (.lst ys) → Q (.ref D) H') : LcS J g tt (mcE te) vs σ H1 Q := by
  refine ⟨fun D hD => ?_⟩
  have nDp := B.ne hD
  have nDl := B.nel hD
  refine lc_it w (fun i H => ∃ acc, At p H D (.lst acc) ∧ acc.length ≤ i ∧ P D i acc H ∧ Ext p H1 H ∧ Bs T p l m H) ⟨[], ⟨upd_same, nDp, fun _ z => by cases z⟩, Nat.le_refl _, h0 D _ hD (Ext.same (same_upd hD)), Ext.same (same_upd hD), B.same (same_upd hD)⟩ (fun i H hi ⟨acc, _, _, _, x, _⟩ => hG H x) ?_ ?_
  · rintro i x H H' hi ⟨acc, hA, hl, hf, x1, B1⟩ y
    refine hs D i x acc H H' _ _ hD hi hA hf x1 B1 y (fun H3 x3 B3 h3 => ⟨acc, hA.ext x3, by omega, h3, x1.trans x3, B3⟩) (fun v H4 x4 B4 h4 => ?_)
    have hA4 := hA.ext x4
    refine ⟨acc, hA4.at_, szl (by omega), acc ++ [v], ⟨upd_same, nDp, fun _ z => by cases z⟩, by simp; omega, h4 _ Mu.upd, ⟨fun b o e nb nt => ?_⟩, ⟨?_, tabs_mut B4.tab hA4.at_⟩⟩
    · have e4 := x4.k _ _ (x1.k _ _ e nb nt) nb nt
      rw [upd_ne (ne_of_none e hD)]
      exact e4
    · exact B4.pen.mut nDp nDl
  · rintro H ⟨acc, hA, hl, hf, x1, B1⟩
    exact hd D acc H hD hf hl x1 B1 hA
/-- a comprehension with a two-name target over an iterable, e.g. mg_two -/
theorem gTup_two {K : PySem.W.Frag} {i j : Nat} {x : V} {σ : L2.St} {H : Hp} {R : L2.St → Hp → Prop} {p a : Addr} {u v : V} (h : At p H a (.tup [u, v])) (hx : x = .ref a) (q : R ((σ.set i (some u)).set j (some v)) H) : gTup K 2 (gCons (gName i) (gCons (gName j) gNil)) x σ H R := by
  subst hx
  exact ⟨a, _, rfl, SqT.of h.at_, rfl, _, _, rfl, _, _, rfl, rfl, q⟩
end EM
namespace K01
open PySem PySem.Spec PyProof.Rows L2
section
variable {K : PySem.W.Frag} {mg : Str → Option Value}
theorem Tx.g_BadRatio (T : Tx K mg) : mg "BadRatio" = some (.ref (He.ga K "BadRatio")) :=
  have c := T.says.fact 0 (f := fun K => (He.Fa.glo "BadRatio").ok K) (by rfl)
  let ⟨_, X, G⟩ := T.ex; He.glo_ok X G c
theorem Tx.g_BadMark (T : Tx K mg) : mg "BadMark" = some (.ref (He.ga K "BadMark")) :=
  have c := T.says.fact 1 (f := fun K => (He.Fa.glo "BadMark").ok K) (by rfl)
  let ⟨_, X, G⟩ := T.ex; He.glo_ok X G c
theorem Tx.g_NoEdge (T : Tx K mg) : mg "NoEdge" = some (.ref (He.ga K "NoEdge")) :=
  have c := T.says.fact 2 (f := fun K => (He.Fa.glo "NoEdge").ok K) (by rfl)
  let ⟨_, X, G⟩ := T.ex; He.glo_ok X G c
theorem Tx.g_BadReading (T : Tx K mg) : mg "BadReading" = some (.ref (He.ga K "BadReading")) :=
  have c := T.says.fact 3 (f := fun K => (He.Fa.glo "BadReading").ok K) (by rfl)
  let ⟨_, X, G⟩ := T.ex; He.glo_ok X G c
theorem Tx.g_NotRising (T : Tx K mg) : mg "NotRising" = some (.ref (He.ga K "NotRising")) :=
  have c := T.says.fact 4 (f := fun K => (He.Fa.glo "NotRising").ok K) (by rfl)
  let ⟨_, X, G⟩ := T.ex; He.glo_ok X G c
theorem Tx.g_NoStretch (T : Tx K mg) : mg "NoStretch" = some (.ref (He.ga K "NoStretch")) :=
  have c := T.says.fact 5 (f := fun K => (He.Fa.glo "NoStretch").ok K) (by rfl)
  let ⟨_, X, G⟩ := T.ex; He.glo_ok X G c
theorem Tx.g_BadView (T : Tx K mg) : mg "BadView" = some (.ref (He.ga K "BadView")) :=
  have c := T.says.fact 6 (f := fun K => (He.Fa.glo "BadView").ok K) (by rfl)
  let ⟨_, X, G⟩ := T.ex; He.glo_ok X G c
theorem Tx.g_BadTerms (T : Tx K mg) : mg "BadTerms" = some (.ref (He.ga K "BadTerms")) :=
  have c := T.says.fact 7 (f := fun K => (He.Fa.glo "BadTerms").ok K) (by rfl)
  let ⟨_, X, G⟩ := T.ex; He.glo_ok X G c
theorem Tx.g_BadWeights (T : Tx K mg) : mg "BadWeights" = some (.ref (He.ga K "BadWeights")) :=
  have c := T.says.fact 8 (f := fun K => (He.Fa.glo "BadWeights").ok K) (by rfl)
  let ⟨_, X, G⟩ := T.ex; He.glo_ok X G c
theorem Tx.g_BadName (T : Tx K mg) : mg "BadName" = some (.ref (He.ga K "BadName")) :=
  have c := T.says.fact 9 (f := fun K => (He.Fa.glo "BadName").ok K) (by rfl)
  let ⟨_, X, G⟩ := T.ex; He.glo_ok X G c
theorem Tx.g_NoName (T : Tx K mg) : mg "NoName" = some (.ref (He.ga K "NoName")) :=
  have c := T.says.fact 10 (f := fun K => (He.Fa.glo "NoName").ok K) (by rfl)
  let ⟨_, X, G⟩ := T.ex; He.glo_ok X G c
theorem Tx.g_TooMany (T : Tx K mg) : mg "TooMany" = some (.ref (He.ga K "TooMany")) :=
  have c := T.says.fact 11 (f := fun K => (He.Fa.glo "TooMany").ok K) (by rfl)
  let ⟨_, X, G⟩ := T.ex; He.glo_ok X G c
theorem Tx.g_BadError (T : Tx K mg) : mg "BadError" = some (.ref (He.ga K "BadError")) :=
  have c := T.says.fact 12 (f := fun K => (He.Fa.glo "BadError").ok K) (by rfl)
  let ⟨_, X, G⟩ := T.ex; He.glo_ok X G c
theorem Tx.g_BadCount (T : Tx K mg) : mg "BadCount" = some (.ref (He.ga K "BadCount")) :=
  have c := T.says.fact 13 (f := fun K => (He.Fa.glo "BadCount").ok K) (by rfl)
  let ⟨_, X, G⟩ := T.ex; He.glo_ok X G c
theorem Tx.g_Alike (T : Tx K mg) : mg "Alike" = some (.ref (He.ga K "Alike")) :=
  have c := T.says.fact 14 (f := fun K => (He.Fa.glo "Alike").ok K) (by rfl)
  let ⟨_, X, G⟩ := T.ex; He.glo_ok X G c
theorem Tx.g_TooLarge (T : Tx K mg) : mg "TooLarge" = some (.ref (He.ga K "TooLarge")) :=
  have c := T.says.fact 15 (f := fun K => (He.Fa.glo "TooLarge").ok K) (by rfl)
  let ⟨_, X, G⟩ := T.ex; He.glo_ok X G c
theorem Tx.g_BadText (T : Tx K mg) : mg "BadText" = some (.ref (He.ga K "BadText")) :=
  have c := T.says.fact 16 (f := fun K => (He.Fa.glo "BadText").ok K) (by rfl)
  let ⟨_, X, G⟩ := T.ex; He.glo_ok X G c
theorem Tx.g_NoDivisor (T : Tx K mg) : mg "NoDivisor" = some (.ref (He.ga K "NoDivisor")) :=
  have c := T.says.fact 17 (f := fun K => (He.Fa.glo "NoDivisor").ok K) (by rfl)
  let ⟨_, X, G⟩ := T.ex; He.glo_ok X G c
theorem Tx.g_Unlike (T : Tx K mg) : mg "Unlike" = some (.ref (He.ga K "Unlike")) :=
  have c := T.says.fact 18 (f := fun K => (He.Fa.glo "Unlike").ok K) (by rfl)
  let ⟨_, X, G⟩ := T.ex; He.glo_ok X G c
theorem Tx.g_NoTerms (T : Tx K mg) : mg "NoTerms" = some (.ref (He.ga K "NoTerms")) :=
  have c := T.says.fact 19 (f := fun K => (He.Fa.glo "NoTerms").ok K) (by rfl)
  let ⟨_, X, G⟩ := T.ex; He.glo_ok X G c
theorem Tx.g_Empty (T : Tx K mg) : mg "Empty" = some (.ref (He.ga K "Empty")) :=
  have c := T.says.fact 20 (f := fun K => (He.Fa.glo "Empty").ok K) (by rfl)
  let ⟨_, X, G⟩ := T.ex; He.glo_ok X G c
theorem Tx.g_Uneven (T : Tx K mg) : mg "Uneven" = some (.ref (He.ga K "Uneven")) :=
  have c := T.says.fact 21 (f := fun K => (He.Fa.glo "Uneven").ok K) (by rfl)
  let ⟨_, X, G⟩ := T.ex; He.glo_ok X G c
theorem Tx.g_EdgeError (T : Tx K mg) : mg "EdgeError" = some (.ref (He.ga K "EdgeError")) :=
  have c := T.says.fact 22 (f := fun K => (He.Fa.glo "EdgeError").ok K) (by rfl)
  let ⟨_, X, G⟩ := T.ex; He.glo_ok X G c
theorem Tx.g_Ratio (T : Tx K mg) : mg "Ratio" = some (.ref (He.ga K "Ratio")) :=
  have c := T.says.fact 23 (f := fun K => (He.Fa.glo "Ratio").ok K) (by rfl)
  let ⟨_, X, G⟩ := T.ex; He.glo_ok X G c
theorem Tx.g_is_integer (T : Tx K mg) : mg "is_integer" = some (.ref (He.ga K "is_integer")) :=
  have c := T.says.fact 24 (f := fun K => (He.Fa.glo "is_integer").ok K) (by rfl)
  let ⟨_, X, G⟩ := T.ex; He.glo_ok X G c
theorem Tx.g_common_divisor (T : Tx K mg) : mg "common_divisor" = some (.ref (He.ga K "common_divisor")) :=
  have c := T.says.fact 25 (f := fun K => (He.Fa.glo "common_divisor").ok K) (by rfl)
  let ⟨_, X, G⟩ := T.ex; He.glo_ok X G c
theorem Tx.g__law_pen (T : Tx K mg) : mg "_law_pen" = some (.ref (He.ga K "_law_pen")) :=
  have c := T.says.fact 26 (f := fun K => (He.Fa.glo "_law_pen").ok K) (by rfl)
  let ⟨_, X, G⟩ := T.ex; He.glo_ok X G c
theorem Tx.g__law_draw (T : Tx K mg) : mg "_law_draw" = some (.ref (He.ga K "_law_draw")) :=
  have c := T.says.fact 27 (f := fun K => (He.Fa.glo "_law_draw").ok K) (by rfl)
  let ⟨_, X, G⟩ := T.ex; He.glo_ok X G c
theorem Tx.g__law_pick (T : Tx K mg) : mg "_law_pick" = some (.ref (He.ga K "_law_pick")) :=
  have c := T.says.fact 28 (f := fun K => (He.Fa.glo "_law_pick").ok K) (by rfl)
  let ⟨_, X, G⟩ := T.ex; He.glo_ok X G c
theorem Tx.g__law_thing (T : Tx K mg) : mg "_law_thing" = some (.ref (He.ga K "_law_thing")) :=
  have c := T.says.fact 29 (f := fun K => (He.Fa.glo "_law_thing").ok K) (by rfl)
  let ⟨_, X, G⟩ := T.ex; He.glo_ok X G c
theorem Tx.g__law_kinds (T : Tx K mg) : mg "_law_kinds" = some (.ref (He.ga K "_law_kinds")) :=
  have c := T.says.fact 30 (f := fun K => (He.Fa.glo "_law_kinds").ok K) (by rfl)
  let ⟨_, X, G⟩ := T.ex; He.glo_ok X G c
theorem Tx.g__law_is_based (T : Tx K mg) : mg "_law_is_based" = some (.ref (He.ga K "_law_is_based")) :=
  have c := T.says.fact 31 (f := fun K => (He.Fa.glo "_law_is_based").ok K) (by rfl)
  let ⟨_, X, G⟩ := T.ex; He.glo_ok X G c
theorem Tx.g__law_singles (T : Tx K mg) : mg "_law_singles" = some (.ref (He.ga K "_law_singles")) :=
  have c := T.says.fact 32 (f := fun K => (He.Fa.glo "_law_singles").ok K) (by rfl)
  let ⟨_, X, G⟩ := T.ex; He.glo_ok X G c
theorem Tx.g__law_doubles (T : Tx K mg) : mg "_law_doubles" = some (.ref (He.ga K "_law_doubles")) :=
  have c := T.says.fact 33 (f := fun K => (He.Fa.glo "_law_doubles").ok K) (by rfl)
  let ⟨_, X, G⟩ := T.ex; He.glo_ok X G c
theorem Tx.f_len (T : Tx K mg) : mg "len" = none :=
  have c := T.says.fact 35 (f := fun K => (He.Fa.free "len").ok K) (by rfl)
  let ⟨_, X, G⟩ := T.ex; He.free_ok X G c
theorem Tx.f_isinstance (T : Tx K mg) : mg "isinstance" = none :=
  have c := T.says.fact 36 (f := fun K => (He.Fa.free "isinstance").ok K) (by rfl)
  let ⟨_, X, G⟩ := T.ex; He.free_ok X G c
theorem Tx.f_int (T : Tx K mg) : mg "int" = none :=
  have c := T.says.fact 37 (f := fun K => (He.Fa.free "int").ok K) (by rfl)
  let ⟨_, X, G⟩ := T.ex; He.free_ok X G c
theorem Tx.f_bool (T : Tx K mg) : mg "bool" = none :=
  have c := T.says.fact 38 (f := fun K => (He.Fa.free "bool").ok K) (by rfl)
  let ⟨_, X, G⟩ := T.ex; He.free_ok X G c
theorem Tx.f_abs (T : Tx K mg) : mg "abs" = none :=
  have c := T.says.fact 39 (f := fun K => (He.Fa.free "abs").ok K) (by rfl)
  let ⟨_, X, G⟩ := T.ex; He.free_ok X G c
theorem Tx.f_range (T : Tx K mg) : mg "range" = none :=
  have c := T.says.fact 40 (f := fun K => (He.Fa.free "range").ok K) (by rfl)
  let ⟨_, X, G⟩ := T.ex; He.free_ok X G c
theorem Tx.f_repr (T : Tx K mg) : mg "repr" = none :=
  have c := T.says.fact 41 (f := fun K => (He.Fa.free "repr").ok K) (by rfl)
  let ⟨_, X, G⟩ := T.ex; He.free_ok X G c
theorem Tx.f_list (T : Tx K mg) : mg "list" = none :=
  have c := T.says.fact 42 (f := fun K => (He.Fa.free "list").ok K) (by rfl)
  let ⟨_, X, G⟩ := T.ex; He.free_ok X G c
theorem Tx.f_enumerate (T : Tx K mg) : mg "enumerate" = none :=
  have c := T.says.fact 43 (f := fun K => (He.Fa.free "enumerate").ok K) (by rfl)
  let ⟨_, X, G⟩ := T.ex; He.free_ok X G c
theorem Tx.f_ValueError (T : Tx K mg) : mg "ValueError" = none :=
  have c := T.says.fact 44 (f := fun K => (He.Fa.free "ValueError").ok K) (by rfl)
  let ⟨_, X, G⟩ := T.ex; He.free_ok X G c
theorem Tx.f_KeyError (T : Tx K mg) : mg "KeyError" = none :=
  have c := T.says.fact 45 (f := fun K => (He.Fa.free "KeyError").ok K) (by rfl)
  let ⟨_, X, G⟩ := T.ex; He.free_ok X G c
theorem Tx.f_IndexError (T : Tx K mg) : mg "IndexError" = none :=
  have c := T.says.fact 46 (f := fun K => (He.Fa.free "IndexError").ok K) (by rfl)
  let ⟨_, X, G⟩ := T.ex; He.free_ok X G c
theorem Tx.f_LookupError (T : Tx K mg) : mg "LookupError" = none :=
  have c := T.says.fact 47 (f := fun K => (He.Fa.free "LookupError").ok K) (by rfl)
  let ⟨_, X, G⟩ := T.ex; He.free_ok X G c
theorem Tx.f_ArithmeticError (T : Tx K mg) : mg "ArithmeticError" = none :=
  have c := T.says.fact 48 (f := fun K => (He.Fa.free "ArithmeticError").ok K) (by rfl)
  let ⟨_, X, G⟩ := T.ex; He.free_ok X G c
theorem Tx.f_OverflowError (T : Tx K mg) : mg "OverflowError" = none :=
  have c := T.says.fact 49 (f := fun K => (He.Fa.free "OverflowError").ok K) (by rfl)
  let ⟨_, X, G⟩ := T.ex; He.free_ok X G c
theorem Tx.f_TypeError (T : Tx K mg) : mg "TypeError" = none :=
  have c := T.says.fact 50 (f := fun K => (He.Fa.free "TypeError").ok K) (by rfl)
  let ⟨_, X, G⟩ := T.ex; He.free_ok X G c
theorem Tx.f_RuntimeError (T : Tx K mg) : mg "RuntimeError" = none :=
  have c := T.says.fact 51 (f := fun K => (He.Fa.free "RuntimeError").ok K) (by rfl)
  let ⟨_, X, G⟩ := T.ex; He.free_ok X G c
theorem Tx.f_AttributeError (T : Tx K mg) : mg "AttributeError" = none :=
  have c := T.says.fact 52 (f := fun K => (He.Fa.free "AttributeError").ok K) (by rfl)
  let ⟨_, X, G⟩ := T.ex; He.free_ok X G c
theorem Tx.cl_Ratio (T : Tx K mg) : Cls K (He.ga K "Ratio") :=
  have c := T.says.fact 53 (f := fun K => (He.Fa.cls "Ratio").ok K) (by rfl)
  He.cls_ok c
theorem Tx.mk_Ratio (T : Tx K mg) : Mk K (He.ga K "Ratio") (He.ma K (He.ga K "Ratio") "__init__") :=
  have c := T.says.fact 54 (f := fun K => (He.Fa.mkr "Ratio").ok K) (by rfl)
  He.mkr_ok c
theorem Tx.m_Ratio_repr (T : Tx K mg) : Meth K (He.ga K "Ratio") "__repr__" (He.ma K (He.ga K "Ratio") "__repr__") :=
  have c := T.says.fact 56 (f := fun K => (He.Fa.meth "Ratio" "__repr__").ok K) (by rfl)
  He.meth_ok c
theorem Tx.na_Ratio_top (T : Tx K mg) : NoAttr K (He.ga K "Ratio") "top" :=
  have c := T.says.fact 57 (f := fun K => (He.Fa.noat "Ratio" "top").ok K) (by rfl)
  He.noat_ok c
theorem Tx.na_Ratio_bottom (T : Tx K mg) : NoAttr K (He.ga K "Ratio") "bottom" :=
  have c := T.says.fact 58 (f := fun K => (He.Fa.noat "Ratio" "bottom").ok K) (by rfl)
  He.noat_ok c
theorem Tx.na_BadRatio_part (T : Tx K mg) : NoAttr K (He.ga K "BadRatio") "part" :=
  have c := T.says.fact 59 (f := fun K => (He.Fa.noat "BadRatio" "part").ok K) (by rfl)
  He.noat_ok c
theorem Tx.xf_BadRatio (T : Tx K mg) : L2.XfC K (He.ga K "BadRatio") :=
  have c := T.says.fact 60 (f := fun K => L2.xfB K (He.ga K "BadRatio")) (by rfl)
  L2.xfB_ok c
theorem Tx.ox_BadRatio (T : Tx K mg) : OexC K (He.ga K "BadRatio") :=
  have c := T.says.fact 61 (f := fun K => EM.oexB K (He.ga K "BadRatio")) (by rfl)
  EM.oexB_ok c
theorem Tx.oi_BadRatio (T : Tx K mg) : PySem.W.findIn K (.ref (He.ga K "BadRatio")) "__init__" = some (some (.ref (He.ma K (He.ga K "BadRatio") "__init__"))) ∧ PySem.W.typeIn K (.ref (He.ma K (He.ga K "BadRatio") "__init__")) = some (.type "function") :=
  have c := T.says.fact 62 (f := fun K => EM.oinB K (He.ga K "BadRatio")) (by rfl)
  EM.oinB_ok c
theorem Tx.na_BadMark_at (T : Tx K mg) : NoAttr K (He.ga K "BadMark") "at" :=
  have c := T.says.fact 63 (f := fun K => (He.Fa.noat "BadMark" "at").ok K) (by rfl)
  He.noat_ok c
theorem Tx.xf_BadMark (T : Tx K mg) : L2.XfC K (He.ga K "BadMark") :=
  have c := T.says.fact 64 (f := fun K => L2.xfB K (He.ga K "BadMark")) (by rfl)
  L2.xfB_ok c
theorem Tx.ox_BadMark (T : Tx K mg) : OexC K (He.ga K "BadMark") :=
  have c := T.says.fact 65 (f := fun K => EM.oexB K (He.ga K "BadMark")) (by rfl)
  EM.oexB_ok c
theorem Tx.oi_BadMark (T : Tx K mg) : PySem.W.findIn K (.ref (He.ga K "BadMark")) "__init__" = some (some (.ref (He.ma K (He.ga K "BadMark") "__init__"))) ∧ PySem.W.typeIn K (.ref (He.ma K (He.ga K "BadMark") "__init__")) = some (.type "function") :=
  have c := T.says.fact 66 (f := fun K => EM.oinB K (He.ga K "BadMark")) (by rfl)
  EM.oinB_ok c
theorem Tx.na_NoEdge_value (T : Tx K mg) : NoAttr K (He.ga K "NoEdge") "value" :=
  have c := T.says.fact 67 (f := fun K => (He.Fa.noat "NoEdge" "value").ok K) (by rfl)
  He.noat_ok c
theorem Tx.xf_NoEdge (T : Tx K mg) : L2.XfC K (He.ga K "NoEdge") :=
  have c := T.says.fact 68 (f := fun K => L2.xfB K (He.ga K "NoEdge")) (by rfl)
  L2.xfB_ok c
theorem Tx.ox_NoEdge (T : Tx K mg) : OexC K (He.ga K "NoEdge") :=
  have c := T.says.fact 69 (f := fun K => EM.oexB K (He.ga K "NoEdge")) (by rfl)
  EM.oexB_ok c
theorem Tx.oi_NoEdge (T : Tx K mg) : PySem.W.findIn K (.ref (He.ga K "NoEdge")) "__init__" = some (some (.ref (He.ma K (He.ga K "NoEdge") "__init__"))) ∧ PySem.W.typeIn K (.ref (He.ma K (He.ga K "NoEdge") "__init__")) = some (.type "function") :=
  have c := T.says.fact 70 (f := fun K => EM.oinB K (He.ga K "NoEdge")) (by rfl)
  EM.oinB_ok c
theorem Tx.na_BadReading_at (T : Tx K mg) : NoAttr K (He.ga K "BadReading") "at" :=
  have c := T.says.fact 71 (f := fun K => (He.Fa.noat "BadReading" "at").ok K) (by rfl)
  He.noat_ok c
theorem Tx.xf_BadReading (T : Tx K mg) : L2.XfC K (He.ga K "BadReading") :=
  have c := T.says.fact 72 (f := fun K => L2.xfB K (He.ga K "BadReading")) (by rfl)
  L2.xfB_ok c
theorem Tx.ox_BadReading (T : Tx K mg) : OexC K (He.ga K "BadReading") :=
  have c := T.says.fact 73 (f := fun K => EM.oexB K (He.ga K "BadReading")) (by rfl)
  EM.oexB_ok c
theorem Tx.oi_BadReading (T : Tx K mg) : PySem.W.findIn K (.ref (He.ga K "BadReading")) "__init__" = some (some (.ref (He.ma K (He.ga K "BadReading") "__init__"))) ∧ PySem.W.typeIn K (.ref (He.ma K (He.ga K "BadReading") "__init__")) = some (.type "function") :=
  have c := T.says.fact 74 (f := fun K => EM.oinB K (He.ga K "BadReading")) (by rfl)
  EM.oinB_ok c
theorem Tx.na_NotRising_at (T : Tx K mg) : NoAttr K (He.ga K "NotRising") "at" :=
  have c := T.says.fact 75 (f := fun K => (He.Fa.noat "NotRising" "at").ok K) (by rfl)
  He.noat_ok c
theorem Tx.xf_NotRising (T : Tx K mg) : L2.XfC K (He.ga K "NotRising") :=
  have c := T.says.fact 76 (f := fun K => L2.xfB K (He.ga K "NotRising")) (by rfl)
  L2.xfB_ok c
theorem Tx.ox_NotRising (T : Tx K mg) : OexC K (He.ga K "NotRising") :=
  have c := T.says.fact 77 (f := fun K => EM.oexB K (He.ga K "NotRising")) (by rfl)
  EM.oexB_ok c
theorem Tx.oi_NotRising (T : Tx K mg) : PySem.W.findIn K (.ref (He.ga K "NotRising")) "__init__" = some (some (.ref (He.ma K (He.ga K "NotRising") "__init__"))) ∧ PySem.W.typeIn K (.ref (He.ma K (He.ga K "NotRising") "__init__")) = some (.type "function") :=
  have c := T.says.fact 78 (f := fun K => EM.oinB K (He.ga K "NotRising")) (by rfl)
  EM.oinB_ok c
theorem Tx.na_NoStretch_value (T : Tx K mg) : NoAttr K (He.ga K "NoStretch") "value" :=
  have c := T.says.fact 79 (f := fun K => (He.Fa.noat "NoStretch" "value").ok K) (by rfl)
  He.noat_ok c
theorem Tx.xf_NoStretch (T : Tx K mg) : L2.XfC K (He.ga K "NoStretch") :=
  have c := T.says.fact 80 (f := fun K => L2.xfB K (He.ga K "NoStretch")) (by rfl)
  L2.xfB_ok c
theorem Tx.ox_NoStretch (T : Tx K mg) : OexC K (He.ga K "NoStretch") :=
  have c := T.says.fact 81 (f := fun K => EM.oexB K (He.ga K "NoStretch")) (by rfl)
  EM.oexB_ok c
theorem Tx.oi_NoStretch (T : Tx K mg) : PySem.W.findIn K (.ref (He.ga K "NoStretch")) "__init__" = some (some (.ref (He.ma K (He.ga K "NoStretch") "__init__"))) ∧ PySem.W.typeIn K (.ref (He.ma K (He.ga K "NoStretch") "__init__")) = some (.type "function") :=
  have c := T.says.fact 82 (f := fun K => EM.oinB K (He.ga K "NoStretch")) (by rfl)
  EM.oinB_ok c
theorem Tx.na_BadView_part (T : Tx K mg) : NoAttr K (He.ga K "BadView") "part" :=
  have c := T.says.fact 83 (f := fun K => (He.Fa.noat "BadView" "part").ok K) (by rfl)
  He.noat_ok c
theorem Tx.xf_BadView (T : Tx K mg) : L2.XfC K (He.ga K "BadView") :=
  have c := T.says.fact 84 (f := fun K => L2.xfB K (He.ga K "BadView")) (by rfl)
  L2.xfB_ok c
theorem Tx.ox_BadView (T : Tx K mg) : OexC K (He.ga K "BadView") :=
  have c := T.says.fact 85 (f := fun K => EM.oexB K (He.ga K "BadView")) (by rfl)
  EM.oexB_ok c
theorem Tx.oi_BadView (T : Tx K mg) : PySem.W.findIn K (.ref (He.ga K "BadView")) "__init__" = some (some (.ref (He.ma K (He.ga K "BadView") "__init__"))) ∧ PySem.W.typeIn K (.ref (He.ma K (He.ga K "BadView") "__init__")) = some (.type "function") :=
  have c := T.says.fact 86 (f := fun K => EM.oinB K (He.ga K "BadView")) (by rfl)
  EM.oinB_ok c
theorem Tx.na_BadTerms_part (T : Tx K mg) : NoAttr K (He.ga K "BadTerms") "part" :=
  have c := T.says.fact 87 (f := fun K => (He.Fa.noat "BadTerms" "part").ok K) (by rfl)
  He.noat_ok c
theorem Tx.xf_BadTerms (T : Tx K mg) : L2.XfC K (He.ga K "BadTerms") :=
  have c := T.says.fact 88 (f := fun K => L2.xfB K (He.ga K "BadTerms")) (by rfl)
  L2.xfB_ok c
theorem Tx.ox_BadTerms (T : Tx K mg) : OexC K (He.ga K "BadTerms") :=
  have c := T.says.fact 89 (f := fun K => EM.oexB K (He.ga K "BadTerms")) (by rfl)
  EM.oexB_ok c
theorem Tx.oi_BadTerms (T : Tx K mg) : PySem.W.findIn K (.ref (He.ga K "BadTerms")) "__init__" = some (some (.ref (He.ma K (He.ga K "BadTerms") "__init__"))) ∧ PySem.W.typeIn K (.ref (He.ma K (He.ga K "BadTerms") "__init__")) = some (.type "function") :=
  have c := T.says.fact 90 (f := fun K => EM.oinB K (He.ga K "BadTerms")) (by rfl)
  EM.oinB_ok c
theorem Tx.na_BadWeights_part (T : Tx K mg) : NoAttr K (He.ga K "BadWeights") "part" :=
  have c := T.says.fact 91 (f := fun K => (He.Fa.noat "BadWeights" "part").ok K) (by rfl)
  He.noat_ok c
theorem Tx.xf_BadWeights (T : Tx K mg) : L2.XfC K (He.ga K "BadWeights") :=
  have c := T.says.fact 92 (f := fun K => L2.xfB K (He.ga K "BadWeights")) (by rfl)
  L2.xfB_ok c
theorem Tx.ox_BadWeights (T : Tx K mg) : OexC K (He.ga K "BadWeights") :=
  have c := T.says.fact 93 (f := fun K => EM.oexB K (He.ga K "BadWeights")) (by rfl)
  EM.oexB_ok c
theorem Tx.oi_BadWeights (T : Tx K mg) : PySem.W.findIn K (.ref (He.ga K "BadWeights")) "__init__" = some (some (.ref (He.ma K (He.ga K "BadWeights") "__init__"))) ∧ PySem.W.typeIn K (.ref (He.ma K (He.ga K "BadWeights") "__init__")) = some (.type "function") :=
  have c := T.says.fact 94 (f := fun K => EM.oinB K (He.ga K "BadWeights")) (by rfl)
  EM.oinB_ok c
theorem Tx.na_BadName_name (T : Tx K mg) : NoAttr K (He.ga K "BadName") "name" :=
  have c := T.says.fact 95 (f := fun K => (He.Fa.noat "BadName" "name").ok K) (by rfl)
  He.noat_ok c
theorem Tx.xf_BadName (T : Tx K mg) : L2.XfC K (He.ga K "BadName") :=
  have c := T.says.fact 96 (f := fun K => L2.xfB K (He.ga K "BadName")) (by rfl)
  L2.xfB_ok c
theorem Tx.ox_BadName (T : Tx K mg) : OexC K (He.ga K "BadName") :=
  have c := T.says.fact 97 (f := fun K => EM.oexB K (He.ga K "BadName")) (by rfl)
  EM.oexB_ok c
theorem Tx.oi_BadName (T : Tx K mg) : PySem.W.findIn K (.ref (He.ga K "BadName")) "__init__" = some (some (.ref (He.ma K (He.ga K "BadName") "__init__"))) ∧ PySem.W.typeIn K (.ref (He.ma K (He.ga K "BadName") "__init__")) = some (.type "function") :=
  have c := T.says.fact 98 (f := fun K => EM.oinB K (He.ga K "BadName")) (by rfl)
  EM.oinB_ok c
theorem Tx.na_NoName_name (T : Tx K mg) : NoAttr K (He.ga K "NoName") "name" :=
  have c := T.says.fact 99 (f := fun K => (He.Fa.noat "NoName" "name").ok K) (by rfl)
  He.noat_ok c
theorem Tx.xf_NoName (T : Tx K mg) : L2.XfC K (He.ga K "NoName") :=
  have c := T.says.fact 100 (f := fun K => L2.xfB K (He.ga K "NoName")) (by rfl)
  L2.xfB_ok c
theorem Tx.ox_NoName (T : Tx K mg) : OexC K (He.ga K "NoName") :=
  have c := T.says.fact 101 (f := fun K => EM.oexB K (He.ga K "NoName")) (by rfl)
  EM.oexB_ok c
theorem Tx.oi_NoName (T : Tx K mg) : PySem.W.findIn K (.ref (He.ga K "NoName")) "__init__" = some (some (.ref (He.ma K (He.ga K "NoName") "__init__"))) ∧ PySem.W.typeIn K (.ref (He.ma K (He.ga K "NoName") "__init__")) = some (.type "function") :=
  have c := T.says.fact 102 (f := fun K => EM.oinB K (He.ga K "NoName")) (by rfl)
  EM.oinB_ok c
theorem Tx.na_TooMany_most (T : Tx K mg) : NoAttr K (He.ga K "TooMany") "most" :=
  have c := T.says.fact 103 (f := fun K => (He.Fa.noat "TooMany" "most").ok K) (by rfl)
  He.noat_ok c
theorem Tx.xf_TooMany (T : Tx K mg) : L2.XfC K (He.ga K "TooMany") :=
  have c := T.says.fact 104 (f := fun K => L2.xfB K (He.ga K "TooMany")) (by rfl)
  L2.xfB_ok c
theorem Tx.ox_TooMany (T : Tx K mg) : OexC K (He.ga K "TooMany") :=
  have c := T.says.fact 105 (f := fun K => EM.oexB K (He.ga K "TooMany")) (by rfl)
  EM.oexB_ok c
theorem Tx.oi_TooMany (T : Tx K mg) : PySem.W.findIn K (.ref (He.ga K "TooMany")) "__init__" = some (some (.ref (He.ma K (He.ga K "TooMany") "__init__"))) ∧ PySem.W.typeIn K (.ref (He.ma K (He.ga K "TooMany") "__init__")) = some (.type "function") :=
  have c := T.says.fact 106 (f := fun K => EM.oinB K (He.ga K "TooMany")) (by rfl)
  EM.oinB_ok c
theorem Tx.na_BadError_value (T : Tx K mg) : NoAttr K (He.ga K "BadError") "value" :=
  have c := T.says.fact 107 (f := fun K => (He.Fa.noat "BadError" "value").ok K) (by rfl)
  He.noat_ok c
theorem Tx.xf_BadError (T : Tx K mg) : L2.XfC K (He.ga K "BadError") :=
  have c := T.says.fact 108 (f := fun K => L2.xfB K (He.ga K "BadError")) (by rfl)
  L2.xfB_ok c
theorem Tx.ox_BadError (T : Tx K mg) : OexC K (He.ga K "BadError") :=
  have c := T.says.fact 109 (f := fun K => EM.oexB K (He.ga K "BadError")) (by rfl)
  EM.oexB_ok c
theorem Tx.oi_BadError (T : Tx K mg) : PySem.W.findIn K (.ref (He.ga K "BadError")) "__init__" = some (some (.ref (He.ma K (He.ga K "BadError") "__init__"))) ∧ PySem.W.typeIn K (.ref (He.ma K (He.ga K "BadError") "__init__")) = some (.type "function") :=
  have c := T.says.fact 110 (f := fun K => EM.oinB K (He.ga K "BadError")) (by rfl)
  EM.oinB_ok c
theorem Tx.na_BadCount_value (T : Tx K mg) : NoAttr K (He.ga K "BadCount") "value" :=
  have c := T.says.fact 111 (f := fun K => (He.Fa.noat "BadCount" "value").ok K) (by rfl)
  He.noat_ok c
theorem Tx.xf_BadCount (T : Tx K mg) : L2.XfC K (He.ga K "BadCount") :=
  have c := T.says.fact 112 (f := fun K => L2.xfB K (He.ga K "BadCount")) (by rfl)
  L2.xfB_ok c
theorem Tx.ox_BadCount (T : Tx K mg) : OexC K (He.ga K "BadCount") :=
  have c := T.says.fact 113 (f := fun K => EM.oexB K (He.ga K "BadCount")) (by rfl)
  EM.oexB_ok c
theorem Tx.oi_BadCount (T : Tx K mg) : PySem.W.findIn K (.ref (He.ga K "BadCount")) "__init__" = some (some (.ref (He.ma K (He.ga K "BadCount") "__init__"))) ∧ PySem.W.typeIn K (.ref (He.ma K (He.ga K "BadCount") "__init__")) = some (.type "function") :=
  have c := T.says.fact 114 (f := fun K => EM.oinB K (He.ga K "BadCount")) (by rfl)
  EM.oinB_ok c
theorem Tx.na_Alike_one (T : Tx K mg) : NoAttr K (He.ga K "Alike") "one" :=
  have c := T.says.fact 115 (f := fun K => (He.Fa.noat "Alike" "one").ok K) (by rfl)
  He.noat_ok c
theorem Tx.na_Alike_other (T : Tx K mg) : NoAttr K (He.ga K "Alike") "other" :=
  have c := T.says.fact 116 (f := fun K => (He.Fa.noat "Alike" "other").ok K) (by rfl)
  He.noat_ok c
theorem Tx.xf_Alike (T : Tx K mg) : L2.XfC K (He.ga K "Alike") :=
  have c := T.says.fact 117 (f := fun K => L2.xfB K (He.ga K "Alike")) (by rfl)
  L2.xfB_ok c
theorem Tx.ox_Alike (T : Tx K mg) : OexC K (He.ga K "Alike") :=
  have c := T.says.fact 118 (f := fun K => EM.oexB K (He.ga K "Alike")) (by rfl)
  EM.oexB_ok c
theorem Tx.oi_Alike (T : Tx K mg) : PySem.W.findIn K (.ref (He.ga K "Alike")) "__init__" = some (some (.ref (He.ma K (He.ga K "Alike") "__init__"))) ∧ PySem.W.typeIn K (.ref (He.ma K (He.ga K "Alike") "__init__")) = some (.type "function") :=
  have c := T.says.fact 119 (f := fun K => EM.oinB K (He.ga K "Alike")) (by rfl)
  EM.oinB_ok c
theorem Tx.na_TooLarge_part (T : Tx K mg) : NoAttr K (He.ga K "TooLarge") "part" :=
  have c := T.says.fact 120 (f := fun K => (He.Fa.noat "TooLarge" "part").ok K) (by rfl)
  He.noat_ok c
theorem Tx.na_TooLarge_most (T : Tx K mg) : NoAttr K (He.ga K "TooLarge") "most" :=
  have c := T.says.fact 121 (f := fun K => (He.Fa.noat "TooLarge" "most").ok K) (by rfl)
  He.noat_ok c
theorem Tx.xf_TooLarge (T : Tx K mg) : L2.XfC K (He.ga K "TooLarge") :=
  have c := T.says.fact 122 (f := fun K => L2.xfB K (He.ga K "TooLarge")) (by rfl)
  L2.xfB_ok c
theorem Tx.ox_TooLarge (T : Tx K mg) : OexC K (He.ga K "TooLarge") :=
  have c := T.says.fact 123 (f := fun K => EM.oexB K (He.ga K "TooLarge")) (by rfl)
  EM.oexB_ok c
theorem Tx.oi_TooLarge (T : Tx K mg) : PySem.W.findIn K (.ref (He.ga K "TooLarge")) "__init__" = some (some (.ref (He.ma K (He.ga K "TooLarge") "__init__"))) ∧ PySem.W.typeIn K (.ref (He.ma K (He.ga K "TooLarge") "__init__")) = some (.type "function") :=
  have c := T.says.fact 124 (f := fun K => EM.oinB K (He.ga K "TooLarge")) (by rfl)
  EM.oinB_ok c
theorem Tx.na_BadText_line (T : Tx K mg) : NoAttr K (He.ga K "BadText") "line" :=
  have c := T.says.fact 125 (f := fun K => (He.Fa.noat "BadText" "line").ok K) (by rfl)
  He.noat_ok c
theorem Tx.na_BadText_word (T : Tx K mg) : NoAttr K (He.ga K "BadText") "word" :=
  have c := T.says.fact 126 (f := fun K => (He.Fa.noat "BadText" "word").ok K) (by rfl)
  He.noat_ok c
theorem Tx.xf_BadText (T : Tx K mg) : L2.XfC K (He.ga K "BadText") :=
  have c := T.says.fact 127 (f := fun K => L2.xfB K (He.ga K "BadText")) (by rfl)
  L2.xfB_ok c
theorem Tx.ox_BadText (T : Tx K mg) : OexC K (He.ga K "BadText") :=
  have c := T.says.fact 128 (f := fun K => EM.oexB K (He.ga K "BadText")) (by rfl)
  EM.oexB_ok c
theorem Tx.oi_BadText (T : Tx K mg) : PySem.W.findIn K (.ref (He.ga K "BadText")) "__init__" = some (some (.ref (He.ma K (He.ga K "BadText") "__init__"))) ∧ PySem.W.typeIn K (.ref (He.ma K (He.ga K "BadText") "__init__")) = some (.type "function") :=
  have c := T.says.fact 129 (f := fun K => EM.oinB K (He.ga K "BadText")) (by rfl)
  EM.oinB_ok c
theorem Tx.xi_NoDivisor (T : Tx K mg) : PySem.W.excIn K (He.ga K "NoDivisor") [.type "ValueError", .type "Exception", .type "BaseException", .type "object"] "ValueError.__new__" = true :=
  have c := T.says.fact 130 (f := fun K => PySem.W.excIn K (He.ga K "NoDivisor") [.type "ValueError", .type "Exception", .type "BaseException", .type "object"] "ValueError.__new__") (by rfl)
  c
theorem Tx.xb_NoDivisor (T : Tx K mg) : PySem.W.subIn K (.ref (He.ga K "NoDivisor")) (.type "BaseException") = some true :=
  have c := T.says.fact 131 (f := fun K => decide (PySem.W.subIn K (.ref (He.ga K "NoDivisor")) (.type "BaseException") = some true)) (by rfl)
  of_decide_eq_true c
theorem Tx.xt_NoDivisor (T : Tx K mg) : PySem.W.typeIn K (.ref (He.ga K "NoDivisor")) = some (.type "type") :=
  have c := T.says.fact 132 (f := fun K => decide (PySem.W.typeIn K (.ref (He.ga K "NoDivisor")) = some (.type "type"))) (by rfl)
  of_decide_eq_true c
theorem Tx.xk_NoDivisor (T : Tx K mg) : PySem.W.keepIn K (.ref (He.ga K "NoDivisor")) = true :=
  have c := T.says.fact 133 (f := fun K => PySem.W.keepIn K (.ref (He.ga K "NoDivisor"))) (by rfl)
  c
theorem Tx.xi_Unlike (T : Tx K mg) : PySem.W.excIn K (He.ga K "Unlike") [.type "ValueError", .type "Exception", .type "BaseException", .type "object"] "ValueError.__new__" = true :=
  have c := T.says.fact 134 (f := fun K => PySem.W.excIn K (He.ga K "Unlike") [.type "ValueError", .type "Exception", .type "BaseException", .type "object"] "ValueError.__new__") (by rfl)
  c
theorem Tx.xb_Unlike (T : Tx K mg) : PySem.W.subIn K (.ref (He.ga K "Unlike")) (.type "BaseException") = some true :=
  have c := T.says.fact 135 (f := fun K => decide (PySem.W.subIn K (.ref (He.ga K "Unlike")) (.type "BaseException") = some true)) (by rfl)
  of_decide_eq_true c
theorem Tx.xt_Unlike (T : Tx K mg) : PySem.W.typeIn K (.ref (He.ga K "Unlike")) = some (.type "type") :=
  have c := T.says.fact 136 (f := fun K => decide (PySem.W.typeIn K (.ref (He.ga K "Unlike")) = some (.type "type"))) (by rfl)
  of_decide_eq_true c
theorem Tx.xk_Unlike (T : Tx K mg) : PySem.W.keepIn K (.ref (He.ga K "Unlike")) = true :=
  have c := T.says.fact 137 (f := fun K => PySem.W.keepIn K (.ref (He.ga K "Unlike"))) (by rfl)
  c
theorem Tx.xi_NoTerms (T : Tx K mg) : PySem.W.excIn K (He.ga K "NoTerms") [.type "ValueError", .type "Exception", .type "BaseException", .type "object"] "ValueError.__new__" = true :=
  have c := T.says.fact 138 (f := fun K => PySem.W.excIn K (He.ga K "NoTerms") [.type "ValueError", .type "Exception", .type "BaseException", .type "object"] "ValueError.__new__") (by rfl)
  c
theorem Tx.xb_NoTerms (T : Tx K mg) : PySem.W.subIn K (.ref (He.ga K "NoTerms")) (.type "BaseException") = some true :=
  have c := T.says.fact 139 (f := fun K => decide (PySem.W.subIn K (.ref (He.ga K "NoTerms")) (.type "BaseException") = some true)) (by rfl)
  of_decide_eq_true c
theorem Tx.xt_NoTerms (T : Tx K mg) : PySem.W.typeIn K (.ref (He.ga K "NoTerms")) = some (.type "type") :=
  have c := T.says.fact 140 (f := fun K => decide (PySem.W.typeIn K (.ref (He.ga K "NoTerms")) = some (.type "type"))) (by rfl)
  of_decide_eq_true c
theorem Tx.xk_NoTerms (T : Tx K mg) : PySem.W.keepIn K (.ref (He.ga K "NoTerms")) = true :=
  have c := T.says.fact 141 (f := fun K => PySem.W.keepIn K (.ref (He.ga K "NoTerms"))) (by rfl)
  c
theorem Tx.xi_Empty (T : Tx K mg) : PySem.W.excIn K (He.ga K "Empty") [.type "ValueError", .type "Exception", .type "BaseException", .type "object"] "ValueError.__new__" = true :=
  have c := T.says.fact 142 (f := fun K => PySem.W.excIn K (He.ga K "Empty") [.type "ValueError", .type "Exception", .type "BaseException", .type "object"] "ValueError.__new__") (by rfl)
  c
theorem Tx.xb_Empty (T : Tx K mg) : PySem.W.subIn K (.ref (He.ga K "Empty")) (.type "BaseException") = some true :=
  have c := T.says.fact 143 (f := fun K => decide (PySem.W.subIn K (.ref (He.ga K "Empty")) (.type "BaseException") = some true)) (by rfl)
  of_decide_eq_true c
theorem Tx.xt_Empty (T : Tx K mg) : PySem.W.typeIn K (.ref (He.ga K "Empty")) = some (.type "type") :=
  have c := T.says.fact 144 (f := fun K => decide (PySem.W.typeIn K (.ref (He.ga K "Empty")) = some (.type "type"))) (by rfl)
  of_decide_eq_true c
theorem Tx.xk_Empty (T : Tx K mg) : PySem.W.keepIn K (.ref (He.ga K "Empty")) = true :=
  have c := T.says.fact 145 (f := fun K => PySem.W.keepIn K (.ref (He.ga K "Empty"))) (by rfl)
  c
theorem Tx.xi_Uneven (T : Tx K mg) : PySem.W.excIn K (He.ga K "Uneven") [.type "ValueError", .type "Exception", .type "BaseException", .type "object"] "ValueError.__new__" = true :=
  have c := T.says.fact 146 (f := fun K => PySem.W.excIn K (He.ga K "Uneven") [.type "ValueError", .type "Exception", .type "BaseException", .type "object"] "ValueError.__new__") (by rfl)
  c
theorem Tx.xb_Uneven (T : Tx K mg) : PySem.W.subIn K (.ref (He.ga K "Uneven")) (.type "BaseException") = some true :=
  have c := T.says.fact 147 (f := fun K => decide (PySem.W.subIn K (.ref (He.ga K "Uneven")) (.type "BaseException") = some true)) (by rfl)
  of_decide_eq_true c
theorem Tx.xt_Uneven (T : Tx K mg) : PySem.W.typeIn K (.ref (He.ga K "Uneven")) = some (.type "type") :=
  have c := T.says.fact 148 (f := fun K => decide (PySem.W.typeIn K (.ref (He.ga K "Uneven")) = some (.type "type"))) (by rfl)
  of_decide_eq_true c
theorem Tx.xk_Uneven (T : Tx K mg) : PySem.W.keepIn K (.ref (He.ga K "Uneven")) = true :=
  have c := T.says.fact 149 (f := fun K => PySem.W.keepIn K (.ref (He.ga K "Uneven"))) (by rfl)
  c
theorem Tx.xi_EdgeError (T : Tx K mg) : PySem.W.excIn K (He.ga K "EdgeError") [.type "ValueError", .type "Exception", .type "BaseException", .type "object"] "ValueError.__new__" = true :=
  have c := T.says.fact 150 (f := fun K => PySem.W.excIn K (He.ga K "EdgeError") [.type "ValueError", .type "Exception", .type "BaseException", .type "object"] "ValueError.__new__") (by rfl)
  c
theorem Tx.xb_EdgeError (T : Tx K mg) : PySem.W.subIn K (.ref (He.ga K "EdgeError")) (.type "BaseException") = some true :=
  have c := T.says.fact 151 (f := fun K => decide (PySem.W.subIn K (.ref (He.ga K "EdgeError")) (.type "BaseException") = some true)) (by rfl)
  of_decide_eq_true c
theorem Tx.xt_EdgeError (T : Tx K mg) : PySem.W.typeIn K (.ref (He.ga K "EdgeError")) = some (.type "type") :=
  have c := T.says.fact 152 (f := fun K => decide (PySem.W.typeIn K (.ref (He.ga K "EdgeError")) = some (.type "type"))) (by rfl)
  of_decide_eq_true c
theorem Tx.xk_EdgeError (T : Tx K mg) : PySem.W.keepIn K (.ref (He.ga K "EdgeError")) = true :=
  have c := T.says.fact 153 (f := fun K => PySem.W.keepIn K (.ref (He.ga K "EdgeError"))) (by rfl)
  c
theorem Tx.kr_rows (T : Tx K mg) : EM.kitRowsB K [He.ga K "BadRatio", He.ga K "BadMark", He.ga K "NoEdge", He.ga K "BadReading", He.ga K "NotRising", He.ga K "NoStretch", He.ga K "BadView", He.ga K "BadTerms", He.ga K "BadWeights", He.ga K "BadName", He.ga K "NoName", He.ga K "TooMany", He.ga K "BadError", He.ga K "BadCount", He.ga K "Alike", He.ga K "TooLarge", He.ga K "BadText", He.ga K "NoDivisor", He.ga K "Unlike", He.ga K "NoTerms", He.ga K "Empty", He.ga K "Uneven", He.ga K "EdgeError"] [He.ga K "BadRatio", He.ga K "BadMark", He.ga K "NoEdge", He.ga K "BadReading", He.ga K "NotRising", He.ga K "NoStretch", He.ga K "BadView", He.ga K "BadTerms", He.ga K "BadWeights", He.ga K "BadName", He.ga K "NoName", He.ga K "TooMany", He.ga K "BadError", He.ga K "BadCount", He.ga K "Alike", He.ga K "TooLarge", He.ga K "BadText", He.ga K "NoDivisor", He.ga K "Unlike", He.ga K "NoTerms", He.ga K "Empty", He.ga K "Uneven"] = true :=
  have c := T.says.fact 154 (f := fun K => EM.kitRowsB K [He.ga K "BadRatio", He.ga K "BadMark", He.ga K "NoEdge", He.ga K "BadReading", He.ga K "NotRising", He.ga K "NoStretch", He.ga K "BadView", He.ga K "BadTerms", He.ga K "BadWeights", He.ga K "BadName", He.ga K "NoName", He.ga K "TooMany", He.ga K "BadError", He.ga K "BadCount", He.ga K "Alike", He.ga K "TooLarge", He.ga K "BadText", He.ga K "NoDivisor", He.ga K "Unlike", He.ga K "NoTerms", He.ga K "Empty", He.ga K "Uneven", He.ga K "EdgeError"] [He.ga K "BadRatio", He.ga K "BadMark", He.ga K "NoEdge", He.ga K "BadReading", He.ga K "NotRising", He.ga K "NoStretch", He.ga K "BadView", He.ga K "BadTerms", He.ga K "BadWeights", He.ga K "BadName", He.ga K "NoName", He.ga K "TooMany", He.ga K "BadError", He.ga K "BadCount", He.ga K "Alike", He.ga K "TooLarge", He.ga K "BadText", He.ga K "NoDivisor", He.ga K "Unlike", He.ga K "NoTerms", He.ga K "Empty", He.ga K "Uneven"]) (by rfl)
  c
theorem Tx.xs_all (T : Tx K mg) : EM.excsB K [He.ga K "BadRatio", He.ga K "BadMark", He.ga K "NoEdge", He.ga K "BadReading", He.ga K "NotRising", He.ga K "NoStretch", He.ga K "BadView", He.ga K "BadTerms", He.ga K "BadWeights", He.ga K "BadName", He.ga K "NoName", He.ga K "TooMany", He.ga K "BadError", He.ga K "BadCount", He.ga K "Alike", He.ga K "TooLarge", He.ga K "BadText", He.ga K "NoDivisor", He.ga K "Unlike", He.ga K "NoTerms", He.ga K "Empty", He.ga K "Uneven", He.ga K "EdgeError"] = true :=
  have c := T.says.fact 155 (f := fun K => EM.excsB K [He.ga K "BadRatio", He.ga K "BadMark", He.ga K "NoEdge", He.ga K "BadReading", He.ga K "NotRising", He.ga K "NoStretch", He.ga K "BadView", He.ga K "BadTerms", He.ga K "BadWeights", He.ga K "BadName", He.ga K "NoName", He.ga K "TooMany", He.ga K "BadError", He.ga K "BadCount", He.ga K "Alike", He.ga K "TooLarge", He.ga K "BadText", He.ga K "NoDivisor", He.ga K "Unlike", He.ga K "NoTerms", He.ga K "Empty", He.ga K "Uneven", He.ga K "EdgeError"]) (by rfl)
  c
theorem Tx.kn_0 (T : Tx K mg) : EM.kitNoneB K [He.ga K "BadRatio", He.ga K "BadMark", He.ga K "NoEdge", He.ga K "BadReading", He.ga K "NotRising", He.ga K "NoStretch", He.ga K "BadView", He.ga K "BadTerms", He.ga K "BadWeights", He.ga K "BadName", He.ga K "NoName", He.ga K "TooMany", He.ga K "BadError", He.ga K "BadCount", He.ga K "Alike", He.ga K "TooLarge", He.ga K "BadText", He.ga K "NoDivisor", He.ga K "Unlike", He.ga K "NoTerms", He.ga K "Empty", He.ga K "Uneven", He.ga K "EdgeError"] [.type "KeyError", .type "IndexError", .type "LookupError", .type "ArithmeticError", .type "OverflowError"] = true :=
  have c := T.says.fact 156 (f := fun K => EM.kitNoneB K [He.ga K "BadRatio", He.ga K "BadMark", He.ga K "NoEdge", He.ga K "BadReading", He.ga K "NotRising", He.ga K "NoStretch", He.ga K "BadView", He.ga K "BadTerms", He.ga K "BadWeights", He.ga K "BadName", He.ga K "NoName", He.ga K "TooMany", He.ga K "BadError", He.ga K "BadCount", He.ga K "Alike", He.ga K "TooLarge", He.ga K "BadText", He.ga K "NoDivisor", He.ga K "Unlike", He.ga K "NoTerms", He.ga K "Empty", He.ga K "Uneven", He.ga K "EdgeError"] [.type "KeyError", .type "IndexError", .type "LookupError", .type "ArithmeticError", .type "OverflowError"]) (by rfl)
  c
theorem Tx.kn_1 (T : Tx K mg) : EM.kitNoneB K [He.ga K "BadRatio", He.ga K "BadMark", He.ga K "NoEdge", He.ga K "BadReading", He.ga K "NotRising", He.ga K "NoStretch", He.ga K "BadView", He.ga K "BadTerms", He.ga K "BadWeights", He.ga K "BadName", He.ga K "NoName", He.ga K "TooMany", He.ga K "BadError", He.ga K "BadCount", He.ga K "Alike", He.ga K "TooLarge", He.ga K "BadText", He.ga K "NoDivisor", He.ga K "Unlike", He.ga K "NoTerms", He.ga K "Empty", He.ga K "Uneven", He.ga K "EdgeError"] [.type "TypeError", .type "RuntimeError", .type "AttributeError"] = true :=
  have c := T.says.fact 157 (f := fun K => EM.kitNoneB K [He.ga K "BadRatio", He.ga K "BadMark", He.ga K "NoEdge", He.ga K "BadReading", He.ga K "NotRising", He.ga K "NoStretch", He.ga K "BadView", He.ga K "BadTerms", He.ga K "BadWeights", He.ga K "BadName", He.ga K "NoName", He.ga K "TooMany", He.ga K "BadError", He.ga K "BadCount", He.ga K "Alike", He.ga K "TooLarge", He.ga K "BadText", He.ga K "NoDivisor", He.ga K "Unlike", He.ga K "NoTerms", He.ga K "Empty", He.ga K "Uneven", He.ga K "EdgeError"] [.type "TypeError", .type "RuntimeError", .type "AttributeError"]) (by rfl)
  c
theorem Tx.ko_VE (T : Tx K mg) : EM.kitOneB K [He.ga K "BadRatio", He.ga K "BadMark", He.ga K "NoEdge", He.ga K "BadReading", He.ga K "NotRising", He.ga K "NoStretch", He.ga K "BadView", He.ga K "BadTerms", He.ga K "BadWeights", He.ga K "BadName", He.ga K "NoName", He.ga K "TooMany", He.ga K "BadError", He.ga K "BadCount", He.ga K "Alike", He.ga K "TooLarge", He.ga K "BadText", He.ga K "NoDivisor", He.ga K "Unlike", He.ga K "NoTerms", He.ga K "Empty", He.ga K "Uneven", He.ga K "EdgeError"] (.type "ValueError") = true :=
  have c := T.says.fact 158 (f := fun K => EM.kitOneB K [He.ga K "BadRatio", He.ga K "BadMark", He.ga K "NoEdge", He.ga K "BadReading", He.ga K "NotRising", He.ga K "NoStretch", He.ga K "BadView", He.ga K "BadTerms", He.ga K "BadWeights", He.ga K "BadName", He.ga K "NoName", He.ga K "TooMany", He.ga K "BadError", He.ga K "BadCount", He.ga K "Alike", He.ga K "TooLarge", He.ga K "BadText", He.ga K "NoDivisor", He.ga K "Unlike", He.ga K "NoTerms", He.ga K "Empty", He.ga K "Uneven", He.ga K "EdgeError"] (.type "ValueError")) (by rfl)
  c
theorem Tx.ko_EE (T : Tx K mg) : EM.kitOneB K [He.ga K "BadRatio", He.ga K "BadMark", He.ga K "NoEdge", He.ga K "BadReading", He.ga K "NotRising", He.ga K "NoStretch", He.ga K "BadView", He.ga K "BadTerms", He.ga K "BadWeights", He.ga K "BadName", He.ga K "NoName", He.ga K "TooMany", He.ga K "BadError", He.ga K "BadCount", He.ga K "Alike", He.ga K "TooLarge", He.ga K "BadText", He.ga K "NoDivisor", He.ga K "Unlike", He.ga K "NoTerms", He.ga K "Empty", He.ga K "Uneven", He.ga K "EdgeError"] (.ref (He.ga K "EdgeError")) = true :=
  have c := T.says.fact 159 (f := fun K => EM.kitOneB K [He.ga K "BadRatio", He.ga K "BadMark", He.ga K "NoEdge", He.ga K "BadReading", He.ga K "NotRising", He.ga K "NoStretch", He.ga K "BadView", He.ga K "BadTerms", He.ga K "BadWeights", He.ga K "BadName", He.ga K "NoName", He.ga K "TooMany", He.ga K "BadError", He.ga K "BadCount", He.ga K "Alike", He.ga K "TooLarge", He.ga K "BadText", He.ga K "NoDivisor", He.ga K "Unlike", He.ga K "NoTerms", He.ga K "Empty", He.ga K "Uneven", He.ga K "EdgeError"] (.ref (He.ga K "EdgeError"))) (by rfl)
  c
theorem Tx.d_is_integer (T : Tx K mg) : ∃ fd, FunD K "is_integer" "is_integer" (defArgs s_is_integer) (defBody s_is_integer) (defScope s_is_integer) [] [] (He.ga K "is_integer") fd := T.says.def_ 0 (d := e_is_integer) (by rfl)
theorem Tx.d_common_divisor (T : Tx K mg) : ∃ fd, FunD K "common_divisor" "common_divisor" (defArgs s_common_divisor) (defBody s_common_divisor) (defScope s_common_divisor) [] [] (He.ga K "common_divisor") fd := T.says.def_ 1 (d := e_common_divisor) (by rfl)
theorem Tx.d_Ratio_init (T : Tx K mg) : ∃ fd, FunD K "__init__" "Ratio.__init__" (defArgs s_Ratio_init) (defBody s_Ratio_init) (defScope s_Ratio_init) [.int 1] [] (He.ma K (He.ga K "Ratio") "__init__") fd := T.says.def_ 2 (d := e_Ratio_init) (by rfl)
theorem Tx.d_Ratio_repr (T : Tx K mg) : ∃ fd, FunD K "__repr__" "Ratio.__repr__" (defArgs s_Ratio_repr) (defBody s_Ratio_repr) (defScope s_Ratio_repr) [] [] (He.ma K (He.ga K "Ratio") "__repr__") fd := T.says.def_ 3 (d := e_Ratio_repr) (by rfl)
theorem Tx.d_BadRatio_init (T : Tx K mg) : ∃ fd, FunD K "__init__" "BadRatio.__init__" (defArgs s_BadRatio_init) (defBody s_BadRatio_init) (defScope s_BadRatio_init) [] [] (He.ma K (He.ga K "BadRatio") "__init__") fd := T.says.def_ 4 (d := e_BadRatio_init) (by rfl)
theorem Tx.d_BadMark_init (T : Tx K mg) : ∃ fd, FunD K "__init__" "BadMark.__init__" (defArgs s_BadMark_init) (defBody s_BadMark_init) (defScope s_BadMark_init) [] [] (He.ma K (He.ga K "BadMark") "__init__") fd := T.says.def_ 5 (d := e_BadMark_init) (by rfl)
theorem Tx.d_NoEdge_init (T : Tx K mg) : ∃ fd, FunD K "__init__" "NoEdge.__init__" (defArgs s_NoEdge_init) (defBody s_NoEdge_init) (defScope s_NoEdge_init) [] [] (He.ma K (He.ga K "NoEdge") "__init__") fd := T.says.def_ 6 (d := e_NoEdge_init) (by rfl)
theorem Tx.d_BadReading_init (T : Tx K mg) : ∃ fd, FunD K "__init__" "BadReading.__init__" (defArgs s_BadReading_init) (defBody s_BadReading_init) (defScope s_BadReading_init) [] [] (He.ma K (He.ga K "BadReading") "__init__") fd := T.says.def_ 7 (d := e_BadReading_init) (by rfl)
theorem Tx.d_NotRising_init (T : Tx K mg) : ∃ fd, FunD K "__init__" "NotRising.__init__" (defArgs s_NotRising_init) (defBody s_NotRising_init) (defScope s_NotRising_init) [] [] (He.ma K (He.ga K "NotRising") "__init__") fd := T.says.def_ 8 (d := e_NotRising_init) (by rfl)
theorem Tx.d_NoStretch_init (T : Tx K mg) : ∃ fd, FunD K "__init__" "NoStretch.__init__" (defArgs s_NoStretch_init) (defBody s_NoStretch_init) (defScope s_NoStretch_init) [] [] (He.ma K (He.ga K "NoStretch") "__init__") fd := T.says.def_ 9 (d := e_NoStretch_init) (by rfl)
theorem Tx.d_BadView_init (T : Tx K mg) : ∃ fd, FunD K "__init__" "BadView.__init__" (defArgs s_BadView_init) (defBody s_BadView_init) (defScope s_BadView_init) [] [] (He.ma K (He.ga K "BadView") "__init__") fd := T.says.def_ 10 (d := e_BadView_init) (by rfl)
theorem Tx.d_BadTerms_init (T : Tx K mg) : ∃ fd, FunD K "__init__" "BadTerms.__init__" (defArgs s_BadTerms_init) (defBody s_BadTerms_init) (defScope s_BadTerms_init) [] [] (He.ma K (He.ga K "BadTerms") "__init__") fd := T.says.def_ 11 (d := e_BadTerms_init) (by rfl)
theorem Tx.d_BadWeights_init (T : Tx K mg) : ∃ fd, FunD K "__init__" "BadWeights.__init__" (defArgs s_BadWeights_init) (defBody s_BadWeights_init) (defScope s_BadWeights_init) [] [] (He.ma K (He.ga K "BadWeights") "__init__") fd := T.says.def_ 12 (d := e_BadWeights_init) (by rfl)
theorem Tx.d_BadName_init (T : Tx K mg) : ∃ fd, FunD K "__init__" "BadName.__init__" (defArgs s_BadName_init) (defBody s_BadName_init) (defScope s_BadName_init) [] [] (He.ma K (He.ga K "BadName") "__init__") fd := T.says.def_ 13 (d := e_BadName_init) (by rfl)
theorem Tx.d_NoName_init (T : Tx K mg) : ∃ fd, FunD K "__init__" "NoName.__init__" (defArgs s_NoName_init) (defBody s_NoName_init) (defScope s_NoName_init) [] [] (He.ma K (He.ga K "NoName") "__init__") fd := T.says.def_ 14 (d := e_NoName_init) (by rfl)
theorem Tx.d_TooMany_init (T : Tx K mg) : ∃ fd, FunD K "__init__" "TooMany.__init__" (defArgs s_TooMany_init) (defBody s_TooMany_init) (defScope s_TooMany_init) [] [] (He.ma K (He.ga K "TooMany") "__init__") fd := T.says.def_ 15 (d := e_TooMany_init) (by rfl)
theorem Tx.d_BadError_init (T : Tx K mg) : ∃ fd, FunD K "__init__" "BadError.__init__" (defArgs s_BadError_init) (defBody s_BadError_init) (defScope s_BadError_init) [] [] (He.ma K (He.ga K "BadError") "__init__") fd := T.says.def_ 16 (d := e_BadError_init) (by rfl)
theorem Tx.d_BadCount_init (T : Tx K mg) : ∃ fd, FunD K "__init__" "BadCount.__init__" (defArgs s_BadCount_init) (defBody s_BadCount_init) (defScope s_BadCount_init) [] [] (He.ma K (He.ga K "BadCount") "__init__") fd := T.says.def_ 17 (d := e_BadCount_init) (by rfl)
theorem Tx.d_Alike_init (T : Tx K mg) : ∃ fd, FunD K "__init__" "Alike.__init__" (defArgs s_Alike_init) (defBody s_Alike_init) (defScope s_Alike_init) [] [] (He.ma K (He.ga K "Alike") "__init__") fd := T.says.def_ 18 (d := e_Alike_init) (by rfl)
theorem Tx.d_TooLarge_init (T : Tx K mg) : ∃ fd, FunD K "__init__" "TooLarge.__init__" (defArgs s_TooLarge_init) (defBody s_TooLarge_init) (defScope s_TooLarge_init) [] [] (He.ma K (He.ga K "TooLarge") "__init__") fd := T.says.def_ 19 (d := e_TooLarge_init) (by rfl)
theorem Tx.d_BadText_init (T : Tx K mg) : ∃ fd, FunD K "__init__" "BadText.__init__" (defArgs s_BadText_init) (defBody s_BadText_init) (defScope s_BadText_init) [] [] (He.ma K (He.ga K "BadText") "__init__") fd := T.says.def_ 20 (d := e_BadText_init) (by rfl)
theorem Tx.d_Lpen (T : Tx K mg) : ∃ fd, FunD K "_law_pen" "_law_pen" (defArgs s_Lpen) (defBody s_Lpen) (defScope s_Lpen) [] [] (He.ga K "_law_pen") fd := T.says.def_ 21 (d := e_Lpen) (by rfl)
theorem Tx.d_Ldraw (T : Tx K mg) : ∃ fd, FunD K "_law_draw" "_law_draw" (defArgs s_Ldraw) (defBody s_Ldraw) (defScope s_Ldraw) [] [] (He.ga K "_law_draw") fd := T.says.def_ 22 (d := e_Ldraw) (by rfl)
theorem Tx.d_Lpick (T : Tx K mg) : ∃ fd, FunD K "_law_pick" "_law_pick" (defArgs s_Lpick) (defBody s_Lpick) (defScope s_Lpick) [] [] (He.ga K "_law_pick") fd := T.says.def_ 23 (d := e_Lpick) (by rfl)
theorem Tx.d_Lthing (T : Tx K mg) : ∃ fd, FunD K "_law_thing" "_law_thing" (defArgs s_Lthing) (defBody s_Lthing) (defScope s_Lthing) [] [] (He.ga K "_law_thing") fd := T.says.def_ 24 (d := e_Lthing) (by rfl)
theorem Tx.d_Lkinds (T : Tx K mg) : ∃ fd, FunD K "_law_kinds" "_law_kinds" (defArgs s_Lkinds) (defBody s_Lkinds) (defScope s_Lkinds) [] [] (He.ga K "_law_kinds") fd := T.says.def_ 25 (d := e_Lkinds) (by rfl)
theorem Tx.d_Lis_based (T : Tx K mg) : ∃ fd, FunD K "_law_is_based" "_law_is_based" (defArgs s_Lis_based) (defBody s_Lis_based) (defScope s_Lis_based) [] [] (He.ga K "_law_is_based") fd := T.says.def_ 26 (d := e_Lis_based) (by rfl)
theorem Tx.d_Lsingles (T : Tx K mg) : ∃ fd, FunD K "_law_singles" "_law_singles" (defArgs s_Lsingles) (defBody s_Lsingles) (defScope s_Lsingles) [] [] (He.ga K "_law_singles") fd := T.says.def_ 27 (d := e_Lsingles) (by rfl)
theorem Tx.d_Ldoubles (T : Tx K mg) : ∃ fd, FunD K "_law_doubles" "_law_doubles" (defArgs s_Ldoubles) (defBody s_Ldoubles) (defScope s_Ldoubles) [] [] (He.ga K "_law_doubles") fd := T.says.def_ 28 (d := e_Ldoubles) (by rfl)
theorem Tx.d_law (T : Tx K mg) : ∃ fd, FunD K "law" "law" (defArgs s_law) (defBody s_law) (defScope s_law) [] [] (He.ga K "law") fd := T.says.def_ 29 (d := e_law) (by rfl)
theorem Tx.k_is_integer (T : Tx K mg) : PySem.W.keepIn K (.ref (He.ga K "is_integer")) = true := let ⟨_, F⟩ := T.d_is_integer; F.kp
theorem Tx.k_common_divisor (T : Tx K mg) : PySem.W.keepIn K (.ref (He.ga K "common_divisor")) = true := let ⟨_, F⟩ := T.d_common_divisor; F.kp
theorem Tx.k__law_pen (T : Tx K mg) : PySem.W.keepIn K (.ref (He.ga K "_law_pen")) = true := let ⟨_, F⟩ := T.d_Lpen; F.kp
theorem Tx.k__law_draw (T : Tx K mg) : PySem.W.keepIn K (.ref (He.ga K "_law_draw")) = true := let ⟨_, F⟩ := T.d_Ldraw; F.kp
theorem Tx.k__law_pick (T : Tx K mg) : PySem.W.keepIn K (.ref (He.ga K "_law_pick")) = true := let ⟨_, F⟩ := T.d_Lpick; F.kp
theorem Tx.k__law_thing (T : Tx K mg) : PySem.W.keepIn K (.ref (He.ga K "_law_thing")) = true := let ⟨_, F⟩ := T.d_Lthing; F.kp
theorem Tx.k__law_kinds (T : Tx K mg) : PySem.W.keepIn K (.ref (He.ga K "_law_kinds")) = true := let ⟨_, F⟩ := T.d_Lkinds; F.kp
theorem Tx.k__law_is_based (T : Tx K mg) : PySem.W.keepIn K (.ref (He.ga K "_law_is_based")) = true := let ⟨_, F⟩ := T.d_Lis_based; F.kp
theorem Tx.k__law_singles (T : Tx K mg) : PySem.W.keepIn K (.ref (He.ga K "_law_singles")) = true := let ⟨_, F⟩ := T.d_Lsingles; F.kp
theorem Tx.k__law_doubles (T : Tx K mg) : PySem.W.keepIn K (.ref (He.ga K "_law_doubles")) = true := let ⟨_, F⟩ := T.d_Ldoubles; F.kp
end
end K01
namespace K01
open PySem PySem.Spec PyProof.Rows L2 EM
section
variable {P : Program} {w : World} {K : PySem.W.Frag} {mg : Str → Option Value} {base : Heap}
theorem ok_Lpen (T : Tx K mg) : FnR P w K mg base (L2.CX P w) 1 (He.ga K "_law_pen") (spPen K) := by
  obtain ⟨fd, F⟩ := T.d_Lpen
  refine EM.fnr F sc_Lpen (fun _ _ _ _ _ _ us hl => match us, hl with | [_], _ => rfl) (fun vs H Q E h => ?_) (fun cdv A outer s H vs Q E hr h => ?_)
  · obtain ⟨a, ns, rfl, _⟩ := h
    rfl
  · obtain ⟨a, ns, rfl, hS, hl, k⟩ := h
    obtain ⟨ms, ems, hms⟩ := cut_ints ns none (some 63)
    refine ⟨_, (PSs.nox (pss_one (ps_ret (pe_lst (pa_cons (pe_callTy call_list_of (by rfl) T.f_list (by decide +kernel) (pa_cons (pe_slice sl_list (pv 0) po_none (po_some pe_int)) pa_nil)) (pa_cons pe_int (pa_cons pe_int pa_nil))))))), ?_⟩
    refine ⟨_, rfl, 63, rfl, a, _, rfl, hS, fun c hc => ⟨c, _, rfl, .inl (SqL.of upd_same), fun l hl2 => ⟨(by show 3 ≤ sizeLine; decide), fun p hp => ?_⟩⟩⟩
    have s1 : Same H _ := same_upd (o := .lst (cutV (ns.map V.int) none (some 63))) hc
    have s2 := same_upd' (o := .lst (cutV (ns.map V.int) none (some 63))) s1 (s1.free hl2)
    have n2 : H p = none := s2.free hp
    have nlp : l ≠ p := by
      intro z
      subst z
      rw [upd_same] at hp
      cases hp
    refine k p l _ (same_upd' s2 n2) n2 ⟨ms, 0, 0, upd_same, ?_, nlp, by omega, by omega, by omega⟩
    rw [upd_ne nlp, upd_same, ems]
theorem ok_Ldraw (T : Tx K mg) : FnR P w K mg base (L2.CX P w) 1 (He.ga K "_law_draw") (spDraw) := by
  obtain ⟨fd, F⟩ := T.d_Ldraw
  refine EM.fnr F sc_Ldraw (fun _ _ _ _ _ _ us hl => match us, hl with | [_, _], _ => rfl) (fun vs H Q E h => ?_) (fun cdv A outer s H vs Q E hr h => ?_)
  · obtain ⟨p, l, n, many, rfl, _⟩ := h
    rfl
  · obtain ⟨p, l, n, many, rfl, ⟨cells, at_, rest, hp, hlc, nlp, hcl, a0, a1⟩, hn, m1, m2, k⟩ := h
    have wm : CDivW 0 many := wide_div (b := 400) (by omega) (by omega) (by decide) (by decide)
    have wd : ∀ i, CDivW i many := fun i => wm
    have md : ∀ i : Int, 0 ≤ i % many ∧ i % many < many := fun i => ⟨Int.emod_nonneg _ (by omega), Int.emod_lt_of_pos _ (by omega)⟩
    refine ⟨_, (PSs.nox (pss_cons (ps_if (pt_cmpR op_gt (pe_ix ix_list (pv 0) pe_int (fun _ _ => rfl)) pe_int (nomark _))
  (pss_cons (ps_set (i := 2) sc_Ldraw.nd rfl (Or.inl rfl) (pe_op op_mod (pe_callTy call_int1 (by rfl) T.f_int (by decide +kernel) (pa_cons (pe_ix ix_list (pv 0) pe_int (fun _ _ => rfl)) pa_nil)) (pv 1)))
 (pss_cons (ps_asg (pe_op op_fdivW (pe_ix ix_list (pv 0) pe_int (fun _ _ => rfl)) (pv 1)) (pg_sub (pv 0) pe_int set_list))
 (pss_one (ps_ret (pv 2))))) pss_nil)
 (pss_cons (ps_set (i := 3) sc_Ldraw.nd rfl (Or.inl rfl) (pe_ix ix_list (pv 0) pe_int (fun _ _ => rfl)))
 (pss_cons (ps_asg (pe_op op_add (pv 3) pe_int) (pg_sub (pv 0) pe_int set_list))
 (pss_cons (ps_set (i := 4) sc_Ldraw.nd rfl (Or.inl rfl) (pe_op op_add (pe_op op_mul pe_int (pv 3)) pe_int))
 (pss_cons (ps_if (pt_cmpR (op_neD hr.units) (pe_ix ix_list (pv 0) pe_int (fun _ _ => rfl)) (pe_lst pa_nil) (nomark _))
  (pss_one (ps_set (i := 4) sc_Ldraw.nd rfl (Or.inl rfl) (pe_ix ix_list (pe_ix ix_list (pv 0) pe_int (fun _ _ => rfl)) (pe_op op_mod (pe_callTy call_int1 (by rfl) T.f_int (by decide +kernel) (pa_cons (pv 3) pa_nil)) (pe_callB call_len (by rfl) T.f_len boot_len (pa_cons (pe_ix ix_list (pv 0) pe_int (fun _ _ => rfl)) pa_nil))) (fun _ _ => rfl)))) pss_nil)
 (pss_cons (ps_if (PW.pt (pw_and (pt_cmpR op_lt (pv 3) (pe_callB call_len (by rfl) T.f_len boot_len (pa_cons (pe_ix ix_list (pv 0) pe_int (fun _ _ => rfl)) pa_nil)) (nomark _)) (pw_and1 (pt_cmpR op_ge (pe_callB call_abs (by rfl) T.f_abs (by decide +kernel) (pa_cons (pv 4) pa_nil)) (pe_op op_pow pe_int pe_int) (nomark _)))))
  (pss_cons (ps_set (i := 5) sc_Ldraw.nd rfl (Or.inl rfl) (pe_op op_add (pe_op op_mul pe_int (pe_op op_sub (pe_callB call_abs (by rfl) T.f_abs (by decide +kernel) (pa_cons (pv 4) pa_nil)) (pe_op op_pow pe_int pe_int))) (pe_callTy call_int1 (by rfl) T.f_int (by decide +kernel) (pa_cons (pe_cmpR op_lt (pv 4) pe_int (nomark _)) pa_nil))))
 (pss_cons (ps_asg (pe_op op_fdivW (pv 5) (pv 1)) (pg_sub (pv 0) pe_int set_list))
 (pss_one (ps_ret (pe_op op_mod (pe_callTy call_int1 (by rfl) T.f_int (by decide +kernel) (pa_cons (pv 5) pa_nil)) (pv 1)))))) pss_nil)
 (pss_cons (ps_set (i := 6) sc_Ldraw.nd rfl (Or.inl rfl) (pe_op op_mod (pe_callTy call_int1 (by rfl) T.f_int (by decide +kernel) (pa_cons (pe_op op_pow (pe_op op_add (pe_op op_add (pe_op op_mod (pe_callTy call_int1 (by rfl) T.f_int (by decide +kernel) (pa_cons (pv 4) pa_nil)) pe_int) (pe_op op_mul pe_int (pv 3))) pe_int) pe_int) pa_nil)) pe_int))
 (pss_cons (ps_set (i := 6) sc_Ldraw.nd rfl (Or.inl rfl) (pe_op op_mod (pe_callTy call_int1 (by rfl) T.f_int (by decide +kernel) (pa_cons (pe_op op_pow (pe_op op_add (pe_op op_add (pe_op op_mul (pv 6) (pe_op op_add (pe_op op_mul pe_int (pv 3)) pe_int)) (pe_op op_mul (pe_op op_mul pe_int (pv 3)) (pv 3))) pe_int) pe_int) pa_nil)) pe_int))
 (pss_one (ps_ret (pe_op op_mod (pe_callTy call_int1 (by rfl) T.f_int (by decide +kernel) (pa_cons (pe_op op_fdiv (pv 6) pe_int) pa_nil)) (pv 1))))))))))))), ?_⟩
    -- if pen[2] > 0
    refine ⟨_, rfl, p, _, 2, _, rfl, rfl, SqL.of hp, rfl, _, _, rfl, rfl, _, rfl, ite2 (fun c => ?_) (fun c => ?_)⟩
    · refine ⟨_, rfl, p, _, 2, _, rfl, rfl, SqL.of hp, rfl, .inl ⟨_, rfl, _, rfl, _, _, rfl, rfl, (by show (0 : Int) < many; omega), ?_⟩⟩
      refine ⟨_, rfl, p, _, 2, _, rfl, rfl, SqL.of hp, rfl, _, rfl, _, _, rfl, rfl, wd _, ?_⟩
      refine ⟨_, rfl, p, _, 2, 2, rfl, rfl, hp, rfl, ?_⟩
      refine ⟨_, rfl, k _ _ (md _).1 (md _).2 (fun b o e hb => by rw [upd_ne hb]; exact e) ⟨cells, at_, _, upd_same, by rw [upd_ne nlp]; exact hlc, nlp, hcl, a0, by omega⟩⟩
    · have a2 : at_ ≤ 1000000 := by omega
      -- at = pen[1]; pen[1] = at + 1; cell = ..
      refine ⟨_, rfl, p, _, 1, _, rfl, rfl, SqL.of hp, rfl, ?_⟩
      refine ⟨_, rfl, _, _, rfl, rfl, _, rfl, p, _, 1, 1, rfl, rfl, hp, rfl, ?_⟩
      refine ⟨_, rfl, _, _, rfl, rfl, .inl ⟨by decide, by decide⟩, _, _, rfl, rfl, ?_⟩
      obtain ⟨H1, eH1⟩ : ∃ H1, H1 = upd H p (.lst ([V.ref l, V.int at_, V.int rest].set 1 (.int (at_ + 1)))) := ⟨_, rfl⟩
      rw [← eH1]
      have hp1 : H1 p = some (.lst [.ref l, .int (at_ + 1), .int rest]) := by rw [eH1]; exact upd_same
      have hl1 : H1 l = some (.lst (cells.map V.int)) := by rw [eH1, upd_ne nlp]; exact hlc
      have k1 : ∀ b o, H b = some o → b ≠ p → H1 b = some o := fun b o e hb => by rw [eH1, upd_ne hb]; exact e
      clear eH1
      -- if pen[0] != []
      refine ⟨_, rfl, p, _, 0, _, rfl, rfl, SqL.of hp1, rfl, (by show 0 ≤ sizeLine; decide), fun q hq => ⟨dL cells, dL [], .lst (SqL.of (by rw [upd_ne (ne_of_none hl1 hq)]; exact hl1)) (dp_ints cells), .lst (SqL.of upd_same) .nil, shL cells, shL [], _, rfl, ?_⟩⟩
      obtain ⟨H2, eH2⟩ : ∃ H2, H2 = upd H1 q (.lst []) := ⟨_, rfl⟩
      rw [← eH2]
      have hp2 : H2 p = some (.lst [.ref l, .int (at_ + 1), .int rest]) := by rw [eH2, upd_ne (ne_of_none hp1 hq)]; exact hp1
      have hl2 : H2 l = some (.lst (cells.map V.int)) := by rw [eH2, upd_ne (ne_of_none hl1 hq)]; exact hl1
      have k2 : ∀ b o, H b = some o → b ≠ p → H2 b = some o := fun b o e hb => by rw [eH2, upd_ne (ne_of_none (k1 b o e hb) hq)]; exact k1 b o e hb
      clear eH2
      rw [eqvL]
      refine ite2 (fun c2 => ?_) (fun c2 => ?_)
      · have hc0 : 0 < cells.length := by
          cases cells with
          | nil => simp at c2
          | cons _ _ => simp
        have hm : 0 ≤ at_ % (cells.length : Int) ∧ at_ % (cells.length : Int) < cells.length := ⟨Int.emod_nonneg _ (by omega), Int.emod_lt_of_pos _ (by omega)⟩
        have hj : (at_ % (cells.length : Int)).toNat < cells.length := by omega
        refine ⟨_, rfl, p, _, 0, _, rfl, rfl, SqL.of hp2, rfl, _, rfl, .inl ⟨_, rfl, _, rfl, p, _, 0, _, rfl, rfl, SqL.of hp2, rfl, _, _, rfl, .inl ⟨_, SqL.of hl2, rfl⟩, _, _, rfl, rfl, ?_, l, _, _, .int (cells[(at_ % (cells.length : Int)).toNat]), rfl, rfl, SqL.of hl2, ?_, ?_⟩⟩
        · show (0 : Int) < ((cells.map V.int).length : Nat)
          rw [List.length_map]; omega
        · rw [List.length_map]
          exact at_of (j := (at_ % (cells.length : Int)).toNat) (by omega) (by rw [List.getElem?_map, List.getElem?_eq_getElem hj]; rfl)
        refine ⟨_, rfl, _, rfl, p, _, 0, _, rfl, rfl, SqL.of hp2, rfl, _, _, rfl, .inl ⟨_, SqL.of hl2, rfl⟩, _, _, rfl, rfl, _, rfl, ite2 (fun c3 => ?_) (fun c3 => ?_)⟩
        · refine ⟨_, rfl, _, rfl, _, _, rfl, rfl, ⟨by decide, by decide, by decide⟩, _, _, rfl, rfl, _, rfl, ite2 (fun c4 => ?_) (fun c4 => ?_)⟩
          · refine ⟨_, rfl, _, rfl, _, _, rfl, rfl, ⟨by decide, by decide, by decide⟩, _, _, rfl, rfl, _, _, rfl, rfl, .inl ⟨by decide, by decide⟩, _, rfl, _, _, rfl, rfl, .inr ⟨_, rfl, _, _, rfl, rfl, ?_⟩⟩
            refine ⟨_, rfl, _, rfl, _, _, rfl, rfl, wd _, ?_⟩
            refine ⟨_, rfl, p, _, 2, 2, rfl, rfl, hp2, rfl, ?_⟩
            refine ⟨_, rfl, .inl ⟨_, rfl, _, rfl, _, _, rfl, rfl, (by show (0 : Int) < many; omega), ?_⟩⟩
            exact k _ _ (md _).1 (md _).2 (fun b o e hb => by rw [upd_ne hb]; exact k2 b o e hb) ⟨cells, at_ + 1, _, upd_same, by rw [upd_ne nlp]; exact hl2, nlp, hcl, by omega, by omega⟩
          · refine ⟨_, rfl, .inl ⟨_, rfl, _, _, rfl, rfl, (by show (0 : Int) < _; decide), _, rfl, _, _, rfl, rfl, .inl ⟨by decide, by decide⟩, _, _, rfl, rfl, _, _, rfl, rfl, _, _, rfl, rfl, ⟨by decide, by decide, by omega⟩, .inl ⟨_, rfl, _, _, rfl, rfl, (by show (0 : Int) < _; decide), ?_⟩⟩⟩
            refine ⟨_, rfl, _, rfl, _, _, rfl, rfl, .inl ⟨by decide, by decide⟩, _, _, rfl, rfl, _, _, rfl, rfl, .inl ⟨by omega, by omega⟩, _, rfl, _, _, rfl, rfl, .inl ⟨by decide, by decide⟩, _, rfl, _, _, rfl, rfl, .inl (mul_bd a0 a2 ⟨by decide, by decide⟩), _, _, rfl, rfl, _, _, rfl, rfl, _, _, rfl, rfl, ⟨by decide, by decide, draw_bd (by omega) (by omega) a0 a2 ⟨by decide, by decide⟩ ⟨by decide, by decide⟩ ⟨by decide, by decide⟩⟩, .inl ⟨_, rfl, _, _, rfl, rfl, (by show (0 : Int) < _; decide), ?_⟩⟩
            refine ⟨_, rfl, _, _, rfl, rfl, ⟨by decide, by decide⟩, .inl ⟨_, rfl, _, rfl, _, _, rfl, rfl, (by show (0 : Int) < many; omega), ?_⟩⟩
            exact k _ _ (md _).1 (md _).2 k2 ⟨cells, at_ + 1, _, hp2, hl2, nlp, hcl, by omega, by omega⟩
        · refine ifN rfl ?_
          refine ⟨_, rfl, .inl ⟨_, rfl, _, _, rfl, rfl, (by show (0 : Int) < _; decide), _, rfl, _, _, rfl, rfl, .inl ⟨by decide, by decide⟩, _, _, rfl, rfl, _, _, rfl, rfl, _, _, rfl, rfl, ⟨by decide, by decide, by omega⟩, .inl ⟨_, rfl, _, _, rfl, rfl, (by show (0 : Int) < _; decide), ?_⟩⟩⟩
          refine ⟨_, rfl, _, rfl, _, _, rfl, rfl, .inl ⟨by decide, by decide⟩, _, _, rfl, rfl, _, _, rfl, rfl, .inl ⟨by omega, by omega⟩, _, rfl, _, _, rfl, rfl, .inl ⟨by decide, by decide⟩, _, rfl, _, _, rfl, rfl, .inl (mul_bd a0 a2 ⟨by decide, by decide⟩), _, _, rfl, rfl, _, _, rfl, rfl, _, _, rfl, rfl, ⟨by decide, by decide, draw_bd (by omega) (by omega) a0 a2 ⟨by decide, by decide⟩ ⟨by decide, by decide⟩ ⟨by decide, by decide⟩⟩, .inl ⟨_, rfl, _, _, rfl, rfl, (by show (0 : Int) < _; decide), ?_⟩⟩
          refine ⟨_, rfl, _, _, rfl, rfl, ⟨by decide, by decide⟩, .inl ⟨_, rfl, _, rfl, _, _, rfl, rfl, (by show (0 : Int) < many; omega), ?_⟩⟩
          exact k _ _ (md _).1 (md _).2 k2 ⟨cells, at_ + 1, _, hp2, hl2, nlp, hcl, by omega, by omega⟩
      · refine ⟨_, rfl, _, rfl, p, _, 0, _, rfl, rfl, SqL.of hp2, rfl, _, _, rfl, .inl ⟨_, SqL.of hl2, rfl⟩, _, _, rfl, rfl, _, rfl, ite2 (fun c3 => ?_) (fun c3 => ?_)⟩
        · refine ⟨_, rfl, _, rfl, _, _, rfl, rfl, ⟨by decide, by decide, by decide⟩, _, _, rfl, rfl, _, rfl, ite2 (fun c4 => ?_) (fun c4 => ?_)⟩
          · refine ⟨_, rfl, _, rfl, _, _, rfl, rfl, ⟨by decide, by decide, by decide⟩, _, _, rfl, rfl, _, _, rfl, rfl, .inl ⟨by decide, by decide⟩, _, rfl, _, _, rfl, rfl, .inr ⟨_, rfl, _, _, rfl, rfl, ?_⟩⟩
            refine ⟨_, rfl, _, rfl, _, _, rfl, rfl, wd _, ?_⟩
            refine ⟨_, rfl, p, _, 2, 2, rfl, rfl, hp2, rfl, ?_⟩
            refine ⟨_, rfl, .inl ⟨_, rfl, _, rfl, _, _, rfl, rfl, (by show (0 : Int) < many; omega), ?_⟩⟩
            exact k _ _ (md _).1 (md _).2 (fun b o e hb => by rw [upd_ne hb]; exact k2 b o e hb) ⟨cells, at_ + 1, _, upd_same, by rw [upd_ne nlp]; exact hl2, nlp, hcl, by omega, by omega⟩
          · refine ⟨_, rfl, .inl ⟨_, rfl, _, _, rfl, rfl, (by show (0 : Int) < _; decide), _, rfl, _, _, rfl, rfl, .inl ⟨by decide, by decide⟩, _, _, rfl, rfl, _, _, rfl, rfl, _, _, rfl, rfl, ⟨by decide, by decide, by omega⟩, .inl ⟨_, rfl, _, _, rfl, rfl, (by show (0 : Int) < _; decide), ?_⟩⟩⟩
            refine ⟨_, rfl, _, rfl, _, _, rfl, rfl, .inl ⟨by decide, by decide⟩, _, _, rfl, rfl, _, _, rfl, rfl, .inl ⟨by omega, by omega⟩, _, rfl, _, _, rfl, rfl, .inl ⟨by decide, by decide⟩, _, rfl, _, _, rfl, rfl, .inl (mul_bd a0 a2 ⟨by decide, by decide⟩), _, _, rfl, rfl, _, _, rfl, rfl, _, _, rfl, rfl, ⟨by decide, by decide, draw_bd (by omega) (by omega) a0 a2 ⟨by decide, by decide⟩ ⟨by decide, by decide⟩ ⟨by decide, by decide⟩⟩, .inl ⟨_, rfl, _, _, rfl, rfl, (by show (0 : Int) < _; decide), ?_⟩⟩
            refine ⟨_, rfl, _, _, rfl, rfl, ⟨by decide, by decide⟩, .inl ⟨_, rfl, _, rfl, _, _, rfl, rfl, (by show (0 : Int) < many; omega), ?_⟩⟩
            exact k _ _ (md _).1 (md _).2 k2 ⟨cells, at_ + 1, _, hp2, hl2, nlp, hcl, by omega, by omega⟩
        · refine ifN rfl ?_
          refine ⟨_, rfl, .inl ⟨_, rfl, _, _, rfl, rfl, (by show (0 : Int) < _; decide), _, rfl, _, _, rfl, rfl, .inl ⟨by decide, by decide⟩, _, _, rfl, rfl, _, _, rfl, rfl, _, _, rfl, rfl, ⟨by decide, by decide, by omega⟩, .inl ⟨_, rfl, _, _, rfl, rfl, (by show (0 : Int) < _; decide), ?_⟩⟩⟩
          refine ⟨_, rfl, _, rfl, _, _, rfl, rfl, .inl ⟨by decide, by decide⟩, _, _, rfl, rfl, _, _, rfl, rfl, .inl ⟨by omega, by omega⟩, _, rfl, _, _, rfl, rfl, .inl ⟨by decide, by decide⟩, _, rfl, _, _, rfl, rfl, .inl (mul_bd a0 a2 ⟨by decide, by decide⟩), _, _, rfl, rfl, _, _, rfl, rfl, _, _, rfl, rfl, ⟨by decide, by decide, draw_bd (by omega) (by omega) a0 a2 ⟨by decide, by decide⟩ ⟨by decide, by decide⟩ ⟨by decide, by decide⟩⟩, .inl ⟨_, rfl, _, _, rfl, rfl, (by show (0 : Int) < _; decide), ?_⟩⟩
          refine ⟨_, rfl, _, _, rfl, rfl, ⟨by decide, by decide⟩, .inl ⟨_, rfl, _, rfl, _, _, rfl, rfl, (by show (0 : Int) < many; omega), ?_⟩⟩
          exact k _ _ (md _).1 (md _).2 k2 ⟨cells, at_ + 1, _, hp2, hl2, nlp, hcl, by omega, by omega⟩
theorem ok_Lpick (T : Tx K mg) : FnR P w K mg base (L2.CX P w) 2 (He.ga K "_law_pick") (spPick) := by
  obtain ⟨fd, F⟩ := T.d_Lpick
  refine EM.fnr F sc_Lpick (fun _ _ _ _ _ _ us hl => match us, hl with | [_, _], _ => rfl) (fun vs H Q E h => ?_) (fun cdv A outer s H vs Q E hr h => ?_)
  · obtain ⟨p, l, n, a, xs, rfl, _⟩ := h
    rfl
  · obtain ⟨p, l, n, a, xs, rfl, hP, hn, ha, nap, hx, hx2, k⟩ := h
    refine ⟨_, (PSs.nox (pss_one (ps_ret (pe_ix ix_list (pv 1) (EM.pe_cR (ok_Ldraw T) (hr.mono (by decide)) T.k__law_draw T.g__law_draw passL (pa_cons (pv 0) (pa_cons (pe_callB call_len (by rfl) T.f_len boot_len (pa_cons (pv 1) pa_nil)) pa_nil))) (fun _ _ => rfl))))), ?_⟩
    refine ⟨_, rfl, _, rfl, _, rfl, _, _, rfl, .inl ⟨_, SqL.of ha, rfl⟩, p, l, n, xs.length, rfl, hP, hn, by omega, by omega, fun d H' d0 d1 k1 P1 => ?_⟩
    obtain ⟨v, hv, hmem⟩ := pick (xs := xs) d0 d1
    exact ⟨a, _, _, v, rfl, rfl, SqL.of (k1 _ _ ha nap), hv, k v H' hmem k1 P1⟩
end
end K01
namespace K01
open PySem PySem.Spec PyProof.Rows L2 EM
section
variable {P : Program} {w : World} {K : PySem.W.Frag} {mg : Str → Option Value} {base : Heap}
theorem ok_is_integer (T : Tx K mg) : FnR P w K mg base (L2.CX P w) 1 (He.ga K "is_integer") (spIsInt K) := by
  obtain ⟨fd, F⟩ := T.d_is_integer
  refine EM.fnr F sc_is_integer (fun _ _ _ _ _ _ us hl => match us, hl with | [_], _ => rfl) (fun vs H Q E h => ?_) (fun cdv A outer s H vs Q E hr h => ?_)
  · obtain ⟨x, t, b1, b2, rfl, _⟩ := h
    rfl
  · obtain ⟨x, t, b1, b2, rfl, ty, k1, k2, q⟩ := h
    refine ⟨_, (PSs.nox (pss_one (ps_ret (pe_and (pe_callB call_isi (by rfl) T.f_isinstance (by decide +kernel) (pa_cons (pv 0) (pa_cons (pe_bltn (v := .ty "int") (by rfl) T.f_int boot_int rfl) pa_nil))) (pe_one (pe_not (pe_callB call_isi (by rfl) T.f_isinstance (by decide +kernel) (pa_cons (pv 0) (pa_cons (pe_bltn (v := .ty "bool") (by rfl) T.f_bool boot_bool rfl) pa_nil))))))))), ?_⟩
    refine ⟨_, rfl, x, .ty "int", t, .type "int", b1, rfl, .ty "int", ty, k1, b1, rfl, ?_⟩
    cases b1 with
    | false => exact iteF q
    | true => exact iteT ⟨_, rfl, x, .ty "bool", t, .type "bool", b2, rfl, .ty "bool", ty, k2, b2, rfl, q⟩
end
end K01
namespace K01
open PySem PySem.Spec PyProof.Rows L2 EM
theorem len_rat {K : PySem.W.Frag} : ∀ vs H Q E, spRat K vs H Q E → vs.length = ["self", "top", "bottom"].length := by
  intro vs H Q E h
  obtain ⟨x, dx, t, b, rfl, _⟩ := h
  rfl
section
variable {P : Program} {w : World} {K : PySem.W.Frag} {mg : Str → Option Value} {base : Heap}
theorem ok_common_divisor (T : Tx K mg) : FnR P w K mg base (L2.CX P w) 1 (He.ga K "common_divisor") (spGcd) := by
  obtain ⟨fd, F⟩ := T.d_common_divisor
  refine EM.fnr F sc_common_divisor (fun _ _ _ _ _ _ us hl => match us, hl with | [_, _], _ => rfl) (fun vs H Q E h => ?_) (fun cdv A outer s H vs Q E hr h => ?_)
  · obtain ⟨a, b, rfl, _⟩ := h
    rfl
  · obtain ⟨a, b, rfl, k⟩ := h
    refine ⟨_, (PSs.nox (pss_cons (ps_while PassesOwn.never (pt_cmpR op_ne (pv 1) pe_int (nomark _))
  (pss_one (ps_par (by rfl) sc_common_divisor.nd (i := 0) (j := 1) rfl rfl (by decide) rfl rfl (pa_cons (pv 1) (pa_cons (pe_op op_modN (pv 0) (pv 1)) pa_nil)) (by rfl))))
 (pss_one (ps_ret (pe_callB call_abs (by rfl) T.f_abs (by decide +kernel) (pa_cons (pv 0) pa_nil)))))), ?_⟩
    refine ⟨fun m σ H' => ∃ a' b', σ = [some (.int a'), some (.int b')] ∧ H' = H ∧ Int.gcd a' b' = Int.gcd a b ∧ m = b'.natAbs, ⟨_, a, b, rfl, rfl, rfl, rfl⟩, ?_⟩
    rintro m σ H' ⟨a', b', rfl, rfl, hg, rfl⟩
    refine ⟨_, rfl, rfl, _, rfl, ite2 (fun c => ?_) (fun c => ?_)⟩
    · have hb : b' ≠ 0 := fun z => by
        subst z
        simp at c
      refine ⟨fun σ H1 => ∃ a1 b1, σ = [some (.int a1), some (.int b1)] ∧ H1 = H' ∧ Int.gcd a1 b1 = Int.gcd a b ∧ b1.natAbs < b'.natAbs, ?_, ?_⟩
      · rintro σ H1 ⟨a1, b1, e1, e2, e3, e4⟩
        exact ⟨_, e4, a1, b1, e1, e2, e3, rfl⟩
      · exact ⟨_, rfl, _, rfl, _, rfl, _, _, rfl, rfl, hb, _, _, rfl, b', _, rfl, rfl, by rw [gcd_fmod]; exact hg, fmod_less _ _ hb⟩
    · have hb : b' = 0 := by
        apply Classical.byContradiction
        intro z
        exact c (by simp [z])
      subst hb
      have e : ((Int.gcd a b : Nat) : Int) = if a' < 0 then -a' else a' := by
        rw [← hg, Int.gcd_zero_right]
        split <;> omega
      rw [e] at k
      exact ⟨_, rfl, _, rfl, k⟩
theorem bod_rat (T : Tx K mg) (f : Addr) : Bod P w K mg base ["self", "top", "bottom", "shared"] "Ratio.__init__" (defScope s_Ratio_init) f (defBody s_Ratio_init) 1 (spRat K) := by
  intro cdv A outer s H vs Q E hr h
  obtain ⟨x, dx, t, b, rfl, hx, b0, bl, k⟩ := h
  refine ⟨_, (PSs.nox (pss_cons (ps_if (pt_not (pt_val (EM.pe_cR (ok_is_integer T) (hr.mono (by decide)) T.k_is_integer T.g_is_integer passL (pa_cons (pv 1) pa_nil))))
  (pss_one ps_never) pss_nil)
 (pss_cons (ps_if (PW.pt (pw_or (pt_not (pt_val (EM.pe_cR (ok_is_integer T) (hr.mono (by decide)) T.k_is_integer T.g_is_integer passL (pa_cons (pv 2) pa_nil)))) (pw_or1 (pt_cmpR op_eq (pv 2) pe_int (nomark _)))))
  (pss_one ps_never) pss_nil)
 (pss_cons (ps_set (i := 3) sc_Ratio_init.nd rfl (Or.inl rfl) (EM.pe_cR (ok_common_divisor T) (hr.mono (by decide)) T.k_common_divisor T.g_common_divisor passL (pa_cons (pv 1) (pa_cons (pv 2) pa_nil))))
 (pss_cons (ps_if (pt_cmpR op_lt (pv 2) pe_int (nomark _))
  (pss_one (ps_set (i := 3) sc_Ratio_init.nd rfl (Or.inl rfl) (pe_un un_neg (pv 3)))) pss_nil)
 (pss_cons (ps_fld (pv 0) (pe_op op_fdivWN (pv 1) (pv 3)) rfl)
 (pss_one (ps_fld (pv 0) (pe_op op_fdivWN (pv 2) (pv 3)) rfl)))))))), ?_⟩
  refine ⟨_, rfl, _, _, true, false, rfl, .base (.int t), kit_ty (by decide +kernel), kit_ty (by decide +kernel), _, rfl, ifN rfl ?_⟩
  refine ⟨_, rfl, _, _, true, false, rfl, .base (.int b), kit_ty (by decide +kernel), kit_ty (by decide +kernel), _, rfl, ifN rfl ⟨_, rfl, rfl, _, rfl, ifN (by simp [b0]) ?_⟩⟩
  have hs0 := shr_ne (t := t) b0
  have hs1 : (shr t b).natAbs.log2 < 9000 := Nat.lt_of_le_of_lt (log_le (shr_le b0)) bl
  refine ⟨_, rfl, _, rfl, t, b, rfl, ?_⟩
  refine ⟨_, rfl, _, _, rfl, rfl, _, rfl, ite2 (fun c => ?_) (fun c => ?_)⟩
  · have e : shr t b = -(Int.gcd t b : Int) := if_pos (by simpa using c)
    refine ⟨_, rfl, _, rfl, ?_⟩
    refine ⟨_, rfl, _, rfl, _, _, rfl, rfl, ⟨by rw [← e]; exact hs0, by rw [← e]; exact hs1⟩, _, rfl, x, _, dx, _, rfl, hx, T.cl_Ratio, T.na_Ratio_top, (by show 0 < 1000; decide), ?_⟩
    refine ⟨_, rfl, _, rfl, _, _, rfl, rfl, ⟨by rw [← e]; exact hs0, by rw [← e]; exact hs1⟩, _, rfl, x, _, dx, _, rfl, upd_same, T.cl_Ratio, T.na_Ratio_bottom, (by show 1 < 1000; decide), ?_⟩
    refine k _ (fun c o h hc => by rw [upd_ne hc, upd_ne hc]; exact h) ⟨dx, ?_⟩
    rw [upd_same]
    unfold nTop nBot
    rw [e]
    rfl
  · have e : shr t b = (Int.gcd t b : Int) := if_neg (by simpa using c)
    refine ⟨_, rfl, _, rfl, _, _, rfl, rfl, ⟨by rw [← e]; exact hs0, by rw [← e]; exact hs1⟩, _, rfl, x, _, dx, _, rfl, hx, T.cl_Ratio, T.na_Ratio_top, (by show 0 < 1000; decide), ?_⟩
    refine ⟨_, rfl, _, rfl, _, _, rfl, rfl, ⟨by rw [← e]; exact hs0, by rw [← e]; exact hs1⟩, _, rfl, x, _, dx, _, rfl, upd_same, T.cl_Ratio, T.na_Ratio_bottom, (by show 1 < 1000; decide), ?_⟩
    refine k _ (fun c o h hc => by rw [upd_ne hc, upd_ne hc]; exact h) ⟨dx, ?_⟩
    rw [upd_same]
    unfold nTop nBot
    rw [e]
    rfl
theorem ok_Ratio2 (T : Tx K mg) : FnR P w K mg base (L2.CX P w) 2 (He.ma K (He.ga K "Ratio") "__init__") (fun vs H Q E => spRat K (vs ++ []) H Q E) := by
  obtain ⟨fd, F⟩ := T.d_Ratio_init
  exact EM.fnr_dfl 3 1 F sc_Ratio_init (by intro z; cases z) rfl (fun T kV doc pm an cdv ct us its h1 h2 => match us, h1, its, h2 with | [_, _, _], _, [_], _ => ⟨_, rfl, rfl⟩) len_rat (bod_rat T _)
end
end K01
namespace K01
open PySem PySem.Spec PyProof.Rows L2 EM
abbrev tx (i : Int) : Str := Str.ofString (toString i)
theorem emp_app (a : Str) : Str.empty ++ a = a := Str.empty_append a
/-- repr of a Ratio -/
def ratText (t b : Int) : Str := "Ratio(" ++ tx t ++ ", " ++ tx b ++ ")"
def spRRep (K : PySem.W.Frag) : Sp := fun vs H Q _ => ∃ (p : Addr) (t b : Int), vs = [.ref p] ∧ RatAt K H p t b ∧ Bt 1900 t ∧ Bt 1900 b ∧ Q (.str (ratText t b)) H
def sh2 (z : Str) (d : PyData) : Str := (PyData.tuple [.str z, d]).shown
/-- what stands behind the word, and the text of both -/
inductive ShV (K : PySem.W.Frag) (p : Addr) (H : Hp) (z : Str) : V → Str → Prop
  | int {i : Int} (b : Bt 1900 i) : ShV K p H z (.int i) (sh2 z (.int i))
  | non : ShV K p H z .non (sh2 z .none)
  | bl {b : Bool} : ShV K p H z (.bl b) (sh2 z (.bool b))
  | str {y : Str} (h : Fd 100 0 (.str y)) : ShV K p H z (.str y) (sh2 z (.str y))
  | tup {a : Addr} (h : At p H a (.tup [.int 0])) : ShV K p H z (.ref a) (sh2 z (.tuple [.int 0]))
  | lst {a : Addr} (h : At p H a (.lst [.int 0])) : ShV K p H z (.ref a) (sh2 z (.list [.int 0]))
  | rat {a : Addr} {t b : Int} (h : RatP K p H a t b) (bt : Bt 1900 t) (bb : Bt 1900 b) : ShV K p H z (.ref a) (tupleText [reprText z, ratText t b])
  | dct {a : Addr} (h : At p H a (.dK [])) : ShV K p H z (.ref a) (tupleText [reprText z, dictText []])
theorem ShV.ext {K : PySem.W.Frag} {p : Addr} {H H' : Hp} {z : Str} {v : V} {t : Str} (h : ShV K p H z v t) (x : Ext p H H') : ShV K p H' z v t := by
  cases h with
  | int b => exact .int b
  | non => exact .non
  | bl => exact .bl
  | str h => exact .str h
  | tup h => exact .tup (h.ext x)
  | lst h => exact .lst (h.ext x)
  | rat h bt bb => exact .rat (h.ext x) bt bb
  | dct h => exact .dct (h.ext x)
structure OkZ (z : Str) : Prop where
  fd : Fd 100 0 (.str z)
  len : (reprText z).length ≤ 100
theorem okz_of {z s : Str} (h : (PyData.str z).shown = s) (g : (decide ((PyData.str z).canLay0 = true) && decide ((PyData.str z).showable = true) && decide ((PyData.str z).shown.length ≤ 100) && decide ((PyData.str z).depth ≤ 0) && decide (PyData.eqv (.str z) (.str z) = true) && decide ((reprText z).length ≤ 100)) = true) (o : okS s) : OkZ z := by
  simp only [Bool.and_eq_true, decide_eq_true_eq] at g
  obtain ⟨⟨⟨⟨⟨g1, g2⟩, g3⟩, g4⟩, g5⟩, g6⟩ := g
  exact ⟨⟨g1, g2, g3, g4, g5, by rw [h]; exact o⟩, g6⟩
theorem emp_fd : Fd 100 0 (.str "") := (okz_of (z := "") (s := "''") (by decide +kernel) (by decide +kernel) (okS_of _)).fd
section
variable {P : Program} {w : World} {K : PySem.W.Frag} {mg : Str → Option Value} {base : Heap}
theorem ok_Ratio_repr (T : Tx K mg) : FnR P w K mg base (L2.CX P w) 1 (He.ma K (He.ga K "Ratio") "__repr__") (spRRep K) := by
  obtain ⟨fd, F⟩ := T.d_Ratio_repr
  refine EM.fnr F sc_Ratio_repr (fun _ _ _ _ _ _ us hl => match us, hl with | [_], _ => rfl) (fun vs H Q E h => ?_) (fun cdv A outer s H vs Q E hr h => ?_)
  · obtain ⟨p, t, b, rfl, _⟩ := h
    rfl
  · obtain ⟨p, t, b, rfl, ⟨dx, hp⟩, st, sb, k⟩ := h
    have stl : t.natAbs.log2 < 1920 := Nat.lt_trans (st.log (by decide)) (by decide)
    have sbl : b.natAbs.log2 < 1920 := Nat.lt_trans (sb.log (by decide)) (by decide)
    have lt : (tx t).length ≤ 1921 := int_text_len_1921 stl
    have lb : (tx b).length ≤ 1921 := int_text_len_1921 sbl
    have zl : 50000 ≤ sizeLine := by decide
    have r1 : ("Ratio(" : Str).length = 6 := by decide +kernel
    have r2 : (", " : Str).length = 2 := by decide +kernel
    have r3 : (")" : Str).length = 1 := by decide +kernel
    refine ⟨_, (PSs.nox (pss_one (ps_ret (pe_joined (.cons pe_str (.cons (pe_fmt (pe_fld (pv 0) rfl)) (.cons pe_str (.cons (pe_fmt (pe_fld (pv 0) rfl)) (.cons pe_str .nil))))))))), ?_⟩
    refine ⟨_, rfl, ?_, _, rfl, p, _, dx, _, .int t, rfl, hp, T.cl_Ratio, T.na_Ratio_top, rfl, .inr ⟨t, rfl, stl, _, rfl, ?_, _, rfl, ?_, _, rfl, p, _, dx, _, .int b, rfl, hp, T.cl_Ratio, T.na_Ratio_bottom, rfl, .inr ⟨b, rfl, sbl, _, rfl, ?_, _, rfl, ?_, ?_⟩⟩⟩
    · rw [emp_app, r1]
      omega
    · rw [emp_app, Str.length_append, r1]
      show 6 + (tx t).length ≤ _
      omega
    · rw [emp_app, Str.length_append, Str.length_append, r1, r2]
      show 6 + (tx t).length + 2 ≤ _
      omega
    · rw [emp_app, Str.length_append, Str.length_append, Str.length_append, r1, r2]
      show 6 + (tx t).length + 2 + (tx b).length ≤ _
      omega
    · rw [emp_app, Str.length_append, Str.length_append, Str.length_append, Str.length_append, r1, r2, r3]
      show 6 + (tx t).length + 2 + (tx b).length + 1 ≤ _
      omega
    · rw [emp_app]
      exact k
end
end K01
namespace K01
open PySem PySem.Spec PyProof.Rows L2 EM
section
variable {P : Program} {w : World} {K : PySem.W.Frag} {mg : Str → Option Value} {base : Heap}
theorem mk_BadRatio (T : Tx K mg) : ∃ fd, FnOk P w K mg base (L2.CX P w) 1 (He.ma K (He.ga K "BadRatio") "__init__") fd ["self", "part"] (spX1 (He.ga K "BadRatio") "part") ∧ Binds K fd ["self", "part"] [] ∧ KBn K fd ["self", "part"] 1 ["part"] (fun us ws => us ++ ws) (fun vs zs => vs ++ zs) := by
  obtain ⟨fd, F⟩ := T.d_BadRatio_init
  refine ⟨fd, FunD.ok (CX := L2.CX P w) F sc_BadRatio_init (fun vs H Q E h => ?_) (fun cdv A outer s H vs Q E hr h => ?_), F.bindsN (fun _ _ _ _ _ _ us hl => match us, hl with | [_, _], _ => rfl), kbn_of F (fun r1 r2 => PySem.W.vals_app r1 r2) (fun _ _ _ _ _ _ us ws h1 h2 => match us, h1, ws, h2 with | [_], _, [_], _ => rfl)⟩
  · obtain ⟨a, v, rfl, _⟩ := h
    rfl
  · obtain ⟨a, v, rfl, ha, k⟩ := h
    refine ⟨_, (PSs.nox (pss_one (ps_ost (pv 0) (pv 1)))), ?_⟩
    exact ⟨_, rfl, _, rfl, a, He.ga K "BadRatio", rfl, T.ox_BadRatio, T.na_BadRatio_part, .inl ⟨ha, fun dx hdx hda => k dx hdx hda⟩⟩
theorem mk_BadMark (T : Tx K mg) : ∃ fd, FnOk P w K mg base (L2.CX P w) 1 (He.ma K (He.ga K "BadMark") "__init__") fd ["self", "at"] (spX1 (He.ga K "BadMark") "at") ∧ Binds K fd ["self", "at"] [] ∧ KBn K fd ["self", "at"] 1 ["at"] (fun us ws => us ++ ws) (fun vs zs => vs ++ zs) := by
  obtain ⟨fd, F⟩ := T.d_BadMark_init
  refine ⟨fd, FunD.ok (CX := L2.CX P w) F sc_BadMark_init (fun vs H Q E h => ?_) (fun cdv A outer s H vs Q E hr h => ?_), F.bindsN (fun _ _ _ _ _ _ us hl => match us, hl with | [_, _], _ => rfl), kbn_of F (fun r1 r2 => PySem.W.vals_app r1 r2) (fun _ _ _ _ _ _ us ws h1 h2 => match us, h1, ws, h2 with | [_], _, [_], _ => rfl)⟩
  · obtain ⟨a, v, rfl, _⟩ := h
    rfl
  · obtain ⟨a, v, rfl, ha, k⟩ := h
    refine ⟨_, (PSs.nox (pss_one (ps_ost (pv 0) (pv 1)))), ?_⟩
    exact ⟨_, rfl, _, rfl, a, He.ga K "BadMark", rfl, T.ox_BadMark, T.na_BadMark_at, .inl ⟨ha, fun dx hdx hda => k dx hdx hda⟩⟩
theorem mk_NoEdge (T : Tx K mg) : ∃ fd, FnOk P w K mg base (L2.CX P w) 1 (He.ma K (He.ga K "NoEdge") "__init__") fd ["self", "value"] (spX1 (He.ga K "NoEdge") "value") ∧ Binds K fd ["self", "value"] [] ∧ KBn K fd ["self", "value"] 1 ["value"] (fun us ws => us ++ ws) (fun vs zs => vs ++ zs) := by
  obtain ⟨fd, F⟩ := T.d_NoEdge_init
  refine ⟨fd, FunD.ok (CX := L2.CX P w) F sc_NoEdge_init (fun vs H Q E h => ?_) (fun cdv A outer s H vs Q E hr h => ?_), F.bindsN (fun _ _ _ _ _ _ us hl => match us, hl with | [_, _], _ => rfl), kbn_of F (fun r1 r2 => PySem.W.vals_app r1 r2) (fun _ _ _ _ _ _ us ws h1 h2 => match us, h1, ws, h2 with | [_], _, [_], _ => rfl)⟩
  · obtain ⟨a, v, rfl, _⟩ := h
    rfl
  · obtain ⟨a, v, rfl, ha, k⟩ := h
    refine ⟨_, (PSs.nox (pss_one (ps_ost (pv 0) (pv 1)))), ?_⟩
    exact ⟨_, rfl, _, rfl, a, He.ga K "NoEdge", rfl, T.ox_NoEdge, T.na_NoEdge_value, .inl ⟨ha, fun dx hdx hda => k dx hdx hda⟩⟩
theorem mk_BadReading (T : Tx K mg) : ∃ fd, FnOk P w K mg base (L2.CX P w) 1 (He.ma K (He.ga K "BadReading") "__init__") fd ["self", "at"] (spX1 (He.ga K "BadReading") "at") ∧ Binds K fd ["self", "at"] [] ∧ KBn K fd ["self", "at"] 1 ["at"] (fun us ws => us ++ ws) (fun vs zs => vs ++ zs) := by
  obtain ⟨fd, F⟩ := T.d_BadReading_init
  refine ⟨fd, FunD.ok (CX := L2.CX P w) F sc_BadReading_init (fun vs H Q E h => ?_) (fun cdv A outer s H vs Q E hr h => ?_), F.bindsN (fun _ _ _ _ _ _ us hl => match us, hl with | [_, _], _ => rfl), kbn_of F (fun r1 r2 => PySem.W.vals_app r1 r2) (fun _ _ _ _ _ _ us ws h1 h2 => match us, h1, ws, h2 with | [_], _, [_], _ => rfl)⟩
  · obtain ⟨a, v, rfl, _⟩ := h
    rfl
  · obtain ⟨a, v, rfl, ha, k⟩ := h
    refine ⟨_, (PSs.nox (pss_one (ps_ost (pv 0) (pv 1)))), ?_⟩
    exact ⟨_, rfl, _, rfl, a, He.ga K "BadReading", rfl, T.ox_BadReading, T.na_BadReading_at, .inl ⟨ha, fun dx hdx hda => k dx hdx hda⟩⟩
theorem mk_NotRising (T : Tx K mg) : ∃ fd, FnOk P w K mg base (L2.CX P w) 1 (He.ma K (He.ga K "NotRising") "__init__") fd ["self", "at"] (spX1 (He.ga K "NotRising") "at") ∧ Binds K fd ["self", "at"] [] ∧ KBn K fd ["self", "at"] 1 ["at"] (fun us ws => us ++ ws) (fun vs zs => vs ++ zs) := by
  obtain ⟨fd, F⟩ := T.d_NotRising_init
  refine ⟨fd, FunD.ok (CX := L2.CX P w) F sc_NotRising_init (fun vs H Q E h => ?_) (fun cdv A outer s H vs Q E hr h => ?_), F.bindsN (fun _ _ _ _ _ _ us hl => match us, hl with | [_, _], _ => rfl), kbn_of F (fun r1 r2 => PySem.W.vals_app r1 r2) (fun _ _ _ _ _ _ us ws h1 h2 => match us, h1, ws, h2 with | [_], _, [_], _ => rfl)⟩
  · obtain ⟨a, v, rfl, _⟩ := h
    rfl
  · obtain ⟨a, v, rfl, ha, k⟩ := h
    refine ⟨_, (PSs.nox (pss_one (ps_ost (pv 0) (pv 1)))), ?_⟩
    exact ⟨_, rfl, _, rfl, a, He.ga K "NotRising", rfl, T.ox_NotRising, T.na_NotRising_at, .inl ⟨ha, fun dx hdx hda => k dx hdx hda⟩⟩
theorem mk_NoStretch (T : Tx K mg) : ∃ fd, FnOk P w K mg base (L2.CX P w) 1 (He.ma K (He.ga K "NoStretch") "__init__") fd ["self", "value"] (spX1 (He.ga K "NoStretch") "value") ∧ Binds K fd ["self", "value"] [] ∧ KBn K fd ["self", "value"] 1 ["value"] (fun us ws => us ++ ws) (fun vs zs => vs ++ zs) := by
  obtain ⟨fd, F⟩ := T.d_NoStretch_init
  refine ⟨fd, FunD.ok (CX := L2.CX P w) F sc_NoStretch_init (fun vs H Q E h => ?_) (fun cdv A outer s H vs Q E hr h => ?_), F.bindsN (fun _ _ _ _ _ _ us hl => match us, hl with | [_, _], _ => rfl), kbn_of F (fun r1 r2 => PySem.W.vals_app r1 r2) (fun _ _ _ _ _ _ us ws h1 h2 => match us, h1, ws, h2 with | [_], _, [_], _ => rfl)⟩
  · obtain ⟨a, v, rfl, _⟩ := h
    rfl
  · obtain ⟨a, v, rfl, ha, k⟩ := h
    refine ⟨_, (PSs.nox (pss_one (ps_ost (pv 0) (pv 1)))), ?_⟩
    exact ⟨_, rfl, _, rfl, a, He.ga K "NoStretch", rfl, T.ox_NoStretch, T.na_NoStretch_value, .inl ⟨ha, fun dx hdx hda => k dx hdx hda⟩⟩
theorem mk_BadView (T : Tx K mg) : ∃ fd, FnOk P w K mg base (L2.CX P w) 1 (He.ma K (He.ga K "BadView") "__init__") fd ["self", "part"] (spX1 (He.ga K "BadView") "part") ∧ Binds K fd ["self", "part"] [] ∧ KBn K fd ["self", "part"] 1 ["part"] (fun us ws => us ++ ws) (fun vs zs => vs ++ zs) := by
  obtain ⟨fd, F⟩ := T.d_BadView_init
  refine ⟨fd, FunD.ok (CX := L2.CX P w) F sc_BadView_init (fun vs H Q E h => ?_) (fun cdv A outer s H vs Q E hr h => ?_), F.bindsN (fun _ _ _ _ _ _ us hl => match us, hl with | [_, _], _ => rfl), kbn_of F (fun r1 r2 => PySem.W.vals_app r1 r2) (fun _ _ _ _ _ _ us ws h1 h2 => match us, h1, ws, h2 with | [_], _, [_], _ => rfl)⟩
  · obtain ⟨a, v, rfl, _⟩ := h
    rfl
  · obtain ⟨a, v, rfl, ha, k⟩ := h
    refine ⟨_, (PSs.nox (pss_one (ps_ost (pv 0) (pv 1)))), ?_⟩
    exact ⟨_, rfl, _, rfl, a, He.ga K "BadView", rfl, T.ox_BadView, T.na_BadView_part, .inl ⟨ha, fun dx hdx hda => k dx hdx hda⟩⟩
theorem mk_BadTerms (T : Tx K mg) : ∃ fd, FnOk P w K mg base (L2.CX P w) 1 (He.ma K (He.ga K "BadTerms") "__init__") fd ["self", "part"] (spX1 (He.ga K "BadTerms") "part") ∧ Binds K fd ["self", "part"] [] ∧ KBn K fd ["self", "part"] 1 ["part"] (fun us ws => us ++ ws) (fun vs zs => vs ++ zs) := by
  obtain ⟨fd, F⟩ := T.d_BadTerms_init
  refine ⟨fd, FunD.ok (CX := L2.CX P w) F sc_BadTerms_init (fun vs H Q E h => ?_) (fun cdv A outer s H vs Q E hr h => ?_), F.bindsN (fun _ _ _ _ _ _ us hl => match us, hl with | [_, _], _ => rfl), kbn_of F (fun r1 r2 => PySem.W.vals_app r1 r2) (fun _ _ _ _ _ _ us ws h1 h2 => match us, h1, ws, h2 with | [_], _, [_], _ => rfl)⟩
  · obtain ⟨a, v, rfl, _⟩ := h
    rfl
  · obtain ⟨a, v, rfl, ha, k⟩ := h
    refine ⟨_, (PSs.nox (pss_one (ps_ost (pv 0) (pv 1)))), ?_⟩
    exact ⟨_, rfl, _, rfl, a, He.ga K "BadTerms", rfl, T.ox_BadTerms, T.na_BadTerms_part, .inl ⟨ha, fun dx hdx hda => k dx hdx hda⟩⟩
theorem mk_BadWeights (T : Tx K mg) : ∃ fd, FnOk P w K mg base (L2.CX P w) 1 (He.ma K (He.ga K "BadWeights") "__init__") fd ["self", "part"] (spX1 (He.ga K "BadWeights") "part") ∧ Binds K fd ["self", "part"] [] ∧ KBn K fd ["self", "part"] 1 ["part"] (fun us ws => us ++ ws) (fun vs zs => vs ++ zs) := by
  obtain ⟨fd, F⟩ := T.d_BadWeights_init
  refine ⟨fd, FunD.ok (CX := L2.CX P w) F sc_BadWeights_init (fun vs H Q E h => ?_) (fun cdv A outer s H vs Q E hr h => ?_), F.bindsN (fun _ _ _ _ _ _ us hl => match us, hl with | [_, _], _ => rfl), kbn_of F (fun r1 r2 => PySem.W.vals_app r1 r2) (fun _ _ _ _ _ _ us ws h1 h2 => match us, h1, ws, h2 with | [_], _, [_], _ => rfl)⟩
  · obtain ⟨a, v, rfl, _⟩ := h
    rfl
  · obtain ⟨a, v, rfl, ha, k⟩ := h
    refine ⟨_, (PSs.nox (pss_one (ps_ost (pv 0) (pv 1)))), ?_⟩
    exact ⟨_, rfl, _, rfl, a, He.ga K "BadWeights", rfl, T.ox_BadWeights, T.na_BadWeights_part, .inl ⟨ha, fun dx hdx hda => k dx hdx hda⟩⟩
theorem mk_BadName (T : Tx K mg) : ∃ fd, FnOk P w K mg base (L2.CX P w) 1 (He.ma K (He.ga K "BadName") "__init__") fd ["self", "name"] (spX1 (He.ga K "BadName") "name") ∧ Binds K fd ["self", "name"] [] ∧ KBn K fd ["self", "name"] 1 ["name"] (fun us ws => us ++ ws) (fun vs zs => vs ++ zs) := by
  obtain ⟨fd, F⟩ := T.d_BadName_init
  refine ⟨fd, FunD.ok (CX := L2.CX P w) F sc_BadName_init (fun vs H Q E h => ?_) (fun cdv A outer s H vs Q E hr h => ?_), F.bindsN (fun _ _ _ _ _ _ us hl => match us, hl with | [_, _], _ => rfl), kbn_of F (fun r1 r2 => PySem.W.vals_app r1 r2) (fun _ _ _ _ _ _ us ws h1 h2 => match us, h1, ws, h2 with | [_], _, [_], _ => rfl)⟩
  · obtain ⟨a, v, rfl, _⟩ := h
    rfl
  · obtain ⟨a, v, rfl, ha, k⟩ := h
    refine ⟨_, (PSs.nox (pss_one (ps_ost (pv 0) (pv 1)))), ?_⟩
    exact ⟨_, rfl, _, rfl, a, He.ga K "BadName", rfl, T.ox_BadName, T.na_BadName_name, .inl ⟨ha, fun dx hdx hda => k dx hdx hda⟩⟩
theorem mk_NoName (T : Tx K mg) : ∃ fd, FnOk P w K mg base (L2.CX P w) 1 (He.ma K (He.ga K "NoName") "__init__") fd ["self", "name"] (spX1 (He.ga K "NoName") "name") ∧ Binds K fd ["self", "name"] [] ∧ KBn K fd ["self", "name"] 1 ["name"] (fun us ws => us ++ ws) (fun vs zs => vs ++ zs) := by
  obtain ⟨fd, F⟩ := T.d_NoName_init
  refine ⟨fd, FunD.ok (CX := L2.CX P w) F sc_NoName_init (fun vs H Q E h => ?_) (fun cdv A outer s H vs Q E hr h => ?_), F.bindsN (fun _ _ _ _ _ _ us hl => match us, hl with | [_, _], _ => rfl), kbn_of F (fun r1 r2 => PySem.W.vals_app r1 r2) (fun _ _ _ _ _ _ us ws h1 h2 => match us, h1, ws, h2 with | [_], _, [_], _ => rfl)⟩
  · obtain ⟨a, v, rfl, _⟩ := h
    rfl
  · obtain ⟨a, v, rfl, ha, k⟩ := h
    refine ⟨_, (PSs.nox (pss_one (ps_ost (pv 0) (pv 1)))), ?_⟩
    exact ⟨_, rfl, _, rfl, a, He.ga K "NoName", rfl, T.ox_NoName, T.na_NoName_name, .inl ⟨ha, fun dx hdx hda => k dx hdx hda⟩⟩
theorem mk_TooMany (T : Tx K mg) : ∃ fd, FnOk P w K mg base (L2.CX P w) 1 (He.ma K (He.ga K "TooMany") "__init__") fd ["self", "most"] (spX1 (He.ga K "TooMany") "most") ∧ Binds K fd ["self", "most"] [] ∧ KBn K fd ["self", "most"] 1 ["most"] (fun us ws => us ++ ws) (fun vs zs => vs ++ zs) := by
  obtain ⟨fd, F⟩ := T.d_TooMany_init
  refine ⟨fd, FunD.ok (CX := L2.CX P w) F sc_TooMany_init (fun vs H Q E h => ?_) (fun cdv A outer s H vs Q E hr h => ?_), F.bindsN (fun _ _ _ _ _ _ us hl => match us, hl with | [_, _], _ => rfl), kbn_of F (fun r1 r2 => PySem.W.vals_app r1 r2) (fun _ _ _ _ _ _ us ws h1 h2 => match us, h1, ws, h2 with | [_], _, [_], _ => rfl)⟩
  · obtain ⟨a, v, rfl, _⟩ := h
    rfl
  · obtain ⟨a, v, rfl, ha, k⟩ := h
    refine ⟨_, (PSs.nox (pss_one (ps_ost (pv 0) (pv 1)))), ?_⟩
    exact ⟨_, rfl, _, rfl, a, He.ga K "TooMany", rfl, T.ox_TooMany, T.na_TooMany_most, .inl ⟨ha, fun dx hdx hda => k dx hdx hda⟩⟩
theorem mk_BadError (T : Tx K mg) : ∃ fd, FnOk P w K mg base (L2.CX P w) 1 (He.ma K (He.ga K "BadError") "__init__") fd ["self", "value"] (spX1 (He.ga K "BadError") "value") ∧ Binds K fd ["self", "value"] [] ∧ KBn K fd ["self", "value"] 1 ["value"] (fun us ws => us ++ ws) (fun vs zs => vs ++ zs) := by
  obtain ⟨fd, F⟩ := T.d_BadError_init
  refine ⟨fd, FunD.ok (CX := L2.CX P w) F sc_BadError_init (fun vs H Q E h => ?_) (fun cdv A outer s H vs Q E hr h => ?_), F.bindsN (fun _ _ _ _ _ _ us hl => match us, hl with | [_, _], _ => rfl), kbn_of F (fun r1 r2 => PySem.W.vals_app r1 r2) (fun _ _ _ _ _ _ us ws h1 h2 => match us, h1, ws, h2 with | [_], _, [_], _ => rfl)⟩
  · obtain ⟨a, v, rfl, _⟩ := h
    rfl
  · obtain ⟨a, v, rfl, ha, k⟩ := h
    refine ⟨_, (PSs.nox (pss_one (ps_ost (pv 0) (pv 1)))), ?_⟩
    exact ⟨_, rfl, _, rfl, a, He.ga K "BadError", rfl, T.ox_BadError, T.na_BadError_value, .inl ⟨ha, fun dx hdx hda => k dx hdx hda⟩⟩
theorem mk_BadCount (T : Tx K mg) : ∃ fd, FnOk P w K mg base (L2.CX P w) 1 (He.ma K (He.ga K "BadCount") "__init__") fd ["self", "value"] (spX1 (He.ga K "BadCount") "value") ∧ Binds K fd ["self", "value"] [] ∧ KBn K fd ["self", "value"] 1 ["value"] (fun us ws => us ++ ws) (fun vs zs => vs ++ zs) := by
  obtain ⟨fd, F⟩ := T.d_BadCount_init
  refine ⟨fd, FunD.ok (CX := L2.CX P w) F sc_BadCount_init (fun vs H Q E h => ?_) (fun cdv A outer s H vs Q E hr h => ?_), F.bindsN (fun _ _ _ _ _ _ us hl => match us, hl with | [_, _], _ => rfl), kbn_of F (fun r1 r2 => PySem.W.vals_app r1 r2) (fun _ _ _ _ _ _ us ws h1 h2 => match us, h1, ws, h2 with | [_], _, [_], _ => rfl)⟩
  · obtain ⟨a, v, rfl, _⟩ := h
    rfl
  · obtain ⟨a, v, rfl, ha, k⟩ := h
    refine ⟨_, (PSs.nox (pss_one (ps_ost (pv 0) (pv 1)))), ?_⟩
    exact ⟨_, rfl, _, rfl, a, He.ga K "BadCount", rfl, T.ox_BadCount, T.na_BadCount_value, .inl ⟨ha, fun dx hdx hda => k dx hdx hda⟩⟩
theorem mk_Alike (T : Tx K mg) : ∃ fd, FnOk P w K mg base (L2.CX P w) 1 (He.ma K (He.ga K "Alike") "__init__") fd ["self", "one", "other"] (spX2 (He.ga K "Alike") "one" "other") ∧ Binds K fd ["self", "one", "other"] [] ∧ KBn K fd ["self", "one", "other"] 1 ["other", "one"] (fun us ws => us ++ ws.reverse) (fun vs zs => vs ++ zs.reverse) := by
  obtain ⟨fd, F⟩ := T.d_Alike_init
  refine ⟨fd, FunD.ok (CX := L2.CX P w) F sc_Alike_init (fun vs H Q E h => ?_) (fun cdv A outer s H vs Q E hr h => ?_), F.bindsN (fun _ _ _ _ _ _ us hl => match us, hl with | [_, _, _], _ => rfl), kbn_of F (fun r1 r2 => PySem.W.vals_app r1 r2.reverse) (fun _ _ _ _ _ _ us ws h1 h2 => match us, h1, ws, h2 with | [_], _, [_, _], _ => rfl)⟩
  · obtain ⟨a, v, u, rfl, _⟩ := h
    rfl
  · obtain ⟨a, v, u, rfl, ha, k⟩ := h
    refine ⟨_, (PSs.nox (pss_cons (ps_ost (pv 0) (pv 1))
 (pss_one (ps_ost (pv 0) (pv 2))))), ?_⟩
    refine ⟨_, rfl, _, rfl, a, He.ga K "Alike", rfl, T.ox_Alike, T.na_Alike_one, .inl ⟨ha, fun dx hdx hda => ?_⟩⟩
    refine ⟨_, rfl, _, rfl, a, He.ga K "Alike", rfl, T.ox_Alike, T.na_Alike_other, .inr ⟨dx, _, upd_same, by rw [upd_ne hda]; exact upd_same, (by show 1 ≤ 900; decide), k dx hdx hda⟩⟩
theorem mk_TooLarge (T : Tx K mg) : ∃ fd, FnOk P w K mg base (L2.CX P w) 1 (He.ma K (He.ga K "TooLarge") "__init__") fd ["self", "part", "most"] (spX2 (He.ga K "TooLarge") "part" "most") ∧ Binds K fd ["self", "part", "most"] [] ∧ KBn K fd ["self", "part", "most"] 1 ["most", "part"] (fun us ws => us ++ ws.reverse) (fun vs zs => vs ++ zs.reverse) := by
  obtain ⟨fd, F⟩ := T.d_TooLarge_init
  refine ⟨fd, FunD.ok (CX := L2.CX P w) F sc_TooLarge_init (fun vs H Q E h => ?_) (fun cdv A outer s H vs Q E hr h => ?_), F.bindsN (fun _ _ _ _ _ _ us hl => match us, hl with | [_, _, _], _ => rfl), kbn_of F (fun r1 r2 => PySem.W.vals_app r1 r2.reverse) (fun _ _ _ _ _ _ us ws h1 h2 => match us, h1, ws, h2 with | [_], _, [_, _], _ => rfl)⟩
  · obtain ⟨a, v, u, rfl, _⟩ := h
    rfl
  · obtain ⟨a, v, u, rfl, ha, k⟩ := h
    refine ⟨_, (PSs.nox (pss_cons (ps_ost (pv 0) (pv 1))
 (pss_one (ps_ost (pv 0) (pv 2))))), ?_⟩
    refine ⟨_, rfl, _, rfl, a, He.ga K "TooLarge", rfl, T.ox_TooLarge, T.na_TooLarge_part, .inl ⟨ha, fun dx hdx hda => ?_⟩⟩
    refine ⟨_, rfl, _, rfl, a, He.ga K "TooLarge", rfl, T.ox_TooLarge, T.na_TooLarge_most, .inr ⟨dx, _, upd_same, by rw [upd_ne hda]; exact upd_same, (by show 1 ≤ 900; decide), k dx hdx hda⟩⟩
theorem mk_BadText (T : Tx K mg) : ∃ fd, FnOk P w K mg base (L2.CX P w) 1 (He.ma K (He.ga K "BadText") "__init__") fd ["self", "line", "word"] (spX2 (He.ga K "BadText") "line" "word") ∧ Binds K fd ["self", "line", "word"] [] ∧ KBn K fd ["self", "line", "word"] 1 ["word", "line"] (fun us ws => us ++ ws.reverse) (fun vs zs => vs ++ zs.reverse) := by
  obtain ⟨fd, F⟩ := T.d_BadText_init
  refine ⟨fd, FunD.ok (CX := L2.CX P w) F sc_BadText_init (fun vs H Q E h => ?_) (fun cdv A outer s H vs Q E hr h => ?_), F.bindsN (fun _ _ _ _ _ _ us hl => match us, hl with | [_, _, _], _ => rfl), kbn_of F (fun r1 r2 => PySem.W.vals_app r1 r2.reverse) (fun _ _ _ _ _ _ us ws h1 h2 => match us, h1, ws, h2 with | [_], _, [_, _], _ => rfl)⟩
  · obtain ⟨a, v, u, rfl, _⟩ := h
    rfl
  · obtain ⟨a, v, u, rfl, ha, k⟩ := h
    refine ⟨_, (PSs.nox (pss_cons (ps_ost (pv 0) (pv 1))
 (pss_one (ps_ost (pv 0) (pv 2))))), ?_⟩
    refine ⟨_, rfl, _, rfl, a, He.ga K "BadText", rfl, T.ox_BadText, T.na_BadText_line, .inl ⟨ha, fun dx hdx hda => ?_⟩⟩
    refine ⟨_, rfl, _, rfl, a, He.ga K "BadText", rfl, T.ox_BadText, T.na_BadText_word, .inr ⟨dx, _, upd_same, by rw [upd_ne hda]; exact upd_same, (by show 1 ≤ 900; decide), k dx hdx hda⟩⟩
end
end K01
namespace K01
open PySem PySem.Spec PyProof.Rows L2 EM
abbrev als (K : PySem.W.Frag) : List Addr := [He.ga K "BadRatio", He.ga K "BadMark", He.ga K "NoEdge", He.ga K "BadReading", He.ga K "NotRising", He.ga K "NoStretch", He.ga K "BadView", He.ga K "BadTerms", He.ga K "BadWeights", He.ga K "BadName", He.ga K "NoName", He.ga K "TooMany", He.ga K "BadError", He.ga K "BadCount", He.ga K "Alike", He.ga K "TooLarge", He.ga K "BadText", He.ga K "NoDivisor", He.ga K "Unlike", He.ga K "NoTerms", He.ga K "Empty", He.ga K "Uneven", He.ga K "EdgeError"]
abbrev rws (K : PySem.W.Frag) : List Addr := [He.ga K "BadRatio", He.ga K "BadMark", He.ga K "NoEdge", He.ga K "BadReading", He.ga K "NotRising", He.ga K "NoStretch", He.ga K "BadView", He.ga K "BadTerms", He.ga K "BadWeights", He.ga K "BadName", He.ga K "NoName", He.ga K "TooMany", He.ga K "BadError", He.ga K "BadCount", He.ga K "Alike", He.ga K "TooLarge", He.ga K "BadText", He.ga K "NoDivisor", He.ga K "Unlike", He.ga K "NoTerms", He.ga K "Empty", He.ga K "Uneven"]
/-- an error of the i-th class is kept at a -/
inductive ErrQ (K : PySem.W.Frag) (p : Addr) (H : Hp) (a : Addr) (i : Nat) : Prop
  | fld {C d : Addr} {fs : List (Str × V)} (hi : (als K)[i]? = some C) (h : ErrP p H a C d fs) : ErrQ K p H a i
  | own {C : Addr} (hi : (als K)[i]? = some C) (h : At p H a (exK a (.ref C) none)) : ErrQ K p H a i
theorem ErrQ.ext {K : PySem.W.Frag} {p a : Addr} {i : Nat} {H H' : Hp} (h : ErrQ K p H a i) (x : Ext p H H') : ErrQ K p H' a i := by
  cases h with
  | fld hi h => exact .fld hi (h.ext x)
  | own hi h => exact .own hi (h.ext x)
theorem ErrQ.mu {K : PySem.W.Frag} {p a c : Addr} {i : Nat} {H H' : Hp} {xs ys : List V} (h : ErrQ K p H a i) (g : At p H c (.lst xs)) (m : Mu c H H' (.lst ys)) : ErrQ K p H' a i := by
  cases h with
  | fld hi h => exact .fld hi (m.err h g)
  | own hi h => exact .own hi (m.at_k h g exK_nlst)
/-- isinstance of any kept error -/
structure IsE (K : PySem.W.Frag) (vs : List V) (H : Hp) (Q : VK) : Prop where
  h : ∃ p a i c, vs = [.ref a, c] ∧ ErrQ K p H a i ∧ ∀ C, (als K)[i]? = some C → ExcK K C ∧ ((∃ cv b, ClsV c cv ∧ PySem.W.kitOne K (.ref C) cv = some b ∧ Q (.bl b) H) ∨ (∃ tp cs us b, c = .ref tp ∧ H tp = some (.tup cs) ∧ Paired ClsV cs us ∧ PySem.W.kitAny K (.ref C) us = some b ∧ Q (.bl b) H))
theorem call_isE {X : Cx} : CallR X (.builtin "isinstance") (IsE X.K) := by
  refine callR_of (call_two EM.call_isX EM.call_isY) ?_
  rintro vs H Q ⟨⟨p, a, i, c, e, he, k⟩⟩
  cases he with
  | fld hi h =>
    obtain ⟨h1, h2⟩ := k _ hi
    exact .inl ⟨p, a, _, _, _, c, e, h, h1, h2⟩
  | own hi h =>
    obtain ⟨h1, h2⟩ := k _ hi
    exact .inr ⟨⟨p, a, _, c, e, h, h1, h2⟩⟩
theorem isE_row {K : PySem.W.Frag} {mg : Str → Option Value} (T : Tx K mg) {p a : Addr} {i : Nat} (j : Nat) {D : Addr} {H : Hp} {Q : VK} (h : ErrQ K p H a i) (hj : (rws K)[j]? = some D) (q : Q (.bl (decide (i = j))) H) : IsE K [.ref a, .ref D] H Q :=
  ⟨p, a, i, _, rfl, h, fun C hC => ⟨excs_at T.xs_all (List.mem_of_getElem? hC), .inl ⟨_, _, .own _, kitRows_at T.kr_rows hC hj, q⟩⟩⟩
theorem isE_top {K : PySem.W.Frag} {mg : Str → Option Value} (T : Tx K mg) {p a : Addr} {i : Nat} {H : Hp} {Q : VK} (h : ErrQ K p H a i) (q : Q (.bl true) H) : IsE K [.ref a, .ref (He.ga K "EdgeError")] H Q :=
  ⟨p, a, i, _, rfl, h, fun C hC => ⟨excs_at T.xs_all (List.mem_of_getElem? hC), .inl ⟨_, _, .own _, kitOne_at T.ko_EE (List.mem_of_getElem? hC), q⟩⟩⟩
theorem isE_val {K : PySem.W.Frag} {mg : Str → Option Value} (T : Tx K mg) {p a : Addr} {i : Nat} {H : Hp} {Q : VK} (h : ErrQ K p H a i) (q : Q (.bl true) H) : IsE K [.ref a, .ty "ValueError"] H Q :=
  ⟨p, a, i, _, rfl, h, fun C hC => ⟨excs_at T.xs_all (List.mem_of_getElem? hC), .inl ⟨_, _, .ty _, kitOne_at T.ko_VE (List.mem_of_getElem? hC), q⟩⟩⟩
theorem clsV_tys : ∀ ns : List String, Paired ClsV (ns.map V.ty) (ns.map Value.type)
  | [] => .nil
  | c :: r => .cons (.ty c) (clsV_tys r)
theorem isE_no0 {K : PySem.W.Frag} {mg : Str → Option Value} (T : Tx K mg) {p a t : Addr} {i : Nat} {H : Hp} {Q : VK} (h : ErrQ K p H a i) (ht : At p H t (.tup ((["KeyError", "IndexError", "LookupError", "ArithmeticError", "OverflowError"] : List String).map V.ty))) (q : Q (.bl false) H) : IsE K [.ref a, .ref t] H Q :=
  ⟨p, a, i, _, rfl, h, fun C hC => ⟨excs_at T.xs_all (List.mem_of_getElem? hC), .inr ⟨t, _, _, _, rfl, ht.at_, clsV_tys _, kitNone_at T.kn_0 (List.mem_of_getElem? hC), q⟩⟩⟩
theorem isE_no1 {K : PySem.W.Frag} {mg : Str → Option Value} (T : Tx K mg) {p a t : Addr} {i : Nat} {H : Hp} {Q : VK} (h : ErrQ K p H a i) (ht : At p H t (.tup ((["TypeError", "RuntimeError", "AttributeError"] : List String).map V.ty))) (q : Q (.bl false) H) : IsE K [.ref a, .ref t] H Q :=
  ⟨p, a, i, _, rfl, h, fun C hC => ⟨excs_at T.xs_all (List.mem_of_getElem? hC), .inr ⟨t, _, _, _, rfl, ht.at_, clsV_tys _, kitNone_at T.kn_1 (List.mem_of_getElem? hC), q⟩⟩⟩
/-- a drawn thing, and how it is told -/
inductive ThP (K : PySem.W.Frag) (p : Addr) (H : Hp) : V → Str → Prop
  | dat {v : V} {d : PyData} (h : ∀ H', Ext p H H' → Dp K H' v d) (g : Fd 4000 64 d) : ThP K p H v d.shown
  | rat {a : Addr} {t b : Int} (h : RatP K p H a t b) (bt : Bt 200 t) (bb : Bt 200 b) : ThP K p H (.ref a) (ratText t b)
  | d0 {a : Addr} (h : At p H a (.dK [])) : ThP K p H (.ref a) (dictText [])
  | d1 {a : Addr} {n : Int} (h : At p H a (.dK [(.inr "a", .int n)])) (b : Bt 200 n) : ThP K p H (.ref a) (dictText [kText (.inr "a") ++ ": " ++ toString n])
theorem ThP.ext {K : PySem.W.Frag} {p : Addr} {H H' : Hp} {v : V} {t : Str} (h : ThP K p H v t) (x : Ext p H H') : ThP K p H' v t := by
  cases h with
  | dat h g => exact .dat (fun H2 y => h H2 (x.trans y)) g
  | rat h bt bb => exact .rat (h.ext x) bt bb
  | d0 h => exact .d0 (h.ext x)
  | d1 h b => exact .d1 (h.ext x) b
theorem tx_len2 {i : Int} (h : Bt 200 i) : (tx i).length ≤ 1921 := int_text_len_1921 (Nat.lt_trans (h.log (by decide)) (by decide))
theorem ThP.len {K : PySem.W.Frag} {p : Addr} {H : Hp} {v : V} {t : Str} (h : ThP K p H v t) : t.length ≤ 5000 := by
  cases h with
  | dat h g => exact Nat.le_trans g.len (by decide)
  | @rat a t b h bt bb =>
    have l1 := tx_len2 bt
    have l2 := tx_len2 bb
    have r1 : ("Ratio(" : Str).length = 6 := by decide +kernel
    have r2 : (", " : Str).length = 2 := by decide +kernel
    have r3 : (")" : Str).length = 1 := by decide +kernel
    unfold ratText
    simp only [Str.length_append, r1, r2, r3]
    omega
  | d0 h => have : (dictText []).length = 2 := by decide +kernel
            omega
  | @d1 a n h b =>
    have l1 : (Str.ofString (toString n)).length ≤ 1921 := tx_len2 b
    have r1 : (kText (.inr "a") ++ ": " : Str).length = 5 := by decide +kernel
    have e : (dictText [kText (.inr "a") ++ ": " ++ toString n]).length = 2 + (5 + (Str.ofString (toString n)).length) := by
      unfold dictText
      have j : Str.join ", " [kText (.inr "a") ++ ": " ++ toString n] = kText (.inr "a") ++ ": " ++ toString n := rfl
      have b1 : ("{" : Str).length = 1 := by decide +kernel
      have b2 : ("}" : Str).length = 1 := by decide +kernel
      rw [j]
      simp only [Str.length_append, b1, b2, r1]
      omega
    omega
theorem kok_a : KOk (.inr "a") := kok_str (by decide +kernel)
theorem ri_th {K : PySem.W.Frag} {mg : Str → Option Value} (T : Tx K mg) {X : Cx} (hG : X.A.guards = some []) (hr : Room 5 X.A) {p a : Addr} {H : Hp} {v : V} {t : Str} (h : ThP K p H v t) (eK : X.K = K := by rfl) (eM : X.mg = mg := by rfl) : RI X a H v t := by
  subst eK eM
  have hu : X.A.units + 70 < cLine := by have := hr.un; omega
  cases h with
  | dat h g => exact ri_data hG hu (h H Ext.refl) (fun sm => h _ (Ext.same sm)) g.sh (Nat.le_trans g.len (by decide)) g.dep
  | @rat b t m h bt bb =>
    obtain ⟨⟨dx, hb⟩, _⟩ := id h
    exact ri_own (E0 := E0) T.m_Ratio_repr.at_ T.m_Ratio_repr.fn (ok_Ratio_repr (P := X.prog) (w := X.w) (base := X.base) T) (hr.mono (by decide)) passL hb fun H' sm => ⟨b, t, m, rfl, (h.ext (Ext.same sm)).rat, bt.mono (by decide), bb.mono (by decide), rfl, rfl⟩
  | d0 h => exact ri_dict0 hG hu h.at_
  | d1 h b => exact ri_dict1 hG hu kok_a (Nat.lt_trans (b.log (by decide)) (by decide)) h.at_
/-- things in a list -/
def ThsP (K : PySem.W.Frag) (p : Addr) (H : Hp) (zs : List V) (ts : List Str) : Prop := ts.length = zs.length ∧ ∀ (i : Nat) (v : V), zs[i]? = some v → ∃ t, ts[i]? = some t ∧ ThP K p H v t
theorem ThsP.ext {K : PySem.W.Frag} {p : Addr} {H H' : Hp} {zs : List V} {ts : List Str} (h : ThsP K p H zs ts) (x : Ext p H H') : ThsP K p H' zs ts := ⟨h.1, fun i v e => by
  obtain ⟨t, e1, e2⟩ := h.2 i v e
  exact ⟨t, e1, e2.ext x⟩⟩
theorem ThsP.nil {K : PySem.W.Frag} {p : Addr} {H : Hp} : ThsP K p H [] [] := ⟨rfl, fun i v e => by simp at e⟩
theorem ThsP.cons {K : PySem.W.Frag} {p : Addr} {H : Hp} {v : V} {t : Str} {zs : List V} {ts : List Str} (h : ThP K p H v t) (hs : ThsP K p H zs ts) : ThsP K p H (v :: zs) (t :: ts) := ⟨by rw [List.length_cons, List.length_cons, hs.1], fun i u e => by
  match i, e with
  | 0, e => cases e; exact ⟨t, rfl, h⟩
  | i + 1, e => exact hs.2 i u e⟩
theorem listText_le : ∀ ts : List Str, (∀ t ∈ ts, t.length ≤ 5000) → (listText ts).length ≤ 5002 * ts.length + 2 := fun ts h => by
  show (textFrom 0 "[" ts ++ "]").length ≤ _
  rw [Str.length_append]
  have b1 : ("[" : Str).length = 1 := by decide +kernel
  have b2 : ("]" : Str).length = 1 := by decide +kernel
  have c : (", " : Str).length = 2 := by decide +kernel
  have d : ("" : Str).length = 0 := by decide +kernel
  have g : ∀ (ts : List Str) (k : Nat) (acc : Str), (∀ t ∈ ts, t.length ≤ 5000) → (textFrom k acc ts).length ≤ acc.length + 5002 * ts.length := by
    intro ts
    induction ts with
    | nil => intro k acc _; simp [textFrom]
    | cons t r ih =>
      intro k acc h
      have h1 := ih (k + 1) (acc ++ (if k > 0 then ", " else "" : String) ++ t) fun t ht => h t (.tail _ ht)
      have h2 := h t (.head _)
      have h3 : (Str.ofString (if k > 0 then ", " else "" : String)).length ≤ 2 := by split <;> decide +kernel
      rw [Str.length_append, Str.length_append] at h1
      rw [List.length_cons]
      show (textFrom (k + 1) (acc ++ (if k > 0 then ", " else "" : String) ++ t) r).length ≤ _
      omega
  have := g ts 0 "[" h
  omega
/-- repr of a list of things -/
structure RpL (K : PySem.W.Frag) (vs : List V) (H : Hp) (Q : VK) : Prop where
  h : ∃ p a zs ts, vs = [.ref a] ∧ At p H a (.lst zs) ∧ ThsP K p H zs ts ∧ zs.length ≤ 4 ∧ ∀ H', Same H H' → Q (.str (listText ts)) H'
theorem rpl_bs {K : PySem.W.Frag} {T : List (Addr × Str)} {p l a : Addr} {n : Nat} {H : Hp} {zs : List V} {ts : List Str} {Q : VK} (B : Bs T p l n H) (h : At p H a (.lst zs)) (ht : ThsP K p H zs ts) (hl : zs.length ≤ 4) (k : ∀ H', Ext p H H' → Bs T p l n H' → Q (.str (listText ts)) H') : RpL K [.ref a] H Q :=
  ⟨⟨p, a, zs, ts, rfl, h, ht, hl, fun H' s => k H' (Ext.same s) (B.same s)⟩⟩
theorem call_rpl {K : PySem.W.Frag} {mg : Str → Option Value} (T : Tx K mg) {X : Cx} (hG : X.A.guards = some []) (hr : Room 5 X.A) (eK : X.K = K := by rfl) (eM : X.mg = mg := by rfl) : CallR X (.builtin "repr") (RpL K) := by
  subst eK eM
  refine callR_of (call_two (call_reprD hG (by have := hr.un; omega)) (call_reprL hG (hr.mono (by decide)))) ?_
  rintro vs H Q ⟨⟨p, a, zs, ts, rfl, h, ht, hl, k⟩⟩
  cases zs with
  | nil =>
    have e : ts = [] := List.length_eq_zero_iff.mp ht.1
    subst e
    refine .inl ⟨_, .list [], rfl, dp_lst h.at_ .nil, rfl, ?_, by decide, ?_⟩
    · show (Str.ofString "[]").length ≤ sizeLine
      decide +kernel
    · have e : (PyData.list []).shown = listText [] := by decide +kernel
      rw [e]
      exact k H (fun _ _ e => e)
  | cons x ys =>
    refine .inr ⟨a, ts, rfl, ⟨x, ys, h.at_, ht.1, fun i v e => ?_, ?_⟩, k⟩
    · obtain ⟨t, e1, e2⟩ := ht.2 i v e
      exact ⟨t, e1, ri_th T hG hr e2⟩
    · have h1 := listText_le ts fun t hm => by
        obtain ⟨i, hi⟩ := List.mem_iff_getElem?.mp hm
        have hlt := (List.getElem?_eq_some_iff.mp hi).1
        rw [ht.1] at hlt
        obtain ⟨t', e1, e2⟩ := ht.2 i _ (List.getElem?_eq_getElem hlt)
        rw [hi] at e1
        cases e1
        exact e2.len
      have h2 := ht.1
      have h3 : 30000 ≤ sizeLine := by decide
      omega
/-- an error made as a value -/
structure XvS (K : PySem.W.Frag) (C : Addr) (fs : List (Str × V)) (H : Hp) (Q : VK) : Prop where
  h : ∀ a d H', Same H H' → H d = none → H a = none → H' d = some (.xd fs) → H' a = some (exK a (.ref C) (some d)) → Q (.ref a) H'
theorem XvS.bs {K : PySem.W.Frag} {T : List (Addr × Str)} {p l C : Addr} {n : Nat} {fs : List (Str × V)} {H : Hp} {Q : VK} (B : Bs T p l n H) (k : ∀ a d H', Ext p H H' → Bs T p l n H' → ErrP p H' a C d fs → H a = none → Q (.ref a) H') : XvS K C fs H Q :=
  ⟨fun a d H' s hd ha h1 h2 => k a d H' (Ext.same s) (B.same s) ⟨⟨h2, B.ne ha, exK_ntbl⟩, ⟨h1, B.ne hd, fun _ z => nomatch z⟩⟩ ha⟩
def tX1 (K : PySem.W.Frag) (C : Addr) (f : Str) (te : TE) : TE := fun σ H Q => te σ H fun v H1 => XvS K C [(f, v)] H1 Q
def tX2 (K : PySem.W.Frag) (C : Addr) (f g : Str) (t1 t2 : TE) : TE := fun σ H Q => t1 σ H fun v H1 => t2 σ H1 fun u H2 => XvS K C [(g, u), (f, v)] H2 Q
structure Xv0 (C : Addr) (H : Hp) (Q : VK) : Prop where
  h : ∀ a, H a = none → Q (.ref a) (upd H a (exK a (.ref C) none))
theorem Xv0.bs {T : List (Addr × Str)} {p l C : Addr} {n : Nat} {H : Hp} {Q : VK} (B : Bs T p l n H) (k : ∀ a H', Ext p H H' → Bs T p l n H' → At p H' a (exK a (.ref C) none) → H a = none → Q (.ref a) H') : Xv0 C H Q :=
  ⟨fun a ha => by
    have N := B.keepX (cls := .ref C) (d := none) ha
    exact k a _ (Ext.same N.same) (B.same N.same) ⟨N.at_, B.ne ha, exK_ntbl⟩ ha⟩
def tX0 (C : Addr) : TE := fun _ H Q => Xv0 C H Q
section
variable {K : PySem.W.Frag} {mg : Str → Option Value} {X : Cx} {x : Str} {C fI : Addr} {e e2 : Expr} {te te2 : TE} {p pos : Pos} {f g : Str}
theorem pk_mc {X : Cx} {kws : List Keyword} {ta : TA} (h : PK X kws ta) : PK X kws (mcA ta) := by
  refine ⟨fun pos pins s σ H Q I hq => ?_⟩
  obtain ⟨R, hR, k⟩ := hq
  exact thn (h.run pos pins s σ H R I hR) fun us s1 ⟨vs, H1, I1, r1, q1⟩ => ⟨vs, H1, I1, r1, k _ _ q1⟩
theorem pe_v1 {CX : CXT} {k : Nat} {fd : FuncData} {ps : List Str} (T : OexC X.K C) (iC : PySem.W.findIn X.K (.ref C) "__init__" = some (some (.ref fI)) ∧ PySem.W.typeIn X.K (.ref fI) = some (.type "function")) (F1 : FnOk X.prog X.w X.K X.mg X.base CX k fI fd ps (spX1 C f)) (hr : Room (k + 1) X.A) (hb : Binds X.K fd ps [])
    (hx : Passes CX X (fun _ _ _ => False)) (hm : X.mg x = some (.ref C)) (he : PE X e te) (hg : Gl X x := by rfl)
    (hdb : (x == ("__debug__" : Str)) = false := by decide) (hst : starEach [e] X.env = (false, eval e X.env) :: starEach [] X.env := by rfl) (hpl : (backTo pos (starEach [] X.env)).any (·.1) = false := by rfl) :
    PE X (.Call (.Name x p) [e] [] pos) (tX1 X.K C f te) :=
  (pe_x1 T iC F1 hr hb hx hm (pa_cons he pa_nil hst) hg hdb hst hpl).of fun σ H Q q =>
    ⟨fun xs H1 => match xs with | [v] => XvS X.K C [(f, v)] H1 Q | _ => False, q, fun xs H1 z => by
      match xs, z with
      | [v], z => exact ⟨rfl, z.h⟩⟩
theorem pe_v1k {CX : CXT} {k : Nat} {fd : FuncData} {ps : List Str} {g2 : List Value → List Value → List Value} {ap : Pos} (T : OexC X.K C) (iC : PySem.W.findIn X.K (.ref C) "__init__" = some (some (.ref fI)) ∧ PySem.W.typeIn X.K (.ref fI) = some (.type "function")) (F1 : FnOk X.prog X.w X.K X.mg X.base CX k fI fd ps (spX1 C f)) (hr : Room (k + 1) X.A) (hb : KBn X.K fd ps 1 [f] g2 (fun vs zs => vs ++ zs))
    (hx : Passes CX X (fun _ _ _ => False)) (hm : X.mg x = some (.ref C)) {kws : List Keyword} (hkw : PK X kws (tCons te tNil)) (hg : Gl X x := by rfl)
    (hall : (backToKw pos (keywordEach kws X.env)).all (·.1.isSome) = true := by rfl) (hks : (backToKw pos (keywordEach kws X.env)).filterMap (·.1) = [f] := by rfl) (hdb : (x == ("__debug__" : Str)) = false := by decide)
    (hpl : ((backTo pos (starEach [] X.env)).any (·.1) || (backToKw pos (keywordEach kws X.env)).any (·.1.isNone)) = false := by rfl) :
    PE X (.Call (.Name x p) [] kws pos) (tX1 X.K C f te) :=
  (pe_x1k T iC F1 hr hb hx hm (pk_mc hkw) hg hall hks hdb hpl).of fun σ H Q q =>
    ⟨fun xs H1 => match xs with | [v] => XvS X.K C [(f, v)] H1 Q | _ => False, q, fun xs H1 z => by
      match xs, z with
      | [v], z => exact ⟨rfl, z.h⟩⟩
theorem pe_v2 {CX : CXT} {k : Nat} {fd : FuncData} {ps : List Str} (T : OexC X.K C) (iC : PySem.W.findIn X.K (.ref C) "__init__" = some (some (.ref fI)) ∧ PySem.W.typeIn X.K (.ref fI) = some (.type "function")) (F1 : FnOk X.prog X.w X.K X.mg X.base CX k fI fd ps (spX2 C f g)) (hr : Room (k + 1) X.A) (hb : Binds X.K fd ps [])
    (hx : Passes CX X (fun _ _ _ => False)) (hm : X.mg x = some (.ref C)) (he : PE X e te) (he2 : PE X e2 te2) (hg : Gl X x := by rfl)
    (hdb : (x == ("__debug__" : Str)) = false := by decide) (hst : starEach [e, e2] X.env = (false, eval e X.env) :: starEach [e2] X.env := by rfl) (hst2 : starEach [e2] X.env = (false, eval e2 X.env) :: starEach [] X.env := by rfl) (hpl : (backTo pos (starEach [e2] X.env)).any (·.1) = false := by rfl) :
    PE X (.Call (.Name x p) [e, e2] [] pos) (tX2 X.K C f g te te2) :=
  (pe_x2 T iC F1 hr hb hx hm (pa_cons he (pa_cons he2 pa_nil hst2) hst) hg hdb hst hpl).of fun σ H Q q =>
    ⟨fun xs H1 => match xs with | [v, u] => XvS X.K C [(g, u), (f, v)] H1 Q | _ => False, q, fun xs H1 z => by
      match xs, z with
      | [v, u], z => exact ⟨rfl, z.h⟩⟩
def tX2k (K : PySem.W.Frag) (C : Addr) (f g : Str) (t1 t2 : TE) : TE := fun σ H Q => t1 σ H fun u H1 => t2 σ H1 fun v H2 => XvS K C [(g, u), (f, v)] H2 Q
theorem pe_v2k {CX : CXT} {k : Nat} {fd : FuncData} {ps : List Str} {n1 n2 : Str} {gg : List Value → List Value → List Value} (T : OexC X.K C) (iC : PySem.W.findIn X.K (.ref C) "__init__" = some (some (.ref fI)) ∧ PySem.W.typeIn X.K (.ref fI) = some (.type "function")) (F1 : FnOk X.prog X.w X.K X.mg X.base CX k fI fd ps (spX2 C f g)) (hr : Room (k + 1) X.A)
    (hb : KBn X.K fd ps 1 [n1, n2] gg (fun vs zs => vs ++ zs.reverse)) (hx : Passes CX X (fun _ _ _ => False)) (hm : X.mg x = some (.ref C)) {kws : List Keyword} (hkw : PK X kws (tCons te (tCons te2 tNil))) (hg : Gl X x := by rfl)
    (hall : (backToKw pos (keywordEach kws X.env)).all (·.1.isSome) = true := by rfl) (hks : (backToKw pos (keywordEach kws X.env)).filterMap (·.1) = [n1, n2] := by rfl) (hdb : (x == ("__debug__" : Str)) = false := by decide)
    (hpl : ((backTo pos (starEach [] X.env)).any (·.1) || (backToKw pos (keywordEach kws X.env)).any (·.1.isNone)) = false := by rfl) :
    PE X (.Call (.Name x p) [] kws pos) (tX2k X.K C f g te te2) :=
  (pe_x2k (sw := false) T iC F1 hr hb hx hm (pk_mc hkw) hg hall hks hdb hpl).of fun σ H Q q =>
    ⟨fun xs H1 => match xs with | [u, v] => XvS X.K C [(g, u), (f, v)] H1 Q | _ => False, q, fun xs H1 z => by
      match xs, z with
      | [v, u], z => exact ⟨rfl, z.h⟩⟩
end
theorem pe_BadRatio {K : PySem.W.Frag} {mg : Str → Option Value} (T : Tx K mg) {X : Cx} {e : Expr} {te : TE} {p pos : Pos} (hr : Room 2 X.A) (he : PE X e te) (hg : Gl X "BadRatio" := by rfl) (hst : starEach [e] X.env = (false, eval e X.env) :: starEach [] X.env := by rfl) (hpl : (backTo pos (starEach [] X.env)).any (·.1) = false := by rfl) (eK : X.K = K := by rfl) (eM : X.mg = mg := by rfl) : PE X (.Call (.Name "BadRatio" p) [e] [] pos) (tX1 K (He.ga K "BadRatio") "part" te) := by
  subst eK eM
  obtain ⟨fd, F, b, _⟩ := mk_BadRatio (P := X.prog) (w := X.w) (base := X.base) T
  exact pe_v1 T.ox_BadRatio T.oi_BadRatio F hr b passL T.g_BadRatio he hg (by decide) hst hpl
theorem pe_BadRatiok {K : PySem.W.Frag} {mg : Str → Option Value} (T : Tx K mg) {X : Cx} {kws : List Keyword} {te : TE} {p pos : Pos} (hr : Room 2 X.A) (hkw : PK X kws (tCons te tNil)) (hg : Gl X "BadRatio" := by rfl)
    (hall : (backToKw pos (keywordEach kws X.env)).all (·.1.isSome) = true := by rfl) (hks : (backToKw pos (keywordEach kws X.env)).filterMap (·.1) = (["part"] : List Str) := by rfl)
    (hpl : ((backTo pos (starEach [] X.env)).any (·.1) || (backToKw pos (keywordEach kws X.env)).any (·.1.isNone)) = false := by rfl) (eK : X.K = K := by rfl) (eM : X.mg = mg := by rfl) : PE X (.Call (.Name "BadRatio" p) [] kws pos) (tX1 K (He.ga K "BadRatio") "part" te) := by
  subst eK eM
  obtain ⟨fd, F, _, b⟩ := mk_BadRatio (P := X.prog) (w := X.w) (base := X.base) T
  exact pe_v1k (ap := pos) T.ox_BadRatio T.oi_BadRatio F hr b passL T.g_BadRatio hkw hg hall hks (by decide) hpl
theorem pe_BadMark {K : PySem.W.Frag} {mg : Str → Option Value} (T : Tx K mg) {X : Cx} {e : Expr} {te : TE} {p pos : Pos} (hr : Room 2 X.A) (he : PE X e te) (hg : Gl X "BadMark" := by rfl) (hst : starEach [e] X.env = (false, eval e X.env) :: starEach [] X.env := by rfl) (hpl : (backTo pos (starEach [] X.env)).any (·.1) = false := by rfl) (eK : X.K = K := by rfl) (eM : X.mg = mg := by rfl) : PE X (.Call (.Name "BadMark" p) [e] [] pos) (tX1 K (He.ga K "BadMark") "at" te) := by
  subst eK eM
  obtain ⟨fd, F, b, _⟩ := mk_BadMark (P := X.prog) (w := X.w) (base := X.base) T
  exact pe_v1 T.ox_BadMark T.oi_BadMark F hr b passL T.g_BadMark he hg (by decide) hst hpl
theorem pe_BadMarkk {K : PySem.W.Frag} {mg : Str → Option Value} (T : Tx K mg) {X : Cx} {kws : List Keyword} {te : TE} {p pos : Pos} (hr : Room 2 X.A) (hkw : PK X kws (tCons te tNil)) (hg : Gl X "BadMark" := by rfl)
    (hall : (backToKw pos (keywordEach kws X.env)).all (·.1.isSome) = true := by rfl) (hks : (backToKw pos (keywordEach kws X.env)).filterMap (·.1) = (["at"] : List Str) := by rfl)
    (hpl : ((backTo pos (starEach [] X.env)).any (·.1) || (backToKw pos (keywordEach kws X.env)).any (·.1.isNone)) = false := by rfl) (eK : X.K = K := by rfl) (eM : X.mg = mg := by rfl) : PE X (.Call (.Name "BadMark" p) [] kws pos) (tX1 K (He.ga K "BadMark") "at" te) := by
  subst eK eM
  obtain ⟨fd, F, _, b⟩ := mk_BadMark (P := X.prog) (w := X.w) (base := X.base) T
  exact pe_v1k (ap := pos) T.ox_BadMark T.oi_BadMark F hr b passL T.g_BadMark hkw hg hall hks (by decide) hpl
theorem pe_NoEdge {K : PySem.W.Frag} {mg : Str → Option Value} (T : Tx K mg) {X : Cx} {e : Expr} {te : TE} {p pos : Pos} (hr : Room 2 X.A) (he : PE X e te) (hg : Gl X "NoEdge" := by rfl) (hst : starEach [e] X.env = (false, eval e X.env) :: starEach [] X.env := by rfl) (hpl : (backTo pos (starEach [] X.env)).any (·.1) = false := by rfl) (eK : X.K = K := by rfl) (eM : X.mg = mg := by rfl) : PE X (.Call (.Name "NoEdge" p) [e] [] pos) (tX1 K (He.ga K "NoEdge") "value" te) := by
  subst eK eM
  obtain ⟨fd, F, b, _⟩ := mk_NoEdge (P := X.prog) (w := X.w) (base := X.base) T
  exact pe_v1 T.ox_NoEdge T.oi_NoEdge F hr b passL T.g_NoEdge he hg (by decide) hst hpl
theorem pe_NoEdgek {K : PySem.W.Frag} {mg : Str → Option Value} (T : Tx K mg) {X : Cx} {kws : List Keyword} {te : TE} {p pos : Pos} (hr : Room 2 X.A) (hkw : PK X kws (tCons te tNil)) (hg : Gl X "NoEdge" := by rfl)
    (hall : (backToKw pos (keywordEach kws X.env)).all (·.1.isSome) = true := by rfl) (hks : (backToKw pos (keywordEach kws X.env)).filterMap (·.1) = (["value"] : List Str) := by rfl)
    (hpl : ((backTo pos (starEach [] X.env)).any (·.1) || (backToKw pos (keywordEach kws X.env)).any (·.1.isNone)) = false := by rfl) (eK : X.K = K := by rfl) (eM : X.mg = mg := by rfl) : PE X (.Call (.Name "NoEdge" p) [] kws pos) (tX1 K (He.ga K "NoEdge") "value" te) := by
  subst eK eM
  obtain ⟨fd, F, _, b⟩ := mk_NoEdge (P := X.prog) (w := X.w) (base := X.base) T
  exact pe_v1k (ap := pos) T.ox_NoEdge T.oi_NoEdge F hr b passL T.g_NoEdge hkw hg hall hks (by decide) hpl
theorem pe_BadReading {K : PySem.W.Frag} {mg : Str → Option Value} (T : Tx K mg) {X : Cx} {e : Expr} {te : TE} {p pos : Pos} (hr : Room 2 X.A) (he : PE X e te) (hg : Gl X "BadReading" := by rfl) (hst : starEach [e] X.env = (false, eval e X.env) :: starEach [] X.env := by rfl) (hpl : (backTo pos (starEach [] X.env)).any (·.1) = false := by rfl) (eK : X.K = K := by rfl) (eM : X.mg = mg := by rfl) : PE X (.Call (.Name "BadReading" p) [e] [] pos) (tX1 K (He.ga K "BadReading") "at" te) := by
  subst eK eM
  obtain ⟨fd, F, b, _⟩ := mk_BadReading (P := X.prog) (w := X.w) (base := X.base) T
  exact pe_v1 T.ox_BadReading T.oi_BadReading F hr b passL T.g_BadReading he hg (by decide) hst hpl
theorem pe_BadReadingk {K : PySem.W.Frag} {mg : Str → Option Value} (T : Tx K mg) {X : Cx} {kws : List Keyword} {te : TE} {p pos : Pos} (hr : Room 2 X.A) (hkw : PK X kws (tCons te tNil)) (hg : Gl X "BadReading" := by rfl)
    (hall : (backToKw pos (keywordEach kws X.env)).all (·.1.isSome) = true := by rfl) (hks : (backToKw pos (keywordEach kws X.env)).filterMap (·.1) = (["at"] : List Str) := by rfl)
    (hpl : ((backTo pos (starEach [] X.env)).any (·.1) || (backToKw pos (keywordEach kws X.env)).any (·.1.isNone)) = false := by rfl) (eK : X.K = K := by rfl) (eM : X.mg = mg := by rfl) : PE X (.Call (.Name "BadReading" p) [] kws pos) (tX1 K (He.ga K "BadReading") "at" te) := by
  subst eK eM
  obtain ⟨fd, F, _, b⟩ := mk_BadReading (P := X.prog) (w := X.w) (base := X.base) T
  exact pe_v1k (ap := pos) T.ox_BadReading T.oi_BadReading F hr b passL T.g_BadReading hkw hg hall hks (by decide) hpl
theorem pe_NotRising {K : PySem.W.Frag} {mg : Str → Option Value} (T : Tx K mg) {X : Cx} {e : Expr} {te : TE} {p pos : Pos} (hr : Room 2 X.A) (he : PE X e te) (hg : Gl X "NotRising" := by rfl) (hst : starEach [e] X.env = (false, eval e X.env) :: starEach [] X.env := by rfl) (hpl : (backTo pos (starEach [] X.env)).any (·.1) = false := by rfl) (eK : X.K = K := by rfl) (eM : X.mg = mg := by rfl) : PE X (.Call (.Name "NotRising" p) [e] [] pos) (tX1 K (He.ga K "NotRising") "at" te) := by
  subst eK eM
  obtain ⟨fd, F, b, _⟩ := mk_NotRising (P := X.prog) (w := X.w) (base := X.base) T
  exact pe_v1 T.ox_NotRising T.oi_NotRising F hr b passL T.g_NotRising he hg (by decide) hst hpl
theorem pe_NotRisingk {K : PySem.W.Frag} {mg : Str → Option Value} (T : Tx K mg) {X : Cx} {kws : List Keyword} {te : TE} {p pos : Pos} (hr : Room 2 X.A) (hkw : PK X kws (tCons te tNil)) (hg : Gl X "NotRising" := by rfl)
    (hall : (backToKw pos (keywordEach kws X.env)).all (·.1.isSome) = true := by rfl) (hks : (backToKw pos (keywordEach kws X.env)).filterMap (·.1) = (["at"] : List Str) := by rfl)
    (hpl : ((backTo pos (starEach [] X.env)).any (·.1) || (backToKw pos (keywordEach kws X.env)).any (·.1.isNone)) = false := by rfl) (eK : X.K = K := by rfl) (eM : X.mg = mg := by rfl) : PE X (.Call (.Name "NotRising" p) [] kws pos) (tX1 K (He.ga K "NotRising") "at" te) := by
  subst eK eM
  obtain ⟨fd, F, _, b⟩ := mk_NotRising (P := X.prog) (w := X.w) (base := X.base) T
  exact pe_v1k (ap := pos) T.ox_NotRising T.oi_NotRising F hr b passL T.g_NotRising hkw hg hall hks (by decide) hpl
theorem pe_NoStretch {K : PySem.W.Frag} {mg : Str → Option Value} (T : Tx K mg) {X : Cx} {e : Expr} {te : TE} {p pos : Pos} (hr : Room 2 X.A) (he : PE X e te) (hg : Gl X "NoStretch" := by rfl) (hst : starEach [e] X.env = (false, eval e X.env) :: starEach [] X.env := by rfl) (hpl : (backTo pos (starEach [] X.env)).any (·.1) = false := by rfl) (eK : X.K = K := by rfl) (eM : X.mg = mg := by rfl) : PE X (.Call (.Name "NoStretch" p) [e] [] pos) (tX1 K (He.ga K "NoStretch") "value" te) := by
  subst eK eM
  obtain ⟨fd, F, b, _⟩ := mk_NoStretch (P := X.prog) (w := X.w) (base := X.base) T
  exact pe_v1 T.ox_NoStretch T.oi_NoStretch F hr b passL T.g_NoStretch he hg (by decide) hst hpl
theorem pe_NoStretchk {K : PySem.W.Frag} {mg : Str → Option Value} (T : Tx K mg) {X : Cx} {kws : List Keyword} {te : TE} {p pos : Pos} (hr : Room 2 X.A) (hkw : PK X kws (tCons te tNil)) (hg : Gl X "NoStretch" := by rfl)
    (hall : (backToKw pos (keywordEach kws X.env)).all (·.1.isSome) = true := by rfl) (hks : (backToKw pos (keywordEach kws X.env)).filterMap (·.1) = (["value"] : List Str) := by rfl)
    (hpl : ((backTo pos (starEach [] X.env)).any (·.1) || (backToKw pos (keywordEach kws X.env)).any (·.1.isNone)) = false := by rfl) (eK : X.K = K := by rfl) (eM : X.mg = mg := by rfl) : PE X (.Call (.Name "NoStretch" p) [] kws pos) (tX1 K (He.ga K "NoStretch") "value" te) := by
  subst eK eM
  obtain ⟨fd, F, _, b⟩ := mk_NoStretch (P := X.prog) (w := X.w) (base := X.base) T
  exact pe_v1k (ap := pos) T.ox_NoStretch T.oi_NoStretch F hr b passL T.g_NoStretch hkw hg hall hks (by decide) hpl
theorem pe_BadView {K : PySem.W.Frag} {mg : Str → Option Value} (T : Tx K mg) {X : Cx} {e : Expr} {te : TE} {p pos : Pos} (hr : Room 2 X.A) (he : PE X e te) (hg : Gl X "BadView" := by rfl) (hst : starEach [e] X.env = (false, eval e X.env) :: starEach [] X.env := by rfl) (hpl : (backTo pos (starEach [] X.env)).any (·.1) = false := by rfl) (eK : X.K = K := by rfl) (eM : X.mg = mg := by rfl) : PE X (.Call (.Name "BadView" p) [e] [] pos) (tX1 K (He.ga K "BadView") "part" te) := by
  subst eK eM
  obtain ⟨fd, F, b, _⟩ := mk_BadView (P := X.prog) (w := X.w) (base := X.base) T
  exact pe_v1 T.ox_BadView T.oi_BadView F hr b passL T.g_BadView he hg (by decide) hst hpl
theorem pe_BadViewk {K : PySem.W.Frag} {mg : Str → Option Value} (T : Tx K mg) {X : Cx} {kws : List Keyword} {te : TE} {p pos : Pos} (hr : Room 2 X.A) (hkw : PK X kws (tCons te tNil)) (hg : Gl X "BadView" := by rfl)
    (hall : (backToKw pos (keywordEach kws X.env)).all (·.1.isSome) = true := by rfl) (hks : (backToKw pos (keywordEach kws X.env)).filterMap (·.1) = (["part"] : List Str) := by rfl)
    (hpl : ((backTo pos (starEach [] X.env)).any (·.1) || (backToKw pos (keywordEach kws X.env)).any (·.1.isNone)) = false := by rfl) (eK : X.K = K := by rfl) (eM : X.mg = mg := by rfl) : PE X (.Call (.Name "BadView" p) [] kws pos) (tX1 K (He.ga K "BadView") "part" te) := by
  subst eK eM
  obtain ⟨fd, F, _, b⟩ := mk_BadView (P := X.prog) (w := X.w) (base := X.base) T
  exact pe_v1k (ap := pos) T.ox_BadView T.oi_BadView F hr b passL T.g_BadView hkw hg hall hks (by decide) hpl
theorem pe_BadTerms {K : PySem.W.Frag} {mg : Str → Option Value} (T : Tx K mg) {X : Cx} {e : Expr} {te : TE} {p pos : Pos} (hr : Room 2 X.A) (he : PE X e te) (hg : Gl X "BadTerms" := by rfl) (hst : starEach [e] X.env = (false, eval e X.env) :: starEach [] X.env := by rfl) (hpl : (backTo pos (starEach [] X.env)).any (·.1) = false := by rfl) (eK : X.K = K := by rfl) (eM : X.mg = mg := by rfl) : PE X (.Call (.Name "BadTerms" p) [e] [] pos) (tX1 K (He.ga K "BadTerms") "part" te) := by
  subst eK eM
  obtain ⟨fd, F, b, _⟩ := mk_BadTerms (P := X.prog) (w := X.w) (base := X.base) T
  exact pe_v1 T.ox_BadTerms T.oi_BadTerms F hr b passL T.g_BadTerms he hg (by decide) hst hpl
theorem pe_BadTermsk {K : PySem.W.Frag} {mg : Str → Option Value} (T : Tx K mg) {X : Cx} {kws : List Keyword} {te : TE} {p pos : Pos} (hr : Room 2 X.A) (hkw : PK X kws (tCons te tNil)) (hg : Gl X "BadTerms" := by rfl)
    (hall : (backToKw pos (keywordEach kws X.env)).all (·.1.isSome) = true := by rfl) (hks : (backToKw pos (keywordEach kws X.env)).filterMap (·.1) = (["part"] : List Str) := by rfl)
    (hpl : ((backTo pos (starEach [] X.env)).any (·.1) || (backToKw pos (keywordEach kws X.env)).any (·.1.isNone)) = false := by rfl) (eK : X.K = K := by rfl) (eM : X.mg = mg := by rfl) : PE X (.Call (.Name "BadTerms" p) [] kws pos) (tX1 K (He.ga K "BadTerms") "part" te) := by
  subst eK eM
  obtain ⟨fd, F, _, b⟩ := mk_BadTerms (P := X.prog) (w := X.w) (base := X.base) T
  exact pe_v1k (ap := pos) T.ox_BadTerms T.oi_BadTerms F hr b passL T.g_BadTerms hkw hg hall hks (by decide) hpl
theorem pe_BadWeights {K : PySem.W.Frag} {mg : Str → Option Value} (T : Tx K mg) {X : Cx} {e : Expr} {te : TE} {p pos : Pos} (hr : Room 2 X.A) (he : PE X e te) (hg : Gl X "BadWeights" := by rfl) (hst : starEach [e] X.env = (false, eval e X.env) :: starEach [] X.env := by rfl) (hpl : (backTo pos (starEach [] X.env)).any (·.1) = false := by rfl) (eK : X.K = K := by rfl) (eM : X.mg = mg := by rfl) : PE X (.Call (.Name "BadWeights" p) [e] [] pos) (tX1 K (He.ga K "BadWeights") "part" te) := by
  subst eK eM
  obtain ⟨fd, F, b, _⟩ := mk_BadWeights (P := X.prog) (w := X.w) (base := X.base) T
  exact pe_v1 T.ox_BadWeights T.oi_BadWeights F hr b passL T.g_BadWeights he hg (by decide) hst hpl
theorem pe_BadWeightsk {K : PySem.W.Frag} {mg : Str → Option Value} (T : Tx K mg) {X : Cx} {kws : List Keyword} {te : TE} {p pos : Pos} (hr : Room 2 X.A) (hkw : PK X kws (tCons te tNil)) (hg : Gl X "BadWeights" := by rfl)
    (hall : (backToKw pos (keywordEach kws X.env)).all (·.1.isSome) = true := by rfl) (hks : (backToKw pos (keywordEach kws X.env)).filterMap (·.1) = (["part"] : List Str) := by rfl)
    (hpl : ((backTo pos (starEach [] X.env)).any (·.1) || (backToKw pos (keywordEach kws X.env)).any (·.1.isNone)) = false := by rfl) (eK : X.K = K := by rfl) (eM : X.mg = mg := by rfl) : PE X (.Call (.Name "BadWeights" p) [] kws pos) (tX1 K (He.ga K "BadWeights") "part" te) := by
  subst eK eM
  obtain ⟨fd, F, _, b⟩ := mk_BadWeights (P := X.prog) (w := X.w) (base := X.base) T
  exact pe_v1k (ap := pos) T.ox_BadWeights T.oi_BadWeights F hr b passL T.g_BadWeights hkw hg hall hks (by decide) hpl
theorem pe_BadName {K : PySem.W.Frag} {mg : Str → Option Value} (T : Tx K mg) {X : Cx} {e : Expr} {te : TE} {p pos : Pos} (hr : Room 2 X.A) (he : PE X e te) (hg : Gl X "BadName" := by rfl) (hst : starEach [e] X.env = (false, eval e X.env) :: starEach [] X.env := by rfl) (hpl : (backTo pos (starEach [] X.env)).any (·.1) = false := by rfl) (eK : X.K = K := by rfl) (eM : X.mg = mg := by rfl) : PE X (.Call (.Name "BadName" p) [e] [] pos) (tX1 K (He.ga K "BadName") "name" te) := by
  subst eK eM
  obtain ⟨fd, F, b, _⟩ := mk_BadName (P := X.prog) (w := X.w) (base := X.base) T
  exact pe_v1 T.ox_BadName T.oi_BadName F hr b passL T.g_BadName he hg (by decide) hst hpl
theorem pe_BadNamek {K : PySem.W.Frag} {mg : Str → Option Value} (T : Tx K mg) {X : Cx} {kws : List Keyword} {te : TE} {p pos : Pos} (hr : Room 2 X.A) (hkw : PK X kws (tCons te tNil)) (hg : Gl X "BadName" := by rfl)
    (hall : (backToKw pos (keywordEach kws X.env)).all (·.1.isSome) = true := by rfl) (hks : (backToKw pos (keywordEach kws X.env)).filterMap (·.1) = (["name"] : List Str) := by rfl)
    (hpl : ((backTo pos (starEach [] X.env)).any (·.1) || (backToKw pos (keywordEach kws X.env)).any (·.1.isNone)) = false := by rfl) (eK : X.K = K := by rfl) (eM : X.mg = mg := by rfl) : PE X (.Call (.Name "BadName" p) [] kws pos) (tX1 K (He.ga K "BadName") "name" te) := by
  subst eK eM
  obtain ⟨fd, F, _, b⟩ := mk_BadName (P := X.prog) (w := X.w) (base := X.base) T
  exact pe_v1k (ap := pos) T.ox_BadName T.oi_BadName F hr b passL T.g_BadName hkw hg hall hks (by decide) hpl
theorem pe_NoName {K : PySem.W.Frag} {mg : Str → Option Value} (T : Tx K mg) {X : Cx} {e : Expr} {te : TE} {p pos : Pos} (hr : Room 2 X.A) (he : PE X e te) (hg : Gl X "NoName" := by rfl) (hst : starEach [e] X.env = (false, eval e X.env) :: starEach [] X.env := by rfl) (hpl : (backTo pos (starEach [] X.env)).any (·.1) = false := by rfl) (eK : X.K = K := by rfl) (eM : X.mg = mg := by rfl) : PE X (.Call (.Name "NoName" p) [e] [] pos) (tX1 K (He.ga K "NoName") "name" te) := by
  subst eK eM
  obtain ⟨fd, F, b, _⟩ := mk_NoName (P := X.prog) (w := X.w) (base := X.base) T
  exact pe_v1 T.ox_NoName T.oi_NoName F hr b passL T.g_NoName he hg (by decide) hst hpl
theorem pe_NoNamek {K : PySem.W.Frag} {mg : Str → Option Value} (T : Tx K mg) {X : Cx} {kws : List Keyword} {te : TE} {p pos : Pos} (hr : Room 2 X.A) (hkw : PK X kws (tCons te tNil)) (hg : Gl X "NoName" := by rfl)
    (hall : (backToKw pos (keywordEach kws X.env)).all (·.1.isSome) = true := by rfl) (hks : (backToKw pos (keywordEach kws X.env)).filterMap (·.1) = (["name"] : List Str) := by rfl)
    (hpl : ((backTo pos (starEach [] X.env)).any (·.1) || (backToKw pos (keywordEach kws X.env)).any (·.1.isNone)) = false := by rfl) (eK : X.K = K := by rfl) (eM : X.mg = mg := by rfl) : PE X (.Call (.Name "NoName" p) [] kws pos) (tX1 K (He.ga K "NoName") "name" te) := by
  subst eK eM
  obtain ⟨fd, F, _, b⟩ := mk_NoName (P := X.prog) (w := X.w) (base := X.base) T
  exact pe_v1k (ap := pos) T.ox_NoName T.oi_NoName F hr b passL T.g_NoName hkw hg hall hks (by decide) hpl
theorem pe_TooMany {K : PySem.W.Frag} {mg : Str → Option Value} (T : Tx K mg) {X : Cx} {e : Expr} {te : TE} {p pos : Pos} (hr : Room 2 X.A) (he : PE X e te) (hg : Gl X "TooMany" := by rfl) (hst : starEach [e] X.env = (false, eval e X.env) :: starEach [] X.env := by rfl) (hpl : (backTo pos (starEach [] X.env)).any (·.1) = false := by rfl) (eK : X.K = K := by rfl) (eM : X.mg = mg := by rfl) : PE X (.Call (.Name "TooMany" p) [e] [] pos) (tX1 K (He.ga K "TooMany") "most" te) := by
  subst eK eM
  obtain ⟨fd, F, b, _⟩ := mk_TooMany (P := X.prog) (w := X.w) (base := X.base) T
  exact pe_v1 T.ox_TooMany T.oi_TooMany F hr b passL T.g_TooMany he hg (by decide) hst hpl
theorem pe_TooManyk {K : PySem.W.Frag} {mg : Str → Option Value} (T : Tx K mg) {X : Cx} {kws : List Keyword} {te : TE} {p pos : Pos} (hr : Room 2 X.A) (hkw : PK X kws (tCons te tNil)) (hg : Gl X "TooMany" := by rfl)
    (hall : (backToKw pos (keywordEach kws X.env)).all (·.1.isSome) = true := by rfl) (hks : (backToKw pos (keywordEach kws X.env)).filterMap (·.1) = (["most"] : List Str) := by rfl)
    (hpl : ((backTo pos (starEach [] X.env)).any (·.1) || (backToKw pos (keywordEach kws X.env)).any (·.1.isNone)) = false := by rfl) (eK : X.K = K := by rfl) (eM : X.mg = mg := by rfl) : PE X (.Call (.Name "TooMany" p) [] kws pos) (tX1 K (He.ga K "TooMany") "most" te) := by
  subst eK eM
  obtain ⟨fd, F, _, b⟩ := mk_TooMany (P := X.prog) (w := X.w) (base := X.base) T
  exact pe_v1k (ap := pos) T.ox_TooMany T.oi_TooMany F hr b passL T.g_TooMany hkw hg hall hks (by decide) hpl
theorem pe_BadError {K : PySem.W.Frag} {mg : Str → Option Value} (T : Tx K mg) {X : Cx} {e : Expr} {te : TE} {p pos : Pos} (hr : Room 2 X.A) (he : PE X e te) (hg : Gl X "BadError" := by rfl) (hst : starEach [e] X.env = (false, eval e X.env) :: starEach [] X.env := by rfl) (hpl : (backTo pos (starEach [] X.env)).any (·.1) = false := by rfl) (eK : X.K = K := by rfl) (eM : X.mg = mg := by rfl) : PE X (.Call (.Name "BadError" p) [e] [] pos) (tX1 K (He.ga K "BadError") "value" te) := by
  subst eK eM
  obtain ⟨fd, F, b, _⟩ := mk_BadError (P := X.prog) (w := X.w) (base := X.base) T
  exact pe_v1 T.ox_BadError T.oi_BadError F hr b passL T.g_BadError he hg (by decide) hst hpl
theorem pe_BadErrork {K : PySem.W.Frag} {mg : Str → Option Value} (T : Tx K mg) {X : Cx} {kws : List Keyword} {te : TE} {p pos : Pos} (hr : Room 2 X.A) (hkw : PK X kws (tCons te tNil)) (hg : Gl X "BadError" := by rfl)
    (hall : (backToKw pos (keywordEach kws X.env)).all (·.1.isSome) = true := by rfl) (hks : (backToKw pos (keywordEach kws X.env)).filterMap (·.1) = (["value"] : List Str) := by rfl)
    (hpl : ((backTo pos (starEach [] X.env)).any (·.1) || (backToKw pos (keywordEach kws X.env)).any (·.1.isNone)) = false := by rfl) (eK : X.K = K := by rfl) (eM : X.mg = mg := by rfl) : PE X (.Call (.Name "BadError" p) [] kws pos) (tX1 K (He.ga K "BadError") "value" te) := by
  subst eK eM
  obtain ⟨fd, F, _, b⟩ := mk_BadError (P := X.prog) (w := X.w) (base := X.base) T
  exact pe_v1k (ap := pos) T.ox_BadError T.oi_BadError F hr b passL T.g_BadError hkw hg hall hks (by decide) hpl
theorem pe_BadCount {K : PySem.W.Frag} {mg : Str → Option Value} (T : Tx K mg) {X : Cx} {e : Expr} {te : TE} {p pos : Pos} (hr : Room 2 X.A) (he : PE X e te) (hg : Gl X "BadCount" := by rfl) (hst : starEach [e] X.env = (false, eval e X.env) :: starEach [] X.env := by rfl) (hpl : (backTo pos (starEach [] X.env)).any (·.1) = false := by rfl) (eK : X.K = K := by rfl) (eM : X.mg = mg := by rfl) : PE X (.Call (.Name "BadCount" p) [e] [] pos) (tX1 K (He.ga K "BadCount") "value" te) := by
  subst eK eM
  obtain ⟨fd, F, b, _⟩ := mk_BadCount (P := X.prog) (w := X.w) (base := X.base) T
  exact pe_v1 T.ox_BadCount T.oi_BadCount F hr b passL T.g_BadCount he hg (by decide) hst hpl
theorem pe_BadCountk {K : PySem.W.Frag} {mg : Str → Option Value} (T : Tx K mg) {X : Cx} {kws : List Keyword} {te : TE} {p pos : Pos} (hr : Room 2 X.A) (hkw : PK X kws (tCons te tNil)) (hg : Gl X "BadCount" := by rfl)
    (hall : (backToKw pos (keywordEach kws X.env)).all (·.1.isSome) = true := by rfl) (hks : (backToKw pos (keywordEach kws X.env)).filterMap (·.1) = (["value"] : List Str) := by rfl)
    (hpl : ((backTo pos (starEach [] X.env)).any (·.1) || (backToKw pos (keywordEach kws X.env)).any (·.1.isNone)) = false := by rfl) (eK : X.K = K := by rfl) (eM : X.mg = mg := by rfl) : PE X (.Call (.Name "BadCount" p) [] kws pos) (tX1 K (He.ga K "BadCount") "value" te) := by
  subst eK eM
  obtain ⟨fd, F, _, b⟩ := mk_BadCount (P := X.prog) (w := X.w) (base := X.base) T
  exact pe_v1k (ap := pos) T.ox_BadCount T.oi_BadCount F hr b passL T.g_BadCount hkw hg hall hks (by decide) hpl
theorem pe_Alike {K : PySem.W.Frag} {mg : Str → Option Value} (T : Tx K mg) {X : Cx} {e e2 : Expr} {te te2 : TE} {p pos : Pos} (hr : Room 2 X.A) (he : PE X e te) (he2 : PE X e2 te2) (hg : Gl X "Alike" := by rfl) (hst : starEach [e, e2] X.env = (false, eval e X.env) :: starEach [e2] X.env := by rfl) (hst2 : starEach [e2] X.env = (false, eval e2 X.env) :: starEach [] X.env := by rfl) (hpl : (backTo pos (starEach [e2] X.env)).any (·.1) = false := by rfl) (eK : X.K = K := by rfl) (eM : X.mg = mg := by rfl) : PE X (.Call (.Name "Alike" p) [e, e2] [] pos) (tX2 K (He.ga K "Alike") "one" "other" te te2) := by
  subst eK eM
  obtain ⟨fd, F, b, _⟩ := mk_Alike (P := X.prog) (w := X.w) (base := X.base) T
  exact pe_v2 T.ox_Alike T.oi_Alike F hr b passL T.g_Alike he he2 hg (by decide) hst hst2 hpl
theorem pe_Alikek {K : PySem.W.Frag} {mg : Str → Option Value} (T : Tx K mg) {X : Cx} {kws : List Keyword} {te te2 : TE} {p pos : Pos} (hr : Room 2 X.A) (hkw : PK X kws (tCons te (tCons te2 tNil))) (hg : Gl X "Alike" := by rfl)
    (hall : (backToKw pos (keywordEach kws X.env)).all (·.1.isSome) = true := by rfl) (hks : (backToKw pos (keywordEach kws X.env)).filterMap (·.1) = (["other", "one"] : List Str) := by rfl)
    (hpl : ((backTo pos (starEach [] X.env)).any (·.1) || (backToKw pos (keywordEach kws X.env)).any (·.1.isNone)) = false := by rfl) (eK : X.K = K := by rfl) (eM : X.mg = mg := by rfl) : PE X (.Call (.Name "Alike" p) [] kws pos) (tX2k K (He.ga K "Alike") "one" "other" te te2) := by
  subst eK eM
  obtain ⟨fd, F, _, b⟩ := mk_Alike (P := X.prog) (w := X.w) (base := X.base) T
  exact pe_v2k T.ox_Alike T.oi_Alike F hr b passL T.g_Alike hkw hg hall hks (by decide) hpl
theorem pe_TooLarge {K : PySem.W.Frag} {mg : Str → Option Value} (T : Tx K mg) {X : Cx} {e e2 : Expr} {te te2 : TE} {p pos : Pos} (hr : Room 2 X.A) (he : PE X e te) (he2 : PE X e2 te2) (hg : Gl X "TooLarge" := by rfl) (hst : starEach [e, e2] X.env = (false, eval e X.env) :: starEach [e2] X.env := by rfl) (hst2 : starEach [e2] X.env = (false, eval e2 X.env) :: starEach [] X.env := by rfl) (hpl : (backTo pos (starEach [e2] X.env)).any (·.1) = false := by rfl) (eK : X.K = K := by rfl) (eM : X.mg = mg := by rfl) : PE X (.Call (.Name "TooLarge" p) [e, e2] [] pos) (tX2 K (He.ga K "TooLarge") "part" "most" te te2) := by
  subst eK eM
  obtain ⟨fd, F, b, _⟩ := mk_TooLarge (P := X.prog) (w := X.w) (base := X.base) T
  exact pe_v2 T.ox_TooLarge T.oi_TooLarge F hr b passL T.g_TooLarge he he2 hg (by decide) hst hst2 hpl
theorem pe_TooLargek {K : PySem.W.Frag} {mg : Str → Option Value} (T : Tx K mg) {X : Cx} {kws : List Keyword} {te te2 : TE} {p pos : Pos} (hr : Room 2 X.A) (hkw : PK X kws (tCons te (tCons te2 tNil))) (hg : Gl X "TooLarge" := by rfl)
    (hall : (backToKw pos (keywordEach kws X.env)).all (·.1.isSome) = true := by rfl) (hks : (backToKw pos (keywordEach kws X.env)).filterMap (·.1) = (["most", "part"] : List Str) := by rfl)
    (hpl : ((backTo pos (starEach [] X.env)).any (·.1) || (backToKw pos (keywordEach kws X.env)).any (·.1.isNone)) = false := by rfl) (eK : X.K = K := by rfl) (eM : X.mg = mg := by rfl) : PE X (.Call (.Name "TooLarge" p) [] kws pos) (tX2k K (He.ga K "TooLarge") "part" "most" te te2) := by
  subst eK eM
  obtain ⟨fd, F, _, b⟩ := mk_TooLarge (P := X.prog) (w := X.w) (base := X.base) T
  exact pe_v2k T.ox_TooLarge T.oi_TooLarge F hr b passL T.g_TooLarge hkw hg hall hks (by decide) hpl
theorem pe_BadText {K : PySem.W.Frag} {mg : Str → Option Value} (T : Tx K mg) {X : Cx} {e e2 : Expr} {te te2 : TE} {p pos : Pos} (hr : Room 2 X.A) (he : PE X e te) (he2 : PE X e2 te2) (hg : Gl X "BadText" := by rfl) (hst : starEach [e, e2] X.env = (false, eval e X.env) :: starEach [e2] X.env := by rfl) (hst2 : starEach [e2] X.env = (false, eval e2 X.env) :: starEach [] X.env := by rfl) (hpl : (backTo pos (starEach [e2] X.env)).any (·.1) = false := by rfl) (eK : X.K = K := by rfl) (eM : X.mg = mg := by rfl) : PE X (.Call (.Name "BadText" p) [e, e2] [] pos) (tX2 K (He.ga K "BadText") "line" "word" te te2) := by
  subst eK eM
  obtain ⟨fd, F, b, _⟩ := mk_BadText (P := X.prog) (w := X.w) (base := X.base) T
  exact pe_v2 T.ox_BadText T.oi_BadText F hr b passL T.g_BadText he he2 hg (by decide) hst hst2 hpl
theorem pe_BadTextk {K : PySem.W.Frag} {mg : Str → Option Value} (T : Tx K mg) {X : Cx} {kws : List Keyword} {te te2 : TE} {p pos : Pos} (hr : Room 2 X.A) (hkw : PK X kws (tCons te (tCons te2 tNil))) (hg : Gl X "BadText" := by rfl)
    (hall : (backToKw pos (keywordEach kws X.env)).all (·.1.isSome) = true := by rfl) (hks : (backToKw pos (keywordEach kws X.env)).filterMap (·.1) = (["word", "line"] : List Str) := by rfl)
    (hpl : ((backTo pos (starEach [] X.env)).any (·.1) || (backToKw pos (keywordEach kws X.env)).any (·.1.isNone)) = false := by rfl) (eK : X.K = K := by rfl) (eM : X.mg = mg := by rfl) : PE X (.Call (.Name "BadText" p) [] kws pos) (tX2k K (He.ga K "BadText") "line" "word" te te2) := by
  subst eK eM
  obtain ⟨fd, F, _, b⟩ := mk_BadText (P := X.prog) (w := X.w) (base := X.base) T
  exact pe_v2k T.ox_BadText T.oi_BadText F hr b passL T.g_BadText hkw hg hall hks (by decide) hpl
theorem pe_NoDivisor {K : PySem.W.Frag} {mg : Str → Option Value} (T : Tx K mg) {X : Cx} {p pos : Pos} (hg : Gl X "NoDivisor" := by rfl) (eK : X.K = K := by rfl) (eM : X.mg = mg := by rfl) : PE X (.Call (.Name "NoDivisor" p) [] [] pos) (tX0 (He.ga K "NoDivisor")) := by
  subst eK eM
  exact (pe_made (EM.pmk_own0 PySem.F.excBase_ValueError T.xi_NoDivisor T.g_NoDivisor T.xk_NoDivisor (raises_own T.xb_NoDivisor T.xt_NoDivisor) hg)).of fun σ H Q q => q.h
theorem pe_Unlike {K : PySem.W.Frag} {mg : Str → Option Value} (T : Tx K mg) {X : Cx} {p pos : Pos} (hg : Gl X "Unlike" := by rfl) (eK : X.K = K := by rfl) (eM : X.mg = mg := by rfl) : PE X (.Call (.Name "Unlike" p) [] [] pos) (tX0 (He.ga K "Unlike")) := by
  subst eK eM
  exact (pe_made (EM.pmk_own0 PySem.F.excBase_ValueError T.xi_Unlike T.g_Unlike T.xk_Unlike (raises_own T.xb_Unlike T.xt_Unlike) hg)).of fun σ H Q q => q.h
theorem pe_NoTerms {K : PySem.W.Frag} {mg : Str → Option Value} (T : Tx K mg) {X : Cx} {p pos : Pos} (hg : Gl X "NoTerms" := by rfl) (eK : X.K = K := by rfl) (eM : X.mg = mg := by rfl) : PE X (.Call (.Name "NoTerms" p) [] [] pos) (tX0 (He.ga K "NoTerms")) := by
  subst eK eM
  exact (pe_made (EM.pmk_own0 PySem.F.excBase_ValueError T.xi_NoTerms T.g_NoTerms T.xk_NoTerms (raises_own T.xb_NoTerms T.xt_NoTerms) hg)).of fun σ H Q q => q.h
theorem pe_Empty {K : PySem.W.Frag} {mg : Str → Option Value} (T : Tx K mg) {X : Cx} {p pos : Pos} (hg : Gl X "Empty" := by rfl) (eK : X.K = K := by rfl) (eM : X.mg = mg := by rfl) : PE X (.Call (.Name "Empty" p) [] [] pos) (tX0 (He.ga K "Empty")) := by
  subst eK eM
  exact (pe_made (EM.pmk_own0 PySem.F.excBase_ValueError T.xi_Empty T.g_Empty T.xk_Empty (raises_own T.xb_Empty T.xt_Empty) hg)).of fun σ H Q q => q.h
theorem pe_Uneven {K : PySem.W.Frag} {mg : Str → Option Value} (T : Tx K mg) {X : Cx} {p pos : Pos} (hg : Gl X "Uneven" := by rfl) (eK : X.K = K := by rfl) (eM : X.mg = mg := by rfl) : PE X (.Call (.Name "Uneven" p) [] [] pos) (tX0 (He.ga K "Uneven")) := by
  subst eK eM
  exact (pe_made (EM.pmk_own0 PySem.F.excBase_ValueError T.xi_Uneven T.g_Uneven T.xk_Uneven (raises_own T.xb_Uneven T.xt_Uneven) hg)).of fun σ H Q q => q.h
theorem pe_EdgeError {K : PySem.W.Frag} {mg : Str → Option Value} (T : Tx K mg) {X : Cx} {p pos : Pos} (hg : Gl X "EdgeError" := by rfl) (eK : X.K = K := by rfl) (eM : X.mg = mg := by rfl) : PE X (.Call (.Name "EdgeError" p) [] [] pos) (tX0 (He.ga K "EdgeError")) := by
  subst eK eM
  exact (pe_made (EM.pmk_own0 PySem.F.excBase_ValueError T.xi_EdgeError T.g_EdgeError T.xk_EdgeError (raises_own T.xb_EdgeError T.xt_EdgeError) hg)).of fun σ H Q q => q.h
end K01
namespace K01
open PySem PySem.Spec PyProof.Rows L2 EM
section
variable {X : Cx}
theorem pe_mkN (T : Tx X.K X.mg) (hr : Room 3 X.A) {e1 : Expr} {es : List Expr} {ta : TA} {p pos : Pos} (ha : PA X (e1 :: es) ta) (hg : Gl X "Ratio" := by rfl) (he : starEach (e1 :: es) X.env = (false, eval e1 X.env) :: starEach es X.env := by rfl) (hpl : (backTo pos (starEach es X.env)).any (·.1) = false := by rfl) :
    PE X (.Call (.Name "Ratio" p) (e1 :: es) [] pos) (tCR (Sw (spMkN X.K)) E0 ta) :=
  (EM.pe_mkR (E := E0) T.mk_Ratio (ok_Ratio2 T) hr T.g_Ratio passL ha.mc hg (by decide) he hpl).of fun σ H Q q => ⟨_, q, fun vs H1 ⟨⟨t, b, e, b0, lb, k⟩⟩ x dx hx hdx ndx => by
    subst e
    exact mk_Rat b0 lb k x dx hx hdx ndx⟩
theorem pe_mkN_ {K : PySem.W.Frag} {mg : Str → Option Value} (T : Tx K mg) (hr : Room 3 X.A) {e1 : Expr} {es : List Expr} {ta : TA} {p pos : Pos} (ha : PA X (e1 :: es) ta) (hg : Gl X "Ratio" := by rfl) (he : starEach (e1 :: es) X.env = (false, eval e1 X.env) :: starEach es X.env := by rfl) (hpl : (backTo pos (starEach es X.env)).any (·.1) = false := by rfl) (eK : X.K = K := by rfl) (eM : X.mg = mg := by rfl) :
    PE X (.Call (.Name "Ratio" p) (e1 :: es) [] pos) (tCR (Sw (spMkN K)) E0 ta) := by
  subst eK eM
  exact pe_mkN T hr ha hg he hpl
end
end K01
namespace K01
open PySem PySem.Spec PyProof.Rows L2 EM
theorem boot_KeyError : bootBuiltins "KeyError" = some (.type "KeyError") := by decide +kernel
theorem boot_IndexError : bootBuiltins "IndexError" = some (.type "IndexError") := by decide +kernel
theorem boot_LookupError : bootBuiltins "LookupError" = some (.type "LookupError") := by decide +kernel
theorem boot_ArithmeticError : bootBuiltins "ArithmeticError" = some (.type "ArithmeticError") := by decide +kernel
theorem boot_OverflowError : bootBuiltins "OverflowError" = some (.type "OverflowError") := by decide +kernel
theorem boot_TypeError : bootBuiltins "TypeError" = some (.type "TypeError") := by decide +kernel
theorem boot_RuntimeError : bootBuiltins "RuntimeError" = some (.type "RuntimeError") := by decide +kernel
theorem boot_AttributeError : bootBuiltins "AttributeError" = some (.type "AttributeError") := by decide +kernel
theorem boot_ValueError : bootBuiltins "ValueError" = some (.type "ValueError") := by decide +kernel
def kb (i : Nat) : List V := [V.bl (decide (i = 0)), V.bl (decide (i = 1)), V.bl (decide (i = 2)), V.bl (decide (i = 3)), V.bl (decide (i = 4)), V.bl (decide (i = 5)), V.bl (decide (i = 6)), V.bl (decide (i = 7)), V.bl (decide (i = 8)), V.bl (decide (i = 9)), V.bl (decide (i = 10)), V.bl (decide (i = 11)), V.bl (decide (i = 12)), V.bl (decide (i = 13)), V.bl (decide (i = 14)), V.bl (decide (i = 15)), V.bl (decide (i = 16)), V.bl (decide (i = 17)), V.bl (decide (i = 18)), V.bl (decide (i = 19)), V.bl (decide (i = 20)), V.bl (decide (i = 21))]
theorem kb_eq (i : Nat) : kb i = (List.range 22).map fun j => V.bl (decide (i = j)) := by
  have e : List.range 22 = [0, 1, 2, 3, 4, 5, 6, 7, 8, 9, 10, 11, 12, 13, 14, 15, 16, 17, 18, 19, 20, 21] := by decide +kernel
  rw [e]
  rfl
theorem okz_wording : OkZ "wording" := okz_of (z := "wording") (s := "'wording'") (by decide +kernel) (by decide +kernel) (okS_of _)
theorem okz_a : OkZ "a" := okz_of (z := "a") (s := "'a'") (by decide +kernel) (by decide +kernel) (okS_of _)
theorem okz_b : OkZ "b" := okz_of (z := "b") (s := "'b'") (by decide +kernel) (by decide +kernel) (okS_of _)
theorem okz_x : OkZ "x" := okz_of (z := "x") (s := "'x'") (by decide +kernel) (by decide +kernel) (okS_of _)
theorem okz_two : OkZ "two words" := okz_of (z := "two words") (s := "'two words'") (by decide +kernel) (by decide +kernel) (okS_of _)
theorem fdw {n m : Nat} {d : PyData} (g : Fd n m d) (e : n ≤ 4000 ∧ m ≤ 64) : Fd 4000 64 d := ⟨g.lay, g.sh, Nat.le_trans g.len e.1, Nat.le_trans g.dep e.2, g.self, g.ok⟩
def tDispA (z : Str) (i : Nat) : TE := fun σ H Q => tVar i σ H fun v H1 => DnS (.dK [(.inr z, v)]) H1 Q
theorem pe_dispA {X : Cx} {pos : Pos} {keys : List (Option Expr)} {values : List Expr} {z : Str} {i : Nat} (h : PE X (.Dict keys values pos) (tDisp [(tC (.str z), tVar i)])) : PE X (.Dict keys values pos) (tDispA z i) := h.of fun σ H Q ⟨v, e, q⟩ p hp => ⟨v, e, upd_same, [(.inr z, v)], rfl, Nat.le_of_ble_eq_true rfl, by
  show Q (.ref p) (upd (upd H p (.dK [])) p _)
  rw [L2.upd_upd]
  exact New.upd q.h p hp⟩
def spThing (K : PySem.W.Frag) : Sp := fun vs H Q _ => ∃ (T : List (Addr × Str)) (p l : Addr) (n : Nat), vs = [.ref p] ∧ Bs T p l n H ∧ n ≤ 900000 ∧ ∀ v t H', Ext p H H' → Bs T p l (n + 2) H' → ThP K p H' v t → Q v H'
def spKinds (K : PySem.W.Frag) : Sp := fun vs H Q _ => ∃ (T : List (Addr × Str)) (p l a : Addr) (n i : Nat), vs = [.ref a] ∧ Bs T p l n H ∧ ErrQ K p H a i ∧ ∀ q H', Ext p H H' → Bs T p l n H' → At p H' q (.lst (if i < 22 then [.int i] else [])) → Q (.ref q) H'
def spBased (K : PySem.W.Frag) : Sp := fun vs H Q _ => ∃ (T : List (Addr × Str)) (p l a : Addr) (n i : Nat), vs = [.ref a] ∧ Bs T p l n H ∧ ErrQ K p H a i ∧ ∀ H', Ext p H H' → Bs T p l n H' → Q (.bl true) H'
theorem isB_bs {K : PySem.W.Frag} {T : List (Addr × Str)} {p l a : Addr} {n i : Nat} {H : Hp} {Q : VK} {E : XK} (B : Bs T p l n H) (h : ErrQ K p H a i) (k : ∀ H', Ext p H H' → Bs T p l n H' → Q (.bl true) H') : Sw (spBased K) [.ref a] H Q E := ⟨⟨T, p, l, a, n, i, rfl, B, h, k⟩⟩
theorem kinds_bs {K : PySem.W.Frag} {T : List (Addr × Str)} {p l a : Addr} {n i : Nat} {H : Hp} {Q : VK} {E : XK} (B : Bs T p l n H) (h : ErrQ K p H a i) (k : ∀ q H', Ext p H H' → Bs T p l n H' → At p H' q (.lst (if i < 22 then [.int i] else [])) → Q (.ref q) H') : Sw (spKinds K) [.ref a] H Q E := ⟨⟨T, p, l, a, n, i, rfl, B, h, k⟩⟩
theorem thing_bs {K : PySem.W.Frag} {T : List (Addr × Str)} {p l : Addr} {n : Nat} {H : Hp} {Q : VK} {E : XK} (B : Bs T p l n H) (hn : n ≤ 900000) (k : ∀ v t H', Ext p H H' → Bs T p l (n + 2) H' → ThP K p H' v t → Q v H') : Sw (spThing K) [.ref p] H Q E := ⟨⟨T, p, l, n, rfl, B, hn, k⟩⟩
end K01
namespace K01
open PySem PySem.Spec PyProof.Rows L2 EM
/-- a row of an error of the i-th class and the list zs of what it keeps; c is another list -/
def RowP (K : PySem.W.Frag) (p : Addr) (H : Hp) (zs : List V) (c : Addr) (i : Nat) (x : V) : Prop := ∃ r e k, x = .ref r ∧ At p H r (.tup [.ref e, .ref k]) ∧ ErrQ K p H e i ∧ At p H k (.lst zs) ∧ k ≠ c
def RowsP (K : PySem.W.Frag) (p : Addr) (H : Hp) (zs : List V) (c : Addr) (i0 : Nat) (xs : List V) : Prop := ∀ (j : Nat) (x : V), xs[j]? = some x → RowP K p H zs c (i0 + j) x
theorem RowP.ext {K : PySem.W.Frag} {p c : Addr} {i : Nat} {x : V} {zs : List V} {H H' : Hp} (h : RowP K p H zs c i x) (y : Ext p H H') : RowP K p H' zs c i x := by
  obtain ⟨r, e, k, h1, h2, h3, h4, h5⟩ := h
  exact ⟨r, e, k, h1, h2.ext y, h3.ext y, h4.ext y, h5⟩
theorem RowsP.ext {K : PySem.W.Frag} {p c : Addr} {i0 : Nat} {xs zs : List V} {H H' : Hp} (h : RowsP K p H zs c i0 xs) (y : Ext p H H') : RowsP K p H' zs c i0 xs := fun j x e => (h j x e).ext y
theorem RowsP.nil {K : PySem.W.Frag} {p c : Addr} {i0 : Nat} {zs : List V} {H : Hp} : RowsP K p H zs c i0 [] := fun j x e => by simp at e
theorem RowP.mu {K : PySem.W.Frag} {p c : Addr} {i : Nat} {x : V} {zs xs ys : List V} {H H' : Hp} (h : RowP K p H zs c i x) (g : At p H c (.lst xs)) (m : Mu c H H' (.lst ys)) : RowP K p H' zs c i x := by
  obtain ⟨r, e, k, h1, h2, h3, h4, h5⟩ := h
  exact ⟨r, e, k, h1, m.at_k h2 g (by intro _ z; cases z), h3.mu g m, m.at_n h4 h5, h5⟩
theorem RowsP.step {K : PySem.W.Frag} {p c r e k : Addr} {i0 i : Nat} {xs zs : List V} {H H' : Hp} (h : RowsP K p H zs c i0 xs) (hl : i0 + xs.length = i) (g : At p H c (.lst xs)) (he : ErrQ K p H e i) (hk : At p H k (.lst zs)) (nk : k ≠ c) (hr : At p H r (.tup [.ref e, .ref k])) (m : Mu c H H' (.lst (xs ++ [.ref r]))) : RowsP K p H' zs c i0 (xs ++ [.ref r]) := by
  intro j x ex
  rcases Nat.lt_or_ge j xs.length with hj | hj
  · rw [List.getElem?_append_left hj] at ex
    exact (h j x ex).mu g m
  · rw [List.getElem?_append_right hj] at ex
    have : j - xs.length = 0 := by
      rcases Nat.eq_zero_or_pos (j - xs.length) with z | z
      · exact z
      · rw [List.getElem?_eq_none (by simp only [List.length_cons, List.length_nil]; omega)] at ex
        cases ex
    rw [this] at ex
    cases ex
    have e2 : i0 + j = i := by omega
    rw [e2]
    exact RowP.mu ⟨r, e, k, rfl, hr, he, hk, nk⟩ g m
theorem ne_new {p c k : Addr} {H : Hp} {o : HO} (h : At p H c o) (n : H k = none) : k ≠ c := fun z => by
  have := h.at_
  rw [← z, n] at this
  cases this
/-- what was there ahead of F stays, F is written -/
structure OpenE (p F : Addr) (H H' : Hp) : Prop where
  h : ∀ b o, H b = some o → b ≠ p → b ≠ F → (∀ ps, o ≠ .tbl ps) → H' b = some o
theorem OpenE.refl {p F : Addr} {H : Hp} : OpenE p F H H := ⟨fun b o e _ _ _ => e⟩
theorem OpenE.step {p F : Addr} {H H1 H2 H3 H4 H5 H6 : Hp} {o : HO} (z : OpenE p F H H1) (x1 : EM.Ext p H1 H2) (x2 : EM.Ext p H2 H3) (x3 : EM.Ext p H3 H4) (x4 : EM.Ext p H4 H5) (m : Mu F H5 H6 o) : OpenE p F H H6 := ⟨fun b u e h1 h2 h3 => by
  rw [m.old b h2]
  exact x4.k _ _ (x3.k _ _ (x2.k _ _ (x1.k _ _ (z.h b u e h1 h2 h3) h1 h3) h1 h3) h1 h3) h1 h3⟩
theorem OpenE.close {p F : Addr} {H H1 H2 : Hp} (z : OpenE p F H1 H2) (y : EM.Ext p H H1) (n : H F = none) : EM.Ext p H H2 := ⟨fun b o e h1 h3 => z.h b o (y.k b o e h1 h3) h1 (fun z => by rw [z, n] at e; cases e) h3⟩
def spSingles (K : PySem.W.Frag) : Sp := fun vs H Q _ => ∃ (T : List (Addr × Str)) (p l : Addr) (n : Nat) (v : V), vs = [v] ∧ Bs T p l n H ∧ ∀ q xs H', Ext p H H' → Bs T p l n H' → At p H' q (.lst xs) → xs.length = 14 → RowsP K p H' [v, v] q 0 xs → Q (.ref q) H'
def spDoubles (K : PySem.W.Frag) : Sp := fun vs H Q _ => ∃ (T : List (Addr × Str)) (p l : Addr) (n : Nat) (v u : V), vs = [v, u] ∧ Bs T p l n H ∧ ∀ q xs H', Ext p H H' → Bs T p l n H' → At p H' q (.lst xs) → xs.length = 3 → RowsP K p H' [v, u, v, u] q 14 xs → Q (.ref q) H'
theorem singles_bs {K : PySem.W.Frag} {T : List (Addr × Str)} {p l : Addr} {n : Nat} {v : V} {H : Hp} {Q : VK} {E : XK} (B : Bs T p l n H) (k : ∀ q xs H', Ext p H H' → Bs T p l n H' → At p H' q (.lst xs) → xs.length = 14 → RowsP K p H' [v, v] q 0 xs → Q (.ref q) H') : Sw (spSingles K) [v] H Q E := ⟨⟨T, p, l, n, v, rfl, B, k⟩⟩
theorem doubles_bs {K : PySem.W.Frag} {T : List (Addr × Str)} {p l : Addr} {n : Nat} {v u : V} {H : Hp} {Q : VK} {E : XK} (B : Bs T p l n H) (k : ∀ q xs H', Ext p H H' → Bs T p l n H' → At p H' q (.lst xs) → xs.length = 3 → RowsP K p H' [v, u, v, u] q 14 xs → Q (.ref q) H') : Sw (spDoubles K) [v, u] H Q E := ⟨⟨T, p, l, n, v, u, rfl, B, k⟩⟩
end K01
namespace K01
open PySem PySem.Spec PyProof.Rows L2 EM
theorem ne_free {p a c : Addr} {H : Hp} {o : HO} (h : At p H a o) (n : H c = none) : a ≠ c := fun z => by
  have := h.at_
  rw [z, n] at this
  cases this
theorem tYes_in {σ : L2.St} {H : Hp} {te : TE} {Rt : V → Hp → Prop} {Rf : Hp → Prop} (h : mcE te σ H Rt) : tYes σ H fun b H3 => if b = true then mcE te σ H3 Rt else Rf H3 := by
  show (if true = true then mcE te σ H Rt else Rf H)
  rw [if_pos rfl]
  exact h
theorem if_pos_of {c : Prop} [Decidable c] {A B : Prop} (h : c) (a : A) : if c then A else B := by rw [if_pos h]; exact a
/-- error, what it keeps, what is due -/
def Row3 (K : PySem.W.Frag) (p : Addr) (H : Hp) (zs : List V) (c : Addr) (i : Nat) (x : V) : Prop := ∃ r e k d, x = .ref r ∧ At p H r (.tup [.ref e, .ref k, .ref d]) ∧ ErrQ K p H e i ∧ At p H k (.lst zs) ∧ At p H d (.lst zs) ∧ k ≠ c ∧ d ≠ c
def Rows3 (K : PySem.W.Frag) (p : Addr) (H : Hp) (zs : List V) (c : Addr) (i0 : Nat) (xs : List V) : Prop := ∀ (j : Nat) (x : V), xs[j]? = some x → Row3 K p H zs c (i0 + j) x
theorem Row3.ext {K : PySem.W.Frag} {p c : Addr} {i : Nat} {x : V} {zs : List V} {H H' : Hp} (h : Row3 K p H zs c i x) (y : EM.Ext p H H') : Row3 K p H' zs c i x := by
  obtain ⟨r, e, k, d, h1, h2, h3, h4, h5, h6, h7⟩ := h
  exact ⟨r, e, k, d, h1, h2.ext y, h3.ext y, h4.ext y, h5.ext y, h6, h7⟩
theorem Rows3.ext {K : PySem.W.Frag} {p c : Addr} {i0 : Nat} {xs zs : List V} {H H' : Hp} (h : Rows3 K p H zs c i0 xs) (y : EM.Ext p H H') : Rows3 K p H' zs c i0 xs := fun j x e => (h j x e).ext y
theorem Rows3.nil {K : PySem.W.Frag} {p c : Addr} {i0 : Nat} {zs : List V} {H : Hp} : Rows3 K p H zs c i0 [] := fun j x e => by simp at e
theorem Row3.mu {K : PySem.W.Frag} {p c : Addr} {i : Nat} {x : V} {zs xs ys : List V} {H H' : Hp} (h : Row3 K p H zs c i x) (g : At p H c (.lst xs)) (m : Mu c H H' (.lst ys)) : Row3 K p H' zs c i x := by
  obtain ⟨r, e, k, d, h1, h2, h3, h4, h5, h6, h7⟩ := h
  exact ⟨r, e, k, d, h1, m.at_k h2 g (by intro _ z; cases z), h3.mu g m, m.at_n h4 h6, m.at_n h5 h7, h6, h7⟩
theorem Rows3.step {K : PySem.W.Frag} {p c r e k d : Addr} {i0 i : Nat} {xs zs : List V} {H H' : Hp} (h : Rows3 K p H zs c i0 xs) (hl : i0 + xs.length = i) (g : At p H c (.lst xs)) (he : ErrQ K p H e i) (hk : At p H k (.lst zs)) (nk : k ≠ c) (hd : At p H d (.lst zs)) (nd : d ≠ c) (hr : At p H r (.tup [.ref e, .ref k, .ref d])) (m : Mu c H H' (.lst (xs ++ [.ref r]))) : Rows3 K p H' zs c i0 (xs ++ [.ref r]) := by
  intro j x ex
  rcases Nat.lt_or_ge j xs.length with hj | hj
  · rw [List.getElem?_append_left hj] at ex
    exact (h j x ex).mu g m
  · rw [List.getElem?_append_right hj] at ex
    have : j - xs.length = 0 := by
      rcases Nat.eq_zero_or_pos (j - xs.length) with z | z
      · exact z
      · rw [List.getElem?_eq_none (by simp only [List.length_cons, List.length_nil]; omega)] at ex
        cases ex
    rw [this] at ex
    cases ex
    have e2 : i0 + j = i := by omega
    rw [e2]
    exact Row3.mu ⟨r, e, k, d, rfl, hr, he, hk, hd, nk, nd⟩ g m
/-- a row, the whole list told: what is kept by the i-th -/
def zf (v u : V) (i : Nat) : List V := if i < 14 then [v, v] else if i < 17 then [v, u, v, u] else []
def RowF (K : PySem.W.Frag) (p : Addr) (H : Hp) (v u : V) (i : Nat) (x : V) : Prop := ∃ r e k d, x = .ref r ∧ At p H r (.tup [.ref e, .ref k, .ref d]) ∧ ErrQ K p H e i ∧ At p H k (.lst (zf v u i)) ∧ At p H d (.lst (zf v u i))
theorem Row3.fin {K : PySem.W.Frag} {p c : Addr} {i : Nat} {x v u : V} {zs : List V} {H : Hp} (h : Row3 K p H zs c i x) (e : zs = zf v u i) : RowF K p H v u i x := by
  obtain ⟨r, e1, k, d, h1, h2, h3, h4, h5, h6, h7⟩ := h
  subst e
  exact ⟨r, e1, k, d, h1, h2, h3, h4, h5⟩
def RowsF (K : PySem.W.Frag) (p : Addr) (H : Hp) (v u : V) (xs : List V) : Prop := ∀ (j : Nat) (x : V), xs[j]? = some x → RowF K p H v u j x
theorem RowF.ext {K : PySem.W.Frag} {p : Addr} {i : Nat} {x v u : V} {H H' : Hp} (h : RowF K p H v u i x) (y : EM.Ext p H H') : RowF K p H' v u i x := by
  obtain ⟨r, e, k, d, h1, h2, h3, h4, h5⟩ := h
  exact ⟨r, e, k, d, h1, h2.ext y, h3.ext y, h4.ext y, h5.ext y⟩
theorem rowsF_of {K : PySem.W.Frag} {p c1 c2 c3 : Addr} {v u : V} {xs ys ws : List V} {H : Hp} (h1 : Rows3 K p H [v, v] c1 0 xs) (h2 : Rows3 K p H [v, u, v, u] c2 14 ys) (h3 : Rows3 K p H [] c3 17 ws) (l1 : xs.length = 14) (l2 : ys.length = 3) (l3 : ws.length = 5) : RowsF K p H v u ((xs ++ ys) ++ ws) := by
  intro j x e
  rcases Nat.lt_or_ge j 17 with a | a
  · rw [List.getElem?_append_left (by rw [List.length_append]; omega)] at e
    rcases Nat.lt_or_ge j 14 with b | b
    · rw [List.getElem?_append_left (by omega)] at e
      have := h1 j x e
      rw [Nat.zero_add] at this
      exact this.fin (by unfold zf; rw [if_pos b])
    · rw [List.getElem?_append_right (by omega), l1] at e
      have := h2 (j - 14) x e
      rw [show 14 + (j - 14) = j by omega] at this
      exact this.fin (by unfold zf; rw [if_neg (by omega), if_pos a])
  · rw [List.getElem?_append_right (by rw [List.length_append]; omega), List.length_append, l1, l2] at e
    have := h3 (j - 17) x e
    rw [show 17 + (j - 17) = j by omega] at this
    exact this.fin (by unfold zf; rw [if_neg (by omega), if_neg (by omega)])
theorem zf_ths {K : PySem.W.Frag} {p : Addr} {H : Hp} {v u : V} {t s : Str} (h : ThP K p H v t) (g : ThP K p H u s) (i : Nat) : ∃ ts, ThsP K p H (zf v u i) ts ∧ (zf v u i).length ≤ 4 := by
  unfold zf
  split
  · exact ⟨_, .cons h (.cons h .nil), by show 2 ≤ 4; decide⟩
  · split
    · exact ⟨_, .cons h (.cons g (.cons h (.cons g .nil))), by show 4 ≤ 4; decide⟩
    · exact ⟨_, .nil, by show 0 ≤ 4; decide⟩
end K01
namespace K01
open PySem PySem.Spec PyProof.Rows L2 EM
local macro_rules | `(tactic| sizeOf_list_dec) => `(tactic| first
  | with_reducible assumption
  | ((with_reducible apply EM.At.ext); (focus (with_reducible assumption)); (focus sizeOf_list_dec))
  | ((with_reducible apply EM.RatP.ext); (focus (with_reducible assumption)); (focus sizeOf_list_dec))
  | ((with_reducible apply EM.NumP.ext); (focus (with_reducible assumption)); (focus sizeOf_list_dec))
  | (with_reducible exact EM.Ext.refl)
  | ((with_reducible apply EM.Ext.back); (focus (with_reducible assumption)); (focus sizeOf_list_dec))
  | exact EM.NumP.int _
  | ((with_reducible apply EM.Mu.at_k); (focus (with_reducible assumption)); (focus sizeOf_list_dec); (focus sizeOf_list_dec); (focus (intro _ z; cases z; done)))
  | ((with_reducible apply EM.Mu.at_n); (focus (with_reducible assumption)); (focus sizeOf_list_dec); (focus (first | with_reducible assumption | ((apply EM.nn1); (focus (with_reducible assumption)); (focus sizeOf_list_dec)) | ((apply EM.nn2); (focus (with_reducible assumption)); (focus sizeOf_list_dec)))))
  | ((with_reducible apply EM.Mu.here); (focus (with_reducible assumption)); (focus sizeOf_list_dec))
  | ((with_reducible apply EM.Mu.rat); (focus (with_reducible assumption)); (focus sizeOf_list_dec); (focus sizeOf_list_dec))
  | ((with_reducible apply EM.Mu.num); (focus (with_reducible assumption)); (focus sizeOf_list_dec); (focus sizeOf_list_dec))
  | ((with_reducible apply EM.num_of_rat); (focus sizeOf_list_dec); (focus (first | with_reducible assumption | (apply EM.n_low; assumption))))
  | ((with_reducible apply ErrQ.ext); (focus (with_reducible assumption)); (focus sizeOf_list_dec)))
local macro_rules | `(tactic| decreasing_trivial_pre_omega) => `(tactic| first
  | with_reducible assumption
  | exact EM.Bt.mono (by with_reducible assumption) (by decide)
  | exact EM.Bt.lit _ _ (by decide +kernel)
  | ((with_reducible refine EM.Bt.rng32 ?_ ?_) <;> omega)
  | ((with_reducible refine EM.Bt.rng70 ?_ ?_) <;> omega)
  | ((with_reducible refine EM.Bt.rng200 ?_ ?_) <;> omega)
  | ((with_reducible apply EM.Bt.mulM); (focus decreasing_trivial_pre_omega); (focus decreasing_trivial_pre_omega); (focus (first | decide | exact Nat.le_refl _)))
  | ((with_reducible apply EM.Bt.addM); (focus decreasing_trivial_pre_omega); (focus decreasing_trivial_pre_omega); (focus (first | decide | exact Nat.le_refl _)))
  | ((with_reducible apply EM.Bt.subM); (focus decreasing_trivial_pre_omega); (focus decreasing_trivial_pre_omega); (focus (first | decide | exact Nat.le_refl _)))
  | ((with_reducible apply EM.Bt.topL); (focus decreasing_trivial_pre_omega); (focus assumption); (focus (first | decide | exact Nat.le_refl _)))
  | ((with_reducible apply EM.Bt.botL); (focus decreasing_trivial_pre_omega); (focus assumption); (focus (first | decide | exact Nat.le_refl _)))
  | ((with_reducible apply EM.Bt.divM); (focus decreasing_trivial_pre_omega); (focus assumption); (focus (first | decide | exact Nat.le_refl _)))
  | ((with_reducible apply EM.Bt.negM); (focus decreasing_trivial_pre_omega); (focus (first | decide | exact Nat.le_refl _))))
local macro_rules | `(tactic| array_get_dec) => `(tactic| first
  | with_reducible assumption
  | ((with_reducible refine EM.gEq ?_); exact rfl)
  | ((with_reducible refine EM.gTru ?_); exact rfl)
  | ((with_reducible refine EM.gRef ?_); first | exact Or.inl ⟨_, rfl⟩ | exact Or.inr ⟨_, rfl⟩)
  | ((with_reducible apply EM.At.get); sizeOf_list_dec)
  | ((with_reducible apply EM.At.sqL); sizeOf_list_dec)
  | ((with_reducible apply EM.At.sqT); sizeOf_list_dec)
  | ((with_reducible apply EM.RatP.getK); (focus sizeOf_list_dec); (focus (exact rfl)))
  | (with_reducible exact EM.Num.int _)
  | ((with_reducible apply EM.NumP.getK); (focus sizeOf_list_dec); (focus (exact rfl)))
  | ((with_reducible apply EM.At.ext); (focus (with_reducible assumption)); (focus sizeOf_list_dec))
  | ((with_reducible apply EM.RatP.ext); (focus (with_reducible assumption)); (focus sizeOf_list_dec))
  | ((with_reducible apply EM.NumP.ext); (focus (with_reducible assumption)); (focus sizeOf_list_dec))
  | with_reducible exact Tx.cl_Ratio (by assumption)
  | with_reducible exact Tx.na_Ratio_top (by assumption)
  | with_reducible exact Tx.na_Ratio_bottom (by assumption)
  | ((with_reducible refine EM.gAt ?_); sizeOf_list_dec)
  | ((with_reducible refine EM.gRat ?_); sizeOf_list_dec)
  | ((with_reducible refine EM.gNum ?_); sizeOf_list_dec)
  | ((with_reducible apply EM.TwoP.mk); (focus (with_reducible assumption)); (focus sizeOf_list_dec); (focus (first | with_reducible assumption | (apply EM.n_low; assumption))); (focus sizeOf_list_dec); (focus decreasing_trivial_pre_omega); (focus decreasing_trivial_pre_omega); (focus decreasing_trivial_pre_omega); (focus decreasing_trivial_pre_omega))
  | (with_reducible exact EM.Ext.refl)
  | ((with_reducible apply EM.Ext.back); (focus (with_reducible assumption)); (focus sizeOf_list_dec))
  | ((with_reducible apply EM.Bs.mono); (focus (with_reducible assumption)); omega)
  | ((with_reducible refine EM.gN ?_); first | decide | omega | exact Nat.le_of_ble_eq_true rfl | (simp only [List.length_cons, List.length_nil, List.length_append]; omega))
  | ((with_reducible refine EM.gM ?_); first | decide | omega | exact Nat.le_of_ble_eq_true rfl)
  | ((with_reducible refine EM.gI ?_); first | decide | omega)
  | ((with_reducible refine EM.gJ ?_); first | decide | omega)
  | ((with_reducible refine EM.gE ?_); first | decide | omega)
  | ((with_reducible refine EM.gB ?_); decreasing_trivial_pre_omega)
  | ((with_reducible apply EM.wideM); (focus decreasing_trivial_pre_omega); (focus decreasing_trivial_pre_omega); (focus decide)))
local macro_rules | `(tactic| infer_instance) => `(tactic| first
  | with_reducible assumption
  | exact DpAll.nil
  | (apply DpAll.cons; (focus infer_instance); (focus infer_instance))
  | with_reducible exact Dp.int _
  | exact Dp.int _
  | with_reducible exact Dp.str _
  | exact Dp.bl _
  | exact Dp.non
  | ((with_reducible apply EM.dp_lst); (focus array_get_dec); (focus infer_instance))
  | ((with_reducible apply EM.dp_tup); (focus array_get_dec); (focus infer_instance))
  | exact EM.dp_ints _)
local macro_rules | `(tactic| nofun) => `(tactic| first
  | with_reducible assumption
  | exact EM.FeL.nil
  | exact EM.FdL.nil
  | (apply EM.FeL.cons; (focus nofun); (focus nofun))
  | (apply EM.FdL.cons; (focus nofun); (focus nofun))
  | exact EM.Fe.int _
  | exact EM.Fe.bool _
  | exact EM.Fe.non
  | exact EM.Fe.str (EM.okS_of _)
  | (apply EM.Fe.str; apply EM.Fd.ok; (focus nofun))
  | (apply EM.Fe.list; (focus nofun))
  | (apply EM.Fe.tup; (focus nofun))
  | (apply EM.Fd.int; (focus decreasing_trivial_pre_omega))
  | exact EM.Fd.bool _
  | exact EM.Fd.non
  | (refine EM.Fd.bool _)
  | (apply EM.Fd.list; (focus nofun))
  | (apply EM.Fd.tup; (focus nofun)))
local macro_rules | `(tactic| array_mem_dec) => `(tactic| ((with_reducible refine EM.pr ?_); first
  | (with_reducible refine L2.iteT ?_)
  | (with_reducible refine L2.iteF ?_)
  | (with_reducible refine EM.ifNotT ?_)
  | (with_reducible refine EM.ifNotF ?_)
  | ((fail_if_success (with_reducible refine EM.gIf ?_)); first
  | array_get_dec
  | ((apply EM.DnS.bs); (focus (with_reducible assumption)); (focus (intro _ z; cases z; done)))
  | ((apply EM.seqL); (focus sizeOf_list_dec))
  | ((apply EM.seqT); (focus sizeOf_list_dec))
  | ((apply EM.lenL); (focus sizeOf_list_dec))
  | ((apply EM.lenT); (focus sizeOf_list_dec))
  | ((apply EM.isSeqL); (focus sizeOf_list_dec); (focus sizeOf_list_dec))
  | ((apply EM.isSeqT); (focus sizeOf_list_dec); (focus sizeOf_list_dec))
  | ((apply EM.tupL); (focus sizeOf_list_dec))
  | ((with_reducible refine EM.New.bs (by with_reducible assumption) ?_ ?_); (focus (intro _ z; cases z; done)))
  | ((with_reducible refine EM.gMu ?_); (with_reducible apply EM.mu_bs); (focus (with_reducible assumption)); (focus sizeOf_list_dec); (focus (apply EM.nel2; (focus (with_reducible assumption)); (focus (with_reducible assumption)))); intro _ _ _)
  | intro _
  | (apply And.intro; (focus array_get_dec))
  | apply Exists.intro
  | (refine EM.draw_bs (by with_reducible assumption) ?_ ?_ ?_ ?_; (focus array_get_dec); (focus array_get_dec); (focus (first | decide | omega)))
  | (apply EM.pick_bs; (focus (with_reducible assumption)); (focus array_get_dec); (focus sizeOf_list_dec); (focus (exact Nat.le_of_ble_eq_true rfl)); (focus (exact Nat.le_of_ble_eq_true rfl)))
  | ((apply EM.repr_sw); (focus infer_instance); (focus nofun); (focus decide))
  | ((apply EM.eqd_same); (focus infer_instance); (focus infer_instance); (focus nofun); (focus decide))
  | ((apply EM.ned_same); (focus infer_instance); (focus infer_instance); (focus nofun); (focus decide))
  | ((apply EM.eqd_sw); (focus infer_instance); (focus infer_instance); (focus nofun); (focus nofun); (focus decide))
  | ((apply EM.ned_sw); (focus infer_instance); (focus infer_instance); (focus nofun); (focus nofun); (focus decide))
  | (refine EM.cut_bs (by with_reducible assumption) ?_ ?_ ?_; (focus array_get_dec); (focus array_get_dec)))))
section
variable {P : Program} {w : World} {K : PySem.W.Frag} {mg : Str → Option Value} {base : Heap}
theorem st_s {v : V} : L2.start ["_law_left", "_law_found", "_law_error"] [v] = [some v, none, none] := rfl
theorem ok_Lsingles (T : Tx K mg) : FnR P w K mg base (L2.CX P w) 4 (He.ga K "_law_singles") (spSingles K) := by
  obtain ⟨fd, F⟩ := T.d_Lsingles
  refine EM.fnr F sc_Lsingles (fun _ _ _ _ _ _ us hl => match us, hl with | [_], _ => rfl) (fun vs H Q E h => ?_) (fun cdv A outer s H vs Q E hr h => ?_)
  · obtain ⟨T0, p, l, n, v, rfl, _⟩ := h
    rfl
  · obtain ⟨T0, p, l, n, v, rfl, B0, k⟩ := h
    refine ⟨_, (PSs.nox (pss_cons (ps_set (i := 1) sc_Lsingles.nd rfl (Or.inl rfl) (EM.pe_lstN pa_nil))
 (pss_cons (ps_set (i := 2) sc_Lsingles.nd rfl (Or.inl rfl) (pe_BadRatio T (hr.mono (by decide)) (pv 0)))
 (pss_cons (ps_expr (EM.pe_appN (pv 1) (EM.pe_tupN (pa_cons (pv 2) (pa_cons (EM.pe_lstN (pa_cons (pe_xk (pv 2)) (pa_cons (pe_xk (pe_BadRatiok T (hr.mono (by decide)) (pk_cons (pv 0) pk_nil))) pa_nil))) pa_nil)))))
 (pss_cons (ps_set (i := 2) sc_Lsingles.nd rfl (Or.inl rfl) (pe_BadMark T (hr.mono (by decide)) (pv 0)))
 (pss_cons (ps_expr (EM.pe_appN (pv 1) (EM.pe_tupN (pa_cons (pv 2) (pa_cons (EM.pe_lstN (pa_cons (pe_xk (pv 2)) (pa_cons (pe_xk (pe_BadMarkk T (hr.mono (by decide)) (pk_cons (pv 0) pk_nil))) pa_nil))) pa_nil)))))
 (pss_cons (ps_set (i := 2) sc_Lsingles.nd rfl (Or.inl rfl) (pe_NoEdge T (hr.mono (by decide)) (pv 0)))
 (pss_cons (ps_expr (EM.pe_appN (pv 1) (EM.pe_tupN (pa_cons (pv 2) (pa_cons (EM.pe_lstN (pa_cons (pe_xk (pv 2)) (pa_cons (pe_xk (pe_NoEdgek T (hr.mono (by decide)) (pk_cons (pv 0) pk_nil))) pa_nil))) pa_nil)))))
 (pss_cons (ps_set (i := 2) sc_Lsingles.nd rfl (Or.inl rfl) (pe_BadReading T (hr.mono (by decide)) (pv 0)))
 (pss_cons (ps_expr (EM.pe_appN (pv 1) (EM.pe_tupN (pa_cons (pv 2) (pa_cons (EM.pe_lstN (pa_cons (pe_xk (pv 2)) (pa_cons (pe_xk (pe_BadReadingk T (hr.mono (by decide)) (pk_cons (pv 0) pk_nil))) pa_nil))) pa_nil)))))
 (pss_cons (ps_set (i := 2) sc_Lsingles.nd rfl (Or.inl rfl) (pe_NotRising T (hr.mono (by decide)) (pv 0)))
 (pss_cons (ps_expr (EM.pe_appN (pv 1) (EM.pe_tupN (pa_cons (pv 2) (pa_cons (EM.pe_lstN (pa_cons (pe_xk (pv 2)) (pa_cons (pe_xk (pe_NotRisingk T (hr.mono (by decide)) (pk_cons (pv 0) pk_nil))) pa_nil))) pa_nil)))))
 (pss_cons (ps_set (i := 2) sc_Lsingles.nd rfl (Or.inl rfl) (pe_NoStretch T (hr.mono (by decide)) (pv 0)))
 (pss_cons (ps_expr (EM.pe_appN (pv 1) (EM.pe_tupN (pa_cons (pv 2) (pa_cons (EM.pe_lstN (pa_cons (pe_xk (pv 2)) (pa_cons (pe_xk (pe_NoStretchk T (hr.mono (by decide)) (pk_cons (pv 0) pk_nil))) pa_nil))) pa_nil)))))
 (pss_cons (ps_set (i := 2) sc_Lsingles.nd rfl (Or.inl rfl) (pe_BadView T (hr.mono (by decide)) (pv 0)))
 (pss_cons (ps_expr (EM.pe_appN (pv 1) (EM.pe_tupN (pa_cons (pv 2) (pa_cons (EM.pe_lstN (pa_cons (pe_xk (pv 2)) (pa_cons (pe_xk (pe_BadViewk T (hr.mono (by decide)) (pk_cons (pv 0) pk_nil))) pa_nil))) pa_nil)))))
 (pss_cons (ps_set (i := 2) sc_Lsingles.nd rfl (Or.inl rfl) (pe_BadTerms T (hr.mono (by decide)) (pv 0)))
 (pss_cons (ps_expr (EM.pe_appN (pv 1) (EM.pe_tupN (pa_cons (pv 2) (pa_cons (EM.pe_lstN (pa_cons (pe_xk (pv 2)) (pa_cons (pe_xk (pe_BadTermsk T (hr.mono (by decide)) (pk_cons (pv 0) pk_nil))) pa_nil))) pa_nil)))))
 (pss_cons (ps_set (i := 2) sc_Lsingles.nd rfl (Or.inl rfl) (pe_BadWeights T (hr.mono (by decide)) (pv 0)))
 (pss_cons (ps_expr (EM.pe_appN (pv 1) (EM.pe_tupN (pa_cons (pv 2) (pa_cons (EM.pe_lstN (pa_cons (pe_xk (pv 2)) (pa_cons (pe_xk (pe_BadWeightsk T (hr.mono (by decide)) (pk_cons (pv 0) pk_nil))) pa_nil))) pa_nil)))))
 (pss_cons (ps_set (i := 2) sc_Lsingles.nd rfl (Or.inl rfl) (pe_BadName T (hr.mono (by decide)) (pv 0)))
 (pss_cons (ps_expr (EM.pe_appN (pv 1) (EM.pe_tupN (pa_cons (pv 2) (pa_cons (EM.pe_lstN (pa_cons (pe_xk (pv 2)) (pa_cons (pe_xk (pe_BadNamek T (hr.mono (by decide)) (pk_cons (pv 0) pk_nil))) pa_nil))) pa_nil)))))
 (pss_cons (ps_set (i := 2) sc_Lsingles.nd rfl (Or.inl rfl) (pe_NoName T (hr.mono (by decide)) (pv 0)))
 (pss_cons (ps_expr (EM.pe_appN (pv 1) (EM.pe_tupN (pa_cons (pv 2) (pa_cons (EM.pe_lstN (pa_cons (pe_xk (pv 2)) (pa_cons (pe_xk (pe_NoNamek T (hr.mono (by decide)) (pk_cons (pv 0) pk_nil))) pa_nil))) pa_nil)))))
 (pss_cons (ps_set (i := 2) sc_Lsingles.nd rfl (Or.inl rfl) (pe_TooMany T (hr.mono (by decide)) (pv 0)))
 (pss_cons (ps_expr (EM.pe_appN (pv 1) (EM.pe_tupN (pa_cons (pv 2) (pa_cons (EM.pe_lstN (pa_cons (pe_xk (pv 2)) (pa_cons (pe_xk (pe_TooManyk T (hr.mono (by decide)) (pk_cons (pv 0) pk_nil))) pa_nil))) pa_nil)))))
 (pss_cons (ps_set (i := 2) sc_Lsingles.nd rfl (Or.inl rfl) (pe_BadError T (hr.mono (by decide)) (pv 0)))
 (pss_cons (ps_expr (EM.pe_appN (pv 1) (EM.pe_tupN (pa_cons (pv 2) (pa_cons (EM.pe_lstN (pa_cons (pe_xk (pv 2)) (pa_cons (pe_xk (pe_BadErrork T (hr.mono (by decide)) (pk_cons (pv 0) pk_nil))) pa_nil))) pa_nil)))))
 (pss_cons (ps_set (i := 2) sc_Lsingles.nd rfl (Or.inl rfl) (pe_BadCount T (hr.mono (by decide)) (pv 0)))
 (pss_cons (ps_expr (EM.pe_appN (pv 1) (EM.pe_tupN (pa_cons (pv 2) (pa_cons (EM.pe_lstN (pa_cons (pe_xk (pv 2)) (pa_cons (pe_xk (pe_BadCountk T (hr.mono (by decide)) (pk_cons (pv 0) pk_nil))) pa_nil))) pa_nil)))))
 (pss_one (ps_ret (pv 1))))))))))))))))))))))))))))))))), ?_⟩
    repeat' array_mem_dec
    dsimp only [st_s, List.set_cons_zero, List.set_cons_succ]
    --S0
    rename_i F H0 y0 C0 a0 nF
    have hs0 : RowsP K p H0 [v, v] F 0 [] := RowsP.nil
    have z0 : OpenE p F H0 H0 := OpenE.refl
    --A1
    refine XvS.bs C0 fun e d G1 x1 B1 f1 ne => ?_
    repeat' array_mem_dec
    refine ⟨p, e, _, d, _, v, rfl, f1, T.xf_BadRatio, T.na_BadRatio_part, rfl, ?_⟩
    repeat' array_mem_dec
    refine XvS.bs B1 fun e2 d2 G2 x2 B2 f2 ne2 => ?_
    repeat' array_mem_dec
    refine ⟨p, e2, _, d2, _, v, rfl, f2, T.xf_BadRatio, T.na_BadRatio_part, rfl, ?_⟩
    repeat' array_mem_dec
    dsimp only [st_s, List.set_cons_zero, List.set_cons_succ]
    --B1
    rename_i kk G3 x3 B3 ak nk r1 G4 x4 B4 ar nr H1 mu C1
    have aF2 := (a0.ext x1).ext x2
    have aF4 := (aF2.ext x3).ext x4
    have a1 : At p H1 F (.lst [.ref r1]) := mu.here aF4
    have hs1 : RowsP K p H1 [v, v] F 0 [.ref r1] := RowsP.step (i := 0) ((hs0.ext (x1.trans x2)).ext (x3.trans x4)) rfl aF4 (.fld rfl (f1.ext ((x2.trans x3).trans x4))) (ak.ext x4) (ne_new aF2 nk) ar mu
    have z1 : OpenE p F H0 H1 := z0.step x1 x2 x3 x4 mu
    clear hs0 a0 z0 x1 x2 x3 x4 mu ak nk ar nr aF2 aF4 f1 f2 ne ne2 B1 B2 B3 B4 C0
    --A2
    refine XvS.bs C1 fun e d G1 x1 B1 f1 ne => ?_
    repeat' array_mem_dec
    refine ⟨p, e, _, d, _, v, rfl, f1, T.xf_BadMark, T.na_BadMark_at, rfl, ?_⟩
    repeat' array_mem_dec
    refine XvS.bs B1 fun e2 d2 G2 x2 B2 f2 ne2 => ?_
    repeat' array_mem_dec
    refine ⟨p, e2, _, d2, _, v, rfl, f2, T.xf_BadMark, T.na_BadMark_at, rfl, ?_⟩
    repeat' array_mem_dec
    dsimp only [st_s, List.set_cons_zero, List.set_cons_succ]
    --B2
    rename_i kk G3 x3 B3 ak nk r2 G4 x4 B4 ar nr H2 mu C2
    have aF2 := (a1.ext x1).ext x2
    have aF4 := (aF2.ext x3).ext x4
    have a2 : At p H2 F (.lst [.ref r1, .ref r2]) := mu.here aF4
    have hs2 : RowsP K p H2 [v, v] F 0 [.ref r1, .ref r2] := RowsP.step (i := 1) ((hs1.ext (x1.trans x2)).ext (x3.trans x4)) rfl aF4 (.fld rfl (f1.ext ((x2.trans x3).trans x4))) (ak.ext x4) (ne_new aF2 nk) ar mu
    have z2 : OpenE p F H0 H2 := z1.step x1 x2 x3 x4 mu
    clear hs1 a1 z1 x1 x2 x3 x4 mu ak nk ar nr aF2 aF4 f1 f2 ne ne2 B1 B2 B3 B4 C1
    --A3
    refine XvS.bs C2 fun e d G1 x1 B1 f1 ne => ?_
    repeat' array_mem_dec
    refine ⟨p, e, _, d, _, v, rfl, f1, T.xf_NoEdge, T.na_NoEdge_value, rfl, ?_⟩
    repeat' array_mem_dec
    refine XvS.bs B1 fun e2 d2 G2 x2 B2 f2 ne2 => ?_
    repeat' array_mem_dec
    refine ⟨p, e2, _, d2, _, v, rfl, f2, T.xf_NoEdge, T.na_NoEdge_value, rfl, ?_⟩
    repeat' array_mem_dec
    dsimp only [st_s, List.set_cons_zero, List.set_cons_succ]
    --B3
    rename_i kk G3 x3 B3 ak nk r3 G4 x4 B4 ar nr H3 mu C3
    have aF2 := (a2.ext x1).ext x2
    have aF4 := (aF2.ext x3).ext x4
    have a3 : At p H3 F (.lst [.ref r1, .ref r2, .ref r3]) := mu.here aF4
    have hs3 : RowsP K p H3 [v, v] F 0 [.ref r1, .ref r2, .ref r3] := RowsP.step (i := 2) ((hs2.ext (x1.trans x2)).ext (x3.trans x4)) rfl aF4 (.fld rfl (f1.ext ((x2.trans x3).trans x4))) (ak.ext x4) (ne_new aF2 nk) ar mu
    have z3 : OpenE p F H0 H3 := z2.step x1 x2 x3 x4 mu
    clear hs2 a2 z2 x1 x2 x3 x4 mu ak nk ar nr aF2 aF4 f1 f2 ne ne2 B1 B2 B3 B4 C2
    --A4
    refine XvS.bs C3 fun e d G1 x1 B1 f1 ne => ?_
    repeat' array_mem_dec
    refine ⟨p, e, _, d, _, v, rfl, f1, T.xf_BadReading, T.na_BadReading_at, rfl, ?_⟩
    repeat' array_mem_dec
    refine XvS.bs B1 fun e2 d2 G2 x2 B2 f2 ne2 => ?_
    repeat' array_mem_dec
    refine ⟨p, e2, _, d2, _, v, rfl, f2, T.xf_BadReading, T.na_BadReading_at, rfl, ?_⟩
    repeat' array_mem_dec
    dsimp only [st_s, List.set_cons_zero, List.set_cons_succ]
    --B4
    rename_i kk G3 x3 B3 ak nk r4 G4 x4 B4 ar nr H4 mu C4
    have aF2 := (a3.ext x1).ext x2
    have aF4 := (aF2.ext x3).ext x4
    have a4 : At p H4 F (.lst [.ref r1, .ref r2, .ref r3, .ref r4]) := mu.here aF4
    have hs4 : RowsP K p H4 [v, v] F 0 [.ref r1, .ref r2, .ref r3, .ref r4] := RowsP.step (i := 3) ((hs3.ext (x1.trans x2)).ext (x3.trans x4)) rfl aF4 (.fld rfl (f1.ext ((x2.trans x3).trans x4))) (ak.ext x4) (ne_new aF2 nk) ar mu
    have z4 : OpenE p F H0 H4 := z3.step x1 x2 x3 x4 mu
    clear hs3 a3 z3 x1 x2 x3 x4 mu ak nk ar nr aF2 aF4 f1 f2 ne ne2 B1 B2 B3 B4 C3
    --A5
    refine XvS.bs C4 fun e d G1 x1 B1 f1 ne => ?_
    repeat' array_mem_dec
    refine ⟨p, e, _, d, _, v, rfl, f1, T.xf_NotRising, T.na_NotRising_at, rfl, ?_⟩
    repeat' array_mem_dec
    refine XvS.bs B1 fun e2 d2 G2 x2 B2 f2 ne2 => ?_
    repeat' array_mem_dec
    refine ⟨p, e2, _, d2, _, v, rfl, f2, T.xf_NotRising, T.na_NotRising_at, rfl, ?_⟩
    repeat' array_mem_dec
    dsimp only [st_s, List.set_cons_zero, List.set_cons_succ]
    --B5
    rename_i kk G3 x3 B3 ak nk r5 G4 x4 B4 ar nr H5 mu C5
    have aF2 := (a4.ext x1).ext x2
    have aF4 := (aF2.ext x3).ext x4
    have a5 : At p H5 F (.lst [.ref r1, .ref r2, .ref r3, .ref r4, .ref r5]) := mu.here aF4
    have hs5 : RowsP K p H5 [v, v] F 0 [.ref r1, .ref r2, .ref r3, .ref r4, .ref r5] := RowsP.step (i := 4) ((hs4.ext (x1.trans x2)).ext (x3.trans x4)) rfl aF4 (.fld rfl (f1.ext ((x2.trans x3).trans x4))) (ak.ext x4) (ne_new aF2 nk) ar mu
    have z5 : OpenE p F H0 H5 := z4.step x1 x2 x3 x4 mu
    clear hs4 a4 z4 x1 x2 x3 x4 mu ak nk ar nr aF2 aF4 f1 f2 ne ne2 B1 B2 B3 B4 C4
    --A6
    refine XvS.bs C5 fun e d G1 x1 B1 f1 ne => ?_
    repeat' array_mem_dec
    refine ⟨p, e, _, d, _, v, rfl, f1, T.xf_NoStretch, T.na_NoStretch_value, rfl, ?_⟩
    repeat' array_mem_dec
    refine XvS.bs B1 fun e2 d2 G2 x2 B2 f2 ne2 => ?_
    repeat' array_mem_dec
    refine ⟨p, e2, _, d2, _, v, rfl, f2, T.xf_NoStretch, T.na_NoStretch_value, rfl, ?_⟩
    repeat' array_mem_dec
    dsimp only [st_s, List.set_cons_zero, List.set_cons_succ]
    --B6
    rename_i kk G3 x3 B3 ak nk r6 G4 x4 B4 ar nr H6 mu C6
    have aF2 := (a5.ext x1).ext x2
    have aF4 := (aF2.ext x3).ext x4
    have a6 : At p H6 F (.lst [.ref r1, .ref r2, .ref r3, .ref r4, .ref r5, .ref r6]) := mu.here aF4
    have hs6 : RowsP K p H6 [v, v] F 0 [.ref r1, .ref r2, .ref r3, .ref r4, .ref r5, .ref r6] := RowsP.step (i := 5) ((hs5.ext (x1.trans x2)).ext (x3.trans x4)) rfl aF4 (.fld rfl (f1.ext ((x2.trans x3).trans x4))) (ak.ext x4) (ne_new aF2 nk) ar mu
    have z6 : OpenE p F H0 H6 := z5.step x1 x2 x3 x4 mu
    clear hs5 a5 z5 x1 x2 x3 x4 mu ak nk ar nr aF2 aF4 f1 f2 ne ne2 B1 B2 B3 B4 C5
    --A7
    refine XvS.bs C6 fun e d G1 x1 B1 f1 ne => ?_
    repeat' array_mem_dec
    refine ⟨p, e, _, d, _, v, rfl, f1, T.xf_BadView, T.na_BadView_part, rfl, ?_⟩
    repeat' array_mem_dec
    refine XvS.bs B1 fun e2 d2 G2 x2 B2 f2 ne2 => ?_
    repeat' array_mem_dec
    refine ⟨p, e2, _, d2, _, v, rfl, f2, T.xf_BadView, T.na_BadView_part, rfl, ?_⟩
    repeat' array_mem_dec
    dsimp only [st_s, List.set_cons_zero, List.set_cons_succ]
    --B7
    rename_i kk G3 x3 B3 ak nk r7 G4 x4 B4 ar nr H7 mu C7
    have aF2 := (a6.ext x1).ext x2
    have aF4 := (aF2.ext x3).ext x4
    have a7 : At p H7 F (.lst [.ref r1, .ref r2, .ref r3, .ref r4, .ref r5, .ref r6, .ref r7]) := mu.here aF4
    have hs7 : RowsP K p H7 [v, v] F 0 [.ref r1, .ref r2, .ref r3, .ref r4, .ref r5, .ref r6, .ref r7] := RowsP.step (i := 6) ((hs6.ext (x1.trans x2)).ext (x3.trans x4)) rfl aF4 (.fld rfl (f1.ext ((x2.trans x3).trans x4))) (ak.ext x4) (ne_new aF2 nk) ar mu
    have z7 : OpenE p F H0 H7 := z6.step x1 x2 x3 x4 mu
    clear hs6 a6 z6 x1 x2 x3 x4 mu ak nk ar nr aF2 aF4 f1 f2 ne ne2 B1 B2 B3 B4 C6
    --A8
    refine XvS.bs C7 fun e d G1 x1 B1 f1 ne => ?_
    repeat' array_mem_dec
    refine ⟨p, e, _, d, _, v, rfl, f1, T.xf_BadTerms, T.na_BadTerms_part, rfl, ?_⟩
    repeat' array_mem_dec
    refine XvS.bs B1 fun e2 d2 G2 x2 B2 f2 ne2 => ?_
    repeat' array_mem_dec
    refine ⟨p, e2, _, d2, _, v, rfl, f2, T.xf_BadTerms, T.na_BadTerms_part, rfl, ?_⟩
    repeat' array_mem_dec
    dsimp only [st_s, List.set_cons_zero, List.set_cons_succ]
    --B8
    rename_i kk G3 x3 B3 ak nk r8 G4 x4 B4 ar nr H8 mu C8
    have aF2 := (a7.ext x1).ext x2
    have aF4 := (aF2.ext x3).ext x4
    have a8 : At p H8 F (.lst [.ref r1, .ref r2, .ref r3, .ref r4, .ref r5, .ref r6, .ref r7, .ref r8]) := mu.here aF4
    have hs8 : RowsP K p H8 [v, v] F 0 [.ref r1, .ref r2, .ref r3, .ref r4, .ref r5, .ref r6, .ref r7, .ref r8] := RowsP.step (i := 7) ((hs7.ext (x1.trans x2)).ext (x3.trans x4)) rfl aF4 (.fld rfl (f1.ext ((x2.trans x3).trans x4))) (ak.ext x4) (ne_new aF2 nk) ar mu
    have z8 : OpenE p F H0 H8 := z7.step x1 x2 x3 x4 mu
    clear hs7 a7 z7 x1 x2 x3 x4 mu ak nk ar nr aF2 aF4 f1 f2 ne ne2 B1 B2 B3 B4 C7
    --A9
    refine XvS.bs C8 fun e d G1 x1 B1 f1 ne => ?_
    repeat' array_mem_dec
    refine ⟨p, e, _, d, _, v, rfl, f1, T.xf_BadWeights, T.na_BadWeights_part, rfl, ?_⟩
    repeat' array_mem_dec
    refine XvS.bs B1 fun e2 d2 G2 x2 B2 f2 ne2 => ?_
    repeat' array_mem_dec
    refine ⟨p, e2, _, d2, _, v, rfl, f2, T.xf_BadWeights, T.na_BadWeights_part, rfl, ?_⟩
    repeat' array_mem_dec
    dsimp only [st_s, List.set_cons_zero, List.set_cons_succ]
    --B9
    rename_i kk G3 x3 B3 ak nk r9 G4 x4 B4 ar nr H9 mu C9
    have aF2 := (a8.ext x1).ext x2
    have aF4 := (aF2.ext x3).ext x4
    have a9 : At p H9 F (.lst [.ref r1, .ref r2, .ref r3, .ref r4, .ref r5, .ref r6, .ref r7, .ref r8, .ref r9]) := mu.here aF4
    have hs9 : RowsP K p H9 [v, v] F 0 [.ref r1, .ref r2, .ref r3, .ref r4, .ref r5, .ref r6, .ref r7, .ref r8, .ref r9] := RowsP.step (i := 8) ((hs8.ext (x1.trans x2)).ext (x3.trans x4)) rfl aF4 (.fld rfl (f1.ext ((x2.trans x3).trans x4))) (ak.ext x4) (ne_new aF2 nk) ar mu
    have z9 : OpenE p F H0 H9 := z8.step x1 x2 x3 x4 mu
    clear hs8 a8 z8 x1 x2 x3 x4 mu ak nk ar nr aF2 aF4 f1 f2 ne ne2 B1 B2 B3 B4 C8
    --A10
    refine XvS.bs C9 fun e d G1 x1 B1 f1 ne => ?_
    repeat' array_mem_dec
    refine ⟨p, e, _, d, _, v, rfl, f1, T.xf_BadName, T.na_BadName_name, rfl, ?_⟩
    repeat' array_mem_dec
    refine XvS.bs B1 fun e2 d2 G2 x2 B2 f2 ne2 => ?_
    repeat' array_mem_dec
    refine ⟨p, e2, _, d2, _, v, rfl, f2, T.xf_BadName, T.na_BadName_name, rfl, ?_⟩
    repeat' array_mem_dec
    dsimp only [st_s, List.set_cons_zero, List.set_cons_succ]
    --B10
    rename_i kk G3 x3 B3 ak nk r10 G4 x4 B4 ar nr H10 mu C10
    have aF2 := (a9.ext x1).ext x2
    have aF4 := (aF2.ext x3).ext x4
    have a10 : At p H10 F (.lst [.ref r1, .ref r2, .ref r3, .ref r4, .ref r5, .ref r6, .ref r7, .ref r8, .ref r9, .ref r10]) := mu.here aF4
    have hs10 : RowsP K p H10 [v, v] F 0 [.ref r1, .ref r2, .ref r3, .ref r4, .ref r5, .ref r6, .ref r7, .ref r8, .ref r9, .ref r10] := RowsP.step (i := 9) ((hs9.ext (x1.trans x2)).ext (x3.trans x4)) rfl aF4 (.fld rfl (f1.ext ((x2.trans x3).trans x4))) (ak.ext x4) (ne_new aF2 nk) ar mu
    have z10 : OpenE p F H0 H10 := z9.step x1 x2 x3 x4 mu
    clear hs9 a9 z9 x1 x2 x3 x4 mu ak nk ar nr aF2 aF4 f1 f2 ne ne2 B1 B2 B3 B4 C9
    --A11
    refine XvS.bs C10 fun e d G1 x1 B1 f1 ne => ?_
    repeat' array_mem_dec
    refine ⟨p, e, _, d, _, v, rfl, f1, T.xf_NoName, T.na_NoName_name, rfl, ?_⟩
    repeat' array_mem_dec
    refine XvS.bs B1 fun e2 d2 G2 x2 B2 f2 ne2 => ?_
    repeat' array_mem_dec
    refine ⟨p, e2, _, d2, _, v, rfl, f2, T.xf_NoName, T.na_NoName_name, rfl, ?_⟩
    repeat' array_mem_dec
    dsimp only [st_s, List.set_cons_zero, List.set_cons_succ]
    --B11
    rename_i kk G3 x3 B3 ak nk r11 G4 x4 B4 ar nr H11 mu C11
    have aF2 := (a10.ext x1).ext x2
    have aF4 := (aF2.ext x3).ext x4
    have a11 : At p H11 F (.lst [.ref r1, .ref r2, .ref r3, .ref r4, .ref r5, .ref r6, .ref r7, .ref r8, .ref r9, .ref r10, .ref r11]) := mu.here aF4
    have hs11 : RowsP K p H11 [v, v] F 0 [.ref r1, .ref r2, .ref r3, .ref r4, .ref r5, .ref r6, .ref r7, .ref r8, .ref r9, .ref r10, .ref r11] := RowsP.step (i := 10) ((hs10.ext (x1.trans x2)).ext (x3.trans x4)) rfl aF4 (.fld rfl (f1.ext ((x2.trans x3).trans x4))) (ak.ext x4) (ne_new aF2 nk) ar mu
    have z11 : OpenE p F H0 H11 := z10.step x1 x2 x3 x4 mu
    clear hs10 a10 z10 x1 x2 x3 x4 mu ak nk ar nr aF2 aF4 f1 f2 ne ne2 B1 B2 B3 B4 C10
    --A12
    refine XvS.bs C11 fun e d G1 x1 B1 f1 ne => ?_
    repeat' array_mem_dec
    refine ⟨p, e, _, d, _, v, rfl, f1, T.xf_TooMany, T.na_TooMany_most, rfl, ?_⟩
    repeat' array_mem_dec
    refine XvS.bs B1 fun e2 d2 G2 x2 B2 f2 ne2 => ?_
    repeat' array_mem_dec
    refine ⟨p, e2, _, d2, _, v, rfl, f2, T.xf_TooMany, T.na_TooMany_most, rfl, ?_⟩
    repeat' array_mem_dec
    dsimp only [st_s, List.set_cons_zero, List.set_cons_succ]
    --B12
    rename_i kk G3 x3 B3 ak nk r12 G4 x4 B4 ar nr H12 mu C12
    have aF2 := (a11.ext x1).ext x2
    have aF4 := (aF2.ext x3).ext x4
    have a12 : At p H12 F (.lst [.ref r1, .ref r2, .ref r3, .ref r4, .ref r5, .ref r6, .ref r7, .ref r8, .ref r9, .ref r10, .ref r11, .ref r12]) := mu.here aF4
    have hs12 : RowsP K p H12 [v, v] F 0 [.ref r1, .ref r2, .ref r3, .ref r4, .ref r5, .ref r6, .ref r7, .ref r8, .ref r9, .ref r10, .ref r11, .ref r12] := RowsP.step (i := 11) ((hs11.ext (x1.trans x2)).ext (x3.trans x4)) rfl aF4 (.fld rfl (f1.ext ((x2.trans x3).trans x4))) (ak.ext x4) (ne_new aF2 nk) ar mu
    have z12 : OpenE p F H0 H12 := z11.step x1 x2 x3 x4 mu
    clear hs11 a11 z11 x1 x2 x3 x4 mu ak nk ar nr aF2 aF4 f1 f2 ne ne2 B1 B2 B3 B4 C11
    --A13
    refine XvS.bs C12 fun e d G1 x1 B1 f1 ne => ?_
    repeat' array_mem_dec
    refine ⟨p, e, _, d, _, v, rfl, f1, T.xf_BadError, T.na_BadError_value, rfl, ?_⟩
    repeat' array_mem_dec
    refine XvS.bs B1 fun e2 d2 G2 x2 B2 f2 ne2 => ?_
    repeat' array_mem_dec
    refine ⟨p, e2, _, d2, _, v, rfl, f2, T.xf_BadError, T.na_BadError_value, rfl, ?_⟩
    repeat' array_mem_dec
    dsimp only [st_s, List.set_cons_zero, List.set_cons_succ]
    --B13
    rename_i kk G3 x3 B3 ak nk r13 G4 x4 B4 ar nr H13 mu C13
    have aF2 := (a12.ext x1).ext x2
    have aF4 := (aF2.ext x3).ext x4
    have a13 : At p H13 F (.lst [.ref r1, .ref r2, .ref r3, .ref r4, .ref r5, .ref r6, .ref r7, .ref r8, .ref r9, .ref r10, .ref r11, .ref r12, .ref r13]) := mu.here aF4
    have hs13 : RowsP K p H13 [v, v] F 0 [.ref r1, .ref r2, .ref r3, .ref r4, .ref r5, .ref r6, .ref r7, .ref r8, .ref r9, .ref r10, .ref r11, .ref r12, .ref r13] := RowsP.step (i := 12) ((hs12.ext (x1.trans x2)).ext (x3.trans x4)) rfl aF4 (.fld rfl (f1.ext ((x2.trans x3).trans x4))) (ak.ext x4) (ne_new aF2 nk) ar mu
    have z13 : OpenE p F H0 H13 := z12.step x1 x2 x3 x4 mu
    clear hs12 a12 z12 x1 x2 x3 x4 mu ak nk ar nr aF2 aF4 f1 f2 ne ne2 B1 B2 B3 B4 C12
    --A14
    refine XvS.bs C13 fun e d G1 x1 B1 f1 ne => ?_
    repeat' array_mem_dec
    refine ⟨p, e, _, d, _, v, rfl, f1, T.xf_BadCount, T.na_BadCount_value, rfl, ?_⟩
    repeat' array_mem_dec
    refine XvS.bs B1 fun e2 d2 G2 x2 B2 f2 ne2 => ?_
    repeat' array_mem_dec
    refine ⟨p, e2, _, d2, _, v, rfl, f2, T.xf_BadCount, T.na_BadCount_value, rfl, ?_⟩
    repeat' array_mem_dec
    dsimp only [st_s, List.set_cons_zero, List.set_cons_succ]
    --B14
    rename_i kk G3 x3 B3 ak nk r14 G4 x4 B4 ar nr H14 mu C14
    have aF2 := (a13.ext x1).ext x2
    have aF4 := (aF2.ext x3).ext x4
    have a14 : At p H14 F (.lst [.ref r1, .ref r2, .ref r3, .ref r4, .ref r5, .ref r6, .ref r7, .ref r8, .ref r9, .ref r10, .ref r11, .ref r12, .ref r13, .ref r14]) := mu.here aF4
    have hs14 : RowsP K p H14 [v, v] F 0 [.ref r1, .ref r2, .ref r3, .ref r4, .ref r5, .ref r6, .ref r7, .ref r8, .ref r9, .ref r10, .ref r11, .ref r12, .ref r13, .ref r14] := RowsP.step (i := 13) ((hs13.ext (x1.trans x2)).ext (x3.trans x4)) rfl aF4 (.fld rfl (f1.ext ((x2.trans x3).trans x4))) (ak.ext x4) (ne_new aF2 nk) ar mu
    have z14 : OpenE p F H0 H14 := z13.step x1 x2 x3 x4 mu
    clear hs13 a13 z13 x1 x2 x3 x4 mu ak nk ar nr aF2 aF4 f1 f2 ne ne2 B1 B2 B3 B4 C13
    exact k F _ _ (z14.close y0 nF) C14 a14 rfl hs14
end
end K01
namespace K01
open PySem PySem.Spec PyProof.Rows L2 EM
local macro_rules | `(tactic| sizeOf_list_dec) => `(tactic| first
  | with_reducible assumption
  | ((with_reducible apply EM.At.ext); (focus (with_reducible assumption)); (focus sizeOf_list_dec))
  | ((with_reducible apply EM.RatP.ext); (focus (with_reducible assumption)); (focus sizeOf_list_dec))
  | ((with_reducible apply EM.NumP.ext); (focus (with_reducible assumption)); (focus sizeOf_list_dec))
  | (with_reducible exact EM.Ext.refl)
  | ((with_reducible apply EM.Ext.back); (focus (with_reducible assumption)); (focus sizeOf_list_dec))
  | exact EM.NumP.int _
  | ((with_reducible apply EM.Mu.at_k); (focus (with_reducible assumption)); (focus sizeOf_list_dec); (focus sizeOf_list_dec); (focus (intro _ z; cases z; done)))
  | ((with_reducible apply EM.Mu.at_n); (focus (with_reducible assumption)); (focus sizeOf_list_dec); (focus (first | with_reducible assumption | ((apply EM.nn1); (focus (with_reducible assumption)); (focus sizeOf_list_dec)) | ((apply EM.nn2); (focus (with_reducible assumption)); (focus sizeOf_list_dec)))))
  | ((with_reducible apply EM.Mu.here); (focus (with_reducible assumption)); (focus sizeOf_list_dec))
  | ((with_reducible apply EM.Mu.rat); (focus (with_reducible assumption)); (focus sizeOf_list_dec); (focus sizeOf_list_dec))
  | ((with_reducible apply EM.Mu.num); (focus (with_reducible assumption)); (focus sizeOf_list_dec); (focus sizeOf_list_dec))
  | ((with_reducible apply EM.num_of_rat); (focus sizeOf_list_dec); (focus (first | with_reducible assumption | (apply EM.n_low; assumption))))
  | ((with_reducible apply ErrQ.ext); (focus (with_reducible assumption)); (focus sizeOf_list_dec)))
local macro_rules | `(tactic| decreasing_trivial_pre_omega) => `(tactic| first
  | with_reducible assumption
  | exact EM.Bt.mono (by with_reducible assumption) (by decide)
  | exact EM.Bt.lit _ _ (by decide +kernel)
  | ((with_reducible refine EM.Bt.rng32 ?_ ?_) <;> omega)
  | ((with_reducible refine EM.Bt.rng70 ?_ ?_) <;> omega)
  | ((with_reducible refine EM.Bt.rng200 ?_ ?_) <;> omega)
  | ((with_reducible apply EM.Bt.mulM); (focus decreasing_trivial_pre_omega); (focus decreasing_trivial_pre_omega); (focus (first | decide | exact Nat.le_refl _)))
  | ((with_reducible apply EM.Bt.addM); (focus decreasing_trivial_pre_omega); (focus decreasing_trivial_pre_omega); (focus (first | decide | exact Nat.le_refl _)))
  | ((with_reducible apply EM.Bt.subM); (focus decreasing_trivial_pre_omega); (focus decreasing_trivial_pre_omega); (focus (first | decide | exact Nat.le_refl _)))
  | ((with_reducible apply EM.Bt.topL); (focus decreasing_trivial_pre_omega); (focus assumption); (focus (first | decide | exact Nat.le_refl _)))
  | ((with_reducible apply EM.Bt.botL); (focus decreasing_trivial_pre_omega); (focus assumption); (focus (first | decide | exact Nat.le_refl _)))
  | ((with_reducible apply EM.Bt.divM); (focus decreasing_trivial_pre_omega); (focus assumption); (focus (first | decide | exact Nat.le_refl _)))
  | ((with_reducible apply EM.Bt.negM); (focus decreasing_trivial_pre_omega); (focus (first | decide | exact Nat.le_refl _))))
local macro_rules | `(tactic| array_get_dec) => `(tactic| first
  | with_reducible assumption
  | ((with_reducible refine EM.gEq ?_); exact rfl)
  | ((with_reducible refine EM.gTru ?_); exact rfl)
  | ((with_reducible refine EM.gRef ?_); first | exact Or.inl ⟨_, rfl⟩ | exact Or.inr ⟨_, rfl⟩)
  | ((with_reducible apply EM.At.get); sizeOf_list_dec)
  | ((with_reducible apply EM.At.sqL); sizeOf_list_dec)
  | ((with_reducible apply EM.At.sqT); sizeOf_list_dec)
  | ((with_reducible apply EM.RatP.getK); (focus sizeOf_list_dec); (focus (exact rfl)))
  | (with_reducible exact EM.Num.int _)
  | ((with_reducible apply EM.NumP.getK); (focus sizeOf_list_dec); (focus (exact rfl)))
  | ((with_reducible apply EM.At.ext); (focus (with_reducible assumption)); (focus sizeOf_list_dec))
  | ((with_reducible apply EM.RatP.ext); (focus (with_reducible assumption)); (focus sizeOf_list_dec))
  | ((with_reducible apply EM.NumP.ext); (focus (with_reducible assumption)); (focus sizeOf_list_dec))
  | with_reducible exact Tx.cl_Ratio (by assumption)
  | with_reducible exact Tx.na_Ratio_top (by assumption)
  | with_reducible exact Tx.na_Ratio_bottom (by assumption)
  | ((with_reducible refine EM.gAt ?_); sizeOf_list_dec)
  | ((with_reducible refine EM.gRat ?_); sizeOf_list_dec)
  | ((with_reducible refine EM.gNum ?_); sizeOf_list_dec)
  | ((with_reducible apply EM.TwoP.mk); (focus (with_reducible assumption)); (focus sizeOf_list_dec); (focus (first | with_reducible assumption | (apply EM.n_low; assumption))); (focus sizeOf_list_dec); (focus decreasing_trivial_pre_omega); (focus decreasing_trivial_pre_omega); (focus decreasing_trivial_pre_omega); (focus decreasing_trivial_pre_omega))
  | (with_reducible exact EM.Ext.refl)
  | ((with_reducible apply EM.Ext.back); (focus (with_reducible assumption)); (focus sizeOf_list_dec))
  | ((with_reducible apply EM.Bs.mono); (focus (with_reducible assumption)); omega)
  | ((with_reducible refine EM.gN ?_); first | decide | omega | exact Nat.le_of_ble_eq_true rfl | (simp only [List.length_cons, List.length_nil, List.length_append]; omega))
  | ((with_reducible refine EM.gM ?_); first | decide | omega | exact Nat.le_of_ble_eq_true rfl)
  | ((with_reducible refine EM.gI ?_); first | decide | omega)
  | ((with_reducible refine EM.gJ ?_); first | decide | omega)
  | ((with_reducible refine EM.gE ?_); first | decide | omega)
  | ((with_reducible refine EM.gB ?_); decreasing_trivial_pre_omega)
  | ((with_reducible apply EM.wideM); (focus decreasing_trivial_pre_omega); (focus decreasing_trivial_pre_omega); (focus decide)))
local macro_rules | `(tactic| infer_instance) => `(tactic| first
  | with_reducible assumption
  | exact DpAll.nil
  | (apply DpAll.cons; (focus infer_instance); (focus infer_instance))
  | with_reducible exact Dp.int _
  | exact Dp.int _
  | with_reducible exact Dp.str _
  | exact Dp.bl _
  | exact Dp.non
  | ((with_reducible apply EM.dp_lst); (focus array_get_dec); (focus infer_instance))
  | ((with_reducible apply EM.dp_tup); (focus array_get_dec); (focus infer_instance))
  | exact EM.dp_ints _)
local macro_rules | `(tactic| nofun) => `(tactic| first
  | with_reducible assumption
  | exact EM.FeL.nil
  | exact EM.FdL.nil
  | (apply EM.FeL.cons; (focus nofun); (focus nofun))
  | (apply EM.FdL.cons; (focus nofun); (focus nofun))
  | exact EM.Fe.int _
  | exact EM.Fe.bool _
  | exact EM.Fe.non
  | exact EM.Fe.str (EM.okS_of _)
  | (apply EM.Fe.str; apply EM.Fd.ok; (focus nofun))
  | (apply EM.Fe.list; (focus nofun))
  | (apply EM.Fe.tup; (focus nofun))
  | (apply EM.Fd.int; (focus decreasing_trivial_pre_omega))
  | exact EM.Fd.bool _
  | exact EM.Fd.non
  | (refine EM.Fd.bool _)
  | (apply EM.Fd.list; (focus nofun))
  | (apply EM.Fd.tup; (focus nofun)))
local macro_rules | `(tactic| array_mem_dec) => `(tactic| ((with_reducible refine EM.pr ?_); first
  | (with_reducible refine L2.iteT ?_)
  | (with_reducible refine L2.iteF ?_)
  | (with_reducible refine EM.ifNotT ?_)
  | (with_reducible refine EM.ifNotF ?_)
  | ((fail_if_success (with_reducible refine EM.gIf ?_)); first
  | array_get_dec
  | ((apply EM.DnS.bs); (focus (with_reducible assumption)); (focus (intro _ z; cases z; done)))
  | ((apply EM.seqL); (focus sizeOf_list_dec))
  | ((apply EM.seqT); (focus sizeOf_list_dec))
  | ((apply EM.lenL); (focus sizeOf_list_dec))
  | ((apply EM.lenT); (focus sizeOf_list_dec))
  | ((apply EM.isSeqL); (focus sizeOf_list_dec); (focus sizeOf_list_dec))
  | ((apply EM.isSeqT); (focus sizeOf_list_dec); (focus sizeOf_list_dec))
  | ((apply EM.tupL); (focus sizeOf_list_dec))
  | ((with_reducible refine EM.New.bs (by with_reducible assumption) ?_ ?_); (focus (intro _ z; cases z; done)))
  | ((with_reducible refine EM.gMu ?_); (with_reducible apply EM.mu_bs); (focus (with_reducible assumption)); (focus sizeOf_list_dec); (focus (apply EM.nel2; (focus (with_reducible assumption)); (focus (with_reducible assumption)))); intro _ _ _)
  | intro _
  | (apply And.intro; (focus array_get_dec))
  | apply Exists.intro
  | (refine EM.draw_bs (by with_reducible assumption) ?_ ?_ ?_ ?_; (focus array_get_dec); (focus array_get_dec); (focus (first | decide | omega)))
  | (apply EM.pick_bs; (focus (with_reducible assumption)); (focus array_get_dec); (focus sizeOf_list_dec); (focus (exact Nat.le_of_ble_eq_true rfl)); (focus (exact Nat.le_of_ble_eq_true rfl)))
  | ((apply EM.repr_sw); (focus infer_instance); (focus nofun); (focus decide))
  | ((apply EM.eqd_same); (focus infer_instance); (focus infer_instance); (focus nofun); (focus decide))
  | ((apply EM.ned_same); (focus infer_instance); (focus infer_instance); (focus nofun); (focus decide))
  | ((apply EM.eqd_sw); (focus infer_instance); (focus infer_instance); (focus nofun); (focus nofun); (focus decide))
  | ((apply EM.ned_sw); (focus infer_instance); (focus infer_instance); (focus nofun); (focus nofun); (focus decide))
  | (refine EM.cut_bs (by with_reducible assumption) ?_ ?_ ?_; (focus array_get_dec); (focus array_get_dec)))))
section
variable {P : Program} {w : World} {K : PySem.W.Frag} {mg : Str → Option Value} {base : Heap}
theorem st_d {v u : V} : L2.start ["_law_left", "_law_right", "_law_found", "_law_error", "_law_named"] [v, u] = [some v, some u, none, none, none] := rfl
theorem ok_Ldoubles (T : Tx K mg) : FnR P w K mg base (L2.CX P w) 4 (He.ga K "_law_doubles") (spDoubles K) := by
  obtain ⟨fd, F⟩ := T.d_Ldoubles
  refine EM.fnr F sc_Ldoubles (fun _ _ _ _ _ _ us hl => match us, hl with | [_, _], _ => rfl) (fun vs H Q E h => ?_) (fun cdv A outer s H vs Q E hr h => ?_)
  · obtain ⟨T0, p, l, n, v, u, rfl, _⟩ := h
    rfl
  · obtain ⟨T0, p, l, n, v, u, rfl, B0, k⟩ := h
    refine ⟨_, (PSs.nox (pss_cons (ps_set (i := 2) sc_Ldoubles.nd rfl (Or.inl rfl) (EM.pe_lstN pa_nil))
 (pss_cons (ps_par (by rfl) sc_Ldoubles.nd (i := 3) (j := 4) rfl rfl (by decide) rfl rfl (pa_cons (pe_Alike T (hr.mono (by decide)) (pv 0) (pv 1)) (pa_cons (pe_Alikek T (hr.mono (by decide)) (pk_cons (pv 1) (pk_cons (pv 0) pk_nil))) pa_nil)) (by rfl))
 (pss_cons (ps_expr (EM.pe_appN (pv 2) (EM.pe_tupN (pa_cons (pv 3) (pa_cons (EM.pe_lstN (pa_cons (pe_xk (pv 3)) (pa_cons (pe_xk (pv 3)) (pa_cons (pe_xk (pv 4)) (pa_cons (pe_xk (pv 4)) pa_nil))))) pa_nil)))))
 (pss_cons (ps_par (by rfl) sc_Ldoubles.nd (i := 3) (j := 4) rfl rfl (by decide) rfl rfl (pa_cons (pe_TooLarge T (hr.mono (by decide)) (pv 0) (pv 1)) (pa_cons (pe_TooLargek T (hr.mono (by decide)) (pk_cons (pv 1) (pk_cons (pv 0) pk_nil))) pa_nil)) (by rfl))
 (pss_cons (ps_expr (EM.pe_appN (pv 2) (EM.pe_tupN (pa_cons (pv 3) (pa_cons (EM.pe_lstN (pa_cons (pe_xk (pv 3)) (pa_cons (pe_xk (pv 3)) (pa_cons (pe_xk (pv 4)) (pa_cons (pe_xk (pv 4)) pa_nil))))) pa_nil)))))
 (pss_cons (ps_par (by rfl) sc_Ldoubles.nd (i := 3) (j := 4) rfl rfl (by decide) rfl rfl (pa_cons (pe_BadText T (hr.mono (by decide)) (pv 0) (pv 1)) (pa_cons (pe_BadTextk T (hr.mono (by decide)) (pk_cons (pv 1) (pk_cons (pv 0) pk_nil))) pa_nil)) (by rfl))
 (pss_cons (ps_expr (EM.pe_appN (pv 2) (EM.pe_tupN (pa_cons (pv 3) (pa_cons (EM.pe_lstN (pa_cons (pe_xk (pv 3)) (pa_cons (pe_xk (pv 3)) (pa_cons (pe_xk (pv 4)) (pa_cons (pe_xk (pv 4)) pa_nil))))) pa_nil)))))
 (pss_one (ps_ret (pv 2))))))))))), ?_⟩
    repeat' array_mem_dec
    dsimp only [st_d, List.set_cons_zero, List.set_cons_succ]
    --D0
    rename_i F H0 y0 C0 a0 nF
    have hs0 : RowsP K p H0 [v, u, v, u] F 14 [] := RowsP.nil
    have z0 : OpenE p F H0 H0 := OpenE.refl
    --A1
    refine XvS.bs C0 fun e d G1 x1 B1 f1 ne => ?_
    repeat' array_mem_dec
    refine XvS.bs B1 fun e2 d2 G2 x2 B2 f2 ne2 => ?_
    repeat' array_mem_dec
    --M1
    have f13 := f1.ext x2
    have f23 := f2
    refine ⟨p, e, _, d, _, v, rfl, f13, T.xf_Alike, T.na_Alike_one, rfl, ?_⟩
    repeat' array_mem_dec
    refine ⟨p, e, _, d, _, u, rfl, f13, T.xf_Alike, T.na_Alike_other, rfl, ?_⟩
    repeat' array_mem_dec
    refine ⟨p, e2, _, d2, _, v, rfl, f23, T.xf_Alike, T.na_Alike_one, rfl, ?_⟩
    repeat' array_mem_dec
    refine ⟨p, e2, _, d2, _, u, rfl, f23, T.xf_Alike, T.na_Alike_other, rfl, ?_⟩
    repeat' array_mem_dec
    dsimp only [st_d, List.set_cons_zero, List.set_cons_succ]
    --B1
    rename_i kk G4 x4 B4 ak nk r1 G5 x5 B5 ar nr H1 mu C1
    have aF3 := (a0.ext x1).ext x2
    have aF5 := (aF3.ext x4).ext x5
    have a1 : At p H1 F (.lst [.ref r1]) := mu.here aF5
    have hs1 : RowsP K p H1 [v, u, v, u] F 14 [.ref r1] := RowsP.step (i := 14) ((hs0.ext (x1.trans x2)).ext (x4.trans x5)) rfl aF5 (.fld rfl (f13.ext (x4.trans x5))) (ak.ext x5) (ne_new aF3 nk) ar mu
    have z1 : OpenE p F H0 H1 := z0.step x1 x2 x4 x5 mu
    clear hs0 a0 z0 x1 x2 x4 x5 mu ak nk ar nr aF3 aF5 f1 f2 f13 f23 ne ne2 B1 B2 B4 B5 C0
    --A2
    refine XvS.bs C1 fun e d G1 x1 B1 f1 ne => ?_
    repeat' array_mem_dec
    refine XvS.bs B1 fun e2 d2 G2 x2 B2 f2 ne2 => ?_
    repeat' array_mem_dec
    --M2
    have f13 := f1.ext x2
    have f23 := f2
    refine ⟨p, e, _, d, _, v, rfl, f13, T.xf_TooLarge, T.na_TooLarge_part, rfl, ?_⟩
    repeat' array_mem_dec
    refine ⟨p, e, _, d, _, u, rfl, f13, T.xf_TooLarge, T.na_TooLarge_most, rfl, ?_⟩
    repeat' array_mem_dec
    refine ⟨p, e2, _, d2, _, v, rfl, f23, T.xf_TooLarge, T.na_TooLarge_part, rfl, ?_⟩
    repeat' array_mem_dec
    refine ⟨p, e2, _, d2, _, u, rfl, f23, T.xf_TooLarge, T.na_TooLarge_most, rfl, ?_⟩
    repeat' array_mem_dec
    dsimp only [st_d, List.set_cons_zero, List.set_cons_succ]
    --B2
    rename_i kk G4 x4 B4 ak nk r2 G5 x5 B5 ar nr H2 mu C2
    have aF3 := (a1.ext x1).ext x2
    have aF5 := (aF3.ext x4).ext x5
    have a2 : At p H2 F (.lst [.ref r1, .ref r2]) := mu.here aF5
    have hs2 : RowsP K p H2 [v, u, v, u] F 14 [.ref r1, .ref r2] := RowsP.step (i := 15) ((hs1.ext (x1.trans x2)).ext (x4.trans x5)) rfl aF5 (.fld rfl (f13.ext (x4.trans x5))) (ak.ext x5) (ne_new aF3 nk) ar mu
    have z2 : OpenE p F H0 H2 := z1.step x1 x2 x4 x5 mu
    clear hs1 a1 z1 x1 x2 x4 x5 mu ak nk ar nr aF3 aF5 f1 f2 f13 f23 ne ne2 B1 B2 B4 B5 C1
    --A3
    refine XvS.bs C2 fun e d G1 x1 B1 f1 ne => ?_
    repeat' array_mem_dec
    refine XvS.bs B1 fun e2 d2 G2 x2 B2 f2 ne2 => ?_
    repeat' array_mem_dec
    --M3
    have f13 := f1.ext x2
    have f23 := f2
    refine ⟨p, e, _, d, _, v, rfl, f13, T.xf_BadText, T.na_BadText_line, rfl, ?_⟩
    repeat' array_mem_dec
    refine ⟨p, e, _, d, _, u, rfl, f13, T.xf_BadText, T.na_BadText_word, rfl, ?_⟩
    repeat' array_mem_dec
    refine ⟨p, e2, _, d2, _, v, rfl, f23, T.xf_BadText, T.na_BadText_line, rfl, ?_⟩
    repeat' array_mem_dec
    refine ⟨p, e2, _, d2, _, u, rfl, f23, T.xf_BadText, T.na_BadText_word, rfl, ?_⟩
    repeat' array_mem_dec
    dsimp only [st_d, List.set_cons_zero, List.set_cons_succ]
    --B3
    rename_i kk G4 x4 B4 ak nk r3 G5 x5 B5 ar nr H3 mu C3
    have aF3 := (a2.ext x1).ext x2
    have aF5 := (aF3.ext x4).ext x5
    have a3 : At p H3 F (.lst [.ref r1, .ref r2, .ref r3]) := mu.here aF5
    have hs3 : RowsP K p H3 [v, u, v, u] F 14 [.ref r1, .ref r2, .ref r3] := RowsP.step (i := 16) ((hs2.ext (x1.trans x2)).ext (x4.trans x5)) rfl aF5 (.fld rfl (f13.ext (x4.trans x5))) (ak.ext x5) (ne_new aF3 nk) ar mu
    have z3 : OpenE p F H0 H3 := z2.step x1 x2 x4 x5 mu
    clear hs2 a2 z2 x1 x2 x4 x5 mu ak nk ar nr aF3 aF5 f1 f2 f13 f23 ne ne2 B1 B2 B4 B5 C2
    exact k F _ _ (z3.close y0 nF) C3 a3 rfl hs3
end
end K01
namespace K01
open PySem PySem.Spec PyProof.Rows L2 EM
local macro_rules | `(tactic| sizeOf_list_dec) => `(tactic| first
  | with_reducible assumption
  | ((with_reducible apply EM.At.ext); (focus (with_reducible assumption)); (focus sizeOf_list_dec))
  | ((with_reducible apply EM.RatP.ext); (focus (with_reducible assumption)); (focus sizeOf_list_dec))
  | ((with_reducible apply EM.NumP.ext); (focus (with_reducible assumption)); (focus sizeOf_list_dec))
  | (with_reducible exact EM.Ext.refl)
  | ((with_reducible apply EM.Ext.back); (focus (with_reducible assumption)); (focus sizeOf_list_dec))
  | exact EM.NumP.int _
  | ((with_reducible apply EM.Mu.at_k); (focus (with_reducible assumption)); (focus sizeOf_list_dec); (focus sizeOf_list_dec); (focus (intro _ z; cases z; done)))
  | ((with_reducible apply EM.Mu.at_n); (focus (with_reducible assumption)); (focus sizeOf_list_dec); (focus (first | with_reducible assumption | ((apply EM.nn1); (focus (with_reducible assumption)); (focus sizeOf_list_dec)) | ((apply EM.nn2); (focus (with_reducible assumption)); (focus sizeOf_list_dec)))))
  | ((with_reducible apply EM.Mu.here); (focus (with_reducible assumption)); (focus sizeOf_list_dec))
  | ((with_reducible apply EM.Mu.rat); (focus (with_reducible assumption)); (focus sizeOf_list_dec); (focus sizeOf_list_dec))
  | ((with_reducible apply EM.Mu.num); (focus (with_reducible assumption)); (focus sizeOf_list_dec); (focus sizeOf_list_dec))
  | ((with_reducible apply EM.num_of_rat); (focus sizeOf_list_dec); (focus (first | with_reducible assumption | (apply EM.n_low; assumption)))))
local macro_rules | `(tactic| decreasing_trivial_pre_omega) => `(tactic| first
  | with_reducible assumption
  | exact EM.Bt.mono (by with_reducible assumption) (by decide)
  | exact EM.Bt.lit _ _ (by decide +kernel)
  | ((with_reducible refine EM.Bt.rng32 ?_ ?_) <;> omega)
  | ((with_reducible refine EM.Bt.rng70 ?_ ?_) <;> omega)
  | ((with_reducible refine EM.Bt.rng200 ?_ ?_) <;> omega)
  | ((with_reducible apply EM.Bt.mulM); (focus decreasing_trivial_pre_omega); (focus decreasing_trivial_pre_omega); (focus (first | decide | exact Nat.le_refl _)))
  | ((with_reducible apply EM.Bt.addM); (focus decreasing_trivial_pre_omega); (focus decreasing_trivial_pre_omega); (focus (first | decide | exact Nat.le_refl _)))
  | ((with_reducible apply EM.Bt.subM); (focus decreasing_trivial_pre_omega); (focus decreasing_trivial_pre_omega); (focus (first | decide | exact Nat.le_refl _)))
  | ((with_reducible apply EM.Bt.topL); (focus decreasing_trivial_pre_omega); (focus assumption); (focus (first | decide | exact Nat.le_refl _)))
  | ((with_reducible apply EM.Bt.botL); (focus decreasing_trivial_pre_omega); (focus assumption); (focus (first | decide | exact Nat.le_refl _)))
  | ((with_reducible apply EM.Bt.divM); (focus decreasing_trivial_pre_omega); (focus assumption); (focus (first | decide | exact Nat.le_refl _)))
  | ((with_reducible apply EM.Bt.negM); (focus decreasing_trivial_pre_omega); (focus (first | decide | exact Nat.le_refl _))))
local macro_rules | `(tactic| array_get_dec) => `(tactic| first
  | with_reducible assumption
  | ((with_reducible refine EM.gEq ?_); exact rfl)
  | ((with_reducible refine EM.gTru ?_); exact rfl)
  | ((with_reducible refine EM.gRef ?_); first | exact Or.inl ⟨_, rfl⟩ | exact Or.inr ⟨_, rfl⟩)
  | ((with_reducible apply EM.At.get); sizeOf_list_dec)
  | ((with_reducible apply EM.At.sqL); sizeOf_list_dec)
  | ((with_reducible apply EM.At.sqT); sizeOf_list_dec)
  | ((with_reducible apply EM.RatP.getK); (focus sizeOf_list_dec); (focus (exact rfl)))
  | (with_reducible exact EM.Num.int _)
  | ((with_reducible apply EM.NumP.getK); (focus sizeOf_list_dec); (focus (exact rfl)))
  | ((with_reducible apply EM.At.ext); (focus (with_reducible assumption)); (focus sizeOf_list_dec))
  | ((with_reducible apply EM.RatP.ext); (focus (with_reducible assumption)); (focus sizeOf_list_dec))
  | ((with_reducible apply EM.NumP.ext); (focus (with_reducible assumption)); (focus sizeOf_list_dec))
  | with_reducible exact Tx.cl_Ratio (by assumption)
  | with_reducible exact Tx.na_Ratio_top (by assumption)
  | with_reducible exact Tx.na_Ratio_bottom (by assumption)
  | ((with_reducible refine EM.gAt ?_); sizeOf_list_dec)
  | ((with_reducible refine EM.gRat ?_); sizeOf_list_dec)
  | ((with_reducible refine EM.gNum ?_); sizeOf_list_dec)
  | ((with_reducible apply EM.TwoP.mk); (focus (with_reducible assumption)); (focus sizeOf_list_dec); (focus (first | with_reducible assumption | (apply EM.n_low; assumption))); (focus sizeOf_list_dec); (focus decreasing_trivial_pre_omega); (focus decreasing_trivial_pre_omega); (focus decreasing_trivial_pre_omega); (focus decreasing_trivial_pre_omega))
  | (with_reducible exact EM.Ext.refl)
  | ((with_reducible apply EM.Ext.back); (focus (with_reducible assumption)); (focus sizeOf_list_dec))
  | ((with_reducible apply EM.Bs.mono); (focus (with_reducible assumption)); omega)
  | ((with_reducible refine EM.gN ?_); first | decide | omega | exact Nat.le_of_ble_eq_true rfl | (simp only [List.length_cons, List.length_nil, List.length_append]; omega))
  | ((with_reducible refine EM.gM ?_); first | decide | omega | exact Nat.le_of_ble_eq_true rfl)
  | ((with_reducible refine EM.gI ?_); first | decide | omega)
  | ((with_reducible refine EM.gJ ?_); first | decide | omega)
  | ((with_reducible refine EM.gE ?_); first | decide | omega)
  | ((with_reducible refine EM.gB ?_); decreasing_trivial_pre_omega)
  | ((with_reducible apply EM.wideM); (focus decreasing_trivial_pre_omega); (focus decreasing_trivial_pre_omega); (focus decide)))
local macro_rules | `(tactic| infer_instance) => `(tactic| first
  | with_reducible assumption
  | exact DpAll.nil
  | (apply DpAll.cons; (focus infer_instance); (focus infer_instance))
  | with_reducible exact Dp.int _
  | exact Dp.int _
  | with_reducible exact Dp.str _
  | exact Dp.bl _
  | exact Dp.non
  | ((with_reducible apply EM.dp_lst); (focus array_get_dec); (focus infer_instance))
  | ((with_reducible apply EM.dp_tup); (focus array_get_dec); (focus infer_instance))
  | exact EM.dp_ints _)
local macro_rules | `(tactic| nofun) => `(tactic| first
  | with_reducible assumption
  | exact EM.FeL.nil
  | exact EM.FdL.nil
  | (apply EM.FeL.cons; (focus nofun); (focus nofun))
  | (apply EM.FdL.cons; (focus nofun); (focus nofun))
  | exact EM.Fe.int _
  | exact EM.Fe.bool _
  | exact EM.Fe.non
  | exact EM.Fe.str (EM.okS_of _)
  | (apply EM.Fe.str; apply EM.Fd.ok; (focus nofun))
  | (apply EM.Fe.list; (focus nofun))
  | (apply EM.Fe.tup; (focus nofun))
  | (apply EM.Fd.int; (focus decreasing_trivial_pre_omega))
  | exact EM.Fd.bool _
  | exact EM.Fd.non
  | (refine EM.Fd.bool _)
  | (apply EM.Fd.list; (focus nofun))
  | (apply EM.Fd.tup; (focus nofun)))
local macro_rules | `(tactic| array_mem_dec) => `(tactic| ((with_reducible refine EM.pr ?_); first
  | (with_reducible refine L2.iteT ?_)
  | (with_reducible refine L2.iteF ?_)
  | (with_reducible refine EM.ifNotT ?_)
  | (with_reducible refine EM.ifNotF ?_)
  | ((fail_if_success (with_reducible refine EM.gIf ?_)); first
  | array_get_dec
  | ((apply EM.DnS.bs); (focus (with_reducible assumption)); (focus (intro _ z; cases z; done)))
  | ((apply EM.seqL); (focus sizeOf_list_dec))
  | ((apply EM.seqT); (focus sizeOf_list_dec))
  | ((apply EM.lenL); (focus sizeOf_list_dec))
  | ((apply EM.lenT); (focus sizeOf_list_dec))
  | ((apply EM.isSeqL); (focus sizeOf_list_dec); (focus sizeOf_list_dec))
  | ((apply EM.isSeqT); (focus sizeOf_list_dec); (focus sizeOf_list_dec))
  | ((apply EM.tupL); (focus sizeOf_list_dec))
  | ((with_reducible refine EM.New.bs (by with_reducible assumption) ?_ ?_); (focus (intro _ z; cases z; done)))
  | ((with_reducible refine EM.gMu ?_); (with_reducible apply EM.mu_bs); (focus (with_reducible assumption)); (focus sizeOf_list_dec); (focus (apply EM.nel2; (focus (with_reducible assumption)); (focus (with_reducible assumption)))); intro _ _ _)
  | intro _
  | (apply And.intro; (focus array_get_dec))
  | apply Exists.intro
  | (refine EM.draw_bs (by with_reducible assumption) ?_ ?_ ?_ ?_; (focus array_get_dec); (focus array_get_dec); (focus (first | decide | omega)))
  | (apply EM.pick_bs; (focus (with_reducible assumption)); (focus array_get_dec); (focus sizeOf_list_dec); (focus (exact Nat.le_of_ble_eq_true rfl)); (focus (exact Nat.le_of_ble_eq_true rfl)))
  | ((apply EM.repr_sw); (focus infer_instance); (focus nofun); (focus decide))
  | ((apply EM.eqd_same); (focus infer_instance); (focus infer_instance); (focus nofun); (focus decide))
  | ((apply EM.ned_same); (focus infer_instance); (focus infer_instance); (focus nofun); (focus decide))
  | ((apply EM.eqd_sw); (focus infer_instance); (focus infer_instance); (focus nofun); (focus nofun); (focus decide))
  | ((apply EM.ned_sw); (focus infer_instance); (focus infer_instance); (focus nofun); (focus nofun); (focus decide))
  | (refine EM.cut_bs (by with_reducible assumption) ?_ ?_ ?_; (focus array_get_dec); (focus array_get_dec)))))
section
variable {P : Program} {w : World} {K : PySem.W.Frag} {mg : Str → Option Value} {base : Heap}
theorem ok_Lthing (T : Tx K mg) : FnR P w K mg base (L2.CX P w) 6 (He.ga K "_law_thing") (spThing K) := by
  obtain ⟨fd, F⟩ := T.d_Lthing
  refine EM.fnr F sc_Lthing (fun _ _ _ _ _ _ us hl => match us, hl with | [_], _ => rfl) (fun vs H Q E h => ?_) (fun cdv A outer s H vs Q E hr h => ?_)
  · obtain ⟨T0, p, l, n, rfl, _⟩ := h
    rfl
  · obtain ⟨T0, p, l, n, rfl, B0, hn, k⟩ := h
    refine ⟨_, (PSs.nox (pss_cons (ps_set (i := 1) sc_Lthing.nd rfl (Or.inl rfl) (EM.pe_cR ((ok_Ldraw T).sw) (hr.mono (by decide)) T.k__law_draw T.g__law_draw passL (pa_cons (pv 0) (pa_cons (pe_op (EM.op_powV 10 7 10000000 ⟨by decide, by decide, by decide⟩ (by decide +kernel)) pe_int pe_int) pa_nil))))
 (pss_cons (ps_set (i := 2) sc_Lthing.nd rfl (Or.inl rfl) (EM.pe_lstN (pa_cons (pv 1) (pa_cons (pe_op op_sub pe_int (pv 1)) (pa_cons pe_non (pa_cons pe_bl (pa_cons pe_bl (pa_cons pe_str (pa_cons pe_str (pa_cons pe_str (pa_cons (EM.pe_tupN pa_nil) (pa_cons (EM.pe_tupN (pa_cons (pv 1) (pa_cons pe_str pa_nil))) (pa_cons (EM.pe_lstN (pa_cons (pv 1) pa_nil)) (pa_cons (EM.pe_dnewN) pa_nil))))))))))))))
 (pss_one (ps_ret (EM.pe_cR ((ok_Lpick T).sw) (hr.mono (by decide)) T.k__law_pick T.g__law_pick passL (pa_cons (pv 0) (pa_cons (pe_op EM.op_catN (pv 2) (EM.pe_lstN (pa_cons (pe_dispA (pe_disp (pps_cons pe_str (pv 1) pps_nil) rfl rfl (by simp) (by decide))) (pa_cons (EM.pe_lstN (pa_cons (EM.pe_lstN (pa_cons (pv 1) pa_nil)) (pa_cons pe_str pa_nil))) (pa_cons (EM.pe_tupN (pa_cons (EM.pe_tupN pa_nil) (pa_cons (EM.pe_tupN (pa_cons pe_str (pa_cons pe_str pa_nil))) pa_nil))) (pa_cons (pe_op (EM.op_powV 10 59 100000000000000000000000000000000000000000000000000000000000 ⟨by decide, by decide, by decide⟩ (by decide +kernel)) pe_int pe_int) (pa_cons (pe_mkN_ T (hr.mono (by decide)) (pa_cons (pv 1) (pa_cons pe_int pa_nil))) pa_nil))))))) pa_nil)))))))), ?_⟩
    repeat' array_mem_dec
    rename_i d H1 d0 d1 x1 B1 q1 H2 x2 B2 a1 n1 q2 H3 x3 B3 a2 n2 q3 H4 x4 B4 a3 n3 q4 H5 x5 B5 a4 n4 q5 H6 x6 B6 a5 n5 q6 H7 x7 B7 a6 n6 q7 H8 x8 B8 a7 n7 q8 H9 x9 B9 a8 n8 q9 H10 x10 B10 a9 n9 q10 H11 x11 B11 a10 n10 q11 H12 x12 B12 a11 n11
    refine EM.mk_bs B12 (by decide) (Bt.lit _ _ (by decide +kernel)) fun q12 H13 x13 B13 r12 => ?_
    repeat' array_mem_dec
    rename_i q13 H14 x14 B14 a13 n13 q14 H15 x15 B15 a14 n14 v H16 hv x16 B16
    have y15 : EM.Ext p H15 H16 := x16
    have y14 := x15.trans y15
    have y13 := x14.trans y14
    have y12 := x13.trans y13
    have y11 := x12.trans y12
    have y10 := x11.trans y11
    have y9 := x10.trans y10
    have y8 := x9.trans y9
    have y7 := x8.trans y8
    have y6 := x7.trans y7
    have y5 := x6.trans y6
    have y4 := x5.trans y5
    have y3 := x4.trans y4
    have y2 := x3.trans y3
    have y1 := x2.trans y2
    have bd : Bt 100 d := Bt.mono (n := 70) (Bt.rng70 (by omega) (by omega)) (by decide)
    have bd19 : Bt 1900 d := bd.mono (by decide)
    have bm19 : Bt 1900 (0 - d) := Bt.subM (n := 100) (m := 100) (Bt.lit _ _ (by decide +kernel)) bd (by decide)
    have K0 : ∀ {v : V} {t : Str}, ThP K p H16 v t → Q v H16 := fun h => k _ _ _ (x1.trans y1) B16 h
    simp only [List.mem_append, List.mem_cons, List.not_mem_nil, or_false, false_or] at hv
    have f0 := fdw (Fd.int bd19) (by decide)
    have fi := Fd.int bd19
    rcases hv with (rfl | rfl | rfl | rfl | rfl | rfl | rfl | rfl | rfl | rfl | rfl | rfl) | (rfl | rfl | rfl | rfl | rfl)
    · exact K0 (.dat (fun _ _ => Dp.int _) f0)
    · exact K0 (.dat (fun _ _ => Dp.int _) (fdw (Fd.int bm19) (by decide)))
    · exact K0 (.dat (fun _ _ => Dp.non) (fdw Fd.non (by decide)))
    · exact K0 (.dat (fun _ _ => Dp.bl _) (fdw (Fd.bool _) (by decide)))
    · exact K0 (.dat (fun _ _ => Dp.bl _) (fdw (Fd.bool _) (by decide)))
    · exact K0 (.dat (fun _ _ => Dp.str _) (fdw emp_fd (by decide)))
    · exact K0 (.dat (fun _ _ => Dp.str _) (fdw okz_wording.fd (by decide)))
    · exact K0 (.dat (fun _ _ => Dp.str _) (fdw okz_two.fd (by decide)))
    · exact K0 (.dat (fun _ y => dp_tup (a1.ext (y2.trans y)).get .nil) (fdw (Fd.tup FdL.nil) (by decide)))
    · exact K0 (.dat (fun _ y => dp_tup (a2.ext (y3.trans y)).get (.cons (Dp.int _) (.cons (Dp.str _) .nil))) (fdw (Fd.tup (FdL.cons fi (FdL.cons okz_a.fd FdL.nil))) (by decide)))
    · exact K0 (.dat (fun _ y => dp_lst (a3.ext (y4.trans y)).get (.cons (Dp.int _) .nil)) (fdw (Fd.list (FdL.cons fi FdL.nil)) (by decide)))
    · exact K0 (.d0 (a4.ext y5))
    · exact K0 (.d1 (a6.ext y7) (bd.mono (by decide)))
    · exact K0 (.dat (fun _ y => dp_lst (a8.ext (y9.trans y)).get (.cons (dp_lst (a7.ext (y8.trans y)).get (.cons (Dp.int _) .nil)) (.cons (Dp.str _) .nil))) (fdw (Fd.list (FdL.cons (Fd.list (FdL.cons fi FdL.nil)) (FdL.cons okz_x.fd FdL.nil))) (by decide)))
    · exact K0 (.dat (fun _ y => dp_tup (a11.ext (y12.trans y)).get (.cons (dp_tup (a9.ext (y10.trans y)).get .nil) (.cons (dp_tup (a10.ext (y11.trans y)).get (.cons (Dp.str _) (.cons (Dp.str _) .nil))) .nil))) (fdw (Fd.tup (FdL.cons (Fd.tup FdL.nil) (FdL.cons (Fd.tup (FdL.cons okz_a.fd (FdL.cons okz_b.fd FdL.nil))) FdL.nil))) (by decide)))
    · exact K0 (.dat (fun _ _ => Dp.int _) (fdw (Fd.int (Bt.lit _ _ (by decide +kernel))) (by decide)))
    · exact K0 (.rat (r12.ext y13) (Bt.topL bd (by decide) (by decide)) (Bt.botL (n := 100) (Bt.lit _ _ (by decide +kernel)) (by decide) (by decide)))
end
end K01
namespace K01
open PySem PySem.Spec PyProof.Rows L2 EM
local macro_rules | `(tactic| sizeOf_list_dec) => `(tactic| first
  | with_reducible assumption
  | ((with_reducible apply EM.At.ext); (focus (with_reducible assumption)); (focus sizeOf_list_dec))
  | ((with_reducible apply EM.RatP.ext); (focus (with_reducible assumption)); (focus sizeOf_list_dec))
  | ((with_reducible apply EM.NumP.ext); (focus (with_reducible assumption)); (focus sizeOf_list_dec))
  | (with_reducible exact EM.Ext.refl)
  | ((with_reducible apply EM.Ext.back); (focus (with_reducible assumption)); (focus sizeOf_list_dec))
  | exact EM.NumP.int _
  | ((with_reducible apply EM.Mu.at_k); (focus (with_reducible assumption)); (focus sizeOf_list_dec); (focus sizeOf_list_dec); (focus (intro _ z; cases z; done)))
  | ((with_reducible apply EM.Mu.at_n); (focus (with_reducible assumption)); (focus sizeOf_list_dec); (focus (first | with_reducible assumption | ((apply EM.nn1); (focus (with_reducible assumption)); (focus sizeOf_list_dec)) | ((apply EM.nn2); (focus (with_reducible assumption)); (focus sizeOf_list_dec)))))
  | ((with_reducible apply EM.Mu.here); (focus (with_reducible assumption)); (focus sizeOf_list_dec))
  | ((with_reducible apply EM.Mu.rat); (focus (with_reducible assumption)); (focus sizeOf_list_dec); (focus sizeOf_list_dec))
  | ((with_reducible apply EM.Mu.num); (focus (with_reducible assumption)); (focus sizeOf_list_dec); (focus sizeOf_list_dec))
  | ((with_reducible apply EM.num_of_rat); (focus sizeOf_list_dec); (focus (first | with_reducible assumption | (apply EM.n_low; assumption))))
  | ((with_reducible apply ErrQ.ext); (focus (with_reducible assumption)); (focus sizeOf_list_dec)))
local macro_rules | `(tactic| decreasing_trivial_pre_omega) => `(tactic| first
  | with_reducible assumption
  | exact EM.Bt.mono (by with_reducible assumption) (by decide)
  | exact EM.Bt.lit _ _ (by decide +kernel)
  | ((with_reducible refine EM.Bt.rng32 ?_ ?_) <;> omega)
  | ((with_reducible refine EM.Bt.rng70 ?_ ?_) <;> omega)
  | ((with_reducible refine EM.Bt.rng200 ?_ ?_) <;> omega)
  | ((with_reducible apply EM.Bt.mulM); (focus decreasing_trivial_pre_omega); (focus decreasing_trivial_pre_omega); (focus (first | decide | exact Nat.le_refl _)))
  | ((with_reducible apply EM.Bt.addM); (focus decreasing_trivial_pre_omega); (focus decreasing_trivial_pre_omega); (focus (first | decide | exact Nat.le_refl _)))
  | ((with_reducible apply EM.Bt.subM); (focus decreasing_trivial_pre_omega); (focus decreasing_trivial_pre_omega); (focus (first | decide | exact Nat.le_refl _)))
  | ((with_reducible apply EM.Bt.topL); (focus decreasing_trivial_pre_omega); (focus assumption); (focus (first | decide | exact Nat.le_refl _)))
  | ((with_reducible apply EM.Bt.botL); (focus decreasing_trivial_pre_omega); (focus assumption); (focus (first | decide | exact Nat.le_refl _)))
  | ((with_reducible apply EM.Bt.divM); (focus decreasing_trivial_pre_omega); (focus assumption); (focus (first | decide | exact Nat.le_refl _)))
  | ((with_reducible apply EM.Bt.negM); (focus decreasing_trivial_pre_omega); (focus (first | decide | exact Nat.le_refl _))))
local macro_rules | `(tactic| array_get_dec) => `(tactic| first
  | with_reducible assumption
  | ((with_reducible refine EM.gEq ?_); exact rfl)
  | ((with_reducible refine EM.gTru ?_); exact rfl)
  | ((with_reducible refine EM.gRef ?_); first | exact Or.inl ⟨_, rfl⟩ | exact Or.inr ⟨_, rfl⟩)
  | ((with_reducible apply EM.At.get); sizeOf_list_dec)
  | ((with_reducible apply EM.At.sqL); sizeOf_list_dec)
  | ((with_reducible apply EM.At.sqT); sizeOf_list_dec)
  | ((with_reducible apply EM.RatP.getK); (focus sizeOf_list_dec); (focus (exact rfl)))
  | (with_reducible exact EM.Num.int _)
  | ((with_reducible apply EM.NumP.getK); (focus sizeOf_list_dec); (focus (exact rfl)))
  | ((with_reducible apply EM.At.ext); (focus (with_reducible assumption)); (focus sizeOf_list_dec))
  | ((with_reducible apply EM.RatP.ext); (focus (with_reducible assumption)); (focus sizeOf_list_dec))
  | ((with_reducible apply EM.NumP.ext); (focus (with_reducible assumption)); (focus sizeOf_list_dec))
  | with_reducible exact Tx.cl_Ratio (by assumption)
  | with_reducible exact Tx.na_Ratio_top (by assumption)
  | with_reducible exact Tx.na_Ratio_bottom (by assumption)
  | ((with_reducible refine EM.gAt ?_); sizeOf_list_dec)
  | ((with_reducible refine EM.gRat ?_); sizeOf_list_dec)
  | ((with_reducible refine EM.gNum ?_); sizeOf_list_dec)
  | ((with_reducible apply EM.TwoP.mk); (focus (with_reducible assumption)); (focus sizeOf_list_dec); (focus (first | with_reducible assumption | (apply EM.n_low; assumption))); (focus sizeOf_list_dec); (focus decreasing_trivial_pre_omega); (focus decreasing_trivial_pre_omega); (focus decreasing_trivial_pre_omega); (focus decreasing_trivial_pre_omega))
  | (with_reducible exact EM.Ext.refl)
  | ((with_reducible apply EM.Ext.back); (focus (with_reducible assumption)); (focus sizeOf_list_dec))
  | ((with_reducible apply EM.Bs.mono); (focus (with_reducible assumption)); omega)
  | ((with_reducible refine EM.gN ?_); first | decide | omega | exact Nat.le_of_ble_eq_true rfl | (simp only [List.length_cons, List.length_nil, List.length_append]; omega))
  | ((with_reducible refine EM.gM ?_); first | decide | omega | exact Nat.le_of_ble_eq_true rfl)
  | ((with_reducible refine EM.gI ?_); first | decide | omega)
  | ((with_reducible refine EM.gJ ?_); first | decide | omega)
  | ((with_reducible refine EM.gE ?_); first | decide | omega)
  | ((with_reducible refine EM.gB ?_); decreasing_trivial_pre_omega)
  | ((with_reducible apply EM.wideM); (focus decreasing_trivial_pre_omega); (focus decreasing_trivial_pre_omega); (focus decide)))
local macro_rules | `(tactic| infer_instance) => `(tactic| first
  | with_reducible assumption
  | exact DpAll.nil
  | (apply DpAll.cons; (focus infer_instance); (focus infer_instance))
  | with_reducible exact Dp.int _
  | exact Dp.int _
  | with_reducible exact Dp.str _
  | exact Dp.bl _
  | exact Dp.non
  | ((with_reducible apply EM.dp_lst); (focus array_get_dec); (focus infer_instance))
  | ((with_reducible apply EM.dp_tup); (focus array_get_dec); (focus infer_instance))
  | exact EM.dp_ints _)
local macro_rules | `(tactic| nofun) => `(tactic| first
  | with_reducible assumption
  | exact EM.FeL.nil
  | exact EM.FdL.nil
  | (apply EM.FeL.cons; (focus nofun); (focus nofun))
  | (apply EM.FdL.cons; (focus nofun); (focus nofun))
  | exact EM.Fe.int _
  | exact EM.Fe.bool _
  | exact EM.Fe.non
  | exact EM.Fe.str (EM.okS_of _)
  | (apply EM.Fe.str; apply EM.Fd.ok; (focus nofun))
  | (apply EM.Fe.list; (focus nofun))
  | (apply EM.Fe.tup; (focus nofun))
  | (apply EM.Fd.int; (focus decreasing_trivial_pre_omega))
  | exact EM.Fd.bool _
  | exact EM.Fd.non
  | (refine EM.Fd.bool _)
  | (apply EM.Fd.list; (focus nofun))
  | (apply EM.Fd.tup; (focus nofun)))
local macro_rules | `(tactic| array_mem_dec) => `(tactic| ((with_reducible refine EM.pr ?_); first
  | (with_reducible refine L2.iteT ?_)
  | (with_reducible refine L2.iteF ?_)
  | (with_reducible refine EM.ifNotT ?_)
  | (with_reducible refine EM.ifNotF ?_)
  | ((fail_if_success (with_reducible refine EM.gIf ?_)); first
  | array_get_dec
  | ((apply EM.DnS.bs); (focus (with_reducible assumption)); (focus (intro _ z; cases z; done)))
  | ((apply EM.seqL); (focus sizeOf_list_dec))
  | ((apply EM.seqT); (focus sizeOf_list_dec))
  | ((apply EM.lenL); (focus sizeOf_list_dec))
  | ((apply EM.lenT); (focus sizeOf_list_dec))
  | ((apply EM.isSeqL); (focus sizeOf_list_dec); (focus sizeOf_list_dec))
  | ((apply EM.isSeqT); (focus sizeOf_list_dec); (focus sizeOf_list_dec))
  | ((apply EM.tupL); (focus sizeOf_list_dec))
  | ((with_reducible refine EM.New.bs (by with_reducible assumption) ?_ ?_); (focus (intro _ z; cases z; done)))
  | ((with_reducible refine EM.gMu ?_); (with_reducible apply EM.mu_bs); (focus (with_reducible assumption)); (focus sizeOf_list_dec); (focus (apply EM.nel2; (focus (with_reducible assumption)); (focus (with_reducible assumption)))); intro _ _ _)
  | intro _
  | (apply And.intro; (focus array_get_dec))
  | apply Exists.intro
  | (refine EM.draw_bs (by with_reducible assumption) ?_ ?_ ?_ ?_; (focus array_get_dec); (focus array_get_dec); (focus (first | decide | omega)))
  | (apply EM.pick_bs; (focus (with_reducible assumption)); (focus array_get_dec); (focus sizeOf_list_dec); (focus (exact Nat.le_of_ble_eq_true rfl)); (focus (exact Nat.le_of_ble_eq_true rfl)))
  | ((apply EM.repr_sw); (focus infer_instance); (focus nofun); (focus decide))
  | ((apply EM.eqd_same); (focus infer_instance); (focus infer_instance); (focus nofun); (focus decide))
  | ((apply EM.ned_same); (focus infer_instance); (focus infer_instance); (focus nofun); (focus decide))
  | ((apply EM.eqd_sw); (focus infer_instance); (focus infer_instance); (focus nofun); (focus nofun); (focus decide))
  | ((apply EM.ned_sw); (focus infer_instance); (focus infer_instance); (focus nofun); (focus nofun); (focus decide))
  | (refine EM.cut_bs (by with_reducible assumption) ?_ ?_ ?_; (focus array_get_dec); (focus array_get_dec)))))
section
variable {P : Program} {w : World} {K : PySem.W.Frag} {mg : Str → Option Value} {base : Heap}
theorem st_k {a : Addr} : L2.start ["_law_error", "_law_found", "_law_k", "_law_is_one"] [V.ref a] = [some (.ref a), none, none, none] := rfl
theorem ok_Lkinds (T : Tx K mg) : FnR P w K mg base (L2.CX P w) 3 (He.ga K "_law_kinds") (spKinds K) := by
  obtain ⟨fd, F⟩ := T.d_Lkinds
  refine EM.fnr F sc_Lkinds (fun _ _ _ _ _ _ us hl => match us, hl with | [_], _ => rfl) (fun vs H Q E h => ?_) (fun cdv A outer s H vs Q E hr h => ?_)
  · obtain ⟨T0, p, l, a, n, i, rfl, _⟩ := h
    rfl
  · obtain ⟨T0, p, l, a, n, i, rfl, B0, he, k⟩ := h
    refine ⟨_, (PSs.nox (pss_cons (ps_set (i := 1) sc_Lkinds.nd rfl (Or.inl rfl) (EM.pe_lstN (pa_cons (pe_callB (callR_sw call_isE) (by rfl) T.f_isinstance (by decide +kernel) (pa_cons (pv 0) (pa_cons (pe_glob (v := .ref (He.ga K "BadRatio")) (by rfl) T.g_BadRatio rfl) pa_nil))) (pa_cons (pe_callB (callR_sw call_isE) (by rfl) T.f_isinstance (by decide +kernel) (pa_cons (pv 0) (pa_cons (pe_glob (v := .ref (He.ga K "BadMark")) (by rfl) T.g_BadMark rfl) pa_nil))) pa_nil))))
 (pss_cons (ps_set (i := 1) sc_Lkinds.nd rfl (Or.inl rfl) (pe_op EM.op_catN (pv 1) (EM.pe_lstN (pa_cons (pe_callB (callR_sw call_isE) (by rfl) T.f_isinstance (by decide +kernel) (pa_cons (pv 0) (pa_cons (pe_glob (v := .ref (He.ga K "NoEdge")) (by rfl) T.g_NoEdge rfl) pa_nil))) (pa_cons (pe_callB (callR_sw call_isE) (by rfl) T.f_isinstance (by decide +kernel) (pa_cons (pv 0) (pa_cons (pe_glob (v := .ref (He.ga K "BadReading")) (by rfl) T.g_BadReading rfl) pa_nil))) pa_nil)))))
 (pss_cons (ps_set (i := 1) sc_Lkinds.nd rfl (Or.inl rfl) (pe_op EM.op_catN (pv 1) (EM.pe_lstN (pa_cons (pe_callB (callR_sw call_isE) (by rfl) T.f_isinstance (by decide +kernel) (pa_cons (pv 0) (pa_cons (pe_glob (v := .ref (He.ga K "NotRising")) (by rfl) T.g_NotRising rfl) pa_nil))) (pa_cons (pe_callB (callR_sw call_isE) (by rfl) T.f_isinstance (by decide +kernel) (pa_cons (pv 0) (pa_cons (pe_glob (v := .ref (He.ga K "NoStretch")) (by rfl) T.g_NoStretch rfl) pa_nil))) pa_nil)))))
 (pss_cons (ps_set (i := 1) sc_Lkinds.nd rfl (Or.inl rfl) (pe_op EM.op_catN (pv 1) (EM.pe_lstN (pa_cons (pe_callB (callR_sw call_isE) (by rfl) T.f_isinstance (by decide +kernel) (pa_cons (pv 0) (pa_cons (pe_glob (v := .ref (He.ga K "BadView")) (by rfl) T.g_BadView rfl) pa_nil))) (pa_cons (pe_callB (callR_sw call_isE) (by rfl) T.f_isinstance (by decide +kernel) (pa_cons (pv 0) (pa_cons (pe_glob (v := .ref (He.ga K "BadTerms")) (by rfl) T.g_BadTerms rfl) pa_nil))) pa_nil)))))
 (pss_cons (ps_set (i := 1) sc_Lkinds.nd rfl (Or.inl rfl) (pe_op EM.op_catN (pv 1) (EM.pe_lstN (pa_cons (pe_callB (callR_sw call_isE) (by rfl) T.f_isinstance (by decide +kernel) (pa_cons (pv 0) (pa_cons (pe_glob (v := .ref (He.ga K "BadWeights")) (by rfl) T.g_BadWeights rfl) pa_nil))) (pa_cons (pe_callB (callR_sw call_isE) (by rfl) T.f_isinstance (by decide +kernel) (pa_cons (pv 0) (pa_cons (pe_glob (v := .ref (He.ga K "BadName")) (by rfl) T.g_BadName rfl) pa_nil))) pa_nil)))))
 (pss_cons (ps_set (i := 1) sc_Lkinds.nd rfl (Or.inl rfl) (pe_op EM.op_catN (pv 1) (EM.pe_lstN (pa_cons (pe_callB (callR_sw call_isE) (by rfl) T.f_isinstance (by decide +kernel) (pa_cons (pv 0) (pa_cons (pe_glob (v := .ref (He.ga K "NoName")) (by rfl) T.g_NoName rfl) pa_nil))) (pa_cons (pe_callB (callR_sw call_isE) (by rfl) T.f_isinstance (by decide +kernel) (pa_cons (pv 0) (pa_cons (pe_glob (v := .ref (He.ga K "TooMany")) (by rfl) T.g_TooMany rfl) pa_nil))) pa_nil)))))
 (pss_cons (ps_set (i := 1) sc_Lkinds.nd rfl (Or.inl rfl) (pe_op EM.op_catN (pv 1) (EM.pe_lstN (pa_cons (pe_callB (callR_sw call_isE) (by rfl) T.f_isinstance (by decide +kernel) (pa_cons (pv 0) (pa_cons (pe_glob (v := .ref (He.ga K "BadError")) (by rfl) T.g_BadError rfl) pa_nil))) (pa_cons (pe_callB (callR_sw call_isE) (by rfl) T.f_isinstance (by decide +kernel) (pa_cons (pv 0) (pa_cons (pe_glob (v := .ref (He.ga K "BadCount")) (by rfl) T.g_BadCount rfl) pa_nil))) pa_nil)))))
 (pss_cons (ps_set (i := 1) sc_Lkinds.nd rfl (Or.inl rfl) (pe_op EM.op_catN (pv 1) (EM.pe_lstN (pa_cons (pe_callB (callR_sw call_isE) (by rfl) T.f_isinstance (by decide +kernel) (pa_cons (pv 0) (pa_cons (pe_glob (v := .ref (He.ga K "Alike")) (by rfl) T.g_Alike rfl) pa_nil))) (pa_cons (pe_callB (callR_sw call_isE) (by rfl) T.f_isinstance (by decide +kernel) (pa_cons (pv 0) (pa_cons (pe_glob (v := .ref (He.ga K "TooLarge")) (by rfl) T.g_TooLarge rfl) pa_nil))) pa_nil)))))
 (pss_cons (ps_set (i := 1) sc_Lkinds.nd rfl (Or.inl rfl) (pe_op EM.op_catN (pv 1) (EM.pe_lstN (pa_cons (pe_callB (callR_sw call_isE) (by rfl) T.f_isinstance (by decide +kernel) (pa_cons (pv 0) (pa_cons (pe_glob (v := .ref (He.ga K "BadText")) (by rfl) T.g_BadText rfl) pa_nil))) (pa_cons (pe_callB (callR_sw call_isE) (by rfl) T.f_isinstance (by decide +kernel) (pa_cons (pv 0) (pa_cons (pe_glob (v := .ref (He.ga K "NoDivisor")) (by rfl) T.g_NoDivisor rfl) pa_nil))) pa_nil)))))
 (pss_cons (ps_set (i := 1) sc_Lkinds.nd rfl (Or.inl rfl) (pe_op EM.op_catN (pv 1) (EM.pe_lstN (pa_cons (pe_callB (callR_sw call_isE) (by rfl) T.f_isinstance (by decide +kernel) (pa_cons (pv 0) (pa_cons (pe_glob (v := .ref (He.ga K "Unlike")) (by rfl) T.g_Unlike rfl) pa_nil))) (pa_cons (pe_callB (callR_sw call_isE) (by rfl) T.f_isinstance (by decide +kernel) (pa_cons (pv 0) (pa_cons (pe_glob (v := .ref (He.ga K "NoTerms")) (by rfl) T.g_NoTerms rfl) pa_nil))) pa_nil)))))
 (pss_cons (ps_set (i := 1) sc_Lkinds.nd rfl (Or.inl rfl) (pe_op EM.op_catN (pv 1) (EM.pe_lstN (pa_cons (pe_callB (callR_sw call_isE) (by rfl) T.f_isinstance (by decide +kernel) (pa_cons (pv 0) (pa_cons (pe_glob (v := .ref (He.ga K "Empty")) (by rfl) T.g_Empty rfl) pa_nil))) (pa_cons (pe_callB (callR_sw call_isE) (by rfl) T.f_isinstance (by decide +kernel) (pa_cons (pv 0) (pa_cons (pe_glob (v := .ref (He.ga K "Uneven")) (by rfl) T.g_Uneven rfl) pa_nil))) pa_nil)))))
 (pss_one (ps_ret (EM.lcN (pe_lc (own := [("_law_k", 2), ("_law_is_one", 3)]) (g := gTup K 2 (gCons (gName 2) (gCons (gName 3) gNil))) rfl sc_Lkinds.nd (EM.pi_enumLN (by rfl) T.f_enumerate (pa_cons (pv 1) pa_nil)).mc (blkOk_by (N := ["_law_error", "_law_found", "_law_k", "_law_is_one"]) (sc := defScope s_Lkinds) (by decide +kernel)) (fun _ _ _ _ _ => (pg_tup (by rfl) (pgs_cons (pg_name (i := 2) sc_Lkinds.nd rfl (Or.inl rfl)) (pgs_cons (pg_name (i := 3) sc_Lkinds.nd rfl (Or.inl rfl)) pgs_nil)))) (fun _ _ _ _ _ => (pts_one (pt_val (pv 3)))) (fun _ _ _ _ _ => (PE.mc (pv 2))))))))))))))))))), ?_⟩
    repeat' array_mem_dec
    --I0
    refine ⟨isE_row T 0 (by sizeOf_list_dec) rfl ?_⟩
    repeat' array_mem_dec
    --I1
    refine ⟨isE_row T 1 (by sizeOf_list_dec) rfl ?_⟩
    repeat' array_mem_dec
    --I2
    refine ⟨isE_row T 2 (by sizeOf_list_dec) rfl ?_⟩
    repeat' array_mem_dec
    --I3
    refine ⟨isE_row T 3 (by sizeOf_list_dec) rfl ?_⟩
    repeat' array_mem_dec
    --I4
    refine ⟨isE_row T 4 (by sizeOf_list_dec) rfl ?_⟩
    repeat' array_mem_dec
    --I5
    refine ⟨isE_row T 5 (by sizeOf_list_dec) rfl ?_⟩
    repeat' array_mem_dec
    --I6
    refine ⟨isE_row T 6 (by sizeOf_list_dec) rfl ?_⟩
    repeat' array_mem_dec
    --I7
    refine ⟨isE_row T 7 (by sizeOf_list_dec) rfl ?_⟩
    repeat' array_mem_dec
    --I8
    refine ⟨isE_row T 8 (by sizeOf_list_dec) rfl ?_⟩
    repeat' array_mem_dec
    --I9
    refine ⟨isE_row T 9 (by sizeOf_list_dec) rfl ?_⟩
    repeat' array_mem_dec
    --I10
    refine ⟨isE_row T 10 (by sizeOf_list_dec) rfl ?_⟩
    repeat' array_mem_dec
    --I11
    refine ⟨isE_row T 11 (by sizeOf_list_dec) rfl ?_⟩
    repeat' array_mem_dec
    --I12
    refine ⟨isE_row T 12 (by sizeOf_list_dec) rfl ?_⟩
    repeat' array_mem_dec
    --I13
    refine ⟨isE_row T 13 (by sizeOf_list_dec) rfl ?_⟩
    repeat' array_mem_dec
    --I14
    refine ⟨isE_row T 14 (by sizeOf_list_dec) rfl ?_⟩
    repeat' array_mem_dec
    --I15
    refine ⟨isE_row T 15 (by sizeOf_list_dec) rfl ?_⟩
    repeat' array_mem_dec
    --I16
    refine ⟨isE_row T 16 (by sizeOf_list_dec) rfl ?_⟩
    repeat' array_mem_dec
    --I17
    refine ⟨isE_row T 17 (by sizeOf_list_dec) rfl ?_⟩
    repeat' array_mem_dec
    --I18
    refine ⟨isE_row T 18 (by sizeOf_list_dec) rfl ?_⟩
    repeat' array_mem_dec
    --I19
    refine ⟨isE_row T 19 (by sizeOf_list_dec) rfl ?_⟩
    repeat' array_mem_dec
    --I20
    refine ⟨isE_row T 20 (by sizeOf_list_dec) rfl ?_⟩
    repeat' array_mem_dec
    --I21
    refine ⟨isE_row T 21 (by sizeOf_list_dec) rfl ?_⟩
    repeat' array_mem_dec
    rename_i q1 H1 x1 B1 a1 n1 q2 H2 x2 B2 a2 n2 q3 H3 x3 B3 a3 n3 q4 H4 x4 B4 a4 n4 q5 H5 x5 B5 a5 n5 q6 H6 x6 B6 a6 n6 q7 H7 x7 B7 a7 n7 q8 H8 x8 B8 a8 n8 q9 H9 x9 B9 a9 n9 q10 H10 x10 B10 a10 n10 q11 H11 x11 B11 a11 n11 q12 H12 x12 B12 a12 n12 q13 H13 x13 B13 a13 n13 q14 H14 x14 B14 a14 n14 q15 H15 x15 B15 a15 n15 q16 H16 x16 B16 a16 n16 q17 H17 x17 B17 a17 n17 q18 H18 x18 B18 a18 n18 q19 H19 x19 B19 a19 n19 q20 H20 x20 B20 a20 n20 qf Hf xf Bf af nf
    have xx : EM.Ext p H Hf := (x1.trans (x2.trans (x3.trans (x4.trans (x5.trans (x6.trans (x7.trans (x8.trans (x9.trans (x10.trans (x11.trans (x12.trans (x13.trans (x14.trans (x15.trans (x16.trans (x17.trans (x18.trans (x19.trans (x20.trans xf))))))))))))))))))))
    have ef : At p Hf qf (.lst ((List.range 22).map fun j => V.bl (decide (i = j)))) := by
      rw [← kb_eq]
      simp only [List.cons_append, List.nil_append] at af
      exact af
    clear x20 B20 a20 n20 x19 B19 a19 n19 x18 B18 a18 n18 x17 B17 a17 n17 x16 B16 a16 n16 x15 B15 a15 n15 x14 B14 a14 n14 x13 B13 a13 n13 x12 B12 a12 n12 x11 B11 a11 n11 x10 B10 a10 n10 x9 B9 a9 n9 x8 B8 a8 n8 x7 B7 a7 n7 x6 B6 a6 n6 x5 B5 a5 n5 x4 B4 a4 n4 x3 B3 a3 n3 x2 B2 a2 n2 x1 B1 a1 n1 xf af nf
    dsimp only [st_k, List.set_cons_zero, List.set_cons_succ]
    --X1
    refine ⟨qf, _, rfl, ef.at_, ?_⟩
    --X2
    refine LcS.lcP (walk_enum (K := K) (a := qf) (xs := (List.range 22).map fun j => V.bl (decide (i = j)))) Bf (fun j acc => acc = if i < j then [.int i] else []) rfl (by rw [List.length_map, List.length_range]; decide) (fun H1 x1 => SqL.of (ef.ext x1).at_) ?_ ?_
    --X3
    · rintro j y acc K1 K2 Rf Rt hj rfl y1 C1 yp kf kt
      obtain ⟨Wp, a1, a2, rfl, e1, e2, y2, C2, aWp⟩ := yp_open C1 yp
      cases e1
      rw [List.length_map, List.length_range] at hj
      rw [List.getElem?_map, List.getElem?_range hj] at e2
      cases e2
      refine ⟨Wp, _, rfl, SqT.of aWp.at_, rfl, _, _, rfl, _, _, rfl, rfl, rfl, ?_⟩
      refine ⟨_, rfl, _, rfl, ?_⟩
      show (if decide (i = j) = true then _ else _)
      refine ite2 (fun c => ?_) (fun c => ?_)
      · have e : i = j := of_decide_eq_true c
        subst e
        --X6
        refine ⟨_, ⟨_, rfl, ?_⟩, fun v H3 z => z⟩
        --X7
        refine kt _ _ y2 C2 ?_
        rw [if_neg (by omega), if_pos (by omega)]
        rfl
      · have e : i ≠ j := fun z => c (decide_eq_true z)
        refine kf _ y2 C2 ?_
        split <;> split <;> first | rfl | omega
    rintro D ys Kn hD hP hyl x2 B2 aD
    rw [List.length_map, List.length_range] at hP
    subst hP
    exact k D Kn (xx.trans x2) B2 aD
end
end K01
namespace K01
open PySem PySem.Spec PyProof.Rows L2 EM
local macro_rules | `(tactic| sizeOf_list_dec) => `(tactic| first
  | with_reducible assumption
  | ((with_reducible apply EM.At.ext); (focus (with_reducible assumption)); (focus sizeOf_list_dec))
  | ((with_reducible apply EM.RatP.ext); (focus (with_reducible assumption)); (focus sizeOf_list_dec))
  | ((with_reducible apply EM.NumP.ext); (focus (with_reducible assumption)); (focus sizeOf_list_dec))
  | (with_reducible exact EM.Ext.refl)
  | ((with_reducible apply EM.Ext.back); (focus (with_reducible assumption)); (focus sizeOf_list_dec))
  | exact EM.NumP.int _
  | ((with_reducible apply EM.Mu.at_k); (focus (with_reducible assumption)); (focus sizeOf_list_dec); (focus sizeOf_list_dec); (focus (intro _ z; cases z; done)))
  | ((with_reducible apply EM.Mu.at_n); (focus (with_reducible assumption)); (focus sizeOf_list_dec); (focus (first | with_reducible assumption | ((apply EM.nn1); (focus (with_reducible assumption)); (focus sizeOf_list_dec)) | ((apply EM.nn2); (focus (with_reducible assumption)); (focus sizeOf_list_dec)))))
  | ((with_reducible apply EM.Mu.here); (focus (with_reducible assumption)); (focus sizeOf_list_dec))
  | ((with_reducible apply EM.Mu.rat); (focus (with_reducible assumption)); (focus sizeOf_list_dec); (focus sizeOf_list_dec))
  | ((with_reducible apply EM.Mu.num); (focus (with_reducible assumption)); (focus sizeOf_list_dec); (focus sizeOf_list_dec))
  | ((with_reducible apply EM.num_of_rat); (focus sizeOf_list_dec); (focus (first | with_reducible assumption | (apply EM.n_low; assumption))))
  | ((with_reducible apply ErrQ.ext); (focus (with_reducible assumption)); (focus sizeOf_list_dec)))
local macro_rules | `(tactic| decreasing_trivial_pre_omega) => `(tactic| first
  | with_reducible assumption
  | exact EM.Bt.mono (by with_reducible assumption) (by decide)
  | exact EM.Bt.lit _ _ (by decide +kernel)
  | ((with_reducible refine EM.Bt.rng32 ?_ ?_) <;> omega)
  | ((with_reducible refine EM.Bt.rng70 ?_ ?_) <;> omega)
  | ((with_reducible refine EM.Bt.rng200 ?_ ?_) <;> omega)
  | ((with_reducible apply EM.Bt.mulM); (focus decreasing_trivial_pre_omega); (focus decreasing_trivial_pre_omega); (focus (first | decide | exact Nat.le_refl _)))
  | ((with_reducible apply EM.Bt.addM); (focus decreasing_trivial_pre_omega); (focus decreasing_trivial_pre_omega); (focus (first | decide | exact Nat.le_refl _)))
  | ((with_reducible apply EM.Bt.subM); (focus decreasing_trivial_pre_omega); (focus decreasing_trivial_pre_omega); (focus (first | decide | exact Nat.le_refl _)))
  | ((with_reducible apply EM.Bt.topL); (focus decreasing_trivial_pre_omega); (focus assumption); (focus (first | decide | exact Nat.le_refl _)))
  | ((with_reducible apply EM.Bt.botL); (focus decreasing_trivial_pre_omega); (focus assumption); (focus (first | decide | exact Nat.le_refl _)))
  | ((with_reducible apply EM.Bt.divM); (focus decreasing_trivial_pre_omega); (focus assumption); (focus (first | decide | exact Nat.le_refl _)))
  | ((with_reducible apply EM.Bt.negM); (focus decreasing_trivial_pre_omega); (focus (first | decide | exact Nat.le_refl _))))
local macro_rules | `(tactic| array_get_dec) => `(tactic| first
  | with_reducible assumption
  | ((with_reducible refine EM.gEq ?_); exact rfl)
  | ((with_reducible refine EM.gTru ?_); exact rfl)
  | ((with_reducible refine EM.gRef ?_); first | exact Or.inl ⟨_, rfl⟩ | exact Or.inr ⟨_, rfl⟩)
  | ((with_reducible apply EM.At.get); sizeOf_list_dec)
  | ((with_reducible apply EM.At.sqL); sizeOf_list_dec)
  | ((with_reducible apply EM.At.sqT); sizeOf_list_dec)
  | ((with_reducible apply EM.RatP.getK); (focus sizeOf_list_dec); (focus (exact rfl)))
  | (with_reducible exact EM.Num.int _)
  | ((with_reducible apply EM.NumP.getK); (focus sizeOf_list_dec); (focus (exact rfl)))
  | ((with_reducible apply EM.At.ext); (focus (with_reducible assumption)); (focus sizeOf_list_dec))
  | ((with_reducible apply EM.RatP.ext); (focus (with_reducible assumption)); (focus sizeOf_list_dec))
  | ((with_reducible apply EM.NumP.ext); (focus (with_reducible assumption)); (focus sizeOf_list_dec))
  | with_reducible exact Tx.cl_Ratio (by assumption)
  | with_reducible exact Tx.na_Ratio_top (by assumption)
  | with_reducible exact Tx.na_Ratio_bottom (by assumption)
  | ((with_reducible refine EM.gAt ?_); sizeOf_list_dec)
  | ((with_reducible refine EM.gRat ?_); sizeOf_list_dec)
  | ((with_reducible refine EM.gNum ?_); sizeOf_list_dec)
  | ((with_reducible apply EM.TwoP.mk); (focus (with_reducible assumption)); (focus sizeOf_list_dec); (focus (first | with_reducible assumption | (apply EM.n_low; assumption))); (focus sizeOf_list_dec); (focus decreasing_trivial_pre_omega); (focus decreasing_trivial_pre_omega); (focus decreasing_trivial_pre_omega); (focus decreasing_trivial_pre_omega))
  | (with_reducible exact EM.Ext.refl)
  | ((with_reducible apply EM.Ext.back); (focus (with_reducible assumption)); (focus sizeOf_list_dec))
  | ((with_reducible apply EM.Bs.mono); (focus (with_reducible assumption)); omega)
  | ((with_reducible refine EM.gN ?_); first | decide | omega | exact Nat.le_of_ble_eq_true rfl | (simp only [List.length_cons, List.length_nil, List.length_append]; omega))
  | ((with_reducible refine EM.gM ?_); first | decide | omega | exact Nat.le_of_ble_eq_true rfl)
  | ((with_reducible refine EM.gI ?_); first | decide | omega)
  | ((with_reducible refine EM.gJ ?_); first | decide | omega)
  | ((with_reducible refine EM.gE ?_); first | decide | omega)
  | ((with_reducible refine EM.gB ?_); decreasing_trivial_pre_omega)
  | ((with_reducible apply EM.wideM); (focus decreasing_trivial_pre_omega); (focus decreasing_trivial_pre_omega); (focus decide)))
local macro_rules | `(tactic| infer_instance) => `(tactic| first
  | with_reducible assumption
  | exact DpAll.nil
  | (apply DpAll.cons; (focus infer_instance); (focus infer_instance))
  | with_reducible exact Dp.int _
  | exact Dp.int _
  | with_reducible exact Dp.str _
  | exact Dp.bl _
  | exact Dp.non
  | ((with_reducible apply EM.dp_lst); (focus array_get_dec); (focus infer_instance))
  | ((with_reducible apply EM.dp_tup); (focus array_get_dec); (focus infer_instance))
  | exact EM.dp_ints _)
local macro_rules | `(tactic| nofun) => `(tactic| first
  | with_reducible assumption
  | exact EM.FeL.nil
  | exact EM.FdL.nil
  | (apply EM.FeL.cons; (focus nofun); (focus nofun))
  | (apply EM.FdL.cons; (focus nofun); (focus nofun))
  | exact EM.Fe.int _
  | exact EM.Fe.bool _
  | exact EM.Fe.non
  | exact EM.Fe.str (EM.okS_of _)
  | (apply EM.Fe.str; apply EM.Fd.ok; (focus nofun))
  | (apply EM.Fe.list; (focus nofun))
  | (apply EM.Fe.tup; (focus nofun))
  | (apply EM.Fd.int; (focus decreasing_trivial_pre_omega))
  | exact EM.Fd.bool _
  | exact EM.Fd.non
  | (refine EM.Fd.bool _)
  | (apply EM.Fd.list; (focus nofun))
  | (apply EM.Fd.tup; (focus nofun)))
local macro_rules | `(tactic| array_mem_dec) => `(tactic| ((with_reducible refine EM.pr ?_); first
  | (with_reducible refine L2.iteT ?_)
  | (with_reducible refine L2.iteF ?_)
  | (with_reducible refine EM.ifNotT ?_)
  | (with_reducible refine EM.ifNotF ?_)
  | ((fail_if_success (with_reducible refine EM.gIf ?_)); first
  | array_get_dec
  | ((apply EM.DnS.bs); (focus (with_reducible assumption)); (focus (intro _ z; cases z; done)))
  | ((apply EM.seqL); (focus sizeOf_list_dec))
  | ((apply EM.seqT); (focus sizeOf_list_dec))
  | ((apply EM.lenL); (focus sizeOf_list_dec))
  | ((apply EM.lenT); (focus sizeOf_list_dec))
  | ((apply EM.isSeqL); (focus sizeOf_list_dec); (focus sizeOf_list_dec))
  | ((apply EM.isSeqT); (focus sizeOf_list_dec); (focus sizeOf_list_dec))
  | ((apply EM.tupL); (focus sizeOf_list_dec))
  | ((with_reducible refine EM.New.bs (by with_reducible assumption) ?_ ?_); (focus (intro _ z; cases z; done)))
  | ((with_reducible refine EM.gMu ?_); (with_reducible apply EM.mu_bs); (focus (with_reducible assumption)); (focus sizeOf_list_dec); (focus (apply EM.nel2; (focus (with_reducible assumption)); (focus (with_reducible assumption)))); intro _ _ _)
  | intro _
  | (apply And.intro; (focus array_get_dec))
  | apply Exists.intro
  | (refine EM.draw_bs (by with_reducible assumption) ?_ ?_ ?_ ?_; (focus array_get_dec); (focus array_get_dec); (focus (first | decide | omega)))
  | (apply EM.pick_bs; (focus (with_reducible assumption)); (focus array_get_dec); (focus sizeOf_list_dec); (focus (exact Nat.le_of_ble_eq_true rfl)); (focus (exact Nat.le_of_ble_eq_true rfl)))
  | ((apply EM.repr_sw); (focus infer_instance); (focus nofun); (focus decide))
  | ((apply EM.eqd_same); (focus infer_instance); (focus infer_instance); (focus nofun); (focus decide))
  | ((apply EM.ned_same); (focus infer_instance); (focus infer_instance); (focus nofun); (focus decide))
  | ((apply EM.eqd_sw); (focus infer_instance); (focus infer_instance); (focus nofun); (focus nofun); (focus decide))
  | ((apply EM.ned_sw); (focus infer_instance); (focus infer_instance); (focus nofun); (focus nofun); (focus decide))
  | (refine EM.cut_bs (by with_reducible assumption) ?_ ?_ ?_; (focus array_get_dec); (focus array_get_dec)))))
section
variable {P : Program} {w : World} {K : PySem.W.Frag} {mg : Str → Option Value} {base : Heap}
theorem ok_Lis_based (T : Tx K mg) : FnR P w K mg base (L2.CX P w) 3 (He.ga K "_law_is_based") (spBased K) := by
  obtain ⟨fd, F⟩ := T.d_Lis_based
  refine EM.fnr F sc_Lis_based (fun _ _ _ _ _ _ us hl => match us, hl with | [_], _ => rfl) (fun vs H Q E h => ?_) (fun cdv A outer s H vs Q E hr h => ?_)
  · obtain ⟨T0, p, l, a, n, i, rfl, _⟩ := h
    rfl
  · obtain ⟨T0, p, l, a, n, i, rfl, B0, he, k⟩ := h
    refine ⟨_, (PSs.nox (pss_cons (ps_set (i := 1) sc_Lis_based.nd rfl (Or.inl rfl) (pe_callB (callR_sw call_isE) (by rfl) T.f_isinstance (by decide +kernel) (pa_cons (pv 0) (pa_cons (EM.pe_tupN (pa_cons (pe_bltn (v := .ty "KeyError") (by rfl) T.f_KeyError boot_KeyError rfl) (pa_cons (pe_bltn (v := .ty "IndexError") (by rfl) T.f_IndexError boot_IndexError rfl) (pa_cons (pe_bltn (v := .ty "LookupError") (by rfl) T.f_LookupError boot_LookupError rfl) (pa_cons (pe_bltn (v := .ty "ArithmeticError") (by rfl) T.f_ArithmeticError boot_ArithmeticError rfl) (pa_cons (pe_bltn (v := .ty "OverflowError") (by rfl) T.f_OverflowError boot_OverflowError rfl) pa_nil)))))) pa_nil))))
 (pss_cons (ps_set (i := 1) sc_Lis_based.nd rfl (Or.inl rfl) (pe_or (pv 1) (pe_one (pe_callB (callR_sw call_isE) (by rfl) T.f_isinstance (by decide +kernel) (pa_cons (pv 0) (pa_cons (EM.pe_tupN (pa_cons (pe_bltn (v := .ty "TypeError") (by rfl) T.f_TypeError boot_TypeError rfl) (pa_cons (pe_bltn (v := .ty "RuntimeError") (by rfl) T.f_RuntimeError boot_RuntimeError rfl) (pa_cons (pe_bltn (v := .ty "AttributeError") (by rfl) T.f_AttributeError boot_AttributeError rfl) pa_nil)))) pa_nil))))))
 (pss_one (ps_ret (pe_and (pe_callB (callR_sw call_isE) (by rfl) T.f_isinstance (by decide +kernel) (pa_cons (pv 0) (pa_cons (pe_glob (v := .ref (He.ga K "EdgeError")) (by rfl) T.g_EdgeError rfl) pa_nil))) (pe_and (pe_callB (callR_sw call_isE) (by rfl) T.f_isinstance (by decide +kernel) (pa_cons (pv 0) (pa_cons (pe_bltn (v := .ty "ValueError") (by rfl) T.f_ValueError boot_ValueError rfl) pa_nil))) (pe_one (pe_not (pv 1)))))))))), ?_⟩
    repeat' array_mem_dec
    rename_i q1 H1 x1 B1 a1 n1
    refine ⟨isE_no0 T (he.ext x1) a1 ?_⟩
    repeat' array_mem_dec
    rename_i q2 H2 x2 B2 a2 n2
    refine ⟨isE_no1 T ((he.ext x1).ext x2) a2 ?_⟩
    repeat' array_mem_dec
    refine ⟨isE_top T ((he.ext x1).ext x2) ?_⟩
    repeat' array_mem_dec
    refine ⟨isE_val T ((he.ext x1).ext x2) ?_⟩
    repeat' array_mem_dec
    exact k _ (x1.trans x2) B2
end
end K01
namespace K01
open PySem PySem.Spec PyProof.Rows L2 EM
local macro_rules | `(tactic| sizeOf_list_dec) => `(tactic| first
  | with_reducible assumption
  | ((with_reducible apply EM.At.ext); (focus (with_reducible assumption)); (focus sizeOf_list_dec))
  | ((with_reducible apply EM.RatP.ext); (focus (with_reducible assumption)); (focus sizeOf_list_dec))
  | ((with_reducible apply EM.NumP.ext); (focus (with_reducible assumption)); (focus sizeOf_list_dec))
  | (with_reducible exact EM.Ext.refl)
  | ((with_reducible apply EM.Ext.back); (focus (with_reducible assumption)); (focus sizeOf_list_dec))
  | exact EM.NumP.int _
  | ((with_reducible apply EM.Mu.at_k); (focus (with_reducible assumption)); (focus sizeOf_list_dec); (focus sizeOf_list_dec); (focus (intro _ z; cases z; done)))
  | ((with_reducible apply EM.Mu.at_n); (focus (with_reducible assumption)); (focus sizeOf_list_dec); (focus (first | with_reducible assumption | ((apply EM.nn1); (focus (with_reducible assumption)); (focus sizeOf_list_dec)) | ((apply EM.nn2); (focus (with_reducible assumption)); (focus sizeOf_list_dec)))))
  | ((with_reducible apply EM.Mu.here); (focus (with_reducible assumption)); (focus sizeOf_list_dec))
  | ((with_reducible apply EM.Mu.rat); (focus (with_reducible assumption)); (focus sizeOf_list_dec); (focus sizeOf_list_dec))
  | ((with_reducible apply EM.Mu.num); (focus (with_reducible assumption)); (focus sizeOf_list_dec); (focus sizeOf_list_dec))
  | ((with_reducible apply EM.num_of_rat); (focus sizeOf_list_dec); (focus (first | with_reducible assumption | (apply EM.n_low; assumption))))
  | ((with_reducible apply ErrQ.ext); (focus (with_reducible assumption)); (focus sizeOf_list_dec)))
local macro_rules | `(tactic| decreasing_trivial_pre_omega) => `(tactic| first
  | with_reducible assumption
  | exact EM.Bt.mono (by with_reducible assumption) (by decide)
  | exact EM.Bt.lit _ _ (by decide +kernel)
  | ((with_reducible refine EM.Bt.rng32 ?_ ?_) <;> omega)
  | ((with_reducible refine EM.Bt.rng70 ?_ ?_) <;> omega)
  | ((with_reducible refine EM.Bt.rng200 ?_ ?_) <;> omega)
  | ((with_reducible apply EM.Bt.mulM); (focus decreasing_trivial_pre_omega); (focus decreasing_trivial_pre_omega); (focus (first | decide | exact Nat.le_refl _)))
  | ((with_reducible apply EM.Bt.addM); (focus decreasing_trivial_pre_omega); (focus decreasing_trivial_pre_omega); (focus (first | decide | exact Nat.le_refl _)))
  | ((with_reducible apply EM.Bt.subM); (focus decreasing_trivial_pre_omega); (focus decreasing_trivial_pre_omega); (focus (first | decide | exact Nat.le_refl _)))
  | ((with_reducible apply EM.Bt.topL); (focus decreasing_trivial_pre_omega); (focus assumption); (focus (first | decide | exact Nat.le_refl _)))
  | ((with_reducible apply EM.Bt.botL); (focus decreasing_trivial_pre_omega); (focus assumption); (focus (first | decide | exact Nat.le_refl _)))
  | ((with_reducible apply EM.Bt.divM); (focus decreasing_trivial_pre_omega); (focus assumption); (focus (first | decide | exact Nat.le_refl _)))
  | ((with_reducible apply EM.Bt.negM); (focus decreasing_trivial_pre_omega); (focus (first | decide | exact Nat.le_refl _))))
local macro_rules | `(tactic| array_get_dec) => `(tactic| first
  | with_reducible assumption
  | ((with_reducible refine EM.gEq ?_); exact rfl)
  | ((with_reducible refine EM.gTru ?_); exact rfl)
  | ((with_reducible refine EM.gRef ?_); first | exact Or.inl ⟨_, rfl⟩ | exact Or.inr ⟨_, rfl⟩)
  | ((with_reducible apply EM.At.get); sizeOf_list_dec)
  | ((with_reducible apply EM.At.sqL); sizeOf_list_dec)
  | ((with_reducible apply EM.At.sqT); sizeOf_list_dec)
  | ((with_reducible apply EM.RatP.getK); (focus sizeOf_list_dec); (focus (exact rfl)))
  | (with_reducible exact EM.Num.int _)
  | ((with_reducible apply EM.NumP.getK); (focus sizeOf_list_dec); (focus (exact rfl)))
  | ((with_reducible apply EM.At.ext); (focus (with_reducible assumption)); (focus sizeOf_list_dec))
  | ((with_reducible apply EM.RatP.ext); (focus (with_reducible assumption)); (focus sizeOf_list_dec))
  | ((with_reducible apply EM.NumP.ext); (focus (with_reducible assumption)); (focus sizeOf_list_dec))
  | with_reducible exact Tx.cl_Ratio (by assumption)
  | with_reducible exact Tx.na_Ratio_top (by assumption)
  | with_reducible exact Tx.na_Ratio_bottom (by assumption)
  | ((with_reducible refine EM.gAt ?_); sizeOf_list_dec)
  | ((with_reducible refine EM.gRat ?_); sizeOf_list_dec)
  | ((with_reducible refine EM.gNum ?_); sizeOf_list_dec)
  | ((with_reducible apply EM.TwoP.mk); (focus (with_reducible assumption)); (focus sizeOf_list_dec); (focus (first | with_reducible assumption | (apply EM.n_low; assumption))); (focus sizeOf_list_dec); (focus decreasing_trivial_pre_omega); (focus decreasing_trivial_pre_omega); (focus decreasing_trivial_pre_omega); (focus decreasing_trivial_pre_omega))
  | (with_reducible exact EM.Ext.refl)
  | ((with_reducible apply EM.Ext.back); (focus (with_reducible assumption)); (focus sizeOf_list_dec))
  | ((with_reducible apply EM.Bs.mono); (focus (with_reducible assumption)); omega)
  | ((with_reducible refine EM.gN ?_); first | decide | omega | exact Nat.le_of_ble_eq_true rfl | (simp only [List.length_cons, List.length_nil, List.length_append]; omega))
  | ((with_reducible refine EM.gM ?_); first | decide | omega | exact Nat.le_of_ble_eq_true rfl)
  | ((with_reducible refine EM.gI ?_); first | decide | omega)
  | ((with_reducible refine EM.gJ ?_); first | decide | omega)
  | ((with_reducible refine EM.gE ?_); first | decide | omega)
  | ((with_reducible refine EM.gB ?_); decreasing_trivial_pre_omega)
  | ((with_reducible apply EM.wideM); (focus decreasing_trivial_pre_omega); (focus decreasing_trivial_pre_omega); (focus decide)))
local macro_rules | `(tactic| infer_instance) => `(tactic| first
  | with_reducible assumption
  | exact DpAll.nil
  | (apply DpAll.cons; (focus infer_instance); (focus infer_instance))
  | with_reducible exact Dp.int _
  | exact Dp.int _
  | with_reducible exact Dp.str _
  | exact Dp.bl _
  | exact Dp.non
  | ((with_reducible apply EM.dp_lst); (focus array_get_dec); (focus infer_instance))
  | ((with_reducible apply EM.dp_tup); (focus array_get_dec); (focus infer_instance))
  | exact EM.dp_ints _)
local macro_rules | `(tactic| nofun) => `(tactic| first
  | with_reducible assumption
  | exact EM.FeL.nil
  | exact EM.FdL.nil
  | (apply EM.FeL.cons; (focus nofun); (focus nofun))
  | (apply EM.FdL.cons; (focus nofun); (focus nofun))
  | exact EM.Fe.int _
  | exact EM.Fe.bool _
  | exact EM.Fe.non
  | exact EM.Fe.str (EM.okS_of _)
  | (apply EM.Fe.str; apply EM.Fd.ok; (focus nofun))
  | (apply EM.Fe.list; (focus nofun))
  | (apply EM.Fe.tup; (focus nofun))
  | (apply EM.Fd.int; (focus decreasing_trivial_pre_omega))
  | exact EM.Fd.bool _
  | exact EM.Fd.non
  | (refine EM.Fd.bool _)
  | (apply EM.Fd.list; (focus nofun))
  | (apply EM.Fd.tup; (focus nofun)))
local macro_rules | `(tactic| array_mem_dec) => `(tactic| ((with_reducible refine EM.pr ?_); first
  | (with_reducible refine L2.iteT ?_)
  | (with_reducible refine L2.iteF ?_)
  | (with_reducible refine EM.ifNotT ?_)
  | (with_reducible refine EM.ifNotF ?_)
  | ((fail_if_success (with_reducible refine EM.gIf ?_)); first
  | array_get_dec
  | ((apply EM.DnS.bs); (focus (with_reducible assumption)); (focus (intro _ z; cases z; done)))
  | ((apply EM.seqL); (focus sizeOf_list_dec))
  | ((apply EM.seqT); (focus sizeOf_list_dec))
  | ((apply EM.lenL); (focus sizeOf_list_dec))
  | ((apply EM.lenT); (focus sizeOf_list_dec))
  | ((apply EM.isSeqL); (focus sizeOf_list_dec); (focus sizeOf_list_dec))
  | ((apply EM.isSeqT); (focus sizeOf_list_dec); (focus sizeOf_list_dec))
  | ((apply EM.tupL); (focus sizeOf_list_dec))
  | (with_reducible apply EM.NeS.mk')
  | ((with_reducible refine EM.New.bs (by with_reducible assumption) ?_ ?_); (focus (intro _ z; cases z; done)))
  | ((with_reducible refine EM.gMu ?_); (with_reducible apply EM.mu_bs); (focus (with_reducible assumption)); (focus sizeOf_list_dec); (focus (apply EM.nel2; (focus (with_reducible assumption)); (focus (with_reducible assumption)))); intro _ _ _)
  | intro _
  | (apply And.intro; (focus array_get_dec))
  | apply Exists.intro
  | (refine EM.draw_bs (by with_reducible assumption) ?_ ?_ ?_ ?_; (focus array_get_dec); (focus array_get_dec); (focus (first | decide | omega)))
  | (apply EM.pick_bs; (focus (with_reducible assumption)); (focus array_get_dec); (focus sizeOf_list_dec); (focus (exact Nat.le_of_ble_eq_true rfl)); (focus (exact Nat.le_of_ble_eq_true rfl)))
  | ((apply EM.repr_sw); (focus infer_instance); (focus nofun); (focus decide))
  | ((apply EM.eqd_same); (focus infer_instance); (focus infer_instance); (focus nofun); (focus decide))
  | ((apply EM.ned_same); (focus infer_instance); (focus infer_instance); (focus nofun); (focus decide))
  | ((apply EM.eqd_sw); (focus infer_instance); (focus infer_instance); (focus nofun); (focus nofun); (focus decide))
  | ((apply EM.ned_sw); (focus infer_instance); (focus infer_instance); (focus nofun); (focus nofun); (focus decide))
  | (refine EM.cut_bs (by with_reducible assumption) ?_ ?_ ?_; (focus array_get_dec); (focus array_get_dec)))))
section
variable {P : Program} {w : World} {K : PySem.W.Frag} {mg : Str → Option Value} {base : Heap}
theorem ok_law (T : Tx K mg) : FnG P w K mg base (L2.CX P w) 12 (He.ga K "law") (spLaw K) := by
  obtain ⟨fd, F⟩ := T.d_law
  refine EM.fng F sc_law (fun _ _ _ _ _ _ us hl => match us, hl with | [_], _ => rfl) (fun vs H Q E h => ?_) (fun cdv A outer s H vs Q E hr hG h => ?_)
  · obtain ⟨a, ns, rfl, _⟩ := h
    rfl
  · obtain ⟨a, ns, rfl, hS, hl, k⟩ := h
    refine ⟨_, (PSs.nox (pss_cons (ps_set (i := 1) sc_law.nd rfl (Or.inl rfl) (EM.pe_cR ((ok_Lpen T).sw) (hr.mono (by decide)) T.k__law_pen T.g__law_pen passL (pa_cons (pv 0) pa_nil)))
 (pss_cons (EM.forN (ps_for PassesOwn.never rfl (pi_range1 (by rfl) T.f_range (pa_cons pe_int pa_nil)).mc (pg_name (i := 2) sc_law.nd rfl (Or.inl rfl))
  (pss_cons (ps_asg (EM.pe_tupN (pa_cons (EM.pe_cR ((ok_Lthing T).sw) (hr.mono (by decide)) T.k__law_thing T.g__law_thing passL (pa_cons (pv 1) pa_nil)) (pa_cons (EM.pe_cR ((ok_Lthing T).sw) (hr.mono (by decide)) T.k__law_thing T.g__law_thing passL (pa_cons (pv 1) pa_nil)) pa_nil))) (pg_tup (by rfl) (pgs_cons (pg_name (i := 3) sc_law.nd rfl (Or.inr rfl)) (pgs_cons (pg_name (i := 4) sc_law.nd rfl (Or.inr rfl)) pgs_nil))))
 (pss_cons (EM.setLcN (ps_setLc (i := 5) (own := [("_law_error", 6), ("_law_kept", 7)]) (g := gTup K 2 (gCons (gName 6) (gCons (gName 7) gNil))) (te := mcE (tTupN (tCons (tVar 6) (tCons (tVar 7) (tCons (tOp rRepN (tLstN (tCons (tVar 3) tNil)) (tC (.int 2))) tNil))))) rfl sc_law.nd rfl rfl (sw_true rfl rfl rfl (by decide +kernel)) (EM.pi_seqN (EM.pe_cR ((ok_Lsingles T).sw) (hr.mono (by decide)) T.k__law_singles T.g__law_singles passL (pa_cons (pv 3) pa_nil))).mc (blkOk_by (N := ["_law_script", "_law_pen_here", "_law_turn", "_law_left", "_law_right", "_law_rows", "_law_error", "_law_kept", "_law_k", "_law_due"]) (sc := defScope s_law) (by decide +kernel)) (fun _ _ _ _ _ => (pg_tup (by rfl) (pgs_cons (pg_name (i := 6) sc_law.nd rfl (Or.inl rfl)) (pgs_cons (pg_name (i := 7) sc_law.nd rfl (Or.inl rfl)) pgs_nil)))) (fun _ _ _ _ _ => pts_nil) (fun _ _ _ _ _ => (PE.mc (EM.pe_tupN (pa_cons (pv 6) (pa_cons (pv 7) (pa_cons (pe_op EM.op_repN (EM.pe_lstN (pa_cons (pv 3) pa_nil)) pe_int) pa_nil))))))))
 (pss_cons (ps_set (i := 5) sc_law.nd rfl (Or.inl rfl) (pe_op EM.op_catN (pv 5) (EM.lcN (pe_lc (own := [("_law_error", 6), ("_law_kept", 7)]) (g := gTup K 2 (gCons (gName 6) (gCons (gName 7) gNil))) (te := mcE (tTupN (tCons (tVar 6) (tCons (tVar 7) (tCons (tOp rRepN (tLstN (tCons (tVar 3) (tCons (tVar 4) tNil))) (tC (.int 2))) tNil))))) rfl sc_law.nd (EM.pi_seqN (EM.pe_cR ((ok_Ldoubles T).sw) (hr.mono (by decide)) T.k__law_doubles T.g__law_doubles passL (pa_cons (pv 3) (pa_cons (pv 4) pa_nil)))).mc (blkOk_by (N := ["_law_script", "_law_pen_here", "_law_turn", "_law_left", "_law_right", "_law_rows", "_law_error", "_law_kept", "_law_k", "_law_due"]) (sc := defScope s_law) (by decide +kernel)) (fun _ _ _ _ _ => (pg_tup (by rfl) (pgs_cons (pg_name (i := 6) sc_law.nd rfl (Or.inl rfl)) (pgs_cons (pg_name (i := 7) sc_law.nd rfl (Or.inl rfl)) pgs_nil)))) (fun _ _ _ _ _ => pts_nil) (fun _ _ _ _ _ => (PE.mc (EM.pe_tupN (pa_cons (pv 6) (pa_cons (pv 7) (pa_cons (pe_op EM.op_repN (EM.pe_lstN (pa_cons (pv 3) (pa_cons (pv 4) pa_nil))) pe_int) pa_nil))))))))))
 (pss_cons (ps_set (i := 5) sc_law.nd rfl (Or.inl rfl) (pe_op EM.op_catN (pv 5) (EM.lcN (pe_lc (own := [("_law_error", 6)]) (g := gName 6) (te := mcE (tTupN (tCons (tVar 6) (tCons (tLstN tNil) (tCons (tLstN tNil) tNil))))) rfl sc_law.nd (EM.pi_seqN (EM.pe_lstN (pa_cons (pe_NoDivisor T) (pa_cons (pe_Unlike T) (pa_cons (pe_NoTerms T) (pa_cons (pe_Empty T) (pa_cons (pe_Uneven T) pa_nil))))))).mc (blkOk_by (N := ["_law_script", "_law_pen_here", "_law_turn", "_law_left", "_law_right", "_law_rows", "_law_error", "_law_kept", "_law_k", "_law_due"]) (sc := defScope s_law) (by decide +kernel)) (fun _ _ _ _ _ => (pg_name (i := 6) sc_law.nd rfl (Or.inl rfl))) (fun _ _ _ _ _ => pts_nil) (fun _ _ _ _ _ => (PE.mc (EM.pe_tupN (pa_cons (pv 6) (pa_cons (EM.pe_lstN pa_nil) (pa_cons (EM.pe_lstN pa_nil) pa_nil))))))))))
 (pss_one (EM.forN (ps_for PassesOwn.never rfl (EM.pi_enumLN (by rfl) T.f_enumerate (pa_cons (pv 5) pa_nil)).mc (pg_tup (by rfl) (pgs_cons (pg_name (i := 8) sc_law.nd rfl (Or.inl rfl)) (pgs_cons (pg_tup (by rfl) (pgs_cons (pg_name (i := 6) sc_law.nd rfl (Or.inl rfl)) (pgs_cons (pg_name (i := 7) sc_law.nd rfl (Or.inl rfl)) (pgs_cons (pg_name (i := 9) sc_law.nd rfl (Or.inl rfl)) pgs_nil)))) pgs_nil)))
  (pss_one (ps_if (PW.pt (pw_or (pt_cmpR (op_sw (op_neD hr.units)) (EM.pe_cR ((ok_Lkinds T).sw) (hr.mono (by decide)) T.k__law_kinds T.g__law_kinds passL (pa_cons (pv 6) pa_nil)) (EM.pe_lstN (pa_cons (pv 8) pa_nil)) (nomark _)) (pw_or (pt_not (pt_val (EM.pe_cR ((ok_Lis_based T).sw) (hr.mono (by decide)) T.k__law_is_based T.g__law_is_based passL (pa_cons (pv 6) pa_nil)))) (pw_or1 (pt_cmpR op_neS (pe_callB (callR_sw (call_rpl T hG (hr.mono (by decide)))) (by rfl) T.f_repr (by decide +kernel) (pa_cons (pv 7) pa_nil)) (pe_callB (callR_sw (call_rpl T hG (hr.mono (by decide)))) (by rfl) T.f_repr (by decide +kernel) (pa_cons (pv 9) pa_nil)) (nomark _))))))
  (pss_one (ps_ret pe_bl)) pss_nil)))))))))))
 (pss_one (ps_ret (pe_and (pe_cmpR (EM.op_eqNil hr.units) (EM.pe_cR ((ok_Lkinds T).sw) (hr.mono (by decide)) T.k__law_kinds T.g__law_kinds passL (pa_cons (pe_EdgeError T) pa_nil)) (EM.pe_lstN pa_nil) (nomark _)) (pe_one (EM.pe_cR ((ok_Lis_based T).sw) (hr.mono (by decide)) T.k__law_is_based T.g__law_is_based passL (pa_cons (pe_EdgeError T) pa_nil))))))))), ?_⟩
    refine ⟨_, rfl, ⟨⟨a, ns, rfl, hS, hl, fun p l H1 s1 np P1 => ?_⟩⟩⟩
    have B0 : Bs [] p l 0 H1 := ⟨P1, fun _ h => by cases h⟩
    repeat' array_mem_dec
    --L0
    refine FoS.it walk_range (fun i σ H2 => Hold (∃ v2 v3 v4 v5 v6 v7 v8 v9 : Option V, σ = [some (.ref a), some (.ref p), v2, v3, v4, v5, v6, v7, v8, v9] ∧ Bs [] p l (4 * i) H2)) ⟨⟨_, _, _, _, _, _, _, _, rfl, B0⟩⟩ (fun _ _ _ _ _ => trivial) ?_ ?_
    · rintro i y σ H2 H3 hi ⟨⟨v2, v3, v4, v5, v6, v7, v8, v9, rfl, B2⟩⟩ ⟨rfl, rfl⟩
      have i4 : i < 4 := hi
      repeat' array_mem_dec
      refine thing_bs B2 (by omega) fun v t Ha xa Ba tv => ?_
      repeat' array_mem_dec
      refine thing_bs Ba (by omega) fun u s' Hb xb Bb tu => ?_
      repeat' array_mem_dec
      try dsimp only [List.set_cons_zero, List.set_cons_succ]
      --L2
      rename_i q0 Hd xd Bd ad nd
      refine singles_bs Bd fun q1 xs1 Hc xc Bc aq1 lx1 rs1 => ?_
      repeat' array_mem_dec
      try dsimp only [List.set_cons_zero, List.set_cons_succ]
      --L3
      rename_i J1 wk1
      refine LcS.lcD wk1 Bc (fun D j acc H' => acc.length = j ∧ Rows3 K p H' [v, v] D 0 acc) (fun _ _ _ _ => ⟨rfl, Rows3.nil⟩) (by omega) (fun H' x => aq1.eq x) ?_ ?_
      · rintro D j y acc K1 K2 Rf Rt hD hj aD ⟨hal, hrr⟩ y1 C1 ⟨rfl, hv⟩ kf kt
        obtain ⟨r, e, kk, rfl, ar, ee, ak, _⟩ := rs1 j y hv
        have nk : kk ≠ D := ne_free ak hD
        refine gTup_two (ar.ext y1) rfl ?_
        refine ⟨rfl, ?_⟩
        refine tYes_in (EM.mcE_in ?_)
        have ee1 := ee.ext y1
        have ak1 := ak.ext y1
        repeat' array_mem_dec
        try dsimp only [List.set_cons_zero, List.set_cons_succ]
        --C1
        rename_i qa K3 y3 C3 aa na qb K4 y4 C4 ab nb qc K5 y5 C5 ac nc
        have ab2 : At p K4 qb (.lst [v, v]) := ab
        have aD3 := aD.ext y3
        have aD5 := (aD3.ext y4).ext y5
        have yy := (y3.trans y4).trans y5
        refine kt _ _ yy C5 fun K6 mu => ?_
        exact ⟨by rw [List.length_append, hal]; rfl, Rows3.step (i := 0 + j) (hrr.ext yy) (by omega) aD5 (ee1.ext yy) (ak1.ext yy) nk (ab2.ext y5) (ne_new aD3 nb) ac mu⟩
      rintro D1 ys1 He1 hD1 ⟨hl1, hr1⟩ _ xe1 Be1 aD1
      repeat' array_mem_dec
      try dsimp only [List.set_cons_zero, List.set_cons_succ]
      --L4
      refine doubles_bs Be1 fun q2 xs2 Hf xf Bf aq2 lx2 rs2 => ?_
      repeat' array_mem_dec
      try dsimp only [List.set_cons_zero, List.set_cons_succ]
      rename_i J2 wk2
      refine LcS.lcD wk2 Bf (fun D j acc H' => acc.length = j ∧ Rows3 K p H' [v, u, v, u] D 14 acc) (fun _ _ _ _ => ⟨rfl, Rows3.nil⟩) (by omega) (fun H' x => aq2.eq x) ?_ ?_
      · rintro D j y acc K1 K2 Rf Rt hD hj aD ⟨hal, hrr⟩ y1 C1 ⟨rfl, hv⟩ kf kt
        obtain ⟨r, e, kk, rfl, ar, ee, ak, _⟩ := rs2 j y hv
        have nk : kk ≠ D := ne_free ak hD
        refine gTup_two (ar.ext y1) rfl ?_
        refine ⟨rfl, ?_⟩
        refine tYes_in (EM.mcE_in ?_)
        have ee1 := ee.ext y1
        have ak1 := ak.ext y1
        repeat' array_mem_dec
        try dsimp only [List.set_cons_zero, List.set_cons_succ]
        --C2
        rename_i qa K3 y3 C3 aa na qb K4 y4 C4 ab nb qc K5 y5 C5 ac nc
        have ab2 : At p K4 qb (.lst [v, u, v, u]) := ab
        have aD3 := aD.ext y3
        have aD5 := (aD3.ext y4).ext y5
        have yy := (y3.trans y4).trans y5
        refine kt _ _ yy C5 fun K6 mu => ?_
        exact ⟨by rw [List.length_append, hal]; rfl, Rows3.step (i := 14 + j) (hrr.ext yy) (by omega) aD5 (ee1.ext yy) (ak1.ext yy) nk (ab2.ext y5) (ne_new aD3 nb) ac mu⟩
      rintro D2 ys2 Hg hD2 ⟨hl2, hr2⟩ _ xg Bg aD2
      repeat' array_mem_dec
      try dsimp only [List.set_cons_zero, List.set_cons_succ]
      --L5
      rename_i q3 Hi xi Bi aq3 nq3
      refine Xv0.bs Bi fun e1 G1 z1 D1_ b1 m1 => ?_
      repeat' array_mem_dec
      refine Xv0.bs D1_ fun e2 G2 z2 D2_ b2 m2 => ?_
      repeat' array_mem_dec
      refine Xv0.bs D2_ fun e3 G3 z3 D3_ b3 m3 => ?_
      repeat' array_mem_dec
      refine Xv0.bs D3_ fun e4 G4 z4 D4_ b4 m4 => ?_
      repeat' array_mem_dec
      refine Xv0.bs D4_ fun e5 G5 z5 D5_ b5 m5 => ?_
      repeat' array_mem_dec
      try dsimp only [List.set_cons_zero, List.set_cons_succ]
      --L6
      rename_i q5 Hj xj Bj a5 nq5 J3 wk3
      have w5 := z5.trans xj
      have w4 := z4.trans w5
      have w3 := z3.trans w4
      have w2 := z2.trans w3
      have w1 := z1.trans w2
      have hE : ∀ (j : Nat) (y : V), ([V.ref e1, V.ref e2, V.ref e3, V.ref e4, V.ref e5] : List V)[j]? = some y → ∃ e, y = .ref e ∧ ErrQ K p Hj e (17 + j) := fun j y h => by
        match j, h with
        | 0, h => cases h; exact ⟨_, rfl, .own rfl (b1.ext w2)⟩
        | 1, h => cases h; exact ⟨_, rfl, .own rfl (b2.ext w3)⟩
        | 2, h => cases h; exact ⟨_, rfl, .own rfl (b3.ext w4)⟩
        | 3, h => cases h; exact ⟨_, rfl, .own rfl (b4.ext w5)⟩
        | 4, h => cases h; exact ⟨_, rfl, .own rfl (b5.ext xj)⟩
        | j + 5, h => simp at h
      refine LcS.lcD wk3 Bj (fun D j acc H' => acc.length = j ∧ Rows3 K p H' [] D 17 acc) (fun _ _ _ _ => ⟨rfl, Rows3.nil⟩) (by show 5 ≤ 100000; decide) (fun H' x => a5.eq x) ?_ ?_
      · rintro D j y acc K1 K2 Rf Rt hD hj aD ⟨hal, hrr⟩ y1 C1 ⟨rfl, hv⟩ kf kt
        obtain ⟨e, rfl, ee⟩ := hE j y hv
        refine ⟨rfl, ?_⟩
        refine tYes_in (EM.mcE_in ?_)
        have ee1 := ee.ext y1
        repeat' array_mem_dec
        try dsimp only [List.set_cons_zero, List.set_cons_succ]
        --C3
        rename_i qa K3 y3 C3 aa na qb K4 y4 C4 ab nb qc K5 y5 C5 ac nc
        have aD3 := aD.ext y3
        have aD5 := (aD3.ext y4).ext y5
        have yy := (y3.trans y4).trans y5
        refine kt _ _ yy C5 fun K6 mu => ?_
        exact ⟨by rw [List.length_append, hal]; rfl, Rows3.step (i := 17 + j) (hrr.ext yy) (by omega) aD5 (ee1.ext yy) (aa.ext (y4.trans y5)) (ne_new aD na) (ab.ext y5) (ne_new aD3 nb) ac mu⟩
      rintro D3 ys3 Hk hD3 ⟨hl3, hr3⟩ _ xk Bk aD3
      repeat' array_mem_dec
      try dsimp only [List.set_cons_zero, List.set_cons_succ]
      --L7
      have l1 : ys1.length = 14 := by omega
      have l2 : ys2.length = 3 := by omega
      have l3 : ys3.length = 5 := hl3
      refine ⟨by rw [List.length_append]; omega, EM.New.bs Bk (by intro _ z; cases z) fun q6 Hm xm Bm aq6 nq6 => ?_⟩
      have y6 := xk.trans xm
      have y5 := w1.trans y6
      have y4 := xi.trans y5
      have y3 := xg.trans y4
      have y2 := xf.trans y3
      have rF : RowsF K p Hm v u ((ys1 ++ ys2) ++ ys3) := rowsF_of (hr1.ext y2) (hr2.ext y4) (hr3.ext xm) l1 l2 l3
      have tvm := tv.ext (((xb.trans xd).trans (xc.trans xe1)).trans y2)
      have tum := tu.ext ((xd.trans (xc.trans xe1)).trans y2)
      obtain ⟨L, eL⟩ : ∃ L, L = (ys1 ++ ys2) ++ ys3 := ⟨_, rfl⟩
      have lL : L.length = 22 := by rw [eL, List.length_append, List.length_append]; omega
      rw [← eL] at rF aq6
      clear tv tu xa xb xd xc xe1 xf xg xi w1 w2 w3 w4 w5 z1 z2 z3 z4 z5 xj xk xm y2 y3 y4 y5 y6 hr1 hr2 hr3 wk1 wk2 wk3 hE b1 b2 b3 b4 b5 m1 m2 m3 m4 m5 D1_ D2_ D3_ D4_ D5_ Ba Bb Bd Bc Be1 Bf Bg Bi Bj Bk rs1 rs2 aq1 aq2 aq3 a5 aD1 aD2 aD3 nq3 nq5 nq6 ad nd hD1 hD2 hD3 eL l1 l2 l3 hl1 hl2 hl3 lx1 lx2
      repeat' array_mem_dec
      try dsimp only [List.set_cons_zero, List.set_cons_succ]
      --L8
      refine EM.enL aq6 ?_
      refine FoS.it (walk_enum (K := K)) (fun j σ H2 => Hold (∃ w6 w7 w8 w9 : Option V, σ = [some (.ref a), some (.ref p), some (.int (0 + (i : Int))), some v, some u, some (.ref q6), w6, w7, w8, w9] ∧ EM.Ext p Hm H2 ∧ Bs [] p l (4 * i + 2 + 2) H2)) ⟨⟨_, _, _, _, rfl, Ext.refl, Bm⟩⟩ (fun _ _ _ _ ⟨⟨_, _, _, _, _, x, _⟩⟩ => SqL.of (aq6.ext x).at_) ?_ ?_
      · rintro j y σ H2 H4 hj ⟨⟨w6, w7, w8, w9, rfl, y1, C1⟩⟩ hy
        obtain ⟨Wp, a1, a2, rfl, f1, f2, y2, C2, aW⟩ := yp_open C1 hy
        cases f1
        obtain ⟨r, e, kk, dd, rfl, ar0, ee0, ak0, ad0⟩ := rF j a2 f2
        rw [lL] at hj
        have yy := y1.trans y2
        have ar := ar0.ext yy
        have ee := ee0.ext yy
        repeat' array_mem_dec
        try dsimp only [List.set_cons_zero, List.set_cons_succ]
        --L9
        refine kinds_bs C2 ee fun q7 Hn xn Bn aq7 => ?_
        rw [if_pos hj] at aq7
        repeat' array_mem_dec
        try dsimp only [List.set_cons_zero, List.set_cons_succ]
        --M1
        rename_i q8 Ho xo Bo aq8 nq8
        have x8 := xn.trans xo
        refine isB_bs Bo (ee.ext x8) fun Hp_ xp Bp => ?_
        repeat' array_mem_dec
        try dsimp only [List.set_cons_zero, List.set_cons_succ]
        --M2
        have x9 := yy.trans (x8.trans xp)
        obtain ⟨ts, ht, hl4⟩ := zf_ths (tvm.ext x9) (tum.ext x9) j
        refine ⟨rpl_bs Bp (ak0.ext x9) ht hl4 fun Hq xq Bq => ?_⟩
        repeat' array_mem_dec
        try dsimp only [List.set_cons_zero, List.set_cons_succ]
        refine ⟨rpl_bs Bq ((ad0.ext x9).ext xq) (ht.ext xq) hl4 fun Hr xr Br => ?_⟩
        repeat' array_mem_dec
        try dsimp only [List.set_cons_zero, List.set_cons_succ]
        --M3
        exact ⟨⟨_, _, _, _, rfl, y1.trans (y2.trans (x8.trans (xp.trans (xq.trans xr)))), Br⟩⟩
      · rintro σ H2 ⟨⟨w6, w7, w8, w9, rfl, y1, C1⟩⟩
        repeat' array_mem_dec
        exact ⟨⟨_, _, _, _, _, _, _, _, rfl, C1.mono (by omega)⟩⟩
    · rintro σ H2 ⟨⟨v2, v3, v4, v5, v6, v7, v8, v9, rfl, B2⟩⟩
      repeat' array_mem_dec
      refine Xv0.bs B2 fun e Hh xe Be ae ne => ?_
      repeat' array_mem_dec
      refine kinds_bs Be (.own (i := 22) rfl ae) fun q Hk xk Bk ak => ?_
      have ak2 : At p Hk q (.lst []) := ak
      clear ak
      repeat' array_mem_dec
      try dsimp only [List.set_cons_zero, List.set_cons_succ]
      rename_i q2 Hm xm Bm am nm
      refine if_pos_of (by rfl) ?_
      refine Xv0.bs Bm fun e2 Hn xn Bn an nn => ?_
      repeat' array_mem_dec
      refine isB_bs Bn (.own (i := 22) rfl an) fun Ho xo Bo => ?_
      repeat' array_mem_dec
      exact k _
end
end K01
set_option maxHeartbeats 0 in
theorem PySem.Challenge.cw_edgesmeet_k01_errors_and_their_fields_holds : PySem.Challenge.rw_edgesmeet_k01_errors_and_their_fields.Holds :=
  K01.pre fun K mg T P w base => K01.ok_law T
