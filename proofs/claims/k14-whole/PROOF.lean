import PyProof.Rows.All
import Wide.All
import OpenK.AllK
import Wide.FinOn
import HandS.ForMost
import HandS.ForExc
import HandS.Deep
import HandS.Defaults
import HandS.WordsExc
import HandS.ExcInit
import HandS.ExcIs
import HandS.ExcField
import KE.KExcSuper
import KE.KExcIs
import KE.KTryMore
import HandS.Property
import HandS.ClsMeth
import HandS.HeadHook1
import HandS.HeadHook2
import HandS.Head0
import HandS.Head1
import HandS.Head2
import HandS.HeadEnd
import KE.KDictKeyed
import KE.KeyNested
import HandS.Style
import HandS.Star
import HandS.Text
import HandS.Comp
import HandS.Iter
import HandS.Dict
import HandS.IsInst
import HandS.Wide
import KE.SortData
import KE.DataMinMax
import KE.KTupSum
import KE.DataCmp
import HandS.OwnEq
import HandS.FStr
import HandS.DictComp
import HandS.Conv
import HandS.GenYield
import HandS.GenList
import HandS.GenCall
import HandS.FStrTup
import PySem.Challenge.RW_stillgrows_k14_whole_late_calls_join_who
set_option Elab.async false
set_option linter.all false
set_option maxRecDepth 100000
set_option maxHeartbeats 4000000
/-! SgTop: where the defs stand. -/
namespace SG
open PySem PySem.Spec PyProof.Rows L2
abbrev noS : Stmt := .Pass ⟨0, 0, 0, 0⟩
def top (i : Nat) : Stmt := PySem.Challenge.pw_stillgrows_k14_whole_late_calls_join_who.main.body.getD i noS
def mth (i j : Nat) : Stmt := match top i with
  | .ClassDef (body := b) .. => b.getD j noS
  | _ => noS
/-- the def x that stands at st is the function object at f -/
abbrev FnT (K : PySem.W.Frag) (x : Str) (st : Stmt) (f : Addr) (fd : FuncData) : Prop := FunD K x x (defArgs st) (defBody st) (defScope st) [] [] f fd
end SG
set_option maxHeartbeats 4000000
/-! SgStm: written by gen_defs.py. -/
namespace SG
open PySem PySem.Spec PyProof.Rows L2
abbrev S_is_group : Stmt := top 17
abbrev S_check_group : Stmt := top 18
abbrev S_is_anchor : Stmt := top 22
abbrev S_is_call : Stmt := top 23
abbrev S_row_after : Stmt := top 26
abbrev S_check_keys : Stmt := top 29
abbrev S_in_stamp_order : Stmt := top 30
abbrev S_signs_of : Stmt := top 31
abbrev S_check_anchors : Stmt := top 32
abbrev S_outward : Stmt := top 33
abbrev S_hangings : Stmt := top 34
abbrev S_layout : Stmt := top 35
abbrev S_row_of : Stmt := top 36
abbrev S_growth_from : Stmt := top 37
abbrev S_law_new : Stmt := top 41
abbrev S_law_draw : Stmt := top 42
abbrev S_law_same : Stmt := top 43
abbrev S_law_rising : Stmt := top 44
abbrev S_law_word : Stmt := top 45
abbrev S_law_groups : Stmt := top 46
abbrev S_law_history : Stmt := top 47
abbrev S_law_key : Stmt := top 48
abbrev S_law_past : Stmt := top 49
abbrev S_law_within : Stmt := top 50
abbrev S_law_cut : Stmt := top 51
abbrev S_law_by_stamps : Stmt := top 52
abbrev S_law_layout : Stmt := top 53
abbrev S_law_sign : Stmt := top 54
abbrev S_law_once : Stmt := top 55
abbrev S_law_calls : Stmt := top 56
abbrev S_law_due : Stmt := top 57
abbrev S_law_spoilt : Stmt := top 58
abbrev S_law_all_rules : Stmt := top 59
abbrev S_law_refusal : Stmt := top 60
abbrev S_law_told : Stmt := top 61
abbrev S_law_grows : Stmt := top 62
abbrev S_law_judged : Stmt := top 63
abbrev S_law_part : Stmt := top 64
abbrev S_law_fixed : Stmt := top 65
abbrev S_law : Stmt := top 66
abbrev S_Call_init : Stmt := mth 24 0
abbrev S_Call_eq : Stmt := mth 24 2
abbrev S_Growth_init : Stmt := mth 27 0
abbrev S_Growth_row : Stmt := mth 27 1
abbrev S_Growth_stages : Stmt := mth 27 2
abbrev S_Rule_init : Stmt := mth 39 3
abbrev S_Rule_text : Stmt := mth 39 6
abbrev S_GrowsError_init : Stmt := mth 2 0
end SG
set_option maxHeartbeats 1000000
/-! SgHk0: the head's Hook, its looks. -/
namespace SG
open PySem PySem.Spec PyProof.Rows L2
/-! ### function objects at found addresses -/
abbrev FnC : Type := Option (Str × Str × Arguments × FuncBody × Scope × Addr × List Str × Addr)
def fnC (K : PySem.W.Frag) (a : Addr) : FnC := match K.lookup a with
  | some ⟨_, _, .func fd, _⟩ => some (fd.name, fd.qualname, fd.params, fd.body, fd.scope, fd.globals, fd.closure.map (·.1), fd.builtins)
  | _ => none
structure FcD where
  at_ : PySem.W.Frag → Addr
  name : Str
  qual : Str
  params : Arguments
  body : List Stmt
  scope : Scope
  cl : List Str
def FcD.val (d : FcD) : FnC := some (d.name, d.qual, d.params, .stmts d.body, d.scope, mainGlobals, d.cl, builtinsNs)
def noneV : Value → Bool
  | .none => true
  | _ => false
def FcD.ok (K : PySem.W.Frag) (d : FcD) : Bool := match K.lookup (d.at_ K) with
  | some ⟨_, _, .func fd, _⟩ => PySem.W.codeIn K fd.code d.qual && noneV fd.defaults
  | _ => false
/-! ### the Hook -/
abbrev AlS : Type := He.AlD × Bool × List FnC
abbrev Ex : Type := PySem.W.Frag → Bool
def obsS (fa : List He.Fa) (fn : List He.DefD) (ex : List Ex) (fc : List FcD) (K : PySem.W.Frag) : AlS := (He.obsD fa fn K, (ex.all fun f => f K) && fc.all fun d => d.ok K, fc.map fun d => fnC K (d.at_ K))
def valS (fn : List He.DefD) (fc : List FcD) : AlS := (He.valD fn, true, fc.map FcD.val)
def SaysS (fa : List He.Fa) (fn : List He.DefD) (ex : List Ex) (fc : List FcD) (K : PySem.W.Frag) : Prop := obsS fa fn ex fc K = valS fn fc
/-- all addresses, the youngest first -/
def asS (n : Nat) : List Addr := mainGlobals :: cStatics :: (List.range n).reverse
def obsSG (fa : List He.Fa) (fn : List He.DefD) (ex : List Ex) (fc : List FcD) (n : Nat) (g : Addr → Option Obj) : AlS := obsS fa fn ex fc (He.frG g (asS n))
def hookS (fa : List He.Fa) (fn : List He.DefD) (ex : List Ex) (fc : List FcD) : PySem.W.Hook where
  α := AlS
  obs := fun s => obsSG fa fn ex fc s.heap.objs.size s.heap.get?
  val := fun _ => valS fn fc
  says := fun _ h => ∃ K : PySem.W.Frag, K.In h ∧ SaysS fa fn ex fc K
  of := fun _ _ e => ⟨_, He.frG_in, e⟩
  keeps := fun _ _ _ ⟨K, hK, c⟩ k => ⟨K, PySem.W.Frag.In.keeps hK k, c⟩
theorem obsSG_eq {fa : List He.Fa} {fn : List He.DefD} {ex : List Ex} {fc : List FcD} (s : PySem.W.SharedT) : obsSG fa fn ex fc s.n (HandSHeadRun.getT s) = (hookS fa fn ex fc).obs s.abs := by
  have e : HandSHeadRun.getT s = s.abs.heap.get? := funext fun a => HandSHeadRun.getT_eq s a
  have z : s.abs.heap.objs.size = s.n := PySem.W.absHeap_size s.tree s.n s.life
  show obsS fa fn ex fc (He.frG (HandSHeadRun.getT s) (asS s.n)) = obsS fa fn ex fc (He.frG s.abs.heap.get? (asS s.abs.heap.objs.size))
  rw [e, z]
/-! ### the looks -/
def opqB : Ex := fun K => decide (PySem.W.nsIn K cStatics "thirdparty.any" = some none)
def clsB (x : Str) : Ex := fun K => decide (PySem.W.findIn K (.ref (He.ga K x)) "__class__" = some (some (.builtin "object.__class__"))) && (decide (PySem.W.specialIn K (.builtin "object.__class__") "__get__" = some (some (.builtin "getset_descriptor.__get__"))) &&
  (decide (PySem.W.takesIn K (.builtin "object.__class__") = some true) && decide (PySem.W.mroIn K (He.ga K x) (.type "object") = some true)))
def creadB (x : Str) : Ex := fun K => PySem.W.readsIn K (He.ga K x) (.type "type") && decide (PySem.W.specialIn K (.ref (He.ga K x)) "__getattribute__" = some (some (.builtin "type.__getattribute__")))
def cvalB (x f : Str) (l : List Str) : Ex := fun K => match PySem.W.findCls K (.ref (He.ga K x)) (.type "type") f with
  | some (.val (.ref a)) => (match K.lookup a with
    | some ⟨.type c, _, .seq its _, _⟩ => decide (c = "tuple") && (decide (its.size ≤ sizeLine) && He.relAll (l.map V.str) its.toList)
    | _ => false)
  | _ => false
def propAd (x f : Str) (K : PySem.W.Frag) : Addr := match PySem.W.recIn K (He.ma K (He.ga K x) f) "property" with
  | some (.ref g :: _) => g
  | _ => 0
def propB (x f : Str) : Ex := fun K => decide (PySem.W.findIn K (.ref (He.ga K x)) f = some (some (.ref (He.ma K (He.ga K x) f)))) && (decide (PySem.W.specialIn K (.ref (He.ma K (He.ga K x) f)) "__get__" = some (some (.builtin "property.__get__"))) &&
  (decide (PySem.W.takesIn K (.ref (He.ma K (He.ga K x) f)) = some true) && (match PySem.W.recIn K (He.ma K (He.ga K x) f) "property" with
    | some (.ref _ :: _) => true
    | _ => false)))
def oexB (x : Str) : Ex := fun K => match K.lookup (He.ga K x) with
  | some ⟨.type t, _, .cls cd, sl⟩ => decide (t = "type") && (match cd.mro, sl.toList with
    | .ref C' :: bm, [_, _, _, _, some (.builtin n), _] => decide (C' = He.ga K x) && (decide (n = "ValueError.__new__") && (!cd.hasDel && (cd.hasDict && PySem.HandSPX.refsVE bm)))
    | _, _ => false)
  | _ => false
def fIof (K : PySem.W.Frag) : Addr := He.ma K (He.ga K "GrowsError") "__init__"
def dB {p : Prop} (d : Decidable p) : Bool := decide p
def excLs (x : Str) (bG bC bM : Bool) : List Ex := [oexB x,
  fun K => decide (PySem.W.findIn K (.ref (He.ga K x)) "__setattr__" = some (some (.builtin "object.__setattr__"))),
  fun K => decide (PySem.W.subIn K (.ref (He.ga K x)) (.type "BaseException") = some true),
  fun K => decide (PySem.W.typeIn K (.ref (He.ga K x)) = some (.type "type")),
  fun K => PySem.W.keepIn K (.ref (He.ga K x)),
  fun K => decide (PySem.W.findIn K (.ref (He.ga K x)) "__init__" = some (some (.ref (fIof K)))),
  fun K => decide (PySem.W.findIn K (.ref (He.ga K x)) "value" = some none),
  fun K => decide (PySem.W.mroIn K (He.ga K x) (.ref (He.ga K "GrowsError")) = some true),
  fun K => decide (PySem.W.ks_superIn K (He.ga K x) (He.ga K "GrowsError") "__init__" = some (some (.builtin "ValueError.__init__"))),
  fun K => decide (PySem.W.subIn K (.ref (He.ga K x)) (.type "ValueError") = some true),
  fun K => decide (PySem.W.findIn K (.ref (He.ga K x)) "__getattribute__" = some (some (.builtin "BaseException.__getattribute__"))),
  fun K => decide (PySem.W.findIn K (.ref (He.ga K x)) "__getattr__" = some none),
  fun K => PySem.W.hasDictIn K (He.ga K x),
  fun K => decide (PySem.W.findIn K (.ref (He.ga K x)) "__class__" = some (some (.builtin "object.__class__"))),
  fun K => decide (PySem.W.specialIn K (.builtin "object.__class__") "__get__" = some (some (.builtin "getset_descriptor.__get__"))),
  fun K => decide (PySem.W.takesIn K (.builtin "object.__class__") = some true),
  fun K => decide (PySem.W.mroIn K (He.ga K x) (.type "object") = some true),
  fun K => decide (PySem.W.exmOne K (.ref (He.ga K x)) (.ref (He.ga K "GrowsError")) = some true),
  fun K => decide (PySem.W.kitOne K (.ref (He.ga K x)) (.ref (He.ga K "MixesGroups")) = some bG),
  fun K => decide (PySem.W.kitOne K (.ref (He.ga K x)) (.ref (He.ga K "ClashingCalls")) = some bC),
  fun K => decide (PySem.W.kitOne K (.ref (He.ga K x)) (.ref (He.ga K "MissingAnchor")) = some bM),
  fun K => decide (PySem.W.kitOne K (.ref (He.ga K x)) (.type "ValueError") = some true)]
def excB (x : Str) (bG bC bM : Bool) : Ex := fun K => (excLs x bG bC bM).all fun f => f K
/-! ### GrowsError.__init__ -/
def fileB (K : PySem.W.Frag) (file : Str) : Value → Bool
  | .ref c => (match K.lookup c with
    | some ⟨_, _, .fields vs, _⟩ => (match (vs[2]? : Option Value) with
      | some (.str f _) => decide (f = file)
      | _ => false)
    | _ => false)
  | _ => false
def cellB (K : PySem.W.Frag) (D : Addr) : List (Str × Addr) → Bool
  | [(_, cc)] => (match K.lookup cc with
    | some ⟨_, _, .cell (some (.ref a)), _⟩ => decide (a = D)
    | _ => false)
  | _ => false
def errB (file : Str) : Ex := fun K => decide (PySem.W.typeIn K (.ref (fIof K)) = some (.type "function")) && ((PySem.W.clsIn K (He.ga K "GrowsError")).isSome && (match K.lookup (fIof K) with
  | some ⟨_, _, .func fd, _⟩ => fileB K file fd.code && cellB K (He.ga K "GrowsError") fd.closure
  | _ => false))
def dErr : FcD := ⟨fIof, "__init__", "GrowsError.__init__", defArgs S_GrowsError_init, defBody S_GrowsError_init, defScope S_GrowsError_init, ["__class__"]⟩
def dRow : FcD := ⟨propAd "Growth" "row", "row", "Growth.row", defArgs S_Growth_row, defBody S_Growth_row, defScope S_Growth_row, []⟩
end SG
set_option maxHeartbeats 0
/-! SgHead: the head; printed by gen_head.py. -/
namespace SG
open PySem PySem.Spec PyProof.Rows L2
abbrev HL : PySem.W.OpenLaw := PySem.Challenge.rw_stillgrows_k14_whole_late_calls_join_who
abbrev HR : PySem.W.OpenRow := PySem.W.OpenLaw.row HL
def hfa : List He.Fa := [
  .free "range",
  .free "len",
  .free "int",
  .free "list",
  .free "tuple",
  .free "sum",
  .free "min",
  .free "sorted",
  .free "isinstance",
  .free "bool",
  .free "str",
  .free "enumerate",
  .free "repr",
  .free "super",
  .free "ValueError",
  .str "LETTERS" "abcdefghijklmnopqrstuvwxyz",
  .glo "RIM",
  .glo "GrowsError",
  .glo "Call",
  .glo "Growth",
  .glo "Rule",
  .glo "MixesGroups",
  .glo "ClashingCalls",
  .glo "MissingAnchor",
  .glo "is_group",
  .glo "check_group",
  .glo "is_anchor",
  .glo "is_call",
  .glo "row_after",
  .glo "check_keys",
  .glo "in_stamp_order",
  .glo "signs_of",
  .glo "check_anchors",
  .glo "outward",
  .glo "hangings",
  .glo "layout",
  .glo "row_of",
  .glo "growth_from",
  .glo "_law_new",
  .glo "_law_draw",
  .glo "_law_same",
  .glo "_law_rising",
  .glo "_law_word",
  .glo "_law_groups",
  .glo "_law_history",
  .glo "_law_key",
  .glo "_law_past",
  .glo "_law_within",
  .glo "_law_cut",
  .glo "_law_by_stamps",
  .glo "_law_layout",
  .glo "_law_sign",
  .glo "_law_once",
  .glo "_law_calls",
  .glo "_law_due",
  .glo "_law_spoilt",
  .glo "_law_all_rules",
  .glo "_law_refusal",
  .glo "_law_told",
  .glo "_law_grows",
  .glo "_law_judged",
  .glo "_law_part",
  .glo "_law_fixed",
  .glo "law",
  .cls "Call",
  .mkr "Call",
  .noat "Call" "station",
  .noat "Call" "seen",
  .noat "Call" "group",
  .noat "Call" "anchor",
  .noat "Call" "number",
  .noat "Call" "clock",
  .noat "Call" "key",
  .cls "Growth",
  .mkr "Growth",
  .noat "Growth" "start",
  .noat "Growth" "joins",
  .noat "Growth" "_end",
  .cls "Rule",
  .mkr "Rule",
  .noat "Rule" "side",
  .noat "Rule" "order",
  .noat "Rule" "link",
  .meth "Call" "__eq__",
  .meth "Rule" "text",
  .meth "Growth" "stages"]
def hfn : List He.DefD := [
  ⟨("is_group", none), "is_group", "is_group", defArgs S_is_group, defBody S_is_group, defScope S_is_group, [], []⟩,
  ⟨("check_group", none), "check_group", "check_group", defArgs S_check_group, defBody S_check_group, defScope S_check_group, [], []⟩,
  ⟨("is_anchor", none), "is_anchor", "is_anchor", defArgs S_is_anchor, defBody S_is_anchor, defScope S_is_anchor, [], []⟩,
  ⟨("is_call", none), "is_call", "is_call", defArgs S_is_call, defBody S_is_call, defScope S_is_call, [], []⟩,
  ⟨("row_after", none), "row_after", "row_after", defArgs S_row_after, defBody S_row_after, defScope S_row_after, [], []⟩,
  ⟨("check_keys", none), "check_keys", "check_keys", defArgs S_check_keys, defBody S_check_keys, defScope S_check_keys, [], []⟩,
  ⟨("in_stamp_order", none), "in_stamp_order", "in_stamp_order", defArgs S_in_stamp_order, defBody S_in_stamp_order, defScope S_in_stamp_order, [], []⟩,
  ⟨("signs_of", none), "signs_of", "signs_of", defArgs S_signs_of, defBody S_signs_of, defScope S_signs_of, [], []⟩,
  ⟨("check_anchors", none), "check_anchors", "check_anchors", defArgs S_check_anchors, defBody S_check_anchors, defScope S_check_anchors, [], []⟩,
  ⟨("outward", none), "outward", "outward", defArgs S_outward, defBody S_outward, defScope S_outward, [], []⟩,
  ⟨("hangings", none), "hangings", "hangings", defArgs S_hangings, defBody S_hangings, defScope S_hangings, [], []⟩,
  ⟨("layout", none), "layout", "layout", defArgs S_layout, defBody S_layout, defScope S_layout, [], []⟩,
  ⟨("row_of", none), "row_of", "row_of", defArgs S_row_of, defBody S_row_of, defScope S_row_of, [], []⟩,
  ⟨("growth_from", none), "growth_from", "growth_from", defArgs S_growth_from, defBody S_growth_from, defScope S_growth_from, [], []⟩,
  ⟨("_law_new", none), "_law_new", "_law_new", defArgs S_law_new, defBody S_law_new, defScope S_law_new, [], []⟩,
  ⟨("_law_draw", none), "_law_draw", "_law_draw", defArgs S_law_draw, defBody S_law_draw, defScope S_law_draw, [], []⟩,
  ⟨("_law_same", none), "_law_same", "_law_same", defArgs S_law_same, defBody S_law_same, defScope S_law_same, [], []⟩,
  ⟨("_law_rising", none), "_law_rising", "_law_rising", defArgs S_law_rising, defBody S_law_rising, defScope S_law_rising, [], []⟩,
  ⟨("_law_word", none), "_law_word", "_law_word", defArgs S_law_word, defBody S_law_word, defScope S_law_word, [], []⟩,
  ⟨("_law_groups", none), "_law_groups", "_law_groups", defArgs S_law_groups, defBody S_law_groups, defScope S_law_groups, [], []⟩,
  ⟨("_law_history", none), "_law_history", "_law_history", defArgs S_law_history, defBody S_law_history, defScope S_law_history, [], []⟩,
  ⟨("_law_key", none), "_law_key", "_law_key", defArgs S_law_key, defBody S_law_key, defScope S_law_key, [], []⟩,
  ⟨("_law_past", none), "_law_past", "_law_past", defArgs S_law_past, defBody S_law_past, defScope S_law_past, [], []⟩,
  ⟨("_law_within", none), "_law_within", "_law_within", defArgs S_law_within, defBody S_law_within, defScope S_law_within, [], []⟩,
  ⟨("_law_cut", none), "_law_cut", "_law_cut", defArgs S_law_cut, defBody S_law_cut, defScope S_law_cut, [], []⟩,
  ⟨("_law_by_stamps", none), "_law_by_stamps", "_law_by_stamps", defArgs S_law_by_stamps, defBody S_law_by_stamps, defScope S_law_by_stamps, [], []⟩,
  ⟨("_law_layout", none), "_law_layout", "_law_layout", defArgs S_law_layout, defBody S_law_layout, defScope S_law_layout, [], []⟩,
  ⟨("_law_sign", none), "_law_sign", "_law_sign", defArgs S_law_sign, defBody S_law_sign, defScope S_law_sign, [], []⟩,
  ⟨("_law_once", none), "_law_once", "_law_once", defArgs S_law_once, defBody S_law_once, defScope S_law_once, [], []⟩,
  ⟨("_law_calls", none), "_law_calls", "_law_calls", defArgs S_law_calls, defBody S_law_calls, defScope S_law_calls, [], []⟩,
  ⟨("_law_due", none), "_law_due", "_law_due", defArgs S_law_due, defBody S_law_due, defScope S_law_due, [], []⟩,
  ⟨("_law_spoilt", none), "_law_spoilt", "_law_spoilt", defArgs S_law_spoilt, defBody S_law_spoilt, defScope S_law_spoilt, [], []⟩,
  ⟨("_law_all_rules", none), "_law_all_rules", "_law_all_rules", defArgs S_law_all_rules, defBody S_law_all_rules, defScope S_law_all_rules, [], []⟩,
  ⟨("_law_refusal", none), "_law_refusal", "_law_refusal", defArgs S_law_refusal, defBody S_law_refusal, defScope S_law_refusal, [], []⟩,
  ⟨("_law_told", none), "_law_told", "_law_told", defArgs S_law_told, defBody S_law_told, defScope S_law_told, [], []⟩,
  ⟨("_law_grows", none), "_law_grows", "_law_grows", defArgs S_law_grows, defBody S_law_grows, defScope S_law_grows, [], []⟩,
  ⟨("_law_judged", none), "_law_judged", "_law_judged", defArgs S_law_judged, defBody S_law_judged, defScope S_law_judged, [], []⟩,
  ⟨("_law_part", none), "_law_part", "_law_part", defArgs S_law_part, defBody S_law_part, defScope S_law_part, [], []⟩,
  ⟨("_law_fixed", none), "_law_fixed", "_law_fixed", defArgs S_law_fixed, defBody S_law_fixed, defScope S_law_fixed, [], []⟩,
  ⟨("law", none), "law", "law", defArgs S_law, defBody S_law, defScope S_law, [], []⟩,
  ⟨("Call", some "__init__"), "__init__", "Call.__init__", defArgs S_Call_init, defBody S_Call_init, defScope S_Call_init, [.glo "RIM"], []⟩,
  ⟨("Call", some "__eq__"), "__eq__", "Call.__eq__", defArgs S_Call_eq, defBody S_Call_eq, defScope S_Call_eq, [], []⟩,
  ⟨("Growth", some "__init__"), "__init__", "Growth.__init__", defArgs S_Growth_init, defBody S_Growth_init, defScope S_Growth_init, [.adr (He.dflAt ("Growth", some "__init__") 0)], []⟩,
  ⟨("Growth", some "stages"), "stages", "Growth.stages", defArgs S_Growth_stages, defBody S_Growth_stages, defScope S_Growth_stages, [], []⟩,
  ⟨("Rule", some "__init__"), "__init__", "Rule.__init__", defArgs S_Rule_init, defBody S_Rule_init, defScope S_Rule_init, [.str "after", .str "newest", .str "whole"], []⟩,
  ⟨("Rule", some "text"), "text", "Rule.text", defArgs S_Rule_text, defBody S_Rule_text, defScope S_Rule_text, [], []⟩]
def hex : List Ex := [
  opqB,
  clsB "Call",
  clsB "Growth",
  clsB "Rule",
  creadB "Rule",
  cvalB "Rule" "SIDES" ["after", "before"],
  cvalB "Rule" "ORDERS" ["newest", "oldest"],
  cvalB "Rule" "LINKS" ["whole", "loose"],
  propB "Growth" "row",
  excB "MixesGroups" true false false,
  excB "ClashingCalls" false true false,
  excB "MissingAnchor" false false true,
  errB HR.prog.main.file,
  (fun K => He.tupB K "RIM" [.non, .int 0])]
def hfc : List FcD := [dErr, dRow]
abbrev hhk : PySem.W.Hook := hookS hfa hfn hex hfc
def hob (s : PySem.W.SharedT) : AlS := obsSG hfa hfn hex hfc s.n (HandSHeadRun.getT s)
theorem hob_eq (s : PySem.W.SharedT) : hob s = hhk.obs s.abs := obsSG_eq s
def hn1 : List PySem.Str := ["_wall", "GrowsError", "InvalidGroup", "InvalidText", "GapOutOfRange", "DoNotMeet", "InvalidRule", "InvalidCall", "MissingAnchor", "ClashingCalls", "MixesGroups", "Stamp", "LETTERS", "DIGITS", "is_group", "check_group", "read_number", "RIM", "is_anchor", "is_call", "Call", "row_after", "Growth", "check_keys", "in_stamp_order", "signs_of", "check_anchors", "outward", "hangings", "layout"]
def hn2 : List PySem.Str := ["row_of", "growth_from", "Rule", "_law_new", "_law_draw", "_law_same", "_law_rising", "_law_word", "_law_groups", "_law_history", "_law_key", "_law_past", "_law_within", "_law_cut", "_law_by_stamps", "_law_layout", "_law_sign", "_law_once", "_law_calls", "_law_due", "_law_spoilt", "_law_all_rules", "_law_refusal", "_law_told", "_law_grows", "_law_judged", "_law_part", "_law_fixed"]
end SG
set_option maxHeartbeats 0
/-! SgRun: printed by gen_head.py. -/
namespace SG
open PySem PySem.Spec PyProof.Rows L2
theorem hrun (w : World) : HandSHeadRun.RunEq HR (PySem.W.view HR.prog [66]) hhk hob 6000 (hn1 ++ hn2) w := by
  intro os
  kernel_rfl
end SG
set_option maxHeartbeats 4000000
/-! SgCore: a calculus over the hand layer's readings. Values are plain data D; a state is the slots' data es and the objects m that the code may still change. -/
namespace SG
open PySem PySem.Spec PyProof.Rows L2
inductive D where
  | non | bl (b : Bool) | int (i : Int) | str (x : Str)
  | tup (ds : List D) | lst (ds : List D)
  | ins (C : Addr) (fs : List (Str × D))
  | raw (v : V)
  | scr (xs : List Int)
/-! v stands for the data d, in the part G of the heap that changes no more -/
mutual
inductive Rp (K : PySem.W.Frag) (G : Hp) : D → V → Prop
  | non : Rp K G .non .non
  | bl (b : Bool) : Rp K G (.bl b) (.bl b)
  | int (i : Int) : Rp K G (.int i) (.int i)
  | str (x : Str) : Rp K G (.str x) (.str x)
  | tup {a : Addr} {xs : List V} {ds : List D} : SqT K G a xs → RpL K G ds xs → Rp K G (.tup ds) (.ref a)
  | lst {a : Addr} {xs : List V} {ds : List D} : G a = some (.lst xs) → RpL K G ds xs → Rp K G (.lst ds) (.ref a)
  | ins {a C dx : Addr} {fs : List (Str × D)} {vs : List (Str × V)} : G a = some (.ins C dx vs) → RpF K G fs vs → Rp K G (.ins C fs) (.ref a)
  | raw (v : V) : Rp K G (.raw v) v
  | scr {a : Addr} {xs : List Int} : SqL K G a (xs.map V.int) → Rp K G (.scr xs) (.ref a)
inductive RpL (K : PySem.W.Frag) (G : Hp) : List D → List V → Prop
  | nil : RpL K G [] []
  | cons {d : D} {v : V} {ds : List D} {vs : List V} : Rp K G d v → RpL K G ds vs → RpL K G (d :: ds) (v :: vs)
inductive RpF (K : PySem.W.Frag) (G : Hp) : List (Str × D) → List (Str × V) → Prop
  | nil : RpF K G [] []
  | cons {f : Str} {d : D} {v : V} {fs : List (Str × D)} {vs : List (Str × V)} : Rp K G d v → RpF K G fs vs → RpF K G ((f, d) :: fs) ((f, v) :: vs)
end
theorem same_rd {H H' : Hp} {a : Addr} {u : HO} (e : Same H H') (h : Rd H a u) : Rd H' a u := by
  rcases h with h | ⟨o, h⟩
  · exact .inl (e a _ h)
  · exact .inr ⟨o, e a _ h⟩
theorem same_t {K : PySem.W.Frag} {H H' : Hp} {a : Addr} {xs : List V} (e : Same H H') (h : SqT K H a xs) : SqT K H' a xs := by
  rcases h with h | h
  · exact .inl (same_rd e h)
  · exact .inr h
theorem same_l {K : PySem.W.Frag} {H H' : Hp} {a : Addr} {xs : List V} (e : Same H H') (h : SqL K H a xs) : SqL K H' a xs := by
  rcases h with h | h
  · exact .inl (same_rd e h)
  · exact .inr h
mutual
theorem Rp.mono {K : PySem.W.Frag} {G G' : Hp} (e : Same G G') : ∀ {d : D} {v : V}, Rp K G d v → Rp K G' d v
  | _, _, .non => .non
  | _, _, .bl b => .bl b
  | _, _, .int i => .int i
  | _, _, .str x => .str x
  | _, _, .tup h r => .tup (same_t e h) (RpL.mono e r)
  | _, _, .lst h r => .lst (e _ _ h) (RpL.mono e r)
  | _, _, .ins h r => .ins (e _ _ h) (RpF.mono e r)
  | _, _, .raw v => .raw v
  | _, _, .scr h => .scr (same_l e h)
theorem RpL.mono {K : PySem.W.Frag} {G G' : Hp} (e : Same G G') : ∀ {ds : List D} {vs : List V}, RpL K G ds vs → RpL K G' ds vs
  | _, _, .nil => .nil
  | _, _, .cons h t => .cons (Rp.mono e h) (RpL.mono e t)
theorem RpF.mono {K : PySem.W.Frag} {G G' : Hp} (e : Same G G') : ∀ {fs : List (Str × D)} {vs : List (Str × V)}, RpF K G fs vs → RpF K G' fs vs
  | _, _, .nil => .nil
  | _, _, .cons h t => .cons (Rp.mono e h) (RpF.mono e t)
end
section
variable {K : PySem.W.Frag} {G : Hp}
theorem RpL.len : ∀ {ds : List D} {vs : List V}, RpL K G ds vs → ds.length = vs.length
  | _, _, .nil => rfl
  | _, _, .cons _ t => by rw [List.length_cons, List.length_cons, RpL.len t]
theorem RpL.get : ∀ {ds : List D} {vs : List V} {i : Nat} {d : D}, RpL K G ds vs → ds[i]? = some d → ∃ v, vs[i]? = some v ∧ Rp K G d v
  | _, _, _, _, .nil, h => by simp at h
  | _, _, 0, _, .cons h _, e => by simp at e; subst e; exact ⟨_, rfl, h⟩
  | _, _, i + 1, _, .cons _ t, e => by
    obtain ⟨v, h1, h2⟩ := RpL.get (i := i) t (by simpa using e)
    exact ⟨v, by simpa using h1, h2⟩
theorem RpL.get' : ∀ {ds : List D} {vs : List V} {i : Nat} {v : V}, RpL K G ds vs → vs[i]? = some v → ∃ d, ds[i]? = some d ∧ Rp K G d v
  | _, _, _, _, .nil, h => by simp at h
  | _, _, 0, _, .cons h _, e => by simp at e; subst e; exact ⟨_, rfl, h⟩
  | _, _, i + 1, _, .cons _ t, e => by
    obtain ⟨d, h1, h2⟩ := RpL.get' (i := i) t (by simpa using e)
    exact ⟨d, by simpa using h1, h2⟩
theorem RpL.app : ∀ {ds es : List D} {vs ws : List V}, RpL K G ds vs → RpL K G es ws → RpL K G (ds ++ es) (vs ++ ws)
  | _, _, _, _, .nil, s => s
  | _, _, _, _, .cons h t, s => .cons h (RpL.app t s)
theorem RpL.one {d : D} {v : V} (h : Rp K G d v) : RpL K G [d] [v] := .cons h .nil
theorem RpL.take : ∀ {ds : List D} {vs : List V} (n : Nat), RpL K G ds vs → RpL K G (ds.take n) (vs.take n)
  | _, _, 0, _ => .nil
  | _, _, _ + 1, .nil => .nil
  | _, _, n + 1, .cons h t => .cons h (RpL.take n t)
theorem RpL.drop : ∀ {ds : List D} {vs : List V} (n : Nat), RpL K G ds vs → RpL K G (ds.drop n) (vs.drop n)
  | _, _, 0, r => r
  | _, _, _ + 1, .nil => .nil
  | _, _, n + 1, .cons _ t => RpL.drop n t
theorem RpL.rev {ds : List D} {vs : List V} (h : RpL K G ds vs) : RpL K G ds.reverse vs.reverse := by
  induction ds generalizing vs with
  | nil => cases h; exact .nil
  | cons d ds ih =>
    cases h with
    | cons h t =>
      rw [List.reverse_cons, List.reverse_cons]
      exact (ih t).app (.one h)
theorem RpL.set {d : D} {v : V} (h : Rp K G d v) : ∀ {ds : List D} {vs : List V} (i : Nat), RpL K G ds vs → RpL K G (ds.set i d) (vs.set i v)
  | _, _, _, .nil => .nil
  | _, _, 0, .cons _ t => .cons h t
  | _, _, i + 1, .cons q t => .cons q (RpL.set h i t)
theorem RpL.dropLast {ds : List D} {vs : List V} (h : RpL K G ds vs) : RpL K G ds.dropLast vs.dropLast := by
  rw [List.dropLast_eq_take, List.dropLast_eq_take, h.len]
  exact h.take _
theorem RpL.ints : ∀ {is : List Int} {vs : List V}, RpL K G (is.map D.int) vs → vs = is.map V.int
  | [], _, h => by cases h; rfl
  | i :: is, _, h => by
    cases h with
    | cons h t =>
      cases h
      rw [List.map_cons, RpL.ints t]
theorem RpL.ofInts : ∀ (is : List Int), RpL K G (is.map D.int) (is.map V.int)
  | [] => .nil
  | i :: is => .cons (.int i) (RpL.ofInts is)
theorem RpL.strs : ∀ {ss : List Str} {vs : List V}, RpL K G (ss.map D.str) vs → vs = ss.map V.str
  | [], _, h => by cases h; rfl
  | i :: is, _, h => by
    cases h with
    | cons h t =>
      cases h
      rw [List.map_cons, RpL.strs t]
theorem RpF.look : ∀ {fs : List (Str × D)} {vs : List (Str × V)} {f : Str} {d : D}, RpF K G fs vs → fs.lookup f = some d → ∃ v, vs.lookup f = some v ∧ Rp K G d v
  | _, _, _, _, .nil, h => by simp at h
  | _, _, f, d, .cons (f := g) h t, e => by
    simp only [List.lookup_cons] at e ⊢
    cases q : f == g with
    | true =>
      rw [q] at e
      simp only [Option.some.injEq] at e
      subst e
      exact ⟨_, rfl, h⟩
    | false =>
      rw [q] at e
      exact RpF.look t e
theorem RpF.none : ∀ {fs : List (Str × D)} {vs : List (Str × V)} {f : Str}, RpF K G fs vs → fs.lookup f = none → vs.lookup f = none
  | _, _, _, .nil, _ => rfl
  | _, _, f, .cons (f := g) h t, e => by
    simp only [List.lookup_cons] at e ⊢
    cases q : f == g with
    | true => rw [q] at e; cases e
    | false =>
      rw [q] at e
      exact RpF.none t e
theorem RpF.len : ∀ {fs : List (Str × D)} {vs : List (Str × V)}, RpF K G fs vs → fs.length = vs.length
  | _, _, .nil => rfl
  | _, _, .cons _ t => by rw [List.length_cons, List.length_cons, RpF.len t]
def putD (f : Str) (d : D) : List (Str × D) → List (Str × D)
  | [] => [(f, d)]
  | (g, x) :: r => if g = f then (g, d) :: r else (g, x) :: putD f d r
theorem RpF.put {f : Str} {d : D} {v : V} (h : Rp K G d v) : ∀ {fs : List (Str × D)} {vs : List (Str × V)}, RpF K G fs vs → RpF K G (putD f d fs) (putF f v vs)
  | _, _, .nil => .cons h .nil
  | _, _, .cons (f := g) q t => by
    show RpF K G (if g = f then _ else _) (if g = f then _ else _)
    by_cases e : g = f
    · rw [if_pos e, if_pos e]
      exact .cons h t
    · rw [if_neg e, if_neg e]
      exact .cons q (RpF.put h t)
end
/-! ### data as the library's own -/
mutual
def D.py : D → PyData
  | .non => .none
  | .bl b => .bool b
  | .int i => .int i
  | .str x => .str x
  | .tup ds => .tuple (D.pyL ds)
  | .lst ds => .list (D.pyL ds)
  | .ins _ _ => .none
  | .raw _ => .none
  | .scr _ => .none
def D.pyL : List D → List PyData
  | [] => []
  | d :: ds => D.py d :: D.pyL ds
end
mutual
def D.pure : D → Bool
  | .ins _ _ => false
  | .raw _ => false
  | .scr _ => false
  | .tup ds => D.pureL ds
  | .lst ds => D.pureL ds
  | _ => true
def D.pureL : List D → Bool
  | [] => true
  | d :: ds => D.pure d && D.pureL ds
end
mutual
theorem Rp.dp {K : PySem.W.Frag} {G H : Hp} (e : Same G H) : ∀ (d : D) (v : V), d.pure = true → Rp K G d v → L2.Dp K H v d.py
  | .non, _, _, h => by cases h; exact .non
  | .bl b, _, _, h => by cases h; exact .bl b
  | .int i, _, _, h => by cases h; exact .int i
  | .str x, _, _, h => by cases h; exact .str x
  | .tup ds, _, p, h => by
    cases h with
    | tup h r => exact .tup (same_t e h) (RpL.dp e ds _ p r)
  | .lst ds, _, p, h => by
    cases h with
    | lst h r => exact .lst (SqL.of (e _ _ h)) (RpL.dp e ds _ p r)
  | .ins _ _, _, p, _ => by simp [D.pure] at p
  | .raw _, _, p, _ => by simp [D.pure] at p
  | .scr _, _, p, _ => by simp [D.pure] at p
theorem RpL.dp {K : PySem.W.Frag} {G H : Hp} (e : Same G H) : ∀ (ds : List D) (vs : List V), D.pureL ds = true → RpL K G ds vs → L2.DpAll K H vs (D.pyL ds)
  | [], _, _, h => by cases h; exact .nil
  | d :: ds, _, p, h => by
    simp only [D.pureL, Bool.and_eq_true] at p
    cases h with
    | cons h t => exact .cons (Rp.dp e d _ p.1 h) (RpL.dp e ds _ p.2 t)
end
end SG
set_option maxHeartbeats 4000000
/-! SgEc: states, the judgements EC (an expression), ECs (arguments), ET (a test), SD (statements), Fn (a def). -/
namespace SG
open PySem PySem.Spec PyProof.Rows L2
/-! ### objects that may still change -/
inductive MO where
  | lst (ds : List D)
  | ins (C : Addr) (fs : List (Str × D))
  | dct (kvs : List (NestedKey × D))
  | dcz (o : Obj) (xs : List (NestedKey × V × V)) (kvs : List (NestedKey × D))
abbrev M := List (Addr × MO)
/-! v is the key k -/
mutual
inductive KeyR (K : PySem.W.Frag) (G : Hp) : NestedKey → V → Prop
  | none : KeyR K G .none .non
  | num (i : Int) : KeyR K G (.num i) (.int i)
  | text (x : Str) : KeyR K G (.text x) (.str x)
  | tup {a : Addr} {xs : List V} {ks : List NestedKey} : SqT K G a xs → KeyRL K G ks xs → KeyR K G (.tup ks) (.ref a)
inductive KeyRL (K : PySem.W.Frag) (G : Hp) : List NestedKey → List V → Prop
  | nil : KeyRL K G [] []
  | cons {k : NestedKey} {v : V} {ks : List NestedKey} {vs : List V} : KeyR K G k v → KeyRL K G ks vs → KeyRL K G (k :: ks) (v :: vs)
end
mutual
theorem KeyR.mono {K : PySem.W.Frag} {G G' : Hp} (e : Same G G') : ∀ {k : NestedKey} {v : V}, KeyR K G k v → KeyR K G' k v
  | _, _, .none => .none
  | _, _, .num i => .num i
  | _, _, .text x => .text x
  | _, _, .tup h r => .tup (same_t e h) (KeyRL.mono e r)
theorem KeyRL.mono {K : PySem.W.Frag} {G G' : Hp} (e : Same G G') : ∀ {ks : List NestedKey} {vs : List V}, KeyRL K G ks vs → KeyRL K G' ks vs
  | _, _, .nil => .nil
  | _, _, .cons h t => .cons (KeyR.mono e h) (KeyRL.mono e t)
end
/-! data as a key -/
mutual
def D.key : D → Option NestedKey
  | .non => some .none
  | .int i => some (.num i)
  | .str x => some (.text x)
  | .tup ds => (D.keyL ds).map .tup
  | _ => none
def D.keyL : List D → Option (List NestedKey)
  | [] => some []
  | d :: ds => match D.key d, D.keyL ds with
    | some k, some ks => some (k :: ks)
    | _, _ => none
end
mutual
theorem Rp.key {K : PySem.W.Frag} {G : Hp} : ∀ (d : D) (v : V) (k : NestedKey), d.key = some k → Rp K G d v → KeyR K G k v
  | .non, _, _, e, h => by cases h; cases e; exact .none
  | .int i, _, _, e, h => by cases h; cases e; exact .num i
  | .str x, _, _, e, h => by cases h; cases e; exact .text x
  | .tup ds, _, k, e, h => by
    cases h with
    | tup h r =>
      have e' : (D.keyL ds).map NestedKey.tup = some k := e
      cases q : D.keyL ds with
      | none => rw [q] at e'; cases e'
      | some ks =>
        rw [q] at e'
        cases e'
        exact .tup h (RpL.key ds _ ks q r)
  | .bl _, _, _, e, _ => by cases e
  | .lst _, _, _, e, _ => by cases e
  | .ins _ _, _, _, e, _ => by cases e
  | .raw _, _, _, e, _ => by cases e
  | .scr _, _, _, e, _ => by cases e
theorem RpL.key {K : PySem.W.Frag} {G : Hp} : ∀ (ds : List D) (vs : List V) (ks : List NestedKey), D.keyL ds = some ks → RpL K G ds vs → KeyRL K G ks vs
  | [], _, _, e, h => by cases h; cases e; exact .nil
  | d :: ds, _, ks, e, h => by
    cases h with
    | cons h t =>
      have e' : (match D.key d, D.keyL ds with
        | some k, some ks => some (k :: ks)
        | _, _ => none) = some ks := e
      cases q : D.key d with
      | none => rw [q] at e'; cases e'
      | some k =>
        cases q2 : D.keyL ds with
        | none => rw [q, q2] at e'; cases e'
        | some ks' =>
          rw [q, q2] at e'
          cases e'
          exact .cons (Rp.key d _ k q h) (RpL.key ds _ ks' q2 t)
end
/-- a dict, by its entries: the key, its value, what stands there -/
def DctO (w : World) (p : Addr) (xs : List (NestedKey × V × V)) : HO := .ext fun h => xs.length ≤ sizeLine ∧ (p == sysModules) = false ∧ ∃ o ents ep, h.get? p = some o ∧ o.ExactDict ∧ o.data = .dict ents ep ∧
  Paired (fun (x : NestedKey × V × V) (e : DictEntry) => e.hash = x.1.hash w ∧ RelV x.2.1 e.key ∧ RelV x.2.2 e.val) xs ents.toList
def KvOk (K : PySem.W.Frag) (G : Hp) (kvs : List (NestedKey × D)) (xs : List (NestedKey × V × V)) : Prop :=
  Paired (fun (p : NestedKey × D) (x : NestedKey × V × V) => x.1 = p.1 ∧ KeyR K G p.1 x.2.1 ∧ Rp K G p.2 x.2.2) kvs xs
def MoOk (K : PySem.W.Frag) (w : World) (G H : Hp) (p : Addr) : MO → Prop
  | .lst ds => ∃ vs, H p = some (.lst vs) ∧ RpL K G ds vs
  | .ins C fs => ∃ dx vs, H p = some (.ins C dx vs) ∧ RpF K G fs vs
  | .dct kvs => ∃ xs, H p = some (DctO w p xs) ∧ KvOk K G kvs xs ∧ (kvs.map (·.1)).Nodup ∧ (∀ q ∈ kvs, q.1.depth ≤ 8)
  | .dcz o xs kvs => H p = some (.frz o (DctO w p xs)) ∧ KvOk K G kvs xs ∧ (kvs.map (·.1)).Nodup ∧ (∀ q ∈ kvs, q.1.depth ≤ 8)
structure Hs (K : PySem.W.Frag) (w : World) (G : Hp) (m : M) (H : Hp) : Prop where
  ex : Same G H
  nd : (m.map (·.1)).Nodup
  ok : ∀ q ∈ m, G q.1 = none ∧ MoOk K w G H q.1 q.2
theorem Paired.imp {α β : Type} {F F' : α → β → Prop} (hf : ∀ a b, F a b → F' a b) : ∀ {xs : List α} {ys : List β}, Paired F xs ys → Paired F' xs ys
  | _, _, .nil => .nil
  | _, _, .cons h t => .cons (hf _ _ h) (Paired.imp hf t)
section
variable {K : PySem.W.Frag} {w : World} {G G' H H' : Hp} {m m' : M} {p : Addr} {o : MO}
theorem KvOk.mono (e : Same G G') {kvs : List (NestedKey × D)} {es : List (NestedKey × V × V)} (h : KvOk K G kvs es) : KvOk K G' kvs es :=
  Paired.imp (fun _ _ z => ⟨z.1, z.2.1.mono e, z.2.2.mono e⟩) h
theorem MoOk.at (h : MoOk K w G H p o) : ∃ u, H p = some u := by
  cases o with
  | lst ds => obtain ⟨_, e, _⟩ := h; exact ⟨_, e⟩
  | ins C fs => obtain ⟨_, _, e, _⟩ := h; exact ⟨_, e⟩
  | dct kvs => obtain ⟨_, e, _⟩ := h; exact ⟨_, e⟩
  | dcz o xs kvs => obtain ⟨e, _⟩ := h; exact ⟨_, e⟩
/-- the heap at p as it was, G grown -/
theorem MoOk.mono (e : Same G G') (hp : ∀ u, H p = some u → H' p = some u) (h : MoOk K w G H p o) : MoOk K w G' H' p o := by
  cases o with
  | lst ds => obtain ⟨vs, q, r⟩ := h; exact ⟨vs, hp _ q, r.mono e⟩
  | ins C fs => obtain ⟨dx, vs, q, r⟩ := h; exact ⟨dx, vs, hp _ q, r.mono e⟩
  | dct kvs => obtain ⟨es, q, r, n⟩ := h; exact ⟨es, hp _ q, r.mono e, n⟩
  | dcz o xs kvs => obtain ⟨q, r, n⟩ := h; exact ⟨hp _ q, r.mono e, n⟩
theorem Hs.fresh (h : Hs K w G m H) (hp : H p = none) : G p = none ∧ ∀ q ∈ m, q.1 ≠ p := by
  refine ⟨h.ex.free hp, fun q hq e => ?_⟩
  obtain ⟨u, hu⟩ := (h.ok q hq).2.at
  rw [e, hp] at hu
  cases hu
/-- a new object that will not change -/
theorem Hs.new {o : HO} (h : Hs K w G m H) (hp : H p = none) : Same G (upd G p o) ∧ Hs K w (upd G p o) m (upd H p o) := by
  obtain ⟨f1, f2⟩ := h.fresh hp
  have e : Same G (upd G p o) := fun b u z => by rw [upd_ne (ne_of_none z f1)]; exact z
  refine ⟨e, ⟨fun b u z => ?_, h.nd, fun q hq => ⟨?_, ?_⟩⟩⟩
  · by_cases hb : b = p
    · subst hb
      rw [upd_same] at z ⊢
      exact z
    · rw [upd_ne hb] at z ⊢
      exact h.ex b u z
  · rw [upd_ne (f2 q hq)]
    exact (h.ok q hq).1
  · exact (h.ok q hq).2.mono e fun u z => by rw [upd_ne (f2 q hq)]; exact z
/-- the heap grows by what nobody tells of -/
theorem Hs.grow (h : Hs K w G m H) (e : Same H H') : Hs K w G m H' := ⟨h.ex.trans e, h.nd, fun q hq => ⟨(h.ok q hq).1, (h.ok q hq).2.mono (Same.refl G) fun u z => e _ _ z⟩⟩
/-- a new object that may change -/
theorem Hs.newM {u : HO} (h : Hs K w G m H) (hp : H p = none) (hn : MoOk K w G (upd H p u) p o) : Hs K w G ((p, o) :: m) (upd H p u) := by
  obtain ⟨f1, f2⟩ := h.fresh hp
  have e : Same H (upd H p u) := fun b u z => by rw [upd_ne (ne_of_none z hp)]; exact z
  refine ⟨h.ex.trans e, ?_, fun q hq => ?_⟩
  · rw [List.map_cons, List.nodup_cons]
    refine ⟨fun z => ?_, h.nd⟩
    obtain ⟨q, hq, e'⟩ := List.mem_map.mp z
    exact f2 q hq e'
  · rcases List.mem_cons.mp hq with rfl | hq
    · exact ⟨f1, hn⟩
    · exact ⟨(h.ok q hq).1, (h.ok q hq).2.mono (Same.refl G) fun u z => e _ _ z⟩
/-- the object at place i, told -/
theorem Hs.get {i : Nat} (h : Hs K w G m H) (hi : m[i]? = some (p, o)) : G p = none ∧ MoOk K w G H p o := h.ok _ (List.mem_of_getElem? hi)
theorem set_fst {o' : MO} : ∀ {m : M} {i : Nat}, m[i]? = some (p, o) → (m.set i (p, o')).map (·.1) = m.map (·.1)
  | [], _, h => by simp at h
  | q :: r, 0, h => by
    simp only [List.getElem?_cons_zero, Option.some.injEq] at h
    subst h
    rfl
  | q :: r, i + 1, h => by
    show q.1 :: (r.set i (p, o')).map (·.1) = q.1 :: r.map (·.1)
    rw [set_fst (m := r) (i := i) (by simpa using h)]
/-- the object at place i changed -/
theorem Hs.write {i : Nat} {o' : MO} {u : HO} (h : Hs K w G m H) (hi : m[i]? = some (p, o)) (hn : MoOk K w G (upd H p u) p o') : Hs K w G (m.set i (p, o')) (upd H p u) := by
  have hg := (h.get hi).1
  refine ⟨fun b v z => by rw [upd_ne (ne_of_none z hg)]; exact h.ex b v z, by rw [set_fst hi]; exact h.nd, fun q hq => ?_⟩
  obtain ⟨j, hj⟩ := List.mem_iff_getElem?.mp hq
  by_cases hij : i = j
  · subst hij
    have hlt : i < m.length := (List.getElem?_eq_some_iff.mp hi).1
    rw [List.getElem?_set_self hlt] at hj
    cases hj
    exact ⟨hg, hn⟩
  · rw [List.getElem?_set_ne hij] at hj
    have hq' : q ∈ m := List.mem_of_getElem? hj
    have hne : q.1 ≠ p := fun e => by
      have h1 : (m.map (·.1))[i]? = some p := by rw [List.getElem?_map, hi]; rfl
      have h2 : (m.map (·.1))[j]? = some p := by rw [List.getElem?_map, hj]; exact congrArg some e
      exact hij ((List.getElem?_inj (List.getElem?_eq_some_iff.mp h1).1 h.nd).mp (h1.trans h2.symm))
    exact ⟨(h.ok q hq').1, (h.ok q hq').2.mono (Same.refl G) fun v z => by rw [upd_ne hne]; exact z⟩
/-- objects forgotten -/
theorem Hs.drop (h : Hs K w G m H) (s : m'.Sublist m) : Hs K w G m' H := ⟨h.ex, h.nd.sublist (s.map _), fun q hq => h.ok q (s.subset hq)⟩
theorem erase_ne {i : Nat} {q : Addr × MO} (hn : (m.map (·.1)).Nodup) (hi : m[i]? = some (p, o)) (hq : q ∈ m.eraseIdx i) : q.1 ≠ p := by
  intro e
  obtain ⟨j, hj⟩ := List.mem_iff_getElem?.mp hq
  have h1 : (m.map (·.1))[i]? = some p := by rw [List.getElem?_map, hi]; rfl
  rw [List.getElem?_eraseIdx] at hj
  split at hj
  · rename_i hlt
    have h2 : (m.map (·.1))[j]? = some p := by rw [List.getElem?_map, hj]; exact congrArg some e
    have := (List.getElem?_inj (List.getElem?_eq_some_iff.mp h1).1 hn).mp (h1.trans h2.symm)
    omega
  · rename_i hge
    have h2 : (m.map (·.1))[j + 1]? = some p := by rw [List.getElem?_map, hj]; exact congrArg some e
    have := (List.getElem?_inj (List.getElem?_eq_some_iff.mp h1).1 hn).mp (h1.trans h2.symm)
    omega
/-- an object changes no more -/
theorem Hs.freeze {i : Nat} {u : HO} (h : Hs K w G m H) (hi : m[i]? = some (p, o)) (hu : H p = some u) : Same G (upd G p u) ∧ Hs K w (upd G p u) (m.eraseIdx i) H := by
  have hg := (h.get hi).1
  have e : Same G (upd G p u) := fun b v z => by rw [upd_ne (ne_of_none z hg)]; exact z
  refine ⟨e, ⟨fun b v z => ?_, h.nd.sublist ((List.eraseIdx_sublist _ _).map _), fun q hq => ?_⟩⟩
  · by_cases hb : b = p
    · subst hb
      rw [upd_same] at z
      cases z
      exact hu
    · rw [upd_ne hb] at z
      exact h.ex b v z
  · have hne := erase_ne h.nd hi hq
    have hq' := (List.eraseIdx_sublist m i).subset hq
    exact ⟨by rw [upd_ne hne]; exact (h.ok q hq').1, (h.ok q hq').2.mono e fun v z => z⟩
end
/-! ### the judgements -/
abbrev Es := List (Option D)
abbrev KD := D → M → Prop
abbrev XD := Addr → D → M → Prop
def Env (K : PySem.W.Frag) (G : Hp) (σ : L2.St) (es : Es) : Prop := ∀ (i : Nat) (d : D), es[i]? = some (some d) → ∃ v, σ[i]? = some (some v) ∧ Rp K G d v
theorem Env.mono {K : PySem.W.Frag} {G G' : Hp} {σ : L2.St} {es : Es} (e : Same G G') (h : Env K G σ es) : Env K G' σ es := fun i d hi => let ⟨v, h1, h2⟩ := h i d hi; ⟨v, h1, h2.mono e⟩
theorem Env.set {K : PySem.W.Frag} {G : Hp} {σ : L2.St} {es : Es} {i : Nat} {d : D} {v : V} (h : Env K G σ es) (hi : i < σ.length) (r : Rp K G d v) : Env K G (σ.set i (some v)) (es.set i (some d)) := fun j e hj => by
  by_cases hij : i = j
  · subst hij
    by_cases hl : i < es.length
    · rw [List.getElem?_set_self hl] at hj
      cases hj
      exact ⟨v, List.getElem?_set_self hi, r⟩
    · rw [List.getElem?_eq_none (by simpa using Nat.le_of_not_lt hl)] at hj
      cases hj
  · rw [List.getElem?_set_ne hij] at hj ⊢
    exact h j e hj
/-- what a raised error's wish is -/
abbrev errV : Str := "value"
def XR (K : PySem.W.Frag) (w : World) (G0 : Hp) (x : XD) (W : WX) : Prop := ∀ (C : Addr) (d : D) (m : M) (G : Hp) (σ : L2.St) (H : Hp) (dx : Addr) (v : V), x C d m → Same G0 G → Hs K w G m H → H dx = some (.xd [(errV, v)]) → Rp K G d v → W (.ref C) (some dx) σ H
def tR (X : Cx) (e : Expr) : TE := fun σ H Q => ∀ (pins : List (Addr × Obj)) (s : Shared), Inv X pins σ H s → wpAny (model X.prog X.w) X.A (eval e X.env) (EP X pins σ Q) X.xe s
theorem pe_R {X : Cx} {e : Expr} : PE X e (tR X e) := ⟨fun pins s σ H Q I h => h pins s I⟩
def tTR (X : Cx) (e : Expr) : TT := fun σ H Q => ∀ (pins : List (Addr × Obj)) (s : Shared), Inv X pins σ H s → wpAny (model X.prog X.w) X.A (isTrue e X.env (eval e X.env)) (TP X pins σ Q) X.xe s
theorem pt_R {X : Cx} {e : Expr} : PT X e (tTR X e) := ⟨fun pins s σ H Q I h => h pins s I⟩
def tWR (X : Cx) (e : Expr) : TT := fun σ H Q => ∀ (wh : Sem Value) (pins : List (Addr × Obj)) (s : Shared), Inv X pins σ H s → wpAny (model X.prog X.w) X.A (isTrue e X.env wh) (TP X pins σ Q) X.xe s
theorem pw_R {X : Cx} {e : Expr} : PW X e (tWR X e) := ⟨fun wh pins s σ H Q I h => h wh pins s I⟩
def tAR (X : Cx) (es : List Expr) : TA := fun σ H Q => ∀ (pos : Pos) (pins : List (Addr × Obj)) (s : Shared), Inv X pins σ H s → wpAny (model X.prog X.w) X.A (spliced (backTo pos (starEach es X.env))) (AP X pins σ Q) X.xe s
theorem pa_R {X : Cx} {es : List Expr} : PA X es (tAR X es) := ⟨fun pos pins s σ H Q I h => h pos pins s I⟩
def tSR (X : Cx) (st : Stmt) : TS := fun Dn σ H => ∀ (pins : List (Addr × Obj)) (s : Shared), Inv X pins σ H s → wpAny (model X.prog X.w) X.A (exec st X.env) (SP X pins Dn) X.xe s
theorem ps_R {X : Cx} {st : Stmt} : PS X st (tSR X st) := ⟨fun pins s σ H Dn I h => h pins s I⟩
def tSsR (X : Cx) (st : List Stmt) : TS := fun Dn σ H => ∀ (pins : List (Addr × Obj)) (s : Shared), Inv X pins σ H s → wpAny (model X.prog X.w) X.A (execs st X.env) (SP X pins Dn) X.xe s
theorem pss_R {X : Cx} {st : List Stmt} : PSs X st (tSsR X st) := ⟨fun pins s σ H Dn I h => h pins s I⟩
/-- the state: what is known to change no more (G), what may change (m), the slots -/
structure ST (X : Cx) (G : Hp) (m : M) (σ : L2.St) (H : Hp) (es : Es) : Prop where
  hs : Hs X.K X.w G m H
  env : Env X.K G σ es
def Bk (X : Cx) (G : Hp) (k : KD) (Q : VK) : Prop := ∀ (v : V) (d : D) (m : M) (G' H' : Hp), k d m → Same G G' → Hs X.K X.w G' m H' → Rp X.K G' d v → Q v H'
def BkL (X : Cx) (G : Hp) (k : List D → M → Prop) (Q : List V → Hp → Prop) : Prop := ∀ (vs : List V) (ds : List D) (m : M) (G' H' : Hp), k ds m → Same G G' → Hs X.K X.w G' m H' → RpL X.K G' ds vs → Q vs H'
def BkT (X : Cx) (G : Hp) (k : Bool → M → Prop) (Q : Bool → Hp → Prop) : Prop := ∀ (b : Bool) (m : M) (G' H' : Hp), k b m → Same G G' → Hs X.K X.w G' m H' → Q b H'
structure Wish (X : Cx) (x : XD) (G : Hp) : Prop where
  w : ∃ W G0, Takes X W ∧ XR X.K X.w G0 x W ∧ Same G0 G
theorem Wish.mono {X : Cx} {x : XD} {G G' : Hp} (h : Wish X x G) (e : Same G G') : Wish X x G' := let ⟨W, G0, a, b, c⟩ := h.w; ⟨⟨W, G0, a, b, c.trans e⟩⟩
def EC (X : Cx) (x : XD) (es : Es) (m : M) (e : Expr) (k : KD) : Prop := ∀ (G : Hp) (σ : L2.St) (H : Hp) (Q : VK), Wish X x G → ST X G m σ H es → Bk X G k Q → tR X e σ H Q
def ECs (X : Cx) (x : XD) (es : Es) (m : M) (as : List Expr) (k : List D → M → Prop) : Prop := ∀ (G : Hp) (σ : L2.St) (H : Hp) (Q : List V → Hp → Prop), Wish X x G → ST X G m σ H es → BkL X G k Q → tAR X as σ H Q
def ET (X : Cx) (x : XD) (es : Es) (m : M) (e : Expr) (k : Bool → M → Prop) : Prop := ∀ (G : Hp) (σ : L2.St) (H : Hp) (Q : Bool → Hp → Prop), Wish X x G → ST X G m σ H es → BkT X G k Q → tTR X e σ H Q
/-- a test whatever its whole is -/
def EW (X : Cx) (x : XD) (es : Es) (m : M) (e : Expr) (k : Bool → M → Prop) : Prop := ∀ (G : Hp) (σ : L2.St) (H : Hp) (Q : Bool → Hp → Prop), Wish X x G → ST X G m σ H es → BkT X G k Q → tWR X e σ H Q
structure DE where
  nx : Es → M → Prop
  rt : KD
  bk : Es → M → Prop := fun _ _ => False
  ct : Es → M → Prop := fun _ _ => False
structure RE (X : Cx) (G : Hp) (E : DE) (Dn : Ends) : Prop where
  nx : ∀ (es : Es) (m : M) (G' : Hp) (σ : L2.St) (H : Hp), E.nx es m → Same G G' → ST X G' m σ H es → σ.length = X.N.length → Dn.nx σ H
  rt : Bk X G E.rt Dn.rt
  bk : ∀ (es : Es) (m : M) (G' : Hp) (σ : L2.St) (H : Hp), E.bk es m → Same G G' → ST X G' m σ H es → σ.length = X.N.length → Dn.bk σ H
  ct : ∀ (es : Es) (m : M) (G' : Hp) (σ : L2.St) (H : Hp), E.ct es m → Same G G' → ST X G' m σ H es → σ.length = X.N.length → Dn.ct σ H
def SS (X : Cx) (x : XD) (es : Es) (m : M) (st : Stmt) (E : DE) : Prop := ∀ (G : Hp) (σ : L2.St) (H : Hp) (Dn : Ends), Wish X x G → ST X G m σ H es → σ.length = X.N.length → RE X G E Dn → tSR X st Dn σ H
def SD (X : Cx) (x : XD) (es : Es) (m : M) (st : List Stmt) (E : DE) : Prop := ∀ (G : Hp) (σ : L2.St) (H : Hp) (Dn : Ends), Wish X x G → ST X G m σ H es → σ.length = X.N.length → RE X G E Dn → tSsR X st Dn σ H
section
variable {X : Cx} {x : XD} {es es' : Es} {m m' : M} {e : Expr} {k k' : KD} {G G' H H' : Hp} {σ : L2.St} {Q : VK}
theorem Bk.mono (h : Bk X G k Q) (e : Same G G') : Bk X G' k Q := fun v d m G1 H1 hk s => h v d m G1 H1 hk (e.trans s)
theorem BkL.mono {k : List D → M → Prop} {Q : List V → Hp → Prop} (h : BkL X G k Q) (e : Same G G') : BkL X G' k Q := fun v d m G1 H1 hk s => h v d m G1 H1 hk (e.trans s)
theorem BkT.mono {k : Bool → M → Prop} {Q : Bool → Hp → Prop} (h : BkT X G k Q) (e : Same G G') : BkT X G' k Q := fun b m G1 H1 hk s => h b m G1 H1 hk (e.trans s)
theorem RE.mono {E : DE} {Dn : Ends} (h : RE X G E Dn) (e : Same G G') : RE X G' E Dn :=
  ⟨fun a b c d f hk s => h.nx a b c d f hk (e.trans s), h.rt.mono e, fun a b c d f hk s => h.bk a b c d f hk (e.trans s), fun a b c d f hk s => h.ct a b c d f hk (e.trans s)⟩
theorem ST.mono (h : ST X G m σ H es) (e : Same G G') (hs : Hs X.K X.w G' m' H') : ST X G' m' σ H' es := ⟨hs, h.env.mono e⟩
theorem EC.imp (h : EC X x es m e k) (hk : ∀ d m, k d m → k' d m) : EC X x es m e k' := fun G σ H Q w st q => h G σ H Q w st fun v d m G' H' z => q v d m G' H' (hk d m z)
/-- by the layer's own rule -/
theorem EC.of {t : TE} (p : PE X e t) (h : ∀ (G : Hp) (σ : L2.St) (H : Hp) (Q : VK), Wish X x G → ST X G m σ H es → Bk X G k Q → t σ H Q) : EC X x es m e k := fun G σ H Q w st q pins s I => p.run pins s σ H Q I (h G σ H Q w st q)
theorem ET.of {t : TT} {k : Bool → M → Prop} (p : PT X e t) (h : ∀ (G : Hp) (σ : L2.St) (H : Hp) (Q : Bool → Hp → Prop), Wish X x G → ST X G m σ H es → BkT X G k Q → t σ H Q) : ET X x es m e k := fun G σ H Q w st q pins s I => p.run pins s σ H Q I (h G σ H Q w st q)
theorem EW.of {t : TT} {k : Bool → M → Prop} (p : PW X e t) (h : ∀ (G : Hp) (σ : L2.St) (H : Hp) (Q : Bool → Hp → Prop), Wish X x G → ST X G m σ H es → BkT X G k Q → t σ H Q) : EW X x es m e k := fun G σ H Q w st q wh pins s I => p.run wh pins s σ H Q I (h G σ H Q w st q)
theorem EW.et {k : Bool → M → Prop} (h : EW X x es m e k) : ET X x es m e k := fun G σ H Q w st q pins s I => h G σ H Q w st q _ pins s I
theorem SS.of {t : TS} {st : Stmt} {E : DE} (p : PS X st t) (h : ∀ (G : Hp) (σ : L2.St) (H : Hp) (Dn : Ends), Wish X x G → ST X G m σ H es → σ.length = X.N.length → RE X G E Dn → t Dn σ H) : SS X x es m st E := fun G σ H Dn w st hl q pins s I => p.run pins s σ H Dn I (h G σ H Dn w st hl q)
theorem ecs_nil {k : List D → M → Prop} (h : k [] m) : ECs X x es m [] k := fun G σ H Q w st q pos pins s I => pa_nil.run pos pins s σ H Q I (q [] [] m G H h (Same.refl G) st.hs .nil)
theorem ecs_cons {k : List D → M → Prop} {as : List Expr} (h : EC X x es m e fun d m1 => ECs X x es m1 as fun ds m2 => k (d :: ds) m2) (hs : starEach (e :: as) X.env = (false, eval e X.env) :: starEach as X.env := by rfl) : ECs X x es m (e :: as) k := by
  intro G σ H Q w st q pos pins s I
  refine (pa_cons pe_R pa_R hs).run pos pins s σ H Q I ?_
  refine h G σ H _ w st fun v d m1 G1 H1 k1 e1 h1 r1 => ?_
  refine k1 G1 σ H1 _ (w.mono e1) (st.mono e1 h1) fun vs ds m2 G2 H2 k2 e2 h2 r2 => ?_
  exact q (v :: vs) (d :: ds) m2 G2 H2 k2 (e1.trans e2) h2 (.cons (r1.mono e2) r2)
end
end SG
set_option maxHeartbeats 4000000
/-! SgRu1: expressions. -/
namespace SG
open PySem PySem.Spec PyProof.Rows L2
/-! ### operations by values -/
def oR (X : Cx) (f : Value → Value → Sem Value) : R2 := fun a b H Q => ∀ (pins : List (Addr × Obj)) (s : Shared) (σ : L2.St) (v u : Value), Inv X pins σ H s → RelV a v → RelV b u → wpAny (model X.prog X.w) X.A (f v u) (EP X pins σ Q) X.xe s
theorem op_R {X : Cx} {f : Value → Value → Sem Value} : OpR X f (oR X f) := fun pins s σ H a b v u Q I ra rb h => h pins s σ v u I ra rb
def iR (X : Cx) : R2 := fun a b H Q => ∀ (value slice : Expr) (pins : List (Addr × Obj)) (s : Shared) (σ : L2.St) (v u : Value), Inv X pins σ H s → RelV a v → RelV b u →
  subscripted slice false v u = operate [v, u] (getItem v u) → wpAny (model X.prog X.w) X.A (subscriptTail value slice v u) (EP X pins σ Q) X.xe s
theorem ix_R {X : Cx} : IxR X (iR X) := fun value slice pins s σ H a b v u Q I ra rb h hs => h value slice pins s σ v u I ra rb hs
def cR (X : Cx) (f : Value) : List V → Hp → VK → Prop := fun as H Q => ∀ (pins : List (Addr × Obj)) (s : Shared) (σ : L2.St) (us : List Value), Inv X pins σ H s → Vals as us → wpAny (model X.prog X.w) X.A (call f us) (EP X pins σ Q) X.xe s
theorem call_R {X : Cx} {f : Value} : CallR X f (cR X f) := fun pins s σ H as us Q I r h => h pins s σ us I r
def uR (X : Cx) (f : Value → Sem Value) : V → Hp → VK → Prop := fun a H Q => ∀ (pins : List (Addr × Obj)) (s : Shared) (σ : L2.St) (v : Value), Inv X pins σ H s → RelV a v → wpAny (model X.prog X.w) X.A (f v) (EP X pins σ Q) X.xe s
theorem un_R {X : Cx} {f : Value → Sem Value} : UnR X f (uR X f) := fun pins s σ H a v Q I r h => h pins s σ v I r
/-- on data -/
def OC (X : Cx) (f : Value → Value → Sem Value) (m : M) (da db : D) (k : KD) : Prop := ∀ (G H : Hp) (va vb : V) (Q : VK), Hs X.K X.w G m H → Rp X.K G da va → Rp X.K G db vb → Bk X G k Q → oR X f va vb H Q
def IC (X : Cx) (m : M) (da db : D) (k : KD) : Prop := ∀ (G H : Hp) (va vb : V) (Q : VK), Hs X.K X.w G m H → Rp X.K G da va → Rp X.K G db vb → Bk X G k Q → iR X va vb H Q
def CC (X : Cx) (f : Value) (m : M) (ds : List D) (k : KD) : Prop := ∀ (G H : Hp) (vs : List V) (Q : VK), Hs X.K X.w G m H → RpL X.K G ds vs → Bk X G k Q → cR X f vs H Q
def UC (X : Cx) (f : Value → Sem Value) (m : M) (d : D) (k : KD) : Prop := ∀ (G H : Hp) (v : V) (Q : VK), Hs X.K X.w G m H → Rp X.K G d v → Bk X G k Q → uR X f v H Q
theorem OC.of {X : Cx} {f : Value → Value → Sem Value} {m : M} {da db : D} {k : KD} {r : R2} (p : OpR X f r) (h : ∀ (G H : Hp) (va vb : V) (Q : VK), Hs X.K X.w G m H → Rp X.K G da va → Rp X.K G db vb → Bk X G k Q → r va vb H Q) : OC X f m da db k :=
  fun G H va vb Q hs ra rb q pins s σ v u I r1 r2 => p pins s σ H va vb v u Q I r1 r2 (h G H va vb Q hs ra rb q)
theorem IC.of {X : Cx} {m : M} {da db : D} {k : KD} {r : R2} (p : IxR X r) (h : ∀ (G H : Hp) (va vb : V) (Q : VK), Hs X.K X.w G m H → Rp X.K G da va → Rp X.K G db vb → Bk X G k Q → r va vb H Q) : IC X m da db k :=
  fun G H va vb Q hs ra rb q value slice pins s σ v u I r1 r2 e => p value slice pins s σ H va vb v u Q I r1 r2 (h G H va vb Q hs ra rb q) e
theorem CC.of {X : Cx} {f : Value} {m : M} {ds : List D} {k : KD} {r : List V → Hp → VK → Prop} (p : CallR X f r) (h : ∀ (G H : Hp) (vs : List V) (Q : VK), Hs X.K X.w G m H → RpL X.K G ds vs → Bk X G k Q → r vs H Q) : CC X f m ds k :=
  fun G H vs Q hs r q pins s σ us I r1 => p pins s σ H vs us Q I r1 (h G H vs Q hs r q)
theorem UC.of {X : Cx} {f : Value → Sem Value} {m : M} {d : D} {k : KD} {r : V → Hp → VK → Prop} (p : UnR X f r) (h : ∀ (G H : Hp) (v : V) (Q : VK), Hs X.K X.w G m H → Rp X.K G d v → Bk X G k Q → r v H Q) : UC X f m d k :=
  fun G H v Q hs r q pins s σ u I r1 => p pins s σ H v u Q I r1 (h G H v Q hs r q)
/-- the end: the value, nothing changed -/
theorem Bk.now {X : Cx} {G H : Hp} {k : KD} {Q : VK} {m : M} {d : D} {v : V} (q : Bk X G k Q) (hs : Hs X.K X.w G m H) (hk : k d m) (r : Rp X.K G d v) : Q v H := q v d m G H hk (Same.refl G) hs r
/-- the end: a new list, a new tuple -/
theorem Bk.lst {X : Cx} {G H : Hp} {k : KD} {Q : VK} {m : M} {ds : List D} {vs : List V} (q : Bk X G k Q) (hs : Hs X.K X.w G m H) (hk : k (.lst ds) m) (r : RpL X.K G ds vs) : ∀ p, H p = none → Q (.ref p) (upd H p (.lst vs)) := fun p hp => by
  obtain ⟨e, h⟩ := hs.new (o := .lst vs) hp
  exact q _ _ m _ _ hk e h (.lst upd_same (r.mono e))
theorem Bk.tup {X : Cx} {G H : Hp} {k : KD} {Q : VK} {m : M} {ds : List D} {vs : List V} (q : Bk X G k Q) (hs : Hs X.K X.w G m H) (hk : k (.tup ds) m) (r : RpL X.K G ds vs) : ∀ p, H p = none → Q (.ref p) (upd H p (.tup vs)) := fun p hp => by
  obtain ⟨e, h⟩ := hs.new (o := .tup vs) hp
  exact q _ _ m _ _ hk e h (.tup (SqT.of upd_same) (r.mono e))
/-- a new list that may change -/
theorem Bk.lstM {X : Cx} {G H : Hp} {k : KD} {Q : VK} {m : M} {ds : List D} {vs : List V} (q : Bk X G k Q) (hs : Hs X.K X.w G m H) (hk : ∀ p, k (.raw (.ref p)) ((p, .lst ds) :: m)) (r : RpL X.K G ds vs) : ∀ p, H p = none → Q (.ref p) (upd H p (.lst vs)) := fun p hp =>
  q _ _ _ _ _ (hk p) (Same.refl G) (hs.newM hp ⟨vs, upd_same, r⟩) (.raw _)
section
variable {X : Cx} {x : XD} {es : Es} {m : M} {a b c : Expr} {as : List Expr} {k : KD} {kt : Bool → M → Prop} {kl : List D → M → Prop} {pos apos p2 : Pos} {da db d : D}
/-! ### names, constants -/
theorem ec_var {i : Nat} {n : Str} (he : es[i]? = some (some d)) (hk : k d m) (hN : X.N[i]? = some n := by rfl) (hv : Vis X.env.scope n := by first | exact Or.inl rfl | exact Or.inr (Or.inl rfl) | exact Or.inr (Or.inr rfl)) (hd : (n == ("__debug__" : Str)) = false := by decide)
    (hcd : (n == ("__classdict__" : Str)) = false := by decide) : EC X x es m (.Name n pos) k := EC.of (pe_var hN hv hd hcd) fun G σ H Q w st q => by
  obtain ⟨v, e, r⟩ := st.env i d he
  exact ⟨v, e, q.now st.hs hk r⟩
theorem ec_int {i : Int} {j : Nat} (hk : k (.int i) m) : EC X x es m (.Constant (.int i) j pos) k := EC.of pe_int fun G σ H Q w st q => q.now st.hs hk (.int i)
theorem ec_bl {i : Bool} {j : Nat} (hk : k (.bl i) m) : EC X x es m (.Constant (.bool i) j pos) k := EC.of pe_bl fun G σ H Q w st q => q.now st.hs hk (.bl i)
theorem ec_non {j : Nat} (hk : k .non m) : EC X x es m (.Constant .none j pos) k := EC.of pe_non fun G σ H Q w st q => q.now st.hs hk .non
theorem ec_str {s : Str} {j : Nat} (hk : k (.str s) m) : EC X x es m (.Constant (.str s) j pos) k := EC.of pe_str fun G σ H Q w st q => q.now st.hs hk (.str s)
theorem ec_glob {n : Str} {v : V} {u : Value} (hm : X.mg n = some u) (r : RelV v u) (hr : ∀ G, Rp X.K G d v) (hk : k d m) (hg : Gl X n := by rfl) (hd : (n == ("__debug__" : Str)) = false := by decide) : EC X x es m (.Name n pos) k :=
  EC.of (pe_glob hg hm r hd) fun G σ H Q w st q => q.now st.hs hk (hr G)
/-! ### operators -/
theorem ec_bin {op : Operator} (h : EC X x es m a fun da m1 => EC X x es m1 b fun db m2 => OC X (binaryOp op) m2 da db k) : EC X x es m (.BinOp a op b pos) k := EC.of (pe_op op_R pe_R pe_R) fun G σ H Q w st q =>
  h G σ H _ w st fun va da m1 G1 H1 k1 e1 h1 r1 => k1 G1 σ H1 _ (w.mono e1) (st.mono e1 h1) fun vb db m2 G2 H2 k2 e2 h2 r2 => k2 G2 H2 va vb Q h2 (r1.mono e2) r2 ((q.mono e1).mono e2)
theorem ec_un {op : UnaryOp} (h : EC X x es m a fun da m1 => UC X (unaryOp op) m1 da k) : EC X x es m (.UnaryOp op a pos) k := EC.of (pe_un un_R pe_R) fun G σ H Q w st q =>
  h G σ H _ w st fun va da m1 G1 H1 k1 e1 h1 r1 => k1 G1 H1 va Q h1 r1 (q.mono e1)
theorem ec_cmp {op : CmpOp} (h : EC X x es m a fun da m1 => EC X x es m1 b fun db m2 => OC X (compareOp op) m2 da db k) (hm : behindInMarks op b = false := by first | exact nomark _ | rfl | with_unfolding_all rfl) : EC X x es m (.Compare a [op] [b] pos) k :=
  EC.of (pe_cmpR op_R pe_R pe_R hm) fun G σ H Q w st q =>
  h G σ H _ w st fun va da m1 G1 H1 k1 e1 h1 r1 => k1 G1 σ H1 _ (w.mono e1) (st.mono e1 h1) fun vb db m2 G2 H2 k2 e2 h2 r2 => k2 G2 H2 va vb Q h2 (r1.mono e2) r2 ((q.mono e1).mono e2)
theorem et_cmp {op : CmpOp} (h : EC X x es m a fun da m1 => EC X x es m1 b fun db m2 => OC X (compareOp op) m2 da db fun d m3 => ∃ c, d = .bl c ∧ kt c m3) (hm : behindInMarks op b = false := by first | exact nomark _ | rfl | with_unfolding_all rfl) : ET X x es m (.Compare a [op] [b] pos) kt :=
  ET.of (pt_cmpR op_R pe_R pe_R hm) fun G σ H Q w st q =>
  h G σ H _ w st fun va da m1 G1 H1 k1 e1 h1 r1 => k1 G1 σ H1 _ (w.mono e1) (st.mono e1 h1) fun vb db m2 G2 H2 k2 e2 h2 r2 => k2 G2 H2 va vb _ h2 (r1.mono e2) r2 fun v d m3 G3 H3 k3 e3 h3 r3 => by
    obtain ⟨c, rfl, z⟩ := k3
    cases r3
    exact ⟨c, rfl, q c m3 G3 H3 z ((e1.trans e2).trans e3) h3⟩
theorem ec_chain {op op' : CmpOp} (h : EC X x es m a fun da m1 => EC X x es m1 b fun db m2 => OC X (compareOp op) m2 da db fun d m3 => ∃ t, d = .bl t ∧ if t = true then EC X x es m3 c fun dc m4 => OC X (compareOp op') m4 db dc k else k (.bl false) m3)
    (hm : lastMarks [op, op'] [b, c] = false := by with_unfolding_all rfl) : EC X x es m (.Compare a [op, op'] [b, c] pos) k :=
  EC.of (pe_chain op_R op_R pe_R pe_R pe_R hm) fun G σ H Q w st q =>
  h G σ H _ w st fun va da m1 G1 H1 k1 e1 h1 r1 => k1 G1 σ H1 _ (w.mono e1) (st.mono e1 h1) fun vb db m2 G2 H2 k2 e2 h2 r2 => k2 G2 H2 va vb _ h2 (r1.mono e2) r2 fun v d m3 G3 H3 k3 e3 h3 r3 => by
    obtain ⟨t, rfl, z⟩ := k3
    cases r3
    refine ⟨t, rfl, ?_⟩
    cases t with
    | true =>
      exact z G3 σ H3 _ (w.mono ((e1.trans e2).trans e3)) (st.mono ((e1.trans e2).trans e3) h3) fun vc dc m4 G4 H4 k4 e4 h4 r4 => k4 G4 H4 vb vc Q h4 (r2.mono (e3.trans e4)) r4 (q.mono (((e1.trans e2).trans e3).trans e4))
    | false => exact (q.mono ((e1.trans e2).trans e3)).now h3 z (.bl false)
/-! ### and, or, not -/
theorem ec_one {op : BoolOp} (h : EC X x es m a k) : EC X x es m (.BoolOp op [a] pos) k := EC.of (pe_one pe_R) h
theorem ec_and {r : List Expr} (h : EC X x es m a fun d m1 => ∃ t, d = .bl t ∧ if t = true then EC X x es m1 (.BoolOp .And (b :: r) pos) k else k (.bl false) m1) : EC X x es m (.BoolOp .And (a :: b :: r) pos) k :=
  EC.of (pe_and pe_R pe_R) fun G σ H Q w st q => h G σ H _ w st fun va d m1 G1 H1 k1 e1 h1 r1 => by
    obtain ⟨t, rfl, z⟩ := k1
    cases r1
    refine ⟨t, rfl, ?_⟩
    cases t with
    | true => exact z G1 σ H1 Q (w.mono e1) (st.mono e1 h1) (q.mono e1)
    | false => exact (q.mono e1).now h1 z (.bl false)
theorem ec_or {r : List Expr} (h : EC X x es m a fun d m1 => ∃ t, d = .bl t ∧ if t = true then k (.bl true) m1 else EC X x es m1 (.BoolOp .Or (b :: r) pos) k) : EC X x es m (.BoolOp .Or (a :: b :: r) pos) k :=
  EC.of (pe_or pe_R pe_R) fun G σ H Q w st q => h G σ H _ w st fun va d m1 G1 H1 k1 e1 h1 r1 => by
    obtain ⟨t, rfl, z⟩ := k1
    cases r1
    refine ⟨t, rfl, ?_⟩
    cases t with
    | true => exact (q.mono e1).now h1 z (.bl true)
    | false => exact z G1 σ H1 Q (w.mono e1) (st.mono e1 h1) (q.mono e1)
theorem ec_not (h : EC X x es m a fun d m1 => ∃ t, d = .bl t ∧ k (.bl (!t)) m1) : EC X x es m (.UnaryOp .Not a pos) k :=
  EC.of (pe_not pe_R) fun G σ H Q w st q => h G σ H _ w st fun va d m1 G1 H1 k1 e1 h1 r1 => by
    obtain ⟨t, rfl, z⟩ := k1
    cases r1
    exact ⟨t, rfl, (q.mono e1).now h1 z (.bl _)⟩
theorem et_val (h : EC X x es m a fun d m1 => ∃ t, d = .bl t ∧ kt t m1) (he : ∀ whole, isTrue a X.env whole = (do let v ← whole; standAt a.pos; holding [v] (truthy v)) := by intro _; rfl) : ET X x es m a kt :=
  ET.of (pt_val pe_R he) fun G σ H Q w st q => h G σ H _ w st fun va d m1 G1 H1 k1 e1 h1 r1 => by
    obtain ⟨t, rfl, z⟩ := k1
    cases r1
    exact ⟨t, rfl, q t m1 G1 H1 z e1 h1⟩
theorem et_chain {op op' : CmpOp} (h : EC X x es m (.Compare a [op, op'] [b, c] pos) fun d m1 => ∃ t, d = .bl t ∧ kt t m1)
    (h2 : EC X x es m a fun da m1 => EC X x es m1 b fun db m2 => OC X (compareOp op) m2 da db fun d m3 => ∃ t, d = .bl t ∧ if t = true then EC X x es m3 c fun dc m4 => OC X (compareOp op') m4 db dc fun d m5 => ∃ t, d = .bl t ∧ kt t m5 else kt false m3)
    (hm : lastMarks [op, op'] [b, c] = false := by with_unfolding_all rfl) : ET X x es m (.Compare a [op, op'] [b, c] pos) kt :=
  ET.of (pt_chain op_R op_R pe_R pe_R pe_R hm) fun G σ H Q w st q =>
  h2 G σ H _ w st fun va da m1 G1 H1 k1 e1 h1 r1 => k1 G1 σ H1 _ (w.mono e1) (st.mono e1 h1) fun vb db m2 G2 H2 k2 e2 h2 r2 => k2 G2 H2 va vb _ h2 (r1.mono e2) r2 fun v d m3 G3 H3 k3 e3 h3 r3 => by
    obtain ⟨t, rfl, z⟩ := k3
    cases r3
    refine ⟨t, rfl, ?_⟩
    cases t with
    | true =>
      exact z G3 σ H3 _ (w.mono ((e1.trans e2).trans e3)) (st.mono ((e1.trans e2).trans e3) h3) fun vc dc m4 G4 H4 k4 e4 h4 r4 => k4 G4 H4 vb vc _ h4 (r2.mono (e3.trans e4)) r4 fun v5 d5 m5 G5 H5 k5 e5 h5 r5 => by
        obtain ⟨t5, rfl, z5⟩ := k5
        cases r5
        exact ⟨t5, rfl, q t5 m5 G5 H5 z5 ((((e1.trans e2).trans e3).trans e4).trans e5) h5⟩
    | false => exact ⟨false, rfl, q false m3 G3 H3 z ((e1.trans e2).trans e3) h3⟩
theorem et_not (h : ET X x es m a fun t m1 => kt (!t) m1) : ET X x es m (.UnaryOp .Not a pos) kt := ET.of (pt_not pt_R) fun G σ H Q w st q => h G σ H _ w st fun t m1 G1 H1 k1 e1 h1 => q _ m1 G1 H1 k1 e1 h1
theorem ew_and1 (h : ET X x es m a kt) : EW X x es m (.BoolOp .And [a] pos) kt := EW.of (pw_and1 pt_R) h
theorem ew_or1 (h : ET X x es m a kt) : EW X x es m (.BoolOp .Or [a] pos) kt := EW.of (pw_or1 pt_R) h
theorem ew_and {r : List Expr} (h : ET X x es m a fun t m1 => if t = true then EW X x es m1 (.BoolOp .And (b :: r) pos) kt else kt false m1) : EW X x es m (.BoolOp .And (a :: b :: r) pos) kt :=
  EW.of (pw_and pt_R pw_R) fun G σ H Q w st q => h G σ H _ w st fun t m1 G1 H1 k1 e1 h1 => by
    cases t with
    | true => exact k1 G1 σ H1 Q (w.mono e1) (st.mono e1 h1) (q.mono e1)
    | false => exact q false m1 G1 H1 k1 e1 h1
theorem ew_or {r : List Expr} (h : ET X x es m a fun t m1 => if t = true then kt true m1 else EW X x es m1 (.BoolOp .Or (b :: r) pos) kt) : EW X x es m (.BoolOp .Or (a :: b :: r) pos) kt :=
  EW.of (pw_or pt_R pw_R) fun G σ H Q w st q => h G σ H _ w st fun t m1 G1 H1 k1 e1 h1 => by
    cases t with
    | true => exact q true m1 G1 H1 k1 e1 h1
    | false => exact k1 G1 σ H1 Q (w.mono e1) (st.mono e1 h1) (q.mono e1)
theorem ec_if (h : ET X x es m c fun t m1 => if t = true then EC X x es m1 a k else EC X x es m1 b k) : EC X x es m (.IfExp c a b pos) k :=
  EC.of (pe_ifExp pt_R pe_R pe_R) fun G σ H Q w st q => h G σ H _ w st fun t m1 G1 H1 k1 e1 h1 => by
    cases t with
    | true => exact k1 G1 σ H1 Q (w.mono e1) (st.mono e1 h1) (q.mono e1)
    | false => exact k1 G1 σ H1 Q (w.mono e1) (st.mono e1 h1) (q.mono e1)
/-! ### displays -/
theorem ec_tup {j : Nat} (h : ECs X x es m as fun ds m1 => ds.length ≤ 1000 ∧ k (.tup ds) m1) : EC X x es m (.Tuple as j pos) k := EC.of (pe_tup pa_R) fun G σ H Q w st q => h G σ H _ w st fun vs ds m1 G1 H1 k1 e1 h1 r1 =>
  ⟨Nat.le_trans (by rw [← r1.len]; exact k1.1) (by decide), (q.mono e1).tup h1 k1.2 r1⟩
theorem ec_lst (h : ECs X x es m as fun ds m1 => ds.length ≤ 1000 ∧ k (.lst ds) m1) : EC X x es m (.List as pos) k := EC.of (pe_lst pa_R) fun G σ H Q w st q => h G σ H _ w st fun vs ds m1 G1 H1 k1 e1 h1 r1 =>
  ⟨Nat.le_trans (by rw [← r1.len]; exact k1.1) (by decide), (q.mono e1).lst h1 k1.2 r1⟩
/-- .. that may change -/
theorem ec_lstM (h : ECs X x es m as fun ds m1 => ds.length ≤ 1000 ∧ ∀ p, k (.raw (.ref p)) ((p, .lst ds) :: m1)) : EC X x es m (.List as pos) k := EC.of (pe_lst pa_R) fun G σ H Q w st q => h G σ H _ w st fun vs ds m1 G1 H1 k1 e1 h1 r1 =>
  ⟨Nat.le_trans (by rw [← r1.len]; exact k1.1) (by decide), (q.mono e1).lstM h1 k1.2 r1⟩
/-! ### subscripts, slices -/
theorem ec_ix (h : EC X x es m a fun da m1 => EC X x es m1 b fun db m2 => IC X m2 da db k) (hp : PlainIx b := by intro _ _; rfl) : EC X x es m (.Subscript a b pos) k :=
  EC.of (pe_ix ix_R pe_R pe_R hp) fun G σ H Q w st q =>
  h G σ H _ w st fun va da m1 G1 H1 k1 e1 h1 r1 => k1 G1 σ H1 _ (w.mono e1) (st.mono e1 h1) fun vb db m2 G2 H2 k2 e2 h2 r2 => k2 G2 H2 va vb Q h2 (r1.mono e2) r2 ((q.mono e1).mono e2)
theorem ic_lst {ds : List D} {i : Int} (ha : atI ds i = some d) (hk : k d m) : IC X m (.lst ds) (.int i) k := IC.of ix_list fun G H va vb Q hs ra rb q => by
  cases ra with
  | lst hG r =>
    cases rb
    obtain ⟨j, h1, h2, h3, h4, h5⟩ := atI_get ha
    obtain ⟨v, hv, rv⟩ := r.get h2
    refine ⟨_, _, i, v, rfl, rfl, SqL.of (hs.ex _ _ hG), ?_, q.now hs hk rv⟩
    unfold atI at ha ⊢
    rw [← r.len]
    cases e : ixN ds.length i with
    | none => rw [e] at ha; cases ha
    | some j' =>
      rw [e] at ha
      obtain ⟨w1, w2⟩ := ixN_seq e
      rw [h1] at w1
      cases w1
      exact hv
theorem ic_tup {ds : List D} {i : Int} (ha : atI ds i = some d) (hk : k d m) : IC X m (.tup ds) (.int i) k := IC.of ix_tup fun G H va vb Q hs ra rb q => by
  cases ra with
  | tup hG r =>
    cases rb
    obtain ⟨j, h1, h2, h3, h4, h5⟩ := atI_get ha
    obtain ⟨v, hv, rv⟩ := r.get h2
    refine ⟨_, _, i, v, rfl, rfl, same_t hs.ex hG, ?_, q.now hs hk rv⟩
    unfold atI at ha ⊢
    rw [← r.len]
    cases e : ixN ds.length i with
    | none => rw [e] at ha; cases ha
    | some j' =>
      rw [e] at ha
      obtain ⟨w1, w2⟩ := ixN_seq e
      rw [h1] at w1
      cases w1
      exact hv
/-- an item of a list that may change -/
theorem ic_raw {ds : List D} {i : Int} {p : Addr} {j : Nat} (hm : m[j]? = some (p, .lst ds)) (ha : atI ds i = some d) (hk : k d m) : IC X m (.raw (.ref p)) (.int i) k := IC.of ix_list fun G H va vb Q hs ra rb q => by
  cases ra
  cases rb
  obtain ⟨vs, hH, r⟩ := (hs.get hm).2
  obtain ⟨j, h1, h2, h3, h4, h5⟩ := atI_get ha
  obtain ⟨v, hv, rv⟩ := r.get h2
  refine ⟨_, _, i, v, rfl, rfl, SqL.of hH, ?_, q.now hs hk rv⟩
  unfold atI at ha ⊢
  rw [← r.len]
  cases e : ixN ds.length i with
  | none => rw [e] at ha; cases ha
  | some j' =>
    rw [e] at ha
    obtain ⟨w1, w2⟩ := ixN_seq e
    rw [h1] at w1
    cases w1
    exact hv
theorem ic_str {s : Str} {i : Int} {n : Nat} (hl : s.length ≤ 100000) (ha : atI s.cps.toList i = some n) (hk : k (.str ⟨#[n]⟩) m) : IC X m (.str s) (.int i) k := IC.of ix_str fun G H va vb Q hs ra rb q => by
  cases ra
  cases rb
  exact ⟨s, i, n, rfl, rfl, Nat.le_trans hl (by decide), ha, q.now hs hk (.str _)⟩
theorem ec_rev (h : EC X x es m a fun d m1 => ∃ ds, d = .lst ds ∧ k (.lst ds.reverse) m1) {j : Nat} {p1 p2 p3 : Pos} : EC X x es m (.Subscript a (.Slice none none (some (.UnaryOp .USub (.Constant (.int 1) j p1) p2)) p3) pos) k :=
  EC.of (pe_revL pe_R) fun G σ H Q w st q => h G σ H _ w st fun va d m1 G1 H1 k1 e1 h1 r1 => by
    obtain ⟨ds, rfl, z⟩ := k1
    cases r1 with
    | lst hG r => exact ⟨_, _, rfl, SqL.of (h1.ex _ _ hG), (q.mono e1).lst h1 z r.rev⟩
/-! ### attributes of instances -/
theorem ec_fld {f : Str} (h : EC X x es m a fun d m1 => ∃ (C : Addr) (fs : List (Str × D)) (d' : D), d = D.ins C fs ∧ Cls X.K C ∧ NoAttr X.K C f ∧ fs.lookup f = some d' ∧ k d' m1) (hb : attributeBase a f X.env (eval a X.env) = eval a X.env := by rfl) : EC X x es m (.Attribute a f pos) k :=
  EC.of (pe_fld pe_R hb) fun G σ H Q w st q => h G σ H _ w st fun va d m1 G1 H1 k1 e1 h1 r1 => by
    obtain ⟨C, fs, d', rfl, hc, hn, hl, z⟩ := k1
    cases r1 with
    | ins hG r =>
      obtain ⟨v, h2, r2⟩ := r.look hl
      exact ⟨_, C, _, _, v, rfl, h1.ex _ _ hG, hc, hn, h2, (q.mono e1).now h1 z r2⟩
/-- of an instance that may change -/
theorem ec_fldM {f : Str} (h : EC X x es m a fun d m1 => ∃ (p : Addr) (j : Nat) (C : Addr) (fs : List (Str × D)) (d' : D), d = D.raw (.ref p) ∧ m1[j]? = some (p, MO.ins C fs) ∧ Cls X.K C ∧ NoAttr X.K C f ∧ fs.lookup f = some d' ∧ k d' m1) (hb : attributeBase a f X.env (eval a X.env) = eval a X.env := by rfl) : EC X x es m (.Attribute a f pos) k :=
  EC.of (pe_fld pe_R hb) fun G σ H Q w st q => h G σ H _ w st fun va d m1 G1 H1 k1 e1 h1 r1 => by
    obtain ⟨p, j, C, fs, d', rfl, hm, hc, hn, hl, z⟩ := k1
    cases r1
    obtain ⟨dx, vs, hH, r⟩ := (h1.get hm).2
    obtain ⟨v, h2, r2⟩ := r.look hl
    exact ⟨_, C, _, _, v, rfl, hH, hc, hn, h2, (q.mono e1).now h1 z r2⟩
/-! ### calls -/
theorem ec_callB {n : Str} {id : String} {p : Pos} (h : ECs X x es m (a :: as) fun ds m1 => CC X (.builtin id) m1 ds k) (hm : X.mg n = none) (hv : bootBuiltins n = some (.builtin id)) (hg : Gl X n := by rfl) (hn : n ≠ "__name__" := by decide) (hdb : (n == ("__debug__" : Str)) = false := by decide)
    (he : starEach (a :: as) X.env = (false, eval a X.env) :: starEach as X.env := by rfl) (hpl : (backTo pos (starEach as X.env)).any (·.1) = false := by rfl) : EC X x es m (.Call (.Name n p) (a :: as) [] pos) k :=
  EC.of (pe_callB call_R hg hm hv pa_R hn hdb he hpl) fun G σ H Q w st q => h G σ H _ w st fun vs ds m1 G1 H1 k1 e1 h1 r1 => k1 G1 H1 vs Q h1 r1 (q.mono e1)
theorem ec_callT {n : Str} {T : String} {p : Pos} (h : ECs X x es m (a :: as) fun ds m1 => CC X (.type T) m1 ds k) (hm : X.mg n = none) (hv : bootBuiltins n = some (.type T)) (hg : Gl X n := by rfl) (hn : n ≠ "__name__" := by decide) (hdb : (n == ("__debug__" : Str)) = false := by decide)
    (he : starEach (a :: as) X.env = (false, eval a X.env) :: starEach as X.env := by rfl) (hpl : (backTo pos (starEach as X.env)).any (·.1) = false := by rfl) : EC X x es m (.Call (.Name n p) (a :: as) [] pos) k :=
  EC.of (pe_callTy call_R hg hm hv pa_R hn hdb he hpl) fun G σ H Q w st q => h G σ H _ w st fun vs ds m1 G1 H1 k1 e1 h1 r1 => k1 G1 H1 vs Q h1 r1 (q.mono e1)
end
end SG
set_option maxHeartbeats 4000000
/-! SgRu2: targets, what is walked, for, list comprehensions, statements, calls of defs. -/
namespace SG
open PySem PySem.Spec PyProof.Rows L2
/-! ### targets -/
inductive Tg where
  | nm (i : Nat)
  | tp (is : List Nat)
def gNms : List Nat → TGs
  | [] => gNil
  | i :: is => gCons (gName i) (gNms is)
def Tg.den (K : PySem.W.Frag) : Tg → TG
  | .nm i => gName i
  | .tp is => gTup K is.length (gNms is)
def setAll : List Nat → List D → Es → Es
  | i :: is, d :: ds, es => setAll is ds (es.set i (some d))
  | _, _, es => es
def setAllV : List Nat → List V → L2.St → L2.St
  | i :: is, v :: vs, σ => setAllV is vs (σ.set i (some v))
  | _, _, σ => σ
/-- what the slots are behind a store of d -/
def Tg.put : Tg → D → Es → Option Es
  | .nm i, d, es => some (es.set i (some d))
  | .tp is, .tup ds, es => if ds.length = is.length then some (setAll is ds es) else none
  | _, _, _ => none
def Tg.putV : Tg → List V → V → L2.St → L2.St
  | .nm i, _, v, σ => σ.set i (some v)
  | .tp is, vs, _, σ => setAllV is vs σ
def Tg.ok (n : Nat) : Tg → Prop
  | .nm i => i < n
  | .tp is => ∀ i ∈ is, i < n
theorem setAllV_len : ∀ (is : List Nat) (vs : List V) (σ : L2.St), (setAllV is vs σ).length = σ.length
  | i :: is, v :: vs, σ => by
    show (setAllV is vs (σ.set i (some v))).length = _
    rw [setAllV_len is vs, List.length_set]
  | [], _, σ => rfl
  | _ :: _, [], σ => rfl
theorem setAll_env {K : PySem.W.Frag} {G : Hp} : ∀ {is : List Nat} {ds : List D} {vs : List V} {σ : L2.St} {es : Es}, Env K G σ es → RpL K G ds vs → (∀ i ∈ is, i < σ.length) → Env K G (setAllV is vs σ) (setAll is ds es)
  | [], _, _, _, _, h, _, _ => by cases ‹RpL K G _ _› <;> exact h
  | i :: is, _, _, σ, es, h, .nil, _ => h
  | i :: is, _, _, σ, es, h, .cons (v := v) r t, hb => setAll_env (is := is) (h.set (hb i List.mem_cons_self) r) t fun j hj => by rw [List.length_set]; exact hb j (List.mem_cons_of_mem _ hj)
theorem gNms_run : ∀ {is : List Nat} {vs : List V} {σ : L2.St} {H : Hp} {Q : L2.St → Hp → Prop}, vs.length = is.length → Q (setAllV is vs σ) H → gNms is vs σ H Q
  | [], [], _, _, _, _, q => ⟨rfl, q⟩
  | i :: is, v :: vs, σ, H, Q, hl, q => ⟨v, vs, rfl, gNms_run (is := is) (by simpa using hl) q⟩
theorem Tg.run {X : Cx} {G H : Hp} {m : M} {σ : L2.St} {es es' : Es} {tg : Tg} {d : D} {v : V} {Q : L2.St → Hp → Prop} (hp : tg.put d es = some es') (st : ST X G m σ H es) (hl : σ.length = X.N.length) (ho : tg.ok X.N.length) (r : Rp X.K G d v)
    (hq : ∀ σ', ST X G m σ' H es' → σ'.length = X.N.length → (∃ vs, σ' = tg.putV vs v σ) → Q σ' H) : tg.den X.K v σ H Q := by
  cases tg with
  | nm i =>
    cases hp
    have hi : i < σ.length := by rw [hl]; exact ho
    exact hq _ ⟨st.hs, st.env.set hi r⟩ (by rw [List.length_set]; exact hl) ⟨[], rfl⟩
  | tp is =>
    cases r with
    | tup hG rs =>
      rename_i a xs ds
      have hp' : (if ds.length = is.length then some (setAll is ds es) else none) = some es' := hp
      by_cases e : ds.length = is.length
      · rw [if_pos e] at hp'
        cases hp'
        refine ⟨a, xs, rfl, same_t st.hs.ex hG, by rw [← rs.len]; exact e, gNms_run (by rw [← rs.len]; exact e) ?_⟩
        exact hq _ ⟨st.hs, setAll_env st.env rs fun i hi => by rw [hl]; exact ho i hi⟩ (by rw [setAllV_len]; exact hl) ⟨xs, rfl⟩
      · rw [if_neg e] at hp'
        cases hp'
    | _ => cases hp
/-! ### what is walked -/
def wR (X : Cx) (tg iter : Expr) : TI := fun σ H R => ∀ (pins : List (Addr × Obj)) (s : Shared), Inv X pins σ H s → wpAny (model X.prog X.w) X.A (eval iter X.env) (fun v s1 => wpAny (model X.prog X.w) X.A (pyIter v) (PIE X pins σ tg R) X.xe s1) X.xe s
theorem pi_R {X : Cx} {tg iter : Expr} : PI X tg iter (wR X tg iter) := ⟨fun pins s σ H R I h => h pins s I⟩
/-- the walk gives ds, one by one, while keep stands -/
structure Yl (X : Cx) (J : It) (G : Hp) (ds : List D) (keep : M → Prop) : Prop where
  mono : ∀ (m : M) (q : Addr × MO), keep m → keep (q :: m)
  go : ∀ (i : Nat) (G' H' : Hp) (m : M), Same G G' → Hs X.K X.w G' m H' → keep m → i < ds.length → J.go i H'
  yld : ∀ (i : Nat) (G' H' : Hp) (m : M) (v : V) (H2 : Hp), Same G G' → Hs X.K X.w G' m H' → keep m → i < ds.length → J.yld i H' v H2 → ∃ (G2 : Hp) (d : D), ds[i]? = some d ∧ Same G' G2 ∧ Hs X.K X.w G2 m H2 ∧ Rp X.K G2 d v
  stop : ∀ (i : Nat) (G' H' : Hp) (m : M), Same G G' → Hs X.K X.w G' m H' → keep m → ds.length ≤ i → J.stop i H'
def BkI (X : Cx) (G : Hp) (k : List D → (M → Prop) → M → Prop) (R : It → Hp → Prop) : Prop := ∀ (J : It) (ds : List D) (keep : M → Prop) (m : M) (G' H' : Hp), k ds keep m → Same G G' → Hs X.K X.w G' m H' → Yl X J G' ds keep → R J H'
def SC (X : Cx) (x : XD) (es : Es) (m : M) (tg iter : Expr) (k : List D → (M → Prop) → M → Prop) : Prop := ∀ (G : Hp) (σ : L2.St) (H : Hp) (R : It → Hp → Prop), Wish X x G → ST X G m σ H es → BkI X G k R → wR X tg iter σ H R
section
variable {X : Cx} {x : XD} {es : Es} {m : M} {tg iter e : Expr} {k : List D → (M → Prop) → M → Prop}
theorem SC.of {wi : TI} (p : PI X tg iter wi) (h : ∀ (G : Hp) (σ : L2.St) (H : Hp) (R : It → Hp → Prop), Wish X x G → ST X G m σ H es → BkI X G k R → wi σ H R) : SC X x es m tg iter k := fun G σ H R w st q pins s I => p.run pins s σ H R I (h G σ H R w st q)
abbrev anyM : M → Prop := fun _ => True
theorem yl_lst {G : Hp} {a : Addr} {vs : List V} {ds : List D} (hG : G a = some (.lst vs)) (r : RpL X.K G ds vs) : Yl X (Itl X.K a) G ds anyM where
  mono := fun _ _ _ => trivial
  go := fun i G' H' m e hs _ hi => ⟨vs, vs[i]'(by rw [← r.len]; exact hi), SqL.of (hs.ex _ _ (e _ _ hG)), List.getElem?_eq_getElem _⟩
  yld := fun i G' H' m v H2 e hs _ hi y => by
    obtain ⟨rfl, hy⟩ := y
    have h1 := hy vs (SqL.of (hs.ex _ _ (e _ _ hG)))
    obtain ⟨d, h2, h3⟩ := (r.mono e).get' h1
    exact ⟨G', d, h2, Same.refl _, hs, h3⟩
  stop := fun i G' H' m e hs _ hi => ⟨vs, SqL.of (hs.ex _ _ (e _ _ hG)), by rw [← r.len]; exact hi⟩
theorem yl_tup {G : Hp} {a : Addr} {vs : List V} {ds : List D} (hG : SqT X.K G a vs) (r : RpL X.K G ds vs) : Yl X (Itt X.K a) G ds anyM where
  mono := fun _ _ _ => trivial
  go := fun i G' H' m e hs _ hi => ⟨vs, vs[i]'(by rw [← r.len]; exact hi), same_t hs.ex (same_t e hG), List.getElem?_eq_getElem _⟩
  yld := fun i G' H' m v H2 e hs _ hi y => by
    obtain ⟨rfl, hy⟩ := y
    have h1 := hy vs (same_t hs.ex (same_t e hG))
    obtain ⟨d, h2, h3⟩ := (r.mono e).get' h1
    exact ⟨G', d, h2, Same.refl _, hs, h3⟩
  stop := fun i G' H' m e hs _ hi => ⟨vs, same_t hs.ex (same_t e hG), by rw [← r.len]; exact hi⟩
theorem sc_lst (h : EC X x es m iter fun d m1 => ∃ ds, d = .lst ds ∧ k ds anyM m1) : SC X x es m tg iter k := SC.of (pi_list pe_R) fun G σ H R w st q => h G σ H _ w st fun v d m1 G1 H1 k1 e1 h1 r1 => by
  obtain ⟨ds, rfl, z⟩ := k1
  cases r1 with
  | lst hG r => exact ⟨_, rfl, ⟨_, SqL.of (h1.ex _ _ hG)⟩, q _ ds anyM m1 G1 H1 z e1 h1 (yl_lst hG r)⟩
theorem sc_tup (h : EC X x es m iter fun d m1 => ∃ ds, d = .tup ds ∧ k ds anyM m1) : SC X x es m tg iter k := SC.of (pi_tup pe_R) fun G σ H R w st q => h G σ H _ w st fun v d m1 G1 H1 k1 e1 h1 r1 => by
  obtain ⟨ds, rfl, z⟩ := k1
  cases r1 with
  | tup hG r => exact ⟨_, rfl, ⟨_, same_t h1.ex hG⟩, q _ ds anyM m1 G1 H1 z e1 h1 (yl_tup hG r)⟩
/-- a list that may change, but does not while it is walked -/
theorem sc_raw (h : EC X x es m iter fun d m1 => ∃ (p : Addr) (j : Nat) (ds : List D), d = .raw (.ref p) ∧ m1[j]? = some (p, MO.lst ds) ∧ k ds (fun m' => ∃ j : Nat, (m' : M)[j]? = some (p, MO.lst ds)) m1) : SC X x es m tg iter k :=
  SC.of (pi_list pe_R) fun G σ H R w st q => h G σ H _ w st fun v d m1 G1 H1 k1 e1 h1 r1 => by
  obtain ⟨p, j, ds, rfl, hm, z⟩ := k1
  cases r1
  obtain ⟨vs, hH, r⟩ := (h1.get hm).2
  refine ⟨_, rfl, ⟨_, SqL.of hH⟩, q _ ds _ m1 G1 H1 z e1 h1 ⟨fun m q kp => kp.elim fun j hj => ⟨j + 1, hj⟩, fun i G' H' m e hs kp hi => ?_, fun i G' H' m v H2 e hs kp hi y => ?_, fun i G' H' m e hs kp hi => ?_⟩⟩
  · obtain ⟨j', hj'⟩ := kp
    obtain ⟨vs', hH', r'⟩ := (hs.get hj').2
    exact ⟨vs', vs'[i]'(by rw [← r'.len]; exact hi), SqL.of hH', List.getElem?_eq_getElem _⟩
  · obtain ⟨j', hj'⟩ := kp
    obtain ⟨vs', hH', r'⟩ := (hs.get hj').2
    obtain ⟨rfl, hy⟩ := y
    obtain ⟨d, h2, h3⟩ := r'.get' (hy vs' (SqL.of hH'))
    exact ⟨G', d, h2, Same.refl _, hs, h3⟩
  · obtain ⟨j', hj'⟩ := kp
    obtain ⟨vs', hH', r'⟩ := (hs.get hj').2
    exact ⟨vs', SqL.of hH', by rw [← r'.len]; exact hi⟩
def rangeD (lo : Int) (n : Nat) : List D := (List.range n).map fun i => .int (lo + (i : Nat))
theorem rangeD_len {lo : Int} {n : Nat} : (rangeD lo n).length = n := by unfold rangeD; rw [List.length_map, List.length_range]
theorem rangeD_get {lo : Int} {n i : Nat} (h : i < n) : (rangeD lo n)[i]? = some (.int (lo + (i : Nat))) := by
  unfold rangeD
  rw [List.getElem?_map, List.getElem?_range h]
  rfl
theorem sc_range {a : Expr} {p pos : Pos} (hm : X.mg "range" = none) (h : EC X x es m a fun d m1 => ∃ n : Nat, d = .int n ∧ n ≤ 100000 ∧ k (rangeD 0 n) anyM m1) (hg : Gl X "range" := by rfl) (hs : starEach [a] X.env = [(false, eval a X.env)] := by rfl) : SC X x es m tg (.Call (.Name "range" p) [a] [] pos) k :=
  SC.of (pi_range1 hg hm (pa_cons pe_R pa_nil hs) hs) fun G σ H R w st q => h G σ H _ w st fun v d m1 G1 H1 k1 e1 h1 r1 => by
    obtain ⟨n, rfl, hn, z⟩ := k1
    cases r1
    refine ⟨(n : Int), rfl, by omega, by omega, q _ _ anyM m1 G1 H1 z e1 h1 ?_⟩
    rw [Int.toNat_natCast]
    exact ⟨fun _ _ _ => trivial, fun i G' H' m e hs _ hi => by rw [rangeD_len] at hi; exact hi, fun i G' H' m v H2 e hs _ hi y => by
      obtain ⟨rfl, rfl⟩ := y
      rw [rangeD_len] at hi
      exact ⟨G', _, rangeD_get hi, Same.refl _, hs, .int _⟩, fun i G' H' m e hs _ hi => by rw [rangeD_len] at hi; exact hi⟩
theorem sc_str (h : EC X x es m iter fun d m1 => ∃ s : Str, d = .str s ∧ k (s.cps.toList.map fun c => .str ⟨#[c]⟩) anyM m1) : SC X x es m tg iter k := SC.of (pi_str pe_R) fun G σ H R w st q => h G σ H _ w st fun v d m1 G1 H1 k1 e1 h1 r1 => by
  obtain ⟨s, rfl, z⟩ := k1
  cases r1
  refine ⟨s, rfl, q _ _ anyM m1 G1 H1 z e1 h1 ⟨fun _ _ _ => trivial, fun i G' H' m e hs _ hi => ?_, fun i G' H' m v H2 e hs _ hi y => ?_, fun i G' H' m e hs _ hi => ?_⟩⟩
  · rw [List.length_map] at hi
    exact hi
  · obtain ⟨rfl, c, hc, rfl⟩ := y
    exact ⟨G', _, by rw [List.getElem?_map, Array.getElem?_toList, hc]; rfl, Same.refl _, hs, .str _⟩
  · rw [List.length_map] at hi
    exact hi
def enumD (i : Nat) : List D → List D
  | [] => []
  | d :: ds => .tup [.int (i : Nat), d] :: enumD (i + 1) ds
theorem enumD_len : ∀ (ds : List D) (i : Nat), (enumD i ds).length = ds.length
  | [], _ => rfl
  | d :: ds, i => by show (enumD (i + 1) ds).length + 1 = ds.length + 1; rw [enumD_len ds]
theorem enumD_get : ∀ {ds : List D} {j i : Nat} {d : D}, ds[j]? = some d → (enumD i ds)[j]? = some (.tup [.int ((i + j : Nat) : Int), d])
  | [], _, _, _, h => by simp at h
  | d :: ds, 0, i, _, h => by
    simp only [List.getElem?_cons_zero, Option.some.injEq] at h
    subst h
    rfl
  | d :: ds, j + 1, i, d', h => by
    have ih := enumD_get (ds := ds) (j := j) (i := i + 1) (d := d') (by simpa using h)
    show (enumD (i + 1) ds)[j]? = _
    rw [ih, show i + 1 + j = i + (j + 1) by omega]
theorem sc_enum {a : Expr} {p pos tpos : Pos} {elts : List Expr} {kk : Nat} (hm : X.mg "enumerate" = none) (h : EC X x es m a fun d m1 => ∃ ds, d = .lst ds ∧ k (enumD 0 ds) anyM m1) (hg : Gl X "enumerate" := by rfl) (hs : starEach [a] X.env = [(false, eval a X.env)] := by rfl) :
    SC X x es m (.Tuple elts kk tpos) (.Call (.Name "enumerate" p) [a] [] pos) k :=
  SC.of (pi_enum hg hm (pa_cons pe_R pa_nil hs) hs) fun G σ H R w st q => h G σ H _ w st fun v d m1 G1 H1 k1 e1 h1 r1 => by
    obtain ⟨ds, rfl, z⟩ := k1
    cases r1 with
    | lst hG r =>
      rename_i a' vs
      refine ⟨_, vs, rfl, SqL.of (h1.ex _ _ hG), q _ _ anyM m1 G1 H1 z e1 h1 ⟨fun _ _ _ => trivial, fun i G' H' m e hs _ hi => ?_, fun i G' H' m v H2 e hs _ hi y => ?_, fun i G' H' m e hs _ hi => ?_⟩⟩
      · rw [enumD_len] at hi
        exact ⟨vs, vs[i]'(by rw [← r.len]; exact hi), SqL.of (hs.ex _ _ (e _ _ hG)), List.getElem?_eq_getElem _⟩
      · obtain ⟨T, xv, rfl, hT, rfl, hy⟩ := y
        have h1 := hy vs (SqL.of (hs.ex _ _ (e _ _ hG)))
        obtain ⟨d, h2, h3⟩ := (r.mono e).get' h1
        obtain ⟨e', hs'⟩ := hs.new (o := .tup [.int (i : Nat), xv]) hT
        refine ⟨_, _, enumD_get h2, e', hs', .tup (SqT.of upd_same) (.cons ?_ (.one (h3.mono e')))⟩
        rw [Nat.zero_add]
        exact .int _
      · rw [enumD_len] at hi
        exact ⟨vs, SqL.of (hs.ex _ _ (e _ _ hG)), by rw [← r.len]; exact hi⟩
end
/-! ### statements -/
section
variable {X : Cx} {x : XD} {es : Es} {m : M} {E : DE} {st : Stmt} {rest : List Stmt} {e c : Expr} {pos : Pos}
theorem sd_nil (h : E.nx es m) : SD X x es m [] E := fun G σ H Dn w s hl r pins s' I => pss_nil.run pins s' σ H Dn I (r.nx es m G σ H h (Same.refl G) s hl)
theorem sd_cons (h : SS X x es m st { E with nx := fun es' m' => SD X x es' m' rest E }) : SD X x es m (st :: rest) E := fun G σ H Dn w s hl r pins s' I =>
  (pss_cons ps_R pss_R).run pins s' σ H Dn I (h G σ H { Dn with nx := tSsR X rest Dn } w s hl ⟨fun es' m' G' σ' H' z e1 s1 hl1 => z G' σ' H' Dn (w.mono e1) s1 hl1 (r.mono e1), r.rt, r.bk, r.ct⟩)
theorem sd_one (h : SS X x es m st E) : SD X x es m [st] E := fun G σ H Dn w s hl r pins s' I => (pss_one ps_R).run pins s' σ H Dn I (h G σ H Dn w s hl r)
theorem ss_set {i : Nat} {n : Str} {p : Pos} (hN : X.N.Nodup) (h : EC X x es m e fun d m1 => E.nx (es.set i (some d)) m1) (hi : X.N[i]? = some n := by rfl) (hx : Loc X.env.scope n := by first | exact Or.inl rfl | exact Or.inr rfl)
    (hs : swapsWith e (some (.Name n p)) pos.line X.env = pure false := by rfl) (hf : X.fn n = true ∨ X.env.scope.names.lookup n = some .local := by first | exact .inl rfl | exact .inr rfl) : SS X x es m (.Assign [.Name n p] e pos) E :=
  SS.of (ps_set hN hi hx pe_R hs hf) fun G σ H Dn w s hl r => h G σ H _ w s fun v d m1 G1 H1 k1 e1 h1 r1 => by
    have hlt : i < σ.length := by rw [hl]; exact (List.getElem?_eq_some_iff.mp hi).1
    exact r.nx _ m1 G1 _ H1 k1 e1 ⟨h1, (s.env.mono e1).set hlt r1⟩ (by rw [List.length_set]; exact hl)
theorem ss_expr (h : EC X x es m e fun _ m1 => E.nx es m1) (hs : swapsWith e none pos.line X.env = pure false := by rfl) : SS X x es m (.Expr e pos) E :=
  SS.of (ps_expr pe_R hs) fun G σ H Dn w s hl r => h G σ H _ w s fun v d m1 G1 H1 k1 e1 h1 r1 => r.nx es m1 G1 σ H1 k1 e1 (s.mono e1 h1) hl
theorem ss_ret (h : EC X x es m e E.rt) : SS X x es m (.Return (some e) pos) E := SS.of (ps_ret pe_R) fun G σ H Dn w s hl r => h G σ H _ w s r.rt
theorem ss_retN (h : E.rt .non m) : SS X x es m (.Return none pos) E := SS.of ps_retN fun G σ H Dn w s hl r => r.rt.now s.hs h .non
theorem ss_pass (h : E.nx es m) : SS X x es m (.Pass pos) E := SS.of ps_pass fun G σ H Dn w s hl r => r.nx es m G σ H h (Same.refl G) s hl
theorem ss_if {a b : List Stmt} (h : ET X x es m c fun t m1 => if t = true then SD X x es m1 a E else SD X x es m1 b E) : SS X x es m (.If c a b pos) E :=
  SS.of (ps_if pt_R pss_R pss_R) fun G σ H Dn w s hl r => h G σ H _ w s fun t m1 G1 H1 k1 e1 h1 => by
    cases t with
    | true => exact k1 G1 σ H1 Dn (w.mono e1) (s.mono e1 h1) hl (r.mono e1)
    | false => exact k1 G1 σ H1 Dn (w.mono e1) (s.mono e1 h1) hl (r.mono e1)
/-- target = e -/
theorem ss_asg {tgt : Expr} (tg : Tg) (hg : PG X tgt (tg.den X.K)) (ho : tg.ok X.N.length) (h : EC X x es m e fun d m1 => ∃ es', tg.put d es = some es' ∧ E.nx es' m1) (hs : swapsWithSole [tgt] e pos.line X.env = pure false := by rfl) (hw : swappedStores [tgt] e X.env = pure none := by rfl)
    (h1 : (assignEach [tgt] X.env).map (·.2) = [assign tgt X.env] := by rfl) : SS X x es m (.Assign [tgt] e pos) E :=
  SS.of (ps_asg pe_R hg hs hw h1) fun G σ H Dn w s hl r => h G σ H _ w s fun v d m1 G1 H1 k1 e1 h1 r1 => by
    obtain ⟨es', hp, z⟩ := k1
    exact Tg.run hp (s.mono e1 h1) hl ho r1 fun σ' s' hl' _ => r.nx es' m1 G1 σ' H1 z e1 s' hl'
/-- for -/
theorem ss_for {tgt iter : Expr} {body : List Stmt} (tg : Tg) (hp : PassesOwn (model X.prog X.w) X.A X.env X.xe) (hc : X.calm = true) (hg : PG X tgt (tg.den X.K)) (ho : tg.ok X.N.length)
    (h : SC X x es m tgt iter fun ds keep m1 => ∃ I : Nat → Es → M → Prop, I 0 es m1 ∧ (∀ i es' m', I i es' m' → keep m') ∧
      (∀ i d es' m', ds[i]? = some d → I i es' m' → ∃ es2, tg.put d es' = some es2 ∧ SD X x es2 m' body { E with nx := I (i + 1), ct := I (i + 1), bk := E.nx }) ∧ (∀ es' m', I ds.length es' m' → E.nx es' m'))
    (hs : ∀ v, foldedSetIterable iter X.env v = pure v := by intro _; rfl) : SS X x es m (.For tgt iter body [] pos) E :=
  SS.of (ps_for hp hc pi_R hg pss_R hs) fun G σ H Dn w s hl r => h G σ H _ w s fun J ds keep m1 G1 H1 k1 e1 h1 y => by
    obtain ⟨I, i0, ik, is, ie⟩ := k1
    refine ⟨fun i n σ' H' => n = ds.length - i ∧ i ≤ ds.length ∧ σ'.length = X.N.length ∧ ∃ es' m' G', I i es' m' ∧ Same G1 G' ∧ ST X G' m' σ' H' es', ⟨ds.length, by omega, Nat.zero_le _, hl, es, m1, G1, i0, Same.refl _, s.mono e1 h1⟩, ?_⟩
    rintro i n σ' H' ⟨rfl, hi, hl', es', m', G', z, e', s'⟩
    by_cases hlt : i < ds.length
    · refine .inr ⟨y.go i G' H' m' e' s'.hs (ik _ _ _ z) hlt, fun σ2 H2 => σ2.length = X.N.length ∧ ∃ es2 m2 G2, I (i + 1) es2 m2 ∧ Same G1 G2 ∧ ST X G2 m2 σ2 H2 es2, fun σ2 H2 ⟨l2, es2, m2, G2, z2, e2, s2⟩ => ⟨ds.length - (i + 1), by omega, rfl, hlt, l2, es2, m2, G2, z2, e2, s2⟩, fun v H2 hy => ?_⟩
      obtain ⟨G2, d, hd, e2, hs2, rd⟩ := y.yld i G' H' m' v H2 e' s'.hs (ik _ _ _ z) hlt hy
      obtain ⟨es2, hp2, z2⟩ := is i d es' m' hd z
      refine Tg.run hp2 (s'.mono e2 hs2) hl' ho rd fun σ3 s3 hl3 _ => ?_
      refine z2 G2 σ3 H2 _ (w.mono (e1.trans (e'.trans e2))) s3 hl3 ⟨fun es4 m4 G4 σ4 H4 z4 e4 s4 hl4 => ⟨hl4, es4, m4, G4, z4, (e'.trans e2).trans e4, s4⟩, (r.mono (e1.trans (e'.trans e2))).rt, fun es4 m4 G4 σ4 H4 z4 e4 s4 hl4 => r.nx es4 m4 G4 σ4 H4 z4 ((e1.trans (e'.trans e2)).trans e4) s4 hl4, fun es4 m4 G4 σ4 H4 z4 e4 s4 hl4 => ⟨hl4, es4, m4, G4, z4, (e'.trans e2).trans e4, s4⟩⟩
    · have ei : i = ds.length := by omega
      subst ei
      exact .inl ⟨y.stop _ G' H' m' e' s'.hs (ik _ _ _ z) (Nat.le_refl _), r.nx es' m' G' σ' H' (ie _ _ z) (e1.trans e') s' hl'⟩
/-- while: I with a measure -/
theorem ss_while {body : List Stmt} (hp : PassesOwn (model X.prog X.w) X.A X.env X.xe) (I : Nat → Es → M → Prop) (n0 : Nat) (i0 : I n0 es m)
    (h : ∀ n es' m', I n es' m' → ET X x es' m' c fun t m1 => if t = true then SD X x es' m1 body { E with nx := fun es2 m2 => ∃ n', n' < n ∧ I n' es2 m2, ct := fun es2 m2 => ∃ n', n' < n ∧ I n' es2 m2, bk := E.nx } else E.nx es' m1) : SS X x es m (.While c body [] pos) E :=
  SS.of (ps_while hp pt_R pss_R) fun G σ H Dn w s hl r => by
    refine ⟨fun n σ' H' => σ'.length = X.N.length ∧ ∃ es' m' G', I n es' m' ∧ Same G G' ∧ ST X G' m' σ' H' es', ⟨n0, hl, es, m, G, i0, Same.refl _, s⟩, ?_⟩
    rintro n σ' H' ⟨hl', es', m', G', z, e', s'⟩
    refine h n es' m' z G' σ' H' _ (w.mono e') s' fun t m1 G1 H1 k1 e1 h1 => ?_
    cases t with
    | true =>
      refine ⟨fun σ2 H2 => σ2.length = X.N.length ∧ ∃ n', n' < n ∧ ∃ es2 m2 G2, I n' es2 m2 ∧ Same G G2 ∧ ST X G2 m2 σ2 H2 es2, fun σ2 H2 ⟨l2, n', hn, es2, m2, G2, z2, e2, s2⟩ => ⟨n', hn, l2, es2, m2, G2, z2, e2, s2⟩, ?_⟩
      exact k1 G1 σ' H1 _ (w.mono (e'.trans e1)) (s'.mono e1 h1) hl' ⟨fun es4 m4 G4 σ4 H4 ⟨n', hn, z4⟩ e4 s4 hl4 => ⟨hl4, n', hn, es4, m4, G4, z4, (e'.trans e1).trans e4, s4⟩, (r.mono (e'.trans e1)).rt, fun es4 m4 G4 σ4 H4 z4 e4 s4 hl4 => r.nx es4 m4 G4 σ4 H4 z4 ((e'.trans e1).trans e4) s4 hl4,
        fun es4 m4 G4 σ4 H4 ⟨n', hn, z4⟩ e4 s4 hl4 => ⟨hl4, n', hn, es4, m4, G4, z4, (e'.trans e1).trans e4, s4⟩⟩
    | false => exact r.nx es' m1 G1 σ' H1 k1 (e'.trans e1) (s'.mono e1 h1) hl'
/-- an object changes no more: its slot holds the list -/
theorem SD.freeze {sts : List Stmt} {p : Addr} {ds : List D} (j i : Nat) (hm : m[j]? = some (p, .lst ds)) (he : es[i]? = some (some (.raw (.ref p)))) (h : SD X x (es.set i (some (.lst ds))) (m.eraseIdx j) sts E) : SD X x es m sts E := fun G σ H Dn w s hl r => by
  obtain ⟨vs, hH, rs⟩ := (s.hs.get hm).2
  obtain ⟨e, hs'⟩ := s.hs.freeze hm hH
  refine h _ σ H Dn (w.mono e) ⟨hs', fun i' d hi' => ?_⟩ hl (r.mono e)
  by_cases hii : i = i'
  · subst hii
    have hlt : i < es.length := (List.getElem?_eq_some_iff.mp he).1
    rw [List.getElem?_set_self hlt] at hi'
    cases hi'
    obtain ⟨v, h1, h2⟩ := s.env i _ he
    cases h2
    exact ⟨_, h1, .lst upd_same (rs.mono e)⟩
  · rw [List.getElem?_set_ne hii] at hi'
    obtain ⟨v, h1, h2⟩ := s.env i' d hi'
    exact ⟨v, h1, h2.mono e⟩
/-- objects and slots forgotten -/
theorem SD.weak {sts : List Stmt} {es' : Es} {m' : M} (hm : m'.Sublist m) (he : ∀ (i : Nat) (d : D), es'[i]? = some (some d) → es[i]? = some (some d)) (h : SD X x es' m' sts E) : SD X x es m sts E := fun G σ H Dn w s hl r =>
  h G σ H Dn w ⟨s.hs.drop hm, fun i d hi => s.env i d (he i d hi)⟩ hl r
end
/-! ### list comprehensions -/
def wipeE (es : Es) : List Nat → Es
  | [] => es
  | v :: vs => (wipeE es vs).set v none
theorem wipe_env {K : PySem.W.Frag} {G : Hp} {σ : L2.St} {es : Es} (h : Env K G σ es) : ∀ vs : List Nat, Env K G (wipe σ vs) (wipeE es vs)
  | [] => h
  | v :: vs => fun i d hi => by
    have ih := wipe_env h vs
    show ∃ u, ((wipe σ vs).set v none)[i]? = some (some u) ∧ _
    have hi : ((wipeE es vs).set v none)[i]? = some (some d) := hi
    by_cases hv : v = i
    · subst hv
      by_cases hl : v < (wipeE es vs).length
      · rw [List.getElem?_set_self hl] at hi
        cases hi
      · rw [List.getElem?_eq_none (by simpa using Nat.le_of_not_lt hl)] at hi
        cases hi
    · rw [List.getElem?_set_ne hv] at hi
      rw [List.getElem?_set_ne hv]
      exact ih i d hi
def Tg.inn (vs : List Nat) : Tg → Prop
  | .nm i => i ∈ vs
  | .tp is => ∀ i ∈ is, i ∈ vs
theorem wipe_put {σ : L2.St} {tg : Tg} {vs : List Nat} (vv : List V) (v : V) (h : tg.inn vs) : wipe (tg.putV vv v (wipe σ vs)) vs = wipe σ vs := by
  have one : ∀ (τ : L2.St) (i : Nat) (u : Option V) (ws : List Nat), i ∈ ws → wipe (τ.set i u) ws = wipe τ ws := by
    intro τ i u ws
    induction ws with
    | nil => intro h; cases h
    | cons a ws ih =>
      intro h
      show (wipe (τ.set i u) ws).set a none = (wipe τ ws).set a none
      by_cases ha : i ∈ ws
      · rw [ih ha]
      · have hia : i = a := by
          rcases List.mem_cons.mp h with e | e
          · exact e
          · exact absurd e ha
        subst hia
        have comm : ∀ (us : List Nat), i ∉ us → wipe (τ.set i u) us = (wipe τ us).set i u := by
          intro us
          induction us with
          | nil => intro _; rfl
          | cons b us ih2 =>
            intro hb
            simp only [List.mem_cons, not_or] at hb
            show (wipe (τ.set i u) us).set b none = ((wipe τ us).set b none).set i u
            rw [ih2 hb.2, List.set_comm _ _ hb.1]
        rw [comm ws ha, List.set_set]
  have idem : ∀ ws : List Nat, wipe (wipe σ ws) ws = wipe σ ws := by
    intro ws
    induction ws with
    | nil => rfl
    | cons a ws ih =>
      show (wipe ((wipe σ ws).set a none) ws).set a none = (wipe σ ws).set a none
      by_cases ha : a ∈ ws
      · rw [one _ _ _ _ ha, ih]
      · have comm : ∀ (τ : L2.St) (us : List Nat), a ∉ us → wipe (τ.set a none) us = (wipe τ us).set a none := by
          intro τ us
          induction us with
          | nil => intro _; rfl
          | cons b us ih2 =>
            intro hb
            simp only [List.mem_cons, not_or] at hb
            show (wipe (τ.set a none) us).set b none = ((wipe τ us).set b none).set a none
            rw [ih2 hb.2, List.set_comm _ _ hb.1]
        rw [comm _ ws ha, List.set_set, ih]
  cases tg with
  | nm i =>
    show wipe ((wipe σ vs).set i (some v)) vs = _
    rw [one _ _ _ _ h, idem]
  | tp is =>
    have h : ∀ i ∈ is, i ∈ vs := h
    show wipe (setAllV is vv (wipe σ vs)) vs = _
    have all : ∀ (is : List Nat) (vv : List V) (τ : L2.St), (∀ i ∈ is, i ∈ vs) → wipe (setAllV is vv τ) vs = wipe τ vs := by
      intro is
      induction is with
      | nil => intro vv τ _; rfl
      | cons i is ih =>
        intro vv τ hh
        cases vv with
        | nil => rfl
        | cons u vv =>
          show wipe (setAllV is vv (τ.set i (some u))) vs = _
          rw [ih vv _ fun j hj => hh j (List.mem_cons_of_mem _ hj), one _ _ _ _ (hh i List.mem_cons_self)]
    rw [all is vv _ h, idem]
abbrev noX : XD := fun _ _ _ => False
theorem blk_wish {X : Cx} {s : Shared} {H : Hp} {scope : Scope} {ce : PySem.Env} {fp : List Addr} {G : Hp} : Wish (X.blk s H scope ce fp) noX G :=
  ⟨⟨fun _ _ _ _ => False, G, takes0, fun _ _ _ _ _ _ _ _ z => z.elim, Same.refl G⟩⟩
/-- the contexts of a block -/
def Blk (X : Cx) (scope : Scope) (P : Cx → Prop) : Prop := ∀ (s : Shared) (H : Hp) (C : Addr) (cl : List (Str × Addr)) (fp : List Addr), P (X.blk s H scope (compEnvC scope cl C X.env) fp)
def tBE (X : Cx) (scope : Scope) (e : Expr) : TE := fun σ H Q => Blk X scope fun Y => tR Y e σ H Q
def tBT (X : Cx) (scope : Scope) (ifs : List Expr) : TT := fun σ H Q => Blk X scope fun Y => ∀ (pins : List (Addr × Obj)) (s : Shared), Inv Y pins σ H s → wpAny (model Y.prog Y.w) Y.A (forIn ifs true fun c r => if r = true then do let ok ← isTrue c Y.env (eval c Y.env); pure (ForInStep.yield ok) else pure (ForInStep.yield r)) (TP Y pins σ Q) Y.xe s
/-- no test, or one -/
def EIf (Y : Cx) (es : Es) (m : M) (ifs : List Expr) (k : Bool → M → Prop) : Prop := match ifs with
  | [] => k true m
  | [c] => ET Y noX es m c k
  | _ => False
section
variable {X : Cx} {x : XD} {es : Es} {m : M} {k : KD} {pos : Pos} {tgt iter elt : Expr} {ifs : List Expr} {scope : Scope}
def LcK (X : Cx) (scope : Scope) (es : Es) (tg : Tg) (vs : List Nat) (ifs : List Expr) (elt : Expr) (k : KD) : List D → (M → Prop) → M → Prop := fun ds keep m1 => ∃ I : Nat → M → List D → Prop, I 0 m1 [] ∧ (∀ i m' acc, I i m' acc → keep m') ∧
  (∀ i d m' acc, ds[i]? = some d → I i m' acc → ∃ es2, tg.put d (wipeE es vs) = some es2 ∧ ∀ p, Blk X scope fun Y => EIf Y es2 ((p, .lst acc) :: m') ifs fun b m2 => ∃ m2', m2 = (p, .lst acc) :: m2' ∧
    if b = true then Blk X scope fun Y => EC Y noX es2 m2 elt fun d' m3 => ∃ m3', m3 = (p, .lst acc) :: m3' ∧ acc.length ≤ 100000 ∧ I (i + 1) m3' (acc ++ [d']) else I (i + 1) m2' acc) ∧ (∀ m' acc, I ds.length m' acc → k (.lst acc) m')
theorem bE {X : Cx} {scope : Scope} {e : Expr} (s : Shared) (H : Hp) (C : Addr) (cl : List (Str × Addr)) (fp : List Addr) : PE (X.blk s H scope (compEnvC scope cl C X.env) fp) e (tBE X scope e) := ⟨fun pins s' σ H' Q I h => h s H C cl fp pins s' I⟩
/-- the reading of a comprehension's loop -/
theorem lc_read {σ : L2.St} {Q : VK} {J : It} {ds : List D} {keep : M → Prop} {m1 : M} {G1 H1 : Hp} {tg : Tg} {vs : List Nat} (s : ST X G1 m1 σ H1 es) (hl : σ.length = X.N.length) (ho : tg.ok X.N.length) (hv : tg.inn vs)
    (hc : LcK X scope es tg vs ifs elt k ds keep m1) (y : Yl X J G1 ds keep) (q : Bk X G1 k Q) :
    ∀ p, H1 p = none → ∃ W : Nat → Nat → Hp → Prop, (∃ m, W 0 m (upd H1 p (.lst []))) ∧ ∀ i m H, W i m H →
      (J.stop i H ∧ Q (.ref p) H) ∨ (J.go i H ∧ ∃ Nx : Hp → Prop, (∀ H', Nx H' → ∃ m', m' < m ∧ W (i + 1) m' H') ∧ ∀ x H', J.yld i H x H' → tg.den X.K x (wipe σ vs) H' fun σ2 H2 => wipe σ2 vs = wipe σ vs ∧ tBT X scope ifs σ2 H2 fun b H3 =>
        if b = true then tBE X scope elt σ2 H3 fun y H4 => ∃ acc, H4 p = some (.lst acc) ∧ acc.length < sizeLine ∧ Nx (upd H4 p (.lst (acc ++ [y]))) else Nx H3) := by
  intro p hp
  obtain ⟨I, i0, ik, is, ie⟩ := hc
  have hs0 := s.hs.newM (o := .lst []) (u := .lst []) hp ⟨[], upd_same, .nil⟩
  refine ⟨fun i n H' => n = ds.length - i ∧ i ≤ ds.length ∧ ∃ acc m' G', I i m' acc ∧ Same G1 G' ∧ Hs X.K X.w G' ((p, .lst acc) :: m') H', ⟨ds.length, by omega, Nat.zero_le _, [], m1, G1, i0, Same.refl _, hs0⟩, ?_⟩
  rintro i n H' ⟨rfl, hi, acc, m', G', z, e', hs'⟩
  have hs1 : Hs X.K X.w G' m' H' := hs'.drop (List.sublist_cons_self _ _)
  by_cases hlt : i < ds.length
  · refine .inr ⟨y.go i G' H' m' e' hs1 (ik _ _ _ z) hlt, fun H2 => ∃ acc m2 G2, I (i + 1) m2 acc ∧ Same G1 G2 ∧ Hs X.K X.w G2 ((p, .lst acc) :: m2) H2, fun H2 ⟨acc, m2, G2, z2, e2, s2⟩ => ⟨ds.length - (i + 1), by omega, rfl, hlt, acc, m2, G2, z2, e2, s2⟩, fun v H2 hy => ?_⟩
    have ky := y.mono _ (p, .lst acc) (ik _ _ _ z)
    obtain ⟨G2, d, hd, e2, hs2, rd⟩ := y.yld i G' H' _ v H2 e' hs' ky hlt hy
    obtain ⟨es2, hp2, z2⟩ := is i d m' acc hd z
    have st2 : ST X G2 ((p, .lst acc) :: m') (wipe σ vs) H2 (wipeE es vs) := ⟨hs2, (wipe_env s.env vs).mono (e'.trans e2)⟩
    refine Tg.run hp2 st2 (by rw [wipe_length]; exact hl) ho rd fun σ3 s3 hl3 ⟨vv, ev⟩ => ⟨by rw [ev]; exact wipe_put vv v hv, ?_⟩
    intro s' Hs' C cl fp
    have zb := z2 p s' Hs' C cl fp
    have fin : ∀ (b : Bool) (m2 : M) (G3 H3 : Hp), (∃ m2', m2 = (p, .lst acc) :: m2' ∧ if b = true then Blk X scope fun Y => EC Y noX es2 m2 elt fun d' m3 => ∃ m3', m3 = (p, .lst acc) :: m3' ∧ acc.length ≤ 100000 ∧ I (i + 1) m3' (acc ++ [d']) else I (i + 1) m2' acc) → Same G2 G3 → Hs X.K X.w G3 m2 H3 →
        if b = true then tBE X scope elt σ3 H3 fun y H4 => ∃ acc, H4 p = some (.lst acc) ∧ acc.length < sizeLine ∧ ∃ acc' m2 G2, I (i + 1) m2 acc' ∧ Same G1 G2 ∧ Hs X.K X.w G2 ((p, .lst acc') :: m2) (upd H4 p (.lst (acc ++ [y]))) else ∃ acc m2 G2, I (i + 1) m2 acc ∧ Same G1 G2 ∧ Hs X.K X.w G2 ((p, .lst acc) :: m2) H3 := by
      rintro b m2 G3 H3 ⟨m2', rfl, kb⟩ e3 h3
      cases b with
      | false => exact ⟨acc, m2', G3, kb, (e'.trans e2).trans e3, h3⟩
      | true =>
        intro s2 Hs2 C2 cl2 fp2
        refine kb s2 Hs2 C2 cl2 fp2 G3 σ3 H3 _ blk_wish ⟨h3, s3.env.mono e3⟩ fun v' d' m3 G4 H4 k4 e4 h4 r4 => ?_
        obtain ⟨m3', rfl, hz, z4⟩ := k4
        obtain ⟨vs', hH, rs⟩ := (h4.get (i := 0) rfl).2
        refine ⟨vs', hH, Nat.lt_of_le_of_lt (by rw [← rs.len]; exact hz) (by decide), acc ++ [d'], m3', G4, z4, ((e'.trans e2).trans e3).trans e4, ?_⟩
        exact h4.write (i := 0) rfl ⟨_, upd_same, rs.app (.one r4)⟩
    unfold EIf at zb
    intro pins s4 I4
    cases ifs with
    | nil =>
      exact wpAny_tests_nil ⟨H2, I4, fin true _ G2 H2 zb (Same.refl G2) s3.hs⟩
    | cons c r =>
      cases r with
      | nil =>
        refine wpAny_tests_one (zb G2 σ3 H2 _ blk_wish ⟨s3.hs, s3.env⟩ (fun b m2 G3 H3 k3 e3 h3 => fin b m2 G3 H3 k3 e3 h3) pins s4 I4)
      | cons _ _ => exact zb.elim
  · have ei : i = ds.length := by omega
    subst ei
    refine .inl ⟨y.stop _ G' H' m' e' hs1 (ik _ _ _ z) (Nat.le_refl _), ?_⟩
    obtain ⟨vs', hH, rs⟩ := (hs'.get (i := 0) rfl).2
    obtain ⟨e2, hs2⟩ := hs'.freeze (i := 0) rfl hH
    exact q _ _ m' _ _ (ie _ _ z) (e'.trans e2) hs2 (.lst upd_same (rs.mono e2))
theorem ec_lc {own : List (Str × Nat)} (tg : Tg) (hc : X.calm = true) (hN : X.N.Nodup) (ok : BlkOk X.N X.env.scope scope own) (hg : Blk X scope fun Y => PG Y tgt (tg.den X.K)) (ho : tg.ok X.N.length) (hv : tg.inn (own.map (·.2)))
    (h : SC X x es m tgt iter (LcK X scope es tg (own.map (·.2)) ifs elt k)) (hs : ∀ v, foldedSetIterable iter X.env v = pure v := by intro _; rfl) : EC X x es m (.ListComp elt [⟨tgt, iter, ifs, 0⟩] scope pos) k := by
  intro G σ H Q w st q pins s I
  refine (pe_lc hc hN pi_R ok hg (tt := tBT X scope ifs) (fun s H C cl fp => ⟨fun pins s' σ H' Q I h => h s H C cl fp pins s' I⟩) bE hs).run pins s σ H Q I ?_
  refine h G σ H _ w st fun J ds keep m1 G1 H1 k1 e1 h1 y => ?_
  exact lc_read (st.mono e1 h1) I.len ho hv k1 y (q.mono e1)
/-- name = [..] on one line -/
theorem ss_lc {E : DE} {own : List (Str × Nat)} {i : Nat} {n : Str} {pn : Pos} (tg : Tg) (hc : X.calm = true) (hN : X.N.Nodup) (ok : BlkOk X.N X.env.scope scope own) (hg : Blk X scope fun Y => PG Y tgt (tg.den X.K)) (ho : tg.ok X.N.length) (hv : tg.inn (own.map (·.2)))
    (h : SC X x es m tgt iter (LcK X scope es tg (own.map (·.2)) ifs elt fun d m1 => E.nx (es.set i (some d)) m1)) (hy : X.N[i]? = some n := by rfl) (hyl : X.env.scope.names.lookup n = some .local := by rfl)
    (hs : ∀ v, foldedSetIterable iter X.env v = pure v := by intro _; rfl) {spos : Pos} (hsw : swapsWith (.ListComp elt [⟨tgt, iter, ifs, 0⟩] scope pos) (some (.Name n pn)) spos.line X.env = pure true := by first | exact sw_true rfl rfl rfl (by decide +kernel) | rfl) : SS X x es m (.Assign [.Name n pn] (.ListComp elt [⟨tgt, iter, ifs, 0⟩] scope pos) spos) E := by
  intro G σ H Dn w st hl r pins s I
  refine (ps_setLc hc hN hy hyl hsw pi_R ok hg (tt := tBT X scope ifs) (fun s H C cl fp => ⟨fun pins s' σ H' Q I h => h s H C cl fp pins s' I⟩) bE hs).run pins s σ H Dn I ?_
  refine h G σ H _ w st fun J ds keep m1 G1 H1 k1 e1 h1 y => ?_
  refine lc_read (Q := fun v H' => Dn.nx (σ.set i (some v)) H') (st.mono e1 h1) hl ho hv k1 y fun v d m2 G2 H2 k2 e2 h2 r2 => ?_
  have hlt : i < σ.length := by rw [hl]; exact (List.getElem?_eq_some_iff.mp hy).1
  exact r.nx _ m2 G2 _ H2 k2 (e1.trans e2) ⟨h2, (st.env.mono (e1.trans e2)).set hlt r2⟩ (by rw [List.length_set]; exact hl)
end
end SG
set_option maxHeartbeats 4000000
/-! SgRu3: a def's promise on data, its proof, its call; instances made, their fields stored. -/
namespace SG
open PySem PySem.Spec PyProof.Rows L2
/-- what a def does: its arguments, the objects that may change, what follows, what is raised -/
abbrev FSpec := List D → M → KD → XD → Prop
def BkX (K : PySem.W.Frag) (w : World) (G : Hp) (x : XD) (E : XK) : Prop := ∀ (C : Addr) (d : D) (m : M) (G' H' : Hp) (dx : Addr) (v : V), x C d m → Same G G' → Hs K w G' m H' → H' dx = some (.xd [(errV, v)]) → Rp K G' d v → E (.ref C) (some dx) H'
def BkV (K : PySem.W.Frag) (w : World) (G : Hp) (k : KD) (Q : VK) : Prop := ∀ (v : V) (d : D) (m : M) (G' H' : Hp), k d m → Same G G' → Hs K w G' m H' → Rp K G' d v → Q v H'
def spD (K : PySem.W.Frag) (w : World) (FS : FSpec) : Sp := fun vs H Q E => ∃ G m ds k x, Hs K w G m H ∧ RpL K G ds vs ∧ FS ds m k x ∧ BkV K w G k Q ∧ BkX K w G x E
structure Fn (P : Program) (w : World) (K : PySem.W.Frag) (mg : Str → Option Value) (base : Heap) (n : Nat) (name : Str) (FS : FSpec) : Prop where
  ex : ∃ f fd ps, FnOk P w K mg base (L2.CX P w) n f fd ps (spD K w FS) ∧ mg name = some (.ref f) ∧ PySem.W.keepIn K (.ref f) = true ∧ Binds K fd ps []
/-- the context of a def's body -/
abbrev bodyX (P : Program) (w : World) (K : PySem.W.Frag) (mg : Str → Option Value) (base : Heap) (N : List Str) (qual : Str) (scope : Scope) (f : Addr) (cdv : Value) (A : Around) (outer : List PySem.Env) (s : Shared) (H : Hp) (E : XK) : Cx :=
  cxOf (L2.CX P w) P w K mg base N qual scope f cdv A outer s H E
abbrev startE (N : List Str) (ds : List D) : Es := ds.map some ++ List.replicate (N.length - ds.length) none
theorem start_env {K : PySem.W.Frag} {G : Hp} {N : List Str} {ds : List D} {vs : List V} (r : RpL K G ds vs) : Env K G (L2.start N vs) (startE N ds) := fun i d hi => by
  unfold startE at hi
  unfold L2.start
  by_cases h : i < ds.length
  · rw [List.getElem?_append_left (by simpa using h), List.getElem?_map] at hi
    cases e : ds[i]? with
    | none => rw [e] at hi; cases hi
    | some d' =>
      rw [e] at hi
      cases hi
      obtain ⟨v, h1, h2⟩ := r.get e
      refine ⟨v, ?_, h2⟩
      rw [List.getElem?_append_left (by simpa [← r.len] using h), List.getElem?_map, h1]
      rfl
  · rw [List.getElem?_append_right (by simpa using Nat.le_of_not_lt h), List.getElem?_replicate] at hi
    split at hi <;> cases hi
section
variable {P : Program} {w : World} {K : PySem.W.Frag} {mg : Str → Option Value} {base : Heap} {x qual : Str} {params : Arguments} {body : List Stmt} {scope : Scope} {dvs : List V} {kws : List (Str × V)} {f : Addr} {fd : FuncData} {N ps : List Str} {n : Nat} {FS : FSpec}
/-- what one may lean on in a body -/
structure BodyOk (X : Cx) (n : Nat) : Prop where
  calm : X.calm = true
  own : PassesOwn (model X.prog X.w) X.A X.env X.xe
  room : Room n X.A
  nd : X.N.Nodup
theorem fnok_def (F : FunD K x qual params body scope dvs kws f fd) (S : FnScope N ps scope) (hlen : ∀ ds m k x, FS ds m k x → ds.length = ps.length)
    (hb : ∀ (cdv : Value) (A : Around) (outer : List PySem.Env) (s : Shared) (H : Hp) (E : XK), BodyOk (bodyX P w K mg base N qual scope f cdv A outer s H E) n →
      ∀ ds m k x, FS ds m k x → SD (bodyX P w K mg base N qual scope f cdv A outer s H E) x (startE N ds) m body { nx := fun _ m' => k .non m', rt := k }) : FnOk P w K mg base (L2.CX P w) (n + 1) f fd ps (spD K w FS) := by
  refine F.ok S (fun vs H Q E h => ?_) fun cdv A outer s H vs Q E hr h => ?_
  · obtain ⟨G, m, ds, k, x, _, r, z, _, _⟩ := h
    rw [← r.len]
    exact hlen ds m k x z
  · obtain ⟨G, m, ds, k, x, hs, r, z, q, qx⟩ := h
    refine ⟨tSsR _ body, pss_R, ?_⟩
    have hsl : ds.length ≤ N.length := by
      have := congrArg List.length S.pre
      rw [List.length_take] at this
      have := hlen ds m k x z
      omega
    refine hb cdv A outer s H E ⟨rfl, passes_of rfl, hr, S.nd⟩ ds m k x z G _ H _ ⟨⟨fun cls d _ H' => E cls d H', G, takes_of rfl rfl rfl rfl, fun C d m' G' σ' H' dx v hx e h1 h2 r' => qx C d m' G' H' dx v hx e h1 h2 r', Same.refl G⟩⟩ ⟨hs, start_env r⟩ ?_ ?_
    · show (L2.start N vs).length = N.length
      unfold L2.start
      rw [List.length_append, List.length_map, List.length_replicate, ← r.len]
      omega
    · exact ⟨fun es m' G' σ' H' hk e st _ => q .non .non m' G' H' hk e st.hs .non, q, fun _ _ _ _ _ z => z.elim, fun _ _ _ _ _ z => z.elim⟩
theorem fn_def (F : FunD K x qual params body scope dvs kws f fd) (S : FnScope N ps scope) (gm : mg x = some (.ref f)) (bs : Binds K fd ps []) (hlen : ∀ ds m k x, FS ds m k x → ds.length = ps.length)
    (hb : ∀ (cdv : Value) (A : Around) (outer : List PySem.Env) (s : Shared) (H : Hp) (E : XK), BodyOk (bodyX P w K mg base N qual scope f cdv A outer s H E) n →
      ∀ ds m k x, FS ds m k x → SD (bodyX P w K mg base N qual scope f cdv A outer s H E) x (startE N ds) m body { nx := fun _ m' => k .non m', rt := k }) : Fn P w K mg base (n + 1) x FS :=
  ⟨f, fd, ps, fnok_def F S hlen hb, gm, F.kp, bs⟩
theorem Fn.mono {j : Nat} (F : Fn P w K mg base n x FS) (h : n ≤ j) : Fn P w K mg base j x FS := let ⟨f, fd, ps, a, b, c, d⟩ := F.ex; ⟨f, fd, ps, a.mono h, b, c, d⟩
end
section
variable {X : Cx} {x : XD} {es : Es} {m : M} {k : KD} {e a o : Expr} {as : List Expr} {pos p apos : Pos} {n : Nat} {name : Str} {FS : FSpec}
theorem ec_call (F : Fn X.prog X.w X.K X.mg X.base n name FS) (hr : Room n X.A) (h : ECs X x es m (a :: as) fun ds m1 => FS ds m1 k x) (hg : Gl X name := by rfl) (hdb : (name == ("__debug__" : Str)) = false := by decide)
    (he : starEach (a :: as) X.env = (false, eval a X.env) :: starEach as X.env := by rfl) (hpl : (backTo pos (starEach as X.env)).any (·.1) = false := by rfl) : EC X x es m (.Call (.Name name p) (a :: as) [] pos) k := by
  obtain ⟨f, fd, ps, G, gm, kp, bs⟩ := F.ex
  intro G0 σ H Q w st q pins s I
  obtain ⟨W, G1, tk, xr, e0⟩ := w.w
  refine (pe_callS G hr hg gm kp bs (fun σ => passAt tk σ) pa_R hdb he hpl).run pins s σ H Q I ?_
  refine h G0 σ H _ w st fun vs ds m1 G2 H2 k1 e1 h1 r1 => ?_
  exact ⟨G2, m1, ds, k, x, h1, r1, k1, q.mono e1, fun C d m' G' H' dx v hx e hs hH r => xr C d m' G' σ H' dx v hx ((e0.trans e1).trans e) hs hH r⟩
/-- no arguments: a method of an instance that changes no more -/
theorem ec_meth0 {C f : Addr} {fd : FuncData} {ps : List Str} {mt : Str} {pl : Sem Bool} (F : FnOk X.prog X.w X.K X.mg X.base (L2.CX X.prog X.w) n f fd ps (spD X.K X.w FS)) (hr : Room n X.A) (c : Cls X.K C) (hm : Meth X.K C mt f) (hb : Binds X.K fd ps [])
    (h : EC X x es m o fun d m1 => ∃ fs, d = .ins C fs ∧ fs.lookup mt = none ∧ FS [d] m1 k noX)
    (ht : eval (.Call (.Attribute o mt apos) [] [] pos) X.env = (do
      let ov ← eval o X.env
      standAt apos.atName
      let (f, first) ← holding [ov] (getMethod ov mt pl)
      callWith pos f first (backTo pos (starEach [] X.env)) (backToKw pos (keywordEach [] X.env))) := by rfl) : EC X x es m (.Call (.Attribute o mt apos) [] [] pos) k := by
  intro G0 σ H Q w st q pins s I
  refine (pe_meth0 (pl := pl) pe_R c hm F hr hb .nil passL ht).run pins s σ H Q I ?_
  refine h G0 σ H _ w st fun v d m1 G2 H2 k1 e1 h1 r1 => ?_
  obtain ⟨fs, rfl, hl, z⟩ := k1
  cases r1 with
  | ins hG r =>
    refine ⟨_, _, _, rfl, h1.ex _ _ hG, r.none hl, ?_⟩
    exact ⟨G2, m1, [.ins C fs], k, noX, h1, .one (.ins hG r), z, q.mono e1, fun _ _ _ _ _ _ _ z => z.elim⟩
/-- a new instance -/
theorem ec_make {C f : Addr} {fd : FuncData} {ps : List Str} (M' : Mk X.K C f) (F : FnOk X.prog X.w X.K X.mg X.base (L2.CX X.prog X.w) n f fd ps (spD X.K X.w FS)) (hr : Room (n + 1) X.A) (gm : X.mg name = some (.ref C)) (hb : Binds X.K fd ps [])
    (h : ECs X x es m (a :: as) fun ds m1 => ∀ p, FS (.raw (.ref p) :: ds) ((p, .ins C []) :: m1) (fun d m2 => d = .non ∧ ∃ fs m3, m2 = (p, .ins C fs) :: m3 ∧ k (.ins C fs) m3) noX) (hg : Gl X name := by rfl) (hdb : (name == ("__debug__" : Str)) = false := by decide)
    (he : starEach (a :: as) X.env = (false, eval a X.env) :: starEach as X.env := by rfl) (hpl : (backTo pos (starEach as X.env)).any (·.1) = false := by rfl) : EC X x es m (.Call (.Name name p) (a :: as) [] pos) k := by
  intro G0 σ H Q w st q pins s I
  refine (pe_make M' F hr hg gm hb .nil passL pa_R hdb he hpl).run pins s σ H Q I ?_
  refine h G0 σ H _ w st fun vs ds m1 G2 H2 k1 e1 h1 r1 => ?_
  intro y dx hy hdx hne
  have g1 : Same H2 (upd H2 dx (.own y)) := fun b u z => by rw [upd_ne (ne_of_none z hdx)]; exact z
  have hy' : (upd H2 dx (.own y)) y = none := by rw [upd_ne (Ne.symm hne)]; exact hy
  have h2 := (h1.grow g1).newM (o := .ins C []) (u := .ins C dx []) hy' ⟨dx, [], upd_same, .nil⟩
  refine ⟨G2, _, _, _, noX, h2, ?_, k1 y, fun v d m2 G3 H3 k2 e2 h3 r3 => ?_, fun _ _ _ _ _ _ _ z => z.elim⟩
  · rw [List.append_nil]
    exact .cons (.raw _) r1
  · obtain ⟨rfl, fs, m3, rfl, z⟩ := k2
    cases r3
    obtain ⟨dx', vs', hH, rs⟩ := (h3.get (i := 0) rfl).2
    obtain ⟨e4, h4⟩ := h3.freeze (i := 0) rfl hH
    exact ⟨rfl, (q.mono ((e1.trans e2).trans e4)) _ _ m3 _ _ z (Same.refl _) h4 (.ins upd_same (rs.mono e4))⟩
/-- o.f = e, o an instance that is being made -/
theorem ss_fld {E : DE} {f : Str} (h : EC X x es m e fun d m1 => EC X x es m1 o fun do_ m2 => ∃ (p : Addr) (j : Nat) (C : Addr) (fs : List (Str × D)), do_ = .raw (.ref p) ∧ m2[j]? = some (p, MO.ins C fs) ∧ Cls X.K C ∧ NoAttr X.K C f ∧ fs.length < 900 ∧ E.nx es (m2.set j (p, .ins C (putD f d fs))))
    (hs : swapsWith e (some (.Attribute o f apos)) pos.line X.env = pure false := by rfl) : SS X x es m (.Assign [.Attribute o f apos] e pos) E :=
  SS.of (ps_fld pe_R pe_R hs) fun G σ H Dn w st hl r => h G σ H _ w st fun v d m1 G1 H1 k1 e1 h1 r1 => k1 G1 σ H1 _ (w.mono e1) (st.mono e1 h1) fun vo do_ m2 G2 H2 k2 e2 h2 r2 => by
    obtain ⟨p, j, C, fs, rfl, hm, hc, hn, hz, z⟩ := k2
    cases r2
    obtain ⟨dx, vs, hH, rs⟩ := (h2.get hm).2
    refine ⟨p, C, dx, vs, rfl, hH, hc, hn, by rw [← rs.len]; omega, ?_⟩
    have h3 := h2.write (o' := .ins C (putD f d fs)) (u := .ins C dx (putF f v vs)) hm ⟨dx, _, upd_same, rs.put (r1.mono e2)⟩
    exact r.nx es _ G2 σ _ z (e1.trans e2) ((st.mono (e1.trans e2) h3)) hl
end
end SG
set_option maxHeartbeats 4000000
/-! SgDict: dicts whose keys are tuples, nested, with None within. -/
namespace SG
open PySem PySem.Spec PyProof.Rows L2
/-! ### look-ups -/
def dGet (kvs : List (NestedKey × D)) (k : NestedKey) : Option D := (kvs.find? fun x => decide (x.1 = k)).map (·.2)
def dPut (kvs : List (NestedKey × D)) (k : NestedKey) (d : D) : List (NestedKey × D) := if (dGet kvs k).isSome then kvs.map (fun x => if x.1 = k then (x.1, d) else x) else kvs ++ [(k, d)]
def xGet (xs : List (NestedKey × V × V)) (k : NestedKey) : Option V := (xs.find? fun x => decide (x.1 = k)).map (·.2.2)
def xPut (xs : List (NestedKey × V × V)) (k : NestedKey) (a v : V) : List (NestedKey × V × V) := if (xGet xs k).isSome then xs.map (fun x => if x.1 = k then (x.1, x.2.1, v) else x) else xs ++ [(k, a, v)]
abbrev knd (X : Cx) : HeapKind X.prog X.w NestedKey := nestedKind X.prog X.w
/-- the entries as they lie -/
def XY (xs : List (NestedKey × V × V)) (ys : List (NestedKey × Addr × Value)) : Prop := Paired (fun x y => x.1 = y.1 ∧ x.2.1 = V.ref y.2.1 ∧ RelV x.2.2 y.2.2) xs ys
theorem XY.get {xs : List (NestedKey × V × V)} {ys : List (NestedKey × Addr × Value)} (h : XY xs ys) (k : NestedKey) : RelO (xGet xs k) ((atKey ys k).map (·.2)) := by
  induction h with
  | nil => exact True.intro
  | @cons x y xs ys h t ih =>
    unfold xGet atKey at ih ⊢
    rw [List.find?_cons, List.find?_cons, ← h.1]
    by_cases e : x.1 = k
    · rw [decide_eq_true e]
      exact h.2.2
    · rw [decide_eq_false e]
      exact ih
theorem relO_iff {o : Option V} {u : Option Value} (h : RelO o u) : o.isSome = u.isSome := by
  cases o <;> cases u <;> first | rfl | exact h.elim
theorem XY.put {xs : List (NestedKey × V × V)} {ys : List (NestedKey × Addr × Value)} (h : XY xs ys) {k : NestedKey} {a : Addr} {v : V} {u : Value} (r : RelV v u) : XY (xPut xs k (.ref a) v) (storedH ys k a u) := by
  have e := relO_iff (h.get k)
  rw [Option.isSome_map] at e
  unfold xPut storedH
  rw [e]
  split
  · have go : ∀ {xs : List (NestedKey × V × V)} {ys : List (NestedKey × Addr × Value)}, XY xs ys → XY (xs.map fun x => if x.1 = k then (x.1, x.2.1, v) else x) (ys.map (putAt k u)) := by
      intro xs ys h
      induction h with
      | nil => exact .nil
      | @cons x y xs ys h t ih =>
        refine .cons ?_ ih
        show (if x.1 = k then (x.1, x.2.1, v) else x).1 = (putAt k u y).1 ∧ (if x.1 = k then (x.1, x.2.1, v) else x).2.1 = V.ref (putAt k u y).2.1 ∧ RelV (if x.1 = k then (x.1, x.2.1, v) else x).2.2 (putAt k u y).2.2
        unfold putAt
        rw [← h.1]
        by_cases q : x.1 = k
        · rw [if_pos q, if_pos q]
          exact ⟨rfl, h.2.1, r⟩
        · rw [if_neg q, if_neg q]
          exact h
    exact go h
  · have go : ∀ {xs : List (NestedKey × V × V)} {ys : List (NestedKey × Addr × Value)}, XY xs ys → XY (xs ++ [(k, .ref a, v)]) (ys ++ [(k, a, u)]) := by
      intro xs ys h
      induction h with
      | nil => exact .cons ⟨rfl, rfl, r⟩ .nil
      | @cons x y xs ys h t ih => exact .cons h ih
    exact go h
theorem KvOk.get {K : PySem.W.Frag} {G : Hp} {kvs : List (NestedKey × D)} {xs : List (NestedKey × V × V)} (h : KvOk K G kvs xs) (k : NestedKey) :
    (dGet kvs k = none → xGet xs k = none) ∧ (∀ d, dGet kvs k = some d → ∃ v, xGet xs k = some v ∧ Rp K G d v) := by
  induction h with
  | nil => exact ⟨fun _ => rfl, fun d e => (by cases e)⟩
  | @cons q x kvs xs h t ih =>
    unfold dGet xGet at ih ⊢
    rw [List.find?_cons, List.find?_cons, h.1]
    by_cases e : q.1 = k
    · rw [decide_eq_true e]
      refine ⟨fun z => (by cases z), fun d z => ?_⟩
      have z : some q.2 = some d := z
      cases z
      exact ⟨x.2.2, rfl, h.2.2⟩
    · rw [decide_eq_false e]
      exact ih
theorem KvOk.isS {K : PySem.W.Frag} {G : Hp} {kvs : List (NestedKey × D)} {xs : List (NestedKey × V × V)} (h : KvOk K G kvs xs) (k : NestedKey) : (xGet xs k).isSome = (dGet kvs k).isSome := by
  obtain ⟨h1, h2⟩ := h.get k
  cases e : dGet kvs k with
  | none => rw [h1 e]; rfl
  | some d =>
    obtain ⟨v, e2, _⟩ := h2 d e
    rw [e2]; rfl
theorem KvOk.put {K : PySem.W.Frag} {G : Hp} {kvs : List (NestedKey × D)} {xs : List (NestedKey × V × V)} (h : KvOk K G kvs xs) {k : NestedKey} {a : V} {d : D} {v : V} (ra : KeyR K G k a) (r : Rp K G d v) : KvOk K G (dPut kvs k d) (xPut xs k a v) := by
  unfold dPut xPut
  rw [h.isS k]
  split
  · have go : ∀ {kvs : List (NestedKey × D)} {xs : List (NestedKey × V × V)}, KvOk K G kvs xs → KvOk K G (kvs.map fun x => if x.1 = k then (x.1, d) else x) (xs.map fun x => if x.1 = k then (x.1, x.2.1, v) else x) := by
      intro kvs xs h
      induction h with
      | nil => exact .nil
      | @cons q x kvs xs h t ih =>
        refine .cons ?_ ih
        show (if x.1 = k then (x.1, x.2.1, v) else x).1 = (if q.1 = k then (q.1, d) else q).1 ∧ KeyR K G (if q.1 = k then (q.1, d) else q).1 (if x.1 = k then (x.1, x.2.1, v) else x).2.1 ∧ Rp K G (if q.1 = k then (q.1, d) else q).2 (if x.1 = k then (x.1, x.2.1, v) else x).2.2
        rw [h.1]
        by_cases e : q.1 = k
        · rw [if_pos e, if_pos e]
          exact ⟨rfl, h.2.1, r⟩
        · rw [if_neg e, if_neg e]
          exact h
    exact go h
  · have go : ∀ {kvs : List (NestedKey × D)} {xs : List (NestedKey × V × V)}, KvOk K G kvs xs → KvOk K G (kvs ++ [(k, d)]) (xs ++ [(k, a, v)]) := by
      intro kvs xs h
      induction h with
      | nil => exact .cons ⟨rfl, ra, r⟩ .nil
      | @cons q x kvs xs h t ih => exact .cons h ih
    exact go h
theorem dGet_none {kvs : List (NestedKey × D)} {k : NestedKey} (h : dGet kvs k = none) : k ∉ kvs.map (·.1) := by
  intro z
  obtain ⟨q, hq, rfl⟩ := List.mem_map.mp z
  unfold dGet at h
  rw [Option.map_eq_none_iff, List.find?_eq_none] at h
  exact h q hq (decide_eq_true rfl)
theorem dPut_keys {kvs : List (NestedKey × D)} {k : NestedKey} {d : D} (hn : (kvs.map (·.1)).Nodup) : ((dPut kvs k d).map (·.1)).Nodup := by
  unfold dPut
  cases e : dGet kvs k with
  | some _ =>
    rw [if_pos (by simp), List.map_map]
    have : ((fun x : NestedKey × D => x.1) ∘ fun x => if x.1 = k then (x.1, d) else x) = fun x => x.1 := by
      funext x
      show (if x.1 = k then (x.1, d) else x).1 = x.1
      split <;> rfl
    rw [this]
    exact hn
  | none =>
    rw [if_neg (by simp), List.map_append, List.nodup_append]
    refine ⟨hn, by simp, ?_⟩
    intro a ha b hb eab
    have hb' : b = k := by simpa using hb
    subst eab hb'
    exact dGet_none e ha
theorem dPut_depth {kvs : List (NestedKey × D)} {k : NestedKey} {d : D} (h : ∀ q ∈ kvs, q.1.depth ≤ 8) (hk : k.depth ≤ 8) : ∀ q ∈ dPut kvs k d, q.1.depth ≤ 8 := by
  intro q hq
  unfold dPut at hq
  split at hq
  · obtain ⟨x, hx, rfl⟩ := List.mem_map.mp hq
    split <;> exact h x hx
  · rcases List.mem_append.mp hq with z | z
    · exact h q z
    · have : q = (k, d) := by simpa using z
      rw [this]
      exact hk
theorem dPut_len {kvs : List (NestedKey × D)} {k : NestedKey} {d : D} : (dPut kvs k d).length ≤ kvs.length + 1 := by
  unfold dPut
  split
  · rw [List.length_map]
    omega
  · rw [List.length_append] <;> exact Nat.le_refl _
abbrev isTup : NestedKey → Prop
  | .tup _ => True
  | _ => False
theorem dPut_tup {kvs : List (NestedKey × D)} {k : NestedKey} {d : D} (h : ∀ q ∈ kvs, isTup q.1) (hk : isTup k) : ∀ q ∈ dPut kvs k d, isTup q.1 := by
  intro q hq
  unfold dPut at hq
  split at hq
  · obtain ⟨x, hx, rfl⟩ := List.mem_map.mp hq
    split <;> exact h x hx
  · rcases List.mem_append.mp hq with z | z
    · exact h q z
    · have : q = (k, d) := by simpa using z
      rw [this]
      exact hk
/-! ### between data and the heap -/
section
variable {X : Cx} {pins : List (Addr × Obj)} {σ : L2.St} {H G : Hp} {s : Shared}
mutual
theorem KeyR.is (I : L2.Inv X pins σ H s) (e : Same G H) : ∀ (k : NestedKey) (v : V) (u : Value), KeyR X.K G k v → RelV v u → NestedIs s.heap k u
  | .none, _, _, h, r => by cases h; cases r; exact .none
  | .num i, _, _, h, r => by cases h; obtain ⟨t, rfl⟩ := r; exact .int i t
  | .text x, _, _, h, r => by cases h; obtain ⟨t, rfl⟩ := r; exact .text x t
  | .tup ks, _, _, h, r => by
    cases h with
    | tup hs hk =>
      cases r
      obtain ⟨its, rv, ⟨o, ho, hc, n, hd⟩, _⟩ := I.tuple (same_t e hs)
      exact .tup ho hc hd (by simpa using KeyRL.is I e ks _ its hk rv)
theorem KeyRL.is (I : L2.Inv X pins σ H s) (e : Same G H) : ∀ (ks : List NestedKey) (vs : List V) (us : List Value), KeyRL X.K G ks vs → Vals vs us → NestedAll s.heap ks us
  | [], _, _, h, r => by cases h; cases r; exact .nil
  | k :: ks, _, _, h, r => by
    cases h with
    | cons h1 h2 =>
      cases r with
      | cons r1 r2 => exact .cons (KeyR.is I e k _ _ h1 r1) (KeyRL.is I e ks _ _ h2 r2)
end
theorem dct_at {p : Addr} {xs : List (NestedKey × V × V)} (I : L2.Inv X pins σ H s) (h : Rd H p (DctO X.w p xs)) : xs.length ≤ sizeLine ∧ (p == sysModules) = false ∧ ∃ o ents ep, s.heap.get? p = some o ∧ o.ExactDict ∧ o.data = .dict ents ep ∧
    Paired (fun (x : NestedKey × V × V) (e : DictEntry) => e.hash = x.1.hash X.w ∧ RelV x.2.1 e.key ∧ RelV x.2.2 e.val) xs ents.toList := by
  have z : ObjOk X.prog X.w H s.heap p (DctO X.w p xs) := h.ok I.hok
  exact z.1
/-- all keys are tuples: the library's own form -/
theorem dct_h {p : Addr} {kvs : List (NestedKey × D)} {xs : List (NestedKey × V × V)} (I : L2.Inv X pins σ H s) (e : Same G H) (h : Rd H p (DctO X.w p xs)) (kv : KvOk X.K G kvs xs) (hn : (kvs.map (·.1)).Nodup) (hd : ∀ q ∈ kvs, q.1.depth ≤ 8) (ht : ∀ q ∈ kvs, isTup q.1) :
    xs.length ≤ sizeLine ∧ (p == sysModules) = false ∧ ∃ ys, XY xs ys ∧ s.heap.DictOfH (knd X) p ys := by
  obtain ⟨hl, hs, o, ents, ep, ho, hex, hdt, pr⟩ := dct_at I h
  have go : ∀ {kvs : List (NestedKey × D)} {xs : List (NestedKey × V × V)} {es : List DictEntry}, KvOk X.K G kvs xs → Paired (fun (x : NestedKey × V × V) (e : DictEntry) => e.hash = x.1.hash X.w ∧ RelV x.2.1 e.key ∧ RelV x.2.2 e.val) xs es → (∀ q ∈ kvs, q.1.depth ≤ 8) → (∀ q ∈ kvs, isTup q.1) →
      ∃ ys, XY xs ys ∧ es = ys.map (entryOfKey (knd X)) ∧ (∀ y ∈ ys, (knd X).is s.heap y.1 y.2.1) ∧ ys.map (·.1) = kvs.map (·.1) := by
    intro kvs xs es kv
    induction kv generalizing es with
    | nil => intro pr _ _; cases pr; exact ⟨[], .nil, rfl, fun y hy => by simp at hy, rfl⟩
    | @cons q x kvs xs h t ih =>
      intro pr hd ht
      cases pr with
      | @cons _ en _ es' h2 t2 =>
        obtain ⟨ys, z1, z2, z3, z4⟩ := ih t2 (fun q hq => hd q (List.mem_cons_of_mem _ hq)) fun q hq => ht q (List.mem_cons_of_mem _ hq)
        have hq := ht q List.mem_cons_self
        obtain ⟨e1, e2, e3⟩ := h
        obtain ⟨f1, f2, f3⟩ := h2
        obtain ⟨eh, ek, ev⟩ := en
        have key : ∃ a, x.2.1 = V.ref a := by
          cases hk : q.1 with
          | tup ks =>
            rw [hk] at e2
            cases hx : x.2.1 with
            | ref a => exact ⟨a, rfl⟩
            | _ => rw [hx] at e2; cases e2
          | _ => rw [hk] at hq; exact hq.elim
        obtain ⟨a, ha⟩ := key
        have ek' : ek = Value.ref a := by
          have z : RelV x.2.1 ek := f2
          rw [ha] at z
          exact z
        refine ⟨(q.1, a, ev) :: ys, .cons ⟨e1, ha, f3⟩ z1, ?_, ?_, ?_⟩
        · rw [List.map_cons, ← z2]
          have eh' : eh = q.1.hash X.w := by rw [← e1]; exact f1
          rw [eh', ek']
          rfl
        · intro y hy
          rcases List.mem_cons.mp hy with rfl | hy
          · refine ⟨?_, hd q List.mem_cons_self⟩
            exact KeyR.is I e q.1 _ _ e2 (by rw [ha]; rfl)
          · exact z3 y hy
        · rw [List.map_cons, List.map_cons, z4]
  obtain ⟨ys, z1, z2, z3, z4⟩ := go kv pr hd ht
  exact ⟨hl, hs, ys, z1, o, ents, ep, ho, hex, hdt, z2, z3, by rw [z4]; exact hn⟩
theorem dct_new {p : Addr} {xs : List (NestedKey × V × V)} {ys : List (NestedKey × Addr × Value)} {h' : Heap} {H' : Hp} (hl : xs.length ≤ sizeLine) (hs : (p == sysModules) = false) (z : XY xs ys) (hm : h'.DictOfH (knd X) p ys) : ObjOk X.prog X.w H' h' p (DctO X.w p xs) := by
  obtain ⟨o, ents, ep, ho, hex, hdt, he, _, _⟩ := hm
  have pr : ∀ {xs : List (NestedKey × V × V)} {ys : List (NestedKey × Addr × Value)}, XY xs ys → Paired (fun (x : NestedKey × V × V) (e : DictEntry) => e.hash = x.1.hash X.w ∧ RelV x.2.1 e.key ∧ RelV x.2.2 e.val) xs (ys.map (entryOfKey (knd X))) := by
    intro xs ys h
    induction h with
    | nil => exact .nil
    | @cons x y xs ys h t ih => exact .cons ⟨by rw [h.1]; rfl, by rw [h.2.1]; rfl, h.2.2⟩ ih
  refine ⟨⟨hl, hs, o, ents, ep, ho, hex, hdt, by rw [he]; exact pr z⟩, ⟨o, ho⟩, fun h1 h2 w st => ?_⟩
  obtain ⟨w1, w2, o, ents, ep, ho, r⟩ := w
  exact ⟨w1, w2, o, ents, ep, st o ho, r⟩
theorem xPut_len {xs : List (NestedKey × V × V)} {k : NestedKey} {a v : V} : (xPut xs k a v).length ≤ xs.length + 1 := by
  unfold xPut
  split
  · rw [List.length_map]
    omega
  · rw [List.length_append] <;> exact Nat.le_refl _
theorem KvOk.len {K : PySem.W.Frag} {G : Hp} {kvs : List (NestedKey × D)} {xs : List (NestedKey × V × V)} (h : KvOk K G kvs xs) : kvs.length = xs.length := by
  induction h with
  | nil => rfl
  | cons _ _ ih => rw [List.length_cons, List.length_cons, ih]
theorem ref_key {k : NestedKey} {v : V} {u : Value} (ht : isTup k) (h : KeyR X.K G k v) (r : RelV v u) : ∃ a, v = .ref a ∧ u = .ref a := by
  cases k with
  | tup ks =>
    cases h
    exact ⟨_, rfl, r⟩
  | _ => exact ht.elim
end
/-! ### rules -/
section
variable {X : Cx} {x : XD} {es : Es} {m : M} {k : KD} {e a o : Expr} {pos apos : Pos} {d : D} {kk : NestedKey} {p : Addr} {j : Nat} {kvs : List (NestedKey × D)}
/-- what an operation asks of the dict -/
structure DOk (m : M) (j : Nat) (p : Addr) (kvs : List (NestedKey × D)) : Prop where
  at_ : m[j]? = some (p, .dct kvs)
  tup : ∀ q ∈ kvs, isTup q.1
structure DRd (m : M) (j : Nat) (p : Addr) (kvs : List (NestedKey × D)) : Prop where
  at_ : m[j]? = some (p, .dct kvs) ∨ ∃ o xs, m[j]? = some (p, .dcz o xs kvs)
  tup : ∀ q ∈ kvs, isTup q.1
theorem DOk.rd (h : DOk m j p kvs) : DRd m j p kvs := ⟨.inl h.at_, h.tup⟩
theorem DRd.get {G H : Hp} (h : DRd m j p kvs) (hs : Hs X.K X.w G m H) : ∃ xs, Rd H p (DctO X.w p xs) ∧ KvOk X.K G kvs xs ∧ (kvs.map (·.1)).Nodup ∧ (∀ q ∈ kvs, q.1.depth ≤ 8) := by
  rcases h.at_ with h | ⟨o, xs, h⟩
  · obtain ⟨xs, hH, r⟩ := (hs.get h).2
    exact ⟨xs, .inl hH, r⟩
  · obtain ⟨hH, r⟩ := (hs.get h).2
    exact ⟨xs, .inr ⟨o, hH⟩, r⟩
theorem ec_dnew (h : ∀ p, k (.raw (.ref p)) ((p, .dct []) :: m)) : EC X x es m (.Dict [] [] pos) k := by
  intro G σ H Q w st q pins s I
  have hf := I.hok.fresh (Nat.le_refl _)
  have hok : ObjOk X.prog X.w (upd H s.heap.objs.size (DctO X.w s.heap.objs.size [])) (s.heap.push { cls := .type "dict", data := .dict #[] }) s.heap.objs.size (DctO X.w s.heap.objs.size []) :=
    dct_new (ys := []) (Nat.zero_le _) (beq_eq_false_iff_ne.mpr (Ne.symm (Nat.ne_of_lt I.big))) .nil (Heap.DictOfH.new _)
  have J := I.laid (a := s.heap.objs.size) (o := DctO X.w s.heap.objs.size []) (t' := s.toks) (fun _ _ q => Heap.get?_push_of_some _ q) (Nat.le_refl _) hok
  refine wpAny_Dict_empty ⟨.ref s.heap.objs.size, _, J, rfl, ?_⟩
  exact q _ _ _ _ _ (h _) (Same.refl G) (st.hs.newM hf ⟨[], upd_same, .nil, List.nodup_nil, fun q hq => by simp at hq⟩) (.raw _)
theorem oc_din (hu : X.A.units + 9 < cLine) (dk : DOk m j p kvs) (hk : d.key = some kk) (ht : isTup kk) (hd : kk.depth ≤ 8) (h : k (.bl (dGet kvs kk).isSome) m) : OC X (compareOp .In) m d (.raw (.ref p)) k := by
  intro G H va vb Q hs ra rb q pins s σ v u I r1 r2
  cases rb
  cases r2
  obtain ⟨xs, hH, kv, hn, hdp⟩ := (hs.get dk.at_).2
  obtain ⟨hl, hsys, ys, xy, hm⟩ := dct_h I hs.ex (.inl hH) kv hn hdp dk.tup
  have kr := Rp.key d va kk hk ra
  obtain ⟨b, rfl, rfl⟩ := ref_key ht kr r1
  refine in_keyed (knd := knd X) (show X.A.units + 1 + 8 < cLine by omega) ⟨KeyR.is I hs.ex kk _ _ kr rfl, hd⟩ hsys ⟨ys, hm, rfl⟩ ?_
  rw [valueAt_pairsH, ← relO_iff (xy.get kk), kv.isS kk]
  exact ⟨.bl _, H, I.tok _, rfl, q.now hs h (.bl _)⟩
theorem oc_dnotin (hu : X.A.units + 9 < cLine) (dk : DOk m j p kvs) (hk : d.key = some kk) (ht : isTup kk) (hd : kk.depth ≤ 8) (h : k (.bl (!(dGet kvs kk).isSome)) m) : OC X (compareOp .NotIn) m d (.raw (.ref p)) k := by
  intro G H va vb Q hs ra rb q pins s σ v u I r1 r2
  cases rb
  cases r2
  obtain ⟨xs, hH, kv, hn, hdp⟩ := (hs.get dk.at_).2
  obtain ⟨hl, hsys, ys, xy, hm⟩ := dct_h I hs.ex (.inl hH) kv hn hdp dk.tup
  have kr := Rp.key d va kk hk ra
  obtain ⟨b, rfl, rfl⟩ := ref_key ht kr r1
  refine notIn_keyed (knd := knd X) (show X.A.units + 1 + 8 < cLine by omega) ⟨KeyR.is I hs.ex kk _ _ kr rfl, hd⟩ hsys ⟨ys, hm, rfl⟩ ?_
  rw [valueAt_pairsH, ← relO_iff (xy.get kk), kv.isS kk]
  exact ⟨.bl _, H, I.tok _, rfl, q.now hs h (.bl _)⟩
end
end SG
set_option maxHeartbeats 4000000
/-! SgDict2: reads, stores, get, setdefault of such dicts. -/
namespace SG
open PySem PySem.Spec PyProof.Rows L2
section
variable {X : Cx} {x : XD} {es : Es} {m : M} {k : KD} {e a b o : Expr} {pos apos : Pos} {d : D} {kk : NestedKey} {p : Addr} {j : Nat} {kvs : List (NestedKey × D)} {G H : Hp} {σ : L2.St} {pins : List (Addr × Obj)} {s : Shared}
def Str1 (X : Cx) (G : Hp) (k : KD) : VK := fun v H1 => ∃ d m1 G1, k d m1 ∧ Same G G1 ∧ Hs X.K X.w G1 m1 H1 ∧ Rp X.K G1 d v
theorem EC.run (h : EC X x es m e k) (w : Wish X x G) (st : ST X G m σ H es) (I : L2.Inv X pins σ H s) : wpAny (model X.prog X.w) X.A (eval e X.env) (EP X pins σ (Str1 X G k)) X.xe s :=
  h G σ H _ w st (fun v d m1 G1 H1 h1 h2 h3 h4 => ⟨d, m1, G1, h1, h2, h3, h4⟩) pins s I
theorem xput_xy {xs : List (NestedKey × V × V)} {ys : List (NestedKey × Addr × Value)} (xy : XY xs ys) (kk : NestedKey) : valueAt (pairsH ys) kk = (atKey ys kk).map (·.2) := valueAt_pairsH ys kk
theorem XY.len {xs : List (NestedKey × V × V)} {ys : List (NestedKey × Addr × Value)} (h : XY xs ys) : xs.length = ys.length := by
  induction h with
  | nil => rfl
  | cons _ _ ih => rw [List.length_cons, List.length_cons, ih]
/-- the dict after a store -/
theorem dct_put {xs : List (NestedKey × V × V)} {ys : List (NestedKey × Addr × Value)} {c : Addr} {v : V} {u : Value} {h' : Heap} {t' : Nat} (I : L2.Inv X pins σ H s) (hH : H p = some (DctO X.w p xs)) (hl : (xPut xs kk (.ref c) v).length ≤ sizeLine) (hsys : (p == sysModules) = false) (xy : XY xs ys) (r : RelV v u)
    (hm : h'.DictOfH (knd X) p (storedH ys kk c u)) (sb : Heap.SameBut p s.heap h') : L2.Inv X pins σ (upd H p (DctO X.w p (xPut xs kk (.ref c) v))) { s with heap := h', toks := t' } := by
  refine d_write I (by rw [hH]; exact True.intro) sb ?_ (dct_new hl hsys (xy.put r) hm)
  obtain ⟨o, _, _, ho, _⟩ := hm
  exact ⟨o, ho⟩
theorem Hs.dput {v : V} {ka : V} (hs : Hs X.K X.w G m H) (dk : m[j]? = some (p, .dct kvs)) {xs : List (NestedKey × V × V)} (kv : KvOk X.K G kvs xs) (hn : (kvs.map (·.1)).Nodup) (hdp : ∀ q ∈ kvs, q.1.depth ≤ 8) (hd : kk.depth ≤ 8) (ra : KeyR X.K G kk ka) (r : Rp X.K G d v) :
    Hs X.K X.w G (m.set j (p, .dct (dPut kvs kk d))) (upd H p (DctO X.w p (xPut xs kk ka v))) :=
  hs.write dk ⟨_, upd_same, kv.put ra r, dPut_keys hn, dPut_depth hdp hd⟩
/-- d[k], there -/
theorem ec_dget (hu : X.A.units + 9 < cLine) (h : EC X x es m o fun do_ m1 => EC X x es m1 a fun dk m2 => ∃ (p : Addr) (j : Nat) (kvs : List (NestedKey × D)) (kk : NestedKey) (d : D), do_ = .raw (.ref p) ∧ DRd m2 j p kvs ∧ dk.key = some kk ∧ isTup kk ∧ kk.depth ≤ 8 ∧ dGet kvs kk = some d ∧ k d m2)
    (hsl : NoSl a := by intro _ _; rfl) : EC X x es m (.Subscript o a pos) k := by
  intro G σ H Q w st q pins s I
  refine subD_of PySem.F.slot_dict_getitem.lookup hsl (thn (h.run w st I) fun u s1 ⟨v1, H1, I1, r1, d1, m1, G1, k1, e1, h1, p1⟩ => thn (k1.run (w.mono e1) (st.mono e1 h1) I1) fun u2 s2 ⟨v2, H2, I2, r2, d2, m2, G2, ⟨p, j, kvs, kk, d, hdo, dk, hk, ht, hd, hg, z⟩, e2, h2, p2⟩ => ?_)
  subst hdo
  cases p1
  cases r1
  obtain ⟨xs, hH, kv, hn, hdp⟩ := dk.get h2
  obtain ⟨hl, hsys, ys, xy, hm⟩ := dct_h I2 h2.ex hH kv hn hdp dk.tup
  have kr := Rp.key d2 v2 kk hk p2
  obtain ⟨b, rfl, rfl⟩ := ref_key ht kr r2
  obtain ⟨v, hv, rv⟩ := (kv.get kk).2 d hg
  have xv := xy.get kk
  rw [hv] at xv
  cases hy : (atKey ys kk).map (·.2) with
  | none => rw [hy] at xv; exact xv.elim
  | some y =>
    rw [hy] at xv
    refine ⟨hm.typeIs, getItem_keyed (knd := knd X) (show X.A.units + 1 + 8 < cLine by omega) ⟨KeyR.is I2 h2.ex kk _ _ kr rfl, hd⟩ ⟨ys, hm, rfl⟩ (by rw [valueAt_pairsH, hy]) ?_⟩
    exact ⟨v, H2, I2.tok _, xv, ((q.mono e1).mono e2).now h2 z rv⟩
/-- d[k] = e -/
theorem ss_dput {E : DE} (hu : X.A.units + 9 < cLine) (h : EC X x es m e fun d m0 => EC X x es m0 o fun do_ m1 => EC X x es m1 a fun dk m2 => ∃ (p : Addr) (j : Nat) (kvs : List (NestedKey × D)) (kk : NestedKey), do_ = .raw (.ref p) ∧ DOk m2 j p kvs ∧ dk.key = some kk ∧ isTup kk ∧ kk.depth ≤ 8 ∧ kvs.length ≤ 100000 ∧
      E.nx es (m2.set j (p, .dct (dPut kvs kk d)))) (hsw : swapsWith e (some (.Subscript o a apos)) pos.line X.env = pure false := by rfl) : SS X x es m (.Assign [.Subscript o a apos] e pos) E := by
  intro G σ H Dn w st hln re pins s I
  refine wpAny_Assign_Subscript (thn (h.run w st I) fun u0 s0 ⟨v0, H0, I0, r0, d0, m0, G0, k0, e0, h0, p0⟩ => thn (k0.run (w.mono e0) (st.mono e0 h0) I0) fun u s1 ⟨v1, H1, I1, r1, d1, m1, G1, k1, e1, h1, p1⟩ =>
    thn (k1.run (w.mono (e0.trans e1)) (st.mono (e0.trans e1) h1) I1) fun u2 s2 ⟨v2, H2, I2, r2, d2, m2, G2, ⟨p, j, kvs, kk, hdo, dk, hk, ht, hd, hz, z⟩, e2, h2, p2⟩ => ?_) hsw
  subst hdo
  cases p1
  cases r1
  obtain ⟨xs, hH, kv, hn, hdp⟩ := (h2.get dk.at_).2
  obtain ⟨hl, hsys, ys, xy, hm⟩ := dct_h I2 h2.ex (.inl hH) kv hn hdp dk.tup
  have kr := Rp.key d2 v2 kk hk p2
  obtain ⟨b, rfl, rfl⟩ := ref_key ht kr r2
  have hxl : xs.length ≤ 100000 := by rw [← kv.len]; exact hz
  have hyl := XY.len xy
  refine wpAny_setItem_heap (knd := knd X) (show X.A.units + 1 + 8 < cLine by omega) ⟨KeyR.is I2 h2.ex kk _ _ kr rfl, hd⟩ hm (fun h' hm' sb => ?_) (by rw [← hyl]; exact hl)
  have e02 := (e0.trans e1).trans e2
  refine ⟨σ, _, dct_put I2 hH (Nat.le_trans xPut_len (Nat.le_trans (Nat.succ_le_succ hxl) (by decide))) hsys xy r0 hm' sb, ?_⟩
  exact re.nx es _ G2 σ _ z e02 (st.mono e02 (h2.dput dk.at_ kv hn hdp hd kr (p0.mono (e1.trans e2)))) hln
/-- what a method's receiver is -/
def DRecv (X : Cx) (m : M) (p : Addr) : Prop := ∃ (j : Nat) (kvs : List (NestedKey × D)), m[j]? = some (p, .dct kvs)
theorem DRecv.at (r : DRecv X m p) (hs : Hs X.K X.w G m H) (I : L2.Inv X pins σ H s) : s.TypeIs (.ref p) "dict" ∧ (∀ b, Value.ref p = .ref b → ∃ ob, s.heap.get? b = some ob ∧ ob.dict = none) := by
  obtain ⟨j, kvs, hj⟩ := r
  obtain ⟨xs, hH, kv, hn, hdp⟩ := (hs.get hj).2
  obtain ⟨hl, hsys, o, ents, ep, ho, hex, _⟩ := dct_at I (.inl hH)
  refine ⟨⟨o, ho, hex.1⟩, fun b q => ?_⟩
  cases q
  exact ⟨o, ho, hex.2.1⟩
/-- o.get(k, x) -/
theorem ec_dor (hu : X.A.units + 9 < cLine) (h : EC X x es m o fun do_ m0 => ∃ p, do_ = .raw (.ref p) ∧ DRecv X m0 p ∧ EC X x es m0 a fun dk m1 => EC X x es m1 b fun df m2 => ∃ (j : Nat) (kvs : List (NestedKey × D)) (kk : NestedKey), DOk m2 j p kvs ∧ dk.key = some kk ∧ isTup kk ∧ kk.depth ≤ 8 ∧
      k ((dGet kvs kk).getD df) m2) (mm : M2 X o "get" apos a b pos := by exact ⟨rfl, rfl, rfl, rfl⟩) : EC X x es m (.Call (.Attribute o "get" apos) [a, b] [] pos) k := by
  intro G σ H Q w st q pins s I
  refine wpAny_Call_method mm.base mm.few mm.line PySem.F.plainAttrs_dict PySem.F.slot_dict_get PySem.F.type_dict_get (thn (h.run w st I) fun u s0 ⟨v0, H0, I0, r0, d0, m0, G0, ⟨p, hdo, rc, k0⟩, e0, h0, p0⟩ => ?_)
  subst hdo
  cases p0
  cases r0
  obtain ⟨t1, t2⟩ := rc.at h0 I0
  refine ⟨t1, t2, ?_⟩
  rw [mm.trees]
  refine Calls.callWith_builtin rfl (Calls.evalArgs_plain (Calls.spliced_cons (thn (k0.run (w.mono e0) (st.mono e0 h0) I0) fun iv s1 ⟨v1, H1, I1, r1, d1, m1, G1, k1, e1, h1, p1⟩ => Calls.spliced_cons (thn (k1.run (w.mono (e0.trans e1)) (st.mono (e0.trans e1) h1) I1)
    fun fv s2 ⟨v2, H2, I2, r2, d2, m2, G2, ⟨j, kvs, kk, dk, hk, ht, hd, z⟩, e2, h2, p2⟩ => Calls.spliced_nil ?_))))
  obtain ⟨xs, hH, kv, hn, hdp⟩ := (h2.get dk.at_).2
  obtain ⟨hl, hsys, ys, xy, hm⟩ := dct_h I2 h2.ex (.inl hH) kv hn hdp dk.tup
  have kr := Rp.key d1 v1 kk hk p1
  obtain ⟨b, rfl, rfl⟩ := ref_key ht kr r1
  refine getOr_keyed (knd := knd X) (show X.A.units + 1 + 8 < cLine by omega) ⟨KeyR.is I2 h2.ex kk _ _ (kr.mono e2) rfl, hd⟩ hsys ⟨ys, hm, rfl⟩ ?_
  have xv := xy.get kk
  rw [valueAt_pairsH]
  have e02 := (e0.trans e1).trans e2
  obtain ⟨g1, g2⟩ := kv.get kk
  cases hg : dGet kvs kk with
  | none =>
    rw [g1 hg] at xv
    rw [hg] at z
    cases hy : (atKey ys kk).map (·.2) with
    | some y => rw [hy] at xv; exact xv.elim
    | none => exact ⟨v2, H2, I2.tok _, r2, (q.mono e02).now h2 z p2⟩
  | some d =>
    obtain ⟨v, hv, rv⟩ := g2 d hg
    rw [hv] at xv
    rw [hg] at z
    cases hy : (atKey ys kk).map (·.2) with
    | none => rw [hy] at xv; exact xv.elim
    | some y =>
      rw [hy] at xv
      exact ⟨v, H2, I2.tok _, xv, (q.mono e02).now h2 z rv⟩
/-- o.setdefault(k, x) -/
theorem ec_dset (hu : X.A.units + 9 < cLine) (h : EC X x es m o fun do_ m0 => ∃ p, do_ = .raw (.ref p) ∧ DRecv X m0 p ∧ EC X x es m0 a fun dk m1 => EC X x es m1 b fun df m2 => ∃ (j : Nat) (kvs : List (NestedKey × D)) (kk : NestedKey), DOk m2 j p kvs ∧ dk.key = some kk ∧ isTup kk ∧ kk.depth ≤ 8 ∧ kvs.length ≤ 100000 ∧
      (∀ d, dGet kvs kk = some d → k d m2) ∧ (dGet kvs kk = none → k df (m2.set j (p, .dct (dPut kvs kk df))))) (mm : M2 X o "setdefault" apos a b pos := by exact ⟨rfl, rfl, rfl, rfl⟩) : EC X x es m (.Call (.Attribute o "setdefault" apos) [a, b] [] pos) k := by
  intro G σ H Q w st q pins s I
  refine wpAny_Call_method mm.base mm.few mm.line PySem.F.plainAttrs_dict PySem.F.slot_dict_setdefault PySem.F.type_dict_setdefault (thn (h.run w st I) fun u s0 ⟨v0, H0, I0, r0, d0, m0, G0, ⟨p, hdo, rc, k0⟩, e0, h0, p0⟩ => ?_)
  subst hdo
  cases p0
  cases r0
  obtain ⟨t1, t2⟩ := rc.at h0 I0
  refine ⟨t1, t2, ?_⟩
  rw [mm.trees]
  refine Calls.callWith_builtin rfl (Calls.evalArgs_plain (Calls.spliced_cons (thn (k0.run (w.mono e0) (st.mono e0 h0) I0) fun iv s1 ⟨v1, H1, I1, r1, d1, m1, G1, k1, e1, h1, p1⟩ => Calls.spliced_cons (thn (k1.run (w.mono (e0.trans e1)) (st.mono (e0.trans e1) h1) I1)
    fun fv s2 ⟨v2, H2, I2, r2, d2, m2, G2, ⟨j, kvs, kk, dk, hk, ht, hd, hz, z1, z2⟩, e2, h2, p2⟩ => Calls.spliced_nil ?_))))
  obtain ⟨xs, hH, kv, hn, hdp⟩ := (h2.get dk.at_).2
  obtain ⟨hl, hsys, ys, xy, hm⟩ := dct_h I2 h2.ex (.inl hH) kv hn hdp dk.tup
  have kr := (Rp.key d1 v1 kk hk p1).mono e2
  obtain ⟨b, rfl, rfl⟩ := ref_key ht kr r1
  have hxl : xs.length ≤ 100000 := by rw [← kv.len]; exact hz
  have hyl := XY.len xy
  have e02 := (e0.trans e1).trans e2
  obtain ⟨g1, g2⟩ := kv.get kk
  have xv := xy.get kk
  refine call_setdefault_heap (knd := knd X) (show X.A.units + 1 + 8 < cLine by omega) ⟨KeyR.is I2 h2.ex kk _ _ kr rfl, hd⟩ hsys hm (fun y hy => ?_) (fun hy h' hm' sb => ?_) (by rw [← hyl]; exact hl)
  · rw [hy] at xv
    cases hg : dGet kvs kk with
    | none => rw [g1 hg] at xv; exact xv.elim
    | some d =>
      obtain ⟨v, hv, rv⟩ := g2 d hg
      rw [hv] at xv
      exact ⟨v, H2, I2.tok _, xv, (q.mono e02).now h2 (z1 d hg) rv⟩
  · rw [hy] at xv
    have hg : dGet kvs kk = none := by
      cases hg : dGet kvs kk with
      | none => rfl
      | some d =>
        obtain ⟨v, hv, rv⟩ := g2 d hg
        rw [hv] at xv
        exact xv.elim
    refine ⟨v2, _, dct_put I2 hH (Nat.le_trans xPut_len (Nat.le_trans (Nat.succ_le_succ hxl) (by decide))) hsys xy r2 hm' sb, r2, ?_⟩
    exact q v2 d2 _ G2 _ (z2 hg) e02 (h2.dput dk.at_ kv hn hdp hd kr p2) p2
end
end SG
set_option maxHeartbeats 4000000
/-! SgOp: operators, calls of builtins, methods, on data. -/
namespace SG
open PySem PySem.Spec PyProof.Rows L2
/-! ### lists that may change or not -/
def LstD (m : M) (d : D) (ds : List D) : Prop := d = .lst ds ∨ ∃ (p : Addr) (j : Nat), d = .raw (.ref p) ∧ m[j]? = some (p, MO.lst ds)
def SeqD (m : M) (d : D) (ds : List D) : Prop := LstD m d ds ∨ d = .tup ds
theorem LstD.imm (m : M) (ds : List D) : LstD m (.lst ds) ds := .inl rfl
section
variable {K : PySem.W.Frag} {w : World} {G H : Hp} {m : M} {d e : D} {ds es : List D} {v : V}
theorem LstD.at (l : LstD m d ds) (hs : Hs K w G m H) (r : Rp K G d v) : ∃ p vs, v = .ref p ∧ H p = some (.lst vs) ∧ RpL K G ds vs := by
  rcases l with rfl | ⟨p, j, rfl, hm⟩
  · cases r with
    | lst hG r => exact ⟨_, _, rfl, hs.ex _ _ hG, r⟩
  · cases r
    obtain ⟨vs, hH, r⟩ := (hs.get hm).2
    exact ⟨p, vs, rfl, hH, r⟩
theorem SeqD.at (l : SeqD m d ds) (hs : Hs K w G m H) (r : Rp K G d v) : ∃ p vs, v = .ref p ∧ (SqL K H p vs ∨ SqT K H p vs) ∧ RpL K G ds vs := by
  rcases l with l | rfl
  · obtain ⟨p, vs, e, h, r⟩ := l.at hs r
    exact ⟨p, vs, e, .inl (SqL.of h), r⟩
  · cases r with
    | tup hG r => exact ⟨_, _, rfl, .inr (same_t hs.ex hG), r⟩
end
def lim : Nat := 100000
section
variable {X : Cx} {x : XD} {es : Es} {m : M} {a b c e o : Expr} {as : List Expr} {k : KD} {kt : Bool → M → Prop} {pos apos p2 : Pos} {da db d : D} {ds ds' : List D} {i j : Int}
/-! ### whole numbers -/
theorem oc_add (hk : k (.int (i + j)) m) : OC X (binaryOp .Add) m (.int i) (.int j) k := OC.of op_add fun G H va vb Q hs ra rb q => by
  cases ra; cases rb
  exact ⟨_, _, rfl, rfl, q.now hs hk (.int _)⟩
theorem oc_sub (hk : k (.int (i - j)) m) : OC X (binaryOp .Sub) m (.int i) (.int j) k := OC.of op_sub fun G H va vb Q hs ra rb q => by
  cases ra; cases rb
  exact ⟨_, _, rfl, rfl, q.now hs hk (.int _)⟩
theorem oc_mul (hc : CMul i j) (hk : k (.int (i * j)) m) : OC X (binaryOp .Mult) m (.int i) (.int j) k := OC.of op_mul fun G H va vb Q hs ra rb q => by
  cases ra; cases rb
  exact ⟨_, _, rfl, rfl, hc, q.now hs hk (.int _)⟩
theorem oc_fdiv (hc : CDiv i j) (hk : k (.int (i / j)) m) : OC X (binaryOp .FloorDiv) m (.int i) (.int j) k := OC.of op_fdiv fun G H va vb Q hs ra rb q => by
  cases ra; cases rb
  exact ⟨_, _, rfl, rfl, hc, q.now hs hk (.int _)⟩
theorem oc_mod (hc : 0 < j) (hk : k (.int (i % j)) m) : OC X (binaryOp .Mod) m (.int i) (.int j) k := OC.of op_mod fun G H va vb Q hs ra rb q => by
  cases ra; cases rb
  exact ⟨_, _, rfl, rfl, hc, q.now hs hk (.int _)⟩
theorem oc_pow (hc : CPow i j) (hk : k (.int (i ^ j.toNat)) m) : OC X (binaryOp .Pow) m (.int i) (.int j) k := OC.of op_pow fun G H va vb Q hs ra rb q => by
  cases ra; cases rb
  exact ⟨_, _, rfl, rfl, hc, q.now hs hk (.int _)⟩
theorem oc_lt (hk : k (.bl (decide (i < j))) m) : OC X (compareOp .Lt) m (.int i) (.int j) k := OC.of op_lt fun G H va vb Q hs ra rb q => by
  cases ra; cases rb
  exact ⟨_, _, rfl, rfl, q.now hs hk (.bl _)⟩
theorem oc_le (hk : k (.bl (decide (i ≤ j))) m) : OC X (compareOp .LtE) m (.int i) (.int j) k := OC.of op_le fun G H va vb Q hs ra rb q => by
  cases ra; cases rb
  exact ⟨_, _, rfl, rfl, q.now hs hk (.bl _)⟩
theorem oc_gt (hk : k (.bl (decide (j < i))) m) : OC X (compareOp .Gt) m (.int i) (.int j) k := OC.of op_gt fun G H va vb Q hs ra rb q => by
  cases ra; cases rb
  exact ⟨_, _, rfl, rfl, q.now hs hk (.bl _)⟩
theorem oc_ge (hk : k (.bl (decide (j ≤ i))) m) : OC X (compareOp .GtE) m (.int i) (.int j) k := OC.of op_ge fun G H va vb Q hs ra rb q => by
  cases ra; cases rb
  exact ⟨_, _, rfl, rfl, q.now hs hk (.bl _)⟩
theorem uc_neg (hk : k (.int (-i)) m) : UC X (unaryOp .USub) m (.int i) k := UC.of un_neg fun G H v Q hs r q => by
  cases r
  exact ⟨_, rfl, q.now hs hk (.int _)⟩
/-! ### texts, lists -/
theorem oc_cats {s t : Str} (hz : s.length + t.length ≤ lim) (hk : k (.str (s ++ t)) m) : OC X (binaryOp .Add) m (.str s) (.str t) k := OC.of op_add_str fun G H va vb Q hs ra rb q => by
  cases ra; cases rb
  exact ⟨_, _, rfl, rfl, Nat.le_trans hz (by decide), q.now hs hk (.str _)⟩
theorem oc_cat (la : LstD m da ds) (lb : LstD m db ds') (hz : ds.length + ds'.length ≤ lim) (hk : k (.lst (ds ++ ds')) m) : OC X (binaryOp .Add) m da db k := OC.of op_cat fun G H va vb Q hs ra rb q => by
  obtain ⟨p, vs, rfl, h1, r1⟩ := la.at hs ra
  obtain ⟨p', vs', rfl, h2, r2⟩ := lb.at hs rb
  refine ⟨p, p', vs, vs', rfl, rfl, h1, h2, ?_, q.lst hs hk (r1.app r2)⟩
  rw [← r1.len, ← r2.len]
  exact Nat.le_trans hz (by decide)
/-- a + b, as a list that may change -/
theorem oc_catM (la : LstD m da ds) (lb : LstD m db ds') (hz : ds.length + ds'.length ≤ lim) (hk : ∀ p, k (.raw (.ref p)) ((p, .lst (ds ++ ds')) :: m)) : OC X (binaryOp .Add) m da db k := OC.of op_cat fun G H va vb Q hs ra rb q => by
  obtain ⟨p, vs, rfl, h1, r1⟩ := la.at hs ra
  obtain ⟨p', vs', rfl, h2, r2⟩ := lb.at hs rb
  refine ⟨p, p', vs, vs', rfl, rfl, h1, h2, ?_, q.lstM hs hk (r1.app r2)⟩
  rw [← r1.len, ← r2.len]
  exact Nat.le_trans hz (by decide)
/-! ### ==, in -/
def D.sh (d : D) : Prop := d.pure = true ∧ SeqAt.shaped d.py = true
theorem oc_eq (hu : X.A.units + 64 < cLine) (ha : da.sh) (hb : db.sh) (hk : k (.bl (PyData.eqv da.py db.py)) m) : OC X (compareOp .Eq) m da db k := OC.of (op_eqD hu) fun G H va vb Q hs ra rb q =>
  ⟨da.py, db.py, ra.dp hs.ex _ _ ha.1, rb.dp hs.ex _ _ hb.1, ha.2, hb.2, q.now hs hk (.bl _)⟩
theorem oc_ne (hu : X.A.units + 64 < cLine) (ha : da.sh) (hb : db.sh) (hk : k (.bl (!PyData.eqv da.py db.py)) m) : OC X (compareOp .NotEq) m da db k := OC.of (op_neD hu) fun G H va vb Q hs ra rb q =>
  ⟨da.py, db.py, ra.dp hs.ex _ _ ha.1, rb.dp hs.ex _ _ hb.1, ha.2, hb.2, q.now hs hk (.bl _)⟩
theorem LstD.dp {G H : Hp} {v : V} (l : LstD m d ds) (hs : Hs X.K X.w G m H) (r : Rp X.K G d v) (hp : (D.lst ds).pure = true) : L2.Dp X.K H v (.list (D.pyL ds)) := by
  obtain ⟨p, vs, rfl, h, r⟩ := l.at hs r
  exact .lst (SqL.of h) (RpL.dp hs.ex _ _ hp r)
/-- == of lists that may change or not, and of tuples -/
theorem oc_eqL (hu : X.A.units + 64 < cLine) (la : LstD m da ds) (lb : LstD m db ds') (ha : (D.lst ds).sh) (hb : (D.lst ds').sh) (hk : k (.bl (PyData.eqv (D.lst ds).py (D.lst ds').py)) m) : OC X (compareOp .Eq) m da db k := OC.of (op_eqD hu) fun G H va vb Q hs ra rb q =>
  ⟨_, _, la.dp hs ra ha.1, lb.dp hs rb hb.1, ha.2, hb.2, q.now hs hk (.bl _)⟩
theorem oc_neL (hu : X.A.units + 64 < cLine) (la : LstD m da ds) (lb : LstD m db ds') (ha : (D.lst ds).sh) (hb : (D.lst ds').sh) (hk : k (.bl (!PyData.eqv (D.lst ds).py (D.lst ds').py)) m) : OC X (compareOp .NotEq) m da db k := OC.of (op_neD hu) fun G H va vb Q hs ra rb q =>
  ⟨_, _, la.dp hs ra ha.1, lb.dp hs rb hb.1, ha.2, hb.2, q.now hs hk (.bl _)⟩
theorem oc_in (hu : X.A.units + 65 < cLine) (lb : LstD m db ds) (ha : da.sh) (hb : (D.lst ds).sh) (hk : k (.bl ((D.pyL ds).any fun z => PyData.eqv z da.py)) m) : OC X (compareOp .In) m da db k := OC.of (op_inD hu) fun G H va vb Q hs ra rb q =>
  ⟨da.py, _, ra.dp hs.ex _ _ ha.1, lb.dp hs rb hb.1, ha.2, hb.2, q.now hs hk (.bl _)⟩
theorem oc_notin (hu : X.A.units + 65 < cLine) (lb : LstD m db ds) (ha : da.sh) (hb : (D.lst ds).sh) (hk : k (.bl (!(D.pyL ds).any fun z => PyData.eqv z da.py)) m) : OC X (compareOp .NotIn) m da db k := OC.of (op_notInD hu) fun G H va vb Q hs ra rb q =>
  ⟨da.py, _, ra.dp hs.ex _ _ ha.1, lb.dp hs rb hb.1, ha.2, hb.2, q.now hs hk (.bl _)⟩
theorem oc_notinS {n : Nat} {z : Str} (hk : k (.bl (!decide (n ∈ z.cps.toList))) m) : OC X (compareOp .NotIn) m (.str ⟨#[n]⟩) (.str z) k := OC.of op_notIn_sign fun G H va vb Q hs ra rb q => by
  cases ra; cases rb
  exact ⟨n, z, rfl, rfl, q.now hs hk (.bl _)⟩
def D.isNon : D → Option Bool
  | .non => some true
  | .raw _ => none
  | .scr _ => none
  | _ => some false
theorem isNon_of {K : PySem.W.Frag} {G : Hp} {v : V} {t : Bool} (h : d.isNon = some t) (r : Rp K G d v) : decide (v = .non) = t := by
  cases r <;> cases h <;> simp
theorem oc_is {t : Bool} (h : d.isNon = some t) (hk : k (.bl t) m) : OC X (compareOp .Is) m d .non k := OC.of op_isN fun G H va vb Q hs ra rb q => by
  cases rb
  refine ⟨rfl, ?_⟩
  rw [isNon_of h ra]
  exact q.now hs hk (.bl _)
theorem oc_isnot {t : Bool} (h : d.isNon = some t) (hk : k (.bl (!t)) m) : OC X (compareOp .IsNot) m d .non k := OC.of op_notN fun G H va vb Q hs ra rb q => by
  cases rb
  refine ⟨rfl, ?_⟩
  rw [isNon_of h ra]
  exact q.now hs hk (.bl _)
/-! ### builtins -/
theorem cc_lenS {z : Str} (hz : z.length ≤ lim) (hk : k (.int z.length) m) : CC X (.builtin "len") m [.str z] k := CC.of call_len fun G H vs Q hs r q => by
  cases r with
  | cons h t => cases t; cases h; exact ⟨_, z.length, rfl, ⟨Nat.le_trans hz (by decide), rfl⟩, q.now hs hk (.int _)⟩
theorem cc_len (l : SeqD m d ds) (hk : k (.int ds.length) m) : CC X (.builtin "len") m [d] k := CC.of call_len fun G H vs Q hs r q => by
  cases r with
  | cons h t =>
    cases t
    obtain ⟨p, vs, rfl, hq, r⟩ := l.at hs h
    refine ⟨_, vs.length, rfl, ?_, ?_⟩
    · rcases hq with hq | hq
      · exact .inl ⟨vs, hq, rfl⟩
      · exact .inr ⟨vs, hq, rfl⟩
    · rw [← r.len]
      exact q.now hs hk (.int _)
theorem cc_int (hk : k (.int i) m) : CC X (.type "int") m [.int i] k := CC.of call_int1 fun G H vs Q hs r q => by
  cases r with
  | cons h t => cases t; cases h; exact .inl ⟨i, rfl, q.now hs hk (.int _)⟩
theorem cc_intB {t : Bool} (hk : k (.int (if t then 1 else 0)) m) : CC X (.type "int") m [.bl t] k := CC.of call_int1 fun G H vs Q hs r q => by
  cases r with
  | cons h t => cases t; cases h; exact .inr ⟨_, rfl, q.now hs hk (.int _)⟩
theorem cc_list (l : SeqD m d ds) (hk : k (.lst ds) m) : CC X (.type "list") m [d] k := CC.of call_list_of fun G H vs Q hs r q => by
  cases r with
  | cons h t =>
    cases t
    obtain ⟨p, vs, rfl, hq, r⟩ := l.at hs h
    exact ⟨p, vs, rfl, hq, q.lst hs hk r⟩
theorem cc_listM (l : SeqD m d ds) (hk : ∀ p, k (.raw (.ref p)) ((p, .lst ds) :: m)) : CC X (.type "list") m [d] k := CC.of call_list_of fun G H vs Q hs r q => by
  cases r with
  | cons h t =>
    cases t
    obtain ⟨p, vs, rfl, hq, r⟩ := l.at hs h
    exact ⟨p, vs, rfl, hq, q.lstM hs hk r⟩
theorem cc_tuple (l : LstD m d ds) (hk : k (.tup ds) m) : CC X (.type "tuple") m [d] k := CC.of call_tuple_of fun G H vs Q hs r q => by
  cases r with
  | cons h t =>
    cases t
    obtain ⟨p, vs, rfl, hq, r⟩ := l.at hs h
    exact ⟨p, vs, rfl, .inl ⟨SqL.of hq, q.tup hs hk r⟩⟩
theorem cc_tupleT (hk : k (.tup ds) m) : CC X (.type "tuple") m [.tup ds] k := CC.of call_tuple_of fun G H vs Q hs r q => by
  cases r with
  | cons h t =>
    cases t
    cases h with
    | tup hG r => exact ⟨_, _, rfl, .inr ⟨same_t hs.ex hG, q.now hs hk (.tup hG r)⟩⟩
/-! ### methods of lists -/
def MC (X : Cx) (T id : String) (m : M) (d : D) (ds : List D) (k : KD) : Prop := ∀ (G H : Hp) (v : V) (vs : List V) (Q : VK), Hs X.K X.w G m H → Rp X.K G d v → RpL X.K G ds vs → Bk X G k Q →
  ∀ (pins : List (Addr × Obj)) (s : Shared) (σ : L2.St) (u : Value) (us : List Value), L2.Inv X pins σ H s → RelV v u → Vals vs us → wpAny (model X.prog X.w) X.A (call (.builtin id) (u :: us)) (EP X pins σ Q) X.xe s
def mR (X : Cx) (id : String) : V → List V → Hp → VK → Prop := fun v vs H Q => ∀ (pins : List (Addr × Obj)) (s : Shared) (σ : L2.St) (u : Value) (us : List Value), L2.Inv X pins σ H s → RelV v u → Vals vs us → wpAny (model X.prog X.w) X.A (call (.builtin id) (u :: us)) (EP X pins σ Q) X.xe s
theorem mt_R {id : String} : MtR X id (mR X id) := fun pins s σ H x xs v us Q I r rs h => h pins s σ v us I r rs
theorem MC.of {T id : String} {r : V → List V → Hp → VK → Prop} (p : MtR X id r) (h : ∀ (G H : Hp) (v : V) (vs : List V) (Q : VK), Hs X.K X.w G m H → Rp X.K G d v → RpL X.K G ds vs → Bk X G k Q → r v vs H Q) : MC X T id m d ds k :=
  fun G H v vs Q hs r1 r2 q pins s σ u us I ru rus => p pins s σ H v vs u us Q I ru rus (h G H v vs Q hs r1 r2 q)
def RecvD (T : String) (m : M) (d : D) : Prop := (T = "str" ∧ ∃ s, d = .str s) ∨ (T = "list" ∧ ∃ ds, LstD m d ds)
theorem RecvD.ty {T : String} {G H : Hp} {v : V} (l : RecvD T m d) (hs : Hs X.K X.w G m H) (r : Rp X.K G d v) : tyV X.K T v H := by
  rcases l with ⟨rfl, s, rfl⟩ | ⟨rfl, ds, l⟩
  · cases r
    rfl
  · obtain ⟨p, vs, rfl, h, r⟩ := l.at hs r
    exact .inl ⟨rfl, vs, SqL.of h⟩
theorem ec_m0 {T id : String} {name : Str} (pa : PlainAttrs T) (slot : Slot T name id) (hty : typeOf (.builtin id) = pure (.type "method_descriptor")) (h : EC X x es m o fun d m1 => RecvD T m1 d ∧ MC X T id m1 d [] k)
    (hbase : attributeBase o name X.env (eval o X.env) = eval o X.env := by rfl) (hline : (apos.endLine == pos.line) = true := by rfl) : EC X x es m (.Call (.Attribute o name apos) [] [] pos) k :=
  EC.of (pe_bm0 pa slot hty mt_R pe_R hbase hline) fun G σ H Q w st q => h G σ H _ w st fun v d m1 G1 H1 ⟨k1, k2⟩ e1 h1 r1 => ⟨k1.ty h1 r1, k2 G1 H1 v [] Q h1 r1 .nil (q.mono e1)⟩
theorem ec_m1 {T id : String} {name : Str} (pa : PlainAttrs T) (slot : Slot T name id) (hty : typeOf (.builtin id) = pure (.type "method_descriptor")) (h : EC X x es m o fun d m1 => RecvD T m1 d ∧ ECs X x es m1 (a :: as) fun ds m2 => MC X T id m2 d ds k)
    (hbase : attributeBase o name X.env (eval o X.env) = eval o X.env := by rfl)
    (hfew : ((backTo pos (starEach (a :: as) X.env)).all (fun x => !x.1) && (backToKw pos (keywordEach [] X.env)).all (fun x => x.1.isSome) && decide ((a :: as).length + ([] : List Keyword).length + (if ([] : List Keyword).isEmpty then 0 else 1) < 30)) = true := by rfl)
    (hline : (apos.endLine == pos.line) = true := by rfl) (hs : starEach (a :: as) X.env = (false, eval a X.env) :: starEach as X.env := by rfl) (hplain : (backTo pos (starEach as X.env)).any (·.1) = false := by rfl) : EC X x es m (.Call (.Attribute o name apos) (a :: as) [] pos) k :=
  EC.of (pe_bm pa slot hty mt_R pe_R pa_R hbase hfew hline hs hplain) fun G σ H Q w st q => h G σ H _ w st fun v d m1 G1 H1 ⟨k1, k2⟩ e1 h1 r1 =>
    ⟨k1.ty h1 r1, k2 G1 σ H1 _ (w.mono e1) (st.mono e1 h1) fun vs ds m2 G2 H2 z e2 h2 r2 => z G2 H2 v vs Q h2 (r1.mono e2) r2 ((q.mono e1).mono e2)⟩
theorem mc_append {p : Addr} {j : Nat} (hm : m[j]? = some (p, MO.lst ds)) (hz : ds.length ≤ lim) (hk : k .non (m.set j (p, .lst (ds ++ [d])))) : MC X "list" "list.append" m (.raw (.ref p)) [d] k := MC.of mt_append fun G H v vs Q hs r1 r2 q => by
  cases r1
  cases r2 with
  | cons h t =>
    cases t
    obtain ⟨ws, hH, r⟩ := (hs.get hm).2
    exact ⟨p, ws, _, rfl, rfl, hH, Nat.lt_of_le_of_lt (by rw [← r.len]; exact hz) (by decide), q _ _ _ _ _ hk (Same.refl G) (hs.write hm ⟨_, upd_same, r.app (.one h)⟩) .non⟩
theorem mc_extend {p : Addr} {j : Nat} (hm : m[j]? = some (p, MO.lst ds)) (l : LstD m d ds') (hz : ds.length + ds'.length ≤ lim) (hk : k .non (m.set j (p, .lst (ds ++ ds')))) : MC X "list" "list.extend" m (.raw (.ref p)) [d] k := MC.of mt_extend fun G H v vs Q hs r1 r2 q => by
  cases r1
  cases r2 with
  | cons h t =>
    cases t
    obtain ⟨ws, hH, r⟩ := (hs.get hm).2
    obtain ⟨p', ws', rfl, hH', r'⟩ := l.at hs h
    exact ⟨p, p', ws, ws', rfl, rfl, hH, hH', by rw [← r.len, ← r'.len]; exact Nat.le_trans hz (by decide), q _ _ _ _ _ hk (Same.refl G) (hs.write hm ⟨_, upd_same, r.app r'⟩) .non⟩
theorem mc_pop {p : Addr} {j : Nat} (hm : m[j]? = some (p, MO.lst (ds ++ [d]))) (hk : k d (m.set j (p, .lst ds))) : MC X "list" "list.pop" m (.raw (.ref p)) [] k := MC.of mt_pop fun G H v vs Q hs r1 r2 q => by
  cases r1
  cases r2
  obtain ⟨ws, hH, r⟩ := (hs.get hm).2
  have hl := r.len
  rw [List.length_append, List.length_singleton] at hl
  obtain ⟨y, hy, ry⟩ := r.get (i := ds.length) (d := d) (by simp)
  refine ⟨p, ws, y, rfl, rfl, hH, by rw [← hl]; exact hy, q _ _ _ _ _ hk (Same.refl G) (hs.write hm ⟨_, upd_same, ?_⟩) ry⟩
  have := r.dropLast
  rw [List.dropLast_concat] at this
  exact this
theorem mc_index (hu : X.A.units + 65 < cLine) (l : LstD m da ds) (hl : (D.lst ds).sh) (hd : d.sh) (n : Nat) (z : PyData) (h1 : (D.pyL ds)[n]? = some z) (h2 : PyData.eqv z d.py = true) (h3 : ∀ (i : Nat) (z' : PyData), i < n → (D.pyL ds)[i]? = some z' → PyData.eqv z' d.py = false) (hk : k (.int (n : Int)) m) :
    MC X "list" "list.index" m da [d] k := MC.of (mt_indexD hu) fun G H v vs Q hs r1 r2 q => by
  cases r2 with
  | cons h t =>
    cases t
    have dp := l.dp hs r1 hl.1
    obtain ⟨p, ws, rfl, _, _⟩ := l.at hs r1
    exact ⟨p, _, d.py, _, n, z, rfl, rfl, dp, h.dp hs.ex _ _ hd.1, hl.2, hd.2, h1, h2, h3, q.now hs hk (.int _)⟩
theorem mc_join {s : Str} {ss : List Str} (l : LstD m d (ss.map D.str)) (hz : (ss.map (·.length)).sum + ss.length * s.length ≤ 16777216) (hk : k (.str (Txt.join s ss)) m) : MC X "str" "str.join" m (.str s) [d] k := MC.of mt_join fun G H v vs Q hs r1 r2 q => by
  cases r1
  cases r2 with
  | cons h t =>
    cases t
    obtain ⟨p, ws, rfl, hH, r⟩ := l.at hs h
    rw [r.strs] at hH
    exact ⟨s, p, ss, rfl, rfl, .inl (SqL.of hH), hz, q.now hs hk (.str _)⟩
/-- o[i] = e, o a list -/
theorem ss_lput {E : DE} (h : EC X x es m e fun d m0 => EC X x es m0 o fun do_ m1 => EC X x es m1 a fun di m2 => ∃ (p : Addr) (j : Nat) (ds : List D) (i : Int) (n : Nat), do_ = .raw (.ref p) ∧ m2[j]? = some (p, MO.lst ds) ∧ di = .int i ∧ ixN ds.length i = some n ∧ E.nx es (m2.set j (p, .lst (ds.set n d))))
    (hsw : swapsWithSole [.Subscript o a apos] e pos.line X.env = pure false := by rfl) (hw : swappedStores [.Subscript o a apos] e X.env = pure none := by rfl)
    (ha : ∀ v, assign (.Subscript o a apos) X.env v = (do
      let ov ← holding [v] (eval o X.env)
      let iv ← holding [v, ov] (eval a X.env)
      standAt apos
      holding [v, ov, iv] (setItem ov iv v)
      release [v, ov, iv] []) := by intro _; rfl) : SS X x es m (.Assign [.Subscript o a apos] e pos) E :=
  SS.of (ps_asg pe_R (pg_sub pe_R pe_R set_list ha) hsw hw) fun G σ H Dn w st hl re => h G σ H _ w st fun v d m0 G0 H0 k0 e0 h0 r0 => k0 G0 σ H0 _ (w.mono e0) (st.mono e0 h0) fun vo do_ m1 G1 H1 k1 e1 h1 r1 =>
    k1 G1 σ H1 _ (w.mono (e0.trans e1)) (st.mono (e0.trans e1) h1) fun vi di m2 G2 H2 k2 e2 h2 r2 => by
      obtain ⟨p, j, ds, i, n, rfl, hm, rfl, hn, z⟩ := k2
      cases r1; cases r2
      obtain ⟨ws, hH, r⟩ := (h2.get hm).2
      refine ⟨p, ws, i, n, rfl, rfl, hH, by rw [← r.len]; exact hn, ?_⟩
      have h3 := h2.write (o' := .lst (ds.set n d)) (u := .lst (ws.set n v)) hm ⟨_, upd_same, r.set (r0.mono (e1.trans e2)) n⟩
      exact re.nx es _ G2 σ _ z ((e0.trans e1).trans e2) (st.mono ((e0.trans e1).trans e2) h3) hl
end
end SG
set_option maxHeartbeats 4000000
/-! SgOp2: slices, starred displays, sum, min, sorted, <, isinstance. -/
namespace SG
open PySem PySem.Spec PyProof.Rows L2
section
variable {X : Cx} {x : XD} {es : Es} {m : M} {a b c e o : Expr} {as : List Expr} {k : KD} {kl : List D → M → Prop} {kt : Bool → M → Prop} {pos apos p2 : Pos} {da db d : D} {ds ds' : List D} {i j : Int}
/-! ### slices -/
def sR (X : Cx) : V → Option Int → Option Int → Hp → VK → Prop := fun x lo hi H Q => ∀ (pins : List (Addr × Obj)) (s : Shared) (σ : L2.St) (v vl vu : Value) (sl : Addr), L2.Inv X pins σ H s → RelV x v → s.heap.IsSliceOf sl vl vu .none → IsPart vl lo → IsPart vu hi →
  ∃ T id, typeLookup (.type T) "__getitem__" = pure (some (.builtin id)) ∧ s.TypeIs v T ∧ wpAny (model X.prog X.w) X.A (getItem v (.ref sl)) (EP X pins σ Q) X.xe s
theorem sl_R : SlR X (sR X) := fun pins s σ H x v vl vu lo hi sl Q I rx hs pl pu h => h pins s σ v vl vu sl I rx hs pl pu
def LC (X : Cx) (m : M) (d : D) (lo hi : Option Int) (k : KD) : Prop := ∀ (G H : Hp) (v : V) (Q : VK), Hs X.K X.w G m H → Rp X.K G d v → Bk X G k Q → sR X v lo hi H Q
def EO (X : Cx) (x : XD) (es : Es) (m : M) : Option Expr → (Option Int → M → Prop) → Prop
  | none, k => k none m
  | some e, k => EC X x es m e fun d m1 => ∃ i, d = .int i ∧ k (some i) m1
def tOO (X : Cx) : Option Expr → TO
  | none => tNoPart
  | some e => tPart (tR X e)
theorem po_R : ∀ o : Option Expr, PO X o (tOO X o)
  | none => po_none
  | some e => po_some pe_R
theorem EO.run {G H : Hp} {σ : L2.St} {lo : Option Expr} {k : Option Int → M → Prop} {Q : Option Int → Hp → Prop} (h : EO X x es m lo k) (w : Wish X x G) (st : ST X G m σ H es) (q : ∀ i m1 G1 H1, k i m1 → Same G G1 → Hs X.K X.w G1 m1 H1 → Q i H1) : tOO X lo σ H Q := by
  cases lo with
  | none => exact q none m G H h (Same.refl G) st.hs
  | some e =>
    refine h G σ H _ w st fun v d m1 G1 H1 k1 e1 h1 r1 => ?_
    obtain ⟨i, rfl, z⟩ := k1
    cases r1
    exact ⟨i, rfl, q _ m1 G1 H1 z e1 h1⟩
theorem ec_sl {lo hi : Option Expr} (h : EC X x es m a fun d m1 => EO X x es m1 lo fun l m2 => EO X x es m2 hi fun u m3 => LC X m3 d l u k) : EC X x es m (.Subscript a (.Slice lo hi none p2) pos) k :=
  EC.of (pe_slice sl_R pe_R (po_R lo) (po_R hi)) fun G σ H Q w st q => h G σ H _ w st fun v d m1 G1 H1 k1 e1 h1 r1 => k1.run (w.mono e1) (st.mono e1 h1) fun l m2 G2 H2 k2 e2 h2 =>
    k2.run (w.mono (e1.trans e2)) (st.mono (e1.trans e2) h2) fun u m3 G3 H3 k3 e3 h3 => k3 G3 H3 v Q h3 (r1.mono (e2.trans e3)) (((q.mono e1).mono e2).mono e3)
def cutD (ds : List D) (lo hi : Option Int) : List D := (ds.drop (HT.sIx ds.length 0 lo)).take (HT.sIx ds.length ds.length hi - HT.sIx ds.length 0 lo)
theorem RpL.cut {K : PySem.W.Frag} {G : Hp} {vs : List V} (r : RpL K G ds vs) (lo hi : Option Int) : RpL K G (cutD ds lo hi) (cutV vs lo hi) := by
  unfold cutD cutV
  rw [r.len]
  exact (r.drop _).take _
theorem lc_list {lo hi : Option Int} (l : LstD m d ds) (hk : k (.lst (cutD ds lo hi)) m) : LC X m d lo hi k := fun G H v Q hs r q pins s σ v' vl vu sl I rv hs' pl pu => by
  obtain ⟨p, vs, rfl, hH, r⟩ := l.at hs r
  exact sl_list pins s σ H _ v' vl vu lo hi sl Q I rv hs' pl pu ⟨p, vs, rfl, SqL.of hH, q.lst hs hk (r.cut lo hi)⟩
theorem lc_listM {lo hi : Option Int} (l : LstD m d ds) (hk : ∀ p, k (.raw (.ref p)) ((p, .lst (cutD ds lo hi)) :: m)) : LC X m d lo hi k := fun G H v Q hs r q pins s σ v' vl vu sl I rv hs' pl pu => by
  obtain ⟨p, vs, rfl, hH, r⟩ := l.at hs r
  exact sl_list pins s σ H _ v' vl vu lo hi sl Q I rv hs' pl pu ⟨p, vs, rfl, SqL.of hH, q.lstM hs hk (r.cut lo hi)⟩
theorem lc_str {lo hi : Option Int} {z : Str} (hz : z.length ≤ lim) (hk : k (.str (cutS z lo hi)) m) : LC X m (.str z) lo hi k := fun G H v Q hs r q pins s σ v' vl vu sl I rv hs' pl pu => by
  cases r
  exact sl_str pins s σ H _ v' vl vu lo hi sl Q I rv hs' pl pu ⟨z, rfl, Nat.le_trans hz (by decide), q.now hs hk (.str _)⟩
/-! ### starred -/
theorem ecs_star {p : Pos} (h : EC X x es m e fun d m1 => ∃ ds, SeqD m1 d ds ∧ ECs X x es m1 as fun ds' m2 => kl (ds ++ ds') m2) (hs : starEach (.Starred e p :: as) X.env = (true, eval e X.env) :: starEach as X.env := by rfl) : ECs X x es m (.Starred e p :: as) kl := by
  intro G σ H Q w st q pos pins s I
  refine (StX.pa_star pe_R pa_R hs).run pos pins s σ H Q I ?_
  refine h G σ H _ w st fun v d m1 G1 H1 ⟨ds, sd, k1⟩ e1 h1 r1 => ?_
  obtain ⟨p, vs, rfl, hq, r⟩ := sd.at h1 r1
  refine ⟨p, vs, rfl, hq.symm, k1 G1 σ H1 _ (w.mono e1) (st.mono e1 h1) fun vs' ds' m2 G2 H2 k2 e2 h2 r2 => ?_⟩
  exact q _ _ m2 G2 H2 k2 (e1.trans e2) h2 ((r.mono e2).app r2)
/-! ### sum, min, sorted -/
theorem cc_sumT (hh : X.A.handled = none) {ns : List Int} (hk : k (.int ns.sum) m) : CC X (.builtin "sum") m [.tup (ns.map D.int)] k := by
  intro G H vs Q hs r q pins s σ us I ru
  cases r with
  | cons h t =>
    cases t
    cases h with
    | tup hG r =>
      rw [r.ints] at hG
      obtain ⟨its, rv, ht, _⟩ := I.tuple (same_t hs.ex hG)
      obtain ⟨u, rfl, rx⟩ := ru.one
      cases rx
      obtain ⟨xs, e⟩ := rv.ints.allInts.items
      have hn : numsOf (intItems xs).toList = ns := by rw [← e]; exact rv.ints.numsOf
      rw [nums_intItems] at hn
      rw [e] at ht
      refine PySem.W.ktm_sumG hh ht fun h' tk t' hk' => ⟨.int _, H, I.kept hk', ⟨_, rfl⟩, ?_⟩
      rw [preSum_eq, List.take_of_length_le (by simp), hn]
      exact q.now hs hk (.int _)
theorem pyL_map (ds : List D) : D.pyL ds = ds.map D.py := by
  induction ds with
  | nil => rfl
  | cons d ds ih => show D.py d :: D.pyL ds = _; rw [ih]; rfl
theorem pureL_all {ds : List D} (h : D.pureL ds = true) : ∀ d ∈ ds, d.pure = true := by
  induction ds with
  | nil => intro d hd; cases hd
  | cons e ds ih =>
    simp only [D.pureL, Bool.and_eq_true] at h
    intro d hd
    rcases List.mem_cons.mp hd with rfl | hd
    · exact h.1
    · exact ih h.2 d hd
theorem each_of {K : PySem.W.Frag} {G : Hp} {pins : List (Addr × Obj)} {σ : L2.St} {H : Hp} {s : Shared} (I : L2.Inv X pins σ H s) (e : Same G H) : ∀ {ds : List D} {vs : List V} {us : List Value}, D.pureL ds = true → RpL X.K G ds vs → Vals vs us →
    PySem.W.EachIs (fun u d => (∃ v, RelV v u ∧ Rp X.K G d v) ∧ ∃ as, Reads s.heap u d.py as) us ds
  | [], _, _, _, .nil, .nil => .nil
  | d :: ds, _, _, hp, .cons h t, .cons r r' => by
    simp only [D.pureL, Bool.and_eq_true] at hp
    exact .cons ⟨⟨_, r, h⟩, Dp.reads I _ _ _ (h.dp e _ _ hp.1) r⟩ (each_of (K := K) I e hp.2 t r')
theorem each_back {K : PySem.W.Frag} {G : Hp} : ∀ {ds : List D} {us : List Value}, PySem.W.EachIs (fun u d => ∃ v, RelV v u ∧ Rp K G d v) us ds → ∃ vs, RpL K G ds vs ∧ Vals vs us
  | _, _, .nil => ⟨[], .nil, .nil⟩
  | _, _, .cons ⟨v, r, h⟩ t => by
    obtain ⟨vs, h1, h2⟩ := each_back t
    exact ⟨v :: vs, .cons h h1, .cons r h2⟩
theorem cc_sorted (hu : X.A.units + 67 < cLine) (l : LstD m d ds) (hp : (D.lst ds).pure = true) (hal : PySem.W.AllAlike (ds.map D.py)) (hk' : PySem.W.Sortable (ds.map D.py)) (hz : ds.length ≤ lim) (hdp : ∀ b ∈ ds, (D.py b).depth ≤ 64)
    (hk : k (.lst (ds.mergeSort (PySem.W.dataLe false D.py))) m) : CC X (.builtin "sorted") m [d] k := by
  intro G H vs Q hs r q pins s σ us I ru
  cases r with
  | cons h t =>
    cases t
    obtain ⟨p, vs, rfl, hH, r⟩ := l.at hs h
    obtain ⟨u, rfl, rx⟩ := ru.one
    cases rx
    obtain ⟨its, rv, hl, _⟩ := I.list (SqL.of hH)
    have ea := each_of (K := X.K) I hs.ex hp r rv
    refine PySem.W.sorted_data (R := fun u d => ∃ v, RelV v u ∧ Rp X.K G d v) (enc := D.py) hl.isList (ea.mono fun _ _ z => z.1) (ea.mono fun _ _ z => z.2) hal hk' (Nat.le_trans hz (by decide)) (fun b hb => by have := hdp b hb; omega) fun out ho eo => ?_
    obtain ⟨ws, r1, r2⟩ := each_back eo
    obtain ⟨ep, he'⟩ := PyProof.Rows.sortedAll_at s.heap its out.toArray
    have hlen : ws.length ≤ sizeLine := by
      rw [← r1.len, List.length_mergeSort]
      exact Nat.le_trans hz (by decide)
    exact ⟨.ref _, upd H (s.heap.objs.size + 1) (.lst ws), I.laid (t' := s.toks) (fun _ _ => PyProof.Rows.sortedAll_old) (Nat.le_succ _) (show ObjOk X.prog X.w _ _ _ (.lst ws) from ⟨hlen, out, ep, r2, he'⟩), rfl, q.lst hs hk r1 _ (I.hok.fresh (Nat.le_succ _))⟩
theorem reads_all {G : Hp} {pins : List (Addr × Obj)} {σ : L2.St} {H : Hp} {s : Shared} (I : L2.Inv X pins σ H s) (e : Same G H) : ∀ {ds : List D} {vs : List V} {us : List Value}, D.pureL ds = true → RpL X.K G ds vs → Vals vs us → ∃ as, ReadsAll s.heap us (D.pyL ds) as
  | [], _, _, _, .nil, .nil => ⟨_, .nil⟩
  | d :: ds, _, _, hp, .cons h t, .cons r r' => by
    simp only [D.pureL, Bool.and_eq_true] at hp
    obtain ⟨as, z1⟩ := Dp.reads I _ _ _ (h.dp e _ _ hp.1) r
    obtain ⟨bs, z2⟩ := reads_all I e hp.2 t r'
    exact ⟨_, .cons z1 z2⟩
theorem vals_back {vs : List V} {us : List Value} (h : Vals vs us) : ∀ {i : Nat} {u : Value}, us[i]? = some u → ∃ v, vs[i]? = some v ∧ RelV v u := by
  induction h with
  | nil => intro i u e; simp at e
  | cons r t ih =>
    intro i u e
    cases i with
    | zero => simp at e; subst e; exact ⟨_, rfl, r⟩
    | succ i =>
      obtain ⟨v, h1, h2⟩ := ih (by simpa using e)
      exact ⟨v, by simpa using h1, h2⟩
theorem minD_mem (x : PyData) : ∀ xs : List PyData, PySem.W.minD x xs ∈ x :: xs := by
  intro xs
  unfold PySem.W.minD
  induction xs generalizing x with
  | nil => exact List.mem_cons_self
  | cons y ys ih =>
    rw [List.foldl_cons]
    have := ih (if PySem.W.dataLt y x then y else x)
    rcases List.mem_cons.mp this with e | e
    · rw [e]
      split <;> simp
    · exact List.mem_cons_of_mem _ (List.mem_cons_of_mem _ e)
theorem cc_min (hh : X.A.handled = none) (hu : X.A.units + 67 < cLine) {d0 : D} (l : LstD m d (d0 :: ds)) (hp : (D.lst (d0 :: ds)).pure = true) (hal : PySem.W.AlikeAll (D.pyL (d0 :: ds))) (hdp : PyData.depthAll (D.pyL (d0 :: ds)) ≤ 64)
    (hk : ∀ d' ∈ d0 :: ds, d'.py = PySem.W.minD d0.py (D.pyL ds) → k d' m) : CC X (.builtin "min") m [d] k := by
  intro G H vs Q hs r q pins s σ us I ru
  cases r with
  | cons h t =>
    cases t
    obtain ⟨p, vs, rfl, hH, r⟩ := l.at hs h
    obtain ⟨u, rfl, rx⟩ := ru.one
    cases rx
    obtain ⟨its, rv, hl, _⟩ := I.list (SqL.of hH)
    obtain ⟨as, ra⟩ := reads_all I hs.ex hp r rv
    refine PySem.W.min_list_data (x := d0.py) (xs := D.pyL ds) hh hl.isList ra hal (by show X.A.units + 1 + PyData.depthAll (D.pyL (d0 :: ds)) < cLine; omega) fun i v h' tk bs hv rd hk' => ?_
    have hv : its[i]? = some v := by simpa using hv
    obtain ⟨v0, hv0, rv0⟩ := vals_back rv hv
    obtain ⟨d', hd', rd'⟩ := r.get' hv0
    have hm' := List.mem_of_getElem? hd'
    obtain ⟨as', rs⟩ := Dp.reads I _ _ _ (rd'.dp hs.ex _ _ (pureL_all hp d' hm')) rv0
    have e1 : d'.py = PySem.W.minD d0.py (D.pyL ds) := by
      obtain ⟨cs, rs'⟩ := Dp.reads (I.kept (t' := tk) hk') _ _ _ (rd'.dp hs.ex _ _ (pureL_all hp d' hm')) rv0
      refine PySem.W.alike_unique _ _ _ _ _ (hal.1 _ ?_ _ (minD_mem _ _)) rs' rd
      rw [pyL_map]
      exact List.mem_map.mpr ⟨d', hm', rfl⟩
    exact ⟨v0, H, I.kept hk', rv0, q.now hs (hk d' hm' e1) rd'⟩
theorem oc_ltD (hu : X.A.units + 64 < cLine) (ha : da.sh) (hb : db.sh) (hal : PySem.W.alike da.py db.py = true) (hn : da.py ≠ .none) (hk : k (.bl (PySem.W.dataLt da.py db.py)) m) : OC X (compareOp .Lt) m da db k := by
  intro G H va vb Q hs ra rb q pins s σ u v I r1 r2
  obtain ⟨as, z1⟩ := Dp.reads I _ _ _ (ra.dp hs.ex _ _ ha.1) r1
  obtain ⟨bs, z2⟩ := Dp.reads I _ _ _ (rb.dp hs.ex _ _ hb.1) r2
  refine PySem.W.lt_data z1 z2 hal hn ?_ ⟨.bl _, H, I, rfl, q.now hs hk (.bl _)⟩
  have := SeqAt.depth_of_shaped ha.2
  have := Nat.min_le_left da.py.depth db.py.depth
  omega
end
end SG
set_option maxHeartbeats 4000000
/-! SgOp3: isinstance, own ==, properties, constants of classes, f-strings. -/
namespace SG
open PySem PySem.Spec PyProof.Rows L2
section
variable {X : Cx} {x : XD} {es : Es} {m : M} {a b c e o : Expr} {as : List Expr} {k : KD} {kl : List D → M → Prop} {kt : Bool → M → Prop} {pos apos p2 : Pos} {da db d : D} {ds ds' : List D} {i j : Int} {n : Nat} {FS : FSpec}
/-! ### isinstance -/
/-- the class of the data, as the model says it -/
inductive DTy (K : PySem.W.Frag) (m : M) : D → Value → Prop
  | non : DTy K m .non (.type "NoneType")
  | bl (b : Bool) : DTy K m (.bl b) (.type "bool")
  | int (i : Int) : DTy K m (.int i) (.type "int")
  | str (s : Str) : DTy K m (.str s) (.type "str")
  | tup (ds : List D) : DTy K m (.tup ds) (.type "tuple")
  | lst {d : D} {ds : List D} : LstD m d ds → DTy K m d (.type "list")
  | ins (C : Addr) (fs : List (Str × D)) (cl : Cls K C) (ha : PySem.W.findIn K (.ref C) "__class__" = some (some (.builtin "object.__class__"))) (hn : PySem.W.specialIn K (.builtin "object.__class__") "__get__" = some (some (.builtin "getset_descriptor.__get__")))
      (htk : PySem.W.takesIn K (.builtin "object.__class__") = some true) (hm : PySem.W.mroIn K C (.type "object") = some true) : DTy K m (.ins C fs) (.ref C)
theorem DTy.at {t : Value} {G H : Hp} {v : V} (h : DTy X.K m d t) (hs : Hs X.K X.w G m H) (r : Rp X.K G d v) : TyX X.K H v t := by
  cases h with
  | non => cases r; exact .base .non
  | bl b => cases r; exact .base (.bl b)
  | int i => cases r; exact .base (.int i)
  | str s => cases r; exact .base (.str s)
  | tup ds =>
    cases r with
    | tup h r =>
      rcases same_t hs.ex h with (h | ⟨o, h⟩) | ⟨o, its, n, h1, h2, _⟩
      · exact .base (.tup h)
      · exact .fTuple h
      · exact .kTuple h1 h2
  | lst l =>
    obtain ⟨p, vs, rfl, h, _⟩ := l.at hs r
    exact .base (.lst h)
  | ins C fs cl ha hn htk hm =>
    cases r with
    | ins h r => exact .base (.ins (hs.ex _ _ h) cl ha hn htk hm)
theorem cc_isaB {t : Value} {T : String} {r : Bool} (h : DTy X.K m d t) (hr : PySem.W.kitOne X.K t (.type T) = some r) (hk : k (.bl r) m) : CC X (.builtin "isinstance") m [d, .raw (.ty T)] k := CC.of call_isi fun G H vs Q hs rr q => by
  cases rr with
  | cons h1 t1 => cases t1 with
    | cons h2 t2 =>
      cases t2
      cases h2
      exact ⟨_, _, t, _, r, rfl, .ty T, h.at hs h1, hr, q.now hs hk (.bl _)⟩
theorem cc_isaC {t : Value} {C : Addr} {r : Bool} (h : DTy X.K m d t) (hr : PySem.W.kitOne X.K t (.ref C) = some r) (hk : k (.bl r) m) : CC X (.builtin "isinstance") m [d, .raw (.ref C)] k := CC.of call_isi fun G H vs Q hs rr q => by
  cases rr with
  | cons h1 t1 => cases t1 with
    | cons h2 t2 =>
      cases t2
      cases h2
      exact ⟨_, _, t, _, r, rfl, .own C, h.at hs h1, hr, q.now hs hk (.bl _)⟩
/-! ### own == -/
theorem oc_own {C f : Addr} {fd : FuncData} {ps : List Str} {fs gs : List (Str × D)} (F : FnOk X.prog X.w X.K X.mg X.base (L2.CX X.prog X.w) n f fd ps (spD X.K X.w FS)) (hr : Room n X.A) (hsf : PySem.W.findIn X.K (.ref C) "__eq__" = some (some (.ref f))) (hf : PySem.W.isFn X.K (.ref f) = true) (hb : Binds X.K fd ps [])
    (h : FS [.ins C fs, .ins C gs] m (fun d m1 => ∃ t, d = .bl t ∧ k (.bl t) m1) noX) : OC X (compareOp .Eq) m (.ins C fs) (.ins C gs) k := by
  intro G H va vb Q hs ra rb q pins s σ v u I r1 r2
  cases ra with
  | @ins aa _ _ _ _ ha ra' =>
    cases rb with
    | @ins bb _ _ _ _ hb' rb' =>
      cases r1
      cases r2
      show wpAny (model X.prog X.w) X.A (richCompare .Eq _ _) _ _ _
      obtain ⟨mA, J, _⟩ := ins_get I.hok (hs.ex _ _ ha)
      obtain ⟨mB, J', _⟩ := ins_get I.hok (hs.ex _ _ hb')
      obtain ⟨od, J, _⟩ := J.look
      obtain ⟨od', J', _⟩ := J'.look
      obtain ⟨mm, hF⟩ := I.fr
      refine PySem.W.cmp_K (op := .Eq) (tb := .ref C) hr.units0 hF I.ok.mod.kin J J'.type (by simp [PySem.W.notFirst]) hsf hf ?_
      have hsp : spD X.K X.w FS [.ref aa, .ref bb] H (fun v H' => ∃ t, v = .bl t ∧ Q (.bl t) H') E0 := by
        refine ⟨G, m, _, _, noX, hs, .cons (.ins ha ra') (.cons (.ins hb' rb') .nil), h, fun v d m' G' H' k1 e1 h1 rr => ?_, fun _ _ _ _ _ _ _ z => z.elim⟩
        obtain ⟨t, rfl, z⟩ := k1
        cases rr
        exact ⟨t, rfl, q _ _ m' G' H' z e1 h1 (.bl t)⟩
      have hl := F.len _ _ _ _ hsp
      refine wpAny_call (codeAny_mono (F.run X.A X.stack s H ⟨[.ref aa, .ref bb], []⟩ [.ref aa, .ref bb] [.ref aa, .ref bb] _ _ hr I.env0 (by
        have := hb s [.ref aa, .ref bb] I.kIn (by simpa using hl)
        simpa using this) (.cons rfl (.cons rfl .nil)) hsp) fun r s' hq => ?_)
      cases r with
      | error e => exact passL pins σ H s e s' I hq
      | ok fl =>
        cases fl with
        | ret w =>
          obtain ⟨z, H', I', rz, t, ez, qq⟩ := I.after hq
          subst ez
          cases rz
          exact ⟨.bl t, H', I', rfl, qq⟩
        | next => exact False.elim hq
        | brk => exact False.elim hq
        | cont => exact False.elim hq
/-! ### properties -/
theorem ec_prop {C p g : Addr} {fd : FuncData} {ps : List Str} {f : Str} (c : Cls X.K C) (hp : PropOf X.K C f p g) (F : FnOk X.prog X.w X.K X.mg X.base (L2.CX X.prog X.w) n g fd ps (spD X.K X.w FS)) (hr : Room (n + 1) X.A) (hb : Binds X.K fd ps [])
    (h : EC X x es m o fun d m1 => ∃ fs, d = .ins C fs ∧ FS [d] m1 k noX) (hab : attributeBase o f X.env (eval o X.env) = eval o X.env := by rfl) : EC X x es m (.Attribute o f pos) k :=
  EC.of (pe_prop pe_R c hp F hr hb .nil passL hab) fun G σ H Q w st q => h G σ H _ w st fun v d m1 G1 H1 k1 e1 h1 r1 => by
    obtain ⟨fs, rfl, z⟩ := k1
    cases r1 with
    | ins hG r => exact ⟨_, _, _, rfl, h1.ex _ _ hG, G1, m1, _, k, noX, h1, .one (.ins hG r), z, q.mono e1, fun _ _ _ _ _ _ _ z => z.elim⟩
/-! ### constants of classes -/
theorem ec_cval {C : Addr} {mc u : Value} {f : Str} {v : V} (cr : ClX.CRead X.K C mc) (cv : ClX.CVal X.K C mc f v u) (hr : ∀ G, Rp X.K G d v) (h : EC X x es m o fun d' m1 => d' = .raw (.ref C) ∧ k d m1) (hb : attributeBase o f X.env (eval o X.env) = eval o X.env := by rfl) : EC X x es m (.Attribute o f pos) k :=
  EC.of (ClX.pe_cval pe_R hb) fun G σ H Q w st q => h G σ H _ w st fun v' d m1 G1 H1 k1 e1 h1 r1 => by
    obtain ⟨rfl, z⟩ := k1
    cases r1
    exact ⟨C, mc, v, u, rfl, cr, cv, (q.mono e1).now h1 z (hr _)⟩
theorem oc_notinT {s : Str} {ss : List Str} (hk : k (.bl (!decide (s ∈ ss))) m) : OC X (compareOp .NotIn) m (.str s) (.tup (ss.map D.str)) k := OC.of op_notIn_seq fun G H va vb Q hs ra rb q => by
  cases ra
  cases rb with
  | tup hG r =>
    rw [r.strs] at hG
    refine ⟨_, _, rfl, .inr (same_t hs.ex hG), rfl, ?_, ?_⟩
    · rw [List.all_map]
      exact List.all_eq_true.mpr fun _ _ => rfl
    · have e : inV (.str s) (ss.map V.str) = decide (s ∈ ss) := by
        unfold inV
        rw [List.any_map]
        by_cases h : s ∈ ss
        · rw [decide_eq_true h, List.any_eq_true]
          exact ⟨s, h, by simp [eqV]⟩
        · rw [decide_eq_false h, List.any_eq_false]
          intro t ht e
          have e : eqV (.str t) (.str s) = true := e
          have : t = s := by simpa [eqV] using e
          exact h (this ▸ ht)
      show Q (.bl (!inV (.str s) (ss.map V.str))) H
      rw [e]
      exact q.now hs hk (.bl _)
/-! ### f-strings -/
def EJ (X : Cx) (x : XD) (es : Es) : M → List Expr → Str → KD → Prop
  | m, [], acc, k => k (.str acc) m
  | m, e :: r, acc, k => EC X x es m e fun d m1 => ∃ s, d = .str s ∧ (acc ++ s).length ≤ lim ∧ EJ X x es m1 r (acc ++ s) k
theorem pj_R : ∀ es' : List Expr, PJ X es' (es'.map (tR X))
  | [] => .nil
  | _ :: r => .cons pe_R (pj_R r)
theorem EJ.run {σ : L2.St} : ∀ (r : List Expr) (acc : Str) (m : M) (G H : Hp) (Q : VK), EJ X x es m r acc k → Wish X x G → ST X G m σ H es → Bk X G k Q → tJs (r.map (tR X)) acc σ H fun out H1 => Q (.str out) H1
  | [], acc, m, G, H, Q, h, w, st, q => q.now st.hs h (.str acc)
  | e :: r, acc, m, G, H, Q, h, w, st, q => h G σ H _ w st fun v d m1 G1 H1 k1 e1 h1 r1 => by
    obtain ⟨s, rfl, hz, z⟩ := k1
    cases r1
    exact ⟨s, rfl, Nat.le_trans hz (by decide), EJ.run r (acc ++ s) m1 G1 H1 Q z (w.mono e1) (st.mono e1 h1) (q.mono e1)⟩
theorem ec_joined {v1 v2 : Expr} {rest : List Expr} (h : EJ X x es m (v1 :: v2 :: rest) Str.empty k) : EC X x es m (.JoinedStr (v1 :: v2 :: rest) pos) k := EC.of (pe_joined (pj_R _)) fun G σ H Q w st q => EJ.run _ _ m G H Q h w st q
theorem ec_fmtS (h : EC X x es m e fun d m1 => ∃ s, d = .str s ∧ s.length ≤ lim ∧ k (.str s) m1) : EC X x es m (.FormattedValue e (-1) none pos) k := EC.of (pe_fmt pe_R) fun G σ H Q w st q => h G σ H _ w st fun v d m1 G1 H1 k1 e1 h1 r1 => by
  obtain ⟨s, rfl, hz, z⟩ := k1
  cases r1
  exact .inl ⟨s, rfl, Nat.le_trans hz (by decide), (q.mono e1).now h1 z (.str s)⟩
end
end SG
set_option maxHeartbeats 4000000
/-! SgDc: {k: v for target in iter} whose keys are such tuples; as a value and as name = {..}. -/
namespace SG
open PySem PySem.Spec PyProof.Rows L2
/-- a store into the dict at D, inside the block -/
def dSetR (X : Cx) (scope : Scope) (D : Addr) (y z : V) (σ : L2.St) (H : Hp) (Nx : Hp → Prop) : Prop := Blk X scope fun Y => ∀ (pins : List (Addr × Obj)) (s : Shared) (u r : Value), L2.Inv Y pins σ H s → RelV y u → RelV z r → wpAny (model Y.prog Y.w) Y.A (dictSet D u r) (fun _ s' => ∃ H', L2.Inv Y pins σ H' s' ∧ Nx H') Y.xe s
def tDcN (X : Cx) (scope : Scope) (O0 : Addr → HO) (wi : TI) (g : TG) (tt : TT) (tk tv : TE) (vs : List Nat) : TE := fun σ H Q => wi σ H fun J H1 => ∀ D, H1 D = none → (D == sysModules) = false → ∃ W : Nat → Nat → Hp → Prop, (∃ m, W 0 m (upd H1 D (O0 D))) ∧ ∀ i m H, W i m H →
  (J.stop i H ∧ Q (.ref D) H) ∨ (J.go i H ∧ ∃ Nx : Hp → Prop, (∀ H', Nx H' → ∃ m', m' < m ∧ W (i + 1) m' H') ∧ ∀ x H', J.yld i H x H' → g x (wipe σ vs) H' fun σ2 H2 => wipe σ2 vs = wipe σ vs ∧ tt σ2 H2 fun b H3 =>
    if b = true then tk σ2 H3 fun y H4 => tv σ2 H4 fun z H5 => dSetR X scope D y z σ2 H5 Nx else Nx H3)
section
variable {X : Cx}
theorem dcn_core {pn : List (Addr × Obj)} {sh : Shared} {σ : L2.St} {H : Hp} {Q : VK} {kx vx tg itx : Expr} {ifs : List Expr} {scope : Scope} {own : List (Str × Nat)} {pos pos' : Pos} {O0 : Addr → HO} {wi : TI} {g : TG} {tt : TT} {tk tv : TE} {use : Option (Value → Sem Unit)} {Qf : Value → Shared → Prop}
    (hO : ∀ (H' : Hp) (h : Heap), sysModules < h.objs.size → ObjOk X.prog X.w H' (h.push { cls := .type "dict", data := .dict #[] }) h.objs.size (O0 h.objs.size)) (hc : X.calm = true) (hN : X.N.Nodup) (I : L2.Inv X pn σ H sh) (hi : PI X tg itx wi) (bo : BlkOk X.N X.env.scope scope own)
    (hg : Blk X scope fun Y => PG Y tg g) (ht : Blk X scope fun Y => PTs Y ifs tt) (hk : Blk X scope fun Y => PE Y kx tk) (he : Blk X scope fun Y => PE Y vx tv) (hs : ∀ x, foldedSetIterable itx X.env x = pure x)
    (h : tDcN X scope O0 wi g tt tk tv (own.map (·.2)) σ H Q)
    (hRR : ∀ D C s' m H', L2.Inv X pn σ H' s' → Q (.ref D) H' → s'.heap.Ns C m → FpOk X pn H' C → compPost (model X.prog X.w) X.A X.xe use Qf (.ref D) C (.ok .next) s') :
    wpAny (model X.prog X.w) X.A (comprehension (.DictComp kx vx [⟨tg, itx, ifs, 0⟩] scope pos) scope X.env pos' newDict false (eval itx X.env) use) Qf X.xe sh := by
  have fr0 : ∀ y ∈ scope.names, y.2 = .free → ∃ c, X.env.cells.lookup y.1 = some c := fun y hy e => (bo.free y hy e).elim (fun k => I.ok.has _ (.inl k)) fun k => I.ok.has _ (.inr k)
  refine wpAny_comprehension_free (use := use) rfl hs (closure_ok fr0) bo.kind (fun y hy e => by rw [bo.uniq y hy, e]) (thn (hi.run pn sh σ H _ I h) fun _ s1 hx => thn hx fun _ s2 ⟨it, fp, tn, J, H2, e, I2, T, st2, f2, q⟩ => ?_)
  subst e
  refine wpAny_newObj_type (newEnv_comp ?_)
  have big : (s2.heap.objs.size == sysModules) = false := beq_eq_false_iff_ne.mpr (Ne.symm (Nat.ne_of_lt I2.big))
  generalize hD : s2.heap.objs.size = D at big
  obtain ⟨W, ⟨m0, w0⟩, turn⟩ := q D (I2.hok.fresh (Nat.le_of_eq hD)) big
  generalize hs3 : ({ s2 with heap := s2.heap.push { cls := .type "dict", data := .dict #[] } } : Shared) = s3
  have h3 : s3.heap = s2.heap.push { cls := .type "dict", data := .dict #[] } := by rw [← hs3]
  have I3 : L2.Inv X pn σ (upd H2 D (O0 D)) s3 := by
    rw [← hs3]
    refine I2.laid (t' := s2.toks) (fun b o e => Heap.get?_push_of_some _ e) (Nat.le_of_eq hD) (by rw [← hD]; exact hO _ s2.heap I2.big)
  have lo : ∀ b ∈ fp, b < s2.heap.objs.size := fun b hb => (T.obj _ _ st2 b hb).elim fun o e => Heap.lt_size e.1
  have f3 : ∀ b ∈ fp, FpOk X pn (upd H2 D (O0 D)) b ∧ b < s3.heap.objs.size := fun b hb => ⟨⟨by rw [upd_ne (by rw [← hD]; exact Nat.ne_of_lt (lo b hb))]; exact (f2 b hb).1, (f2 b hb).2⟩, by rw [h3, Heap.size_push]; exact Nat.lt_succ_of_lt (lo b hb)⟩
  have st3 : tn 0 s3.heap := T.keep _ _ _ st2 fun b _ o e => by rw [h3]; exact Heap.get?_push_of_some _ e
  have I4 := block_start I3 bo hN f3
  have pg := hg s3 (upd H2 D (O0 D)) s3.heap.objs.size (cellsFrom (s3.heap.objs.size + 1) scope.names (cloFrom X.env.cells scope.names [])) fp
  have pt := ht s3 (upd H2 D (O0 D)) s3.heap.objs.size (cellsFrom (s3.heap.objs.size + 1) scope.names (cloFrom X.env.cells scope.names [])) fp
  have pk := hk s3 (upd H2 D (O0 D)) s3.heap.objs.size (cellsFrom (s3.heap.objs.size + 1) scope.names (cloFrom X.env.cells scope.names [])) fp
  have pv := he s3 (upd H2 D (O0 D)) s3.heap.objs.size (cellsFrom (s3.heap.objs.size + 1) scope.names (cloFrom X.env.cells scope.names [])) fp
  have sset : ∀ {y z : V} {σ' : L2.St} {H' : Hp} {Nx : Hp → Prop}, dSetR X scope D y z σ' H' Nx → _ := fun {y z σ' H' Nx} d => d s3 (upd H2 D (O0 D)) s3.heap.objs.size (cellsFrom (s3.heap.objs.size + 1) scope.names (cloFrom X.env.cells scope.names [])) fp
  show codeAny _ _ (.compStart (.DictComp kx vx [⟨tg, itx, ifs, 0⟩] scope pos) 0 (.ref it) (.ref D) (compEnvC scope (cellsFrom (s3.heap.objs.size + 1) scope.names (cloFrom X.env.cells scope.names [])) s3.heap.objs.size X.env)) (compPost (model X.prog X.w) X.A X.xe use Qf (.ref D) s3.heap.objs.size) { s3 with heap := pushCells (s3.heap.push { cls := .type "dict", data := .dict #[] }) scope.names }
  have nf : ∀ b ∈ fp, (upd H2 D (O0 D)) b = none := fun b hb => (f3 b hb).1.1
  generalize hce : compEnvC scope (cellsFrom (s3.heap.objs.size + 1) scope.names (cloFrom X.env.cells scope.names [])) s3.heap.objs.size X.env = ce at I4 pg pt pk pv sset ⊢
  have cL : ce.locals = s3.heap.objs.size := by subst hce; rfl
  generalize hH3 : upd H2 D (O0 D) = H3 at I3 I4 pg pt pk pv sset w0 nf f3
  generalize hs4 : ({ s3 with heap := pushCells (s3.heap.push { cls := .type "dict", data := .dict #[] }) scope.names } : Shared) = s4 at I4 ⊢
  have st4 : tn 0 s4.heap := T.keep _ _ _ st3 fun b _ o e => by rw [← hs4]; exact pushCells_keeps _ _ _ _ (Heap.get?_push_of_some _ e)
  have sta : ∀ {σ' : L2.St} {H' : Hp} {s' : Shared}, L2.Inv (X.blk s3 H3 scope ce fp) [] σ' H' s' → (∀ b ∈ fp, H' b = none) → ∀ b ∈ fp, FpOk (X.blk s3 H3 scope ce fp) [] H' b := fun {_ _ _} I' hn b hb =>
    ⟨hn b hb, (I'.ok.exf b hb).1, I'.ok.exfs b hb, .inl hb, fun x c e => (I'.ok.exf b hb).2 x c e, fun p hp => absurd (show p ∈ ([] : List (Addr × Obj)) ++ [] from hp) (by simp)⟩
  refine codeAny_compStart_dict ?loop (T.self X.A 0 _ _ _ st4 ?loop)
  refine compLoop_anyD (fun n s' => ∃ i H', L2.Inv (X.blk s3 H3 scope ce fp) [] (wipe σ (own.map (·.2))) H' s' ∧ tn i s'.heap ∧ (∀ b ∈ fp, H' b = none) ∧ W i n H') ?_ m0 ⟨0, H3, I4, st4, nf, w0⟩
  rintro n s5 ⟨i, H5, I5, st5, n5, w5⟩
  rcases turn i n H5 w5 with ⟨stop, qq⟩ | ⟨go, Nx, hNx, step⟩
  · refine thnF (T.done (X.blk s3 H3 scope ce fp) rfl rfl rfl hc i [] s5 _ H5 (fun _ _ => False) I5 (sta I5 n5) st5 stop) fun r s6 ⟨hr, I6⟩ => ?_
    subst hr
    have I7 : L2.Inv X pn σ H5 s6 := I3.call' (ch := fp) I6.os I6.base I6.hok I6.bare fun b hb => let z := (f3 b hb).1.2; ⟨z.2.2.1, z.1, z.2.2.2.1, z.2.2.2.2⟩
    have nC : H5 s3.heap.objs.size = none := cL ▸ (show H5 ce.locals = none from I6.free)
    obtain ⟨mm, hn, _⟩ := I6.loc
    have hn : s6.heap.Ns ce.locals mm := hn
    rw [cL] at hn
    exact hRR D s3.heap.objs.size s6 mm H5 I7 qq hn (I3.fpOk (Nat.le_refl _) nC)
  · refine thnF (T.item (X.blk s3 H3 scope ce fp) rfl rfl rfl hc i [] s5 _ H5 (fun _ _ => False) I5 (sta I5 n5) st5 go) fun r s6 ⟨u, hr, h6⟩ => ?_
    subst hr
    refine thnF h6 fun _ s7 ⟨xx, H7, I7, r7, y7, st7, n7⟩ => ?_
    refine thnF (pg.run _ s7 _ H7 xx u _ (I7.pinned (sta I7 n7) (T.obj _ _ st7)) r7 (step xx H7 y7)) fun _ s8 ⟨σ8, H8, I8, hw8, q8⟩ => thnF (pt.run _ s8 σ8 H8 _ I8 q8) fun b s9 ⟨H9, I9, q9⟩ => ?_
    have fin : ∀ {s' : Shared} {H' : Hp}, L2.Inv (X.blk s3 H3 scope ce fp) ([] ++ pinsAt fp s7.heap) σ8 H' s' → Nx H' → ∃ m, m < n ∧ ∃ i H', L2.Inv (X.blk s3 H3 scope ce fp) [] (wipe σ (own.map (·.2))) H' s' ∧ tn i s'.heap ∧ (∀ b ∈ fp, H' b = none) ∧ W i m H' := fun {s' H'} I' nx => by
      obtain ⟨m', hm, w'⟩ := hNx H' nx
      have pin' : ∀ b ∈ fp, ∀ o, s7.heap.get? b = some o → s'.heap.get? b = some o ∧ H' b = none := fun b hb o e => (I'.pin (b, o) (List.mem_append_right _ (List.mem_append_right _ (mem_pinsAt hb e)))).imp id (·.1)
      refine ⟨m', hm, i + 1, H', (I'.unpinned (pins := [])).weak (by rw [← hw8, wipe_length]) (fun j v e => (wipe_some (by rw [hw8]; exact e)).1), T.keep _ _ _ st7 fun b hb o e => (pin' b hb o e).1, fun b hb => (T.obj _ _ st7 b hb).elim fun o e => (pin' b hb o e.1).2, w'⟩
    cases b with
    | false =>
      rw [if_neg Bool.false_ne_true] at q9 ⊢
      exact fin I9 q9
    | true =>
      rw [if_pos rfl] at q9 ⊢
      exact thnF (pk.run _ s9 σ8 H9 _ I9 q9) fun z s10 ⟨yk, H10, I10, r10, q10⟩ => thnF (pv.run _ s10 σ8 H10 _ I10 q10) fun z2 s11 ⟨yv, H11, I11, r11, ds⟩ => thnF (sset ds _ s11 z z2 I11 r10 r11) fun _ s12 ⟨H12, I12, nx⟩ => fin I12 nx
end
/-! ### on data -/
section
variable {X : Cx} {x : XD} {es : Es} {m : M} {k : KD} {pos : Pos} {tgt itx kx vx : Expr} {scope : Scope} {G : Hp} {H : Hp} {σ : L2.St}
def DcK (X : Cx) (scope : Scope) (es : Es) (tg : Tg) (vs : List Nat) (kx vx : Expr) (k : KD) : List D → (M → Prop) → M → Prop := fun ds keep m1 => ∃ I : Nat → M → List (NestedKey × D) → Prop, I 0 m1 [] ∧ (∀ i m' kvs, I i m' kvs → keep m') ∧
  (∀ i d m' kvs, ds[i]? = some d → I i m' kvs → ∃ es2, tg.put d (wipeE es vs) = some es2 ∧ ∀ p, Blk X scope fun Y => EC Y noX es2 ((p, .dct kvs) :: m') kx fun dk m2 => Blk X scope fun Y => EC Y noX es2 m2 vx fun dv m3 =>
    ∃ m3' kk, m3 = (p, .dct kvs) :: m3' ∧ dk.key = some kk ∧ isTup kk ∧ kk.depth ≤ 8 ∧ (∀ q ∈ kvs, isTup q.1) ∧ kvs.length ≤ 100000 ∧ I (i + 1) m3' (dPut kvs kk dv)) ∧ (∀ m' kvs p, I ds.length m' kvs → k (.raw (.ref p)) ((p, .dct kvs) :: m'))
theorem dset_run {D : Addr} {y z : V} {dk dv : SG.D} {kk : NestedKey} {kvs : List (NestedKey × SG.D)} {Nx : Hp → Prop} (hu : X.A.units + 20 < cLine) (hs : Hs X.K X.w G ((D, .dct kvs) :: m) H) (hk : dk.key = some kk) (ht : isTup kk) (hd : kk.depth ≤ 8) (hts : ∀ q ∈ kvs, isTup q.1) (hz : kvs.length ≤ 100000)
    (r1 : Rp X.K G dk y) (r2 : Rp X.K G dv z) (h : ∀ H', Hs X.K X.w G ((D, .dct (dPut kvs kk dv)) :: m) H' → Nx H') : dSetR X scope D y z σ H Nx := by
  intro s0 H0 C cl fp pins s u r I ru rr
  obtain ⟨xs, hH, kv, hn, hdp⟩ := (hs.get (i := 0) rfl).2
  obtain ⟨hl, hsys, ys, xy, hm⟩ := dct_h (X := X.blk s0 H0 scope (compEnvC scope cl C X.env) fp) I hs.ex (.inl hH) kv hn hdp hts
  have kr := Rp.key dk y kk hk r1
  obtain ⟨b, rfl, rfl⟩ := ref_key (X := X) ht kr ru
  have hxl : xs.length ≤ 100000 := by rw [← kv.len]; exact hz
  have hyl := XY.len xy
  refine wpAny_dictSet_heap (knd := knd X) (show X.A.units + 8 < cLine by omega) ⟨KeyR.is (X := X.blk s0 H0 scope (compEnvC scope cl C X.env) fp) I hs.ex kk _ _ kr rfl, hd⟩ hm (fun h' hm' sb => ?_) (by rw [← hyl]; exact hl)
  refine ⟨_, dct_put (X := X.blk s0 H0 scope (compEnvC scope cl C X.env) fp) I hH (Nat.le_trans xPut_len (Nat.le_trans (Nat.succ_le_succ hxl) (by decide))) hsys xy rr hm' sb, h _ ?_⟩
  exact hs.dput (X := X) (j := 0) rfl kv hn hdp hd kr r2
theorem dc_read {Q : VK} {J : It} {ds : List D} {keep : M → Prop} {m1 : M} {G1 H1 : Hp} {tg : Tg} {vs : List Nat} (hu : X.A.units + 20 < cLine) (s : ST X G1 m1 σ H1 es) (hl : σ.length = X.N.length) (ho : tg.ok X.N.length) (hv : tg.inn vs)
    (hc : DcK X scope es tg vs kx vx k ds keep m1) (y : Yl X J G1 ds keep) (q : Bk X G1 k Q) :
    ∀ p, H1 p = none → (p == sysModules) = false → ∃ W : Nat → Nat → Hp → Prop, (∃ m, W 0 m (upd H1 p (DctO X.w p []))) ∧ ∀ i m H, W i m H →
      (J.stop i H ∧ Q (.ref p) H) ∨ (J.go i H ∧ ∃ Nx : Hp → Prop, (∀ H', Nx H' → ∃ m', m' < m ∧ W (i + 1) m' H') ∧ ∀ x H', J.yld i H x H' → tg.den X.K x (wipe σ vs) H' fun σ2 H2 => wipe σ2 vs = wipe σ vs ∧ tBT X scope [] σ2 H2 fun b H3 =>
        if b = true then tBE X scope kx σ2 H3 fun y H4 => tBE X scope vx σ2 H4 fun z H5 => dSetR X scope p y z σ2 H5 Nx else Nx H3) := by
  intro p hp hsys
  obtain ⟨I, i0, ik, is, ie⟩ := hc
  have hs0 := s.hs.newM (o := .dct []) (u := DctO X.w p []) hp ⟨[], upd_same, .nil, List.nodup_nil, fun q hq => by simp at hq⟩
  refine ⟨fun i n H' => n = ds.length - i ∧ i ≤ ds.length ∧ ∃ kvs m' G', I i m' kvs ∧ Same G1 G' ∧ Hs X.K X.w G' ((p, .dct kvs) :: m') H', ⟨ds.length, by omega, Nat.zero_le _, [], m1, G1, i0, Same.refl _, hs0⟩, ?_⟩
  rintro i n H' ⟨rfl, hi, kvs, m', G', z, e', hs'⟩
  have hs1 : Hs X.K X.w G' m' H' := hs'.drop (List.sublist_cons_self _ _)
  by_cases hlt : i < ds.length
  · refine .inr ⟨y.go i G' H' m' e' hs1 (ik _ _ _ z) hlt, fun H2 => ∃ kvs m2 G2, I (i + 1) m2 kvs ∧ Same G1 G2 ∧ Hs X.K X.w G2 ((p, .dct kvs) :: m2) H2, fun H2 ⟨kvs, m2, G2, z2, e2, s2⟩ => ⟨ds.length - (i + 1), by omega, rfl, hlt, kvs, m2, G2, z2, e2, s2⟩, fun v H2 hy => ?_⟩
    have ky := y.mono _ (p, .dct kvs) (ik _ _ _ z)
    obtain ⟨G2, d, hd, e2, hs2, rd⟩ := y.yld i G' H' _ v H2 e' hs' ky hlt hy
    obtain ⟨es2, hp2, z2⟩ := is i d m' kvs hd z
    have st2 : ST X G2 ((p, .dct kvs) :: m') (wipe σ vs) H2 (wipeE es vs) := ⟨hs2, (wipe_env s.env vs).mono (e'.trans e2)⟩
    refine Tg.run hp2 st2 (by rw [wipe_length]; exact hl) ho rd fun σ3 s3 hl3 ⟨vv, ev⟩ => ⟨by rw [ev]; exact wipe_put vv v hv, ?_⟩
    intro s' Hs' C cl fp pins s4 I4
    refine wpAny_tests_nil ⟨H2, I4, ?_⟩
    show tBE X scope kx σ3 H2 _
    intro s5 Hs5 C5 cl5 fp5
    refine z2 p s5 Hs5 C5 cl5 fp5 G2 σ3 H2 _ blk_wish ⟨s3.hs, s3.env⟩ fun yk dk m3 G3 H3 k3 e3 h3 r3 => ?_
    intro s6 Hs6 C6 cl6 fp6
    refine k3 s6 Hs6 C6 cl6 fp6 G3 σ3 H3 _ blk_wish ⟨h3, s3.env.mono e3⟩ fun yv dv m4 G4 H4 k4 e4 h4 r4 => ?_
    obtain ⟨m3', kk, rfl, hk, ht, hdp, hts, hz, z4⟩ := k4
    exact dset_run (X := X) hu h4 hk ht hdp hts hz (r3.mono e4) r4 fun H'' hs'' => ⟨_, m3', G4, z4, ((e'.trans e2).trans e3).trans e4, hs''⟩
  · have ei : i = ds.length := by omega
    subst ei
    exact .inl ⟨y.stop _ G' H' m' e' hs1 (ik _ _ _ z) (Nat.le_refl _), q _ _ _ _ _ (ie _ _ p z) e' hs' (.raw _)⟩
theorem dct0_ok (H' : Hp) (h : Heap) (hb : sysModules < h.objs.size) : ObjOk X.prog X.w H' (h.push { cls := .type "dict", data := .dict #[] }) h.objs.size (DctO X.w h.objs.size []) :=
  dct_new (ys := []) (Nat.zero_le _) (beq_eq_false_iff_ne.mpr (Ne.symm (Nat.ne_of_lt hb))) .nil (Heap.DictOfH.new _)
theorem ec_dc {own : List (Str × Nat)} (tg : Tg) (hu : X.A.units + 20 < cLine) (hc : X.calm = true) (hN : X.N.Nodup) (ok : BlkOk X.N X.env.scope scope own) (hg : Blk X scope fun Y => PG Y tgt (tg.den X.K)) (ho : tg.ok X.N.length) (hv : tg.inn (own.map (·.2)))
    (h : SC X x es m tgt itx (DcK X scope es tg (own.map (·.2)) kx vx k)) (hs : ∀ v, foldedSetIterable itx X.env v = pure v := by intro _; rfl) : EC X x es m (.DictComp kx vx [⟨tgt, itx, [], 0⟩] scope pos) k := by
  intro G σ H Q w st q pins s I
  rw [arm_eval_DictComp]
  refine dcn_core (O0 := fun p => DctO X.w p []) (wi := wR X tgt itx) (g := tg.den X.K) (tt := tBT X scope []) (tk := tBE X scope kx) (tv := tBE X scope vx) dct0_ok hc hN I pi_R ok hg (fun s H C cl fp => ⟨fun pins s' σ H' Q I h => h s H C cl fp pins s' I⟩) (fun s H C cl fp => bE s H C cl fp) (fun s H C cl fp => bE s H C cl fp) hs (Q := Q) ?_ fun D C s' m H' I' q hn f => ⟨m, hn, fun h'' sb => ?_⟩
  · refine h G σ H _ w st fun J ds keep m1 G1 H1 k1 e1 h1 y => ?_
    exact dc_read hu (st.mono e1 h1) I.len ho hv k1 y (q.mono e1)
  · obtain ⟨f0, f1, f2, f3, f4, f5⟩ := f
    exact ⟨.ref D, H', I'.turned (t' := s'.toks) (fun b o hb e => (sb.2 b hb).trans e) f0 f1 f3 f4 f5, rfl, q⟩
/-- name = {..} on one line -/
theorem ss_dc {E : DE} {own : List (Str × Nat)} {i : Nat} {n : Str} {pn spos : Pos} (tg : Tg) (hu : X.A.units + 20 < cLine) (hc : X.calm = true) (hN : X.N.Nodup) (ok : BlkOk X.N X.env.scope scope own) (hg : Blk X scope fun Y => PG Y tgt (tg.den X.K)) (ho : tg.ok X.N.length) (hv : tg.inn (own.map (·.2)))
    (h : SC X x es m tgt itx (DcK X scope es tg (own.map (·.2)) kx vx fun d m1 => E.nx (es.set i (some d)) m1)) (hy : X.N[i]? = some n := by rfl) (hyl : X.env.scope.names.lookup n = some .local := by rfl)
    (hs : ∀ v, foldedSetIterable itx X.env v = pure v := by intro _; rfl) (hsw : swapsWith (.DictComp kx vx [⟨tgt, itx, [], 0⟩] scope pos) (some (.Name n pn)) spos.line X.env = pure true := by rfl) : SS X x es m (.Assign [.Name n pn] (.DictComp kx vx [⟨tgt, itx, [], 0⟩] scope pos) spos) E := by
  intro G σ H Dn w st hl r pins s I
  rw [exec_Assign_Name_used _ _ _ _ hsw]
  refine wpAny_bind (wpAny_standAt (wpAny_bind ?_))
  show wpAny _ X.A (do let _ ← comprehension (.DictComp kx vx [⟨tgt, itx, [], 0⟩] scope pos) scope X.env (firstIterPos [⟨tgt, itx, [], 0⟩] pos) newDict false (eval itx X.env) (some (assign (.Name n pn) X.env))) _ _ s
  refine wpAny_bind (thn (dcn_core (O0 := fun p => DctO X.w p []) (wi := wR X tgt itx) (g := tg.den X.K) (tt := tBT X scope []) (tk := tBE X scope kx) (tv := tBE X scope vx) (Qf := fun _ s' => SP X pins Dn .next s') dct0_ok hc hN I pi_R ok hg (fun s H C cl fp => ⟨fun pins s' σ H' Q I h => h s H C cl fp pins s' I⟩)
    (fun s H C cl fp => bE s H C cl fp) (fun s H C cl fp => bE s H C cl fp) hs (Q := fun v H' => Dn.nx (σ.set i (some v)) H') ?_ fun D C s' m H' I' q hn f => ?_) fun _ s' hq => wpAny_pure (wpAny_pure hq))
  · refine h G σ H _ w st fun J ds keep m1 G1 H1 k1 e1 h1 y => ?_
    refine dc_read (Q := fun v H' => Dn.nx (σ.set i (some v)) H') hu (st.mono e1 h1) hl ho hv k1 y fun v d m2 G2 H2 k2 e2 h2 r2 => ?_
    have hlt : i < σ.length := by rw [hl]; exact (List.getElem?_eq_some_iff.mp hy).1
    exact r.nx _ m2 G2 _ H2 k2 (e1.trans e2) ⟨h2, (st.env.mono (e1.trans e2)).set hlt r2⟩ (by rw [List.length_set]; exact hl)
  · show wpAny _ _ (assign (.Name n pn) X.env (.ref D)) _ _ _
    refine wpAny_assign_Name (store_ok2 (v := V.ref D) I' hN hy (.inl hyl) rfl (fun s2 I2 ⟨a, sb, ha⟩ => ?_) (.inr hyl))
    obtain ⟨f0, f1, f2, f3, f4, f5⟩ := f
    have haC : C ≠ a := by
      rcases ha with z | z
      · rw [z]; exact f1
      · exact fun e => f4 n a z e.symm
    exact ⟨m, hn.sameBut sb haC, fun h3 sb3 => ⟨_, H', I2.turned (t' := s2.toks) (fun b o hb e => (sb3.2 b hb).trans e) f0 f1 f3 f4 f5, q⟩⟩
end
end SG
set_option maxHeartbeats 4000000
/-! SgDw: list(d), for k in d. -/
namespace SG
open PySem PySem.Spec PyProof.Rows L2
mutual
def kD : NestedKey → D
  | .none => .non
  | .num i => .int i
  | .text x => .str x
  | .tup ks => .tup (kDs ks)
def kDs : List NestedKey → List D
  | [] => []
  | k :: ks => kD k :: kDs ks
end
mutual
theorem KeyR.rp {K : PySem.W.Frag} {G : Hp} : ∀ (k : NestedKey) (v : V), KeyR K G k v → Rp K G (kD k) v
  | .none, _, h => by cases h; exact .non
  | .num i, _, h => by cases h; exact .int i
  | .text x, _, h => by cases h; exact .str x
  | .tup ks, _, h => by cases h with | tup h r => exact .tup h (KeyRL.rp ks _ r)
theorem KeyRL.rp {K : PySem.W.Frag} {G : Hp} : ∀ (ks : List NestedKey) (vs : List V), KeyRL K G ks vs → RpL K G (kDs ks) vs
  | [], _, h => by cases h; exact .nil
  | k :: ks, _, h => by cases h with | cons h r => exact .cons (KeyR.rp k _ h) (KeyRL.rp ks _ r)
end
mutual
theorem key_kD : ∀ (d : D) (k : NestedKey), d.key = some k → kD k = d
  | .non, _, e => by cases e; rfl
  | .int i, _, e => by cases e; rfl
  | .str x, _, e => by cases e; rfl
  | .tup ds, k, e => by
    have e' : (D.keyL ds).map NestedKey.tup = some k := e
    cases q : D.keyL ds with
    | none => rw [q] at e'; cases e'
    | some ks =>
      rw [q] at e'
      cases e'
      show D.tup (kDs ks) = _
      rw [keyL_kD ds ks q]
  | .bl _, _, e => by cases e
  | .lst _, _, e => by cases e
  | .ins _ _, _, e => by cases e
  | .raw _, _, e => by cases e
  | .scr _, _, e => by cases e
theorem keyL_kD : ∀ (ds : List D) (ks : List NestedKey), D.keyL ds = some ks → kDs ks = ds
  | [], _, e => by cases e; rfl
  | d :: ds, ks, e => by
    have e' : (match D.key d, D.keyL ds with
      | some k, some ks => some (k :: ks)
      | _, _ => none) = some ks := e
    cases q : D.key d with
    | none => rw [q] at e'; cases e'
    | some k =>
      cases q2 : D.keyL ds with
      | none => rw [q, q2] at e'; cases e'
      | some ks' =>
        rw [q, q2] at e'
        cases e'
        show kD k :: kDs ks' = _
        rw [key_kD d k q, keyL_kD ds ks' q2]
end
section
variable {X : Cx} {x : XD} {es : Es} {m : M} {k : KD} {pos : Pos} {G H : Hp} {σ : L2.St} {pins : List (Addr × Obj)} {s : Shared} {p : Addr} {j : Nat} {kvs : List (NestedKey × D)} {xs : List (NestedKey × V × V)}
theorem kv_keys {K : PySem.W.Frag} (kv : KvOk K G kvs xs) : RpL K G (kvs.map fun q => kD q.1) (xs.map fun x => x.2.1) := by
  induction kv with
  | nil => exact .nil
  | cons h t ih => exact .cons (h.2.1.rp) ih
theorem ent_keys {w : World} {es : List DictEntry} (pr : Paired (fun (x : NestedKey × V × V) (e : DictEntry) => e.hash = x.1.hash w ∧ RelV x.2.1 e.key ∧ RelV x.2.2 e.val) xs es) : Vals (xs.map fun x => x.2.1) (es.map fun e => e.key) := by
  induction pr with
  | nil => exact .nil
  | cons h t ih => exact .cons h.2.1 ih
theorem cc_listD (hh : X.A.handled = none) (dr : DRd m j p kvs) (hk : k (.lst (kvs.map fun q => kD q.1)) m) : CC X (.type "list") m [.raw (.ref p)] k := by
  intro G H vs Q hs r q pins s σ us I ru
  cases r with
  | cons h t =>
    cases t
    cases h
    obtain ⟨u, rfl, rx⟩ := ru.one
    cases rx
    obtain ⟨xs, hH, kv, hn, hdp⟩ := dr.get hs
    obtain ⟨hl, hsys, o, ents, ep, ho, hex, hdt, pr⟩ := dct_at I hH
    have hes : ents.size = xs.length := by rw [← Array.length_toList]; exact (Paired.length pr).symm
    refine PySem.W.kdl_call (kdl_raw hsys hex hdt) hh ho (by omega) fun h' tk acc' c' kp e it => ?_
    have ea : acc'.toList = ents.toList.map fun e => e.key := by
      apply List.ext_getElem?
      intro i
      rw [List.getElem?_map]
      cases hi : acc'.toList[i]? with
      | none =>
        have h1 := List.getElem?_eq_none_iff.mp hi
        rw [Array.length_toList, it.1] at h1
        rw [List.getElem?_eq_none (by rw [Array.length_toList]; exact h1)]
        rfl
      | some v =>
        obtain ⟨en, hen, hv⟩ := it.2 i v (by rw [← Array.getElem?_toList]; exact hi)
        rw [Array.getElem?_toList, hen, hv]
        rfl
    have rv : Vals (xs.map fun x => x.2.1) acc'.toList := by rw [ea]; exact ent_keys pr
    refine ⟨.ref s.heap.objs.size, _, I.laid (t' := tk) (o := .lst (xs.map fun x => x.2.1)) kp (Nat.le_refl _) (show ObjOk X.prog X.w _ _ _ (.lst (xs.map fun x => x.2.1)) from ⟨by rw [List.length_map]; exact hl, acc'.toList, c', rv, by rw [Array.toArray_toList]; exact e⟩), rfl,
      q.lst hs hk (kv_keys kv) _ (I.hok.fresh (Nat.le_refl _))⟩
/-! ### for k in d -/
/-- the keys of a dict that stays -/
def ItkN (w : World) (d : Addr) (o : Obj) (xs : List (NestedKey × V × V)) : It :=
  ⟨fun i H => H d = some (.frz o (DctO w d xs)) ∧ i < xs.length, fun i H x H' => H' = H ∧ (xs.map fun x => x.2.1)[i]? = some x, fun i H => H d = some (.frz o (DctO w d xs)) ∧ xs.length ≤ i⟩
theorem frzN {o : Obj} (I : L2.Inv X pins σ H s) (h : H p = some (.frz o (DctO X.w p xs))) : s.heap.get? p = some o ∧ xs.length ≤ sizeLine ∧ (p == sysModules) = false ∧ o.ExactDict ∧ ∃ ents ep, o.data = .dict ents ep ∧ ents.size = xs.length ∧
    ∀ (i : Nat) (v : V), (xs.map fun x => x.2.1)[i]? = some v → ∃ en, ents[i]? = some en ∧ RelV v en.key := by
  have hz : ObjOk X.prog X.w H s.heap p (.frz o (DctO X.w p xs)) := I.hok p _ h
  obtain ⟨hl, hsys, o', ents, ep, ho, hex, hdt, pr⟩ := dct_at I (.inr ⟨o, h⟩)
  have hg : s.heap.get? p = some o := hz.1
  have e : o' = o := Option.some.inj (ho.symm.trans hg)
  subst e
  have hes : ents.size = xs.length := by rw [← Array.length_toList]; exact (Paired.length pr).symm
  refine ⟨hg, hl, hsys, hex, ents, ep, hdt, hes, fun i v hv => ?_⟩
  obtain ⟨u, hu, ru⟩ := (ent_keys pr).get hv
  rw [List.getElem?_map] at hu
  cases hen : ents.toList[i]? with
  | none => rw [hen] at hu; cases hu
  | some en =>
    rw [hen] at hu
    cases hu
    exact ⟨en, by rw [← Array.getElem?_toList]; exact hen, ru⟩
theorem turn_keysN {P : Program} {w : World} {K : PySem.W.Frag} {tg : Expr} {d : Addr} {o : Obj} {es : Array DictEntry} {ep : Nat} (it : Addr) (hod : o.data = .dict es ep) : Turn P w K tg (ItkN w d o xs) [it] it (fun i h => h.IsKeyIter it d i xs.length ep) where
  mem := by simp
  obj := fun i h st b hb => by
    obtain rfl : b = it := by simpa using hb
    exact let ⟨oi, e, c, dd⟩ := st; ⟨oi, e, fun v z => by rw [dd] at z; cases z⟩
  keep := fun i h h' st kp => st.at fun oi e => kp it (by simp) oi e
  item := by
    intro X hP hw hK hc i pins s σ H E I hf st ⟨hd, hi⟩
    subst hP hw hK
    obtain ⟨f0, f1, f2, f3, f4, f5⟩ := hf it (by simp)
    obtain ⟨hgd, hl, hsys, hex, es', ep', hdt, hsz, ent⟩ := frzN I hd
    obtain ⟨rfl, rfl⟩ := dict_ep hod hdt
    obtain ⟨v, hv⟩ : ∃ v, (xs.map fun x => x.2.1)[i]? = some v := ⟨_, List.getElem?_eq_getElem (by simpa using hi)⟩
    obtain ⟨en, hen, rv⟩ := ent i v hv
    refine next_key_item st hgd hdt hsz hen fun h' st' sb => ⟨en.key, rfl, ?_⟩
    have st2 := st'
    obtain ⟨oi, e, cc, dd⟩ := st2
    exact go_of (s := { s with heap := h' }) e cc dd (by decide) ⟨v, H, I.turned (t' := s.toks) (fun b ob hb e => (sb.2 b hb).trans e) f0 f1 f3 f4 f5, rv, ⟨rfl, hv⟩, st', fun b hb => (hf b hb).1⟩
  done := by
    intro X hP hw hK hc i pins s σ H E I hf st ⟨hd, hi⟩
    subst hP hw hK
    obtain ⟨f0, f1, f2, f3, f4, f5⟩ := hf it (by simp)
    obtain ⟨hgd, hl, hsys, hex, es', ep', hdt, hsz, ent⟩ := frzN I hd
    obtain ⟨rfl, rfl⟩ := dict_ep hod hdt
    exact next_key_end (I.ok.hd hc) st hgd hdt hsz hi fun h' eb => ⟨rfl, I.turned (t' := s.toks) (fun b ob hb e => eb b ob hb e) f0 f1 f3 f4 f5⟩
  self := fun A i s Q E st h => wpAny_pyIter_slot st.typeIs PySem.F.slot_dict_keyiterator_iter (wpAny_call_entry PySem.F.slot_dict_keyiterator_iter st.typeIs PySem.F.entry_dict_keyiterator_iter (show wpAny _ _ (ret (.ref it)) _ _ s from wpAny_pure ⟨_, rfl, "dict_keyiterator", _, st.typeIs, PySem.F.slot_dict_keyiterator_next.lookup, h⟩) (PySem.F.args_dict_keyiterator_iter_1 _))
theorem sc_keys {tg iter : Expr} {kk : List D → (M → Prop) → M → Prop} (h : EC X x es m iter fun d m1 => ∃ (p : Addr) (j : Nat) (kvs : List (NestedKey × D)), d = .raw (.ref p) ∧ m1[j]? = some (p, MO.dct kvs) ∧ ∀ o xs, kk (kvs.map fun q => kD q.1) (fun m' => ∃ j : Nat, (m' : M)[j]? = some (p, MO.dcz o xs kvs)) (m1.set j (p, .dcz o xs kvs))) : SC X x es m tg iter kk := by
  intro G σ H R w st q pins s I
  refine thn (h.run w st I) fun u s1 ⟨v, H1, I1, r1, d, m1, G1, ⟨p, j, kvs, hd, hm, z⟩, e1, h1, p1⟩ => ?_
  subst hd
  cases p1
  cases r1
  obtain ⟨xs, hH, kv, hn, hdp⟩ := (h1.get hm).2
  obtain ⟨o, I2⟩ := I1.lock hH True.intro
  have hH2 : (upd H1 p (.frz o (DctO X.w p xs))) p = some (.frz o (DctO X.w p xs)) := upd_same
  have h2 := h1.write (o' := .dcz o xs kvs) (u := .frz o (DctO X.w p xs)) hm ⟨upd_same, kv, hn, hdp⟩
  obtain ⟨hgd, hl, hsys, hex, ents, ep, hdt, hsz, ent⟩ := frzN I2 hH2
  refine iter_keys hsys hgd hex hdt (pi_one (tk := s1.toks) I2 _ (turn_keysN (xs := xs) _ hdt) ⟨_, Heap.get?_push_size _ rfl, rfl, by rw [hsz]; rfl⟩ (q (ItkN X.w p o xs) _ _ _ G1 _ (z o xs) e1 h2 ⟨fun m q kp => kp.elim fun j hj => ⟨j + 1, hj⟩, fun i G' H' m e hs kp hi => ?_, fun i G' H' m v H2 e hs kp hi y => ?_, fun i G' H' m e hs kp hi => ?_⟩))
  · obtain ⟨j', hj'⟩ := kp
    exact ⟨(hs.get hj').2.1, by rw [← kv.len]; simpa using hi⟩
  · obtain ⟨j', hj'⟩ := kp
    obtain ⟨rfl, hv⟩ := y
    obtain ⟨d, hd, rd⟩ := (kv_keys (hs.get hj').2.2.1).get' hv
    exact ⟨G', d, hd, Same.refl _, hs, rd⟩
  · obtain ⟨j', hj'⟩ := kp
    exact ⟨(hs.get hj').2.1, by rw [← kv.len]; simpa using hi⟩
end
end SG
set_option maxHeartbeats 4000000
/-! SgMix: dicts among whose keys is None beside tuples. -/
namespace SG
open PySem PySem.Spec PyProof.Rows
section
variable {prog : Program} {w : World} {A : Around} {E : Value → Shared → Prop} {s : Shared}
/-- the entries' keys -/
structure Ents (w : World) (h : Heap) (ks : List NestedKey) (es : Array DictEntry) : Prop where
  at_ : ∀ (j : Nat) (e : DictEntry), es[j]? = some e → ∃ k, ks[j]? = some k ∧ e.hash = k.hash w ∧ NestedIs h k e.key ∧ k.depth ≤ 8
  len : es.size = ks.length
  nd : ks.Nodup
abbrev plc (es : Array DictEntry) (h : Int) : List Nat := placesWithHash es.size (fun i => es[i]?.map (·.hash)) h
abbrev hp (es : Array DictEntry) (h : Int) : Nat → Bool := fun i => (es[i]?.map (·.hash)) == some h
variable {d : Addr} {u : Value} {o : Obj} {es : Array DictEntry} {ep : Nat} {ks : List NestedKey} {k : NestedKey}
theorem Ents.get (x : Ents w s.heap ks es) {j : Nat} {k : NestedKey} (hj : ks[j]? = some k) : ∃ e, es[j]? = some e ∧ e.hash = k.hash w := by
  have hlt : j < es.size := by rw [x.len]; exact (List.getElem?_eq_some_iff.mp hj).1
  obtain ⟨k', h1, h2, _⟩ := x.at_ j es[j] (Array.getElem?_eq_getElem hlt)
  rw [hj] at h1
  cases h1
  exact ⟨_, Array.getElem?_eq_getElem hlt, h2⟩
theorem Ents.uniq (x : Ents w s.heap ks es) {i j : Nat} {k : NestedKey} (hi : ks[i]? = some k) (hj : ks[j]? = some k) : i = j := (List.getElem?_inj (List.getElem?_eq_some_iff.mp hi).1 x.nd).mp (hi.trans hj.symm)
/-- what is known at a turn of the search -/
def Seen (ks : List NestedKey) (k : NestedKey) (i : Nat) (hit : Option Nat) : Prop := (hit = none ∧ ∀ j, j < i → ks[j]? ≠ some k) ∨ ∃ j, hit = some j ∧ j < i ∧ ks[j]? = some k
theorem Seen.to (x : Ents w s.heap ks es) {i j : Nat} {hit : Option Nat} (h : Seen ks k i hit) (hij : i ≤ j) (hs : ∀ l, i ≤ l → l < j → hp es (k.hash w) l = false) : Seen ks k j hit := by
  rcases h with ⟨h0, hno⟩ | ⟨l, h1, h2, h3⟩
  · refine .inl ⟨h0, fun l hl hk => ?_⟩
    rcases Nat.lt_or_ge l i with q | q
    · exact hno l q hk
    · have := hs l q hl
      obtain ⟨e, he, hh⟩ := x.get hk
      simp [hp, he, hh] at this
  · exact .inr ⟨l, h1, by omega, h3⟩
theorem Seen.step {i : Nat} {hit : Option Nat} (h : Seen ks k i hit) (hne : ks[i]? ≠ some k) : Seen ks k (i + 1) hit := by
  rcases h with ⟨h0, hno⟩ | ⟨l, h1, h2, h3⟩
  · refine .inl ⟨h0, fun l hl hk => ?_⟩
    rcases Nat.lt_or_ge l i with q | q
    · exact hno l q hk
    · have : l = i := by omega
      exact hne (this ▸ hk)
  · exact .inr ⟨l, h1, by omega, h3⟩
theorem fin_of {Q : Option Nat → Shared → Prop} (x : Ents w s.heap ks es) {i : Nat} {hit : Option Nat} (h : Seen ks k i hit) (hr : [] = (List.range' i (es.size - i)).filter (hp es (k.hash w))) (hi : i ≤ es.size) (hnone : k ∉ ks → Q none s) (hsome : ∀ j, ks[j]? = some k → Q (some j) s) : Q hit s := by
  have h' := h.to x hi fun l h1 h2 => by
    have := List.filter_eq_nil_iff.mp hr.symm l (List.mem_range'_1.mpr ⟨h1, by omega⟩)
    simpa using this
  rcases h' with ⟨rfl, hno⟩ | ⟨j, rfl, _, hj⟩
  · refine hnone fun hm => ?_
    obtain ⟨j, hj⟩ := List.mem_iff_getElem?.mp hm
    exact hno j (by rw [x.len]; exact (List.getElem?_eq_some_iff.mp hj).1) hj
  · exact hsome j hj
theorem eq_mix {a b : Value} {x y : NestedKey} {Q : Bool → Shared → Prop} (hu : A.units + 8 < cLine) (hx : NestedIs s.heap x a) (hd : x.depth ≤ 8) (hy : NestedIs s.heap y b) (h : Q (decide (x = y)) s) : wpAny (model prog w) A (PySem.eqBool a b) Q E s := by
  refine eqAt_key x y A s a b hx hy ?_ _ _ _ _ (by rw [← NestedKey.decide_eq]; exact h)
  have := Nat.min_le_left x.depth y.depth
  omega
theorem tell_mix {stored : List Value} {Q : Bool → Shared → Prop} (hk : NestedIs s.heap k u) (hkd : k.depth ≤ 8) (hst : ∀ v ∈ stored, ∃ k' : NestedKey, NestedIs s.heap k' v ∧ k'.depth ≤ 8) (h : Q false s) : wpAny (model prog w) A (tableMayTell u stored) Q E s := by
  unfold tableMayTell
  split
  · exact wpAny_pure h
  · refine wpAny_bind (quiet_key k u 8 s hk hkd A E _ ?_)
    rw [if_neg (by simp)]
    refine wpAny_bind (wpAny_forIn_list _ (fun rest r s' => s' = s ∧ r = (none, ()) ∧ ∀ v ∈ rest, ∃ k' : NestedKey, NestedIs s.heap k' v ∧ k'.depth ≤ 8) _ ?_ ?_ _ _ ⟨rfl, rfl, hst⟩)
    · rintro x rest r s' ⟨rfl, rfl, hr⟩
      obtain ⟨k', q1, q2⟩ := hr x List.mem_cons_self
      refine wpAny_bind (quiet_key k' x 8 s' q1 q2 A E _ ?_)
      rw [if_neg (by simp)]
      exact wpAny_pure ⟨rfl, rfl, fun v hv => hr v (List.mem_cons_of_mem _ hv)⟩
    · rintro r s' ⟨rfl, rfl, _⟩
      exact wpAny_pure h
theorem plain_mix {Q : Option Nat → Shared → Prop} (hu : A.units + 8 < cLine) (hk : NestedIs s.heap k u) (ho : s.heap.get? d = some o) (hd : o.data = .dict es ep) (x : Ents w s.heap ks es) (hnone : k ∉ ks → Q none s) (hsome : ∀ j, ks[j]? = some k → Q (some j) s) :
    wpAny (model prog w) A (dictWalkPlain d u (k.hash w) es (plc es (k.hash w))) Q E s := by
  unfold dictWalkPlain
  refine wpAny_bind (wpAny_forIn_list _ (fun rest b s' => s' = s ∧ ∃ i, b = (none, ()) ∧ rest = (List.range' i (es.size - i)).filter (hp es (k.hash w)) ∧ i ≤ es.size ∧ Seen ks k i none) _ ?_ ?_ _ _ ⟨rfl, 0, rfl, by (first | unfold placesWithHash | unfold plc placesWithHash); rw [List.range_eq_range', Nat.sub_zero], Nat.zero_le _, .inl ⟨rfl, fun _ h => absurd h (Nat.not_lt_zero _)⟩⟩)
  · rintro i' rest b s' ⟨rfl, i, rfl, hr, hi, hS⟩
    obtain ⟨hix, hxn, hpx, hskip, hrest⟩ := filter_range'_cons _ _ _ _ _ hr.symm
    have hlt : i' < es.size := by omega
    have hrest' : rest = (List.range' (i' + 1) (es.size - (i' + 1))).filter (hp es (k.hash w)) := by rw [hrest]; congr 2; omega
    obtain ⟨k', h1, h2, h3, h4⟩ := x.at_ i' es[i'] (Array.getElem?_eq_getElem hlt)
    have hS' := hS.to x hix hskip
    rw [Array.getElem?_eq_getElem hlt]
    dsimp only
    have hh : (es[i'].hash == k.hash w) = true := by
      have : hp es (k.hash w) i' = true := hpx
      simpa [hp, Array.getElem?_eq_getElem hlt] using this
    rw [if_pos hh]
    refine wpAny_bind (wpAny_dictEpoch ho hd (wpAny_bind (eq_mix hu h3 h4 hk (wpAny_bind (wpAny_dictEpoch ho hd ?_)))))
    rw [if_neg (by simp)]
    by_cases e : k' = k
    · subst e
      rw [decide_eq_true rfl, if_pos rfl]
      exact wpAny_bind (wpAny_rule (wpAny_pure (wpAny_pure (hsome i' h1))))
    · rw [decide_eq_false e, if_neg Bool.false_ne_true]
      exact wpAny_bind (wpAny_rule (wpAny_pure ⟨rfl, i' + 1, rfl, hrest', hlt, hS'.step fun z => e (by rw [h1] at z; exact Option.some.inj z)⟩))
  · rintro b s' ⟨rfl, i, rfl, hr, hi, hS⟩
    exact wpAny_pure (fin_of x hS hr hi hnone hsome)
/-- no text: None or a reference -/
def NoTxt (u : Value) : Prop := u = .none ∨ ∃ a, u = .ref a
theorem find_mix {Q : Option Nat → Shared → Prop} (hu : A.units + 8 < cLine) (nt : NoTxt u) (hk : NestedIs s.heap k u) (hkd : k.depth ≤ 8) (ho : s.heap.get? d = some o) (hd : o.data = .dict es ep) (x : Ents w s.heap ks es) (hnone : k ∉ ks → Q none s) (hsome : ∀ j, ks[j]? = some k → Q (some j) s) :
    wpAny (model prog w) A (dictFind d u (k.hash w)) Q E s := by
  have hst : ∀ v ∈ (plc es (k.hash w)).filterMap (fun i => es[i]?.map (·.key)), ∃ k' : NestedKey, NestedIs s.heap k' v ∧ k'.depth ≤ 8 := by
    intro v hv
    obtain ⟨i, _, hi⟩ := List.mem_filterMap.mp hv
    cases hei : es[i]? with
    | none => rw [hei] at hi; cases hi
    | some e =>
      rw [hei] at hi
      obtain rfl : e.key = v := by simpa using hi
      obtain ⟨k', _, _, h3, h4⟩ := x.at_ i e hei
      exact ⟨k', h3, h4⟩
  have hany : (es.any fun e => e.key == u && e.hash != k.hash w) = false := by
    rw [← Array.any_toList, List.any_eq_false]
    intro e hin hc
    obtain ⟨i, hi⟩ := List.mem_iff_getElem?.mp hin
    obtain ⟨k', _, h2, h3, _⟩ := x.at_ i e (by rw [← Array.getElem?_toList]; exact hi)
    simp only [Bool.and_eq_true, beq_iff_eq, bne_iff_ne, ne_eq] at hc
    obtain ⟨hxa, hne⟩ := hc
    rw [hxa] at h3
    exact hne (by rw [h2, NestedIs.inj _ _ _ h3 hk])
  unfold dictFind
  try with_reducible refine wpAny_holding ?_
  refine wpAny_bind (wpAny_dictEntries ho hd ?_)
  rcases nt with rfl | ⟨a, rfl⟩
  case inl =>
    dsimp only
    by_cases hc : ((Value.none :: (plc es (k.hash w)).filterMap (fun i => es[i]?.map (·.key))).all carriedByValue) = true
    case pos =>
      rw [if_pos hc]
      exact plain_mix hu hk ho hd x hnone hsome
    rw [if_neg hc]
    by_cases hone : (((plc es (k.hash w)).filterMap (fun i => es[i]?.map (·.key))) == [Value.none]) = true <;>
    (first | rw [if_pos hone] | rw [if_neg hone]) <;> (first | refine wpAny_bind (wpAny_pure ?_) | refine wpAny_bind (tell_mix hk hkd hst ?_)) <;> (
      rw [if_neg (by simp)]
      refine wpAny_bind (wpAny_forIn_list _ (fun rest b s' => s' = s ∧ ∃ i hit, b = (none, hit) ∧ rest = (List.range' i (es.size - i)).filter (hp es (k.hash w)) ∧ i ≤ es.size ∧ Seen ks k i hit) _ ?_ ?_ _ _
        ⟨rfl, 0, none, rfl, by (first | unfold placesWithHash | unfold plc placesWithHash); rw [List.range_eq_range', Nat.sub_zero], Nat.zero_le _, .inl ⟨rfl, fun _ h => absurd h (Nat.not_lt_zero _)⟩⟩)
      · rintro i' rest b s' ⟨rfl, i, hit, rfl, hr, hi, hS⟩
        obtain ⟨hix, hxn, hpx, hskip, hrest⟩ := filter_range'_cons _ _ _ _ _ hr.symm
        have hlt : i' < es.size := by omega
        have hrest' : rest = (List.range' (i' + 1) (es.size - (i' + 1))).filter (hp es (k.hash w)) := by rw [hrest]; congr 2; omega
        obtain ⟨k', h1, h2, h3, h4⟩ := x.at_ i' es[i'] (Array.getElem?_eq_getElem hlt)
        have hS' := hS.to x hix hskip
        rw [Array.getElem?_eq_getElem hlt]
        dsimp only
        have hh : (es[i'].hash == k.hash w) = true := by
          have : hp es (k.hash w) i' = true := hpx
          simpa [hp, Array.getElem?_eq_getElem hlt] using this
        rw [if_pos hh]
        refine wpAny_bind (wpAny_dictEpoch ho hd (wpAny_bind (eq_mix hu h3 h4 hk (wpAny_bind (wpAny_dictEpoch ho hd ?_)))))
        rw [if_neg (by simp)]
        by_cases e : k' = k
        · subst e
          rw [decide_eq_true rfl]
          rcases hS' with ⟨rfl, _⟩ | ⟨j, _, hj1, hj2⟩
          · first | rw [if_pos rfl] | skip
            simp only [Option.isSome_none, Bool.false_eq_true, if_false]
            first | refine wpAny_bind (wpAny_pure ?_) | skip
            refine wpAny_bind (wpAny_rule ?_)
            split
            · exact wpAny_pure (wpAny_pure (hsome i' h1))
            · exact wpAny_pure ⟨rfl, i' + 1, some i', rfl, hrest', hlt, .inr ⟨i', rfl, Nat.lt_succ_self _, h1⟩⟩
          · exact absurd (x.uniq hj2 h1) (by omega)
        · rw [decide_eq_false e]
          simp only [Bool.false_eq_true, if_false]
          refine wpAny_bind (wpAny_rule ?_)
          first | rw [if_neg (by simp)] | skip
          have q : Seen ks k (i' + 1) hit := hS'.step fun z => e (by rw [h1] at z; exact Option.some.inj z)
          first
            | exact wpAny_pure ⟨rfl, i' + 1, hit, rfl, hrest', hlt, q⟩
            | exact wpAny_bind (wpAny_pure (wpAny_pure ⟨rfl, i' + 1, hit, rfl, hrest', hlt, q⟩))
      · rintro b s' ⟨rfl, i, hit, rfl, hr, hi, hS⟩
        exact wpAny_pure (fin_of x hS hr hi hnone hsome))
  case inr =>
    dsimp only
    rw [if_neg (show ¬ ((Value.ref a :: (plc es (k.hash w)).filterMap (fun i => es[i]?.map (·.key))).all carriedByValue) = true by simp [carriedByValue])]
    rw [if_neg (by rw [hany]; exact Bool.false_ne_true)]
    by_cases hone : (((plc es (k.hash w)).filterMap (fun i => es[i]?.map (·.key))) == [Value.ref a]) = true <;>
    (first | rw [if_pos hone] | rw [if_neg hone]) <;> (first | refine wpAny_bind (wpAny_pure ?_) | refine wpAny_bind (tell_mix hk hkd hst ?_)) <;> (
      rw [if_neg (by simp)]
      refine wpAny_bind (wpAny_forIn_list _ (fun rest b s' => s' = s ∧ ∃ i hit, b = (none, hit) ∧ rest = (List.range' i (es.size - i)).filter (hp es (k.hash w)) ∧ i ≤ es.size ∧ Seen ks k i hit) _ ?_ ?_ _ _
        ⟨rfl, 0, none, rfl, by (first | unfold placesWithHash | unfold plc placesWithHash); rw [List.range_eq_range', Nat.sub_zero], Nat.zero_le _, .inl ⟨rfl, fun _ h => absurd h (Nat.not_lt_zero _)⟩⟩)
      · rintro i' rest b s' ⟨rfl, i, hit, rfl, hr, hi, hS⟩
        obtain ⟨hix, hxn, hpx, hskip, hrest⟩ := filter_range'_cons _ _ _ _ _ hr.symm
        have hlt : i' < es.size := by omega
        have hrest' : rest = (List.range' (i' + 1) (es.size - (i' + 1))).filter (hp es (k.hash w)) := by rw [hrest]; congr 2; omega
        obtain ⟨k', h1, h2, h3, h4⟩ := x.at_ i' es[i'] (Array.getElem?_eq_getElem hlt)
        have hS' := hS.to x hix hskip
        rw [Array.getElem?_eq_getElem hlt]
        dsimp only
        have hh : (es[i'].hash == k.hash w) = true := by
          have : hp es (k.hash w) i' = true := hpx
          simpa [hp, Array.getElem?_eq_getElem hlt] using this
        rw [if_pos hh]
        refine wpAny_bind (wpAny_dictEpoch ho hd (wpAny_bind (eq_mix hu h3 h4 hk (wpAny_bind (wpAny_dictEpoch ho hd ?_)))))
        rw [if_neg (by simp)]
        by_cases e : k' = k
        · subst e
          rw [decide_eq_true rfl]
          rcases hS' with ⟨rfl, _⟩ | ⟨j, _, hj1, hj2⟩
          · first | rw [if_pos rfl] | skip
            simp only [Option.isSome_none, Bool.false_eq_true, if_false]
            first | refine wpAny_bind (wpAny_pure ?_) | skip
            refine wpAny_bind (wpAny_rule ?_)
            split
            · exact wpAny_pure (wpAny_pure (hsome i' h1))
            · exact wpAny_pure ⟨rfl, i' + 1, some i', rfl, hrest', hlt, .inr ⟨i', rfl, Nat.lt_succ_self _, h1⟩⟩
          · exact absurd (x.uniq hj2 h1) (by omega)
        · rw [decide_eq_false e]
          simp only [Bool.false_eq_true, if_false]
          refine wpAny_bind (wpAny_rule ?_)
          first | rw [if_neg (by simp)] | skip
          have q : Seen ks k (i' + 1) hit := hS'.step fun z => e (by rw [h1] at z; exact Option.some.inj z)
          first
            | exact wpAny_pure ⟨rfl, i' + 1, hit, rfl, hrest', hlt, q⟩
            | exact wpAny_bind (wpAny_pure (wpAny_pure ⟨rfl, i' + 1, hit, rfl, hrest', hlt, q⟩))
      · rintro b s' ⟨rfl, i, hit, rfl, hr, hi, hS⟩
        exact wpAny_pure (fin_of x hS hr hi hnone hsome))
theorem hash_mix {Q : Int → Shared → Prop} (hu : A.units + 8 < cLine) (hk : NestedIs s.heap k u) (hkd : k.depth ≤ 8) (h : Q (k.hash w) { s with toks := s.toks + k.draws }) : wpAny (model prog w) A (PySem.pyHash u) Q E s := pyHash_key k u A s Q hk (by omega) h
theorem get_mix {Q : Option Value → Shared → Prop} (hu : A.units + 8 < cLine) (nt : NoTxt u) (hk : NestedIs s.heap k u) (hkd : k.depth ≤ 8) (ho : s.heap.get? d = some o) (hd : o.data = .dict es ep) (x : Ents w s.heap ks es)
    (hsome : ∀ (j : Nat) (e : DictEntry), ks[j]? = some k → es[j]? = some e → Q (some e.val) { s with toks := s.toks + k.draws }) (hm : k ∈ ks) : wpAny (model prog w) A (dictGet d u) Q E s := by
  unfold dictGet
  try with_reducible refine wpAny_holding ?_
  refine wpAny_bind (hash_mix hu hk hkd (wpAny_bind (find_mix (s := { s with toks := s.toks + k.draws }) hu nt hk hkd ho hd x (fun h => absurd hm h) fun j hj => ?_)))
  refine wpAny_bind (wpAny_dictEntries (s := { s with toks := s.toks + k.draws }) ho hd ?_)
  obtain ⟨e, he, _⟩ := x.get hj
  rw [he]
  exact wpAny_pure (hsome j e hj he)
theorem getitem_mix {Q : Value → Shared → Prop} (hu : A.units + 9 < cLine) (nt : NoTxt u) (hk : NestedIs s.heap k u) (hkd : k.depth ≤ 8) (ho : s.heap.get? d = some o) (hc : o.cls = .type "dict") (hd : o.data = .dict es ep) (x : Ents w s.heap ks es)
    (hsome : ∀ (j : Nat) (e : DictEntry), ks[j]? = some k → es[j]? = some e → Q e.val { s with toks := s.toks + k.draws }) (hm : k ∈ ks) : wpAny (model prog w) A (getItem (.ref d) u) Q E s := by
  have hT : s.TypeIs (.ref d) "dict" := ⟨o, ho, hc⟩
  unfold getItem
  try with_reducible refine wpAny_holding ?_
  refine wpAny_bind (wpAny_sequenceKey hT (by decide) (wpAny_bind (wpAny_callSpecial?_slot (name := Str.ofString "__getitem__") hT slot_dict_getitem (wpAny_call_entry slot_dict_getitem hT entry_dict_getitem ?_ (args_dict_getitem _ _)))))
  show wpAny _ _ (dictGet d u >>= _) _ _ s
  exact wpAny_bind (get_mix (A := A.in1) (show A.units + 1 + 8 < cLine by omega) nt hk hkd ho hd x (fun j e h1 h2 => wpAny_pure ⟨e.val, rfl, wpAny_pure (hsome j e h1 h2)⟩) hm)
theorem set_mix {v : Value} {Q : Unit → Shared → Prop} (hu : A.units + 8 < cLine) (nt : NoTxt u) (hk : NestedIs s.heap k u) (hkd : k.depth ≤ 8) (ho : s.heap.get? d = some o) (hx : o.ExactDict) (hd : o.data = .dict es ep) (x : Ents w s.heap ks es) (hz : es.size ≤ sizeLine)
    (hnew : k ∉ ks → ∀ h' o', h'.get? d = some o' → o'.ExactDict → o'.data = .dict (es.push ⟨k.hash w, u, v⟩) (ep + 1) → Heap.SameBut d s.heap h' → Q () { s with heap := h', toks := s.toks + k.draws })
    (hold : ∀ j, ks[j]? = some k → ∀ h' o', h'.get? d = some o' → o'.ExactDict → o'.data = .dict (es.modify j fun e => { e with val := v }) ep → Heap.SameBut d s.heap h' → Q () { s with heap := h', toks := s.toks + k.draws }) : wpAny (model prog w) A (dictSet d u v) Q E s := by
  unfold dictSet
  try with_reducible refine wpAny_holding ?_
  refine wpAny_bind (hash_mix hu hk hkd ?_)
  unfold dictSetHashed
  try with_reducible refine wpAny_holding ?_
  refine wpAny_bind (find_mix (s := { s with toks := s.toks + k.draws }) hu nt hk hkd ho hd x (fun hm => ?_) fun j hj => ?_)
  · exact wpAny_bind (wpAny_rule (wpAny_updateDictKeys (hz := hz) (s := { s with toks := s.toks + k.draws }) ho hd (hnew hm _ _ (Heap.get?_update_self _ ho (Obj.isFreed_of_dict (Obj.data_mapDictKeys hd _))) (hx.mapDictKeys _) (Obj.data_mapDictKeys hd _) (Heap.SameBut.update ..))))
  · exact wpAny_bind (wpAny_rule (wpAny_bind (wpAny_updateDict (s := { s with toks := s.toks + k.draws }) ho hd (wpAny_point (hold j hj _ _ (Heap.get?_update_self _ ho (Obj.isFreed_of_dict (Obj.data_mapDict hd _))) (hx.mapDict _) (Obj.data_mapDict hd _) (Heap.SameBut.update ..))))))
theorem setitem_mix {v : Value} {Q : Unit → Shared → Prop} (hu : A.units + 9 < cLine) (nt : NoTxt u) (hk : NestedIs s.heap k u) (hkd : k.depth ≤ 8) (ho : s.heap.get? d = some o) (hx : o.ExactDict) (hd : o.data = .dict es ep) (x : Ents w s.heap ks es) (hz : es.size ≤ sizeLine)
    (hnew : k ∉ ks → ∀ h' o', h'.get? d = some o' → o'.ExactDict → o'.data = .dict (es.push ⟨k.hash w, u, v⟩) (ep + 1) → Heap.SameBut d s.heap h' → Q () { s with heap := h', toks := s.toks + k.draws })
    (hold : ∀ j, ks[j]? = some k → ∀ h' o', h'.get? d = some o' → o'.ExactDict → o'.data = .dict (es.modify j fun e => { e with val := v }) ep → Heap.SameBut d s.heap h' → Q () { s with heap := h', toks := s.toks + k.draws }) : wpAny (model prog w) A (setItem (.ref d) u v) Q E s := by
  have hT : s.TypeIs (.ref d) "dict" := ⟨o, ho, hx.1⟩
  unfold setItem
  try with_reducible refine wpAny_holding ?_
  refine wpAny_bind (wpAny_sequenceKey hT (by decide) (wpAny_bind (wpAny_callSpecial?_slot (name := Str.ofString "__setitem__") hT slot_dict_setitem (wpAny_call_entry slot_dict_setitem hT entry_dict_setitem ?_ (args_dict_setitem _ _ _)))))
  show wpAny _ _ (Builtin.Dict.notOrdered "__setitem__" ⟨[.ref d, u, v], []⟩ >>= _) _ _ s
  refine wpAny_bind (wpAny_notOrdered_dict hT ?_)
  show wpAny _ _ (dictSet d u v >>= _) _ _ s
  exact wpAny_bind (set_mix (A := A.in1) (show A.units + 1 + 8 < cLine by omega) nt hk hkd ho hx hd x hz (fun a h' o' b c e f => wpAny_pure ⟨.none, rfl, wpAny_pure (hnew a h' o' b c e f)⟩) fun j a h' o' b c e f => wpAny_pure ⟨.none, rfl, wpAny_pure (hold j a h' o' b c e f)⟩)
end
/-! ### on data -/
open L2
section
variable {X : Cx} {x : XD} {es : Es} {m : M} {k : KD} {e a b o : Expr} {pos apos : Pos} {kk : NestedKey} {p : Addr} {j : Nat} {kvs : List (NestedKey × D)} {G H : Hp} {σ : L2.St} {pins : List (Addr × Obj)} {s : Shared}
theorem ents_of (I : L2.Inv X pins σ H s) (ex : Same G H) {kvs : List (NestedKey × D)} {xs : List (NestedKey × V × V)} {ents : Array DictEntry} (kv : KvOk X.K G kvs xs) (pr : Paired (fun (x : NestedKey × V × V) (e : DictEntry) => e.hash = x.1.hash X.w ∧ RelV x.2.1 e.key ∧ RelV x.2.2 e.val) xs ents.toList)
    (hn : (kvs.map (·.1)).Nodup) (hd : ∀ q ∈ kvs, q.1.depth ≤ 8) : Ents X.w s.heap (kvs.map (·.1)) ents := by
  have go : ∀ {kvs : List (NestedKey × D)} {xs : List (NestedKey × V × V)} {es : List DictEntry}, KvOk X.K G kvs xs → Paired (fun (x : NestedKey × V × V) (e : DictEntry) => e.hash = x.1.hash X.w ∧ RelV x.2.1 e.key ∧ RelV x.2.2 e.val) xs es → (∀ q ∈ kvs, q.1.depth ≤ 8) →
      ∀ (i : Nat) (e : DictEntry), es[i]? = some e → ∃ k : NestedKey, (kvs.map (·.1))[i]? = some k ∧ e.hash = k.hash X.w ∧ NestedIs s.heap k e.key ∧ k.depth ≤ 8 := by
    intro kvs xs es kv
    induction kv generalizing es with
    | nil => intro pr _ i e he; cases pr; simp at he
    | @cons q x kvs xs h t ih =>
      intro pr hd i e he
      cases pr with
      | cons h2 t2 =>
        cases i with
        | zero =>
          simp at he
          subst he
          refine ⟨q.1, rfl, by rw [h2.1, h.1], KeyR.is I ex q.1 _ _ h.2.1 h2.2.1, hd q List.mem_cons_self⟩
        | succ i =>
          obtain ⟨k, h1, r⟩ := ih t2 (fun q hq => hd q (List.mem_cons_of_mem _ hq)) i e (by simpa using he)
          exact ⟨k, by simpa using h1, r⟩
  refine ⟨fun i e he => go kv pr hd i e (by rw [Array.getElem?_toList]; exact he), ?_, hn⟩
  rw [List.length_map, kv.len, ← Array.length_toList]
  exact (Paired.length pr).symm
theorem dGet_at : ∀ {kvs : List (NestedKey × D)} {kk : NestedKey} {d : D}, (kvs.map (·.1)).Nodup → dGet kvs kk = some d → ∃ i : Nat, kvs[i]? = some (kk, d)
  | [], _, _, _, h => by cases h
  | q :: r, kk, d, hn, h => by
    unfold dGet at h
    rw [List.find?_cons] at h
    by_cases e : q.1 = kk
    · rw [decide_eq_true e] at h
      have h : some q.2 = some d := h
      cases h
      exact ⟨0, by simp [← e]⟩
    · rw [decide_eq_false e] at h
      rw [List.map_cons, List.nodup_cons] at hn
      obtain ⟨i, hi⟩ := dGet_at (kvs := r) hn.2 h
      exact ⟨i + 1, by simpa using hi⟩
def noTxt : NestedKey → Prop
  | .none => True
  | .tup _ => True
  | _ => False
theorem noTxt_of {v : V} {u : Value} (nt : noTxt kk) (h : KeyR X.K G kk v) (r : RelV v u) : NoTxt u := by
  cases kk with
  | none => cases h; cases r; exact .inl rfl
  | tup ks => cases h; exact .inr ⟨_, r⟩
  | num _ => exact nt.elim
  | text _ => exact nt.elim
structure DMx (m : M) (j : Nat) (p : Addr) (kvs : List (NestedKey × D)) : Prop where
  at_ : m[j]? = some (p, .dct kvs)
/-- d[k], there -/
theorem ec_mget (hu : X.A.units + 9 < cLine) (h : EC X x es m o fun do_ m1 => EC X x es m1 a fun dk m2 => ∃ (p : Addr) (j : Nat) (kvs : List (NestedKey × D)) (kk : NestedKey) (d : D), do_ = .raw (.ref p) ∧ DMx m2 j p kvs ∧ dk.key = some kk ∧ noTxt kk ∧ kk.depth ≤ 8 ∧ dGet kvs kk = some d ∧ k d m2)
    (hsl : NoSl a := by intro _ _; rfl) : EC X x es m (.Subscript o a pos) k := by
  intro G σ H Q w st q pins s I
  refine subD_of PySem.F.slot_dict_getitem.lookup hsl (thn (h.run w st I) fun u s1 ⟨v1, H1, I1, r1, d1, m1, G1, k1, e1, h1, p1⟩ => thn (k1.run (w.mono e1) (st.mono e1 h1) I1) fun u2 s2 ⟨v2, H2, I2, r2, d2, m2, G2, ⟨p, j, kvs, kk, d, hdo, dk, hk, ht, hd, hg, z⟩, e2, h2, p2⟩ => ?_)
  subst hdo
  cases p1
  cases r1
  obtain ⟨xs, hH, kv, hn, hdp⟩ := (h2.get dk.at_).2
  obtain ⟨hl, hsys, ob, ents, ep, ho, hex, hdt, pr⟩ := dct_at I2 (.inl hH)
  have kr := Rp.key d2 v2 kk hk p2
  have E2 := ents_of I2 h2.ex kv pr hn hdp
  obtain ⟨i, hi⟩ := dGet_at hn hg
  have hmem : kk ∈ kvs.map (·.1) := List.mem_map.mpr ⟨_, List.mem_of_getElem? hi, rfl⟩
  refine ⟨⟨ob, ho, hex.1⟩, getitem_mix hu (noTxt_of ht kr r2) (KeyR.is I2 h2.ex kk _ _ kr r2) hd ho hex.1 hdt E2 (fun l en hl1 hl2 => ?_) hmem⟩
  have hil : l = i := E2.uniq hl1 (by rw [List.getElem?_map, hi]; rfl)
  subst hil
  have hx : ∃ y, xs[l]? = some y ∧ Rp X.K G2 d y.2.2 := by
    have : ∀ {kvs : List (NestedKey × D)} {xs : List (NestedKey × V × V)}, KvOk X.K G2 kvs xs → ∀ {l : Nat}, kvs[l]? = some (kk, d) → ∃ y, xs[l]? = some y ∧ Rp X.K G2 d y.2.2 := by
      intro kvs xs kv
      induction kv with
      | nil => intro l h; simp at h
      | cons h t ih =>
        intro l hl
        cases l with
        | zero => simp at hl; subst hl; exact ⟨_, rfl, h.2.2⟩
        | succ l => obtain ⟨y, h1, h2⟩ := ih (l := l) (by simpa using hl); exact ⟨y, by simpa using h1, h2⟩
    exact this kv hi
  obtain ⟨y, hy, ry⟩ := hx
  have hr : RelV y.2.2 en.val := by
    have : ∀ {xs : List (NestedKey × V × V)} {es : List DictEntry}, Paired (fun (x : NestedKey × V × V) (e : DictEntry) => e.hash = x.1.hash X.w ∧ RelV x.2.1 e.key ∧ RelV x.2.2 e.val) xs es → ∀ {l : Nat}, xs[l]? = some y → es[l]? = some en → RelV y.2.2 en.val := by
      intro xs es pr
      induction pr with
      | nil => intro l h; simp at h
      | cons h t ih =>
        intro l h1 h2
        cases l with
        | zero => simp at h1 h2; subst h1 h2; exact h.2.2
        | succ l => exact ih (l := l) (by simpa using h1) (by simpa using h2)
    exact this pr hy (by rw [Array.getElem?_toList]; exact hl2)
  exact ⟨y.2.2, H2, I2.tok _, hr, ((q.mono e1).mono e2).now h2 z ry⟩
theorem mix_rel {w : World} {xs : List (NestedKey × V × V)} {ents : List DictEntry} {kk : NestedKey} {ka v : V} {u r : Value} (pr : Paired (fun (x : NestedKey × V × V) (e : DictEntry) => e.hash = x.1.hash w ∧ RelV x.2.1 e.key ∧ RelV x.2.2 e.val) xs ents) (ra : RelV ka u) (rv : RelV v r) :
    Paired (fun (x : NestedKey × V × V) (e : DictEntry) => e.hash = x.1.hash w ∧ RelV x.2.1 e.key ∧ RelV x.2.2 e.val) (xs ++ [(kk, ka, v)]) (ents ++ [⟨kk.hash w, u, r⟩]) := by
  induction pr with
  | nil => exact .cons ⟨rfl, ra, rv⟩ .nil
  | cons h t ih => exact .cons h ih
theorem mix_mod {w : World} {kk : NestedKey} {v : V} {r : Value} (rv : RelV v r) : ∀ {xs : List (NestedKey × V × V)} {ents : List DictEntry}, Paired (fun (x : NestedKey × V × V) (e : DictEntry) => e.hash = x.1.hash w ∧ RelV x.2.1 e.key ∧ RelV x.2.2 e.val) xs ents → (xs.map (·.1)).Nodup → ∀ {l : Nat}, (xs.map (·.1))[l]? = some kk →
    Paired (fun (x : NestedKey × V × V) (e : DictEntry) => e.hash = x.1.hash w ∧ RelV x.2.1 e.key ∧ RelV x.2.2 e.val) (xs.map fun x => if x.1 = kk then (x.1, x.2.1, v) else x) (ents.modify l fun e => { e with val := r }) := by
  intro xs ents pr
  induction pr with
  | nil => intro _ l h; simp at h
  | @cons x e xs es h t ih =>
    intro hn l hl
    rw [List.map_cons, List.nodup_cons] at hn
    cases l with
    | zero =>
      have e0 : x.1 = kk := by simpa using hl
      have same : ∀ {xs : List (NestedKey × V × V)}, kk ∉ xs.map (·.1) → (xs.map fun x => if x.1 = kk then (x.1, x.2.1, v) else x) = xs := by
        intro xs
        induction xs with
        | nil => intro _; rfl
        | cons y ys ih2 =>
          intro hm
          simp only [List.map_cons, List.mem_cons, not_or] at hm
          rw [List.map_cons, if_neg (fun q => hm.1 q.symm), ih2 hm.2]
      rw [List.map_cons, if_pos e0, same (e0 ▸ hn.1)]
      exact .cons ⟨h.1, h.2.1, rv⟩ t
    | succ l =>
      have hl : (xs.map (·.1))[l]? = some kk := by simpa using hl
      have e0 : x.1 ≠ kk := fun q => hn.1 (q ▸ List.mem_of_getElem? hl)
      rw [List.map_cons, if_neg e0]
      exact .cons h (ih hn.2 hl)
/-- the dict behind a store -/
theorem mix_inv {xs : List (NestedKey × V × V)} {h' : Heap} {o' : Obj} {ents : Array DictEntry} {ep t' : Nat} (I : L2.Inv X pins σ H s) (mu : Mut (H p)) (hsys : (p == sysModules) = false) (ho : h'.get? p = some o') (hx : o'.ExactDict) (hd : o'.data = .dict ents ep) (hz : xs.length ≤ sizeLine)
    (pr : Paired (fun (x : NestedKey × V × V) (e : DictEntry) => e.hash = x.1.hash X.w ∧ RelV x.2.1 e.key ∧ RelV x.2.2 e.val) xs ents.toList) (sb : Heap.SameBut p s.heap h') : L2.Inv X pins σ (upd H p (DctO X.w p xs)) { s with heap := h', toks := t' } := by
  refine d_write I mu sb ⟨o', ho⟩ ⟨⟨hz, hsys, o', ents, ep, ho, hx, hd, pr⟩, ⟨o', ho⟩, fun h1 h2 w st => ?_⟩
  obtain ⟨w1, w2, o, ents, ep, ho, r⟩ := w
  exact ⟨w1, w2, o, ents, ep, st o ho, r⟩
theorem kv_keys1 {K : PySem.W.Frag} {xs : List (NestedKey × V × V)} (kv : KvOk K G kvs xs) : xs.map (·.1) = kvs.map (·.1) := by
  induction kv with
  | nil => rfl
  | cons h t ih => rw [List.map_cons, List.map_cons, ih, h.1]
theorem xGet_none {xs : List (NestedKey × V × V)} (h : kk ∉ xs.map (·.1)) : xGet xs kk = none := by
  unfold xGet
  rw [Option.map_eq_none_iff, List.find?_eq_none]
  intro y hy e
  exact h (List.mem_map.mpr ⟨y, hy, of_decide_eq_true e⟩)
theorem xGet_some {xs : List (NestedKey × V × V)} (h : kk ∈ xs.map (·.1)) : (xGet xs kk).isSome = true := by
  unfold xGet
  rw [Option.isSome_map, List.find?_isSome]
  obtain ⟨y, hy, e⟩ := List.mem_map.mp h
  exact ⟨y, hy, decide_eq_true e⟩
/-- what a store leaves -/
def MPut (X : Cx) (pins : List (Addr × Obj)) (σ : L2.St) (G : Hp) (m : M) (j : Nat) (p : Addr) (kvs : List (NestedKey × D)) (kk : NestedKey) (d : D) (s' : Shared) : Prop := ∃ H', L2.Inv X pins σ H' s' ∧ Hs X.K X.w G (m.set j (p, .dct (dPut kvs kk d))) H'
theorem mput_ok {ka v : V} {u r : Value} {d : D} (hs : Hs X.K X.w G m H) (hm : m[j]? = some (p, .dct kvs)) (I : L2.Inv X pins σ H s) (hz : kvs.length ≤ 100000) (hd : kk.depth ≤ 8) (kr : KeyR X.K G kk ka) (ra : RelV ka u) (rv : RelV v r) (rd : Rp X.K G d v) :
    ∃ (o : Obj) (ents : Array DictEntry) (ep : Nat), s.heap.get? p = some o ∧ o.ExactDict ∧ o.data = .dict ents ep ∧ Ents X.w s.heap (kvs.map (·.1)) ents ∧ ents.size ≤ sizeLine ∧
      (kk ∉ kvs.map (·.1) → ∀ h' o' t', h'.get? p = some o' → o'.ExactDict → o'.data = .dict (ents.push ⟨kk.hash X.w, u, r⟩) (ep + 1) → Heap.SameBut p s.heap h' → MPut X pins σ G m j p kvs kk d { s with heap := h', toks := t' }) ∧
      (∀ l : Nat, (kvs.map (·.1))[l]? = some kk → ∀ h' o' t', h'.get? p = some o' → o'.ExactDict → o'.data = .dict (ents.modify l fun e => { e with val := r }) ep → Heap.SameBut p s.heap h' → MPut X pins σ G m j p kvs kk d { s with heap := h', toks := t' }) := by
  obtain ⟨xs, hH, kv, hn, hdp⟩ := (hs.get hm).2
  obtain ⟨hl, hsys, o, ents, ep, ho, hex, hdt, pr⟩ := dct_at I (.inl hH)
  have hxl : xs.length ≤ 100000 := by rw [← kv.len]; exact hz
  have hes : ents.size = xs.length := by rw [← Array.length_toList]; exact (Paired.length pr).symm
  have keys := kv_keys1 kv
  have hput := hs.dput hm kv hn hdp hd kr rd
  have hzp : (xPut xs kk ka v).length ≤ sizeLine := Nat.le_trans xPut_len (Nat.le_trans (Nat.succ_le_succ hxl) (by decide))
  refine ⟨o, ents, ep, ho, hex, hdt, ents_of I hs.ex kv pr hn hdp, by omega, fun hno h' o' t' e1 e2 e3 e4 => ?_, fun l hl' h' o' t' e1 e2 e3 e4 => ?_⟩
  · have ex : xPut xs kk ka v = xs ++ [(kk, ka, v)] := by
      unfold xPut
      rw [xGet_none (by rw [keys]; exact hno)]
      rfl
    exact ⟨_, mix_inv I (by rw [hH]; exact True.intro) hsys e1 e2 e3 hzp (by rw [ex, Array.toList_push]; exact mix_rel pr ra rv) e4, hput⟩
  · have ex : xPut xs kk ka v = xs.map fun x => if x.1 = kk then (x.1, x.2.1, v) else x := by
      unfold xPut
      rw [if_pos (xGet_some (by rw [keys]; exact List.mem_of_getElem? hl'))]
    exact ⟨_, mix_inv I (by rw [hH]; exact True.intro) hsys e1 e2 e3 hzp (by rw [ex, Array.toList_modify]; exact mix_mod rv pr (by rw [keys]; exact hn) (by rw [keys]; exact hl')) e4, hput⟩
/-- d[k] = e -/
theorem ss_mput {E : DE} (hu : X.A.units + 9 < cLine) (h : EC X x es m e fun d m0 => EC X x es m0 o fun do_ m1 => EC X x es m1 a fun dk m2 => ∃ (p : Addr) (j : Nat) (kvs : List (NestedKey × D)) (kk : NestedKey), do_ = .raw (.ref p) ∧ DMx m2 j p kvs ∧ dk.key = some kk ∧ noTxt kk ∧ kk.depth ≤ 8 ∧ kvs.length ≤ 100000 ∧
      E.nx es (m2.set j (p, .dct (dPut kvs kk d)))) (hsw : swapsWith e (some (.Subscript o a apos)) pos.line X.env = pure false := by rfl) : SS X x es m (.Assign [.Subscript o a apos] e pos) E := by
  intro G σ H Dn w st hln re pins s I
  refine wpAny_Assign_Subscript (thn (h.run w st I) fun u0 s0 ⟨v0, H0, I0, r0, d0, m0, G0, k0, e0, h0, p0⟩ => thn (k0.run (w.mono e0) (st.mono e0 h0) I0) fun u s1 ⟨v1, H1, I1, r1, d1, m1, G1, k1, e1, h1, p1⟩ =>
    thn (k1.run (w.mono (e0.trans e1)) (st.mono (e0.trans e1) h1) I1) fun u2 s2 ⟨v2, H2, I2, r2, d2, m2, G2, ⟨p, j, kvs, kk, hdo, dk, hk, ht, hd, hz, z⟩, e2, h2, p2⟩ => ?_) hsw
  subst hdo
  cases p1
  cases r1
  have kr := Rp.key d2 v2 kk hk p2
  obtain ⟨ob, ents, ep, ho, hex, hdt, hE, hsz, g1, g2⟩ := mput_ok h2 dk.at_ I2 hz hd kr r2 r0 (p0.mono (e1.trans e2))
  have fin : ∀ s', MPut X pins σ G2 m2 j p kvs kk d0 s' → SP X pins Dn .next s' := fun s' ⟨H', I', h'⟩ => ⟨σ, H', I', re.nx es _ G2 σ _ z ((e0.trans e1).trans e2) (st.mono ((e0.trans e1).trans e2) h') hln⟩
  exact setitem_mix hu (noTxt_of ht kr r2) (KeyR.is I2 h2.ex kk _ _ kr r2) hd ho hex hdt hE hsz (fun a h' o' b c e f => fin _ (g1 a h' o' _ b c e f)) fun l a h' o' b c e f => fin _ (g2 l a h' o' _ b c e f)
/-- {k: v} -/
theorem ec_dict1 {kx vx : Expr} (hu : X.A.units + 9 < cLine) (h : ∀ p, EC X x es ((p, .dct []) :: m) kx fun dk m1 => EC X x es m1 vx fun dv m2 => ∃ m3 kk, m2 = (p, .dct []) :: m3 ∧ dk.key = some kk ∧ noTxt kk ∧ kk.depth ≤ 8 ∧ k (.raw (.ref p)) ((p, .dct [(kk, dv)]) :: m3)) : EC X x es m (.Dict [some kx] [vx] pos) k := by
  intro G σ H Q w st q pins s I
  have hf := I.hok.fresh (Nat.le_refl _)
  have J := I.laid (a := s.heap.objs.size) (o := DctO X.w s.heap.objs.size []) (t' := s.toks) (fun _ _ q => Heap.get?_push_of_some _ q) (Nat.le_refl _) (dct0_ok (X := X) (upd H s.heap.objs.size (DctO X.w s.heap.objs.size [])) s.heap I.big)
  have h0 := st.hs.newM (o := .dct []) (u := DctO X.w s.heap.objs.size []) hf ⟨[], upd_same, .nil, List.nodup_nil, fun q hq => by simp at hq⟩
  refine wpAny_Dict_any rfl rfl (by simp) (by simp) ?_
  show wpAny _ _ (evalPairs [(eval kx X.env, do let x ← eval vx X.env; standAt pos; pure x)]) _ _ _
  unfold evalPairs
  refine wpAny_bind (thn ((h s.heap.objs.size).run w ⟨h0, st.env⟩ J) fun u1 s1 ⟨v1, H1, I1, r1, dk, m1, G1, k1, e1, h1, p1⟩ => wpAny_bind (wpAny_holding (wpAny_bind (thn (k1.run (w.mono e1) ⟨h1, st.env.mono e1⟩ I1) fun u2 s2 ⟨v2, H2, I2, r2, dv, m2, G2, ⟨m3, kk, em, hk, ht, hd, z⟩, e2, h2, p2⟩ => ?_))))
  subst em
  refine wpAny_bind (wpAny_standAt (wpAny_pure ?_))
  unfold evalPairs
  refine wpAny_bind (wpAny_holding (wpAny_pure (wpAny_pure ?_)))
  show wpAny _ _ (forIn [(u1, u2)] PUnit.unit fun (x : Value × Value) (_ : PUnit) => (do dictSet s.heap.objs.size x.1 x.2; pure (ForInStep.yield PUnit.unit) : Sem (ForInStep PUnit))) _ _ _
  rw [List.forIn_cons]
  have kr := (Rp.key dk v1 kk hk p1).mono e2
  obtain ⟨ob, ents, ep, ho, hex, hdt, hE, hsz, g1, g2⟩ := mput_ok (j := 0) h2 rfl I2 (Nat.zero_le _) hd kr r1 r2 p2
  have fin : ∀ s', MPut X pins σ G2 ((s.heap.objs.size, .dct []) :: m3) 0 s.heap.objs.size [] kk dv s' → EP X pins σ Q (.ref s.heap.objs.size) s' := fun s' ⟨H', I', h'⟩ => ⟨.ref s.heap.objs.size, H', I', rfl, q _ _ _ G2 _ z (e1.trans e2) h' (.raw _)⟩
  refine wpAny_bind (wpAny_bind (set_mix (by omega) (noTxt_of ht kr r1) (KeyR.is I2 h2.ex kk _ _ kr r1) hd ho hex hdt hE hsz (fun a h' o' b c e f => ?_) fun l a h' o' b c e f => ?_))
  · exact wpAny_pure (wpAny_pure (fin _ (g1 a h' o' _ b c e f)))
  · exact wpAny_pure (wpAny_pure (fin _ (g2 l a h' o' _ b c e f)))
end
end SG
set_option maxHeartbeats 4000000
/-! SgGen: for in a generator's body. -/
namespace SG
open PySem PySem.Spec PyProof.Rows L2 GenW
section
variable {prog : Program} {w : World} {A : Around} {R : GenEnd} {Y : Protocol} {n : Nat} {s₀ s : Shared} {fs : List Frame} {env : PySem.Env}
/-- how a loop's code is left by an exception -/
abbrev lvX (env : PySem.Env) (e : Value) : Sem PySem.Fin := (do noteFrame e env; theTreesLotGoes e : Sem Unit).wrap (fun _ => .raise e) .raise id id
theorem seg_forL {tg : Expr} {it : Value} {body : List Stmt} {c : Code} (hc : c = .forLoop tg it body [] env)
    (h : wpAny (model prog w) (A.over c fs) (pyNext it) (fun r s' => match r with
      | none => Seg (model prog w) A R Y n s₀ (.block [] env) ((model prog w).den (.block [] env)) fs s'
      | some v => wpAny (model prog w) (A.over c fs) (letOwnedTupleGo tg it v) (fun _ s1 => wpAny (model prog w) (A.over c fs) (assign tg env v) (fun _ s2 =>
          Seg (model prog w) A R Y n s₀ c ((execs body env).wrap (fun f => match f with | .next => .pure (.again c) | .cont => .pure (.again c) | .brk => .pure (.done .next) | .ret v => .pure (.done (.ret v))) (lvX env) id id) fs s2)
          (fun x s' => Seg (model prog w) A R Y n s₀ c (lvX env x) fs s') s1) (fun x s' => Seg (model prog w) A R Y n s₀ c (lvX env x) fs s') s')
      (fun x s' => Seg (model prog w) A R Y n s₀ c (lvX env x) fs s') s) : Seg (model prog w) A R Y n s₀ c ((model prog w).den c) fs s := by
  have hx : ∀ x s', Seg (model prog w) A R Y n s₀ c (lvX env x) fs s' → Seg (model prog w) A R Y n s₀ c ((do noteFrame x env; theTreesLotGoes x : Sem Unit).bind fun _ => .raise x) fs s' := fun x s' q => by rw [Sem.bind_eq_wrap]; exact q
  rw [hc]
  show Seg _ A R Y n s₀ _ ((forTurn tg it body [] env).onRaise (fun x => do noteFrame x env; theTreesLotGoes x)) fs s
  rw [← hc]
  unfold forTurn
  rw [Sem.onRaise_eq_wrap]
  refine seg_bind_wrap (wpAny_standAt (seg_bind_wrap (wpAny_onRaise (wpAny_mono h (fun r s1 h1 => ?_) fun x s' q => wpAny_standAt (hx x s' q)))))
  cases r with
  | none =>
    show Seg _ A R Y n s₀ c (.pure (.again (.block [] env))) fs s1
    exact seg_again rfl h1
  | some v =>
    refine seg_bind_wrap (wpAny_mono h1 (fun _ s2 h2 => seg_bind_wrap (wpAny_mono h2 (fun _ s3 h3 => ?_) fun x s' q => hx x s' q)) fun x s' q => hx x s' q)
    rw [Sem.bind_eq_wrap', Sem.wrap_wrap]
    rw [Sem.wrap_congr (execs body env) _ _ (K' := fun f => match f with | .next => .pure (.again c) | .cont => .pure (.again c) | .brk => .pure (.done .next) | .ret v => .pure (.done (.ret v))) (H' := lvX env)
      (fun f => by subst hc; cases f <;> rfl) (fun e => by first | exact Sem.bind_eq_wrap _ _ | (show (do noteFrame e env; theTreesLotGoes e : Sem Unit).bind (fun _ => .raise e) = _; rw [Sem.bind_eq_wrap]))]
    exact h3
theorem seg_blk0 (h : Seg (model prog w) A R Y n s₀ (.block [] env) (.pure (.done .next)) fs s) : Seg (model prog w) A R Y n s₀ (.block [] env) ((model prog w).den (.block [] env)) fs s := by
  show Seg _ A R Y n s₀ _ ((execs [] env).onRaise (fun x => do noteFrame x env; theTreesLotGoes x) >>= fun f => pure (PySem.Fin.done f)) fs s
  exact seg_bind (wpAny_onRaise (wpAny_execs_nil h))
end
section
variable {X : Cx} {tg iter : Expr} {body : List Stmt} {pos : Pos} {wi : TI} {g : TG} {tb : TGn}
def tGFor (wi : TI) (g : TG) (tb : TGn) : TGn := fun D ys σ H => wi σ H fun J H1 => ∃ W : Nat → Nat → List V → L2.St → Hp → Prop, (∃ m, W 0 m ys σ H1) ∧ ∀ i m ys σ H, W i m ys σ H →
  (J.stop i H ∧ D.nx ys σ H) ∨ (J.go i H ∧ ∃ N : List V → L2.St → Hp → Prop, (∀ ys' σ' H', N ys' σ' H' → ∃ m', m' < m ∧ W (i + 1) m' ys' σ' H') ∧ ∀ x H', J.yld i H x H' → g x σ H' fun σ2 H2 => tb { D with nx := N, ct := N, bk := D.nx } ys σ2 H2)
/-- pins put in order -/
theorem GI.pins {S : Addr} {ip : List (Addr × Obj)} {ys : List V} {σ : L2.St} {H : Hp} {s : Shared} {acc : Array Value} {c : Nat} {q : List (Addr × Obj)} (r : Vals ys acc.toList) (I : L2.Inv X (((S, lstObj acc c) :: ip) ++ q) σ H s) : GI X S (ip ++ q) ys σ H s := ⟨acc, c, r, I⟩
theorem gs_for (hp : PassesOwn (model X.prog X.w) X.A X.env X.xe) (hc : X.calm = true) (hi : PI X tg iter wi) (hg : PG X tg g) (hb : GSs X body tb) (hs : ∀ x, foldedSetIterable iter X.env x = pure x := by intro _; rfl) : GS X (.For tg iter body [] pos) (tGFor wi g tb) := by
  refine ⟨fun A S ip R n ys s₀ c fs K J gd lv s σ H D gc hn k hI ht => ?_⟩
  obtain ⟨acc, cc, rr, I⟩ := hI
  rw [exec_For]
  refine seg_bind_wrap (wpAny_standAt (seg_bind_wrap ?_))
  rw [gc.over]
  refine wpAny_mono (hi.run _ s σ H _ I ht) (fun v s1 h1 => seg_bind_wrap (wpAny_of_eq (hs v) (seg_bind_wrap (wpAny_standAt (seg_bind_wrap (wpAny_holding ?_)))))) fun x s' hx => k.exc n s₀ x s' hx
  rw [gc.over]
  refine wpAny_mono h1 (fun itv s2 h2 => ?_) fun x s' hx => k.exc n s₀ x s' hx
  obtain ⟨it, fp, tn, JJ, H2, e, I2, T, st2, f2, W, ⟨m0, w0⟩, turn⟩ := h2
  subst e
  refine seg_call fun p => ?_
  have gl := fun (kk : Result → Sem PySem.Fin) => gc_loop (k := kk) (c' := .forLoop tg (.ref it) body [] X.env) (l := lv []) (kp := []) (p := p) gc rfl rfl
  have glb := fun (kk : Result → Sem PySem.Fin) => gc_loop (k := kk) (c' := .block [] X.env) (l := lv []) (kp := []) (p := p) gc rfl rfl
  have stat : ∀ {H' : Hp}, (∀ b ∈ fp, H' b = none) → ∀ {ac : Array Value} {c : Nat}, ∀ b ∈ fp, FpOk X ((S, lstObj ac c) :: ip) H' b := by
    intro H' hn ac c b hb
    obtain ⟨_, a1, a2, a3, a4, a5⟩ := f2 b hb
    refine ⟨hn b hb, a1, a2, a3, a4, fun p hp => ?_⟩
    rcases List.mem_append.mp hp with hp | hp
    · exact a5 p (List.mem_append_left _ hp)
    · rcases List.mem_cons.mp hp with rfl | hp
      · exact a5 (S, lstObj acc cc) (List.mem_append_right _ List.mem_cons_self)
      · exact a5 p (List.mem_append_right _ (List.mem_cons_of_mem _ hp))
  have loop : ∀ (m n : Nat) (ys : List V) (s₀ s : Shared) (σ : L2.St) (H : Hp) (i : Nat), n + ys.length = sizeLine → W i m ys σ H → GI X S ip ys σ H s → tn i s.heap → (∀ b ∈ fp, H b = none) →
      Seg (model X.prog X.w) A R (GY X S) n s₀ (.forLoop tg (.ref it) body [] X.env) ((model X.prog X.w).den (.forLoop tg (.ref it) body [] X.env))
        (.ret (fun r => ((match r with | .ok f => (.pure f : Sem Flow) | .error e => .raise e).onRaise (cameBack X.env)).wrap K J gd lv) none (gd false) (lv []) c p [] :: fs) s := by
    intro m
    induction m using Nat.strongRecOn with
    | ind m ih =>
      intro n ys s₀ s σ H i hn w hI st fr
      have ee : ∀ (n : Nat) (s₀ : Shared) (x : Value) (s' : Shared), X.xe x s' → Seg (model X.prog X.w) A R (GY X S) n s₀ (.forLoop tg (.ref it) body [] X.env) (lvX X.env x)
          (.ret (fun r => ((match r with | .ok f => (.pure f : Sem Flow) | .error e => .raise e).onRaise (cameBack X.env)).wrap K J gd lv) none (gd false) (lv []) c p [] :: fs) s' := fun n s₀ x s' hx => by
        refine seg_wrap ?_
        rw [(gl _).over]
        refine wpAny_bind (wpAny_mono (hp x s' hx) (fun _ s'' hcb => wpAny_theTreesLotGoes (seg_leaf (.error x) (seg_cameBack gc k hcb))) fun y s'' hcb => seg_leaf (.error y) (seg_cameBack gc k hcb))
      refine seg_forL rfl ?_
      rw [(gl _).over]
      obtain ⟨ac, cn, r, I⟩ := hI
      rcases turn i m ys σ H w with ⟨stop, qn⟩ | ⟨go, N, hN, step⟩
      · refine wpAny_mono (T.done X rfl rfl rfl hc i _ s σ H X.xe I (stat fr) st stop) (fun r4 s4 ⟨hr, I4⟩ => ?_) fun x s' hx => ee n s₀ x s' hx
        subst hr
        exact seg_blk0 (seg_leaf (.ok .next) (k.ok n ys s₀ s4 .next hn ⟨σ, H, ⟨ac, cn, r, I4⟩, qn⟩))
      · refine wpAny_mono (T.item X rfl rfl rfl hc i _ s σ H X.xe I (stat fr) st go) (fun r4 s4 ⟨u, hr, h4⟩ => ?_) fun x s' hx => ee n s₀ x s' hx
        subst hr
        refine wpAny_mono h4 (fun _ s5 ⟨x, H5, I5, r5, y5, st5, fr5⟩ => ?_) fun x s' hx => ee n s₀ x s' hx
        have I5' := I5.pinned (stat fr5) (T.obj _ _ st5)
        refine wpAny_mono (hg.run _ s5 σ H5 x u _ I5' r5 (step x H5 y5)) (fun _ s6 ⟨σ6, H6, I6, q6⟩ => ?_) fun x s' hx => ee n s₀ x s' hx
        have notS : ∀ q ∈ ip ++ pinsAt fp s5.heap, q.1 ≠ S := fun q hq => by
          rcases List.mem_append.mp hq with hq | hq
          · exact gc.ip q hq
          · have hb : q.1 ∈ fp := by
              unfold pinsAt at hq
              obtain ⟨b, hb, e⟩ := List.mem_filterMap.mp hq
              cases ho : s5.heap.get? b with
              | none => rw [ho] at e; cases e
              | some o =>
                rw [ho] at e
                cases e
                exact hb
            exact Ne.symm ((f2 q.1 hb).2.2.2.2.2 (S, lstObj acc cc) (List.mem_append_right _ List.mem_cons_self))
        have gc2 : GC X S (ip ++ pinsAt fp s5.heap) A c fs gd := ⟨gc.pn, notS, gc.apart, gc.over, gc.split, gc.guard, gc.gd⟩
        have back : ∀ {ys' : List V} {σ7 : L2.St} {H7 : Hp} {s7 : Shared}, GI X S (ip ++ pinsAt fp s5.heap) ys' σ7 H7 s7 → GI X S ip ys' σ7 H7 s7 ∧ tn (i + 1) s7.heap ∧ ∀ b ∈ fp, H7 b = none := fun {ys' σ7 H7 s7} ⟨a7, c7, r7, I7⟩ => by
          have I7 : L2.Inv X (((S, lstObj a7 c7) :: ip) ++ pinsAt fp s5.heap) σ7 H7 s7 := I7
          have at_ : ∀ b ∈ fp, ∀ o, s5.heap.get? b = some o → s7.heap.get? b = some o ∧ H7 b = none := fun b hb o e => (I7.pin (b, o) (List.mem_append_right _ (List.mem_append_right _ (mem_pinsAt hb e)))).imp id (·.1)
          refine ⟨⟨a7, c7, r7, I7.unpinned⟩, T.keep _ _ _ st5 fun b hb o e => (at_ b hb o e).1, fun b hb => ?_⟩
          obtain ⟨o, e, _⟩ := T.obj _ _ st5 b hb
          exact (at_ b hb o e).2
        refine hb.run A S (ip ++ pinsAt fp s5.heap) R n ys s₀ _ _ _ _ id id s6 σ6 H6 { D with nx := N, ct := N, bk := D.nx } (gc_loop gc2 rfl rfl) hn ⟨fun n' ys' s₀' s7 f hn' hs => ?_, fun n' s₀' x s3 hx => ee n' s₀' x s3 hx⟩ ⟨ac, cn, r, I6⟩ q6
        cases f with
        | next =>
          obtain ⟨σ7, H7, I7, n7⟩ := hs
          obtain ⟨m', hm, w7⟩ := hN ys' σ7 H7 n7
          obtain ⟨b1, b2, b3⟩ := back I7
          exact seg_again rfl (ih m' hm n' ys' s₀' s7 σ7 H7 (i + 1) hn' w7 b1 b2 b3)
        | cont =>
          obtain ⟨σ7, H7, I7, n7⟩ := hs
          obtain ⟨m', hm, w7⟩ := hN ys' σ7 H7 n7
          obtain ⟨b1, b2, b3⟩ := back I7
          exact seg_again rfl (ih m' hm n' ys' s₀' s7 σ7 H7 (i + 1) hn' w7 b1 b2 b3)
        | brk =>
          obtain ⟨σ7, H7, I7, q7⟩ := hs
          exact seg_leaf (.ok .next) (k.ok n' ys' s₀' s7 .next hn' ⟨σ7, H7, (back I7).1, q7⟩)
        | ret v =>
          obtain ⟨x7, σ7, H7, I7, r7, q7⟩ := hs
          exact seg_leaf (.ok (.ret v)) (k.ok n' ys' s₀' s7 (.ret v) hn' ⟨x7, σ7, H7, (back I7).1, r7, q7⟩)
  exact loop m0 n ys s₀ s2 σ H2 0 hn w0 ⟨acc, cc, rr, I2⟩ st2 fun b hb => (f2 b hb).1
end
end SG
set_option maxHeartbeats 4000000
/-! SgTac: the steps that the form of the code tells. -/
namespace SG
open PySem PySem.Spec PyProof.Rows L2
/-- the builtins' names are free -/
structure Free (mg : Str → Option Value) : Prop where
  range : mg "range" = none
  len : mg "len" = none
  int : mg "int" = none
  list : mg "list" = none
  tuple : mg "tuple" = none
  sum : mg "sum" = none
  min : mg "min" = none
  sorted : mg "sorted" = none
  isinstance : mg "isinstance" = none
  bool : mg "bool" = none
  str : mg "str" = none
  enumerate : mg "enumerate" = none
  repr : mg "repr" = none
  super : mg "super" = none
  ValueError : mg "ValueError" = none
theorem ite_b {t : Bool} {A B : Prop} (h1 : t = true → A) (h2 : t = false → B) : if t = true then A else B := by
  cases t with
  | true => exact h1 rfl
  | false => exact h2 rfl
theorem ite_d {P : Prop} [Decidable P] {A B : Prop} (h1 : P → A) (h2 : ¬ P → B) : if decide P = true then A else B := by
  by_cases h : P
  · rw [if_pos (decide_eq_true h)]; exact h1 h
  · rw [if_neg (by rw [decide_eq_false h]; exact Bool.false_ne_true)]; exact h2 h
theorem ite_n {P : Prop} [Decidable P] {A B : Prop} (h1 : ¬ P → A) (h2 : P → B) : if (!decide P) = true then A else B := by
  by_cases h : P
  · rw [if_neg (by rw [decide_eq_true h]; decide)]; exact h2 h
  · rw [if_pos (by rw [decide_eq_false h]; rfl)]; exact h1 h
/-- a block's names -/
def blkB (N : List Str) (sc : List (Str × NameKind)) (sn : List (Str × NameKind)) (own : List (Str × Nat)) : Bool :=
  sn.all (fun y => decide (sn.lookup y.1 = some y.2)) && (own.all fun p => decide (N[p.2]? = some p.1)) && (sn.all fun y => !decide (y.2 = .free) || (decide (sc.lookup y.1 = some .cell) || decide (sc.lookup y.1 = some .free))) &&
    (sn.all fun y => !(decide (y.2 = .local) || decide (y.2 = .cell)) || (decide (y.1 ∈ own.map (·.1)) || decide (y.1 ∉ N)))
theorem blk_ok {N : List Str} {sc scope : Scope} {own : List (Str × Nat)} (h : blkB N sc.names scope.names own = true) (hk : scope.kind = .function := by rfl) : BlkOk N sc scope own := by
  unfold blkB at h
  simp only [Bool.and_eq_true, List.all_eq_true, decide_eq_true_eq] at h
  obtain ⟨⟨⟨h1, h2⟩, h3⟩, h4⟩ := h
  refine ⟨hk, h1, h2, fun y hy e => ?_, fun y hy e => ?_⟩
  · have := h3 y hy
    simpa [e] using this
  · have := h4 y hy
    rcases e with e | e <;> simpa [e] using this
section
variable {X : Cx} {x : XD} {es : Es} {m : M} {E : DE} {e a b c : Expr} {as : List Expr} {k : KD} {pos p : Pos} {n : Nat} {kl : List D → M → Prop}
theorem ss_setB {i : Nat} {y : Str} (B : BodyOk X n) (h : EC X x es m e fun d m1 => E.nx (es.set i (some d)) m1) (hi : X.N[i]? = some y := by rfl) (hx : Loc X.env.scope y := by first | exact Or.inl rfl | exact Or.inr rfl)
    (hs : swapsWith e (some (.Name y p)) pos.line X.env = pure false := by rfl) (hf : X.fn y = true ∨ X.env.scope.names.lookup y = some .local := by first | exact .inl rfl | exact .inr rfl) : SS X x es m (.Assign [.Name y p] e pos) E := ss_set B.nd h hi hx hs hf
theorem isName {y : Str} (h : EC X x es m (.Name y pos) k) : EC X x es m (.Name y pos) k := h
theorem isCall {f : Expr} {as : List Expr} {kw : List Keyword} (h : EC X x es m (.Call f as kw pos) k) : EC X x es m (.Call f as kw pos) k := h
theorem isEC (h : EC X x es m e k) : EC X x es m e k := h
theorem isECs (h : ECs X x es m as kl) : ECs X x es m as kl := h
theorem isET {kt : Bool → M → Prop} (h : ET X x es m e kt) : ET X x es m e kt := h
theorem isEW {kt : Bool → M → Prop} (h : EW X x es m e kt) : EW X x es m e kt := h
theorem isSS {st : Stmt} (h : SS X x es m st E) : SS X x es m st E := h
theorem isSD {st : List Stmt} (h : SD X x es m st E) : SD X x es m st E := h
theorem isOC {f : Value → Value → Sem Value} {da db : D} (h : OC X f m da db k) : OC X f m da db k := h
theorem ec_len (fr : X.mg "len" = none) (h : ECs X x es m (a :: as) fun ds m1 => CC X (.builtin "len") m1 ds k) (hg : Gl X "len" := by rfl) (he : starEach (a :: as) X.env = (false, eval a X.env) :: starEach as X.env := by rfl) (hpl : (backTo pos (starEach as X.env)).any (·.1) = false := by rfl) :
    EC X x es m (.Call (.Name "len" p) (a :: as) [] pos) k := ec_callB h fr boot_len hg (by decide) (by decide) he hpl
theorem ec_intc (fr : X.mg "int" = none) (h : ECs X x es m (a :: as) fun ds m1 => CC X (.type "int") m1 ds k) (hg : Gl X "int" := by rfl) (he : starEach (a :: as) X.env = (false, eval a X.env) :: starEach as X.env := by rfl) (hpl : (backTo pos (starEach as X.env)).any (·.1) = false := by rfl) :
    EC X x es m (.Call (.Name "int" p) (a :: as) [] pos) k := ec_callT h fr (by decide +kernel) hg (by decide) (by decide) he hpl
theorem ec_listc (fr : X.mg "list" = none) (h : ECs X x es m (a :: as) fun ds m1 => CC X (.type "list") m1 ds k) (hg : Gl X "list" := by rfl) (he : starEach (a :: as) X.env = (false, eval a X.env) :: starEach as X.env := by rfl) (hpl : (backTo pos (starEach as X.env)).any (·.1) = false := by rfl) :
    EC X x es m (.Call (.Name "list" p) (a :: as) [] pos) k := ec_callT h fr (by decide +kernel) hg (by decide) (by decide) he hpl
theorem ec_tuplec (fr : X.mg "tuple" = none) (h : ECs X x es m (a :: as) fun ds m1 => CC X (.type "tuple") m1 ds k) (hg : Gl X "tuple" := by rfl) (he : starEach (a :: as) X.env = (false, eval a X.env) :: starEach as X.env := by rfl) (hpl : (backTo pos (starEach as X.env)).any (·.1) = false := by rfl) :
    EC X x es m (.Call (.Name "tuple" p) (a :: as) [] pos) k := ec_callT h fr (by decide +kernel) hg (by decide) (by decide) he hpl
theorem ec_sumc (fr : X.mg "sum" = none) (h : ECs X x es m (a :: as) fun ds m1 => CC X (.builtin "sum") m1 ds k) (hg : Gl X "sum" := by rfl) (he : starEach (a :: as) X.env = (false, eval a X.env) :: starEach as X.env := by rfl) (hpl : (backTo pos (starEach as X.env)).any (·.1) = false := by rfl) :
    EC X x es m (.Call (.Name "sum" p) (a :: as) [] pos) k := ec_callB h fr (by decide +kernel) hg (by decide) (by decide) he hpl
theorem ec_minc (fr : X.mg "min" = none) (h : ECs X x es m (a :: as) fun ds m1 => CC X (.builtin "min") m1 ds k) (hg : Gl X "min" := by rfl) (he : starEach (a :: as) X.env = (false, eval a X.env) :: starEach as X.env := by rfl) (hpl : (backTo pos (starEach as X.env)).any (·.1) = false := by rfl) :
    EC X x es m (.Call (.Name "min" p) (a :: as) [] pos) k := ec_callB h fr (by decide +kernel) hg (by decide) (by decide) he hpl
theorem ec_sortedc (fr : X.mg "sorted" = none) (h : ECs X x es m (a :: as) fun ds m1 => CC X (.builtin "sorted") m1 ds k) (hg : Gl X "sorted" := by rfl) (he : starEach (a :: as) X.env = (false, eval a X.env) :: starEach as X.env := by rfl) (hpl : (backTo pos (starEach as X.env)).any (·.1) = false := by rfl) :
    EC X x es m (.Call (.Name "sorted" p) (a :: as) [] pos) k := ec_callB h fr (by decide +kernel) hg (by decide) (by decide) he hpl
theorem ec_isac (fr : X.mg "isinstance" = none) (h : ECs X x es m (a :: as) fun ds m1 => CC X (.builtin "isinstance") m1 ds k) (hg : Gl X "isinstance" := by rfl) (he : starEach (a :: as) X.env = (false, eval a X.env) :: starEach as X.env := by rfl) (hpl : (backTo pos (starEach as X.env)).any (·.1) = false := by rfl) :
    EC X x es m (.Call (.Name "isinstance" p) (a :: as) [] pos) k := ec_callB h fr (by decide +kernel) hg (by decide) (by decide) he hpl
/-! ### guards: the form of the code, told before a rule is tried -/
theorem isSub (h : EC X x es m (.Subscript a b pos) k) : EC X x es m (.Subscript a b pos) k := h
theorem isCmpE {op : CmpOp} (h : EC X x es m (.Compare a [op] [b] pos) k) : EC X x es m (.Compare a [op] [b] pos) k := h
theorem isCmpT {op : CmpOp} {kt : Bool → M → Prop} (h : ET X x es m (.Compare a [op] [b] pos) kt) : ET X x es m (.Compare a [op] [b] pos) kt := h
theorem isAsg {ts : List Expr} (h : SS X x es m (.Assign ts e pos) E) : SS X x es m (.Assign ts e pos) E := h
theorem isExp (h : SS X x es m (.Expr e pos) E) : SS X x es m (.Expr e pos) E := h
theorem isCons {st : Stmt} {sts : List Stmt} (h : SD X x es m (st :: sts) E) : SD X x es m (st :: sts) E := h
theorem isSD2 {st st2 : Stmt} {sts : List Stmt} (h : SD X x es m (st :: st2 :: sts) E) : SD X x es m (st :: st2 :: sts) E := h
theorem isSD1 {st : Stmt} (h : SD X x es m [st] E) : SD X x es m [st] E := h
theorem isIs {da db : D} (h : OC X (compareOp .Is) m da db k) : OC X (compareOp .Is) m da db k := h
theorem isIsN {da db : D} (h : OC X (compareOp .IsNot) m da db k) : OC X (compareOp .IsNot) m da db k := h
end
end SG
set_option maxHeartbeats 4000000
/-! SgLoop: loops and comprehensions over typed lists. -/
namespace SG
open PySem PySem.Spec PyProof.Rows L2
section
variable {X : Cx} {x : XD} {es : Es} {m : M} {E : DE} {e : Expr} {k : KD} {pos : Pos} {n : Nat} {α : Type} {xs : List α} {enc gx : α → D} {keep : M → Prop} {tg : Tg} {vs : List Nat} {scope : Scope} {elt c : Expr}
theorem mapAt {i : Nat} {d : D} (h : (xs.map enc)[i]? = some d) : ∃ a, xs[i]? = some a ∧ d = enc a := by
  rw [List.getElem?_map] at h
  cases q : xs[i]? with
  | none => rw [q] at h; cases h
  | some a => rw [q] at h; exact ⟨a, rfl, (Option.some.inj h).symm⟩
theorem take_at {i : Nat} {a : α} (h : xs[i]? = some a) : xs.take (i + 1) = xs.take i ++ [a] := by
  rw [List.take_add_one, h]; rfl
/-- [elt for tgt in xs] -/
theorem lck_map (hz : xs.length ≤ 100000) (hp : keep m) (h : ∀ a ∈ xs, ∀ acc, ∃ es2, tg.put (enc a) (wipeE es vs) = some es2 ∧ ∀ p, Blk X scope fun Y => EC Y noX es2 ((p, .lst acc) :: m) elt fun d' m3 => d' = gx a ∧ m3 = (p, .lst acc) :: m) (hk : k (.lst (xs.map gx)) m) : LcK X scope es tg vs [] elt k (xs.map enc) keep m := by
  refine ⟨fun i m' acc => m' = m ∧ i ≤ xs.length ∧ acc = (xs.take i).map gx, ⟨rfl, Nat.zero_le _, rfl⟩, fun i m' acc z => by rw [z.1]; exact hp, fun i d m' acc hd ⟨em, hi, ea⟩ => ?_, fun m' acc ⟨em, hi, ea⟩ => ?_⟩
  · subst em
    obtain ⟨a, ha, rfl⟩ := mapAt hd
    obtain ⟨es2, hp2, z⟩ := h a (List.mem_of_getElem? ha) acc
    refine ⟨es2, hp2, fun p s1 H1 C1 cl1 fp1 => ⟨m', rfl, ?_⟩⟩
    rw [if_pos rfl]
    intro s2 H2 C2 cl2 fp2
    refine (z p s2 H2 C2 cl2 fp2).imp fun d' m3 ⟨e1, e2⟩ => ⟨m', e2, ?_, rfl, ?_, ?_⟩
    · rw [ea, List.length_map, List.length_take]; omega
    · exact (List.getElem?_eq_some_iff.mp ha).1
    · rw [ea, e1, take_at ha, List.map_append]; rfl
  · subst em
    rw [ea, List.length_map, List.take_length]
    exact hk
/-- [elt for tgt in xs if c] -/
theorem lck_if {t : α → Bool} (hz : xs.length ≤ 100000) (hp : keep m) (h : ∀ a ∈ xs, ∀ acc, ∃ es2, tg.put (enc a) (wipeE es vs) = some es2 ∧ ∀ p, (Blk X scope fun Y => ET Y noX es2 ((p, .lst acc) :: m) c fun b m3 => b = t a ∧ m3 = (p, .lst acc) :: m) ∧
      (t a = true → Blk X scope fun Y => EC Y noX es2 ((p, .lst acc) :: m) elt fun d' m3 => d' = gx a ∧ m3 = (p, .lst acc) :: m)) (hk : k (.lst ((xs.filter t).map gx)) m) : LcK X scope es tg vs [c] elt k (xs.map enc) keep m := by
  have tk : ∀ {i : Nat} {a : α}, xs[i]? = some a → ((xs.take (i + 1)).filter t) = (xs.take i).filter t ++ if t a then [a] else [] := fun {i a} ha => by
    rw [take_at ha, List.filter_append]
    cases q : t a <;> simp [q]
  refine ⟨fun i m' acc => m' = m ∧ i ≤ xs.length ∧ acc = ((xs.take i).filter t).map gx, ⟨rfl, Nat.zero_le _, rfl⟩, fun i m' acc z => by rw [z.1]; exact hp, fun i d m' acc hd ⟨em, hi, ea⟩ => ?_, fun m' acc ⟨em, hi, ea⟩ => ?_⟩
  · subst em
    obtain ⟨a, ha, rfl⟩ := mapAt hd
    obtain ⟨es2, hp2, z⟩ := h a (List.mem_of_getElem? ha) acc
    have hlt := (List.getElem?_eq_some_iff.mp ha).1
    refine ⟨es2, hp2, fun p s1 H1 C1 cl1 fp1 => ?_⟩
    obtain ⟨z1, z2⟩ := z p
    show ET _ noX es2 _ c _
    intro G σ H Q w st q
    refine z1 s1 H1 C1 cl1 fp1 G σ H Q w st fun b m2 G' H' ⟨eb, em⟩ e1 h1 => ?_
    subst eb em
    refine q _ _ G' H' ⟨m', rfl, ?_⟩ e1 h1
    cases q : t a with
    | false =>
      rw [if_neg Bool.false_ne_true]
      exact ⟨rfl, hlt, by rw [ea, tk ha, q]; simp⟩
    | true =>
      rw [if_pos rfl]
      intro s2 H2 C2 cl2 fp2
      refine (z2 q s2 H2 C2 cl2 fp2).imp fun d' m3 ⟨e1, e2⟩ => ⟨m', e2, ?_, rfl, hlt, ?_⟩
      · rw [ea, List.length_map]
        have := List.length_filter_le t (xs.take i)
        rw [List.length_take] at this
        omega
      · rw [ea, e1, tk ha, q, if_pos rfl, List.map_append]; rfl
  · subst em
    rw [ea, List.length_map, List.take_length]
    exact hk
/-- for over a typed list, by what lies behind -/
theorem ss_forT {tgt iter : Expr} {body : List Stmt} (tg : Tg) (B : BodyOk X n) (hg : PG X tgt (tg.den X.K)) (ho : tg.ok X.N.length)
    (h : SC X x es m tgt iter fun ds keep m1 => ∃ (α : Type) (xs : List α) (enc : α → D) (I : List α → Es → M → Prop), ds = xs.map enc ∧ I [] es m1 ∧ (∀ pre es' m', I pre es' m' → keep m') ∧
      (∀ pre a post es' m', xs = pre ++ a :: post → I pre es' m' → ∃ es2, tg.put (enc a) es' = some es2 ∧ SD X x es2 m' body { E with nx := I (pre ++ [a]), ct := I (pre ++ [a]), bk := E.nx }) ∧ (∀ es' m', I xs es' m' → E.nx es' m'))
    (hs : ∀ v, foldedSetIterable iter X.env v = pure v := by intro _; rfl) : SS X x es m (.For tgt iter body [] pos) E := by
  refine ss_for tg B.own B.calm hg ho ?_ hs
  intro G σ H R w st q
  refine h G σ H R w st fun J ds keep m1 G' H' ⟨α, xs, enc, I, ed, i0, ik, is, ie⟩ e1 h1 y => ?_
  subst ed
  refine q J _ keep m1 G' H' ⟨fun i es' m' => I (xs.take i) es' m', i0, fun i es' m' z => ik _ _ _ z, fun i d es' m' hd z => ?_, fun es' m' z => ie es' m' ?_⟩ e1 h1 y
  · obtain ⟨a, ha, rfl⟩ := mapAt hd
    have hsplit : xs = xs.take i ++ a :: xs.drop (i + 1) := by
      have := List.take_append_drop i xs
      rw [List.drop_eq_getElem?_toList_append, ha] at this
      exact this.symm
    obtain ⟨es2, hp2, z2⟩ := is _ a _ es' m' hsplit z
    rw [← take_at ha] at z2
    exact ⟨es2, hp2, z2⟩
  · have z : I (xs.take (xs.map enc).length) es' m' := z
    rw [List.length_map, List.take_length] at z
    exact z
end
end SG
set_option maxHeartbeats 4000000
/-! SgOp4: ==, shapes of data. -/
namespace SG
open PySem PySem.Spec PyProof.Rows L2
section
variable {X : Cx} {m : M} {k : KD}
theorem oc_eqs {a b : Str} (hk : k (.bl (decide (a = b))) m) : OC X (compareOp .Eq) m (.str a) (.str b) k := OC.of op_eq fun G H va vb Q hs ra rb q => by
  cases ra; cases rb
  refine ⟨rfl, ?_⟩
  rw [show decide (V.str a = V.str b) = decide (a = b) from by simp]
  exact q.now hs hk (.bl _)
theorem oc_nes {a b : Str} (hk : k (.bl (!decide (a = b))) m) : OC X (compareOp .NotEq) m (.str a) (.str b) k := OC.of op_ne fun G H va vb Q hs ra rb q => by
  cases ra; cases rb
  refine ⟨rfl, ?_⟩
  rw [show decide (V.str a = V.str b) = decide (a = b) from by simp]
  exact q.now hs hk (.bl _)
theorem oc_eqi {a b : Int} (hk : k (.bl (decide (a = b))) m) : OC X (compareOp .Eq) m (.int a) (.int b) k := OC.of op_eq fun G H va vb Q hs ra rb q => by
  cases ra; cases rb
  refine ⟨rfl, ?_⟩
  rw [show decide (V.int a = V.int b) = decide (a = b) from by simp]
  exact q.now hs hk (.bl _)
theorem oc_nei {a b : Int} (hk : k (.bl (!decide (a = b))) m) : OC X (compareOp .NotEq) m (.int a) (.int b) k := OC.of op_ne fun G H va vb Q hs ra rb q => by
  cases ra; cases rb
  refine ⟨rfl, ?_⟩
  rw [show decide (V.int a = V.int b) = decide (a = b) from by simp]
  exact q.now hs hk (.bl _)
theorem oc_eqb {a b : Bool} (hk : k (.bl (decide (a = b))) m) : OC X (compareOp .Eq) m (.bl a) (.bl b) k := OC.of op_eq fun G H va vb Q hs ra rb q => by
  cases ra; cases rb
  refine ⟨rfl, ?_⟩
  rw [show decide (V.bl a = V.bl b) = decide (a = b) from by simp]
  exact q.now hs hk (.bl _)
end
section
variable {X : Cx} {x : XD} {es : Es} {m : M} {k : KD} {as : List Expr} {kw : List Keyword} {p pos : Pos}
theorem isc_len (h : EC X x es m (.Call (.Name "len" p) as kw pos) k) : EC X x es m (.Call (.Name "len" p) as kw pos) k := h
theorem isc_int (h : EC X x es m (.Call (.Name "int" p) as kw pos) k) : EC X x es m (.Call (.Name "int" p) as kw pos) k := h
theorem isc_list (h : EC X x es m (.Call (.Name "list" p) as kw pos) k) : EC X x es m (.Call (.Name "list" p) as kw pos) k := h
theorem isc_tuple (h : EC X x es m (.Call (.Name "tuple" p) as kw pos) k) : EC X x es m (.Call (.Name "tuple" p) as kw pos) k := h
theorem isc_sum (h : EC X x es m (.Call (.Name "sum" p) as kw pos) k) : EC X x es m (.Call (.Name "sum" p) as kw pos) k := h
theorem isc_min (h : EC X x es m (.Call (.Name "min" p) as kw pos) k) : EC X x es m (.Call (.Name "min" p) as kw pos) k := h
theorem isc_sorted (h : EC X x es m (.Call (.Name "sorted" p) as kw pos) k) : EC X x es m (.Call (.Name "sorted" p) as kw pos) k := h
theorem isc_isinstance (h : EC X x es m (.Call (.Name "isinstance" p) as kw pos) k) : EC X x es m (.Call (.Name "isinstance" p) as kw pos) k := h
end
theorem ite_t {A B : Prop} (h : A) : if true = true then A else B := h
theorem ite_f {A B : Prop} (h : B) : if false = true then A else B := h
theorem ite_nt {A B : Prop} (h : B) : if (!true) = true then A else B := h
theorem ite_nf {A B : Prop} (h : A) : if (!false) = true then A else B := h
theorem ex_bl {t : Bool} {Kp : Bool → Prop} (h : Kp t) : ∃ u, D.bl t = .bl u ∧ Kp u := ⟨t, rfl, h⟩
/-! no bool, no instance within -/
mutual
def D.nb : D → Bool
  | .non => true
  | .int _ => true
  | .str _ => true
  | .tup ds => D.nbL ds
  | .lst ds => D.nbL ds
  | _ => false
def D.nbL : List D → Bool
  | [] => true
  | d :: ds => D.nb d && D.nbL ds
end
mutual
theorem eqv_nb : ∀ (d e : D), d.nb = true → e.nb = true → (PyData.eqv d.py e.py = true ↔ d = e)
  | .non, e, _, he => by cases e <;> simp [D.nb] at he <;> simp [D.py, PyData.eqv]
  | .int i, e, _, he => by cases e <;> simp [D.nb] at he <;> simp [D.py, PyData.eqv]
  | .str s, e, _, he => by cases e <;> simp [D.nb] at he <;> simp [D.py, PyData.eqv]
  | .tup ds, e, hd, he => by
    cases e with
    | tup es =>
      have := eqv_nbL ds es hd he
      simp only [D.py, PyData.eqv]
      rw [this]
      simp
    | non => simp [D.py, PyData.eqv]
    | int _ => simp [D.py, PyData.eqv]
    | str _ => simp [D.py, PyData.eqv]
    | lst _ => simp [D.py, PyData.eqv]
    | bl _ => simp [D.nb] at he
    | ins _ _ => simp [D.nb] at he
    | raw _ => simp [D.nb] at he
    | scr _ => simp [D.nb] at he
  | .lst ds, e, hd, he => by
    cases e with
    | lst es =>
      have := eqv_nbL ds es hd he
      simp only [D.py, PyData.eqv]
      rw [this]
      simp
    | non => simp [D.py, PyData.eqv]
    | int _ => simp [D.py, PyData.eqv]
    | str _ => simp [D.py, PyData.eqv]
    | tup _ => simp [D.py, PyData.eqv]
    | bl _ => simp [D.nb] at he
    | ins _ _ => simp [D.nb] at he
    | raw _ => simp [D.nb] at he
    | scr _ => simp [D.nb] at he
  | .bl _, _, h, _ => by simp [D.nb] at h
  | .ins _ _, _, h, _ => by simp [D.nb] at h
  | .raw _, _, h, _ => by simp [D.nb] at h
  | .scr _, _, h, _ => by simp [D.nb] at h
theorem eqv_nbL : ∀ (ds es : List D), D.nbL ds = true → D.nbL es = true → (PyData.eqvAll (D.pyL ds) (D.pyL es) = true ↔ ds = es)
  | [], [], _, _ => by simp [D.pyL, PyData.eqvAll]
  | [], _ :: _, _, _ => by simp [D.pyL, PyData.eqvAll]
  | _ :: _, [], _, _ => by simp [D.pyL, PyData.eqvAll]
  | d :: ds, e :: es, hd, he => by
    simp only [D.nbL, Bool.and_eq_true] at hd he
    have h1 := eqv_nb d e hd.1 he.1
    have h2 := eqv_nbL ds es hd.2 he.2
    simp only [D.pyL, PyData.eqvAll, Bool.and_eq_true, h1, h2, List.cons.injEq]
end
/-- data of that depth at most -/
def D.sn (n : Nat) (d : D) : Prop := d.pure = true ∧ d.py.canLay0 = true ∧ d.py.depth ≤ n
def D.snL (n : Nat) (ds : List D) : Prop := D.pureL ds = true ∧ PyData.canLayAll0 (D.pyL ds) = true ∧ PyData.depthAll (D.pyL ds) ≤ n
theorem D.sn.sh {n : Nat} {d : D} (h : d.sn n) (hn : n ≤ 64) : d.sh := ⟨h.1, by
  unfold SeqAt.shaped
  rw [h.2.1, Bool.true_and]
  exact decide_eq_true (Nat.le_trans h.2.2 hn)⟩
theorem D.sn.mono {n j : Nat} {d : D} (h : d.sn n) (hn : n ≤ j) : d.sn j := ⟨h.1, h.2.1, Nat.le_trans h.2.2 hn⟩
theorem sn_non {n : Nat} : D.sn n .non := ⟨rfl, rfl, Nat.zero_le _⟩
theorem sn_bl {n : Nat} {b : Bool} : D.sn n (.bl b) := ⟨rfl, rfl, Nat.zero_le _⟩
theorem sn_int {n : Nat} {i : Int} : D.sn n (.int i) := ⟨rfl, rfl, Nat.zero_le _⟩
theorem sn_str {n : Nat} {s : Str} (h : ∀ c ∈ s.cps.toList, c < 0x110000) : D.sn n (.str s) := by
  refine ⟨rfl, ?_, Nat.zero_le _⟩
  show PyData.strOk s = true
  unfold PyData.strOk
  rw [Array.all_eq_true_iff_forall_mem]
  intro c hc
  exact decide_eq_true (h c (by simpa using hc))
theorem snL_nil {n : Nat} : D.snL n [] := ⟨rfl, rfl, Nat.zero_le _⟩
theorem snL_cons {n : Nat} {d : D} {ds : List D} (h : d.sn n) (t : D.snL n ds) : D.snL n (d :: ds) := by
  refine ⟨?_, ?_, ?_⟩
  · simp only [D.pureL, h.1, t.1, Bool.and_self]
  · simp only [D.pyL, PyData.canLayAll0, h.2.1, t.2.1, Bool.and_self]
  · simp only [D.pyL, PyData.depthAll]
    exact Nat.max_le.mpr ⟨h.2.2, t.2.2⟩
theorem snL_all {n : Nat} : ∀ {ds : List D}, (∀ d ∈ ds, d.sn n) → D.snL n ds
  | [], _ => snL_nil
  | d :: ds, h => snL_cons (h d List.mem_cons_self) (snL_all fun e he => h e (List.mem_cons_of_mem _ he))
theorem snL_map {n : Nat} {α : Type} {xs : List α} {enc : α → D} (h : ∀ a ∈ xs, (enc a).sn n) : D.snL n (xs.map enc) := snL_all fun d hd => by
  obtain ⟨a, ha, rfl⟩ := List.mem_map.mp hd
  exact h a ha
theorem sn_tup {n : Nat} {ds : List D} (h : D.snL n ds) : D.sn (n + 1) (.tup ds) := ⟨h.1, by simp only [D.py, PyData.canLay0, h.2.1], by simp only [D.py, PyData.depth]; exact Nat.succ_le_succ h.2.2⟩
theorem sn_lst {n : Nat} {ds : List D} (h : D.snL n ds) : D.sn (n + 1) (.lst ds) := ⟨h.1, by simp only [D.py, PyData.canLay0, h.2.1], by simp only [D.py, PyData.depth]; exact Nat.succ_le_succ h.2.2⟩
theorem nbL_map {α : Type} {xs : List α} {enc : α → D} (h : ∀ a ∈ xs, (enc a).nb = true) : D.nbL (xs.map enc) = true := by
  induction xs with
  | nil => rfl
  | cons a xs ih =>
    rw [List.map_cons]
    simp only [D.nbL, h a List.mem_cons_self, ih fun b hb => h b (List.mem_cons_of_mem _ hb), Bool.and_self]
end SG
set_option maxHeartbeats 4000000
/-! SgDefs: written by gen_defs.py. -/
namespace SG
open PySem PySem.Spec PyProof.Rows L2
abbrev N_is_group : List Str := ["group", "sign"]
theorem sc_is_group : FnScope N_is_group ["group"] (defScope S_is_group) := ⟨rfl, rfl, rfl, by decide +kernel, rfl, by decide +kernel, by decide +kernel⟩
abbrev F_is_group (K : PySem.W.Frag) (f : Addr) (fd : FuncData) : Prop := FunD K "is_group" "is_group" (defArgs S_is_group) (defBody S_is_group) (defScope S_is_group) [] [] f fd
theorem bs_is_group {K : PySem.W.Frag} {f : Addr} {fd : FuncData} (F : F_is_group K f fd) : Binds K fd ["group"] [] := F.bindsN fun _ _ _ _ _ _ us hl => match us, hl with | [_], _ => rfl
abbrev N_check_group : List Str := ["group"]
theorem sc_check_group : FnScope N_check_group ["group"] (defScope S_check_group) := ⟨rfl, rfl, rfl, by decide +kernel, rfl, by decide +kernel, by decide +kernel⟩
abbrev F_check_group (K : PySem.W.Frag) (f : Addr) (fd : FuncData) : Prop := FunD K "check_group" "check_group" (defArgs S_check_group) (defBody S_check_group) (defScope S_check_group) [] [] f fd
theorem bs_check_group {K : PySem.W.Frag} {f : Addr} {fd : FuncData} (F : F_check_group K f fd) : Binds K fd ["group"] [] := F.bindsN fun _ _ _ _ _ _ us hl => match us, hl with | [_], _ => rfl
abbrev N_is_anchor : List Str := ["anchor", "seen", "key", "place", "station", "number"]
theorem sc_is_anchor : FnScope N_is_anchor ["anchor", "seen"] (defScope S_is_anchor) := ⟨rfl, rfl, rfl, by decide +kernel, rfl, by decide +kernel, by decide +kernel⟩
abbrev F_is_anchor (K : PySem.W.Frag) (f : Addr) (fd : FuncData) : Prop := FunD K "is_anchor" "is_anchor" (defArgs S_is_anchor) (defBody S_is_anchor) (defScope S_is_anchor) [] [] f fd
theorem bs_is_anchor {K : PySem.W.Frag} {f : Addr} {fd : FuncData} (F : F_is_anchor K f fd) : Binds K fd ["anchor", "seen"] [] := F.bindsN fun _ _ _ _ _ _ us hl => match us, hl with | [_, _], _ => rfl
abbrev N_is_call : List Str := ["station", "seen", "group", "anchor", "count"]
theorem sc_is_call : FnScope N_is_call ["station", "seen", "group", "anchor"] (defScope S_is_call) := ⟨rfl, rfl, rfl, by decide +kernel, rfl, by decide +kernel, by decide +kernel⟩
abbrev F_is_call (K : PySem.W.Frag) (f : Addr) (fd : FuncData) : Prop := FunD K "is_call" "is_call" (defArgs S_is_call) (defBody S_is_call) (defScope S_is_call) [] [] f fd
theorem bs_is_call {K : PySem.W.Frag} {f : Addr} {fd : FuncData} (F : F_is_call K f fd) : Binds K fd ["station", "seen", "group", "anchor"] [] := F.bindsN fun _ _ _ _ _ _ us hl => match us, hl with | [_, _, _, _], _ => rfl
abbrev N_row_after : List Str := ["row", "gap", "group"]
theorem sc_row_after : FnScope N_row_after ["row", "gap", "group"] (defScope S_row_after) := ⟨rfl, rfl, rfl, by decide +kernel, rfl, by decide +kernel, by decide +kernel⟩
abbrev F_row_after (K : PySem.W.Frag) (f : Addr) (fd : FuncData) : Prop := FunD K "row_after" "row_after" (defArgs S_row_after) (defBody S_row_after) (defScope S_row_after) [] [] f fd
theorem bs_row_after {K : PySem.W.Frag} {f : Addr} {fd : FuncData} (F : F_row_after K f fd) : Binds K fd ["row", "gap", "group"] [] := F.bindsN fun _ _ _ _ _ _ us hl => match us, hl with | [_, _, _], _ => rfl
abbrev N_check_keys : List Str := ["calls", "known", "clashing", "call"]
theorem sc_check_keys : FnScope N_check_keys ["calls"] (defScope S_check_keys) := ⟨rfl, rfl, rfl, by decide +kernel, rfl, by decide +kernel, by decide +kernel⟩
abbrev F_check_keys (K : PySem.W.Frag) (f : Addr) (fd : FuncData) : Prop := FunD K "check_keys" "check_keys" (defArgs S_check_keys) (defBody S_check_keys) (defScope S_check_keys) [] [] f fd
theorem bs_check_keys {K : PySem.W.Frag} {f : Addr} {fd : FuncData} (F : F_check_keys K f fd) : Binds K fd ["calls"] [] := F.bindsN fun _ _ _ _ _ _ us hl => match us, hl with | [_], _ => rfl
abbrev N_in_stamp_order : List Str := ["calls", "known", "call", "stamp"]
theorem sc_in_stamp_order : FnScope N_in_stamp_order ["calls"] (defScope S_in_stamp_order) := ⟨rfl, rfl, rfl, by decide +kernel, rfl, by decide +kernel, by decide +kernel⟩
abbrev F_in_stamp_order (K : PySem.W.Frag) (f : Addr) (fd : FuncData) : Prop := FunD K "in_stamp_order" "in_stamp_order" (defArgs S_in_stamp_order) (defBody S_in_stamp_order) (defScope S_in_stamp_order) [] [] f fd
theorem bs_in_stamp_order {K : PySem.W.Frag} {f : Addr} {fd : FuncData} (F : F_in_stamp_order K f fd) : Binds K fd ["calls"] [] := F.bindsN fun _ _ _ _ _ _ us hl => match us, hl with | [_], _ => rfl
abbrev N_signs_of : List Str := ["key", "group", "place"]
theorem sc_signs_of : FnScope N_signs_of ["key", "group"] (defScope S_signs_of) := ⟨rfl, rfl, rfl, by decide +kernel, rfl, by decide +kernel, by decide +kernel⟩
abbrev F_signs_of (K : PySem.W.Frag) (f : Addr) (fd : FuncData) : Prop := FunD K "signs_of" "signs_of" (defArgs S_signs_of) (defBody S_signs_of) (defScope S_signs_of) [] [] f fd
theorem bs_signs_of {K : PySem.W.Frag} {f : Addr} {fd : FuncData} (F : F_signs_of K f fd) : Binds K fd ["key", "group"] [] := F.bindsN fun _ _ _ _ _ _ us hl => match us, hl with | [_, _], _ => rfl
abbrev N_check_anchors : List Str := ["start", "ordered", "there", "call", "sign"]
theorem sc_check_anchors : FnScope N_check_anchors ["start", "ordered"] (defScope S_check_anchors) := ⟨rfl, rfl, rfl, by decide +kernel, rfl, by decide +kernel, by decide +kernel⟩
abbrev F_check_anchors (K : PySem.W.Frag) (f : Addr) (fd : FuncData) : Prop := FunD K "check_anchors" "check_anchors" (defArgs S_check_anchors) (defBody S_check_anchors) (defScope S_check_anchors) [] [] f fd
theorem bs_check_anchors {K : PySem.W.Frag} {f : Addr} {fd : FuncData} (F : F_check_anchors K f fd) : Binds K fd ["start", "ordered"] [] := F.bindsN fun _ _ _ _ _ _ us hl => match us, hl with | [_, _], _ => rfl
abbrev N_outward : List Str := ["rule", "key", "group", "signs"]
theorem sc_outward : FnScope N_outward ["rule", "key", "group"] (defScope S_outward) := ⟨rfl, rfl, rfl, by decide +kernel, rfl, by decide +kernel, by decide +kernel⟩
abbrev F_outward (K : PySem.W.Frag) (f : Addr) (fd : FuncData) : Prop := FunD K "outward" "outward" (defArgs S_outward) (defBody S_outward) (defScope S_outward) [] [] f fd
theorem bs_outward {K : PySem.W.Frag} {f : Addr} {fd : FuncData} (F : F_outward K f fd) : Binds K fd ["rule", "key", "group"] [] := F.bindsN fun _ _ _ _ _ _ us hl => match us, hl with | [_, _, _], _ => rfl
abbrev N_hangings : List Str := ["rule", "ordered", "hung", "rank", "call", "signs", "step", "sign", "anchor", "found"]
theorem sc_hangings : FnScope N_hangings ["rule", "ordered"] (defScope S_hangings) := ⟨rfl, rfl, rfl, by decide +kernel, rfl, by decide +kernel, by decide +kernel⟩
abbrev F_hangings (K : PySem.W.Frag) (f : Addr) (fd : FuncData) : Prop := FunD K "hangings" "hangings" (defArgs S_hangings) (defBody S_hangings) (defScope S_hangings) [] [] f fd
theorem bs_hangings {K : PySem.W.Frag} {f : Addr} {fd : FuncData} (F : F_hangings K f fd) : Binds K fd ["rule", "ordered"] [] := F.bindsN fun _ _ _ _ _ _ us hl => match us, hl with | [_, _], _ => rfl
abbrev N_layout : List Str := ["rule", "start", "calls", "ordered", "hung", "pending", "line", "sign"]
theorem sc_layout : FnScope N_layout ["rule", "start", "calls"] (defScope S_layout) := ⟨rfl, rfl, rfl, by decide +kernel, rfl, by decide +kernel, by decide +kernel⟩
abbrev F_layout (K : PySem.W.Frag) (f : Addr) (fd : FuncData) : Prop := FunD K "layout" "layout" (defArgs S_layout) (defBody S_layout) (defScope S_layout) [] [] f fd
theorem bs_layout {K : PySem.W.Frag} {f : Addr} {fd : FuncData} (F : F_layout K f fd) : Binds K fd ["rule", "start", "calls"] [] := F.bindsN fun _ _ _ _ _ _ us hl => match us, hl with | [_, _, _], _ => rfl
abbrev N_row_of : List Str := ["rule", "start", "calls", "groups", "call", "key", "place"]
theorem sc_row_of : FnScope N_row_of ["rule", "start", "calls"] (defScope S_row_of) := ⟨rfl, rfl, rfl, by decide +kernel, rfl, by decide +kernel, by decide +kernel⟩
abbrev F_row_of (K : PySem.W.Frag) (f : Addr) (fd : FuncData) : Prop := FunD K "row_of" "row_of" (defArgs S_row_of) (defBody S_row_of) (defScope S_row_of) [] [] f fd
theorem bs_row_of {K : PySem.W.Frag} {f : Addr} {fd : FuncData} (F : F_row_of K f fd) : Binds K fd ["rule", "start", "calls"] [] := F.bindsN fun _ _ _ _ _ _ us hl => match us, hl with | [_, _, _], _ => rfl
abbrev N_growth_from : List Str := ["rule", "start", "calls", "more", "there", "both", "line", "joins", "call", "first", "sign"]
theorem sc_growth_from : FnScope N_growth_from ["rule", "start", "calls", "more"] (defScope S_growth_from) := ⟨rfl, rfl, rfl, by decide +kernel, rfl, by decide +kernel, by decide +kernel⟩
abbrev F_growth_from (K : PySem.W.Frag) (f : Addr) (fd : FuncData) : Prop := FunD K "growth_from" "growth_from" (defArgs S_growth_from) (defBody S_growth_from) (defScope S_growth_from) [] [] f fd
theorem bs_growth_from {K : PySem.W.Frag} {f : Addr} {fd : FuncData} (F : F_growth_from K f fd) : Binds K fd ["rule", "start", "calls", "more"] [] := F.bindsN fun _ _ _ _ _ _ us hl => match us, hl with | [_, _, _, _], _ => rfl
abbrev N_law_new : List Str := ["_law_script"]
theorem sc_law_new : FnScope N_law_new ["_law_script"] (defScope S_law_new) := ⟨rfl, rfl, rfl, by decide +kernel, rfl, by decide +kernel, by decide +kernel⟩
abbrev F_law_new (K : PySem.W.Frag) (f : Addr) (fd : FuncData) : Prop := FunD K "_law_new" "_law_new" (defArgs S_law_new) (defBody S_law_new) (defScope S_law_new) [] [] f fd
theorem bs_law_new {K : PySem.W.Frag} {f : Addr} {fd : FuncData} (F : F_law_new K f fd) : Binds K fd ["_law_script"] [] := F.bindsN fun _ _ _ _ _ _ us hl => match us, hl with | [_], _ => rfl
abbrev N_law_draw : List Str := ["_law_state", "_law_many", "_law_cell", "_law_digit"]
theorem sc_law_draw : FnScope N_law_draw ["_law_state", "_law_many"] (defScope S_law_draw) := ⟨rfl, rfl, rfl, by decide +kernel, rfl, by decide +kernel, by decide +kernel⟩
abbrev F_law_draw (K : PySem.W.Frag) (f : Addr) (fd : FuncData) : Prop := FunD K "_law_draw" "_law_draw" (defArgs S_law_draw) (defBody S_law_draw) (defScope S_law_draw) [] [] f fd
theorem bs_law_draw {K : PySem.W.Frag} {f : Addr} {fd : FuncData} (F : F_law_draw K f fd) : Binds K fd ["_law_state", "_law_many"] [] := F.bindsN fun _ _ _ _ _ _ us hl => match us, hl with | [_, _], _ => rfl
abbrev N_law_same : List Str := ["_law_actual", "_law_due_here", "_law_k"]
theorem sc_law_same : FnScope N_law_same ["_law_actual", "_law_due_here"] (defScope S_law_same) := ⟨rfl, rfl, rfl, by decide +kernel, rfl, by decide +kernel, by decide +kernel⟩
abbrev F_law_same (K : PySem.W.Frag) (f : Addr) (fd : FuncData) : Prop := FunD K "_law_same" "_law_same" (defArgs S_law_same) (defBody S_law_same) (defScope S_law_same) [] [] f fd
theorem bs_law_same {K : PySem.W.Frag} {f : Addr} {fd : FuncData} (F : F_law_same K f fd) : Binds K fd ["_law_actual", "_law_due_here"] [] := F.bindsN fun _ _ _ _ _ _ us hl => match us, hl with | [_, _], _ => rfl
abbrev N_law_rising : List Str := ["_law_items", "_law_out", "_law_item", "_law_at", "_law_one"]
theorem sc_law_rising : FnScope N_law_rising ["_law_items"] (defScope S_law_rising) := ⟨rfl, rfl, rfl, by decide +kernel, rfl, by decide +kernel, by decide +kernel⟩
abbrev F_law_rising (K : PySem.W.Frag) (f : Addr) (fd : FuncData) : Prop := FunD K "_law_rising" "_law_rising" (defArgs S_law_rising) (defBody S_law_rising) (defScope S_law_rising) [] [] f fd
theorem bs_law_rising {K : PySem.W.Frag} {f : Addr} {fd : FuncData} (F : F_law_rising K f fd) : Binds K fd ["_law_items"] [] := F.bindsN fun _ _ _ _ _ _ us hl => match us, hl with | [_], _ => rfl
abbrev N_law_word : List Str := ["_law_state", "_law_signs", "_law_least", "_law_top", "_law_row", "_law_k"]
theorem sc_law_word : FnScope N_law_word ["_law_state", "_law_signs", "_law_least", "_law_top"] (defScope S_law_word) := ⟨rfl, rfl, rfl, by decide +kernel, rfl, by decide +kernel, by decide +kernel⟩
abbrev F_law_word (K : PySem.W.Frag) (f : Addr) (fd : FuncData) : Prop := FunD K "_law_word" "_law_word" (defArgs S_law_word) (defBody S_law_word) (defScope S_law_word) [] [] f fd
theorem bs_law_word {K : PySem.W.Frag} {f : Addr} {fd : FuncData} (F : F_law_word K f fd) : Binds K fd ["_law_state", "_law_signs", "_law_least", "_law_top"] [] := F.bindsN fun _ _ _ _ _ _ us hl => match us, hl with | [_, _, _, _], _ => rfl
abbrev N_law_groups : List Str := ["_law_state", "_law_signs", "_law_top", "_law_size", "_law_many", "_law_k"]
theorem sc_law_groups : FnScope N_law_groups ["_law_state", "_law_signs", "_law_top", "_law_size"] (defScope S_law_groups) := ⟨rfl, rfl, rfl, by decide +kernel, rfl, by decide +kernel, by decide +kernel⟩
abbrev F_law_groups (K : PySem.W.Frag) (f : Addr) (fd : FuncData) : Prop := FunD K "_law_groups" "_law_groups" (defArgs S_law_groups) (defBody S_law_groups) (defScope S_law_groups) [] [] f fd
theorem bs_law_groups {K : PySem.W.Frag} {f : Addr} {fd : FuncData} (F : F_law_groups K f fd) : Binds K fd ["_law_state", "_law_signs", "_law_top", "_law_size"] [] := F.bindsN fun _ _ _ _ _ _ us hl => match us, hl with | [_, _, _, _], _ => rfl
abbrev N_law_history : List Str := ["_law_state", "_law_many", "_law_count", "_law_groups_here", "_law_length", "_law_known", "_law_rows", "_law_k", "_law_who", "_law_hears", "_law_anchors", "_law_other", "_law_anchor", "_law_group", "_law_j", "_law_number", "_law_p"]
theorem sc_law_history : FnScope N_law_history ["_law_state", "_law_many", "_law_count", "_law_groups_here", "_law_length"] (defScope S_law_history) := ⟨rfl, rfl, rfl, by decide +kernel, rfl, by decide +kernel, by decide +kernel⟩
abbrev F_law_history (K : PySem.W.Frag) (f : Addr) (fd : FuncData) : Prop := FunD K "_law_history" "_law_history" (defArgs S_law_history) (defBody S_law_history) (defScope S_law_history) [] [] f fd
theorem bs_law_history {K : PySem.W.Frag} {f : Addr} {fd : FuncData} (F : F_law_history K f fd) : Binds K fd ["_law_state", "_law_many", "_law_count", "_law_groups_here", "_law_length"] [] := F.bindsN fun _ _ _ _ _ _ us hl => match us, hl with | [_, _, _, _, _], _ => rfl
abbrev N_law_key : List Str := ["_law_row"]
theorem sc_law_key : FnScope N_law_key ["_law_row"] (defScope S_law_key) := ⟨rfl, rfl, rfl, by decide +kernel, rfl, by decide +kernel, by decide +kernel⟩
abbrev F_law_key (K : PySem.W.Frag) (f : Addr) (fd : FuncData) : Prop := FunD K "_law_key" "_law_key" (defArgs S_law_key) (defBody S_law_key) (defScope S_law_key) [] [] f fd
theorem bs_law_key {K : PySem.W.Frag} {f : Addr} {fd : FuncData} (F : F_law_key K f fd) : Binds K fd ["_law_row"] [] := F.bindsN fun _ _ _ _ _ _ us hl => match us, hl with | [_], _ => rfl
abbrev N_law_past : List Str := ["_law_row", "_law_j"]
theorem sc_law_past : FnScope N_law_past ["_law_row"] (defScope S_law_past) := ⟨rfl, rfl, rfl, by decide +kernel, rfl, by decide +kernel, by decide +kernel⟩
abbrev F_law_past (K : PySem.W.Frag) (f : Addr) (fd : FuncData) : Prop := FunD K "_law_past" "_law_past" (defArgs S_law_past) (defBody S_law_past) (defScope S_law_past) [] [] f fd
theorem bs_law_past {K : PySem.W.Frag} {f : Addr} {fd : FuncData} (F : F_law_past K f fd) : Binds K fd ["_law_row"] [] := F.bindsN fun _ _ _ _ _ _ us hl => match us, hl with | [_], _ => rfl
abbrev N_law_within : List Str := ["_law_rows", "_law_cut_here", "_law_row"]
theorem sc_law_within : FnScope N_law_within ["_law_rows", "_law_cut_here"] (defScope S_law_within) := ⟨rfl, rfl, rfl, by decide +kernel, rfl, by decide +kernel, by decide +kernel⟩
abbrev F_law_within (K : PySem.W.Frag) (f : Addr) (fd : FuncData) : Prop := FunD K "_law_within" "_law_within" (defArgs S_law_within) (defBody S_law_within) (defScope S_law_within) [] [] f fd
theorem bs_law_within {K : PySem.W.Frag} {f : Addr} {fd : FuncData} (F : F_law_within K f fd) : Binds K fd ["_law_rows", "_law_cut_here"] [] := F.bindsN fun _ _ _ _ _ _ us hl => match us, hl with | [_, _], _ => rfl
abbrev N_law_cut : List Str := ["_law_state", "_law_rows", "_law_count", "_law_cut_here", "_law_k", "_law_j", "_law_past_here"]
theorem sc_law_cut : FnScope N_law_cut ["_law_state", "_law_rows", "_law_count"] (defScope S_law_cut) := ⟨rfl, rfl, rfl, by decide +kernel, rfl, by decide +kernel, by decide +kernel⟩
abbrev F_law_cut (K : PySem.W.Frag) (f : Addr) (fd : FuncData) : Prop := FunD K "_law_cut" "_law_cut" (defArgs S_law_cut) (defBody S_law_cut) (defScope S_law_cut) [] [] f fd
theorem bs_law_cut {K : PySem.W.Frag} {f : Addr} {fd : FuncData} (F : F_law_cut K f fd) : Binds K fd ["_law_state", "_law_rows", "_law_count"] [] := F.bindsN fun _ _ _ _ _ _ us hl => match us, hl with | [_, _, _], _ => rfl
abbrev N_law_by_stamps : List Str := ["_law_rows", "_law_stamps", "_law_ordered", "_law_stamp", "_law_row"]
theorem sc_law_by_stamps : FnScope N_law_by_stamps ["_law_rows"] (defScope S_law_by_stamps) := ⟨rfl, rfl, rfl, by decide +kernel, rfl, by decide +kernel, by decide +kernel⟩
abbrev F_law_by_stamps (K : PySem.W.Frag) (f : Addr) (fd : FuncData) : Prop := FunD K "_law_by_stamps" "_law_by_stamps" (defArgs S_law_by_stamps) (defBody S_law_by_stamps) (defScope S_law_by_stamps) [] [] f fd
theorem bs_law_by_stamps {K : PySem.W.Frag} {f : Addr} {fd : FuncData} (F : F_law_by_stamps K f fd) : Binds K fd ["_law_rows"] [] := F.bindsN fun _ _ _ _ _ _ us hl => match us, hl with | [_], _ => rfl
abbrev N_law_layout : List Str := ["_law_flank", "_law_sense", "_law_bond", "_law_start", "_law_rows", "_law_size", "_law_paths", "_law_p", "_law_ordered", "_law_rank", "_law_line", "_law_path", "_law_row", "_law_base", "_law_turn", "_law_step", "_law_tail", "_law_one"]
theorem sc_law_layout : FnScope N_law_layout ["_law_flank", "_law_sense", "_law_bond", "_law_start", "_law_rows"] (defScope S_law_layout) := ⟨rfl, rfl, rfl, by decide +kernel, rfl, by decide +kernel, by decide +kernel⟩
abbrev F_law_layout (K : PySem.W.Frag) (f : Addr) (fd : FuncData) : Prop := FunD K "_law_layout" "_law_layout" (defArgs S_law_layout) (defBody S_law_layout) (defScope S_law_layout) [] [] f fd
theorem bs_law_layout {K : PySem.W.Frag} {f : Addr} {fd : FuncData} (F : F_law_layout K f fd) : Binds K fd ["_law_flank", "_law_sense", "_law_bond", "_law_start", "_law_rows"] [] := F.bindsN fun _ _ _ _ _ _ us hl => match us, hl with | [_, _, _, _, _], _ => rfl
abbrev N_law_sign : List Str := ["_law_start", "_law_rows", "_law_named", "_law_word_here", "_law_row"]
theorem sc_law_sign : FnScope N_law_sign ["_law_start", "_law_rows", "_law_named"] (defScope S_law_sign) := ⟨rfl, rfl, rfl, by decide +kernel, rfl, by decide +kernel, by decide +kernel⟩
abbrev F_law_sign (K : PySem.W.Frag) (f : Addr) (fd : FuncData) : Prop := FunD K "_law_sign" "_law_sign" (defArgs S_law_sign) (defBody S_law_sign) (defScope S_law_sign) [] [] f fd
theorem bs_law_sign {K : PySem.W.Frag} {f : Addr} {fd : FuncData} (F : F_law_sign K f fd) : Binds K fd ["_law_start", "_law_rows", "_law_named"] [] := F.bindsN fun _ _ _ _ _ _ us hl => match us, hl with | [_, _, _], _ => rfl
abbrev N_law_once : List Str := ["_law_rows", "_law_out", "_law_row"]
theorem sc_law_once : FnScope N_law_once ["_law_rows"] (defScope S_law_once) := ⟨rfl, rfl, rfl, by decide +kernel, rfl, by decide +kernel, by decide +kernel⟩
abbrev F_law_once (K : PySem.W.Frag) (f : Addr) (fd : FuncData) : Prop := FunD K "_law_once" "_law_once" (defArgs S_law_once) (defBody S_law_once) (defScope S_law_once) [] [] f fd
theorem bs_law_once {K : PySem.W.Frag} {f : Addr} {fd : FuncData} (F : F_law_once K f fd) : Binds K fd ["_law_rows"] [] := F.bindsN fun _ _ _ _ _ _ us hl => match us, hl with | [_], _ => rfl
abbrev N_law_calls : List Str := ["_law_rows", "_law_row"]
theorem sc_law_calls : FnScope N_law_calls ["_law_rows"] (defScope S_law_calls) := ⟨rfl, rfl, rfl, by decide +kernel, rfl, by decide +kernel, by decide +kernel⟩
abbrev F_law_calls (K : PySem.W.Frag) (f : Addr) (fd : FuncData) : Prop := FunD K "_law_calls" "_law_calls" (defArgs S_law_calls) (defBody S_law_calls) (defScope S_law_calls) [] [] f fd
theorem bs_law_calls {K : PySem.W.Frag} {f : Addr} {fd : FuncData} (F : F_law_calls K f fd) : Binds K fd ["_law_rows"] [] := F.bindsN fun _ _ _ _ _ _ us hl => match us, hl with | [_], _ => rfl
abbrev N_law_due : List Str := ["_law_rows", "_law_length", "_law_clashing", "_law_k", "_law_there", "_law_row", "_law_other", "_law_place"]
theorem sc_law_due : FnScope N_law_due ["_law_rows", "_law_length"] (defScope S_law_due) := ⟨rfl, rfl, rfl, by decide +kernel, rfl, by decide +kernel, by decide +kernel⟩
abbrev F_law_due (K : PySem.W.Frag) (f : Addr) (fd : FuncData) : Prop := FunD K "_law_due" "_law_due" (defArgs S_law_due) (defBody S_law_due) (defScope S_law_due) [] [] f fd
theorem bs_law_due {K : PySem.W.Frag} {f : Addr} {fd : FuncData} (F : F_law_due K f fd) : Binds K fd ["_law_rows", "_law_length"] [] := F.bindsN fun _ _ _ _ _ _ us hl => match us, hl with | [_, _], _ => rfl
abbrev N_law_spoilt : List Str := ["_law_state", "_law_rows", "_law_length", "_law_at", "_law_other", "_law_far", "_law_twin", "_law_free", "_law_late", "_law_second", "_law_before", "_law_behind", "_law_lists", "_law_who", "_law_seen", "_law_group", "_law_anchor", "_law_j", "_law_one"]
theorem sc_law_spoilt : FnScope N_law_spoilt ["_law_state", "_law_rows", "_law_length"] (defScope S_law_spoilt) := ⟨rfl, rfl, rfl, by decide +kernel, rfl, by decide +kernel, by decide +kernel⟩
abbrev F_law_spoilt (K : PySem.W.Frag) (f : Addr) (fd : FuncData) : Prop := FunD K "_law_spoilt" "_law_spoilt" (defArgs S_law_spoilt) (defBody S_law_spoilt) (defScope S_law_spoilt) [] [] f fd
theorem bs_law_spoilt {K : PySem.W.Frag} {f : Addr} {fd : FuncData} (F : F_law_spoilt K f fd) : Binds K fd ["_law_state", "_law_rows", "_law_length"] [] := F.bindsN fun _ _ _ _ _ _ us hl => match us, hl with | [_, _, _], _ => rfl
abbrev N_law_all_rules : List Str := ["_law_words", "_law_flank", "_law_sense"]
theorem sc_law_all_rules : FnScope N_law_all_rules [] (defScope S_law_all_rules) := ⟨rfl, rfl, rfl, by decide +kernel, rfl, by decide +kernel, by decide +kernel⟩
abbrev F_law_all_rules (K : PySem.W.Frag) (f : Addr) (fd : FuncData) : Prop := FunD K "_law_all_rules" "_law_all_rules" (defArgs S_law_all_rules) (defBody S_law_all_rules) (defScope S_law_all_rules) [] [] f fd
theorem bs_law_all_rules {K : PySem.W.Frag} {f : Addr} {fd : FuncData} (F : F_law_all_rules K f fd) : Binds K fd [] [] := F.bindsN fun _ _ _ _ _ _ us hl => match us, hl with | [], _ => rfl
abbrev N_law_refusal : List Str := ["_law_words", "_law_start", "_law_part_here", "_law_more", "_law_rows", "_law_due_here"]
theorem sc_law_refusal : FnScope N_law_refusal ["_law_words", "_law_start", "_law_part_here", "_law_more"] (defScope S_law_refusal) := ⟨rfl, rfl, rfl, by decide +kernel, rfl, by decide +kernel, by decide +kernel⟩
abbrev F_law_refusal (K : PySem.W.Frag) (f : Addr) (fd : FuncData) : Prop := FunD K "_law_refusal" "_law_refusal" (defArgs S_law_refusal) (defBody S_law_refusal) (defScope S_law_refusal) [] [] f fd
theorem bs_law_refusal {K : PySem.W.Frag} {f : Addr} {fd : FuncData} (F : F_law_refusal K f fd) : Binds K fd ["_law_words", "_law_start", "_law_part_here", "_law_more"] [] := F.bindsN fun _ _ _ _ _ _ us hl => match us, hl with | [_, _, _, _], _ => rfl
abbrev N_law_told : List Str := ["_law_words", "_law_start", "_law_part_here", "_law_more", "error", "_law_growth"]
theorem sc_law_told : FnScope N_law_told ["_law_words", "_law_start", "_law_part_here", "_law_more"] (defScope S_law_told) := ⟨rfl, rfl, rfl, by decide +kernel, rfl, by decide +kernel, by decide +kernel⟩
abbrev F_law_told (K : PySem.W.Frag) (f : Addr) (fd : FuncData) : Prop := FunD K "_law_told" "_law_told" (defArgs S_law_told) (defBody S_law_told) (defScope S_law_told) [] [] f fd
theorem bs_law_told {K : PySem.W.Frag} {f : Addr} {fd : FuncData} (F : F_law_told K f fd) : Binds K fd ["_law_words", "_law_start", "_law_part_here", "_law_more"] [] := F.bindsN fun _ _ _ _ _ _ us hl => match us, hl with | [_, _, _, _], _ => rfl
abbrev N_law_grows : List Str := ["_law_words", "_law_start", "_law_part_here", "_law_more", "_law_known", "_law_rest", "_law_line", "_law_rows", "_law_due_here", "_law_row", "_law_rule", "_law_calls_here", "_law_others", "_law_growth", "_law_call", "_law_named"]
theorem sc_law_grows : FnScope N_law_grows ["_law_words", "_law_start", "_law_part_here", "_law_more"] (defScope S_law_grows) := ⟨rfl, rfl, rfl, by decide +kernel, rfl, by decide +kernel, by decide +kernel⟩
abbrev F_law_grows (K : PySem.W.Frag) (f : Addr) (fd : FuncData) : Prop := FunD K "_law_grows" "_law_grows" (defArgs S_law_grows) (defBody S_law_grows) (defScope S_law_grows) [] [] f fd
theorem bs_law_grows {K : PySem.W.Frag} {f : Addr} {fd : FuncData} (F : F_law_grows K f fd) : Binds K fd ["_law_words", "_law_start", "_law_part_here", "_law_more"] [] := F.bindsN fun _ _ _ _ _ _ us hl => match us, hl with | [_, _, _, _], _ => rfl
abbrev N_law_judged : List Str := ["_law_words", "_law_start", "_law_part_here", "_law_more", "_law_due_here"]
theorem sc_law_judged : FnScope N_law_judged ["_law_words", "_law_start", "_law_part_here", "_law_more"] (defScope S_law_judged) := ⟨rfl, rfl, rfl, by decide +kernel, rfl, by decide +kernel, by decide +kernel⟩
abbrev F_law_judged (K : PySem.W.Frag) (f : Addr) (fd : FuncData) : Prop := FunD K "_law_judged" "_law_judged" (defArgs S_law_judged) (defBody S_law_judged) (defScope S_law_judged) [] [] f fd
theorem bs_law_judged {K : PySem.W.Frag} {f : Addr} {fd : FuncData} (F : F_law_judged K f fd) : Binds K fd ["_law_words", "_law_start", "_law_part_here", "_law_more"] [] := F.bindsN fun _ _ _ _ _ _ us hl => match us, hl with | [_, _, _, _], _ => rfl
abbrev N_law_part : List Str := ["_law_words", "_law_start", "_law_rows", "_law_part_here", "_law_keys", "_law_line", "_law_due_here", "_law_rule", "_law_named", "_law_row"]
theorem sc_law_part : FnScope N_law_part ["_law_words", "_law_start", "_law_rows", "_law_part_here"] (defScope S_law_part) := ⟨rfl, rfl, rfl, by decide +kernel, rfl, by decide +kernel, by decide +kernel⟩
abbrev F_law_part (K : PySem.W.Frag) (f : Addr) (fd : FuncData) : Prop := FunD K "_law_part" "_law_part" (defArgs S_law_part) (defBody S_law_part) (defScope S_law_part) [] [] f fd
theorem bs_law_part {K : PySem.W.Frag} {f : Addr} {fd : FuncData} (F : F_law_part K f fd) : Binds K fd ["_law_words", "_law_start", "_law_rows", "_law_part_here"] [] := F.bindsN fun _ _ _ _ _ _ us hl => match us, hl with | [_, _, _, _], _ => rfl
abbrev N_law_fixed : List Str := ["_law_rows"]
theorem sc_law_fixed : FnScope N_law_fixed [] (defScope S_law_fixed) := ⟨rfl, rfl, rfl, by decide +kernel, rfl, by decide +kernel, by decide +kernel⟩
abbrev F_law_fixed (K : PySem.W.Frag) (f : Addr) (fd : FuncData) : Prop := FunD K "_law_fixed" "_law_fixed" (defArgs S_law_fixed) (defBody S_law_fixed) (defScope S_law_fixed) [] [] f fd
theorem bs_law_fixed {K : PySem.W.Frag} {f : Addr} {fd : FuncData} (F : F_law_fixed K f fd) : Binds K fd [] [] := F.bindsN fun _ _ _ _ _ _ us hl => match us, hl with | [], _ => rfl
abbrev N_law : List Str := ["_law_script", "_law_state", "_law_count", "_law_pool", "_law_start", "_law_groups_here", "_law_rows", "_law_part_here", "_law_some", "_law_fixed_here", "_law_turn", "_law_words", "_law_rules", "_law_k", "_law_lists", "_law_early", "_law_row"]
theorem sc_law : FnScope N_law ["_law_script"] (defScope S_law) := ⟨rfl, rfl, rfl, by decide +kernel, rfl, by decide +kernel, by decide +kernel⟩
abbrev F_law (K : PySem.W.Frag) (f : Addr) (fd : FuncData) : Prop := FunD K "law" "law" (defArgs S_law) (defBody S_law) (defScope S_law) [] [] f fd
theorem bs_law {K : PySem.W.Frag} {f : Addr} {fd : FuncData} (F : F_law K f fd) : Binds K fd ["_law_script"] [] := F.bindsN fun _ _ _ _ _ _ us hl => match us, hl with | [_], _ => rfl
abbrev N_Call_init : List Str := ["self", "station", "seen", "group", "anchor"]
theorem sc_Call_init : FnScope N_Call_init ["self", "station", "seen", "group", "anchor"] (defScope S_Call_init) := ⟨rfl, rfl, rfl, by decide +kernel, rfl, by decide +kernel, by decide +kernel⟩
abbrev F_Call_init (K : PySem.W.Frag) (dvs : List V) (f : Addr) (fd : FuncData) : Prop := FunD K "__init__" "Call.__init__" (defArgs S_Call_init) (defBody S_Call_init) (defScope S_Call_init) dvs [] f fd
theorem bs_Call_init {K : PySem.W.Frag} {dvs : List V} {f : Addr} {fd : FuncData} (hl : dvs.length = 1) (F : F_Call_init K dvs f fd) : Binds K fd ["self", "station", "seen", "group", "anchor"] [] := by
  obtain ⟨ds, h1, h2⟩ := F.binds1 (ps := ["self", "station", "seen", "group", "anchor"]) 5 1 (fun e => by rw [e] at hl; cases hl) (by rw [hl]; rfl) fun T kV doc pm an cdv ct us its l1 l2 => by
    rw [hl] at l2
    match us, its, l1, l2 with
    | [_, _, _, _, _], [_], _, _ => exact ⟨_, rfl, rfl⟩
  rw [List.drop_eq_nil_of_le (by rw [hl]; exact Nat.le_refl _)] at h1
  cases h1
  exact h2
abbrev N_Call_eq : List Str := ["self", "other"]
theorem sc_Call_eq : FnScope N_Call_eq ["self", "other"] (defScope S_Call_eq) := ⟨rfl, rfl, rfl, by decide +kernel, rfl, by decide +kernel, by decide +kernel⟩
abbrev F_Call_eq (K : PySem.W.Frag) (f : Addr) (fd : FuncData) : Prop := FunD K "__eq__" "Call.__eq__" (defArgs S_Call_eq) (defBody S_Call_eq) (defScope S_Call_eq) [] [] f fd
theorem bs_Call_eq {K : PySem.W.Frag} {f : Addr} {fd : FuncData} (F : F_Call_eq K f fd) : Binds K fd ["self", "other"] [] := F.bindsN fun _ _ _ _ _ _ us hl => match us, hl with | [_, _], _ => rfl
abbrev N_Growth_init : List Str := ["self", "start", "joins", "end", "made", "gap", "group"]
theorem sc_Growth_init : FnScope N_Growth_init ["self", "start", "joins"] (defScope S_Growth_init) := ⟨rfl, rfl, rfl, by decide +kernel, rfl, by decide +kernel, by decide +kernel⟩
abbrev F_Growth_init (K : PySem.W.Frag) (dvs : List V) (f : Addr) (fd : FuncData) : Prop := FunD K "__init__" "Growth.__init__" (defArgs S_Growth_init) (defBody S_Growth_init) (defScope S_Growth_init) dvs [] f fd
theorem bs_Growth_init {K : PySem.W.Frag} {dvs : List V} {f : Addr} {fd : FuncData} (hl : dvs.length = 1) (F : F_Growth_init K dvs f fd) : Binds K fd ["self", "start", "joins"] [] := by
  obtain ⟨ds, h1, h2⟩ := F.binds1 (ps := ["self", "start", "joins"]) 3 1 (fun e => by rw [e] at hl; cases hl) (by rw [hl]; rfl) fun T kV doc pm an cdv ct us its l1 l2 => by
    rw [hl] at l2
    match us, its, l1, l2 with
    | [_, _, _], [_], _, _ => exact ⟨_, rfl, rfl⟩
  rw [List.drop_eq_nil_of_le (by rw [hl]; exact Nat.le_refl _)] at h1
  cases h1
  exact h2
abbrev N_Growth_row : List Str := ["self"]
theorem sc_Growth_row : FnScope N_Growth_row ["self"] (defScope S_Growth_row) := ⟨rfl, rfl, rfl, by decide +kernel, rfl, by decide +kernel, by decide +kernel⟩
abbrev F_Growth_row (K : PySem.W.Frag) (f : Addr) (fd : FuncData) : Prop := FunD K "row" "Growth.row" (defArgs S_Growth_row) (defBody S_Growth_row) (defScope S_Growth_row) [] [] f fd
theorem bs_Growth_row {K : PySem.W.Frag} {f : Addr} {fd : FuncData} (F : F_Growth_row K f fd) : Binds K fd ["self"] [] := F.bindsN fun _ _ _ _ _ _ us hl => match us, hl with | [_], _ => rfl
abbrev N_Growth_stages : List Str := ["self", "row", "gap", "group"]
theorem sc_Growth_stages : GScope N_Growth_stages ["self"] (defScope S_Growth_stages) := ⟨rfl, rfl, rfl, by decide +kernel, rfl, by decide +kernel, by decide +kernel⟩
abbrev F_Growth_stages (K : PySem.W.Frag) (f : Addr) (fd : FuncData) : Prop := FunD K "stages" "Growth.stages" (defArgs S_Growth_stages) (defBody S_Growth_stages) (defScope S_Growth_stages) [] [] f fd
theorem bs_Growth_stages {K : PySem.W.Frag} {f : Addr} {fd : FuncData} (F : F_Growth_stages K f fd) : Binds K fd ["self"] [] := F.bindsN fun _ _ _ _ _ _ us hl => match us, hl with | [_], _ => rfl
abbrev N_Rule_init : List Str := ["self", "side", "order", "link"]
theorem sc_Rule_init : FnScope N_Rule_init ["self", "side", "order", "link"] (defScope S_Rule_init) := ⟨rfl, rfl, rfl, by decide +kernel, rfl, by decide +kernel, by decide +kernel⟩
abbrev F_Rule_init (K : PySem.W.Frag) (dvs : List V) (f : Addr) (fd : FuncData) : Prop := FunD K "__init__" "Rule.__init__" (defArgs S_Rule_init) (defBody S_Rule_init) (defScope S_Rule_init) dvs [] f fd
theorem bs_Rule_init {K : PySem.W.Frag} {dvs : List V} {f : Addr} {fd : FuncData} (hl : dvs.length = 3) (F : F_Rule_init K dvs f fd) : Binds K fd ["self", "side", "order", "link"] [] := by
  obtain ⟨ds, h1, h2⟩ := F.binds1 (ps := ["self", "side", "order", "link"]) 4 3 (fun e => by rw [e] at hl; cases hl) (by rw [hl]; rfl) fun T kV doc pm an cdv ct us its l1 l2 => by
    rw [hl] at l2
    match us, its, l1, l2 with
    | [_, _, _, _], [_, _, _], _, _ => exact ⟨_, rfl, rfl⟩
  rw [List.drop_eq_nil_of_le (by rw [hl]; exact Nat.le_refl _)] at h1
  cases h1
  exact h2
abbrev N_Rule_text : List Str := ["self"]
theorem sc_Rule_text : FnScope N_Rule_text ["self"] (defScope S_Rule_text) := ⟨rfl, rfl, rfl, by decide +kernel, rfl, by decide +kernel, by decide +kernel⟩
abbrev F_Rule_text (K : PySem.W.Frag) (f : Addr) (fd : FuncData) : Prop := FunD K "text" "Rule.text" (defArgs S_Rule_text) (defBody S_Rule_text) (defScope S_Rule_text) [] [] f fd
theorem bs_Rule_text {K : PySem.W.Frag} {f : Addr} {fd : FuncData} (F : F_Rule_text K f fd) : Binds K fd ["self"] [] := F.bindsN fun _ _ _ _ _ _ us hl => match us, hl with | [_], _ => rfl
abbrev N_GrowsError_init : List Str := ["self", "value"]
end SG
set_option maxHeartbeats 4000000
/-! SgData: rows of calls, names of signs, their paths and order. Plain Lean. -/
namespace SG
open PySem
abbrev Key := Int × Int
abbrev Nm := Option Key × Int
structure Row where
  who : Int
  seen : List Int
  group : Str
  anchor : Nm
  deriving DecidableEq
def Row.num (r : Row) : Int := r.seen.getD r.who.toNat 0 + 1
def Row.key (r : Row) : Key := (r.who, r.num)
def Row.clock (r : Row) : Int := r.seen.sum + 1
/-- a small letter -/
def Letter (c : Nat) : Prop := 97 ≤ c ∧ c ≤ 122
structure Good (r : Row) : Prop where
  w0 : 0 ≤ r.who
  w1 : r.who < r.seen.length
  len : r.seen.length ≤ 6
  s0 : ∀ c ∈ r.seen, 0 ≤ c ∧ c ≤ 100
  g0 : 1 ≤ r.group.length
  g1 : r.group.length ≤ 10
  gl : ∀ c ∈ r.group.cps.toList, Letter c
  an : match r.anchor.1 with
    | none => 0 ≤ r.anchor.2
    | some k => 0 ≤ k.1 ∧ k.1 < r.seen.length ∧ 1 ≤ k.2 ∧ k.2 ≤ r.seen.getD k.1.toNat 0 ∧ 1 ≤ r.anchor.2
/-- stamps: clock, station, number -/
def stLt (a b : Row) : Prop := a.clock < b.clock ∨ (a.clock = b.clock ∧ (a.who < b.who ∨ (a.who = b.who ∧ a.num < b.num)))
def code (r : Row) : Int := r.clock * 10000 + r.who * 1000 + r.num
theorem Good.num (g : Good r) : 1 ≤ r.num ∧ r.num ≤ 101 := by
  unfold Row.num
  have h1 := g.w1
  have h0 := g.w0
  have hl : r.who.toNat < r.seen.length := by omega
  have e : r.seen.getD r.who.toNat 0 = r.seen[r.who.toNat] := by simp [List.getD, hl]
  have := g.s0 _ (List.getElem_mem hl)
  rw [e]
  omega
theorem Good.whoB (g : Good r) : 0 ≤ r.who ∧ r.who < 6 := by
  have h1 := g.w1
  have h0 := g.w0
  have h2 := g.len
  omega
theorem code_lt {a b : Row} (ga : Good a) (gb : Good b) : code a < code b ↔ stLt a b := by
  have a1 := ga.num; have b1 := gb.num; have a2 := ga.whoB; have b2 := gb.whoB
  unfold code stLt
  omega
theorem code_key {a b : Row} (ga : Good a) (gb : Good b) (h : code a = code b) : a.key = b.key := by
  have a1 := ga.num; have b1 := gb.num; have a2 := ga.whoB; have b2 := gb.whoB
  unfold code at h
  have h1 : a.who = b.who ∧ a.num = b.num := by omega
  unfold Row.key
  rw [h1.1, h1.2]
/-! ### names -/
def signs (k : Option Key) (g : Str) : List Nm := (List.range g.length).map fun (i : Nat) => (k, (i : Int) + 1)
theorem mem_signs {k : Option Key} {g : Str} {n : Nm} : n ∈ signs k g ↔ n.1 = k ∧ 1 ≤ n.2 ∧ n.2 ≤ g.length := by
  unfold signs
  rw [List.mem_map]
  constructor
  · rintro ⟨i, hi, rfl⟩
    rw [List.mem_range] at hi
    exact ⟨rfl, by show (1 : Int) ≤ (i : Int) + 1; omega, by show (i : Int) + 1 ≤ _; omega⟩
  · rintro ⟨h1, h2, h3⟩
    refine ⟨(n.2 - 1).toNat, by rw [List.mem_range]; omega, ?_⟩
    obtain ⟨a, b⟩ := n
    simp only at h1 h2 h3 ⊢
    rw [h1]
    congr 1
    omega
/-- the names of all signs -/
def Named (g0 : Str) (rows : List Row) (n : Nm) : Prop := n ∈ signs none g0 ∨ ∃ r ∈ rows, n ∈ signs (some r.key) r.group
/-! ### rules, paths -/
structure Rul where
  after : Bool
  oldest : Bool
  whole : Bool
inductive Cd where
  | st (i : Int)
  | tn (r : Row)
def Cd.val (τ : Row → Int) : Cd → Int
  | .st i => i
  | .tn r => τ r
def stp (R : Rul) (len : Nat) (p : Int) : Int := if R.after then p - 1 else len - (p - 1)
def tailC (R : Rul) (r : Row) (p : Int) : List Cd := if R.whole then [.tn r, .st (stp R r.group.length p)] else [.st (stp R r.group.length p), .tn r]
/-- the codes of a name's path: p counts from one -/
inductive PathC (R : Rul) (g0 : Str) (rows : List Row) : Nm → List Cd → Prop
  | rim : PathC R g0 rows (none, 0) [.st 0, .st 0]
  | start (p : Int) : 1 ≤ p → p ≤ g0.length → PathC R g0 rows (none, p) [.st (if R.after then p else g0.length - (p - 1)), .st 0]
  | sign (r : Row) (p : Int) (c : List Cd) : r ∈ rows → 1 ≤ p → p ≤ r.group.length → PathC R g0 rows r.anchor c → PathC R g0 rows (some r.key, p) (c ++ tailC R r p)
/-- one row a key -/
def Uniq (rows : List Row) : Prop := ∀ a ∈ rows, ∀ b ∈ rows, a.key = b.key → a = b
theorem PathC.func {R : Rul} {g0 : Str} {rows : List Row} (u : Uniq rows) {n : Nm} {c : List Cd} (h : PathC R g0 rows n c) : ∀ {d : List Cd}, PathC R g0 rows n d → c = d := by
  induction h with
  | rim =>
    intro d h
    cases h with
    | rim => rfl
    | start p h1 h2 => omega
  | start p h1 h2 =>
    intro d h
    cases h with
    | rim => omega
    | start p h3 h4 => rfl
  | sign r p c hr h1 h2 hc ih =>
    intro d h
    generalize hn : ((some r.key, p) : Nm) = n at h
    cases h with
    | rim => cases hn
    | start q _ _ => cases hn
    | sign r' p' c' hr' h1' h2' hc' =>
      have e1 : r.key = r'.key := by injection hn with a b; exact Option.some.inj a
      have e2 : p = p' := by injection hn with a b
      have e := u r hr r' hr' e1
      subst e e2
      rw [ih hc']
theorem PathC.mono {R : Rul} {g0 : Str} {rows rows' : List Row} (s : ∀ r ∈ rows, r ∈ rows') {n : Nm} {c : List Cd} (h : PathC R g0 rows n c) : PathC R g0 rows' n c := by
  induction h with
  | rim => exact .rim
  | start p h1 h2 => exact .start p h1 h2
  | sign r p c hr h1 h2 _ ih => exact .sign r p c (s r hr) h1 h2 ih
/-- the codes' kinds: two steps, then pairs -/
inductive Prs (R : Rul) : List Cd → Prop
  | nil : Prs R []
  | w (r : Row) (i : Int) (c : List Cd) : R.whole = true → Prs R c → Prs R (.tn r :: .st i :: c)
  | l (r : Row) (i : Int) (c : List Cd) : R.whole = false → Prs R c → Prs R (.st i :: .tn r :: c)
theorem Prs.app {R : Rul} {c d : List Cd} (h : Prs R c) (h' : Prs R d) : Prs R (c ++ d) := by
  induction h with
  | nil => exact h'
  | w r i c e _ ih => exact .w r i _ e ih
  | l r i c e _ ih => exact .l r i _ e ih
theorem prs_tail (R : Rul) (r : Row) (p : Int) : Prs R (tailC R r p) := by
  unfold tailC
  cases e : R.whole with
  | true => exact .w _ _ _ e .nil
  | false => exact .l _ _ _ e .nil
theorem PathC.form {R : Rul} {g0 : Str} {rows : List Row} {n : Nm} {c : List Cd} (h : PathC R g0 rows n c) : ∃ i j d, c = .st i :: .st j :: d ∧ Prs R d ∧ ∀ r, Cd.tn r ∈ c → r ∈ rows := by
  induction h with
  | rim => exact ⟨0, 0, [], rfl, .nil, fun r hr => by simp at hr⟩
  | start p h1 h2 => exact ⟨_, 0, [], rfl, .nil, fun r hr => by simp at hr⟩
  | sign r p c hr h1 h2 _ ih =>
    obtain ⟨i, j, d, rfl, hd, hm⟩ := ih
    refine ⟨i, j, d ++ tailC R r p, rfl, hd.app (prs_tail R r p), fun q hq => ?_⟩
    rcases List.mem_append.mp hq with hq | hq
    · exact hm q hq
    · unfold tailC at hq
      split at hq
      · simp at hq; rw [hq]; exact hr
      · simp at hq; rw [hq]; exact hr
/-- the order of the paths hangs on the order of the turns alone -/
theorem lt_iso {R : Rul} {τ τ' : Row → Int} {rows : List Row} (iso : ∀ a ∈ rows, ∀ b ∈ rows, (τ a < τ b ↔ τ' a < τ' b)) : ∀ {c d : List Cd}, Prs R c → Prs R d → (∀ r, Cd.tn r ∈ c → r ∈ rows) → (∀ r, Cd.tn r ∈ d → r ∈ rows) → (c.map (Cd.val τ) < d.map (Cd.val τ) ↔ c.map (Cd.val τ') < d.map (Cd.val τ')) := by
  have eqv : ∀ {a b : Row}, a ∈ rows → b ∈ rows → (τ a = τ b ↔ τ' a = τ' b) := fun {a b} ha hb => by
    have h1 := iso a ha b hb
    have h2 := iso b hb a ha
    omega
  intro c d hc
  induction hc generalizing d with
  | nil =>
    intro hd _ _
    cases hd <;> simp
  | w r i c e hc ih =>
    intro hd m1 m2
    cases hd with
    | nil => simp
    | w r' i' d e' hd =>
      have h1 := iso r (m1 r (by simp)) r' (m2 r' (by simp))
      have h2 := eqv (m1 r (by simp)) (m2 r' (by simp))
      have h3 := ih hd (fun q hq => m1 q (by simp [hq])) fun q hq => m2 q (by simp [hq])
      simp only [List.map_cons, List.cons_lt_cons_iff, Cd.val, h1, h2, h3]
    | l r' i' d e' hd => rw [e] at e'; cases e'
  | l r i c e hc ih =>
    intro hd m1 m2
    cases hd with
    | nil => simp
    | w r' i' d e' hd => rw [e] at e'; cases e'
    | l r' i' d e' hd =>
      have h1 := iso r (m1 r (by simp)) r' (m2 r' (by simp))
      have h2 := eqv (m1 r (by simp)) (m2 r' (by simp))
      have h3 := ih hd (fun q hq => m1 q (by simp [hq])) fun q hq => m2 q (by simp [hq])
      simp only [List.map_cons, List.cons_lt_cons_iff, Cd.val, h1, h2, h3]
def turn (R : Rul) (r : Row) : Int := if R.oldest then code r else - code r
/-- a stands before b, ahead of the turn of a row of side 'before' -/
def Bef (R : Rul) (g0 : Str) (rows : List Row) (a b : Nm) : Prop := ∃ c d, PathC R g0 rows a c ∧ PathC R g0 rows b d ∧ c.map (Cd.val (turn R)) < d.map (Cd.val (turn R))
end SG
set_option maxHeartbeats 4000000
/-! SgMath: lines of names, the walk from the rim outward. Plain Lean. -/
namespace SG
open PySem
/-! ### lists of numbers -/
/-- less at a place that both have -/
def SLt (l m : List Int) : Prop := ∃ p a b t u, l = p ++ a :: t ∧ m = p ++ b :: u ∧ a < b
theorem lt_app (p : List Int) {l m : List Int} (h : l < m) : p ++ l < p ++ m := by
  induction p with
  | nil => exact h
  | cons a p ih => exact List.cons_lt_cons_iff.mpr (.inr ⟨rfl, ih⟩)
theorem SLt.lt {l m : List Int} (h : SLt l m) : l < m := by
  obtain ⟨p, a, b, t, u, rfl, rfl, h⟩ := h
  exact lt_app p (List.cons_lt_cons_iff.mpr (.inl h))
theorem SLt.left {l m : List Int} (h : SLt l m) (x : List Int) : SLt (l ++ x) m := by
  obtain ⟨p, a, b, t, u, rfl, rfl, h⟩ := h
  exact ⟨p, a, b, t ++ x, u, by simp, rfl, h⟩
theorem SLt.app (p : List Int) {l m : List Int} (h : SLt l m) : SLt (p ++ l) (p ++ m) := by
  obtain ⟨q, a, b, t, u, rfl, rfl, h⟩ := h
  exact ⟨p ++ q, a, b, t, u, by simp, by simp, h⟩
theorem SLt.of : ∀ {l m : List Int}, l.length = m.length → l < m → SLt l m
  | [], [], _, h => absurd h (by simp)
  | [], _ :: _, e, _ => by simp at e
  | _ :: _, [], e, _ => by simp at e
  | a :: l, b :: m, e, h => by
    rcases List.cons_lt_cons_iff.mp h with h2 | ⟨h3, h2⟩
    · exact ⟨[], a, b, l, m, rfl, rfl, h2⟩
    · subst h3
      obtain ⟨p, a', b', t, u, e1, e2, h'⟩ := SLt.of (l := l) (m := m) (by simpa using e) h2
      exact ⟨a :: p, a', b', t, u, by rw [e1]; rfl, by rw [e2]; rfl, h'⟩
theorem lt_more (l : List Int) (a : Int) (t : List Int) : l < l ++ a :: t := by
  have := lt_app l (show ([] : List Int) < a :: t from by simp)
  rwa [List.append_nil] at this
theorem lt_tr {a b c : List Int} (h : a < b) (h' : b < c) : a < c := List.lt_trans h h'
theorem lt_ir (a : List Int) : ¬ a < a := List.lt_irrefl a
/-! ### sorted lists with the same members -/
theorem sorted_unique {α : Type} {r : α → α → Prop} (ir : ∀ a b, r a b → r b a → False) : ∀ {l m : List α}, l.Pairwise r → m.Pairwise r → (∀ a, a ∈ l ↔ a ∈ m) → l = m
  | [], [], _, _, _ => rfl
  | [], b :: m, _, _, h => absurd ((h b).mpr List.mem_cons_self) (by simp)
  | a :: l, [], _, _, h => absurd ((h a).mp List.mem_cons_self) (by simp)
  | a :: l, b :: m, hl, hm, h => by
    rw [List.pairwise_cons] at hl hm
    have e : a = b := by
      rcases List.mem_cons.mp ((h a).mp List.mem_cons_self) with e | ha
      · exact e
      · rcases List.mem_cons.mp ((h b).mpr List.mem_cons_self) with e | hb
        · exact e.symm
        · exact (ir _ _ (hl.1 b hb) (hm.1 a ha)).elim
    subst e
    congr 1
    refine sorted_unique ir hl.2 hm.2 fun x => ⟨fun hx => ?_, fun hx => ?_⟩
    · rcases List.mem_cons.mp ((h x).mp (List.mem_cons_of_mem _ hx)) with e | hx'
      · subst e
        exact (ir _ _ (hl.1 x hx) (hl.1 x hx)).elim
      · exact hx'
    · rcases List.mem_cons.mp ((h x).mpr (List.mem_cons_of_mem _ hx)) with e | hx'
      · subst e
        exact (ir _ _ (hm.1 x hx) (hm.1 x hx)).elim
      · exact hx'
theorem nodup_len {α : Type} [DecidableEq α] : ∀ {l m : List α}, l.Nodup → (∀ a ∈ l, a ∈ m) → l.length ≤ m.length
  | [], _, _, _ => Nat.zero_le _
  | a :: l, m, hn, hs => by
    rw [List.nodup_cons] at hn
    have := nodup_len (l := l) (m := m.erase a) hn.2 fun b hb => by
      have hb' := hs b (List.mem_cons_of_mem _ hb)
      exact (List.mem_erase_of_ne (fun e => hn.1 (by rw [← e]; exact hb))).mpr hb'
    have ha := hs a List.mem_cons_self
    rw [List.length_erase_of_mem ha] at this
    have : 0 < m.length := List.length_pos_of_mem ha
    simp only [List.length_cons]
    omega
/-! ### the order -/
section
variable {R : Rul} {g0 : Str} {rows prt : List Row} {a b c : Nm}
abbrev pv (R : Rul) (l : List Cd) : List Int := l.map (Cd.val (turn R))
theorem Bef.tr (u : Uniq rows) (h : Bef R g0 rows a b) (h' : Bef R g0 rows b c) : Bef R g0 rows a c := by
  obtain ⟨p, q, h1, h2, h3⟩ := h
  obtain ⟨q', s, h4, h5, h6⟩ := h'
  rw [← h2.func u h4] at h6
  exact ⟨p, s, h1, h5, lt_tr h3 h6⟩
theorem Bef.ir (u : Uniq rows) (h : Bef R g0 rows a b) (h' : Bef R g0 rows b a) : False := by
  obtain ⟨p, q, h1, h2, h3⟩ := h.tr u h'
  rw [h1.func u h2] at h3
  exact lt_ir _ h3
/-- strictly before: nothing that hangs on a stands behind b -/
def SBef (R : Rul) (g0 : Str) (rows : List Row) (a b : Nm) : Prop := ∃ c d, PathC R g0 rows a c ∧ PathC R g0 rows b d ∧ SLt (pv R c) (pv R d)
theorem SBef.bef (h : SBef R g0 rows a b) : Bef R g0 rows a b := let ⟨c, d, h1, h2, h3⟩ := h; ⟨c, d, h1, h2, h3.lt⟩
/-- each anchor is the rim, a sign of the opening row or of a row with an earlier stamp -/
def Closed (g0 : Str) (rows : List Row) : Prop := ∀ r ∈ rows, r.anchor = (none, 0) ∨ r.anchor ∈ signs none g0 ∨ ∃ q ∈ rows, code q < code r ∧ r.anchor ∈ signs (some q.key) q.group
theorem code_pos (g : Good r) : 0 ≤ code r := by
  have h1 := g.num
  have h2 := g.whoB
  have h3 : 0 ≤ r.seen.sum := by
    have : ∀ l : List Int, (∀ c ∈ l, 0 ≤ c ∧ c ≤ 100) → 0 ≤ l.sum := by
      intro l
      induction l with
      | nil => intro _; simp
      | cons a l ih =>
        intro h
        rw [List.sum_cons]
        have := (h a List.mem_cons_self).1
        have := ih fun c hc => h c (List.mem_cons_of_mem _ hc)
        omega
    exact this _ g.s0
  unfold code Row.clock
  omega
theorem path_start (h : a ∈ signs none g0) : ∃ c, PathC R g0 rows a c := by
  obtain ⟨h1, h2, h3⟩ := mem_signs.mp h
  obtain ⟨x, p⟩ := a
  simp only at h1 h2 h3
  subst h1
  exact ⟨_, .start p h2 h3⟩
theorem path_sign {r : Row} {d : List Cd} (hr : r ∈ rows) (h : a ∈ signs (some r.key) r.group) (hd : PathC R g0 rows r.anchor d) : PathC R g0 rows a (d ++ tailC R r a.2) := by
  obtain ⟨h1, h2, h3⟩ := mem_signs.mp h
  obtain ⟨x, p⟩ := a
  simp only at h1 h2 h3
  subst h1
  exact .sign r p d hr h2 h3 hd
theorem anchor_path (g : ∀ r ∈ rows, Good r) (cl : Closed g0 rows) : ∀ (n : Nat) (r : Row), r ∈ rows → code r ≤ n → ∃ c, PathC R g0 rows r.anchor c := by
  intro n
  induction n with
  | zero =>
    intro r hr hn
    rcases cl r hr with e | e | ⟨q, hq, h1, _⟩
    · rw [e]; exact ⟨_, .rim⟩
    · exact path_start e
    · have := code_pos (g q hq); omega
  | succ n ih =>
    intro r hr hn
    rcases cl r hr with e | e | ⟨q, hq, h1, h2⟩
    · rw [e]; exact ⟨_, .rim⟩
    · exact path_start e
    · obtain ⟨d, hd⟩ := ih q hq (by omega)
      exact ⟨_, path_sign hq h2 hd⟩
theorem Closed.anchor (g : ∀ r ∈ rows, Good r) (cl : Closed g0 rows) {r : Row} (hr : r ∈ rows) : ∃ c, PathC R g0 rows r.anchor c := anchor_path g cl (code r).toNat r hr (by omega)
theorem Closed.path (g : ∀ r ∈ rows, Good r) (cl : Closed g0 rows) (h : Named g0 rows a) : ∃ c, PathC R g0 rows a c := by
  rcases h with h | ⟨r, hr, h⟩
  · exact path_start h
  · obtain ⟨d, hd⟩ := cl.anchor g hr
    exact ⟨_, path_sign hr h hd⟩
theorem PathC.named {d : List Cd} (h : PathC R g0 rows a d) : a = (none, 0) ∨ Named g0 rows a := by
  cases h with
  | rim => exact .inl rfl
  | start p h1 h2 => exact .inr (.inl (mem_signs.mpr ⟨rfl, h1, h2⟩))
  | sign r p c hr h1 h2 _ => exact .inr (.inr ⟨r, hr, mem_signs.mpr ⟨rfl, h1, h2⟩⟩)
/-- a line, read outward -/
structure Line0 (R : Rul) (g0 : Str) (rows : List Row) (l : List Nm) : Prop where
  srt : l.Pairwise (Bef R g0 rows)
  mem : ∀ a, a ∈ l ↔ Named g0 rows a
theorem Line0.uniq (u : Uniq rows) {l m : List Nm} (h : Line0 R g0 rows l) (h' : Line0 R g0 rows m) : l = m := sorted_unique (fun _ _ x y => x.ir u y) h.srt h'.srt fun a => (h.mem a).trans (h'.mem a).symm
theorem Line0.nodup (u : Uniq rows) {l : List Nm} (h : Line0 R g0 rows l) : l.Nodup := h.srt.imp fun {a b} x e => by subst e; exact x.ir u x
/-- the line of a closed part -/
theorem Line0.part (u : Uniq rows) (g : ∀ r ∈ rows, Good r) (s : ∀ r ∈ prt, r ∈ rows) (cl : Closed g0 prt) {l : List Nm} (h : Line0 R g0 rows l) (t : Nm → Bool) (ht : ∀ a, Named g0 rows a → (t a = true ↔ Named g0 prt a)) : Line0 R g0 prt (l.filter t) := by
  have gp : ∀ r ∈ prt, Good r := fun r hr => g r (s r hr)
  have mem : ∀ a, a ∈ l.filter t ↔ Named g0 prt a := fun a => by
    rw [List.mem_filter, h.mem]
    constructor
    · rintro ⟨h1, h2⟩
      exact (ht a h1).mp h2
    · intro h1
      have h2 : Named g0 rows a := h1.imp id fun ⟨r, hr, q⟩ => ⟨r, s r hr, q⟩
      exact ⟨h2, (ht a h2).mpr h1⟩
  refine ⟨?_, mem⟩
  have hs := h.srt.filter t
  refine hs.imp_of_mem fun {a b} ha hb hab => ?_
  obtain ⟨c, hc⟩ := cl.path (R := R) gp ((mem a).mp ha)
  obtain ⟨d, hd⟩ := cl.path (R := R) gp ((mem b).mp hb)
  obtain ⟨c', d', hc', hd', hlt⟩ := hab
  rw [hc'.func u (hc.mono s), hd'.func u (hd.mono s)] at hlt
  exact ⟨c, d, hc, hd, hlt⟩
end
/-! ### the walk from the rim outward -/
section
variable {R : Rul} {g0 : Str} {rows : List Row} {hung : Nm → List Nm} {line pend : List Nm}
/-- a stands ahead of b on one anchor -/
def TLt (R : Rul) (rows : List Row) (a b : Nm) : Prop := ∃ r ∈ rows, ∃ q ∈ rows, a.1 = some r.key ∧ b.1 = some q.key ∧ pv R (tailC R r a.2) < pv R (tailC R q b.2)
structure Hung (R : Rul) (rows : List Row) (hung : Nm → List Nm) : Prop where
  mem : ∀ s n, n ∈ hung s ↔ ∃ r ∈ rows, r.anchor = s ∧ n ∈ signs (some r.key) r.group
  srt : ∀ s, (hung s).Pairwise (TLt R rows)
/-- the opening row, the sign nearest to the rim first -/
def outw (R : Rul) (k : Option Key) (g : Str) : List Nm := if R.after then signs k g else (signs k g).reverse
structure DInv (R : Rul) (g0 : Str) (rows : List Row) (hung : Nm → List Nm) (line pend : List Nm) : Prop where
  srt : line.Pairwise (Bef R g0 rows)
  ahd : ∀ a ∈ line, ∀ b ∈ pend, Bef R g0 rows a b
  psr : pend.Pairwise (SBef R g0 rows)
  nmd : ∀ a, a ∈ line ∨ a ∈ pend → Named g0 rows a
  rts : ∀ a, a ∈ hung (none, 0) ∨ a ∈ signs none g0 → a ∈ line ∨ a ∈ pend
  cls : ∀ s ∈ line, ∀ a ∈ hung s, a ∈ line ∨ a ∈ pend
theorem tail_len (r : Row) (p : Int) : (pv R (tailC R r p)).length = 2 := by
  unfold tailC
  split <;> rfl
/-- children of one anchor -/
theorem hung_sb (u : Uniq rows) (hu : Hung R rows hung) {s : Nm} {d : List Cd} (hd : PathC R g0 rows s d) : (hung s).Pairwise (SBef R g0 rows) := by
  refine (hu.srt s).imp_of_mem fun {a b} ha hb ⟨r, hr, q, hq, ea, eb, hlt⟩ => ?_
  obtain ⟨r', hr', e1, m1⟩ := (hu.mem s a).mp ha
  obtain ⟨q', hq', e2, m2⟩ := (hu.mem s b).mp hb
  have k1 : r'.key = r.key := by have := (mem_signs.mp m1).1; rw [ea] at this; exact (Option.some.inj this).symm
  have k2 : q'.key = q.key := by have := (mem_signs.mp m2).1; rw [eb] at this; exact (Option.some.inj this).symm
  have := u r' hr' r hr k1
  subst this
  have := u q' hq' q hq k2
  subst this
  refine ⟨_, _, path_sign hr m1 (by rw [e1]; exact hd), path_sign hq m2 (by rw [e2]; exact hd), ?_⟩
  rw [pv, pv, List.map_append, List.map_append]
  exact (SLt.of (by rw [tail_len, tail_len]) hlt).app _
theorem start_sb (R : Rul) (g0 : Str) (rows : List Row) : (outw R none g0).Pairwise (SBef R g0 rows) := by
  have key : ∀ (a b : Nm), a ∈ signs none g0 → b ∈ signs none g0 → ((R.after = true ∧ a.2 < b.2) ∨ (R.after = false ∧ b.2 < a.2)) → SBef R g0 rows a b := by
    rintro ⟨x, p⟩ ⟨y, q⟩ ha hb h
    obtain ⟨h1, h2, h3⟩ := mem_signs.mp ha
    obtain ⟨h4, h5, h6⟩ := mem_signs.mp hb
    simp only at h1 h2 h3 h4 h5 h6 h
    subst h1 h4
    refine ⟨_, _, .start p h2 h3, .start q h5 h6, [], _, _, [0], [0], rfl, rfl, ?_⟩
    rcases h with ⟨e, h⟩ | ⟨e, h⟩ <;> simp only [Cd.val, e] <;> simp <;> omega
  have inc : ∀ (k : Option Key) (g : Str), (signs k g).Pairwise fun a b => a.2 < b.2 := by
    intro k g
    unfold signs
    rw [List.pairwise_map]
    refine List.pairwise_lt_range.imp fun {i j} h => ?_
    show (i : Int) + 1 < (j : Int) + 1
    omega
  unfold outw
  cases e : R.after with
  | true =>
    rw [if_pos rfl]
    exact (inc none g0).imp_of_mem fun {a b} ha hb h => key a b ha hb (.inl ⟨e, h⟩)
  | false =>
    rw [if_neg Bool.false_ne_true, List.pairwise_reverse]
    exact (inc none g0).imp_of_mem fun {a b} ha hb h => key b a hb ha (.inr ⟨e, h⟩)
theorem mem_outw {k : Option Key} {g : Str} {n : Nm} : n ∈ outw R k g ↔ n ∈ signs k g := by
  unfold outw
  split
  · exact Iff.rfl
  · exact List.mem_reverse
theorem dinit (u : Uniq rows) (hu : Hung R rows hung) : DInv R g0 rows hung [] (hung (none, 0) ++ outw R none g0) := by
  refine ⟨.nil, fun a ha => by simp at ha, ?_, fun a h => ?_, fun a h => .inr ?_, fun s hs => by simp at hs⟩
  · rw [List.pairwise_append]
    refine ⟨hung_sb u hu .rim, start_sb R g0 rows, fun a ha b hb => ?_⟩
    obtain ⟨r, hr, e, hm⟩ := (hu.mem _ a).mp ha
    rw [mem_outw] at hb
    obtain ⟨h1, h2, h3⟩ := mem_signs.mp hb
    obtain ⟨y, q⟩ := b
    simp only at h1 h2 h3
    subst h1
    refine ⟨_, _, path_sign hr hm (by rw [e]; exact .rim), .start q h2 h3, [], 0, _, _, _, rfl, rfl, ?_⟩
    show (0 : Int) < Cd.val (turn R) (.st _)
    unfold Cd.val
    dsimp only
    split <;> omega
  · rcases h with h | h
    · simp at h
    · rcases List.mem_append.mp h with h | h
      · obtain ⟨r, hr, _, hm⟩ := (hu.mem _ a).mp h
        exact .inr ⟨r, hr, hm⟩
      · exact .inl (mem_outw.mp h)
  · rw [List.mem_append, mem_outw]
    exact h
theorem dstep (u : Uniq rows) (g : ∀ r ∈ rows, Good r) (cl : Closed g0 rows) (hu : Hung R rows hung) {s : Nm} (h : DInv R g0 rows hung line (s :: pend)) : DInv R g0 rows hung (line ++ [s]) (hung s ++ pend) := by
  have hps := List.pairwise_cons.mp h.psr
  have hs : Named g0 rows s := h.nmd s (.inr List.mem_cons_self)
  obtain ⟨d, hd⟩ := cl.path (R := R) g hs
  have kid : ∀ a ∈ hung s, ∃ x y, PathC R g0 rows a (d ++ tailC R x y) ∧ a.1 = some x.key := fun a ha => by
    obtain ⟨r, hr, e, hm⟩ := (hu.mem s a).mp ha
    exact ⟨r, a.2, path_sign hr hm (by rw [e]; exact hd), (mem_signs.mp hm).1⟩
  have skid : ∀ a ∈ hung s, Bef R g0 rows s a := fun a ha => by
    obtain ⟨x, y, hp, _⟩ := kid a ha
    refine ⟨d, _, hd, hp, ?_⟩
    rw [List.map_append]
    have e : ∃ i t, (tailC R x y).map (Cd.val (turn R)) = i :: t := by
      unfold tailC
      split <;> exact ⟨_, _, rfl⟩
    obtain ⟨i, t, e⟩ := e
    rw [e]
    exact lt_more _ i t
  have kpend : ∀ a ∈ hung s, ∀ b ∈ pend, SBef R g0 rows a b := fun a ha b hb => by
    obtain ⟨x, y, hp, _⟩ := kid a ha
    obtain ⟨c', d', h1, h2, h3⟩ := hps.1 b hb
    rw [h1.func u hd] at h3
    refine ⟨_, d', hp, h2, ?_⟩
    rw [pv, List.map_append]
    exact h3.left _
  have both : ∀ a, a ∈ line ∨ a ∈ s :: pend → a ∈ line ++ [s] ∨ a ∈ hung s ++ pend := fun a ha => by
    rcases ha with ha | ha
    · exact .inl (List.mem_append_left _ ha)
    · rcases List.mem_cons.mp ha with rfl | ha
      · exact .inl (List.mem_append_right _ List.mem_cons_self)
      · exact .inr (List.mem_append_right _ ha)
  refine ⟨?_, ?_, ?_, ?_, fun a ha => both a (h.rts a ha), ?_⟩
  · rw [List.pairwise_append]
    refine ⟨h.srt, List.pairwise_singleton _ _, fun a ha b hb => ?_⟩
    obtain rfl := List.mem_singleton.mp hb
    exact h.ahd a ha b List.mem_cons_self
  · intro a ha b hb
    rcases List.mem_append.mp ha with ha | ha
    · rcases List.mem_append.mp hb with hb | hb
      · exact (h.ahd a ha s List.mem_cons_self).tr u (skid b hb)
      · exact h.ahd a ha b (List.mem_cons_of_mem _ hb)
    · obtain rfl := List.mem_singleton.mp ha
      rcases List.mem_append.mp hb with hb | hb
      · exact skid b hb
      · exact (hps.1 b hb).bef
  · rw [List.pairwise_append]
    exact ⟨hung_sb u hu hd, hps.2, kpend⟩
  · intro a ha
    rcases ha with ha | ha
    · rcases List.mem_append.mp ha with ha | ha
      · exact h.nmd a (.inl ha)
      · obtain rfl := List.mem_singleton.mp ha
        exact hs
    · rcases List.mem_append.mp ha with ha | ha
      · obtain ⟨r, hr, _, hm⟩ := (hu.mem s a).mp ha
        exact .inr ⟨r, hr, hm⟩
      · exact h.nmd a (.inr (List.mem_cons_of_mem _ ha))
  · intro q hq a ha
    rcases List.mem_append.mp hq with hq | hq
    · exact both a (h.cls q hq a ha)
    · obtain rfl := List.mem_singleton.mp hq
      exact .inr (List.mem_append_left _ ha)
theorem ddone (g : ∀ r ∈ rows, Good r) (cl : Closed g0 rows) (hu : Hung R rows hung) (h : DInv R g0 rows hung line []) : Line0 R g0 rows line := by
  refine ⟨h.srt, fun a => ⟨fun ha => h.nmd a (.inl ha), fun ha => ?_⟩⟩
  have got : ∀ {b}, b ∈ line ∨ b ∈ ([] : List Nm) → b ∈ line := fun h => h.elim id fun h => by simp at h
  obtain ⟨d, hd⟩ := cl.path (R := R) g ha
  have key : ∀ {a d}, PathC R g0 rows a d → a = (none, 0) ∨ a ∈ line := by
    intro a d hd
    induction hd with
    | rim => exact .inl rfl
    | start p h1 h2 => exact .inr (got (h.rts _ (.inr (mem_signs.mpr ⟨rfl, h1, h2⟩))))
    | sign r p c hr h1 h2 _ ih =>
      have hk : ((some r.key, p) : Nm) ∈ hung r.anchor := (hu.mem _ _).mpr ⟨r, hr, rfl, mem_signs.mpr ⟨rfl, h1, h2⟩⟩
      rcases ih with e | e
      · rw [e] at hk
        exact .inr (got (h.rts _ (.inl hk)))
      · exact .inr (got (h.cls _ e _ hk))
  rcases key hd with e | e
  · subst e
    rcases ha with ha | ⟨r, _, ha⟩
    · have := (mem_signs.mp ha).2.1; simp at this
    · have := (mem_signs.mp ha).1; simp at this
  · exact e
/-- all names -/
def allN (g0 : Str) (rows : List Row) : List Nm := signs none g0 ++ rows.flatMap fun r => signs (some r.key) r.group
theorem mem_allN {a : Nm} : a ∈ allN g0 rows ↔ Named g0 rows a := by
  unfold allN
  rw [List.mem_append, List.mem_flatMap]
  rfl
theorem DInv.nodup (u : Uniq rows) (h : DInv R g0 rows hung line pend) : (line ++ pend).Nodup := by
  unfold List.Nodup
  rw [List.pairwise_append]
  refine ⟨h.srt.imp fun {a b} x e => ?_, h.psr.imp fun {a b} x e => ?_, fun a ha b hb e => ?_⟩
  · subst e; exact x.ir u x
  · subst e; exact x.bef.ir u x.bef
  · subst e; exact (h.ahd a ha a hb).ir u (h.ahd a ha a hb)
theorem DInv.bound (u : Uniq rows) (h : DInv R g0 rows hung line pend) : line.length + pend.length ≤ (allN g0 rows).length := by
  have := nodup_len (h.nodup u) (m := allN g0 rows) fun a ha => mem_allN.mpr (h.nmd a (List.mem_append.mp ha))
  rwa [List.length_append] at this
end
end SG
set_option maxHeartbeats 4000000
/-! SgMath2: the law's sorted line; order by stamps; a late call joins whole. Plain Lean. -/
namespace SG
open PySem
section
variable {R : Rul} {g0 : Str} {rows : List Row} {τ : Row → Int}
/-! ### the law's paths -/
abbrev tv (τ : Row → Int) (l : List Cd) : List Int := l.map (Cd.val τ)
def Iso (τ : Row → Int) (R : Rul) (rows : List Row) : Prop := ∀ a ∈ rows, ∀ b ∈ rows, (τ a < τ b ↔ turn R a < turn R b)
theorem path_lt (iso : Iso τ R rows) {a b : Nm} {c d : List Cd} (h : PathC R g0 rows a c) (h' : PathC R g0 rows b d) : tv τ c < tv τ d ↔ pv R c < pv R d := by
  obtain ⟨i, j, e, rfl, p1, m1⟩ := h.form
  obtain ⟨i', j', e', rfl, p2, m2⟩ := h'.form
  have := lt_iso (τ := τ) (τ' := turn R) iso p1 p2 (fun r hr => m1 r (by simp [hr])) fun r hr => m2 r (by simp [hr])
  simp only [tv, pv, List.map_cons, List.cons_lt_cons_iff, Cd.val]
  simp only [this]
theorem iso_inj (u : Uniq rows) (g : ∀ r ∈ rows, Good r) (iso : Iso τ R rows) {a b : Row} (ha : a ∈ rows) (hb : b ∈ rows) (e : τ a = τ b) : a = b := by
  have h1 := iso a ha b hb
  have h2 := iso b hb a ha
  refine u a ha b hb (code_key (g a ha) (g b hb) ?_)
  unfold turn at h1 h2
  cases ho : R.oldest with
  | true => rw [ho] at h1 h2; simp only [if_true] at h1 h2; omega
  | false => rw [ho] at h1 h2; simp only [Bool.false_eq_true, if_false] at h1 h2; omega
theorem path_inj (u : Uniq rows) (g : ∀ r ∈ rows, Good r) (iso : Iso τ R rows) {a b : Nm} {c d : List Cd} (h : PathC R g0 rows a c) (h' : PathC R g0 rows b d) (e : tv τ c = tv τ d) : a = b := by
  have e0 := congrArg List.length e
  rw [List.length_map, List.length_map] at e0
  have l2 : ∀ {n : Nm} {x : List Cd}, PathC R g0 rows n x → 2 ≤ x.length := fun hx => by
    obtain ⟨i, j, y, rfl, _⟩ := hx.form
    simp
  have tl : ∀ (r : Row) (p : Int), (tailC R r p).length = 2 := fun r p => by unfold tailC; split <;> rfl
  cases h with
  | rim =>
    cases h' with
    | rim => rfl
    | start q h1 h2 =>
      simp only [tv, List.map_cons, Cd.val, List.cons.injEq] at e
      split at e <;> omega
    | sign r p x hr h1 h2 hx =>
      have := l2 hx; have := tl r p
      simp at e0; omega
  | start q h1 h2 =>
    cases h' with
    | rim =>
      simp only [tv, List.map_cons, Cd.val, List.cons.injEq] at e
      split at e <;> omega
    | start q' h3 h4 =>
      simp only [tv, List.map_cons, Cd.val, List.cons.injEq] at e
      have : q = q' := by split at e <;> omega
      rw [this]
    | sign r p x hr h1 h2 hx =>
      have := l2 hx; have := tl r p
      simp at e0; omega
  | sign r p x hr h1 h2 hx =>
    cases h' with
    | rim =>
      have := l2 hx; have := tl r p
      simp at e0; omega
    | start q h3 h4 =>
      have := l2 hx; have := tl r p
      simp at e0; omega
    | sign r' p' x' hr' h1' h2' hx' =>
      have t1 := tl r p; have t2 := tl r' p'
      rw [List.length_append, List.length_append] at e0
      rw [tv, tv, List.map_append, List.map_append] at e
      obtain ⟨_, e2⟩ := List.append_inj e (by rw [List.length_map, List.length_map]; omega)
      have ht : τ r = τ r' ∧ stp R r.group.length p = stp R r'.group.length p' := by
        unfold tailC at e2
        split at e2 <;> simp only [List.map_cons, Cd.val, List.cons.injEq, List.map_nil] at e2
        · exact ⟨e2.1, e2.2.1⟩
        · exact ⟨e2.2.1, e2.1⟩
      have er := iso_inj u g iso hr hr' ht.1
      subst er
      have : p = p' := by
        have := ht.2
        unfold stp at this
        split at this <;> omega
      rw [this]
/-- keys without a double: one item each -/
theorem filter_key {α β : Type} [DecidableEq β] (f : α → β) : ∀ {l : List α} {a : α}, (l.map f).Nodup → a ∈ l → l.filter (fun x => decide (f x = f a)) = [a]
  | [], _, _, h => by simp at h
  | b :: l, a, hn, h => by
    rw [List.map_cons, List.nodup_cons] at hn
    rcases List.mem_cons.mp h with rfl | h
    · rw [List.filter_cons, if_pos (by simp)]
      congr 1
      refine List.filter_eq_nil_iff.mpr fun x hx e => hn.1 ?_
      rw [← of_decide_eq_true e]
      exact List.mem_map.mpr ⟨x, hx, rfl⟩
    · rw [List.filter_cons, if_neg, filter_key f hn.2 h]
      intro e
      have e := of_decide_eq_true e
      exact hn.1 (by rw [e]; exact List.mem_map.mpr ⟨a, h, rfl⟩)
/-- sorted, no double: strictly -/
theorem strict_of {ys : List (List Int)} (h : ys.Pairwise fun a b => ¬ b < a) (hn : ys.Nodup) : ys.Pairwise (· < ·) := by
  have : ys.Pairwise fun a b => ¬ b < a ∧ a ≠ b := List.Pairwise.and h hn
  refine this.imp fun {a b} ⟨h1, h2⟩ => ?_
  rcases Decidable.em (a < b) with h3 | h3
  · exact h3
  · exact absurd (List.le_antisymm (List.not_lt.mp h1) (List.not_lt.mp h3)) h2
/-- the law's table: names and their paths -/
structure Tab (R : Rul) (g0 : Str) (rows : List Row) (τ : Row → Int) (es : List (List Int × Nm)) : Prop where
  path : ∀ e ∈ es, ∃ c, PathC R g0 rows e.2 c ∧ e.1 = tv τ c
  nd : (es.map (·.2)).Nodup
  mem : ∀ a, a ∈ es.map (·.2) ↔ Named g0 rows a
theorem Tab.ndp {es : List (List Int × Nm)} (u : Uniq rows) (g : ∀ r ∈ rows, Good r) (iso : Iso τ R rows) (t : Tab R g0 rows τ es) : (es.map (·.1)).Nodup := by
  have h := t.nd
  unfold List.Nodup at h ⊢
  rw [List.pairwise_map] at h ⊢
  refine h.imp_of_mem fun {a b} ha hb hne e => hne ?_
  obtain ⟨c, h1, e1⟩ := t.path a ha
  obtain ⟨d, h2, e2⟩ := t.path b hb
  exact path_inj u g iso h1 h2 (by rw [← e1, ← e2]; exact e)
theorem law_line {es : List (List Int × Nm)} (u : Uniq rows) (g : ∀ r ∈ rows, Good r) (iso : Iso τ R rows) (t : Tab R g0 rows τ es) {ys : List (List Int)} (perm : ys.Perm (es.map (·.1))) (srt : ys.Pairwise fun a b => ¬ b < a) :
    Line0 R g0 rows (ys.flatMap fun q => ((([0, 0], (none, 0)) :: es).filter fun x => decide (x.1 = q)).map (·.2)) := by
  have ndp := t.ndp u g iso
  have nd : ys.Nodup := perm.nodup_iff.mpr ndp
  have st := strict_of srt nd
  -- the name of a path
  have one : ∀ e ∈ es, ((([0, 0], ((none : Option Key), (0 : Int))) :: es).filter fun x => decide (x.1 = e.1)).map (·.2) = [e.2] := fun e he => by
    have hne : ([0, 0] : List Int) ≠ e.1 := fun q => by
      obtain ⟨c, h1, e1⟩ := t.path e he
      have := path_inj u g iso (.rim : PathC R g0 rows (none, 0) _) h1 (by rw [← e1]; exact q)
      have hm := (t.mem e.2).mp (List.mem_map.mpr ⟨e, he, rfl⟩)
      rw [← this] at hm
      rcases hm with hm | ⟨r, _, hm⟩
      · have := (mem_signs.mp hm).2.1; simp at this
      · have := (mem_signs.mp hm).1; simp at this
    rw [List.filter_cons, if_neg (by simpa using hne), filter_key (·.1) ndp he]
    rfl
  have mapd : ∀ {zs : List (List Int)}, (∀ q ∈ zs, q ∈ es.map (·.1)) → zs.Pairwise (· < ·) → (zs.flatMap fun q => ((([0, 0], ((none : Option Key), (0 : Int))) :: es).filter fun x => decide (x.1 = q)).map (·.2)).Pairwise (Bef R g0 rows) ∧
      ∀ a, a ∈ (zs.flatMap fun q => ((([0, 0], ((none : Option Key), (0 : Int))) :: es).filter fun x => decide (x.1 = q)).map (·.2)) ↔ ∃ e ∈ es, e.1 ∈ zs ∧ a = e.2 := by
    intro zs
    induction zs with
    | nil => intro _ _; exact ⟨.nil, fun a => by simp⟩
    | cons z zs ih =>
      intro hm hp
      rw [List.pairwise_cons] at hp
      obtain ⟨e, he, ez⟩ := List.mem_map.mp (hm z List.mem_cons_self)
      obtain ⟨i1, i2⟩ := ih (fun q hq => hm q (List.mem_cons_of_mem _ hq)) hp.2
      subst ez
      rw [List.flatMap_cons, one e he]
      refine ⟨?_, fun a => ?_⟩
      · rw [List.singleton_append, List.pairwise_cons]
        refine ⟨fun b hb => ?_, i1⟩
        obtain ⟨e', he', hz, rfl⟩ := (i2 b).mp hb
        obtain ⟨c, h1, q1⟩ := t.path e he
        obtain ⟨d, h2, q2⟩ := t.path e' he'
        refine ⟨c, d, h1, h2, (path_lt iso h1 h2).mp ?_⟩
        rw [← q1, ← q2]
        exact hp.1 _ hz
      · rw [List.singleton_append, List.mem_cons, i2]
        constructor
        · rintro (rfl | ⟨e', he', hz, rfl⟩)
          · exact ⟨e, he, List.mem_cons_self, rfl⟩
          · exact ⟨e', he', List.mem_cons_of_mem _ hz, rfl⟩
        · rintro ⟨e', he', hz, rfl⟩
          rcases List.mem_cons.mp hz with hz | hz
          · have : e' = e := by
              have := filter_key (·.1) ndp he
              have hmem : e' ∈ es.filter fun x => decide (x.1 = e.1) := List.mem_filter.mpr ⟨he', decide_eq_true hz⟩
              rw [this] at hmem
              exact List.mem_singleton.mp hmem
            exact .inl (by rw [this])
          · exact .inr ⟨e', he', hz, rfl⟩
  obtain ⟨h1, h2⟩ := mapd (fun q hq => perm.mem_iff.mp hq) st
  refine ⟨h1, fun a => (h2 a).trans ?_⟩
  rw [← t.mem, List.mem_map]
  constructor
  · rintro ⟨e, he, _, rfl⟩; exact ⟨e, he, rfl⟩
  · rintro ⟨e, he, rfl⟩; exact ⟨e, he, perm.mem_iff.mpr (List.mem_map.mpr ⟨e, he, rfl⟩), rfl⟩
end
/-! ### order by stamps -/
structure Ord (rows o : List Row) : Prop where
  srt : o.Pairwise fun a b => code a < code b
  mem : ∀ r, r ∈ o ↔ r ∈ rows
theorem Ord.uniq {rows o o' : List Row} (h : Ord rows o) (h' : Ord rows o') : o = o' := sorted_unique (fun a b x y => by omega) h.srt h'.srt fun a => (h.mem a).trans (h'.mem a).symm
theorem Ord.nodup {rows o : List Row} (h : Ord rows o) : o.Nodup := h.srt.imp fun {a b} x e => by subst e; omega
theorem idx_ne {α : Type} [DecidableEq α] {x a : α} {l : List α} (h : x ≠ a) : (x :: l).idxOf a = l.idxOf a + 1 := by
  rw [List.idxOf_cons]
  have : (x == a) = false := by simpa using h
  rw [this]
  rfl
/-- ranks among the ordered -/
theorem Ord.idx {rows o : List Row} (h : Ord rows o) {a b : Row} (ha : a ∈ o) (hb : b ∈ o) : (o.idxOf a < o.idxOf b ↔ code a < code b) := by
  have key : ∀ {l : List Row}, l.Pairwise (fun a b => code a < code b) → ∀ {a b}, a ∈ l → b ∈ l → code a < code b → l.idxOf a < l.idxOf b := by
    intro l
    induction l with
    | nil => intro _ a b ha; simp at ha
    | cons x l ih =>
      intro hp a b ha hb hlt
      rw [List.pairwise_cons] at hp
      rcases List.mem_cons.mp ha with rfl | ha
      · have hne : ¬ (a = b) := fun e => by subst e; omega
        rw [List.idxOf_cons_self, idx_ne hne]
        exact Nat.succ_pos _
      · have hxa : x ≠ a := fun e => by subst e; have := hp.1 x ha; omega
        rcases List.mem_cons.mp hb with e | hb
        · have := hp.1 a ha; rw [← e] at this; omega
        · have hxb : x ≠ b := fun e => by subst e; have := hp.1 x hb; have := hp.1 a ha; omega
          rw [idx_ne hxa, idx_ne hxb]
          have := ih hp.2 ha hb hlt
          omega
  constructor
  · intro hi
    rcases Int.lt_trichotomy (code a) (code b) with q | q | q
    · exact q
    · by_cases e : a = b
      · subst e; omega
      · exfalso
        have : ∀ {l : List Row}, l.Pairwise (fun a b => code a < code b) → a ∈ l → b ∈ l → a = b := by
          intro l
          induction l with
          | nil => intro _ ha; simp at ha
          | cons x l ih =>
            intro hp ha hb
            rw [List.pairwise_cons] at hp
            rcases List.mem_cons.mp ha with e1 | ha
            · rcases List.mem_cons.mp hb with e2 | hb
              · rw [e1, e2]
              · have := hp.1 b hb; rw [← e1] at this; omega
            · rcases List.mem_cons.mp hb with e2 | hb
              · have := hp.1 a ha; rw [← e2] at this; omega
              · exact ih hp.2 ha hb
        exact e (this h.srt ha hb)
    · have := key h.srt hb ha q; omega
  · exact key h.srt ha hb
end SG
set_option maxHeartbeats 4000000
/-! SgMath3: under the link whole a late call joins at one place. Plain Lean. -/
namespace SG
open PySem
/-! ### between two lists with one beginning -/
theorem between : ∀ {P c : List Int} {i j : Int}, P ++ [i] < c → c < P ++ [j] → ∃ t, c = P ++ t
  | [], c, _, _, _, _ => ⟨c, rfl⟩
  | h :: P, [], _, _, h1, _ => absurd h1 (by simp)
  | h :: P, a :: c, i, j, h1, h2 => by
    rw [List.cons_append] at h1 h2
    rcases List.cons_lt_cons_iff.mp h1 with g1 | ⟨e1, g1⟩
    · rcases List.cons_lt_cons_iff.mp h2 with g2 | ⟨e2, g2⟩ <;> omega
    · rcases List.cons_lt_cons_iff.mp h2 with g2 | ⟨e2, g2⟩
      · omega
      · obtain ⟨t, ht⟩ := between g1 g2
        exact ⟨t, by rw [ht, e1]; rfl⟩
section
variable {R : Rul} {g0 : Str} {rows known : List Row} {r : Row}
theorem has_turn {τ : Row → Int} {v : Int} {t : List Int} (hw : R.whole = true) : ∀ {q c : List Cd}, Prs R q → Prs R c → c.map (Cd.val τ) = q.map (Cd.val τ) ++ v :: t → ∃ r', Cd.tn r' ∈ c ∧ τ r' = v := by
  intro q c hq
  induction hq generalizing c with
  | nil =>
    intro hc e
    cases hc with
    | nil => simp at e
    | w r' i d _ _ =>
      rw [List.map_cons, List.map_nil, List.nil_append] at e
      exact ⟨r', by simp, (List.cons.inj e).1⟩
    | l r' i d h _ => rw [hw] at h; cases h
  | w r1 i1 d1 _ _ ih =>
    intro hc e
    cases hc with
    | nil => simp at e
    | w r' i d _ hd =>
      simp only [List.map_cons, List.cons_append, List.cons.injEq] at e
      obtain ⟨r2, h1, h2⟩ := ih hd e.2.2
      exact ⟨r2, by simp [h1], h2⟩
    | l r' i d h _ => rw [hw] at h; cases h
  | l r1 i1 d1 h _ ih => rw [hw] at h; cases h
/-- what is asked of a late row -/
structure Late (R : Rul) (g0 : Str) (known : List Row) (r : Row) : Prop where
  u : Uniq (known ++ [r])
  g : ∀ q ∈ known ++ [r], Good q
  c0 : Closed g0 known
  c1 : Closed g0 (known ++ [r])
  nk : ∀ q ∈ known, q.key ≠ r.key
  w : R.whole = true
theorem Late.gk (h : Late R g0 known r) : ∀ q ∈ known, Good q := fun q hq => h.g q (List.mem_append_left _ hq)
theorem Late.uk (h : Late R g0 known r) : Uniq known := fun a ha b hb e => h.u a (List.mem_append_left _ ha) b (List.mem_append_left _ hb) e
theorem turn_ne (h : Late R g0 known r) {q : Row} (hq : q ∈ known) : turn R q ≠ turn R r := fun e => by
  have gq := h.gk q hq
  have gr := h.g r (List.mem_append_right _ List.mem_cons_self)
  refine h.nk q hq (code_key gq gr ?_)
  unfold turn at e
  split at e <;> omega
/-- nothing of the others stands among its signs -/
theorem Late.none_between (h : Late R g0 known r) {a b x : Nm} (ha : a ∈ signs (some r.key) r.group) (hb : b ∈ signs (some r.key) r.group) (hx : Named g0 known x) (h1 : Bef R g0 (known ++ [r]) a x) (h2 : Bef R g0 (known ++ [r]) x b) : False := by
  have hr : r ∈ known ++ [r] := List.mem_append_right _ List.mem_cons_self
  obtain ⟨q, hq⟩ := h.c1.anchor (R := R) h.g hr
  obtain ⟨ca, cx, p1, p2, l1⟩ := h1
  obtain ⟨cx', cb, p3, p4, l2⟩ := h2
  obtain ⟨cy, p5⟩ := h.c0.path (R := R) h.gk hx
  have p6 : PathC R g0 (known ++ [r]) x cy := p5.mono fun z hz => List.mem_append_left _ hz
  rw [p2.func h.u p6] at l1
  rw [p3.func h.u p6, p4.func h.u (path_sign hr hb hq)] at l2
  rw [p1.func h.u (path_sign hr ha hq)] at l1
  have tl : ∀ n : Nm, pv R (q ++ tailC R r n.2) = pv R (q ++ [.tn r]) ++ [stp R r.group.length n.2] := fun n => by
    unfold tailC
    rw [if_pos h.w]
    simp [pv, Cd.val]
  have l1 : pv R (q ++ tailC R r a.2) < pv R cy := l1
  have l2 : pv R cy < pv R (q ++ tailC R r b.2) := l2
  rw [tl] at l1 l2
  obtain ⟨t, ht⟩ := between l1 l2
  obtain ⟨i, j, d, rfl, fd, md⟩ := p5.form
  obtain ⟨i', j', e, rfl, fe, _⟩ := hq.form
  have ht' : d.map (Cd.val (turn R)) = e.map (Cd.val (turn R)) ++ turn R r :: t := by
    have := ht
    simp only [pv, List.map_cons, List.cons_append, List.map_append, List.cons.injEq, List.append_assoc, List.map_nil, List.nil_append, Cd.val] at this
    exact this.2.2
  obtain ⟨r', m1, m2⟩ := has_turn h.w fe fd ht'
  exact turn_ne h (md r' (by simp [m1])) m2
/-! ### a run of a list -/
theorem run_split {α : Type} (t : α → Bool) : ∀ {l : List α}, (∀ p a q b s, l = p ++ a :: q ++ b :: s → t a = true → t b = true → ∀ x ∈ q, t x = true) → ∃ A B, l = A ++ l.filter t ++ B ∧ A ++ B = l.filter fun x => !t x := by
  intro l
  induction l with
  | nil => intro _; exact ⟨[], [], rfl, rfl⟩
  | cons x l ih =>
    intro h
    obtain ⟨A, B, e1, e2⟩ := ih fun p a q b s e => h (x :: p) a q b s (by rw [e]; rfl)
    cases hx : t x with
    | false =>
      refine ⟨x :: A, B, ?_, ?_⟩
      · rw [List.filter_cons, hx, if_neg Bool.false_ne_true]
        show x :: l = x :: (A ++ l.filter t ++ B)
        rw [← e1]
      · rw [List.filter_cons, hx, if_pos (by rfl)]
        show x :: (A ++ B) = _
        rw [e2]
    | true =>
      by_cases hf : l.filter t = []
      · have hall : (l.filter fun y => !t y) = l := List.filter_eq_self.mpr fun y hy => by
          have := List.filter_eq_nil_iff.mp hf y hy
          simpa using this
        refine ⟨[], l, ?_, ?_⟩
        · rw [List.filter_cons, hx, if_pos rfl, hf]; rfl
        · rw [List.filter_cons, hx, if_neg (by simp), hall]; rfl
      · -- A is empty
        have hA : A = [] := by
          cases A with
          | nil => rfl
          | cons y A =>
            exfalso
            obtain ⟨b, hb⟩ := List.exists_mem_of_ne_nil _ hf
            have tb : t b = true := (List.mem_filter.mp hb).2
            obtain ⟨u, v, ev⟩ := List.append_of_mem hb
            have hy : t y = true := h [] x (y :: A ++ u) b (v ++ B) (by rw [e1, ev]; simp) hx tb y (by simp)
            have : y ∈ l.filter fun z => !t z := by rw [← e2]; simp
            have := (List.mem_filter.mp this).2
            simp [hy] at this
        subst hA
        refine ⟨[], B, ?_, ?_⟩
        · rw [List.filter_cons, hx, if_pos rfl]
          show x :: l = x :: (l.filter t ++ B)
          congr 1
        · rw [List.filter_cons, hx, if_neg (by simp)]
          exact e2
theorem outw_srt (hw : R.whole = true) (hr : r ∈ rows) {d : List Cd} (hd : PathC R g0 rows r.anchor d) : (outw R (some r.key) r.group).Pairwise (Bef R g0 rows) := by
  have key : ∀ (a b : Nm), a ∈ signs (some r.key) r.group → b ∈ signs (some r.key) r.group → ((R.after = true ∧ a.2 < b.2) ∨ (R.after = false ∧ b.2 < a.2)) → Bef R g0 rows a b := by
    intro a b ha hb h
    refine ⟨_, _, path_sign hr ha hd, path_sign hr hb hd, ?_⟩
    rw [List.map_append, List.map_append]
    refine lt_app _ ?_
    unfold tailC
    rw [if_pos hw, if_pos hw]
    refine List.cons_lt_cons_iff.mpr (.inr ⟨rfl, List.cons_lt_cons_iff.mpr (.inl ?_)⟩)
    show stp R r.group.length a.2 < stp R r.group.length b.2
    unfold stp
    rcases h with ⟨e, h⟩ | ⟨e, h⟩
    · rw [if_pos e, if_pos e]; omega
    · rw [if_neg (by rw [e]; decide), if_neg (by rw [e]; decide)]; omega
  have inc : (signs (some r.key) r.group).Pairwise fun a b => a.2 < b.2 := by
    unfold signs
    rw [List.pairwise_map]
    refine List.pairwise_lt_range.imp fun {i j} h => ?_
    show (i : Int) + 1 < (j : Int) + 1
    omega
  unfold outw
  cases e : R.after with
  | true =>
    rw [if_pos rfl]
    exact inc.imp_of_mem fun {a b} ha hb h => key a b ha hb (.inl ⟨e, h⟩)
  | false =>
    rw [if_neg Bool.false_ne_true, List.pairwise_reverse]
    exact inc.imp_of_mem fun {a b} ha hb h => key b a hb ha (.inr ⟨e, h⟩)
/-- the line with a late row: its signs stand in one run -/
theorem Late.join (h : Late R g0 known r) {l l' : List Nm} (hl : Line0 R g0 known l) (hl' : Line0 R g0 (known ++ [r]) l') : ∃ A B, l = A ++ B ∧ l' = A ++ outw R (some r.key) r.group ++ B := by
  have hr : r ∈ known ++ [r] := List.mem_append_right _ List.mem_cons_self
  have dec : ∀ a, Named g0 (known ++ [r]) a ↔ Named g0 known a ∨ a ∈ signs (some r.key) r.group := fun a => by
    constructor
    · rintro (h1 | ⟨q, hq, h1⟩)
      · exact .inl (.inl h1)
      · rcases List.mem_append.mp hq with hq | hq
        · exact .inl (.inr ⟨q, hq, h1⟩)
        · obtain rfl := List.mem_singleton.mp hq
          exact .inr h1
    · rintro ((h1 | ⟨q, hq, h1⟩) | h1)
      · exact .inl h1
      · exact .inr ⟨q, List.mem_append_left _ hq, h1⟩
      · exact .inr ⟨r, hr, h1⟩
  have dis : ∀ a, Named g0 known a → a ∈ signs (some r.key) r.group → False := fun a h1 h2 => by
    have e := (mem_signs.mp h2).1
    rcases h1 with h1 | ⟨q, hq, h1⟩
    · rw [(mem_signs.mp h1).1] at e; cases e
    · rw [(mem_signs.mp h1).1] at e
      exact h.nk q hq (Option.some.inj e)
  let t : Nm → Bool := fun a => decide (a ∈ signs (some r.key) r.group)
  have ht : ∀ a, t a = true ↔ a ∈ signs (some r.key) r.group := fun a => decide_eq_true_iff
  obtain ⟨A, B, e1, e2⟩ := run_split t (l := l') fun p a q b s e ta tb x hx => by
    cases q' : t x with
    | true => rfl
    | false =>
      exfalso
      have hxn : Named g0 (known ++ [r]) x := (hl'.mem x).mp (by rw [e]; simp [hx])
      have hxk : Named g0 known x := by
        rcases (dec x).mp hxn with h1 | h1
        · exact h1
        · rw [(ht x).mpr h1] at q'; cases q'
      have srt := hl'.srt
      rw [e, List.append_assoc, List.pairwise_append] at srt
      have s2 := List.pairwise_cons.mp (show (a :: (q ++ b :: s)).Pairwise (Bef R g0 (known ++ [r])) from srt.2.1)
      have b1 : Bef R g0 (known ++ [r]) a x := s2.1 x (List.mem_append_left _ hx)
      have s3 := List.pairwise_append.mp s2.2
      have b2 : Bef R g0 (known ++ [r]) x b := s3.2.2 x hx b (by simp)
      exact h.none_between ((ht a).mp ta) ((ht b).mp tb) hxk b1 b2
  have f1 : l'.filter t = outw R (some r.key) r.group := by
    obtain ⟨d, hd⟩ := h.c1.anchor (R := R) h.g hr
    refine sorted_unique (fun _ _ x y => x.ir h.u y) (hl'.srt.filter t) (outw_srt h.w hr hd) fun a => ?_
    rw [List.mem_filter, ht, mem_outw, hl'.mem]
    exact ⟨fun z => z.2, fun z => ⟨(dec a).mpr (.inr z), z⟩⟩
  have f2 : (l'.filter fun x => !t x) = l := by
    refine Line0.uniq h.uk (hl'.part h.u h.g (fun q hq => List.mem_append_left _ hq) h.c0 (fun x => !t x) fun a ha => ?_) hl
    rw [Bool.not_eq_true']
    constructor
    · intro h1
      rcases (dec a).mp ha with h2 | h2
      · exact h2
      · rw [(ht a).mpr h2] at h1; cases h1
    · intro h1
      cases q : t a with
      | false => rfl
      | true => exact (dis a h1 ((ht a).mp q)).elim
  exact ⟨A, B, by rw [e2, f2], by rw [← f1]; exact e1⟩
end
/-! ### the final line -/
def fin (R : Rul) (l : List Nm) : List Nm := if R.after then l else l.reverse
structure IsLine (R : Rul) (g0 : Str) (rows : List Row) (L : List Nm) : Prop where
  ex : ∃ l, Line0 R g0 rows l ∧ L = fin R l
section
variable {R : Rul} {g0 : Str} {rows known : List Row} {r : Row} {L L' : List Nm}
theorem fin_fin (l : List Nm) : fin R (fin R l) = l := by
  unfold fin
  split
  · rfl
  · rw [List.reverse_reverse]
theorem mem_fin {l : List Nm} {a : Nm} : a ∈ fin R l ↔ a ∈ l := by
  unfold fin
  split
  · exact Iff.rfl
  · exact List.mem_reverse
theorem fin_filter (l : List Nm) (t : Nm → Bool) : (fin R l).filter t = fin R (l.filter t) := by
  unfold fin
  split
  · rfl
  · rw [List.filter_reverse]
theorem IsLine.uniq (u : Uniq rows) (h : IsLine R g0 rows L) (h' : IsLine R g0 rows L') : L = L' := by
  obtain ⟨l, h1, rfl⟩ := h.ex
  obtain ⟨l', h2, rfl⟩ := h'.ex
  rw [h1.uniq u h2]
theorem IsLine.mem (h : IsLine R g0 rows L) (a : Nm) : a ∈ L ↔ Named g0 rows a := by
  obtain ⟨l, h1, rfl⟩ := h.ex
  rw [mem_fin, h1.mem]
theorem IsLine.nodup (u : Uniq rows) (h : IsLine R g0 rows L) : L.Nodup := by
  obtain ⟨l, h1, rfl⟩ := h.ex
  unfold fin
  split
  · exact h1.nodup u
  · exact (List.reverse_perm l).nodup_iff.mpr (h1.nodup u)
theorem IsLine.part {prt : List Row} (u : Uniq rows) (g : ∀ r ∈ rows, Good r) (s : ∀ r ∈ prt, r ∈ rows) (cl : Closed g0 prt) (h : IsLine R g0 rows L) (t : Nm → Bool) (ht : ∀ a, Named g0 rows a → (t a = true ↔ Named g0 prt a)) : IsLine R g0 prt (L.filter t) := by
  obtain ⟨l, h1, rfl⟩ := h.ex
  exact ⟨_, h1.part u g s cl t ht, fin_filter l t⟩
theorem Late.joinF (h : Late R g0 known r) (hl : IsLine R g0 known L) (hl' : IsLine R g0 (known ++ [r]) L') : ∃ A B, L = A ++ B ∧ L' = A ++ signs (some r.key) r.group ++ B := by
  obtain ⟨l, h1, rfl⟩ := hl.ex
  obtain ⟨l', h2, rfl⟩ := hl'.ex
  obtain ⟨A, B, e1, e2⟩ := h.join h1 h2
  unfold fin
  cases e : R.after with
  | true =>
    refine ⟨A, B, by rw [if_pos rfl]; exact e1, ?_⟩
    rw [if_pos rfl, e2]
    unfold outw
    rw [if_pos e]
  | false =>
    refine ⟨B.reverse, A.reverse, ?_, ?_⟩
    · rw [if_neg Bool.false_ne_true, e1, List.reverse_append]
    · rw [if_neg Bool.false_ne_true, e2]
      unfold outw
      rw [if_neg (by rw [e]; decide)]
      simp
end
end SG
namespace SG
open PySem PySem.Spec PyProof.Rows L2
local macro_rules | `(tactic| walk_at "sgv") => `(tactic| first | refine ec_var (i := 0) rfl ?_ | refine ec_var (i := 1) rfl ?_ | refine ec_var (i := 2) rfl ?_ | refine ec_var (i := 3) rfl ?_ | refine ec_var (i := 4) rfl ?_ | refine ec_var (i := 5) rfl ?_ | refine ec_var (i := 6) rfl ?_ | refine ec_var (i := 7) rfl ?_ | refine ec_var (i := 8) rfl ?_ | refine ec_var (i := 9) rfl ?_ | refine ec_var (i := 10) rfl ?_ | refine ec_var (i := 11) rfl ?_ | refine ec_var (i := 12) rfl ?_ | refine ec_var (i := 13) rfl ?_ | refine ec_var (i := 14) rfl ?_ | refine ec_var (i := 15) rfl ?_ | refine ec_var (i := 16) rfl ?_ | refine ec_var (i := 17) rfl ?_ | refine ec_var (i := 18) rfl ?_ | refine ec_var (i := 19) rfl ?_ | refine ec_var (i := 20) rfl ?_ | refine ec_var (i := 21) rfl ?_)
local macro_rules | `(tactic| walk_at "sgs") => `(tactic| first | refine ss_setB (i := 0) (by assumption) ?_ | refine ss_setB (i := 1) (by assumption) ?_ | refine ss_setB (i := 2) (by assumption) ?_ | refine ss_setB (i := 3) (by assumption) ?_ | refine ss_setB (i := 4) (by assumption) ?_ | refine ss_setB (i := 5) (by assumption) ?_ | refine ss_setB (i := 6) (by assumption) ?_ | refine ss_setB (i := 7) (by assumption) ?_ | refine ss_setB (i := 8) (by assumption) ?_ | refine ss_setB (i := 9) (by assumption) ?_ | refine ss_setB (i := 10) (by assumption) ?_ | refine ss_setB (i := 11) (by assumption) ?_ | refine ss_setB (i := 12) (by assumption) ?_ | refine ss_setB (i := 13) (by assumption) ?_ | refine ss_setB (i := 14) (by assumption) ?_ | refine ss_setB (i := 15) (by assumption) ?_ | refine ss_setB (i := 16) (by assumption) ?_ | refine ss_setB (i := 17) (by assumption) ?_ | refine ss_setB (i := 18) (by assumption) ?_ | refine ss_setB (i := 19) (by assumption) ?_ | refine ss_setB (i := 20) (by assumption) ?_ | refine ss_setB (i := 21) (by assumption) ?_)
local macro_rules | `(tactic| walk_at "sgc") => `(tactic| first | ((with_reducible refine isc_len ?_); refine ec_len (Free.len (by assumption)) ?_) | ((with_reducible refine isc_int ?_); refine ec_intc (Free.int (by assumption)) ?_) | ((with_reducible refine isc_list ?_); refine ec_listc (Free.list (by assumption)) ?_) | ((with_reducible refine isc_tuple ?_); refine ec_tuplec (Free.tuple (by assumption)) ?_) | ((with_reducible refine isc_sum ?_); refine ec_sumc (Free.sum (by assumption)) ?_) | ((with_reducible refine isc_min ?_); refine ec_minc (Free.min (by assumption)) ?_) | ((with_reducible refine isc_sorted ?_); refine ec_sortedc (Free.sorted (by assumption)) ?_) | ((with_reducible refine isc_isinstance ?_); refine ec_isac (Free.isinstance (by assumption)) ?_))
local macro_rules | `(tactic| walk_at "sge") => `(tactic| first | ((with_reducible refine isName ?_); walk_at "sgv") | ((with_reducible refine isCall ?_); walk_at "sgc") | (with_reducible refine ec_int ?_) | (with_reducible refine ec_str ?_) | (with_reducible refine ec_bl ?_) | (with_reducible refine ec_non ?_) | (with_reducible refine ec_tup ?_) | (with_reducible refine ec_bin ?_) | ((with_reducible refine isSub ?_); first | (with_reducible refine ec_sl ?_) | refine ec_ix ?_) | ((with_reducible refine isCmpE ?_); refine ec_cmp ?_) | (with_reducible refine ec_not ?_) | (with_reducible refine ec_and ?_) | (with_reducible refine ec_or ?_) | (with_reducible refine ec_one ?_) | (with_reducible refine ec_un ?_) | with_reducible refine ec_if ?_)
local macro_rules | `(tactic| walk_at "sgt") => `(tactic| first | ((with_reducible refine isCmpT ?_); refine et_cmp ?_) | (with_reducible refine et_not ?_) | (with_reducible refine EW.et (ew_and ?_)) | (with_reducible refine EW.et (ew_or ?_)) | refine et_val ?_)
local macro_rules | `(tactic| walk_at "sgst") => `(tactic| first | (with_reducible refine ss_ret ?_) | (with_reducible refine ss_retN ?_) | (with_reducible refine ss_pass ?_) | (with_reducible refine ss_if ?_) | ((with_reducible refine isExp ?_); refine ss_expr ?_) | ((with_reducible refine isAsg ?_); walk_at "sgs"))
local macro_rules | `(tactic| walk_at "sg1") => `(tactic| first | ((with_reducible refine isEC ?_); walk_at "sge") | ((with_reducible refine isECs ?_); first | (with_reducible refine ecs_nil ?_) | refine ecs_cons ?_ | refine ecs_star ?_) | ((with_reducible refine isET ?_); walk_at "sgt") | ((with_reducible refine isEW ?_); first | (with_reducible refine ew_and ?_) | (with_reducible refine ew_or ?_) | (with_reducible refine ew_and1 ?_) | (with_reducible refine ew_or1 ?_)) | ((with_reducible refine isSS ?_); walk_at "sgst") | ((with_reducible refine isSD ?_); first | ((with_reducible refine isSD2 ?_); refine sd_cons ?_) | ((with_reducible refine isSD1 ?_); refine sd_one ?_) | refine sd_nil ?_ | refine sd_one ?_ | refine sd_cons ?_))
local macro_rules | `(tactic| walk_at "sgo") => `(tactic| first | ((with_reducible refine isOC ?_); first | (with_reducible refine oc_add ?_) | (with_reducible refine oc_sub ?_) | (with_reducible refine oc_lt ?_) | (with_reducible refine oc_le ?_) | (with_reducible refine oc_gt ?_) | (with_reducible refine oc_ge ?_) | (with_reducible refine oc_eqs ?_) | (with_reducible refine oc_nes ?_) | (with_reducible refine oc_eqi ?_) | (with_reducible refine oc_nei ?_) | ((with_reducible refine isIs ?_); refine oc_is rfl ?_) | ((with_reducible refine isIsN ?_); refine oc_isnot rfl ?_)) | (with_reducible refine uc_neg ?_) | (with_reducible refine cc_int ?_) | with_reducible refine cc_intB ?_)
local macro_rules | `(tactic| walk_at "sgi") => `(tactic| first | (with_reducible refine ite_t ?_) | (with_reducible refine ite_f ?_) | (with_reducible refine ite_nt ?_) | (with_reducible refine ite_nf ?_) | (with_reducible refine ex_bl ?_))
local macro_rules | `(tactic| walk_at "sg") => `(tactic| repeat (first | walk_at "sg1" | walk_at "sgo" | walk_at "sgi"))
local macro_rules | `(tactic| walk_at "sgm") => `(tactic| repeat (first | exact List.mem_cons_self | refine List.mem_cons_of_mem _ ?_))
/-! SgP1: words, calls. -/
section TSgP1
set_option maxHeartbeats 4000000
open PySem PySem.Spec PyProof.Rows L2
def okd : Option Key → D
  | none => .non
  | some k => .tup [.int k.1, .int k.2]
abbrev keyD (k : Key) : D := .tup [.int k.1, .int k.2]
def nmD (n : Nm) : D := .tup [okd n.1, .int n.2]
def seenD (r : Row) : D := .tup (r.seen.map D.int)
def rowD (r : Row) : D := .tup [.int r.who, seenD r, .str r.group, nmD r.anchor]
abbrev LET : Str := "abcdefghijklmnopqrstuvwxyz"
theorem let_mem {c : Nat} (h : Letter c) : c ∈ LET.cps.toList := by
  obtain ⟨h1, h2⟩ := h
  have e : LET.cps.toList = (List.range 26).map (97 + ·) := by decide +kernel
  rw [e, List.mem_map]
  exact ⟨c - 97, by rw [List.mem_range]; omega, by omega⟩
structure Mods (mg : Str → Option Value) (K : PySem.W.Frag) : Prop where
  fr : Free mg
  letters : ∃ t, mg "LETTERS" = some (.str LET t)
  rim : ∃ a, mg "RIM" = some (.ref a) ∧ ∀ H, SqT K H a [.non, .int 0]
section
variable {P : Program} {w : World} {K : PySem.W.Frag} {mg : Str → Option Value} {base : Heap} {f : Addr} {fd : FuncData}
def FS_is_group : FSpec := fun ds m k x => ∃ g : Str, ds = [.str g] ∧ (∀ c ∈ g.cps.toList, Letter c) ∧ 1 ≤ g.length ∧ g.length ≤ 1000 ∧ k (.bl true) m
theorem fn_is_group (F : F_is_group K f fd) (gm : mg "is_group" = some (.ref f)) (md : Mods mg K) : Fn P w K mg base 1 "is_group" FS_is_group := by
  refine fn_def F sc_is_group gm (bs_is_group F) (fun ds m k x ⟨_, e, _⟩ => by rw [e]; rfl) ?_
  rintro cdv A outer s H E B ds m k x ⟨g, rfl, hl, h1, h2, hk⟩
  obtain ⟨t, gL⟩ := md.letters
  refine sd_cons ?_
  refine ss_forT (.nm 1) B (pg_name B.nd rfl (Or.inl rfl)) (show (1 : Nat) < 2 by decide) ?_
  refine sc_str ?_
  walk_at "sg1"
  refine ⟨g, rfl, Nat, g.cps.toList, fun c => .str ⟨#[c]⟩, fun pre es' m' => m' = m ∧ ∃ o, es' = [some (.str g), o], rfl, ⟨rfl, _, rfl⟩, fun _ _ _ _ => trivial, ?_, ?_⟩
  · rintro pre c post es' m' hx ⟨rfl, o, rfl⟩
    refine ⟨_, rfl, ?_⟩
    walk_at "sg1"; walk_at "sg1"; walk_at "sg1"; walk_at "sg1"
    refine ec_glob (v := .str LET) gL ⟨t, rfl⟩ (fun _ => .str _) ?_
    refine oc_notinS ⟨_, rfl, ite_n (fun hn => absurd (let_mem (hl c (by rw [hx]; simp))) hn) fun _ => ?_⟩
    exact sd_nil ⟨rfl, _, rfl⟩
  · rintro es' m' ⟨rfl, o, rfl⟩
    walk_at "sg"
    have e : (!decide (g = ("" : Str))) = true := by
      have : g ≠ ("" : Str) := fun e => by rw [e] at h1; revert h1; decide +kernel
      simp [this]
    have hk' : k (.bl (!decide (g = ("" : Str)))) m' := by rw [e]; exact hk
    exact hk'
def FS_check_group : FSpec := fun ds m k x => ∃ g : Str, ds = [.str g] ∧ (∀ c ∈ g.cps.toList, Letter c) ∧ 1 ≤ g.length ∧ g.length ≤ 1000 ∧ k (.str g) m
theorem fn_check_group (F : F_check_group K f fd) (gm : mg "check_group" = some (.ref f)) (C1 : Fn P w K mg base 1 "is_group" FS_is_group) : Fn P w K mg base 2 "check_group" FS_check_group := by
  refine fn_def F sc_check_group gm (bs_check_group F) (fun ds m k x ⟨_, e, _⟩ => by rw [e]; rfl) ?_
  rintro cdv A outer s H E B ds m k x ⟨g, rfl, hl, h1, h2, hk⟩
  walk_at "sg1"; walk_at "sg1"
  refine et_not (et_val (ec_call C1 B.room ?_))
  walk_at "sg"
  refine ⟨g, rfl, hl, h1, h2, ⟨true, rfl, ?_⟩⟩
  refine sd_nil ?_
  walk_at "sg"
  exact hk
theorem good_sum {r : Row} (g : Good r) : 0 ≤ r.seen.sum := by
  have : ∀ l : List Int, (∀ c ∈ l, 0 ≤ c ∧ c ≤ 100) → 0 ≤ l.sum := by
    intro l
    induction l with
    | nil => intro _; simp
    | cons a l ih =>
      intro h
      rw [List.sum_cons]
      have := (h a List.mem_cons_self).1
      have := ih fun c hc => h c (List.mem_cons_of_mem _ hc)
      omega
  exact this _ g.s0
abbrev seenL (r : Row) : D := .lst (r.seen.map D.int)
theorem at_nat {α : Type} {l : List α} {i : Int} {v : α} (h0 : 0 ≤ i) (h1 : l[i.toNat]? = some v) : atI l i = some v := by
  have := atI_nat h1
  rwa [Int.toNat_of_nonneg h0] at this
theorem at_int {l : List Int} {i : Int} (h0 : 0 ≤ i) (h1 : i < l.length) : atI (l.map D.int) i = some (.int (l.getD i.toNat 0)) := by
  refine at_nat h0 ?_
  have hl : i.toNat < l.length := by omega
  rw [List.getElem?_map, List.getElem?_eq_getElem hl]
  simp [List.getD, hl]
def FS_is_anchor : FSpec := fun ds m k x => ∃ r : Row, ds = [nmD r.anchor, seenL r] ∧ Good r ∧ k (.bl true) m
theorem fn_is_anchor (F : F_is_anchor K f fd) (gm : mg "is_anchor" = some (.ref f)) (md : Mods mg K) : Fn P w K mg base 1 "is_anchor" FS_is_anchor := by
  refine fn_def F sc_is_anchor gm (bs_is_anchor F) (fun ds m k x ⟨_, e, _⟩ => by rw [e]; rfl) ?_
  rintro cdv A outer s H E B ds m k x ⟨r, rfl, hg, hk⟩
  have fr := md.fr
  obtain ⟨r1, r2, r3, ra⟩ := r
  have han := hg.an
  obtain ⟨ak, ap⟩ := ra
  refine sd_cons (ss_asg (.tp [2, 3]) (pg_tup B.calm (pgs_cons (pg_name B.nd rfl (Or.inl rfl)) (pgs_cons (pg_name B.nd rfl (Or.inl rfl)) pgs_nil))) (by intro i hi; show i < 6; simp at hi; omega) ?_)
  walk_at "sg1"
  refine ⟨_, rfl, ?_⟩
  cases ak with
  | none =>
    have han : 0 ≤ ap := han
    walk_at "sg"
    have hk' : k (.bl (decide (0 ≤ ap))) m := by rw [decide_eq_true han]; exact hk
    exact hk'
  | some kk =>
    obtain ⟨s1, n1⟩ := kk
    obtain ⟨h1, h2, h3, h4, h5⟩ := han
    walk_at "sg"
    refine ss_asg (.tp [4, 5]) (pg_tup B.calm (pgs_cons (pg_name B.nd rfl (Or.inl rfl)) (pgs_cons (pg_name B.nd rfl (Or.inl rfl)) pgs_nil))) (by intro i hi; show i < 6; simp at hi; omega) ?_
    walk_at "sg1"
    refine ⟨_, rfl, ?_⟩
    walk_at "sg1"; walk_at "sg1"; walk_at "sg1"
    refine ec_chain ?_
    walk_at "sg"
    refine ite_d (fun _ => ?_) fun h => absurd h1 h
    walk_at "sg"
    refine cc_len (.inl (.imm _ _)) ?_
    walk_at "sg"
    refine ite_d (fun _ => ?_) fun h => absurd (by rw [List.length_map]; exact h2) h
    walk_at "sg1"
    refine ec_chain ?_
    walk_at "sg"
    refine ite_d (fun _ => ?_) fun h => absurd h3 h
    walk_at "sg"
    refine ic_lst (at_int h1 h2) ?_
    walk_at "sg"
    refine ite_d (fun _ => ?_) fun h => absurd h4 h
    walk_at "sg"
    have hk' : k (.bl (decide (1 ≤ ap))) m := by rw [decide_eq_true h5]; exact hk
    exact hk'
end
end TSgP1
/-! SgP2: is_call, Call. -/
section TSgP2
set_option maxHeartbeats 4000000
open PySem PySem.Spec PyProof.Rows L2
/-- what is known of a class of the program -/
structure ClsF (K : PySem.W.Frag) (C : Addr) : Prop where
  cl : Cls K C
  ha : PySem.W.findIn K (.ref C) "__class__" = some (some (.builtin "object.__class__"))
  hn : PySem.W.specialIn K (.builtin "object.__class__") "__get__" = some (some (.builtin "getset_descriptor.__get__"))
  htk : PySem.W.takesIn K (.builtin "object.__class__") = some true
  hm : PySem.W.mroIn K C (.type "object") = some true
theorem ClsF.ty {K : PySem.W.Frag} {C : Addr} {m : M} (h : ClsF K C) (fs : List (Str × D)) : DTy K m (.ins C fs) (.ref C) := .ins C fs h.cl h.ha h.hn h.htk h.hm
theorem kit_same {K : PySem.W.Frag} {C : Addr} : PySem.W.kitOne K (.ref C) (.ref C) = some true := by
  unfold PySem.W.kitOne
  rw [if_pos (by simp)]
structure CallF (K : PySem.W.Frag) (mg : Str → Option Value) (C : Addr) : Prop where
  c : ClsF K C
  gm : mg "Call" = some (.ref C)
  na : ∀ f ∈ (["station", "seen", "group", "anchor", "number", "clock", "key"] : List Str), NoAttr K C f
def callF (r : Row) : List (Str × D) := [("station", .int r.who), ("seen", seenD r), ("group", .str r.group), ("anchor", nmD r.anchor), ("number", .int r.num), ("clock", .int r.clock), ("key", keyD r.key)]
abbrev callD (C : Addr) (r : Row) : D := .ins C (callF r)
section
variable {P : Program} {w : World} {K : PySem.W.Frag} {mg : Str → Option Value} {base : Heap} {f C : Addr} {fd : FuncData}
def FS_is_call : FSpec := fun ds m k x => ∃ r : Row, ds = [.int r.who, seenL r, .str r.group, nmD r.anchor] ∧ Good r ∧ k (.bl true) m
theorem fn_is_call (F : F_is_call K f fd) (gm : mg "is_call" = some (.ref f)) (fr : Free mg) (C1 : Fn P w K mg base 1 "is_group" FS_is_group) (C2 : Fn P w K mg base 1 "is_anchor" FS_is_anchor) : Fn P w K mg base 2 "is_call" FS_is_call := by
  refine fn_def F sc_is_call gm (bs_is_call F) (fun ds m k x ⟨_, e, _⟩ => by rw [e]; rfl) ?_
  rintro cdv A outer s H E B ds m k x ⟨r, rfl, hg, hk⟩
  refine sd_cons (ss_forT (.nm 4) B (pg_name B.nd rfl (Or.inl rfl)) (show (4 : Nat) < 5 by decide) ?_)
  refine sc_lst ?_
  walk_at "sg1"
  refine ⟨_, rfl, Int, r.seen, D.int, fun pre es' m' => m' = m ∧ ∃ o, es' = [some (.int r.who), some (seenL r), some (.str r.group), some (nmD r.anchor), o], rfl, ⟨rfl, _, rfl⟩, fun _ _ _ _ => trivial, ?_, ?_⟩
  · rintro pre c post es' m' hx ⟨rfl, o, rfl⟩
    refine ⟨_, rfl, ?_⟩
    walk_at "sg"
    refine ite_d (fun h => ?_) fun _ => ?_
    · have := (hg.s0 c (by rw [hx]; simp)).1; omega
    · exact sd_nil ⟨rfl, _, rfl⟩
  · rintro es' m' ⟨rfl, o, rfl⟩
    have lz := hg.len
    have l0 : 0 ≤ r.who := hg.w0
    have l1 : r.who < r.seen.length := hg.w1
    walk_at "sg1"; walk_at "sg1"; walk_at "sg1"
    refine ec_chain ?_
    walk_at "sg"
    refine cc_len (.inl (.imm _ _)) ?_
    walk_at "sg"
    refine ite_d (fun _ => ?_) fun h => absurd (by rw [List.length_map]; omega) h
    walk_at "sg"
    refine ite_d (fun _ => ?_) fun h => absurd (by rw [List.length_map]; omega) h
    walk_at "sg1"
    refine ec_chain ?_
    walk_at "sg"
    refine ite_d (fun _ => ?_) fun h => absurd l0 h
    walk_at "sg"
    refine cc_len (.inl (.imm _ _)) ?_
    walk_at "sg"
    refine ite_d (fun _ => ?_) fun h => absurd (by rw [List.length_map]; omega) h
    walk_at "sg1"
    refine ec_call C1 B.room ?_
    walk_at "sg"
    refine ⟨_, rfl, hg.gl, hg.g0, Nat.le_trans hg.g1 (by decide), ?_⟩
    walk_at "sg"
    refine ec_call C2 B.room ?_
    walk_at "sg"
    exact ⟨r, rfl, hg, hk⟩
def FS_Call_init (C : Addr) : FSpec := fun ds m k x => ∃ (p : Addr) (r : Row) (m0 : M), ds = [.raw (.ref p), .int r.who, seenL r, .str r.group, nmD r.anchor] ∧ m = (p, .ins C []) :: m0 ∧ Good r ∧ k .non ((p, .ins C (callF r)) :: m0)
theorem fn_Call_init {dvs : List V} (F : F_Call_init K dvs f fd) (L : CallF K mg C) (fr : Free mg) (C1 : Fn P w K mg base 2 "is_call" FS_is_call) : FnOk P w K mg base (L2.CX P w) 3 f fd ["self", "station", "seen", "group", "anchor"] (spD K w (FS_Call_init C)) := by
  refine fnok_def F sc_Call_init (fun ds m k x ⟨_, _, _, e, _⟩ => by rw [e]; rfl) ?_
  rintro cdv A outer s H E B ds m k x ⟨p, r, m0, rfl, rfl, hg, hk⟩
  refine sd_cons (ss_if (et_not (et_val (ec_call C1 B.room ?_))))
  walk_at "sg"
  refine ⟨r, rfl, hg, ?_⟩
  walk_at "sg"
  refine ss_fld ?_
  walk_at "sg"
  refine ⟨p, 0, C, [], rfl, rfl, L.c.cl, L.na _ (by walk_at "sgm"), by decide, ?_⟩
  walk_at "sg1"
  refine ss_fld ?_
  walk_at "sg"
  refine cc_tuple (.imm _ _) ?_
  walk_at "sg"
  refine ⟨p, 0, C, _, rfl, rfl, L.c.cl, L.na _ (by walk_at "sgm"), (show (1 : Nat) < 900 by decide), ?_⟩
  walk_at "sg1"
  refine ss_fld ?_
  walk_at "sg"
  refine ⟨p, 0, C, _, rfl, rfl, L.c.cl, L.na _ (by walk_at "sgm"), (show (2 : Nat) < 900 by decide), ?_⟩
  walk_at "sg1"
  refine ss_fld ?_
  walk_at "sg"
  refine ⟨p, 0, C, _, rfl, rfl, L.c.cl, L.na _ (by walk_at "sgm"), (show (3 : Nat) < 900 by decide), ?_⟩
  walk_at "sg1"
  refine ss_fld ?_
  walk_at "sg"
  refine ic_lst (at_int hg.w0 hg.w1) ?_
  walk_at "sg"
  refine ⟨p, 0, C, _, rfl, rfl, L.c.cl, L.na _ (by walk_at "sgm"), (show (4 : Nat) < 900 by decide), ?_⟩
  walk_at "sg1"
  refine ss_fld ?_
  walk_at "sg1"
  walk_at "sg1"
  walk_at "sg1"
  refine ec_fldM ?_
  walk_at "sg"
  refine ⟨p, 0, C, _, _, rfl, rfl, L.c.cl, L.na _ (by walk_at "sgm"), rfl, ?_⟩
  walk_at "sg"
  refine cc_sumT B.room.hd ?_
  walk_at "sg"
  refine ⟨p, 0, C, _, rfl, rfl, L.c.cl, L.na _ (by walk_at "sgm"), (show (5 : Nat) < 900 by decide), ?_⟩
  walk_at "sg1"
  refine ss_fld ?_
  walk_at "sg"
  refine ec_fldM ?_
  walk_at "sg"
  refine ⟨p, 0, C, _, _, rfl, rfl, L.c.cl, L.na _ (by walk_at "sgm"), rfl, ?_⟩
  walk_at "sg"
  refine ⟨(show (2 : Nat) ≤ 1000 by decide), ?_⟩
  walk_at "sg"
  exact ⟨p, 0, C, _, rfl, rfl, L.c.cl, L.na _ (by walk_at "sgm"), (show (6 : Nat) < 900 by decide), hk⟩
theorem rowE {a b : Row} : a = b ↔ a.who = b.who ∧ a.seen = b.seen ∧ a.group = b.group ∧ a.anchor = b.anchor := by
  obtain ⟨a1, a2, a3, a4⟩ := a
  obtain ⟨b1, b2, b3, b4⟩ := b
  simp
theorem ints_inj {a b : List Int} (h : a.map D.int = b.map D.int) : a = b := by
  induction a generalizing b with
  | nil => cases b with
    | nil => rfl
    | cons _ _ => simp at h
  | cons x a ih => cases b with
    | nil => simp at h
    | cons y b =>
      simp only [List.map_cons, List.cons.injEq, D.int.injEq] at h
      rw [h.1, ih h.2]
theorem okd_inj {a b : Option Key} (h : okd a = okd b) : a = b := by
  cases a <;> cases b <;> simp [okd] at h ⊢
  exact Prod.ext h.1 h.2
theorem nmD_inj {a b : Nm} (h : nmD a = nmD b) : a = b := by
  obtain ⟨a1, a2⟩ := a
  obtain ⟨b1, b2⟩ := b
  unfold nmD at h
  simp only [D.tup.injEq, List.cons.injEq, D.int.injEq, and_true] at h
  rw [okd_inj h.1, h.2]
theorem okd_sn {n : Nat} {a : Option Key} : D.sn (n + 1) (okd a) := by
  cases a with
  | none => exact sn_non
  | some k => exact sn_tup (snL_cons sn_int (snL_cons sn_int snL_nil))
theorem nmD_sn {n : Nat} {a : Nm} : D.sn (n + 2) (nmD a) := sn_tup (snL_cons okd_sn (snL_cons sn_int snL_nil))
theorem okd_nb {a : Option Key} : (okd a).nb = true := by cases a <;> rfl
theorem nmD_nb {a : Nm} : (nmD a).nb = true := by
  unfold nmD
  simp only [D.nb, D.nbL, okd_nb, Bool.and_self]
theorem seenD_sn {n : Nat} {r : Row} : D.sn (n + 1) (seenD r) := sn_tup (snL_map fun _ _ => sn_int)
theorem seenD_nb {r : Row} : (seenD r).nb = true := nbL_map fun _ _ => rfl
theorem eqv_dec {d e : D} {p : Prop} [Decidable p] (hd : d.nb = true) (he : e.nb = true) (h : d = e ↔ p) : PyData.eqv d.py e.py = decide p := by
  have := (eqv_nb d e hd he).trans h
  cases q : PyData.eqv d.py e.py with
  | true => rw [q] at this; exact (decide_eq_true (this.mp rfl)).symm
  | false => rw [q] at this; exact (decide_eq_false fun z => by have := this.mpr z; cases this).symm
def FS_Call_eq (C : Addr) : FSpec := fun ds m k x => ∃ a b : Row, ds = [callD C a, callD C b] ∧ k (.bl (decide (a = b))) m
theorem fn_Call_eq (F : F_Call_eq K f fd) (L : CallF K mg C) (fr : Free mg) : FnOk P w K mg base (L2.CX P w) 1 f fd ["self", "other"] (spD K w (FS_Call_eq C)) := by
  refine fnok_def F sc_Call_eq (fun ds m k x ⟨_, _, e, _⟩ => by rw [e]; rfl) ?_
  rintro cdv A outer s H E B ds m k x ⟨a, b, rfl, hk⟩
  have hu := B.room.units
  have no : ∀ {p : Prop} [Decidable p], ¬ p → (a = b → p) → k (.bl false) m := fun {p} _ h1 h2 => by
    rw [decide_eq_false fun e => h1 (h2 e)] at hk
    exact hk
  walk_at "sg1"; walk_at "sg1"; walk_at "sg1"; walk_at "sg1"; walk_at "sg1"; walk_at "sg1"; walk_at "sg1"
  refine ec_glob (v := .ref C) L.gm rfl (fun _ => .raw _) ?_
  walk_at "sg"
  refine cc_isaC (L.c.ty _) kit_same ?_
  walk_at "sg"
  refine ec_fld ?_
  walk_at "sg"
  refine ⟨C, _, _, rfl, L.c.cl, L.na _ (by walk_at "sgm"), rfl, ?_⟩
  refine ec_fld ?_
  walk_at "sg"
  refine ⟨C, _, _, rfl, L.c.cl, L.na _ (by walk_at "sgm"), rfl, ?_⟩
  walk_at "sg"
  refine ite_d (fun h1 => ?_) fun h => no h fun e => by rw [e]
  walk_at "sg1"
  refine ec_cmp (ec_fld ?_)
  walk_at "sg"
  refine ⟨C, _, _, rfl, L.c.cl, L.na _ (by walk_at "sgm"), rfl, ?_⟩
  refine ec_fld ?_
  walk_at "sg"
  refine ⟨C, _, _, rfl, L.c.cl, L.na _ (by walk_at "sgm"), rfl, ?_⟩
  refine oc_eq hu (seenD_sn (n := 0).sh (by decide)) (seenD_sn (n := 0).sh (by decide)) ?_
  rw [eqv_dec (p := a.seen = b.seen) seenD_nb seenD_nb ⟨fun h => ints_inj (D.tup.inj h), fun h => by rw [seenD, seenD, h]⟩]
  walk_at "sg"
  refine ite_d (fun h2 => ?_) fun h => no h fun e => by rw [e]
  walk_at "sg1"
  refine ec_cmp (ec_fld ?_)
  walk_at "sg"
  refine ⟨C, _, _, rfl, L.c.cl, L.na _ (by walk_at "sgm"), rfl, ?_⟩
  refine ec_fld ?_
  walk_at "sg"
  refine ⟨C, _, _, rfl, L.c.cl, L.na _ (by walk_at "sgm"), rfl, ?_⟩
  walk_at "sg"
  refine ite_d (fun h3 => ?_) fun h => no h fun e => by rw [e]
  walk_at "sg1"; walk_at "sg1"
  refine ec_fld ?_
  walk_at "sg"
  refine ⟨C, _, _, rfl, L.c.cl, L.na _ (by walk_at "sgm"), rfl, ?_⟩
  refine ec_fld ?_
  walk_at "sg"
  refine ⟨C, _, _, rfl, L.c.cl, L.na _ (by walk_at "sgm"), rfl, ?_⟩
  refine oc_eq hu (nmD_sn (n := 0).sh (by decide)) (nmD_sn (n := 0).sh (by decide)) ?_
  rw [eqv_dec (p := a.anchor = b.anchor) nmD_nb nmD_nb ⟨nmD_inj, fun h => by rw [h]⟩]
  have e : decide (a.anchor = b.anchor) = decide (a = b) := by
    by_cases h4 : a.anchor = b.anchor
    · rw [decide_eq_true h4, decide_eq_true (rowE.mpr ⟨h1, h2, h3, h4⟩)]
    · rw [decide_eq_false h4, decide_eq_false fun e => h4 (by rw [e])]
  rw [e]
  exact hk
/-! ### rules, growths -/
structure RuleF (K : PySem.W.Frag) (mg : Str → Option Value) (C : Addr) : Prop where
  c : ClsF K C
  gm : mg "Rule" = some (.ref C)
  na : ∀ f ∈ (["side", "order", "link"] : List Str), NoAttr K C f
  sides : ∃ mc v u, ClX.CRead K C mc ∧ ClX.CVal K C mc "SIDES" v u ∧ ∀ G, Rp K G (.tup ((["after", "before"] : List Str).map D.str)) v
  orders : ∃ mc v u, ClX.CRead K C mc ∧ ClX.CVal K C mc "ORDERS" v u ∧ ∀ G, Rp K G (.tup ((["newest", "oldest"] : List Str).map D.str)) v
  links : ∃ mc v u, ClX.CRead K C mc ∧ ClX.CVal K C mc "LINKS" v u ∧ ∀ G, Rp K G (.tup ((["whole", "loose"] : List Str).map D.str)) v
def sideS (R : Rul) : Str := if R.after then "after" else "before"
def orderS (R : Rul) : Str := if R.oldest then "oldest" else "newest"
def linkS (R : Rul) : Str := if R.whole then "whole" else "loose"
def ruleFs (R : Rul) : List (Str × D) := [("side", .str (sideS R)), ("order", .str (orderS R)), ("link", .str (linkS R))]
abbrev ruleD (C : Addr) (R : Rul) : D := .ins C (ruleFs R)
theorem side_mem (R : Rul) : sideS R ∈ (["after", "before"] : List Str) := by unfold sideS; split <;> simp
theorem order_mem (R : Rul) : orderS R ∈ (["newest", "oldest"] : List Str) := by unfold orderS; split <;> simp
theorem link_mem (R : Rul) : linkS R ∈ (["whole", "loose"] : List Str) := by unfold linkS; split <;> simp
def FS_Rule_init (C : Addr) : FSpec := fun ds m k x => ∃ (p : Addr) (R : Rul) (m0 : M), ds = [.raw (.ref p), .str (sideS R), .str (orderS R), .str (linkS R)] ∧ m = (p, .ins C []) :: m0 ∧ k .non ((p, .ins C (ruleFs R)) :: m0)
theorem fn_Rule_init {dvs : List V} (F : F_Rule_init K dvs f fd) (L : RuleF K mg C) : FnOk P w K mg base (L2.CX P w) 1 f fd ["self", "side", "order", "link"] (spD K w (FS_Rule_init C)) := by
  refine fnok_def F sc_Rule_init (fun ds m k x ⟨_, _, _, e, _⟩ => by rw [e]; rfl) ?_
  rintro cdv A outer s H E B ds m k x ⟨p, R, m0, rfl, rfl, hk⟩
  obtain ⟨mc1, v1, u1, a1, a2, a3⟩ := L.sides
  obtain ⟨mc2, v2, u2, b1, b2, b3⟩ := L.orders
  obtain ⟨mc3, v3, u3, c1, c2, c3⟩ := L.links
  walk_at "sg1"; walk_at "sg1"; walk_at "sg1"; walk_at "sg1"; walk_at "sg1"
  refine ec_cval a1 a2 a3 (ec_glob (v := .ref C) L.gm rfl (fun _ => .raw _) ⟨rfl, ?_⟩)
  refine oc_notinT ⟨_, rfl, ite_n (fun h => absurd (side_mem R) h) fun _ => ?_⟩
  walk_at "sg1"; walk_at "sg1"; walk_at "sg1"
  refine ec_cval b1 b2 b3 (ec_glob (v := .ref C) L.gm rfl (fun _ => .raw _) ⟨rfl, ?_⟩)
  refine oc_notinT ⟨_, rfl, ite_n (fun h => absurd (order_mem R) h) fun _ => ?_⟩
  walk_at "sg1"; walk_at "sg1"; walk_at "sg1"
  refine ec_cval c1 c2 c3 (ec_glob (v := .ref C) L.gm rfl (fun _ => .raw _) ⟨rfl, ?_⟩)
  refine oc_notinT ⟨_, rfl, ite_n (fun h => absurd (link_mem R) h) fun _ => ?_⟩
  walk_at "sg"
  refine ss_fld ?_
  walk_at "sg"
  refine ⟨p, 0, C, [], rfl, rfl, L.c.cl, L.na _ (by walk_at "sgm"), by decide, ?_⟩
  walk_at "sg1"
  refine ss_fld ?_
  walk_at "sg"
  refine ⟨p, 0, C, _, rfl, rfl, L.c.cl, L.na _ (by walk_at "sgm"), (show (1 : Nat) < 900 by decide), ?_⟩
  walk_at "sg1"
  refine ss_fld ?_
  walk_at "sg"
  exact ⟨p, 0, C, _, rfl, rfl, L.c.cl, L.na _ (by walk_at "sgm"), (show (2 : Nat) < 900 by decide), hk⟩
def ruleText (R : Rul) : Str := Str.empty ++ sideS R ++ " " ++ orderS R ++ " " ++ linkS R
def FS_Rule_text (C : Addr) : FSpec := fun ds m k x => ∃ R : Rul, ds = [ruleD C R] ∧ k (.str (ruleText R)) m
theorem fn_Rule_text (F : F_Rule_text K f fd) (L : RuleF K mg C) : FnOk P w K mg base (L2.CX P w) 1 f fd ["self"] (spD K w (FS_Rule_text C)) := by
  refine fnok_def F sc_Rule_text (fun ds m k x ⟨_, e, _⟩ => by rw [e]; rfl) ?_
  rintro cdv A outer s H E B ds m k x ⟨R, rfl, hk⟩
  have ls : (sideS R).length ≤ 6 ∧ (orderS R).length ≤ 6 ∧ (linkS R).length ≤ 6 := by
    refine ⟨?_, ?_, ?_⟩
    · unfold sideS; split <;> decide +kernel
    · unfold orderS; split <;> decide +kernel
    · unfold linkS; split <;> decide +kernel
  walk_at "sg1"; walk_at "sg1"
  refine ec_joined ?_
  have hn : ∀ {f : Str}, f ∈ (["side", "order", "link"] : List Str) → NoAttr K C f := fun h => L.na _ h
  have lz : ∀ {a b : Str} {i j : Nat}, a.length ≤ i → b.length ≤ j → (a ++ b).length ≤ i + j := fun {a b i j} h1 h2 => by rw [PySem.Str.length_append]; omega
  have l1 : (Str.empty ++ sideS R).length ≤ 0 + 6 := lz (by decide +kernel) ls.1
  have l2 : (Str.empty ++ sideS R ++ " ").length ≤ 0 + 6 + 1 := lz l1 (by decide +kernel)
  have l3 : (Str.empty ++ sideS R ++ " " ++ orderS R).length ≤ 0 + 6 + 1 + 6 := lz l2 ls.2.1
  have l4 : (Str.empty ++ sideS R ++ " " ++ orderS R ++ " ").length ≤ 0 + 6 + 1 + 6 + 1 := lz l3 (by decide +kernel)
  have l5 : (Str.empty ++ sideS R ++ " " ++ orderS R ++ " " ++ linkS R).length ≤ 0 + 6 + 1 + 6 + 1 + 6 := lz l4 ls.2.2
  refine ec_fmtS (ec_fld ?_)
  walk_at "sg"
  refine ⟨C, _, _, rfl, L.c.cl, hn (by walk_at "sgm"), rfl, ?_⟩
  refine ⟨_, rfl, Nat.le_trans ls.1 (by decide), ?_⟩
  refine ⟨_, rfl, Nat.le_trans l1 (by decide), ?_⟩
  refine ec_str ?_
  refine ⟨_, rfl, Nat.le_trans l2 (by decide), ?_⟩
  refine ec_fmtS (ec_fld ?_)
  walk_at "sg"
  refine ⟨C, _, _, rfl, L.c.cl, hn (by walk_at "sgm"), rfl, ?_⟩
  refine ⟨_, rfl, Nat.le_trans ls.2.1 (by decide), ?_⟩
  refine ⟨_, rfl, Nat.le_trans l3 (by decide), ?_⟩
  refine ec_str ?_
  refine ⟨_, rfl, Nat.le_trans l4 (by decide), ?_⟩
  refine ec_fmtS (ec_fld ?_)
  walk_at "sg"
  refine ⟨C, _, _, rfl, L.c.cl, hn (by walk_at "sgm"), rfl, ?_⟩
  refine ⟨_, rfl, Nat.le_trans ls.2.2 (by decide), ?_⟩
  exact ⟨_, rfl, Nat.le_trans l5 (by decide), hk⟩
end
end TSgP2
/-! SgErr: own exceptions made and raised. -/
section TSgErr
set_option maxHeartbeats 4000000
open PySem PySem.Spec PyProof.Rows L2
/-- what an exception is made with: a short text, or two small numbers -/
def ErrD : D → Prop
  | .str x => (reprText x).length ≤ sizeLine
  | .tup [.int a, .int b] => a.natAbs ≤ 1000000 ∧ b.natAbs ≤ 1000000
  | _ => False
/-- super().__init__ of such a class -/
structure SupC (K : PySem.W.Frag) (C : Addr) : Prop where
  sup : ∀ D : Addr, PySem.W.nsIn K mainGlobals "GrowsError" = some (some (.ref D)) → PySem.W.mroIn K C (.ref D) = some true ∧ PySem.W.ks_superIn K C D "__init__" = some (some (.builtin "ValueError.__init__")) ∧ PySem.W.subIn K (.ref C) (.type "ValueError") = some true
/-- what __init__ of such a class does: one field -/
def spE (K : PySem.W.Frag) : Sp := fun vs H Q E => ∃ (a C : Addr) (v : V) (G : Hp) (d : D), vs = [.ref a, v] ∧ OexC K C ∧ PySem.W.findIn K (.ref C) errV = some none ∧ SupC K C ∧ H a = some (exo a C none) ∧ Same G H ∧ Rp K G d v ∧ ErrD d ∧
  ∀ dx, H dx = none → dx ≠ a → Q .non (upd (upd H dx (exd dx [(errV, v)])) a (exo a C (some dx)))
structure ErrF (K : PySem.W.Frag) (mg : Str → Option Value) (name : Str) (C : Addr) (fI : Addr) : Prop where
  oc : OexC K C
  ini : PySem.W.findIn K (.ref C) "__init__" = some (some (.ref fI))
  val : PySem.W.findIn K (.ref C) errV = some none
  sup : SupC K C
  gm : mg name = some (.ref C)
structure ErrI (P : Program) (w : World) (K : PySem.W.Frag) (mg : Str → Option Value) (base : Heap) (fI : Addr) : Prop where
  tI : PySem.W.typeIn K (.ref fI) = some (.type "function")
  ok : ∃ fd ps, FnOk P w K mg base (L2.CX P w) 1 fI fd ps (spE K) ∧ Binds K fd ps []
section
variable {X : Cx} {x : XD} {es : Es} {m : M} {E : DE} {e : Expr} {k : KD} {pos p p2 : Pos} {n : Nat} {name : Str} {C fI : Addr}
theorem ss_raise (F : ErrF X.K X.mg name C fI) (I1 : ErrI X.prog X.w X.K X.mg X.base fI) (hc : X.calm = true) (hr : Room 2 X.A) (h : EC X x es m e fun d m1 => ErrD d ∧ x C d m1) (hg : Gl X name := by rfl) (hdb : (name == ("__debug__" : Str)) = false := by decide)
    (he : starEach [e] X.env = (false, eval e X.env) :: starEach [] X.env := by rfl) (hpl : (backTo p2 (starEach [] X.env)).any (·.1) = false := by rfl) : SS X x es m (.Raise (some (.Call (.Name name p) [e] [] p2)) none pos) E := by
  intro G σ H Dn w st hl r pins s I
  obtain ⟨W, G0, tk, xr, e0⟩ := w.w
  obtain ⟨fd, ps, Fok, hb⟩ := I1.ok
  refine (ps_raise hc tk (pmk_oex (e := e) (es := []) F.oc F.ini I1.tI Fok hr hb .nil passL hg F.gm pa_R hdb he hpl)).run pins s σ H Dn I ?_
  refine (ecs_cons (k := fun ds m1 => ∃ d, ds = [d] ∧ ErrD d ∧ x C d m1) (h.imp fun d m1 z => ecs_nil ⟨d, rfl, z⟩) he) G σ H _ w st fun vs ds m1 G1 H1 k1 e1 h1 r1 => ?_
  obtain ⟨d, rfl, hd, hx⟩ := k1
  cases r1 with
  | cons r1 rt =>
    cases rt
    rename_i v
    refine ⟨by show (1 : Nat) ≤ 1000; decide, fun a ha => ?_⟩
    have na : ∀ {b : Addr} {u : HO}, H1 b = some u → b ≠ a := fun z => ne_of_none z ha
    refine ⟨a, C, _, G1, d, rfl, F.oc, F.val, F.sup, upd_same, fun b u z => ?_, r1, hd, fun dx hdx hne => ?_⟩
    · have z1 := h1.ex b u z
      rw [upd_ne (na z1)]
      exact z1
    · rw [upd_ne hne] at hdx
      refine ⟨rfl, dx, [(errV, v)], upd_same, ?_, hdx, ?_⟩
      · rw [upd_ne hne, upd_same]
      · have eH : upd (del (upd (upd (upd H1 a (exo a C none)) dx (exd dx [(errV, v)])) a (exo a C (some dx))) a) dx (HO.xd [(errV, v)]) = upd H1 dx (.xd [(errV, v)]) := by
          funext b
          by_cases hb1 : b = dx
          · subst hb1; rw [upd_same, upd_same]
          · rw [upd_ne hb1, upd_ne hb1]
            by_cases hb2 : b = a
            · subst hb2; rw [del_same, ha]
            · rw [del_ne hb2, upd_ne hb2, upd_ne hb1, upd_ne hb2]
        rw [eH]
        have g1 : Same H1 (upd H1 dx (.xd [(errV, v)])) := fun b u z => by rw [upd_ne (ne_of_none z hdx)]; exact z
        exact xr C d m1 G1 σ _ dx _ hx (e0.trans e1) (h1.grow g1) upd_same r1
/-- xs[::-1] -/
theorem ec_revL {j : Nat} {p1 p3 p4 : Pos} (h : EC X x es m e fun d m1 => ∃ ds, LstD m1 d ds ∧ k (.lst ds.reverse) m1) : EC X x es m (.Subscript e (.Slice none none (some (.UnaryOp .USub (.Constant (.int 1) j p1) p3)) p4) pos) k :=
  EC.of (pe_revL pe_R) fun G σ H Q w st q => h G σ H _ w st fun v d m1 G1 H1 k1 e1 h1 r1 => by
    obtain ⟨ds, l, hk⟩ := k1
    obtain ⟨p, vs, rfl, hH, r⟩ := l.at h1 r1
    exact ⟨p, vs, rfl, SqL.of hH, (q.mono e1).lst h1 hk r.rev⟩
theorem ec_revLM {j : Nat} {p1 p3 p4 : Pos} (h : EC X x es m e fun d m1 => ∃ ds, LstD m1 d ds ∧ ∀ p, k (.raw (.ref p)) ((p, .lst ds.reverse) :: m1)) : EC X x es m (.Subscript e (.Slice none none (some (.UnaryOp .USub (.Constant (.int 1) j p1) p3)) p4) pos) k :=
  EC.of (pe_revL pe_R) fun G σ H Q w st q => h G σ H _ w st fun v d m1 G1 H1 k1 e1 h1 r1 => by
    obtain ⟨ds, l, hk⟩ := k1
    obtain ⟨p, vs, rfl, hH, r⟩ := l.at h1 r1
    exact ⟨p, vs, rfl, SqL.of hH, (q.mono e1).lstM h1 hk r.rev⟩
end
end TSgErr
/-! SgOrd: what sorted leaves, min finds, on typed lists. -/
section TSgOrd
set_option maxHeartbeats 4000000
open PySem PySem.Spec PyProof.Rows L2
section
variable {α : Type} {enc : α → D} {xs : List α}
theorem sort_typed (enc : α → D) (xs : List α) : ∃ ys : List α, ys.Perm xs ∧ (xs.map enc).mergeSort (PySem.W.dataLe false D.py) = ys.map enc ∧ ys.Pairwise fun a b => PySem.W.dataLt (enc b).py (enc a).py = false := by
  have T := PySem.W.sortLe_total (PyProof.Rows.listOrd PyProof.Rows.itemOrd) false fun a : α => PySem.W.keyToks (enc a).py
  refine ⟨xs.mergeSort (PySem.W.dataLe false fun a => (enc a).py), List.mergeSort_perm _ _, ?_, ?_⟩
  · exact (List.map_mergeSort (f := enc) (r := PySem.W.dataLe false fun a => (enc a).py) (s := PySem.W.dataLe false D.py) (fun a _ b _ => rfl)).symm
  · have := List.pairwise_mergeSort (le := PySem.W.dataLe false fun a => (enc a).py) (fun a b c h1 h2 => T.trans a b c h1 h2) (fun a b => by
      rw [Bool.or_eq_true]
      exact T.total a b) xs
    refine this.imp fun {a b} h => ?_
    have h : (!PySem.W.dataLt (enc b).py (enc a).py) = true := h
    simpa using h
end
theorem pyL_ints (l : List Int) : D.pyL (l.map D.int) = l.map PyData.int := by
  induction l with
  | nil => rfl
  | cons a l ih => simp only [List.map_cons, D.pyL, D.py, ih]
theorem lt_tupI (a b : List Int) : PySem.W.dataLt (D.tup (a.map D.int)).py (D.tup (b.map D.int)).py = decide (a < b) := by
  show PySem.W.dataLt (.tuple (D.pyL (a.map D.int))) (.tuple (D.pyL (b.map D.int))) = _
  rw [pyL_ints, pyL_ints, PySem.W.dataLt_tuple]
  exact PySem.W.dataLt_ints a b
theorem lt_lstI (a b : List Int) : PySem.W.dataLt (D.lst (a.map D.int)).py (D.lst (b.map D.int)).py = decide (a < b) := by
  show PySem.W.dataLt (.list (D.pyL (a.map D.int))) (.list (D.pyL (b.map D.int))) = _
  rw [pyL_ints, pyL_ints, PySem.W.dataLt_list]
  exact PySem.W.dataLt_ints a b
theorem alikeI : ∀ (a b : List Int), PySem.W.alikeAll (a.map PyData.int) (b.map PyData.int) = true
  | [], _ => by simp [PySem.W.alikeAll]
  | _ :: _, [] => by simp [PySem.W.alikeAll]
  | a :: as, b :: bs => by simp [PySem.W.alikeAll, PySem.W.alike, alikeI as bs]
theorem alike_tupI (a b : List Int) : PySem.W.alike (D.tup (a.map D.int)).py (D.tup (b.map D.int)).py = true := by
  show PySem.W.alike (.tuple (D.pyL (a.map D.int))) (.tuple (D.pyL (b.map D.int))) = _
  rw [pyL_ints, pyL_ints, PySem.W.alike]
  exact alikeI a b
theorem alike_lstI (a b : List Int) : PySem.W.alike (D.lst (a.map D.int)).py (D.lst (b.map D.int)).py = true := by
  show PySem.W.alike (.list (D.pyL (a.map D.int))) (.list (D.pyL (b.map D.int))) = _
  rw [pyL_ints, pyL_ints, PySem.W.alike]
  exact alikeI a b
/-- the least, by a weak order -/
theorem foldl_min {β : Type} (lt : β → β → Bool) (ir : ∀ a, lt a a = false) (tr : ∀ a b c, lt b a = false → lt c b = false → lt c a = false) (tt : ∀ a b, lt a b = true → lt b a = false) : ∀ (ys : List β) (x : β), let z := ys.foldl (fun a y => if lt y a then y else a) x
    ; lt x z = false ∧ ∀ y ∈ ys, lt y z = false
  | [], x => ⟨ir x, fun y h => by simp at h⟩
  | y :: ys, x => by
    obtain ⟨h1, h2⟩ := foldl_min lt ir tr tt ys (if lt y x then y else x)
    rw [List.foldl_cons]
    cases q : lt y x with
    | true =>
      rw [q, if_pos rfl] at h1 h2
      rw [if_pos rfl]
      refine ⟨tr _ _ _ h1 (tt _ _ q), fun z hz => ?_⟩
      rcases List.mem_cons.mp hz with rfl | hz
      · exact h1
      · exact h2 z hz
    | false =>
      rw [q, if_neg Bool.false_ne_true] at h1 h2
      rw [if_neg Bool.false_ne_true]
      refine ⟨h1, fun z hz => ?_⟩
      rcases List.mem_cons.mp hz with rfl | hz
      · exact tr _ _ _ h1 q
      · exact h2 z hz
theorem minD_least (x : PyData) (xs : List PyData) : ∀ y ∈ x :: xs, PySem.W.dataLt y (PySem.W.minD x xs) = false := by
  have T := PySem.W.sortLe_total (PyProof.Rows.listOrd PyProof.Rows.itemOrd) false fun a : PyData => PySem.W.keyToks a
  have tr : ∀ a b c : PyData, PySem.W.dataLt b a = false → PySem.W.dataLt c b = false → PySem.W.dataLt c a = false := fun a b c h1 h2 => by
    have := T.trans a b c (show (!PySem.W.dataLt b a) = true by rw [h1]; rfl) (show (!PySem.W.dataLt c b) = true by rw [h2]; rfl)
    have : (!PySem.W.dataLt c a) = true := this
    simpa using this
  have tot : ∀ a b : PyData, PySem.W.dataLt b a = false ∨ PySem.W.dataLt a b = false := fun a b => by
    have := T.total a b
    have : (!PySem.W.dataLt b a) = true ∨ (!PySem.W.dataLt a b) = true := this
    simpa using this
  have := foldl_min PySem.W.dataLt (fun a => by rcases tot a a with h | h <;> exact h) tr (fun a b h => by
    rcases tot a b with h1 | h1
    · exact h1
    · rw [h] at h1; cases h1) xs x
  intro y hy
  rcases List.mem_cons.mp hy with rfl | hy
  · exact this.1
  · exact this.2 y hy
end TSgOrd
/-! SgMeth: the methods that the program calls; what a dict holds behind a store. -/
section TSgMeth
set_option maxHeartbeats 4000000
open PySem PySem.Spec PyProof.Rows L2
/-- what a call o.name(a) asks of the text -/
structure M1 (X : Cx) (o : Expr) (name : Str) (apos : Pos) (a : Expr) (pos : Pos) : Prop where
  base : attributeBase o name X.env (eval o X.env) = eval o X.env
  few : ((backTo pos (starEach [a] X.env)).all (fun x => !x.1) && (backToKw pos (keywordEach [] X.env)).all (fun x => x.1.isSome) && decide (([a] : List Expr).length + ([] : List Keyword).length + (if ([] : List Keyword).isEmpty then 0 else 1) < 30)) = true
  line : (apos.endLine == pos.line) = true
  star : starEach [a] X.env = (false, eval a X.env) :: starEach [] X.env
  plain : (backTo pos (starEach [] X.env)).any (·.1) = false
section
variable {X : Cx} {x : XD} {es : Es} {m : M} {a b o : Expr} {k : KD} {pos apos : Pos} {d : D} {ds : List D}
theorem LstD.recv (h : LstD m d ds) : RecvD "list" m d := .inr ⟨rfl, ds, h⟩
theorem RecvD.raw {p : Addr} {j : Nat} (h : m[j]? = some (p, MO.lst ds)) : RecvD "list" m (.raw (.ref p)) := LstD.recv (.inr ⟨p, j, rfl, h⟩)
theorem ec_meth1 {T id : String} {name : Str} (pa : PlainAttrs T) (slot : Slot T name id) (hty : typeOf (.builtin id) = pure (.type "method_descriptor")) (mm : M1 X o name apos a pos)
    (h : EC X x es m o fun d m1 => RecvD T m1 d ∧ EC X x es m1 a fun da m2 => MC X T id m2 d [da] k) : EC X x es m (.Call (.Attribute o name apos) [a] [] pos) k :=
  ec_m1 pa slot hty (h.imp fun d m1 ⟨r, z⟩ => ⟨r, ecs_cons (z.imp fun da m2 z2 => ecs_nil z2) mm.star⟩) mm.base mm.few mm.line mm.star mm.plain
theorem ec_append (h : EC X x es m o fun d m1 => RecvD "list" m1 d ∧ EC X x es m1 a fun da m2 => ∃ (p : Addr) (j : Nat) (ds : List D), d = .raw (.ref p) ∧ m2[j]? = some (p, MO.lst ds) ∧ ds.length ≤ lim ∧ k .non (m2.set j (p, .lst (ds ++ [da]))))
    (mm : M1 X o "append" apos a pos := by exact ⟨rfl, rfl, rfl, rfl, rfl⟩) : EC X x es m (.Call (.Attribute o "append" apos) [a] [] pos) k := by
  refine ec_meth1 PySem.F.plainAttrs_list PySem.F.slot_list_append PySem.F.type_list_append mm (h.imp fun d m1 ⟨r, z⟩ => ⟨r, z.imp fun da m2 ⟨p, j, ds, e, hm, hz, z2⟩ => ?_⟩)
  subst e
  exact mc_append hm hz z2
theorem ec_extend (h : EC X x es m o fun d m1 => RecvD "list" m1 d ∧ EC X x es m1 a fun da m2 => ∃ (p : Addr) (j : Nat) (ds ds' : List D), d = .raw (.ref p) ∧ m2[j]? = some (p, MO.lst ds) ∧ LstD m2 da ds' ∧ ds.length + ds'.length ≤ lim ∧ k .non (m2.set j (p, .lst (ds ++ ds'))))
    (mm : M1 X o "extend" apos a pos := by exact ⟨rfl, rfl, rfl, rfl, rfl⟩) : EC X x es m (.Call (.Attribute o "extend" apos) [a] [] pos) k := by
  refine ec_meth1 PySem.F.plainAttrs_list PySem.F.slot_list_extend PySem.F.type_list_extend mm (h.imp fun d m1 ⟨r, z⟩ => ⟨r, z.imp fun da m2 ⟨p, j, ds, ds', e, hm, l, hz, z2⟩ => ?_⟩)
  subst e
  exact mc_extend hm l hz z2
theorem ec_index (hu : X.A.units + 65 < cLine) (h : EC X x es m o fun d m1 => RecvD "list" m1 d ∧ EC X x es m1 a fun da m2 => ∃ (ds : List D) (n : Nat) (z : PyData), LstD m2 d ds ∧ (D.lst ds).sh ∧ da.sh ∧ (D.pyL ds)[n]? = some z ∧ PyData.eqv z da.py = true ∧ (∀ (i : Nat) (z' : PyData), i < n → (D.pyL ds)[i]? = some z' → PyData.eqv z' da.py = false) ∧ k (.int (n : Int)) m2)
    (mm : M1 X o "index" apos a pos := by exact ⟨rfl, rfl, rfl, rfl, rfl⟩) : EC X x es m (.Call (.Attribute o "index" apos) [a] [] pos) k := by
  refine ec_meth1 PySem.F.plainAttrs_list PySem.F.slot_list_index PySem.F.type_list_index mm (h.imp fun d m1 ⟨r, z⟩ => ⟨r, z.imp fun da m2 ⟨ds, n, z, l, h1, h2, h3, h4, h5, z2⟩ => ?_⟩)
  exact mc_index hu l h1 h2 n z h3 h4 h5 z2
theorem ec_join {s : Str} {j : Nat} {spos : Pos} (h : EC X x es m a fun da m2 => ∃ ss : List Str, LstD m2 da (ss.map D.str) ∧ (ss.map (·.length)).sum + ss.length * s.length ≤ 16777216 ∧ k (.str (Txt.join s ss)) m2)
    (mm : M1 X (.Constant (.str s) j spos) "join" apos a pos := by exact ⟨rfl, rfl, rfl, rfl, rfl⟩) : EC X x es m (.Call (.Attribute (.Constant (.str s) j spos) "join" apos) [a] [] pos) k := by
  refine ec_meth1 PySem.F.plainAttrs_str PySem.F.slot_str_join PySem.F.type_str_join mm (ec_str ⟨.inl ⟨rfl, s, rfl⟩, h.imp fun da m2 ⟨ss, l, hz, z2⟩ => ?_⟩)
  exact mc_join l hz z2
theorem ec_pop (h : EC X x es m o fun dd m1 => ∃ (p : Addr) (j : Nat) (ds : List D) (d : D), dd = .raw (.ref p) ∧ m1[j]? = some (p, MO.lst (ds ++ [d])) ∧ k d (m1.set j (p, .lst ds)))
    (hbase : attributeBase o "pop" X.env (eval o X.env) = eval o X.env := by rfl) (hline : (apos.endLine == pos.line) = true := by rfl) : EC X x es m (.Call (.Attribute o "pop" apos) [] [] pos) k := by
  refine ec_m0 PySem.F.plainAttrs_list PySem.F.slot_list_pop PySem.F.type_list_pop (h.imp fun dd m1 ⟨p, j, ds, d, e, hm, z⟩ => ?_) hbase hline
  subst e
  exact ⟨RecvD.raw hm, mc_pop hm z⟩
end
theorem dGet_map {f : NestedKey × D → NestedKey × D} (hf : ∀ q, (f q).1 = q.1) (kk : NestedKey) : ∀ kvs : List (NestedKey × D), dGet (kvs.map f) kk = ((kvs.find? fun x => decide (x.1 = kk)).map fun q => (f q).2)
  | [] => rfl
  | q :: kvs => by
    have ih := dGet_map hf kk kvs
    unfold dGet at ih ⊢
    rw [List.map_cons, List.find?_cons, List.find?_cons, hf q]
    cases h : decide (q.1 = kk) with
    | true => rfl
    | false => exact ih
theorem dGet_put {kvs : List (NestedKey × D)} {kk : NestedKey} {d : D} (kk' : NestedKey) : dGet (dPut kvs kk d) kk' = if kk' = kk then some d else dGet kvs kk' := by
  unfold dPut
  cases h : (dGet kvs kk).isSome with
  | true =>
    rw [if_pos rfl, dGet_map (fun q => by split <;> rfl)]
    by_cases e : kk' = kk
    · subst e
      rw [if_pos rfl]
      unfold dGet at h
      cases q : kvs.find? fun x => decide (x.1 = kk') with
      | none => rw [q] at h; cases h
      | some y =>
        have := List.find?_some q
        simp only [decide_eq_true_eq] at this
        simp [this]
    · rw [if_neg e]
      unfold dGet
      cases q : kvs.find? fun x => decide (x.1 = kk') with
      | none => rfl
      | some y =>
        have := List.find?_some q
        simp only [decide_eq_true_eq] at this
        simp only [Option.map_some]
        rw [if_neg (by rw [this]; exact e)]
  | false =>
    rw [if_neg Bool.false_ne_true]
    have hn : dGet kvs kk = none := by cases z : dGet kvs kk with
      | none => rfl
      | some _ => rw [z] at h; cases h
    unfold dGet at hn ⊢
    rw [List.find?_append]
    by_cases e : kk' = kk
    · subst e
      rw [if_pos rfl]
      have : kvs.find? (fun x => decide (x.1 = kk')) = none := by
        cases z : kvs.find? fun x => decide (x.1 = kk') with
        | none => rfl
        | some _ => rw [z] at hn; cases hn
      rw [this]
      simp
    · rw [if_neg e]
      cases z : kvs.find? fun x => decide (x.1 = kk') with
      | some _ => rfl
      | none =>
        have : decide (kk = kk') = false := decide_eq_false fun h => e h.symm
        simp [this]
end TSgMeth
/-! SgE: GrowsError.__init__ keeps its promise. -/
section TSgE
set_option maxHeartbeats 1000000
open PySem PySem.Spec PyProof.Rows L2
theorem int_small {i : Int} (h : i.natAbs ≤ 1000000) : i.natAbs.log2 < 1920 ∧ (Str.ofString (toString i)).length ≤ 10 := by
  constructor
  · have : i.natAbs < 2 ^ 1920 := Nat.lt_of_le_of_lt h (by decide +kernel)
    by_cases e : i.natAbs = 0
    · rw [e]; decide +kernel
    · exact (Nat.log2_lt e).2 this
  · have q := int_text_length_le10 (a := i) (k := 7) (by decide) (by omega)
    rw [PySem.ofString_length]
    omega
theorem tup2_text {i j : Int} (h1 : i.natAbs ≤ 1000000) (h2 : j.natAbs ≤ 1000000) : (tupleText [Str.ofString (toString i), Str.ofString (toString j)]).length ≤ 100 := by
  refine Nat.le_trans (PySem.fmt_text _) ?_
  rw [piled_cons, piled_cons, piled_nil]
  have a1 := (int_small h1).2
  have a2 := (int_small h2).2
  omega
section
variable {X : Cx}
def rRepr (K : PySem.W.Frag) : List V → Hp → VK → Prop := fun xs H Q => ∃ (G : Hp) (d : D) (v : V), xs = [v] ∧ Same G H ∧ Rp K G d v ∧ ErrD d ∧ ∀ x : Str, Q (.str x) H
theorem cr_repr {k : Nat} (hr : Room k X.A) : CallR X (.builtin "repr") (rRepr X.K) := by
  intro pins s σ H xs us Q I r h
  obtain ⟨G, d, v, rfl, e, rp, hd, q⟩ := h
  cases r with
  | cons r1 r2 =>
  cases r2
  cases rp with
  | str x =>
    obtain ⟨t, rfl⟩ := r1
    exact PySem.P.repr_of_str ⟨.str _, H, I.tok _, ⟨_, rfl⟩, q _⟩ hd
  | tup hs hl =>
    rename_i u a xs ds
    cases r1
    match ds, hd with
    | [.int i, .int j], hd =>
      cases hl with
      | cons l1 l2 =>
      cases l2 with
      | cons l2 l3 =>
      cases l3
      cases l1
      cases l2
      obtain ⟨its, rv, ⟨o, ho, hcl, n, hdt⟩, _⟩ := I.tuple (same_t e hs)
      obtain ⟨u1, u2, rfl, ⟨t1, rfl⟩, ⟨t2, rfl⟩⟩ : ∃ u1 u2, its = [u1, u2] ∧ RelV (.int i) u1 ∧ RelV (.int j) u2 := by
        cases rv with
        | cons z1 z2 =>
          cases z2 with
          | cons z2 z3 =>
            cases z3
            exact ⟨_, _, rfl, z1, z2⟩
      have hz := tup2_text hd.1 hd.2
      have hu := hr.un
      refine call_repr_slot (by omega) ⟨o, ho, hcl⟩ F.slot_tuple_repr (fmt_tuple_repr ho hcl hdt (.cons (.int _ (int_small hd.1).1) (.cons (.int _ (int_small hd.2).1) .nil)) (Nat.le_trans hz (by rw [sizeLine_eq]; decide)) fun m u tk _ => ⟨m, u, rfl, .str m, H, I.tok _, ⟨u, rfl⟩, q m⟩)
  | non => exact hd.elim
  | bl => exact hd.elim
  | int => exact hd.elim
  | lst => exact hd.elim
  | ins => exact hd.elim
  | raw => exact hd.elim
  | scr => exact hd.elim
end
/-- what the head says of GrowsError.__init__ -/
structure ErrX (P : Program) (K : PySem.W.Frag) (mg : Str → Option Value) (fI D cda cc : Addr) (fd : FuncData) : Prop where
  fn : ∃ oc od osl kV doc pm an ct, fd = PySem.W.ksFn "__init__" "GrowsError.__init__" (defArgs S_GrowsError_init) (defBody S_GrowsError_init) (defScope S_GrowsError_init) .none kV doc pm an (.ref cda) ct cc ∧ K.lookup fI = some ⟨oc, od, .func fd, osl⟩
  tI : PySem.W.typeIn K (.ref fI) = some (.type "function")
  cod : PySem.W.codeIn K (.ref cda) "GrowsError.__init__" = true
  file : ∃ cl cd vs sl tf, K.lookup cda = some ⟨cl, cd, .fields vs, sl⟩ ∧ vs[2]? = some (.str P.main.file tf)
  cel : ∃ cl cd sl, K.lookup cc = some ⟨cl, cd, .cell (some (.ref D)), sl⟩
  cls : ∃ cdD, PySem.W.clsIn K D = some cdD
  nsD : PySem.W.nsIn K mainGlobals "GrowsError" = some (some (.ref D))
  gs : mg "super" = none
  gr : mg "repr" = none
  htop : (P.main.scope.names.lookup ("super" : Str)).isSome = false
  opq : PySem.W.nsIn K cStatics "thirdparty.any" = some none
abbrev envE (L f cda cc : Addr) : PySem.Env := PySem.W.ksEnv "GrowsError.__init__" (defScope S_GrowsError_init) L f (.ref cda) cc
def cxE (P : Program) (w : World) (K : PySem.W.Frag) (mg : Str → Option Value) (base : Heap) (f cda cc : Addr) (A : Around) (outer : List PySem.Env) (s : Shared) (H : Hp) (E : XK) : Cx where
  prog := P
  w := w
  K := K
  mg := mg
  base := base
  A := A.deeper (envE s.heap.objs.size f cda cc)
  N := N_GrowsError_init
  s_0 := s
  H_0 := H
  env := envE s.heap.objs.size f cda cc
  outer := outer
  stack := envE s.heap.objs.size f cda cc :: outer
  ex := []
  calm := true
  fn := fun _ => false
  pn := []
  xe := fun e s' => wpAny (model P w) (A.deeper (envE s.heap.objs.size f cda cc)) (leaving (envE s.heap.objs.size f cda cc) e) (fun _ s'' => L2.CX P w outer H s E e s'') (fun e' s'' => L2.CX P w outer H s E e' s'') s'
theorem one_look {x : Str} {y : Str} {a c : Addr} (h : ([(y, a)] : List (Str × Addr)).lookup x = some c) : x = y ∧ c = a := by
  by_cases e : x = y
  · subst e
    rw [List.lookup_cons, beq_self_eq_true] at h
    exact ⟨rfl, (Option.some.inj h).symm⟩
  · rw [List.lookup_cons, beq_false_of_ne e] at h
    cases h
section
variable {P : Program} {w : World} {K : PySem.W.Frag} {mg : Str → Option Value} {base : Heap} {f cda cc D : Addr} {A : Around} {outer : List PySem.Env} {s : Shared} {H : Hp} {E : XK} {fd : FuncData}
theorem inv_startE {h₀ : Heap} {tk : Nat} {v1 v2 : V} {u1 u2 : Value} (F : ErrX P K mg f D cda cc fd) (hd : A.handled = none) (e0 : Env0 P w K mg base A outer s H) (r1 : RelV v1 u1) (r2 : RelV v2 u2)
    (hns : h₀.Ns s.heap.objs.size (fun x => ([("self", u1), ("value", u2)] : List (Str × Value)).reverse.lookup x)) (hk : ∀ b o, s.heap.get? b = some o → h₀.get? b = some o) :
    Inv (cxE P w K mg base f cda cc A outer s H E) [] [some v1, some v2] H { s with heap := h₀, toks := tk } := by
  have noA : ∀ b : Addr, b ∉ (cxE P w K mg base f cda cc A outer s H E).ex := fun b z => absurd (show b ∈ ([] : List Addr) from z) (by simp)
  have KX : K.In s.heap := e0.mod.kin.keeps fun b o e => (e0.bs b o e).1
  obtain ⟨cl, cd, sl, hcc⟩ := F.cel
  have hcc0 := e0.mod.kin _ _ hcc
  refine ⟨⟨e0.mod, rfl, rfl, rfl, Nat.le_refl _, fun y z c h1 h2 => ?_, fun y hy => ?_, fun y c h _ => absurd h Bool.false_ne_true, fun _ => hd, Around.frames_deeper e0.frames, .inr ⟨rfl, rfl⟩, fun b z => absurd z (noA b), e0.bs, e0.bsz, fun b _ _ => noA b, fun b z => absurd z (noA b), e0.funs, e0.frf⟩,
    rfl, e0.bare, Un.kept hk, ⟨_, hns, fun i y v h1 h2 h3 => ?_⟩, fun y c h => ?_, e0.hok.fresh (Nat.le_refl _), fun y c h => ?_, fun p hp => absurd (show p ∈ ([] : List (Addr × Obj)) from hp) (by simp), e0.hok.kept hk, rfl⟩
  · exact (one_look h1).1.trans (one_look h2).1.symm
  · have key : ∀ l : List (Str × NameKind), l.lookup y = some .cell ∨ l.lookup y = some .free → (∀ p ∈ l, p.2 = .cell ∨ p.2 = .free → p.1 = ("__class__" : Str)) → y = ("__class__" : Str) := fun l h q => by
      rcases h with h | h
      · exact q _ (PySem.mem_of_lookup h) (.inl rfl)
      · exact q _ (PySem.mem_of_lookup h) (.inr rfl)
    have e := key (defScope S_GrowsError_init).names hy (by decide +kernel)
    subst e
    exact ⟨cc, rfl⟩
  · match i, h1, h2 with
    | 0, h1, h2 =>
      cases h1
      cases h2
      exact ⟨u1, r1, .inl ⟨rfl, rfl⟩⟩
    | 1, h1, h2 =>
      cases h1
      cases h2
      exact ⟨u2, r2, .inl ⟨rfl, rfl⟩⟩
  · obtain ⟨_, rfl⟩ := one_look h
    exact ⟨_, _, hk _ _ (KX _ _ hcc), rfl⟩
  · obtain ⟨_, rfl⟩ := one_look h
    exact (e0.bs _ _ hcc0).2
theorem rp_exo {H H1 G : Hp} {a C : Addr} {d : SG.D} {v : V} (hs : Same G H) (ea : H a = some (exo a C none)) (rp : Rp K G d v) (hd : ErrD d) (k : ∀ b u, H b = some u → u ≠ exo a C none → H1 b = some u) : Rp K H1 d v := by
  cases rp with
  | str x => exact .str x
  | tup hq hl =>
    rename_i p xs ds
    match ds, hd with
    | [.int i, .int j], hd =>
      cases hl with
      | cons l1 l2 =>
      cases l2 with
      | cons l2 l3 =>
      cases l3
      cases l1
      cases l2
      refine .tup ?_ (.cons (.int i) (.cons (.int j) .nil))
      rcases same_t hs hq with (z | ⟨o, z⟩) | z
      · exact .inl (.inl (k _ _ z fun y => exo_tup y.symm))
      · exact .inl (.inr ⟨o, k _ _ z fun y => exo_frz y.symm⟩)
      · exact .inr z
  | non => exact hd.elim
  | bl => exact hd.elim
  | int => exact hd.elim
  | lst => exact hd.elim
  | ins => exact hd.elim
  | raw => exact hd.elim
  | scr => exact hd.elim
theorem errI_body {X : Cx} {p1 p2 p3 p4 p5 p6 p7 p8 p9 p10 p11 p12 : Pos} {s : Shared} {H G : Hp} {a C : Addr} {v : V} {d : SG.D} {st1 st2 : Stmt} {A0 : Around} {outer0 : List PySem.Env} {s0 : Shared} {H0 : Hp} {Q : VK}
    (hX : X = cxE P w K mg base f cda cc A0 outer0 s0 H0 E) (F : ErrX P K mg f D cda cc fd) (T : OexC K C) (hv : PySem.W.findIn K (.ref C) errV = some none) (S : SupC K C) (hr : Room 0 X.A)
    (I : Inv X [] [some (.ref a), some v] H s) (ea : H a = some (exo a C none)) (hs : Same G H) (rp : Rp K G d v) (hd : ErrD d)
    (hq : ∀ dx, H dx = none → dx ≠ a → Q .non (upd (upd H dx (exd dx [(errV, v)])) a (exo a C (some dx)))) {R : Flow → Shared → Prop}
    (hR : ∀ σ' H' s', Inv X [] σ' H' s' → Q .non H' → R .next s')
    (e1 : st1 = .Assign [.Attribute (.Name "self" p1) "value" p2] (.Name "value" p3) p4)
    (e2 : st2 = .Expr (.Call (.Attribute (.Call (.Name "super" p5) [] [] p6) "__init__" p7) [.Call (.Name "repr" p8) [.Name "value" p9] [] p10] [] p11) p12)
    {pa : Pos} {pl : Sem Bool} (har : ((defArgs S_GrowsError_init).posonlyargs ++ (defArgs S_GrowsError_init).args).head? = some ⟨"self", none, pa⟩) (hc : ∀ env : PySem.Env, eval (.Call (.Attribute (.Call (.Name "super" p5) [] [] p6) "__init__" p7) [.Call (.Name "repr" p8) [.Name "value" p9] [] p10] [] p11) env = (do
      let ov ← attributeBase (.Call (.Name "super" p5) [] [] p6) "__init__" env (eval (.Call (.Name "super" p5) [] [] p6) env)
      standAt p7.atName
      let (f, first) ← holding [ov] (getMethod ov "__init__" pl)
      callWith p11 f first (backTo p11 (starEach [.Call (.Name "repr" p8) [.Name "value" p9] [] p10] env)) [])) :
    PySem.wpAt (model P w) X.A (.func body X.env) (execs [st1, st2] X.env) R X.xe s := by
  subst e1
  subst e2
  subst hX
  have step1 : PS (cxE P w K mg base f cda cc A0 outer0 s0 H0 E) (.Assign [.Attribute (.Name "self" p1) "value" p2] (.Name "value" p3) p4) (tOst K "value" (tVar 0) (tVar 1)) := ps_ost (L2.pv 0) (L2.pv 1)
  refine ks_wpAt_execs_cons (wpAt_of_any (thn (step1.run [] s _ H { nx := fun σ' H' => σ' = [some (.ref a), some v] ∧ ∃ dx, H dx = none ∧ dx ≠ a ∧ H' = upd (upd H dx (exd dx [(errV, v)])) a (exo a C (some dx)), rt := fun _ _ => False } I ?_) fun fl s1 h1 => ?_))
  · exact ⟨v, rfl, .ref a, rfl, a, C, rfl, T, hv, .inl ⟨ea, fun dx z1 z2 => ⟨rfl, dx, z1, z2, rfl⟩⟩⟩
  cases fl with
  | ret u => obtain ⟨_, _, _, _, _, z⟩ := h1; exact z.elim
  | brk => obtain ⟨_, _, _, z⟩ := h1; exact z.elim
  | cont => obtain ⟨_, _, _, z⟩ := h1; exact z.elim
  | next =>
  obtain ⟨σ1, H1, I1, rfl, dx, z1, z2, eH⟩ := h1
  have ea1 : H1 a = some (exo a C (some dx)) := by rw [eH, upd_same]
  have hs1 : Same H1 H1 := fun _ _ z => z
  have rp1 : Rp K H1 d v := rp_exo hs ea rp hd fun b u z ne => by
    have na : b ≠ a := fun y => by
      rw [y, ea] at z
      exact ne (Option.some.inj z).symm
    rw [eH, upd_ne na, upd_ne (ne_of_none z z1)]
    exact z
  have KX1 : K.In s1.heap := I1.kIn
  obtain ⟨oc, od, osl, kV', doc', pm', an', ct', hfd, lk⟩ := F.fn
  obtain ⟨cl, cd, vs, sl, tf, lc, hvs⟩ := F.file
  obtain ⟨ccl, ccd, csl, lcc⟩ := F.cel
  obtain ⟨cdD, hD⟩ := F.cls
  obtain ⟨m3, m4, m5⟩ := S.sup D F.nsD
  obtain ⟨oD, hD1, hD2⟩ : ∃ oD, s1.heap.get? D = some oD ∧ oD.data = .cls cdD := by
    unfold PySem.W.clsIn at hD
    split at hD
    · rename_i c d cd' sl ho
      cases hD
      exact ⟨_, KX1 _ _ ho, rfl⟩
    · cases hD
  refine ks_wpAt_execs_cons (ks_wpAt_Expr_any (ks_wpAt_MethodCall ?_ (hc _)))
  refine ks_wpAt_super_base (ar := ⟨"self", none, pa⟩) (file := P.main.file) (tf := tf) (vs := vs) rfl rfl rfl rfl (KX1 _ _ lk) rfl (by rw [hfd]; exact har) rfl (KX1 _ _ lc) rfl hvs (by simp) F.htop ?_
  obtain ⟨mb, b1, b2⟩ := I1.mod.blt
  refine PySem.W.ks_loadName_global rfl rfl (Calls.loadGlobal_builtin (I1.mod.glob.keeps I1.bk) F.gs (b1.keeps I1.bk) ((b2 _ (by decide)).trans Boot.«super») ⟨rfl, ?_⟩)
  refine wpAny_loadName_free rfl rfl rfl ⟨_, KX1 _ _ lcc, rfl⟩ ?_
  obtain ⟨m, hns, hlk⟩ := id I1.loc
  obtain ⟨uu, ruu, luu⟩ := hlk 0 "self" (.ref a) rfl rfl (.inl rfl)
  cases ruu
  have hself : m "self" = some (.ref a) := by
    rcases luu with ⟨_, z⟩ | ⟨z, _⟩
    · exact z
    · rcases z with z | z
      · exact absurd (show some NameKind.local = some .cell from z) (by decide)
      · exact absurd (show some NameKind.local = some .free from z) (by decide)
  refine wpAny_loadName_local rfl rfl hns hself ?_
  obtain ⟨hh, g, dr, tk, os⟩ := s1
  refine ks_wpAny_isType_cls hD1 hD2 ⟨rfl, ?_⟩
  obtain ⟨t1, ho⟩ := exo_at I1.hok ea1
  refine ks_wpAny_call_super hD1 hD2 ho rfl (fun _ => nofun) (PySem.W.looks_mroIn KX1 m3) (fun h2 eso k2 => ?_)
  have J2 := I1.kept (t' := tk) k2
  have KX2 : K.In h2 := J2.kIn
  obtain ⟨cdC, hcC⟩ : ∃ cdC, PySem.W.clsIn K C = some cdC := by
    cases hc : PySem.W.clsIn K C with
    | none => unfold PySem.W.ks_superIn at m4; rw [hc] at m4; cases m4
    | some cd => exact ⟨cd, rfl⟩
  have m4' := m4
  unfold PySem.W.ks_superIn at m4'
  rw [hcC] at m4'
  have hI : PySem.W.Looks (model P w) h2 (isInstance (.ref a) (.type "ValueError")) true := ((PySem.W.Looks.ld (k2 _ _ ho)).andThen .now).andThen (PySem.W.looks_subIn KX2 m5)
  have hxC : a ≠ C := fun z => by
    unfold PySem.W.clsIn at hcC
    split at hcC
    · rename_i oc1 od1 cd1 sl1 hl
      have y := KX1 _ _ hl
      rw [← z, ho] at y
      cases y
    · cases hcC
  refine PySem.W.kxs_getMethod PySem.W.kxs_ValueError eso (PySem.W.looks_opaque KX2 F.opq) (fun A1 Q1 E1 s2 k q => wpAny_bind ((PySem.W.looks_clsIn KX2 hcC) A1 _ E1 s2 k (wpAny_pure q))) rfl KX2 m4' hI hxC rfl ?_
  have J3 := J2.kept (t' := tk + 1) (h' := h2.push (PySem.W.kxs_mw "ValueError.__init__" a)) fun b u z => Heap.get?_push_of_some _ z
  have nu : H1 h2.objs.size = none := J2.hok.fresh (Nat.le_refl _)
  have J4 := J3.pins_of (pins' := [(h2.objs.size, PySem.W.kxs_mw "ValueError.__init__" a)]) fun p hp => by
    cases List.mem_singleton.mp hp
    exact ⟨Heap.get?_push_at rfl rfl, nu, Nat.ne_of_gt J2.lt, J2.nofs (Nat.le_refl _), fun _ => nofun⟩
  refine PySem.W.kxs_callWith (i := "ValueError.__init__") (x := a) (by rfl) (Calls.evalArgs_plain ?_)
  have arg : PA (cxE P w K mg base f cda cc A0 outer0 s0 H0 E) [.Call (.Name "repr" p8) [.Name "value" p9] [] p10] (tCons (tCB (rRepr K) (tCons (tVar 1) tNil)) tNil) := pa_cons (pe_callB (cr_repr hr) rfl F.gr Boot.«repr» (pa_cons (L2.pv 1) pa_nil)) pa_nil
  refine thn (arg.run p11 _ _ _ H1 (fun vs H2 => H2 = H1 ∧ ∃ x, vs = [.str x]) J4 ⟨v, rfl, H1, d, v, rfl, hs1, rp1, hd, fun x => ⟨rfl, x, rfl⟩⟩) fun us s3 h3 => ?_
  obtain ⟨vs3, H3, I3, r3, rfl, x, rfl⟩ := h3
  have hu := (I3.pin (h2.objs.size, PySem.W.kxs_mw "ValueError.__init__" a) (List.mem_append_right _ (List.mem_singleton.mpr rfl))).1
  refine ⟨hu, ?_⟩
  have hlen : us.length = 1 := (Paired.length r3).symm
  obtain ⟨nm, q, N, bs, bm, sn, sub, ab, col, dd, k0, k1, k2', k3, k5, hC, hbm⟩ := T.cls
  obtain ⟨t3, ho3⟩ := exo_at I3.hok ea1
  have KX3 : K.In s3.heap := I3.kIn
  obtain ⟨h3, g3, d3, tk3, os3⟩ := s3
  show wpAny _ _ (call (.ref h2.objs.size) us) _ _ _
  refine wpAny_call (codeAny_of_tree ?_)
  show wpAny _ _ (callAny (.ref h2.objs.size) ⟨us, []⟩) _ _ _
  simp only [callAny]
  refine wpAny_bind (wpAny_load hu ?_)
  simp only [PySem.W.kxs_mw, show (Value.type "method-wrapper" == Value.type "method" || Value.type "method-wrapper" == Value.type "builtin_function_or_method" || Value.type "method-wrapper" == Value.type "method-wrapper") = true by decide, if_true]
  refine PySem.W.KFB.if_so (by decide) ?_
  refine wpAny_bind (PySem.W.check_bound_init PySem.F.excBase_ValueError.toExcCallFacts (KX3 _ _ hC) ho3 rfl ?_)
  refine wpAny_bind (wpAny_pure (wpAny_pure ?_))
  refine ⟨plainId_quiet PySem.F.excBase_ValueError.init.plain _, codeAny_builtin PySem.F.excBase_ValueError.initEntry ?_⟩
  refine PySem.W.exc_init_tree (cls := .ref C) (t0 := t3) (dv := some dx) (c2 := .none) (c3 := .none) (b4 := .bool false) ho3 (by rw [hlen, sizeLine_eq]; decide) fun h4 k4 e4 t4 => ?_
  have J5 := I3.write (t' := tk3) (x := a) (e := a) (o := exo a C (some dx)) (by rw [ea1]; exact True.intro) (.inl rfl) k4 ⟨_, e4⟩ (exo_ok e4)
  have eu : upd H3 a (exo a C (some dx)) = H3 := by
    funext b
    by_cases hb : b = a
    · rw [hb, upd_same, ea1]
    · rw [upd_ne hb]
  rw [eu] at J5
  refine wpAt_of_any ?_
  refine wpAny_execs_nil ?_
  exact hR _ _ _ (J5.unpinned (pins := [])) (by rw [eH]; exact hq dx z1 z2)
/-- GrowsError.__init__ keeps its promise -/
theorem errI_of (F : ErrX P K mg f D cda cc fd) : ErrI P w K mg base f := by
  obtain ⟨oc, od, osl, kV, doc, pm, an, ct, hfd, lk⟩ := id F.fn
  refine ⟨F.tI, fd, ["self", "value"], ⟨fun vs H Q E h => ?_, fun A outer s H args us vs Q E hr e0 hb rv h => ?_⟩, ?_⟩
  · obtain ⟨a, C, v, G, d, rfl, _⟩ := h
    rfl
  · obtain ⟨a, C, v, G, d, rfl, T, hv, S, ea, hs, rp, hd, hq⟩ := h
    cases rv with
    | cons r1 r2 =>
    cases r2 with
    | cons r2 r3 =>
    cases r3
    rename_i u1 u2
    have KX : K.In s.heap := e0.mod.kin.keeps fun b o e => (e0.bs b o e).1
    have lim : s.heap.NoLimit := e0.mod.nolimit.keeps fun b o e => (e0.bs b o e).1
    subst hfd
    refine ks_codeAny_call_defAt (body := defBody S_GrowsError_init) (binds := [("self", u1), ("value", u2)]) hr.depth (KX _ _ lk) rfl lim (PySem.W.codeRec_of KX F.cod) rfl hb (show ∀ x ∈ (defScope S_GrowsError_init).names, x.2 ≠ .cell by decide +kernel) (fun y hy => ?_) (fun h₁ hns hk => ?_) rfl rfl rfl
    · rcases List.mem_cons.mp hy with rfl | hy
      · rfl
      · cases List.mem_singleton.mp hy
        rfl
    · have I := inv_startE (E := E) (tk := s.toks + 2) F hr.hd e0 r1 r2 hns hk
      refine PySem.wpAt_mono (errI_body (A0 := A) (outer0 := outer) (s0 := s) (H0 := H) (E := E) (Q := Q) (R := fun fl s' => L2.CR (L2.CX P w) outer P w H s Q E (.ok (.ret (match fl with | .ret v => v | _ => .none))) s') rfl F T hv S (hr.deeper _) I ea hs rp hd hq (fun σ' H' s' J q => ?_) rfl rfl rfl (fun _ => rfl)) (fun fl s' z => z) fun e s' z => z
      exact ⟨.non, H', J.os, J.bare, J.base, J.hok, rfl, q⟩
  · subst hfd
    exact .all fun us hl => match us, hl with | [_, _], _ => rfl
end
end TSgE
/-! SgP3: signs_of, outward, check_keys. -/
section TSgP3
set_option maxHeartbeats 4000000
open PySem PySem.Spec PyProof.Rows L2
section
variable {P : Program} {w : World} {K : PySem.W.Frag} {mg : Str → Option Value} {base : Heap} {f C CR : Addr} {fd : FuncData}
abbrev nmsD (l : List Nm) : D := .lst (l.map nmD)
def FS_signs_of : FSpec := fun ds m k x => ∃ (kk : Option Key) (g : Str), ds = [okd kk, .str g] ∧ g.length ≤ 1000 ∧ k (nmsD (signs kk g)) m
theorem fn_signs_of (F : F_signs_of K f fd) (gm : mg "signs_of" = some (.ref f)) (fr : Free mg) : Fn P w K mg base 1 "signs_of" FS_signs_of := by
  refine fn_def F sc_signs_of gm (bs_signs_of F) (fun ds m k x ⟨_, _, e, _⟩ => by rw [e]; rfl) ?_
  rintro cdv A outer s H E B ds m k x ⟨kk, g, rfl, hg, hk⟩
  walk_at "sg1"; walk_at "sg1"
  refine ec_lc (own := [("place", 2)]) (.nm 2) B.calm B.nd (blk_ok (N := N_signs_of) (sc := defScope S_signs_of) (by decide +kernel)) (fun s H C cl fp => pg_name sc_signs_of.nd rfl (Or.inl rfl)) (show (2 : Nat) < 3 by decide) (List.mem_cons_self) ?_
  refine sc_range fr.range ?_
  walk_at "sg"
  refine cc_lenS (Nat.le_trans hg (by decide)) ?_
  refine ⟨g.length, rfl, Nat.le_trans hg (by decide), ?_⟩
  refine lck_map (α := Nat) (xs := List.range g.length) (enc := fun (i : Nat) => .int (0 + (i : Int))) (gx := fun (i : Nat) => nmD (kk, (i : Int) + 1)) (by rw [List.length_range]; exact Nat.le_trans hg (by decide)) trivial (fun i hi acc => ⟨_, rfl, fun p s2 H2 C2 cl2 fp2 => ?_⟩) ?_
  · walk_at "sg"
    exact ⟨by show (2 : Nat) ≤ 1000; decide, by rw [Int.zero_add]; rfl, rfl⟩
  · have e : (List.range g.length).map (fun (i : Nat) => nmD (kk, (i : Int) + 1)) = (signs kk g).map nmD := by
      unfold signs
      rw [List.map_map]
      rfl
    rw [e]
    exact hk
def FS_outward (CR : Addr) : FSpec := fun ds m k x => ∃ (R : Rul) (kk : Option Key) (g : Str), ds = [ruleD CR R, okd kk, .str g] ∧ g.length ≤ 1000 ∧ k (nmsD (outw R kk g)) m
theorem fn_outward (F : F_outward K f fd) (gm : mg "outward" = some (.ref f)) (fr : Free mg) (L : RuleF K mg CR) (C1 : Fn P w K mg base 1 "signs_of" FS_signs_of) : Fn P w K mg base 2 "outward" (FS_outward CR) := by
  refine fn_def F sc_outward gm (bs_outward F) (fun ds m k x ⟨_, _, _, e, _⟩ => by rw [e]; rfl) ?_
  rintro cdv A outer s H E B ds m k x ⟨R, kk, g, rfl, hg, hk⟩
  walk_at "sg1"
  walk_at "sg1"
  refine ec_call C1 B.room ?_
  walk_at "sg"
  refine ⟨kk, g, rfl, hg, ?_⟩
  walk_at "sg1"
  walk_at "sg1"
  refine ec_if (et_cmp (ec_fld ?_))
  walk_at "sg"
  refine ⟨CR, _, _, rfl, L.c.cl, L.na _ (by walk_at "sgm"), rfl, ?_⟩
  walk_at "sg"
  unfold outw at hk
  cases hR : R.after with
  | true =>
    rw [hR, if_pos rfl] at hk
    have e : sideS R = "after" := by unfold sideS; rw [hR]; rfl
    refine ite_d (fun _ => ?_) fun h => absurd e h
    walk_at "sg"
    exact hk
  | false =>
    rw [hR, if_neg Bool.false_ne_true] at hk
    have e : ¬ sideS R = "after" := by unfold sideS; rw [hR]; decide +kernel
    refine ite_d (fun h => absurd h e) fun _ => ?_
    refine ec_revL ?_
    walk_at "sg"
    refine ⟨_, .imm _ _, ?_⟩
    have hk' : k (.lst ((signs kk g).map nmD).reverse) m := by rw [← List.map_reverse]; exact hk
    exact hk'
theorem ec_cfv {X : Cx} {x : XD} {es : Es} {m : M} {k : KD} {p pos : Pos} {i : Nat} {y f : Str} {r : Row} {v : D} (L : CallF X.K X.mg C) (he : es[i]? = some (some (callD C r))) (hm : f ∈ (["station", "seen", "group", "anchor", "number", "clock", "key"] : List Str)) (hv : (callF r).lookup f = some v) (hk : k v m)
    (hN : X.N[i]? = some y := by rfl) (hvv : Vis X.env.scope y := by first | exact Or.inl rfl | exact Or.inr (Or.inl rfl) | exact Or.inr (Or.inr rfl)) (hd : (y == ("__debug__" : Str)) = false := by decide) (hcd : (y == ("__classdict__" : Str)) = false := by decide)
    (hb : attributeBase (.Name y p) f X.env (eval (.Name y p) X.env) = eval (.Name y p) X.env := by rfl) : EC X x es m (.Attribute (.Name y p) f pos) k :=
  ec_fld (ec_var he ⟨C, _, _, rfl, L.c.cl, L.na _ hm, hv, hk⟩ hN hvv hd hcd) hb
structure CallE (P : Program) (w : World) (K : PySem.W.Frag) (mg : Str → Option Value) (base : Heap) (C : Addr) : Prop where
  ok : ∃ f fd ps, FnOk P w K mg base (L2.CX P w) 1 f fd ps (spD K w (FS_Call_eq C)) ∧ PySem.W.findIn K (.ref C) "__eq__" = some (some (.ref f)) ∧ PySem.W.isFn K (.ref f) = true ∧ Binds K fd ps []
def Clash (rows : List Row) (q : Key) : Prop := ∃ a ∈ rows, ∃ b ∈ rows, a.key = q ∧ b.key = q ∧ a ≠ b
theorem clash_snoc {pre : List Row} {c : Row} {q : Key} : Clash (pre ++ [c]) q ↔ Clash pre q ∨ (q = c.key ∧ ∃ r ∈ pre, r.key = q ∧ r ≠ c) := by
  constructor
  · rintro ⟨a, ha, b, hb, h1, h2, h3⟩
    rw [List.mem_append, List.mem_singleton] at ha hb
    rcases ha with ha | rfl
    · rcases hb with hb | rfl
      · exact .inl ⟨a, ha, b, hb, h1, h2, h3⟩
      · exact .inr ⟨h2.symm, a, ha, h1, h3⟩
    · rcases hb with hb | rfl
      · exact .inr ⟨h1.symm, b, hb, h2, fun e => h3 e.symm⟩
      · exact absurd rfl h3
  · rintro (⟨a, ha, b, hb, h⟩ | ⟨e, r, hr, h1, h2⟩)
    · exact ⟨a, List.mem_append_left _ ha, b, List.mem_append_left _ hb, h⟩
    · exact ⟨r, List.mem_append_left _ hr, c, by simp, h1, e.symm, h2⟩
def kLt (a b : Key) : Prop := a.1 < b.1 ∨ (a.1 = b.1 ∧ a.2 < b.2)
def LeastClash (rows : List Row) (q : Key) : Prop := Clash rows q ∧ ∀ q', Clash rows q' → ¬ kLt q' q
abbrev keyK (q : Key) : NestedKey := .tup [.num q.1, .num q.2]
theorem keyK_inj {a b : Key} (h : keyK a = keyK b) : a = b := by
  simp only [keyK, NestedKey.tup.injEq, List.cons.injEq, NestedKey.num.injEq, and_true] at h
  exact Prod.ext h.1 h.2
theorem keyK_key (q : Key) : (keyD q).key = some (keyK q) := rfl
theorem keyK_tup (q : Key) : isTup (keyK q) := trivial
theorem keyK_depth (q : Key) : (keyK q).depth ≤ 8 := by simp [keyK, NestedKey.depth, NestedKey.depthAll]
def FS_check_keys (C XC : Addr) : FSpec := fun ds m k x => ∃ rows : List Row, ds = [.lst (rows.map (callD C))] ∧ (∀ r ∈ rows, Good r) ∧ rows.length ≤ 1000 ∧ ((∀ q, ¬ Clash rows q) → k .non m) ∧ (∀ q, LeastClash rows q → x XC (keyD q) m)
theorem fn_check_keys {XC fI : Addr} (F : F_check_keys K f fd) (gm : mg "check_keys" = some (.ref f)) (fr : Free mg) (L : CallF K mg C) (Le : CallE P w K mg base C) (EF : ErrF K mg "ClashingCalls" XC fI) (EI : ErrI P w K mg base fI) : Fn P w K mg base 3 "check_keys" (FS_check_keys C XC) := by
  refine fn_def F sc_check_keys gm (bs_check_keys F) (fun ds m k x ⟨_, e, _⟩ => by rw [e]; rfl) ?_
  rintro cdv A outer s H E B ds m k x ⟨rows, rfl, hg, hz, hk, hx⟩
  have hu := B.room.un
  walk_at "sg1"
  walk_at "sg1"
  refine ec_dnew fun pk => ?_
  walk_at "sg1"
  walk_at "sg1"
  refine ec_lstM (ecs_nil ⟨by decide, fun pc => ?_⟩)
  refine sd_cons ?_
  refine ss_forT (.nm 3) B (pg_name B.nd rfl (Or.inl rfl)) (show (3 : Nat) < 4 by decide) ?_
  refine sc_lst ?_
  walk_at "sg1"
  refine ⟨_, rfl, Row, rows, callD C, fun pre es' m' => ∃ (kvs : List (NestedKey × D)) (cs : List Key) (o : Option D), es' = [some (.lst (rows.map (callD C))), some (.raw (.ref pk)), some (.raw (.ref pc)), o] ∧ m' = (pc, .lst (cs.map keyD)) :: (pk, .dct kvs) :: m ∧ (∀ q ∈ kvs, isTup q.1) ∧ kvs.length ≤ pre.length ∧ cs.length ≤ pre.length ∧
    (∀ q, match dGet kvs (keyK q) with
      | none => ∀ r ∈ pre, r.key ≠ q
      | some d => ∃ r ∈ pre, r.key = q ∧ d = callD C r) ∧ (∀ q, q ∈ cs ↔ Clash pre q), rfl, ?_, fun _ _ _ _ => trivial, ?_, ?_⟩
  · refine ⟨[], [], none, rfl, rfl, by simp, by simp, by simp, fun q => ?_, fun q => ?_⟩
    · show ∀ r ∈ ([] : List Row), r.key ≠ q
      simp
    · simp [Clash]
  · rintro pre c post es' m' hxs ⟨kvs, cs, o, rfl, rfl, ht, hl1, hl2, hd, hc⟩
    refine ⟨_, rfl, ?_⟩
    walk_at "sg1"; walk_at "sg1"
    refine et_cmp (ec_cfv (i := 3) L rfl (by walk_at "sgm") rfl ?_)
    walk_at "sg1"
    refine oc_dnotin (j := 1) (kvs := kvs) (by omega) ⟨rfl, ht⟩ (keyK_key _) (keyK_tup _) (keyK_depth _) ?_
    have hdk := hd c.key
    cases q : dGet kvs (keyK c.key) with
    | none =>
      rw [q] at hdk
      walk_at "sgi"
      refine sd_one (ss_dput (by omega) ?_)
      walk_at "sg1"; walk_at "sg1"
      refine ec_cfv (i := 3) L rfl (by walk_at "sgm") rfl ?_
      refine ⟨pk, 1, kvs, keyK c.key, rfl, ⟨rfl, ht⟩, keyK_key _, keyK_tup _, keyK_depth _, ?_, ?_⟩
      · have := congrArg List.length hxs
        rw [List.length_append] at this
        omega
      · refine ⟨_, cs, _, rfl, rfl, dPut_tup ht (keyK_tup _), ?_, ?_, fun q' => ?_, fun q' => ?_⟩
        · rw [List.length_append]; exact Nat.le_trans dPut_len (by simp; omega)
        · rw [List.length_append]; omega
        · rw [dGet_put]
          by_cases e : keyK q' = keyK c.key
          · rw [if_pos e]
            exact ⟨c, by simp, (keyK_inj e).symm, rfl⟩
          · rw [if_neg e]
            have h1 := hd q'
            cases q2 : dGet kvs (keyK q') with
            | none =>
              rw [q2] at h1
              intro r hr
              rcases List.mem_append.mp hr with hr | hr
              · exact h1 r hr
              · rw [List.mem_singleton] at hr
                subst hr
                exact fun z => e (by rw [z])
            | some d =>
              rw [q2] at h1
              obtain ⟨r, h2, h3⟩ := h1
              exact ⟨r, List.mem_append_left _ h2, h3⟩
        · rw [hc q', clash_snoc]
          refine ⟨.inl, fun z => ?_⟩
          rcases z with z | ⟨e, r, hr, e2, _⟩
          · exact z
          · exact absurd (e2.trans e) (hdk r hr)
    | some d =>
      rw [q] at hdk
      obtain ⟨r, hr, hrk, rfl⟩ := hdk
      walk_at "sgi"
      obtain ⟨fe, fde, pse, FE, hfe, hfn, hbe⟩ := Le.ok
      refine sd_one (ss_if (et_not (et_cmp (ec_dget (by omega) ?_))))
      walk_at "sg1"
      refine ec_cfv (i := 3) L rfl (by walk_at "sgm") rfl ?_
      refine ⟨pk, 1, kvs, keyK c.key, _, rfl, ⟨.inl rfl, ht⟩, keyK_key _, keyK_tup _, keyK_depth _, q, ?_⟩
      walk_at "sg1"
      refine oc_own FE (B.room.mono (by decide)) hfe hfn hbe ⟨r, c, rfl, _, rfl, ?_⟩
      have hin : ∀ q', (match dGet kvs (keyK q') with
          | none => ∀ r ∈ pre ++ [c], r.key ≠ q'
          | some d => ∃ r ∈ pre ++ [c], r.key = q' ∧ d = callD C r) := fun q' => by
        have h1 := hd q'
        cases q2 : dGet kvs (keyK q') with
        | none =>
          rw [q2] at h1
          intro z hz'
          rcases List.mem_append.mp hz' with hz' | hz'
          · exact h1 z hz'
          · rw [List.mem_singleton] at hz'
            subst hz'
            intro e
            exact h1 r hr (hrk.trans e)
        | some d =>
          rw [q2] at h1
          obtain ⟨z, h2, h3⟩ := h1
          exact ⟨z, List.mem_append_left _ h2, h3⟩
      have hlen : rows.length = pre.length + (post.length + 1) := by rw [hxs, List.length_append, List.length_cons]
      refine ⟨_, rfl, ite_n (fun hne => ?_) fun he => ?_⟩
      · refine sd_one (ss_expr (ec_append ?_))
        walk_at "sg1"
        refine ⟨RecvD.raw (j := 0) rfl, ?_⟩
        refine ec_cfv (i := 3) L rfl (by walk_at "sgm") rfl ?_
        refine ⟨pc, 0, cs.map keyD, rfl, rfl, by rw [List.length_map]; exact Nat.le_trans (by omega : cs.length ≤ 1000) (by decide), ?_⟩
        refine ⟨kvs, cs ++ [c.key], _, rfl, by simp, ht, ?_, ?_, hin, fun q' => ?_⟩
        · rw [List.length_append]; omega
        · rw [List.length_append, List.length_append]; simp; omega
        · rw [List.mem_append, hc q', clash_snoc, List.mem_singleton]
          exact or_congr Iff.rfl ⟨fun e => ⟨e, r, hr, by rw [e]; exact hrk, hne⟩, fun e => e.1⟩
      · refine sd_nil ⟨kvs, cs, _, rfl, rfl, ht, ?_, ?_, hin, fun q' => ?_⟩
        · rw [List.length_append]; omega
        · rw [List.length_append]; omega
        · rw [hc q', clash_snoc]
          refine ⟨.inl, fun z => ?_⟩
          rcases z with z | ⟨e1, a, ha, e2, e3⟩
          · exact z
          · exact ⟨a, ha, r, hr, e2, by rw [hrk, e1], by rw [he]; exact e3⟩
  · rintro es' m' ⟨kvs, cs, o, rfl, rfl, ht, hl1, hl2, hd, hc⟩
    refine SD.freeze 0 2 rfl rfl ?_
    refine SD.weak (m' := m) (List.sublist_cons_self _ _) (fun _ _ z => z) ?_
    walk_at "sg1"; walk_at "sg1"
    refine et_cmp ?_
    walk_at "sg1"; walk_at "sg1"; walk_at "sg1"; walk_at "sg1"
    refine cc_len (.inl (.imm _ _)) ?_
    walk_at "sg"
    refine ite_d (fun h => ?_) fun h => ?_
    · cases cs with
      | nil => simp at h
      | cons c0 cs =>
        refine sd_one (ss_raise EF EI B.calm (B.room.mono (by decide)) ?_)
        walk_at "sg"
        have hsn : D.sn 2 (D.lst ((c0 :: cs).map keyD)) := sn_lst (snL_map fun a _ => sn_tup (snL_cons sn_int (snL_cons sn_int snL_nil)))
        refine cc_min (d0 := keyD c0) (ds := cs.map keyD) B.room.hd (by omega) (.imm _ _) hsn.1 ?_ ?_ fun d' hd' he => ?_
        · rw [pyL_map, ← List.map_cons (f := keyD), List.map_map]
          refine ⟨fun a ha b hb => ?_, fun a ha => ?_⟩
          · obtain ⟨a, _, rfl⟩ := List.mem_map.mp ha
            obtain ⟨b, _, rfl⟩ := List.mem_map.mp hb
            exact alike_tupI [a.1, a.2] [b.1, b.2]
          · obtain ⟨a, _, rfl⟩ := List.mem_map.mp ha
            exact fun z => PyData.noConfusion z
        · have := hsn.2.2
          simp only [D.py, PyData.depth] at this
          have e : PyData.depthAll (D.pyL ((c0 :: cs).map keyD)) + 1 ≤ 2 := this
          exact Nat.le_trans (Nat.le_of_succ_le_succ e) (by decide)
        · rw [← List.map_cons (f := keyD)] at hd'
          obtain ⟨q, hq, rfl⟩ := List.mem_map.mp hd'
          have hcl := (hc q).mp hq
          obtain ⟨a, ha, _, _, ea, _⟩ := hcl
          have gn := (hg a ha).num
          have gw := (hg a ha).whoB
          have e1 : a.who = q.1 := congrArg Prod.fst ea
          have e2 : a.num = q.2 := congrArg Prod.snd ea
          refine ⟨⟨by omega, by omega⟩, hx q ⟨(hc q).mp hq, fun q' hq' hlt => ?_⟩⟩
          have hm := minD_least (keyD c0).py (D.pyL (cs.map keyD)) (keyD q').py (by
            have : (keyD q').py ∈ ((c0 :: cs).map keyD).map D.py := List.mem_map.mpr ⟨_, List.mem_map.mpr ⟨q', (hc q').mpr hq', rfl⟩, rfl⟩
            rw [← pyL_map] at this
            exact this)
          rw [← he] at hm
          have hm : PySem.W.dataLt (.tuple [.int q'.1, .int q'.2]) (.tuple [.int q.1, .int q.2]) = false := hm
          rw [PySem.W.dataLt_ii] at hm
          rcases hlt with h | ⟨h, h'⟩ <;> simp at hm <;> omega
    · cases cs with
      | cons c0 cs => simp at h
      | nil => exact sd_nil (hk fun q hq => by have := (hc q).mpr hq; simp at this)
end
end TSgP3
/-! SgP4: in_stamp_order, check_anchors. -/
section TSgP4
set_option maxHeartbeats 4000000
open PySem PySem.Spec PyProof.Rows L2
theorem EC.drop {X : Cx} {x : XD} {es : Es} {m : M} {e : Expr} {k : KD} (h : EC X x es m e fun d m1 => ∃ m2, m2.Sublist m1 ∧ k d m2) : EC X x es m e k := fun G σ H Q w st q => h G σ H Q w st fun v d m1 G1 H1 ⟨m2, s, z⟩ e1 h1 r1 => q v d m2 G1 H1 z e1 (h1.drop s) r1
abbrev stK (r : Row) : NestedKey := .tup [.num r.clock, .num r.who, .num r.num]
abbrev stI (r : Row) : List Int := [r.clock, r.who, r.num]
abbrev stD (r : Row) : D := .tup ((stI r).map D.int)
theorem stK_inj {a b : Row} (h : stK a = stK b) : a.clock = b.clock ∧ a.key = b.key := by
  simp only [stK, NestedKey.tup.injEq, List.cons.injEq, NestedKey.num.injEq, and_true] at h
  exact ⟨h.1, Prod.ext h.2.1 h.2.2⟩
theorem stK_depth (r : Row) : (stK r).depth ≤ 8 := by simp [stK, NestedKey.depth, NestedKey.depthAll]
theorem st_lt (a b : Row) : stI a < stI b ↔ stLt a b := by
  unfold stI stLt
  simp only [List.cons_lt_cons_iff, List.not_lt_nil, and_false, or_false]
def NoClash (rows : List Row) : Prop := ∀ q, ¬ Clash rows q
theorem NoClash.uniq {rows : List Row} (h : NoClash rows) : Uniq rows := fun a ha b hb e => Classical.byContradiction fun n => h b.key ⟨a, ha, b, hb, e, rfl, n⟩
theorem NoClash.of_uniq {rows : List Row} (h : Uniq rows) : NoClash rows := fun q ⟨a, ha, b, hb, e1, e2, n⟩ => n (h a ha b hb (e1.trans e2.symm))
theorem key_num_who {a b : Row} (h : a.key = b.key) : a.who = b.who ∧ a.num = b.num := ⟨congrArg Prod.fst h, congrArg Prod.snd h⟩
/-- the dict of the rows dd -/
def stKvs (C : Addr) (dd : List Row) : List (NestedKey × D) := dd.map fun r => (stK r, callD C r)
theorem dGet_mapF {α : Type} {f : α → NestedKey} {g : α → D} {xs : List α} {a : α} (ha : a ∈ xs) (hi : ∀ b ∈ xs, f b = f a → b = a) : dGet (xs.map fun r => (f r, g r)) (f a) = some (g a) := by
  unfold dGet
  rw [List.find?_map]
  have : xs.find? ((fun x => decide (x.1 = f a)) ∘ fun r => (f r, g r)) = some a := by
    cases q : xs.find? ((fun x => decide (x.1 = f a)) ∘ fun r => (f r, g r)) with
    | none =>
      have := List.find?_eq_none.mp q a ha
      simp at this
    | some b =>
      have h1 := List.find?_some q
      have h2 := List.mem_of_find?_eq_some q
      simp at h1
      rw [hi b h2 h1]
  rw [this]
  rfl
theorem dGet_mapN {α : Type} {f : α → NestedKey} {g : α → D} {xs : List α} {kk : NestedKey} (hi : ∀ b ∈ xs, f b ≠ kk) : dGet (xs.map fun r => (f r, g r)) kk = none := by
  unfold dGet
  rw [List.find?_map]
  have : xs.find? ((fun x => decide (x.1 = kk)) ∘ fun r => (f r, g r)) = none := List.find?_eq_none.mpr fun b hb => by simpa using hi b hb
  rw [this]
  rfl
theorem dPut_mapF {α : Type} {f : α → NestedKey} {g : α → D} {xs : List α} {a : α} (ha : a ∈ xs) (hi : ∀ b ∈ xs, f b = f a → b = a) : dPut (xs.map fun r => (f r, g r)) (f a) (g a) = xs.map fun r => (f r, g r) := by
  unfold dPut
  rw [dGet_mapF ha hi, if_pos (show (some (g a)).isSome = true from rfl), List.map_map]
  refine List.map_congr_left fun b hb => ?_
  show (if f b = f a then (f b, g a) else (f b, g b)) = (f b, g b)
  by_cases e : f b = f a
  · rw [if_pos e, hi b hb e]
  · rw [if_neg e]
theorem dPut_mapN {α : Type} {f : α → NestedKey} {g : α → D} {xs : List α} {a : α} (hi : ∀ b ∈ xs, f b ≠ f a) : dPut (xs.map fun r => (f r, g r)) (f a) (g a) = (xs ++ [a]).map fun r => (f r, g r) := by
  unfold dPut
  rw [dGet_mapN hi, if_neg (by simp), List.map_append]
  rfl
section
variable {P : Program} {w : World} {K : PySem.W.Frag} {mg : Str → Option Value} {base : Heap} {f C CR XC : Addr} {fd : FuncData}
def FS_in_stamp_order (C XC : Addr) : FSpec := fun ds m k x => ∃ rows : List Row, ds = [.lst (rows.map (callD C))] ∧ (∀ r ∈ rows, Good r) ∧ rows.length ≤ 1000 ∧ (NoClash rows → ∀ o, Ord rows o → k (.lst (o.map (callD C))) m) ∧ (∀ q, LeastClash rows q → x XC (keyD q) m)
theorem fn_in_stamp_order (F : F_in_stamp_order K f fd) (gm : mg "in_stamp_order" = some (.ref f)) (fr : Free mg) (L : CallF K mg C) (C1 : Fn P w K mg base 3 "check_keys" (FS_check_keys C XC)) : Fn P w K mg base 4 "in_stamp_order" (FS_in_stamp_order C XC) := by
  refine fn_def F sc_in_stamp_order gm (bs_in_stamp_order F) (fun ds m k x ⟨_, e, _⟩ => by rw [e]; rfl) ?_
  rintro cdv A outer s H E B ds m k x ⟨rows, rfl, hg, hz, hk, hx⟩
  have hu := B.room.un
  refine sd_cons (ss_expr (ec_call C1 B.room ?_))
  walk_at "sg"
  refine ⟨rows, rfl, hg, hz, fun hn => ?_, hx⟩
  have hun := NoClash.uniq hn
  walk_at "sg1"; walk_at "sg1"
  refine ec_dnew fun pk => ?_
  refine sd_cons ?_
  refine ss_forT (.nm 2) B (pg_name B.nd rfl (Or.inl rfl)) (show (2 : Nat) < 4 by decide) ?_
  refine sc_lst ?_
  walk_at "sg1"
  refine ⟨_, rfl, Row, rows, callD C, fun pre es' m' => ∃ (dd : List Row) (o o2 : Option D), es' = [some (.lst (rows.map (callD C))), some (.raw (.ref pk)), o, o2] ∧ m' = (pk, .dct (stKvs C dd)) :: m ∧ dd.Nodup ∧ (∀ r, r ∈ dd ↔ r ∈ pre) ∧ dd.length ≤ pre.length, rfl, ⟨[], _, _, rfl, rfl, List.nodup_nil, by simp, by simp⟩, fun _ _ _ _ => trivial, ?_, ?_⟩
  · rintro pre c post es' m' hxs ⟨dd, o, o2, rfl, rfl, hnd, hm, hl⟩
    have hsub : ∀ r ∈ dd, r ∈ rows := fun r hr => by rw [hxs]; exact List.mem_append_left _ ((hm r).mp hr)
    have hcr : c ∈ rows := by rw [hxs]; simp
    have hlen : rows.length = pre.length + (post.length + 1) := by rw [hxs, List.length_append, List.length_cons]
    refine ⟨_, rfl, sd_one (ss_dput (by omega) ?_)⟩
    walk_at "sg1"; walk_at "sg1"; walk_at "sg1"; walk_at "sg1"
    refine ec_cfv (i := 2) L rfl (by walk_at "sgm") rfl ?_
    walk_at "sg1"
    refine ec_cfv (i := 2) L rfl (by walk_at "sgm") rfl ?_
    walk_at "sg1"
    refine ec_cfv (i := 2) L rfl (by walk_at "sgm") rfl ?_
    walk_at "sg"
    refine ⟨(show (3 : Nat) ≤ 1000 by decide), pk, 0, stKvs C dd, stK c, rfl, ⟨rfl, ?_⟩, rfl, trivial, stK_depth c, ?_, ?_⟩
    · intro q hq
      obtain ⟨r, _, rfl⟩ := List.mem_map.mp hq
      trivial
    · unfold stKvs; rw [List.length_map]; omega
    · by_cases hc : c ∈ dd
      · have e : dPut (stKvs C dd) (stK c) (callD C c) = stKvs C dd := dPut_mapF (f := stK) (g := callD C) hc fun b hb e => hun b (hsub b hb) c hcr (stK_inj e).2
        refine ⟨dd, _, _, rfl, by rw [e]; rfl, hnd, fun r => ?_, ?_⟩
        · rw [hm r, List.mem_append, List.mem_singleton]
          exact ⟨.inl, fun z => z.elim id fun e => by rw [e]; exact (hm c).mp hc⟩
        · rw [List.length_append]; omega
      · have e : dPut (stKvs C dd) (stK c) (callD C c) = stKvs C (dd ++ [c]) := dPut_mapN (f := stK) (g := callD C) fun b hb e => hc (by rw [← hun b (hsub b hb) c hcr (stK_inj e).2]; exact hb)
        refine ⟨dd ++ [c], _, _, rfl, by rw [e]; rfl, ?_, fun r => ?_, ?_⟩
        · rw [List.nodup_append]
          refine ⟨hnd, by simp, fun a ha b hb => ?_⟩
          rw [List.mem_singleton] at hb
          subst hb
          exact fun e => hc (by rw [← e]; exact ha)
        · rw [List.mem_append, List.mem_append, hm r]
        · rw [List.length_append, List.length_append]; simp; omega
  · rintro es' m' ⟨dd, o, o2, rfl, rfl, hnd, hm, hl⟩
    walk_at "sg1"; walk_at "sg1"
    refine EC.drop ?_
    refine ec_lc (own := [("stamp", 3)]) (.nm 3) B.calm B.nd (blk_ok (N := N_in_stamp_order) (sc := defScope S_in_stamp_order) (by decide +kernel)) (fun s H C cl fp => pg_name sc_in_stamp_order.nd rfl (Or.inl rfl)) (show (3 : Nat) < 4 by decide) (List.mem_cons_self) ?_
    refine sc_lst ?_
    walk_at "sg1"; walk_at "sg1"; walk_at "sg1"; walk_at "sg1"; walk_at "sg1"; walk_at "sg1"
    refine cc_listD B.room.hd (j := 0) (kvs := stKvs C dd) ⟨.inl rfl, ?_⟩ ?_
    · intro q hq
      obtain ⟨r, _, rfl⟩ := List.mem_map.mp hq
      trivial
    have e1 : (stKvs C dd).map (fun q => kD q.1) = dd.map stD := by
      unfold stKvs
      rw [List.map_map]
      rfl
    rw [e1]
    walk_at "sg1"
    have hsub : ∀ r ∈ dd, r ∈ rows := fun r hr => (hm r).mp hr
    have hsn : D.sn 2 (D.lst (dd.map stD)) := sn_lst (snL_map fun a _ => sn_tup (snL_map fun _ _ => sn_int))
    refine cc_sorted (by omega) (.imm _ _) hsn.1 ?_ ?_ ?_ ?_ ?_
    · rw [List.map_map]
      intro a ha b hb
      obtain ⟨a, _, rfl⟩ := List.mem_map.mp ha
      obtain ⟨b, _, rfl⟩ := List.mem_map.mp hb
      exact alike_tupI (stI a) (stI b)
    · rw [List.map_map]
      refine .inl fun a ha => ?_
      obtain ⟨a, _, rfl⟩ := List.mem_map.mp ha
      exact ⟨_, _, rfl⟩
    · rw [List.length_map]; exact Nat.le_trans hl (Nat.le_trans hz (by decide))
    · intro b hb
      obtain ⟨a, _, rfl⟩ := List.mem_map.mp hb
      exact Nat.le_trans (sn_tup (n := 0) (snL_map fun _ _ => sn_int) : D.sn 1 (stD a)).2.2 (by decide)
    · obtain ⟨ys, hp, e2, hs⟩ := sort_typed stD dd
      rw [e2]
      refine ⟨_, rfl, ?_⟩
      have hmy : ∀ r, r ∈ ys ↔ r ∈ rows := fun r => (hp.mem_iff).trans (hm r)
      have hord : Ord rows ys := by
        refine ⟨?_, hmy⟩
        have hn2 : ys.Nodup := hp.nodup_iff.mpr hnd
        refine (List.Pairwise.and hs hn2).imp_of_mem fun {a b} ha hb ⟨h1, h2⟩ => ?_
        have ga := hg a ((hmy a).mp ha)
        have gb := hg b ((hmy b).mp hb)
        rw [lt_tupI] at h1
        have h1 := of_decide_eq_false h1
        rw [st_lt, ← code_lt gb ga] at h1
        rcases Int.lt_or_eq_of_le (Int.not_lt.mp h1) with h | h
        · exact h
        · exact absurd (hun a ((hmy a).mp ha) b ((hmy b).mp hb) (code_key ga gb h)) h2
      refine lck_map (α := Row) (xs := ys) (enc := stD) (gx := callD C) (Nat.le_trans (Nat.le_of_eq hp.length_eq) (Nat.le_trans hl (Nat.le_trans hz (by decide)))) trivial (fun r hr acc => ⟨_, rfl, fun p s2 H2 C2 cl2 fp2 => ?_⟩) ⟨m, List.sublist_cons_self _ _, hk hn ys hord⟩
      refine ec_dget (show A.units + 3 + 9 < cLine by have : A.units + 3 + 16 * 3 + 200 < cLine := hu; omega) ?_
      walk_at "sg1"; walk_at "sg1"
      have hrd : r ∈ dd := hp.mem_iff.mp hr
      refine ⟨pk, 1, stKvs C dd, stK r, callD C r, rfl, ⟨.inl rfl, ?_⟩, rfl, trivial, stK_depth r, dGet_mapF (f := stK) (g := callD C) hrd fun b hb e => hun b (hsub b hb) r (hsub r hrd) (stK_inj e).2, rfl, rfl⟩
      intro q hq
      obtain ⟨r, _, rfl⟩ := List.mem_map.mp hq
      trivial
end
end TSgP4
/-! SgDk: dict comprehensions over typed lists. -/
section TSgDk
set_option maxHeartbeats 4000000
open PySem PySem.Spec PyProof.Rows L2
section
variable {X : Cx} {es : Es} {m : M} {k : KD} {α : Type} {xs : List α} {enc gv : α → D} {kf : α → NestedKey} {keep : M → Prop} {tg : Tg} {vs : List Nat} {scope : Scope} {kx vx : Expr}
theorem dck_map (hz : xs.length ≤ 100000) (hp : keep m) (hkv : ∀ a ∈ xs, isTup (kf a) ∧ (kf a).depth ≤ 8) (hinj : ∀ a ∈ xs, ∀ b ∈ xs, kf a = kf b → gv a = gv b)
    (h : ∀ a ∈ xs, ∀ kvs : List (NestedKey × D), ∃ es2, tg.put (enc a) (wipeE es vs) = some es2 ∧ ∀ p, Blk X scope fun Y => EC Y noX es2 ((p, .dct kvs) :: m) kx fun dk m2 => Blk X scope fun Y => EC Y noX es2 m2 vx fun dv m3 => dk.key = some (kf a) ∧ dv = gv a ∧ m3 = (p, .dct kvs) :: m)
    (hk : ∀ (kvs : List (NestedKey × D)) p, (∀ q ∈ kvs, isTup q.1) → kvs.length ≤ xs.length → (∀ a ∈ xs, dGet kvs (kf a) = some (gv a)) → (∀ kk, (dGet kvs kk).isSome = true → ∃ a ∈ xs, kf a = kk) → k (.raw (.ref p)) ((p, .dct kvs) :: m)) : DcK X scope es tg vs kx vx k (xs.map enc) keep m := by
  refine ⟨fun i m' kvs => m' = m ∧ i ≤ xs.length ∧ (∀ q ∈ kvs, isTup q.1) ∧ kvs.length ≤ i ∧ (∀ a ∈ xs.take i, dGet kvs (kf a) = some (gv a)) ∧ (∀ kk, (dGet kvs kk).isSome = true → ∃ a ∈ xs.take i, kf a = kk), ⟨rfl, Nat.zero_le _, by simp, by simp, by simp, fun kk z => by simp [dGet] at z⟩, fun i m' kvs z => by rw [z.1]; exact hp, fun i d m' kvs hd ⟨em, hi, h1, h2, h3, h4⟩ => ?_, fun m' kvs p ⟨em, hi, h1, h2, h3, h4⟩ => ?_⟩
  · subst em
    obtain ⟨a, ha, rfl⟩ := mapAt hd
    have hmem := List.mem_of_getElem? ha
    obtain ⟨es2, hp2, z⟩ := h a hmem kvs
    have hlt := (List.getElem?_eq_some_iff.mp ha).1
    refine ⟨es2, hp2, fun p s1 H1 C1 cl1 fp1 => (z p s1 H1 C1 cl1 fp1).imp fun dk m2 z2 s2 H2 C2 cl2 fp2 => (z2 s2 H2 C2 cl2 fp2).imp fun dv m3 ⟨e1, e2, e3⟩ => ?_⟩
    refine ⟨m', kf a, e3, e1, (hkv a hmem).1, (hkv a hmem).2, h1, by omega, rfl, by omega, dPut_tup h1 (hkv a hmem).1, Nat.le_trans dPut_len (by omega), fun b hb => ?_, fun kk hkk => ?_⟩
    · rw [take_at ha, List.mem_append, List.mem_singleton] at hb
      have hbx : b ∈ xs := by
        rcases hb with hb | rfl
        · exact List.mem_of_mem_take hb
        · exact hmem
      rw [dGet_put, e2]
      by_cases e : kf b = kf a
      · rw [if_pos e, hinj b hbx a hmem e]
      · rw [if_neg e]
        rcases hb with hb | rfl
        · exact h3 b hb
        · exact absurd rfl e
    · rw [dGet_put] at hkk
      rw [take_at ha]
      by_cases e : kk = kf a
      · exact ⟨a, by simp, e.symm⟩
      · rw [if_neg e] at hkk
        obtain ⟨b, hb, e⟩ := h4 kk hkk
        exact ⟨b, List.mem_append_left _ hb, e⟩
  · subst em
    rw [List.length_map] at h2 h3 h4
    rw [List.take_length] at h3 h4
    exact hk kvs p h1 h2 h3 h4
end
end TSgDk
/-! SgP5: check_anchors. -/
section TSgP5
set_option maxHeartbeats 4000000
open PySem PySem.Spec PyProof.Rows L2
def okK : Option Key → NestedKey
  | none => .none
  | some q => keyK q
abbrev nmK (n : Nm) : NestedKey := .tup [okK n.1, .num n.2]
theorem okK_inj {a b : Option Key} (h : okK a = okK b) : a = b := by
  cases a with
  | none => cases b with
    | none => rfl
    | some _ => simp [okK] at h
  | some a => cases b with
    | none => simp [okK] at h
    | some b => rw [keyK_inj (show keyK a = keyK b from h)]
theorem nmK_inj {a b : Nm} (h : nmK a = nmK b) : a = b := by
  simp only [nmK, NestedKey.tup.injEq, List.cons.injEq, NestedKey.num.injEq, and_true] at h
  exact Prod.ext (okK_inj h.1) h.2
theorem okd_key (a : Option Key) : (okd a).key = some (okK a) := by cases a <;> rfl
theorem nmD_key (n : Nm) : (nmD n).key = some (nmK n) := by
  unfold nmD
  simp only [D.key, D.keyL, okd_key, Option.map_some]
theorem nmK_depth (n : Nm) : (nmK n).depth ≤ 8 := by
  obtain ⟨a, p⟩ := n
  cases a with
  | none => simp [nmK, okK, NestedKey.depth, NestedKey.depthAll]
  | some q => simp [nmK, okK, keyK, NestedKey.depth, NestedKey.depthAll]
def okA (g0 : Str) (pre : List Row) (r : Row) : Prop := r.anchor = (none, 0) ∨ Named g0 pre r.anchor
def AllOk (g0 : Str) (o : List Row) : Prop := ∀ pre r post, o = pre ++ r :: post → okA g0 pre r
def FirstMissing (g0 : Str) (o : List Row) (r : Row) : Prop := ∃ pre post, o = pre ++ r :: post ∧ ¬ okA g0 pre r ∧ AllOk g0 pre
theorem named_snoc {g0 : Str} {pre : List Row} {c : Row} {n : Nm} : Named g0 (pre ++ [c]) n ↔ Named g0 pre n ∨ n ∈ signs (some c.key) c.group := by
  unfold Named
  constructor
  · rintro (h | ⟨r, hr, h⟩)
    · exact .inl (.inl h)
    · rcases List.mem_append.mp hr with hr | hr
      · exact .inl (.inr ⟨r, hr, h⟩)
      · rw [List.mem_singleton] at hr; subst hr; exact .inr h
  · rintro ((h | ⟨r, hr, h⟩) | h)
    · exact .inl h
    · exact .inr ⟨r, List.mem_append_left _ hr, h⟩
    · exact .inr ⟨c, by simp, h⟩
theorem allOk_snoc {g0 : Str} {pre : List Row} {c : Row} (h : AllOk g0 pre) (hc : okA g0 pre c) : AllOk g0 (pre ++ [c]) := by
  intro p r q e
  rcases List.eq_nil_or_concat q with rfl | ⟨q', z, rfl⟩
  · have := List.append_inj' e rfl
    obtain ⟨rfl, e2⟩ := this
    cases e2
    exact hc
  · rw [List.concat_eq_append, ← List.cons_append, ← List.append_assoc] at e
    have := List.append_inj' e rfl
    exact h _ _ _ this.1
theorem signs_len {kk : Option Key} {g : Str} : (signs kk g).length = g.length := by unfold signs; rw [List.length_map, List.length_range]
section
variable {P : Program} {w : World} {K : PySem.W.Frag} {mg : Str → Option Value} {base : Heap} {f C CR XM : Addr} {fd : FuncData}
def FS_check_anchors (C XM : Addr) : FSpec := fun ds m k x => ∃ (g0 : Str) (o : List Row), ds = [.str g0, .lst (o.map (callD C))] ∧ g0.length ≤ 100 ∧ (∀ r ∈ o, Good r) ∧ o.length ≤ 1000 ∧ (AllOk g0 o → k .non m) ∧ (∀ r, FirstMissing g0 o r → x XM (keyD r.key) m)
theorem fn_check_anchors {fI : Addr} (F : F_check_anchors K f fd) (gm : mg "check_anchors" = some (.ref f)) (md : Mods mg K) (L : CallF K mg C) (EF : ErrF K mg "MissingAnchor" XM fI) (EI : ErrI P w K mg base fI) (C1 : Fn P w K mg base 1 "signs_of" FS_signs_of) : Fn P w K mg base 3 "check_anchors" (FS_check_anchors C XM) := by
  refine fn_def F sc_check_anchors gm (bs_check_anchors F) (fun ds m k x ⟨_, _, e, _⟩ => by rw [e]; rfl) ?_
  rintro cdv A outer s H E B ds m k x ⟨g0, o, rfl, hg0, hg, hz, hk, hx⟩
  have hu := B.room.un
  have fr := md.fr
  obtain ⟨aR, gR, hR⟩ := md.rim
  refine sd_cons (ss_dc (own := [("sign", 4)]) (i := 2) (.nm 4) (by omega) B.calm B.nd (blk_ok (N := N_check_anchors) (sc := defScope S_check_anchors) (by decide +kernel)) (fun s H C cl fp => pg_name sc_check_anchors.nd rfl (Or.inl rfl)) (show (4 : Nat) < 5 by decide) (List.mem_cons_self) ?_)
  refine sc_lst ?_
  refine ec_lst ?_
  walk_at "sg1"
  refine ec_glob (v := .ref aR) gR rfl (fun G => .tup (hR G) (.cons .non (.cons (.int 0) .nil))) ?_
  walk_at "sg1"
  refine ec_call C1 (B.room.mono (by decide)) ?_
  walk_at "sg"
  refine ⟨none, g0, rfl, Nat.le_trans hg0 (by decide), _, .inl (.imm _ _), ?_⟩
  walk_at "sg1"
  have hsl : (signs none g0).length ≤ 100 := by rw [signs_len]; exact hg0
  refine ⟨by simp; omega, _, rfl, ?_⟩
  rw [List.append_nil, show D.tup [D.non, D.int 0] :: (signs none g0).map nmD = ((none, 0) :: signs none g0).map nmD from rfl]
  refine dck_map (α := Nm) (kf := nmK) (gv := fun _ => .bl true) (by simp; omega) trivial (fun a _ => ⟨trivial, nmK_depth a⟩) (fun _ _ _ _ _ => rfl) (fun a ha kvs => ⟨_, rfl, fun p s1 H1 C1 cl1 fp1 => ?_⟩) ?_
  · walk_at "sg1"
    intro s2 H2 C2 cl2 fp2
    walk_at "sg1"
    exact ⟨nmD_key a, rfl, rfl⟩
  intro kvs pd ht hl h1 h2
  refine sd_cons (ss_forT (.nm 3) B (pg_name B.nd rfl (Or.inl rfl)) (show (3 : Nat) < 5 by decide) ?_)
  refine sc_lst ?_
  walk_at "sg1"
  refine ⟨_, rfl, Row, o, callD C, fun pre es' m' => ∃ (kvs : List (NestedKey × D)) (o1 o2 : Option D), es' = [some (.str g0), some (.lst (o.map (callD C))), some (.raw (.ref pd)), o1, o2] ∧ m' = (pd, .dct kvs) :: m ∧ (∀ q ∈ kvs, isTup q.1) ∧ kvs.length ≤ 101 + 10 * pre.length ∧ (∀ n, (dGet kvs (nmK n)).isSome = true ↔ (n = (none, 0) ∨ Named g0 pre n)) ∧ AllOk g0 pre, rfl, ?_, fun _ _ _ _ => trivial, ?_, ?_⟩
  · refine ⟨kvs, _, _, rfl, rfl, ht, by simp at hl ⊢; omega, fun n => ?_, fun pre r post e => by simp at e⟩
    constructor
    · intro z
      obtain ⟨a, ha, e⟩ := h2 _ z
      have e := nmK_inj e
      subst e
      rcases List.mem_cons.mp ha with e | ha
      · exact .inl e
      · exact .inr (.inl ha)
    · rintro (e | e | ⟨r, hr, _⟩)
      · rw [h1 n (by rw [e]; exact List.mem_cons_self)]; rfl
      · rw [h1 n (List.mem_cons_of_mem _ e)]; rfl
      · simp at hr
  · rintro pre c post es' m' hxs ⟨kvs, o1, o2, rfl, rfl, ht, hl, hm, hok⟩
    have hc : c ∈ o := by rw [hxs]; simp
    have hlen : o.length = pre.length + (post.length + 1) := by rw [hxs, List.length_append, List.length_cons]
    have hgl := (hg c hc).g1
    refine ⟨_, rfl, ?_⟩
    walk_at "sg1"; walk_at "sg1"
    refine et_cmp (ec_cfv (i := 3) L rfl (by walk_at "sgm") rfl ?_)
    walk_at "sg1"
    refine oc_dnotin (j := 0) (kvs := kvs) (by omega) ⟨rfl, ht⟩ (nmD_key _) trivial (nmK_depth _) ?_
    have hma := hm c.anchor
    cases q : (dGet kvs (nmK c.anchor)).isSome with
    | false =>
      rw [q] at hma
      have hno : ¬ okA g0 pre c := fun h => by have := hma.mpr h; cases this
      walk_at "sgi"
      refine SD.weak (m' := m) (List.sublist_cons_self _ _) (fun _ _ z => z) (sd_one (ss_raise EF EI B.calm B.room ?_))
      refine ec_cfv (i := 3) L rfl (by walk_at "sgm") rfl ?_
      have gn := (hg c hc).num
      have gw := (hg c hc).whoB
      refine ⟨⟨by show c.who.natAbs ≤ 1000000; omega, by show c.num.natAbs ≤ 1000000; omega⟩, hx c ⟨pre, post, hxs, hno, hok⟩⟩
    | true =>
      have hyes : okA g0 pre c := hma.mp q
      walk_at "sgi"
      refine sd_nil ?_
      refine sd_one (ss_forT (.nm 4) B (pg_name B.nd rfl (Or.inl rfl)) (show (4 : Nat) < 5 by decide) ?_)
      refine sc_lst (ec_call C1 (B.room.mono (by decide)) ?_)
      walk_at "sg1"
      refine ec_cfv (i := 3) L rfl (by walk_at "sgm") rfl ?_
      walk_at "sg1"
      refine ec_cfv (i := 3) L rfl (by walk_at "sgm") rfl ?_
      walk_at "sg1"
      refine ⟨some c.key, c.group, rfl, Nat.le_trans hgl (by decide), _, rfl, ?_⟩
      refine ⟨Nm, signs (some c.key) c.group, nmD, fun pre2 es' m' => ∃ (kvs : List (NestedKey × D)) (o2 : Option D), es' = [some (.str g0), some (.lst (o.map (callD C))), some (.raw (.ref pd)), some (callD C c), o2] ∧ m' = (pd, .dct kvs) :: m ∧ (∀ q ∈ kvs, isTup q.1) ∧ kvs.length ≤ 101 + 10 * pre.length + pre2.length ∧ (∀ n, (dGet kvs (nmK n)).isSome = true ↔ (n = (none, 0) ∨ Named g0 pre n ∨ n ∈ pre2)), rfl, ⟨kvs, _, rfl, rfl, ht, by simpa using hl, fun n => by rw [hm n]; simp⟩, fun _ _ _ _ => trivial, ?_, ?_⟩
      · rintro pre2 n post2 es' m' hxs2 ⟨kvs, o2, rfl, rfl, ht, hl, hm⟩
        have hlen2 : (signs (some c.key) c.group).length = pre2.length + (post2.length + 1) := by rw [hxs2, List.length_append, List.length_cons]
        rw [signs_len] at hlen2
        refine ⟨_, rfl, sd_one (ss_dput (by omega) ?_)⟩
        walk_at "sg1"; walk_at "sg1"; walk_at "sg1"
        refine ⟨pd, 0, kvs, nmK n, rfl, ⟨rfl, ht⟩, nmD_key n, trivial, nmK_depth n, by omega, ?_⟩
        refine ⟨_, _, rfl, rfl, dPut_tup ht trivial, ?_, fun n' => ?_⟩
        · rw [List.length_append]; exact Nat.le_trans dPut_len (by simp; omega)
        · rw [dGet_put]
          by_cases e : nmK n' = nmK n
          · rw [if_pos e]
            have := nmK_inj e
            subst this
            simp
          · rw [if_neg e, hm n', List.mem_append, List.mem_singleton]
            have : n' ≠ n := fun z => e (by rw [z])
            simp [this]
      · rintro es' m' ⟨kvs, o2, rfl, rfl, ht, hl, hm⟩
        rw [signs_len] at hl
        refine ⟨kvs, _, _, rfl, rfl, ht, ?_, fun n => ?_, allOk_snoc hok hyes⟩
        · rw [List.length_append]; simp; omega
        · rw [hm n, named_snoc]
  · rintro es' m' ⟨kvs, o1, o2, rfl, rfl, ht, hl, hm, hok⟩
    exact SD.weak (m' := m) (List.sublist_cons_self _ _) (fun _ _ z => z) (sd_nil (hk hok))
end
end TSgP5
/-! SgHg: what hangs off each sign, sorted. Plain Lean. -/
section TSgHg
set_option maxHeartbeats 4000000
open PySem
abbrev It := (Int × Int) × Nm
def mkIt (R : Rul) (i : Nat) (x : Nm × Nat) : It := if R.whole then (((i : Int), (x.2 : Int)), x.1) else (((x.2 : Int), (i : Int)), x.1)
def itemsOf (R : Rul) (x : Row × Nat) : List It := (outw R (some x.1.key) x.1.group).zipIdx.map (mkIt R x.2)
def hI (R : Rul) (pre : List (Row × Nat)) (n : Nm) : List It := (pre.filter fun x => decide (x.1.anchor = n)).flatMap (itemsOf R)
theorem hI_snoc {R : Rul} {pre : List (Row × Nat)} {x : Row × Nat} {n : Nm} : hI R (pre ++ [x]) n = hI R pre n ++ if x.1.anchor = n then itemsOf R x else [] := by
  unfold hI
  rw [List.filter_append, List.flatMap_append]
  by_cases h : x.1.anchor = n
  · simp [h]
  · simp [h]
theorem mem_items {R : Rul} {x : Row × Nat} {a : It} : a ∈ itemsOf R x ↔ ∃ s : Nat, (outw R (some x.1.key) x.1.group)[s]? = some a.2 ∧ a.1 = if R.whole then ((x.2 : Int), (s : Int)) else ((s : Int), (x.2 : Int)) := by
  unfold itemsOf
  rw [List.mem_map]
  constructor
  · rintro ⟨⟨n, s⟩, hm, rfl⟩
    rw [List.mem_zipIdx_iff_getElem?] at hm
    refine ⟨s, ?_, ?_⟩
    · rw [hm]; unfold mkIt; split <;> rfl
    · unfold mkIt; split <;> rfl
  · rintro ⟨s, h1, h2⟩
    refine ⟨(a.2, s), List.mem_zipIdx_iff_getElem?.mpr h1, ?_⟩
    obtain ⟨k, n⟩ := a
    simp only at h2
    rw [h2]
    unfold mkIt
    cases R.whole <;> rfl
theorem outw_get {R : Rul} {k : Option Key} {g : Str} {s : Nat} {n : Nm} (h : (outw R k g)[s]? = some n) : n.1 = k ∧ 1 ≤ n.2 ∧ n.2 ≤ g.length ∧ stp R g.length n.2 = if R.after then (s : Int) else (s : Int) + 1 := by
  have hm := mem_outw.mp (List.mem_of_getElem? h)
  have hm := mem_signs.mp hm
  refine ⟨hm.1, hm.2.1, hm.2.2, ?_⟩
  have key : ∀ {i : Nat}, (signs k g)[i]? = some n → n.2 = (i : Int) + 1 := by
    intro i hi
    unfold signs at hi
    rw [List.getElem?_map] at hi
    cases q : (List.range g.length)[i]? with
    | none => rw [q] at hi; cases hi
    | some j =>
      rw [q] at hi
      obtain ⟨hlt, hj⟩ := List.getElem?_eq_some_iff.mp q
      rw [List.getElem_range] at hj
      subst hj
      cases hi
      rfl
  have hl : (signs k g).length = g.length := by unfold signs; rw [List.length_map, List.length_range]
  unfold outw at h
  unfold stp
  cases hR : R.after with
  | true =>
    rw [hR, if_pos rfl] at h
    rw [if_pos rfl, if_pos rfl, key h]
    omega
  | false =>
    rw [hR, if_neg Bool.false_ne_true] at h
    rw [if_neg Bool.false_ne_true, if_neg Bool.false_ne_true]
    have hs : s < (signs k g).length := by
      have := (List.getElem?_eq_some_iff.mp h).1
      rwa [List.length_reverse] at this
    rw [List.getElem?_reverse hs] at h
    rw [key h]
    omega
theorem hI_mem {R : Rul} {pre : List (Row × Nat)} {n : Nm} {a : It} : a ∈ hI R pre n ↔ ∃ x ∈ pre, x.1.anchor = n ∧ a ∈ itemsOf R x := by
  unfold hI
  rw [List.mem_flatMap]
  constructor
  · rintro ⟨x, hx, h⟩
    rw [List.mem_filter] at hx
    exact ⟨x, hx.1, of_decide_eq_true hx.2, h⟩
  · rintro ⟨x, hx, h1, h2⟩
    exact ⟨x, List.mem_filter.mpr ⟨hx, decide_eq_true h1⟩, h2⟩
theorem zip_pair {α : Type} : ∀ (l : List α) (k : Nat), (l.zipIdx k).Pairwise fun a b => a.2 < b.2
  | [], _ => .nil
  | a :: l, k => by
    rw [List.zipIdx_cons, List.pairwise_cons]
    refine ⟨fun b hb => ?_, zip_pair l (k + 1)⟩
    have := (List.mem_zipIdx hb).1
    exact this
theorem hI_ne {R : Rul} {l : List Row} {n : Nm} : (hI R l.zipIdx n).Pairwise fun a b => a.1 ≠ b.1 := by
  unfold hI
  rw [List.pairwise_flatMap]
  refine ⟨fun x _ => ?_, ?_⟩
  · unfold itemsOf
    rw [List.pairwise_map]
    refine (zip_pair _ 0).imp fun {a b} h e => ?_
    unfold mkIt at e
    cases hw : R.whole <;> rw [hw] at e <;> simp at e <;> omega
  · refine ((zip_pair l 0).sublist List.filter_sublist).imp fun {x y} h a ha b hb e => ?_
    obtain ⟨s, _, e1⟩ := mem_items.mp ha
    obtain ⟨t, _, e2⟩ := mem_items.mp hb
    rw [e1, e2] at e
    cases hw : R.whole <;> rw [hw] at e <;> simp at e <;> omega
/-- sorted, by rank and step or by step and rank -/
theorem hung_of {R : Rul} {rows l : List Row} {ys : Nm → List It} (hl : l.Pairwise fun a b => turn R a < turn R b) (hm : ∀ r, r ∈ l ↔ r ∈ rows) (hp : ∀ n, (ys n).Perm (hI R l.zipIdx n))
    (hs : ∀ n, (ys n).Pairwise fun a b => ¬ (b.1.1 < a.1.1 ∨ (b.1.1 = a.1.1 ∧ b.1.2 < a.1.2))) : Hung R rows fun n => (ys n).map (·.2) := by
  refine ⟨fun s n => ?_, fun s => ?_⟩
  · rw [List.mem_map]
    constructor
    · rintro ⟨a, ha, rfl⟩
      obtain ⟨x, hx, h1, h2⟩ := hI_mem.mp ((hp s).mem_iff.mp ha)
      obtain ⟨t, h3, _⟩ := mem_items.mp h2
      exact ⟨x.1, (hm x.1).mp (List.fst_mem_of_mem_zipIdx hx), h1, mem_outw.mp (List.mem_of_getElem? h3)⟩
    · rintro ⟨r, hr, h1, h2⟩
      obtain ⟨i, hi⟩ := List.mem_iff_getElem?.mp ((hm r).mpr hr)
      obtain ⟨t, ht⟩ := List.mem_iff_getElem?.mp (mem_outw (R := R).mpr h2)
      refine ⟨mkIt R i (n, t), (hp s).mem_iff.mpr (hI_mem.mpr ⟨(r, i), List.mem_zipIdx_iff_getElem?.mpr hi, h1, ?_⟩), by unfold mkIt; split <;> rfl⟩
      unfold itemsOf
      exact List.mem_map.mpr ⟨(n, t), List.mem_zipIdx_iff_getElem?.mpr ht, rfl⟩
  · rw [List.pairwise_map]
    have hne : (ys s).Pairwise fun a b => a.1 ≠ b.1 := (hp s).symm.pairwise hI_ne fun {a b} h e => h e.symm
    refine (List.Pairwise.and (hs s) hne).imp_of_mem fun {a b} ha hb ⟨h1, h2⟩ => ?_
    obtain ⟨⟨r, i⟩, hx, _, h3⟩ := hI_mem.mp ((hp s).mem_iff.mp ha)
    obtain ⟨⟨q, j⟩, hy, _, h4⟩ := hI_mem.mp ((hp s).mem_iff.mp hb)
    obtain ⟨t, h5, e1⟩ := mem_items.mp h3
    obtain ⟨u, h6, e2⟩ := mem_items.mp h4
    obtain ⟨o1, _, _, o2⟩ := outw_get h5
    obtain ⟨o3, _, _, o4⟩ := outw_get h6
    have hi := List.mem_zipIdx_iff_getElem?.mp hx
    have hj := List.mem_zipIdx_iff_getElem?.mp hy
    refine ⟨r, (hm r).mp (List.fst_mem_of_mem_zipIdx hx), q, (hm q).mp (List.fst_mem_of_mem_zipIdx hy), o1, o3, ?_⟩
    have hlt : ∀ {i j : Nat} {r q : Row}, l[i]? = some r → l[j]? = some q → i < j → turn R r < turn R q := by
      intro i j r q h1 h2 h
      obtain ⟨a1, a2⟩ := List.getElem?_eq_some_iff.mp h1
      obtain ⟨b1, b2⟩ := List.getElem?_eq_some_iff.mp h2
      have := (List.pairwise_iff_getElem.mp hl) i j a1 b1 h
      rwa [a2, b2] at this
    have heq : ∀ {i j : Nat} {r q : Row}, l[i]? = some r → l[j]? = some q → i = j → r = q := by
      intro i j r q h1 h2 h
      subst h
      rw [h1] at h2
      exact Option.some.inj h2
    rw [e1, e2] at h1 h2
    have st : ∀ {x y : Nat}, x < y → (if R.after then (x : Int) else (x : Int) + 1) < (if R.after then (y : Int) else (y : Int) + 1) := by
      intro x y h
      split <;> omega
    simp only at o2 o4
    unfold tailC pv
    cases hw : R.whole with
    | true =>
      rw [hw] at h1 h2
      simp only [if_true] at h1 h2 ⊢
      simp only [List.map_cons, List.map_nil, Cd.val]
      rw [o2, o4]
      rcases Nat.lt_trichotomy i j with h | h | h
      · exact List.cons_lt_cons_iff.mpr (.inl (hlt hi hj h))
      · have := heq hi hj h
        subst this
        subst h
        refine List.cons_lt_cons_iff.mpr (.inr ⟨rfl, List.cons_lt_cons_iff.mpr (.inl (st ?_))⟩)
        simp at h1 h2
        omega
      · simp at h1; omega
    | false =>
      rw [hw] at h1 h2
      simp only [Bool.false_eq_true, if_false] at h1 h2 ⊢
      simp only [List.map_cons, List.map_nil, Cd.val]
      rw [o2, o4]
      rcases Nat.lt_trichotomy t u with h | h | h
      · exact List.cons_lt_cons_iff.mpr (.inl (st h))
      · subst h
        refine List.cons_lt_cons_iff.mpr (.inr ⟨rfl, List.cons_lt_cons_iff.mpr (.inl (hlt hi hj ?_))⟩)
        simp at h1 h2
        omega
      · simp at h1; omega
/-- the ranks' order -/
theorem ranked {R : Rul} {rows o : List Row} (h : Ord rows o) : (if R.oldest then o else o.reverse).Pairwise fun a b => turn R a < turn R b := by
  cases hR : R.oldest with
  | true =>
    rw [if_pos rfl]
    refine h.srt.imp fun {a b} h => ?_
    unfold turn
    rw [hR, if_pos rfl, if_pos rfl]
    exact h
  | false =>
    rw [if_neg Bool.false_ne_true, List.pairwise_reverse]
    refine h.srt.imp fun {a b} h => ?_
    unfold turn
    rw [hR, if_neg Bool.false_ne_true, if_neg Bool.false_ne_true]
    omega
theorem ranked_mem {R : Rul} {rows o : List Row} (h : Ord rows o) (r : Row) : r ∈ (if R.oldest then o else o.reverse) ↔ r ∈ rows := by
  rw [← h.mem r]
  split <;> simp
end TSgHg
/-! SgP6: hangings. -/
section TSgP6
set_option maxHeartbeats 4000000
open PySem PySem.Spec PyProof.Rows L2
theorem Hs.perm {K : PySem.W.Frag} {w : World} {G H : Hp} {m m' : M} (h : Hs K w G m H) (p : m'.Perm m) : Hs K w G m' H := ⟨h.ex, (p.map (·.1)).nodup_iff.mpr h.nd, fun q hq => h.ok q (p.mem_iff.mp hq)⟩
theorem SD.perm {X : Cx} {x : XD} {es : Es} {m m' : M} {E : DE} {sts : List Stmt} (hp : m'.Perm m) (h : SD X x es m' sts E) : SD X x es m sts E := fun G σ H Dn w s hl r => h G σ H Dn w ⟨s.hs.perm hp, s.env⟩ hl r
theorem EC.perm {X : Cx} {x : XD} {es : Es} {m m' : M} {e : Expr} {k : KD} (hp : m'.Perm m) (h : EC X x es m' e k) : EC X x es m e k := fun G σ H Q w s q => h G σ H Q w ⟨s.hs.perm hp, s.env⟩ q
theorem ec_rfv {X : Cx} {x : XD} {es : Es} {m : M} {k : KD} {p pos : Pos} {i : Nat} {y f : Str} {R : Rul} {v : D} {C : Addr} (L : RuleF X.K X.mg C) (he : es[i]? = some (some (ruleD C R))) (hm : f ∈ (["side", "order", "link"] : List Str)) (hv : (ruleFs R).lookup f = some v) (hk : k v m)
    (hN : X.N[i]? = some y := by rfl) (hvv : Vis X.env.scope y := by first | exact Or.inl rfl | exact Or.inr (Or.inl rfl) | exact Or.inr (Or.inr rfl)) (hd : (y == ("__debug__" : Str)) = false := by decide) (hcd : (y == ("__classdict__" : Str)) = false := by decide)
    (hb : attributeBase (.Name y p) f X.env (eval (.Name y p) X.env) = eval (.Name y p) X.env := by rfl) : EC X x es m (.Attribute (.Name y p) f pos) k :=
  ec_fld (ec_var he ⟨C, _, _, rfl, L.c.cl, L.na _ hm, hv, hk⟩ hN hvv hd hcd) hb
theorem enumD_map {α : Type} (enc : α → D) : ∀ (l : List α) (i : Nat), enumD i (l.map enc) = (l.zipIdx i).map fun x => .tup [.int (x.2 : Int), enc x.1]
  | [], _ => rfl
  | a :: l, i => by
    rw [List.map_cons, List.zipIdx_cons, List.map_cons]
    show _ :: enumD (i + 1) (l.map enc) = _
    rw [enumD_map enc l (i + 1)]
abbrev itD (a : It) : D := .tup [.int a.1.1, .int a.1.2, nmD a.2]
theorem it_lt {x y : It} (h : PySem.W.dataLt (itD y).py (itD x).py = false) : ¬ (y.1.1 < x.1.1 ∨ (y.1.1 = x.1.1 ∧ y.1.2 < x.1.2)) := by
  intro hlt
  have h : PySem.W.dataLt (.tuple [.int y.1.1, .int y.1.2, (nmD y.2).py]) (.tuple [.int x.1.1, .int x.1.2, (nmD x.2).py]) = false := h
  rw [PySem.W.dataLt_tuple, PySem.W.dataLt_cons (by simp [PySem.W.alike])] at h
  simp only [PyData.eqv, beq_iff_eq] at h
  rcases hlt with h1 | ⟨h1, h2⟩
  · have hne : ¬ (y.1.1 = x.1.1) := by omega
    rw [if_neg hne, PySem.W.dataLt_int] at h
    have := of_decide_eq_false h
    omega
  · rw [if_pos h1, PySem.W.dataLt_cons (by simp [PySem.W.alike])] at h
    simp only [PyData.eqv, beq_iff_eq] at h
    have hne : ¬ (y.1.2 = x.1.2) := by omega
    rw [if_neg hne, PySem.W.dataLt_int] at h
    have := of_decide_eq_false h
    omega
theorem hI_cons {R : Rul} {pre : List (Row × Nat)} {z : Row × Nat} {n : Nm} : hI R (z :: pre) n = (if z.1.anchor = n then itemsOf R z else []) ++ hI R pre n := by
  unfold hI
  rw [List.filter_cons]
  by_cases h : z.1.anchor = n <;> simp [h]
theorem items_len {R : Rul} {z : Row × Nat} : (itemsOf R z).length = z.1.group.length := by
  unfold itemsOf outw
  rw [List.length_map, List.length_zipIdx]
  split
  · exact signs_len
  · rw [List.length_reverse]; exact signs_len
theorem hI_len {R : Rul} {n : Nm} : ∀ {pre : List (Row × Nat)}, (∀ z ∈ pre, z.1.group.length ≤ 10) → (hI R pre n).length ≤ 10 * pre.length
  | [], _ => by simp [hI]
  | z :: pre, h => by
    rw [hI_cons, List.length_append, List.length_cons]
    have h1 := hI_len (R := R) (n := n) fun y hy => h y (List.mem_cons_of_mem _ hy)
    have h2 := h z List.mem_cons_self
    split
    · rw [items_len]; omega
    · simp; omega
theorem hI_none {R : Rul} {n : Nm} {pre : List (Row × Nat)} (h : ∀ z ∈ pre, z.1.anchor ≠ n) : hI R pre n = [] := by
  unfold hI
  rw [List.filter_eq_nil_iff.mpr fun z hz => by simpa using h z hz]
  rfl
abbrev nilS : Scope := { kind := ScopeKind.function, names := [], isGenerator := false, isCoroutine := false }
/-- a block without names of the outer one -/
theorem blk_any {N : List Str} {sc scope : Scope} {own : List (Str × Nat)} (h : BlkOk N nilS scope own) : BlkOk N sc scope own :=
  ⟨h.kind, h.uniq, h.ix, fun y hy e => (h.free y hy e).elim (fun z => nomatch z) (fun z => nomatch z), h.own⟩
abbrev hgF : Scope := { kind := ScopeKind.function, names := [(Str.ofString ".0", NameKind.local), (Str.ofString "found", NameKind.local)], isGenerator := false, isCoroutine := false }
abbrev Fam := List (Nm × Addr × List It)
def famL (fam : Fam) : M := fam.map fun t => (t.2.1, MO.lst (t.2.2.map itD))
def famK (fam : Fam) : List (NestedKey × D) := fam.map fun t => (nmK t.1, .raw (.ref t.2.1))
section
variable {P : Program} {w : World} {K : PySem.W.Frag} {mg : Str → Option Value} {base : Heap} {f C CR XM : Addr} {fd : FuncData}
def FS_hangings (C CR : Addr) : FSpec := fun ds m k x => ∃ (R : Rul) (rows o : List Row), ds = [ruleD CR R, .lst (o.map (callD C))] ∧ (∀ r ∈ rows, Good r) ∧ o.length ≤ 1000 ∧ Ord rows o ∧
  ∀ (hung : Nm → List Nm) (kvs : List (NestedKey × D)) (p : Addr), Hung R rows hung → (∀ q ∈ kvs, isTup q.1) → (∀ n, (dGet kvs (nmK n)).getD (.lst []) = nmsD (hung n)) → k (.raw (.ref p)) ((p, .dct kvs) :: m)
theorem fn_hangings (F : F_hangings K f fd) (gm : mg "hangings" = some (.ref f)) (fr : Free mg) (L : CallF K mg C) (LR : RuleF K mg CR) (C1 : Fn P w K mg base 2 "outward" (FS_outward CR)) : Fn P w K mg base 3 "hangings" (FS_hangings C CR) := by
  refine fn_def F sc_hangings gm (bs_hangings F) (fun ds m k x ⟨_, _, _, e, _⟩ => by rw [e]; rfl) ?_
  rintro cdv A outer s H E B ds m k x ⟨R, rows, o, rfl, hg, hz, hord, hk⟩
  have hu := B.room.un
  walk_at "sg1"
  walk_at "sg1"
  refine ec_dnew fun ph => ?_
  refine sd_cons (ss_forT (.tp [3, 4]) B (pg_tup B.calm (pgs_cons (pg_name B.nd rfl (Or.inl rfl)) (pgs_cons (pg_name B.nd rfl (Or.inl rfl)) pgs_nil))) (by intro i hi; show i < 10; simp at hi; omega) ?_)
  refine sc_enum fr.enumerate ?_
  let l : List Row := if R.oldest then o else o.reverse
  have hlm : ∀ r, r ∈ l ↔ r ∈ rows := ranked_mem hord
  have hll : l.length = o.length := by show (if R.oldest then o else o.reverse).length = _; split <;> simp
  have e0 : l.reverse = l.reverse := rfl
  refine EC.imp (k := fun d m1 => d = .lst (l.map (callD C)) ∧ m1 = (ph, .dct []) :: m) ?_ ?_
  · refine ec_if (et_cmp (ec_rfv (i := 0) LR rfl (by walk_at "sgm") rfl ?_))
    walk_at "sg"
    cases hR : R.oldest with
    | true =>
      have e : orderS R = "oldest" := by unfold orderS; rw [hR]; rfl
      have el : l = o := by show (if R.oldest then o else o.reverse) = _; rw [hR]; rfl
      refine ite_d (fun _ => ?_) fun h => absurd e h
      walk_at "sg"
      exact ⟨by rw [el], rfl⟩
    | false =>
      have e : ¬ orderS R = "oldest" := by unfold orderS; rw [hR]; decide +kernel
      have el : l = o.reverse := by show (if R.oldest then o else o.reverse) = _; rw [hR]; rfl
      refine ite_d (fun h => absurd h e) fun _ => ?_
      refine ec_revL ?_
      walk_at "sg"
      exact ⟨_, .imm _ _, by rw [el, List.map_reverse], rfl⟩
  rintro d m1 ⟨rfl, rfl⟩
  refine ⟨_, rfl, Row × Nat, l.zipIdx, fun z => .tup [.int (z.2 : Int), callD C z.1], fun pre es' m' => ∃ (fam : Fam) (o3 o4 o5 o6 o7 o8 o9 : Option D), es' = [some (ruleD CR R), some (.lst (o.map (callD C))), some (.raw (.ref ph)), o3, o4, o5, o6, o7, o8, o9] ∧ m'.Perm ((ph, .dct (famK fam)) :: (famL fam ++ m)) ∧ (fam.map (·.1)).Nodup ∧ (∀ n, n ∈ fam.map (·.1) ↔ ∃ z ∈ pre, z.1.anchor = n) ∧ (∀ t ∈ fam, t.2.2 = hI R pre t.1) ∧ fam.length ≤ pre.length, enumD_map _ _ _, ⟨[], _, _, _, _, _, _, _, rfl, List.Perm.refl _, List.nodup_nil, by simp, by simp, by simp⟩, fun _ _ _ _ => trivial, ?_, ?_⟩
  · rintro pre ⟨c, ci⟩ post es' m' hxs ⟨fam, o3, o4, o5, o6, o7, o8, o9, rfl, hpm, hnd, hnm, hit, hfl⟩
    have hlen : l.length = pre.length + (post.length + 1) := by
      have := congrArg List.length hxs
      rwa [List.length_zipIdx, List.length_append, List.length_cons] at this
    have hcl : c ∈ l := List.fst_mem_of_mem_zipIdx (x := (c, ci)) (by rw [hxs]; simp)
    have gc := hg c ((hlm c).mp hcl)
    have hgl := gc.g1
    have hpl : (hI R pre c.anchor).length ≤ 10 * pre.length := hI_len fun z hz => (hg z.1 ((hlm _).mp (List.fst_mem_of_mem_zipIdx (by rw [hxs]; exact List.mem_append_left _ hz)))).g1
    have hnew : ∀ n, (∃ z ∈ pre ++ [(c, ci)], z.1.anchor = n) ↔ (∃ z ∈ pre, z.1.anchor = n) ∨ n = c.anchor := fun n => by
      constructor
      · rintro ⟨z, hz, e⟩
        rcases List.mem_append.mp hz with hz | hz
        · exact .inl ⟨z, hz, e⟩
        · rw [List.mem_singleton] at hz
          subst hz
          exact .inr e.symm
      · rintro (⟨z, hz, e⟩ | e)
        · exact ⟨z, List.mem_append_left _ hz, e⟩
        · exact ⟨(c, ci), by simp, e.symm⟩
    let T : Addr → M → Prop := fun p m2 => ∃ (f1 f2 : Fam), m2 = (p, MO.lst ((hI R pre c.anchor).map itD)) :: (ph, .dct (famK (f1 ++ (c.anchor, p, hI R pre c.anchor) :: f2))) :: (famL (f1 ++ f2) ++ m) ∧
      ((f1 ++ (c.anchor, p, hI R pre c.anchor) :: f2).map (·.1)).Nodup ∧ (∀ n, n ∈ (f1 ++ (c.anchor, p, hI R pre c.anchor) :: f2).map (·.1) ↔ ∃ z ∈ pre ++ [(c, ci)], z.1.anchor = n) ∧ (∀ t ∈ f1 ++ (c.anchor, p, hI R pre c.anchor) :: f2, t.2.2 = hI R pre t.1) ∧ (f1 ++ (c.anchor, p, hI R pre c.anchor) :: f2).length ≤ pre.length + 1
    refine ⟨_, rfl, ?_⟩
    walk_at "sg1"; walk_at "sg1"
    refine EC.imp (k := fun d m2 => ∃ p, d = .raw (.ref p) ∧ T p m2) ?_ ?_
    · have tup : ∀ (fam : Fam), ∀ q ∈ famK fam, isTup q.1 := fun fam q hq => by
        obtain ⟨t, _, rfl⟩ := List.mem_map.mp hq
        trivial
      by_cases hin : c.anchor ∈ fam.map (·.1)
      · obtain ⟨⟨n, p, base⟩, ht, hn⟩ := List.mem_map.mp hin
        have hn : n = c.anchor := hn
        subst hn
        have hb : base = hI R pre c.anchor := hit _ ht
        subst hb
        obtain ⟨f1, f2, rfl⟩ := List.append_of_mem ht
        have hget : dGet (famK (f1 ++ (c.anchor, p, hI R pre c.anchor) :: f2)) (nmK c.anchor) = some (.raw (.ref p)) := by
          refine dGet_mapF (f := fun t : Nm × Addr × List It => nmK t.1) (g := fun t => D.raw (.ref t.2.1)) ht fun b hb e => ?_
          have e : b.1 = c.anchor := nmK_inj e
          obtain ⟨i, hi⟩ := List.mem_iff_getElem?.mp hb
          obtain ⟨j, hj⟩ := List.mem_iff_getElem?.mp ht
          have hij := (List.getElem?_inj (i := i) (j := j) (by rw [List.length_map]; exact (List.getElem?_eq_some_iff.mp hi).1) hnd).mp (by rw [List.getElem?_map, List.getElem?_map, hi, hj]; exact congrArg some e)
          subst hij
          rw [hi] at hj
          exact Option.some.inj hj
        refine EC.perm (m' := (p, MO.lst ((hI R pre c.anchor).map itD)) :: (ph, .dct (famK (f1 ++ (c.anchor, p, hI R pre c.anchor) :: f2))) :: (famL (f1 ++ f2) ++ m)) (List.Perm.trans ?_ hpm.symm) ?_
        · unfold famL
          rw [List.map_append, List.map_append, List.map_cons]
          refine (List.Perm.swap _ _ _).trans (List.Perm.cons _ ?_)
          rw [List.append_assoc, List.append_assoc]
          exact List.perm_middle.symm
        · refine EC.drop (ec_dset (by omega) ?_)
          walk_at "sg1"
          refine ⟨ph, rfl, ⟨1, _, rfl⟩, ?_⟩
          refine ec_cfv (i := 4) L rfl (by walk_at "sgm") rfl ?_
          refine ec_lstM (ecs_nil ⟨by decide, fun pg => ?_⟩)
          refine ⟨2, famK (f1 ++ (c.anchor, p, hI R pre c.anchor) :: f2), nmK c.anchor, ⟨rfl, tup _⟩, nmD_key _, trivial, nmK_depth _, ?_, fun d hd => ?_, fun hd => ?_⟩
          · unfold famK; rw [List.length_map]; omega
          · rw [hget] at hd
            cases hd
            refine ⟨_, List.sublist_cons_self _ _, p, rfl, f1, f2, rfl, hnd, fun n => ?_, hit, Nat.le_succ_of_le hfl⟩
            rw [hnm n, hnew n]
            exact ⟨.inl, fun z => z.elim id fun e => by rw [e]; exact (hnm _).mp hin⟩
          · rw [hget] at hd
            cases hd
      · have hno : ∀ z ∈ pre, z.1.anchor ≠ c.anchor := fun z hz e => hin ((hnm _).mpr ⟨z, hz, e⟩)
        have hemp : hI R pre c.anchor = [] := hI_none hno
        have hnk : ∀ b ∈ fam, nmK b.1 ≠ nmK c.anchor := fun b hb e => hin (List.mem_map.mpr ⟨b, hb, nmK_inj e⟩)
        have hget : dGet (famK fam) (nmK c.anchor) = none := dGet_mapN (f := fun t : Nm × Addr × List It => nmK t.1) (g := fun t => D.raw (.ref t.2.1)) hnk
        refine EC.perm hpm.symm (ec_dset (by omega) ?_)
        walk_at "sg1"
        refine ⟨ph, rfl, ⟨0, _, rfl⟩, ?_⟩
        refine ec_cfv (i := 4) L rfl (by walk_at "sgm") rfl ?_
        refine ec_lstM (ecs_nil ⟨by decide, fun pg => ?_⟩)
        refine ⟨1, famK fam, nmK c.anchor, ⟨rfl, tup _⟩, nmD_key _, trivial, nmK_depth _, ?_, fun d hd => ?_, fun hd => ?_⟩
        · unfold famK; rw [List.length_map]; omega
        · rw [hget] at hd
          cases hd
        · have e : dPut (famK fam) (nmK c.anchor) (.raw (.ref pg)) = famK (fam ++ [(c.anchor, pg, [])]) := dPut_mapN (f := fun t : Nm × Addr × List It => nmK t.1) (g := fun t => D.raw (.ref t.2.1)) (a := (c.anchor, pg, [])) hnk
          refine ⟨pg, rfl, fam, [], ?_, ?_, fun n => ?_, fun t ht => ?_, ?_⟩
          · rw [e, hemp, List.append_nil]; rfl
          · rw [List.map_append, List.nodup_append]
            refine ⟨hnd, by simp, fun a ha b hb => ?_⟩
            have hb : b = c.anchor := by simpa using hb
            subst hb
            exact fun e => hin (by rw [← e]; exact ha)
          · rw [hnew n, ← hnm n, List.map_append, List.mem_append]
            simp
          · rcases List.mem_append.mp ht with ht | ht
            · exact hit t ht
            · rw [List.mem_singleton] at ht
              rw [ht]
          · rw [List.length_append]; simp; omega
    rintro d m2 ⟨p, rfl, f1, f2, rfl, hnd, hnm, hit, hfl⟩
    refine sd_one (ss_forT (.tp [6, 7]) B (pg_tup B.calm (pgs_cons (pg_name B.nd rfl (Or.inl rfl)) (pgs_cons (pg_name B.nd rfl (Or.inl rfl)) pgs_nil))) (by intro i hi; show i < 10; simp at hi; omega) ?_)
    refine sc_enum fr.enumerate ?_
    refine ec_call C1 B.room ?_
    walk_at "sg1"; walk_at "sg1"; walk_at "sg1"
    refine ec_cfv (i := 4) L rfl (by walk_at "sgm") rfl ?_
    walk_at "sg1"
    refine ec_cfv (i := 4) L rfl (by walk_at "sgm") rfl ?_
    walk_at "sg1"
    refine ⟨R, some c.key, c.group, rfl, Nat.le_trans hgl (by decide), _, rfl, ?_⟩
    have hol : ((outw R (some c.key) c.group).zipIdx).length = c.group.length := by
      rw [List.length_zipIdx]
      unfold outw
      split
      · exact signs_len
      · rw [List.length_reverse]; exact signs_len
    refine ⟨Nm × Nat, (outw R (some c.key) c.group).zipIdx, fun z => .tup [.int (z.2 : Int), nmD z.1], fun pre2 es' m' => ∃ (o6 o7 o8 o9 : Option D), es' = [some (ruleD CR R), some (.lst (o.map (callD C))), some (.raw (.ref ph)), some (.int (ci : Int)), some (callD C c), some (.raw (.ref p)), o6, o7, o8, o9] ∧ m' = (p, MO.lst ((hI R pre c.anchor ++ pre2.map (mkIt R ci)).map itD)) :: (ph, .dct (famK (f1 ++ (c.anchor, p, hI R pre c.anchor) :: f2))) :: (famL (f1 ++ f2) ++ m), enumD_map _ _ _, ⟨_, _, _, _, rfl, by rw [List.map_nil, List.append_nil]⟩, fun _ _ _ _ => trivial, ?_, ?_⟩
    · rintro pre2 ⟨n, st⟩ post2 es' m' hxs2 ⟨o6, o7, o8, o9, rfl, rfl⟩
      have hlen2 := congrArg List.length hxs2
      rw [hol, List.length_append, List.length_cons] at hlen2
      refine ⟨_, rfl, sd_one (ss_expr (ec_append ?_))⟩
      walk_at "sg1"
      refine ⟨RecvD.raw (j := 0) rfl, ?_⟩
      refine EC.imp (k := fun d m2 => d = itD (mkIt R ci (n, st)) ∧ m2 = (p, MO.lst ((hI R pre c.anchor ++ pre2.map (mkIt R ci)).map itD)) :: (ph, .dct (famK (f1 ++ (c.anchor, p, hI R pre c.anchor) :: f2))) :: (famL (f1 ++ f2) ++ m)) ?_ ?_
      · refine ec_if (et_cmp (ec_rfv (i := 0) LR rfl (by walk_at "sgm") rfl ?_))
        walk_at "sg"
        cases hW : R.whole with
        | true =>
          have e : linkS R = "whole" := by unfold linkS; rw [hW]; rfl
          refine ite_d (fun _ => ?_) fun h => absurd e h
          walk_at "sg"
          refine ⟨(show (3 : Nat) ≤ 1000 by decide), ?_, rfl⟩
          unfold mkIt
          rw [hW]
          rfl
        | false =>
          have e : ¬ linkS R = "whole" := by unfold linkS; rw [hW]; decide +kernel
          refine ite_d (fun h => absurd h e) fun _ => ?_
          walk_at "sg"
          refine ⟨(show (3 : Nat) ≤ 1000 by decide), ?_, rfl⟩
          unfold mkIt
          rw [hW]
          rfl
      · rintro d m2 ⟨rfl, rfl⟩
        refine ⟨p, 0, _, rfl, rfl, ?_, _, _, _, _, rfl, ?_⟩
        · rw [List.length_map, List.length_append, List.length_map]
          exact Nat.le_trans (by omega : _ ≤ 20000) (by decide)
        · have e : (hI R pre c.anchor ++ (pre2 ++ [(n, st)]).map (mkIt R ci)).map itD = (hI R pre c.anchor ++ pre2.map (mkIt R ci)).map itD ++ [itD (mkIt R ci (n, st))] := by simp
          rw [e]
          rfl
    · rintro es' m' ⟨o6, o7, o8, o9, rfl, rfl⟩
      have eK : famK (f1 ++ (c.anchor, p, hI R pre c.anchor) :: f2) = famK (f1 ++ (c.anchor, p, hI R (pre ++ [(c, ci)]) c.anchor) :: f2) := by
        unfold famK
        rw [List.map_append, List.map_append]
        rfl
      have eI : hI R pre c.anchor ++ ((outw R (some c.key) c.group).zipIdx).map (mkIt R ci) = hI R (pre ++ [(c, ci)]) c.anchor := by
        rw [hI_snoc, if_pos rfl]
        rfl
      rw [eI, eK]
      have eN : (f1 ++ (c.anchor, p, hI R (pre ++ [(c, ci)]) c.anchor) :: f2).map (·.1) = (f1 ++ (c.anchor, p, hI R pre c.anchor) :: f2).map (·.1) := by
        rw [List.map_append, List.map_append]
        rfl
      refine ⟨f1 ++ (c.anchor, p, hI R (pre ++ [(c, ci)]) c.anchor) :: f2, _, _, _, _, _, _, _, rfl, ?_, by rw [eN]; exact hnd, fun n => by rw [eN]; exact hnm n, fun t ht => ?_, ?_⟩
      · unfold famL
        rw [List.map_append, List.map_append, List.map_cons]
        refine (List.Perm.swap _ _ _).trans (List.Perm.cons _ ?_)
        rw [List.append_assoc, List.append_assoc]
        exact List.perm_middle.symm
      · have hne : ∀ t ∈ f1 ++ f2, t.1 ≠ c.anchor := fun t ht e => by
          have h1 : (f1 ++ (c.anchor, p, hI R pre c.anchor) :: f2).Perm ((c.anchor, p, hI R pre c.anchor) :: (f1 ++ f2)) := List.perm_middle
          have h2 := (h1.map (·.1)).nodup_iff.mp hnd
          rw [List.map_cons, List.nodup_cons] at h2
          exact h2.1 (List.mem_map.mpr ⟨t, ht, e⟩)
        have other : ∀ t ∈ f1 ++ f2, t ∈ f1 ++ (c.anchor, p, hI R pre c.anchor) :: f2 → t.2.2 = hI R (pre ++ [(c, ci)]) t.1 := fun t ht1 ht2 => by
          rw [hit t ht2, hI_snoc, if_neg fun e => hne t ht1 e.symm, List.append_nil]
        rcases List.mem_append.mp ht with ht | ht
        · exact other t (List.mem_append_left _ ht) (List.mem_append_left _ ht)
        · rcases List.mem_cons.mp ht with rfl | ht
          · rfl
          · exact other t (List.mem_append_right _ ht) (List.mem_append_right _ (List.mem_cons_of_mem _ ht))
      · rw [List.length_append, List.length_cons] at hfl ⊢
        rw [List.length_append]
        simp
        omega
  · rintro es' m' ⟨fam, o3, o4, o5, o6, o7, o8, o9, rfl, hpm, hnd, hnm, hit, hfl⟩
    refine SD.perm hpm.symm ?_
    walk_at "sg1"; walk_at "sg1"
    refine EC.drop ?_
    refine ec_dc (own := [("anchor", 8)]) (.nm 8) (by omega) B.calm B.nd (blk_ok (N := N_hangings) (sc := defScope S_hangings) (by decide +kernel)) (fun s H C cl fp => pg_name sc_hangings.nd rfl (Or.inl rfl)) (show (8 : Nat) < 10 by decide) (List.mem_cons_self) ?_
    refine sc_keys ?_
    walk_at "sg1"
    refine ⟨ph, 0, famK fam, rfl, rfl, fun oz xz => ?_⟩
    have e1 : (famK fam).map (fun q => kD q.1) = fam.map fun t => nmD t.1 := by
      unfold famK
      rw [List.map_map]
      refine List.map_congr_left fun t _ => ?_
      exact key_kD (nmD t.1) (nmK t.1) (nmD_key t.1)
    rw [e1]
    let ysF : Nm → List It := fun n => Classical.choose (sort_typed itD (hI R l.zipIdx n))
    have hys : ∀ n, (ysF n).Perm (hI R l.zipIdx n) ∧ ((hI R l.zipIdx n).map itD).mergeSort (PySem.W.dataLe false D.py) = (ysF n).map itD ∧ (ysF n).Pairwise fun a b => PySem.W.dataLt (itD b).py (itD a).py = false := fun n => Classical.choose_spec (sort_typed itD (hI R l.zipIdx n))
    have hH : Hung R rows fun n => (ysF n).map (·.2) := hung_of (ranked hord) hlm (fun n => (hys n).1) fun n => (hys n).2.2.imp fun {a b} h => it_lt h
    have hlz : l.zipIdx.length = o.length := by rw [List.length_zipIdx, hll]
    have hitl : ∀ n, (hI R l.zipIdx n).length ≤ 10000 := fun n => by
      have := hI_len (R := R) (n := n) (pre := l.zipIdx) fun z hz => (hg z.1 ((hlm _).mp (List.fst_mem_of_mem_zipIdx hz))).g1
      omega
    refine dck_map (α := Nm × Addr × List It) (kf := fun t => nmK t.1) (gv := fun t => nmsD ((ysF t.1).map (·.2))) (Nat.le_trans hfl (by omega)) ⟨0, rfl⟩ (fun t _ => ⟨trivial, nmK_depth _⟩) (fun a _ b _ e => by
      show nmsD _ = nmsD _
      rw [nmK_inj e]) (fun t ht kvs => ⟨_, rfl, fun p s1 H1 C1 cl1 fp1 => ?_⟩) ?_
    · walk_at "sg1"
      intro s2 H2 C2 cl2 fp2
      refine ec_lc (own := [("found", 9)]) (.nm 9) B.calm B.nd (blk_any (show BlkOk N_hangings nilS hgF [("found", 9)] from blk_ok (by decide +kernel))) (fun s H C cl fp => pg_name sc_hangings.nd rfl (Or.inl rfl)) (show (9 : Nat) < 10 by decide) (List.mem_cons_self) ?_
      refine sc_lst ?_
      walk_at "sg1"
      walk_at "sg1"
      have hu2 : A.units + 3 + 16 * 2 + 200 < cLine := hu
      refine ec_dget (show A.units + 3 + 9 < cLine by omega) ?_
      walk_at "sg1"; walk_at "sg1"
      have hmem : ∃ i : Nat, fam[i]? = some t := List.mem_iff_getElem?.mp ht
      obtain ⟨fi, hfi⟩ := hmem
      refine ⟨ph, 1, famK fam, nmK t.1, .raw (.ref t.2.1), rfl, ⟨.inr ⟨oz, xz, rfl⟩, ?_⟩, nmD_key _, trivial, nmK_depth _, ?_, ?_⟩
      · intro q hq
        obtain ⟨t, _, rfl⟩ := List.mem_map.mp hq
        trivial
      · refine dGet_mapF (f := fun t : Nm × Addr × List It => nmK t.1) (g := fun t => D.raw (.ref t.2.1)) ht fun b hb e => ?_
        have e : b.1 = t.1 := nmK_inj e
        obtain ⟨i, hi⟩ := List.mem_iff_getElem?.mp hb
        have hij := (List.getElem?_inj (i := i) (j := fi) (by rw [List.length_map]; exact (List.getElem?_eq_some_iff.mp hi).1) hnd).mp (by rw [List.getElem?_map, List.getElem?_map, hi, hfi]; exact congrArg some e)
        subst hij
        rw [hi] at hfi
        exact Option.some.inj hfi
      walk_at "sg1"
      have hti := hit t ht
      have hlst : LstD (((p, MO.dct kvs) :: ((ph, MO.dct (famK fam)) :: (famL fam ++ m)).set 0 (ph, MO.dcz oz xz (famK fam)) : M)) (.raw (.ref t.2.1)) ((hI R l.zipIdx t.1).map itD) := by
        refine .inr ⟨t.2.1, fi + 2, rfl, ?_⟩
        show (famL fam ++ m)[fi]? = _
        rw [List.getElem?_append_left (by unfold famL; rw [List.length_map]; exact (List.getElem?_eq_some_iff.mp hfi).1)]
        unfold famL
        rw [List.getElem?_map, hfi, ← hti]
        rfl
      have hsn : D.sn 4 (D.lst ((hI R l.zipIdx t.1).map itD)) := sn_lst (snL_map fun a _ => sn_tup (snL_cons sn_int (snL_cons sn_int (snL_cons nmD_sn snL_nil))))
      refine cc_sorted (show A.units + 3 + 67 < cLine by omega) hlst hsn.1 ?_ ?_ ?_ ?_ ?_
      · intro a ha b hb
        rw [List.map_map] at ha hb
        obtain ⟨a, ha1, rfl⟩ := List.mem_map.mp ha
        obtain ⟨b, hb1, rfl⟩ := List.mem_map.mp hb
        have hk1 : ∀ a ∈ hI R l.zipIdx t.1, ∃ q : Key, a.2.1 = some q := fun a ha => by
          obtain ⟨z, _, _, h⟩ := hI_mem.mp ha
          obtain ⟨s, h, _⟩ := mem_items.mp h
          exact ⟨_, (outw_get h).1⟩
        obtain ⟨qa, ea⟩ := hk1 a ha1
        obtain ⟨qb, eb⟩ := hk1 b hb1
        obtain ⟨ka, na, pa⟩ := a
        obtain ⟨kb, nb, pb⟩ := b
        simp only at ea eb
        subst ea
        subst eb
        rfl
      · refine .inl fun a ha => ?_
        obtain ⟨b, hb, rfl⟩ := List.mem_map.mp ha
        obtain ⟨c, _, rfl⟩ := List.mem_map.mp hb
        exact ⟨_, _, rfl⟩
      · rw [List.length_map]; exact Nat.le_trans (hitl _) (by decide)
      · intro b hb
        obtain ⟨a, _, rfl⟩ := List.mem_map.mp hb
        exact Nat.le_trans (sn_tup (n := 2) (snL_cons sn_int (snL_cons sn_int (snL_cons nmD_sn snL_nil))) : D.sn 3 (itD a)).2.2 (by decide)
      · rw [(hys t.1).2.1]
        refine ⟨_, rfl, ?_⟩
        refine lck_map (α := It) (xs := ysF t.1) (enc := itD) (gx := fun a => nmD a.2) (Nat.le_trans (Nat.le_of_eq (hys t.1).1.length_eq) (Nat.le_trans (hitl _) (by decide))) trivial (fun a ha acc => ⟨_, rfl, fun p s3 H3 C3 cl3 fp3 => ?_⟩) ?_
        · walk_at "sg"
          exact ic_tup (at_nat (by decide) rfl) ⟨rfl, rfl⟩
        · refine ⟨nmD_key _, ?_, rfl⟩
          show D.lst _ = nmsD _
          rw [nmsD, List.map_map]
          rfl
    · intro kvs p ht hl2 h1 h2
      refine ⟨(p, .dct kvs) :: m, List.Sublist.cons₂ _ (List.Sublist.cons _ (List.sublist_append_right _ _)), hk (fun n => (ysF n).map (·.2)) kvs p hH ht fun n => ?_⟩
      by_cases hin : n ∈ fam.map (·.1)
      · obtain ⟨t, ht, rfl⟩ := List.mem_map.mp hin
        rw [h1 t ht]
        rfl
      · have hnone : dGet kvs (nmK n) = none := by
          cases q : dGet kvs (nmK n) with
          | none => rfl
          | some d =>
            obtain ⟨t, ht, e⟩ := h2 (nmK n) (by rw [q]; rfl)
            exact absurd (List.mem_map.mpr ⟨t, ht, nmK_inj e⟩) hin
        rw [hnone]
        have hemp : hI R l.zipIdx n = [] := hI_none fun z hz e => hin ((hnm n).mpr ⟨z, hz, e⟩)
        have := (hys n).1
        rw [hemp] at this
        rw [List.Perm.eq_nil this]
        rfl
end
end TSgP6
/-! SgP7: layout. -/
section TSgP7
set_option maxHeartbeats 4000000
open PySem PySem.Spec PyProof.Rows L2
theorem Ord.closed {g0 : Str} {rows o : List Row} (h : Ord rows o) (ok : AllOk g0 o) : Closed g0 rows := by
  intro r hr
  obtain ⟨pre, post, rfl⟩ := List.append_of_mem ((h.mem r).mpr hr)
  rcases ok pre r post rfl with e | e | ⟨q, hq, e⟩
  · exact .inl e
  · exact .inr (.inl e)
  · refine .inr (.inr ⟨q, (h.mem q).mp (List.mem_append_left _ hq), ?_, e⟩)
    exact (List.pairwise_append.mp h.srt).2.2 q hq r List.mem_cons_self
theorem allN_len {g0 : Str} : ∀ {rows : List Row}, (∀ r ∈ rows, Good r) → (allN g0 rows).length ≤ g0.length + 10 * rows.length
  | [], _ => by unfold allN; simp [signs_len]
  | r :: rows, h => by
    have ih := allN_len (g0 := g0) (rows := rows) fun q hq => h q (List.mem_cons_of_mem _ hq)
    have := (h r List.mem_cons_self).g1
    unfold allN at ih ⊢
    rw [List.flatMap_cons, List.length_append, List.length_append, signs_len, List.length_cons]
    rw [List.length_append] at ih
    rw [signs_len] at ih ⊢
    omega
section
variable {P : Program} {w : World} {K : PySem.W.Frag} {mg : Str → Option Value} {base : Heap} {f C CR XC XM : Addr} {fd : FuncData}
structure LayP (g0 : Str) (rows : List Row) : Prop where
  g0 : g0.length ≤ 100
  g : ∀ r ∈ rows, Good r
  z : rows.length ≤ 1000
/-- what layout, and what stands on it, may raise -/
def LayX (g0 : Str) (rows : List Row) (XC XM : Addr) (x : XD) (m : M) : Prop := (∀ q, LeastClash rows q → x XC (keyD q) m) ∧ (NoClash rows → ∀ o r, Ord rows o → FirstMissing g0 o r → x XM (keyD r.key) m)
/-- what a list must be, so that layout ends -/
structure LayOk (g0 : Str) (rows : List Row) : Prop where
  nc : NoClash rows
  ok : ∀ o, Ord rows o → AllOk g0 o
def FS_layout (C CR XC XM : Addr) : FSpec := fun ds m k x => ∃ (R : Rul) (g0 : Str) (rows : List Row), ds = [ruleD CR R, .str g0, .lst (rows.map (callD C))] ∧ LayP g0 rows ∧ (LayOk g0 rows → ∀ L, IsLine R g0 rows L → k (nmsD L) m) ∧ LayX g0 rows XC XM x m
theorem fn_layout (F : F_layout K f fd) (gm : mg "layout" = some (.ref f)) (md : Mods mg K) (L : CallF K mg C) (LR : RuleF K mg CR) (C1 : Fn P w K mg base 4 "in_stamp_order" (FS_in_stamp_order C XC)) (C2 : Fn P w K mg base 3 "check_anchors" (FS_check_anchors C XM)) (C3 : Fn P w K mg base 3 "hangings" (FS_hangings C CR)) (C4 : Fn P w K mg base 2 "outward" (FS_outward CR)) :
    Fn P w K mg base 5 "layout" (FS_layout C CR XC XM) := by
  refine fn_def F sc_layout gm (bs_layout F) (fun ds m k x ⟨_, _, _, e, _⟩ => by rw [e]; rfl) ?_
  rintro cdv A outer s H E B ds m k x ⟨R, g0, rows, rfl, hp, hk, hx1, hx2⟩
  have hu := B.room.un
  have fr := md.fr
  obtain ⟨aR, gR, hR⟩ := md.rim
  walk_at "sg1"; walk_at "sg1"
  refine ec_call C1 B.room ?_
  walk_at "sg"
  refine ⟨rows, rfl, hp.g, hp.z, fun hnc o hord => ?_, hx1⟩
  have hun := hnc.uniq
  have hgo : ∀ r ∈ o, Good r := fun r hr => hp.g r ((hord.mem r).mp hr)
  have hzo : o.length ≤ 1000 := Nat.le_trans (nodup_len hord.nodup fun r hr => (hord.mem r).mp hr) hp.z
  refine sd_cons (ss_expr (ec_call C2 (B.room.mono (by decide)) ?_))
  walk_at "sg"
  refine ⟨g0, o, rfl, hp.g0, hgo, hzo, fun hok => ?_, fun r hr => hx2 hnc o r hord hr⟩
  have hcl := hord.closed hok
  have hly : LayOk g0 rows := ⟨hnc, fun o' h' => by rw [h'.uniq hord]; exact hok⟩
  walk_at "sg1"; walk_at "sg1"
  refine ec_call C3 (B.room.mono (by decide)) ?_
  walk_at "sg"
  refine ⟨R, rows, o, rfl, hp.g, hzo, hord, fun hung kvs ph hH ht hget => ?_⟩
  have di := dinit (g0 := g0) hun hH
  walk_at "sg1"; walk_at "sg1"
  refine ec_revLM (ec_bin (ec_dor (by omega) ?_))
  walk_at "sg1"
  refine ⟨ph, rfl, ⟨0, _, rfl⟩, ?_⟩
  refine ec_glob (v := .ref aR) gR rfl (fun G => .tup (hR G) (.cons .non (.cons (.int 0) .nil))) ?_
  refine ec_lst (ecs_nil ⟨by decide, 0, kvs, nmK (none, 0), ⟨rfl, ht⟩, nmD_key (none, 0), trivial, nmK_depth _, ?_⟩)
  rw [hget (none, 0)]
  refine ec_call C4 (B.room.mono (by decide)) ?_
  walk_at "sg"
  refine ⟨R, none, g0, rfl, Nat.le_trans hp.g0 (by decide), ?_⟩
  have hall := allN_len (g0 := g0) hp.g
  have hz := hp.z
  have hg0 := hp.g0
  have hb0 := di.bound hun
  rw [List.length_append] at hb0
  refine oc_cat (.imm _ _) (.imm _ _) ?_ ?_
  · rw [List.length_map, List.length_map]
    exact Nat.le_trans (by omega : _ ≤ 20000) (by decide)
  refine ⟨_, .imm _ _, fun pp => ?_⟩
  rw [← List.map_append, ← List.map_reverse]
  walk_at "sg1"; walk_at "sg1"
  refine ec_lstM (ecs_nil ⟨by decide, fun pl => ?_⟩)
  refine sd_cons ?_
  refine ss_while B.own (fun n es' m' => ∃ (line pend : List Nm) (o7 : Option D), n = (allN g0 rows).length - line.length ∧ es' = [some (ruleD CR R), some (.str g0), some (.lst (rows.map (callD C))), some (.lst (o.map (callD C))), some (.raw (.ref ph)), some (.raw (.ref pp)), some (.raw (.ref pl)), o7] ∧ m' = (pl, .lst (line.map nmD)) :: (pp, .lst (pend.reverse.map nmD)) :: (ph, .dct kvs) :: m ∧ DInv R g0 rows hung line pend) _ ⟨[], _, _, rfl, rfl, rfl, di⟩ ?_
  rintro n es' m' ⟨line, pend, o7, rfl, rfl, rfl, dv⟩
  have hb := dv.bound hun
  refine et_cmp ?_
  walk_at "sg1"; walk_at "sg1"; walk_at "sg1"; walk_at "sg1"
  refine cc_len (.inl (.inr ⟨pp, 1, rfl, rfl⟩)) ?_
  walk_at "sg"
  cases pend with
  | nil =>
    refine ite_d (fun h => by simp at h) fun _ => ?_
    have hline := ddone hp.g hcl hH dv
    have hL : IsLine R g0 rows (fin R line) := ⟨line, hline, rfl⟩
    have hk' := hk hly _ hL
    refine SD.freeze 0 6 rfl rfl ?_
    refine SD.weak (m' := m) ((List.sublist_cons_self _ _).trans (List.sublist_cons_self _ _)) (fun _ _ z => z) ?_
    walk_at "sg1"; walk_at "sg1"
    refine ec_if (et_cmp (ec_rfv (i := 0) LR rfl (by walk_at "sgm") rfl ?_))
    walk_at "sg"
    unfold fin at hk'
    cases hR : R.after with
    | true =>
      rw [hR, if_pos rfl] at hk'
      have e : sideS R = "after" := by unfold sideS; rw [hR]; rfl
      refine ite_d (fun _ => ?_) fun h => absurd e h
      walk_at "sg"
      exact hk'
    | false =>
      rw [hR, if_neg Bool.false_ne_true] at hk'
      have e : ¬ sideS R = "after" := by unfold sideS; rw [hR]; decide +kernel
      refine ite_d (fun h => absurd h e) fun _ => ?_
      refine ec_revL ?_
      walk_at "sg"
      refine ⟨_, .imm _ _, ?_⟩
      have hk2 : k (.lst (line.map nmD).reverse) m := by rw [← List.map_reverse]; exact hk'
      exact hk2
  | cons sg pend =>
    refine ite_d (fun _ => ?_) fun h => absurd (by simp) h
    have ds := dstep hun hp.g hcl hH dv
    rw [List.length_cons] at hb
    walk_at "sg1"; walk_at "sg1"
    refine ec_pop ?_
    walk_at "sg1"
    refine ⟨pp, 1, pend.reverse.map nmD, nmD sg, rfl, ?_, ?_⟩
    · rw [List.reverse_cons, List.map_append]; rfl
    refine sd_cons (ss_expr (ec_append ?_))
    walk_at "sg1"
    refine ⟨RecvD.raw (j := 0) rfl, ?_⟩
    walk_at "sg1"
    refine ⟨pl, 0, line.map nmD, rfl, rfl, ?_, ?_⟩
    · rw [List.length_map]; exact Nat.le_trans (by omega : _ ≤ 20000) (by decide)
    refine sd_one (ss_expr (ec_extend ?_))
    walk_at "sg1"
    refine ⟨RecvD.raw (j := 1) rfl, ?_⟩
    refine ec_revL (ec_dor (by omega) ?_)
    walk_at "sg1"
    refine ⟨ph, rfl, ⟨2, _, rfl⟩, ?_⟩
    walk_at "sg1"
    refine ec_lst (ecs_nil ⟨by decide, 2, kvs, nmK sg, ⟨rfl, ht⟩, nmD_key sg, trivial, nmK_depth _, ?_⟩)
    rw [hget sg]
    refine ⟨_, .imm _ _, ?_⟩
    have hb2 := ds.bound hun
    rw [List.length_append, List.length_append] at hb2
    refine ⟨pp, 1, _, _, rfl, rfl, .imm _ _, ?_, ?_⟩
    · rw [List.length_map, List.length_reverse, List.length_reverse, List.length_map]
      exact Nat.le_trans (by omega : _ ≤ 20000) (by decide)
    · refine ⟨(allN g0 rows).length - (line ++ [sg]).length, ?_, line ++ [sg], hung sg ++ pend, _, rfl, rfl, ?_, ds⟩
      · rw [List.length_append]; simp; omega
      · have e1 : (line ++ [sg]).map nmD = line.map nmD ++ [nmD sg] := by simp
        have e2 : (hung sg ++ pend).reverse.map nmD = pend.reverse.map nmD ++ ((hung sg).map nmD).reverse := by simp
        rw [e1, e2]
        rfl
end
end TSgP7
/-! SgTxt: the rows of letters. Plain Lean. -/
section TSgTxt
set_option maxHeartbeats 4000000
open PySem L2
theorem str_ext {a b : Str} (h : a.cps.toList = b.cps.toList) : a = b := by
  obtain ⟨a⟩ := a
  obtain ⟨b⟩ := b
  congr 1
  exact Array.toList_inj.mp h
theorem app_list (a b : Str) : (a ++ b).cps.toList = a.cps.toList ++ b.cps.toList := by
  rw [PySem.Str.cps_append, Array.toList_append]
theorem len_list (a : Str) : a.length = a.cps.toList.length := rfl
def ofL (l : List Nat) : Str := ⟨l.toArray⟩
theorem ofL_list (l : List Nat) : (ofL l).cps.toList = l := by simp [ofL]
theorem ofL_len (l : List Nat) : (ofL l).length = l.length := by rw [len_list, ofL_list]
theorem join_list : ∀ l : List Nat, (PySem.Str.join ("" : Str) (l.map fun c => (⟨#[c]⟩ : Str))) = ofL l
  | [] => str_ext (by rw [ofL_list]; rfl)
  | [c] => str_ext (by rw [ofL_list]; rfl)
  | c :: d :: l => by
    have ih := join_list (d :: l)
    show (⟨#[c]⟩ : Str) ++ ("" : Str) ++ PySem.Str.join ("" : Str) ((d :: l).map fun c => (⟨#[c]⟩ : Str)) = _
    rw [ih]
    apply str_ext
    rw [app_list, app_list, ofL_list, ofL_list]
    have e : ("" : Str).cps.toList = [] := by decide +kernel
    rw [e]
    rfl
theorem join_ofL (l : List Nat) : PySem.Txt.join ("" : Str) (l.map fun c => (⟨#[c]⟩ : Str)) = ofL l := by
  show PySem.Builtin.Str.glued _ _ = _
  rw [PySem.StrLaws.glued_eq_join, join_list]
/-! ### row_after -/
def rowAfter (w : Str) (gap : Int) (g : Str) : Str := cutS w none (some gap) ++ g ++ cutS w (some gap) none
theorem cut_to {w : Str} {n : Nat} (h : n ≤ w.length) : (cutS w none (some (n : Int))).cps.toList = w.cps.toList.take n := by
  unfold cutS
  rw [HT.sIx_nat, HT.sIx_none]
  simp [Nat.min_eq_left h]
theorem cut_from {w : Str} {n : Nat} (h : n ≤ w.length) : (cutS w (some (n : Int)) none).cps.toList = w.cps.toList.drop n := by
  unfold cutS
  rw [HT.sIx_nat, HT.sIx_none, Nat.min_eq_left h]
  show (List.take (w.length - n) (w.cps.toList.drop n)).toArray.toList = _
  rw [List.toList_toArray, List.take_of_length_le]
  rw [List.length_drop, len_list]
  exact Nat.le_refl _
theorem rowAfter_list {w g : Str} {n : Nat} (h : n ≤ w.length) : (rowAfter w n g).cps.toList = w.cps.toList.take n ++ g.cps.toList ++ w.cps.toList.drop n := by
  unfold rowAfter
  rw [app_list, app_list, cut_to h, cut_from h]
theorem rowAfter_len {w g : Str} {n : Nat} (h : n ≤ w.length) : (rowAfter w n g).length = w.length + g.length := by
  rw [len_list, rowAfter_list h, List.length_append, List.length_append, List.length_take, List.length_drop, len_list, len_list]
  rw [len_list] at h
  omega
/-! ### letters -/
def grp (g0 : Str) (rows : List Row) : Option Key → Str
  | none => g0
  | some q => ((rows.find? fun r => decide (r.key = q)).map (·.group)).getD Str.empty
def chN (g0 : Str) (rows : List Row) (n : Nm) : Nat := (grp g0 rows n.1).cps.toList.getD (n.2 - 1).toNat 0
def word (g0 : Str) (rows : List Row) (L : List Nm) : Str := ofL (L.map (chN g0 rows))
theorem word_len {g0 : Str} {rows : List Row} {L : List Nm} : (word g0 rows L).length = L.length := by
  unfold word
  rw [ofL_len, List.length_map]
theorem grp_of {g0 : Str} {rows : List Row} (u : Uniq rows) {r : Row} (hr : r ∈ rows) : grp g0 rows (some r.key) = r.group := by
  unfold grp
  cases q : rows.find? fun x => decide (x.key = r.key) with
  | none =>
    have := List.find?_eq_none.mp q r hr
    simp at this
  | some b =>
    have h1 := List.find?_some q
    have h2 := List.mem_of_find?_eq_some q
    have h1 : b.key = r.key := of_decide_eq_true h1
    show ((rows.find? fun x => decide (x.key = r.key)).map (·.group)).getD Str.empty = _
    rw [q, u b h2 r hr h1]
    rfl
theorem ch_sub {g0 : Str} {rows prt : List Row} (u : Uniq rows) (s : ∀ r ∈ prt, r ∈ rows) {n : Nm} (h : Named g0 prt n) : chN g0 rows n = chN g0 prt n := by
  unfold chN
  have : grp g0 rows n.1 = grp g0 prt n.1 := by
    rcases h with h | ⟨r, hr, h⟩
    · rw [(mem_signs.mp h).1]; rfl
    · rw [(mem_signs.mp h).1, grp_of u (s r hr), grp_of (fun a ha b hb => u a (s a ha) b (s b hb)) hr]
  rw [this]
theorem word_sub {g0 : Str} {rows prt : List Row} (u : Uniq rows) (s : ∀ r ∈ prt, r ∈ rows) {L : List Nm} (h : ∀ n ∈ L, Named g0 prt n) : word g0 rows L = word g0 prt L := by
  unfold word
  congr 1
  exact List.map_congr_left fun n hn => ch_sub u s (h n hn)
theorem ch_signs {g0 : Str} {rows : List Row} {k : Option Key} : (signs k (grp g0 rows k)).map (chN g0 rows) = (grp g0 rows k).cps.toList := by
  unfold signs
  rw [List.map_map]
  refine List.ext_getElem? fun i => ?_
  rw [List.getElem?_map]
  by_cases hi : i < (grp g0 rows k).length
  · rw [List.getElem?_range hi, List.getElem?_eq_getElem (by rw [← len_list]; exact hi)]
    show some (chN g0 rows (k, (i : Int) + 1)) = _
    unfold chN
    have e : (((k, (i : Int) + 1) : Nm).2 - 1).toNat = i := by show ((i : Int) + 1 - 1).toNat = i; omega
    rw [e, List.getD_eq_getElem?_getD, List.getElem?_eq_getElem (by rw [← len_list]; exact hi)]
    rfl
  · rw [List.getElem?_eq_none (by rw [List.length_range]; omega), List.getElem?_eq_none (by rw [← len_list]; omega)]
    rfl
/-- a late call's join -/
theorem Late.word {R : Rul} {g0 : Str} {known : List Row} {r : Row} (h : Late R g0 known r) {A B : List Nm} (hl : IsLine R g0 known (A ++ B)) : word g0 (known ++ [r]) (A ++ signs (some r.key) r.group ++ B) = rowAfter (word g0 known (A ++ B)) (A.length : Int) r.group := by
  apply str_ext
  have hlen : A.length ≤ (SG.word g0 known (A ++ B)).length := by rw [word_len, List.length_append]; omega
  rw [rowAfter_list hlen]
  unfold SG.word
  rw [ofL_list, ofL_list, List.map_append, List.map_append, List.map_append]
  have hr : r ∈ known ++ [r] := by simp
  have e1 : (signs (some r.key) r.group).map (chN g0 (known ++ [r])) = r.group.cps.toList := by
    have := ch_signs (g0 := g0) (rows := known ++ [r]) (k := some r.key)
    rwa [grp_of h.u hr] at this
  have sub : ∀ n ∈ A ++ B, chN g0 (known ++ [r]) n = chN g0 known n := fun n hn => ch_sub h.u (fun q hq => List.mem_append_left _ hq) ((hl.mem n).mp hn)
  have eA : A.map (chN g0 (known ++ [r])) = A.map (chN g0 known) := List.map_congr_left fun n hn => sub n (List.mem_append_left _ hn)
  have eB : B.map (chN g0 (known ++ [r])) = B.map (chN g0 known) := List.map_congr_left fun n hn => sub n (List.mem_append_right _ hn)
  rw [e1, eA, eB]
  have hA : (A.map (chN g0 known)).length = A.length := List.length_map _
  rw [List.take_append_of_le_length (by omega), List.take_of_length_le (by omega), List.drop_append_of_le_length (by omega), List.drop_of_length_le (by omega), List.nil_append]
end TSgTxt
/-! SgP8: row_of. -/
section TSgP8
set_option maxHeartbeats 4000000
open PySem PySem.Spec PyProof.Rows L2
theorem NoClash.least {rows : List Row} (h : NoClash rows) {q : Key} (z : LeastClash rows q) : False := h q z.1
theorem AllOk.first {g0 : Str} {o : List Row} (h : AllOk g0 o) {r : Row} (z : FirstMissing g0 o r) : False := let ⟨pre, post, e, n, _⟩ := z; n (h pre r post e)
theorem LayOk.x {g0 : Str} {rows : List Row} {XC XM : Addr} {x : XD} {m : M} (h : LayOk g0 rows) : LayX g0 rows XC XM x m := ⟨fun q z => (h.nc.least z).elim, fun _ o r ho z => ((h.ok o ho).first z).elim⟩
theorem okK_noTxt (a : Option Key) : noTxt (okK a) := by cases a <;> trivial
theorem okK_depth (a : Option Key) : (okK a).depth ≤ 8 := by cases a <;> simp [okK, keyK, NestedKey.depth, NestedKey.depthAll]
theorem single_sum : ∀ l : List Nat, (((l.map fun c => (⟨#[c]⟩ : Str)).map (·.length)).sum) = l.length
  | [] => rfl
  | c :: l => by
    have ih := single_sum l
    rw [List.map_cons, List.map_cons, List.sum_cons, ih, List.length_cons]
    show 1 + _ = _
    omega
section
variable {P : Program} {w : World} {K : PySem.W.Frag} {mg : Str → Option Value} {base : Heap} {f C CR XC XM : Addr} {fd : FuncData}
def FS_row_of (C CR : Addr) : FSpec := fun ds m k x => ∃ (R : Rul) (g0 : Str) (rows : List Row) (L : List Nm), ds = [ruleD CR R, .str g0, .lst (rows.map (callD C))] ∧ LayP g0 rows ∧ LayOk g0 rows ∧ IsLine R g0 rows L ∧ k (.str (word g0 rows L)) m
theorem fn_row_of (F : F_row_of K f fd) (gm : mg "row_of" = some (.ref f)) (fr : Free mg) (L : CallF K mg C) (C1 : Fn P w K mg base 5 "layout" (FS_layout C CR XC XM)) : Fn P w K mg base 6 "row_of" (FS_row_of C CR) := by
  refine fn_def F sc_row_of gm (bs_row_of F) (fun ds m k x ⟨_, _, _, _, e, _⟩ => by rw [e]; rfl) ?_
  rintro cdv A outer s H E B ds m k x ⟨R, g0, rows, Ln, rfl, hp, hok, hL, hk⟩
  have hu := B.room.un
  have hun := hok.nc.uniq
  walk_at "sg1"; walk_at "sg1"
  refine ec_dict1 (by omega) fun pg => ?_
  walk_at "sg"
  refine ⟨m, .none, rfl, rfl, trivial, by simp [NestedKey.depth], ?_⟩
  refine sd_cons (ss_forT (.nm 4) B (pg_name B.nd rfl (Or.inl rfl)) (show (4 : Nat) < 7 by decide) ?_)
  refine sc_lst ?_
  walk_at "sg1"
  refine ⟨_, rfl, Row, rows, callD C, fun pre es' m' => ∃ (kvs : List (NestedKey × D)) (o4 o5 o6 : Option D), es' = [some (ruleD CR R), some (.str g0), some (.lst (rows.map (callD C))), some (.raw (.ref pg)), o4, o5, o6] ∧ m' = (pg, .dct kvs) :: m ∧ kvs.length ≤ 1 + pre.length ∧ dGet kvs .none = some (.str g0) ∧ ∀ r ∈ pre, dGet kvs (keyK r.key) = some (.str r.group), rfl, ⟨_, _, _, _, rfl, rfl, by simp, by simp [dGet], by simp⟩, fun _ _ _ _ => trivial, ?_, ?_⟩
  · rintro pre c post es' m' hxs ⟨kvs, o4, o5, o6, rfl, rfl, hl, hn, hg⟩
    have hc : c ∈ rows := by rw [hxs]; simp
    have hlen : rows.length = pre.length + (post.length + 1) := by rw [hxs, List.length_append, List.length_cons]
    have hz := hp.z
    refine ⟨_, rfl, sd_one (ss_mput (by omega) ?_)⟩
    refine ec_cfv (i := 4) L rfl (by walk_at "sgm") rfl ?_
    walk_at "sg1"
    refine ec_cfv (i := 4) L rfl (by walk_at "sgm") rfl ?_
    refine ⟨pg, 0, kvs, keyK c.key, rfl, ⟨rfl⟩, keyK_key _, trivial, keyK_depth _, by omega, ?_⟩
    refine ⟨_, _, _, _, rfl, rfl, ?_, ?_, fun r hr => ?_⟩
    · rw [List.length_append]; exact Nat.le_trans dPut_len (by simp; omega)
    · rw [dGet_put, if_neg (fun e => by cases e), hn]
    · rw [dGet_put]
      by_cases e : keyK r.key = keyK c.key
      · rw [if_pos e]
        have hr' : r ∈ rows := by
          rw [hxs]
          rcases List.mem_append.mp hr with hr | hr
          · exact List.mem_append_left _ hr
          · rw [List.mem_singleton] at hr; rw [hr]; simp
        rw [hun r hr' c hc (keyK_inj e)]
      · rw [if_neg e]
        rcases List.mem_append.mp hr with hr | hr
        · exact hg r hr
        · rw [List.mem_singleton] at hr; rw [hr] at e; exact absurd rfl e
  · rintro es' m' ⟨kvs, o4, o5, o6, rfl, rfl, hl, hn, hg⟩
    have hgrp : ∀ kk, (kk = none ∨ ∃ r ∈ rows, kk = some r.key) → dGet kvs (okK kk) = some (.str (grp g0 rows kk)) := fun kk h => by
      rcases h with rfl | ⟨r, hr, rfl⟩
      · exact hn
      · rw [grp_of hun hr]; exact hg r hr
    walk_at "sg1"; walk_at "sg1"
    refine EC.drop (ec_join ?_)
    refine ec_lc (own := [("key", 5), ("place", 6)]) (.tp [5, 6]) B.calm B.nd (blk_ok (N := N_row_of) (sc := defScope S_row_of) (by decide +kernel)) (fun s H C cl fp => pg_tup B.calm (pgs_cons (pg_name sc_row_of.nd rfl (Or.inl rfl)) (pgs_cons (pg_name sc_row_of.nd rfl (Or.inl rfl)) pgs_nil))) (by intro i hi; show i < 7; simp at hi; omega) (by intro i hi; simp at hi ⊢; omega) ?_
    refine sc_lst (ec_call C1 B.room ?_)
    walk_at "sg"
    refine ⟨R, g0, rows, rfl, hp, fun _ L' hL' => ?_, hok.x⟩
    rw [hL'.uniq hun hL]
    refine ⟨_, rfl, ?_⟩
    have hLl : Ln.length ≤ 10100 := by
      have h1 := nodup_len (hL.nodup hun) fun a ha => mem_allN.mpr ((hL.mem a).mp ha)
      have h2 := allN_len (g0 := g0) hp.g
      have h3 := hp.g0
      have h4 := hp.z
      omega
    refine lck_map (α := Nm) (xs := Ln) (enc := nmD) (gx := fun n => .str ⟨#[chN g0 rows n]⟩) (Nat.le_trans hLl (by decide)) trivial (fun n hnm acc => ⟨_, rfl, fun p s2 H2 C2 cl2 fp2 => ?_⟩) ?_
    · have hu2 : A.units + 3 + 16 * 5 + 200 < cLine := hu
      refine ec_ix (ec_mget (show A.units + 3 + 9 < cLine by omega) ?_)
      have hnn := (hL.mem n).mp hnm
      have hgn : n.1 = none ∨ ∃ r ∈ rows, n.1 = some r.key := by
        rcases hnn with h | ⟨r, hr, h⟩
        · exact .inl (mem_signs.mp h).1
        · exact .inr ⟨r, hr, (mem_signs.mp h).1⟩
      have hgl : (n.2 - 1).toNat < (grp g0 rows n.1).length ∧ 1 ≤ n.2 ∧ (grp g0 rows n.1).length ≤ 100 := by
        rcases hnn with h | ⟨r, hr, h⟩
        · obtain ⟨h1, h2, h3⟩ := mem_signs.mp h
          rw [h1]
          have h4 := hp.g0
          show _ < g0.length ∧ _ ∧ g0.length ≤ _
          omega
        · obtain ⟨h1, h2, h3⟩ := mem_signs.mp h
          have h4 := (hp.g r hr).g1
          rw [h1, grp_of hun hr]
          omega
      walk_at "sg1"; walk_at "sg1"
      refine ⟨pg, 1, kvs, okK n.1, _, rfl, ⟨rfl⟩, okd_key _, okK_noTxt _, okK_depth _, hgrp _ hgn, ?_⟩
      walk_at "sg"
      refine ic_str (Nat.le_trans hgl.2.2 (by decide)) (at_nat (v := chN g0 rows n) (by omega) ?_) ⟨rfl, rfl⟩
      have hlt : (n.2 - 1).toNat < (grp g0 rows n.1).cps.toList.length := hgl.1
      rw [List.getElem?_eq_getElem hlt]
      unfold chN
      rw [List.getD_eq_getElem?_getD, List.getElem?_eq_getElem hlt]
      rfl
    · refine ⟨(Ln.map (chN g0 rows)).map fun c => (⟨#[c]⟩ : Str), ?_, ?_, _, List.sublist_cons_self _ _, ?_⟩
      · rw [List.map_map, List.map_map]; exact .imm _ _
      · have e0 : (("" : Str)).length = 0 := by decide +kernel
        rw [single_sum, List.length_map, e0]
        omega
      · rw [join_ofL]
        exact hk
end
end TSgP8
/-! SgP9: growths. -/
section TSgP9
set_option maxHeartbeats 4000000
open PySem PySem.Spec PyProof.Rows L2
theorem et_chain2 {X : Cx} {x : XD} {es : Es} {m : M} {a b c : Expr} {pos : Pos} {kt : Bool → M → Prop} {op op' : CmpOp} (h : EC X x es m a fun da m1 => EC X x es m1 b fun db m2 => OC X (compareOp op) m2 da db fun d m3 => ∃ t, d = .bl t ∧ if t = true then EC X x es m3 c fun dc m4 => OC X (compareOp op') m4 db dc fun d m5 => ∃ c, d = .bl c ∧ kt c m5 else kt false m3)
    (hm : lastMarks [op, op'] [b, c] = false := by with_unfolding_all rfl) : ET X x es m (.Compare a [op, op'] [b, c] pos) kt :=
  ET.of (pt_chain op_R op_R pe_R pe_R pe_R hm) fun G σ H Q w st q =>
  have q' : Bk X G (fun d m => ∃ c, d = .bl c ∧ kt c m) (fun v H' => ∃ k, v = .bl k ∧ Q k H') := fun v d m G' H' ⟨c, e, z⟩ ex hs r => by
    subst e
    cases r
    exact ⟨c, rfl, q c m G' H' z ex hs⟩
  h G σ H _ w st fun va da m1 G1 H1 k1 e1 h1 r1 => k1 G1 σ H1 _ (w.mono e1) (st.mono e1 h1) fun vb db m2 G2 H2 k2 e2 h2 r2 => k2 G2 H2 va vb _ h2 (r1.mono e2) r2 fun v d m3 G3 H3 k3 e3 h3 r3 => by
    obtain ⟨t, rfl, z⟩ := k3
    cases r3
    refine ⟨t, rfl, ?_⟩
    cases t with
    | true =>
      exact z G3 σ H3 _ (w.mono ((e1.trans e2).trans e3)) (st.mono ((e1.trans e2).trans e3) h3) fun vc dc m4 G4 H4 k4 e4 h4 r4 => k4 G4 H4 vb vc _ h4 (r2.mono (e3.trans e4)) r4 (q'.mono (((e1.trans e2).trans e3).trans e4))
    | false => exact (q'.mono ((e1.trans e2).trans e3)).now h3 ⟨false, rfl, z⟩ (.bl false)
abbrev Jn := Int × Str
abbrev jD (j : Jn) : D := .tup [.int j.1, .str j.2]
def endOf (w : Str) (js : List Jn) : Str := js.foldl (fun w j => rowAfter w j.1 j.2) w
theorem endOf_snoc {w : Str} {js : List Jn} {j : Jn} : endOf w (js ++ [j]) = rowAfter (endOf w js) j.1 j.2 := by
  unfold endOf
  rw [List.foldl_append]
  rfl
def JOk (w : Str) (js : List Jn) : Prop := ∀ (pre : List Jn) (j : Jn) (post : List Jn), js = pre ++ j :: post → 0 ≤ j.1 ∧ j.1 ≤ (endOf w pre).length ∧ (∀ c ∈ j.2.cps.toList, Letter c) ∧ 1 ≤ j.2.length ∧ j.2.length ≤ 10
theorem endOf_len {w : Str} : ∀ {js : List Jn}, JOk w js → (endOf w js).length ≤ w.length + 10 * js.length := by
  intro js
  rcases List.eq_nil_or_concat js with rfl | ⟨js, j, rfl⟩
  · intro _; exact Nat.le_add_right _ _
  · intro h
    rw [List.concat_eq_append] at h ⊢
    have ih := endOf_len (w := w) (js := js) fun pre i post e => h pre i (post ++ [j]) (by rw [e]; simp)
    obtain ⟨h1, h2, _, _, h3⟩ := h js j [] rfl
    rw [endOf_snoc]
    have e : j.1 = ((j.1.toNat : Nat) : Int) := (Int.toNat_of_nonneg h1).symm
    rw [e, rowAfter_len (by omega), List.length_append]
    simp
    omega
termination_by js => js.length
decreasing_by simp_all
structure GrowF (K : PySem.W.Frag) (mg : Str → Option Value) (C : Addr) : Prop where
  c : ClsF K C
  gm : mg "Growth" = some (.ref C)
  na : ∀ f ∈ (["start", "joins", "_end"] : List Str), NoAttr K C f
def growFs (w0 : Str) (js : List Jn) : List (Str × D) := [("start", .str w0), ("joins", .tup (js.map jD)), ("_end", .str (endOf w0 js))]
abbrev growthD (C : Addr) (w0 : Str) (js : List Jn) : D := .ins C (growFs w0 js)
section
variable {P : Program} {w : World} {K : PySem.W.Frag} {mg : Str → Option Value} {base : Heap} {f C CR CG XC XM : Addr} {fd : FuncData}
def FS_row_after : FSpec := fun ds m k x => ∃ (w : Str) (gap : Int) (g : Str), ds = [.str w, .int gap, .str g] ∧ w.length ≤ 30000 ∧ 0 ≤ gap ∧ gap ≤ w.length ∧ g.length ≤ 1000 ∧ k (.str (rowAfter w gap g)) m
theorem fn_row_after (F : F_row_after K f fd) (gm : mg "row_after" = some (.ref f)) : Fn P w K mg base 1 "row_after" FS_row_after := by
  refine fn_def F sc_row_after gm (bs_row_after F) (fun ds m k x ⟨_, _, _, e, _⟩ => by rw [e]; rfl) ?_
  rintro cdv A outer s H E B ds m k x ⟨w, gap, g, rfl, hw, h0, h1, hg, hk⟩
  have e : gap = ((gap.toNat : Nat) : Int) := (Int.toNat_of_nonneg h0).symm
  have hc1 : (cutS w none (some gap)).length ≤ w.length := by
    rw [e, len_list, cut_to (by omega), List.length_take]
    omega
  have hc2 : (cutS w (some gap) none).length ≤ w.length := by
    rw [e, len_list, cut_from (by omega), List.length_drop, len_list]
    omega
  walk_at "sg1"; walk_at "sg1"; walk_at "sg1"; walk_at "sg1"; walk_at "sg1"; walk_at "sg1"
  show EC _ _ _ _ _ _
  walk_at "sg1"
  refine ⟨gap, rfl, lc_str (Nat.le_trans hw (by decide)) ?_⟩
  walk_at "sg1"
  refine oc_cats (Nat.le_trans (by omega : _ ≤ 40000) (by decide)) ?_
  walk_at "sg1"; walk_at "sg1"
  show EC _ _ _ _ _ _
  walk_at "sg1"
  refine ⟨gap, rfl, lc_str (Nat.le_trans hw (by decide)) ?_⟩
  refine oc_cats ?_ hk
  rw [PySem.Str.length_append]
  exact Nat.le_trans (by omega : _ ≤ 70000) (by decide)
def FS_Growth_init (C : Addr) : FSpec := fun ds m k x => ∃ (p : Addr) (w0 : Str) (js : List Jn) (m0 : M), ds = [.raw (.ref p), .str w0, .lst (js.map jD)] ∧ m = (p, .ins C []) :: m0 ∧ JOk w0 js ∧ w0.length ≤ 10200 ∧ js.length ≤ 1000 ∧ k .non ((p, .ins C (growFs w0 js)) :: m0)
theorem fn_Growth_init {dvs : List V} (F : F_Growth_init K dvs f fd) (L : GrowF K mg CG) (fr : Free mg) (C1 : Fn P w K mg base 1 "row_after" FS_row_after) (C2 : Fn P w K mg base 2 "check_group" FS_check_group) : FnOk P w K mg base (L2.CX P w) 3 f fd ["self", "start", "joins"] (spD K w (FS_Growth_init CG)) := by
  refine fnok_def F sc_Growth_init (fun ds m k x ⟨_, _, _, _, e, _⟩ => by rw [e]; rfl) ?_
  rintro cdv A outer s H E B ds m k x ⟨p, w0, js, m0, rfl, rfl, hj, hw, hz, hk⟩
  walk_at "sg1"; walk_at "sg1"; walk_at "sg1"; walk_at "sg1"; walk_at "sg1"
  refine ec_lstM (ecs_nil ⟨by decide, fun pm => ?_⟩)
  refine sd_cons (ss_forT (.tp [5, 6]) B (pg_tup B.calm (pgs_cons (pg_name B.nd rfl (Or.inl rfl)) (pgs_cons (pg_name B.nd rfl (Or.inl rfl)) pgs_nil))) (by intro i hi; show i < 7; simp at hi; omega) ?_)
  refine sc_lst ?_
  walk_at "sg1"
  refine ⟨_, rfl, Jn, js, jD, fun pre es' m' => ∃ (o5 o6 : Option D), es' = [some (.raw (.ref p)), some (.str w0), some (.lst (js.map jD)), some (.str (endOf w0 pre)), some (.raw (.ref pm)), o5, o6] ∧ m' = (pm, .lst (pre.map jD)) :: (p, .ins CG []) :: m0, rfl, ⟨_, _, rfl, rfl⟩, fun _ _ _ _ => trivial, ?_, ?_⟩
  · rintro pre ⟨gap, g⟩ post es' m' hxs ⟨o5, o6, rfl, rfl⟩
    have hjj : 0 ≤ gap ∧ gap ≤ (endOf w0 pre).length ∧ (∀ c ∈ g.cps.toList, Letter c) ∧ 1 ≤ g.length ∧ g.length ≤ 10 := hj pre (gap, g) post hxs
    have h1 := hjj.1
    have h2 := hjj.2.1
    have h3 := hjj.2.2.1
    have h4 := hjj.2.2.2.1
    have h5 := hjj.2.2.2.2
    have hpre : JOk w0 pre := fun a i b e => hj a i (b ++ (gap, g) :: post) (by rw [hxs, e]; simp)
    have hel := endOf_len hpre
    have hlen : js.length = pre.length + (post.length + 1) := by rw [hxs, List.length_append, List.length_cons]
    refine ⟨_, rfl, ?_⟩
    walk_at "sg1"; walk_at "sg1"
    refine et_not (et_chain2 ?_)
    walk_at "sg"
    refine ite_d (fun _ => ?_) fun h => absurd h1 h
    walk_at "sg"
    refine cc_lenS (Nat.le_trans (by omega : _ ≤ 30000) (by decide)) ?_
    walk_at "sg"
    refine ite_n (fun h => absurd h2 h) fun _ => ?_
    walk_at "sg1"; walk_at "sg1"; walk_at "sg1"
    refine ec_call C1 (B.room.mono (by decide)) ?_
    walk_at "sg1"; walk_at "sg1"; walk_at "sg1"; walk_at "sg1"; walk_at "sg1"
    refine ec_call C2 B.room ?_
    walk_at "sg"
    refine ⟨g, rfl, h3, h4, Nat.le_trans h5 (by decide), ?_⟩
    walk_at "sg1"
    refine ⟨_, _, _, rfl, by omega, h1, h2, Nat.le_trans h5 (by decide), ?_⟩
    refine sd_one (ss_expr (ec_append ?_))
    walk_at "sg1"
    refine ⟨RecvD.raw (j := 0) rfl, ?_⟩
    walk_at "sg"
    refine ⟨(show (2 : Nat) ≤ 1000 by decide), pm, 0, _, rfl, rfl, by rw [List.length_map]; exact Nat.le_trans (by omega : _ ≤ 1000) (by decide), some (.int gap), some (.str g), ?_, ?_⟩
    · rw [endOf_snoc]; rfl
    · rw [List.map_append]; rfl
  · rintro es' m' ⟨o5, o6, rfl, rfl⟩
    refine sd_cons (ss_fld ?_)
    walk_at "sg"
    refine ⟨p, 1, CG, [], rfl, rfl, L.c.cl, L.na _ (by walk_at "sgm"), by decide, ?_⟩
    walk_at "sg1"
    refine ss_fld ?_
    walk_at "sg"
    refine cc_tuple (.inr ⟨pm, 0, rfl, rfl⟩) ?_
    walk_at "sg"
    refine ⟨p, 1, CG, _, rfl, rfl, L.c.cl, L.na _ (by walk_at "sgm"), (show (1 : Nat) < 900 by decide), ?_⟩
    refine sd_cons (ss_fld ?_)
    walk_at "sg"
    refine ⟨p, 1, CG, _, rfl, rfl, L.c.cl, L.na _ (by walk_at "sgm"), (show (2 : Nat) < 900 by decide), ?_⟩
    exact SD.weak (m' := (p, .ins CG (growFs w0 js)) :: m0) (List.sublist_cons_self _ _) (fun _ _ z => z) (sd_nil hk)
def FS_Growth_row (C : Addr) : FSpec := fun ds m k x => ∃ (w0 : Str) (js : List Jn), ds = [growthD C w0 js] ∧ k (.str (endOf w0 js)) m
theorem fn_Growth_row (F : F_Growth_row K f fd) (L : GrowF K mg CG) : FnOk P w K mg base (L2.CX P w) 1 f fd ["self"] (spD K w (FS_Growth_row CG)) := by
  refine fnok_def F sc_Growth_row (fun ds m k x ⟨_, _, e, _⟩ => by rw [e]; rfl) ?_
  rintro cdv A outer s H E B ds m k x ⟨w0, js, rfl, hk⟩
  walk_at "sg1"; walk_at "sg1"
  refine ec_fld ?_
  walk_at "sg"
  exact ⟨CG, _, _, rfl, L.c.cl, L.na _ (by walk_at "sgm"), rfl, hk⟩
end
end TSgP9
/-! SgGrow: what a growth tells. Plain Lean. -/
section TSgGrow
set_option maxHeartbeats 4000000
open PySem
def newR (A o : List Row) : List Row := o.filter fun r => decide (r ∉ A)
theorem newR_snoc {A pre : List Row} {c : Row} : newR A (pre ++ [c]) = newR A pre ++ if c ∈ A then [] else [c] := by
  unfold newR
  rw [List.filter_append]
  by_cases h : c ∈ A <;> simp [h]
theorem mem_newR {A o : List Row} {r : Row} : r ∈ newR A o ↔ r ∈ o ∧ r ∉ A := by
  unfold newR
  rw [List.mem_filter, decide_eq_true_iff]
/-- the setting: A's calls and all calls, in order -/
structure GrowS (g0 : Str) (A both o : List Row) : Prop where
  u : Uniq both
  g : ∀ r ∈ both, Good r
  sub : ∀ r ∈ A, r ∈ both
  ord : Ord both o
  okB : AllOk g0 o
  cA : Closed g0 A
section
variable {R : Rul} {g0 : Str} {A both o : List Row}
theorem GrowS.sub' (h : GrowS g0 A both o) {pre post : List Row} (e : o = pre ++ post) : ∀ r ∈ A ++ newR A pre, r ∈ both := fun r hr => by
  rcases List.mem_append.mp hr with hr | hr
  · exact h.sub r hr
  · exact (h.ord.mem r).mp (by rw [e]; exact List.mem_append_left _ (mem_newR.mp hr).1)
theorem GrowS.closed (h : GrowS g0 A both o) {pre post : List Row} (e : o = pre ++ post) : Closed g0 (A ++ newR A pre) := by
  intro r hr
  rcases List.mem_append.mp hr with hr | hr
  · rcases h.cA r hr with z | z | ⟨q, hq, z⟩
    · exact .inl z
    · exact .inr (.inl z)
    · exact .inr (.inr ⟨q, List.mem_append_left _ hq, z⟩)
  · obtain ⟨h1, h2⟩ := mem_newR.mp hr
    obtain ⟨p1, p2, rfl⟩ := List.append_of_mem h1
    have e' : o = p1 ++ r :: (p2 ++ post) := by rw [e]; simp
    rcases h.okB p1 r _ e' with z | z | ⟨q, hq, z⟩
    · exact .inl z
    · exact .inr (.inl z)
    · refine .inr (.inr ⟨q, ?_, ?_, z⟩)
      · by_cases hA : q ∈ A
        · exact List.mem_append_left _ hA
        · exact List.mem_append_right _ (mem_newR.mpr ⟨List.mem_append_left _ hq, hA⟩)
      · have := h.ord.srt
        rw [e'] at this
        exact (List.pairwise_append.mp this).2.2 q hq r List.mem_cons_self
theorem GrowS.fresh (h : GrowS g0 A both o) {pre post : List Row} {c : Row} (e : o = pre ++ c :: post) (hc : c ∉ A) : ∀ q ∈ A ++ newR A pre, q.key ≠ c.key := by
  intro q hq ek
  have hcb : c ∈ both := (h.ord.mem c).mp (by rw [e]; simp)
  have hqb : q ∈ both := h.sub' e q hq
  have := h.u q hqb c hcb ek
  subst this
  rcases List.mem_append.mp hq with hq | hq
  · exact hc hq
  · have hn := h.ord.nodup
    rw [e] at hn
    exact (List.nodup_append.mp hn).2.2 q (mem_newR.mp hq).1 q List.mem_cons_self rfl
theorem GrowS.late (h : GrowS g0 A both o) (hw : R.whole = true) {pre post : List Row} {c : Row} (e : o = pre ++ c :: post) (hc : c ∉ A) : Late R g0 (A ++ newR A pre) c := by
  have e2 : o = (pre ++ [c]) ++ post := by rw [e]; simp
  have eN : A ++ newR A pre ++ [c] = A ++ newR A (pre ++ [c]) := by rw [newR_snoc, if_neg hc, List.append_assoc]
  have hs := h.sub' e2
  rw [← eN] at hs
  refine ⟨fun a ha b hb => h.u a (hs a ha) b (hs b hb), fun q hq => h.g q (hs q hq), h.closed e, ?_, h.fresh e hc, hw⟩
  rw [eN]
  exact h.closed e2
/-- one join for each new call -/
def Jrel (R : Rul) (g0 : Str) (A N : List Row) (js : List (Int × Str)) : Prop := js.length = N.length ∧ ∀ (i : Nat) (r : Row), N[i]? = some r → ∃ L, IsLine R g0 (A ++ N.take (i + 1)) L ∧ js[i]? = some ((L.idxOf ((some r.key, 1) : Nm) : Int), r.group)
theorem jrel_nil : Jrel R g0 A [] [] := ⟨rfl, fun i r h => by simp at h⟩
theorem jrel_snoc {N : List Row} {js : List (Int × Str)} {c : Row} {L : List Nm} (h : Jrel R g0 A N js) (hL : IsLine R g0 (A ++ (N ++ [c])) L) : Jrel R g0 A (N ++ [c]) (js ++ [((L.idxOf ((some c.key, 1) : Nm) : Int), c.group)]) := by
  refine ⟨by rw [List.length_append, List.length_append, h.1]; rfl, fun i r hi => ?_⟩
  rcases Nat.lt_or_ge i N.length with hlt | hge
  · rw [List.getElem?_append_left hlt] at hi
    obtain ⟨L', h1, h2⟩ := h.2 i r hi
    refine ⟨L', ?_, ?_⟩
    · rw [List.take_append_of_le_length (by omega)]; exact h1
    · rw [List.getElem?_append_left (by rw [h.1]; exact hlt)]; exact h2
  · rw [List.getElem?_append_right hge] at hi
    have h0 : i - N.length = 0 := by
      have := (List.getElem?_eq_some_iff.mp hi).1
      simp at this
      omega
    have hi' : i = N.length := by omega
    subst hi'
    rw [h0] at hi
    simp at hi
    subst hi
    refine ⟨L, ?_, ?_⟩
    · rw [List.take_of_length_le (by simp)]; exact hL
    · rw [List.getElem?_append_right (by rw [h.1]; exact Nat.le_refl _), h.1, Nat.sub_self]; rfl
end
end TSgGrow
/-! SgGrow2: each join leaves the row of the calls so far. Plain Lean. -/
section TSgGrow2
set_option maxHeartbeats 4000000
open PySem
theorem filter_at {α : Type} (t : α → Bool) : ∀ {l : List α} {i : Nat} {c : α}, (l.filter t)[i]? = some c → ∃ pre post, l = pre ++ c :: post ∧ t c = true ∧ pre.filter t = (l.filter t).take i
  | [], i, c, h => by simp at h
  | a :: l, i, c, h => by
    rw [List.filter_cons] at h ⊢
    cases q : t a with
    | false =>
      rw [q, if_neg Bool.false_ne_true] at h
      rw [if_neg Bool.false_ne_true]
      obtain ⟨p, s, e, h1, h2⟩ := filter_at t h
      exact ⟨a :: p, s, by rw [e]; rfl, h1, by rw [List.filter_cons, q, if_neg Bool.false_ne_true]; exact h2⟩
    | true =>
      rw [q, if_pos rfl] at h
      rw [if_pos rfl]
      cases i with
      | zero =>
        simp at h
        subst h
        exact ⟨[], l, rfl, q, by simp⟩
      | succ i =>
        obtain ⟨p, s, e, h1, h2⟩ := filter_at t (l := l) (i := i) (by simpa using h)
        exact ⟨a :: p, s, by rw [e]; rfl, h1, by rw [List.filter_cons, q, if_pos rfl, h2]; rfl⟩
section
variable {R : Rul} {g0 : Str} {A both o : List Row} {LA : List Nm} {js : List Jn}
theorem GrowS.at (h : GrowS g0 A both o) (hw : R.whole = true) {i : Nat} {c : Row} (hi : (newR A o)[i]? = some c) : Late R g0 (A ++ (newR A o).take i) c ∧ (newR A o).take (i + 1) = (newR A o).take i ++ [c] ∧ c ∈ both := by
  obtain ⟨pre, post, e, h1, h2⟩ := filter_at _ hi
  have hc : c ∉ A := of_decide_eq_true h1
  have hl := h.late hw e hc
  have e2 : newR A pre = (newR A o).take i := h2
  rw [e2] at hl
  refine ⟨hl, ?_, (h.ord.mem c).mp (by rw [e]; simp)⟩
  rw [List.take_add_one, hi]
  rfl
theorem idx_mid {l1 l2 l3 : List Nm} {a : Nm} (hn : (l1 ++ (a :: l2) ++ l3).Nodup) : (l1 ++ (a :: l2) ++ l3).idxOf a = l1.length := by
  have : a ∉ l1 := fun h => by
    rw [List.append_assoc] at hn
    exact (List.nodup_append.mp hn).2.2 a h a (by simp) rfl
  rw [List.append_assoc, List.idxOf_append, if_neg this]
  simp
theorem signs_head {k : Option Key} {g : Str} (h : 1 ≤ g.length) : ∃ l, signs k g = (k, 1) :: l := by
  unfold signs
  obtain ⟨n, hn⟩ : ∃ n, g.length = n + 1 := ⟨g.length - 1, by omega⟩
  rw [hn, List.range_succ_eq_map, List.map_cons]
  exact ⟨_, rfl⟩
/-- one step -/
theorem GrowS.step (h : GrowS g0 A both o) (hw : R.whole = true) (hj : Jrel R g0 A (newR A o) js) {i : Nat} {c : Row} (hi : (newR A o)[i]? = some c) {L : List Nm} (hL : IsLine R g0 (A ++ (newR A o).take i) L) :
    ∃ (j : Nat) (L' : List Nm), j ≤ L.length ∧ js[i]? = some ((j : Int), c.group) ∧ IsLine R g0 (A ++ (newR A o).take (i + 1)) L' ∧ word g0 (A ++ (newR A o).take (i + 1)) L' = rowAfter (word g0 (A ++ (newR A o).take i) L) (j : Int) c.group ∧ (j : Int) = (L'.idxOf ((some c.key, 1) : Nm) : Int) := by
  obtain ⟨hl, et, hcb⟩ := h.at hw hi
  obtain ⟨L', h1, h2⟩ := hj.2 i c hi
  have h1' := h1
  rw [et, ← List.append_assoc] at h1'
  obtain ⟨P, Q, e1, e2⟩ := hl.joinF hL h1'
  obtain ⟨l, es⟩ := signs_head (k := some c.key) (h.g c hcb).g0
  have hn := h1'.nodup hl.u
  have hidx : L'.idxOf ((some c.key, 1) : Nm) = P.length := by
    rw [e2, es] at hn ⊢
    exact idx_mid hn
  refine ⟨P.length, L', by rw [e1, List.length_append]; omega, by rw [h2, hidx], h1, ?_, by rw [hidx]⟩
  rw [et, ← List.append_assoc, e2, e1]
  exact hl.word (by rw [← e1]; exact hL)
theorem GrowS.words (h : GrowS g0 A both o) (hw : R.whole = true) (hLA : IsLine R g0 A LA) (hj : Jrel R g0 A (newR A o) js) : ∀ i, i ≤ (newR A o).length → ∃ L, IsLine R g0 (A ++ (newR A o).take i) L ∧ endOf (word g0 A LA) (js.take i) = word g0 (A ++ (newR A o).take i) L
  | 0, _ => ⟨LA, by simpa using hLA, by simp [endOf]⟩
  | i + 1, hi => by
    obtain ⟨L, hL, hE⟩ := h.words hw hLA hj i (by omega)
    obtain ⟨c, hc⟩ : ∃ c, (newR A o)[i]? = some c := ⟨_, List.getElem?_eq_getElem (by omega)⟩
    obtain ⟨j, L', _, h2, h3, h4, _⟩ := h.step hw hj hc hL
    refine ⟨L', h3, ?_⟩
    rw [List.take_add_one, h2, h4, ← hE]
    exact endOf_snoc
theorem GrowS.jok (h : GrowS g0 A both o) (hw : R.whole = true) (hLA : IsLine R g0 A LA) (hj : Jrel R g0 A (newR A o) js) : JOk (word g0 A LA) js := by
  intro pre j post e
  have hlt : pre.length < (newR A o).length := by rw [← hj.1, e, List.length_append, List.length_cons]; omega
  obtain ⟨c, hc⟩ : ∃ c, (newR A o)[pre.length]? = some c := ⟨_, List.getElem?_eq_getElem hlt⟩
  obtain ⟨L, hL, hE⟩ := h.words hw hLA hj pre.length (by omega)
  obtain ⟨i, L', h1, h2, _, _, _⟩ := h.step hw hj hc hL
  have e1 : js[pre.length]? = some j := by rw [e, List.getElem?_append_right (Nat.le_refl _), Nat.sub_self]; rfl
  have e2 : js.take pre.length = pre := by rw [e]; simp
  rw [e1] at h2
  cases h2
  rw [e2] at hE
  obtain ⟨_, _, hcb⟩ := h.at hw hc
  have gc := h.g c hcb
  refine ⟨by show (0 : Int) ≤ (i : Int); omega, ?_, gc.gl, gc.g0, gc.g1⟩
  rw [hE, word_len]
  show (i : Int) ≤ _
  omega
end
end TSgGrow2
/-! SgP10: growth_from. -/
section TSgP10
set_option maxHeartbeats 4000000
open PySem PySem.Spec PyProof.Rows L2
/-- what is raised, whatever else stands about -/
def xd (x : XD) : XD := fun C d m => ∃ m2 : M, m2.Sublist m ∧ x C d m2
theorem Wish.xd {X : Cx} {x : XD} {G : Hp} (h : Wish X x G) : Wish X (xd x) G := by
  obtain ⟨W, G0, a, b, c⟩ := h.w
  exact ⟨⟨W, G0, a, fun C d m G σ H dx v ⟨m2, s, z⟩ e hs hd r => b C d m2 G σ H dx v z e (hs.drop s) hd r, c⟩⟩
theorem SD.xd {X : Cx} {x : XD} {es : Es} {m : M} {E : DE} {sts : List Stmt} (h : SD X (xd x) es m sts E) : SD X x es m sts E := fun G σ H Dn w s hl r => h G σ H Dn w.xd s hl r
theorem LayX.more {g0 : Str} {rows : List Row} {XC XM : Addr} {x : XD} {m m' : M} (h : LayX g0 rows XC XM x m) (s : m.Sublist m') : LayX g0 rows XC XM (xd x) m' := ⟨fun q z => ⟨m, s, h.1 q z⟩, fun a o r b c => ⟨m, s, h.2 a o r b c⟩⟩
theorem ruleText_len (R : Rul) : (ruleText R).length ≤ 1000 := by
  have ls : (sideS R).length ≤ 6 ∧ (orderS R).length ≤ 6 ∧ (linkS R).length ≤ 6 := by
    refine ⟨?_, ?_, ?_⟩
    · unfold sideS; split <;> decide +kernel
    · unfold orderS; split <;> decide +kernel
    · unfold linkS; split <;> decide +kernel
  have e1 : (" " : Str).length = 1 := by decide +kernel
  have e2 : Str.empty.length = 0 := by decide +kernel
  unfold ruleText
  rw [PySem.Str.length_append, PySem.Str.length_append, PySem.Str.length_append, PySem.Str.length_append, PySem.Str.length_append, e1, e2]
  omega
theorem ruleText_rep (R : Rul) : (reprText (ruleText R)).length ≤ sizeLine := by
  refine Nat.le_trans (?_ : _ ≤ 10000) (by rw [sizeLine_eq]; decide)
  obtain ⟨a, b, c⟩ := R
  cases a <;> cases b <;> cases c <;> decide +kernel
theorem ord_ex {rows : List Row} (u : Uniq rows) (g : ∀ r ∈ rows, Good r) : ∃ o, Ord rows o := by
  have dd : ∃ d : List Row, d.Nodup ∧ ∀ r, r ∈ d ↔ r ∈ rows := by
    clear u g
    induction rows with
    | nil => exact ⟨[], List.nodup_nil, fun r => Iff.rfl⟩
    | cons a rows ih =>
      obtain ⟨d, h1, h2⟩ := ih
      by_cases ha : a ∈ d
      · exact ⟨d, h1, fun r => by rw [h2 r, List.mem_cons]; exact ⟨.inr, fun z => z.elim (fun e => by rw [e]; exact (h2 a).mp ha) id⟩⟩
      · exact ⟨a :: d, List.nodup_cons.mpr ⟨ha, h1⟩, fun r => by rw [List.mem_cons, List.mem_cons, h2 r]⟩
  obtain ⟨d, h1, h2⟩ := dd
  have hp := List.mergeSort_perm d fun a b => decide (code a ≤ code b)
  have hs := List.pairwise_mergeSort (le := fun a b => decide (code a ≤ code b)) (fun a b c h h' => by simp at h h' ⊢; omega) (fun a b => by simp; omega) d
  have hm : ∀ r, r ∈ d.mergeSort (fun a b => decide (code a ≤ code b)) ↔ r ∈ rows := fun r => hp.mem_iff.trans (h2 r)
  refine ⟨d.mergeSort fun a b => decide (code a ≤ code b), ?_, hm⟩
  refine (List.Pairwise.and hs (hp.nodup_iff.mpr h1)).imp_of_mem fun {a b} ha hb ⟨h3, h4⟩ => ?_
  have h3 : code a ≤ code b := of_decide_eq_true h3
  rcases Int.lt_or_eq_of_le h3 with h | h
  · exact h
  · exact absurd (u a ((hm a).mp ha) b ((hm b).mp hb) (code_key (g a ((hm a).mp ha)) (g b ((hm b).mp hb)) h)) h4
theorem LayOk.closed {g0 : Str} {rows : List Row} (h : LayOk g0 rows) (g : ∀ r ∈ rows, Good r) : Closed g0 rows := by
  obtain ⟨o, ho⟩ := ord_ex h.nc.uniq g
  exact ho.closed (h.ok o ho)
theorem idx_first : ∀ {l : List Nm} {i : Nat} {a : Nm} (h : i < l.length), l[i] = a → l.idxOf a ≤ i
  | [], _, _, h, _ => absurd h (Nat.not_lt_zero _)
  | b :: l, 0, a, _, e => by
    have e : b = a := e
    subst e
    rw [List.idxOf_cons_self]
    exact Nat.le_refl _
  | b :: l, i + 1, a, h, e => by
    have ih := idx_first (l := l) (i := i) (a := a) (Nat.lt_of_succ_lt_succ h) e
    by_cases hb : b = a
    · subst hb
      rw [List.idxOf_cons_self]
      exact Nat.zero_le _
    · have hf : (b == a) = false := beq_eq_false_iff_ne.mpr hb
      rw [List.idxOf_cons, hf]
      exact Nat.succ_le_succ ih
theorem pyL_get {l : List Nm} {i : Nat} {a : Nm} (h : l[i]? = some a) : (D.pyL (l.map nmD))[i]? = some (nmD a).py := by
  rw [pyL_map, List.getElem?_map, List.getElem?_map, h]
  rfl
theorem nm_eqv (a b : Nm) : PyData.eqv (nmD a).py (nmD b).py = decide (a = b) := eqv_dec nmD_nb nmD_nb ⟨nmD_inj, fun h => by rw [h]⟩
section
variable {P : Program} {w : World} {K : PySem.W.Frag} {mg : Str → Option Value} {base : Heap} {f C CR CG XC XM XG : Addr} {fd : FuncData}
structure GrowM (P : Program) (w : World) (K : PySem.W.Frag) (mg : Str → Option Value) (base : Heap) (C : Addr) : Prop where
  ok : ∃ f fd ps, Mk K C f ∧ FnOk P w K mg base (L2.CX P w) 3 f fd ps (spD K w (FS_Growth_init C)) ∧ Binds K fd ps []
structure RuleT (P : Program) (w : World) (K : PySem.W.Frag) (mg : Str → Option Value) (base : Heap) (C : Addr) : Prop where
  ok : ∃ f fd ps, FnOk P w K mg base (L2.CX P w) 1 f fd ps (spD K w (FS_Rule_text C)) ∧ Meth K C "text" f ∧ Binds K fd ps []
def FS_growth_from (C CR CG XC XM XG : Addr) : FSpec := fun ds m k x => ∃ (R : Rul) (g0 : Str) (As Bs : List Row), ds = [ruleD CR R, .str g0, .lst (As.map (callD C)), .lst (Bs.map (callD C))] ∧ LayP g0 As ∧ LayP g0 (As ++ Bs) ∧ (R.whole = false → x XG (.str (ruleText R)) m) ∧ (R.whole = true → LayX g0 As XC XM x m ∧ (LayOk g0 As → LayX g0 (As ++ Bs) XC XM x m ∧
  (LayOk g0 (As ++ Bs) → ∀ o L js, Ord (As ++ Bs) o → IsLine R g0 As L → Jrel R g0 As (newR As o) js → k (growthD CG (word g0 As L) js) m)))
theorem fn_growth_from {fI : Addr} (F : F_growth_from K f fd) (gm : mg "growth_from" = some (.ref f)) (md : Mods mg K) (L : CallF K mg C) (LR : RuleF K mg CR) (LG : GrowF K mg CG) (MG : GrowM P w K mg base CG) (RT : RuleT P w K mg base CR) (EF : ErrF K mg "MixesGroups" XG fI) (EI : ErrI P w K mg base fI)
    (C0 : Fn P w K mg base 1 "signs_of" FS_signs_of) (C1 : Fn P w K mg base 4 "in_stamp_order" (FS_in_stamp_order C XC)) (C2 : Fn P w K mg base 5 "layout" (FS_layout C CR XC XM)) (C3 : Fn P w K mg base 6 "row_of" (FS_row_of C CR)) :
    Fn P w K mg base 7 "growth_from" (FS_growth_from C CR CG XC XM XG) := by
  refine fn_def F sc_growth_from gm (bs_growth_from F) (fun ds m k x ⟨_, _, _, _, e, _⟩ => by rw [e]; rfl) ?_
  rintro cdv A outer s H E B ds m k x ⟨R, g0, As, Bs, rfl, hpA, hpB, hx0, hx⟩
  have hu := B.room.un
  have fr := md.fr
  refine SD.xd ?_
  walk_at "sg1"; walk_at "sg1"
  refine et_cmp (ec_rfv (i := 0) LR rfl (by walk_at "sgm") rfl ?_)
  walk_at "sg"
  cases hW : R.whole with
  | false =>
    have e : linkS R = "loose" := by unfold linkS; rw [hW]; rfl
    refine ite_d (fun _ => ?_) fun h => absurd e h
    refine sd_one (ss_raise EF EI B.calm (B.room.mono (by decide)) ?_)
    obtain ⟨ft, fdt, pst, FT, hmt, hbt⟩ := RT.ok
    refine ec_meth0 FT (B.room.mono (by decide)) LR.c.cl hmt hbt ?_
    walk_at "sg"
    exact ⟨_, rfl, rfl, R, rfl, ruleText_rep R, m, List.Sublist.refl _, hx0 hW⟩
  | true =>
    have e : ¬ linkS R = "loose" := by unfold linkS; rw [hW]; decide +kernel
    refine ite_d (fun h => absurd h e) fun _ => ?_
    obtain ⟨hxA, hok⟩ := hx hW
    refine sd_nil ?_
    walk_at "sg1"; walk_at "sg1"
    refine ec_dc (own := [("sign", 10)]) (.nm 10) (by omega) B.calm B.nd (blk_ok (N := N_growth_from) (sc := defScope S_growth_from) (by decide +kernel)) (fun s H C cl fp => pg_name sc_growth_from.nd rfl (Or.inl rfl)) (show (10 : Nat) < 11 by decide) (List.mem_cons_self) ?_
    refine sc_lst (ec_call C2 (B.room.mono (by decide)) ?_)
    walk_at "sg"
    refine ⟨R, g0, As, rfl, hpA, fun hA LA hLA => ?_, hxA.more (List.Sublist.refl _)⟩
    obtain ⟨hxB, hokB⟩ := hok hA
    have huA := hA.nc.uniq
    have hLl : ∀ {rows L}, LayP g0 rows → Uniq rows → IsLine R g0 rows L → L.length ≤ 10100 := fun {rows L} hp hun hL => by
      have h1 := nodup_len (hL.nodup hun) fun a ha => mem_allN.mpr ((hL.mem a).mp ha)
      have h2 := allN_len (g0 := g0) hp.g
      have h3 := hp.g0
      have h4 := hp.z
      omega
    have hlA := hLl hpA huA hLA
    refine ⟨_, rfl, ?_⟩
    refine dck_map (α := Nm) (kf := nmK) (gv := fun _ => .bl true) (Nat.le_trans hlA (by decide)) trivial (fun a _ => ⟨trivial, nmK_depth a⟩) (fun _ _ _ _ _ => rfl) (fun a ha kvs => ⟨_, rfl, fun p s1 H1 C1 cl1 fp1 => ?_⟩) ?_
    · walk_at "sg1"
      intro s2 H2 C2 cl2 fp2
      walk_at "sg1"
      exact ⟨nmD_key a, rfl, rfl⟩
    intro kvs pd ht hl h1 h2
    walk_at "sg1"; walk_at "sg1"
    refine ec_lst ?_
    walk_at "sg1"; walk_at "sg1"
    refine ⟨_, .inl (.imm _ _), ?_⟩
    walk_at "sg1"; walk_at "sg1"
    refine ⟨_, .inl (.imm _ _), ?_⟩
    walk_at "sg1"
    have hzB := hpB.z
    rw [List.length_append] at hzB
    rw [List.append_nil, ← List.map_append]
    refine ⟨by rw [List.length_map, List.length_append]; exact hzB, ?_⟩
    walk_at "sg1"; walk_at "sg1"
    refine ec_call C2 (B.room.mono (by decide)) ?_
    walk_at "sg"
    refine ⟨R, g0, As ++ Bs, rfl, hpB, fun hB LB hLB => ?_, hxB.more (List.sublist_cons_self _ _)⟩
    have hk := hokB hB
    have huB := hB.nc.uniq
    have hlB := hLl hpB huB hLB
    walk_at "sg1"; walk_at "sg1"
    refine ec_lstM (ecs_nil ⟨by decide, fun pj => ?_⟩)
    refine sd_cons (ss_forT (.nm 8) B (pg_name B.nd rfl (Or.inl rfl)) (show (8 : Nat) < 11 by decide) ?_)
    refine sc_lst (ec_call C1 (B.room.mono (by decide)) ?_)
    walk_at "sg"
    refine ⟨As ++ Bs, rfl, hpB.g, hpB.z, fun hnc o hord => ?_, fun q z => (hB.nc.least z).elim⟩
    refine ⟨_, rfl, ?_⟩
    have hS : GrowS g0 As (As ++ Bs) o := by
      refine ⟨huB, hpB.g, fun r hr => List.mem_append_left _ hr, hord, hB.ok o hord, hA.closed hpA.g⟩
    have hgo : ∀ r ∈ o, Good r := fun r hr => hpB.g r ((hord.mem r).mp hr)
    have hzo : o.length ≤ 1000 := Nat.le_trans (nodup_len hord.nodup fun r hr => (hord.mem r).mp hr) hpB.z
    let I : List Row → Es → M → Prop := fun pre es' m' => ∃ (kvs : List (NestedKey × D)) (js : List Jn) (o8 o9 o10 : Option D), es' = [some (ruleD CR R), some (.str g0), some (.lst (As.map (callD C))), some (.lst (Bs.map (callD C))), some (.raw (.ref pd)), some (.lst ((As ++ Bs).map (callD C))), some (nmsD LB), some (.raw (.ref pj)), o8, o9, o10] ∧ m' = (pj, .lst (js.map jD)) :: (pd, .dct kvs) :: m ∧ (∀ q ∈ kvs, isTup q.1) ∧ kvs.length ≤ 10100 + 10 * pre.length ∧ (∀ n, (dGet kvs (nmK n)).isSome = true ↔ Named g0 (As ++ newR As pre) n) ∧ Jrel R g0 As (newR As pre) js
    refine ⟨Row, o, callD C, I, rfl, ?_, fun _ _ _ _ => trivial, ?_, ?_⟩
    · refine ⟨kvs, [], _, _, _, rfl, rfl, ht, by simp; omega, fun n => ?_, jrel_nil⟩
      show _ ↔ Named g0 (As ++ []) n
      rw [List.append_nil, ← hLA.mem n]
      constructor
      · intro z
        obtain ⟨a, ha, e⟩ := h2 _ z
        rw [← nmK_inj e]
        exact ha
      · intro z
        rw [h1 n z]
        rfl
    · rintro pre c post es' m' hxs ⟨kvs, js, o8, o9, o10, rfl, rfl, ht, hl, hm, hj⟩
      have hc : c ∈ o := by rw [hxs]; simp
      have gc := hgo c hc
      have hlen : o.length = pre.length + (post.length + 1) := by rw [hxs, List.length_append, List.length_cons]
      have hfirst : (dGet kvs (nmK (some c.key, 1))).isSome = decide (c ∈ As) := by
        rw [Bool.eq_iff_iff, hm, decide_eq_true_iff]
        constructor
        · intro z
          refine Classical.byContradiction fun hn => ?_
          rcases z with z | ⟨q, hq, z⟩
          · have := (mem_signs.mp z).1; cases this
          · have := (mem_signs.mp z).1
            exact hS.fresh hxs hn q hq (Option.some.inj this).symm
        · intro z
          exact .inr ⟨c, List.mem_append_left _ z, mem_signs.mpr ⟨rfl, Int.le_refl 1, by have := gc.g0; show (1 : Int) ≤ _; omega⟩⟩
      refine ⟨_, rfl, ?_⟩
      walk_at "sg1"; walk_at "sg1"; walk_at "sg1"; walk_at "sg1"
      refine ec_cfv (i := 8) L rfl (by walk_at "sgm") rfl ?_
      walk_at "sg1"; walk_at "sg1"; walk_at "sg1"
      refine ⟨(show (2 : Nat) ≤ 1000 by decide), ?_⟩
      walk_at "sg1"; walk_at "sg1"
      refine et_cmp ?_
      walk_at "sg1"; walk_at "sg1"
      refine oc_dnotin (j := 1) (kvs := kvs) (by omega) ⟨rfl, ht⟩ (nmD_key (some c.key, 1)) trivial (nmK_depth _) ?_
      rw [hfirst]
      by_cases hcA : c ∈ As
      · rw [decide_eq_true hcA]
        walk_at "sgi"
        have eN : newR As (pre ++ [c]) = newR As pre := by rw [newR_snoc, if_pos hcA, List.append_nil]
        refine sd_nil ⟨kvs, js, _, _, _, rfl, rfl, ht, ?_, fun n => ?_, ?_⟩
        · rw [List.length_append]; omega
        · rw [eN]; exact hm n
        · rw [eN]; exact hj
      · rw [decide_eq_false hcA]
        walk_at "sgi"
        walk_at "sgi"
        have hgl := gc.g1
        have eN : newR As (pre ++ [c]) = newR As pre ++ [c] := by rw [newR_snoc, if_neg hcA]
        refine sd_cons (ss_forT (.nm 10) B (pg_name B.nd rfl (Or.inl rfl)) (show (10 : Nat) < 11 by decide) ?_)
        refine sc_lst (ec_call C0 (B.room.mono (by decide)) ?_)
        walk_at "sg1"
        refine ec_cfv (i := 8) L rfl (by walk_at "sgm") rfl ?_
        walk_at "sg1"
        refine ec_cfv (i := 8) L rfl (by walk_at "sgm") rfl ?_
        walk_at "sg1"
        refine ⟨some c.key, c.group, rfl, Nat.le_trans hgl (by decide), _, rfl, ?_⟩
        refine ⟨Nm, signs (some c.key) c.group, nmD, fun pre2 es' m' => ∃ (kvs : List (NestedKey × D)) (o2 : Option D), es' = [some (ruleD CR R), some (.str g0), some (.lst (As.map (callD C))), some (.lst (Bs.map (callD C))), some (.raw (.ref pd)), some (.lst ((As ++ Bs).map (callD C))), some (nmsD LB), some (.raw (.ref pj)), some (callD C c), some (.tup [keyD c.key, .int 1]), o2] ∧ m' = (pj, .lst (js.map jD)) :: (pd, .dct kvs) :: m ∧ (∀ q ∈ kvs, isTup q.1) ∧ kvs.length ≤ 10100 + 10 * pre.length + pre2.length ∧ (∀ n, (dGet kvs (nmK n)).isSome = true ↔ (Named g0 (As ++ newR As pre) n ∨ n ∈ pre2)), rfl, ⟨kvs, _, rfl, rfl, ht, by simpa using hl, fun n => by rw [hm n]; simp⟩, fun _ _ _ _ => trivial, ?_, ?_⟩
        · rintro pre2 n post2 es' m' hxs2 ⟨kvs, o2, rfl, rfl, ht, hl, hm⟩
          have hlen2 : (signs (some c.key) c.group).length = pre2.length + (post2.length + 1) := by rw [hxs2, List.length_append, List.length_cons]
          rw [signs_len] at hlen2
          refine ⟨_, rfl, sd_one (ss_dput (by omega) ?_)⟩
          walk_at "sg1"; walk_at "sg1"; walk_at "sg1"
          refine ⟨pd, 1, kvs, nmK n, rfl, ⟨rfl, ht⟩, nmD_key n, trivial, nmK_depth n, by omega, ?_⟩
          refine ⟨_, _, rfl, rfl, dPut_tup ht trivial, ?_, fun n' => ?_⟩
          · rw [List.length_append]; exact Nat.le_trans dPut_len (by simp; omega)
          · rw [dGet_put]
            by_cases e : nmK n' = nmK n
            · rw [if_pos e]
              have := nmK_inj e
              subst this
              simp
            · rw [if_neg e, hm n', List.mem_append, List.mem_singleton]
              have : n' ≠ n := fun z => e (by rw [z])
              simp [this]
        · rintro es' m' ⟨kvs, o2, rfl, rfl, ht, hl, hm⟩
          rw [signs_len] at hl
          have hm' : ∀ n, (dGet kvs (nmK n)).isSome = true ↔ Named g0 (As ++ newR As (pre ++ [c])) n := fun n => by
            rw [hm n, eN, ← List.append_assoc, named_snoc]
          have e2 : o = (pre ++ [c]) ++ post := by rw [hxs]; simp
          have hL' : IsLine R g0 (As ++ newR As (pre ++ [c])) (LB.filter fun n => (dGet kvs (nmK n)).isSome) := hLB.part huB hpB.g (hS.sub' e2) (hS.closed e2) _ fun a _ => hm' a
          have hL'l : (LB.filter fun n => (dGet kvs (nmK n)).isSome).length ≤ 10100 := Nat.le_trans (List.length_filter_le _ _) hlB
          have hmem : ((some c.key, 1) : Nm) ∈ LB.filter fun n => (dGet kvs (nmK n)).isSome := by
            rw [hL'.mem]
            exact .inr ⟨c, by rw [eN]; simp, mem_signs.mpr ⟨rfl, Int.le_refl 1, by have := gc.g0; show (1 : Int) ≤ _; omega⟩⟩
          have hjl : js.length ≤ pre.length := by rw [hj.1]; exact List.length_filter_le _ _
          refine sd_one (ss_expr (ec_append ?_))
          walk_at "sg1"
          refine ⟨RecvD.raw (j := 0) rfl, ?_⟩
          walk_at "sg1"; walk_at "sg1"
          refine ec_index (by omega) ?_
          refine ec_lc (own := [("sign", 10)]) (.nm 10) B.calm B.nd (blk_ok (N := N_growth_from) (sc := defScope S_growth_from) (by decide +kernel)) (fun s H C cl fp => pg_name sc_growth_from.nd rfl (Or.inl rfl)) (show (10 : Nat) < 11 by decide) (List.mem_cons_self) ?_
          refine sc_lst ?_
          walk_at "sg1"
          refine ⟨_, rfl, ?_⟩
          refine lck_if (α := Nm) (xs := LB) (enc := nmD) (gx := nmD) (t := fun n => (dGet kvs (nmK n)).isSome) (Nat.le_trans hlB (by decide)) trivial (fun n hn acc => ⟨_, rfl, fun p => ⟨fun s2 H2 C2 cl2 fp2 => ?_, fun _ s2 H2 C2 cl2 fp2 => ?_⟩⟩) ?_
          · refine et_cmp ?_
            walk_at "sg1"; walk_at "sg1"
            have hu2 : A.units + 3 + 16 * 6 + 200 < cLine := hu
            refine oc_din (j := 2) (kvs := kvs) (show A.units + 3 + 9 < cLine by omega) ⟨rfl, ht⟩ (nmD_key n) trivial (nmK_depth _) ?_
            exact ⟨_, rfl, rfl, rfl⟩
          · walk_at "sg1"
            exact ⟨rfl, rfl⟩
          refine ⟨(LstD.imm _ _).recv, ?_⟩
          walk_at "sg1"
          have hsh : (D.lst ((LB.filter fun n => (dGet kvs (nmK n)).isSome).map nmD)).sh := (sn_lst (n := 2) (snL_map fun a _ => nmD_sn)).sh (by decide)
          refine ⟨_, (LB.filter fun n => (dGet kvs (nmK n)).isSome).idxOf (some c.key, 1), (nmD (some c.key, 1)).py, .imm _ _, hsh, (nmD_sn (n := 0) (a := (some c.key, 1))).sh (by decide), pyL_get ?_, ?_, ?_, ?_⟩
          · have := List.idxOf_lt_length_iff.mpr hmem
            rw [List.getElem?_eq_getElem this, List.getElem_idxOf this]
          · exact (nm_eqv (some c.key, 1) (some c.key, 1)).trans (decide_eq_true rfl)
          · intro i z hi hz
            have hlt : i < (LB.filter fun n => (dGet kvs (nmK n)).isSome).length := Nat.lt_trans hi (List.idxOf_lt_length_iff.mpr hmem)
            rw [pyL_get (List.getElem?_eq_getElem hlt)] at hz
            cases hz
            refine (nm_eqv _ (some c.key, 1)).trans (decide_eq_false fun e => ?_)
            exact absurd (idx_first hlt e) (by omega)
          walk_at "sg1"
          refine ec_cfv (i := 8) L rfl (by walk_at "sgm") rfl ?_
          walk_at "sg1"
          refine ⟨(show (2 : Nat) ≤ 1000 by decide), pj, 0, _, rfl, rfl, by rw [List.length_map]; exact Nat.le_trans (by omega : _ ≤ 1000) (by decide), ?_⟩
          refine ⟨kvs, js ++ [(((LB.filter fun n => (dGet kvs (nmK n)).isSome).idxOf ((some c.key, 1) : Nm) : Int), c.group)], some (callD C c), some (.tup [keyD c.key, .int 1]), o2, rfl, ?_, ht, ?_, hm', ?_⟩
          · rw [List.map_append]; rfl
          · rw [List.length_append]; simp; omega
          · rw [eN]
            rw [eN] at hL'
            exact jrel_snoc hj hL'
    · rintro es' m' ⟨kvs, js, o8, o9, o10, rfl, rfl, ht, hl, hm, hj⟩
      have hjl : js.length ≤ o.length := by rw [hj.1]; exact List.length_filter_le _ _
      refine SD.freeze 0 7 rfl rfl ?_
      refine SD.weak (m' := m) (List.sublist_cons_self _ _) (fun _ _ z => z) ?_
      obtain ⟨fg, fdg, psg, MK, FG, hbg⟩ := MG.ok
      walk_at "sg1"; walk_at "sg1"
      refine ec_make MK FG (B.room.mono (by decide)) LG.gm hbg ?_
      walk_at "sg1"
      refine ec_call C3 B.room ?_
      walk_at "sg"
      refine ⟨R, g0, As, LA, rfl, hpA, hA, hLA, ?_⟩
      walk_at "sg"
      intro pg
      refine ⟨pg, _, js, m, rfl, rfl, hS.jok hW hLA hj, ?_, Nat.le_trans hjl hzo, rfl, _, m, rfl, hk o LA js hord hLA hj⟩
      rw [word_len]
      omega
end
end TSgP10
/-! SgL1: the law's small defs. -/
section TSgL1
set_option maxHeartbeats 4000000
open PySem PySem.Spec PyProof.Rows L2
abbrev rowsD (l : List Row) : D := .lst (l.map rowD)
section
variable {P : Program} {w : World} {K : PySem.W.Frag} {mg : Str → Option Value} {base : Heap} {f C CR CG XC XM XG : Addr} {fd : FuncData}
def FS_law_key : FSpec := fun ds m k x => ∃ r : Row, ds = [rowD r] ∧ 0 ≤ r.who ∧ r.who < r.seen.length ∧ k (keyD r.key) m
theorem ix_row {r : Row} {i : Int} {v : D} {k : KD} {m : M} {X : Cx} (ha : atI [.int r.who, seenD r, .str r.group, nmD r.anchor] i = some v) (hk : k v m) : IC X m (rowD r) (.int i) k := ic_tup ha hk
theorem at_seen {r : Row} (h0 : 0 ≤ r.who) (h1 : r.who < r.seen.length) : atI (r.seen.map D.int) r.who = some (.int (r.seen.getD r.who.toNat 0)) := at_int h0 h1
theorem fn_law_key (F : F_law_key K f fd) (gm : mg "_law_key" = some (.ref f)) : Fn P w K mg base 1 "_law_key" FS_law_key := by
  refine fn_def F sc_law_key gm (bs_law_key F) (fun ds m k x ⟨_, e, _⟩ => by rw [e]; rfl) ?_
  rintro cdv A outer s H E B ds m k x ⟨r, rfl, h0, h1, hk⟩
  walk_at "sg"
  refine ix_row (v := .int r.who) (by rfl) ?_
  walk_at "sg"
  refine ix_row (v := seenD r) (by rfl) ?_
  walk_at "sg"
  refine ix_row (v := .int r.who) (by rfl) ?_
  refine ic_tup (at_seen h0 h1) ?_
  walk_at "sg"
  exact ⟨(show (2 : Nat) ≤ 1000 by decide), hk⟩
theorem set_perm {α : Type} : ∀ {l : List α} {j : Nat} {a b : α}, l[j]? = some a → (b :: l.eraseIdx j).Perm (l.set j b)
  | [], j, a, b, h => by simp at h
  | c :: l, 0, a, b, h => List.Perm.refl _
  | c :: l, j + 1, a, b, h => (List.Perm.swap _ _ _).trans (List.Perm.cons _ (set_perm (l := l) (j := j) (a := a) (by simpa using h)))
/-- the object that is written, at the head -/
theorem SD.focus {X : Cx} {x : XD} {es : Es} {m : M} {E : DE} {sts : List Stmt} {j : Nat} {p : Addr} {o : MO} (hm : m[j]? = some (p, o)) (h : SD X x es ((p, o) :: m.eraseIdx j) sts { nx := fun es' m' => ∃ o', m' = (p, o') :: m.eraseIdx j ∧ E.nx es' (m.set j (p, o')), rt := fun d m' => ∃ o', m' = (p, o') :: m.eraseIdx j ∧ E.rt d (m.set j (p, o')) }) : SD X x es m sts E := by
  intro G σ H Dn w s hl r
  have hp : ((p, o) :: m.eraseIdx j).Perm m := by
    have := set_perm (b := (p, o)) hm
    have e : m.set j (p, o) = m := by
      obtain ⟨hlt, hj⟩ := List.getElem?_eq_some_iff.mp hm
      rw [← hj, List.set_getElem_self]
    rwa [e] at this
  refine h G σ H Dn w ⟨s.hs.perm hp, s.env⟩ hl ⟨?_, ?_, fun _ _ _ _ _ z => z.elim, fun _ _ _ _ _ z => z.elim⟩
  · rintro es' m' G' σ' H' ⟨o', rfl, z⟩ e st hl'
    exact r.nx es' _ G' σ' H' z e ⟨st.hs.perm (set_perm hm).symm, st.env⟩ hl'
  · rintro v d m' G' H' ⟨o', rfl, z⟩ e hs rr
    exact r.rt v d _ G' H' z e (hs.perm (set_perm hm).symm) rr
/-- what stands behind a statement, said once -/
theorem SS.mid {X : Cx} {x : XD} {es : Es} {m : M} {E : DE} {st : Stmt} (I : Es → M → Prop) (h : SS X x es m st { E with nx := I }) (h2 : ∀ es' m', I es' m' → E.nx es' m') : SS X x es m st E := fun G σ H Dn w s hl r =>
  h G σ H Dn w s hl ⟨fun es' m' G' σ' H' z => r.nx es' m' G' σ' H' (h2 es' m' z), r.rt, r.bk, r.ct⟩
structure LSt where
  xs : List Int
  a : Int
  b : Int
  c : Int
  e : Int
def lstD (s : LSt) : List D := [.lst (s.xs.map D.int), .int s.a, .int s.b, .int s.c, .int s.e]
structure StOk (s : LSt) : Prop where
  a0 : 0 ≤ s.a
  c0 : 0 ≤ s.c
theorem rpl_ints {K : PySem.W.Frag} {G : Hp} : ∀ xs : List Int, RpL K G (xs.map D.int) (xs.map V.int)
  | [] => .nil
  | x :: xs => .cons (.int x) (rpl_ints xs)
/-- list(script) -/
theorem cc_listS {X : Cx} {m : M} {k : KD} {xs : List Int} (hk : k (.lst (xs.map D.int)) m) : CC X (.type "list") m [.scr xs] k := CC.of call_list_of fun G H vs Q hs r q => by
  cases r with
  | cons h t =>
    cases t
    cases h with
    | scr hq => exact ⟨_, _, rfl, .inl (same_l hs.ex hq), q.lst hs hk (rpl_ints xs)⟩
def FS_law_new : FSpec := fun ds m k x => ∃ xs : List Int, ds = [.scr xs] ∧ ∀ p st, StOk st → k (.raw (.ref p)) ((p, .lst (lstD st)) :: m)
theorem fn_law_new (F : F_law_new K f fd) (gm : mg "_law_new" = some (.ref f)) (fr : Free mg) : Fn P w K mg base 1 "_law_new" FS_law_new := by
  refine fn_def F sc_law_new gm (bs_law_new F) (fun ds m k x ⟨_, e, _⟩ => by rw [e]; rfl) ?_
  rintro cdv A outer s H E B ds m k x ⟨xs, rfl, hk⟩
  walk_at "sg1"; walk_at "sg1"
  refine ec_lstM ?_
  walk_at "sg"
  refine cc_listS ?_
  walk_at "sg"
  exact ⟨(show (5 : Nat) ≤ 1000 by decide), fun p => hk p ⟨xs, 0, 0, 0, 0⟩ ⟨Int.le_refl 0, Int.le_refl 0⟩⟩
/-- a draw: some number under many -/
def FS_law_draw : FSpec := fun ds m k x => ∃ (p : Addr) (j : Nat) (st : LSt) (many : Int), ds = [.raw (.ref p), .int many] ∧ m[j]? = some (p, .lst (lstD st)) ∧ StOk st ∧ 1 ≤ many ∧ many ≤ 1000 ∧ ∀ d st', 0 ≤ d → d < many → StOk st' → k (.int d) (m.set j (p, .lst (lstD st')))
theorem fn_law_draw (F : F_law_draw K f fd) (gm : mg "_law_draw" = some (.ref f)) (fr : Free mg) : Fn P w K mg base 1 "_law_draw" FS_law_draw := by
  refine fn_def F sc_law_draw gm (bs_law_draw F) (fun ds m k x ⟨_, _, _, _, e, _⟩ => by rw [e]; rfl) ?_
  rintro cdv A outer s H E B ds m k x ⟨p, j, st, many, rfl, hm, hst, hm1, hm2, hk⟩
  refine SD.focus hm ?_
  generalize hM : m.eraseIdx j = M0
  have hret : ∀ (d : Int) (st' : LSt), 0 ≤ d → d < many → StOk st' → ∃ o', ((p, MO.lst (lstD st')) :: M0 : M) = (p, o') :: M0 ∧ k (.int d) (m.set j (p, o')) := fun d st' h0 h1 h2 => ⟨_, rfl, hk d st' h0 h1 h2⟩
  clear hk hm hM
  have ix : ∀ {i : Int} {v : D} {k : KD} {X : Cx} {s : LSt}, atI (lstD s) i = some v → k v ((p, MO.lst (lstD s)) :: M0) → IC X ((p, MO.lst (lstD s)) :: M0) (.raw (.ref p)) (.int i) k := fun ha hk => ic_raw (j := 0) rfl ha hk
  refine sd_cons (SS.mid (fun es' m' => ∃ (st' : LSt) (o2 o3 : Option D), es' = [some (.raw (.ref p)), some (.int many), o2, o3] ∧ m' = (p, .lst (lstD st')) :: M0 ∧ StOk st') ?_ ?_)
  · walk_at "sg1"
    refine EW.et (ew_and ?_)
    refine et_cmp (ec_ix ?_)
    walk_at "sg"
    refine ix (v := .int st.c) (by rfl) ?_
    walk_at "sg"
    refine ite_d (fun hc => ?_) fun hc => sd_nil ⟨st, _, _, rfl, rfl, hst⟩
    refine ew_and1 (et_cmp (ec_ix ?_))
    walk_at "sg"
    refine ix (v := .int st.a) (by rfl) ?_
    walk_at "sg"
    refine ix (v := .lst (st.xs.map D.int)) (by rfl) ?_
    walk_at "sg"
    refine cc_len (.inl (.imm _ _)) ?_
    walk_at "sg"
    refine ite_d (fun ha => ?_) fun hc => sd_nil ⟨st, _, _, rfl, rfl, hst⟩
    rw [List.length_map] at ha
    have ha0 := hst.a0
    walk_at "sg"
    refine ix (v := .lst (st.xs.map D.int)) (by rfl) ?_
    walk_at "sg"
    refine ix (v := .int st.a) (by rfl) ?_
    refine ic_lst (at_int ha0 ha) ?_
    generalize st.xs.getD st.a.toNat 0 = cell
    obtain ⟨xs, a, b, c, e⟩ := st
    have ix' : ∀ {i : Int} {v : D} {k : KD} {X : Cx} {xs : List Int} {a b c e : Int}, atI (lstD ⟨xs, a, b, c, e⟩) i = some v → k v ((p, MO.lst (lstD ⟨xs, a, b, c, e⟩)) :: M0) → IC X ((p, MO.lst (lstD ⟨xs, a, b, c, e⟩)) :: M0) (.raw (.ref p)) (.int i) k := fun ha hk => ic_raw (j := 0) rfl ha hk
    refine sd_cons (ss_lput ?_)
    walk_at "sg"
    refine oc_pow ⟨by decide, by decide, by decide⟩ ?_
    walk_at "sg"
    refine ⟨p, 0, _, 4, 4, rfl, rfl, rfl, rfl, ?_⟩
    generalize (if decide ((10 : Int) ^ Int.toNat 18 ≤ cell) = true then (1 : Int) else 0) = ne
    show SD _ _ _ ((p, MO.lst (lstD ⟨xs, a, b, c, ne⟩)) :: M0) _ _
    refine sd_cons (ss_lput ?_)
    walk_at "sg"
    refine ⟨p, 0, _, 3, 3, rfl, rfl, rfl, rfl, ?_⟩
    show SD _ _ _ ((p, MO.lst (lstD ⟨xs, a, b, 6, ne⟩)) :: M0) _ _
    refine sd_cons (ss_lput ?_)
    walk_at "sg"
    refine oc_mul (.inr ⟨by decide, by decide⟩) ?_
    walk_at "sg"
    refine ix' (v := .int a) (by rfl) ?_
    refine oc_mul (.inl ⟨by decide, by decide⟩) ?_
    walk_at "sg"
    refine oc_mod (by decide) ?_
    walk_at "sg"
    refine ⟨p, 0, _, 2, 2, rfl, rfl, rfl, rfl, ?_⟩
    generalize (cell * 69621 + 1009 * a) % 2147483647 = nb
    show SD _ _ _ ((p, MO.lst (lstD ⟨xs, a, nb, 6, ne⟩)) :: M0) _ _
    refine sd_cons (SS.mid (fun es' m' => ∃ (nb nc : Int), es' = [some (.raw (.ref p)), some (.int many), some (.int cell), none] ∧ m' = (p, .lst (lstD ⟨xs, a, nb, nc, ne⟩)) :: M0 ∧ 0 ≤ nc) ?_ ?_)
    · walk_at "sg1"
      refine et_cmp (ec_ix ?_)
      walk_at "sg"
      refine ix' (v := .int ne) (by rfl) ?_
      walk_at "sg"
      refine ite_d (fun _ => ?_) fun _ => sd_nil ⟨nb, 6, rfl, rfl, by decide⟩
      refine sd_cons (ss_lput ?_)
      walk_at "sg"
      refine ⟨p, 0, _, 3, 3, rfl, rfl, rfl, rfl, ?_⟩
      show SD _ _ _ ((p, MO.lst (lstD ⟨xs, a, nb, 60, ne⟩)) :: M0) _ _
      refine sd_one (ss_lput ?_)
      walk_at "sg"
      refine oc_pow ⟨by decide, by decide, by decide⟩ ?_
      walk_at "sg"
      exact ⟨p, 0, _, 2, 2, rfl, rfl, rfl, rfl, cell - 10 ^ Int.toNat 18, 60, rfl, rfl, by decide⟩
    · rintro es' m' ⟨nb, nc, rfl, rfl, hnc⟩
      refine sd_one (ss_lput ?_)
      walk_at "sg"
      refine ix' (v := .int a) (by rfl) ?_
      walk_at "sg"
      exact ⟨p, 0, _, 1, 1, rfl, rfl, rfl, rfl, ⟨xs, a + 1, nb, nc, ne⟩, _, _, rfl, rfl, ⟨by have : 0 ≤ a := ha0; show 0 ≤ a + 1; omega, hnc⟩⟩
  · rintro es' m' ⟨⟨xs, a, b, c, e⟩, o2, o3, rfl, rfl, hst'⟩
    have ix' : ∀ {i : Int} {v : D} {k : KD} {X : Cx} {xs : List Int} {a b c e : Int}, atI (lstD ⟨xs, a, b, c, e⟩) i = some v → k v ((p, MO.lst (lstD ⟨xs, a, b, c, e⟩)) :: M0) → IC X ((p, MO.lst (lstD ⟨xs, a, b, c, e⟩)) :: M0) (.raw (.ref p)) (.int i) k := fun ha hk => ic_raw (j := 0) rfl ha hk
    have ha0 : 0 ≤ a := hst'.a0
    have hc0 : 0 ≤ c := hst'.c0
    walk_at "sg1"; walk_at "sg1"
    refine et_cmp (ec_ix ?_)
    walk_at "sg"
    refine ix' (v := .int c) (by rfl) ?_
    walk_at "sg"
    refine ite_d (fun hc => ?_) fun hc => sd_nil ?_
    · walk_at "sg"
      exact hret 0 ⟨xs, a, b, c, e⟩ (by decide) (by omega) hst'
    refine sd_cons (ss_lput ?_)
    walk_at "sg"
    refine ix' (v := .int c) (by rfl) ?_
    walk_at "sg"
    refine ⟨p, 0, _, 3, 3, rfl, rfl, rfl, rfl, ?_⟩
    show SD _ _ _ ((p, MO.lst (lstD ⟨xs, a, b, c - 1, e⟩)) :: M0) _ _
    walk_at "sg1"; walk_at "sg1"
    refine et_cmp (ec_ix ?_)
    walk_at "sg"
    refine ix' (v := .int e) (by rfl) ?_
    walk_at "sg"
    refine ite_d (fun he => ?_) fun he => sd_nil ?_
    · walk_at "sg1"; walk_at "sg1"; walk_at "sg1"; walk_at "sg1"; walk_at "sg1"; walk_at "sg1"; walk_at "sg1"; walk_at "sg1"
      refine ix' (v := .int b) (by rfl) ?_
      walk_at "sg"
      refine oc_mod (by omega) ?_
      refine sd_cons (ss_lput ?_)
      walk_at "sg"
      refine ix' (v := .int b) (by rfl) ?_
      walk_at "sg"
      refine oc_fdiv ⟨by omega, by omega⟩ ?_
      walk_at "sg"
      refine ⟨p, 0, _, 2, 2, rfl, rfl, rfl, rfl, ?_⟩
      show SD _ _ _ ((p, MO.lst (lstD ⟨xs, a, b / many, c - 1, e⟩)) :: M0) _ _
      have hb0 : 0 ≤ b % many := Int.emod_nonneg _ (by omega)
      have hb1 : b % many < many := Int.emod_lt_of_pos _ (by omega)
      refine sd_cons (SS.mid (fun es' m' => ∃ (nc : Int), es' = [some (.raw (.ref p)), some (.int many), o2, some (.int (b % many))] ∧ m' = (p, .lst (lstD ⟨xs, a, b / many, nc, e⟩)) :: M0 ∧ 0 ≤ nc) ?_ ?_)
      · walk_at "sg1"
        refine et_cmp (ec_ix ?_)
        walk_at "sg"
        refine ix' (v := .int (b / many)) (by rfl) ?_
        walk_at "sg"
        refine ite_d (fun _ => ?_) fun _ => sd_nil ⟨c - 1, rfl, rfl, by omega⟩
        refine sd_one (ss_lput ?_)
        walk_at "sg"
        exact ⟨p, 0, _, 3, 3, rfl, rfl, rfl, rfl, 0, rfl, rfl, by decide⟩
      · rintro es' m' ⟨nc, rfl, rfl, hnc⟩
        walk_at "sg"
        exact hret _ ⟨xs, a, b / many, nc, e⟩ hb0 hb1 ⟨ha0, hnc⟩
    refine sd_cons (ss_lput ?_)
    walk_at "sg"
    refine ix' (v := .int b) (by rfl) ?_
    walk_at "sg"
    refine oc_mul (.inr ⟨by decide, by decide⟩) ?_
    walk_at "sg"
    refine oc_mod (by decide) ?_
    walk_at "sg"
    refine ⟨p, 0, _, 2, 2, rfl, rfl, rfl, rfl, ?_⟩
    generalize b * 48271 % 2147483629 = nb
    show SD _ _ _ ((p, MO.lst (lstD ⟨xs, a, nb, c - 1, e⟩)) :: M0) _ _
    walk_at "sg"
    refine ix' (v := .int nb) (by rfl) ?_
    walk_at "sg"
    refine oc_fdiv ⟨by decide, by decide⟩ ?_
    walk_at "sg"
    refine oc_mod (by omega) ?_
    exact hret _ ⟨xs, a, nb, c - 1, e⟩ (Int.emod_nonneg _ (by omega)) (Int.emod_lt_of_pos _ (by omega)) ⟨ha0, by show 0 ≤ c - 1; omega⟩
end
end TSgL1
/-! SgL2: _law_rising, _law_past and others. -/
section TSgL2
set_option maxHeartbeats 4000000
open PySem PySem.Spec PyProof.Rows L2
def eI (b : Bool) (l : List Int) : D := if b then .tup (l.map D.int) else .lst (l.map D.int)
theorem eI_lt (b : Bool) (x y : List Int) : PySem.W.dataLt (eI b x).py (eI b y).py = decide (x < y) := by
  cases b
  · exact lt_lstI x y
  · exact lt_tupI x y
theorem eI_alike (b : Bool) (x y : List Int) : PySem.W.alike (eI b x).py (eI b y).py = true := by
  cases b
  · exact alike_lstI x y
  · exact alike_tupI x y
theorem eI_sn {n : Nat} (b : Bool) (x : List Int) : D.sn (n + 1) (eI b x) := by
  cases b
  · exact sn_lst (snL_map fun _ _ => sn_int)
  · exact sn_tup (snL_map fun _ _ => sn_int)
theorem eI_ne (b : Bool) (x : List Int) : (eI b x).py ≠ .none := by
  cases b
  · exact fun z => PyData.noConfusion z
  · exact fun z => PyData.noConfusion z
theorem lt_le {x a b : List Int} (h : x < a) (h2 : ¬ b < a) : x < b := by
  by_cases h3 : a < b
  · exact List.lt_trans h h3
  · have : a = b := List.le_antisymm (List.not_lt.mp h2) (List.not_lt.mp h3)
    rw [← this]; exact h
abbrev Asc (l : List (List Int)) : Prop := l.Pairwise fun a b => ¬ b < a
def cutAt (l : List (List Int)) (x : List Int) : Nat := (l.filter fun y => !decide (x < y)).length
theorem cutAt_le {l : List (List Int)} {x : List Int} : cutAt l x ≤ l.length := List.length_filter_le _ _
theorem asc_ins {x : List Int} : ∀ {l : List (List Int)}, Asc l → Asc (l.take (cutAt l x) ++ [x] ++ l.drop (cutAt l x))
  | [], _ => by simp [Asc]
  | a :: l, h => by
    have hp := List.pairwise_cons.mp h
    unfold cutAt
    rw [List.filter_cons]
    by_cases hx : x < a
    · have hn : l.filter (fun y => !decide (x < y)) = [] := by
        rw [List.filter_eq_nil_iff]
        intro b hb
        have h2 : x < b := lt_le hx (hp.1 b hb)
        simp [h2]
      have hd : (!decide (x < a)) = false := by simp [hx]
      rw [hd, if_neg Bool.false_ne_true, hn]
      show Asc (x :: a :: l)
      refine List.pairwise_cons.mpr ⟨fun b hb => ?_, h⟩
      rcases List.mem_cons.mp hb with rfl | hb
      · exact List.not_lt.mpr (List.le_of_lt hx)
      · exact List.not_lt.mpr (List.le_of_lt (lt_le hx (hp.1 b hb)))
    · have hd : (!decide (x < a)) = true := by simp [hx]
      rw [hd, if_pos rfl, List.length_cons, List.take_succ_cons, List.drop_succ_cons]
      have ih := asc_ins (x := x) hp.2
      show Asc (a :: (l.take (cutAt l x) ++ [x] ++ l.drop (cutAt l x)))
      refine List.pairwise_cons.mpr ⟨fun b hb => ?_, ih⟩
      rw [List.append_assoc, List.mem_append, List.mem_append, List.mem_singleton] at hb
      rcases hb with hb | rfl | hb
      · exact hp.1 b (List.mem_of_mem_take hb)
      · exact hx
      · exact hp.1 b (List.mem_of_mem_drop hb)
theorem perm_ins {α : Type} {l : List α} {x : α} {n : Nat} : (l.take n ++ [x] ++ l.drop n).Perm (l ++ [x]) := by
  have h : (l.take n ++ [x] ++ l.drop n).Perm (x :: l) := by
    rw [List.append_assoc]
    refine (List.perm_middle (a := x) (l₁ := l.take n) (l₂ := l.drop n)).trans ?_
    rw [List.take_append_drop]
  exact h.trans (List.perm_append_singleton x l).symm
theorem cut_lo {α : Type} (e : α → D) (l : List α) {n : Nat} (h : n ≤ l.length) : cutD (l.map e) none (some (n : Int)) = (l.take n).map e := by
  unfold cutD
  rw [HT.sIx_nat, HT.sIx_none, List.drop_zero, Nat.sub_zero, List.length_map, Nat.min_eq_left h, List.map_take]
theorem cut_hi {α : Type} (e : α → D) (l : List α) {n : Nat} (h : n ≤ l.length) : cutD (l.map e) (some (n : Int)) none = (l.drop n).map e := by
  unfold cutD
  rw [HT.sIx_nat, HT.sIx_none, List.length_map, Nat.min_eq_left h, ← List.map_drop, List.take_of_length_le]
  rw [List.length_map, List.length_drop]
  exact Nat.le_refl _
section
variable {P : Program} {w : World} {K : PySem.W.Frag} {mg : Str → Option Value} {base : Heap} {f C CR CG XC XM XG : Addr} {fd : FuncData}
def FS_law_rising : FSpec := fun ds m k x => ∃ (b : Bool) (xs : List (List Int)), ds = [.lst (xs.map (eI b))] ∧ xs.length ≤ 20000 ∧ ∀ ys : List (List Int), ys.Perm xs → Asc ys → k (.lst (ys.map (eI b))) m
theorem fn_law_rising (F : F_law_rising K f fd) (gm : mg "_law_rising" = some (.ref f)) (fr : Free mg) : Fn P w K mg base 1 "_law_rising" FS_law_rising := by
  refine fn_def F sc_law_rising gm (bs_law_rising F) (fun ds m k x ⟨_, _, e, _⟩ => by rw [e]; rfl) ?_
  rintro cdv A outer s H E B ds m k x ⟨b, xs, rfl, hz, hk⟩
  have hu := B.room.un
  walk_at "sg1"; walk_at "sg1"
  refine ec_lst (ecs_nil ⟨by decide, ?_⟩)
  refine sd_cons (ss_forT (.nm 2) B (pg_name B.nd rfl (Or.inr rfl)) (show (2 : Nat) < 5 by decide) ?_)
  refine sc_lst ?_
  walk_at "sg1"
  refine ⟨_, rfl, List Int, xs, eI b, fun pre es' m' => ∃ (out : List (List Int)) (o2 o3 o4 : Option D), es' = [some (.lst (xs.map (eI b))), some (.lst (out.map (eI b))), o2, o3, o4] ∧ m' = m ∧ out.Perm pre ∧ Asc out, rfl, ⟨[], _, _, _, rfl, rfl, List.Perm.refl _, .nil⟩, fun _ _ _ _ => trivial, ?_, ?_⟩
  · rintro pre c post es' m' hxs ⟨out, o2, o3, o4, rfl, rfl, hp, ha⟩
    have hlen : xs.length = pre.length + (post.length + 1) := by rw [hxs, List.length_append, List.length_cons]
    have hol : out.length = pre.length := hp.length_eq
    refine ⟨_, rfl, ?_⟩
    walk_at "sg1"; walk_at "sg1"; walk_at "sg1"; walk_at "sg1"
    refine ec_lc (own := [("_law_one", 4)]) (.nm 4) B.calm B.nd (blk_ok (N := N_law_rising) (sc := defScope S_law_rising) (by decide +kernel)) (fun s H C cl fp => pg_name sc_law_rising.nd rfl (Or.inl rfl)) (show (4 : Nat) < 5 by decide) (List.mem_cons_self) ?_
    refine sc_lst ?_
    walk_at "sg1"
    refine ⟨_, rfl, ?_⟩
    have hz1 : out.length ≤ lim := Nat.le_trans (by omega : _ ≤ 20000) (by decide)
    refine lck_if (α := List Int) (xs := out) (enc := eI b) (gx := eI b) (t := fun y => !decide (c < y)) hz1 trivial (fun y hy acc => ⟨_, rfl, fun p => ⟨fun s2 H2 C2 cl2 fp2 => ?_, fun _ s2 H2 C2 cl2 fp2 => ?_⟩⟩) ?_
    · refine et_not (et_cmp ?_)
      walk_at "sg1"; walk_at "sg1"
      have hu2 : A.units + 3 + 16 * 0 + 200 < cLine := hu
      refine oc_ltD (show A.units + 3 + 64 < cLine by omega) ((eI_sn (n := 0) b c).sh (by decide)) ((eI_sn (n := 0) b y).sh (by decide)) (eI_alike b c y) (eI_ne b c) ?_
      rw [eI_lt]
      exact ⟨_, rfl, rfl, rfl⟩
    · walk_at "sg1"
      exact ⟨rfl, rfl⟩
    walk_at "sg1"
    refine cc_len (.inl (.imm _ _)) ?_
    rw [List.length_map]
    have hcl := cutAt_le (l := out) (x := c)
    have hcl' : (out.filter fun y => !decide (c < y)).length ≤ out.length := hcl
    walk_at "sg1"; walk_at "sg1"; walk_at "sg1"; walk_at "sg1"; walk_at "sg1"; walk_at "sg1"
    show EC _ _ _ _ _ _
    walk_at "sg1"
    refine ⟨_, rfl, lc_list (.imm _ _) ?_⟩
    rw [cut_lo (eI b) out hcl']
    refine ec_lst ?_
    walk_at "sg"
    refine ⟨(show (1 : Nat) ≤ 1000 by decide), ?_⟩
    refine oc_cat (.imm _ _) (.imm _ _) ?_ ?_
    · rw [List.length_map, List.length_take]
      exact Nat.le_trans (by simp; omega : _ ≤ 30000) (by decide)
    walk_at "sg1"; walk_at "sg1"
    show EC _ _ _ _ _ _
    walk_at "sg1"
    refine ⟨_, rfl, lc_list (.imm _ _) ?_⟩
    rw [cut_hi (eI b) out hcl']
    refine oc_cat (.imm _ _) (.imm _ _) ?_ ?_
    · rw [List.length_append, List.length_map, List.length_map, List.length_take, List.length_drop]
      exact Nat.le_trans (by simp; omega : _ ≤ 30000) (by decide)
    have e : (out.take (cutAt out c)).map (eI b) ++ [eI b c] ++ (out.drop (cutAt out c)).map (eI b) = (out.take (cutAt out c) ++ [c] ++ out.drop (cutAt out c)).map (eI b) := by simp
    refine ⟨out.take (cutAt out c) ++ [c] ++ out.drop (cutAt out c), some (eI b c), some (.int (cutAt out c : Nat)), o4, ?_, rfl, perm_ins.trans (hp.append_right _), asc_ins ha⟩
    rw [← e]
    rfl
  · rintro es' m' ⟨out, o2, o3, o4, rfl, rfl, hp, ha⟩
    walk_at "sg"
    exact hk out hp ha
end
end TSgL2
/-! SgL3: _law_calls, _law_by_stamps. -/
section TSgL3
set_option maxHeartbeats 4000000
open PySem PySem.Spec PyProof.Rows L2
theorem rowD_sn {n : Nat} {r : Row} (h : ∀ c ∈ r.group.cps.toList, c < 0x110000) : D.sn (n + 3) (rowD r) := sn_tup (snL_cons sn_int (snL_cons seenD_sn (snL_cons (sn_str h) (snL_cons nmD_sn snL_nil))))
section
variable {P : Program} {w : World} {K : PySem.W.Frag} {mg : Str → Option Value} {base : Heap} {f C CR CG XC XM XG : Addr} {fd : FuncData}
theorem keyD_sn {n : Nat} (q : Key) : (keyD q).sh ∧ True := ⟨(sn_tup (n := 0) (snL_cons sn_int (snL_cons sn_int snL_nil)) : D.sn 1 (keyD q)).sh (by decide), trivial⟩
theorem key_eqv (a b : Key) : PyData.eqv (keyD a).py (keyD b).py = decide (a = b) := eqv_dec rfl rfl ⟨fun h => by
  simp only [keyD, D.tup.injEq, List.cons.injEq, D.int.injEq, and_true] at h
  exact Prod.ext h.1 h.2, fun h => by rw [h]⟩
structure CallM (P : Program) (w : World) (K : PySem.W.Frag) (mg : Str → Option Value) (base : Heap) (C : Addr) : Prop where
  ok : ∃ f fd ps, Mk K C f ∧ FnOk P w K mg base (L2.CX P w) 3 f fd ps (spD K w (FS_Call_init C)) ∧ Binds K fd ps []
def FS_law_calls (C : Addr) : FSpec := fun ds m k x => ∃ rows : List Row, ds = [rowsD rows] ∧ (∀ r ∈ rows, Good r) ∧ rows.length ≤ 1000 ∧ k (.lst (rows.map (callD C))) m
theorem fn_law_calls (F : F_law_calls K f fd) (gm : mg "_law_calls" = some (.ref f)) (fr : Free mg) (L : CallF K mg C) (MC : CallM P w K mg base C) : Fn P w K mg base 5 "_law_calls" (FS_law_calls C) := by
  refine fn_def F sc_law_calls gm (bs_law_calls F) (fun ds m k x ⟨_, e, _⟩ => by rw [e]; rfl) ?_
  rintro cdv A outer s H E B ds m k x ⟨rows, rfl, hg, hz, hk⟩
  obtain ⟨fc, fdc, psc, MK, FC, hbc⟩ := MC.ok
  walk_at "sg1"; walk_at "sg1"
  refine ec_lc (own := [("_law_row", 1)]) (.nm 1) B.calm B.nd (blk_ok (N := N_law_calls) (sc := defScope S_law_calls) (by decide +kernel)) (fun s H C cl fp => pg_name sc_law_calls.nd rfl (Or.inl rfl)) (show (1 : Nat) < 2 by decide) (List.mem_cons_self) ?_
  refine sc_lst ?_
  walk_at "sg1"
  refine ⟨_, rfl, ?_⟩
  refine lck_map (α := Row) (xs := rows) (enc := rowD) (gx := callD C) (Nat.le_trans hz (by decide)) trivial (fun r hr acc => ⟨_, rfl, fun p s2 H2 C2 cl2 fp2 => ?_⟩) hk
  have gr := hg r hr
  refine ec_make MK FC (B.room.mono (by decide)) L.gm hbc ?_
  walk_at "sg"
  refine ix_row (v := .int r.who) (by rfl) ?_
  walk_at "sg"
  refine ix_row (v := seenD r) (by rfl) ?_
  walk_at "sg"
  refine cc_list (.inr rfl) ?_
  walk_at "sg"
  refine ix_row (v := .str r.group) (by rfl) ?_
  walk_at "sg"
  refine ix_row (v := nmD r.anchor) (by rfl) ?_
  walk_at "sg"
  intro pc
  exact ⟨pc, r, _, rfl, rfl, gr, rfl, _, _, rfl, rfl, rfl⟩
/-! ### the stamps -/
def FS_law_by_stamps : FSpec := fun ds m k x => ∃ rows o : List Row, ds = [rowsD rows] ∧ (∀ r ∈ rows, Good r) ∧ rows.Nodup ∧ Uniq rows ∧ rows.length ≤ 1000 ∧ Ord rows o ∧ k (rowsD o) m
theorem st_eq {a b : Row} (h : stI a = stI b) : a.clock = b.clock ∧ a.who = b.who ∧ a.num = b.num := by
  unfold stI at h
  simp only [List.cons.injEq, and_true] at h
  exact h
/-- rows whose key is the stamp's -/
theorem key_filter {rows : List Row} (u : Uniq rows) (hn : rows.Nodup) {r : Row} (hr : r ∈ rows) : (rows.filter fun q => decide (q.key = r.key)) = [r] := by
  have h1 : (rows.filter fun q => decide (q.key = r.key)) = rows.filter fun q => decide (q = r) := by
    refine List.filter_congr fun q hq => ?_
    rw [decide_eq_decide]
    exact ⟨fun e => u q hq r hr e, fun e => by rw [e]⟩
  rw [h1]
  clear h1 u
  induction rows with
  | nil => simp at hr
  | cons a rows ih =>
    rw [List.nodup_cons] at hn
    rw [List.filter_cons]
    by_cases e : a = r
    · subst e
      rw [if_pos (decide_eq_true rfl)]
      have : rows.filter (fun q => decide (q = a)) = [] := by
        rw [List.filter_eq_nil_iff]
        intro q hq
        simp
        exact fun e => hn.1 (by rw [← e]; exact hq)
      rw [this]
    · rw [if_neg (by simp [e])]
      exact ih hn.2 ((List.mem_cons.mp hr).resolve_left fun z => e z.symm)
theorem fn_law_by_stamps (F : F_law_by_stamps K f fd) (gm : mg "_law_by_stamps" = some (.ref f)) (fr : Free mg) (C1 : Fn P w K mg base 1 "_law_rising" FS_law_rising) (C2 : Fn P w K mg base 1 "_law_key" FS_law_key) : Fn P w K mg base 2 "_law_by_stamps" FS_law_by_stamps := by
  refine fn_def F sc_law_by_stamps gm (bs_law_by_stamps F) (fun ds m k x ⟨_, _, e, _⟩ => by rw [e]; rfl) ?_
  rintro cdv A outer s H E B ds m k x ⟨rows, o, rfl, hg, hnd, hun, hz, hord, hk⟩
  walk_at "sg1"; walk_at "sg1"
  refine ec_call C1 B.room ?_
  walk_at "sg1"
  refine ec_lc (own := [("_law_row", 4)]) (.nm 4) B.calm B.nd (blk_ok (N := N_law_by_stamps) (sc := defScope S_law_by_stamps) (by decide +kernel)) (fun s H C cl fp => pg_name sc_law_by_stamps.nd rfl (Or.inl rfl)) (show (4 : Nat) < 5 by decide) (List.mem_cons_self) ?_
  refine sc_lst ?_
  walk_at "sg1"
  refine ⟨_, rfl, ?_⟩
  refine lck_map (α := Row) (xs := rows) (enc := rowD) (gx := fun r => stD r) (Nat.le_trans hz (by decide)) trivial (fun r hr acc => ⟨_, rfl, fun p s2 H2 C2' cl2 fp2 => ?_⟩) ?_
  · have gr := hg r hr
    walk_at "sg"
    refine ix_row (v := seenD r) (by rfl) ?_
    walk_at "sg"
    refine cc_sumT (by exact B.room.hd) ?_
    walk_at "sg"
    refine ix_row (v := .int r.who) (by rfl) ?_
    walk_at "sg"
    refine ec_call C2 (by exact B.room) ?_
    walk_at "sg"
    refine ⟨r, rfl, gr.w0, gr.w1, ?_⟩
    walk_at "sg"
    refine ic_tup (at_nat (v := .int r.num) (by decide) rfl) ?_
    walk_at "sg"
    exact ⟨(show (3 : Nat) ≤ 1000 by decide), rfl, rfl⟩
  walk_at "sg1"
  have eS : rows.map (fun r => stD r) = (rows.map stI).map (eI true) := by rw [List.map_map]; rfl
  refine ⟨true, rows.map stI, by rw [eS], by rw [List.length_map]; omega, fun ys hp ha => ?_⟩
  have hys : ys = o.map stI := by
    have inj : ∀ a ∈ rows, ∀ b ∈ rows, stI a = stI b → a = b := fun a ha b hb e => hun a ha b hb (Prod.ext (st_eq e).2.1 (st_eq e).2.2)
    have hnd2 : (rows.map stI).Nodup := by
      rw [List.Nodup, List.pairwise_map]
      exact hnd.imp_of_mem fun {a b} ha hb hne e => hne (inj a ha b hb e)
    have hs1 : ys.Pairwise (· < ·) := strict_of ha (hp.nodup_iff.mpr hnd2)
    have hs2 : (o.map stI).Pairwise (· < ·) := by
      rw [List.pairwise_map]
      refine hord.srt.imp_of_mem fun {a b} ha hb h => ?_
      rw [st_lt, ← code_lt (hg a ((hord.mem a).mp ha)) (hg b ((hord.mem b).mp hb))]
      exact h
    refine sorted_unique (fun a b h1 h2 => lt_ir a (lt_tr h1 h2)) hs1 hs2 fun a => ?_
    rw [hp.mem_iff, List.mem_map, List.mem_map]
    exact ⟨fun ⟨r, hr, e⟩ => ⟨r, (hord.mem r).mpr hr, e⟩, fun ⟨r, hr, e⟩ => ⟨r, (hord.mem r).mp hr, e⟩⟩
  subst hys
  have hno : o.Nodup := hord.nodup
  have hlo : o.length ≤ rows.length := nodup_len hno fun r hr => (hord.mem r).mp hr
  walk_at "sg1"; walk_at "sg1"
  refine ec_lst (ecs_nil ⟨by decide, ?_⟩)
  refine sd_cons (ss_forT (.nm 3) B (pg_name B.nd rfl (Or.inr rfl)) (show (3 : Nat) < 5 by decide) ?_)
  refine sc_lst ?_
  walk_at "sg1"
  refine ⟨_, rfl, Row, o, fun r => eI true (stI r), fun pre es' m' => ∃ (o3 o4 : Option D), es' = [some (rowsD rows), some (.lst ((o.map stI).map (eI true))), some (rowsD pre), o3, o4] ∧ m' = m, by rw [List.map_map]; rfl, ⟨_, _, rfl, rfl⟩, fun _ _ _ _ => trivial, ?_, ?_⟩
  · rintro pre c post es' m' hxs ⟨o3, o4, rfl, rfl⟩
    have hc : c ∈ o := by rw [hxs]; simp
    have hcr := (hord.mem c).mp hc
    have hlen : o.length = pre.length + (post.length + 1) := by rw [hxs, List.length_append, List.length_cons]
    refine ⟨_, rfl, ?_⟩
    walk_at "sg1"; walk_at "sg1"; walk_at "sg1"; walk_at "sg1"
    refine ec_lc (own := [("_law_row", 4)]) (.nm 4) B.calm B.nd (blk_ok (N := N_law_by_stamps) (sc := defScope S_law_by_stamps) (by decide +kernel)) (fun s H C cl fp => pg_name sc_law_by_stamps.nd rfl (Or.inl rfl)) (show (4 : Nat) < 5 by decide) (List.mem_cons_self) ?_
    refine sc_lst ?_
    walk_at "sg1"
    refine ⟨_, rfl, ?_⟩
    refine lck_if (α := Row) (xs := rows) (enc := rowD) (gx := rowD) (t := fun q => decide (q.key = c.key)) (Nat.le_trans hz (by decide)) trivial (fun q hq acc => ⟨_, rfl, fun p => ⟨fun s2 H2 C2' cl2 fp2 => ?_, fun _ s2 H2 C2' cl2 fp2 => ?_⟩⟩) ?_
    · have gq := hg q hq
      refine et_cmp (ec_call C2 (by exact B.room) ?_)
      walk_at "sg"
      refine ⟨q, rfl, gq.w0, gq.w1, ?_⟩
      walk_at "sg"
      refine ic_tup (at_nat (v := .int c.who) (by decide) rfl) ?_
      walk_at "sg"
      refine ic_tup (at_nat (v := .int c.num) (by decide) rfl) ?_
      walk_at "sg"
      refine ⟨(show (2 : Nat) ≤ 1000 by decide), ?_⟩
      have hu2 : A.units + 3 + 16 * 1 + 200 < cLine := B.room.un
      refine oc_eq (show A.units + 3 + 64 < cLine by omega) (keyD_sn (n := 0) q.key).1 (keyD_sn (n := 0) c.key).1 ?_
      rw [show PyData.eqv (keyD q.key).py (D.tup [D.int c.who, D.int c.num]).py = decide (q.key = c.key) from key_eqv q.key c.key]
      exact ⟨_, rfl, rfl, rfl⟩
    · walk_at "sg1"
      exact ⟨rfl, rfl⟩
    rw [key_filter hun hnd hcr]
    refine oc_cat (.imm _ _) (.imm _ _) ?_ ?_
    · rw [List.length_map]
      exact Nat.le_trans (by simp; omega : _ ≤ 3000) (by decide)
    rw [← List.map_append]
    exact ⟨_, _, rfl, rfl⟩
  · rintro es' m' ⟨o3, o4, rfl, rfl⟩
    walk_at "sg"
    exact hk
end
end TSgL3
/-! SgL4: _law_layout. -/
section TSgL4
set_option maxHeartbeats 4000000
open PySem PySem.Spec PyProof.Rows L2
abbrev Pe := List Int × Nm
def peD (e : Pe) : D := .lst [.lst (e.1.map D.int), okd e.2.1, .int e.2.2]
abbrev rimE : Pe := ([0, 0], (none, 0))
def rankT (R : Rul) (o : List Row) (r : Row) : Int := if R.oldest then (o.idxOf r : Int) else 0 - (o.idxOf r : Int)
theorem rank_iso {R : Rul} {rows o : List Row} (h : Ord rows o) : Iso (rankT R o) R rows := fun a ha b hb => by
  have h1 := h.idx ((h.mem a).mpr ha) ((h.mem b).mpr hb)
  have h2 := h.idx ((h.mem b).mpr hb) ((h.mem a).mpr ha)
  unfold rankT turn
  split <;> omega
/-- the start's entries -/
def stE (R : Rul) (g0 : Str) (p : Nat) : Pe := ([if R.after then (p : Int) + 1 else (g0.length : Int) - p, 0], (none, (p : Int) + 1))
/-- the entries of a call at rank i whose anchor's path is b -/
def rwE (R : Rul) (i : Int) (b : List Int) (r : Row) (p : Nat) : Pe :=
  (b ++ (if R.whole then [if R.oldest then i else 0 - i, if R.after then (p : Int) else (r.group.length : Int) - p] else [if R.after then (p : Int) else (r.group.length : Int) - p, if R.oldest then i else 0 - i]), (some r.key, (p : Int) + 1))
theorem idx_nodup {l : List Row} (hn : l.Nodup) {i : Nat} {a : Row} (h : l[i]? = some a) : l.idxOf a = i := by
  obtain ⟨h1, h2⟩ := List.getElem?_eq_some_iff.mp h
  have h3 := List.idxOf_lt_length_iff.mpr (h2 ▸ List.getElem_mem h1)
  have h4 : l[l.idxOf a]? = l[i]? := by rw [List.getElem?_eq_getElem h3, List.getElem_idxOf h3, h]
  exact (List.getElem?_inj h3 hn).mp h4
theorem signs_nodup (k : Option Key) (g : Str) : (signs k g).Nodup := by
  unfold signs
  rw [List.Nodup, List.pairwise_map]
  refine List.nodup_range.imp fun {a b} h e => h ?_
  have := congrArg Prod.snd e
  simp only at this
  omega
theorem allN_nodup {g0 : Str} {o : List Row} (hn : o.Nodup) (u : Uniq o) : (allN g0 o).Nodup := by
  have key : ∀ l : List Row, l.Nodup → Uniq l → (l.flatMap fun r => signs (some r.key) r.group).Nodup := by
    intro l
    induction l with
    | nil => intro _ _; simp
    | cons r l ih =>
      intro hn u
      rw [List.nodup_cons] at hn
      rw [List.flatMap_cons, List.nodup_append]
      refine ⟨signs_nodup _ _, ih hn.2 fun a ha b hb e => u a (List.mem_cons_of_mem _ ha) b (List.mem_cons_of_mem _ hb) e, fun a ha b hb e => ?_⟩
      obtain ⟨q, hq, hb⟩ := List.mem_flatMap.mp hb
      subst e
      have h1 := (mem_signs.mp ha).1
      have h2 := (mem_signs.mp hb).1
      rw [h1] at h2
      have := u r List.mem_cons_self q (List.mem_cons_of_mem _ hq) (Option.some.inj h2)
      subst this
      exact hn.1 hq
  unfold allN
  rw [List.nodup_append]
  refine ⟨signs_nodup _ _, key o hn u, fun a ha b hb e => ?_⟩
  obtain ⟨q, hq, hb⟩ := List.mem_flatMap.mp hb
  subst e
  have h1 := (mem_signs.mp ha).1
  have h2 := (mem_signs.mp hb).1
  rw [h1] at h2
  cases h2
section
variable {P : Program} {w : World} {K : PySem.W.Frag} {mg : Str → Option Value} {base : Heap} {f C CR CG XC XM XG : Addr} {fd : FuncData}
def FS_law_layout : FSpec := fun ds m k x => ∃ (R : Rul) (g0 : Str) (rows : List Row), ds = [.str (sideS R), .str (orderS R), .str (linkS R), .str g0, rowsD rows] ∧ LayP g0 rows ∧ rows.Nodup ∧ Uniq rows ∧ Closed g0 rows ∧ ∀ L, IsLine R g0 rows L → k (nmsD L) m
theorem fn_law_layout (F : F_law_layout K f fd) (gm : mg "_law_layout" = some (.ref f)) (fr : Free mg) (C1 : Fn P w K mg base 1 "_law_rising" FS_law_rising) (C2 : Fn P w K mg base 1 "_law_key" FS_law_key) (C3 : Fn P w K mg base 2 "_law_by_stamps" FS_law_by_stamps) : Fn P w K mg base 3 "_law_layout" FS_law_layout := by
  refine fn_def F sc_law_layout gm (bs_law_layout F) (fun ds m k x ⟨_, _, _, e, _⟩ => by rw [e]; rfl) ?_
  rintro cdv A outer s H E B ds m k x ⟨R, g0, rows, rfl, hp, hnd, hun, hcl, hk⟩
  obtain ⟨o, hord⟩ := ord_ex hun hp.g
  have hu := B.room.un
  have hg0 := hp.g0
  have hz := hp.z
  walk_at "sg1"; walk_at "sg1"; walk_at "sg1"; walk_at "sg1"; walk_at "sg1"; walk_at "sg1"
  refine cc_lenS (Nat.le_trans hg0 (by decide)) ?_
  walk_at "sg1"; walk_at "sg1"
  refine ec_lstM ?_
  walk_at "sg1"
  refine ec_lst ?_
  walk_at "sg1"
  refine ec_lst ?_
  walk_at "sg"
  refine ⟨(show (2 : Nat) ≤ 1000 by decide), ?_⟩
  walk_at "sg"
  refine ⟨(show (3 : Nat) ≤ 1000 by decide), ?_⟩
  walk_at "sg"
  refine ⟨(show (1 : Nat) ≤ 1000 by decide), fun pp => ?_⟩
  refine sd_cons (ss_forT (.nm 7) B (pg_name B.nd rfl (Or.inl rfl)) (show (7 : Nat) < 18 by decide) ?_)
  refine sc_range fr.range ?_
  walk_at "sg1"
  refine ⟨g0.length, rfl, Nat.le_trans hg0 (by decide), ?_⟩
  let env0 : Es := [some (.str (sideS R)), some (.str (orderS R)), some (.str (linkS R)), some (.str g0), some (rowsD rows), some (.int (g0.length : Nat)), some (.raw (.ref pp))]
  refine ⟨Nat, List.range g0.length, fun (i : Nat) => .int (0 + (i : Int)), fun pre es' m' => ∃ (o7 : Option D), es' = env0 ++ [o7, none, none, none, none, none, none, none, none, none, none] ∧ m' = (pp, .lst ((rimE :: pre.map (stE R g0)).map peD)) :: m ∧ pre = List.range pre.length, rfl, ⟨_, rfl, rfl, rfl⟩, fun _ _ _ _ => trivial, ?_, ?_⟩
  · rintro pre c post es' m' hxs ⟨o7, rfl, rfl, hpre⟩
    have hcp : c = pre.length ∧ pre ++ [c] = List.range (pre.length + 1) := by
      have h1 : (List.range g0.length)[pre.length]? = some c := by rw [hxs, List.getElem?_append_right (Nat.le_refl _), Nat.sub_self]; rfl
      obtain ⟨h2, h3⟩ := List.getElem?_eq_some_iff.mp h1
      rw [List.getElem_range] at h3
      exact ⟨h3.symm, by rw [List.range_succ, ← hpre, h3]⟩
    have hlt : c < g0.length := by
      have : c ∈ List.range g0.length := by rw [hxs]; simp
      exact List.mem_range.mp this
    have hlp : pre.length ≤ 100 := by rw [hcp.1] at hlt; omega
    refine ⟨_, rfl, sd_one (ss_expr (ec_append ?_))⟩
    walk_at "sg1"
    refine ⟨RecvD.raw (j := 0) rfl, ?_⟩
    refine ec_lst ?_
    walk_at "sg1"
    refine ec_lst ?_
    walk_at "sg1"
    refine EC.imp (k := fun d m2 => d = .int (if R.after then (c : Int) + 1 else (g0.length : Int) - c) ∧ m2 = (pp, .lst ((rimE :: pre.map (stE R g0)).map peD)) :: m) ?_ ?_
    · refine ec_if (et_cmp ?_)
      walk_at "sg"
      cases hR : R.after with
      | true =>
        have e : sideS R = "after" := by unfold sideS; rw [hR]; rfl
        refine ite_d (fun _ => ?_) fun h => absurd e h
        walk_at "sg"
        exact ⟨by rw [if_pos rfl, Int.zero_add], rfl⟩
      | false =>
        have e : ¬ sideS R = "after" := by unfold sideS; rw [hR]; decide +kernel
        refine ite_d (fun h => absurd h e) fun _ => ?_
        walk_at "sg"
        exact ⟨by rw [if_neg Bool.false_ne_true, Int.zero_add], rfl⟩
    rintro d m2 ⟨rfl, rfl⟩
    walk_at "sg"
    refine ⟨(show (2 : Nat) ≤ 1000 by decide), ?_⟩
    walk_at "sg"
    refine ⟨(show (3 : Nat) ≤ 1000 by decide), pp, 0, _, rfl, rfl, ?_, _, rfl, ?_, ?_⟩
    · rw [List.length_map, List.length_cons, List.length_map]
      exact Nat.le_trans (by omega : _ ≤ 200) (by decide)
    · have e1 : (rimE :: (pre ++ [c]).map (stE R g0)).map peD = (rimE :: pre.map (stE R g0)).map peD ++ [peD (stE R g0 c)] := by simp
      rw [e1]
      show _ :: m = _ :: m
      congr 4
      unfold peD stE
      rw [Int.zero_add]
      rfl
    · rw [List.length_append]; exact hcp.2
  · rintro es' m' ⟨o7, rfl, rfl, _⟩
    have hno := hord.nodup
    have hlo : o.length ≤ rows.length := nodup_len hno fun r hr => (hord.mem r).mp hr
    have hgo : ∀ r ∈ o, Good r := fun r hr => hp.g r ((hord.mem r).mp hr)
    have hps : ∀ e ∈ (List.range g0.length).map (stE R g0), ∃ c, PathC R g0 rows e.2 c ∧ e.1 = tv (rankT R o) c := by
      intro e he
      obtain ⟨p, hpr, rfl⟩ := List.mem_map.mp he
      have hlt := List.mem_range.mp hpr
      refine ⟨_, PathC.start ((p : Int) + 1) (by omega) (by omega), ?_⟩
      show [_, 0] = [_, 0]
      congr 1
      show (if R.after then (p : Int) + 1 else (g0.length : Int) - p) = (if R.after then (p : Int) + 1 else (g0.length : Int) - ((p : Int) + 1 - 1))
      split
      · rfl
      · omega
    have hlps : ∀ e ∈ (List.range g0.length).map (stE R g0), e.1.length ≤ 2 + 2 * ([] : List Nat).length := by
      intro e he
      obtain ⟨p, hpr, rfl⟩ := List.mem_map.mp he
      exact Nat.le_refl 2
    have hns : ((List.range g0.length).map (stE R g0)).map (·.2) = signs none g0 := by
      unfold signs
      rw [List.map_map]
      rfl
    walk_at "sg1"; walk_at "sg1"
    refine ec_call C3 (B.room.mono (by decide)) ?_
    walk_at "sg"
    refine ⟨rows, o, rfl, hp.g, hnd, hun, hz, hord, ?_⟩
    let env1 : Es := [some (.str (sideS R)), some (.str (orderS R)), some (.str (linkS R)), some (.str g0), some (rowsD rows), some (.int (g0.length : Nat)), some (.raw (.ref pp))]
    refine sd_cons (ss_forT (.nm 9) B (pg_name B.nd rfl (Or.inl rfl)) (show (9 : Nat) < 18 by decide) ?_)
    refine sc_range fr.range ?_
    walk_at "sg1"; walk_at "sg1"; walk_at "sg1"; walk_at "sg1"
    refine cc_len (.inl (.imm _ _)) ?_
    rw [List.length_map]
    refine ⟨o.length, rfl, Nat.le_trans (Nat.le_trans hlo hz) (by decide), ?_⟩
    refine ⟨Nat, List.range o.length, fun (i : Nat) => .int (0 + (i : Int)), fun pre es' m' => ∃ (es : List Pe) (o7 o9 o10 o11 o12 o13 o14 o15 o16 o17 : Option D), es' = [some (.str (sideS R)), some (.str (orderS R)), some (.str (linkS R)), some (.str g0), some (rowsD rows), some (.int (g0.length : Nat)), some (.raw (.ref pp)), o7, some (rowsD o), o9, o10, o11, o12, o13, o14, o15, o16, o17] ∧ m' = (pp, .lst ((rimE :: es).map peD)) :: m ∧ pre = List.range pre.length ∧ (∀ e ∈ es, ∃ c, PathC R g0 rows e.2 c ∧ e.1 = tv (rankT R o) c) ∧ (∀ e ∈ es, e.1.length ≤ 2 + 2 * pre.length) ∧ es.map (·.2) = signs none g0 ++ (o.take pre.length).flatMap fun r => signs (some r.key) r.group, rfl, ⟨(List.range g0.length).map (stE R g0), _, _, _, _, _, _, _, _, _, _, rfl, rfl, rfl, hps, hlps, by rw [hns]; simp⟩, fun _ _ _ _ => trivial, ?_, ?_⟩
    · rintro pre c post es' m' hxs ⟨es, o7, o9, o10, o11, o12, o13, o14, o15, o16, o17, rfl, rfl, hpre, hes, hlb, hnm⟩
      have hcp : c = pre.length ∧ pre ++ [c] = List.range (pre.length + 1) := by
        have h1 : (List.range o.length)[pre.length]? = some c := by rw [hxs, List.getElem?_append_right (Nat.le_refl _), Nat.sub_self]; rfl
        obtain ⟨h2, h3⟩ := List.getElem?_eq_some_iff.mp h1
        rw [List.getElem_range] at h3
        exact ⟨h3.symm, by rw [List.range_succ, ← hpre, h3]⟩
      have hlt : c < o.length := by
        have : c ∈ List.range o.length := by rw [hxs]; simp
        exact List.mem_range.mp this
      obtain ⟨r, hr⟩ : ∃ r, o[c]? = some r := ⟨_, List.getElem?_eq_getElem hlt⟩
      have hro : r ∈ o := List.mem_of_getElem? hr
      have hrr : r ∈ rows := (hord.mem r).mp hro
      have gr := hp.g r hrr
      have hel : es.length ≤ 100 + 10 * pre.length := by
        have h1 := congrArg List.length hnm
        rw [List.length_map, List.length_append, signs_len] at h1
        have h2 : ∀ l : List Row, (∀ q ∈ l, Good q) → (l.flatMap fun r => signs (some r.key) r.group).length ≤ 10 * l.length := by
          intro l
          induction l with
          | nil => intro _; simp
          | cons q l ih =>
            intro h
            have h3 := ih fun z hz => h z (List.mem_cons_of_mem _ hz)
            have h4 := (h q List.mem_cons_self).g1
            rw [List.flatMap_cons, List.length_append, signs_len, List.length_cons]
            omega
        have h3 := h2 (o.take pre.length) fun q hq => hgo q (List.mem_of_mem_take hq)
        rw [List.length_take] at h3
        omega
      have hanc : ∃ e ∈ rimE :: es, e.2 = r.anchor := by
        have hin : r.anchor = (none, 0) ∨ r.anchor ∈ es.map (·.2) := by
          rcases hcl r hrr with z | z | ⟨q, hq, hlt2, z⟩
          · exact .inl z
          · exact .inr (by rw [hnm]; exact List.mem_append_left _ z)
          · refine .inr ?_
            rw [hnm]
            refine List.mem_append_right _ (List.mem_flatMap.mpr ⟨q, ?_, z⟩)
            obtain ⟨i, hi⟩ := List.mem_iff_getElem?.mp ((hord.mem q).mpr hq)
            have hic : i < c := by
              rcases Nat.lt_or_ge i c with h | h
              · exact h
              · exfalso
                obtain ⟨a1, a2⟩ := List.getElem?_eq_some_iff.mp hi
                obtain ⟨b1, b2⟩ := List.getElem?_eq_some_iff.mp hr
                rcases Nat.lt_or_ge c i with h2 | h2
                · have := (List.pairwise_iff_getElem.mp hord.srt) c i b1 a1 h2
                  rw [a2, b2] at this
                  omega
                · have : i = c := by omega
                  subst this
                  rw [hi] at hr
                  cases hr
                  omega
            rw [hcp.1] at hic
            exact List.mem_of_getElem? (i := i) (by rw [List.getElem?_take, if_pos hic, hi])
        rcases hin with z | z
        · exact ⟨rimE, List.mem_cons_self, z.symm⟩
        · obtain ⟨e, he, z⟩ := List.mem_map.mp z
          exact ⟨e, List.mem_cons_of_mem _ he, z⟩
      refine ⟨_, rfl, ?_⟩
      walk_at "sg"
      show IC _ _ (rowsD o) (.int (0 + (c : Int))) _
      rw [Int.zero_add]
      refine ic_lst (atI_nat (by rw [List.getElem?_map, hr]; rfl)) ?_
      walk_at "sg1"; walk_at "sg1"; walk_at "sg1"
      refine ec_lc (own := [("_law_one", 17)]) (.nm 17) B.calm B.nd (blk_ok (N := N_law_layout) (sc := defScope S_law_layout) (by decide +kernel)) (fun s H C cl fp => pg_name sc_law_layout.nd rfl (Or.inl rfl)) (show (17 : Nat) < 18 by decide) (List.mem_cons_self) ?_
      refine sc_raw ?_
      walk_at "sg1"
      refine ⟨pp, 0, _, rfl, rfl, ?_⟩
      refine lck_if (α := Pe) (xs := rimE :: es) (enc := peD) (gx := fun e => .lst (e.1.map D.int)) (t := fun e => decide (e.2 = r.anchor)) (Nat.le_trans (by rw [List.length_cons]; omega : _ ≤ 20000) (by decide)) ⟨0, rfl⟩ (fun e he acc => ⟨_, rfl, fun p => ⟨fun s2 H2 C2' cl2 fp2 => ?_, fun _ s2 H2 C2' cl2 fp2 => ?_⟩⟩) ?_
      · have hu2 : A.units + 3 + 16 * 2 + 200 < cLine := hu
        refine et_cmp ?_
        walk_at "sg"
        refine ic_lst (d := okd e.2.1) (at_nat (by decide) rfl) ?_
        walk_at "sg"
        refine ic_lst (d := .int e.2.2) (at_nat (by decide) rfl) ?_
        walk_at "sg"
        refine ⟨(show (2 : Nat) ≤ 1000 by decide), ?_⟩
        walk_at "sg"
        refine ix_row (v := nmD r.anchor) (by rfl) ?_
        refine oc_eq (show A.units + 3 + 64 < cLine by omega) ((nmD_sn (n := 0) (a := e.2)).sh (by decide)) ((nmD_sn (n := 0) (a := r.anchor)).sh (by decide)) ?_
        rw [show PyData.eqv (D.tup [okd e.2.1, D.int e.2.2]).py (nmD r.anchor).py = decide (e.2 = r.anchor) from nm_eqv e.2 r.anchor]
        exact ⟨_, rfl, rfl, rfl⟩
      · walk_at "sg"
        refine ic_lst (d := .lst (e.1.map D.int)) (at_nat (by decide) rfl) ?_
        exact ⟨rfl, rfl⟩
      obtain ⟨e1, hf⟩ : ∃ e1, ((rimE :: es).filter fun e => decide (e.2 = r.anchor))[0]? = some e1 := by
        obtain ⟨e, he, z⟩ := hanc
        have hm : e ∈ (rimE :: es).filter fun e => decide (e.2 = r.anchor) := List.mem_filter.mpr ⟨he, decide_eq_true z⟩
        exact ⟨_, List.getElem?_eq_getElem (List.length_pos_of_mem hm)⟩
      have hbl2 : e1.1.length ≤ 2 + 2 * pre.length := by
        obtain ⟨h1, _⟩ := List.mem_filter.mp (List.mem_of_getElem? hf)
        rcases List.mem_cons.mp h1 with rfl | h1
        · show 2 ≤ _
          omega
        · exact hlb e1 h1
      have hbl : e1.1.length ≤ 20000 := by omega
      have hbase : ∃ cc, PathC R g0 rows r.anchor cc ∧ e1.1 = tv (rankT R o) cc := by
        obtain ⟨h1, h2⟩ := List.mem_filter.mp (List.mem_of_getElem? hf)
        have h2 := of_decide_eq_true h2
        rcases List.mem_cons.mp h1 with rfl | h1
        · exact ⟨_, by rw [← h2]; exact PathC.rim, rfl⟩
        · rw [← h2]; exact hes e1 h1
      walk_at "sg1"
      refine ic_lst (d := .lst (e1.1.map D.int)) (at_nat (by decide) (by rw [List.getElem?_map, show Int.toNat 0 = 0 from rfl, hf]; rfl)) ?_
      walk_at "sg1"; walk_at "sg1"
      refine EC.imp (k := fun d m2 => d = .int (if R.oldest then (c : Int) else 0 - c) ∧ m2 = (pp, .lst ((rimE :: es).map peD)) :: m) ?_ ?_
      · refine ec_if (et_cmp ?_)
        walk_at "sg"
        cases hR : R.oldest with
        | true =>
          have e : orderS R = "oldest" := by unfold orderS; rw [hR]; rfl
          refine ite_d (fun _ => ?_) fun h => absurd e h
          walk_at "sg"
          exact ⟨by show D.int (0 + (c : Int)) = _; rw [if_pos rfl, Int.zero_add], rfl⟩
        | false =>
          have e : ¬ orderS R = "oldest" := by unfold orderS; rw [hR]; decide +kernel
          refine ite_d (fun h => absurd h e) fun _ => ?_
          walk_at "sg"
          exact ⟨by show D.int (0 - (0 + (c : Int))) = _; rw [if_neg Bool.false_ne_true, Int.zero_add], rfl⟩
      rintro d m2 ⟨rfl, rfl⟩
      have htn : (if R.oldest then (c : Int) else 0 - c) = rankT R o r := by
        unfold rankT
        rw [idx_nodup hno hr]
      refine sd_one (ss_forT (.nm 7) B (pg_name B.nd rfl (Or.inl rfl)) (show (7 : Nat) < 18 by decide) ?_)
      refine sc_range fr.range ?_
      walk_at "sg"
      refine ix_row (v := .str r.group) (by rfl) ?_
      walk_at "sg"
      refine cc_lenS (Nat.le_trans gr.g1 (by decide)) ?_
      refine ⟨r.group.length, rfl, Nat.le_trans gr.g1 (by decide), ?_⟩
      refine ⟨Nat, List.range r.group.length, fun (i : Nat) => .int (0 + (i : Int)), fun pre2 es' m' => ∃ (o7 o15 o16 : Option D), es' = [some (.str (sideS R)), some (.str (orderS R)), some (.str (linkS R)), some (.str g0), some (rowsD rows), some (.int (g0.length : Nat)), some (.raw (.ref pp)), o7, some (rowsD o), some (.int (0 + (c : Int))), o10, o11, some (rowD r), some (.lst (e1.1.map D.int)), some (.int (if R.oldest then (c : Int) else 0 - c)), o15, o16, o17] ∧ m' = (pp, .lst ((rimE :: (es ++ pre2.map (rwE R c e1.1 r))).map peD)) :: m ∧ pre2 = List.range pre2.length, rfl, ⟨_, _, _, rfl, by rw [List.map_nil, List.append_nil], rfl⟩, fun _ _ _ _ => trivial, ?_, ?_⟩
      · rintro pre2 q post2 es' m' hxs2 ⟨o7, o15, o16, rfl, rfl, hpre2⟩
        have hq : q = pre2.length ∧ pre2 ++ [q] = List.range (pre2.length + 1) := by
          have h1 : (List.range r.group.length)[pre2.length]? = some q := by rw [hxs2, List.getElem?_append_right (Nat.le_refl _), Nat.sub_self]; rfl
          obtain ⟨h2, h3⟩ := List.getElem?_eq_some_iff.mp h1
          rw [List.getElem_range] at h3
          exact ⟨h3.symm, by rw [List.range_succ, ← hpre2, h3]⟩
        have hlq : pre2.length + 1 + post2.length = r.group.length := by
          have := congrArg List.length hxs2
          rw [List.length_range, List.length_append, List.length_cons] at this
          omega
        have hg1 := gr.g1
        refine ⟨_, rfl, ?_⟩
        refine sd_cons (ss_setB (i := 15) B (EC.imp (k := fun d m2 => d = .int (if R.after then (q : Int) else (r.group.length : Int) - q) ∧ m2 = (pp, .lst ((rimE :: (es ++ pre2.map (rwE R c e1.1 r))).map peD)) :: m) ?_ ?_))
        · refine ec_if (et_cmp ?_)
          walk_at "sg"
          cases hR : R.after with
          | true =>
            have e : sideS R = "after" := by unfold sideS; rw [hR]; rfl
            refine ite_d (fun _ => ?_) fun h => absurd e h
            walk_at "sg"
            exact ⟨by show D.int (0 + (q : Int)) = _; rw [if_pos rfl, Int.zero_add], rfl⟩
          | false =>
            have e : ¬ sideS R = "after" := by unfold sideS; rw [hR]; decide +kernel
            refine ite_d (fun h => absurd h e) fun _ => ?_
            walk_at "sg"
            refine ix_row (v := .str r.group) (by rfl) ?_
            walk_at "sg"
            refine cc_lenS (Nat.le_trans gr.g1 (by decide)) ?_
            walk_at "sg"
            exact ⟨by rw [if_neg Bool.false_ne_true, Int.zero_add], rfl⟩
        rintro d m2 ⟨rfl, rfl⟩
        refine sd_cons (ss_setB (i := 16) B (EC.imp (k := fun d m2 => d = .lst ((if R.whole then [if R.oldest then (c : Int) else 0 - c, if R.after then (q : Int) else (r.group.length : Int) - q] else [if R.after then (q : Int) else (r.group.length : Int) - q, if R.oldest then (c : Int) else 0 - c]).map D.int) ∧ m2 = (pp, .lst ((rimE :: (es ++ pre2.map (rwE R c e1.1 r))).map peD)) :: m) ?_ ?_))
        · refine ec_if (et_cmp ?_)
          walk_at "sg"
          cases hR : R.whole with
          | true =>
            have e : linkS R = "whole" := by unfold linkS; rw [hR]; rfl
            refine ite_d (fun _ => ?_) fun h => absurd e h
            refine ec_lst ?_
            walk_at "sg"
            exact ⟨(show (2 : Nat) ≤ 1000 by decide), rfl, rfl⟩
          | false =>
            have e : ¬ linkS R = "whole" := by unfold linkS; rw [hR]; decide +kernel
            refine ite_d (fun h => absurd h e) fun _ => ?_
            refine ec_lst ?_
            walk_at "sg"
            exact ⟨(show (2 : Nat) ≤ 1000 by decide), rfl, rfl⟩
        rintro d m2 ⟨rfl, rfl⟩
        refine sd_one (ss_expr (ec_append ?_))
        walk_at "sg1"
        refine ⟨RecvD.raw (j := 0) rfl, ?_⟩
        refine ec_lst ?_
        walk_at "sg"
        refine oc_cat (.imm _ _) (.imm _ _) ?_ ?_
        · rw [List.length_map, List.length_map]
          have h1 : e1.1.length ≤ 20000 := hbl
          have h2 : (if R.whole then [if R.oldest then (c : Int) else 0 - c, if R.after then (q : Int) else (r.group.length : Int) - q] else [if R.after then (q : Int) else (r.group.length : Int) - q, if R.oldest then (c : Int) else 0 - c]).length = 2 := by split <;> rfl
          rw [h2]
          exact Nat.le_trans (by omega : _ ≤ 30000) (by decide)
        walk_at "sg"
        refine ec_call C2 (B.room.mono (by decide)) ?_
        walk_at "sg"
        refine ⟨r, rfl, gr.w0, gr.w1, ?_⟩
        walk_at "sg"
        refine ⟨(show (3 : Nat) ≤ 1000 by decide), pp, 0, _, rfl, rfl, ?_, _, _, _, rfl, ?_, ?_⟩
        · rw [List.length_map, List.length_cons, List.length_append, List.length_map]
          exact Nat.le_trans (by omega : _ ≤ 30000) (by decide)
        · have ee : (rimE :: (es ++ (pre2 ++ [q]).map (rwE R c e1.1 r))).map peD = (rimE :: (es ++ pre2.map (rwE R c e1.1 r))).map peD ++ [peD (rwE R c e1.1 r q)] := by simp
          rw [ee]
          show _ :: m = _ :: m
          congr 4
          unfold peD rwE
          rw [Int.zero_add, ← List.map_append]
          rfl
        · rw [List.length_append]; exact hq.2
      · rintro es' m' ⟨o7, o15, o16, rfl, rfl, _⟩
        obtain ⟨cc, hcc, hce⟩ := hbase
        have hstep : pre.length + 1 ≤ o.length := by omega
        refine ⟨es ++ (List.range r.group.length).map (rwE R c e1.1 r), _, _, _, _, _, _, _, _, _, _, rfl, rfl, ?_, ?_, ?_, ?_⟩
        · rw [List.length_append]; exact hcp.2
        · intro e he
          rcases List.mem_append.mp he with he | he
          · exact hes e he
          · obtain ⟨p, hpr, rfl⟩ := List.mem_map.mp he
            have hlt := List.mem_range.mp hpr
            refine ⟨_, PathC.sign r ((p : Int) + 1) cc hrr (by omega) (by omega) hcc, ?_⟩
            show e1.1 ++ _ = tv (rankT R o) (cc ++ tailC R r ((p : Int) + 1))
            rw [hce, tv, tv, List.map_append]
            congr 1
            unfold tailC stp
            rw [htn, show (p : Int) + 1 - 1 = p by omega]
            split <;> rfl
        · intro e he
          rw [List.length_append, List.length_singleton]
          rcases List.mem_append.mp he with he | he
          · have := hlb e he
            omega
          · obtain ⟨p, hpr, rfl⟩ := List.mem_map.mp he
            have h2 : (rwE R c e1.1 r p).1.length = e1.1.length + 2 := by
              unfold rwE
              rw [List.length_append]
              split <;> rfl
            omega
        · have e3 : ((List.range r.group.length).map (rwE R c e1.1 r)).map (·.2) = signs (some r.key) r.group := by
            unfold signs
            rw [List.map_map]
            rfl
          have e4 : o.take (pre.length + 1) = o.take pre.length ++ [r] := by
            rw [← hcp.1, List.take_add_one, hr]
            rfl
          rw [List.map_append, hnm, e3, List.length_append, List.length_singleton, e4, List.flatMap_append, List.append_assoc]
          simp
    · rintro es' m' ⟨es, o7, o9, o10, o11, o12, o13, o14, o15, o16, o17, rfl, rfl, _, hes, hlb, hnm⟩
      have hnm2 : es.map (·.2) = allN g0 o := by
        rw [hnm, List.length_range, List.take_length]
        rfl
      have huo : Uniq o := fun a ha b hb e => hun a ((hord.mem a).mp ha) b ((hord.mem b).mp hb) e
      have hel : es.length ≤ 10100 := by
        have h1 := congrArg List.length hnm2
        have h2 := allN_len (g0 := g0) hgo
        rw [List.length_map] at h1
        omega
      have tab : Tab R g0 rows (rankT R o) es := by
        refine ⟨hes, by rw [hnm2]; exact allN_nodup hno huo, fun a => ?_⟩
        rw [hnm2, mem_allN]
        constructor
        · rintro (z | ⟨q, hq, z⟩)
          · exact .inl z
          · exact .inr ⟨q, (hord.mem q).mp hq, z⟩
        · rintro (z | ⟨q, hq, z⟩)
          · exact .inl z
          · exact .inr ⟨q, (hord.mem q).mpr hq, z⟩
      walk_at "sg1"; walk_at "sg1"
      refine ec_lst (ecs_nil ⟨by decide, ?_⟩)
      refine sd_cons (ss_forT (.nm 11) B (pg_name B.nd rfl (Or.inr rfl)) (show (11 : Nat) < 18 by decide) ?_)
      refine sc_lst ?_
      refine ec_call C1 (B.room.mono (by decide)) ?_
      walk_at "sg1"
      refine ec_lc (own := [("_law_one", 17)]) (.nm 17) B.calm B.nd (blk_ok (N := N_law_layout) (sc := defScope S_law_layout) (by decide +kernel)) (fun s H C cl fp => pg_name sc_law_layout.nd rfl (Or.inl rfl)) (show (17 : Nat) < 18 by decide) (List.mem_cons_self) ?_
      refine sc_lst ?_
      refine ec_sl ?_
      walk_at "sg1"
      show EC _ _ _ _ _ _
      walk_at "sg1"
      refine ⟨_, rfl, lc_list (.inr ⟨pp, 0, rfl, rfl⟩) ?_⟩
      have ecut : cutD ((rimE :: es).map peD) (some 1) none = es.map peD := cut_hi peD (rimE :: es) (n := 1) (by simp)
      rw [ecut]
      refine ⟨_, rfl, ?_⟩
      refine lck_map (α := Pe) (xs := es) (enc := peD) (gx := fun e => .lst (e.1.map D.int)) (Nat.le_trans hel (by decide)) trivial (fun e he acc => ⟨_, rfl, fun p s2 H2 C2' cl2 fp2 => ?_⟩) ?_
      · walk_at "sg"
        refine ic_lst (d := .lst (e.1.map D.int)) (at_nat (by decide) rfl) ?_
        exact ⟨rfl, rfl⟩
      walk_at "sg1"
      refine ⟨false, es.map (·.1), by rw [List.map_map]; rfl, by rw [List.length_map]; omega, fun ys hyp hya => ?_⟩
      refine ⟨_, rfl, ?_⟩
      have hyl : ys.length = es.length := by rw [hyp.length_eq, List.length_map]
      have hLine := law_line hun hp.g (rank_iso hord) tab hyp hya
      let Ln : List (List Int) → List Nm := fun zs => zs.flatMap fun q => ((([0, 0], ((none : Option Key), (0 : Int))) :: es).filter fun x => decide (x.1 = q)).map (·.2)
      have hLnl : (Ln ys).length ≤ 10100 := by
        have h1 := nodup_len (hLine.nodup hun) fun a ha => mem_allN.mpr ((hLine.mem a).mp ha)
        have h2 := allN_len (g0 := g0) hp.g
        show (ys.flatMap _).length ≤ _
        omega
      refine ⟨List Int, ys, eI false, fun pre es' m' => ∃ (o7 o9 o11 o12 o13 o14 o15 o16 o17 : Option D), es' = [some (.str (sideS R)), some (.str (orderS R)), some (.str (linkS R)), some (.str g0), some (rowsD rows), some (.int (g0.length : Nat)), some (.raw (.ref pp)), o7, some (rowsD o), o9, some (nmsD (Ln pre)), o11, o12, o13, o14, o15, o16, o17] ∧ m' = (pp, .lst ((rimE :: es).map peD)) :: m, rfl, ⟨_, _, _, _, _, _, _, _, _, rfl, rfl⟩, fun _ _ _ _ => trivial, ?_, ?_⟩
      · rintro pre c post es' m' hxs ⟨o7, o9, o11, o12, o13, o14, o15, o16, o17, rfl, rfl⟩
        refine ⟨_, rfl, ?_⟩
        walk_at "sg1"; walk_at "sg1"; walk_at "sg1"; walk_at "sg1"
        refine ec_lc (own := [("_law_one", 17)]) (.nm 17) B.calm B.nd (blk_ok (N := N_law_layout) (sc := defScope S_law_layout) (by decide +kernel)) (fun s H C cl fp => pg_name sc_law_layout.nd rfl (Or.inl rfl)) (show (17 : Nat) < 18 by decide) (List.mem_cons_self) ?_
        refine sc_raw ?_
        walk_at "sg1"
        refine ⟨pp, 0, _, rfl, rfl, ?_⟩
        refine lck_if (α := Pe) (xs := rimE :: es) (enc := peD) (gx := fun e => nmD e.2) (t := fun e => decide (e.1 = c)) (Nat.le_trans (by rw [List.length_cons]; omega : _ ≤ 20000) (by decide)) ⟨0, rfl⟩ (fun e he acc => ⟨_, rfl, fun p => ⟨fun s2 H2 C2' cl2 fp2 => ?_, fun _ s2 H2 C2' cl2 fp2 => ?_⟩⟩) ?_
        · have hu2 : A.units + 3 + 16 * 2 + 200 < cLine := hu
          refine et_cmp ?_
          walk_at "sg"
          refine ic_lst (d := .lst (e.1.map D.int)) (at_nat (by decide) rfl) ?_
          walk_at "sg"
          refine oc_eq (show A.units + 3 + 64 < cLine by omega) ((eI_sn (n := 0) false e.1).sh (by decide)) ((eI_sn (n := 0) false c).sh (by decide)) ?_
          have ev : PyData.eqv (D.lst (e.1.map D.int)).py (eI false c).py = decide (e.1 = c) := eqv_dec (nbL_map fun _ _ => rfl) (nbL_map fun _ _ => rfl) ⟨fun h => ints_inj (D.lst.inj h), fun h => by rw [h]; rfl⟩
          rw [ev]
          exact ⟨_, rfl, rfl, rfl⟩
        · walk_at "sg"
          refine ic_lst (d := okd e.2.1) (at_nat (by decide) rfl) ?_
          walk_at "sg"
          refine ic_lst (d := .int e.2.2) (at_nat (by decide) rfl) ?_
          walk_at "sg"
          exact ⟨(show (2 : Nat) ≤ 1000 by decide), rfl, rfl⟩
        have eLn : Ln (pre ++ [c]) = Ln pre ++ ((rimE :: es).filter fun e => decide (e.1 = c)).map (·.2) := by
          show (pre ++ [c]).flatMap _ = _
          rw [List.flatMap_append]
          simp [Ln]
        have hLl : (Ln pre).length + (((rimE :: es).filter fun e => decide (e.1 = c)).map (·.2)).length ≤ 10100 := by
          have h1 : (Ln (pre ++ [c])).length ≤ (Ln ys).length := by
            rw [hxs, show pre ++ c :: post = (pre ++ [c]) ++ post by simp]
            show _ ≤ (((pre ++ [c]) ++ post).flatMap _).length
            rw [List.flatMap_append, List.length_append]
            exact Nat.le_add_right _ _
          rw [eLn, List.length_append] at h1
          exact Nat.le_trans h1 hLnl
        refine oc_cat (.imm _ _) (.imm _ _) ?_ ?_
        · rw [List.length_map, List.length_map]
          rw [List.length_map] at hLl
          exact Nat.le_trans hLl (by decide)
        refine ⟨o7, o9, some (eI false c), o12, o13, o14, o15, o16, o17, ?_, rfl⟩
        rw [eLn, show nmsD (Ln pre ++ ((rimE :: es).filter fun e => decide (e.1 = c)).map (·.2)) = D.lst ((Ln pre).map nmD ++ ((rimE :: es).filter fun e => decide (e.1 = c)).map fun e => nmD e.2) by unfold nmsD; rw [List.map_append, List.map_map]; rfl]
        rfl
      · rintro es' m' ⟨o7, o9, o11, o12, o13, o14, o15, o16, o17, rfl, rfl⟩
        refine SD.weak (m' := m) (List.sublist_cons_self _ _) (fun _ _ z => z) ?_
        have hfin := hk (fin R (Ln ys)) ⟨_, hLine, rfl⟩
        walk_at "sg1"; walk_at "sg1"
        refine ec_if (et_cmp ?_)
        walk_at "sg"
        cases hR : R.after with
        | true =>
          have e : ¬ sideS R = "before" := by unfold sideS; rw [hR]; decide +kernel
          refine ite_d (fun h => absurd h e) fun _ => ?_
          walk_at "sg"
          unfold fin at hfin
          rw [hR, if_pos rfl] at hfin
          exact hfin
        | false =>
          have e : sideS R = "before" := by unfold sideS; rw [hR]; rfl
          refine ite_d (fun _ => ?_) fun h => absurd e h
          refine ec_rev ?_
          walk_at "sg1"
          refine ⟨_, rfl, ?_⟩
          unfold fin at hfin
          rw [hR, if_neg Bool.false_ne_true] at hfin
          rw [← List.map_reverse]
          exact hfin
end
end TSgL4
/-! SgL5: _law_past, _law_within, _law_once, _law_sign, _law_all_rules, _law_fixed. -/
section TSgL5
set_option maxHeartbeats 4000000
open PySem PySem.Spec PyProof.Rows L2
def pastL (r : Row) : List Int := (List.range r.seen.length).map fun (j : Nat) => r.seen.getD j 0 + if (j : Int) = r.who then 1 else 0
theorem at_intN {l : List Int} {j : Nat} (h : j < l.length) : atI (l.map D.int) (0 + (j : Int)) = some (.int (l.getD j 0)) := by
  rw [Int.zero_add]
  have := at_int (l := l) (i := (j : Int)) (by omega) (by omega)
  simpa using this
section
variable {P : Program} {w : World} {K : PySem.W.Frag} {mg : Str → Option Value} {base : Heap} {f C CR CG XC XM XG : Addr} {fd : FuncData}
def FS_law_past : FSpec := fun ds m k x => ∃ r : Row, ds = [rowD r] ∧ Good r ∧ k (.tup ((pastL r).map D.int)) m
theorem fn_law_past (F : F_law_past K f fd) (gm : mg "_law_past" = some (.ref f)) (fr : Free mg) : Fn P w K mg base 1 "_law_past" FS_law_past := by
  refine fn_def F sc_law_past gm (bs_law_past F) (fun ds m k x ⟨_, e, _⟩ => by rw [e]; rfl) ?_
  rintro cdv A outer s H E B ds m k x ⟨r, rfl, g, hk⟩
  have gl := g.len
  walk_at "sg1"; walk_at "sg1"; walk_at "sg1"; walk_at "sg1"
  refine ec_lc (own := [("_law_j", 1)]) (.nm 1) B.calm B.nd (blk_ok (N := N_law_past) (sc := defScope S_law_past) (by decide +kernel)) (fun s H C cl fp => pg_name sc_law_past.nd rfl (Or.inl rfl)) (show (1 : Nat) < 2 by decide) (List.mem_cons_self) ?_
  refine sc_range fr.range ?_
  walk_at "sg"
  refine ix_row (v := seenD r) (by rfl) ?_
  walk_at "sg"
  refine cc_len (.inr rfl) ?_
  rw [List.length_map]
  refine ⟨r.seen.length, rfl, Nat.le_trans gl (by decide), ?_⟩
  refine lck_map (α := Nat) (xs := List.range r.seen.length) (enc := fun (i : Nat) => .int (0 + (i : Int))) (gx := fun (j : Nat) => .int (r.seen.getD j 0 + if (j : Int) = r.who then 1 else 0)) (by rw [List.length_range]; exact Nat.le_trans gl (by decide)) trivial (fun j hj acc => ⟨_, rfl, fun p s2 H2 C2 cl2 fp2 => ?_⟩) ?_
  · have hjl := List.mem_range.mp hj
    walk_at "sg"
    refine ix_row (v := seenD r) (by rfl) ?_
    walk_at "sg"
    refine ic_tup (at_intN hjl) ?_
    walk_at "sg"
    refine ix_row (v := .int r.who) (by rfl) ?_
    walk_at "sg"
    refine ⟨?_, rfl⟩
    rw [Int.zero_add]
    by_cases e : (j : Int) = r.who
    · rw [if_pos e, if_pos (decide_eq_true e)]
    · rw [if_neg e, if_neg (by simpa using e)]
  · walk_at "sg"
    refine cc_tuple (.imm _ _) ?_
    have e : (List.range r.seen.length).map (fun (j : Nat) => D.int (r.seen.getD j 0 + if (j : Int) = r.who then 1 else 0)) = (pastL r).map D.int := by
      unfold pastL
      rw [List.map_map]
      rfl
    rw [e]
    exact hk
def FS_law_within : FSpec := fun ds m k x => ∃ (rows : List Row) (cut : List Int), ds = [rowsD rows, .tup (cut.map D.int)] ∧ (∀ r ∈ rows, Good r ∧ r.who < cut.length) ∧ rows.length ≤ 1000 ∧ k (rowsD (rows.filter fun r => decide (r.num ≤ cut.getD r.who.toNat 0))) m
theorem fn_law_within (F : F_law_within K f fd) (gm : mg "_law_within" = some (.ref f)) (fr : Free mg) (C1 : Fn P w K mg base 1 "_law_key" FS_law_key) : Fn P w K mg base 2 "_law_within" FS_law_within := by
  refine fn_def F sc_law_within gm (bs_law_within F) (fun ds m k x ⟨_, _, e, _⟩ => by rw [e]; rfl) ?_
  rintro cdv A outer s H E B ds m k x ⟨rows, cut, rfl, hg, hz, hk⟩
  walk_at "sg1"; walk_at "sg1"
  refine ec_lc (own := [("_law_row", 2)]) (.nm 2) B.calm B.nd (blk_ok (N := N_law_within) (sc := defScope S_law_within) (by decide +kernel)) (fun s H C cl fp => pg_name sc_law_within.nd rfl (Or.inl rfl)) (show (2 : Nat) < 3 by decide) (List.mem_cons_self) ?_
  refine sc_lst ?_
  walk_at "sg1"
  refine ⟨_, rfl, ?_⟩
  refine lck_if (α := Row) (xs := rows) (enc := rowD) (gx := rowD) (t := fun r => decide (r.num ≤ cut.getD r.who.toNat 0)) (Nat.le_trans hz (by decide)) trivial (fun r hr acc => ⟨_, rfl, fun p => ⟨fun s2 H2 C2' cl2 fp2 => ?_, fun _ s2 H2 C2' cl2 fp2 => ?_⟩⟩) hk
  · obtain ⟨gr, hc⟩ := hg r hr
    refine et_cmp (ec_ix ?_)
    refine ec_call C1 (by exact B.room) ?_
    walk_at "sg"
    refine ⟨r, rfl, gr.w0, gr.w1, ?_⟩
    walk_at "sg"
    refine ic_tup (at_nat (v := .int r.num) (by decide) rfl) ?_
    walk_at "sg"
    refine ix_row (v := .int r.who) (by rfl) ?_
    refine ic_tup (at_int gr.w0 hc) ?_
    walk_at "sg"
    exact ⟨rfl, rfl⟩
  · walk_at "sg1"
    exact ⟨rfl, rfl⟩
def FS_law_once : FSpec := fun ds m k x => ∃ rows : List Row, ds = [rowsD rows] ∧ (∀ r ∈ rows, Good r) ∧ rows.length ≤ 1000 ∧ ∀ o : List Row, o.Nodup → (∀ r, r ∈ o ↔ r ∈ rows) → k (rowsD o) m
theorem rowD_nb {r : Row} : (rowD r).nb = true := by
  have h1 := seenD_nb (r := r)
  have h2 := nmD_nb (a := r.anchor)
  show (true && ((seenD r).nb && (true && ((nmD r.anchor).nb && true)))) = true
  rw [h1, h2]
  rfl
theorem rowD_inj {a b : Row} (h : rowD a = rowD b) : a = b := by
  unfold rowD seenD at h
  simp only [D.tup.injEq, List.cons.injEq, D.int.injEq, D.str.injEq, and_true] at h
  exact rowE.mpr ⟨h.1, ints_inj h.2.1, h.2.2.1, nmD_inj h.2.2.2⟩
theorem row_eqv (a b : Row) : PyData.eqv (rowD a).py (rowD b).py = decide (a = b) := eqv_dec rowD_nb rowD_nb ⟨rowD_inj, fun h => by rw [h]⟩
theorem good_cps {r : Row} (g : Good r) : ∀ c ∈ r.group.cps.toList, c < 0x110000 := fun c hc => by
  obtain ⟨h1, h2⟩ := g.gl c hc
  omega
theorem rowD_sh {r : Row} (g : Good r) : (rowD r).sh := (rowD_sn (n := 0) (good_cps g)).sh (by decide)
theorem rowsD_sh {l : List Row} (g : ∀ r ∈ l, Good r) : (rowsD l).sh := (sn_lst (n := 3) (snL_map fun r hr => rowD_sn (n := 0) (good_cps (g r hr)))).sh (by decide)
theorem rows_any (l : List Row) (r : Row) : ((D.pyL (l.map rowD)).any fun z => PyData.eqv z (rowD r).py) = decide (r ∈ l) := by
  rw [pyL_map, List.any_map, List.any_map]
  rw [Bool.eq_iff_iff, List.any_eq_true, decide_eq_true_iff]
  constructor
  · rintro ⟨a, ha, h⟩
    have h : PyData.eqv (rowD a).py (rowD r).py = true := h
    rw [row_eqv, decide_eq_true_iff] at h
    exact h ▸ ha
  · intro h
    exact ⟨r, h, (row_eqv r r).trans (decide_eq_true rfl)⟩
theorem fn_law_once (F : F_law_once K f fd) (gm : mg "_law_once" = some (.ref f)) : Fn P w K mg base 1 "_law_once" FS_law_once := by
  refine fn_def F sc_law_once gm (bs_law_once F) (fun ds m k x ⟨_, e, _⟩ => by rw [e]; rfl) ?_
  rintro cdv A outer s H E B ds m k x ⟨rows, rfl, hg, hz, hk⟩
  have hu := B.room.un
  walk_at "sg1"; walk_at "sg1"
  refine ec_lstM (ecs_nil ⟨by decide, fun po => ?_⟩)
  refine sd_cons (ss_forT (.nm 2) B (pg_name B.nd rfl (Or.inl rfl)) (show (2 : Nat) < 3 by decide) ?_)
  refine sc_lst ?_
  walk_at "sg1"
  refine ⟨_, rfl, Row, rows, rowD, fun pre es' m' => ∃ (o : List Row) (o2 : Option D), es' = [some (rowsD rows), some (.raw (.ref po)), o2] ∧ m' = (po, .lst (o.map rowD)) :: m ∧ o.Nodup ∧ (∀ r, r ∈ o ↔ r ∈ pre), rfl, ⟨[], _, rfl, rfl, List.nodup_nil, fun r => Iff.rfl⟩, fun _ _ _ _ => trivial, ?_, ?_⟩
  · rintro pre c post es' m' hxs ⟨o, o2, rfl, rfl, hn, hm⟩
    have hlen : rows.length = pre.length + (post.length + 1) := by rw [hxs, List.length_append, List.length_cons]
    have hpr : ∀ r ∈ pre, r ∈ rows := fun r hr => by rw [hxs]; simp [hr]
    have hcr : c ∈ rows := by rw [hxs]; simp
    have hol : o.length ≤ pre.length := nodup_len hn fun r hr => (hm r).mp hr
    refine ⟨_, rfl, ?_⟩
    walk_at "sg1"; walk_at "sg1"
    refine et_cmp ?_
    walk_at "sg"
    refine oc_notin (ds := o.map rowD) (by omega) (.inr ⟨po, 0, rfl, rfl⟩) (rowD_sh (hg c hcr)) (rowsD_sh fun r hr => hg r (hpr r ((hm r).mp hr))) ?_
    rw [rows_any]
    refine ⟨_, rfl, ite_n (fun hc => ?_) fun hc => ?_⟩
    · refine sd_one (ss_expr (ec_append ?_))
      walk_at "sg1"
      refine ⟨RecvD.raw (j := 0) rfl, ?_⟩
      walk_at "sg1"
      refine ⟨po, 0, _, rfl, rfl, by rw [List.length_map]; exact Nat.le_trans (by omega : _ ≤ 1000) (by decide), o ++ [c], _, rfl, ?_, ?_, fun r => ?_⟩
      · rw [List.map_append]; rfl
      · rw [List.nodup_append]
        exact ⟨hn, by simp, fun a ha b hb e => hc (by rw [List.mem_singleton] at hb; rw [← hb, ← e]; exact ha)⟩
      · rw [List.mem_append, List.mem_append, hm r]
    · refine sd_nil ⟨o, _, rfl, rfl, hn, fun r => ?_⟩
      rw [hm r, List.mem_append, List.mem_singleton]
      exact ⟨.inl, fun z => z.elim id fun e => by rw [e]; exact (hm c).mp hc⟩
  · rintro es' m' ⟨o, o2, rfl, rfl, hn, hm⟩
    refine SD.freeze 0 1 rfl rfl ?_
    walk_at "sg"
    exact hk o hn hm
def FS_law_sign : FSpec := fun ds m k x => ∃ (g0 : Str) (rows : List Row) (n : Nm), ds = [.str g0, rowsD rows, nmD n] ∧ (∀ r ∈ rows, Good r) ∧ g0.length ≤ 100 ∧ rows.length ≤ 1000 ∧ Uniq rows ∧ Named g0 rows n ∧ k (.str ⟨#[chN g0 rows n]⟩) m
theorem sign_at {g0 : Str} {rows : List Row} (u : Uniq rows) {n : Nm} (h : Named g0 rows n) : 1 ≤ n.2 ∧ n.2 ≤ (grp g0 rows n.1).length := by
  rcases h with h | ⟨r, hr, h⟩
  · obtain ⟨e, h1, h2⟩ := mem_signs.mp h
    rw [e]
    exact ⟨h1, h2⟩
  · obtain ⟨e, h1, h2⟩ := mem_signs.mp h
    rw [e, grp_of u hr]
    exact ⟨h1, h2⟩
theorem fn_law_sign (F : F_law_sign K f fd) (gm : mg "_law_sign" = some (.ref f)) (C1 : Fn P w K mg base 1 "_law_key" FS_law_key) : Fn P w K mg base 2 "_law_sign" FS_law_sign := by
  refine fn_def F sc_law_sign gm (bs_law_sign F) (fun ds m k x ⟨_, _, _, e, _⟩ => by rw [e]; rfl) ?_
  rintro cdv A outer s H E B ds m k x ⟨g0, rows, n, rfl, hg, hg0, hz, u, hn, hk⟩
  have hu := B.room.un
  obtain ⟨h1, h2⟩ := sign_at u hn
  have hgl : (grp g0 rows n.1).length ≤ 100 := by
    rcases hn with h | ⟨r, hr, h⟩
    · rw [(mem_signs.mp h).1]; exact hg0
    · rw [(mem_signs.mp h).1, grp_of u hr]
      have := (hg r hr).g1
      omega
  walk_at "sg1"; walk_at "sg1"; walk_at "sg1"
  refine sd_cons (SS.mid (fun es' m' => ∃ o4 : Option D, es' = [some (.str g0), some (rowsD rows), some (nmD n), some (.str (grp g0 rows n.1)), o4] ∧ m' = m) ?_ ?_)
  · walk_at "sg1"
    refine et_cmp (ec_ix ?_)
    walk_at "sg"
    refine ic_tup (d := okd n.1) (at_nat (by decide) rfl) ?_
    walk_at "sg1"
    obtain ⟨nk, np⟩ := n
    cases nk with
    | none =>
      refine oc_isnot rfl ?_
      refine ⟨_, rfl, ?_⟩
      walk_at "sgi"
      exact sd_nil ⟨_, rfl, rfl⟩
    | some q =>
      refine oc_isnot rfl ?_
      refine ⟨_, rfl, ?_⟩
      walk_at "sgi"
      obtain ⟨r, hr, hrk⟩ : ∃ r ∈ rows, r.key = q := by
        rcases hn with h | ⟨r, hr, h⟩
        · have := (mem_signs.mp h).1; cases this
        · exact ⟨r, hr, (Option.some.inj (mem_signs.mp h).1).symm⟩
      refine sd_one (ss_setB (i := 3) B ?_)
      refine ec_ix ?_
      refine ec_lc (own := [("_law_row", 4)]) (.nm 4) B.calm B.nd (blk_ok (N := N_law_sign) (sc := defScope S_law_sign) (by decide +kernel)) (fun s H C cl fp => pg_name sc_law_sign.nd rfl (Or.inl rfl)) (show (4 : Nat) < 5 by decide) (List.mem_cons_self) ?_
      refine sc_lst ?_
      walk_at "sg1"
      refine ⟨_, rfl, ?_⟩
      refine lck_if (α := Row) (xs := rows) (enc := rowD) (gx := fun r => .str r.group) (t := fun r => decide (r.key = q)) (Nat.le_trans hz (by decide)) trivial (fun a ha acc => ⟨_, rfl, fun p => ⟨fun s2 H2 C2' cl2 fp2 => ?_, fun _ s2 H2 C2' cl2 fp2 => ?_⟩⟩) ?_
      · have ga := hg a ha
        refine et_cmp (ec_call C1 (by exact B.room) ?_)
        walk_at "sg"
        refine ⟨a, rfl, ga.w0, ga.w1, ?_⟩
        walk_at "sg"
        refine ic_tup (d := keyD q) (at_nat (by decide) rfl) ?_
        have hu2 : A.units + 3 + 16 * 1 + 200 < cLine := B.room.un
        refine oc_eq (show A.units + 3 + 64 < cLine by omega) (keyD_sn (n := 0) a.key).1 (keyD_sn (n := 0) q).1 ?_
        rw [key_eqv]
        exact ⟨_, rfl, rfl, rfl⟩
      · walk_at "sg"
        refine ix_row (v := .str a.group) (by rfl) ?_
        exact ⟨rfl, rfl⟩
      walk_at "sg"
      have hf : ((rows.filter fun a => decide (a.key = q)).map fun a => D.str a.group)[0]? = some (.str r.group) := by
        have hm : r ∈ rows.filter fun a => decide (a.key = q) := List.mem_filter.mpr ⟨hr, decide_eq_true hrk⟩
        have h0 := List.getElem?_eq_getElem (List.length_pos_of_mem hm)
        have h1 := List.mem_filter.mp (List.getElem_mem (List.length_pos_of_mem hm))
        have e := u _ h1.1 r hr ((of_decide_eq_true h1.2).trans hrk.symm)
        rw [List.getElem?_map, h0, e]
        rfl
      refine ic_lst (at_nat (by decide) hf) ?_
      have e : grp g0 rows (some q) = r.group := by rw [← hrk]; exact grp_of u hr
      exact ⟨_, by rw [e]; rfl, rfl⟩
  · rintro es' m' ⟨o4, rfl, rfl⟩
    walk_at "sg"
    refine ic_tup (d := .int n.2) (at_nat (by decide) rfl) ?_
    walk_at "sg"
    refine ic_str (n := chN g0 rows n) (Nat.le_trans hgl (by decide)) ?_ hk
    refine at_nat (by omega) ?_
    have hlt : (n.2 - 1).toNat < (grp g0 rows n.1).cps.toList.length := by rw [← len_list]; omega
    unfold chN
    rw [List.getD_eq_getElem?_getD, List.getElem?_eq_getElem hlt]
    rfl
end
end TSgL5
/-! SgL6: _law_word, _law_groups, _law_cut. -/
section TSgL6
set_option maxHeartbeats 4000000
open PySem PySem.Spec PyProof.Rows L2
section
variable {X : Cx} {es : Es} {m : M} {k : KD} {α : Type} {xs : List α} {enc : α → D} {keep : M → Prop} {tg : Tg} {vs : List Nat} {scope : Scope} {elt : Expr} {ifs : List Expr}
/-- a comprehension whose element and test may change what stands about -/
theorem lck_gen (I : List α → M → List D → Prop) (i0 : I [] m []) (hp : ∀ pre m' acc, I pre m' acc → keep m')
    (step : ∀ pre a post m' acc, xs = pre ++ a :: post → I pre m' acc → ∃ es2, tg.put (enc a) (wipeE es vs) = some es2 ∧ ∀ p, Blk X scope fun Y => EIf Y es2 ((p, .lst acc) :: m') ifs fun b m2 => ∃ m2', m2 = (p, .lst acc) :: m2' ∧
      if b = true then Blk X scope fun Y => EC Y noX es2 m2 elt fun d' m3 => ∃ m3', m3 = (p, .lst acc) :: m3' ∧ acc.length ≤ 100000 ∧ I (pre ++ [a]) m3' (acc ++ [d']) else I (pre ++ [a]) m2' acc)
    (hk : ∀ m' acc, I xs m' acc → k (.lst acc) m') : LcK X scope es tg vs ifs elt k (xs.map enc) keep m := by
  refine ⟨fun i m' acc => I (xs.take i) m' acc, i0, fun i m' acc z => hp _ _ _ z, fun i d m' acc hd z => ?_, fun m' acc z => hk m' acc ?_⟩
  · obtain ⟨a, ha, rfl⟩ := mapAt hd
    have hsplit : xs = xs.take i ++ a :: xs.drop (i + 1) := by
      have := List.take_append_drop i xs
      rw [List.drop_eq_getElem?_toList_append, ha] at this
      exact this.symm
    have := step _ a _ m' acc hsplit z
    rw [← take_at ha] at this
    exact this
  · have z : I (xs.take (xs.map enc).length) m' acc := z
    rw [List.length_map, List.take_length] at z
    exact z
end
theorem m_at {m : M} {j : Nat} {p : Addr} {o : MO} {o' : MO} (h : m[j]? = some (p, o)) : (m.set j (p, o'))[j]? = some (p, o') := List.getElem?_set_self (List.getElem?_eq_some_iff.mp h).1
def Letters (s : Str) : Prop := ∀ c ∈ s.cps.toList, Letter c
theorem letters_app {a b : Str} (h : Letters a) (h' : Letters b) : Letters (a ++ b) := fun c hc => by
  rw [app_list, List.mem_append] at hc
  exact hc.elim (h c) (h' c)
theorem letters_one {c : Nat} (h : Letter c) : Letters ⟨#[c]⟩ := fun d hd => by
  have : d = c := by simpa using hd
  rw [this]; exact h
theorem letters_nil : Letters ("" : Str) := fun c hc => by
  have e : ("" : Str).cps.toList = [] := by decide +kernel
  rw [e] at hc
  simp at hc
structure PoolOk (pool : Str) : Prop where
  l : Letters pool
  p1 : 1 ≤ pool.length
  p2 : pool.length ≤ 100
section
variable {P : Program} {w : World} {K : PySem.W.Frag} {mg : Str → Option Value} {base : Heap} {f C CR CG XC XM XG : Addr} {fd : FuncData}
def FS_law_word : FSpec := fun ds m k x => ∃ (p : Addr) (j : Nat) (st : LSt) (pool : Str) (lo hi : Int), ds = [.raw (.ref p), .str pool, .int lo, .int hi] ∧ m[j]? = some (p, .lst (lstD st)) ∧ StOk st ∧ PoolOk pool ∧ 0 ≤ lo ∧ lo ≤ hi ∧ hi ≤ 10 ∧
  ∀ (s : Str) (st' : LSt), StOk st' → Letters s → lo ≤ s.length → s.length ≤ hi → k (.str s) (m.set j (p, .lst (lstD st')))
theorem fn_law_word (F : F_law_word K f fd) (gm : mg "_law_word" = some (.ref f)) (fr : Free mg) (C1 : Fn P w K mg base 1 "_law_draw" FS_law_draw) : Fn P w K mg base 2 "_law_word" FS_law_word := by
  refine fn_def F sc_law_word gm (bs_law_word F) (fun ds m k x ⟨_, _, _, _, _, _, e, _⟩ => by rw [e]; rfl) ?_
  rintro cdv A outer s H E B ds m k x ⟨p, j, st, pool, lo, hi, rfl, hm, hst, hpl, h1, h2, h3, hk⟩
  refine SD.focus hm ?_
  generalize hM : m.eraseIdx j = M0
  have hret : ∀ (s : Str) (st' : LSt), StOk st' → Letters s → lo ≤ s.length → s.length ≤ hi → ∃ o', ((p, MO.lst (lstD st')) :: M0 : M) = (p, o') :: M0 ∧ k (.str s) (m.set j (p, o')) := fun s st' a b c d => ⟨_, rfl, hk s st' a b c d⟩
  clear hk hm hM
  have hp1 := hpl.p1
  have hp2 := hpl.p2
  walk_at "sg1"; walk_at "sg1"; walk_at "sg1"
  refine sd_cons (ss_forT (.nm 5) B (pg_name B.nd rfl (Or.inl rfl)) (show (5 : Nat) < 6 by decide) ?_)
  refine sc_range fr.range ?_
  walk_at "sg"
  refine ec_call C1 (by exact B.room) ?_
  walk_at "sg"
  refine ⟨p, 0, st, hi - lo + 1, rfl, rfl, hst, by omega, by omega, fun d st1 hd0 hd1 hst1 => ?_⟩
  walk_at "sg"
  refine ⟨(lo + d).toNat, by rw [Int.toNat_of_nonneg (by omega)], by omega, ?_⟩
  refine ⟨Nat, List.range (lo + d).toNat, fun (i : Nat) => .int (0 + (i : Int)), fun pre es' m' => ∃ (st' : LSt) (sx : Str) (o5 : Option D), es' = [some (.raw (.ref p)), some (.str pool), some (.int lo), some (.int hi), some (.str sx), o5] ∧ m' = (p, .lst (lstD st')) :: M0 ∧ StOk st' ∧ Letters sx ∧ sx.length = pre.length, rfl, ⟨st1, "", _, rfl, rfl, hst1, letters_nil, by decide +kernel⟩, fun _ _ _ _ => trivial, ?_, ?_⟩
  · rintro pre c post es' m' hxs ⟨st', sx, o5, rfl, rfl, hst', hsx, hl⟩
    have hlen : (lo + d).toNat = pre.length + (post.length + 1) := by
      have := congrArg List.length hxs
      rwa [List.length_range, List.length_append, List.length_cons] at this
    refine ⟨_, rfl, ?_⟩
    walk_at "sg"
    refine ec_call C1 (by exact B.room) ?_
    walk_at "sg"
    refine cc_lenS (Nat.le_trans hp2 (by decide)) ?_
    walk_at "sg"
    refine ⟨p, 0, st', pool.length, rfl, rfl, hst', by omega, by omega, fun d2 st2 hd0 hd1 hst2 => ?_⟩
    obtain ⟨ch, hch⟩ : ∃ ch, pool.cps.toList[d2.toNat]? = some ch := ⟨_, List.getElem?_eq_getElem (by rw [← len_list]; omega)⟩
    refine ic_str (n := ch) (Nat.le_trans hp2 (by decide)) (at_nat hd0 hch) ?_
    have e1 : (⟨#[ch]⟩ : Str).length = 1 := rfl
    refine oc_cats ?_ ?_
    · rw [e1]; exact Nat.le_trans (by omega : _ ≤ 100) (by decide)
    refine ⟨st2, sx ++ ⟨#[ch]⟩, some (.int (0 + (c : Int))), rfl, rfl, hst2, letters_app hsx (letters_one (hpl.l ch (List.mem_of_getElem? hch))), ?_⟩
    rw [PySem.Str.length_append, e1, hl, List.length_append]
    rfl
  · rintro es' m' ⟨st', sx, o5, rfl, rfl, hst', hsx, hl⟩
    rw [List.length_range] at hl
    walk_at "sg"
    exact hret sx st' hst' hsx (by omega) (by omega)
structure GrpsOk (gs : List Str) (size : Int) : Prop where
  l : ∀ g ∈ gs, Letters g
  g0 : ∀ g ∈ gs, 1 ≤ g.length
  g1 : ∀ g ∈ gs, (g.length : Int) ≤ size
def FS_law_groups : FSpec := fun ds m k x => ∃ (p : Addr) (j : Nat) (st : LSt) (pool : Str) (top size : Int), ds = [.raw (.ref p), .str pool, .int top, .int size] ∧ m[j]? = some (p, .lst (lstD st)) ∧ StOk st ∧ PoolOk pool ∧ 0 ≤ top ∧ top ≤ 20 ∧ 1 ≤ size ∧ size ≤ 10 ∧
  ∀ (gs : List Str) (st' : LSt), StOk st' → GrpsOk gs size → (gs.length : Int) ≤ top → k (.lst (gs.map D.str)) (m.set j (p, .lst (lstD st')))
theorem fn_law_groups (F : F_law_groups K f fd) (gm : mg "_law_groups" = some (.ref f)) (fr : Free mg) (C1 : Fn P w K mg base 1 "_law_draw" FS_law_draw) (C2 : Fn P w K mg base 2 "_law_word" FS_law_word) : Fn P w K mg base 3 "_law_groups" FS_law_groups := by
  refine fn_def F sc_law_groups gm (bs_law_groups F) (fun ds m k x ⟨_, _, _, _, _, _, e, _⟩ => by rw [e]; rfl) ?_
  rintro cdv A outer s H E B ds m k x ⟨p, j, st, pool, top, size, rfl, hm, hst, hpl, h1, h2, h3, h4, hk⟩
  refine SD.focus hm ?_
  generalize hM : m.eraseIdx j = M0
  have hret : ∀ (gs : List Str) (st' : LSt), StOk st' → GrpsOk gs size → (gs.length : Int) ≤ top → ∃ o', ((p, MO.lst (lstD st')) :: M0 : M) = (p, o') :: M0 ∧ k (.lst (gs.map D.str)) (m.set j (p, o')) := fun s st' a b c => ⟨_, rfl, hk s st' a b c⟩
  clear hk hm hM
  walk_at "sg1"; walk_at "sg1"; walk_at "sg1"; walk_at "sg1"
  refine ec_call C1 (B.room.mono (by decide)) ?_
  walk_at "sg"
  refine ⟨p, 0, st, top + 1, rfl, rfl, hst, by omega, by omega, fun d st1 hd0 hd1 hst1 => ?_⟩
  walk_at "sg"
  refine oc_mod (by omega) ?_
  have hm0 : 0 ≤ (d + 1) % (top + 1) := Int.emod_nonneg _ (by omega)
  have hm1 : (d + 1) % (top + 1) < top + 1 := Int.emod_lt_of_pos _ (by omega)
  generalize (d + 1) % (top + 1) = many at hm0 hm1
  walk_at "sg1"; walk_at "sg1"
  refine ec_lc (own := [("_law_k", 5)]) (.nm 5) B.calm B.nd (blk_ok (N := N_law_groups) (sc := defScope S_law_groups) (by decide +kernel)) (fun s H C cl fp => pg_name sc_law_groups.nd rfl (Or.inl rfl)) (show (5 : Nat) < 6 by decide) (List.mem_cons_self) ?_
  refine sc_range fr.range ?_
  walk_at "sg"
  refine ⟨many.toNat, by rw [Int.toNat_of_nonneg hm0], by omega, ?_⟩
  refine lck_gen (α := Nat) (xs := List.range many.toNat) (enc := fun (i : Nat) => .int (0 + (i : Int))) (fun pre m' acc => ∃ (st' : LSt) (gs : List Str), m' = (p, .lst (lstD st')) :: M0 ∧ StOk st' ∧ GrpsOk gs size ∧ gs.length = pre.length ∧ acc = gs.map D.str) ⟨st1, [], rfl, hst1, ⟨by simp, by simp, by simp⟩, rfl, rfl⟩ (fun _ _ _ _ => trivial) ?_ ?_
  · rintro pre a post m' acc hxs ⟨st', gs, rfl, hst', hgs, hl, rfl⟩
    have hlen : many.toNat = pre.length + (post.length + 1) := by
      have := congrArg List.length hxs
      rwa [List.length_range, List.length_append, List.length_cons] at this
    refine ⟨_, rfl, fun q s2 H2 C2' cl2 fp2 => ?_⟩
    refine ⟨_, rfl, ?_⟩
    rw [if_pos rfl]
    intro s3 H3 C3 cl3 fp3
    refine ec_call C2 (by exact B.room) ?_
    walk_at "sg"
    refine ⟨p, 1, st', pool, 1, size, rfl, rfl, hst', hpl, by decide, h3, h4, fun sx st2 hst2 hsx hs1 hs2 => ?_⟩
    refine ⟨_, rfl, by rw [List.length_map]; omega, st2, gs ++ [sx], rfl, hst2, ⟨?_, ?_, ?_⟩, by rw [List.length_append, List.length_append, hl]; rfl, by rw [List.map_append]; rfl⟩
    · intro g hg
      rcases List.mem_append.mp hg with hg | hg
      · exact hgs.l g hg
      · rw [List.mem_singleton.mp hg]; exact hsx
    · intro g hg
      rcases List.mem_append.mp hg with hg | hg
      · exact hgs.g0 g hg
      · rw [List.mem_singleton.mp hg]; omega
    · intro g hg
      rcases List.mem_append.mp hg with hg | hg
      · exact hgs.g1 g hg
      · rw [List.mem_singleton.mp hg]; exact hs2
  · rintro m' acc ⟨st', gs, rfl, hst', hgs, hl, rfl⟩
    rw [List.length_range] at hl
    exact hret gs st' hst' hgs (by omega)
def maxL (n : Nat) (a b : List Int) : List Int := (List.range n).map fun (j : Nat) => if b.getD j 0 < a.getD j 0 then a.getD j 0 else b.getD j 0
inductive CutOf (rows : List Row) (n : Nat) : List Int → Prop
  | zero : CutOf rows n ((List.range n).map fun _ => 0)
  | join (c : List Int) (r : Row) : r ∈ rows → CutOf rows n c → CutOf rows n (maxL n c (pastL r))
theorem CutOf.len {rows : List Row} {n : Nat} {c : List Int} (h : CutOf rows n c) : c.length = n := by
  cases h with
  | zero => simp
  | join c r _ _ => simp [maxL]
theorem pastL_len {r : Row} : (pastL r).length = r.seen.length := by simp [pastL]
theorem lst_ne (l : List D) : (!PyData.eqv (D.lst l).py (D.lst []).py) = !decide (l = []) := by
  cases l with
  | nil => simp [D.py, D.pyL, PyData.eqv, PyData.eqvAll]
  | cons a l => simp [D.py, D.pyL, PyData.eqv, PyData.eqvAll]
theorem map_nil_iff {α β : Type} {f : α → β} {l : List α} : l.map f = [] ↔ l = [] := List.map_eq_nil_iff
def FS_law_cut : FSpec := fun ds m k x => ∃ (p : Addr) (j : Nat) (st : LSt) (rows : List Row) (n : Nat), ds = [.raw (.ref p), rowsD rows, .int n] ∧ m[j]? = some (p, .lst (lstD st)) ∧ StOk st ∧ n ≤ 6 ∧ (∀ r ∈ rows, Good r ∧ r.seen.length = n) ∧ rows.length ≤ 900 ∧
  ∀ (cut : List Int) (st' : LSt), StOk st' → CutOf rows n cut → k (.tup (cut.map D.int)) (m.set j (p, .lst (lstD st')))
theorem fn_law_cut (F : F_law_cut K f fd) (gm : mg "_law_cut" = some (.ref f)) (fr : Free mg) (C1 : Fn P w K mg base 1 "_law_draw" FS_law_draw) (C2 : Fn P w K mg base 1 "_law_past" FS_law_past) : Fn P w K mg base 2 "_law_cut" FS_law_cut := by
  refine fn_def F sc_law_cut gm (bs_law_cut F) (fun ds m k x ⟨_, _, _, _, _, e, _⟩ => by rw [e]; rfl) ?_
  rintro cdv A outer s H E B ds m k x ⟨p, j, st, rows, n, rfl, hm, hst, hn, hg, hz, hk⟩
  refine SD.focus hm ?_
  generalize hM : m.eraseIdx j = M0
  have hret : ∀ (cut : List Int) (st' : LSt), StOk st' → CutOf rows n cut → ∃ o', ((p, MO.lst (lstD st')) :: M0 : M) = (p, o') :: M0 ∧ k (.tup (cut.map D.int)) (m.set j (p, o')) := fun s st' a b => ⟨_, rfl, hk s st' a b⟩
  clear hk hm hM
  have hu := B.room.un
  walk_at "sg1"; walk_at "sg1"
  refine ec_lc (own := [("_law_j", 5)]) (.nm 5) B.calm B.nd (blk_ok (N := N_law_cut) (sc := defScope S_law_cut) (by decide +kernel)) (fun s H C cl fp => pg_name sc_law_cut.nd rfl (Or.inl rfl)) (show (5 : Nat) < 7 by decide) (List.mem_cons_self) ?_
  refine sc_range fr.range ?_
  walk_at "sg"
  refine ⟨n, rfl, Nat.le_trans hn (by decide), ?_⟩
  refine lck_map (α := Nat) (xs := List.range n) (enc := fun (i : Nat) => .int (0 + (i : Int))) (gx := fun _ => .int 0) (by rw [List.length_range]; exact Nat.le_trans hn (by decide)) trivial (fun a ha acc => ⟨_, rfl, fun q s2 H2 C2' cl2 fp2 => ?_⟩) ?_
  · walk_at "sg"
    exact ⟨rfl, rfl⟩
  have ez : (List.range n).map (fun _ => D.int 0) = ((List.range n).map fun _ => (0 : Int)).map D.int := by rw [List.map_map]; rfl
  rw [ez]
  refine sd_cons (ss_forT (.nm 4) B (pg_name B.nd rfl (Or.inl rfl)) (show (4 : Nat) < 7 by decide) ?_)
  refine sc_range fr.range ?_
  refine ec_call C1 (by exact B.room) ?_
  walk_at "sg"
  refine ⟨p, 0, st, 4, rfl, rfl, hst, by decide, by decide, fun d st1 hd0 hd1 hst1 => ?_⟩
  refine ⟨d.toNat, by rw [Int.toNat_of_nonneg hd0], by omega, ?_⟩
  refine ⟨Nat, List.range d.toNat, fun (i : Nat) => .int (0 + (i : Int)), fun pre es' m' => ∃ (st' : LSt) (cut : List Int) (o4 o5 o6 : Option D), es' = [some (.raw (.ref p)), some (rowsD rows), some (.int n), some (.lst (cut.map D.int)), o4, o5, o6] ∧ m' = (p, .lst (lstD st')) :: M0 ∧ StOk st' ∧ CutOf rows n cut, rfl, ⟨st1, _, _, _, _, rfl, rfl, hst1, .zero⟩, fun _ _ _ _ => trivial, ?_, ?_⟩
  · rintro pre c post es' m' hxs ⟨st', cut, o4, o5, o6, rfl, rfl, hst', hc⟩
    have hcl := hc.len
    refine ⟨_, rfl, ?_⟩
    walk_at "sg1"; walk_at "sg1"
    refine et_cmp ?_
    walk_at "sg1"
    refine ec_lst (ecs_nil ⟨by decide, ?_⟩)
    refine oc_neL (by omega) (.imm _ _) (.imm _ _) (rowsD_sh fun r hr => (hg r hr).1) ((sn_lst (n := 0) snL_nil).sh (by decide)) ?_
    rw [lst_ne]
    refine ⟨_, rfl, ite_n (fun hne => ?_) fun he => sd_nil ⟨st', cut, _, _, _, rfl, rfl, hst', hc⟩⟩
    have hpos : 0 < rows.length := by
      cases rows with
      | nil => exact absurd rfl hne
      | cons a l => simp
    walk_at "sg1"; walk_at "sg1"
    refine ec_call C2 (by exact B.room) ?_
    walk_at "sg1"; walk_at "sg1"; walk_at "sg1"
    refine ec_call C1 (by exact B.room) ?_
    walk_at "sg"
    refine cc_len (.inl (.imm _ _)) ?_
    rw [List.length_map]
    walk_at "sg"
    refine ⟨p, 0, st', rows.length, rfl, rfl, hst', by omega, by omega, fun d2 st2 hd0 hd1 hst2 => ?_⟩
    obtain ⟨r, hr⟩ : ∃ r, rows[d2.toNat]? = some r := ⟨_, List.getElem?_eq_getElem (by omega)⟩
    have hrm := List.mem_of_getElem? hr
    obtain ⟨gr, gl⟩ := hg r hrm
    refine ic_lst (d := rowD r) (at_nat hd0 (by rw [List.getElem?_map, hr]; rfl)) ?_
    walk_at "sg"
    refine ⟨r, rfl, gr, ?_⟩
    refine sd_one (ss_setB (i := 3) B ?_)
    refine ec_lc (own := [("_law_j", 5)]) (.nm 5) B.calm B.nd (blk_ok (N := N_law_cut) (sc := defScope S_law_cut) (by decide +kernel)) (fun s H C cl fp => pg_name sc_law_cut.nd rfl (Or.inl rfl)) (show (5 : Nat) < 7 by decide) (List.mem_cons_self) ?_
    refine sc_range fr.range ?_
    walk_at "sg"
    refine ⟨n, rfl, Nat.le_trans hn (by decide), ?_⟩
    refine lck_map (α := Nat) (xs := List.range n) (enc := fun (i : Nat) => .int (0 + (i : Int))) (gx := fun (j : Nat) => .int (if (pastL r).getD j 0 < cut.getD j 0 then cut.getD j 0 else (pastL r).getD j 0)) (by rw [List.length_range]; exact Nat.le_trans hn (by decide)) trivial (fun a ha acc => ⟨_, rfl, fun q s2 H2 C2' cl2 fp2 => ?_⟩) ?_
    · have hal := List.mem_range.mp ha
      have h1 : atI (cut.map D.int) (0 + (a : Int)) = some (.int (cut.getD a 0)) := at_intN (by omega)
      have h2 : atI ((pastL r).map D.int) (0 + (a : Int)) = some (.int ((pastL r).getD a 0)) := at_intN (by rw [pastL_len]; omega)
      refine ec_if (et_cmp ?_)
      walk_at "sg"
      refine ic_lst h1 ?_
      walk_at "sg"
      refine ic_tup h2 ?_
      walk_at "sg"
      refine ite_d (fun hlt => ?_) fun hlt => ?_
      · walk_at "sg"
        refine ic_lst h1 ?_
        exact ⟨by rw [if_pos hlt], rfl⟩
      · walk_at "sg"
        refine ic_tup h2 ?_
        exact ⟨by rw [if_neg hlt], rfl⟩
    refine ⟨st2, maxL n cut (pastL r), some (.int (0 + (c : Int))), o5, some (.tup ((pastL r).map D.int)), ?_, rfl, hst2, .join cut r hrm hc⟩
    unfold maxL
    rw [List.map_map]
    rfl
  · rintro es' m' ⟨st', cut, o4, o5, o6, rfl, rfl, hst', hc⟩
    walk_at "sg"
    refine cc_tuple (.imm _ _) ?_
    exact hret cut st' hst' hc
end
end TSgL6
/-! SgL7: _law_same, _law_all_rules, _law_fixed. -/
section TSgL7
set_option maxHeartbeats 4000000
open PySem PySem.Spec PyProof.Rows L2
theorem bt_bool : bootBuiltins "bool" = some (.type "bool") := by decide +kernel
theorem bt_int : bootBuiltins "int" = some (.type "int") := by decide +kernel
theorem bt_str : bootBuiltins "str" = some (.type "str") := by decide +kernel
theorem bt_tuple : bootBuiltins "tuple" = some (.type "tuple") := by decide +kernel
theorem bt_list : bootBuiltins "list" = some (.type "list") := by decide +kernel
theorem kt_bool_bool {K : PySem.W.Frag} : PySem.W.kitOne K (.type "bool") (.type "bool") = some true := kit_ty (by decide +kernel)
theorem kt_int_bool {K : PySem.W.Frag} : PySem.W.kitOne K (.type "int") (.type "bool") = some false := kit_ty (by decide +kernel)
theorem kt_int_int {K : PySem.W.Frag} : PySem.W.kitOne K (.type "int") (.type "int") = some true := kit_ty (by decide +kernel)
theorem kt_str_bool {K : PySem.W.Frag} : PySem.W.kitOne K (.type "str") (.type "bool") = some false := kit_ty (by decide +kernel)
theorem kt_str_int {K : PySem.W.Frag} : PySem.W.kitOne K (.type "str") (.type "int") = some false := kit_ty (by decide +kernel)
theorem kt_str_str {K : PySem.W.Frag} : PySem.W.kitOne K (.type "str") (.type "str") = some true := kit_ty (by decide +kernel)
theorem kt_tuple_bool {K : PySem.W.Frag} : PySem.W.kitOne K (.type "tuple") (.type "bool") = some false := kit_ty (by decide +kernel)
theorem kt_tuple_int {K : PySem.W.Frag} : PySem.W.kitOne K (.type "tuple") (.type "int") = some false := kit_ty (by decide +kernel)
theorem kt_tuple_str {K : PySem.W.Frag} : PySem.W.kitOne K (.type "tuple") (.type "str") = some false := kit_ty (by decide +kernel)
theorem kt_tuple_tuple {K : PySem.W.Frag} : PySem.W.kitOne K (.type "tuple") (.type "tuple") = some true := kit_ty (by decide +kernel)
theorem kt_tuple_list {K : PySem.W.Frag} : PySem.W.kitOne K (.type "tuple") (.type "list") = some false := kit_ty (by decide +kernel)
theorem kt_list_bool {K : PySem.W.Frag} : PySem.W.kitOne K (.type "list") (.type "bool") = some false := kit_ty (by decide +kernel)
theorem kt_list_int {K : PySem.W.Frag} : PySem.W.kitOne K (.type "list") (.type "int") = some false := kit_ty (by decide +kernel)
theorem kt_list_str {K : PySem.W.Frag} : PySem.W.kitOne K (.type "list") (.type "str") = some false := kit_ty (by decide +kernel)
theorem kt_list_tuple {K : PySem.W.Frag} : PySem.W.kitOne K (.type "list") (.type "tuple") = some false := kit_ty (by decide +kernel)
theorem kt_list_list {K : PySem.W.Frag} : PySem.W.kitOne K (.type "list") (.type "list") = some true := kit_ty (by decide +kernel)
theorem ec_ty {X : Cx} {x : XD} {es : Es} {m : M} {k : KD} {pos : Pos} {n : Str} {T : String} (hm : X.mg n = none) (hv : bootBuiltins n = some (.type T)) (hk : k (.raw (.ty T)) m) (hg : Gl X n := by rfl) (hn : n ≠ "__name__" := by decide) (hd : (n == ("__debug__" : Str)) = false := by decide) : EC X x es m (.Name n pos) k :=
  EC.of (pe_bltn (v := .ty T) hg hm hv rfl hn hd) fun G σ H Q w st q => q.now st.hs hk (.raw _)
/-- plain data of small depth -/
def Dok : Nat → D → Prop
  | 0, d => (match d with
    | .non | .bl _ | .int _ | .str _ => True
    | _ => False)
  | n + 1, d => (match d with
    | .non | .bl _ | .int _ | .str _ => True
    | .tup ds => ds.length ≤ 100000 ∧ ∀ e ∈ ds, Dok n e
    | .lst ds => ds.length ≤ 100000 ∧ ∀ e ∈ ds, Dok n e
    | _ => False)
def FS_law_same (n : Nat) : FSpec := fun ds m k x => ∃ d : D, ds = [d, d] ∧ Dok n d ∧ k (.bl true) m
section
variable {P : Program} {w : World} {K : PySem.W.Frag} {mg : Str → Option Value} {base : Heap} {f C CR CG XC XM XG : Addr} {fd : FuncData}
local macro_rules | `(tactic| walk_at "isabool") => `(tactic| (walk_at "sg"; refine ec_ty (T := "bool") (Free.bool (by assumption)) bt_bool ?_; walk_at "sg"))
local macro_rules | `(tactic| walk_at "isaint") => `(tactic| (walk_at "sg"; refine ec_ty (T := "int") (Free.int (by assumption)) bt_int ?_; walk_at "sg"))
local macro_rules | `(tactic| walk_at "isastr") => `(tactic| (walk_at "sg"; refine ec_ty (T := "str") (Free.str (by assumption)) bt_str ?_; walk_at "sg"))
local macro_rules | `(tactic| walk_at "isatuple") => `(tactic| (walk_at "sg"; refine ec_ty (T := "tuple") (Free.tuple (by assumption)) bt_tuple ?_; walk_at "sg"))
local macro_rules | `(tactic| walk_at "isalist") => `(tactic| (walk_at "sg"; refine ec_ty (T := "list") (Free.list (by assumption)) bt_list ?_; walk_at "sg"))
theorem same_body {n : Nat} (F : F_law_same K f fd) (gm : mg "_law_same" = some (.ref f)) (fr : Free mg) (ih : ∀ d ds, (d = .tup ds ∨ d = .lst ds) → Dok n d → ∃ j, (∀ e ∈ ds, Dok j e) ∧ Fn P w K mg base n "_law_same" (FS_law_same j) ∧ ds.length ≤ 100000) : Fn P w K mg base (n + 1) "_law_same" (FS_law_same n) := by
  refine fn_def F sc_law_same gm (bs_law_same F) (fun ds m k x ⟨_, e, _⟩ => by rw [e]; rfl) ?_
  rintro cdv A outer s H E B ds m k x ⟨d, rfl, hd, hk⟩
  cases d with
  | non =>
    walk_at "sg"
    exact hk
  | bl b =>
    walk_at "sg"
    walk_at "isabool"
    refine cc_isaB (.bl _) kt_bool_bool ?_
    walk_at "isabool"
    refine cc_isaB (.bl _) kt_bool_bool ?_
    walk_at "sg"
    refine oc_eqb ?_
    rw [decide_eq_true rfl]
    exact hk
  | int i =>
    walk_at "sg"
    walk_at "isabool"
    refine cc_isaB (.int _) kt_int_bool ?_
    walk_at "isaint"
    refine cc_isaB (.int _) kt_int_int ?_
    walk_at "isaint"
    refine cc_isaB (.int _) kt_int_int ?_
    walk_at "isabool"
    refine cc_isaB (.int _) kt_int_bool ?_
    walk_at "sg"
    rw [decide_eq_true rfl]
    exact hk
  | str z =>
    walk_at "sg"
    walk_at "isabool"
    refine cc_isaB (.str _) kt_str_bool ?_
    walk_at "isaint"
    refine cc_isaB (.str _) kt_str_int ?_
    walk_at "isastr"
    refine cc_isaB (.str _) kt_str_str ?_
    walk_at "isastr"
    refine cc_isaB (.str _) kt_str_str ?_
    walk_at "sg"
    rw [decide_eq_true rfl]
    exact hk
  | tup ds =>
    obtain ⟨j, h1, h2, h3⟩ := ih _ ds (.inl rfl) hd
    walk_at "sg"
    walk_at "isabool"
    refine cc_isaB (.tup _) kt_tuple_bool ?_
    walk_at "isaint"
    refine cc_isaB (.tup _) kt_tuple_int ?_
    walk_at "isastr"
    refine cc_isaB (.tup _) kt_tuple_str ?_
    walk_at "isatuple"
    refine cc_isaB (.tup _) kt_tuple_tuple ?_
    walk_at "isatuple"
    refine cc_isaB (.tup _) kt_tuple_tuple ?_
    walk_at "isalist"
    refine cc_isaB (.tup _) kt_tuple_list ?_
    walk_at "sg"
    refine cc_len (.inr rfl) ?_
    walk_at "sg"
    refine cc_len (.inr rfl) ?_
    walk_at "sg"
    refine ite_n (fun h => absurd rfl h) fun _ => ?_
    refine sd_nil (sd_cons (ss_forT (.nm 2) B (pg_name B.nd rfl (Or.inl rfl)) (show (2 : Nat) < 3 by decide) ?_))
    refine sc_range fr.range ?_
    walk_at "sg"
    refine cc_len (.inr rfl) ?_
    refine ⟨ds.length, rfl, h3, ?_⟩
    refine ⟨Nat, List.range ds.length, fun (i : Nat) => .int (0 + (i : Int)), fun pre es' m' => ∃ (o2 : Option D), es' = [some (.tup ds), some (.tup ds), o2] ∧ m' = m, rfl, ⟨_, rfl, rfl⟩, fun _ _ _ _ => trivial, ?_, ?_⟩
    · rintro pre c post es' m' hxs ⟨o2, rfl, rfl⟩
      have hlt : c < ds.length := by
        have : c ∈ List.range ds.length := by rw [hxs]; simp
        exact List.mem_range.mp this
      have hat : atI ds (0 + (c : Int)) = some ds[c] := by
        rw [Int.zero_add]
        exact atI_nat (List.getElem?_eq_getElem hlt)
      refine ⟨_, rfl, sd_one (ss_if (et_not (et_val (ec_call h2 B.room ?_))))⟩
      walk_at "sg"
      refine ic_tup hat ?_
      walk_at "sg"
      refine ic_tup hat ?_
      walk_at "sg"
      refine ⟨ds[c], rfl, h1 _ (List.getElem_mem hlt), ⟨true, rfl, ?_⟩⟩
      walk_at "sgi"
      exact sd_nil ⟨_, rfl, rfl⟩
    · rintro es' m' ⟨o2, rfl, rfl⟩
      walk_at "sg"
      exact hk
  | lst ds =>
    obtain ⟨j, h1, h2, h3⟩ := ih _ ds (.inr rfl) hd
    walk_at "sg"
    walk_at "isabool"
    refine cc_isaB (.lst (.imm _ _)) kt_list_bool ?_
    walk_at "isaint"
    refine cc_isaB (.lst (.imm _ _)) kt_list_int ?_
    walk_at "isastr"
    refine cc_isaB (.lst (.imm _ _)) kt_list_str ?_
    walk_at "isatuple"
    refine cc_isaB (.lst (.imm _ _)) kt_list_tuple ?_
    walk_at "isalist"
    refine cc_isaB (.lst (.imm _ _)) kt_list_list ?_
    walk_at "isalist"
    refine cc_isaB (.lst (.imm _ _)) kt_list_list ?_
    walk_at "sg"
    refine cc_len (.inl (.imm _ _)) ?_
    walk_at "sg"
    refine cc_len (.inl (.imm _ _)) ?_
    walk_at "sg"
    refine ite_n (fun h => absurd rfl h) fun _ => ?_
    refine sd_nil (sd_cons (ss_forT (.nm 2) B (pg_name B.nd rfl (Or.inl rfl)) (show (2 : Nat) < 3 by decide) ?_))
    refine sc_range fr.range ?_
    walk_at "sg"
    refine cc_len (.inl (.imm _ _)) ?_
    refine ⟨ds.length, rfl, h3, ?_⟩
    refine ⟨Nat, List.range ds.length, fun (i : Nat) => .int (0 + (i : Int)), fun pre es' m' => ∃ (o2 : Option D), es' = [some (.lst ds), some (.lst ds), o2] ∧ m' = m, rfl, ⟨_, rfl, rfl⟩, fun _ _ _ _ => trivial, ?_, ?_⟩
    · rintro pre c post es' m' hxs ⟨o2, rfl, rfl⟩
      have hlt : c < ds.length := by
        have : c ∈ List.range ds.length := by rw [hxs]; simp
        exact List.mem_range.mp this
      have hat : atI ds (0 + (c : Int)) = some ds[c] := by
        rw [Int.zero_add]
        exact atI_nat (List.getElem?_eq_getElem hlt)
      refine ⟨_, rfl, sd_one (ss_if (et_not (et_val (ec_call h2 B.room ?_))))⟩
      walk_at "sg"
      refine ic_lst hat ?_
      walk_at "sg"
      refine ic_lst hat ?_
      walk_at "sg"
      refine ⟨ds[c], rfl, h1 _ (List.getElem_mem hlt), ⟨true, rfl, ?_⟩⟩
      walk_at "sgi"
      exact sd_nil ⟨_, rfl, rfl⟩
    · rintro es' m' ⟨o2, rfl, rfl⟩
      walk_at "sg"
      exact hk
  | ins C fs => cases n <;> exact hd.elim
  | raw v => cases n <;> exact hd.elim
  | scr v => cases n <;> exact hd.elim
theorem fn_law_same (F : F_law_same K f fd) (gm : mg "_law_same" = some (.ref f)) (fr : Free mg) : ∀ n, Fn P w K mg base (n + 1) "_law_same" (FS_law_same n)
  | 0 => same_body F gm fr fun d ds h hd => by rcases h with rfl | rfl <;> exact hd.elim
  | n + 1 => same_body F gm fr fun d ds h hd => ⟨n, by rcases h with rfl | rfl <;> exact hd.2, fn_law_same F gm fr n, by rcases h with rfl | rfl <;> exact hd.1⟩
end
end TSgL7
/-! SgL7b: _law_all_rules, _law_fixed. -/
section TSgL7b
set_option maxHeartbeats 4000000
open PySem PySem.Spec PyProof.Rows L2
def cxs (f : Expr → Option D) : List Expr → Option (List D)
  | [] => some []
  | e :: r => (match f e with
    | some d => (match cxs f r with
      | some ds => some (d :: ds)
      | none => none)
    | none => none)
/-- what stands there is a constant -/
def cx : Nat → Expr → Option D
  | 0, _ => none
  | n + 1, e => (match e with
    | .Constant (.int i) _ _ => some (.int i)
    | .Constant (.str z) _ _ => some (.str z)
    | .Constant .none _ _ => some .non
    | .Constant (.bool b) _ _ => some (.bl b)
    | .Tuple es _ _ => (match decide (es.length ≤ 1000) with
      | true => (cxs (cx n) es).map .tup
      | false => none)
    | .List es _ => (match decide (es.length ≤ 1000) with
      | true => (cxs (cx n) es).map .lst
      | false => none)
    | _ => none)
theorem cx_star {n : Nat} {e : Expr} {d : D} {as : List Expr} {env : PySem.Env} (h : cx n e = some d) : starEach (e :: as) env = (false, eval e env) :: starEach as env := by
  cases n with
  | zero => cases h
  | succ n =>
    unfold cx at h
    split at h <;> first | rfl | cases h
theorem cxs_len {f : Expr → Option D} : ∀ {l : List Expr} {ds : List D}, cxs f l = some ds → ds.length = l.length
  | [], ds, h => by cases h; rfl
  | e :: r, ds, h => by
    unfold cxs at h
    split at h
    · split at h
      · rename_i q
        cases h
        rw [List.length_cons, List.length_cons, cxs_len q]
      · cases h
    · cases h
theorem ecs_cx {X : Cx} {x : XD} {es : Es} {m : M} {n : Nat} (ih : ∀ (e : Expr) (d : D) (k : KD), cx n e = some d → k d m → EC X x es m e k) : ∀ {l : List Expr} {ds : List D} {k : List D → M → Prop}, cxs (cx n) l = some ds → k ds m → ECs X x es m l k
  | [], ds, k, h, hk => by
    cases h
    exact ecs_nil hk
  | e :: r, ds, k, h, hk => by
    unfold cxs at h
    split at h
    · rename_i d hd
      split at h
      · rename_i ds' hds
        cases h
        exact ecs_cons (ih e d _ hd (ecs_cx ih hds hk)) (cx_star hd)
      · cases h
    · cases h
theorem ec_cx {X : Cx} {x : XD} {es : Es} {m : M} : ∀ (n : Nat) {e : Expr} {d : D} {k : KD}, cx n e = some d → k d m → EC X x es m e k
  | 0, _, _, _, h, _ => by cases h
  | n + 1, e, d, k, h, hk => by
    unfold cx at h
    split at h
    · cases h; exact ec_int hk
    · cases h; exact ec_str hk
    · cases h; exact ec_non hk
    · cases h; exact ec_bl hk
    · split at h
      · rename_i hz
        cases q : cxs (cx n) _ with
        | none => rw [q] at h; cases h
        | some ds =>
          rw [q] at h
          cases h
          exact ec_tup (ecs_cx (fun e d k => ec_cx n) q ⟨by rw [cxs_len q]; exact of_decide_eq_true hz, hk⟩)
      · cases h
    · split at h
      · rename_i hz
        cases q : cxs (cx n) _ with
        | none => rw [q] at h; cases h
        | some ds =>
          rw [q] at h
          cases h
          exact ec_lst (ecs_cx (fun e d k => ec_cx n) q ⟨by rw [cxs_len q]; exact of_decide_eq_true hz, hk⟩)
      · cases h
    · cases h
section
variable {P : Program} {w : World} {K : PySem.W.Frag} {mg : Str → Option Value} {base : Heap} {f C CR CG XC XM XG : Addr} {fd : FuncData}
def wordsD (R : Rul) : D := .tup [.str (sideS R), .str (orderS R), .str (linkS R)]
def allRul : List Rul := [⟨true, false, true⟩, ⟨true, false, false⟩, ⟨true, true, true⟩, ⟨true, true, false⟩, ⟨false, false, true⟩, ⟨false, false, false⟩, ⟨false, true, true⟩, ⟨false, true, false⟩]
abbrev W3 := Str × Str × Str
def w3D (t : W3) : D := .tup [.str t.1, .str t.2.1, .str t.2.2]
def rul1 (fl se : Str) : List W3 := [(fl, se, "whole"), (fl, se, "loose")]
theorem allRul_eq : (["after", "before"] : List Str).flatMap (fun fl => (["newest", "oldest"] : List Str).flatMap (rul1 fl)) = allRul.map fun R => (sideS R, orderS R, linkS R) := by decide +kernel
def FS_law_all_rules : FSpec := fun ds m k x => ds = [] ∧ k (.lst (allRul.map wordsD)) m
theorem fn_law_all_rules (F : F_law_all_rules K f fd) (gm : mg "_law_all_rules" = some (.ref f)) : Fn P w K mg base 1 "_law_all_rules" FS_law_all_rules := by
  refine fn_def F sc_law_all_rules gm (bs_law_all_rules F) (fun ds m k x ⟨e, _⟩ => by rw [e]; rfl) ?_
  rintro cdv A outer s H E B ds m k x ⟨rfl, hk⟩
  walk_at "sg1"; walk_at "sg1"
  refine ec_lst (ecs_nil ⟨by decide, ?_⟩)
  refine sd_cons (ss_forT (.nm 1) B (pg_name B.nd rfl (Or.inl rfl)) (show (1 : Nat) < 3 by decide) ?_)
  refine sc_lst (ec_lst ?_)
  walk_at "sg"
  refine ⟨by decide, _, rfl, ?_⟩
  refine ⟨Str, ["after", "before"], D.str, fun pre es' m' => ∃ (o1 o2 : Option D), es' = [some (.lst ((pre.flatMap fun fl => (["newest", "oldest"] : List Str).flatMap (rul1 fl)).map w3D)), o1, o2] ∧ m' = m, rfl, ⟨_, _, rfl, rfl⟩, fun _ _ _ _ => trivial, ?_, ?_⟩
  · rintro pre c post es' m' hxs ⟨o1, o2, rfl, rfl⟩
    have hpl : pre.length ≤ 2 := by
      have := congrArg List.length hxs
      rw [List.length_append, List.length_cons] at this
      simp at this
      omega
    refine ⟨_, rfl, ?_⟩
    refine sd_one (ss_forT (.nm 2) B (pg_name B.nd rfl (Or.inl rfl)) (show (2 : Nat) < 3 by decide) ?_)
    refine sc_lst (ec_lst ?_)
    walk_at "sg"
    refine ⟨by decide, _, rfl, ?_⟩
    refine ⟨Str, ["newest", "oldest"], D.str, fun pre2 es' m'' => ∃ (o2 : Option D), es' = [some (.lst ((pre.flatMap (fun fl => (["newest", "oldest"] : List Str).flatMap (rul1 fl)) ++ pre2.flatMap (rul1 c)).map w3D)), some (.str c), o2] ∧ m'' = m', rfl, ⟨_, by rw [List.flatMap_nil, List.append_nil]; rfl, rfl⟩, fun _ _ _ _ => trivial, ?_, ?_⟩
    · rintro pre2 c2 post2 es' m' hxs2 ⟨o2, rfl, rfl⟩
      refine ⟨_, rfl, ?_⟩
      walk_at "sg"
      refine ec_lst ?_
      walk_at "sg"
      refine ⟨(show (3 : Nat) ≤ 1000 by decide), ?_⟩
      walk_at "sg"
      refine ⟨(show (3 : Nat) ≤ 1000 by decide), ?_⟩
      walk_at "sg"
      refine ⟨(show (2 : Nat) ≤ 1000 by decide), ?_⟩
      refine oc_cat (.imm _ _) (.imm _ _) ?_ ?_
      · rw [List.length_map]
        refine Nat.le_trans (?_ : _ ≤ 1000) (by decide)
        rw [List.length_append]
        have h1 : ∀ l : List Str, (l.flatMap fun fl => (["newest", "oldest"] : List Str).flatMap (rul1 fl)).length = 4 * l.length := by
          intro l
          induction l with
          | nil => rfl
          | cons a l ih => rw [List.flatMap_cons, List.length_append, ih, List.length_cons]; show 4 + _ = _; omega
        have h2 : ∀ l : List Str, (l.flatMap (rul1 c)).length = 2 * l.length := by
          intro l
          induction l with
          | nil => rfl
          | cons a l ih => rw [List.flatMap_cons, List.length_append, ih, List.length_cons]; show 2 + _ = _; omega
        have h3 : pre2.length ≤ 2 := by
          have := congrArg List.length hxs2
          rw [List.length_append, List.length_cons] at this
          simp at this
          omega
        rw [h1, h2]
        show _ + 2 ≤ 1000
        omega
      refine ⟨some (.str c2), ?_, rfl⟩
      simp only [List.flatMap_append, ← List.append_assoc, List.map_append, List.flatMap_singleton]
      rfl
    · rintro es' m' ⟨o2, rfl, rfl⟩
      exact ⟨some (.str c), o2, by rw [List.flatMap_append, List.flatMap_singleton], rfl⟩
  · rintro es' m' ⟨o1, o2, rfl, rfl⟩
    walk_at "sg"
    rw [allRul_eq, List.map_map]
    exact hk
def fixA : List Row := [⟨0, [0, 0], "ab", (none, 1)⟩, ⟨1, [0, 0], "cd", (none, 1)⟩, ⟨1, [1, 1], "e", (some (0, 1), 1)⟩]
def fixB : List Row := [⟨0, [1, 1], "fgh", (none, 1)⟩, ⟨0, [2, 2], "kl", (none, 0)⟩, ⟨1, [2, 2], "m", (some (1, 2), 1)⟩]
def fixC : List Row := [⟨1, [3, 3], "no", (some (0, 2), 2)⟩, ⟨0, [3, 3], "p", (some (0, 2), 2)⟩]
def fixedRows : List Row := fixA ++ fixB ++ fixC
def FS_law_fixed : FSpec := fun ds m k x => ds = [] ∧ k (rowsD fixedRows) m
theorem fn_law_fixed (F : F_law_fixed K f fd) (gm : mg "_law_fixed" = some (.ref f)) : Fn P w K mg base 1 "_law_fixed" FS_law_fixed := by
  refine fn_def F sc_law_fixed gm (bs_law_fixed F) (fun ds m k x ⟨e, _⟩ => by rw [e]; rfl) ?_
  rintro cdv A outer s H E B ds m k x ⟨rfl, hk⟩
  refine sd_cons ?_
  generalize hE : (PySem.Expr.List _ _) = ebig
  refine ss_setB (i := 0) (y := "_law_rows") B ?_ (hs := by rw [← hE]; rfl)
  refine ec_cx 9 (d := .lst (fixA.map rowD)) (by rw [← hE]; kernel_rfl) ?_
  refine sd_cons ?_
  generalize hE2 : (PySem.Expr.List _ _) = ebig2
  refine ss_setB (i := 0) (y := "_law_rows") B ?_
  walk_at "sg"
  refine ec_cx 9 (d := .lst (fixB.map rowD)) (by rw [← hE2]; kernel_rfl) ?_
  refine oc_cat (.imm _ _) (.imm _ _) (show (6 : Nat) ≤ lim by decide) ?_
  refine sd_one ?_
  generalize hE3 : (PySem.Expr.List _ _) = ebig3
  refine ss_ret ?_
  walk_at "sg"
  refine ec_cx 9 (d := .lst (fixC.map rowD)) (by rw [← hE3]; kernel_rfl) ?_
  refine oc_cat (.imm _ _) (.imm _ _) (show (8 : Nat) ≤ lim by decide) ?_
  unfold fixedRows rowsD at hk
  rw [List.map_append, List.map_append] at hk
  exact hk
end
end TSgL7b
/-! SgL8: _law_due, _law_refusal. -/
section TSgL8
set_option maxHeartbeats 4000000
open PySem PySem.Spec PyProof.Rows L2
/-- what is due for a list of calls -/
inductive Due (g0 : Str) (rows : List Row) : D → Prop
  | ok : LayOk g0 rows → Due g0 rows .non
  | clash (q : Key) : LeastClash rows q → Due g0 rows (.tup [.bl true, .bl false, .bl true, keyD q])
  | miss (o : List Row) (r : Row) : NoClash rows → Ord rows o → FirstMissing g0 o r → Due g0 rows (.tup [.bl false, .bl true, .bl true, keyD r.key])
def kI (q : Key) : List Int := [q.1, q.2]
theorem kI_eI (q : Key) : eI true (kI q) = keyD q := rfl
theorem kLt_I {a b : Key} (h : kLt a b) : kI a < kI b := by
  unfold kI
  rcases h with h | ⟨h, h'⟩
  · exact List.cons_lt_cons_iff.mpr (.inl h)
  · exact List.cons_lt_cons_iff.mpr (.inr ⟨h, List.cons_lt_cons_iff.mpr (.inl h')⟩)
theorem kI_inj {a b : Key} (h : kI a = kI b) : a = b := by
  unfold kI at h
  simp only [List.cons.injEq, and_true] at h
  exact Prod.ext h.1 h.2
theorem least_of {rows : List Row} {cs : List Key} (hc : ∀ q, q ∈ cs ↔ Clash rows q) {ys : List (List Int)} (hp : ys.Perm (cs.map kI)) (ha : Asc ys) (hne : cs ≠ []) : ∃ q, LeastClash rows q ∧ (ys.map (eI true))[0]? = some (keyD q) := by
  cases ys with
  | nil =>
    have := hp.length_eq
    rw [List.length_map] at this
    exact absurd (List.length_eq_zero_iff.mp this.symm) hne
  | cons y ys =>
    obtain ⟨q, hq, e⟩ := List.mem_map.mp (hp.mem_iff.mp (List.mem_cons_self (a := y)))
    refine ⟨q, ⟨(hc q).mp hq, fun q' hq' hlt => ?_⟩, ?_⟩
    · have hin : kI q' ∈ y :: ys := hp.mem_iff.mpr (List.mem_map.mpr ⟨q', (hc q').mpr hq', rfl⟩)
      have hl := kLt_I hlt
      rcases List.mem_cons.mp hin with h | h
      · rw [h, ← e] at hl; exact lt_ir _ hl
      · exact (List.pairwise_cons.mp ha).1 _ h (by rw [← e]; exact hl)
    · rw [← e]; rfl
/-- the signs that are there -/
def thereL (g0 : Str) (pre : List Row) : List Nm := ((List.range (g0.length + 1)).map fun (i : Nat) => ((none : Option Key), (i : Int))) ++ pre.flatMap fun r => signs (some r.key) r.group
theorem there_iff {g0 : Str} {pre : List Row} {r : Row} : r.anchor ∈ thereL g0 pre ↔ okA g0 pre r := by
  unfold thereL okA Named
  rw [List.mem_append, List.mem_map, List.mem_flatMap]
  constructor
  · rintro (⟨i, hi, e⟩ | h)
    · rw [List.mem_range] at hi
      by_cases h0 : i = 0
      · left; rw [← e, h0]; rfl
      · right; left
        rw [← e]
        exact mem_signs.mpr ⟨rfl, by show (1 : Int) ≤ (i : Int); omega, by show (i : Int) ≤ _; omega⟩
    · exact .inr (.inr h)
  · rintro (h | h | h)
    · exact .inl ⟨0, by rw [List.mem_range]; omega, h.symm⟩
    · obtain ⟨h1, h2, h3⟩ := mem_signs.mp h
      refine .inl ⟨r.anchor.2.toNat, by rw [List.mem_range]; omega, ?_⟩
      refine Prod.ext h1.symm ?_
      show ((r.anchor.2.toNat : Nat) : Int) = r.anchor.2
      omega
    · exact .inr h
theorem nms_any (l : List Nm) (a : Nm) : ((D.pyL (l.map nmD)).any fun z => PyData.eqv z (nmD a).py) = decide (a ∈ l) := by
  rw [pyL_map, List.any_map, List.any_map]
  rw [Bool.eq_iff_iff, List.any_eq_true, decide_eq_true_iff]
  constructor
  · rintro ⟨b, hb, h⟩
    have h : PyData.eqv (nmD b).py (nmD a).py = true := h
    rw [nm_eqv, decide_eq_true_iff] at h
    exact h ▸ hb
  · intro h
    exact ⟨a, h, (nm_eqv a a).trans (decide_eq_true rfl)⟩
theorem nmsD_sh (l : List Nm) : (nmsD l).sh := (sn_lst (n := 2) (snL_map fun a _ => nmD_sn)).sh (by decide)
theorem there_len {g0 : Str} : ∀ {pre : List Row}, (∀ r ∈ pre, Good r) → (thereL g0 pre).length ≤ g0.length + 1 + 10 * pre.length := by
  intro pre h
  unfold thereL
  rw [List.length_append, List.length_map, List.length_range]
  have : ∀ l : List Row, (∀ q ∈ l, Good q) → (l.flatMap fun r => signs (some r.key) r.group).length ≤ 10 * l.length := by
    intro l
    induction l with
    | nil => intro _; simp
    | cons q l ih =>
      intro h
      have h3 := ih fun z hz => h z (List.mem_cons_of_mem _ hz)
      have h4 := (h q List.mem_cons_self).g1
      rw [List.flatMap_cons, List.length_append, signs_len, List.length_cons]
      omega
  have := this pre h
  omega
section
variable {P : Program} {w : World} {K : PySem.W.Frag} {mg : Str → Option Value} {base : Heap} {f C CR CG XC XM XG : Addr} {fd : FuncData}
def FS_law_due : FSpec := fun ds m k x => ∃ (g0 : Str) (rows : List Row), ds = [rowsD rows, .int (g0.length : Nat)] ∧ LayP g0 rows ∧ rows.length ≤ 100 ∧ ∀ d, Due g0 rows d → k d m
theorem fn_law_due (F : F_law_due K f fd) (gm : mg "_law_due" = some (.ref f)) (fr : Free mg) (C1 : Fn P w K mg base 1 "_law_rising" FS_law_rising) (C2 : Fn P w K mg base 1 "_law_key" FS_law_key) (C3 : Fn P w K mg base 2 "_law_by_stamps" FS_law_by_stamps) (C4 : Fn P w K mg base 1 "_law_once" FS_law_once) : Fn P w K mg base 3 "_law_due" FS_law_due := by
  refine fn_def F sc_law_due gm (bs_law_due F) (fun ds m k x ⟨_, _, e, _⟩ => by rw [e]; rfl) ?_
  rintro cdv A outer s H E B ds m k x ⟨g0, rows, rfl, hp, hz, hk⟩
  have hu := B.room.un
  have hg := hp.g
  have hg0 := hp.g0
  walk_at "sg1"; walk_at "sg1"
  refine ec_lstM (ecs_nil ⟨by decide, fun pc => ?_⟩)
  refine sd_cons (ss_forT (.nm 3) B (pg_name B.nd rfl (Or.inl rfl)) (show (3 : Nat) < 8 by decide) ?_)
  refine sc_range fr.range ?_
  walk_at "sg"
  refine cc_len (.inl (.imm _ _)) ?_
  rw [List.length_map]
  refine ⟨rows.length, rfl, by omega, ?_⟩
  refine ⟨Nat, List.range rows.length, fun (i : Nat) => .int (0 + (i : Int)), fun pre es' m' => ∃ (cs : List Key) (o3 o6 : Option D), es' = [some (rowsD rows), some (.int (g0.length : Nat)), some (.raw (.ref pc)), o3, none, none, o6, none] ∧ m' = (pc, .lst (cs.map keyD)) :: m ∧ pre = List.range pre.length ∧ cs.length ≤ 100 * pre.length ∧ ∀ q, q ∈ cs ↔ Clash (rows.take pre.length) q, rfl, ⟨[], _, _, rfl, rfl, rfl, Nat.zero_le _, fun q => by simp [Clash]⟩, fun _ _ _ _ => trivial, ?_, ?_⟩
  · rintro pre c post es' m' hxs ⟨cs, o3, o6, rfl, rfl, hpre, hcl, hcs⟩
    have hcp : c = pre.length ∧ pre ++ [c] = List.range (pre.length + 1) := by
      have h1 : (List.range rows.length)[pre.length]? = some c := by rw [hxs, List.getElem?_append_right (Nat.le_refl _), Nat.sub_self]; rfl
      obtain ⟨h2, h3⟩ := List.getElem?_eq_some_iff.mp h1
      rw [List.getElem_range] at h3
      exact ⟨h3.symm, by rw [List.range_succ, ← hpre, h3]⟩
    have hlt : c < rows.length := by
      have : c ∈ List.range rows.length := by rw [hxs]; simp
      exact List.mem_range.mp this
    obtain ⟨r, hr⟩ : ∃ r, rows[c]? = some r := ⟨_, List.getElem?_eq_getElem hlt⟩
    have hrr := List.mem_of_getElem? hr
    have gr := hg r hrr
    have hat : atI (rows.map rowD) (0 + (c : Int)) = some (rowD r) := by
      rw [Int.zero_add]
      exact atI_nat (by rw [List.getElem?_map, hr]; rfl)
    refine ⟨_, rfl, sd_one (ss_forT (.nm 6) B (pg_name B.nd rfl (Or.inl rfl)) (show (6 : Nat) < 8 by decide) ?_)⟩
    refine sc_lst (ec_sl ?_)
    walk_at "sg1"
    show EC _ _ _ _ _ _
    walk_at "sg1"
    refine ⟨_, rfl, lc_list (.imm _ _) ?_⟩
    have ecut : cutD (rows.map rowD) none (some (0 + (c : Int))) = (rows.take c).map rowD := by rw [Int.zero_add]; exact cut_lo rowD rows (by omega)
    rw [ecut]
    refine ⟨_, rfl, Row, rows.take c, rowD, fun pre2 es' m' => ∃ (cs : List Key) (o6 : Option D), es' = [some (rowsD rows), some (.int (g0.length : Nat)), some (.raw (.ref pc)), some (.int (0 + (c : Int))), none, none, o6, none] ∧ m' = (pc, .lst (cs.map keyD)) :: m ∧ cs.length ≤ 100 * pre.length + pre2.length ∧ ∀ q, q ∈ cs ↔ (Clash (rows.take c) q ∨ (q = r.key ∧ ∃ a ∈ pre2, a.key = q ∧ a ≠ r)), rfl, ⟨cs, _, rfl, rfl, by simpa using hcl, fun q => by rw [hcs q, ← hcp.1]; simp⟩, fun _ _ _ _ => trivial, ?_, ?_⟩
    · rintro pre2 a post2 es' m' hxs2 ⟨cs, o6, rfl, rfl, hcl, hcs⟩
      have ha : a ∈ rows := List.mem_of_mem_take (i := c) (by rw [hxs2]; simp)
      have ga := hg a ha
      have hlen2 : c = pre2.length + (post2.length + 1) := by
        have := congrArg List.length hxs2
        rw [List.length_take, List.length_append, List.length_cons] at this
        omega
      refine ⟨_, rfl, ?_⟩
      walk_at "sg1"; walk_at "sg1"
      refine EW.et (ew_and (et_cmp (ec_call C2 (B.room.mono (by decide)) ?_)))
      walk_at "sg"
      refine ⟨a, rfl, ga.w0, ga.w1, ?_⟩
      refine ec_call C2 (B.room.mono (by decide)) ?_
      walk_at "sg"
      refine ic_lst hat ?_
      walk_at "sg"
      refine ⟨r, rfl, gr.w0, gr.w1, ?_⟩
      refine oc_eq (by omega) (keyD_sn (n := 0) a.key).1 (keyD_sn (n := 0) r.key).1 ?_
      rw [key_eqv]
      refine ⟨_, rfl, ite_d (fun hke => ?_) fun hke => ?_⟩
      · refine ew_and1 (et_cmp ?_)
        walk_at "sg"
        refine ic_lst hat ?_
        refine oc_ne (by omega) (rowD_sh ga) (rowD_sh gr) ?_
        rw [row_eqv]
        refine ⟨_, rfl, ite_n (fun hne => ?_) fun he => ?_⟩
        · refine sd_one (ss_expr (ec_append ?_))
          walk_at "sg1"
          refine ⟨RecvD.raw (j := 0) rfl, ?_⟩
          refine ec_call C2 (B.room.mono (by decide)) ?_
          walk_at "sg"
          refine ic_lst hat ?_
          walk_at "sg"
          refine ⟨r, rfl, gr.w0, gr.w1, pc, 0, _, rfl, rfl, by rw [List.length_map]; exact Nat.le_trans (by omega : _ ≤ 20000) (by decide), cs ++ [r.key], some (rowD a), rfl, by rw [List.map_append]; rfl, by rw [List.length_append, List.length_append]; simp; omega, fun q => ?_⟩
          rw [List.mem_append, List.mem_singleton, hcs q]
          constructor
          · rintro ((h | ⟨e, b, hb, h⟩) | e)
            · exact .inl h
            · exact .inr ⟨e, b, List.mem_append_left _ hb, h⟩
            · exact .inr ⟨e, a, by simp, hke.trans e.symm, hne⟩
          · rintro (h | ⟨e, _⟩)
            · exact .inl (.inl h)
            · exact .inr e
        · refine sd_nil ⟨cs, some (rowD a), rfl, rfl, by rw [List.length_append]; omega, fun q => ?_⟩
          rw [hcs q]
          constructor
          · rintro (h | ⟨e, b, hb, h⟩)
            · exact .inl h
            · exact .inr ⟨e, b, List.mem_append_left _ hb, h⟩
          · rintro (h | ⟨e, b, hb, h1, h2⟩)
            · exact .inl h
            · rcases List.mem_append.mp hb with hb | hb
              · exact .inr ⟨e, b, hb, h1, h2⟩
              · rw [List.mem_singleton] at hb
                exact absurd (hb.trans he) h2
      · refine sd_nil ⟨cs, some (rowD a), rfl, rfl, by rw [List.length_append]; omega, fun q => ?_⟩
        rw [hcs q]
        constructor
        · rintro (h | ⟨e, b, hb, h⟩)
          · exact .inl h
          · exact .inr ⟨e, b, List.mem_append_left _ hb, h⟩
        · rintro (h | ⟨e, b, hb, h1, h2⟩)
          · exact .inl h
          · rcases List.mem_append.mp hb with hb | hb
            · exact .inr ⟨e, b, hb, h1, h2⟩
            · rw [List.mem_singleton] at hb
              rw [hb] at h1
              exact absurd (h1.trans e) hke
    · rintro es' m' ⟨cs, o6, rfl, rfl, hcl, hcs⟩
      refine ⟨cs, _, _, rfl, rfl, by rw [List.length_append]; exact hcp.2, ?_, fun q => ?_⟩
      · rw [List.length_take] at hcl
        rw [List.length_append, List.length_singleton]
        omega
      · rw [hcs q, List.length_append, List.length_singleton, ← hcp.1, List.take_add_one, hr]
        exact clash_snoc.symm
  · rintro es' m' ⟨cs, o3, o6, rfl, rfl, _, hcl, hcs⟩
    rw [List.length_range] at hcl hcs
    rw [List.take_length] at hcs
    walk_at "sg1"; walk_at "sg1"
    refine et_cmp ?_
    walk_at "sg1"
    refine ec_lst (ecs_nil ⟨by decide, ?_⟩)
    refine oc_neL (ds := cs.map keyD) (by omega) (.inr ⟨pc, 0, rfl, rfl⟩) (.imm _ _) ((sn_lst (n := 2) (snL_map fun a _ => sn_tup (snL_cons sn_int (snL_cons sn_int snL_nil)))).sh (by decide)) ((sn_lst (n := 0) snL_nil).sh (by decide)) ?_
    rw [lst_ne]
    refine ⟨_, rfl, ite_n (fun hne => ?_) fun he => ?_⟩
    · have hne : cs ≠ [] := fun e => hne (by rw [e]; rfl)
      refine SD.freeze 0 2 rfl rfl ?_
      walk_at "sg1"; walk_at "sg1"; walk_at "sg1"
      walk_at "sg"
      refine ec_call C1 (B.room.mono (by decide)) ?_
      walk_at "sg"
      refine ⟨true, cs.map kI, by rw [List.map_map]; rfl, by rw [List.length_map]; omega, fun ys hyp hya => ?_⟩
      obtain ⟨q, hq, h0⟩ := least_of hcs hyp hya hne
      walk_at "sg"
      refine ic_lst (at_nat (by decide) h0) ?_
      walk_at "sg"
      exact ⟨(show (4 : Nat) ≤ 1000 by decide), hk _ (.clash q hq)⟩
    · have he : cs = [] := List.map_eq_nil_iff.mp he
      have hnc : NoClash rows := fun q hq => by
        have := (hcs q).mpr hq
        rw [he] at this
        simp at this
      have hun := hnc.uniq
      obtain ⟨o, hord⟩ := ord_ex hun hg
      refine sd_nil ?_
      refine SD.weak (m' := m) (es' := [some (rowsD rows), some (.int (g0.length : Nat)), none, none, none, none, none, none]) (List.sublist_cons_self _ _) (fun i d h => ?_) ?_
      · rcases i with _ | _ | _ | _ | _ | _ | _ | _ | i <;> first | exact h | (simp at h)
      refine sd_cons (ss_lc (own := [("_law_place", 7)]) (i := 4) (n := "_law_there") (.nm 7) B.calm B.nd (blk_ok (N := N_law_due) (sc := defScope S_law_due) (by decide +kernel)) (fun s H C cl fp => pg_name sc_law_due.nd rfl (Or.inl rfl)) (show (7 : Nat) < 8 by decide) (List.mem_cons_self) ?_)
      refine sc_range fr.range ?_
      walk_at "sg"
      refine ⟨g0.length + 1, rfl, by omega, ?_⟩
      refine lck_map (α := Nat) (xs := List.range (g0.length + 1)) (enc := fun (i : Nat) => .int (0 + (i : Int))) (gx := fun (i : Nat) => nmD (none, (i : Int))) (by rw [List.length_range]; omega) trivial (fun i hi acc => ⟨_, rfl, fun p s2 H2 C2 cl2 fp2 => ?_⟩) ?_
      · walk_at "sg"
        exact ⟨(show (2 : Nat) ≤ 1000 by decide), by rw [Int.zero_add]; rfl, rfl⟩
      have e0 : (List.range (g0.length + 1)).map (fun (i : Nat) => nmD (none, (i : Int))) = (thereL g0 []).map nmD := by
        unfold thereL
        rw [List.flatMap_nil, List.append_nil, List.map_map]
        rfl
      rw [e0]
      refine sd_cons (ss_forT (.nm 5) B (pg_name B.nd rfl (Or.inr rfl)) (show (5 : Nat) < 8 by decide) ?_)
      refine sc_lst (ec_call C3 B.room ?_)
      refine ecs_cons (ec_call C4 (B.room.mono (by decide)) ?_)
      walk_at "sg"
      refine ⟨rows, rfl, hg, hp.z, fun o1 hn1 hm1 => ?_⟩
      walk_at "sg"
      have hord1 : Ord o1 o := ⟨hord.srt, fun r => (hord.mem r).trans (hm1 r).symm⟩
      refine ⟨o1, o, rfl, fun r hr => hg r ((hm1 r).mp hr), hn1, fun a ha b hb e => hun a ((hm1 a).mp ha) b ((hm1 b).mp hb) e, Nat.le_trans (nodup_len hn1 fun r hr => (hm1 r).mp hr) hp.z, hord1, ?_⟩
      have hgo : ∀ r ∈ o, Good r := fun r hr => hg r ((hord.mem r).mp hr)
      have hzo : o.length ≤ 100 := Nat.le_trans (nodup_len hord.nodup fun r hr => (hord.mem r).mp hr) hz
      refine ⟨_, rfl, Row, o, rowD, fun pre es' m' => ∃ (o5 o7 : Option D), es' = [some (rowsD rows), some (.int (g0.length : Nat)), none, none, some (nmsD (thereL g0 pre)), o5, none, o7] ∧ m' = m ∧ AllOk g0 pre, rfl, ⟨_, _, rfl, rfl, fun pre r post e => by simp at e⟩, fun _ _ _ _ => trivial, ?_, ?_⟩
      · rintro pre c post es' m' hxs ⟨o5, o7, rfl, rfl, hok⟩
        have hc : c ∈ o := by rw [hxs]; simp
        have gc := hgo c hc
        have hlen : o.length = pre.length + (post.length + 1) := by rw [hxs, List.length_append, List.length_cons]
        have htl := there_len (g0 := g0) (pre := pre) fun r hr => hgo r (by rw [hxs]; simp [hr])
        refine ⟨_, rfl, ?_⟩
        walk_at "sg1"; walk_at "sg1"
        refine et_cmp (ec_ix ?_)
        walk_at "sg"
        refine ix_row (v := nmD c.anchor) (by rfl) ?_
        walk_at "sg"
        refine oc_notin (ds := (thereL g0 pre).map nmD) (by omega) (.imm _ _) ((nmD_sn (n := 0)).sh (by decide)) (nmsD_sh _) ?_
        rw [nms_any]
        refine ⟨_, rfl, ite_n (fun hn => ?_) fun hn => ?_⟩
        · walk_at "sg"
          refine ec_call C2 (B.room.mono (by decide)) ?_
          walk_at "sg"
          refine ⟨c, rfl, gc.w0, gc.w1, ?_⟩
          walk_at "sg"
          exact ⟨(show (4 : Nat) ≤ 1000 by decide), hk _ (.miss o c hnc hord ⟨pre, post, hxs, fun z => hn (there_iff.mpr z), hok⟩)⟩
        · refine sd_nil ?_
          walk_at "sg"
          refine ec_lc (own := [("_law_place", 7)]) (.nm 7) B.calm B.nd (blk_ok (N := N_law_due) (sc := defScope S_law_due) (by decide +kernel)) (fun s H C cl fp => pg_name sc_law_due.nd rfl (Or.inl rfl)) (show (7 : Nat) < 8 by decide) (List.mem_cons_self) ?_
          refine sc_range fr.range ?_
          walk_at "sg"
          refine ix_row (v := .str c.group) (by rfl) ?_
          walk_at "sg"
          refine cc_lenS (Nat.le_trans gc.g1 (by decide)) ?_
          refine ⟨c.group.length, rfl, Nat.le_trans gc.g1 (by decide), ?_⟩
          refine lck_map (α := Nat) (xs := List.range c.group.length) (enc := fun (i : Nat) => .int (0 + (i : Int))) (gx := fun (i : Nat) => nmD (some c.key, (i : Int) + 1)) (by rw [List.length_range]; exact Nat.le_trans gc.g1 (by decide)) trivial (fun i hi acc => ⟨_, rfl, fun p s2 H2 C2' cl2 fp2 => ?_⟩) ?_
          · walk_at "sg"
            refine ec_call C2 (by exact B.room.mono (by decide)) ?_
            walk_at "sg"
            refine ⟨c, rfl, gc.w0, gc.w1, ?_⟩
            walk_at "sg"
            exact ⟨(show (2 : Nat) ≤ 1000 by decide), by rw [Int.zero_add]; rfl, rfl⟩
          have e1 : (List.range c.group.length).map (fun (i : Nat) => nmD (some c.key, (i : Int) + 1)) = (signs (some c.key) c.group).map nmD := by
            unfold signs
            rw [List.map_map]
            rfl
          have e2 : thereL g0 (pre ++ [c]) = thereL g0 pre ++ signs (some c.key) c.group := by
            unfold thereL
            rw [List.flatMap_append, List.flatMap_singleton, List.append_assoc]
          rw [e1]
          have hgl := gc.g1
          refine oc_cat (.imm _ _) (.imm _ _) ?_ ?_
          · rw [List.length_map, List.length_map, signs_len]
            exact Nat.le_trans (by omega : _ ≤ 20000) (by decide)
          rw [← List.map_append, ← e2]
          exact ⟨some (rowD c), o7, rfl, rfl, allOk_snoc hok (there_iff.mp hn)⟩
      · rintro es' m' ⟨o5, o7, rfl, rfl, hok⟩
        walk_at "sg"
        exact hk _ (.ok ⟨hnc, fun o' ho' => by rw [← hord.uniq ho']; exact hok⟩)
/-- what is due for two lists -/
inductive Refu (R : Rul) (g0 : Str) (A Bs : List Row) : D → Prop
  | loose : R.whole = false → Refu R g0 A Bs (.tup [.bl true, .bl false, .bl false, .bl true, .str (ruleText R)])
  | fst (a b c q : D) : R.whole = true → Due g0 A (.tup [a, b, c, q]) → Refu R g0 A Bs (.tup [.bl false, a, b, .bl true, q])
  | snd (a b c q : D) : R.whole = true → LayOk g0 A → Due g0 (A ++ Bs) (.tup [a, b, c, q]) → Refu R g0 A Bs (.tup [.bl false, a, b, .bl true, q])
  | ok : R.whole = true → LayOk g0 A → LayOk g0 (A ++ Bs) → Refu R g0 A Bs .non
theorem join_words (R : Rul) : Txt.join (" " : Str) [sideS R, orderS R, linkS R] = ruleText R := by
  obtain ⟨a, b, c⟩ := R
  cases a <;> cases b <;> cases c <;> decide +kernel
theorem words_len (R : Rul) : (sideS R).length ≤ 6 ∧ (orderS R).length ≤ 6 ∧ (linkS R).length ≤ 6 := by
  refine ⟨?_, ?_, ?_⟩
  · unfold sideS; split <;> decide +kernel
  · unfold orderS; split <;> decide +kernel
  · unfold linkS; split <;> decide +kernel
def FS_law_refusal : FSpec := fun ds m k x => ∃ (R : Rul) (g0 : Str) (A Bs : List Row), ds = [wordsD R, .str g0, rowsD A, rowsD Bs] ∧ LayP g0 A ∧ LayP g0 (A ++ Bs) ∧ A.length + Bs.length ≤ 100 ∧ ∀ d, Refu R g0 A Bs d → k d m
theorem fn_law_refusal (F : F_law_refusal K f fd) (gm : mg "_law_refusal" = some (.ref f)) (fr : Free mg) (C1 : Fn P w K mg base 3 "_law_due" FS_law_due) : Fn P w K mg base 4 "_law_refusal" FS_law_refusal := by
  refine fn_def F sc_law_refusal gm (bs_law_refusal F) (fun ds m k x ⟨_, _, _, _, e, _⟩ => by rw [e]; rfl) ?_
  rintro cdv A0 outer s H E B ds m k x ⟨R, g0, A, Bs, rfl, hpA, hpB, hz, hk⟩
  have hg0 := hpA.g0
  walk_at "sg1"; walk_at "sg1"
  refine et_cmp (ec_ix ?_)
  walk_at "sg"
  refine ic_tup (d := .str (linkS R)) (at_nat (by decide) rfl) ?_
  walk_at "sg"
  cases hW : R.whole with
  | false =>
    have e : linkS R = "loose" := by unfold linkS; rw [hW]; rfl
    refine ite_d (fun _ => ?_) fun h => absurd e h
    walk_at "sg"
    refine ec_join ?_
    walk_at "sg"
    refine cc_list (.inr rfl) ?_
    refine ⟨[sideS R, orderS R, linkS R], .imm _ _, ?_, ?_⟩
    · obtain ⟨h1, h2, h3⟩ := words_len R
      have e1 : (" " : Str).length = 1 := by decide +kernel
      rw [e1]
      simp only [List.map_cons, List.map_nil, List.sum_cons, List.sum_nil, List.length_cons, List.length_nil]
      omega
    rw [join_words]
    walk_at "sg"
    exact ⟨(show (5 : Nat) ≤ 1000 by decide), hk _ (.loose hW)⟩
  | true =>
    have e : ¬ linkS R = "loose" := by unfold linkS; rw [hW]; decide +kernel
    refine ite_d (fun h => absurd h e) fun _ => ?_
    refine sd_nil (sd_cons (ss_forT (.nm 4) B (pg_name B.nd rfl (Or.inl rfl)) (show (4 : Nat) < 6 by decide) ?_))
    refine sc_lst (ec_lst ?_)
    walk_at "sg"
    refine oc_cat (.imm _ _) (.imm _ _) ?_ ?_
    · rw [List.length_map, List.length_map]
      exact Nat.le_trans hz (by decide)
    walk_at "sg"
    refine ⟨(show (2 : Nat) ≤ 1000 by decide), _, rfl, ?_⟩
    refine ⟨List Row, [A, A ++ Bs], rowsD, fun pre es' m' => ∃ (o4 o5 : Option D), es' = [some (wordsD R), some (.str g0), some (rowsD A), some (rowsD Bs), o4, o5] ∧ m' = m ∧ ∀ rs ∈ pre, LayOk g0 rs, by rw [← List.map_append]; rfl, ⟨_, _, rfl, rfl, by simp⟩, fun _ _ _ _ => trivial, ?_, ?_⟩
    · rintro pre c post es' m' hxs ⟨o4, o5, rfl, rfl, hok⟩
      have hc : (pre = [] ∧ c = A) ∨ (pre = [A] ∧ c = A ++ Bs) := by
        cases pre with
        | nil =>
          have := (List.cons.inj hxs).1
          exact .inl ⟨rfl, this.symm⟩
        | cons a pre =>
          have h1 := List.cons.inj hxs
          cases pre with
          | nil => exact .inr ⟨by rw [← h1.1], (List.cons.inj h1.2).1.symm⟩
          | cons b pre =>
            have := congrArg List.length h1.2
            simp at this
      have hpc : LayP g0 c ∧ c.length ≤ 100 := by
        rcases hc with ⟨_, rfl⟩ | ⟨_, rfl⟩
        · exact ⟨hpA, by omega⟩
        · exact ⟨hpB, by rw [List.length_append]; exact hz⟩
      refine ⟨_, rfl, ?_⟩
      walk_at "sg1"; walk_at "sg1"
      refine ec_call C1 B.room ?_
      walk_at "sg"
      refine cc_lenS (Nat.le_trans hg0 (by decide)) ?_
      walk_at "sg"
      refine ⟨g0, c, rfl, hpc.1, hpc.2, fun d hd => ?_⟩
      have htell : ∀ a b cc q : D, d = .tup [a, b, cc, q] → k (.tup [.bl false, a, b, .bl true, q]) m' := by
        rintro a b cc q rfl
        rcases hc with ⟨_, rfl⟩ | ⟨e, rfl⟩
        · exact hk _ (.fst a b cc q hW hd)
        · exact hk _ (.snd a b cc q hW (hok A (by rw [e]; simp)) hd)
      cases hd with
      | ok hl =>
        walk_at "sg"
        refine ⟨some (rowsD c), some .non, rfl, rfl, fun rs hrs => ?_⟩
        rcases List.mem_append.mp hrs with h | h
        · exact hok rs h
        · rw [List.mem_singleton.mp h]; exact hl
      | clash q hq =>
        walk_at "sg"
        refine ic_tup (d := .bl true) (at_nat (by decide) rfl) ?_
        walk_at "sg"
        refine ic_tup (d := .bl false) (at_nat (by decide) rfl) ?_
        walk_at "sg"
        refine ic_tup (d := keyD q) (at_nat (by decide) rfl) ?_
        walk_at "sg"
        exact ⟨(show (5 : Nat) ≤ 1000 by decide), htell _ _ _ _ rfl⟩
      | miss o r h1 h2 h3 =>
        walk_at "sg"
        refine ic_tup (d := .bl false) (at_nat (by decide) rfl) ?_
        walk_at "sg"
        refine ic_tup (d := .bl true) (at_nat (by decide) rfl) ?_
        walk_at "sg"
        refine ic_tup (d := keyD r.key) (at_nat (by decide) rfl) ?_
        walk_at "sg"
        exact ⟨(show (5 : Nat) ≤ 1000 by decide), htell _ _ _ _ rfl⟩
    · rintro es' m' ⟨o4, o5, rfl, rfl, hok⟩
      walk_at "sg"
      exact hk _ (.ok hW (hok A (by simp)) (hok (A ++ Bs) (by simp)))
end
end TSgL8
/-! SgHist: what holds of a history, of a closed cut of it. Plain Lean. -/
section TSgHist
set_option maxHeartbeats 4000000
open PySem
def pst (q : Row) (j : Nat) : Int := q.seen.getD j 0 + if (j : Int) = q.who then 1 else 0
def VCl (rows : List Row) (n : Nat) (c : Nat → Int) : Prop := ∀ q ∈ rows, q.num ≤ c q.who.toNat → ∀ j, j < n → pst q j ≤ c j
def vL (n : Nat) (f : Nat → Int) : List Int := (List.range n).map f
theorem vL_len {n : Nat} {f : Nat → Int} : (vL n f).length = n := by simp [vL]
theorem vL_at {n : Nat} {f : Nat → Int} {j : Nat} (h : j < n) : (vL n f).getD j 0 = f j := by
  unfold vL
  rw [List.getD_eq_getElem?_getD, List.getElem?_map, List.getElem?_range h]
  rfl
theorem vL_set {n : Nat} {f : Nat → Int} {j : Nat} {x : Int} : (vL n f).set j x = vL n fun i => if i = j then x else f i := by
  refine List.ext_getElem? fun i => ?_
  unfold vL
  rw [List.getElem?_set, List.getElem?_map, List.getElem?_map, List.length_map, List.length_range]
  by_cases hij : j = i
  · subst hij
    rw [if_pos rfl]
    by_cases hj : j < n
    · rw [if_pos hj, List.getElem?_range hj]
      simp
    · rw [if_neg hj, List.getElem?_eq_none (by simpa using Nat.le_of_not_lt hj)]
      rfl
  · rw [if_neg hij]
    by_cases hi : i < n
    · rw [List.getElem?_range hi]
      simp only [Option.map_some]
      rw [if_neg (fun e => hij e.symm)]
    · rw [List.getElem?_eq_none (by simpa using Nat.le_of_not_lt hi)]
      rfl
theorem vL_ext {n : Nat} {f g : Nat → Int} (h : ∀ j, j < n → f j = g j) : vL n f = vL n g := by
  unfold vL
  refine List.map_congr_left fun j hj => h j (List.mem_range.mp hj)
theorem num_eq {r : Row} : r.num = r.seen.getD r.who.toNat 0 + 1 := rfl
theorem pst_who {r : Row} (h : 0 ≤ r.who) : pst r r.who.toNat = r.num := by
  unfold pst Row.num
  rw [if_pos (by omega)]
theorem pst_ne {r : Row} {j : Nat} (h : (j : Int) ≠ r.who) : pst r j = r.seen.getD j 0 := by
  unfold pst
  rw [if_neg h]
  omega
theorem pst_ge {r : Row} (j : Nat) : r.seen.getD j 0 ≤ pst r j := by
  unfold pst
  split <;> omega
structure HI (g0 : Str) (n : Nat) (rows : List Row) (kn : Nat → Nat → Int) : Prop where
  good : ∀ r ∈ rows, Good r ∧ r.seen.length = n
  k0 : ∀ w j, w < n → j < n → 0 ≤ kn w j
  kb : ∀ w, w < n → kn w w ≤ rows.length
  own : ∀ r ∈ rows, r.num ≤ kn r.who.toNat r.who.toNat
  up : ∀ w j, w < n → j < n → kn w j ≤ kn j j
  upR : ∀ r ∈ rows, ∀ j, j < n → r.seen.getD j 0 ≤ kn j j
  cl : ∀ w, w < n → VCl rows n (kn w)
  clr : ∀ r ∈ rows, VCl rows n fun j => r.seen.getD j 0
  uq : Uniq rows
  nd : rows.Nodup
  an : ∀ r ∈ rows, r.anchor = (none, 0) ∨ r.anchor ∈ signs none g0 ∨ ∃ q ∈ rows, q.num ≤ r.seen.getD q.who.toNat 0 ∧ r.anchor ∈ signs (some q.key) q.group
section
variable {g0 : Str} {n : Nat} {rows : List Row} {kn : Nat → Nat → Int}
theorem HI.who (h : HI g0 n rows kn) {r : Row} (hr : r ∈ rows) : r.who.toNat < n ∧ 0 ≤ r.who ∧ ((r.who.toNat : Nat) : Int) = r.who := by
  obtain ⟨g, l⟩ := h.good r hr
  have := g.w0
  have := g.w1
  omega
theorem HI.pst_up (h : HI g0 n rows kn) {r : Row} (hr : r ∈ rows) {j : Nat} (hj : j < n) : pst r j ≤ kn j j := by
  by_cases e : (j : Int) = r.who
  · have := h.own r hr
    have hw := h.who hr
    have ej : j = r.who.toNat := by omega
    subst ej
    rw [pst_who hw.2.1]
    exact this
  · rw [pst_ne e]
    exact h.upR r hr j hj
theorem HI.nil : HI g0 n [] fun _ _ => 0 := ⟨by simp, fun _ _ _ _ => Int.le_refl 0, fun _ _ => by simp, by simp, fun _ _ _ _ => Int.le_refl 0, by simp, fun _ _ q hq => by simp at hq, by simp, fun a ha => by simp at ha, List.nodup_nil, by simp⟩
theorem VCl.max {a b : Nat → Int} (ha : VCl rows n a) (hb : VCl rows n b) : VCl rows n fun j => if a j < b j then b j else a j := by
  intro q hq h j hj
  show pst q j ≤ if a j < b j then b j else a j
  have h : q.num ≤ if a q.who.toNat < b q.who.toNat then b q.who.toNat else a q.who.toNat := h
  by_cases h1 : q.num ≤ a q.who.toNat
  · have := ha q hq h1 j hj
    split <;> omega
  · have h2 : q.num ≤ b q.who.toNat := by split at h <;> omega
    have := hb q hq h2 j hj
    split <;> omega
/-- the past of a call is closed -/
theorem HI.past (h : HI g0 n rows kn) {r : Row} (hr : r ∈ rows) : VCl rows n (pst r) := by
  intro q hq hle j hj
  by_cases h1 : q.num ≤ r.seen.getD q.who.toNat 0
  · exact Int.le_trans (h.clr r hr q hq h1 j hj) (pst_ge j)
  · have hwq := h.who hq
    have hwr := h.who hr
    have e : q.who = r.who := by
      refine Classical.byContradiction fun ne => h1 ?_
      rw [pst_ne (r := r) (by omega)] at hle
      exact hle
    have hn : q.num = r.num := by
      rw [e, pst_who hwr.2.1] at hle
      have : r.num = r.seen.getD r.who.toNat 0 + 1 := rfl
      rw [e] at h1
      omega
    have := h.uq q hq r hr (Prod.ext e hn)
    rw [this]
    exact Int.le_refl _
/-- a station hears a call -/
def hear (kn : Nat → Nat → Int) (who : Nat) (r : Row) (i : Nat) : Nat → Nat → Int := fun w j => if w = who ∧ j < i then (if kn w j < pst r j then pst r j else kn w j) else kn w j
theorem HI.hear (h : HI g0 n rows kn) {r : Row} (hr : r ∈ rows) {who : Nat} (hw : who < n) : HI g0 n rows (hear kn who r n) := by
  have diag : ∀ j, j < n → SG.hear kn who r n j j = kn j j := fun j hj => by
    unfold SG.hear
    split
    · have := h.pst_up hr hj
      split <;> omega
    · rfl
  have ge : ∀ w j, kn w j ≤ SG.hear kn who r n w j := fun w j => by
    unfold SG.hear
    split
    · split <;> omega
    · exact Int.le_refl _
  refine ⟨h.good, fun w j hw hj => Int.le_trans (h.k0 w j hw hj) (ge w j), fun w hw => by rw [diag w hw]; exact h.kb w hw, fun q hq => by rw [diag _ (h.who hq).1]; exact h.own q hq, fun w j hw hj => ?_, fun q hq j hj => by rw [diag j hj]; exact h.upR q hq j hj, fun w hwn => ?_, h.clr, h.uq, h.nd, h.an⟩
  · rw [diag j hj]
    have h1 := h.up w j hw hj
    have h2 := h.pst_up hr hj
    unfold SG.hear
    split
    · split <;> omega
    · exact h1
  · by_cases e : w = who
    · subst e
      have := (h.cl w hwn).max (h.past hr)
      intro q hq hle j hj
      have h1 := (h.who hq).1
      have e1 : ∀ j, j < n → SG.hear kn w r n w j = if kn w j < pst r j then pst r j else kn w j := fun j hj => by
        unfold SG.hear
        rw [if_pos ⟨rfl, hj⟩]
      rw [e1 _ h1] at hle
      rw [e1 _ hj]
      exact this q hq hle j hj
    · intro q hq hle j hj
      have e1 : ∀ j, SG.hear kn who r n w j = kn w j := fun j => by
        unfold SG.hear
        rw [if_neg (fun z => e z.1)]
      rw [e1] at hle
      rw [e1]
      exact h.cl w hwn q hq hle j hj
theorem hear_zero {who : Nat} {r : Row} : SG.hear kn who r 0 = kn := by
  funext v i
  unfold SG.hear
  rw [if_neg (fun z => Nat.not_lt_zero _ z.2)]
theorem hear_at {who j : Nat} {r : Row} : SG.hear kn who r j who j = kn who j := by
  unfold SG.hear
  rw [if_neg (fun z => Nat.lt_irrefl _ z.2)]
theorem hear_lt {who j : Nat} {r : Row} (h : kn who j < pst r j) : vL n (fun i => if i = j then pst r j else SG.hear kn who r j who i) = vL n (SG.hear kn who r (j + 1) who) := by
  refine vL_ext fun i hi => ?_
  unfold SG.hear
  by_cases e : i = j
  · subst e
    simp [h]
  · have h2 : (i < j + 1) ↔ i < j := by omega
    simp [e, h2]
theorem hear_ge {who j : Nat} {r : Row} (h : ¬ kn who j < pst r j) : SG.hear kn who r (j + 1) = SG.hear kn who r j := by
  funext v i
  unfold SG.hear
  by_cases e : i = j
  · subst e
    by_cases hv : v = who
    · subst hv
      simp [h]
    · simp [hv]
  · have h2 : (i < j + 1) ↔ i < j := by omega
    simp [h2]
theorem hear_ne {who j v i : Nat} {r : Row} (h : v ≠ who) : SG.hear kn who r j v i = kn v i := by
  unfold SG.hear
  rw [if_neg (fun z => h z.1)]
/-- a call more -/
def spoke (kn : Nat → Nat → Int) (who : Nat) : Nat → Nat → Int := fun w j => if w = who ∧ j = who then kn w j + 1 else kn w j
theorem HI.add (h : HI g0 n rows kn) {r : Row} {who : Nat} (hw : who < n) (e1 : r.who = who) (e2 : r.seen = vL n (kn who)) (g : Good r)
    (an : r.anchor = (none, 0) ∨ r.anchor ∈ signs none g0 ∨ ∃ q ∈ rows, q.num ≤ kn who q.who.toNat ∧ r.anchor ∈ signs (some q.key) q.group) : HI g0 n (rows ++ [r]) (spoke kn who) := by
  have ew : r.who.toNat = who := by omega
  have sv : ∀ j, j < n → r.seen.getD j 0 = kn who j := fun j hj => by rw [e2, vL_at hj]
  have hnum : r.num = kn who who + 1 := by rw [num_eq, ew, sv who hw]
  have ge : ∀ w j, kn w j ≤ spoke kn who w j := fun w j => by unfold spoke; split <;> omega
  have fr : ∀ q ∈ rows, q.key ≠ r.key := fun q hq e => by
    have h1 := h.own q hq
    have h2 : q.who = r.who := congrArg Prod.fst e
    have h3 : q.num = r.num := congrArg Prod.snd e
    rw [h2, ew] at h1
    omega
  have hm : ∀ {q : Row}, q ∈ rows ++ [r] → q ∈ rows ∨ q = r := fun hq => by simpa using hq
  refine ⟨fun q hq => ?_, fun w j hw hj => Int.le_trans (h.k0 w j hw hj) (ge w j), fun w hwn => ?_, fun q hq => ?_, fun w j hwn hj => ?_, fun q hq j hj => ?_, fun w hwn => ?_, fun q hq => ?_, ?_, ?_, fun q hq => ?_⟩
  · rcases hm hq with hq | rfl
    · exact h.good q hq
    · exact ⟨g, by rw [e2, vL_len]⟩
  · have := h.kb w hwn
    rw [List.length_append, List.length_singleton]
    unfold spoke
    split <;> omega
  · rcases hm hq with hq | rfl
    · exact Int.le_trans (h.own q hq) (ge _ _)
    · rw [ew, hnum]
      unfold spoke
      rw [if_pos ⟨rfl, rfl⟩]
      exact Int.le_refl _
  · have := h.up w j hwn hj
    unfold spoke
    split
    · rename_i z
      obtain ⟨rfl, rfl⟩ := z
      rw [if_pos ⟨rfl, rfl⟩]
      exact Int.le_refl _
    · split <;> omega
  · rcases hm hq with hq | rfl
    · exact Int.le_trans (h.upR q hq j hj) (ge _ _)
    · rw [sv j hj]
      exact Int.le_trans (h.up who j hw hj) (ge _ _)
  · intro q hq hle j hj
    rcases hm hq with hq | rfl
    · have hwq := (h.who hq).1
      have hle' : q.num ≤ kn w q.who.toNat := by
        unfold spoke at hle
        split at hle
        · rename_i z
          have := h.own q hq
          rw [z.2] at this
          rw [z.1, z.2]
          exact this
        · exact hle
      exact Int.le_trans (h.cl w hwn q hq hle' j hj) (ge _ _)
    · rw [ew, hnum] at hle
      unfold spoke at hle
      split at hle
      · rename_i z
        obtain ⟨rfl, _⟩ := z
        unfold spoke
        by_cases ej : j = w
        · subst ej
          have := pst_who (r := q) (by omega)
          rw [ew] at this
          rw [this, hnum, if_pos ⟨rfl, rfl⟩]
          exact Int.le_refl _
        · rw [pst_ne (by omega), sv j hj, if_neg (fun z => ej z.2)]
          exact Int.le_refl _
      · have := h.up w who hwn hw
        omega
  · rcases hm hq with hq' | rfl
    · intro a ha hle j hj
      rcases hm ha with ha' | rfl
      · exact h.clr q hq' a ha' hle j hj
      · have := h.upR q hq' a.who.toNat (by omega)
        rw [ew] at this hle
        have hle : a.num ≤ q.seen.getD who 0 := hle
        omega
    · intro a ha hle j hj
      have hle : a.num ≤ q.seen.getD a.who.toNat 0 := hle
      show pst a j ≤ q.seen.getD j 0
      rw [sv j hj]
      rcases hm ha with ha | rfl
      · rw [sv _ (h.who ha).1] at hle
        exact h.cl who hw a ha hle j hj
      · rw [num_eq] at hle
        omega
  · intro a ha b hb e
    rcases hm ha with ha' | ha'
    · rcases hm hb with hb' | hb'
      · exact h.uq a ha' b hb' e
      · exact absurd (by rw [e, hb']) (fr a ha')
    · rcases hm hb with hb' | hb'
      · exact absurd (by rw [← e, ha']) (fr b hb')
      · rw [ha', hb']
  · rw [List.nodup_append]
    exact ⟨h.nd, by simp, fun a ha b hb e => fr a ha (by rw [List.mem_singleton] at hb; rw [e, hb])⟩
  · rcases hm hq with hq | rfl
    · rcases h.an q hq with z | z | ⟨a, ha, z⟩
      · exact .inl z
      · exact .inr (.inl z)
      · exact .inr (.inr ⟨a, List.mem_append_left _ ha, z⟩)
    · rcases an with z | z | ⟨a, ha, z1, z2⟩
      · exact .inl z
      · exact .inr (.inl z)
      · exact .inr (.inr ⟨a, List.mem_append_left _ ha, by rw [sv _ (h.who ha).1]; exact z1, z2⟩)
/-! ### the clock -/
theorem sum_le : ∀ {a b : List Int}, a.length = b.length → (∀ j, a.getD j 0 ≤ b.getD j 0) → a.sum ≤ b.sum
  | [], [], _, _ => Int.le_refl _
  | [], _ :: _, h, _ => by simp at h
  | _ :: _, [], h, _ => by simp at h
  | x :: a, y :: b, h, hj => by
    have h0 := hj 0
    have h1 := sum_le (a := a) (b := b) (by simpa using h) fun j => by simpa using hj (j + 1)
    simp only [List.getD_cons_zero] at h0
    rw [List.sum_cons, List.sum_cons]
    omega
theorem sum_set : ∀ {a : List Int} {j : Nat} {x : Int}, j < a.length → (a.set j x).sum = a.sum - a.getD j 0 + x
  | [], _, _, h => by simp at h
  | y :: a, 0, x, _ => by simp; omega
  | y :: a, j + 1, x, h => by
    have := sum_set (a := a) (j := j) (x := x) (by simpa using h)
    rw [List.set_cons_succ, List.sum_cons, List.sum_cons, this, List.getD_cons_succ]
    omega
theorem clock_lt {q r : Row} (hl : q.seen.length = r.seen.length) (hq : Good q) (h : ∀ j, j < r.seen.length → pst q j ≤ r.seen.getD j 0) : q.clock < r.clock := by
  have hw0 := hq.w0
  have hw1 := hq.w1
  have hlt : q.who.toNat < q.seen.length := by omega
  have e : (q.seen.set q.who.toNat (pst q q.who.toNat)).sum ≤ r.seen.sum := by
    refine sum_le (by rw [List.length_set]; exact hl) fun j => ?_
    by_cases hj : j < r.seen.length
    · have := h j hj
      by_cases ej : j = q.who.toNat
      · subst ej
        rw [List.getD_eq_getElem?_getD, List.getElem?_set_self hlt]
        exact this
      · rw [List.getD_eq_getElem?_getD, List.getElem?_set_ne (fun z => ej z.symm), ← List.getD_eq_getElem?_getD]
        exact Int.le_trans (pst_ge j) this
    · rw [List.getD_eq_getElem?_getD, List.getElem?_eq_none (by rw [List.length_set]; omega), List.getD_eq_getElem?_getD, List.getElem?_eq_none (by omega)]
      exact Int.le_refl _
  rw [sum_set hlt, pst_who hw0, num_eq] at e
  unfold Row.clock
  omega
theorem code_clock {q r : Row} (gq : Good q) (gr : Good r) (h : q.clock < r.clock) : code q < code r := by
  rw [code_lt gq gr]
  exact .inl h
theorem lay_of {rows : List Row} (g : ∀ r ∈ rows, Good r) (u : Uniq rows) (cl : Closed g0 rows) : LayOk g0 rows := by
  refine ⟨NoClash.of_uniq u, fun o ho pre r post e => ?_⟩
  have hr : r ∈ rows := (ho.mem r).mp (by rw [e]; simp)
  rcases cl r hr with z | z | ⟨q, hq, hlt, z⟩
  · exact .inl z
  · exact .inr (.inl z)
  · refine .inr (.inr ⟨q, ?_, z⟩)
    have hqo := (ho.mem q).mpr hq
    rw [e] at hqo
    rcases List.mem_append.mp hqo with h | h
    · exact h
    · exfalso
      have hs := ho.srt
      rw [e] at hs
      have hs2 := List.pairwise_cons.mp (List.pairwise_append.mp hs).2.1
      rcases List.mem_cons.mp h with h | h
      · rw [h] at hlt; omega
      · have := hs2.1 q h
        omega
/-- the calls that a closed cut includes -/
def prtOf (rows : List Row) (c : List Int) : List Row := rows.filter fun r => decide (r.num ≤ c.getD r.who.toNat 0)
theorem mem_prt {c : List Int} {r : Row} : r ∈ prtOf rows c ↔ r ∈ rows ∧ r.num ≤ c.getD r.who.toNat 0 := by
  unfold prtOf
  rw [List.mem_filter, decide_eq_true_iff]
theorem HI.lay (h : HI g0 n rows kn) : LayOk g0 rows := by
  refine lay_of (fun r hr => (h.good r hr).1) h.uq fun r hr => ?_
  rcases h.an r hr with z | z | ⟨q, hq, z1, z2⟩
  · exact .inl z
  · exact .inr (.inl z)
  · refine .inr (.inr ⟨q, hq, ?_, z2⟩)
    obtain ⟨gq, lq⟩ := h.good q hq
    obtain ⟨gr, lr⟩ := h.good r hr
    exact code_clock gq gr (clock_lt (lq.trans lr.symm) gq fun j hj => h.clr r hr q hq z1 j (by omega))
theorem HI.layP (h : HI g0 n rows kn) {c : List Int} (hc : VCl rows n fun j => c.getD j 0) : LayOk g0 (prtOf rows c) := by
  refine lay_of (fun r hr => (h.good r (mem_prt.mp hr).1).1) (fun a ha b hb => h.uq a (mem_prt.mp ha).1 b (mem_prt.mp hb).1) fun r hr => ?_
  obtain ⟨hr1, hr2⟩ := mem_prt.mp hr
  rcases h.an r hr1 with z | z | ⟨q, hq, z1, z2⟩
  · exact .inl z
  · exact .inr (.inl z)
  · obtain ⟨gq, lq⟩ := h.good q hq
    obtain ⟨gr, lr⟩ := h.good r hr1
    have hqw := (h.who hq).1
    refine .inr (.inr ⟨q, mem_prt.mpr ⟨hq, ?_⟩, ?_, z2⟩)
    · have h1 := hc r hr1 hr2 q.who.toNat hqw
      have h2 := pst_ge (r := r) q.who.toNat
      have h1 : pst r q.who.toNat ≤ c.getD q.who.toNat 0 := h1
      omega
    · exact code_clock gq gr (clock_lt (lq.trans lr.symm) gq fun j hj => h.clr r hr1 q hq z1 j (by omega))
theorem pastL_at {r : Row} {j : Nat} (h : j < r.seen.length) : (pastL r).getD j 0 = pst r j := by
  unfold pastL
  rw [List.getD_eq_getElem?_getD, List.getElem?_map, List.getElem?_range h]
  rfl
theorem HI.cut (h : HI g0 n rows kn) {c : List Int} (hc : CutOf rows n c) : VCl rows n fun j => c.getD j 0 := by
  induction hc with
  | zero =>
    intro q hq hle j hj
    have hw := (h.who hq).1
    have e : ((List.range n).map fun _ => (0 : Int)).getD q.who.toNat 0 = 0 := by
      rw [List.getD_eq_getElem?_getD, List.getElem?_map, List.getElem?_range hw]
      rfl
    have hle : q.num ≤ ((List.range n).map fun _ => (0 : Int)).getD q.who.toNat 0 := hle
    rw [e] at hle
    have := (h.good q hq).1.num
    omega
  | join c r hr hc ih =>
    have hm := ih.max (h.past hr)
    obtain ⟨gr, lr⟩ := h.good r hr
    have e : ∀ j, j < n → (maxL n c (pastL r)).getD j 0 = if c.getD j 0 < pst r j then pst r j else c.getD j 0 := fun j hj => by
      unfold maxL
      rw [List.getD_eq_getElem?_getD, List.getElem?_map, List.getElem?_range hj]
      show (if (pastL r).getD j 0 < c.getD j 0 then c.getD j 0 else (pastL r).getD j 0) = _
      rw [pastL_at (by omega)]
      split <;> split <;> omega
    intro q hq hle j hj
    have hle : q.num ≤ (maxL n c (pastL r)).getD q.who.toNat 0 := hle
    show pst q j ≤ (maxL n c (pastL r)).getD j 0
    rw [e _ (h.who hq).1] at hle
    rw [e j hj]
    exact hm q hq hle j hj
end
end TSgHist
/-! SgL9: _law_history. -/
section TSgL9
set_option maxHeartbeats 4000000
open PySem PySem.Spec PyProof.Rows L2
section
variable {X : Cx} {x : XD} {es : Es} {m : M} {k : KD} {pos : Pos} {tgt iter elt : Expr} {ifs : List Expr} {scope : Scope}
theorem lc_readM {σ : L2.St} {Q : VK} {J : L2.It} {ds : List D} {keep : M → Prop} {m1 : M} {G1 H1 : Hp} {tg : Tg} {vs : List Nat} (s : ST X G1 m1 σ H1 es) (hl : σ.length = X.N.length) (ho : tg.ok X.N.length) (hv : tg.inn vs)
    (hc : LcK X scope es tg vs ifs elt (fun d m' => ∃ acc, d = .lst acc ∧ ∀ p, k (.raw (.ref p)) ((p, .lst acc) :: m')) ds keep m1) (y : Yl X J G1 ds keep) (q : Bk X G1 k Q) :
    ∀ p, H1 p = none → ∃ W : Nat → Nat → Hp → Prop, (∃ m, W 0 m (upd H1 p (.lst []))) ∧ ∀ i m H, W i m H →
      (J.stop i H ∧ Q (.ref p) H) ∨ (J.go i H ∧ ∃ Nx : Hp → Prop, (∀ H', Nx H' → ∃ m', m' < m ∧ W (i + 1) m' H') ∧ ∀ x H', J.yld i H x H' → tg.den X.K x (wipe σ vs) H' fun σ2 H2 => wipe σ2 vs = wipe σ vs ∧ tBT X scope ifs σ2 H2 fun b H3 =>
        if b = true then tBE X scope elt σ2 H3 fun y H4 => ∃ acc, H4 p = some (.lst acc) ∧ acc.length < sizeLine ∧ Nx (upd H4 p (.lst (acc ++ [y]))) else Nx H3) := by
  intro p hp
  obtain ⟨I, i0, ik, is, ie⟩ := hc
  have hs0 := s.hs.newM (o := .lst []) (u := .lst []) hp ⟨[], upd_same, .nil⟩
  refine ⟨fun i n H' => n = ds.length - i ∧ i ≤ ds.length ∧ ∃ acc m' G', I i m' acc ∧ Same G1 G' ∧ Hs X.K X.w G' ((p, .lst acc) :: m') H', ⟨ds.length, by omega, Nat.zero_le _, [], m1, G1, i0, Same.refl _, hs0⟩, ?_⟩
  rintro i n H' ⟨rfl, hi, acc, m', G', z, e', hs'⟩
  have hs1 : Hs X.K X.w G' m' H' := hs'.drop (List.sublist_cons_self _ _)
  by_cases hlt : i < ds.length
  · refine .inr ⟨y.go i G' H' m' e' hs1 (ik _ _ _ z) hlt, fun H2 => ∃ acc m2 G2, I (i + 1) m2 acc ∧ Same G1 G2 ∧ Hs X.K X.w G2 ((p, .lst acc) :: m2) H2, fun H2 ⟨acc, m2, G2, z2, e2, s2⟩ => ⟨ds.length - (i + 1), by omega, rfl, hlt, acc, m2, G2, z2, e2, s2⟩, fun v H2 hy => ?_⟩
    have ky := y.mono _ (p, .lst acc) (ik _ _ _ z)
    obtain ⟨G2, d, hd, e2, hs2, rd⟩ := y.yld i G' H' _ v H2 e' hs' ky hlt hy
    obtain ⟨es2, hp2, z2⟩ := is i d m' acc hd z
    have st2 : ST X G2 ((p, .lst acc) :: m') (wipe σ vs) H2 (wipeE es vs) := ⟨hs2, (wipe_env s.env vs).mono (e'.trans e2)⟩
    refine Tg.run hp2 st2 (by rw [wipe_length]; exact hl) ho rd fun σ3 s3 hl3 ⟨vv, ev⟩ => ⟨by rw [ev]; exact wipe_put vv v hv, ?_⟩
    intro s' Hs' C cl fp
    have zb := z2 p s' Hs' C cl fp
    have fin : ∀ (b : Bool) (m2 : M) (G3 H3 : Hp), (∃ m2', m2 = (p, .lst acc) :: m2' ∧ if b = true then Blk X scope fun Y => EC Y noX es2 m2 elt fun d' m3 => ∃ m3', m3 = (p, .lst acc) :: m3' ∧ acc.length ≤ 100000 ∧ I (i + 1) m3' (acc ++ [d']) else I (i + 1) m2' acc) → Same G2 G3 → Hs X.K X.w G3 m2 H3 →
        if b = true then tBE X scope elt σ3 H3 fun y H4 => ∃ acc, H4 p = some (.lst acc) ∧ acc.length < sizeLine ∧ ∃ acc' m2 G2, I (i + 1) m2 acc' ∧ Same G1 G2 ∧ Hs X.K X.w G2 ((p, .lst acc') :: m2) (upd H4 p (.lst (acc ++ [y]))) else ∃ acc m2 G2, I (i + 1) m2 acc ∧ Same G1 G2 ∧ Hs X.K X.w G2 ((p, .lst acc) :: m2) H3 := by
      rintro b m2 G3 H3 ⟨m2', rfl, kb⟩ e3 h3
      cases b with
      | false => exact ⟨acc, m2', G3, kb, (e'.trans e2).trans e3, h3⟩
      | true =>
        intro s2 Hs2 C2 cl2 fp2
        refine kb s2 Hs2 C2 cl2 fp2 G3 σ3 H3 _ blk_wish ⟨h3, s3.env.mono e3⟩ fun v' d' m3 G4 H4 k4 e4 h4 r4 => ?_
        obtain ⟨m3', rfl, hz, z4⟩ := k4
        obtain ⟨vs', hH, rs⟩ := (h4.get (i := 0) rfl).2
        refine ⟨vs', hH, Nat.lt_of_le_of_lt (by rw [← rs.len]; exact hz) (by decide), acc ++ [d'], m3', G4, z4, ((e'.trans e2).trans e3).trans e4, ?_⟩
        exact h4.write (i := 0) rfl ⟨_, upd_same, rs.app (.one r4)⟩
    unfold EIf at zb
    intro pins s4 I4
    cases ifs with
    | nil =>
      exact wpAny_tests_nil ⟨H2, I4, fin true _ G2 H2 zb (Same.refl G2) s3.hs⟩
    | cons c r =>
      cases r with
      | nil =>
        refine wpAny_tests_one (zb G2 σ3 H2 _ blk_wish ⟨s3.hs, s3.env⟩ (fun b m2 G3 H3 k3 e3 h3 => fin b m2 G3 H3 k3 e3 h3) pins s4 I4)
      | cons _ _ => exact zb.elim
  · have ei : i = ds.length := by omega
    subst ei
    refine .inl ⟨y.stop _ G' H' m' e' hs1 (ik _ _ _ z) (Nat.le_refl _), ?_⟩
    obtain ⟨acc', ea, kk⟩ := ie _ _ z
    cases ea
    exact q _ _ _ _ _ (kk p) e' hs' (.raw _)
/-- a comprehension whose list may change afterwards -/
theorem ec_lcM {own : List (Str × Nat)} (tg : Tg) (hc : X.calm = true) (hN : X.N.Nodup) (ok : BlkOk X.N X.env.scope scope own) (hg : Blk X scope fun Y => PG Y tgt (tg.den X.K)) (ho : tg.ok X.N.length) (hv : tg.inn (own.map (·.2)))
    (h : SC X x es m tgt iter (LcK X scope es tg (own.map (·.2)) ifs elt fun d m' => ∃ acc, d = .lst acc ∧ ∀ p, k (.raw (.ref p)) ((p, .lst acc) :: m'))) (hs : ∀ v, foldedSetIterable iter X.env v = pure v := by intro _; rfl) : EC X x es m (.ListComp elt [⟨tgt, iter, ifs, 0⟩] scope pos) k := by
  intro G σ H Q w st q pins s I
  refine (pe_lc hc hN pi_R ok hg (tt := tBT X scope ifs) (fun s H C cl fp => ⟨fun pins s' σ H' Q I h => h s H C cl fp pins s' I⟩) bE hs).run pins s σ H Q I ?_
  refine h G σ H _ w st fun J ds keep m1 G1 H1 k1 e1 h1 y => ?_
  exact lc_readM (st.mono e1 h1) I.len ho hv k1 y (q.mono e1)
end
theorem ec_permK {X : Cx} {x : XD} {es : Es} {m : M} {k : KD} {e : Expr} (h : EC X x es m e fun d m1 => ∃ m2 : M, m2.Perm m1 ∧ k d m2) : EC X x es m e k := fun G σ H Q w st q => h G σ H Q w st fun v d m1 G' H' ⟨m2, hp, hk⟩ e hs r => q v d m2 G' H' hk e (hs.perm hp) r
/-! ### the stations' lists -/
def famM (n : Nat) (kn : Nat → Nat → Int) (ks : List Addr) : M := ks.zipIdx.map fun q => (q.1, MO.lst ((vL n (kn q.2)).map D.int))
theorem fam_at {n : Nat} {kn : Nat → Nat → Int} {ks : List Addr} {w : Nat} {a : Addr} (h : ks[w]? = some a) (M0 : M) : (famM n kn ks ++ M0)[w]? = some (a, .lst ((vL n (kn w)).map D.int)) := by
  have hl := (List.getElem?_eq_some_iff.mp h).1
  unfold famM
  rw [List.getElem?_append_left (by rw [List.length_map, List.length_zipIdx]; exact hl), List.getElem?_map, List.getElem?_zipIdx, h]
  simp
theorem fam_set {n : Nat} {kn kn' : Nat → Nat → Int} {ks : List Addr} {w : Nat} {a : Addr} (h : ks[w]? = some a) (M0 : M) (he : ∀ v, v ≠ w → ∀ j, j < n → kn' v j = kn v j) : (famM n kn ks ++ M0).set w (a, .lst ((vL n (kn' w)).map D.int)) = famM n kn' ks ++ M0 := by
  have hl := (List.getElem?_eq_some_iff.mp h).1
  rw [List.set_append_left _ _ (by unfold famM; rw [List.length_map, List.length_zipIdx]; exact hl)]
  congr 1
  refine List.ext_getElem? fun i => ?_
  unfold famM
  rw [List.getElem?_set, List.getElem?_map, List.getElem?_map, List.length_map, List.length_zipIdx, List.getElem?_zipIdx]
  by_cases hi : w = i
  · subst hi
    rw [if_pos rfl, if_pos hl, h]
    simp
  · rw [if_neg hi]
    cases q : ks[i]? with
    | none => rfl
    | some b =>
      simp only [Option.map_some, Nat.zero_add]
      rw [vL_ext fun j hj => (he i (fun e => hi e.symm) j hj).symm]
theorem fam_snoc {n : Nat} {ks : List Addr} {a : Addr} : famM n (fun _ _ => 0) (ks ++ [a]) = famM n (fun _ _ => 0) ks ++ [(a, MO.lst ((vL n fun _ => 0).map D.int))] := by
  unfold famM
  rw [List.zipIdx_append, List.map_append]
  rfl
theorem ixN_n {n j : Nat} (h : j < n) : L2.ixN n (j : Int) = some j := by
  unfold L2.ixN
  rw [if_pos (by omega), if_pos (by omega)]
  simp
def AncOk (g0 : Str) (rows : List Row) (kn : Nat → Nat → Int) (who : Nat) (a : Nm) : Prop := a = (none, 0) ∨ a ∈ signs none g0 ∨ ∃ q ∈ rows, q.num ≤ kn who q.who.toNat ∧ a ∈ signs (some q.key) q.group
theorem ancOk_len {g0 : Str} {n : Nat} {rows : List Row} {kn : Nat → Nat → Int} {who : Nat} (hI : HI g0 n rows kn) {a : Nm} (hw : who < n) (h : AncOk g0 rows kn who a) : match a.1 with
    | none => 0 ≤ a.2
    | some k => 0 ≤ k.1 ∧ k.1 < n ∧ 1 ≤ k.2 ∧ k.2 ≤ (vL n (kn who)).getD k.1.toNat 0 ∧ 1 ≤ a.2 := by
  rcases h with rfl | h | ⟨q, hq, h1, h2⟩
  · exact Int.le_refl 0
  · obtain ⟨e, h1, h2⟩ := mem_signs.mp h
    rw [e]
    show 0 ≤ a.2
    omega
  · obtain ⟨e, h3, h4⟩ := mem_signs.mp h2
    have hwq := hI.who hq
    have hn := (hI.good q hq).1.num
    rw [e]
    refine ⟨hwq.2.1, ?_, hn.1, ?_, h3⟩
    · show q.who < n
      omega
    · show q.num ≤ (vL n (kn who)).getD q.who.toNat 0
      rw [vL_at hwq.1]
      exact h1
section
variable {P : Program} {w : World} {K : PySem.W.Frag} {mg : Str → Option Value} {base : Heap} {f C CR CG XC XM XG : Addr} {fd : FuncData}
abbrev ksD (ks : List Addr) : D := .lst (ks.map fun a => .raw (.ref a))
abbrev jF : Scope := { kind := ScopeKind.function, names := [(Str.ofString ".0", NameKind.local), (Str.ofString "_law_j", NameKind.local)], isGenerator := false, isCoroutine := false }
def FS_law_history : FSpec := fun ds m k x => ∃ (p : Addr) (j : Nat) (st : LSt) (many : Int) (n : Nat) (gs : List Str) (g0 : Str), ds = [.raw (.ref p), .int many, .int (n : Nat), .lst (gs.map D.str), .int (g0.length : Nat)] ∧ m[j]? = some (p, .lst (lstD st)) ∧ StOk st ∧ 0 ≤ many ∧ many ≤ 20 ∧ 1 ≤ n ∧ n ≤ 6 ∧ GrpsOk gs 3 ∧ 1 ≤ gs.length ∧ gs.length ≤ 100 ∧ g0.length ≤ 10 ∧
  ∀ (rows : List Row) (kn : Nat → Nat → Int) (st' : LSt), StOk st' → HI g0 n rows kn → rows.length ≤ 20 → (∀ r ∈ rows, r.group.length ≤ 3) → k (rowsD rows) (m.set j (p, .lst (lstD st')))
theorem fn_law_history (F : F_law_history K f fd) (gm : mg "_law_history" = some (.ref f)) (fr : Free mg) (C1 : Fn P w K mg base 1 "_law_draw" FS_law_draw) : Fn P w K mg base 2 "_law_history" FS_law_history := by
  refine fn_def F sc_law_history gm (bs_law_history F) (fun ds m k x ⟨_, _, _, _, _, _, _, e, _⟩ => by rw [e]; rfl) ?_
  rintro cdv A outer s H E B ds m k x ⟨p, j, st, many, n, gs, g0, rfl, hm, hst, hy0, hy1, hn1, hn2, hgs, hz1, hz2, hg0, hk⟩
  refine SD.focus hm ?_
  generalize hM : m.eraseIdx j = M0
  have hret : ∀ (rows : List Row) (kn : Nat → Nat → Int) (st' : LSt), StOk st' → HI g0 n rows kn → rows.length ≤ 20 → (∀ r ∈ rows, r.group.length ≤ 3) → ∃ o', ((p, MO.lst (lstD st')) :: M0 : M) = (p, o') :: M0 ∧ k (rowsD rows) (m.set j (p, o')) := fun s kn st' a b c d => ⟨_, rfl, hk s kn st' a b c d⟩
  clear hk hm hM
  have hu := B.room.un
  refine sd_cons (ss_lc (own := [("_law_k", 7)]) (i := 5) (n := "_law_known") (.nm 7) B.calm B.nd (blk_ok (N := N_law_history) (sc := defScope S_law_history) (by decide +kernel)) (fun s H C cl fp => pg_name sc_law_history.nd rfl (Or.inl rfl)) (show (7 : Nat) < 17 by decide) (List.mem_cons_self) ?_)
  refine sc_range fr.range ?_
  walk_at "sg"
  refine ⟨n, rfl, by omega, ?_⟩
  refine lck_gen (α := Nat) (xs := List.range n) (enc := fun (i : Nat) => .int (0 + (i : Int))) (fun pre m' acc => ∃ ks : List Addr, acc = ks.map (fun a => .raw (.ref a)) ∧ ks.length = pre.length ∧ m' = (famM n (fun _ _ => 0) ks).reverse ++ (p, MO.lst (lstD st)) :: M0) ⟨[], rfl, rfl, rfl⟩ (fun _ _ _ _ => trivial) ?_ ?_
  · rintro pre a post m' acc hxs ⟨ks, rfl, hkl, rfl⟩
    have hlen : n = pre.length + (post.length + 1) := by
      have := congrArg List.length hxs
      rwa [List.length_range, List.length_append, List.length_cons] at this
    refine ⟨_, rfl, fun q s2 H2 C2 cl2 fp2 => ?_⟩
    refine ⟨_, rfl, ?_⟩
    rw [if_pos rfl]
    intro s3 H3 C3 cl3 fp3
    refine ec_permK (ec_lcM (own := [("_law_j", 14)]) (.nm 14) B.calm B.nd (blk_any (show BlkOk N_law_history nilS jF [("_law_j", 14)] from blk_ok (by decide +kernel))) (fun s H C cl fp => pg_name sc_law_history.nd rfl (Or.inl rfl)) (show (14 : Nat) < 17 by decide) (List.mem_cons_self) ?_)
    refine sc_range fr.range ?_
    walk_at "sg"
    refine ⟨n, rfl, by omega, ?_⟩
    refine lck_map (α := Nat) (xs := List.range n) (enc := fun (i : Nat) => .int (0 + (i : Int))) (gx := fun _ => .int 0) (by rw [List.length_range]; omega) trivial (fun i hi acc => ⟨_, rfl, fun p s2 H2 C2 cl2 fp2 => ?_⟩) ?_
    · walk_at "sg"
      exact ⟨rfl, rfl⟩
    refine ⟨_, rfl, fun pa => ?_⟩
    refine ⟨_, List.Perm.swap _ _ _, _, rfl, by rw [List.length_map]; omega, ks ++ [pa], by rw [List.map_append]; rfl, by rw [List.length_append, List.length_append, hkl]; rfl, ?_⟩
    rw [fam_snoc, List.reverse_append]
    unfold vL
    rw [List.map_map]
    rfl
  · rintro m' acc ⟨ks, rfl, hkl, rfl⟩
    rw [List.length_range] at hkl
    have hka : ∀ i, i < n → ∃ a, ks[i]? = some a := fun i hi => ⟨_, List.getElem?_eq_getElem (by omega)⟩
    refine SD.perm (m' := (p, .lst (lstD st)) :: (famM n (fun _ _ => 0) ks ++ M0)) ?_ ?_
    · refine (List.perm_middle (a := (p, MO.lst (lstD st))) (l₁ := famM n (fun _ _ => 0) ks) (l₂ := M0)).symm.trans ?_
      exact (List.reverse_perm _).symm.append_right _
    walk_at "sg1"; walk_at "sg1"
    refine ec_lstM (ecs_nil ⟨by decide, fun pr => ?_⟩)
    refine sd_cons (ss_forT (.nm 7) B (pg_name B.nd rfl (Or.inl rfl)) (show (7 : Nat) < 17 by decide) ?_)
    refine sc_range fr.range ?_
    refine ec_call C1 (by exact B.room) ?_
    walk_at "sg"
    refine ⟨p, 1, st, many + 1, rfl, rfl, hst, by omega, by omega, fun d st1 hd0 hd1 hst1 => ?_⟩
    refine ⟨d.toNat, by rw [Int.toNat_of_nonneg hd0], by omega, ?_⟩
    refine ⟨Nat, List.range d.toNat, fun (i : Nat) => .int (0 + (i : Int)), fun pre es' m' => ∃ (rows : List Row) (kn : Nat → Nat → Int) (st' : LSt) (o7 o8 o9 o10 o11 o12 o13 o14 o15 o16 : Option D), es' = [some (.raw (.ref p)), some (.int many), some (.int (n : Nat)), some (.lst (gs.map D.str)), some (.int (g0.length : Nat)), some (ksD ks), some (.raw (.ref pr)), o7, o8, o9, o10, o11, o12, o13, o14, o15, o16] ∧ m' = (pr, .lst (rows.map rowD)) :: (p, .lst (lstD st')) :: (famM n kn ks ++ M0) ∧ StOk st' ∧ HI g0 n rows kn ∧ rows.length = pre.length ∧ (∀ r ∈ rows, r.group.length ≤ 3), rfl, ⟨[], _, st1, _, _, _, _, _, _, _, _, _, _, rfl, rfl, hst1, HI.nil, rfl, by simp⟩, fun _ _ _ _ => trivial, ?_, ?_⟩
    · rintro pre c post es' m' hxs ⟨rows, kn, st', o7, o8, o9, o10, o11, o12, o13, o14, o15, o16, rfl, rfl, hst', hI, hrl, hg3⟩
      have hlen : d.toNat = pre.length + (post.length + 1) := by
        have := congrArg List.length hxs
        rwa [List.length_range, List.length_append, List.length_cons] at this
      have hr20 : rows.length < 20 := by omega
      refine ⟨_, rfl, ?_⟩
      walk_at "sg1"; walk_at "sg1"
      refine ec_call C1 (by exact B.room) ?_
      walk_at "sg"
      refine ⟨p, 1, st', n, rfl, rfl, hst', by omega, by omega, fun wi st2 hw0 hw1 hst2 => ?_⟩
      obtain ⟨who, rfl⟩ : ∃ who : Nat, wi = (who : Int) := ⟨wi.toNat, by rw [Int.toNat_of_nonneg hw0]⟩
      have hwn : who < n := by omega
      obtain ⟨aw, haw⟩ := hka who hwn
      have hawD : atI (ks.map fun a => D.raw (.ref a)) (who : Int) = some (.raw (.ref aw)) := atI_nat (by rw [List.getElem?_map, haw]; rfl)
      walk_at "sg1"; walk_at "sg1"
      refine ec_call C1 (by exact B.room) ?_
      walk_at "sg"
      refine ⟨p, 1, st2, 3, rfl, rfl, hst2, by decide, by decide, fun he st3 hh0 hh1 hst3 => ?_⟩
      show SD _ _ _ ((pr, .lst (rows.map rowD)) :: (p, .lst (lstD st3)) :: (famM n kn ks ++ M0)) _ _
      -- what it hears
      refine sd_cons (SS.mid (fun es' m' => ∃ (kn : Nat → Nat → Int) (st' : LSt) (o11 o14 o15 : Option D), es' = [some (.raw (.ref p)), some (.int many), some (.int (n : Nat)), some (.lst (gs.map D.str)), some (.int (g0.length : Nat)), some (ksD ks), some (.raw (.ref pr)), some (.int (0 + (c : Int))), some (.int (who : Int)), some (.int he), o10, o11, o12, o13, o14, o15, o16] ∧ m' = (pr, .lst (rows.map rowD)) :: (p, .lst (lstD st')) :: (famM n kn ks ++ M0) ∧ StOk st' ∧ HI g0 n rows kn) ?_ ?_)
      · walk_at "sg1"
        refine EW.et (ew_and (et_cmp ?_))
        walk_at "sg"
        refine ite_d (fun _ => ?_) fun _ => sd_nil ⟨kn, st3, _, _, _, rfl, rfl, hst3, hI⟩
        refine ew_and1 (et_cmp ?_)
        walk_at "sg1"
        refine ec_lst (ecs_nil ⟨by decide, ?_⟩)
        refine oc_neL (ds := rows.map rowD) (by omega) (.inr ⟨pr, 0, rfl, rfl⟩) (.imm _ _) (rowsD_sh fun r hr => (hI.good r hr).1) ((sn_lst (n := 0) snL_nil).sh (by decide)) ?_
        rw [lst_ne]
        refine ⟨_, rfl, ite_n (fun hne => ?_) fun _ => sd_nil ⟨kn, st3, _, _, _, rfl, rfl, hst3, hI⟩⟩
        have hpos : 0 < rows.length := by
          cases rows with
          | nil => exact absurd rfl hne
          | cons a l => simp
        walk_at "sg1"; walk_at "sg1"; walk_at "sg1"; walk_at "sg1"
        refine ec_call C1 (by exact B.room) ?_
        walk_at "sg"
        refine cc_len (.inl (.inr ⟨pr, 0, rfl, rfl⟩)) ?_
        rw [List.length_map]
        walk_at "sg"
        refine ⟨p, 1, st3, rows.length, rfl, rfl, hst3, by omega, by omega, fun d2 st4 hd0 hd1 hst4 => ?_⟩
        obtain ⟨r, hr⟩ : ∃ r, rows[d2.toNat]? = some r := ⟨_, List.getElem?_eq_getElem (by omega)⟩
        have hrm := List.mem_of_getElem? hr
        obtain ⟨gr, grl⟩ := hI.good r hrm
        refine ic_raw (j := 0) (ds := rows.map rowD) rfl (d := rowD r) (at_nat hd0 (by rw [List.getElem?_map, hr]; rfl)) ?_
        show SD _ _ _ ((pr, .lst (rows.map rowD)) :: (p, .lst (lstD st4)) :: (famM n kn ks ++ M0)) _ _
        refine sd_one (ss_forT (.nm 14) B (pg_name B.nd rfl (Or.inl rfl)) (show (14 : Nat) < 17 by decide) ?_)
        refine sc_range fr.range ?_
        walk_at "sg"
        refine ⟨n, rfl, by omega, ?_⟩
        refine ⟨Nat, List.range n, fun (i : Nat) => .int (0 + (i : Int)), fun pre3 es' m' => ∃ (o14 o15 : Option D), es' = [some (.raw (.ref p)), some (.int many), some (.int (n : Nat)), some (.lst (gs.map D.str)), some (.int (g0.length : Nat)), some (ksD ks), some (.raw (.ref pr)), some (.int (0 + (c : Int))), some (.int (who : Int)), some (.int he), o10, some (rowD r), o12, o13, o14, o15, o16] ∧ m' = (pr, .lst (rows.map rowD)) :: (p, .lst (lstD st4)) :: (famM n (hear kn who r pre3.length) ks ++ M0) ∧ pre3 = List.range pre3.length, rfl, ⟨_, _, rfl, ?_, rfl⟩, fun _ _ _ _ => trivial, ?_, ?_⟩
        · rw [List.length_nil, hear_zero]
        · rintro pre3 jj post3 es' m' hxs3 ⟨o14, o15, rfl, rfl, hpre3⟩
          have hcp : jj = pre3.length ∧ pre3 ++ [jj] = List.range (pre3.length + 1) := by
            have h1 : (List.range n)[pre3.length]? = some jj := by rw [hxs3, List.getElem?_append_right (Nat.le_refl _), Nat.sub_self]; rfl
            obtain ⟨h2, h3⟩ := List.getElem?_eq_some_iff.mp h1
            rw [List.getElem_range] at h3
            exact ⟨h3.symm, by rw [List.range_succ, ← hpre3, h3]⟩
          have hjn : jj < n := by
            have : jj ∈ List.range n := by rw [hxs3]; simp
            exact List.mem_range.mp this
          obtain ⟨rfl, hrng⟩ := hcp
          have hfa := fam_at (n := n) (kn := hear kn who r pre3.length) haw M0
          have hati : atI ((vL n (hear kn who r pre3.length who)).map D.int) (0 + (pre3.length : Int)) = some (.int (kn who pre3.length)) := by
            rw [at_intN (by rw [vL_len]; exact hjn), vL_at hjn, hear_at]
          refine ⟨_, rfl, ?_⟩
          walk_at "sg"
          refine ix_row (v := seenD r) (by rfl) ?_
          walk_at "sg"
          refine ic_tup (at_intN (by omega)) ?_
          walk_at "sg"
          refine ix_row (v := .int r.who) (by rfl) ?_
          walk_at "sg"
          have epst : r.seen.getD pre3.length 0 + (if decide (0 + (pre3.length : Int) = r.who) = true then (1 : Int) else 0) = pst r pre3.length := by
            unfold pst
            rw [Int.zero_add]
            by_cases e : (pre3.length : Int) = r.who
            · rw [if_pos e, if_pos (decide_eq_true e)]
            · rw [if_neg e, if_neg (by simpa using e)]
          rw [epst]
          refine ic_lst hawD ?_
          walk_at "sg"
          refine ic_raw (j := who + 2) hfa hati ?_
          walk_at "sg"
          refine ite_d (fun hlt => ?_) fun hlt => ?_
          · refine sd_one (ss_lput ?_)
            walk_at "sg"
            refine ic_lst hawD ?_
            walk_at "sg"
            refine ⟨aw, who + 2, _, 0 + (pre3.length : Int), pre3.length, rfl, hfa, rfl, ?_, ?_⟩
            · rw [Int.zero_add, List.length_map, vL_len]
              exact ixN_n hjn
            · refine ⟨some (.int (0 + (pre3.length : Int))), some (.int (pst r pre3.length)), rfl, ?_, by rw [List.length_append]; exact hrng⟩
              show _ :: _ :: (famM n (hear kn who r pre3.length) ks ++ M0).set who _ = _
              rw [← List.map_set, vL_set, List.length_append, List.length_singleton, hear_lt hlt, fam_set haw M0 fun v hv i hi => by rw [hear_ne hv, hear_ne hv]]
          · refine sd_nil ⟨some (.int (0 + (pre3.length : Int))), some (.int (pst r pre3.length)), rfl, ?_, by rw [List.length_append]; exact hrng⟩
            rw [List.length_append, List.length_singleton, hear_ge hlt]
        · rintro es' m' ⟨o14, o15, rfl, rfl, _⟩
          rw [List.length_range]
          exact ⟨hear kn who r n, st4, _, _, _, rfl, rfl, hst4, hI.hear hrm hwn⟩
      clear hI hst3
      rintro es' m' ⟨kn, st4, o11, o14, o15, rfl, rfl, hst4, hI⟩
      have hfa := fam_at (n := n) (kn := kn) haw M0
      refine sd_cons (ss_lc (own := [("_law_p", 16)]) (i := 10) (n := "_law_anchors") (.nm 16) B.calm B.nd (blk_ok (N := N_law_history) (sc := defScope S_law_history) (by decide +kernel)) (fun s H C cl fp => pg_name sc_law_history.nd rfl (Or.inl rfl)) (show (16 : Nat) < 17 by decide) (List.mem_cons_self) ?_)
      refine sc_range fr.range ?_
      walk_at "sg"
      refine ⟨g0.length + 1, rfl, by omega, ?_⟩
      refine lck_map (α := Nat) (xs := List.range (g0.length + 1)) (enc := fun (i : Nat) => .int (0 + (i : Int))) (gx := fun (i : Nat) => nmD (none, (i : Int))) (by rw [List.length_range]; omega) trivial (fun i hi acc => ⟨_, rfl, fun p s2 H2 C2 cl2 fp2 => ?_⟩) ?_
      · walk_at "sg"
        exact ⟨(show (2 : Nat) ≤ 1000 by decide), by rw [Int.zero_add]; rfl, rfl⟩
      have e0 : (List.range (g0.length + 1)).map (fun (i : Nat) => nmD (none, (i : Int))) = (thereL g0 []).map nmD := by
        unfold thereL
        rw [List.flatMap_nil, List.append_nil, List.map_map]
        rfl
      rw [e0]
      have hth : ∀ a ∈ thereL g0 [], AncOk g0 rows kn who a := fun a ha => by
        unfold thereL at ha
        rw [List.flatMap_nil, List.append_nil, List.mem_map] at ha
        obtain ⟨i, hi, rfl⟩ := ha
        rw [List.mem_range] at hi
        by_cases h0 : i = 0
        · left; rw [h0]; rfl
        · right; left
          exact mem_signs.mpr ⟨rfl, by show (1 : Int) ≤ (i : Int); omega, by show (i : Int) ≤ _; omega⟩
      have htl : (thereL g0 []).length = g0.length + 1 := by
        unfold thereL
        rw [List.flatMap_nil, List.append_nil, List.length_map, List.length_range]
      refine sd_cons (ss_forT (.nm 11) B (pg_name B.nd rfl (Or.inr rfl)) (show (11 : Nat) < 17 by decide) ?_)
      refine sc_raw ?_
      walk_at "sg1"
      refine ⟨pr, 0, _, rfl, rfl, ?_⟩
      refine ⟨Row, rows, rowD, fun pre4 es' m' => ∃ (as : List Nm) (o11 o15 o16 : Option D), es' = [some (.raw (.ref p)), some (.int many), some (.int (n : Nat)), some (.lst (gs.map D.str)), some (.int (g0.length : Nat)), some (ksD ks), some (.raw (.ref pr)), some (.int (0 + (c : Int))), some (.int (who : Int)), some (.int he), some (nmsD as), o11, o12, o13, o14, o15, o16] ∧ m' = (pr, .lst (rows.map rowD)) :: (p, .lst (lstD st4)) :: (famM n kn ks ++ M0) ∧ (∀ a ∈ as, AncOk g0 rows kn who a) ∧ 1 ≤ as.length ∧ as.length ≤ 11 + 10 * pre4.length, rfl, ⟨thereL g0 [], _, _, _, rfl, rfl, hth, by omega, by rw [List.length_nil]; omega⟩, ?_, ?_, ?_⟩
      · rintro pre4 es' m' ⟨as, o11, o15, o16, rfl, rfl, _⟩
        exact ⟨0, rfl⟩
      · rintro pre4 q post4 es' m' hxs4 ⟨as, o11, o15, o16, rfl, rfl, has, hal1, hal2⟩
        have hq : q ∈ rows := by rw [hxs4]; simp
        have hlen4 : rows.length = pre4.length + (post4.length + 1) := by rw [hxs4, List.length_append, List.length_cons]
        obtain ⟨gq, lq⟩ := hI.good q hq
        have hwq := hI.who hq
        have hgl := gq.g1
        refine ⟨_, rfl, ?_⟩
        walk_at "sg"
        refine ix_row (v := seenD q) (by rfl) ?_
        walk_at "sg"
        refine ix_row (v := .int q.who) (by rfl) ?_
        refine ic_tup (at_seen gq.w0 gq.w1) ?_
        walk_at "sg"
        refine ic_lst hawD ?_
        walk_at "sg"
        refine ix_row (v := .int q.who) (by rfl) ?_
        refine ic_raw (j := who + 2) hfa (at_int gq.w0 (by rw [vL_len]; omega)) ?_
        walk_at "sg"
        rw [vL_at hwq.1]
        refine ite_d (fun hle => ?_) fun hle => ?_
        · refine sd_one (ss_setB (i := 10) B ?_)
          walk_at "sg"
          refine ec_lc (own := [("_law_p", 16)]) (.nm 16) B.calm B.nd (blk_ok (N := N_law_history) (sc := defScope S_law_history) (by decide +kernel)) (fun s H C cl fp => pg_name sc_law_history.nd rfl (Or.inl rfl)) (show (16 : Nat) < 17 by decide) (List.mem_cons_self) ?_
          refine sc_range fr.range ?_
          walk_at "sg"
          refine ix_row (v := .str q.group) (by rfl) ?_
          walk_at "sg"
          refine cc_lenS (Nat.le_trans hgl (by decide)) ?_
          refine ⟨q.group.length, rfl, by omega, ?_⟩
          refine lck_map (α := Nat) (xs := List.range q.group.length) (enc := fun (i : Nat) => .int (0 + (i : Int))) (gx := fun (i : Nat) => nmD (some q.key, (i : Int) + 1)) (by rw [List.length_range]; omega) trivial (fun i hi acc => ⟨_, rfl, fun p s2 H2 C2 cl2 fp2 => ?_⟩) ?_
          · walk_at "sg"
            refine ix_row (v := .int q.who) (by rfl) ?_
            walk_at "sg"
            refine ⟨(show (2 : Nat) ≤ 1000 by decide), ?_⟩
            walk_at "sg"
            exact ⟨(show (2 : Nat) ≤ 1000 by decide), by rw [Int.zero_add]; rfl, rfl⟩
          have e1 : (List.range q.group.length).map (fun (i : Nat) => nmD (some q.key, (i : Int) + 1)) = (signs (some q.key) q.group).map nmD := by
            unfold signs
            rw [List.map_map]
            rfl
          rw [e1]
          refine oc_cat (.imm _ _) (.imm _ _) ?_ ?_
          · rw [List.length_map, List.length_map, signs_len]
            exact Nat.le_trans (by omega : _ ≤ 2000) (by decide)
          rw [← List.map_append]
          refine ⟨as ++ signs (some q.key) q.group, some (rowD q), _, o16, rfl, rfl, fun a ha => ?_, by rw [List.length_append]; omega, by rw [List.length_append, List.length_append, signs_len, List.length_singleton]; omega⟩
          rcases List.mem_append.mp ha with ha | ha
          · exact has a ha
          · exact .inr (.inr ⟨q, hq, hle, ha⟩)
        · exact sd_nil ⟨as, some (rowD q), _, o16, rfl, rfl, has, hal1, by rw [List.length_append, List.length_singleton]; omega⟩
      · rintro es' m' ⟨as, o11, o15, o16, rfl, rfl, has, hal1, hal2⟩
        walk_at "sg"
        refine ec_call C1 (by exact B.room) ?_
        walk_at "sg"
        refine cc_len (.inl (.imm _ _)) ?_
        rw [List.length_map]
        walk_at "sg"
        refine ⟨p, 1, st4, as.length, rfl, rfl, hst4, by omega, by omega, fun d2 st5 hd0 hd1 hst5 => ?_⟩
        obtain ⟨a, ha⟩ : ∃ a, as[d2.toNat]? = some a := ⟨_, List.getElem?_eq_getElem (by omega)⟩
        have haok := has a (List.mem_of_getElem? ha)
        refine ic_lst (d := nmD a) (at_nat hd0 (by rw [List.getElem?_map, ha]; rfl)) ?_
        show SD _ _ _ ((pr, .lst (rows.map rowD)) :: (p, .lst (lstD st5)) :: (famM n kn ks ++ M0)) _ _
        refine sd_cons (SS.mid (fun es' m' => ∃ (a : Nm) (st' : LSt), es' = [some (.raw (.ref p)), some (.int many), some (.int (n : Nat)), some (.lst (gs.map D.str)), some (.int (g0.length : Nat)), some (ksD ks), some (.raw (.ref pr)), some (.int (0 + (c : Int))), some (.int (who : Int)), some (.int he), some (nmsD as), o11, some (nmD a), o13, o14, o15, o16] ∧ m' = (pr, .lst (rows.map rowD)) :: (p, .lst (lstD st')) :: (famM n kn ks ++ M0) ∧ StOk st' ∧ AncOk g0 rows kn who a) ?_ ?_)
        · walk_at "sg1"
          refine et_cmp (ec_call C1 (by exact B.room) ?_)
          walk_at "sg"
          refine ⟨p, 1, st5, 4, rfl, rfl, hst5, by decide, by decide, fun d3 st6 hd30 hd31 hst6 => ?_⟩
          walk_at "sg"
          refine ite_d (fun _ => ?_) fun _ => sd_nil ⟨a, st6, rfl, rfl, hst6, haok⟩
          walk_at "sg"
          exact ⟨(show (2 : Nat) ≤ 1000 by decide), (none, 0), st6, rfl, rfl, hst6, .inl rfl⟩
        clear haok ha hst5
        rintro es' m' ⟨a, st6, rfl, rfl, hst6, haok⟩
        walk_at "sg"
        refine ec_call C1 (by exact B.room) ?_
        walk_at "sg"
        refine cc_len (.inl (.imm _ _)) ?_
        rw [List.length_map]
        walk_at "sg"
        refine ⟨p, 1, st6, gs.length, rfl, rfl, hst6, by omega, by omega, fun d4 st7 hd40 hd41 hst7 => ?_⟩
        obtain ⟨g, hg⟩ : ∃ g, gs[d4.toNat]? = some g := ⟨_, List.getElem?_eq_getElem (by omega)⟩
        have hgm := List.mem_of_getElem? hg
        refine ic_lst (d := .str g) (at_nat hd40 (by rw [List.getElem?_map, hg]; rfl)) ?_
        show SD _ _ _ ((pr, .lst (rows.map rowD)) :: (p, .lst (lstD st7)) :: (famM n kn ks ++ M0)) _ _
        refine sd_cons (ss_expr (ec_append ?_))
        walk_at "sg1"
        refine ⟨RecvD.raw (j := 0) rfl, ?_⟩
        walk_at "sg"
        refine ic_lst hawD ?_
        walk_at "sg"
        refine cc_tuple (.inr ⟨aw, who + 2, rfl, hfa⟩) ?_
        walk_at "sg"
        refine ⟨(show (4 : Nat) ≤ 1000 by decide), pr, 0, _, rfl, rfl, by rw [List.length_map]; exact Nat.le_trans (by omega : _ ≤ 2000) (by decide), ?_⟩
        let r' : Row := ⟨(who : Int), vL n (kn who), g, a⟩
        have er : rows.map rowD ++ [.tup [.int (who : Int), .tup ((vL n (kn who)).map D.int), .str g, nmD a]] = (rows ++ [r']).map rowD := by
          rw [List.map_append]
          rfl
        rw [er]
        show SD _ _ _ ((pr, .lst ((rows ++ [r']).map rowD)) :: (p, .lst (lstD st7)) :: (famM n kn ks ++ M0)) _ _
        have hgood : Good r' := by
          refine ⟨by show (0 : Int) ≤ (who : Int); omega, ?_, ?_, ?_, ?_, ?_, hgs.l g hgm, ?_⟩
          · show ((who : Nat) : Int) < ((vL n (kn who)).length : Nat)
            rw [vL_len]
            omega
          · show (vL n (kn who)).length ≤ 6
            rw [vL_len]
            exact hn2
          · intro v hv
            have hv : v ∈ vL n (kn who) := hv
            unfold vL at hv
            obtain ⟨i, hi, rfl⟩ := List.mem_map.mp hv
            have hi := List.mem_range.mp hi
            have h1 := hI.k0 who i hwn hi
            have h2 := hI.up who i hwn hi
            have h3 := hI.kb i hi
            omega
          · have := hgs.g0 g hgm
            exact this
          · have := hgs.g1 g hgm
            show g.length ≤ 10
            omega
          · have h1 := ancOk_len hI hwn haok
            show match a.1 with
              | none => 0 ≤ a.2
              | some k => 0 ≤ k.1 ∧ k.1 < ((vL n (kn who)).length : Nat) ∧ 1 ≤ k.2 ∧ k.2 ≤ (vL n (kn who)).getD k.1.toNat 0 ∧ 1 ≤ a.2
            rw [vL_len]
            exact h1
        have hI2 := hI.add (r := r') hwn rfl rfl hgood haok
        refine sd_one (ss_lput ?_)
        walk_at "sg"
        refine ic_lst hawD ?_
        walk_at "sg"
        refine ic_raw (j := who + 2) hfa (d := .int (kn who who)) (by rw [at_int (by omega) (by rw [vL_len]; omega), Int.toNat_natCast, vL_at hwn]) ?_
        walk_at "sg"
        refine ic_lst hawD ?_
        walk_at "sg"
        refine ⟨aw, who + 2, _, (who : Int), who, rfl, hfa, rfl, by rw [List.length_map, vL_len]; exact ixN_n hwn, ?_⟩
        refine ⟨rows ++ [r'], spoke kn who, st7, _, _, _, _, _, _, _, _, _, _, rfl, ?_, hst7, hI2, by rw [List.length_append, List.length_append, hrl]; rfl, fun q hq => ?_⟩
        · show _ :: _ :: (famM n kn ks ++ M0).set who _ = _
          rw [← List.map_set, vL_set]
          have es : vL n (fun i => if i = who then kn who who + 1 else kn who i) = vL n (spoke kn who who) := by
            refine vL_ext fun i hi => ?_
            unfold spoke
            by_cases ei : i = who
            · subst ei
              simp
            · simp [ei]
          rw [es, fam_set haw M0 fun v hv i hi => by unfold spoke; rw [if_neg (fun z => hv z.1)]]
        · rcases List.mem_append.mp hq with hq | hq
          · exact hg3 q hq
          · rw [List.mem_singleton.mp hq]
            have := hgs.g1 g hgm
            show g.length ≤ 3
            omega
    · rintro es' m' ⟨rows, kn, st', o7, o8, o9, o10, o11, o12, o13, o14, o15, o16, rfl, rfl, hst', hI, hrl, hg3⟩
      rw [List.length_range] at hrl
      refine SD.freeze 0 6 rfl rfl ?_
      refine SD.weak (m' := (p, .lst (lstD st')) :: M0) ?_ (fun _ _ z => z) ?_
      · exact (List.sublist_append_right _ _).cons₂ _
      walk_at "sg"
      exact hret rows kn st' hst' hI (by omega) hg3
end
end TSgL9
/-! SgL10: _law_spoilt. -/
section TSgL10
set_option maxHeartbeats 4000000
open PySem PySem.Spec PyProof.Rows L2
structure Small (r : Row) : Prop where
  g : Good r
  s : ∀ c ∈ r.seen, c ≤ 50
  l : r.group.length ≤ 5
theorem cut_min {w : Str} {n : Nat} : (cutS w none (some (n : Int))).cps.toList = w.cps.toList.take (min n w.length) := by
  unfold cutS
  rw [HT.sIx_nat, HT.sIx_none]
  simp
theorem oc_rows {X : Cx} {m : M} {k : KD} {a b : List Row} (hz : a.length + b.length ≤ 2000) (hk : k (rowsD (a ++ b)) m) : OC X (binaryOp .Add) m (rowsD a) (rowsD b) k := oc_cat (.imm _ _) (.imm _ _) (by rw [List.length_map, List.length_map]; exact Nat.le_trans hz (by decide)) (by rw [← List.map_append]; exact hk)
def farR (r : Row) (l : Int) : Row := ⟨r.who, r.seen, r.group, (r.anchor.1, r.anchor.2 + l + 7)⟩
def twinR (r : Row) : Row := ⟨r.who, r.seen, r.group ++ ("z" : Str), r.anchor⟩
def freeR (r : Row) : Row := ⟨r.who, r.seen, r.group, (none, 0)⟩
def lateR (r : Row) : Row := ⟨r.who, (List.range r.seen.length).map fun (j : Nat) => r.seen.getD j 0 + if (j : Int) = r.who then 0 else 9, r.group, r.anchor⟩
def secR (r : Row) : Row := ⟨r.who, r.seen, ("q" : Str) ++ cutS r.group none (some ((2 : Nat) : Int)), r.anchor⟩
theorem one_len (c : Str) (h : c.length = 1) : c.length = 1 := h
theorem z_len : ("z" : Str).length = 1 := by decide +kernel
theorem q_len : ("q" : Str).length = 1 := by decide +kernel
theorem z_let : Letters ("z" : Str) := fun c hc => by
  have e : ("z" : Str).cps.toList = [122] := by decide +kernel
  rw [e] at hc
  simp at hc
  subst hc
  exact ⟨by decide, by decide⟩
theorem q_let : Letters ("q" : Str) := fun c hc => by
  have e : ("q" : Str).cps.toList = [113] := by decide +kernel
  rw [e] at hc
  simp at hc
  subst hc
  exact ⟨by decide, by decide⟩
theorem far_good {r : Row} (h : Small r) {l : Nat} : Good (farR r l) := by
  have g := h.g
  refine ⟨g.w0, g.w1, g.len, g.s0, g.g0, g.g1, g.gl, ?_⟩
  have := g.an
  show match r.anchor.1 with
    | none => 0 ≤ r.anchor.2 + (l : Int) + 7
    | some k => 0 ≤ k.1 ∧ k.1 < r.seen.length ∧ 1 ≤ k.2 ∧ k.2 ≤ r.seen.getD k.1.toNat 0 ∧ 1 ≤ r.anchor.2 + (l : Int) + 7
  cases q : r.anchor.1 with
  | none =>
    rw [q] at this
    have this : 0 ≤ r.anchor.2 := this
    show 0 ≤ r.anchor.2 + (l : Int) + 7
    omega
  | some k =>
    rw [q] at this
    obtain ⟨a, b, c, d, e⟩ := this
    exact ⟨a, b, c, d, by omega⟩
theorem grp_good {r : Row} (h : Good r) {g : Str} (h1 : Letters g) (h2 : 1 ≤ g.length) (h3 : g.length ≤ 10) : Good ⟨r.who, r.seen, g, r.anchor⟩ := ⟨h.w0, h.w1, h.len, h.s0, h2, h3, h1, h.an⟩
theorem twin_good {r : Row} (h : Small r) : Good (twinR r) := by
  have hl : (r.group ++ ("z" : Str)).length = r.group.length + 1 := by rw [PySem.Str.length_append, z_len]
  have := h.l
  exact grp_good h.g (letters_app h.g.gl z_let) (by rw [hl]; omega) (by rw [hl]; omega)
theorem cut2_len {w : Str} : (cutS w none (some ((2 : Nat) : Int))).length ≤ 2 := by
  rw [len_list, cut_min, List.length_take]
  omega
theorem sec_good {r : Row} (h : Small r) : Good (secR r) := by
  have hl : (("q" : Str) ++ cutS r.group none (some ((2 : Nat) : Int))).length = 1 + (cutS r.group none (some ((2 : Nat) : Int))).length := by rw [PySem.Str.length_append, q_len]
  have := cut2_len (w := r.group)
  refine grp_good h.g (letters_app q_let fun c hc => ?_) (by rw [hl]; omega) (by rw [hl]; omega)
  rw [cut_min] at hc
  exact h.g.gl c (List.mem_of_mem_take hc)
theorem free_good {r : Row} (h : Small r) : Good (freeR r) := ⟨h.g.w0, h.g.w1, h.g.len, h.g.s0, h.g.g0, h.g.g1, h.g.gl, Int.le_refl 0⟩
theorem late_at {r : Row} {j : Nat} (h : j < r.seen.length) : (lateR r).seen.getD j 0 = r.seen.getD j 0 + if (j : Int) = r.who then 0 else 9 := by
  show ((List.range r.seen.length).map _).getD j 0 = _
  rw [List.getD_eq_getElem?_getD, List.getElem?_map, List.getElem?_range h]
  rfl
theorem late_good {r : Row} (h : Small r) : Good (lateR r) := by
  have g := h.g
  have hl : (lateR r).seen.length = r.seen.length := by show ((List.range r.seen.length).map _).length = _; simp
  refine ⟨g.w0, by rw [hl]; exact g.w1, by rw [hl]; exact g.len, fun c hc => ?_, g.g0, g.g1, g.gl, ?_⟩
  · obtain ⟨j, hj, rfl⟩ := List.mem_map.mp (show c ∈ (List.range r.seen.length).map _ from hc)
    have hj := List.mem_range.mp hj
    have e : r.seen.getD j 0 = r.seen[j] := by rw [List.getD_eq_getElem?_getD, List.getElem?_eq_getElem hj]; rfl
    have h1 := g.s0 _ (List.getElem_mem hj)
    have h2 := h.s _ (List.getElem_mem hj)
    rw [e]
    split <;> omega
  · have := g.an
    show match r.anchor.1 with
      | none => 0 ≤ r.anchor.2
      | some k => 0 ≤ k.1 ∧ k.1 < (lateR r).seen.length ∧ 1 ≤ k.2 ∧ k.2 ≤ (lateR r).seen.getD k.1.toNat 0 ∧ 1 ≤ r.anchor.2
    cases q : r.anchor.1 with
    | none =>
      rw [q] at this
      exact this
    | some k =>
      rw [q] at this
      obtain ⟨a, b, c, d, e⟩ := this
      refine ⟨a, by rw [hl]; exact b, c, ?_, e⟩
      rw [late_at (by omega)]
      split <;> omega
theorem SD.re {X : Cx} {x : XD} {es es' : Es} {m : M} {E : DE} {sts : List Stmt} (h : es = es') (H : SD X x es' m sts E) : SD X x es m sts E := h ▸ H
local macro_rules | `(tactic| walk_at "es19") => `(tactic| refine SD.re (es' := [_, _, _, _, _, _, _, _, _, _, _, _, _, _, _, _, _, _, _]) rfl ?_)
section
variable {P : Program} {w : World} {K : PySem.W.Frag} {mg : Str → Option Value} {base : Heap} {f C CR CG XC XM XG : Addr} {fd : FuncData}
structure ListsOk (Ls : List (List Row)) : Prop where
  n : Ls.length = 12
  z : ∀ L ∈ Ls, L.length ≤ 43
  g : ∀ L ∈ Ls, ∀ r ∈ L, Good r
def FS_law_spoilt : FSpec := fun ds m k x => ∃ (p : Addr) (j : Nat) (st : LSt) (rows : List Row) (l : Nat), ds = [.raw (.ref p), rowsD rows, .int (l : Nat)] ∧ m[j]? = some (p, .lst (lstD st)) ∧ StOk st ∧ (∀ r ∈ rows, Small r) ∧ 1 ≤ rows.length ∧ rows.length ≤ 20 ∧
  ∀ (Ls : List (List Row)) (st' : LSt), StOk st' → ListsOk Ls → k (.lst (Ls.map rowsD)) (m.set j (p, .lst (lstD st')))
theorem fn_law_spoilt (F : F_law_spoilt K f fd) (gm : mg "_law_spoilt" = some (.ref f)) (fr : Free mg) (C1 : Fn P w K mg base 1 "_law_draw" FS_law_draw) : Fn P w K mg base 2 "_law_spoilt" FS_law_spoilt := by
  refine fn_def F sc_law_spoilt gm (bs_law_spoilt F) (fun ds m k x ⟨_, _, _, _, _, e, _⟩ => by rw [e]; rfl) ?_
  rintro cdv A outer s H E B ds m k x ⟨p, j, st, rows, l, rfl, hm, hst, hg, hz1, hz2, hk⟩
  refine SD.focus hm ?_
  generalize hM : m.eraseIdx j = M0
  have hret : ∀ (Ls : List (List Row)) (st' : LSt), StOk st' → ListsOk Ls → ∃ o', ((p, MO.lst (lstD st')) :: M0 : M) = (p, o') :: M0 ∧ k (.lst (Ls.map rowsD)) (m.set j (p, o')) := fun s st' a b => ⟨_, rfl, hk s st' a b⟩
  clear hk hm hM
  walk_at "sg"
  refine ec_call C1 (by exact B.room) ?_
  walk_at "sg"
  refine cc_len (.inl (.imm _ _)) ?_
  rw [List.length_map]
  walk_at "sg"
  refine ⟨p, 0, st, rows.length, rfl, rfl, hst, by omega, by omega, fun d1 st1 hd10 hd11 hst1 => ?_⟩
  obtain ⟨at_, rfl⟩ : ∃ i : Nat, d1 = (i : Int) := ⟨d1.toNat, by rw [Int.toNat_of_nonneg hd10]⟩
  have hatl : at_ < rows.length := by omega
  obtain ⟨r, hr⟩ : ∃ r, rows[at_]? = some r := ⟨_, List.getElem?_eq_getElem hatl⟩
  have hrD : atI (rows.map rowD) (at_ : Int) = some (rowD r) := atI_nat (by rw [List.getElem?_map, hr]; rfl)
  have hsr := hg r (List.mem_of_getElem? hr)
  walk_at "sg"
  refine ec_call C1 (by exact B.room) ?_
  walk_at "sg"
  refine cc_len (.inl (.imm _ _)) ?_
  rw [List.length_map]
  walk_at "sg"
  refine ⟨p, 0, st1, rows.length, rfl, rfl, hst1, by omega, by omega, fun d2 st2 hd20 hd21 hst2 => ?_⟩
  obtain ⟨ot, rfl⟩ : ∃ i : Nat, d2 = (i : Int) := ⟨d2.toNat, by rw [Int.toNat_of_nonneg hd20]⟩
  obtain ⟨r2, hr2⟩ : ∃ r2, rows[ot]? = some r2 := ⟨_, List.getElem?_eq_getElem (by omega)⟩
  have hrD2 : atI (rows.map rowD) (ot : Int) = some (rowD r2) := atI_nat (by rw [List.getElem?_map, hr2]; rfl)
  have hsr2 := hg r2 (List.mem_of_getElem? hr2)
  show SD _ _ _ ((p, .lst (lstD st2)) :: M0) _ _
  refine sd_cons (ss_asg (.tp [13, 14, 15, 16]) (pg_tup B.calm (pgs_cons (pg_name B.nd rfl (Or.inr rfl)) (pgs_cons (pg_name B.nd rfl (Or.inr rfl)) (pgs_cons (pg_name B.nd rfl (Or.inl rfl)) (pgs_cons (pg_name B.nd rfl (Or.inl rfl)) pgs_nil))))) (by intro i hi; show i < 19; simp at hi; omega) ?_)
  walk_at "sg"
  refine ic_lst hrD ?_
  refine ⟨_, rfl, ?_⟩
  walk_at "es19"
  walk_at "sg"
  refine ic_tup (d := okd r.anchor.1) (at_nat (by decide) rfl) ?_
  walk_at "sg"
  refine ic_tup (d := .int r.anchor.2) (at_nat (by decide) rfl) ?_
  walk_at "sg"
  refine ⟨(show (2 : Nat) ≤ 1000 by decide), ?_⟩
  walk_at "sg"
  refine ⟨(show (4 : Nat) ≤ 1000 by decide), ?_⟩
  walk_at "es19"
  have hl5 := hsr.l
  have hl52 := hsr2.l
  walk_at "sg"
  refine oc_cats (by rw [z_len]; exact Nat.le_trans (by omega : _ ≤ 2000) (by decide)) ?_
  walk_at "sg"
  refine ⟨(show (4 : Nat) ≤ 1000 by decide), ?_⟩
  walk_at "es19"
  walk_at "sg"
  refine ⟨(show (2 : Nat) ≤ 1000 by decide), ?_⟩
  walk_at "sg"
  refine ⟨(show (4 : Nat) ≤ 1000 by decide), ?_⟩
  walk_at "es19"
  have hl6 := hsr.g.len
  walk_at "sg"
  refine ec_lc (own := [("_law_j", 17)]) (.nm 17) B.calm B.nd (blk_ok (N := N_law_spoilt) (sc := defScope S_law_spoilt) (by decide +kernel)) (fun s H C cl fp => pg_name sc_law_spoilt.nd rfl (Or.inl rfl)) (show (17 : Nat) < 19 by decide) (List.mem_cons_self) ?_
  refine sc_range fr.range ?_
  walk_at "sg"
  refine cc_len (.inr rfl) ?_
  rw [List.length_map]
  refine ⟨r.seen.length, rfl, by omega, ?_⟩
  refine lck_map (α := Nat) (xs := List.range r.seen.length) (enc := fun (i : Nat) => .int (0 + (i : Int))) (gx := fun (j : Nat) => .int (r.seen.getD j 0 + if (j : Int) = r.who then 0 else 9)) (by rw [List.length_range]; omega) trivial (fun i hi acc => ⟨_, rfl, fun p s2 H2 C2 cl2 fp2 => ?_⟩) ?_
  · have hil := List.mem_range.mp hi
    walk_at "sg"
    refine ic_tup (at_intN hil) ?_
    refine ec_if (et_cmp ?_)
    walk_at "sg"
    refine ite_d (fun e => ?_) fun e => ?_
    · rw [Int.zero_add] at e
      walk_at "sg"
      exact ⟨by rw [if_pos e], rfl⟩
    · rw [Int.zero_add] at e
      walk_at "sg"
      exact ⟨by rw [if_neg e], rfl⟩
  have eL : (List.range r.seen.length).map (fun (j : Nat) => D.int (r.seen.getD j 0 + if (j : Int) = r.who then 0 else 9)) = (lateR r).seen.map D.int := by
    unfold lateR
    rw [List.map_map]
    rfl
  rw [eL]
  walk_at "sg"
  refine cc_tuple (.imm _ _) ?_
  walk_at "sg"
  refine ⟨(show (4 : Nat) ≤ 1000 by decide), ?_⟩
  walk_at "es19"
  walk_at "sg"
  refine ic_lst hrD2 ?_
  walk_at "sg"
  refine ix_row (v := .int r2.who) (by rfl) ?_
  walk_at "sg"
  refine ic_lst hrD2 ?_
  walk_at "sg"
  refine ix_row (v := seenD r2) (by rfl) ?_
  walk_at "sg"
  refine ic_lst hrD2 ?_
  walk_at "sg"
  refine ix_row (v := .str r2.group) (by rfl) ?_
  show EC _ _ _ _ _ _
  walk_at "sg1"
  refine ⟨_, rfl, lc_str (Nat.le_trans (by omega : _ ≤ 2000) (by decide)) ?_⟩
  have hc2 := cut2_len (w := r2.group)
  refine oc_cats (by rw [q_len]; exact Nat.le_trans (show 1 + (cutS r2.group none (some ((2 : Nat) : Int))).length ≤ 2000 by omega) (by decide)) ?_
  walk_at "sg"
  refine ic_lst hrD2 ?_
  walk_at "sg"
  refine ix_row (v := nmD r2.anchor) (by rfl) ?_
  walk_at "sg"
  refine ⟨(show (4 : Nat) ≤ 1000 by decide), ?_⟩
  walk_at "es19"
  walk_at "sg1"; walk_at "sg1"
  refine ec_sl ?_
  walk_at "sg1"
  show EC _ _ _ _ _ _
  walk_at "sg1"
  refine ⟨_, rfl, lc_list (.imm _ _) ?_⟩
  rw [cut_lo rowD rows (n := at_) (by omega)]
  walk_at "es19"
  walk_at "sg1"; walk_at "sg1"
  refine ec_sl ?_
  walk_at "sg1"
  show EC _ _ _ _ _ _
  walk_at "sg"
  refine ⟨_, rfl, lc_list (.imm _ _) ?_⟩
  have ebh : cutD (rows.map rowD) (some ((at_ : Int) + 1)) none = (rows.drop (at_ + 1)).map rowD := cut_hi rowD rows (n := at_ + 1) (by omega)
  rw [ebh]
  walk_at "es19"
  have hbf : (rows.take at_).length ≤ 20 := by rw [List.length_take]; omega
  have hbh : (rows.drop (at_ + 1)).length ≤ 20 := by rw [List.length_drop]; omega
  have gbf : ∀ q ∈ rows.take at_, Small q := fun q hq => hg q (List.mem_of_mem_take hq)
  have gbh : ∀ q ∈ rows.drop (at_ + 1), Small q := fun q hq => hg q (List.mem_of_mem_drop hq)
  generalize rows.take at_ = bf at hbf gbf
  generalize rows.drop (at_ + 1) = bh at hbh gbh
  walk_at "sg1"; walk_at "sg1"
  refine ec_lst ?_
  walk_at "sg"
  refine oc_rows (a := bf) (b := bh) (by omega) ?_
  walk_at "sg"
  refine ec_lst ?_
  walk_at "sg"
  refine ⟨(show (1 : Nat) ≤ 1000 by decide), ?_⟩
  refine oc_rows (a := bf) (b := [farR r l]) (by simp; omega) ?_
  walk_at "sg"
  refine oc_rows (a := bf ++ [farR r l]) (b := bh) (by simp; omega) ?_
  walk_at "sg"
  refine ec_lst ?_
  walk_at "sg"
  refine ⟨(show (1 : Nat) ≤ 1000 by decide), ?_⟩
  refine oc_rows (a := rows) (b := [twinR r]) (by simp; omega) ?_
  walk_at "sg"
  refine ec_lst ?_
  walk_at "sg"
  refine ⟨(show (1 : Nat) ≤ 1000 by decide), ?_⟩
  walk_at "sg"
  refine oc_rows (a := [secR r2]) (b := rows) (by simp; omega) ?_
  refine ec_lst ?_
  walk_at "sg"
  refine ⟨(show (1 : Nat) ≤ 1000 by decide), ?_⟩
  refine oc_rows (a := [secR r2] ++ rows) (b := [twinR r]) (by simp; omega) ?_
  walk_at "sg"
  refine ec_lst ?_
  walk_at "sg"
  refine ⟨(show (1 : Nat) ≤ 1000 by decide), ?_⟩
  refine oc_rows (a := rows) (b := [freeR r]) (by simp; omega) ?_
  walk_at "sg"
  refine ⟨(show (5 : Nat) ≤ 1000 by decide), ?_⟩
  walk_at "es19"
  -- three more
  refine sd_cons (ss_setB (i := 12) B ?_)
  walk_at "sg"
  refine ec_lst ?_
  walk_at "sg"
  refine ec_lst ?_
  walk_at "sg"
  refine ⟨(show (1 : Nat) ≤ 1000 by decide), ?_⟩
  refine oc_rows (a := bf) (b := [lateR r]) (by simp; omega) ?_
  walk_at "sg"
  refine oc_rows (a := bf ++ [lateR r]) (b := bh) (by simp; omega) ?_
  walk_at "sg"
  refine oc_rows (a := bh) (b := bf) (by omega) ?_
  refine ec_lst ?_
  walk_at "sg"
  refine ⟨(show (1 : Nat) ≤ 1000 by decide), ?_⟩
  refine oc_rows (a := bh ++ bf) (b := [lateR r]) (by simp; omega) ?_
  walk_at "sg"
  refine ec_lst ?_
  walk_at "sg"
  refine ⟨(show (1 : Nat) ≤ 1000 by decide), ?_⟩
  refine oc_rows (a := bf) (b := [farR r l]) (by simp; omega) ?_
  walk_at "sg"
  refine oc_rows (a := bf ++ [farR r l]) (b := bh) (by simp; omega) ?_
  refine ec_lst ?_
  walk_at "sg"
  refine ⟨(show (1 : Nat) ≤ 1000 by decide), ?_⟩
  refine oc_rows (a := bf ++ [farR r l] ++ bh) (b := [secR r2]) (by simp; omega) ?_
  walk_at "sg"
  refine ⟨(show (3 : Nat) ≤ 1000 by decide), ?_⟩
  refine oc_cat (.imm _ _) (.imm _ _) (show (8 : Nat) ≤ lim by decide) ?_
  walk_at "es19"
  refine sd_cons (ss_setB (i := 12) B ?_)
  walk_at "sg"
  refine ec_lst ?_
  walk_at "sg"
  refine ec_lst ?_
  walk_at "sg"
  refine ⟨(show (1 : Nat) ≤ 1000 by decide), ?_⟩
  walk_at "sg"
  refine oc_rows (a := [twinR r]) (b := bh) (by simp; omega) ?_
  walk_at "sg"
  refine oc_rows (a := [twinR r] ++ bh) (b := bf) (by simp; omega) ?_
  walk_at "sg"
  refine ec_lst ?_
  walk_at "sg"
  refine ⟨(show (2 : Nat) ≤ 1000 by decide), ?_⟩
  walk_at "sg"
  refine oc_rows (a := [secR r2, twinR r]) (b := rows) (by simp; omega) ?_
  walk_at "sg"
  refine ec_lst ?_
  walk_at "sg"
  refine ⟨(show (1 : Nat) ≤ 1000 by decide), ?_⟩
  refine oc_rows (a := bh) (b := [freeR r]) (by simp; omega) ?_
  walk_at "sg"
  refine oc_rows (a := bh ++ [freeR r]) (b := bf) (by simp; omega) ?_
  walk_at "sg"
  refine ⟨(show (3 : Nat) ≤ 1000 by decide), ?_⟩
  refine oc_cat (.imm _ _) (.imm _ _) (show (11 : Nat) ≤ lim by decide) ?_
  walk_at "es19"
  refine sd_one (ss_ret ?_)
  walk_at "sg"
  refine ec_lst ?_
  walk_at "sg"
  refine ec_lc (own := [("_law_one", 18)]) (.nm 18) B.calm B.nd (blk_ok (N := N_law_spoilt) (sc := defScope S_law_spoilt) (by decide +kernel)) (fun s H C cl fp => pg_name sc_law_spoilt.nd rfl (Or.inl rfl)) (show (18 : Nat) < 19 by decide) (List.mem_cons_self) ?_
  refine sc_lst ?_
  walk_at "sg1"
  refine ⟨_, rfl, ?_⟩
  refine lck_map (α := Row) (xs := rows) (enc := rowD) (gx := fun q => rowD (twinR q)) (by omega) trivial (fun q hq acc => ⟨_, rfl, fun p s2 H2 C2 cl2 fp2 => ?_⟩) ?_
  · have hq5 := (hg q hq).l
    walk_at "sg"
    refine ix_row (v := .int q.who) (by rfl) ?_
    walk_at "sg"
    refine ix_row (v := seenD q) (by rfl) ?_
    walk_at "sg"
    refine ix_row (v := .str q.group) (by rfl) ?_
    walk_at "sg"
    refine oc_cats (by rw [z_len]; exact Nat.le_trans (by omega : _ ≤ 2000) (by decide)) ?_
    walk_at "sg"
    refine ix_row (v := nmD q.anchor) (by rfl) ?_
    walk_at "sg"
    exact ⟨(show (4 : Nat) ≤ 1000 by decide), rfl, rfl⟩
  refine ec_revL ?_
  walk_at "sg"
  refine ⟨_, .imm _ _, ?_⟩
  rw [show rows.map (fun q => rowD (twinR q)) = (rows.map twinR).map rowD by rw [List.map_map]; rfl, ← List.map_reverse]
  refine oc_rows (a := rows.map twinR) (b := rows.reverse) (by simp; omega) ?_
  walk_at "sg"
  refine ⟨(show (1 : Nat) ≤ 1000 by decide), ?_⟩
  refine oc_cat (.imm _ _) (.imm _ _) (show (12 : Nat) ≤ lim by decide) ?_
  refine hret [bf ++ bh, bf ++ [farR r l] ++ bh, rows ++ [twinR r], [secR r2] ++ rows ++ [twinR r], rows ++ [freeR r], bf ++ [lateR r] ++ bh, bh ++ bf ++ [lateR r], bf ++ [farR r l] ++ bh ++ [secR r2], [twinR r] ++ bh ++ bf, [secR r2, twinR r] ++ rows, bh ++ [freeR r] ++ bf, rows.map twinR ++ rows.reverse] st2 hst2 ⟨rfl, ?_, ?_⟩
  · intro L hL
    simp only [List.mem_cons, List.not_mem_nil, or_false] at hL
    rcases hL with rfl | rfl | rfl | rfl | rfl | rfl | rfl | rfl | rfl | rfl | rfl | rfl <;> simp <;> omega
  · have g1 : Good (farR r l) := far_good hsr
    have g2 := twin_good hsr
    have g3 := free_good hsr
    have g4 := late_good hsr
    have g5 := sec_good hsr2
    have Ap : ∀ {a b : List Row}, (∀ q ∈ a, Good q) → (∀ q ∈ b, Good q) → ∀ q ∈ a ++ b, Good q := fun ha hb q hq => (List.mem_append.mp hq).elim (ha q) (hb q)
    have Si : ∀ {a : Row}, Good a → ∀ q ∈ [a], Good q := fun ha q hq => by rw [List.mem_singleton.mp hq]; exact ha
    have Gf : ∀ q ∈ bf, Good q := fun q hq => (gbf q hq).g
    have Gh : ∀ q ∈ bh, Good q := fun q hq => (gbh q hq).g
    have Gr : ∀ q ∈ rows, Good q := fun q hq => (hg q hq).g
    intro L hL
    simp only [List.mem_cons, List.not_mem_nil, or_false] at hL
    rcases hL with rfl | rfl | rfl | rfl | rfl | rfl | rfl | rfl | rfl | rfl | rfl | rfl
    · exact Ap Gf Gh
    · exact Ap (Ap Gf (Si g1)) Gh
    · exact Ap Gr (Si g2)
    · exact Ap (Ap (Si g5) Gr) (Si g2)
    · exact Ap Gr (Si g3)
    · exact Ap (Ap Gf (Si g4)) Gh
    · exact Ap (Ap Gh Gf) (Si g4)
    · exact Ap (Ap (Ap Gf (Si g1)) Gh) (Si g5)
    · exact Ap (Ap (Si g2) Gh) Gf
    · exact Ap (Ap (Si g5) (Si g2)) Gr
    · exact Ap (Ap Gh (Si g3)) Gf
    · refine Ap (fun q hq => ?_) fun q hq => Gr q (List.mem_reverse.mp hq)
      obtain ⟨z, hz, rfl⟩ := List.mem_map.mp hq
      exact twin_good (hg z hz)
end
end TSgL10
/-! SgM1: Growth.stages, list(g.stages()). -/
section TSgM1
set_option maxHeartbeats 4000000
open PySem PySem.Spec PyProof.Rows L2
/-- the rows that a growth hands out -/
def stW (w0 : Str) (js : List Jn) (i : Nat) : List Str := (List.range (i + 1)).map fun t => endOf w0 (js.take t)
theorem stW_zero {w0 : Str} {js : List Jn} : stW w0 js 0 = [w0] := by
  unfold stW
  rfl
theorem stW_succ {w0 : Str} {js : List Jn} {i : Nat} : stW w0 js (i + 1) = stW w0 js i ++ [endOf w0 (js.take (i + 1))] := by
  unfold stW
  rw [List.range_succ, List.map_append]
  rfl
theorem ss_go {X : Cx} {x : XD} {es : Es} {m : M} {st : Stmt} {G : Hp} {σ : L2.St} {H : Hp} {Dn : Ends} (E : DE) (w : Wish X x G) (s : ST X G m σ H es) (hl : σ.length = X.N.length) (r : RE X G E Dn) (h : SS X x es m st E) : tSR X st Dn σ H := h G σ H Dn w s hl r
theorem ec_go {X : Cx} {x : XD} {es : Es} {m : M} {e : Expr} {G : Hp} {σ : L2.St} {H : Hp} {Q : VK} (k : KD) (w : Wish X x G) (s : ST X G m σ H es) (q : Bk X G k Q) (h : EC X x es m e k) : tR X e σ H Q := h G σ H Q w s q
theorem sc_go {X : Cx} {x : XD} {es : Es} {m : M} {tg iter : Expr} {G : Hp} {σ : L2.St} {H : Hp} {R : L2.It → Hp → Prop} (k : List D → (M → Prop) → M → Prop) (w : Wish X x G) (s : ST X G m σ H es) (q : BkI X G k R) (h : SC X x es m tg iter k) : wR X tg iter σ H R := h G σ H R w s q
theorem wish0 {X : Cx} {G : Hp} : Wish X noX G := ⟨⟨fun _ _ _ _ => False, G, takes0, fun _ _ _ _ _ _ _ _ z => z.elim, Same.refl G⟩⟩
section
variable {P : Program} {w : World} {K : PySem.W.Frag} {mg : Str → Option Value} {base : Heap} {f C CR CG XC XM XG : Addr} {fd : FuncData}
def spStages (K : PySem.W.Frag) (w : World) (CG : Addr) : SpG := fun vs H cont E => ∃ (G : Hp) (m : M) (w0 : Str) (js : List Jn), Hs K w G m H ∧ RpL K G [growthD CG w0 js] vs ∧ JOk w0 js ∧ w0.length ≤ 10200 ∧ js.length ≤ 1000 ∧
  ∀ (ys : List V) (G' H' : Hp), Same G G' → Hs K w G' m H' → RpL K G' ((stW w0 js js.length).map D.str) ys → cont ys H'
theorem gfn_stages (F : F_Growth_stages K f fd) (L : GrowF K mg CG) (C1 : Fn P w K mg base 1 "row_after" FS_row_after) : GFn P w K mg base 2 f fd ["self"] (spStages K w CG) := by
  obtain ⟨oc, od, dV, kV, doc, pm, an, cdv, ct, osl, rfl, lk, hcd, _, _⟩ := F.ex
  refine gfn_of lk hcd sc_Growth_stages (fun vs H Q E ⟨G, m, w0, js, _, r, _⟩ => by rw [← r.len]; rfl) fun A outer s H vs Q E pn hr ⟨G, m, w0, js, hs, r, hj, hw, hz, hq⟩ => ?_
  refine ⟨_, gss_cons (gs_ps ps_R) (gss_cons (gs_yield pe_R) (gss_cons (gs_for (wi := wR _ _ _) (g := Tg.den K (.tp [2, 3])) owns_gcx rfl pi_R (pg_tup rfl (pgs_cons (pg_name sc_Growth_stages.nd (i := 2) rfl (Or.inl rfl)) (pgs_cons (pg_name sc_Growth_stages.nd (i := 3) rfl (Or.inl rfl)) pgs_nil))) (gss_cons (gs_ps ps_R) (gss_cons (gs_yield pe_R) gss_nil))) gss_nil)), ?_⟩
  have hlen : (L2.start N_Growth_stages vs).length = N_Growth_stages.length := by
    have h1 := r.len
    unfold L2.start
    rw [List.length_append, List.length_map, List.length_replicate, ← h1]
    rfl
  have hgd := L.c.cl
  refine ss_go (x := noX) (es := [some (growthD CG w0 js), none, none, none]) (m := m) (G := G) { nx := fun es' m' => es' = [some (growthD CG w0 js), some (.str w0), none, none] ∧ m' = m, rt := fun _ _ => False } wish0 ⟨hs, start_env r⟩ hlen ⟨?_, fun _ _ _ _ _ z => z.elim, fun _ _ _ _ _ z => z.elim, fun _ _ _ _ _ z => z.elim⟩ ?_
  · rintro es1 m1 G1 σ1 H1 ⟨rfl, rfl⟩ e1 st1 hl1
    refine ⟨by rw [sizeLine_eq]; decide, ?_⟩
    refine ec_go (x := noX) (fun d m2 => d = .str w0 ∧ m2 = m1) wish0 st1 ?_ ?_
    · rintro v d m2 G2 H2 ⟨rfl, rfl⟩ e2 hs2 r2
      have st2 := st1.mono e2 hs2
      refine sc_go (x := noX) (fun ds keep m3 => ds = js.map jD ∧ keep = anyM ∧ m3 = m2) wish0 st2 ?_ ?_
      · rintro J ds keep m3 G3 H3 ⟨rfl, rfl, rfl⟩ e3 hs3 y
        refine ⟨fun i n ys σ H => n = js.length - i ∧ i ≤ js.length ∧ ∃ (o2 o3 : Option D) (G4 : Hp), Same G3 G4 ∧ ST _ G4 m3 σ H [some (growthD CG w0 js), some (.str (endOf w0 (js.take i))), o2, o3] ∧ σ.length = N_Growth_stages.length ∧ RpL K G4 ((stW w0 js i).map D.str) ys, ⟨js.length, rfl, Nat.zero_le _, none, none, G3, Same.refl _, st2.mono e3 hs3, hl1, ?_⟩, ?_⟩
        · rw [stW_zero]
          exact .cons (r2.mono e3) .nil
        rintro i n ys σ4 H4 ⟨rfl, hi, o2, o3, G4, e4, st4, hl4, ry⟩
        by_cases hlt : i < js.length
        · refine .inr ⟨y.go i G4 H4 m3 e4 st4.hs trivial (by rw [List.length_map]; exact hlt), fun ys' σ' H' => ∃ (o2 o3 : Option D) (G5 : Hp), Same G3 G5 ∧ ST _ G5 m3 σ' H' [some (growthD CG w0 js), some (.str (endOf w0 (js.take (i + 1)))), o2, o3] ∧ σ'.length = N_Growth_stages.length ∧ RpL K G5 ((stW w0 js (i + 1)).map D.str) ys', fun ys' σ' H' ⟨o2, o3, G5, z⟩ => ⟨js.length - (i + 1), by omega, rfl, hlt, o2, o3, G5, z⟩, fun x H5 hy => ?_⟩
          obtain ⟨G5, d, hd, e5, hs5, rd⟩ := y.yld i G4 H4 m3 x H5 e4 st4.hs trivial (by rw [List.length_map]; exact hlt) hy
          obtain ⟨jn, hjn, rfl⟩ := mapAt hd
          have hsplit : js = js.take i ++ jn :: js.drop (i + 1) := by
            have := List.take_append_drop i js
            rw [List.drop_eq_getElem?_toList_append, hjn] at this
            exact this.symm
          obtain ⟨j1, j2, j3, j4, j5⟩ := hj (js.take i) jn (js.drop (i + 1)) hsplit
          have hpre : JOk w0 (js.take i) := fun a b c e => hj a b (c ++ jn :: js.drop (i + 1)) (hsplit.trans (by rw [e]; simp))
          have hel := endOf_len hpre
          have htl : (js.take i).length ≤ 1000 := by rw [List.length_take]; omega
          refine Tg.run (tg := .tp [2, 3]) rfl ⟨hs5, st4.env.mono e5⟩ hl4 (by intro q hq; show q < 4; simp at hq; omega) rd fun σ6 st6 hl6 _ => ?_
          refine ss_go (x := noX) (m := m3) (G := G5) { nx := fun es' m' => es' = [some (growthD CG w0 js), some (.str (endOf w0 (js.take (i + 1)))), some (.int jn.1), some (.str jn.2)] ∧ m' = m3, rt := fun _ _ => False } wish0 st6 hl6 ⟨?_, fun _ _ _ _ _ z => z.elim, fun _ _ _ _ _ z => z.elim, fun _ _ _ _ _ z => z.elim⟩ ?_
          · rintro es7 m7 G7 σ7 H7 ⟨rfl, rfl⟩ e7 st7 hl7
            have hyl : ys.length < sizeLine := by
              rw [← ry.len, List.length_map, sizeLine_eq]
              unfold stW
              rw [List.length_map, List.length_range]
              omega
            refine ⟨hyl, ?_⟩
            refine ec_go (x := noX) (fun d m2 => d = .str (endOf w0 (js.take (i + 1))) ∧ m2 = m7) wish0 st7 ?_ ?_
            · rintro v8 d8 m8 G8 H8 ⟨rfl, rfl⟩ e8 hs8 r8
              refine ⟨_, _, G8, ((e4.trans e5).trans e7).trans e8, st7.mono e8 hs8, hl7, ?_⟩
              rw [stW_succ, List.map_append]
              exact (ry.mono ((e5.trans e7).trans e8)).app (.one r8)
            · walk_at "sg"
              exact ⟨rfl, rfl⟩
          · refine ss_set sc_Growth_stages.nd (i := 1) ?_
            refine ec_call C1 (by exact hr) ?_
            walk_at "sg"
            refine ⟨_, _, _, rfl, by omega, j1, j2, by omega, ?_⟩
            refine ⟨?_, rfl⟩
            have et : js.take (i + 1) = js.take i ++ [jn] := take_at hjn
            rw [et, endOf_snoc]
            rfl
        · have ei : i = js.length := by omega
          subst ei
          refine .inl ⟨y.stop _ G4 H4 m3 e4 st4.hs trivial (by rw [List.length_map]; exact Nat.le_refl _), ?_⟩
          exact hq ys G4 H4 (((e1.trans e2).trans e3).trans e4) st4.hs ry
      · refine sc_tup (ec_fld ?_)
        walk_at "sg"
        exact ⟨CG, _, _, rfl, L.c.cl, L.na _ (by walk_at "sgm"), rfl, _, rfl, rfl, rfl, rfl⟩
    · walk_at "sg"
      exact ⟨rfl, rfl⟩
  · refine ss_set sc_Growth_stages.nd (i := 1) ?_
    refine ec_fld ?_
    walk_at "sg"
    exact ⟨CG, _, _, rfl, L.c.cl, L.na _ (by walk_at "sgm"), rfl, rfl, rfl⟩
end
structure GrowG (P : Program) (w : World) (K : PySem.W.Frag) (mg : Str → Option Value) (base : Heap) (CG : Addr) : Prop where
  ok : ∃ f fd ps, GFn P w K mg base 2 f fd ps (spStages K w CG) ∧ Meth K CG "stages" f ∧ Binds K fd ps []
section
variable {X : Cx} {x : XD} {es : Es} {m : M} {k : KD} {o : Expr} {p pos pos' apos : Pos} {CG : Addr}
/-- list(o.stages()) -/
theorem ec_stages {pl : Sem Bool} (GG : GrowG X.prog X.w X.K X.mg X.base CG) (c : Cls X.K CG) (hr : Room 5 X.A) (fr : X.mg "list" = none)
    (h : EC X x es m o fun d m1 => ∃ (w0 : Str) (js : List Jn), d = growthD CG w0 js ∧ JOk w0 js ∧ w0.length ≤ 10200 ∧ js.length ≤ 1000 ∧ k (.lst ((stW w0 js js.length).map D.str)) m1)
    (hg : Gl X "list" := by rfl)
    (ht : eval (.Call (.Attribute o "stages" apos) [] [] pos') X.env = (do
      let ov ← eval o X.env
      standAt apos.atName
      let (f, first) ← holding [ov] (getMethod ov "stages" pl)
      callWith pos' f first (backTo pos' (starEach [] X.env)) (backToKw pos' (keywordEach [] X.env))) := by rfl)
    (he : starEach [.Call (.Attribute o "stages" apos) [] [] pos'] X.env = (false, eval (.Call (.Attribute o "stages" apos) [] [] pos') X.env) :: starEach [] X.env := by rfl) :
    EC X x es m (.Call (.Name "list" p) [.Call (.Attribute o "stages" apos) [] [] pos'] [] pos) k := by
  obtain ⟨f, fd, ps, GF, hm, hb⟩ := GG.ok
  refine EC.of (pe_listG (E := fun _ _ _ => False) (pgen_meth0 (pl := pl) pe_R c hm GF (hr.mono (by decide)) hb .nil ht) passL (fun _ _ _ z => z.elim) hr hg fr (by decide +kernel) (by decide) (by decide) he) fun G σ H Q w st q => ?_
  refine h G σ H _ w st fun v d m1 G1 H1 ⟨w0, js, ed, hj, hw, hz, hk⟩ e1 h1 r1 => ?_
  subst ed
  cases r1 with
  | ins ha rf =>
    rename_i a dx vs
    refine ⟨a, dx, vs, rfl, h1.ex _ _ ha, RpF.none rf (by rfl), ?_⟩
    refine ⟨G1, m1, w0, js, h1, .one (.ins ha rf), hj, hw, hz, fun ys G2 H2 e2 h2 r2 => ?_⟩
    exact (q.mono (e1.trans e2)).lst h2 hk r2
end
end TSgM1
/-! SgL11: _law_told. -/
section TSgL11
set_option maxHeartbeats 4000000
open PySem PySem.Spec PyProof.Rows L2
/-- isinstance(e, c), e the exception that the suite holds, with its dict at d -/
def rIsE2 (K : PySem.W.Frag) (D a d : Addr) : List V → Hp → VK → Prop := fun xs H Q => ∃ (c : V) (cv : Value) (b : Bool) (fs : List (Str × V)), xs = [.ref a, c] ∧ (∀ u, RelV c u → u = cv) ∧ PySem.W.kitOne K (.ref D) cv = some b ∧ H d = some (.xd fs) ∧ Q (.bl b) H
theorem call_isE2 {X : Cx} {a D d : Addr} {oe : Obj} {pn : List (Addr × Obj)} (C : ExcC X.K D) (hz : Zc (.ref D) (some d) oe) (hf : ∃ vs, oe.data = .fields vs) : CallR (X.suite a ((a, oe) :: pn)) (.builtin "isinstance") (rIsE2 X.K D a d) := by
  intro pins s σ H xs us Q I r h
  obtain ⟨c, cv, b, fs, rfl, hcv, e, hx, q⟩ := h
  cases r with
  | cons rx rr =>
    cases rr with
    | cons rt rr =>
      cases rr
      cases rx
      have ec := hcv _ rt
      subst ec
      have hget := (I.pin (a, oe) (List.mem_append.mpr (.inl List.mem_cons_self))).1
      obtain ⟨vs, hv⟩ := hf
      obtain ⟨mA, hns, hr⟩ : ObjOk X.prog X.w H s.heap d (.xd fs) := I.hok d _ hx
      obtain ⟨od, ho, hl⟩ := lookIn_ns hns
      have J : PySem.W.InstAt s.heap a oe D (some od) := ⟨hget, hz.1, by unfold PySem.W.notCls; rw [hv] <;> rfl, by rw [hz.2]; exact ho⟩
      have hcl : (PySem.W.clsIn X.K D).isSome = true := by
        obtain ⟨cd, hc, _⟩ := PySem.W.any_some C.hd
        rw [hc]; rfl
      exact PySem.W.kia_one (PySem.W.kitx_exc hcl C.hg C.hk C.hs C.ha C.hn C.ht C.hm) I.kIn J e (fun z => nomatch z) fun tk => ⟨.bl b, H, I.kept (t' := tk) fun _ _ z => z, rfl, q⟩
/-- the classes that the suite asks for -/
structure ToldC (K : PySem.W.Frag) (mg : Str → Option Value) (CE XG XC XM : Addr) : Prop where
  gE : mg "GrowsError" = some (.ref CE)
  gG : mg "MixesGroups" = some (.ref XG)
  gC : mg "ClashingCalls" = some (.ref XC)
  gM : mg "MissingAnchor" = some (.ref XM)
/-- what one error class must say -/
structure TellC (K : PySem.W.Frag) (CE XG XC XM C : Addr) (bG bC bM : Bool) : Prop where
  exm : PySem.W.exmOne K (.ref C) (.ref CE) = some true
  ec : ExcC K C
  xf : XfC K C
  no : PySem.W.findIn K (.ref C) errV = some none
  kG : PySem.W.kitOne K (.ref C) (.ref XG) = some bG
  kC : PySem.W.kitOne K (.ref C) (.ref XC) = some bC
  kM : PySem.W.kitOne K (.ref C) (.ref XM) = some bM
  kV : PySem.W.kitOne K (.ref C) (.type "ValueError") = some true
section
variable {X : Cx} {x : XD} {es : Es} {m : M} {E : DE} {body : List Stmt} {i : Nat} {CE XG XC XM : Addr} {pos pos' np p1 p2 p3 p4 p5 p6 p7 p8 p9 q1 q2 q3 q4 q5 q6 q7 q8 q9 : Pos} {tn : Nat}
abbrev isCallE (n : Str) (p q r : Pos) (s : Pos) : Expr := .Call (.Name "isinstance" p) [.Name "error" q, .Name n r] [] s
theorem boot_isi : bootBuiltins "isinstance" = some (.builtin "isinstance") := by decide +kernel
theorem boot_ve : bootBuiltins "ValueError" = some (.type "ValueError") := by decide +kernel
theorem ss_told {a1 a2 a3 a4 b1 b2 b3 b4 c1 c2 c3 c4 d1 d2 d3 d4 e1 e2 t1 t2 : Pos} (hs : X.stack = X.env :: X.outer) (hf : X.env.frame = some X.env.locals) (hN : X.N.Nodup) (hi : X.N[i]? = some ("error" : Str)) (hln : X.env.kindOf "error" = some .local) (fr : Free X.mg) (T : ToldC X.K X.mg CE XG XC XM)
    (g1 : Gl X "GrowsError") (g2 : Gl X "MixesGroups") (g3 : Gl X "ClashingCalls") (g4 : Gl X "MissingAnchor") (g5 : Gl X "ValueError") (g6 : Gl X "isinstance") (hv : Vis X.env.scope "error") (tk : ∃ W, Takes X W)
    (h : ∀ (pn : List (Addr × Obj)) (xe : Value → Shared → Prop), PassesOwn (model X.prog X.w) X.A X.env xe → SD (X.tr pn xe) (fun C d m' => ∃ bG bC bM, TellC X.K CE XG XC XM C bG bC bM ∧ E.rt (.tup [.bl bG, .bl bC, .bl bM, .bl true, d]) m') es m body E) :
    SS X x es m (.Try body [.ExceptHandler (some (.Name "GrowsError" np)) (some "error") [.Return (some (.Tuple [isCallE "MixesGroups" a1 a2 a3 a4, isCallE "ClashingCalls" b1 b2 b3 b4, isCallE "MissingAnchor" c1 c2 c3 c4, isCallE "ValueError" d1 d2 d3 d4, .Attribute (.Name "error" e1) "value" e2] tn t1)) t2] pos'] [] [] pos) E := by
  obtain ⟨Wout, tkW⟩ := tk
  refine SS.of (ps_try_as (c := .ref CE) (i := i) (tb := fun W Dn σ H => ∀ (pn : List (Addr × Obj)) (xe : Value → Shared → Prop), Takes (X.tr pn xe) W → PassesOwn (model X.prog X.w) X.A X.env xe → tSsR (X.tr pn xe) body Dn σ H)
    (ts := fun a cls d Dn σ H => ∀ (oe : Obj) (pn : List (Addr × Obj)), Zc cls d oe → (∃ vs, oe.data = .fields vs) → tSsR (X.suite a ((a, oe) :: pn)) _ Dn σ H) hs hf hN hi hln ⟨g1, by decide, .inl T.gE⟩ tkW
    (fun W pn xe tk own => ⟨fun pins s σ H D I h => h pn xe tk own pins s I⟩) (fun a oe cls d pn hz hd => ⟨fun pins s σ H D I h => h oe pn hz hd pins s I⟩)) fun G σ H Dn w st hl r => ?_
  intro pn xe tk own
  refine h pn xe own G σ H Dn ⟨⟨_, G, tk, ?_, Same.refl G⟩⟩ ⟨st.hs, st.env⟩ hl ⟨fun es m G' σ H z e s hl => r.nx es m G' σ H z e ⟨s.hs, s.env⟩ hl, r.rt, fun es m G' σ H z e s hl => r.bk es m G' σ H z e ⟨s.hs, s.env⟩ hl, fun es m G' σ H z e s hl => r.ct es m G' σ H z e ⟨s.hs, s.env⟩ hl⟩
  intro C d m' G' σ' H' dx v ⟨bG, bC, bM, TC, hrt⟩ e hs' hd hr
  refine ⟨true, TC.exm, fun _ a ha => ?_, fun z => by cases z⟩
  intro oe pn2 hz hfs pins s I
  have hσ : (σ'.set i (some (V.ref a)))[i]? = some (some (V.ref a)) := by
    have h1 := I.len
    rw [List.length_set] at h1
    have h2 := (List.getElem?_eq_some_iff.mp hi).1
    exact List.getElem?_set_self (by rw [h1]; exact h2)
  have CI := call_isE2 (X := X) (a := a) (pn := pn2) TC.ec hz hfs
  refine (pss_one (ps_ret (pe_tup (pa_cons (pe_callB CI g6 fr.isinstance boot_isi (pa_cons (pe_var hi hv) (pa_cons (pe_glob g2 T.gG (v := .ref XG) rfl) pa_nil)))
    (pa_cons (pe_callB CI g6 fr.isinstance boot_isi (pa_cons (pe_var hi hv) (pa_cons (pe_glob g3 T.gC (v := .ref XC) rfl) pa_nil)))
    (pa_cons (pe_callB CI g6 fr.isinstance boot_isi (pa_cons (pe_var hi hv) (pa_cons (pe_glob g4 T.gM (v := .ref XM) rfl) pa_nil)))
    (pa_cons (pe_callB CI g6 fr.isinstance boot_isi (pa_cons (pe_var hi hv) (pa_cons (pe_bltn (v := .ty "ValueError") g5 fr.ValueError boot_ve rfl) pa_nil)))
    (pa_cons (pe_xf TC.xf TC.no hz hfs (pe_var hi hv)) pa_nil)))))))).run pins s _ _ _ I ?_
  refine ⟨_, hσ, .ref XG, _, bG, _, rfl, fun _ h => h, TC.kG, hd, ?_⟩
  refine ⟨_, hσ, .ref XC, _, bC, _, rfl, fun _ h => h, TC.kC, hd, ?_⟩
  refine ⟨_, hσ, .ref XM, _, bM, _, rfl, fun _ h => h, TC.kM, hd, ?_⟩
  refine ⟨_, hσ, .ty "ValueError", _, true, _, rfl, fun _ h => h, TC.kV, hd, ?_⟩
  refine ⟨_, hσ, rfl, rfl, dx, _, v, rfl, hd, rfl, ?_⟩
  refine ⟨by rw [sizeLine_eq]; exact (show (5 : Nat) ≤ 16777216 by decide), fun p hp => ?_⟩
  exact (r.rt.mono e).tup hs' hrt (.cons (.bl _) (.cons (.bl _) (.cons (.bl _) (.cons (.bl _) (.cons hr .nil))))) p hp
end
/-! ### one error alone is due -/
theorem least_uniq {rows : List Row} {a b : Key} (ha : LeastClash rows a) (hb : LeastClash rows b) : a = b := by
  have h1 := ha.2 b hb.1
  have h2 := hb.2 a ha.1
  unfold kLt at h1 h2
  exact Prod.ext (by omega) (by omega)
theorem first_uniq {g0 : Str} {o : List Row} {a b : Row} (ha : FirstMissing g0 o a) (hb : FirstMissing g0 o b) : a = b := by
  obtain ⟨p1, q1, e1, n1, k1⟩ := ha
  obtain ⟨p2, q2, e2, n2, k2⟩ := hb
  rw [e1] at e2
  rcases List.append_eq_append_iff.mp e2 with ⟨z, h1, h2⟩ | ⟨z, h1, h2⟩
  · cases z with
    | nil => exact (List.cons.inj h2).1
    | cons c z =>
      have h3 := (List.cons.inj h2).1
      subst h3
      exact absurd (k2 p1 a z h1) n1
  · cases z with
    | nil => exact (List.cons.inj h2).1.symm
    | cons c z =>
      have h3 := (List.cons.inj h2).1
      subst h3
      exact absurd (k1 p2 b z h1) n2
theorem Due.lay {g0 : Str} {rows : List Row} {XC XM : Addr} {x : XD} {m : M} {a b c q : D} (h : Due g0 rows (.tup [a, b, c, q])) (h1 : a = .bl true → b = .bl false → x XC q m) (h2 : a = .bl false → b = .bl true → x XM q m) : LayX g0 rows XC XM x m ∧ ¬ LayOk g0 rows := by
  cases h with
  | clash q hq =>
    refine ⟨⟨fun q' z => by rw [least_uniq z hq]; exact h1 rfl rfl, fun nc => (nc.least hq).elim⟩, fun l => l.nc.least hq⟩
  | miss o r nc ho hm =>
    refine ⟨⟨fun q' z => (nc.least z).elim, fun _ o' r' ho' z => ?_⟩, fun l => (l.ok o ho).first hm⟩
    rw [ho'.uniq ho] at z
    rw [first_uniq z hm]
    exact h2 rfl rfl
structure RuleM (P : Program) (w : World) (K : PySem.W.Frag) (mg : Str → Option Value) (base : Heap) (C : Addr) : Prop where
  ok : ∃ f fd ps, Mk K C f ∧ FnOk P w K mg base (L2.CX P w) 1 f fd ps (spD K w (FS_Rule_init C)) ∧ Binds K fd ps []
section
variable {P : Program} {w : World} {K : PySem.W.Frag} {mg : Str → Option Value} {base : Heap} {f C CR CG CE XC XM XG : Addr} {fd : FuncData}
def FS_law_told : FSpec := fun ds m k x => ∃ (R : Rul) (g0 : Str) (A Bs : List Row) (d : D), ds = [wordsD R, .str g0, rowsD A, rowsD Bs] ∧ LayP g0 A ∧ LayP g0 (A ++ Bs) ∧ Refu R g0 A Bs d ∧ d ≠ .non ∧ k d m
theorem fn_law_told (F : F_law_told K f fd) (gm : mg "_law_told" = some (.ref f)) (fr : Free mg) (LR : RuleF K mg CR) (MR : RuleM P w K mg base CR) (T : ToldC K mg CE XG XC XM) (TG : TellC K CE XG XC XM XG true false false) (TC : TellC K CE XG XC XM XC false true false) (TM : TellC K CE XG XC XM XM false false true)
    (C1 : Fn P w K mg base 7 "growth_from" (FS_growth_from C CR CG XC XM XG)) (C2 : Fn P w K mg base 5 "_law_calls" (FS_law_calls C)) : Fn P w K mg base 8 "_law_told" FS_law_told := by
  refine fn_def F sc_law_told gm (bs_law_told F) (fun ds m k x ⟨_, _, _, _, _, e, _⟩ => by rw [e]; rfl) ?_
  rintro cdv A0 outer s H E B ds m k x ⟨R, g0, A, Bs, d, rfl, hpA, hpB, hre, hdn, hk⟩
  obtain ⟨fR, fdR, psR, MK, FR, hbR⟩ := MR.ok
  have hzB := hpB.z
  rw [List.length_append] at hzB
  have hgB : ∀ r ∈ Bs, Good r := fun r hr => hpB.g r (List.mem_append_right _ hr)
  refine sd_one (ss_told (i := 4) (CE := CE) (XG := XG) (XC := XC) (XM := XM) rfl rfl B.nd rfl rfl fr T rfl rfl rfl rfl rfl rfl (Or.inl rfl) ⟨_, takes_of rfl rfl rfl rfl⟩ fun pn xe own => ?_)
  have B2 : BodyOk ((bodyX P w K mg base N_law_told "_law_told" (defScope S_law_told) f cdv A0 outer s H E).tr pn xe) 7 := ⟨B.calm, own, B.room, B.nd⟩
  refine sd_cons (ss_setB (i := 5) B2 ?_)
  refine ec_call C1 B.room ?_
  refine ecs_cons (ec_make MK FR (B.room.mono (by decide)) LR.gm hbR ?_)
  walk_at "sg"
  refine ic_tup (d := .str (sideS R)) (at_nat (by decide) rfl) ?_
  walk_at "sg"
  refine ic_tup (d := .str (orderS R)) (at_nat (by decide) rfl) ?_
  walk_at "sg"
  refine ic_tup (d := .str (linkS R)) (at_nat (by decide) rfl) ?_
  walk_at "sg"
  intro pR
  refine ⟨pR, R, _, rfl, rfl, rfl, _, _, rfl, ?_⟩
  walk_at "sg"
  refine ec_call C2 (B.room.mono (by decide)) ?_
  walk_at "sg"
  refine ⟨A, rfl, hpA.g, by omega, ?_⟩
  walk_at "sg"
  refine ec_call C2 (B.room.mono (by decide)) ?_
  walk_at "sg"
  refine ⟨Bs, rfl, hgB, by omega, ?_⟩
  walk_at "sg"
  refine ⟨R, g0, A, Bs, rfl, hpA, hpB, ?_⟩
  cases hre with
  | loose hw => exact ⟨fun _ => ⟨true, false, false, TG, hk⟩, fun z => (by rw [hw] at z; cases z)⟩
  | fst a b c q hw hd =>
    refine ⟨fun z => (by rw [hw] at z; cases z), fun _ => ?_⟩
    obtain ⟨l1, l2⟩ := hd.lay (XC := XC) (XM := XM) (m := m) (x := fun C d m' => ∃ bG bC bM, TellC K CE XG XC XM C bG bC bM ∧ k (.tup [.bl bG, .bl bC, .bl bM, .bl true, d]) m') (fun e1 e2 => ⟨false, true, false, TC, by rw [e1, e2] at hk; exact hk⟩) (fun e1 e2 => ⟨false, false, true, TM, by rw [e1, e2] at hk; exact hk⟩)
    exact ⟨l1, fun z => (l2 z).elim⟩
  | snd a b c q hw hA hd =>
    refine ⟨fun z => (by rw [hw] at z; cases z), fun _ => ⟨hA.x, fun _ => ?_⟩⟩
    obtain ⟨l1, l2⟩ := hd.lay (XC := XC) (XM := XM) (m := m) (x := fun C d m' => ∃ bG bC bM, TellC K CE XG XC XM C bG bC bM ∧ k (.tup [.bl bG, .bl bC, .bl bM, .bl true, d]) m') (fun e1 e2 => ⟨false, true, false, TC, by rw [e1, e2] at hk; exact hk⟩) (fun e1 e2 => ⟨false, false, true, TM, by rw [e1, e2] at hk; exact hk⟩)
    exact ⟨l1, fun z => (l2 z).elim⟩
  | ok _ _ _ => exact absurd rfl hdn
end
end TSgL11
/-! SgGrow3: the law's own stages are the growth's. Plain Lean. -/
section TSgGrow3
set_option maxHeartbeats 4000000
open PySem
section
variable {R : Rul} {g0 : Str} {a b A both o N : List Row} {L LA : List Nm} {js : List Jn}
theorem closed_congr (h : ∀ r, r ∈ a ↔ r ∈ b) (c : Closed g0 a) : Closed g0 b := fun r hr => by
  rcases c r ((h r).mpr hr) with z | z | ⟨q, hq, z⟩
  · exact .inl z
  · exact .inr (.inl z)
  · exact .inr (.inr ⟨q, (h q).mp hq, z⟩)
theorem bef_congr (h : ∀ r, r ∈ a ↔ r ∈ b) {n n' : Nm} (c : Bef R g0 a n n') : Bef R g0 b n n' := by
  obtain ⟨x, y, h1, h2, h3⟩ := c
  exact ⟨x, y, h1.mono fun r hr => (h r).mp hr, h2.mono fun r hr => (h r).mp hr, h3⟩
theorem named_congr (h : ∀ r, r ∈ a ↔ r ∈ b) {n : Nm} : Named g0 a n ↔ Named g0 b n := by
  constructor
  · rintro (z | ⟨r, hr, z⟩)
    · exact .inl z
    · exact .inr ⟨r, (h r).mp hr, z⟩
  · rintro (z | ⟨r, hr, z⟩)
    · exact .inl z
    · exact .inr ⟨r, (h r).mpr hr, z⟩
theorem isLine_congr (h : ∀ r, r ∈ a ↔ r ∈ b) (c : IsLine R g0 a L) : IsLine R g0 b L := by
  obtain ⟨l, h1, h2⟩ := c.ex
  exact ⟨l, ⟨h1.srt.imp fun z => bef_congr h z, fun n => (h1.mem n).trans (named_congr h)⟩, h2⟩
theorem word_congr (u : Uniq b) (h : ∀ r, r ∈ a ↔ r ∈ b) (c : IsLine R g0 a L) : word g0 a L = word g0 b L := (word_sub u (fun r hr => (h r).mp hr) fun n hn => (c.mem n).mp hn).symm
theorem GrowS.uN (h : GrowS g0 A both o) (i : Nat) : Uniq (A ++ (newR A o).take i) := by
  have hm : ∀ r ∈ A ++ (newR A o).take i, r ∈ both := fun r hr => by
    rcases List.mem_append.mp hr with hr | hr
    · exact h.sub r hr
    · exact (h.ord.mem r).mp (mem_newR.mp (List.mem_of_mem_take hr)).1
  exact fun x hx y hy => h.u x (hm x hx) y (hm y hy)
theorem stW_len {w0 : Str} {n : Nat} : (stW w0 js n).length = n + 1 := by simp [stW]
theorem stW_at {w0 : Str} {n i : Nat} (hi : i ≤ n) : (stW w0 js n)[i]? = some (endOf w0 (js.take i)) := by
  unfold stW
  rw [List.getElem?_map, List.getElem?_range (by omega)]
  rfl
theorem stages_eq (hS : GrowS g0 A both o) (hw : R.whole = true) (hLA : IsLine R g0 A LA) (hj : Jrel R g0 A (newR A o) js) {ws : List Str} (hl : ws.length = (newR A o).length + 1)
    (hws : ∀ i, i ≤ (newR A o).length → ∃ L, IsLine R g0 (A ++ (newR A o).take i) L ∧ ws[i]? = some (word g0 (A ++ (newR A o).take i) L)) : ws = stW (word g0 A LA) js js.length := by
  refine List.ext_getElem? fun i => ?_
  by_cases hi : i ≤ (newR A o).length
  · obtain ⟨L, h1, h2⟩ := hws i hi
    obtain ⟨L', h3, h4⟩ := hS.words hw hLA hj i hi
    rw [h2, stW_at (by rw [hj.1]; exact hi), h4, h1.uniq (hS.uN i) h3]
  · rw [List.getElem?_eq_none (by omega), List.getElem?_eq_none (by rw [stW_len, hj.1]; omega)]
theorem jrel_uniq {js' : List Jn} (hu : ∀ i, Uniq (A ++ N.take i)) (h : Jrel R g0 A N js) (h' : Jrel R g0 A N js') : js = js' := by
  refine List.ext_getElem? fun i => ?_
  by_cases hi : i < N.length
  · obtain ⟨r, hr⟩ : ∃ r, N[i]? = some r := ⟨_, List.getElem?_eq_getElem hi⟩
    obtain ⟨L1, h1, h2⟩ := h.2 i r hr
    obtain ⟨L2, h3, h4⟩ := h'.2 i r hr
    rw [h2, h4, h1.uniq (hu _) h3]
  · rw [List.getElem?_eq_none (by rw [h.1]; omega), List.getElem?_eq_none (by rw [h'.1]; omega)]
end
end TSgGrow3
/-! SgL12: _law_grows. -/
section TSgL12
set_option maxHeartbeats 4000000
open PySem PySem.Spec PyProof.Rows L2
theorem newR_not {A o : List Row} : (o.filter fun r => !decide (r ∈ A)) = newR A o := by
  unfold newR
  refine List.filter_congr fun r _ => ?_
  by_cases h : r ∈ A <;> simp [h]
structure GrowR (P : Program) (w : World) (K : PySem.W.Frag) (mg : Str → Option Value) (base : Heap) (C : Addr) : Prop where
  ok : ∃ p g fd ps, PropOf K C "row" p g ∧ FnOk P w K mg base (L2.CX P w) 1 g fd ps (spD K w (FS_Growth_row C)) ∧ Binds K fd ps []
theorem word_join {g0 : Str} {rows : List Row} {L : List Nm} : Txt.join ("" : Str) (L.map fun n => (⟨#[chN g0 rows n]⟩ : Str)) = word g0 rows L := by
  have := join_ofL (L.map (chN g0 rows))
  rw [List.map_map] at this
  exact this
theorem one_sum {α : Type} (f : α → Nat) : ∀ l : List α, ((l.map fun n => (⟨#[f n]⟩ : Str)).map (·.length)).sum = l.length
  | [] => rfl
  | a :: l => by
    rw [List.map_cons, List.map_cons, List.sum_cons, one_sum f l, List.length_cons]
    show 1 + l.length = l.length + 1
    omega
theorem line_len {R : Rul} {g0 : Str} {rows : List Row} {L : List Nm} (hg : ∀ r ∈ rows, Good r) (h0 : g0.length ≤ 100) (hz : rows.length ≤ 1000) (u : Uniq rows) (h : IsLine R g0 rows L) : L.length ≤ 10100 := by
  have h1 := nodup_len (h.nodup u) fun a ha => mem_allN.mpr ((h.mem a).mp ha)
  have h2 := allN_len (g0 := g0) hg
  omega
theorem dok_nm {n : Nat} (a : Nm) : Dok (n + 2) (nmD a) := by
  refine ⟨(show (2 : Nat) ≤ 100000 by decide), fun e he => ?_⟩
  rcases List.mem_cons.mp he with rfl | he
  · cases a.1 with
    | none => trivial
    | some q =>
      refine ⟨(show (2 : Nat) ≤ 100000 by decide), fun e he => ?_⟩
      rcases List.mem_cons.mp he with rfl | he
      · cases n <;> trivial
      · rw [List.mem_singleton.mp he]; cases n <;> trivial
  · rw [List.mem_singleton.mp he]; trivial
theorem dok_row {r : Row} (g : Good r) : Dok 3 (rowD r) := by
  refine ⟨(show (4 : Nat) ≤ 100000 by decide), fun e he => ?_⟩
  have hl := g.len
  rcases List.mem_cons.mp he with rfl | he
  · trivial
  rcases List.mem_cons.mp he with rfl | he
  · refine ⟨by rw [List.length_map]; omega, fun e he => ?_⟩
    obtain ⟨i, _, rfl⟩ := List.mem_map.mp he
    trivial
  rcases List.mem_cons.mp he with rfl | he
  · trivial
  · rw [List.mem_singleton.mp he]; exact dok_nm (n := 0) r.anchor
theorem dok_rows {l : List Row} (g : ∀ r ∈ l, Good r) (hz : l.length ≤ 1000) : Dok 4 (rowsD l) := by
  refine ⟨by rw [List.length_map]; omega, fun e he => ?_⟩
  obtain ⟨r, hr, rfl⟩ := List.mem_map.mp he
  exact dok_row (g r hr)
theorem dok_strs {l : List Str} (hz : l.length ≤ 100000) : Dok 4 (.lst (l.map D.str)) := by
  refine ⟨by rw [List.length_map]; exact hz, fun e he => ?_⟩
  obtain ⟨r, _, rfl⟩ := List.mem_map.mp he
  trivial
theorem dok_grow {w0 : Str} {js : List Jn} (hz : js.length ≤ 1000) : Dok 4 (.tup [.str w0, .tup (js.map jD)]) := by
  refine ⟨(show (2 : Nat) ≤ 100000 by decide), fun e he => ?_⟩
  rcases List.mem_cons.mp he with rfl | he
  · trivial
  rw [List.mem_singleton.mp he]
  refine ⟨by rw [List.length_map]; omega, fun e he => ?_⟩
  obtain ⟨j, _, rfl⟩ := List.mem_map.mp he
  refine ⟨(show (2 : Nat) ≤ 100000 by decide), fun e he => ?_⟩
  rcases List.mem_cons.mp he with rfl | he
  · trivial
  · rw [List.mem_singleton.mp he]; trivial
section
variable {P : Program} {w : World} {K : PySem.W.Frag} {mg : Str → Option Value} {base : Heap} {f C CR CG CE XC XM XG : Addr} {fd : FuncData}
def FS_law_grows : FSpec := fun ds m k x => ∃ (R : Rul) (g0 : Str) (A Bs : List Row), ds = [wordsD R, .str g0, rowsD A, rowsD Bs] ∧ LayP g0 A ∧ LayP g0 (A ++ Bs) ∧ A.length + Bs.length ≤ 100 ∧ R.whole = true ∧ LayOk g0 A ∧ LayOk g0 (A ++ Bs) ∧ k (.bl true) m
theorem fn_law_grows (F : F_law_grows K f fd) (gm : mg "_law_grows" = some (.ref f)) (fr : Free mg) (L : CallF K mg C) (LR : RuleF K mg CR) (LG : GrowF K mg CG) (MR : RuleM P w K mg base CR) (GG : GrowG P w K mg base CG) (GR : GrowR P w K mg base CG)
    (C1 : Fn P w K mg base 1 "_law_once" FS_law_once) (C2 : Fn P w K mg base 2 "_law_by_stamps" FS_law_by_stamps) (C3 : Fn P w K mg base 3 "_law_layout" FS_law_layout) (C4 : Fn P w K mg base 2 "_law_sign" FS_law_sign) (C5 : Fn P w K mg base 1 "_law_key" FS_law_key)
    (C6 : Fn P w K mg base 5 "_law_calls" (FS_law_calls C)) (C7 : Fn P w K mg base 7 "growth_from" (FS_growth_from C CR CG XC XM XG)) (C8 : Fn P w K mg base 5 "_law_same" (FS_law_same 4)) : Fn P w K mg base 8 "_law_grows" FS_law_grows := by
  refine fn_def F sc_law_grows gm (bs_law_grows F) (fun ds m k x ⟨_, _, _, _, e, _⟩ => by rw [e]; rfl) ?_
  rintro cdv A0 outer s H E B ds m k x ⟨R, g0, A, Bs, rfl, hpA, hpB, hz, hW, hA, hB, hk⟩
  have hu := B.room.un
  have hg0 := hpA.g0
  have hzA : A.length ≤ 100 := by omega
  obtain ⟨o, hord⟩ := ord_ex hB.nc.uniq hpB.g
  have hS : GrowS g0 A (A ++ Bs) o := ⟨hB.nc.uniq, hpB.g, fun r hr => List.mem_append_left _ hr, hord, hB.ok o hord, hA.closed hpA.g⟩
  have hzo : o.length ≤ 100 := Nat.le_trans (nodup_len hord.nodup fun r hr => (hord.mem r).mp hr) (by rw [List.length_append]; exact hz)
  have hzN : (newR A o).length ≤ 100 := Nat.le_trans (List.length_filter_le _ _) hzo
  have hgN : ∀ r ∈ newR A o, Good r := fun r hr => hpB.g r ((hord.mem r).mp (mem_newR.mp hr).1)
  walk_at "sg1"; walk_at "sg1"
  refine ec_call C1 (B.room.mono (by decide)) ?_
  walk_at "sg"
  refine ⟨A, rfl, hpA.g, hpA.z, fun A1 hn1 hm1 => ?_⟩
  have hzA1 : A1.length ≤ 100 := Nat.le_trans (nodup_len hn1 fun r hr => (hm1 r).mp hr) hzA
  have hgA1 : ∀ r ∈ A1, Good r := fun r hr => hpA.g r ((hm1 r).mp hr)
  -- the rest
  refine sd_cons (ss_lc (own := [("_law_row", 9)]) (i := 5) (n := "_law_rest") (.nm 9) B.calm B.nd (blk_ok (N := N_law_grows) (sc := defScope S_law_grows) (by decide +kernel)) (fun s H C cl fp => pg_name sc_law_grows.nd rfl (Or.inl rfl)) (show (9 : Nat) < 16 by decide) (List.mem_cons_self) ?_)
  refine sc_lst (ec_call C2 (B.room.mono (by decide)) ?_)
  refine ecs_cons (ec_call C1 (B.room.mono (by decide)) ?_)
  walk_at "sg"
  refine oc_cat (.imm _ _) (.imm _ _) (by rw [List.length_map, List.length_map]; exact Nat.le_trans hz (by decide)) ?_
  rw [← List.map_append]
  walk_at "sg"
  refine ⟨A ++ Bs, rfl, hpB.g, hpB.z, fun B1 hnB hmB => ?_⟩
  walk_at "sg"
  have hord1 : Ord B1 o := ⟨hord.srt, fun r => (hord.mem r).trans (hmB r).symm⟩
  refine ⟨B1, o, rfl, fun r hr => hpB.g r ((hmB r).mp hr), hnB, fun a ha b hb e => hS.u a ((hmB a).mp ha) b ((hmB b).mp hb) e, Nat.le_trans (nodup_len hnB fun r hr => (hmB r).mp hr) hpB.z, hord1, ?_⟩
  refine ⟨_, rfl, ?_⟩
  refine lck_if (α := Row) (xs := o) (enc := rowD) (gx := rowD) (t := fun r => !decide (r ∈ A)) (Nat.le_trans hzo (by decide)) trivial (fun q hq acc => ⟨_, rfl, fun p => ⟨fun s2 H2 C2' cl2 fp2 => ?_, fun _ s2 H2 C2' cl2 fp2 => ?_⟩⟩) ?_
  · have gq : Good q := hpB.g q ((hord.mem q).mp hq)
    refine et_cmp ?_
    walk_at "sg"
    have hu2 : A0.units + 3 + 16 * 7 + 200 < cLine := hu
    refine oc_notin (ds := A.map rowD) (show A0.units + 3 + 65 < cLine by omega) (.imm _ _) (rowD_sh gq) (rowsD_sh hpA.g) ?_
    rw [rows_any]
    exact ⟨_, rfl, rfl, rfl⟩
  · walk_at "sg1"
    exact ⟨rfl, rfl⟩
  rw [newR_not]
  -- the line, the row at the start
  walk_at "sg1"; walk_at "sg1"
  refine ec_call C3 (B.room.mono (by decide)) ?_
  walk_at "sg"
  refine ic_tup (d := .str (sideS R)) (at_nat (by decide) rfl) ?_
  walk_at "sg"
  refine ic_tup (d := .str (orderS R)) (at_nat (by decide) rfl) ?_
  walk_at "sg"
  refine ic_tup (d := .str (linkS R)) (at_nat (by decide) rfl) ?_
  walk_at "sg"
  have huA1 : Uniq A1 := fun a ha b hb e => hA.nc.uniq a ((hm1 a).mp ha) b ((hm1 b).mp hb) e
  refine ⟨R, g0, A1, rfl, ⟨hg0, hgA1, by omega⟩, hn1, huA1, closed_congr (fun r => (hm1 r).symm) hS.cA, fun L1 hL1 => ?_⟩
  have hLA : IsLine R g0 A L1 := isLine_congr hm1 hL1
  have hl1 := line_len hgA1 hg0 (by omega) huA1 hL1
  walk_at "sg1"; walk_at "sg1"
  refine ec_lstM (ecs_cons (ec_join ?_))
  refine ec_lc (own := [("_law_named", 15)]) (.nm 15) B.calm B.nd (blk_ok (N := N_law_grows) (sc := defScope S_law_grows) (by decide +kernel)) (fun s H C cl fp => pg_name sc_law_grows.nd rfl (Or.inl rfl)) (show (15 : Nat) < 16 by decide) (List.mem_cons_self) ?_
  refine sc_lst ?_
  walk_at "sg1"
  refine ⟨_, rfl, ?_⟩
  refine lck_map (α := Nm) (xs := L1) (enc := nmD) (gx := fun n => .str ⟨#[chN g0 A1 n]⟩) (by omega) trivial (fun n hn acc => ⟨_, rfl, fun p s2 H2 C2' cl2 fp2 => ?_⟩) ?_
  · refine ec_call C4 (by exact B.room.mono (by decide)) ?_
    walk_at "sg"
    exact ⟨g0, A1, n, rfl, hgA1, hg0, by omega, huA1, (hL1.mem n).mp hn, rfl, rfl⟩
  refine ⟨L1.map fun n => (⟨#[chN g0 A1 n]⟩ : Str), by rw [List.map_map]; exact .imm _ _, ?_, ?_⟩
  · have e0 : ("" : Str).length = 0 := by decide +kernel
    rw [one_sum, List.length_map, e0]
    omega
  rw [word_join, word_congr hA.nc.uniq hm1 hL1]
  walk_at "sg"
  refine ⟨(show (1 : Nat) ≤ 1000 by decide), fun pw => ?_⟩
  walk_at "sg1"; walk_at "sg1"
  refine ec_lstM (ecs_nil ⟨by decide, fun pd => ?_⟩)
  let N := newR A o
  refine sd_cons (ss_forT (.nm 9) B (pg_name B.nd rfl (Or.inl rfl)) (show (9 : Nat) < 16 by decide) ?_)
  refine sc_lst ?_
  walk_at "sg1"
  refine ⟨_, rfl, Row, newR A o, rowD, fun pre es' m' => ∃ (ws : List Str) (js : List Jn) (o6 o9 o15 : Option D), es' = [some (wordsD R), some (.str g0), some (rowsD A), some (rowsD Bs), some (rowsD (A1 ++ pre)), some (rowsD (newR A o)), o6, some (.raw (.ref pw)), some (.raw (.ref pd)), o9, none, none, none, none, none, o15] ∧ m' = (pd, .lst (js.map jD)) :: (pw, .lst (ws.map D.str)) :: m ∧ Jrel R g0 A pre js ∧ ws.length = pre.length + 1 ∧
    (∀ i, i ≤ pre.length → ∃ L, IsLine R g0 (A ++ pre.take i) L ∧ ws[i]? = some (word g0 (A ++ pre.take i) L)), rfl, ⟨[word g0 A L1], [], _, _, _, by rw [List.append_nil]; rfl, rfl, jrel_nil, rfl, fun i hi => ⟨L1, by rw [List.take_nil, List.append_nil]; exact hLA, by have : i = 0 := Nat.le_zero.mp hi; rw [this, List.take_nil, List.append_nil]; rfl⟩⟩, fun _ _ _ _ => trivial, ?_, ?_⟩
  · rintro pre c post es' m' hxs ⟨ws, js, o6, o9, o15, rfl, rfl, hj, hwl, hws⟩
    have hlen : (newR A o).length = pre.length + (post.length + 1) := by rw [hxs, List.length_append, List.length_cons]
    have hic : (newR A o)[pre.length]? = some c := by rw [hxs, List.getElem?_append_right (Nat.le_refl _), Nat.sub_self]; rfl
    have htk : (newR A o).take pre.length = pre := by rw [hxs]; simp
    obtain ⟨hlate, _, hcb⟩ := hS.at hW hic
    rw [htk] at hlate
    have gc := hpB.g c hcb
    have hjl : js.length ≤ 100 := by rw [hj.1]; omega
    have hm2 : ∀ r, r ∈ A1 ++ (pre ++ [c]) ↔ r ∈ A ++ pre ++ [c] := fun r => by
      simp only [List.mem_append, hm1 r, or_assoc]
    have hg2 : ∀ r ∈ A1 ++ (pre ++ [c]), Good r := fun r hr => hlate.g r ((hm2 r).mp hr)
    have hu2 : Uniq (A1 ++ (pre ++ [c])) := fun a ha b hb e => hlate.u a ((hm2 a).mp ha) b ((hm2 b).mp hb) e
    have hpn : ∀ r ∈ pre, r ∈ newR A o := fun r hr => by rw [hxs]; simp [hr]
    have hnd2 : (A1 ++ (pre ++ [c])).Nodup := by
      have hnN : (newR A o).Nodup := hord.nodup.filter _
      have hnp : (pre ++ [c]).Nodup := by
        rw [hxs] at hnN
        have e : pre ++ c :: post = (pre ++ [c]) ++ post := by simp
        rw [e] at hnN
        exact (List.nodup_append.mp hnN).1
      rw [List.nodup_append]
      refine ⟨hn1, hnp, fun a ha b hb e => ?_⟩
      subst e
      have h1 := (hm1 a).mp ha
      rcases List.mem_append.mp hb with hb | hb
      · exact (mem_newR.mp (hpn a hb)).2 h1
      · rw [List.mem_singleton] at hb
        rw [hb] at h1
        exact (mem_newR.mp (List.mem_of_getElem? hic)).2 h1
    have hz2 : (A1 ++ (pre ++ [c])).length ≤ 1000 := by rw [List.length_append, List.length_append, List.length_singleton]; omega
    refine ⟨_, rfl, ?_⟩
    walk_at "sg"
    refine ec_lst ?_
    walk_at "sg"
    refine ⟨(show (1 : Nat) ≤ 1000 by decide), ?_⟩
    refine oc_cat (.imm _ _) (.imm _ _) (by rw [List.length_map, List.length_append]; exact Nat.le_trans (show _ + 1 ≤ 1000 by omega) (by decide)) ?_
    rw [show (A1 ++ pre).map rowD ++ [rowD c] = (A1 ++ (pre ++ [c])).map rowD by simp]
    walk_at "sg1"; walk_at "sg1"
    refine ec_call C3 (B.room.mono (by decide)) ?_
    walk_at "sg"
    refine ic_tup (d := .str (sideS R)) (at_nat (by decide) rfl) ?_
    walk_at "sg"
    refine ic_tup (d := .str (orderS R)) (at_nat (by decide) rfl) ?_
    walk_at "sg"
    refine ic_tup (d := .str (linkS R)) (at_nat (by decide) rfl) ?_
    walk_at "sg"
    refine ⟨R, g0, A1 ++ (pre ++ [c]), rfl, ⟨hg0, hg2, hz2⟩, hnd2, hu2, closed_congr (fun r => (hm2 r).symm) hlate.c1, fun L2 hL2 => ?_⟩
    have hl2 := line_len hg2 hg0 hz2 hu2 hL2
    have hLA2 : IsLine R g0 (A ++ (pre ++ [c])) L2 := by rw [← List.append_assoc]; exact isLine_congr hm2 hL2
    have hmem : ((some c.key, 1) : Nm) ∈ L2 := (hL2.mem _).mpr (.inr ⟨c, by simp, mem_signs.mpr ⟨rfl, Int.le_refl 1, by have := gc.g0; show (1 : Int) ≤ _; omega⟩⟩)
    refine sd_cons (ss_expr (ec_append ?_))
    walk_at "sg1"
    refine ⟨RecvD.raw (j := 0) rfl, ?_⟩
    refine ec_tup (ecs_cons (ec_index (by omega) ?_))
    walk_at "sg1"
    refine ⟨(LstD.imm _ _).recv, ?_⟩
    walk_at "sg"
    refine ec_call C5 (B.room.mono (by decide)) ?_
    walk_at "sg"
    refine ⟨c, rfl, gc.w0, gc.w1, ?_⟩
    walk_at "sg"
    refine ⟨(show (2 : Nat) ≤ 1000 by decide), ?_⟩
    refine ⟨_, L2.idxOf (some c.key, 1), (nmD (some c.key, 1)).py, .imm _ _, nmsD_sh L2, (nmD_sn (n := 0) (a := (some c.key, 1))).sh (by decide), pyL_get ?_, ?_, ?_, ?_⟩
    · have := List.idxOf_lt_length_iff.mpr hmem
      rw [List.getElem?_eq_getElem this, List.getElem_idxOf this]
    · exact (nm_eqv (some c.key, 1) (some c.key, 1)).trans (decide_eq_true rfl)
    · intro i z hi hz
      have hlt : i < L2.length := Nat.lt_trans hi (List.idxOf_lt_length_iff.mpr hmem)
      rw [pyL_get (List.getElem?_eq_getElem hlt)] at hz
      cases hz
      refine (nm_eqv _ (some c.key, 1)).trans (decide_eq_false fun e => ?_)
      exact absurd (idx_first hlt e) (by omega)
    walk_at "sg"
    refine ix_row (v := .str c.group) (by rfl) ?_
    walk_at "sg"
    refine ⟨(show (2 : Nat) ≤ 1000 by decide), pd, 0, _, rfl, rfl, by rw [List.length_map]; exact Nat.le_trans (by omega : _ ≤ 1000) (by decide), ?_⟩
    rw [show js.map jD ++ [D.tup [D.int ((L2.idxOf ((some c.key, 1) : Nm) : Nat) : Int), D.str c.group]] = (js ++ [(((L2.idxOf ((some c.key, 1) : Nm) : Nat) : Int), c.group)]).map jD by rw [List.map_append]; rfl]
    refine sd_one (ss_expr (ec_append ?_))
    walk_at "sg1"
    refine ⟨RecvD.raw (j := 1) rfl, ?_⟩
    refine ec_join ?_
    refine ec_lc (own := [("_law_named", 15)]) (.nm 15) B.calm B.nd (blk_ok (N := N_law_grows) (sc := defScope S_law_grows) (by decide +kernel)) (fun s H C cl fp => pg_name sc_law_grows.nd rfl (Or.inl rfl)) (show (15 : Nat) < 16 by decide) (List.mem_cons_self) ?_
    refine sc_lst ?_
    walk_at "sg1"
    refine ⟨_, rfl, ?_⟩
    refine lck_map (α := Nm) (xs := L2) (enc := nmD) (gx := fun n => .str ⟨#[chN g0 (A1 ++ (pre ++ [c])) n]⟩) (by omega) trivial (fun n hn acc => ⟨_, rfl, fun p s2 H2 C2' cl2 fp2 => ?_⟩) ?_
    · refine ec_call C4 (by exact B.room.mono (by decide)) ?_
      walk_at "sg"
      exact ⟨g0, A1 ++ (pre ++ [c]), n, rfl, hg2, hg0, hz2, hu2, (hL2.mem n).mp hn, rfl, rfl⟩
    refine ⟨L2.map fun n => (⟨#[chN g0 (A1 ++ (pre ++ [c])) n]⟩ : Str), by rw [List.map_map]; exact .imm _ _, ?_, ?_⟩
    · have e0 : ("" : Str).length = 0 := by decide +kernel
      rw [one_sum, List.length_map, e0]
      omega
    rw [word_join, word_congr hlate.u hm2 hL2]
    refine ⟨pw, 1, _, rfl, rfl, by rw [List.length_map]; exact Nat.le_trans (by omega : _ ≤ 1000) (by decide), ?_⟩
    refine ⟨ws ++ [word g0 (A ++ pre ++ [c]) L2], js ++ [(((L2.idxOf ((some c.key, 1) : Nm) : Nat) : Int), c.group)], _, _, _, rfl, by simp only [List.map_append]; rfl, jrel_snoc hj hLA2, by rw [List.length_append, List.length_append, hwl]; rfl, fun i hi => ?_⟩
    rw [List.length_append, List.length_singleton] at hi
    by_cases hip : i ≤ pre.length
    · obtain ⟨L, h1, h2⟩ := hws i hip
      refine ⟨L, by rw [List.take_append_of_le_length hip]; exact h1, ?_⟩
      rw [List.getElem?_append_left (by omega), List.take_append_of_le_length hip]
      exact h2
    · have ei : i = pre.length + 1 := by omega
      refine ⟨L2, by rw [ei, List.take_of_length_le (by simp)]; exact hLA2, ?_⟩
      rw [ei, List.getElem?_append_right (by omega), hwl, Nat.sub_self, List.take_of_length_le (by simp), ← List.append_assoc]
      rfl
  · rintro es' m' ⟨ws, js, o6, o9, o15, rfl, rfl, hj, hwl, hws⟩
    have ews := stages_eq hS hW hLA hj hwl hws
    have hjz : js.length ≤ 100 := by rw [hj.1]; exact hzN
    have hw0 : (word g0 A L1).length ≤ 10100 := by rw [word_len]; exact hl1
    have hjok : JOk (word g0 A L1) js := hS.jok hW hLA hj
    subst ews
    obtain ⟨fR, fdR, psR, MK, FR, hbR⟩ := MR.ok
    obtain ⟨pp, gg, fdg, psg, hPr, FGr, hbg⟩ := GR.ok
    have hgBs : ∀ r ∈ Bs, Good r := fun r hr => hpB.g r (List.mem_append_right _ hr)
    have hzBs : Bs.length ≤ 100 := by omega
    refine SD.freeze 0 8 rfl rfl ?_
    refine SD.freeze 0 7 rfl rfl ?_
    walk_at "sg1"; walk_at "sg1"
    refine ec_make MK FR (B.room.mono (by decide)) LR.gm hbR ?_
    walk_at "sg"
    refine ic_tup (d := .str (sideS R)) (at_nat (by decide) rfl) ?_
    walk_at "sg"
    refine ic_tup (d := .str (orderS R)) (at_nat (by decide) rfl) ?_
    walk_at "sg"
    refine ic_tup (d := .str (linkS R)) (at_nat (by decide) rfl) ?_
    walk_at "sg"
    intro pR
    refine ⟨pR, R, _, rfl, rfl, rfl, _, _, rfl, ?_⟩
    walk_at "sg1"; walk_at "sg1"
    refine ec_call C6 (B.room.mono (by decide)) ?_
    walk_at "sg"
    refine ⟨A, rfl, hpA.g, by omega, ?_⟩
    walk_at "sg1"; walk_at "sg1"
    refine ec_call C6 (B.room.mono (by decide)) ?_
    walk_at "sg"
    refine ⟨Bs, rfl, hgBs, by omega, ?_⟩
    walk_at "sg1"; walk_at "sg1"
    refine ec_call C7 B.room ?_
    walk_at "sg"
    refine ⟨R, g0, A, Bs, rfl, hpA, hpB, fun z => (by rw [hW] at z; cases z), fun _ => ⟨hA.x, fun _ => ⟨hB.x, fun _ o' L' js' ho' hL' hj' => ?_⟩⟩⟩
    have eo := ho'.uniq hord
    subst eo
    have eL := hL'.uniq hA.nc.uniq hLA
    subst eL
    have ej := jrel_uniq hS.uN hj' hj
    subst ej
    walk_at "sg1"; walk_at "sg1"
    refine EW.et (ew_or (et_not (et_val ?_)))
    walk_at "sg"
    refine ec_glob (v := .ref CG) LG.gm rfl (fun _ => .raw _) ?_
    walk_at "sg"
    refine cc_isaC (LG.c.ty _) kit_same ?_
    walk_at "sgi"
    walk_at "sgi"
    refine ew_or1 (et_not (et_val (ec_call C8 (B.room.mono (by decide)) ?_)))
    walk_at "sg"
    refine ec_fld ?_
    walk_at "sg"
    refine ⟨CG, _, _, rfl, LG.c.cl, LG.na _ (by walk_at "sgm"), rfl, ?_⟩
    walk_at "sg1"
    refine ec_fld ?_
    walk_at "sg"
    refine ⟨CG, _, _, rfl, LG.c.cl, LG.na _ (by walk_at "sgm"), rfl, ?_⟩
    walk_at "sg"
    refine ⟨(show (2 : Nat) ≤ 1000 by decide), ?_⟩
    walk_at "sg"
    refine ic_lst (d := .str (word g0 A L')) (at_nat (by decide) (by rw [List.getElem?_map]; exact congrArg (Option.map D.str) (stW_at (Nat.zero_le _)))) ?_
    walk_at "sg"
    refine cc_tuple (.imm _ _) ?_
    walk_at "sg"
    refine ⟨(show (2 : Nat) ≤ 1000 by decide), ?_⟩
    walk_at "sg"
    refine ⟨_, rfl, dok_grow (by omega), ⟨true, rfl, ?_⟩⟩
    walk_at "sgi"
    refine sd_nil ?_
    walk_at "sg1"; walk_at "sg1"
    refine EW.et (ew_or (et_not (et_val (ec_call C8 (B.room.mono (by decide)) ?_))))
    refine ecs_cons (ec_prop LG.c.cl hPr FGr (B.room.mono (by decide)) hbg ?_)
    walk_at "sg1"
    refine ⟨_, rfl, word g0 A L', js', rfl, ?_⟩
    walk_at "sg"
    have hlast : atI ((stW (word g0 A L') js' js'.length).map D.str) (-1) = some (.str (endOf (word g0 A L') js')) := by
      unfold atI L2.ixN
      rw [List.length_map, stW_len, if_neg (by decide), if_pos (by omega)]
      show ((stW (word g0 A L') js' js'.length).map D.str)[(-1 + ((js'.length + 1 : Nat) : Int)).toNat]? = _
      have e : (-1 + ((js'.length + 1 : Nat) : Int)).toNat = js'.length := by omega
      rw [e, List.getElem?_map, stW_at (Nat.le_refl _), List.take_length]
      rfl
    refine ic_lst hlast ?_
    walk_at "sg"
    refine ⟨_, rfl, trivial, ⟨true, rfl, ?_⟩⟩
    walk_at "sgi"
    refine ew_or1 (et_not (et_val (ec_call C8 (B.room.mono (by decide)) ?_)))
    refine ecs_cons (ec_stages GG LG.c.cl (B.room.mono (by decide)) fr.list ?_)
    walk_at "sg1"
    refine ⟨word g0 A L', js', rfl, hjok, by omega, by omega, ?_⟩
    walk_at "sg"
    refine ⟨_, rfl, dok_strs (by rw [stW_len]; omega), ⟨true, rfl, ?_⟩⟩
    walk_at "sgi"
    refine sd_nil ?_
    walk_at "sg1"; walk_at "sg1"
    refine et_not (et_val (ec_call C8 (B.room.mono (by decide)) ?_))
    refine ecs_cons (ec_lc (own := [("_law_call", 14)]) (.nm 14) B.calm B.nd (blk_ok (N := N_law_grows) (sc := defScope S_law_grows) (by decide +kernel)) (fun s H C cl fp => pg_name sc_law_grows.nd rfl (Or.inl rfl)) (show (14 : Nat) < 16 by decide) (List.mem_cons_self) ?_)
    refine sc_lst ?_
    walk_at "sg1"
    refine ⟨_, rfl, ?_⟩
    refine lck_map (α := Row) (xs := A) (enc := callD C) (gx := rowD) (by omega) trivial (fun r hr acc => ⟨_, rfl, fun p s2 H2 C2' cl2 fp2 => ?_⟩) ?_
    · walk_at "sg1"; walk_at "sg1"
      refine ec_cfv (i := 14) L rfl (by walk_at "sgm") rfl ?_
      walk_at "sg1"
      refine ec_cfv (i := 14) L rfl (by walk_at "sgm") rfl ?_
      walk_at "sg1"
      refine ec_cfv (i := 14) L rfl (by walk_at "sgm") rfl ?_
      walk_at "sg1"
      refine ec_cfv (i := 14) L rfl (by walk_at "sgm") rfl ?_
      walk_at "sg"
      exact ⟨(show (4 : Nat) ≤ 1000 by decide), rfl, rfl⟩
    walk_at "sg"
    refine cc_list (.inl (.imm _ _)) ?_
    walk_at "sg"
    refine ⟨_, rfl, dok_rows hpA.g hpA.z, ⟨true, rfl, ?_⟩⟩
    walk_at "sgi"
    refine sd_nil (sd_one (ss_ret (ec_call C8 (B.room.mono (by decide)) ?_)))
    refine ecs_cons (ec_lc (own := [("_law_call", 14)]) (.nm 14) B.calm B.nd (blk_ok (N := N_law_grows) (sc := defScope S_law_grows) (by decide +kernel)) (fun s H C cl fp => pg_name sc_law_grows.nd rfl (Or.inl rfl)) (show (14 : Nat) < 16 by decide) (List.mem_cons_self) ?_)
    refine sc_lst ?_
    walk_at "sg1"
    refine ⟨_, rfl, ?_⟩
    refine lck_map (α := Row) (xs := Bs) (enc := callD C) (gx := rowD) (by omega) trivial (fun r hr acc => ⟨_, rfl, fun p s2 H2 C2' cl2 fp2 => ?_⟩) ?_
    · walk_at "sg1"; walk_at "sg1"
      refine ec_cfv (i := 14) L rfl (by walk_at "sgm") rfl ?_
      walk_at "sg1"
      refine ec_cfv (i := 14) L rfl (by walk_at "sgm") rfl ?_
      walk_at "sg1"
      refine ec_cfv (i := 14) L rfl (by walk_at "sgm") rfl ?_
      walk_at "sg1"
      refine ec_cfv (i := 14) L rfl (by walk_at "sgm") rfl ?_
      walk_at "sg"
      exact ⟨(show (4 : Nat) ≤ 1000 by decide), rfl, rfl⟩
    walk_at "sg"
    refine cc_list (.inl (.imm _ _)) ?_
    walk_at "sg"
    exact ⟨_, rfl, dok_rows hgBs (by omega), hk⟩
end
end TSgL12
/-! SgL13: _law_judged, _law_part. -/
section TSgL13
set_option maxHeartbeats 4000000
open PySem PySem.Spec PyProof.Rows L2
theorem dok_five {a b c d q : D} (ha : Dok 3 a) (hb : Dok 3 b) (hc : Dok 3 c) (hd : Dok 3 d) (hq : Dok 3 q) : Dok 4 (.tup [a, b, c, d, q]) := by
  refine ⟨(show (5 : Nat) ≤ 100000 by decide), fun e he => ?_⟩
  simp only [List.mem_cons, List.not_mem_nil, or_false] at he
  rcases he with rfl | rfl | rfl | rfl | rfl <;> assumption
theorem dok_key {n : Nat} (q : Key) : Dok (n + 1) (keyD q) := by
  refine ⟨(show (2 : Nat) ≤ 100000 by decide), fun e he => ?_⟩
  simp only [List.mem_cons, List.not_mem_nil, or_false] at he
  rcases he with rfl | rfl <;> cases n <;> trivial
theorem due_dok {g0 : Str} {rows : List Row} {a b c q : D} (h : Due g0 rows (.tup [a, b, c, q])) : Dok 3 a ∧ Dok 3 b ∧ Dok 3 c ∧ Dok 3 q := by
  cases h with
  | clash q _ => exact ⟨trivial, trivial, trivial, dok_key q⟩
  | miss o r _ _ _ => exact ⟨trivial, trivial, trivial, dok_key r.key⟩
theorem refu_dok {R : Rul} {g0 : Str} {A Bs : List Row} {d : D} (h : Refu R g0 A Bs d) : Dok 4 d := by
  cases h with
  | loose _ => exact dok_five trivial trivial trivial trivial trivial
  | fst a b c q _ hd =>
    obtain ⟨h1, h2, h3, h4⟩ := due_dok hd
    exact dok_five trivial h1 h2 trivial h4
  | snd a b c q _ _ hd =>
    obtain ⟨h1, h2, h3, h4⟩ := due_dok hd
    exact dok_five trivial h1 h2 trivial h4
  | ok _ _ _ => trivial
section
variable {P : Program} {w : World} {K : PySem.W.Frag} {mg : Str → Option Value} {base : Heap} {f C CR CG CE XC XM XG : Addr} {fd : FuncData}
def FS_law_judged : FSpec := fun ds m k x => ∃ (R : Rul) (g0 : Str) (A Bs : List Row), ds = [wordsD R, .str g0, rowsD A, rowsD Bs] ∧ LayP g0 A ∧ LayP g0 (A ++ Bs) ∧ A.length + Bs.length ≤ 100 ∧ k (.bl true) m
theorem fn_law_judged (F : F_law_judged K f fd) (gm : mg "_law_judged" = some (.ref f)) (C1 : Fn P w K mg base 4 "_law_refusal" FS_law_refusal) (C2 : Fn P w K mg base 8 "_law_grows" FS_law_grows) (C3 : Fn P w K mg base 8 "_law_told" FS_law_told) (C4 : Fn P w K mg base 5 "_law_same" (FS_law_same 4)) : Fn P w K mg base 9 "_law_judged" FS_law_judged := by
  refine fn_def F sc_law_judged gm (bs_law_judged F) (fun ds m k x ⟨_, _, _, _, e, _⟩ => by rw [e]; rfl) ?_
  rintro cdv A0 outer s H E B ds m k x ⟨R, g0, A, Bs, rfl, hpA, hpB, hz, hk⟩
  walk_at "sg1"; walk_at "sg1"
  refine ec_call C1 (B.room.mono (by decide)) ?_
  walk_at "sg"
  refine ⟨R, g0, A, Bs, rfl, hpA, hpB, hz, fun d hd => ?_⟩
  have hdok := refu_dok hd
  by_cases hn : d = .non
  · subst hn
    cases hd with
    | ok hw hA hB =>
      walk_at "sg"
      refine ec_call C2 B.room ?_
      walk_at "sg"
      exact ⟨R, g0, A, Bs, rfl, hpA, hpB, hz, hw, hA, hB, hk⟩
  · have hi : d.isNon = some false := by
      cases hd with
      | ok => exact absurd rfl hn
      | loose _ => rfl
      | fst => rfl
      | snd => rfl
    walk_at "sg1"; walk_at "sg1"
    refine et_cmp ?_
    walk_at "sg1"; walk_at "sg1"
    refine oc_is hi ?_
    walk_at "sg"
    refine ec_call C4 (B.room.mono (by decide)) ?_
    refine ecs_cons (ec_call C3 B.room ?_)
    walk_at "sg"
    refine ⟨R, g0, A, Bs, d, rfl, hpA, hpB, hd, hn, ?_⟩
    walk_at "sg"
    exact ⟨d, rfl, hdok, hk⟩
/-! ### a part's layout -/
theorem lay_congr {g0 : Str} {a b : List Row} (h : ∀ r, r ∈ a ↔ r ∈ b) (l : LayOk g0 a) : LayOk g0 b :=
  ⟨fun q ⟨x, hx, y, hy, z⟩ => l.nc q ⟨x, (h x).mpr hx, y, (h y).mpr hy, z⟩, fun o ho => l.ok o ⟨ho.srt, fun r => (ho.mem r).trans (h r).symm⟩⟩
def keysL (prt : List Row) : List (Option Key) := none :: prt.map fun r => some r.key
theorem part_iff {g0 : Str} {rows prt : List Row} (u : Uniq rows) (s : ∀ r ∈ prt, r ∈ rows) {a : Nm} (h : Named g0 rows a) : decide (a.1 ∈ keysL prt) = true ↔ Named g0 prt a := by
  rw [decide_eq_true_iff]
  unfold keysL
  rw [List.mem_cons, List.mem_map]
  rcases h with h | ⟨r, hr, h⟩
  · have e := (mem_signs.mp h).1
    exact ⟨fun _ => .inl h, fun _ => .inl e⟩
  · have e := (mem_signs.mp h).1
    rw [e]
    constructor
    · rintro (z | ⟨q, hq, z⟩)
      · cases z
      · have := u q (s q hq) r hr (Option.some.inj z)
        subst this
        exact .inr ⟨q, hq, h⟩
    · rintro (z | ⟨q, hq, z⟩)
      · rw [(mem_signs.mp z).1] at e; cases e
      · rw [(mem_signs.mp z).1] at e
        exact .inr ⟨q, hq, e⟩
theorem okd_eqv (a b : Option Key) : PyData.eqv (okd a).py (okd b).py = decide (a = b) := eqv_dec okd_nb okd_nb ⟨okd_inj, fun h => by rw [h]⟩
theorem keys_any (l : List (Option Key)) (a : Option Key) : ((D.pyL (l.map okd)).any fun z => PyData.eqv z (okd a).py) = decide (a ∈ l) := by
  rw [pyL_map, List.any_map, List.any_map]
  rw [Bool.eq_iff_iff, List.any_eq_true, decide_eq_true_iff]
  constructor
  · rintro ⟨b, hb, h⟩
    have h : PyData.eqv (okd b).py (okd a).py = true := h
    rw [okd_eqv, decide_eq_true_iff] at h
    exact h ▸ hb
  · intro h
    exact ⟨a, h, (okd_eqv a a).trans (decide_eq_true rfl)⟩
theorem dok_nms {l : List Nm} (hz : l.length ≤ 100000) : Dok 4 (nmsD l) := by
  refine ⟨by rw [List.length_map]; exact hz, fun e he => ?_⟩
  obtain ⟨n, _, rfl⟩ := List.mem_map.mp he
  exact dok_nm (n := 1) n
def FS_law_part : FSpec := fun ds m k x => ∃ (R : Rul) (g0 : Str) (rows prt : List Row), ds = [wordsD R, .str g0, rowsD rows, rowsD prt] ∧ LayP g0 rows ∧ LayOk g0 rows ∧ rows.Nodup ∧ LayOk g0 prt ∧ (∀ r ∈ prt, r ∈ rows) ∧ prt.length ≤ 100 ∧ rows.length ≤ 100 ∧ k (.bl true) m
theorem fn_law_part (F : F_law_part K f fd) (gm : mg "_law_part" = some (.ref f)) (fr : Free mg) (LR : RuleF K mg CR) (MR : RuleM P w K mg base CR) (C1 : Fn P w K mg base 1 "_law_key" FS_law_key) (C2 : Fn P w K mg base 3 "_law_layout" FS_law_layout) (C3 : Fn P w K mg base 5 "layout" (FS_layout C CR XC XM)) (C4 : Fn P w K mg base 6 "row_of" (FS_row_of C CR))
    (C5 : Fn P w K mg base 5 "_law_calls" (FS_law_calls C)) (C6 : Fn P w K mg base 2 "_law_sign" FS_law_sign) (C7 : Fn P w K mg base 5 "_law_same" (FS_law_same 4)) : Fn P w K mg base 7 "_law_part" FS_law_part := by
  refine fn_def F sc_law_part gm (bs_law_part F) (fun ds m k x ⟨_, _, _, _, e, _⟩ => by rw [e]; rfl) ?_
  rintro cdv A0 outer s H E B ds m k x ⟨R, g0, rows, prt, rfl, hp, hl, hnd, hlp, hsub, hzp, hzr, hk⟩
  have hu := B.room.un
  have hg0 := hp.g0
  have hgp : ∀ r ∈ prt, Good r := fun r hr => hp.g r (hsub r hr)
  have hpp : LayP g0 prt := ⟨hg0, hgp, by omega⟩
  obtain ⟨fR, fdR, psR, MK, FR, hbR⟩ := MR.ok
  walk_at "sg1"; walk_at "sg1"; walk_at "sg1"
  refine ec_lst ?_
  walk_at "sg"
  refine ⟨(show (1 : Nat) ≤ 1000 by decide), ?_⟩
  refine ec_lc (own := [("_law_row", 9)]) (.nm 9) B.calm B.nd (blk_ok (N := N_law_part) (sc := defScope S_law_part) (by decide +kernel)) (fun s H C cl fp => pg_name sc_law_part.nd rfl (Or.inl rfl)) (show (9 : Nat) < 10 by decide) (List.mem_cons_self) ?_
  refine sc_lst ?_
  walk_at "sg1"
  refine ⟨_, rfl, ?_⟩
  refine lck_map (α := Row) (xs := prt) (enc := rowD) (gx := fun r => keyD r.key) (by omega) trivial (fun r hr acc => ⟨_, rfl, fun p s2 H2 C2' cl2 fp2 => ?_⟩) ?_
  · have gr := hgp r hr
    refine ec_call C1 (by exact B.room.mono (by decide)) ?_
    walk_at "sg"
    exact ⟨r, rfl, gr.w0, gr.w1, rfl, rfl⟩
  refine oc_cat (.imm _ _) (.imm _ _) ?_ ?_
  · rw [List.length_map]
    exact Nat.le_trans (show 1 + prt.length ≤ 1000 by omega) (by decide)
  have ek : [D.non] ++ prt.map (fun r => keyD r.key) = (keysL prt).map okd := by
    unfold keysL
    rw [List.map_cons, List.map_map]
    rfl
  rw [ek]
  walk_at "sg1"; walk_at "sg1"
  refine ec_call C2 (B.room.mono (by decide)) ?_
  walk_at "sg"
  refine ic_tup (d := .str (sideS R)) (at_nat (by decide) rfl) ?_
  walk_at "sg"
  refine ic_tup (d := .str (orderS R)) (at_nat (by decide) rfl) ?_
  walk_at "sg"
  refine ic_tup (d := .str (linkS R)) (at_nat (by decide) rfl) ?_
  walk_at "sg"
  refine ⟨R, g0, rows, rfl, hp, hnd, hl.nc.uniq, hl.closed hp.g, fun L hL => ?_⟩
  have hll := line_len hp.g hg0 hp.z hl.nc.uniq hL
  refine sd_cons (ss_lc (own := [("_law_named", 8)]) (i := 6) (n := "_law_due_here") (.nm 8) B.calm B.nd (blk_ok (N := N_law_part) (sc := defScope S_law_part) (by decide +kernel)) (fun s H C cl fp => pg_name sc_law_part.nd rfl (Or.inl rfl)) (show (8 : Nat) < 10 by decide) (List.mem_cons_self) ?_)
  refine sc_lst ?_
  walk_at "sg1"
  refine ⟨_, rfl, ?_⟩
  refine lck_if (α := Nm) (xs := L) (enc := nmD) (gx := nmD) (t := fun a => decide (a.1 ∈ keysL prt)) (by omega) trivial (fun a ha acc => ⟨_, rfl, fun p => ⟨fun s2 H2 C2' cl2 fp2 => ?_, fun _ s2 H2 C2' cl2 fp2 => ?_⟩⟩) ?_
  · refine et_cmp (ec_ix ?_)
    walk_at "sg"
    refine ic_tup (d := okd a.1) (at_nat (by decide) rfl) ?_
    walk_at "sg"
    have hu2 : A0.units + 3 + 16 * 6 + 200 < cLine := hu
    refine oc_in (ds := (keysL prt).map okd) (show A0.units + 3 + 65 < cLine by omega) (.imm _ _) ((okd_sn (n := 0)).sh (by decide)) ((sn_lst (n := 1) (snL_map fun a _ => okd_sn)).sh (by decide)) ?_
    rw [keys_any]
    exact ⟨_, rfl, rfl, rfl⟩
  · walk_at "sg1"
    exact ⟨rfl, rfl⟩
  have hLp : IsLine R g0 prt (L.filter fun a => decide (a.1 ∈ keysL prt)) := hL.part hl.nc.uniq hp.g hsub (hlp.closed hgp) _ fun a ha => part_iff hl.nc.uniq hsub ha
  have hlf : (L.filter fun a => decide (a.1 ∈ keysL prt)).length ≤ 10100 := Nat.le_trans (List.length_filter_le _ _) hll
  generalize hLP : L.filter (fun a => decide (a.1 ∈ keysL prt)) = LP at hLp hlf
  walk_at "sg1"; walk_at "sg1"
  refine ec_make MK FR (B.room.mono (by decide)) LR.gm hbR ?_
  walk_at "sg"
  refine ic_tup (d := .str (sideS R)) (at_nat (by decide) rfl) ?_
  walk_at "sg"
  refine ic_tup (d := .str (orderS R)) (at_nat (by decide) rfl) ?_
  walk_at "sg"
  refine ic_tup (d := .str (linkS R)) (at_nat (by decide) rfl) ?_
  walk_at "sg"
  intro pR
  refine ⟨pR, R, _, rfl, rfl, rfl, _, _, rfl, ?_⟩
  walk_at "sg1"; walk_at "sg1"
  refine et_not (et_val (ec_call C7 (B.room.mono (by decide)) ?_))
  refine ecs_cons (ec_call C3 (B.room.mono (by decide)) ?_)
  walk_at "sg"
  refine ec_call C5 (B.room.mono (by decide)) ?_
  walk_at "sg"
  refine ⟨rows, rfl, hp.g, by omega, ?_⟩
  walk_at "sg"
  refine ⟨R, g0, rows, rfl, hp, fun _ L2 hL2 => ?_, hl.x⟩
  have e2 := hL2.uniq hl.nc.uniq hL
  subst e2
  walk_at "sg"
  refine ⟨_, rfl, dok_nms (by omega), ⟨true, rfl, ?_⟩⟩
  walk_at "sgi"
  refine sd_nil ?_
  walk_at "sg1"; walk_at "sg1"
  refine et_not (et_val (ec_call C7 (B.room.mono (by decide)) ?_))
  refine ecs_cons (ec_call C3 (B.room.mono (by decide)) ?_)
  walk_at "sg"
  refine ec_call C5 (B.room.mono (by decide)) ?_
  refine ecs_cons (ec_revL ?_)
  walk_at "sg1"
  refine ⟨_, .imm _ _, ?_⟩
  rw [← List.map_reverse]
  walk_at "sg"
  have hrv : ∀ r, r ∈ prt.reverse ↔ r ∈ prt := fun r => List.mem_reverse
  refine ⟨prt.reverse, rfl, fun r hr => hgp r ((hrv r).mp hr), by rw [List.length_reverse]; omega, ?_⟩
  walk_at "sg"
  refine ⟨R, g0, prt.reverse, rfl, ⟨hg0, fun r hr => hgp r ((hrv r).mp hr), by rw [List.length_reverse]; omega⟩, fun _ L3 hL3 => ?_, (lay_congr (fun r => (hrv r).symm) hlp).x⟩
  have e3 := (isLine_congr hrv hL3).uniq hlp.nc.uniq hLp
  subst e3
  walk_at "sg"
  refine ⟨_, rfl, dok_nms (by omega), ⟨true, rfl, ?_⟩⟩
  walk_at "sgi"
  refine sd_nil (sd_one (ss_ret (ec_call C7 (B.room.mono (by decide)) ?_)))
  refine ecs_cons (ec_call C4 (B.room) ?_)
  walk_at "sg"
  refine ec_call C5 (B.room.mono (by decide)) ?_
  walk_at "sg"
  refine ⟨prt, rfl, hgp, by omega, ?_⟩
  walk_at "sg"
  refine ⟨R, g0, prt, L3, rfl, hpp, hlp, hLp, ?_⟩
  refine ecs_cons (ec_join ?_)
  refine ec_lc (own := [("_law_named", 8)]) (.nm 8) B.calm B.nd (blk_ok (N := N_law_part) (sc := defScope S_law_part) (by decide +kernel)) (fun s H C cl fp => pg_name sc_law_part.nd rfl (Or.inl rfl)) (show (8 : Nat) < 10 by decide) (List.mem_cons_self) ?_
  refine sc_lst ?_
  walk_at "sg1"
  refine ⟨_, rfl, ?_⟩
  refine lck_map (α := Nm) (xs := L3) (enc := nmD) (gx := fun n => .str ⟨#[chN g0 rows n]⟩) (by omega) trivial (fun n hn acc => ⟨_, rfl, fun p s2 H2 C2' cl2 fp2 => ?_⟩) ?_
  · refine ec_call C6 (by exact B.room.mono (by decide)) ?_
    walk_at "sg"
    have hnn : Named g0 rows n := by
      rcases (hLp.mem n).mp hn with z | ⟨r, hr, z⟩
      · exact .inl z
      · exact .inr ⟨r, hsub r hr, z⟩
    exact ⟨g0, rows, n, rfl, hp.g, hg0, hp.z, hl.nc.uniq, hnn, rfl, rfl⟩
  refine ⟨L3.map fun n => (⟨#[chN g0 rows n]⟩ : Str), by rw [List.map_map]; exact .imm _ _, ?_, ?_⟩
  · have e0 : ("" : Str).length = 0 := by decide +kernel
    rw [one_sum, List.length_map, e0]
    omega
  rw [word_join, word_sub hl.nc.uniq hsub fun n hn => (hLp.mem n).mp hn]
  walk_at "sg"
  exact ⟨_, rfl, trivial, hk⟩
end
end TSgL13
/-! SgFix: the fixed history is good. Plain Lean. -/
section TSgFix
set_option maxHeartbeats 4000000
open PySem
def goodB (r : Row) : Bool := decide (0 ≤ r.who) && (decide (r.who < r.seen.length) && (decide (r.seen.length ≤ 6) && (r.seen.all (fun c => decide (0 ≤ c) && decide (c ≤ 50)) && (decide (1 ≤ r.group.length) && (decide (r.group.length ≤ 5) && (r.group.cps.toList.all (fun c => decide (97 ≤ c) && decide (c ≤ 122)) && (match r.anchor.1 with
  | none => decide (0 ≤ r.anchor.2)
  | some k => decide (0 ≤ k.1) && (decide (k.1 < r.seen.length) && (decide (1 ≤ k.2) && (decide (k.2 ≤ r.seen.getD k.1.toNat 0) && decide (1 ≤ r.anchor.2))))))))))) 
theorem goodB_ok {r : Row} (h : goodB r = true) : Small r := by
  unfold goodB at h
  simp only [Bool.and_eq_true, decide_eq_true_eq, List.all_eq_true] at h
  obtain ⟨h1, h2, h3, h4, h5, h6, h7, h8⟩ := h
  refine ⟨⟨h1, h2, h3, fun c hc => ⟨(h4 c hc).1, by have := (h4 c hc).2; omega⟩, h5, by omega, fun c hc => ⟨(h7 c hc).1, (h7 c hc).2⟩, ?_⟩, fun c hc => (h4 c hc).2, h6⟩
  cases q : r.anchor.1 with
  | none =>
    rw [q] at h8
    exact of_decide_eq_true h8
  | some k =>
    rw [q] at h8
    simp only [Bool.and_eq_true, decide_eq_true_eq] at h8
    exact ⟨h8.1, h8.2.1, h8.2.2.1, h8.2.2.2.1, h8.2.2.2.2⟩
def layB (g0 : Str) (rows : List Row) : Bool := rows.all goodB && (rows.all (fun a => rows.all fun b => !decide (a.key = b.key) || decide (a = b)) &&
  rows.all fun r => decide (r.anchor = (none, 0)) || (decide (r.anchor ∈ signs none g0) || rows.any fun q => decide (code q < code r) && decide (r.anchor ∈ signs (some q.key) q.group)))
theorem layB_ok {g0 : Str} {rows : List Row} (h : layB g0 rows = true) : (∀ r ∈ rows, Small r) ∧ LayOk g0 rows := by
  unfold layB at h
  simp only [Bool.and_eq_true, List.all_eq_true] at h
  obtain ⟨h1, h2, h3⟩ := h
  have hs : ∀ r ∈ rows, Small r := fun r hr => goodB_ok (h1 r hr)
  refine ⟨hs, lay_of (fun r hr => (hs r hr).g) (fun a ha b hb e => ?_) fun r hr => ?_⟩
  · have := h2 a ha b hb
    simp only [Bool.or_eq_true, Bool.not_eq_true', decide_eq_false_iff_not, decide_eq_true_eq] at this
    exact this.resolve_left fun z => z e
  · have := h3 r hr
    simp only [Bool.or_eq_true, Bool.and_eq_true, decide_eq_true_eq, List.any_eq_true] at this
    rcases this with z | z | ⟨q, hq, z⟩
    · exact .inl z
    · exact .inr (.inl z)
    · exact .inr (.inr ⟨q, hq, z⟩)
abbrev xyS : Str := "xy"
def early (i : Nat) : List Row := match i with
  | 0 => fixedRows.take 3
  | 1 => []
  | 2 => ((fixedRows.drop 1).take 1 ++ (fixedRows.drop 3).take 1) ++ fixedRows.drop 7
  | _ => fixedRows.take 6
theorem fix_lay : layB xyS fixedRows = true := by decide +kernel
theorem early_lay : ∀ i, i < 4 → layB xyS (early i) = true := by decide +kernel
theorem fix_nd : fixedRows.Nodup := by decide +kernel
theorem early_sub : ∀ i, i < 4 → ∀ r ∈ early i, r ∈ fixedRows := by decide +kernel
theorem early_len : ∀ i, i < 4 → (early i).length ≤ 8 := by decide +kernel
theorem fix_len : fixedRows.length = 8 := by decide +kernel
theorem layP_of {g0 : Str} {A Bs : List Row} (h0 : g0.length ≤ 100) (ha : ∀ r ∈ A, Good r) (hb : ∀ r ∈ Bs, Good r) (hz : A.length + Bs.length ≤ 100) : LayP g0 A ∧ LayP g0 (A ++ Bs) ∧ A.length + Bs.length ≤ 100 := by
  refine ⟨⟨h0, ha, by omega⟩, ⟨h0, fun r hr => (List.mem_append.mp hr).elim (ha r) (hb r), by rw [List.length_append]; omega⟩, hz⟩
theorem HI.small {g0 : Str} {n : Nat} {rows : List Row} {kn : Nat → Nat → Int} (h : HI g0 n rows kn) (hl : rows.length ≤ 20) (hg : ∀ r ∈ rows, r.group.length ≤ 3) : ∀ r ∈ rows, Small r := fun r hr => by
  obtain ⟨g, l⟩ := h.good r hr
  refine ⟨g, fun c hc => ?_, by have := hg r hr; omega⟩
  obtain ⟨j, hj⟩ := List.mem_iff_getElem?.mp hc
  have hjl := (List.getElem?_eq_some_iff.mp hj).1
  have h1 := h.upR r hr j (by omega)
  have h2 := h.kb j (by omega)
  have e : r.seen.getD j 0 = c := by rw [List.getD_eq_getElem?_getD, hj]; rfl
  rw [e] at h1
  omega
end TSgFix
/-! SgL14: law. -/
section TSgL14
set_option maxHeartbeats 16000000
open PySem PySem.Spec PyProof.Rows L2
theorem ec_call0 {X : Cx} {x : XD} {es : Es} {m : M} {k : KD} {n : Nat} {name : Str} {FS : FSpec} {p pos : Pos} (F : Fn X.prog X.w X.K X.mg X.base n name FS) (hr : Room n X.A) (h : FS [] m k noX) (hg : Gl X name := by rfl) (hdb : (name == ("__debug__" : Str)) = false := by decide) : EC X x es m (.Call (.Name name p) [] [] pos) k := by
  obtain ⟨f, fd, ps, G, gm, kp, bs⟩ := F.ex
  intro G0 σ H Q w st q pins s I
  refine (pe_call0 G hr hg gm kp bs .nil passL hdb).run pins s σ H Q I ?_
  exact ⟨G0, m, [], k, noX, st.hs, .nil, h, q, fun C d m' G' H' dx v hx => hx.elim⟩
local macro_rules | `(tactic| walk_at "es17") => `(tactic| refine SD.re (es' := [_, _, _, _, _, _, _, _, _, _, _, _, _, _, _, _, _]) rfl ?_)
def poolL : List Str := ["ab", LET]
theorem pool_ok : ∀ p ∈ poolL, PoolOk p := by
  intro p hp
  have hl : ∀ s : Str, (s.cps.toList.all fun c => decide (97 ≤ c) && decide (c ≤ 122)) = true → Letters s := fun s h c hc => by
    have := List.all_eq_true.mp h c hc
    simp only [Bool.and_eq_true, decide_eq_true_eq] at this
    exact ⟨this.1, this.2⟩
  unfold poolL at hp
  simp only [List.mem_cons, List.not_mem_nil, or_false] at hp
  rcases hp with rfl | rfl
  · exact ⟨hl _ (by decide +kernel), by decide +kernel, by decide +kernel⟩
  · exact ⟨hl _ (by decide +kernel), by decide +kernel, by decide +kernel⟩
theorem rul_at {i : Int} (h0 : 0 ≤ i) (h1 : i < 8) : ∃ R, atI (allRul.map wordsD) i = some (wordsD R) := by
  obtain ⟨R, hR⟩ : ∃ R, allRul[i.toNat]? = some R := ⟨_, List.getElem?_eq_getElem (by show i.toNat < 8; omega)⟩
  exact ⟨R, at_nat h0 (by rw [List.getElem?_map, hR]; rfl)⟩
theorem two_at {a b : List Row} {i : Int} (h0 : 0 ≤ i) (h1 : i < 2) : ∃ l, (l = a ∨ l = b) ∧ atI [rowsD a, rowsD b] i = some (rowsD l) := by
  have h : i = 0 ∨ i = 1 := by omega
  rcases h with rfl | rfl
  · exact ⟨a, .inl rfl, rfl⟩
  · exact ⟨b, .inr rfl, rfl⟩
theorem early_at {i : Int} (h0 : 0 ≤ i) (h1 : i < 4) : ∃ e, e < 4 ∧ atI [rowsD (early 0), rowsD (early 1), rowsD (early 2), rowsD (early 3)] i = some (rowsD (early e)) := by
  have h : i = 0 ∨ i = 1 ∨ i = 2 ∨ i = 3 := by omega
  rcases h with rfl | rfl | rfl | rfl
  · exact ⟨0, by decide, rfl⟩
  · exact ⟨1, by decide, rfl⟩
  · exact ⟨2, by decide, rfl⟩
  · exact ⟨3, by decide, rfl⟩
section
variable {P : Program} {w : World} {K : PySem.W.Frag} {mg : Str → Option Value} {base : Heap} {f C CR CG CE XC XM XG : Addr} {fd : FuncData}
def FS_law : FSpec := fun ds m k x => ∃ xs : List Int, ds = [.scr xs] ∧ ∀ m', k (.bl true) m'
theorem fnok_law (F : F_law K f fd) (fr : Free mg) (C1 : Fn P w K mg base 1 "_law_new" FS_law_new) (C2 : Fn P w K mg base 1 "_law_draw" FS_law_draw) (C3 : Fn P w K mg base 2 "_law_word" FS_law_word) (C4 : Fn P w K mg base 3 "_law_groups" FS_law_groups) (C5 : Fn P w K mg base 2 "_law_history" FS_law_history)
    (C6 : Fn P w K mg base 2 "_law_within" FS_law_within) (C7 : Fn P w K mg base 2 "_law_cut" FS_law_cut) (C8 : Fn P w K mg base 1 "_law_fixed" FS_law_fixed) (C9 : Fn P w K mg base 1 "_law_all_rules" FS_law_all_rules) (C10 : Fn P w K mg base 7 "_law_part" FS_law_part) (C11 : Fn P w K mg base 9 "_law_judged" FS_law_judged) (C12 : Fn P w K mg base 2 "_law_spoilt" FS_law_spoilt) :
    FnOk P w K mg base (L2.CX P w) 10 f fd ["_law_script"] (spD K w FS_law) := by
  refine fnok_def F sc_law (fun ds m k x ⟨_, e, _⟩ => by rw [e]; rfl) ?_
  rintro cdv A0 outer s H E B ds m0 k x ⟨xs, rfl, hk⟩
  walk_at "sg1"; walk_at "sg1"
  refine ec_call C1 (B.room.mono (by decide)) ?_
  walk_at "sg"
  refine ⟨xs, rfl, fun p st hst => ?_⟩
  walk_at "es17"
  -- count
  refine sd_cons (ss_setB (i := 2) B (ec_ix ?_))
  refine ec_lst ?_
  walk_at "sg"
  refine ⟨(show (6 : Nat) ≤ 1000 by decide), ?_⟩
  refine ec_call C2 (B.room.mono (by decide)) ?_
  walk_at "sg"
  refine ⟨p, 0, st, 6, rfl, rfl, hst, by decide, by decide, fun d st hd0 hd1 hst => ?_⟩
  obtain ⟨n, hn⟩ : ∃ n, ([2, 1, 2, 3, 3, 6] : List Nat)[d.toNat]? = some n := ⟨_, List.getElem?_eq_getElem (by show d.toNat < 6; omega)⟩
  have hnm := List.mem_of_getElem? hn
  have hn16 : 1 ≤ n ∧ n ≤ 6 := by
    simp only [List.mem_cons, List.not_mem_nil, or_false] at hnm
    omega
  refine ic_lst (d := .int (n : Nat)) (at_nat hd0 (show ((([2, 1, 2, 3, 3, 6] : List Nat).map fun (n : Nat) => D.int (n : Int)))[d.toNat]? = _ by rw [List.getElem?_map, hn]; rfl)) ?_
  walk_at "es17"
  -- pool
  refine sd_cons (ss_setB (i := 3) B (ec_ix ?_))
  refine ec_lst ?_
  walk_at "sg"
  refine ⟨(show (2 : Nat) ≤ 1000 by decide), ?_⟩
  refine ec_call C2 (B.room.mono (by decide)) ?_
  walk_at "sg"
  refine ⟨p, 0, st, 2, rfl, rfl, hst, by decide, by decide, fun d st hd0 hd1 hst => ?_⟩
  obtain ⟨pool, hpl⟩ : ∃ q, poolL[d.toNat]? = some q := ⟨_, List.getElem?_eq_getElem (by show d.toNat < 2; omega)⟩
  have hpool := pool_ok pool (List.mem_of_getElem? hpl)
  refine ic_lst (d := .str pool) (at_nat hd0 (show (poolL.map D.str)[d.toNat]? = _ by rw [List.getElem?_map, hpl]; rfl)) ?_
  walk_at "es17"
  clear hd0 hd1 hn hpl hnm
  -- start
  refine sd_cons (ss_setB (i := 4) B ?_)
  refine ec_call C3 (B.room.mono (by decide)) ?_
  walk_at "sg"
  refine ⟨p, 0, st, pool, 0, 3, rfl, rfl, hst, hpool, by decide, by decide, by decide, fun g0 st hst hgl hg1 hg2 => ?_⟩
  have hg3 : g0.length ≤ 3 := by omega
  walk_at "es17"
  -- groups
  refine sd_cons (ss_setB (i := 5) B (ec_bin (ec_lst (ecs_cons ?_))))
  refine ec_call C3 (B.room.mono (by decide)) ?_
  walk_at "sg"
  refine ⟨p, 0, st, pool, 1, 3, rfl, rfl, hst, hpool, by decide, by decide, by decide, fun gr1 st hst hl1 hl2 hl3 => ?_⟩
  walk_at "sg"
  refine ⟨(show (1 : Nat) ≤ 1000 by decide), ?_⟩
  refine ec_call C4 (B.room.mono (by decide)) ?_
  walk_at "sg"
  refine ⟨p, 0, st, pool, 3, 3, rfl, rfl, hst, hpool, by decide, by decide, by decide, by decide, fun gs st hst hgs hgsl => ?_⟩
  refine oc_cat (.imm _ _) (.imm _ _) (by rw [List.length_map]; exact Nat.le_trans (show 1 + gs.length ≤ 1000 by omega) (by decide)) ?_
  have hgs2 : GrpsOk (gr1 :: gs) 3 := by
    refine ⟨fun g hg => ?_, fun g hg => ?_, fun g hg => ?_⟩
    · rcases List.mem_cons.mp hg with rfl | hg
      · exact hl1
      · exact hgs.l g hg
    · rcases List.mem_cons.mp hg with rfl | hg
      · omega
      · exact hgs.g0 g hg
    · rcases List.mem_cons.mp hg with rfl | hg
      · exact hl3
      · exact hgs.g1 g hg
  have hgl2 : (gr1 :: gs).length ≤ 100 := by rw [List.length_cons]; omega
  have hgl1 : 1 ≤ (gr1 :: gs).length := by rw [List.length_cons]; omega
  rw [show [D.str gr1] ++ gs.map D.str = (gr1 :: gs).map D.str from rfl]
  generalize gr1 :: gs = gall at hgs2 hgl2 hgl1
  clear hgs hgsl hl1 hl2 hl3 hg1 hg2 hgl hpool
  walk_at "es17"
  -- history
  refine sd_cons (ss_setB (i := 6) B ?_)
  refine ec_call C5 (B.room.mono (by decide)) ?_
  walk_at "sg1"
  walk_at "sg1"
  walk_at "sg1"
  refine EC.imp (k := fun d m2 => ∃ (many : Int) (st' : LSt), d = .int many ∧ 0 ≤ many ∧ many ≤ 20 ∧ StOk st' ∧ m2 = (p, .lst (lstD st')) :: m0) ?_ ?_
  · refine ec_if (et_cmp (ec_call C2 (B.room.mono (by decide)) ?_))
    walk_at "sg"
    refine ⟨p, 0, st, 8, rfl, rfl, hst, by decide, by decide, fun d st hd0 hd1 hst => ?_⟩
    walk_at "sg"
    refine ite_d (fun _ => ?_) fun _ => ?_
    · walk_at "sg"
      exact ⟨12, st, rfl, by decide, by decide, hst, rfl⟩
    · walk_at "sg"
      exact ⟨8, st, rfl, by decide, by decide, hst, rfl⟩
  clear hst
  rintro dm m2 ⟨many, st, rfl, hy0, hy1, hst, rfl⟩
  walk_at "sg"
  refine cc_lenS (Nat.le_trans hg3 (by decide)) ?_
  walk_at "sg"
  refine ⟨p, 0, st, many, n, gall, g0, rfl, rfl, hst, hy0, hy1, hn16.1, hn16.2, hgs2, hgl1, hgl2, by omega, fun rows kn st hst hI hrl hgr => ?_⟩
  have hsm := hI.small hrl hgr
  have hgd : ∀ r ∈ rows, Good r := fun r hr => (hsm r hr).g
  walk_at "es17"
  -- the closed part
  refine sd_cons (ss_setB (i := 7) B ?_)
  refine ec_call C6 (B.room.mono (by decide)) ?_
  walk_at "sg"
  refine ec_call C7 (B.room.mono (by decide)) ?_
  walk_at "sg"
  refine ⟨p, 0, st, rows, n, rfl, rfl, hst, hn16.2, fun r hr => hI.good r hr, by omega, fun cut st hst hcut => ?_⟩
  walk_at "sg"
  refine ⟨rows, cut, rfl, fun r hr => ⟨hgd r hr, by have := hI.who hr; rw [hcut.len]; omega⟩, by omega, ?_⟩
  have hlp := hI.layP (hI.cut hcut)
  have hps : ∀ r ∈ prtOf rows cut, r ∈ rows := fun r hr => (mem_prt.mp hr).1
  have hpz : (prtOf rows cut).length ≤ 20 := Nat.le_trans (List.length_filter_le _ _) hrl
  have hlr := hI.lay
  have hnr := hI.nd
  show SD _ _ (List.set _ 7 (some (rowsD (prtOf rows cut)))) _ _ _
  generalize prtOf rows cut = prt at hlp hps hpz
  walk_at "es17"
  clear hgs2 hgl1 hgl2 hcut hI hy0 hy1
  -- some
  refine sd_cons (ss_lc (own := [("_law_row", 16)]) (i := 8) (n := "_law_some") (.nm 16) B.calm B.nd (blk_ok (N := N_law) (sc := defScope S_law) (by decide +kernel)) (fun s H C cl fp => pg_name sc_law.nd rfl (Or.inl rfl)) (show (16 : Nat) < 17 by decide) (List.mem_cons_self) ?_)
  refine sc_lst ?_
  walk_at "sg1"
  refine ⟨_, rfl, ?_⟩
  refine lck_gen (α := Row) (xs := rows) (enc := rowD) (fun pre m' acc => ∃ (st' : LSt) (l : List Row), m' = (p, .lst (lstD st')) :: m0 ∧ StOk st' ∧ acc = l.map rowD ∧ (∀ r ∈ l, r ∈ rows) ∧ l.length ≤ pre.length) ⟨st, [], rfl, hst, rfl, by simp, Nat.le_refl _⟩ (fun _ _ _ _ => trivial) ?_ ?_
  · rintro pre a post m' acc hxs ⟨st', l, rfl, hst', rfl, hl, hll⟩
    have hlen : rows.length = pre.length + (post.length + 1) := by rw [hxs, List.length_append, List.length_cons]
    have har : a ∈ rows := by rw [hxs]; simp
    refine ⟨_, rfl, fun q s2 H2 C2' cl2 fp2 => ?_⟩
    refine et_cmp (ec_call C2 (by exact B.room.mono (by decide)) ?_)
    walk_at "sg"
    refine ⟨p, 1, st', 2, rfl, rfl, hst', by decide, by decide, fun d st2 hd0 hd1 hst2 => ?_⟩
    walk_at "sg"
    refine ⟨_, rfl, ?_⟩
    refine ite_d (fun _ => ?_) fun _ => ?_
    · intro s3 H3 C3' cl3 fp3
      walk_at "sg1"
      refine ⟨_, rfl, by rw [List.length_map]; omega, st2, l ++ [a], rfl, hst2, by rw [List.map_append]; rfl, fun r hr => ?_, by rw [List.length_append, List.length_append]; simp; omega⟩
      rcases List.mem_append.mp hr with hr | hr
      · exact hl r hr
      · rw [List.mem_singleton.mp hr]; exact har
    · exact ⟨st2, l, rfl, hst2, rfl, hl, by rw [List.length_append, List.length_singleton]; omega⟩
  clear hst
  rintro m' acc ⟨st, smr, rfl, hst, rfl, hss, hsz⟩
  have hsz : smr.length ≤ 20 := by omega
  walk_at "es17"
  -- fixed, turn
  refine sd_cons (ss_setB (i := 9) B ?_)
  refine ec_call0 C8 (B.room.mono (by decide)) ?_
  refine ⟨rfl, ?_⟩
  walk_at "es17"
  refine sd_cons (ss_setB (i := 10) B ?_)
  refine ec_call C2 (B.room.mono (by decide)) ?_
  walk_at "sg"
  refine ⟨p, 0, st, 8, rfl, rfl, hst, by decide, by decide, fun d st ht0 ht1 hst => ?_⟩
  obtain ⟨turn, rfl⟩ : ∃ i : Nat, d = (i : Int) := ⟨d.toNat, by rw [Int.toNat_of_nonneg ht0]⟩
  walk_at "es17"
  have hg100 : g0.length ≤ 100 := by omega
  have hgp : ∀ r ∈ prt, Good r := fun r hr => hgd r (hps r hr)
  have hgs : ∀ r ∈ smr, Good r := fun r hr => hgd r (hss r hr)
  have hLP : LayP g0 rows := ⟨hg100, hgd, by omega⟩
  have hj1 := layP_of (A := prt) (Bs := rows.reverse ++ prt) hg100 hgp (fun r hr => (List.mem_append.mp hr).elim (fun h => hgd r (List.mem_reverse.mp h)) (hgp r)) (by rw [List.length_append, List.length_reverse]; omega)
  have hj2 := layP_of (A := smr) (Bs := rows) hg100 hgs hgd (by omega)
  -- the first loop
  refine sd_cons (ss_forT (.nm 11) B (pg_name B.nd rfl (Or.inl rfl)) (show (11 : Nat) < 17 by decide) ?_)
  refine sc_lst (ec_call0 C9 (B.room.mono (by decide)) ?_)
  refine ⟨rfl, _, rfl, ?_⟩
  refine ⟨Rul, allRul, wordsD, fun pre es' m' => ∃ (o11 : Option D), es' = [some (.scr xs), some (.raw (.ref p)), some (.int (n : Nat)), some (.str pool), some (.str g0), some (.lst (gall.map D.str)), some (rowsD rows), some (rowsD prt), some (rowsD smr), some (rowsD fixedRows), some (.int (turn : Nat)), o11, none, none, none, none, none] ∧ m' = (p, .lst (lstD st)) :: m0, rfl, ⟨_, rfl, rfl⟩, fun _ _ _ _ => trivial, ?_, ?_⟩
  · rintro pre R post es' m' hxs ⟨o11, rfl, rfl⟩
    refine ⟨_, rfl, ?_⟩
    refine sd_cons (ss_if (et_not (et_val (ec_call C10 (B.room.mono (by decide)) ?_))))
    walk_at "sg"
    refine ⟨R, g0, rows, prt, rfl, hLP, hlr, hnr, hlp, hps, by omega, by omega, ⟨true, rfl, ?_⟩⟩
    walk_at "sgi"
    refine sd_nil (sd_one (ss_if (EW.et (ew_or (et_not (et_val (ec_call C11 B.room ?_)))))))
    walk_at "sg1"; walk_at "sg1"; walk_at "sg1"; walk_at "sg1"; walk_at "sg1"; walk_at "sg1"; walk_at "sg1"; walk_at "sg1"
    refine ec_revL ?_
    walk_at "sg1"
    refine ⟨_, .imm _ _, ?_⟩
    rw [← List.map_reverse]
    walk_at "sg"
    refine oc_rows (a := rows.reverse) (b := prt) (by rw [List.length_reverse]; omega) ?_
    walk_at "sg"
    refine ⟨R, g0, prt, rows.reverse ++ prt, rfl, hj1.1, hj1.2.1, hj1.2.2, ⟨true, rfl, ?_⟩⟩
    walk_at "sgi"
    refine ew_or1 (et_not (et_val (ec_call C11 B.room ?_)))
    walk_at "sg"
    refine ⟨R, g0, smr, rows, rfl, hj2.1, hj2.2.1, hj2.2.2, ⟨true, rfl, ?_⟩⟩
    walk_at "sgi"
    exact sd_nil ⟨_, rfl, rfl⟩
  rintro es' m' ⟨o11, rfl, rfl⟩
  refine sd_cons (ss_setB (i := 12) B ?_)
  refine ec_call0 C9 (B.room.mono (by decide)) ?_
  refine ⟨rfl, ?_⟩
  walk_at "es17"
  have hfl : fixedRows.length = 8 := fix_len
  obtain ⟨hfs, hfk⟩ := layB_ok fix_lay
  have hfg : ∀ r ∈ fixedRows, Good r := fun r hr => (hfs r hr).g
  have hxy : xyS.length = 2 := by decide +kernel
  -- the second loop
  refine sd_cons (ss_forT (.nm 13) B (pg_name B.nd rfl (Or.inl rfl)) (show (13 : Nat) < 17 by decide) ?_)
  refine sc_range fr.range ?_
  walk_at "sg1"
  refine ⟨3, rfl, by decide, ?_⟩
  refine ⟨Nat, List.range 3, fun (i : Nat) => .int (0 + (i : Int)), fun pre es' m' => ∃ (o11 o13 o15 : Option D), es' = [some (.scr xs), some (.raw (.ref p)), some (.int (n : Nat)), some (.str pool), some (.str g0), some (.lst (gall.map D.str)), some (rowsD rows), some (rowsD prt), some (rowsD smr), some (rowsD fixedRows), some (.int (turn : Nat)), o11, some (.lst (allRul.map wordsD)), o13, none, o15, none] ∧ m' = (p, .lst (lstD st)) :: m0, rfl, ⟨_, _, _, rfl, rfl⟩, fun _ _ _ _ => trivial, ?_, ?_⟩
  · rintro pre c post es' m' hxs ⟨o11, o13, o15, rfl, rfl⟩
    refine ⟨_, rfl, ?_⟩
    walk_at "sg"
    refine oc_mul (.inl ⟨by decide, by decide⟩) ?_
    walk_at "sg"
    refine oc_mod (by decide) ?_
    obtain ⟨R, hR⟩ := rul_at (i := ((turn : Int) + 3 * (0 + (c : Int))) % 8) (Int.emod_nonneg _ (by decide)) (Int.emod_lt_of_pos _ (by decide))
    refine ic_lst hR ?_
    walk_at "es17"
    refine sd_cons (ss_setB (i := 15) B (ec_ix ?_))
    refine ec_lst (ecs_cons (ec_sl ?_))
    walk_at "sg1"
    show EC _ _ _ _ _ _
    walk_at "sg1"
    refine ⟨_, rfl, lc_list (.imm _ _) ?_⟩
    rw [show cutD (fixedRows.map rowD) none (some 3) = (early 0).map rowD from cut_lo rowD fixedRows (n := 3) (by omega)]
    refine ecs_cons (ec_lst (ecs_nil ⟨by decide, ?_⟩))
    refine ecs_cons (ec_bin (ec_bin (ec_sl ?_)))
    walk_at "sg1"
    show EC _ _ _ _ _ _
    walk_at "sg1"
    refine ⟨_, rfl, ?_⟩
    show EC _ _ _ _ _ _
    walk_at "sg1"
    refine ⟨_, rfl, lc_list (.imm _ _) ?_⟩
    refine ec_sl ?_
    walk_at "sg1"
    show EC _ _ _ _ _ _
    walk_at "sg1"
    refine ⟨_, rfl, ?_⟩
    show EC _ _ _ _ _ _
    walk_at "sg1"
    refine ⟨_, rfl, lc_list (.imm _ _) ?_⟩
    rw [show cutD (fixedRows.map rowD) (some 1) (some 2) = ((fixedRows.drop 1).take 1).map rowD from rfl, show cutD (fixedRows.map rowD) (some 3) (some 4) = ((fixedRows.drop 3).take 1).map rowD from rfl]
    refine oc_rows (a := (fixedRows.drop 1).take 1) (b := (fixedRows.drop 3).take 1) (by simp only [List.length_take, List.length_drop]; omega) ?_
    refine ec_sl ?_
    walk_at "sg1"
    show EC _ _ _ _ _ _
    walk_at "sg1"
    refine ⟨_, rfl, lc_list (.imm _ _) ?_⟩
    rw [show cutD (fixedRows.map rowD) (some 7) none = (fixedRows.drop 7).map rowD from cut_hi rowD fixedRows (n := 7) (by omega)]
    refine oc_rows (a := (fixedRows.drop 1).take 1 ++ (fixedRows.drop 3).take 1) (b := fixedRows.drop 7) (by simp only [List.length_append, List.length_take, List.length_drop]; omega) ?_
    refine ecs_cons (ec_sl ?_)
    walk_at "sg1"
    show EC _ _ _ _ _ _
    walk_at "sg1"
    refine ⟨_, rfl, lc_list (.imm _ _) ?_⟩
    rw [show cutD (fixedRows.map rowD) none (some 6) = (early 3).map rowD from cut_lo rowD fixedRows (n := 6) (by omega)]
    refine ecs_nil ⟨(show (4 : Nat) ≤ 1000 by decide), ?_⟩
    walk_at "sg"
    refine oc_mod (by decide) ?_
    obtain ⟨e, he, hea⟩ := early_at (i := ((turn : Int) + (0 + (c : Int))) % 4) (Int.emod_nonneg _ (by decide)) (Int.emod_lt_of_pos _ (by decide))
    refine ic_lst hea ?_
    obtain ⟨hes, hek⟩ := layB_ok (early_lay e he)
    have heg : ∀ r ∈ early e, Good r := fun r hr => (hes r hr).g
    have hesub := early_sub e he
    have hel := early_len e he
    generalize early e = ea at hes hek heg hesub hel
    walk_at "es17"
    refine sd_cons (ss_if (EW.et (ew_or (et_not (et_val (ec_call C10 (B.room.mono (by decide)) ?_))))))
    walk_at "sg"
    refine ⟨R, xyS, fixedRows, ea, rfl, ⟨by omega, hfg, by omega⟩, hfk, fix_nd, hek, hesub, by omega, by omega, ⟨true, rfl, ?_⟩⟩
    walk_at "sgi"
    refine ew_or1 (et_not (et_val (ec_call C11 B.room ?_)))
    walk_at "sg1"; walk_at "sg1"; walk_at "sg1"; walk_at "sg1"; walk_at "sg1"
    refine ec_revL ?_
    walk_at "sg1"
    refine ⟨_, .imm _ _, ?_⟩
    rw [← List.map_reverse]
    walk_at "sg1"; walk_at "sg1"
    refine ec_revL ?_
    walk_at "sg1"
    refine ⟨_, .imm _ _, ?_⟩
    rw [← List.map_reverse]
    walk_at "sg"
    refine oc_rows (a := fixedRows.reverse) (b := fixedRows) (by rw [List.length_reverse]; omega) ?_
    walk_at "sg"
    have hk1 := layP_of (A := ea.reverse) (Bs := fixedRows.reverse ++ fixedRows) (g0 := xyS) (by omega) (fun r hr => heg r (List.mem_reverse.mp hr)) (fun r hr => (List.mem_append.mp hr).elim (fun h => hfg r (List.mem_reverse.mp h)) (hfg r)) (by rw [List.length_append, List.length_reverse, List.length_reverse]; omega)
    refine ⟨R, xyS, ea.reverse, fixedRows.reverse ++ fixedRows, rfl, hk1.1, hk1.2.1, hk1.2.2, ⟨true, rfl, ?_⟩⟩
    walk_at "sgi"
    refine sd_nil (sd_one (ss_if (EW.et (ew_or (et_not (et_val (ec_call C11 B.room ?_)))))))
    walk_at "sg"
    refine oc_rows (a := fixedRows) (b := ea) (by omega) ?_
    walk_at "sg"
    have hk2 := layP_of (A := fixedRows ++ ea) (Bs := ea) (g0 := xyS) (by omega) (fun r hr => (List.mem_append.mp hr).elim (hfg r) (heg r)) heg (by rw [List.length_append]; omega)
    refine ⟨R, xyS, fixedRows ++ ea, ea, rfl, hk2.1, hk2.2.1, hk2.2.2, ⟨true, rfl, ?_⟩⟩
    walk_at "sgi"
    refine ew_or1 (et_not (et_val (ec_call C11 B.room ?_)))
    walk_at "sg1"; walk_at "sg1"; walk_at "sg1"; walk_at "sg1"; walk_at "sg1"
    refine ec_sl ?_
    walk_at "sg1"
    show EC _ _ _ _ _ _
    walk_at "sg1"
    refine ⟨_, rfl, lc_list (.imm _ _) ?_⟩
    rw [show cutD (fixedRows.map rowD) (some 2) none = (fixedRows.drop 2).map rowD from cut_hi rowD fixedRows (n := 2) (by omega)]
    walk_at "sg1"
    refine ec_sl ?_
    walk_at "sg1"
    show EC _ _ _ _ _ _
    walk_at "sg1"
    refine ⟨_, rfl, lc_list (.imm _ _) ?_⟩
    rw [show cutD (fixedRows.map rowD) none (some 2) = (fixedRows.take 2).map rowD from cut_lo rowD fixedRows (n := 2) (by omega)]
    walk_at "sg"
    have hk3 := layP_of (A := fixedRows.drop 2) (Bs := fixedRows.take 2) (g0 := xyS) (by omega) (fun r hr => hfg r (List.mem_of_mem_drop hr)) (fun r hr => hfg r (List.mem_of_mem_take hr)) (by rw [List.length_drop, List.length_take]; omega)
    refine ⟨R, xyS, fixedRows.drop 2, fixedRows.take 2, rfl, hk3.1, hk3.2.1, hk3.2.2, ⟨true, rfl, ?_⟩⟩
    walk_at "sgi"
    exact sd_nil ⟨_, _, _, rfl, rfl⟩
  rintro es' m' ⟨o11, o13, o15, rfl, rfl⟩
  -- the spoilt lists of the fixed history
  refine sd_cons (ss_setB (i := 14) B ?_)
  refine ec_call C12 (B.room.mono (by decide)) ?_
  walk_at "sg"
  refine ⟨p, 0, st, fixedRows, 2, rfl, rfl, hst, hfs, by omega, by omega, fun Ls st2 hst2 hLs => ?_⟩
  walk_at "es17"
  have hLn := hLs.n
  refine sd_cons (ss_forT (.nm 13) B (pg_name B.nd rfl (Or.inl rfl)) (show (13 : Nat) < 17 by decide) ?_)
  refine sc_range fr.range ?_
  walk_at "sg"
  refine cc_len (.inl (.imm _ _)) ?_
  rw [List.length_map]
  refine ⟨Ls.length, rfl, by omega, ?_⟩
  refine ⟨Nat, List.range Ls.length, fun (i : Nat) => .int (0 + (i : Int)), fun pre es' m' => ∃ (o11 o13 o15 : Option D), es' = [some (.scr xs), some (.raw (.ref p)), some (.int (n : Nat)), some (.str pool), some (.str g0), some (.lst (gall.map D.str)), some (rowsD rows), some (rowsD prt), some (rowsD smr), some (rowsD fixedRows), some (.int (turn : Nat)), o11, some (.lst (allRul.map wordsD)), o13, some (.lst (Ls.map rowsD)), o15, none] ∧ m' = (p, .lst (lstD st2)) :: m0, rfl, ⟨_, _, _, rfl, rfl⟩, fun _ _ _ _ => trivial, ?_, ?_⟩
  · rintro pre c post es' m' hxs ⟨o11, o13, o15, rfl, rfl⟩
    have hcl : c < Ls.length := by
      have : c ∈ List.range Ls.length := by rw [hxs]; simp
      exact List.mem_range.mp this
    obtain ⟨Lk, hLk⟩ : ∃ Lk, Ls[c]? = some Lk := ⟨_, List.getElem?_eq_getElem hcl⟩
    have hLm := List.mem_of_getElem? hLk
    have hLg := hLs.g Lk hLm
    have hLz := hLs.z Lk hLm
    have hLD : atI (Ls.map rowsD) (0 + (c : Int)) = some (rowsD Lk) := by
      rw [Int.zero_add]
      exact atI_nat (by rw [List.getElem?_map, hLk]; rfl)
    refine ⟨_, rfl, ?_⟩
    walk_at "sg"
    refine oc_mod (by decide) ?_
    obtain ⟨R, hR⟩ := rul_at (i := ((turn : Int) + (0 + (c : Int))) % 8) (Int.emod_nonneg _ (by decide)) (Int.emod_lt_of_pos _ (by decide))
    refine ic_lst hR ?_
    walk_at "es17"
    refine sd_cons (ss_setB (i := 15) B (ec_ix (ec_lst (ecs_cons (ec_ix ?_)))))
    walk_at "sg"
    refine ic_lst hLD ?_
    refine ecs_cons (ec_sl ?_)
    walk_at "sg1"
    show EC _ _ _ _ _ _
    walk_at "sg1"
    refine ⟨_, rfl, lc_list (.imm _ _) ?_⟩
    rw [show cutD (fixedRows.map rowD) none (some 1) = (fixedRows.take 1).map rowD from cut_lo rowD fixedRows (n := 1) (by omega)]
    refine ecs_nil ⟨(show (2 : Nat) ≤ 1000 by decide), ?_⟩
    walk_at "sg"
    refine oc_mod (by decide) ?_
    obtain ⟨ea, hea1, hea⟩ := two_at (a := Lk) (b := fixedRows.take 1) (i := (0 + (c : Int)) % 2) (Int.emod_nonneg _ (by decide)) (Int.emod_lt_of_pos _ (by decide))
    refine ic_lst hea ?_
    walk_at "es17"
    refine sd_one (ss_if (et_not (et_val (ec_call C11 B.room ?_))))
    walk_at "sg1"; walk_at "sg1"; walk_at "sg1"; walk_at "sg1"; walk_at "sg1"; walk_at "sg1"
    refine ecs_cons (ec_ix (ec_lst ?_))
    walk_at "sg"
    refine ic_lst hLD ?_
    walk_at "sg"
    refine ⟨(show (2 : Nat) ≤ 1000 by decide), ?_⟩
    walk_at "sg"
    refine oc_mod (by decide) ?_
    obtain ⟨eb, heb1, heb⟩ := two_at (a := fixedRows) (b := Lk) (i := (0 + (c : Int)) % 2) (Int.emod_nonneg _ (by decide)) (Int.emod_lt_of_pos _ (by decide))
    refine ic_lst heb ?_
    walk_at "sg"
    have ha : (∀ r ∈ ea, Good r) ∧ ea.length ≤ 43 := by
      rcases hea1 with rfl | rfl
      · exact ⟨hLg, hLz⟩
      · exact ⟨fun r hr => hfg r (List.mem_of_mem_take hr), by rw [List.length_take]; omega⟩
    have hb : (∀ r ∈ eb, Good r) ∧ eb.length ≤ 43 := by
      rcases heb1 with rfl | rfl
      · exact ⟨hfg, by omega⟩
      · exact ⟨hLg, hLz⟩
    have hk4 := layP_of (A := ea) (Bs := eb) (g0 := xyS) (by omega) ha.1 hb.1 (by omega)
    refine ⟨R, xyS, ea, eb, rfl, hk4.1, hk4.2.1, hk4.2.2, ⟨true, rfl, ?_⟩⟩
    walk_at "sgi"
    exact sd_nil ⟨_, _, _, rfl, rfl⟩
  clear hLn hLs
  rintro es' m' ⟨o11, o13, o15, rfl, rfl⟩
  -- the spoilt lists of the drawn history
  refine sd_cons (SS.mid (fun _ _ => True) ?_ fun es' m' _ => sd_one (ss_ret (ec_bl (hk m'))))
  walk_at "sg1"
  refine et_cmp ?_
  walk_at "sg1"
  refine ec_lst (ecs_nil ⟨by decide, ?_⟩)
  have hu := B.room.un
  refine oc_neL (by omega) (.imm _ _) (.imm _ _) (rowsD_sh hgd) ((sn_lst (n := 0) snL_nil).sh (by decide)) ?_
  rw [lst_ne]
  refine ⟨_, rfl, ite_n (fun hne => ?_) fun _ => sd_nil trivial⟩
  have hpos : 1 ≤ rows.length := by
    cases rows with
    | nil => exact absurd rfl hne
    | cons a l => simp
  refine sd_cons (ss_setB (i := 14) B ?_)
  refine ec_call C12 (B.room.mono (by decide)) ?_
  walk_at "sg"
  refine cc_lenS (Nat.le_trans hg3 (by decide)) ?_
  walk_at "sg"
  refine ⟨p, 0, st2, rows, g0.length, rfl, rfl, hst2, hsm, hpos, hrl, fun Ls st3 hst3 hLs => ?_⟩
  walk_at "es17"
  have hLn := hLs.n
  refine sd_one (ss_forT (.nm 13) B (pg_name B.nd rfl (Or.inl rfl)) (show (13 : Nat) < 17 by decide) ?_)
  refine sc_range fr.range ?_
  walk_at "sg"
  refine cc_len (.inl (.imm _ _)) ?_
  rw [List.length_map]
  refine ⟨Ls.length, rfl, by omega, ?_⟩
  refine ⟨Nat, List.range Ls.length, fun (i : Nat) => .int (0 + (i : Int)), fun pre es' m' => ∃ (o11 o13 o15 : Option D), es' = [some (.scr xs), some (.raw (.ref p)), some (.int (n : Nat)), some (.str pool), some (.str g0), some (.lst (gall.map D.str)), some (rowsD rows), some (rowsD prt), some (rowsD smr), some (rowsD fixedRows), some (.int (turn : Nat)), o11, some (.lst (allRul.map wordsD)), o13, some (.lst (Ls.map rowsD)), o15, none] ∧ m' = (p, .lst (lstD st3)) :: m0, rfl, ⟨_, _, _, rfl, rfl⟩, fun _ _ _ _ => trivial, ?_, fun _ _ _ => trivial⟩
  rintro pre c post es' m' hxs ⟨o11, o13, o15, rfl, rfl⟩
  have hcl : c < Ls.length := by
    have : c ∈ List.range Ls.length := by rw [hxs]; simp
    exact List.mem_range.mp this
  obtain ⟨Lk, hLk⟩ : ∃ Lk, Ls[c]? = some Lk := ⟨_, List.getElem?_eq_getElem hcl⟩
  have hLm := List.mem_of_getElem? hLk
  have hLg := hLs.g Lk hLm
  have hLz := hLs.z Lk hLm
  have hLD : atI (Ls.map rowsD) (0 + (c : Int)) = some (rowsD Lk) := by
    rw [Int.zero_add]
    exact atI_nat (by rw [List.getElem?_map, hLk]; rfl)
  refine ⟨_, rfl, ?_⟩
  walk_at "sg"
  refine oc_mul (.inl ⟨by decide, by decide⟩) ?_
  walk_at "sg"
  refine oc_mod (by decide) ?_
  obtain ⟨R, hR⟩ := rul_at (i := ((turn : Int) + 2 * (0 + (c : Int))) % 8) (Int.emod_nonneg _ (by decide)) (Int.emod_lt_of_pos _ (by decide))
  refine ic_lst hR ?_
  walk_at "es17"
  refine sd_cons (ss_setB (i := 15) B (ec_ix (ec_lst ?_)))
  walk_at "sg"
  refine ic_lst hLD ?_
  walk_at "sg"
  refine ⟨(show (2 : Nat) ≤ 1000 by decide), ?_⟩
  walk_at "sg"
  refine oc_mod (by decide) ?_
  obtain ⟨ea, hea1, hea⟩ := two_at (a := prt) (b := Lk) (i := (0 + (c : Int)) % 2) (Int.emod_nonneg _ (by decide)) (Int.emod_lt_of_pos _ (by decide))
  refine ic_lst hea ?_
  walk_at "es17"
  refine sd_one (ss_if (et_not (et_val (ec_call C11 B.room ?_))))
  walk_at "sg1"; walk_at "sg1"; walk_at "sg1"; walk_at "sg1"; walk_at "sg1"; walk_at "sg1"
  refine ecs_cons (ec_ix (ec_lst ?_))
  walk_at "sg"
  refine ic_lst hLD ?_
  walk_at "sg"
  refine ⟨(show (2 : Nat) ≤ 1000 by decide), ?_⟩
  walk_at "sg"
  refine oc_mod (by decide) ?_
  obtain ⟨eb, heb1, heb⟩ := two_at (a := Lk) (b := rows) (i := (0 + (c : Int)) % 2) (Int.emod_nonneg _ (by decide)) (Int.emod_lt_of_pos _ (by decide))
  refine ic_lst heb ?_
  walk_at "sg"
  have ha : (∀ r ∈ ea, Good r) ∧ ea.length ≤ 43 := by
    rcases hea1 with rfl | rfl
    · exact ⟨hgp, by omega⟩
    · exact ⟨hLg, hLz⟩
  have hb : (∀ r ∈ eb, Good r) ∧ eb.length ≤ 43 := by
    rcases heb1 with rfl | rfl
    · exact ⟨hLg, hLz⟩
    · exact ⟨hgd, by omega⟩
  have hk5 := layP_of (A := ea) (Bs := eb) hg100 ha.1 hb.1 (by omega)
  refine ⟨R, g0, ea, eb, rfl, hk5.1, hk5.2.1, hk5.2.2, ⟨true, rfl, ?_⟩⟩
  walk_at "sgi"
  exact sd_nil ⟨_, _, _, rfl, rfl⟩
end
end TSgL14
/-! SgHk: what the looks say. -/
section TSgHk
set_option maxHeartbeats 1000000
open PySem PySem.Spec PyProof.Rows L2
theorem FcD.get {K : PySem.W.Frag} {d : FcD} (e : fnC K (d.at_ K) = d.val) (c : d.ok K = true) :
    ∃ oc od osl kV doc pm an cdv ct cl, K.lookup (d.at_ K) = some ⟨oc, od, .func (PySem.W.fnX d.name d.qual d.params d.body d.scope cl .none kV doc pm an cdv ct), osl⟩ ∧ PySem.W.codeIn K cdv d.qual = true ∧ cl.map (·.1) = d.cl := by
  unfold fnC at e
  unfold FcD.ok at c
  cases q : K.lookup (d.at_ K) with
  | none => rw [q] at c; cases c
  | some o =>
    obtain ⟨oc, od, dt, osl⟩ := o
    rw [q] at c e
    cases dt with
    | func fd =>
      obtain ⟨n1, n2, n3, n4, n5, n6, n7, n8, n9, n10, n11, n12, n13, n14, n15⟩ := fd
      have e2 : (some (n1, n2, n3, n4, n5, n6, n7.map (·.1), n15) : FnC) = some (d.name, d.qual, d.params, .stmts d.body, d.scope, mainGlobals, d.cl, builtinsNs) := e
      simp only [Option.some.injEq, Prod.mk.injEq] at e2
      obtain ⟨h1, h2, h3, h4, h5, h6, h7, h8⟩ := e2
      subst h1 h2 h3 h4 h5 h6 h8
      obtain ⟨c1, c2⟩ := He.ba (show (PySem.W.codeIn K n13 d.qual && noneV n8) = true from c)
      cases n8 with
      | none => exact ⟨oc, od, osl, n9, n10, n11, n12, n13, n14, n7, rfl, c1, h7⟩
      | _ => cases c2
    | _ => cases c
section
variable {fa : List He.Fa} {fn : List He.DefD} {ex : List Ex} {fc : List FcD} {K : PySem.W.Frag}
theorem SaysS.d (c : SaysS fa fn ex fc K) : He.SaysD fa fn K := congrArg (fun z : AlS => z.1) c
theorem SaysS.b (c : SaysS fa fn ex fc K) : ((ex.all fun f => f K) && fc.all fun d => d.ok K) = true := congrArg (fun z : AlS => z.2.1) c
theorem SaysS.look (c : SaysS fa fn ex fc K) (i : Nat) {f : Ex} (h : ex[i]? = some f := by rfl) : f K = true := List.all_eq_true.mp (He.ba c.b).1 f (List.mem_of_getElem? h)
theorem SaysS.fobj (c : SaysS fa fn ex fc K) (i : Nat) {d : FcD} (h : fc[i]? = some d := by rfl) :
    ∃ oc od osl kV doc pm an cdv ct cl, K.lookup (d.at_ K) = some ⟨oc, od, .func (PySem.W.fnX d.name d.qual d.params d.body d.scope cl .none kV doc pm an cdv ct), osl⟩ ∧ PySem.W.codeIn K cdv d.qual = true ∧ cl.map (·.1) = d.cl := by
  have e : fc.map (fun d => fnC K (d.at_ K)) = fc.map FcD.val := congrArg (fun z : AlS => z.2.2) c
  have e2 : (fc.map fun d => fnC K (d.at_ K))[i]? = (fc.map FcD.val)[i]? := by rw [e]
  rw [List.getElem?_map, List.getElem?_map, h] at e2
  exact FcD.get (Option.some.inj e2) (List.all_eq_true.mp (He.ba c.b).2 d (List.mem_of_getElem? h))
end
theorem clsF_ok {K : PySem.W.Frag} {x : Str} (c1 : (He.Fa.cls x).ok K = true) (c : clsB x K = true) : ClsF K (He.ga K x) := by
  obtain ⟨h1, c⟩ := He.ba c
  obtain ⟨h2, c⟩ := He.ba c
  obtain ⟨h3, h4⟩ := He.ba c
  exact ⟨He.cls_ok c1, of_decide_eq_true h1, of_decide_eq_true h2, of_decide_eq_true h3, of_decide_eq_true h4⟩
theorem cread_ok {K : PySem.W.Frag} {x : Str} (c : creadB x K = true) : ClX.CRead K (He.ga K x) (.type "type") := by
  obtain ⟨h1, h2⟩ := He.ba c
  exact ⟨h1, of_decide_eq_true h2⟩
theorem rpl_str {K : PySem.W.Frag} {G : Hp} : ∀ l : List Str, RpL K G (l.map D.str) (l.map V.str)
  | [] => .nil
  | x :: l => .cons (.str x) (rpl_str l)
theorem cval_ok {K : PySem.W.Frag} {x f : Str} {l : List Str} (c : cvalB x f l K = true) : ∃ v u, ClX.CVal K (He.ga K x) (.type "type") f v u ∧ ∀ G, Rp K G (.tup (l.map D.str)) v := by
  unfold cvalB at c
  cases q : PySem.W.findCls K (.ref (He.ga K x)) (.type "type") f with
  | none => rw [q] at c; cases c
  | some r =>
    rw [q] at c
    cases r with
    | val u =>
      cases u with
      | ref a =>
        refine ⟨.ref a, .ref a, ⟨q, rfl⟩, fun G => ?_⟩
        cases z : K.lookup a with
        | none =>
          have c' : (match K.lookup a with
            | some ⟨.type c, _, .seq its _, _⟩ => decide (c = "tuple") && (decide (its.size ≤ sizeLine) && He.relAll (l.map V.str) its.toList)
            | _ => false) = true := c
          rw [z] at c'
          cases c'
        | some o =>
          obtain ⟨oc, od, dt, osl⟩ := o
          have c' : (match K.lookup a with
            | some ⟨.type c, _, .seq its _, _⟩ => decide (c = "tuple") && (decide (its.size ≤ sizeLine) && He.relAll (l.map V.str) its.toList)
            | _ => false) = true := c
          rw [z] at c'
          cases oc with
          | type cn =>
            cases dt with
            | seq its n =>
              obtain ⟨h1, h2⟩ := He.ba (show (decide (cn = "tuple") && (decide (its.size ≤ sizeLine) && He.relAll (l.map V.str) its.toList)) = true from c')
              obtain ⟨h3, h4⟩ := He.ba h2
              exact .tup (xs := l.map V.str) (.inr ⟨_, its, n, z, congrArg Value.type (of_decide_eq_true h1), rfl, of_decide_eq_true h3, He.relAll_ok h4⟩) (rpl_str l)
            | _ => cases c'
          | _ => cases dt <;> cases c'
      | _ => cases c
    | _ => cases c
theorem prop_ok {K : PySem.W.Frag} {x f : Str} (c : propB x f K = true) : PropOf K (He.ga K x) f (He.ma K (He.ga K x) f) (propAd x f K) := by
  obtain ⟨h1, c⟩ := He.ba c
  obtain ⟨h2, c⟩ := He.ba c
  obtain ⟨h3, h4⟩ := He.ba c
  refine ⟨of_decide_eq_true h1, of_decide_eq_true h2, of_decide_eq_true h3, ?_⟩
  unfold propAd
  revert h4
  cases PySem.W.recIn K (He.ma K (He.ga K x) f) "property" with
  | none => intro h; cases h
  | some l =>
    cases l with
    | nil => intro h; cases h
    | cons v l =>
      cases v with
      | ref g => intro _; exact ⟨l, rfl⟩
      | _ => intro h; cases h
theorem oex_ok {K : PySem.W.Frag} {x : Str} (c : oexB x K = true) : ∃ nm q N bs bm sn sub ab col dd k0 k1 k2 k3 k5, K.lookup (He.ga K x) = some (excClassObj nm q (He.ga K x) N bs bm true sn sub ab col dd k0 k1 k2 k3 k5 "ValueError.__new__") ∧ PySem.HandSPX.refsVE bm = true := by
  unfold oexB at c
  cases z : K.lookup (He.ga K x) with
  | none => rw [z] at c; cases c
  | some o =>
    obtain ⟨oc, od, dt, osl⟩ := o
    rw [z] at c
    cases oc with
    | type t =>
      cases dt with
      | cls cd =>
        obtain ⟨h1, c2⟩ := He.ba (show (decide (t = "type") && (match cd.mro, osl.toList with
          | .ref C' :: bm, [_, _, _, _, some (.builtin n), _] => decide (C' = He.ga K x) && (decide (n = "ValueError.__new__") && (!cd.hasDel && (cd.hasDict && PySem.HandSPX.refsVE bm)))
          | _, _ => false)) = true from c)
        have h1 := of_decide_eq_true h1
        subst h1
        split at c2
        · rename_i C' bm k0 k1 k2 k3 n k5 hm hs
          obtain ⟨e1, c3⟩ := He.ba c2
          obtain ⟨e2, c4⟩ := He.ba c3
          obtain ⟨e3, c5⟩ := He.ba c4
          obtain ⟨e4, e5⟩ := He.ba c5
          have e1 := of_decide_eq_true e1
          have e2 := of_decide_eq_true e2
          obtain ⟨nm, bs, mro, ns, qn, hd, sn, sub, ab, col, del⟩ := cd
          dsimp only at hm e3 e4
          subst hm e1 e2 e4
          cases del with
          | true => cases e3
          | false =>
            have hsl : osl = #[k0, k1, k2, k3, some (.builtin "ValueError.__new__"), k5] := by
              obtain ⟨l⟩ := osl
              simp only at hs
              rw [hs]
            subst hsl
            exact ⟨nm, qn, ns, bs, bm, sn, sub, ab, col, od, k0, k1, k2, k3, k5, rfl, e5⟩
        · cases c2
      | _ => cases c
    | _ => cases dt <;> cases c
section
variable {K : PySem.W.Frag} {x : Str} {bG bC bM : Bool} {mg : Str → Option Value} {h : Heap}
theorem exc_look (c : excB x bG bC bM K = true) (i : Nat) {f : Ex} (e : (excLs x bG bC bM)[i]? = some f := by rfl) : f K = true := List.all_eq_true.mp c f (List.mem_of_getElem? e)
theorem oexC_ok (c : excB x bG bC bM K = true) : OexC K (He.ga K x) :=
  ⟨oex_ok (exc_look c 0), of_decide_eq_true (exc_look c 1), of_decide_eq_true (exc_look c 2), of_decide_eq_true (exc_look c 3), exc_look c 4⟩
theorem errF_ok (X : K.In h) (G : h.Ns mainGlobals mg) (cg : (He.Fa.glo x).ok K = true) (cE : (He.Fa.glo "GrowsError").ok K = true) (c : excB x bG bC bM K = true) : ErrF K mg x (He.ga K x) (fIof K) := by
  refine ⟨oexC_ok c, of_decide_eq_true (exc_look c 5), of_decide_eq_true (exc_look c 6), ⟨fun D hD => ?_⟩, He.glo_ok X G cg⟩
  have e := (He.eqO_ok cE).symm.trans hD
  have e2 : He.ga K "GrowsError" = D := by
    injection e with e; injection e with e; injection e
  subst e2
  exact ⟨of_decide_eq_true (exc_look c 7), of_decide_eq_true (exc_look c 8), of_decide_eq_true (exc_look c 9)⟩
theorem tellC_ok (c : excB x bG bC bM K = true) : TellC K (He.ga K "GrowsError") (He.ga K "MixesGroups") (He.ga K "ClashingCalls") (He.ga K "MissingAnchor") (He.ga K x) bG bC bM :=
  ⟨of_decide_eq_true (exc_look c 17), ⟨of_decide_eq_true (exc_look c 10), of_decide_eq_true (exc_look c 11), of_decide_eq_true (exc_look c 2), exc_look c 12, of_decide_eq_true (exc_look c 13), of_decide_eq_true (exc_look c 14), of_decide_eq_true (exc_look c 15), of_decide_eq_true (exc_look c 16)⟩,
    ⟨of_decide_eq_true (exc_look c 10), of_decide_eq_true (exc_look c 11), of_decide_eq_true (exc_look c 2), exc_look c 12⟩, of_decide_eq_true (exc_look c 6), of_decide_eq_true (exc_look c 18), of_decide_eq_true (exc_look c 19), of_decide_eq_true (exc_look c 20), of_decide_eq_true (exc_look c 21)⟩
end
theorem file_ok {K : PySem.W.Frag} {file : Str} {cd : Value} (h : fileB K file cd = true) : ∃ c, cd = .ref c ∧ ∃ cl cdd vs sl tf, K.lookup c = some ⟨cl, cdd, .fields vs, sl⟩ ∧ vs[2]? = some (.str file tf) := by
  cases cd with
  | ref c =>
    refine ⟨c, rfl, ?_⟩
    have h' : (match K.lookup c with
      | some ⟨_, _, .fields vs, _⟩ => (match (vs[2]? : Option Value) with
        | some (.str f _) => decide (f = file)
        | _ => false)
      | _ => false) = true := h
    cases z : K.lookup c with
    | none => rw [z] at h'; cases h'
    | some o =>
      obtain ⟨oc, od, dt, osl⟩ := o
      rw [z] at h'
      cases dt with
      | fields vs =>
        have h2 : (match (vs[2]? : Option Value) with
          | some (.str f _) => decide (f = file)
          | _ => false) = true := h'
        cases y : vs[2]? with
        | none => rw [y] at h2; cases h2
        | some v =>
          rw [y] at h2
          cases v with
          | str f t =>
            have e : f = file := of_decide_eq_true h2
            subst e
            exact ⟨oc, od, vs, osl, t, rfl, y⟩
          | _ => cases h2
      | _ => cases h'
  | _ => cases h
theorem cell_ok {K : PySem.W.Frag} {D : Addr} {n : Str} {cl : List (Str × Addr)} (hn : cl.map (·.1) = [n]) (h : cellB K D cl = true) : ∃ cc, cl = [(n, cc)] ∧ ∃ c d sl, K.lookup cc = some ⟨c, d, .cell (some (.ref D)), sl⟩ := by
  match cl, hn, h with
  | [(m, cc)], hn, h =>
    have e : m = n := by
      have z : [m] = [n] := hn
      injection z
    subst e
    refine ⟨cc, rfl, ?_⟩
    have h' : (match K.lookup cc with
      | some ⟨_, _, .cell (some (.ref a)), _⟩ => decide (a = D)
      | _ => false) = true := h
    cases z : K.lookup cc with
    | none => rw [z] at h'; cases h'
    | some o =>
      obtain ⟨oc, od, dt, osl⟩ := o
      rw [z] at h'
      cases dt with
      | cell v =>
        cases v with
        | none => cases h'
        | some v =>
          cases v with
          | ref a =>
            have e : a = D := of_decide_eq_true h'
            subst e
            exact ⟨oc, od, osl, rfl⟩
          | _ => cases h'
      | _ => cases h'
section
variable {fa : List He.Fa} {fn : List He.DefD} {ex : List Ex} {fc : List FcD} {K : PySem.W.Frag} {mg : Str → Option Value} {h : Heap} {P : Program} {w : World} {base : Heap}
theorem errX_ok (i : Nat) (X : K.In h) (G : h.Ns mainGlobals mg) (c : SaysS fa fn ex fc K) (hi : fc[i]? = some dErr) (ce : errB P.main.file K = true) (co : opqB K = true) (cE : (He.Fa.glo "GrowsError").ok K = true) (fr : Free mg)
    (htop : (P.main.scope.names.lookup ("super" : Str)).isSome = false) : ErrI P w K mg base (fIof K) := by
  obtain ⟨oc, od, osl, kV, doc, pm, an, cdv, ct, cl, lk, hcd, hcl⟩ := c.fobj i hi
  obtain ⟨h1, h2⟩ := He.ba ce
  obtain ⟨h3, h4⟩ := He.ba h2
  have lk' : K.lookup (fIof K) = some ⟨oc, od, .func (PySem.W.fnX dErr.name dErr.qual dErr.params dErr.body dErr.scope cl .none kV doc pm an cdv ct), osl⟩ := lk
  rw [lk'] at h4
  obtain ⟨h5, h6⟩ := He.ba (show (fileB K P.main.file cdv && cellB K (He.ga K "GrowsError") cl) = true from h4)
  obtain ⟨cda, rfl, hf⟩ := file_ok h5
  obtain ⟨cc, rfl, hc⟩ := cell_ok (n := "__class__") hcl h6
  exact errI_of (D := He.ga K "GrowsError") (cda := cda) (cc := cc) ⟨⟨oc, od, osl, kV, doc, pm, an, ct, rfl, lk'⟩, of_decide_eq_true h1, hcd, hf, hc, Option.isSome_iff_exists.mp h3, He.eqO_ok cE, fr.super, fr.repr, htop, of_decide_eq_true co⟩
theorem rowG_ok (i : Nat) (c : SaysS fa fn ex fc K) (hi : fc[i]? = some dRow) (cp : propB "Growth" "row" K = true) (L : GrowF K mg (He.ga K "Growth")) : GrowR P w K mg base (He.ga K "Growth") := by
  obtain ⟨oc, od, osl, kV, doc, pm, an, cdv, ct, cl, lk, hcd, hcl⟩ := c.fobj i hi
  have e : cl = [] := List.map_eq_nil_iff.mp hcl
  subst e
  have F : F_Growth_row K (propAd "Growth" "row" K) _ := ⟨⟨oc, od, .none, kV, doc, pm, an, cdv, ct, osl, rfl, lk, hcd, .inl ⟨rfl, rfl⟩, .inl rfl⟩, by
    unfold PySem.W.keepIn
    have lk' : K.lookup (propAd "Growth" "row" K) = some ⟨oc, od, .func (PySem.W.fnX dRow.name dRow.qual dRow.params dRow.body dRow.scope [] .none kV doc pm an cdv ct), osl⟩ := lk
    show (match K.lookup (propAd "Growth" "row" K) with
      | some ⟨_, _, .func _, _⟩ => true
      | some ⟨_, _, .cls _, _⟩ => PySem.W.specialIn K (.ref (propAd "Growth" "row" K)) "__call__" == some (some (.builtin "type.__call__"))
      | _ => false) = true
    rw [lk']⟩
  exact ⟨_, _, _, _, prop_ok cp, fn_Growth_row F L, bs_Growth_row F⟩
end
end TSgHk
/-! SgFacts: printed by gen_head.py. -/
section TSgFacts
set_option maxHeartbeats 0
open PySem PySem.Spec PyProof.Rows L2
/-- no exception leaves: the plain context -/
theorem FnOk.plain {P : Program} {w : World} {K : PySem.W.Frag} {mg : Str → Option Value} {base : Heap} {k : Nat} {f : Addr} {fd : FuncData} {ps : List Str} {sp : Sp} (F : FnOk P w K mg base (L2.CX P w) k f fd ps sp) :
    FnOk P w K mg base L2.CX0 k f fd ps (fun vs H Q _ => sp vs H Q fun _ _ _ => False) :=
  ⟨fun vs H Q E h => F.len vs H Q _ h, fun A outer s H args us vs Q E hr e0 hb rv h => codeAny_mono (F.run A outer s H args us vs Q _ hr e0 hb rv h) fun r s' z => by
    cases r with
    | ok fl => cases fl <;> exact z
    | error e =>
      obtain ⟨_, _, _, _, _, _, _, _, _, _, _, _, z⟩ := z
      exact z.elim⟩
theorem hfacts {w : World} {K : PySem.W.Frag} {h : Heap} {mg : Str → Option Value} {f : Addr} (X : K.In h) (G : h.Ns mainGlobals mg) (hfa' : mg ("law" : Str) = some (.ref f)) (c : SaysS hfa hfn hex hfc K)
    (htop : (HR.prog.main.scope.names.lookup ("super" : Str)).isSome = false) :
    ∃ fd : FuncData, (∀ (s : Shared) (v : Value), BindsTo s fd ⟨[v], []⟩ [("_law_script", v)]) ∧ ∀ base : Heap, FnOk HR.prog w K mg base (L2.CX HR.prog w) 10 f fd ["_law_script"] (spD K w FS_law) := by
  have d := c.d
  have fr : Free mg := ⟨He.free_ok X G (d.fact 0 (f := .free "range") rfl), He.free_ok X G (d.fact 1 (f := .free "len") rfl), He.free_ok X G (d.fact 2 (f := .free "int") rfl), He.free_ok X G (d.fact 3 (f := .free "list") rfl), He.free_ok X G (d.fact 4 (f := .free "tuple") rfl), He.free_ok X G (d.fact 5 (f := .free "sum") rfl), He.free_ok X G (d.fact 6 (f := .free "min") rfl), He.free_ok X G (d.fact 7 (f := .free "sorted") rfl), He.free_ok X G (d.fact 8 (f := .free "isinstance") rfl), He.free_ok X G (d.fact 9 (f := .free "bool") rfl), He.free_ok X G (d.fact 10 (f := .free "str") rfl), He.free_ok X G (d.fact 11 (f := .free "enumerate") rfl), He.free_ok X G (d.fact 12 (f := .free "repr") rfl), He.free_ok X G (d.fact 13 (f := .free "super") rfl), He.free_ok X G (d.fact 14 (f := .free "ValueError") rfl)⟩
  have md : Mods mg K := ⟨fr, He.str_ok X G (d.fact 15 (f := .str "LETTERS" LET) rfl), _, (He.glo_ok X G (d.fact 16 (f := .glo "RIM") rfl)), fun H => He.tupB_ok (vs := [.non, .int 0]) (c.look 13) H⟩
  have cCall : ClsF K (He.ga K "Call") := clsF_ok (d.fact 64 (f := .cls "Call") rfl) (c.look 1)
  have naCall : ∀ f ∈ (["station", "seen", "group", "anchor", "number", "clock", "key"] : List Str), NoAttr K (He.ga K "Call") f := fun f hf => by
    simp only [List.mem_cons, List.not_mem_nil, or_false] at hf
    rcases hf with rfl | rfl | rfl | rfl | rfl | rfl | rfl
    · exact He.noat_ok (d.fact 66 (f := .noat "Call" "station") rfl)
    · exact He.noat_ok (d.fact 67 (f := .noat "Call" "seen") rfl)
    · exact He.noat_ok (d.fact 68 (f := .noat "Call" "group") rfl)
    · exact He.noat_ok (d.fact 69 (f := .noat "Call" "anchor") rfl)
    · exact He.noat_ok (d.fact 70 (f := .noat "Call" "number") rfl)
    · exact He.noat_ok (d.fact 71 (f := .noat "Call" "clock") rfl)
    · exact He.noat_ok (d.fact 72 (f := .noat "Call" "key") rfl)
  have mkCall := He.mkr_ok (d.fact 65 (f := .mkr "Call") rfl)
  have cGrowth : ClsF K (He.ga K "Growth") := clsF_ok (d.fact 73 (f := .cls "Growth") rfl) (c.look 2)
  have naGrowth : ∀ f ∈ (["start", "joins", "_end"] : List Str), NoAttr K (He.ga K "Growth") f := fun f hf => by
    simp only [List.mem_cons, List.not_mem_nil, or_false] at hf
    rcases hf with rfl | rfl | rfl
    · exact He.noat_ok (d.fact 75 (f := .noat "Growth" "start") rfl)
    · exact He.noat_ok (d.fact 76 (f := .noat "Growth" "joins") rfl)
    · exact He.noat_ok (d.fact 77 (f := .noat "Growth" "_end") rfl)
  have mkGrowth := He.mkr_ok (d.fact 74 (f := .mkr "Growth") rfl)
  have cRule : ClsF K (He.ga K "Rule") := clsF_ok (d.fact 78 (f := .cls "Rule") rfl) (c.look 3)
  have naRule : ∀ f ∈ (["side", "order", "link"] : List Str), NoAttr K (He.ga K "Rule") f := fun f hf => by
    simp only [List.mem_cons, List.not_mem_nil, or_false] at hf
    rcases hf with rfl | rfl | rfl
    · exact He.noat_ok (d.fact 80 (f := .noat "Rule" "side") rfl)
    · exact He.noat_ok (d.fact 81 (f := .noat "Rule" "order") rfl)
    · exact He.noat_ok (d.fact 82 (f := .noat "Rule" "link") rfl)
  have mkRule := He.mkr_ok (d.fact 79 (f := .mkr "Rule") rfl)
  have L : CallF K mg (He.ga K "Call") := ⟨cCall, (He.glo_ok X G (d.fact 18 (f := .glo "Call") rfl)), naCall⟩
  have LG : GrowF K mg (He.ga K "Growth") := ⟨cGrowth, (He.glo_ok X G (d.fact 19 (f := .glo "Growth") rfl)), naGrowth⟩
  have rd := cread_ok (c.look 4 (f := creadB "Rule") rfl)
  obtain ⟨vSIDES, uSIDES, qSIDES, rSIDES⟩ := cval_ok (c.look 5)
  obtain ⟨vORDERS, uORDERS, qORDERS, rORDERS⟩ := cval_ok (c.look 6)
  obtain ⟨vLINKS, uLINKS, qLINKS, rLINKS⟩ := cval_ok (c.look 7)
  have LR : RuleF K mg (He.ga K "Rule") := ⟨cRule, (He.glo_ok X G (d.fact 20 (f := .glo "Rule") rfl)), naRule, ⟨_, _, _, rd, qSIDES, rSIDES⟩, ⟨_, _, _, rd, qORDERS, rORDERS⟩, ⟨_, _, _, rd, qLINKS, rLINKS⟩⟩
  have EFMixesGroups := errF_ok (mg := mg) X G (d.fact 21 (f := .glo "MixesGroups") rfl) (d.fact 17 (f := .glo "GrowsError") rfl) (c.look 9 (f := excB "MixesGroups" true false false) rfl)
  have TCMixesGroups := tellC_ok (c.look 9 (f := excB "MixesGroups" true false false) rfl)
  have EFClashingCalls := errF_ok (mg := mg) X G (d.fact 22 (f := .glo "ClashingCalls") rfl) (d.fact 17 (f := .glo "GrowsError") rfl) (c.look 10 (f := excB "ClashingCalls" false true false) rfl)
  have TCClashingCalls := tellC_ok (c.look 10 (f := excB "ClashingCalls" false true false) rfl)
  have EFMissingAnchor := errF_ok (mg := mg) X G (d.fact 23 (f := .glo "MissingAnchor") rfl) (d.fact 17 (f := .glo "GrowsError") rfl) (c.look 11 (f := excB "MissingAnchor" false false true) rfl)
  have TCMissingAnchor := tellC_ok (c.look 11 (f := excB "MissingAnchor" false false true) rfl)
  have T : ToldC K mg (He.ga K "GrowsError") (He.ga K "MixesGroups") (He.ga K "ClashingCalls") (He.ga K "MissingAnchor") := ⟨(He.glo_ok X G (d.fact 17 (f := .glo "GrowsError") rfl)), (He.glo_ok X G (d.fact 21 (f := .glo "MixesGroups") rfl)), (He.glo_ok X G (d.fact 22 (f := .glo "ClashingCalls") rfl)), (He.glo_ok X G (d.fact 23 (f := .glo "MissingAnchor") rfl))⟩
  obtain ⟨_, F_is_group⟩ := d.def_ 0 rfl
  obtain ⟨_, F_check_group⟩ := d.def_ 1 rfl
  obtain ⟨_, F_is_anchor⟩ := d.def_ 2 rfl
  obtain ⟨_, F_is_call⟩ := d.def_ 3 rfl
  obtain ⟨_, F_row_after⟩ := d.def_ 4 rfl
  obtain ⟨_, F_check_keys⟩ := d.def_ 5 rfl
  obtain ⟨_, F_in_stamp_order⟩ := d.def_ 6 rfl
  obtain ⟨_, F_signs_of⟩ := d.def_ 7 rfl
  obtain ⟨_, F_check_anchors⟩ := d.def_ 8 rfl
  obtain ⟨_, F_outward⟩ := d.def_ 9 rfl
  obtain ⟨_, F_hangings⟩ := d.def_ 10 rfl
  obtain ⟨_, F_layout⟩ := d.def_ 11 rfl
  obtain ⟨_, F_row_of⟩ := d.def_ 12 rfl
  obtain ⟨_, F_growth_from⟩ := d.def_ 13 rfl
  obtain ⟨_, F_law_new⟩ := d.def_ 14 rfl
  obtain ⟨_, F_law_draw⟩ := d.def_ 15 rfl
  obtain ⟨_, F_law_same⟩ := d.def_ 16 rfl
  obtain ⟨_, F_law_rising⟩ := d.def_ 17 rfl
  obtain ⟨_, F_law_word⟩ := d.def_ 18 rfl
  obtain ⟨_, F_law_groups⟩ := d.def_ 19 rfl
  obtain ⟨_, F_law_history⟩ := d.def_ 20 rfl
  obtain ⟨_, F_law_key⟩ := d.def_ 21 rfl
  obtain ⟨_, F_law_past⟩ := d.def_ 22 rfl
  obtain ⟨_, F_law_within⟩ := d.def_ 23 rfl
  obtain ⟨_, F_law_cut⟩ := d.def_ 24 rfl
  obtain ⟨_, F_law_by_stamps⟩ := d.def_ 25 rfl
  obtain ⟨_, F_law_layout⟩ := d.def_ 26 rfl
  obtain ⟨_, F_law_sign⟩ := d.def_ 27 rfl
  obtain ⟨_, F_law_once⟩ := d.def_ 28 rfl
  obtain ⟨_, F_law_calls⟩ := d.def_ 29 rfl
  obtain ⟨_, F_law_due⟩ := d.def_ 30 rfl
  obtain ⟨_, F_law_spoilt⟩ := d.def_ 31 rfl
  obtain ⟨_, F_law_all_rules⟩ := d.def_ 32 rfl
  obtain ⟨_, F_law_refusal⟩ := d.def_ 33 rfl
  obtain ⟨_, F_law_told⟩ := d.def_ 34 rfl
  obtain ⟨_, F_law_grows⟩ := d.def_ 35 rfl
  obtain ⟨_, F_law_judged⟩ := d.def_ 36 rfl
  obtain ⟨_, F_law_part⟩ := d.def_ 37 rfl
  obtain ⟨_, F_law_fixed⟩ := d.def_ 38 rfl
  obtain ⟨_, F_law⟩ := d.def_ 39 rfl
  obtain ⟨_, F_Call_init⟩ := d.def_ 40 rfl
  obtain ⟨_, F_Call_eq⟩ := d.def_ 41 rfl
  obtain ⟨_, F_Growth_init⟩ := d.def_ 42 rfl
  obtain ⟨_, F_Growth_stages⟩ := d.def_ 43 rfl
  obtain ⟨_, F_Rule_init⟩ := d.def_ 44 rfl
  obtain ⟨_, F_Rule_text⟩ := d.def_ 45 rfl
  have elaw := hfa'.symm.trans (He.glo_ok X G (d.fact 63 (f := .glo "law") rfl))
  have efa : f = He.ga K "law" := by injection elaw with e; injection e
  subst efa
  refine ⟨_, fun s v => FunD.bindsA (ps := ["_law_script"]) F_law (fun _ _ _ _ _ _ us hl => match us, hl with | [_], _ => rfl) s [v] rfl, fun base => ?_⟩
  have EI : ErrI HR.prog w K mg base (fIof K) := errX_ok 0 X G c rfl (c.look 12 (f := errB HR.prog.main.file) rfl) (c.look 0 (f := opqB) rfl) (d.fact 17 (f := .glo "GrowsError") rfl) fr htop
  have W_is_group := fn_is_group (P := HR.prog) (w := w) (mg := mg) (base := base) F_is_group (He.glo_ok X G (d.fact 24 (f := .glo "is_group") rfl)) md
  have W_check_group := fn_check_group (P := HR.prog) (w := w) (mg := mg) (base := base) F_check_group (He.glo_ok X G (d.fact 25 (f := .glo "check_group") rfl)) W_is_group
  have W_is_anchor := fn_is_anchor (P := HR.prog) (w := w) (mg := mg) (base := base) F_is_anchor (He.glo_ok X G (d.fact 26 (f := .glo "is_anchor") rfl)) md
  have W_is_call := fn_is_call (P := HR.prog) (w := w) (mg := mg) (base := base) F_is_call (He.glo_ok X G (d.fact 27 (f := .glo "is_call") rfl)) fr W_is_group W_is_anchor
  have O_Call_init := fn_Call_init (P := HR.prog) (w := w) (mg := mg) (base := base) F_Call_init L fr W_is_call
  have O_Call_eq := fn_Call_eq (P := HR.prog) (w := w) (mg := mg) (base := base) F_Call_eq L fr
  have O_Rule_init := fn_Rule_init (P := HR.prog) (w := w) (mg := mg) (base := base) F_Rule_init LR
  have O_Rule_text := fn_Rule_text (P := HR.prog) (w := w) (mg := mg) (base := base) F_Rule_text LR
  have mEq := He.meth_ok (d.fact 83 (f := .meth "Call" "__eq__") rfl)
  have Le : CallE HR.prog w K mg base (He.ga K "Call") := ⟨_, _, _, O_Call_eq, mEq.at_, mEq.fn, bs_Call_eq F_Call_eq⟩
  have MC : CallM HR.prog w K mg base (He.ga K "Call") := ⟨_, _, _, mkCall, O_Call_init, bs_Call_init rfl F_Call_init⟩
  have MR : RuleM HR.prog w K mg base (He.ga K "Rule") := ⟨_, _, _, mkRule, O_Rule_init, bs_Rule_init rfl F_Rule_init⟩
  have RT : RuleT HR.prog w K mg base (He.ga K "Rule") := ⟨_, _, _, O_Rule_text, He.meth_ok (d.fact 84 (f := .meth "Rule" "text") rfl), bs_Rule_text F_Rule_text⟩
  have W_row_after := fn_row_after (P := HR.prog) (w := w) (mg := mg) (base := base) F_row_after (He.glo_ok X G (d.fact 28 (f := .glo "row_after") rfl)) 
  have O_Growth_init := fn_Growth_init (P := HR.prog) (w := w) (mg := mg) (base := base) F_Growth_init LG fr W_row_after W_check_group
  have MG : GrowM HR.prog w K mg base (He.ga K "Growth") := ⟨_, _, _, mkGrowth, O_Growth_init, bs_Growth_init rfl F_Growth_init⟩
  have GG : GrowG HR.prog w K mg base (He.ga K "Growth") := ⟨_, _, _, gfn_stages F_Growth_stages LG W_row_after, He.meth_ok (d.fact 85 (f := .meth "Growth" "stages") rfl), bs_Growth_stages F_Growth_stages⟩
  have GR : GrowR HR.prog w K mg base (He.ga K "Growth") := rowG_ok 1 c rfl (c.look 8 (f := propB "Growth" "row") rfl) LG
  have W_check_keys := fn_check_keys (P := HR.prog) (w := w) (mg := mg) (base := base) F_check_keys (He.glo_ok X G (d.fact 29 (f := .glo "check_keys") rfl)) fr L Le EFClashingCalls EI
  have W_in_stamp_order := fn_in_stamp_order (P := HR.prog) (w := w) (mg := mg) (base := base) F_in_stamp_order (He.glo_ok X G (d.fact 30 (f := .glo "in_stamp_order") rfl)) fr L W_check_keys
  have W_signs_of := fn_signs_of (P := HR.prog) (w := w) (mg := mg) (base := base) F_signs_of (He.glo_ok X G (d.fact 31 (f := .glo "signs_of") rfl)) fr
  have W_check_anchors := fn_check_anchors (P := HR.prog) (w := w) (mg := mg) (base := base) F_check_anchors (He.glo_ok X G (d.fact 32 (f := .glo "check_anchors") rfl)) md L EFMissingAnchor EI W_signs_of
  have W_outward := fn_outward (P := HR.prog) (w := w) (mg := mg) (base := base) F_outward (He.glo_ok X G (d.fact 33 (f := .glo "outward") rfl)) fr LR W_signs_of
  have W_hangings := fn_hangings (P := HR.prog) (w := w) (mg := mg) (base := base) F_hangings (He.glo_ok X G (d.fact 34 (f := .glo "hangings") rfl)) fr L LR W_outward
  have W_layout := fn_layout (P := HR.prog) (w := w) (mg := mg) (base := base) F_layout (He.glo_ok X G (d.fact 35 (f := .glo "layout") rfl)) md L LR W_in_stamp_order W_check_anchors W_hangings W_outward
  have W_row_of := fn_row_of (P := HR.prog) (w := w) (mg := mg) (base := base) F_row_of (He.glo_ok X G (d.fact 36 (f := .glo "row_of") rfl)) fr L W_layout
  have W_growth_from := fn_growth_from (P := HR.prog) (w := w) (mg := mg) (base := base) F_growth_from (He.glo_ok X G (d.fact 37 (f := .glo "growth_from") rfl)) md L LR LG MG RT EFMixesGroups EI W_signs_of W_in_stamp_order W_layout W_row_of
  have W_law_key := fn_law_key (P := HR.prog) (w := w) (mg := mg) (base := base) F_law_key (He.glo_ok X G (d.fact 45 (f := .glo "_law_key") rfl)) 
  have W_law_new := fn_law_new (P := HR.prog) (w := w) (mg := mg) (base := base) F_law_new (He.glo_ok X G (d.fact 38 (f := .glo "_law_new") rfl)) fr
  have W_law_draw := fn_law_draw (P := HR.prog) (w := w) (mg := mg) (base := base) F_law_draw (He.glo_ok X G (d.fact 39 (f := .glo "_law_draw") rfl)) fr
  have W_law_same := fn_law_same (P := HR.prog) (w := w) (mg := mg) (base := base) F_law_same (He.glo_ok X G (d.fact 40 (f := .glo "_law_same") rfl)) fr
  have W_law_rising := fn_law_rising (P := HR.prog) (w := w) (mg := mg) (base := base) F_law_rising (He.glo_ok X G (d.fact 41 (f := .glo "_law_rising") rfl)) fr
  have W_law_word := fn_law_word (P := HR.prog) (w := w) (mg := mg) (base := base) F_law_word (He.glo_ok X G (d.fact 42 (f := .glo "_law_word") rfl)) fr W_law_draw
  have W_law_groups := fn_law_groups (P := HR.prog) (w := w) (mg := mg) (base := base) F_law_groups (He.glo_ok X G (d.fact 43 (f := .glo "_law_groups") rfl)) fr W_law_draw W_law_word
  have W_law_history := fn_law_history (P := HR.prog) (w := w) (mg := mg) (base := base) F_law_history (He.glo_ok X G (d.fact 44 (f := .glo "_law_history") rfl)) fr W_law_draw
  have W_law_past := fn_law_past (P := HR.prog) (w := w) (mg := mg) (base := base) F_law_past (He.glo_ok X G (d.fact 46 (f := .glo "_law_past") rfl)) fr
  have W_law_within := fn_law_within (P := HR.prog) (w := w) (mg := mg) (base := base) F_law_within (He.glo_ok X G (d.fact 47 (f := .glo "_law_within") rfl)) fr W_law_key
  have W_law_cut := fn_law_cut (P := HR.prog) (w := w) (mg := mg) (base := base) F_law_cut (He.glo_ok X G (d.fact 48 (f := .glo "_law_cut") rfl)) fr W_law_draw W_law_past
  have W_law_by_stamps := fn_law_by_stamps (P := HR.prog) (w := w) (mg := mg) (base := base) F_law_by_stamps (He.glo_ok X G (d.fact 49 (f := .glo "_law_by_stamps") rfl)) fr W_law_rising W_law_key
  have W_law_layout := fn_law_layout (P := HR.prog) (w := w) (mg := mg) (base := base) F_law_layout (He.glo_ok X G (d.fact 50 (f := .glo "_law_layout") rfl)) fr W_law_rising W_law_key W_law_by_stamps
  have W_law_sign := fn_law_sign (P := HR.prog) (w := w) (mg := mg) (base := base) F_law_sign (He.glo_ok X G (d.fact 51 (f := .glo "_law_sign") rfl)) W_law_key
  have W_law_once := fn_law_once (P := HR.prog) (w := w) (mg := mg) (base := base) F_law_once (He.glo_ok X G (d.fact 52 (f := .glo "_law_once") rfl)) 
  have W_law_calls := fn_law_calls (P := HR.prog) (w := w) (mg := mg) (base := base) F_law_calls (He.glo_ok X G (d.fact 53 (f := .glo "_law_calls") rfl)) fr L MC
  have W_law_due := fn_law_due (P := HR.prog) (w := w) (mg := mg) (base := base) F_law_due (He.glo_ok X G (d.fact 54 (f := .glo "_law_due") rfl)) fr W_law_rising W_law_key W_law_by_stamps W_law_once
  have W_law_spoilt := fn_law_spoilt (P := HR.prog) (w := w) (mg := mg) (base := base) F_law_spoilt (He.glo_ok X G (d.fact 55 (f := .glo "_law_spoilt") rfl)) fr W_law_draw
  have W_law_all_rules := fn_law_all_rules (P := HR.prog) (w := w) (mg := mg) (base := base) F_law_all_rules (He.glo_ok X G (d.fact 56 (f := .glo "_law_all_rules") rfl)) 
  have W_law_refusal := fn_law_refusal (P := HR.prog) (w := w) (mg := mg) (base := base) F_law_refusal (He.glo_ok X G (d.fact 57 (f := .glo "_law_refusal") rfl)) fr W_law_due
  have W_law_told := fn_law_told (P := HR.prog) (w := w) (mg := mg) (base := base) F_law_told (He.glo_ok X G (d.fact 58 (f := .glo "_law_told") rfl)) fr LR MR T TCMixesGroups TCClashingCalls TCMissingAnchor W_growth_from W_law_calls
  have W_law_grows := fn_law_grows (P := HR.prog) (w := w) (mg := mg) (base := base) F_law_grows (He.glo_ok X G (d.fact 59 (f := .glo "_law_grows") rfl)) fr L LR LG MR GG GR W_law_once W_law_by_stamps W_law_layout W_law_sign W_law_key W_law_calls W_growth_from (W_law_same 4)
  have W_law_judged := fn_law_judged (P := HR.prog) (w := w) (mg := mg) (base := base) F_law_judged (He.glo_ok X G (d.fact 60 (f := .glo "_law_judged") rfl)) W_law_refusal W_law_grows W_law_told (W_law_same 4)
  have W_law_part := fn_law_part (P := HR.prog) (w := w) (mg := mg) (base := base) F_law_part (He.glo_ok X G (d.fact 61 (f := .glo "_law_part") rfl)) fr LR MR W_law_key W_law_layout W_layout W_row_of W_law_calls W_law_sign (W_law_same 4)
  have W_law_fixed := fn_law_fixed (P := HR.prog) (w := w) (mg := mg) (base := base) F_law_fixed (He.glo_ok X G (d.fact 62 (f := .glo "_law_fixed") rfl)) 
  exact fnok_law F_law fr W_law_new W_law_draw W_law_word W_law_groups W_law_history W_law_within W_law_cut W_law_fixed W_law_all_rules W_law_part W_law_judged W_law_spoilt
theorem hlaw {w : World} {K : PySem.W.Frag} {H : Hp} {a : Addr} {ns : List Int} (hS : SqL K H a (ns.map V.int)) : spD K w FS_law [.ref a] H (fun v _ => v = .bl true) (fun _ _ _ => False) :=
  ⟨H, [], [.scr ns], fun d _ => d = .bl true, noX, ⟨fun _ _ z => z, List.nodup_nil, fun _ z => nomatch z⟩, .cons (.scr hS) .nil, ⟨ns, rfl, fun _ => rfl⟩, fun v d m G' H' e _ _ r => by
    subst e
    cases r
    rfl, fun _ _ _ _ _ _ _ z => z.elim⟩
theorem htop : (HR.prog.main.scope.names.lookup ("super" : Str)).isSome = false := by kernel_rfl
end TSgFacts
end SG
set_option maxHeartbeats 0
/-! SgEnd: printed by gen_head.py. -/
open PySem PySem.W PySem.Calls PyProof.Rows
theorem PySem.Challenge.cw_stillgrows_k14_whole_late_calls_join_who_holds : PySem.Challenge.rw_stillgrows_k14_whole_late_calls_join_who.Holds := by
  w_on; o_law
  refine HandSHeadRun.head_any (r := OpenLaw.row PySem.Challenge.rw_stillgrows_k14_whole_late_calls_join_who) (q := view (OpenLaw.row PySem.Challenge.rw_stillgrows_k14_whole_late_calls_join_who).prog [66]) (H := SG.hhk) (ob := SG.hob) (M := 6000) (loose := SG.hn1 ++ SG.hn2) (d := HandSHeadRun.topDef (OpenLaw.row PySem.Challenge.rw_stillgrows_k14_whole_late_calls_join_who).prog 66) (kwd := []) SG.hob_eq
    (by kernel_rfl) (fun s => by kernel_rfl) SG.hrun (by kernel_rfl) (by kernel_rfl) (by kernel_rfl) (by rfl) (by first | assumption | decide +kernel) (by decide +kernel) ⟨rfl, rfl, rfl, rfl, rfl, by decide +kernel⟩ ?hw ?hc
  case hw => w_witness2
  case hc =>
    refine L2.walk_ofE (l := PySem.Challenge.rw_stillgrows_k14_whole_late_calls_join_who) (n := 63) (k := 10) (x := "_law_script") (CX := L2.CX0) rfl (by decide) (by kernel_rfl) ⟨rfl, by decide, by decide⟩ ?F (fun _ _ _ _ z => z)
    intro w mg fa h Y G hmg0
    obtain ⟨K, KX, c⟩ := Y
    have hmg : mg ("law" : PySem.Str) = some (.ref fa) := by
      have e : (HandSHeadRun.topDef (OpenLaw.row PySem.Challenge.rw_stillgrows_k14_whole_late_calls_join_who).prog 66).name = ("law" : PySem.Str) := by kernel_rfl
      rw [← e]
      exact hmg0
    obtain ⟨fd, hb, hF⟩ := SG.hfacts (w := w) KX G hmg c SG.htop
    exact ⟨K, fd, fun vs H Q _ => SG.spD K w SG.FS_law vs H Q fun _ _ _ => False, KX, hb, fun H a ns hl _ hS => SG.hlaw hS, fun base _ _ => SG.FnOk.plain (hF base)⟩
