import PyProof.Rows.All
import HandS.Base
import HandS.Call
import HandS.List
import HandS.More
import HandS.Dict
import HandS.HeadHook2
import Wide.All
import OpenK.AllK
import Wide.FinOn
import KE.KStateDown
import HandS.Ends
import HandS.Words
import HandS.WordsExc
import HandS.Defaults
import HandS.Head0
import HandS.Head1
import HandS.Head2
import HandS.HeadEnd
import HandS.HeadHook1
import HandS.HeadHook3
import HandS.HeadHook4
import HandS.HeadWalk
import PySem.Challenge.RW_mingleway_k40_whole_guards_let_just_thei
import HandS.Comp
import HandS.Iter
import HandS.Text
import HandS.WordsList
import HandS.TupAny
import HandS.TupMul
import HandS.Zip
import HandS.IsInst
import HandS.MakeKwOnly
import HandS.AnyAll
import KE.GoesEnum
import KE.GoesEnumKw
import HandS.SortKw
import HandS.Lambda
import HandS.ExcValue
import KE.KSortKeyAny
import HandS.OwnIter
import HandS.NamedTupGet
import HandS.ExcOwn
import HandS.TryMany
import HandS.ExcCtx
import HandS.HotCalls
import HandS.ExcIs
import KE.KTryMore
import HandS.EndTab
import KE.KNestM
set_option warn.classDefReducibility false
/-! ## R5 -/
set_option Elab.async false
set_option linter.all false
set_option maxRecDepth 100000
set_option maxHeartbeats 4000000
/-! a dict of the module: int keys, tuples of ints -/
namespace R5
open PySem PySem.Spec PyProof.Rows L2 He
def keyB : DictEntry → Bool
  | ⟨h, .int i _, _⟩ => h == hashInt i
  | _ => false
def rowB (K : PySem.W.Frag) (l : List Int) : Option Value → Bool
  | some (.ref a) => match K.lookup a with
    | some ⟨.type c, _, .seq its _, _⟩ => decide (c = "tuple") && (decide (its.size ≤ sizeLine) && relAll (l.map V.int) its.toList)
    | _ => false
  | _ => false
def mapB (K : PySem.W.Frag) (x : Str) (kvs : List (Int × List Int)) : Bool := match K.lookup (He.ga K x) with
  | some ⟨.type c, none, .dict es _, sl⟩ => decide (c = "dict") && (sl.isEmpty && (es.toList.all keyB && kvs.all fun kv => rowB K kv.2 (findBy Value.isInt es kv.1)))
  | _ => false
def rMap (K : PySem.W.Frag) (d : Addr) (kvs : List (Int × List Int)) : R2 := fun x y H Q => ∃ kv ∈ kvs, x = .ref d ∧ y = .int kv.1 ∧ ∀ a, (∀ H', SqT K H' a (kv.2.map V.int)) → Q (.ref a) H
theorem keys_of {P : Program} {w : World} {es : Array DictEntry} (h : es.toList.all keyB = true) : KeysOf (intKind P w) es := fun e he => by
  have := List.all_eq_true.mp h e (Array.mem_toList_iff.mpr he)
  obtain ⟨hh, k, v⟩ := e
  cases k with
  | int i t =>
    have e2 : (hh == hashInt i) = true := this
    exact ⟨i, by show (i == i) = true; simp, eq_of_beq e2⟩
  | _ => cases this
theorem ix_map {X : Cx} {K : PySem.W.Frag} {x : Str} {kvs : List (Int × List Int)} (h : mapB K x kvs = true) (hK : X.K = K := by rfl) : IxR X (rMap K (He.ga K x) kvs) := by
  subst hK
  intro value slice pins s σ H y z v u Q I rx ry ⟨kv, hm, e1, e2, q⟩ hs
  subst e1 e2
  obtain rfl : v = Value.ref (He.ga X.K x) := rx
  obtain ⟨t, rfl⟩ := ry
  unfold mapB at h
  split at h
  · rename_i c es n sl hlk
    obtain ⟨h1, h⟩ := Bool.and_eq_true_iff.mp h
    obtain ⟨h2, h⟩ := Bool.and_eq_true_iff.mp h
    obtain ⟨h3, h4⟩ := Bool.and_eq_true_iff.mp h
    have h1 := of_decide_eq_true h1
    subst h1
    have h2 : sl = #[] := by simpa using h2
    subst h2
    have hmo : s.heap.MapOf (intKind X.prog X.w) (He.ga X.K x) (fun k => findBy Value.isInt es k) := ⟨_, es, n, I.kIn _ _ hlk, ⟨rfl, rfl, rfl⟩, rfl, keys_of h3, fun _ => rfl⟩
    have h5 := List.all_eq_true.mp h4 kv hm
    unfold rowB at h5
    split at h5
    · rename_i a hf
      split at h5
      · rename_i c od its n2 osl hla
        obtain ⟨k1, k2⟩ := Bool.and_eq_true_iff.mp h5
        obtain ⟨k2, k3⟩ := Bool.and_eq_true_iff.mp k2
        have k1 := of_decide_eq_true k1
        subst k1
        refine tail_any hmo.typeIs slot_dict_getitem.lookup (wpAny_getItem_of (knd := intKind X.prog X.w) (k := kv.1) (by show (kv.1 == kv.1) = true; simp) hmo hf ⟨.ref a, H, I.tok _, rfl, q a (fun _ => .inr ⟨_, its, _, hla, rfl, rfl, of_decide_eq_true k2, relAll_ok k3⟩)⟩) hs
      · cases h5
    · cases h5
  · cases h
end R5
/-! ## Txt -/
set_option Elab.async false
set_option linter.all false
set_option maxRecDepth 100000
set_option maxHeartbeats 0
namespace KT
open PySem PySem.Spec PyProof.Rows L2
def top (i : Nat) : Stmt := PySem.Challenge.pw_mingleway_k40_whole_guards_let_just_thei.main.body.getD i (.Pass ⟨0, 0, 0, 0⟩)

abbrev s_grown : Stmt := top 33
abbrev s_Field_init : Stmt := inClass (top 34) 0
abbrev s_Field_size : Stmt := inClass (top 34) 5
abbrev s_Field_has : Stmt := inClass (top 34) 7
abbrev s_Field_need : Stmt := inClass (top 34) 8
abbrev s_Field_figures : Stmt := inClass (top 34) 9
abbrev s_Field_composed : Stmt := inClass (top 34) 10
abbrev s_Field_added : Stmt := inClass (top 34) 11
abbrev s_Field_less : Stmt := inClass (top 34) 13
abbrev s_Field_product : Stmt := inClass (top 34) 14
abbrev s_Field_inverse : Stmt := inClass (top 34) 16
abbrev s_Field_needs_row : Stmt := inClass (top 34) 19
abbrev s_Field_scaled : Stmt := inClass (top 34) 20
abbrev s_Field_joined : Stmt := inClass (top 34) 21
abbrev s_Field_along : Stmt := inClass (top 34) 22
abbrev s_first_place : Stmt := top 36
abbrev s_Span_init : Stmt := inClass (top 37) 0
abbrev s_Span_len : Stmt := inClass (top 37) 2
abbrev s_Span_lowered : Stmt := inClass (top 37) 4
abbrev s_Span_put : Stmt := inClass (top 37) 5
abbrev s_need_words : Stmt := top 39
abbrev s_checked : Stmt := top 41
abbrev s_Guard_init : Stmt := inClass (top 42) 0
abbrev s_Guard_lets : Stmt := inClass (top 42) 1
abbrev s_Guard_checks : Stmt := inClass (top 42) 2
abbrev s_Guard_room : Stmt := inClass (top 42) 3
abbrev s_l_added : Stmt := top 44
abbrev s_l_alike : Stmt := top 45
abbrev s_l_all_rows : Stmt := top 46
abbrev s_l_along : Stmt := top 47
abbrev s_l_bag : Stmt := top 48
abbrev s_l_blend : Stmt := top 49
abbrev s_l_in : Stmt := top 50
abbrev s_l_kind : Stmt := top 51
abbrev s_l_less : Stmt := top 52
abbrev s_l_pull : Stmt := top 53
abbrev s_l_raised : Stmt := top 54
abbrev s_l_rank : Stmt := top 55
abbrev s_l_room_so : Stmt := top 56
abbrev s_l_root : Stmt := top 57
abbrev s_l_row : Stmt := top 58
abbrev s_l_rows : Stmt := top 59
abbrev s_l_scaled : Stmt := top 60
abbrev s_l_share : Stmt := top 61
abbrev s_l_size : Stmt := top 62
abbrev s_l_solved : Stmt := top 63
abbrev s_l_summed : Stmt := top 64
abbrev s_l_times : Stmt := top 65
abbrev s_l_unit : Stmt := top 66
abbrev s_l_whole : Stmt := top 67
abbrev s_l_why : Stmt := top 68
abbrev s_l_words : Stmt := top 69
abbrev s_law : Stmt := top 70
open He
def d_grown : DefD := ⟨("grown", none), "grown", "grown", defArgs s_grown, defBody s_grown, defScope s_grown, [], []⟩
def d_Field_init : DefD := ⟨("Field", some "__init__"), "__init__", "Field.__init__", defArgs s_Field_init, defBody s_Field_init, defScope s_Field_init, [.int 16], []⟩
def d_Field_size : DefD := ⟨("Field", some "size"), "size", "Field.size", defArgs s_Field_size, defBody s_Field_size, defScope s_Field_size, [], []⟩
def d_Field_has : DefD := ⟨("Field", some "has"), "has", "Field.has", defArgs s_Field_has, defBody s_Field_has, defScope s_Field_has, [], []⟩
def d_Field_need : DefD := ⟨("Field", some "need"), "need", "Field.need", defArgs s_Field_need, defBody s_Field_need, defScope s_Field_need, [], []⟩
def d_Field_figures : DefD := ⟨("Field", some "figures"), "figures", "Field.figures", defArgs s_Field_figures, defBody s_Field_figures, defScope s_Field_figures, [], []⟩
def d_Field_composed : DefD := ⟨("Field", some "composed"), "composed", "Field.composed", defArgs s_Field_composed, defBody s_Field_composed, defScope s_Field_composed, [], []⟩
def d_Field_added : DefD := ⟨("Field", some "added"), "added", "Field.added", defArgs s_Field_added, defBody s_Field_added, defScope s_Field_added, [], []⟩
def d_Field_less : DefD := ⟨("Field", some "less"), "less", "Field.less", defArgs s_Field_less, defBody s_Field_less, defScope s_Field_less, [], []⟩
def d_Field_product : DefD := ⟨("Field", some "product"), "product", "Field.product", defArgs s_Field_product, defBody s_Field_product, defScope s_Field_product, [], []⟩
def d_Field_inverse : DefD := ⟨("Field", some "inverse"), "inverse", "Field.inverse", defArgs s_Field_inverse, defBody s_Field_inverse, defScope s_Field_inverse, [], []⟩
def d_Field_needs_row : DefD := ⟨("Field", some "needs_row"), "needs_row", "Field.needs_row", defArgs s_Field_needs_row, defBody s_Field_needs_row, defScope s_Field_needs_row, [], []⟩
def d_Field_scaled : DefD := ⟨("Field", some "scaled"), "scaled", "Field.scaled", defArgs s_Field_scaled, defBody s_Field_scaled, defScope s_Field_scaled, [], []⟩
def d_Field_joined : DefD := ⟨("Field", some "joined"), "joined", "Field.joined", defArgs s_Field_joined, defBody s_Field_joined, defScope s_Field_joined, [.int 1], []⟩
def d_Field_along : DefD := ⟨("Field", some "along"), "along", "Field.along", defArgs s_Field_along, defBody s_Field_along, defScope s_Field_along, [], []⟩
def d_first_place : DefD := ⟨("first_place", none), "first_place", "first_place", defArgs s_first_place, defBody s_first_place, defScope s_first_place, [], []⟩
/-- the keyword default () of Span.__init__ -/
def dRows (K : PySem.W.Frag) : Addr := match K.lookup (fAd K ("Span", some "__init__")) with
  | some ⟨_, _, .func fd, _⟩ => (match fd.kwdefaults with
    | .ref D => (match PySem.W.nsIn K D "rows" with
      | some (some (.ref a)) => a
      | _ => 0)
    | _ => 0)
  | _ => 0
def d_Span_init : DefD := ⟨("Span", some "__init__"), "__init__", "Span.__init__", defArgs s_Span_init, defBody s_Span_init, defScope s_Span_init, [], [("rows", .adr dRows)]⟩
def d_Span_len : DefD := ⟨("Span", some "__len__"), "__len__", "Span.__len__", defArgs s_Span_len, defBody s_Span_len, defScope s_Span_len, [], []⟩
def d_Span_lowered : DefD := ⟨("Span", some "lowered"), "lowered", "Span.lowered", defArgs s_Span_lowered, defBody s_Span_lowered, defScope s_Span_lowered, [], []⟩
def d_Span_put : DefD := ⟨("Span", some "put"), "put", "Span.put", defArgs s_Span_put, defBody s_Span_put, defScope s_Span_put, [], []⟩
def d_need_words : DefD := ⟨("need_words", none), "need_words", "need_words", defArgs s_need_words, defBody s_need_words, defScope s_need_words, [], []⟩
def d_checked : DefD := ⟨("checked", none), "checked", "checked", defArgs s_checked, defBody s_checked, defScope s_checked, [], []⟩
def d_Guard_init : DefD := ⟨("Guard", some "__init__"), "__init__", "Guard.__init__", defArgs s_Guard_init, defBody s_Guard_init, defScope s_Guard_init, [], []⟩
def d_Guard_lets : DefD := ⟨("Guard", some "lets"), "lets", "Guard.lets", defArgs s_Guard_lets, defBody s_Guard_lets, defScope s_Guard_lets, [], []⟩
def d_Guard_checks : DefD := ⟨("Guard", some "checks"), "checks", "Guard.checks", defArgs s_Guard_checks, defBody s_Guard_checks, defScope s_Guard_checks, [], []⟩
def d_Guard_room : DefD := ⟨("Guard", some "room"), "room", "Guard.room", defArgs s_Guard_room, defBody s_Guard_room, defScope s_Guard_room, [], []⟩
def d_l_added : DefD := ⟨("_law_added", none), "_law_added", "_law_added", defArgs s_l_added, defBody s_l_added, defScope s_l_added, [], []⟩
def d_l_alike : DefD := ⟨("_law_alike", none), "_law_alike", "_law_alike", defArgs s_l_alike, defBody s_l_alike, defScope s_l_alike, [], []⟩
def d_l_all_rows : DefD := ⟨("_law_all_rows", none), "_law_all_rows", "_law_all_rows", defArgs s_l_all_rows, defBody s_l_all_rows, defScope s_l_all_rows, [], []⟩
def d_l_along : DefD := ⟨("_law_along", none), "_law_along", "_law_along", defArgs s_l_along, defBody s_l_along, defScope s_l_along, [], []⟩
def d_l_bag : DefD := ⟨("_law_bag", none), "_law_bag", "_law_bag", defArgs s_l_bag, defBody s_l_bag, defScope s_l_bag, [], []⟩
def d_l_blend : DefD := ⟨("_law_blend", none), "_law_blend", "_law_blend", defArgs s_l_blend, defBody s_l_blend, defScope s_l_blend, [], []⟩
def d_l_in : DefD := ⟨("_law_in", none), "_law_in", "_law_in", defArgs s_l_in, defBody s_l_in, defScope s_l_in, [], []⟩
def d_l_kind : DefD := ⟨("_law_kind", none), "_law_kind", "_law_kind", defArgs s_l_kind, defBody s_l_kind, defScope s_l_kind, [], []⟩
def d_l_less : DefD := ⟨("_law_less", none), "_law_less", "_law_less", defArgs s_l_less, defBody s_l_less, defScope s_l_less, [], []⟩
def d_l_pull : DefD := ⟨("_law_pull", none), "_law_pull", "_law_pull", defArgs s_l_pull, defBody s_l_pull, defScope s_l_pull, [], []⟩
def d_l_raised : DefD := ⟨("_law_raised", none), "_law_raised", "_law_raised", defArgs s_l_raised, defBody s_l_raised, defScope s_l_raised, [], []⟩
def d_l_rank : DefD := ⟨("_law_rank", none), "_law_rank", "_law_rank", defArgs s_l_rank, defBody s_l_rank, defScope s_l_rank, [], []⟩
def d_l_room_so : DefD := ⟨("_law_room_so", none), "_law_room_so", "_law_room_so", defArgs s_l_room_so, defBody s_l_room_so, defScope s_l_room_so, [], []⟩
def d_l_root : DefD := ⟨("_law_root", none), "_law_root", "_law_root", defArgs s_l_root, defBody s_l_root, defScope s_l_root, [], []⟩
def d_l_row : DefD := ⟨("_law_row", none), "_law_row", "_law_row", defArgs s_l_row, defBody s_l_row, defScope s_l_row, [], []⟩
def d_l_rows : DefD := ⟨("_law_rows", none), "_law_rows", "_law_rows", defArgs s_l_rows, defBody s_l_rows, defScope s_l_rows, [], []⟩
def d_l_scaled : DefD := ⟨("_law_scaled", none), "_law_scaled", "_law_scaled", defArgs s_l_scaled, defBody s_l_scaled, defScope s_l_scaled, [], []⟩
def d_l_share : DefD := ⟨("_law_share", none), "_law_share", "_law_share", defArgs s_l_share, defBody s_l_share, defScope s_l_share, [], []⟩
def d_l_size : DefD := ⟨("_law_size", none), "_law_size", "_law_size", defArgs s_l_size, defBody s_l_size, defScope s_l_size, [], []⟩
def d_l_solved : DefD := ⟨("_law_solved", none), "_law_solved", "_law_solved", defArgs s_l_solved, defBody s_l_solved, defScope s_l_solved, [], []⟩
def d_l_summed : DefD := ⟨("_law_summed", none), "_law_summed", "_law_summed", defArgs s_l_summed, defBody s_l_summed, defScope s_l_summed, [], []⟩
def d_l_times : DefD := ⟨("_law_times", none), "_law_times", "_law_times", defArgs s_l_times, defBody s_l_times, defScope s_l_times, [], []⟩
def d_l_unit : DefD := ⟨("_law_unit", none), "_law_unit", "_law_unit", defArgs s_l_unit, defBody s_l_unit, defScope s_l_unit, [], []⟩
def d_l_whole : DefD := ⟨("_law_whole", none), "_law_whole", "_law_whole", defArgs s_l_whole, defBody s_l_whole, defScope s_l_whole, [], []⟩
def d_l_why : DefD := ⟨("_law_why", none), "_law_why", "_law_why", defArgs s_l_why, defBody s_l_why, defScope s_l_why, [], []⟩
def d_l_words : DefD := ⟨("_law_words", none), "_law_words", "_law_words", defArgs s_l_words, defBody s_l_words, defScope s_l_words, [], []⟩
def d_law : DefD := ⟨("law", none), "law", "law", defArgs s_law, defBody s_law, defScope s_law, [], []⟩
def fn : List DefD := [d_grown, d_Field_init, d_Field_size, d_Field_has, d_Field_need, d_Field_figures, d_Field_composed, d_Field_added, d_Field_less, d_Field_product, d_Field_inverse, d_Field_needs_row, d_Field_scaled, d_Field_joined, d_Field_along, d_first_place, d_Span_init, d_Span_len, d_Span_lowered, d_Span_put, d_need_words, d_checked, d_Guard_init, d_Guard_lets, d_Guard_checks, d_Guard_room, d_l_added, d_l_alike, d_l_all_rows, d_l_along, d_l_bag, d_l_blend, d_l_in, d_l_kind, d_l_less, d_l_pull, d_l_raised, d_l_rank, d_l_room_so, d_l_root, d_l_row, d_l_rows, d_l_scaled, d_l_share, d_l_size, d_l_solved, d_l_summed, d_l_times, d_l_unit, d_l_whole, d_l_why, d_l_words, d_law]
def fa : List Fa := [
  .glo "grown", .glo "first_place", .glo "need_words", .glo "checked", .glo "_law_added", .glo "_law_alike",
  .glo "_law_all_rows", .glo "_law_along", .glo "_law_bag", .glo "_law_blend", .glo "_law_in", .glo "_law_kind",
  .glo "_law_less", .glo "_law_pull", .glo "_law_raised", .glo "_law_rank", .glo "_law_room_so", .glo "_law_root",
  .glo "_law_row", .glo "_law_rows", .glo "_law_scaled", .glo "_law_share", .glo "_law_size", .glo "_law_solved",
  .glo "_law_summed", .glo "_law_times", .glo "_law_unit", .glo "_law_whole", .glo "_law_why", .glo "_law_words",
  .glo "law", .glo "MingleError", .glo "BadSize", .glo "BadNumber", .glo "BadRow", .glo "BadName",
  .glo "BadLine", .glo "BadHearers", .glo "BadLoss", .glo "BadPlan", .glo "BadDeed", .glo "BadText",
  .glo "Ringed", .glo "Short", .glo "Narrow", .glo "Heavy", .glo "Unsolved", .glo "Missing",
  .glo "NoHouse", .glo "NoLine", .glo "Busy", .glo "Taken", .glo "Full", .glo "InUse",
  .glo "Told", .glo "NothingLeft", .glo "NoShare", .glo "Field", .glo "Span", .glo "Guard",
  .glo "SIZES", .glo "BASES", .glo "RULES", .free "len", .free "range", .free "divmod",
  .free "reversed", .free "enumerate", .free "all", .free "any", .free "tuple", .free "zip",
  .free "sorted", .free "list", .free "isinstance", .free "bool", .free "int", .free "str",
  .free "dict", .free "abs", .cls "Field", .mkr "Field", .noat "Field" "many", .noat "Field" "prime",
  .noat "Field" "places", .cls "Span", .mkr "Span", .noat "Span" "field_of", .noat "Span" "width", .noat "Span" "lead_rows",
  .noat "Span" "many", .cls "Guard", .mkr "Guard", .noat "Guard" "field_of", .noat "Guard" "width", .noat "Guard" "made",
  .meth "Field" "size", .meth "Field" "has", .meth "Field" "need", .meth "Field" "figures", .meth "Field" "composed", .meth "Field" "added",
  .meth "Field" "less", .meth "Field" "product", .meth "Field" "inverse", .meth "Field" "needs_row", .meth "Field" "scaled", .meth "Field" "joined",
  .meth "Field" "along", .meth "Span" "__len__", .meth "Span" "lowered", .meth "Span" "put", .meth "Guard" "lets", .meth "Guard" "checks",
  .meth "Guard" "room"]
abbrev R : PySem.W.OpenRow := PySem.W.OpenLaw.row PySem.Challenge.rw_mingleway_k40_whole_guards_let_just_thei
def rules : List (Int × List Int) := [(4, [1, 1]), (8, [1, 1, 0]), (9, [2, 0]), (16, [1, 1, 0, 0])]
def exT (K : PySem.W.Frag) : Bool := tupB K "SIZES" [.int 2, .int 3, .int 4, .int 5, .int 7, .int 8, .int 9, .int 11, .int 13, .int 16] && tupB K "BASES" [.int 2, .int 3, .int 5, .int 7, .int 11, .int 13]
/-- what is asked of BadRow -/
def exL (K : PySem.W.Frag) : List Bool := [
  PySem.W.excIn K (ga K "BadRow") [.type "ValueError", .type "Exception", .type "BaseException", .type "object"] "ValueError.__new__",
  PySem.W.keepIn K (.ref (ga K "BadRow")),
  PySem.W.subIn K (.ref (ga K "BadRow")) (.type "BaseException") == some true,
  PySem.W.typeIn K (.ref (ga K "BadRow")) == some (.type "type"),
  PySem.W.findIn K (.ref (ga K "BadRow")) "__getattribute__" == some (some (.builtin "BaseException.__getattribute__")),
  PySem.W.findIn K (.ref (ga K "BadRow")) "__getattr__" == some none,
  PySem.W.hasDictIn K (ga K "BadRow"),
  PySem.W.findIn K (.ref (ga K "BadRow")) "__class__" == some (some (.builtin "object.__class__")),
  PySem.W.specialIn K (.builtin "object.__class__") "__get__" == some (some (.builtin "getset_descriptor.__get__")),
  PySem.W.takesIn K (.builtin "object.__class__") == some true,
  PySem.W.mroIn K (ga K "BadRow") (.type "object") == some true,
  PySem.W.exmOne K (.ref (ga K "BadRow")) (.ref (ga K "NoHouse")) == some false,
  PySem.W.exmOne K (.ref (ga K "BadRow")) (.ref (ga K "NoLine")) == some false,
  PySem.W.exmOne K (.ref (ga K "BadRow")) (.ref (ga K "InUse")) == some false,
  PySem.W.exmOne K (.ref (ga K "BadRow")) (.ref (ga K "BadText")) == some false,
  PySem.W.exmOne K (.ref (ga K "BadRow")) (.ref (ga K "Heavy")) == some false,
  PySem.W.exmAny K (.ref (ga K "BadRow")) [.ref (ga K "MingleError"), .ref (ga K "Missing"), .ref (ga K "Busy"), .ref (ga K "NoShare")] == some true,
  PySem.W.kitOne K (.ref (ga K "BadRow")) (.ref (ga K "BadSize")) == some false,
  PySem.W.kitOne K (.ref (ga K "BadRow")) (.ref (ga K "BadNumber")) == some false,
  PySem.W.kitOne K (.ref (ga K "BadRow")) (.ref (ga K "BadRow")) == some true,
  PySem.W.kitOne K (.ref (ga K "BadRow")) (.ref (ga K "BadName")) == some false,
  PySem.W.kitOne K (.ref (ga K "BadRow")) (.ref (ga K "BadLine")) == some false,
  PySem.W.kitOne K (.ref (ga K "BadRow")) (.ref (ga K "BadHearers")) == some false,
  PySem.W.kitOne K (.ref (ga K "BadRow")) (.ref (ga K "BadLoss")) == some false,
  PySem.W.kitOne K (.ref (ga K "BadRow")) (.ref (ga K "BadPlan")) == some false,
  PySem.W.kitOne K (.ref (ga K "BadRow")) (.ref (ga K "BadDeed")) == some false,
  PySem.W.kitOne K (.ref (ga K "BadRow")) (.ref (ga K "BadText")) == some false,
  PySem.W.kitOne K (.ref (ga K "BadRow")) (.ref (ga K "Ringed")) == some false,
  PySem.W.kitOne K (.ref (ga K "BadRow")) (.ref (ga K "Short")) == some false,
  PySem.W.kitOne K (.ref (ga K "BadRow")) (.ref (ga K "Narrow")) == some false,
  PySem.W.kitOne K (.ref (ga K "BadRow")) (.ref (ga K "Heavy")) == some false,
  PySem.W.kitOne K (.ref (ga K "BadRow")) (.ref (ga K "Unsolved")) == some false,
  PySem.W.kitOne K (.ref (ga K "BadRow")) (.ref (ga K "NoHouse")) == some false,
  PySem.W.kitOne K (.ref (ga K "BadRow")) (.ref (ga K "NoLine")) == some false,
  PySem.W.kitOne K (.ref (ga K "BadRow")) (.ref (ga K "Taken")) == some false,
  PySem.W.kitOne K (.ref (ga K "BadRow")) (.ref (ga K "Full")) == some false,
  PySem.W.kitOne K (.ref (ga K "BadRow")) (.ref (ga K "InUse")) == some false,
  PySem.W.kitOne K (.ref (ga K "BadRow")) (.ref (ga K "Told")) == some false,
  PySem.W.kitOne K (.ref (ga K "BadRow")) (.ref (ga K "NothingLeft")) == some false,
  PySem.W.kitOne K (.ref (ga K "BadRow")) (.ref (ga K "NoShare")) == some false,
  !((cT K ("law", none)).2 == (cT K ("Span", some "put")).2)]
def exE (K : PySem.W.Frag) : Bool := (exL K).all id
def ex (K : PySem.W.Frag) : Bool := exT K && (R5.mapB K "RULES" rules && exE K)
def tf : List Defn := [("law", none), ("Span", some "put")]
def AS : List Addr := [
  3, 31, 44, 56, 68, 80, 92, 104, 116, 128, 140, 160, 179, 198, 210, 229, 241, 253, 273, 292, 304, 317, 329, 348, 360,
  372, 384, 388, 389, 390, 401, 569, 578, 665, 676, 681, 715, 726, 731, 736, 743, 750, 757, 764, 769, 774, 781, 788, 795, 800,
  807, 812, 817, 822, 827, 834, 839, 844, 851, 858, 865, 872, 877, 882, 30, 67, 391, 392, 393, 394, 400, 568, 577, 664, 675,
  680, 714, 725, 730, 735, 742, 749, 756, 763, 768, 773, 780, 787, 794, 799, 806, 811, 816, 821, 826, 833, 838, 843, 850, 857,
  864, 871, 876, 881, 414, 449, 463, 470, 477, 484, 489, 503, 510, 522, 541, 546, 552, 559, 594, 608, 622, 629, 693, 698, 705,
  712, 413, 409, 448, 462, 469, 476, 483, 488, 502, 509, 521, 540, 545, 551, 547, 558, 593, 587, 607, 621, 628, 692, 697, 704,
  711]
def obsA (g : Addr → Option Obj) : AlX := (obsT fa fn [] (frT g AS), ex (frT g AS) && tabsB g tf (frT g AS))
theorem saysA_of {w : World} {h : Heap} (e : obsA h.get? = valX fn [] w) : SaysX fa fn [] tf ex w h (frT h.get? AS) := by
  have e1 : obsT fa fn [] (frT h.get? AS) = valT fn [] w := congrArg Prod.fst e
  have e2 : (ex (frT h.get? AS) && tabsB h.get? tf (frT h.get? AS)) = true := congrArg Prod.snd e
  obtain ⟨h1, h2⟩ := Bool.and_eq_true_iff.mp e2
  have key : ∀ p ∈ tf, PySem.W.codeHdIn (frT h.get? AS) (cT (frT h.get? AS) p).1 (cT (frT h.get? AS) p).2 = true ∧ ∃ o, h.get? (cT (frT h.get? AS) p).2 = some o ∧ emptyTab o = true := fun p hp => by
    obtain ⟨h3, h4⟩ := Bool.and_eq_true_iff.mp (List.all_eq_true.mp h2 p hp)
    refine ⟨h3, ?_⟩
    cases q : h.get? (cT (frT h.get? AS) p).2 with
    | none => rw [q] at h4; cases h4
    | some o => rw [q] at h4; exact ⟨o, rfl, h4⟩
  refine ⟨e1, h1, fun p hp => (key p hp).1, fun p hp => ?_, fun p hp => ?_⟩
  · obtain ⟨_, o, q, z⟩ := key p hp
    exact frT_none q z
  · obtain ⟨_, o, q, z⟩ := key p hp
    rw [q, emptyTab_eq z]
def hk : PySem.W.Hook where
  α := AlX
  obs := fun s => obsA s.heap.get?
  val := fun w => valX fn [] w
  says := fun w h => ∃ K : PySem.W.Frag, K.In h ∧ SaysX fa fn [] tf ex w h K
  of := fun _ _ e => ⟨_, frT_in, saysA_of e⟩
  keeps := fun _ _ _ ⟨K, hK, c⟩ k => ⟨K, PySem.W.Frag.In.keeps hK k, ⟨c.t, c.more, c.hd, c.out, fun p hp => k _ _ (c.empty p hp)⟩⟩
def ob (s : PySem.W.SharedT) : AlX := obsA (HandSHeadRun.getT s)
theorem ob_eq (s : PySem.W.SharedT) : ob s = hk.obs s.abs := by
  have e : HandSHeadRun.getT s = s.abs.heap.get? := funext (HandSHeadRun.getT_eq s)
  show obsA (HandSHeadRun.getT s) = obsA s.abs.heap.get?
  rw [e]
def loose0 : List Str := ["_wall", "__name__", "MingleError", "BadSize", "BadNumber", "BadRow", "BadName", "BadLine", "BadHearers", "BadLoss", "BadPlan", "BadDeed", "BadText", "Ringed", "Short", "Narrow", "Heavy", "Unsolved", "Missing", "NoHouse", "NoLine", "Busy", "Taken", "Full", "InUse", "Told", "NothingLeft", "NoShare", "SIZES", "COMMON_SIZE"]
def loose1 : List Str := ["BASES", "RULES", "grown", "Field", "first_place", "Span", "need_words", "checked", "Guard", "_law_added", "_law_alike", "_law_all_rows", "_law_along", "_law_bag", "_law_blend", "_law_in", "_law_kind", "_law_less", "_law_pull", "_law_raised", "_law_rank", "_law_room_so", "_law_root", "_law_row", "_law_rows", "_law_scaled", "_law_share", "_law_size", "_law_solved", "_law_summed"]
def loose2 : List Str := ["_law_times", "_law_unit", "_law_whole", "_law_why", "_law_words"]
def loose : List Str := loose0 ++ loose1 ++ loose2

/-- what the walk knows of the text as the top has made it -/
structure Tx (K : PySem.W.Frag) (mg : Str → Option Value) : Prop where
  says : SaysD fa fn K
  g : ∀ (i : Nat) (x : Str), fa[i]? = some (.glo x) → mg x = some (.ref (ga K x))
  f : ∀ (i : Nat) (x : Str), fa[i]? = some (.free x) → mg x = none
  exb : ex K = true
theorem gl_grown {K : PySem.W.Frag} {mg : Str → Option Value} (T : Tx K mg) : mg "grown" = some (.ref (ga K "grown")) := T.g 0 _ rfl
theorem gl_first_place {K : PySem.W.Frag} {mg : Str → Option Value} (T : Tx K mg) : mg "first_place" = some (.ref (ga K "first_place")) := T.g 1 _ rfl
theorem gl_need_words {K : PySem.W.Frag} {mg : Str → Option Value} (T : Tx K mg) : mg "need_words" = some (.ref (ga K "need_words")) := T.g 2 _ rfl
theorem gl_checked {K : PySem.W.Frag} {mg : Str → Option Value} (T : Tx K mg) : mg "checked" = some (.ref (ga K "checked")) := T.g 3 _ rfl
theorem gl_l_added {K : PySem.W.Frag} {mg : Str → Option Value} (T : Tx K mg) : mg "_law_added" = some (.ref (ga K "_law_added")) := T.g 4 _ rfl
theorem gl_l_alike {K : PySem.W.Frag} {mg : Str → Option Value} (T : Tx K mg) : mg "_law_alike" = some (.ref (ga K "_law_alike")) := T.g 5 _ rfl
theorem gl_l_all_rows {K : PySem.W.Frag} {mg : Str → Option Value} (T : Tx K mg) : mg "_law_all_rows" = some (.ref (ga K "_law_all_rows")) := T.g 6 _ rfl
theorem gl_l_along {K : PySem.W.Frag} {mg : Str → Option Value} (T : Tx K mg) : mg "_law_along" = some (.ref (ga K "_law_along")) := T.g 7 _ rfl
theorem gl_l_bag {K : PySem.W.Frag} {mg : Str → Option Value} (T : Tx K mg) : mg "_law_bag" = some (.ref (ga K "_law_bag")) := T.g 8 _ rfl
theorem gl_l_blend {K : PySem.W.Frag} {mg : Str → Option Value} (T : Tx K mg) : mg "_law_blend" = some (.ref (ga K "_law_blend")) := T.g 9 _ rfl
theorem gl_l_in {K : PySem.W.Frag} {mg : Str → Option Value} (T : Tx K mg) : mg "_law_in" = some (.ref (ga K "_law_in")) := T.g 10 _ rfl
theorem gl_l_kind {K : PySem.W.Frag} {mg : Str → Option Value} (T : Tx K mg) : mg "_law_kind" = some (.ref (ga K "_law_kind")) := T.g 11 _ rfl
theorem gl_l_less {K : PySem.W.Frag} {mg : Str → Option Value} (T : Tx K mg) : mg "_law_less" = some (.ref (ga K "_law_less")) := T.g 12 _ rfl
theorem gl_l_pull {K : PySem.W.Frag} {mg : Str → Option Value} (T : Tx K mg) : mg "_law_pull" = some (.ref (ga K "_law_pull")) := T.g 13 _ rfl
theorem gl_l_raised {K : PySem.W.Frag} {mg : Str → Option Value} (T : Tx K mg) : mg "_law_raised" = some (.ref (ga K "_law_raised")) := T.g 14 _ rfl
theorem gl_l_rank {K : PySem.W.Frag} {mg : Str → Option Value} (T : Tx K mg) : mg "_law_rank" = some (.ref (ga K "_law_rank")) := T.g 15 _ rfl
theorem gl_l_room_so {K : PySem.W.Frag} {mg : Str → Option Value} (T : Tx K mg) : mg "_law_room_so" = some (.ref (ga K "_law_room_so")) := T.g 16 _ rfl
theorem gl_l_root {K : PySem.W.Frag} {mg : Str → Option Value} (T : Tx K mg) : mg "_law_root" = some (.ref (ga K "_law_root")) := T.g 17 _ rfl
theorem gl_l_row {K : PySem.W.Frag} {mg : Str → Option Value} (T : Tx K mg) : mg "_law_row" = some (.ref (ga K "_law_row")) := T.g 18 _ rfl
theorem gl_l_rows {K : PySem.W.Frag} {mg : Str → Option Value} (T : Tx K mg) : mg "_law_rows" = some (.ref (ga K "_law_rows")) := T.g 19 _ rfl
theorem gl_l_scaled {K : PySem.W.Frag} {mg : Str → Option Value} (T : Tx K mg) : mg "_law_scaled" = some (.ref (ga K "_law_scaled")) := T.g 20 _ rfl
theorem gl_l_share {K : PySem.W.Frag} {mg : Str → Option Value} (T : Tx K mg) : mg "_law_share" = some (.ref (ga K "_law_share")) := T.g 21 _ rfl
theorem gl_l_size {K : PySem.W.Frag} {mg : Str → Option Value} (T : Tx K mg) : mg "_law_size" = some (.ref (ga K "_law_size")) := T.g 22 _ rfl
theorem gl_l_solved {K : PySem.W.Frag} {mg : Str → Option Value} (T : Tx K mg) : mg "_law_solved" = some (.ref (ga K "_law_solved")) := T.g 23 _ rfl
theorem gl_l_summed {K : PySem.W.Frag} {mg : Str → Option Value} (T : Tx K mg) : mg "_law_summed" = some (.ref (ga K "_law_summed")) := T.g 24 _ rfl
theorem gl_l_times {K : PySem.W.Frag} {mg : Str → Option Value} (T : Tx K mg) : mg "_law_times" = some (.ref (ga K "_law_times")) := T.g 25 _ rfl
theorem gl_l_unit {K : PySem.W.Frag} {mg : Str → Option Value} (T : Tx K mg) : mg "_law_unit" = some (.ref (ga K "_law_unit")) := T.g 26 _ rfl
theorem gl_l_whole {K : PySem.W.Frag} {mg : Str → Option Value} (T : Tx K mg) : mg "_law_whole" = some (.ref (ga K "_law_whole")) := T.g 27 _ rfl
theorem gl_l_why {K : PySem.W.Frag} {mg : Str → Option Value} (T : Tx K mg) : mg "_law_why" = some (.ref (ga K "_law_why")) := T.g 28 _ rfl
theorem gl_l_words {K : PySem.W.Frag} {mg : Str → Option Value} (T : Tx K mg) : mg "_law_words" = some (.ref (ga K "_law_words")) := T.g 29 _ rfl
theorem gl_law {K : PySem.W.Frag} {mg : Str → Option Value} (T : Tx K mg) : mg "law" = some (.ref (ga K "law")) := T.g 30 _ rfl
theorem gl_MingleError {K : PySem.W.Frag} {mg : Str → Option Value} (T : Tx K mg) : mg "MingleError" = some (.ref (ga K "MingleError")) := T.g 31 _ rfl
theorem gl_BadSize {K : PySem.W.Frag} {mg : Str → Option Value} (T : Tx K mg) : mg "BadSize" = some (.ref (ga K "BadSize")) := T.g 32 _ rfl
theorem gl_BadNumber {K : PySem.W.Frag} {mg : Str → Option Value} (T : Tx K mg) : mg "BadNumber" = some (.ref (ga K "BadNumber")) := T.g 33 _ rfl
theorem gl_BadRow {K : PySem.W.Frag} {mg : Str → Option Value} (T : Tx K mg) : mg "BadRow" = some (.ref (ga K "BadRow")) := T.g 34 _ rfl
theorem gl_BadName {K : PySem.W.Frag} {mg : Str → Option Value} (T : Tx K mg) : mg "BadName" = some (.ref (ga K "BadName")) := T.g 35 _ rfl
theorem gl_BadLine {K : PySem.W.Frag} {mg : Str → Option Value} (T : Tx K mg) : mg "BadLine" = some (.ref (ga K "BadLine")) := T.g 36 _ rfl
theorem gl_BadHearers {K : PySem.W.Frag} {mg : Str → Option Value} (T : Tx K mg) : mg "BadHearers" = some (.ref (ga K "BadHearers")) := T.g 37 _ rfl
theorem gl_BadLoss {K : PySem.W.Frag} {mg : Str → Option Value} (T : Tx K mg) : mg "BadLoss" = some (.ref (ga K "BadLoss")) := T.g 38 _ rfl
theorem gl_BadPlan {K : PySem.W.Frag} {mg : Str → Option Value} (T : Tx K mg) : mg "BadPlan" = some (.ref (ga K "BadPlan")) := T.g 39 _ rfl
theorem gl_BadDeed {K : PySem.W.Frag} {mg : Str → Option Value} (T : Tx K mg) : mg "BadDeed" = some (.ref (ga K "BadDeed")) := T.g 40 _ rfl
theorem gl_BadText {K : PySem.W.Frag} {mg : Str → Option Value} (T : Tx K mg) : mg "BadText" = some (.ref (ga K "BadText")) := T.g 41 _ rfl
theorem gl_Ringed {K : PySem.W.Frag} {mg : Str → Option Value} (T : Tx K mg) : mg "Ringed" = some (.ref (ga K "Ringed")) := T.g 42 _ rfl
theorem gl_Short {K : PySem.W.Frag} {mg : Str → Option Value} (T : Tx K mg) : mg "Short" = some (.ref (ga K "Short")) := T.g 43 _ rfl
theorem gl_Narrow {K : PySem.W.Frag} {mg : Str → Option Value} (T : Tx K mg) : mg "Narrow" = some (.ref (ga K "Narrow")) := T.g 44 _ rfl
theorem gl_Heavy {K : PySem.W.Frag} {mg : Str → Option Value} (T : Tx K mg) : mg "Heavy" = some (.ref (ga K "Heavy")) := T.g 45 _ rfl
theorem gl_Unsolved {K : PySem.W.Frag} {mg : Str → Option Value} (T : Tx K mg) : mg "Unsolved" = some (.ref (ga K "Unsolved")) := T.g 46 _ rfl
theorem gl_Missing {K : PySem.W.Frag} {mg : Str → Option Value} (T : Tx K mg) : mg "Missing" = some (.ref (ga K "Missing")) := T.g 47 _ rfl
theorem gl_NoHouse {K : PySem.W.Frag} {mg : Str → Option Value} (T : Tx K mg) : mg "NoHouse" = some (.ref (ga K "NoHouse")) := T.g 48 _ rfl
theorem gl_NoLine {K : PySem.W.Frag} {mg : Str → Option Value} (T : Tx K mg) : mg "NoLine" = some (.ref (ga K "NoLine")) := T.g 49 _ rfl
theorem gl_Busy {K : PySem.W.Frag} {mg : Str → Option Value} (T : Tx K mg) : mg "Busy" = some (.ref (ga K "Busy")) := T.g 50 _ rfl
theorem gl_Taken {K : PySem.W.Frag} {mg : Str → Option Value} (T : Tx K mg) : mg "Taken" = some (.ref (ga K "Taken")) := T.g 51 _ rfl
theorem gl_Full {K : PySem.W.Frag} {mg : Str → Option Value} (T : Tx K mg) : mg "Full" = some (.ref (ga K "Full")) := T.g 52 _ rfl
theorem gl_InUse {K : PySem.W.Frag} {mg : Str → Option Value} (T : Tx K mg) : mg "InUse" = some (.ref (ga K "InUse")) := T.g 53 _ rfl
theorem gl_Told {K : PySem.W.Frag} {mg : Str → Option Value} (T : Tx K mg) : mg "Told" = some (.ref (ga K "Told")) := T.g 54 _ rfl
theorem gl_NothingLeft {K : PySem.W.Frag} {mg : Str → Option Value} (T : Tx K mg) : mg "NothingLeft" = some (.ref (ga K "NothingLeft")) := T.g 55 _ rfl
theorem gl_NoShare {K : PySem.W.Frag} {mg : Str → Option Value} (T : Tx K mg) : mg "NoShare" = some (.ref (ga K "NoShare")) := T.g 56 _ rfl
theorem gl_Field {K : PySem.W.Frag} {mg : Str → Option Value} (T : Tx K mg) : mg "Field" = some (.ref (ga K "Field")) := T.g 57 _ rfl
theorem gl_Span {K : PySem.W.Frag} {mg : Str → Option Value} (T : Tx K mg) : mg "Span" = some (.ref (ga K "Span")) := T.g 58 _ rfl
theorem gl_Guard {K : PySem.W.Frag} {mg : Str → Option Value} (T : Tx K mg) : mg "Guard" = some (.ref (ga K "Guard")) := T.g 59 _ rfl
theorem gl_SIZES {K : PySem.W.Frag} {mg : Str → Option Value} (T : Tx K mg) : mg "SIZES" = some (.ref (ga K "SIZES")) := T.g 60 _ rfl
theorem gl_BASES {K : PySem.W.Frag} {mg : Str → Option Value} (T : Tx K mg) : mg "BASES" = some (.ref (ga K "BASES")) := T.g 61 _ rfl
theorem gl_RULES {K : PySem.W.Frag} {mg : Str → Option Value} (T : Tx K mg) : mg "RULES" = some (.ref (ga K "RULES")) := T.g 62 _ rfl
theorem fr_len {K : PySem.W.Frag} {mg : Str → Option Value} (T : Tx K mg) : mg "len" = none := T.f 63 _ rfl
theorem fr_range {K : PySem.W.Frag} {mg : Str → Option Value} (T : Tx K mg) : mg "range" = none := T.f 64 _ rfl
theorem fr_divmod {K : PySem.W.Frag} {mg : Str → Option Value} (T : Tx K mg) : mg "divmod" = none := T.f 65 _ rfl
theorem fr_reversed {K : PySem.W.Frag} {mg : Str → Option Value} (T : Tx K mg) : mg "reversed" = none := T.f 66 _ rfl
theorem fr_enumerate {K : PySem.W.Frag} {mg : Str → Option Value} (T : Tx K mg) : mg "enumerate" = none := T.f 67 _ rfl
theorem fr_all {K : PySem.W.Frag} {mg : Str → Option Value} (T : Tx K mg) : mg "all" = none := T.f 68 _ rfl
theorem fr_any {K : PySem.W.Frag} {mg : Str → Option Value} (T : Tx K mg) : mg "any" = none := T.f 69 _ rfl
theorem fr_tuple {K : PySem.W.Frag} {mg : Str → Option Value} (T : Tx K mg) : mg "tuple" = none := T.f 70 _ rfl
theorem fr_zip {K : PySem.W.Frag} {mg : Str → Option Value} (T : Tx K mg) : mg "zip" = none := T.f 71 _ rfl
theorem fr_sorted {K : PySem.W.Frag} {mg : Str → Option Value} (T : Tx K mg) : mg "sorted" = none := T.f 72 _ rfl
theorem fr_list {K : PySem.W.Frag} {mg : Str → Option Value} (T : Tx K mg) : mg "list" = none := T.f 73 _ rfl
theorem fr_isinstance {K : PySem.W.Frag} {mg : Str → Option Value} (T : Tx K mg) : mg "isinstance" = none := T.f 74 _ rfl
theorem fr_bool {K : PySem.W.Frag} {mg : Str → Option Value} (T : Tx K mg) : mg "bool" = none := T.f 75 _ rfl
theorem fr_int {K : PySem.W.Frag} {mg : Str → Option Value} (T : Tx K mg) : mg "int" = none := T.f 76 _ rfl
theorem fr_str {K : PySem.W.Frag} {mg : Str → Option Value} (T : Tx K mg) : mg "str" = none := T.f 77 _ rfl
theorem fr_dict {K : PySem.W.Frag} {mg : Str → Option Value} (T : Tx K mg) : mg "dict" = none := T.f 78 _ rfl
theorem fr_abs {K : PySem.W.Frag} {mg : Str → Option Value} (T : Tx K mg) : mg "abs" = none := T.f 79 _ rfl
theorem cl_Field {K : PySem.W.Frag} {mg : Str → Option Value} (T : Tx K mg) : Cls K (ga K "Field") := cls_ok (T.says.fact 80 (f := .cls "Field") rfl)
theorem mk_Field {K : PySem.W.Frag} {mg : Str → Option Value} (T : Tx K mg) : Mk K (ga K "Field") (ma K (ga K "Field") "__init__") := mkr_ok (T.says.fact 81 (f := .mkr "Field") rfl)
theorem na_Field_many {K : PySem.W.Frag} {mg : Str → Option Value} (T : Tx K mg) : NoAttr K (ga K "Field") "many" := noat_ok (T.says.fact 82 (f := .noat "Field" "many") rfl)
theorem na_Field_prime {K : PySem.W.Frag} {mg : Str → Option Value} (T : Tx K mg) : NoAttr K (ga K "Field") "prime" := noat_ok (T.says.fact 83 (f := .noat "Field" "prime") rfl)
theorem na_Field_places {K : PySem.W.Frag} {mg : Str → Option Value} (T : Tx K mg) : NoAttr K (ga K "Field") "places" := noat_ok (T.says.fact 84 (f := .noat "Field" "places") rfl)
theorem cl_Span {K : PySem.W.Frag} {mg : Str → Option Value} (T : Tx K mg) : Cls K (ga K "Span") := cls_ok (T.says.fact 85 (f := .cls "Span") rfl)
theorem mk_Span {K : PySem.W.Frag} {mg : Str → Option Value} (T : Tx K mg) : Mk K (ga K "Span") (ma K (ga K "Span") "__init__") := mkr_ok (T.says.fact 86 (f := .mkr "Span") rfl)
theorem na_Span_field_of {K : PySem.W.Frag} {mg : Str → Option Value} (T : Tx K mg) : NoAttr K (ga K "Span") "field_of" := noat_ok (T.says.fact 87 (f := .noat "Span" "field_of") rfl)
theorem na_Span_width {K : PySem.W.Frag} {mg : Str → Option Value} (T : Tx K mg) : NoAttr K (ga K "Span") "width" := noat_ok (T.says.fact 88 (f := .noat "Span" "width") rfl)
theorem na_Span_lead_rows {K : PySem.W.Frag} {mg : Str → Option Value} (T : Tx K mg) : NoAttr K (ga K "Span") "lead_rows" := noat_ok (T.says.fact 89 (f := .noat "Span" "lead_rows") rfl)
theorem na_Span_many {K : PySem.W.Frag} {mg : Str → Option Value} (T : Tx K mg) : NoAttr K (ga K "Span") "many" := noat_ok (T.says.fact 90 (f := .noat "Span" "many") rfl)
theorem cl_Guard {K : PySem.W.Frag} {mg : Str → Option Value} (T : Tx K mg) : Cls K (ga K "Guard") := cls_ok (T.says.fact 91 (f := .cls "Guard") rfl)
theorem mk_Guard {K : PySem.W.Frag} {mg : Str → Option Value} (T : Tx K mg) : Mk K (ga K "Guard") (ma K (ga K "Guard") "__init__") := mkr_ok (T.says.fact 92 (f := .mkr "Guard") rfl)
theorem na_Guard_field_of {K : PySem.W.Frag} {mg : Str → Option Value} (T : Tx K mg) : NoAttr K (ga K "Guard") "field_of" := noat_ok (T.says.fact 93 (f := .noat "Guard" "field_of") rfl)
theorem na_Guard_width {K : PySem.W.Frag} {mg : Str → Option Value} (T : Tx K mg) : NoAttr K (ga K "Guard") "width" := noat_ok (T.says.fact 94 (f := .noat "Guard" "width") rfl)
theorem na_Guard_made {K : PySem.W.Frag} {mg : Str → Option Value} (T : Tx K mg) : NoAttr K (ga K "Guard") "made" := noat_ok (T.says.fact 95 (f := .noat "Guard" "made") rfl)
theorem me_Field_size {K : PySem.W.Frag} {mg : Str → Option Value} (T : Tx K mg) : Meth K (ga K "Field") "size" (ma K (ga K "Field") "size") := meth_ok (T.says.fact 96 (f := .meth "Field" "size") rfl)
theorem me_Field_has {K : PySem.W.Frag} {mg : Str → Option Value} (T : Tx K mg) : Meth K (ga K "Field") "has" (ma K (ga K "Field") "has") := meth_ok (T.says.fact 97 (f := .meth "Field" "has") rfl)
theorem me_Field_need {K : PySem.W.Frag} {mg : Str → Option Value} (T : Tx K mg) : Meth K (ga K "Field") "need" (ma K (ga K "Field") "need") := meth_ok (T.says.fact 98 (f := .meth "Field" "need") rfl)
theorem me_Field_figures {K : PySem.W.Frag} {mg : Str → Option Value} (T : Tx K mg) : Meth K (ga K "Field") "figures" (ma K (ga K "Field") "figures") := meth_ok (T.says.fact 99 (f := .meth "Field" "figures") rfl)
theorem me_Field_composed {K : PySem.W.Frag} {mg : Str → Option Value} (T : Tx K mg) : Meth K (ga K "Field") "composed" (ma K (ga K "Field") "composed") := meth_ok (T.says.fact 100 (f := .meth "Field" "composed") rfl)
theorem me_Field_added {K : PySem.W.Frag} {mg : Str → Option Value} (T : Tx K mg) : Meth K (ga K "Field") "added" (ma K (ga K "Field") "added") := meth_ok (T.says.fact 101 (f := .meth "Field" "added") rfl)
theorem me_Field_less {K : PySem.W.Frag} {mg : Str → Option Value} (T : Tx K mg) : Meth K (ga K "Field") "less" (ma K (ga K "Field") "less") := meth_ok (T.says.fact 102 (f := .meth "Field" "less") rfl)
theorem me_Field_product {K : PySem.W.Frag} {mg : Str → Option Value} (T : Tx K mg) : Meth K (ga K "Field") "product" (ma K (ga K "Field") "product") := meth_ok (T.says.fact 103 (f := .meth "Field" "product") rfl)
theorem me_Field_inverse {K : PySem.W.Frag} {mg : Str → Option Value} (T : Tx K mg) : Meth K (ga K "Field") "inverse" (ma K (ga K "Field") "inverse") := meth_ok (T.says.fact 104 (f := .meth "Field" "inverse") rfl)
theorem me_Field_needs_row {K : PySem.W.Frag} {mg : Str → Option Value} (T : Tx K mg) : Meth K (ga K "Field") "needs_row" (ma K (ga K "Field") "needs_row") := meth_ok (T.says.fact 105 (f := .meth "Field" "needs_row") rfl)
theorem me_Field_scaled {K : PySem.W.Frag} {mg : Str → Option Value} (T : Tx K mg) : Meth K (ga K "Field") "scaled" (ma K (ga K "Field") "scaled") := meth_ok (T.says.fact 106 (f := .meth "Field" "scaled") rfl)
theorem me_Field_joined {K : PySem.W.Frag} {mg : Str → Option Value} (T : Tx K mg) : Meth K (ga K "Field") "joined" (ma K (ga K "Field") "joined") := meth_ok (T.says.fact 107 (f := .meth "Field" "joined") rfl)
theorem me_Field_along {K : PySem.W.Frag} {mg : Str → Option Value} (T : Tx K mg) : Meth K (ga K "Field") "along" (ma K (ga K "Field") "along") := meth_ok (T.says.fact 108 (f := .meth "Field" "along") rfl)
theorem me_Span_len {K : PySem.W.Frag} {mg : Str → Option Value} (T : Tx K mg) : Meth K (ga K "Span") "__len__" (ma K (ga K "Span") "__len__") := meth_ok (T.says.fact 109 (f := .meth "Span" "__len__") rfl)
theorem me_Span_lowered {K : PySem.W.Frag} {mg : Str → Option Value} (T : Tx K mg) : Meth K (ga K "Span") "lowered" (ma K (ga K "Span") "lowered") := meth_ok (T.says.fact 110 (f := .meth "Span" "lowered") rfl)
theorem me_Span_put {K : PySem.W.Frag} {mg : Str → Option Value} (T : Tx K mg) : Meth K (ga K "Span") "put" (ma K (ga K "Span") "put") := meth_ok (T.says.fact 111 (f := .meth "Span" "put") rfl)
theorem me_Guard_lets {K : PySem.W.Frag} {mg : Str → Option Value} (T : Tx K mg) : Meth K (ga K "Guard") "lets" (ma K (ga K "Guard") "lets") := meth_ok (T.says.fact 112 (f := .meth "Guard" "lets") rfl)
theorem me_Guard_checks {K : PySem.W.Frag} {mg : Str → Option Value} (T : Tx K mg) : Meth K (ga K "Guard") "checks" (ma K (ga K "Guard") "checks") := meth_ok (T.says.fact 113 (f := .meth "Guard" "checks") rfl)
theorem me_Guard_room {K : PySem.W.Frag} {mg : Str → Option Value} (T : Tx K mg) : Meth K (ga K "Guard") "room" (ma K (ga K "Guard") "room") := meth_ok (T.says.fact 114 (f := .meth "Guard" "room") rfl)
theorem fd_grown {K : PySem.W.Frag} {mg : Str → Option Value} (T : Tx K mg) : ∃ fd, FunD K "grown" "grown" (defArgs s_grown) (defBody s_grown) (defScope s_grown) [] [] (fAd K ("grown", none)) fd := T.says.def_ 0 (d := d_grown) rfl
theorem fd_Field_init {K : PySem.W.Frag} {mg : Str → Option Value} (T : Tx K mg) : ∃ fd, FunD K "__init__" "Field.__init__" (defArgs s_Field_init) (defBody s_Field_init) (defScope s_Field_init) [V.int 16] [] (fAd K ("Field", some "__init__")) fd := T.says.def_ 1 (d := d_Field_init) rfl
theorem fd_Field_size {K : PySem.W.Frag} {mg : Str → Option Value} (T : Tx K mg) : ∃ fd, FunD K "size" "Field.size" (defArgs s_Field_size) (defBody s_Field_size) (defScope s_Field_size) [] [] (fAd K ("Field", some "size")) fd := T.says.def_ 2 (d := d_Field_size) rfl
theorem fd_Field_has {K : PySem.W.Frag} {mg : Str → Option Value} (T : Tx K mg) : ∃ fd, FunD K "has" "Field.has" (defArgs s_Field_has) (defBody s_Field_has) (defScope s_Field_has) [] [] (fAd K ("Field", some "has")) fd := T.says.def_ 3 (d := d_Field_has) rfl
theorem fd_Field_need {K : PySem.W.Frag} {mg : Str → Option Value} (T : Tx K mg) : ∃ fd, FunD K "need" "Field.need" (defArgs s_Field_need) (defBody s_Field_need) (defScope s_Field_need) [] [] (fAd K ("Field", some "need")) fd := T.says.def_ 4 (d := d_Field_need) rfl
theorem fd_Field_figures {K : PySem.W.Frag} {mg : Str → Option Value} (T : Tx K mg) : ∃ fd, FunD K "figures" "Field.figures" (defArgs s_Field_figures) (defBody s_Field_figures) (defScope s_Field_figures) [] [] (fAd K ("Field", some "figures")) fd := T.says.def_ 5 (d := d_Field_figures) rfl
theorem fd_Field_composed {K : PySem.W.Frag} {mg : Str → Option Value} (T : Tx K mg) : ∃ fd, FunD K "composed" "Field.composed" (defArgs s_Field_composed) (defBody s_Field_composed) (defScope s_Field_composed) [] [] (fAd K ("Field", some "composed")) fd := T.says.def_ 6 (d := d_Field_composed) rfl
theorem fd_Field_added {K : PySem.W.Frag} {mg : Str → Option Value} (T : Tx K mg) : ∃ fd, FunD K "added" "Field.added" (defArgs s_Field_added) (defBody s_Field_added) (defScope s_Field_added) [] [] (fAd K ("Field", some "added")) fd := T.says.def_ 7 (d := d_Field_added) rfl
theorem fd_Field_less {K : PySem.W.Frag} {mg : Str → Option Value} (T : Tx K mg) : ∃ fd, FunD K "less" "Field.less" (defArgs s_Field_less) (defBody s_Field_less) (defScope s_Field_less) [] [] (fAd K ("Field", some "less")) fd := T.says.def_ 8 (d := d_Field_less) rfl
theorem fd_Field_product {K : PySem.W.Frag} {mg : Str → Option Value} (T : Tx K mg) : ∃ fd, FunD K "product" "Field.product" (defArgs s_Field_product) (defBody s_Field_product) (defScope s_Field_product) [] [] (fAd K ("Field", some "product")) fd := T.says.def_ 9 (d := d_Field_product) rfl
theorem fd_Field_inverse {K : PySem.W.Frag} {mg : Str → Option Value} (T : Tx K mg) : ∃ fd, FunD K "inverse" "Field.inverse" (defArgs s_Field_inverse) (defBody s_Field_inverse) (defScope s_Field_inverse) [] [] (fAd K ("Field", some "inverse")) fd := T.says.def_ 10 (d := d_Field_inverse) rfl
theorem fd_Field_needs_row {K : PySem.W.Frag} {mg : Str → Option Value} (T : Tx K mg) : ∃ fd, FunD K "needs_row" "Field.needs_row" (defArgs s_Field_needs_row) (defBody s_Field_needs_row) (defScope s_Field_needs_row) [] [] (fAd K ("Field", some "needs_row")) fd := T.says.def_ 11 (d := d_Field_needs_row) rfl
theorem fd_Field_scaled {K : PySem.W.Frag} {mg : Str → Option Value} (T : Tx K mg) : ∃ fd, FunD K "scaled" "Field.scaled" (defArgs s_Field_scaled) (defBody s_Field_scaled) (defScope s_Field_scaled) [] [] (fAd K ("Field", some "scaled")) fd := T.says.def_ 12 (d := d_Field_scaled) rfl
theorem fd_Field_joined {K : PySem.W.Frag} {mg : Str → Option Value} (T : Tx K mg) : ∃ fd, FunD K "joined" "Field.joined" (defArgs s_Field_joined) (defBody s_Field_joined) (defScope s_Field_joined) [V.int 1] [] (fAd K ("Field", some "joined")) fd := T.says.def_ 13 (d := d_Field_joined) rfl
theorem fd_Field_along {K : PySem.W.Frag} {mg : Str → Option Value} (T : Tx K mg) : ∃ fd, FunD K "along" "Field.along" (defArgs s_Field_along) (defBody s_Field_along) (defScope s_Field_along) [] [] (fAd K ("Field", some "along")) fd := T.says.def_ 14 (d := d_Field_along) rfl
theorem fd_first_place {K : PySem.W.Frag} {mg : Str → Option Value} (T : Tx K mg) : ∃ fd, FunD K "first_place" "first_place" (defArgs s_first_place) (defBody s_first_place) (defScope s_first_place) [] [] (fAd K ("first_place", none)) fd := T.says.def_ 15 (d := d_first_place) rfl
theorem fd_Span_init {K : PySem.W.Frag} {mg : Str → Option Value} (T : Tx K mg) : ∃ fd, FunD K "__init__" "Span.__init__" (defArgs s_Span_init) (defBody s_Span_init) (defScope s_Span_init) [] [("rows", V.ref (dRows K))] (fAd K ("Span", some "__init__")) fd := T.says.def_ 16 (d := d_Span_init) rfl
theorem fd_Span_len {K : PySem.W.Frag} {mg : Str → Option Value} (T : Tx K mg) : ∃ fd, FunD K "__len__" "Span.__len__" (defArgs s_Span_len) (defBody s_Span_len) (defScope s_Span_len) [] [] (fAd K ("Span", some "__len__")) fd := T.says.def_ 17 (d := d_Span_len) rfl
theorem fd_Span_lowered {K : PySem.W.Frag} {mg : Str → Option Value} (T : Tx K mg) : ∃ fd, FunD K "lowered" "Span.lowered" (defArgs s_Span_lowered) (defBody s_Span_lowered) (defScope s_Span_lowered) [] [] (fAd K ("Span", some "lowered")) fd := T.says.def_ 18 (d := d_Span_lowered) rfl
theorem fd_Span_put {K : PySem.W.Frag} {mg : Str → Option Value} (T : Tx K mg) : ∃ fd, FunD K "put" "Span.put" (defArgs s_Span_put) (defBody s_Span_put) (defScope s_Span_put) [] [] (fAd K ("Span", some "put")) fd := T.says.def_ 19 (d := d_Span_put) rfl
theorem fd_need_words {K : PySem.W.Frag} {mg : Str → Option Value} (T : Tx K mg) : ∃ fd, FunD K "need_words" "need_words" (defArgs s_need_words) (defBody s_need_words) (defScope s_need_words) [] [] (fAd K ("need_words", none)) fd := T.says.def_ 20 (d := d_need_words) rfl
theorem fd_checked {K : PySem.W.Frag} {mg : Str → Option Value} (T : Tx K mg) : ∃ fd, FunD K "checked" "checked" (defArgs s_checked) (defBody s_checked) (defScope s_checked) [] [] (fAd K ("checked", none)) fd := T.says.def_ 21 (d := d_checked) rfl
theorem fd_Guard_init {K : PySem.W.Frag} {mg : Str → Option Value} (T : Tx K mg) : ∃ fd, FunD K "__init__" "Guard.__init__" (defArgs s_Guard_init) (defBody s_Guard_init) (defScope s_Guard_init) [] [] (fAd K ("Guard", some "__init__")) fd := T.says.def_ 22 (d := d_Guard_init) rfl
theorem fd_Guard_lets {K : PySem.W.Frag} {mg : Str → Option Value} (T : Tx K mg) : ∃ fd, FunD K "lets" "Guard.lets" (defArgs s_Guard_lets) (defBody s_Guard_lets) (defScope s_Guard_lets) [] [] (fAd K ("Guard", some "lets")) fd := T.says.def_ 23 (d := d_Guard_lets) rfl
theorem fd_Guard_checks {K : PySem.W.Frag} {mg : Str → Option Value} (T : Tx K mg) : ∃ fd, FunD K "checks" "Guard.checks" (defArgs s_Guard_checks) (defBody s_Guard_checks) (defScope s_Guard_checks) [] [] (fAd K ("Guard", some "checks")) fd := T.says.def_ 24 (d := d_Guard_checks) rfl
theorem fd_Guard_room {K : PySem.W.Frag} {mg : Str → Option Value} (T : Tx K mg) : ∃ fd, FunD K "room" "Guard.room" (defArgs s_Guard_room) (defBody s_Guard_room) (defScope s_Guard_room) [] [] (fAd K ("Guard", some "room")) fd := T.says.def_ 25 (d := d_Guard_room) rfl
theorem fd_l_added {K : PySem.W.Frag} {mg : Str → Option Value} (T : Tx K mg) : ∃ fd, FunD K "_law_added" "_law_added" (defArgs s_l_added) (defBody s_l_added) (defScope s_l_added) [] [] (fAd K ("_law_added", none)) fd := T.says.def_ 26 (d := d_l_added) rfl
theorem fd_l_alike {K : PySem.W.Frag} {mg : Str → Option Value} (T : Tx K mg) : ∃ fd, FunD K "_law_alike" "_law_alike" (defArgs s_l_alike) (defBody s_l_alike) (defScope s_l_alike) [] [] (fAd K ("_law_alike", none)) fd := T.says.def_ 27 (d := d_l_alike) rfl
theorem fd_l_all_rows {K : PySem.W.Frag} {mg : Str → Option Value} (T : Tx K mg) : ∃ fd, FunD K "_law_all_rows" "_law_all_rows" (defArgs s_l_all_rows) (defBody s_l_all_rows) (defScope s_l_all_rows) [] [] (fAd K ("_law_all_rows", none)) fd := T.says.def_ 28 (d := d_l_all_rows) rfl
theorem fd_l_along {K : PySem.W.Frag} {mg : Str → Option Value} (T : Tx K mg) : ∃ fd, FunD K "_law_along" "_law_along" (defArgs s_l_along) (defBody s_l_along) (defScope s_l_along) [] [] (fAd K ("_law_along", none)) fd := T.says.def_ 29 (d := d_l_along) rfl
theorem fd_l_bag {K : PySem.W.Frag} {mg : Str → Option Value} (T : Tx K mg) : ∃ fd, FunD K "_law_bag" "_law_bag" (defArgs s_l_bag) (defBody s_l_bag) (defScope s_l_bag) [] [] (fAd K ("_law_bag", none)) fd := T.says.def_ 30 (d := d_l_bag) rfl
theorem fd_l_blend {K : PySem.W.Frag} {mg : Str → Option Value} (T : Tx K mg) : ∃ fd, FunD K "_law_blend" "_law_blend" (defArgs s_l_blend) (defBody s_l_blend) (defScope s_l_blend) [] [] (fAd K ("_law_blend", none)) fd := T.says.def_ 31 (d := d_l_blend) rfl
theorem fd_l_in {K : PySem.W.Frag} {mg : Str → Option Value} (T : Tx K mg) : ∃ fd, FunD K "_law_in" "_law_in" (defArgs s_l_in) (defBody s_l_in) (defScope s_l_in) [] [] (fAd K ("_law_in", none)) fd := T.says.def_ 32 (d := d_l_in) rfl
theorem fd_l_kind {K : PySem.W.Frag} {mg : Str → Option Value} (T : Tx K mg) : ∃ fd, FunD K "_law_kind" "_law_kind" (defArgs s_l_kind) (defBody s_l_kind) (defScope s_l_kind) [] [] (fAd K ("_law_kind", none)) fd := T.says.def_ 33 (d := d_l_kind) rfl
theorem fd_l_less {K : PySem.W.Frag} {mg : Str → Option Value} (T : Tx K mg) : ∃ fd, FunD K "_law_less" "_law_less" (defArgs s_l_less) (defBody s_l_less) (defScope s_l_less) [] [] (fAd K ("_law_less", none)) fd := T.says.def_ 34 (d := d_l_less) rfl
theorem fd_l_pull {K : PySem.W.Frag} {mg : Str → Option Value} (T : Tx K mg) : ∃ fd, FunD K "_law_pull" "_law_pull" (defArgs s_l_pull) (defBody s_l_pull) (defScope s_l_pull) [] [] (fAd K ("_law_pull", none)) fd := T.says.def_ 35 (d := d_l_pull) rfl
theorem fd_l_raised {K : PySem.W.Frag} {mg : Str → Option Value} (T : Tx K mg) : ∃ fd, FunD K "_law_raised" "_law_raised" (defArgs s_l_raised) (defBody s_l_raised) (defScope s_l_raised) [] [] (fAd K ("_law_raised", none)) fd := T.says.def_ 36 (d := d_l_raised) rfl
theorem fd_l_rank {K : PySem.W.Frag} {mg : Str → Option Value} (T : Tx K mg) : ∃ fd, FunD K "_law_rank" "_law_rank" (defArgs s_l_rank) (defBody s_l_rank) (defScope s_l_rank) [] [] (fAd K ("_law_rank", none)) fd := T.says.def_ 37 (d := d_l_rank) rfl
theorem fd_l_room_so {K : PySem.W.Frag} {mg : Str → Option Value} (T : Tx K mg) : ∃ fd, FunD K "_law_room_so" "_law_room_so" (defArgs s_l_room_so) (defBody s_l_room_so) (defScope s_l_room_so) [] [] (fAd K ("_law_room_so", none)) fd := T.says.def_ 38 (d := d_l_room_so) rfl
theorem fd_l_root {K : PySem.W.Frag} {mg : Str → Option Value} (T : Tx K mg) : ∃ fd, FunD K "_law_root" "_law_root" (defArgs s_l_root) (defBody s_l_root) (defScope s_l_root) [] [] (fAd K ("_law_root", none)) fd := T.says.def_ 39 (d := d_l_root) rfl
theorem fd_l_row {K : PySem.W.Frag} {mg : Str → Option Value} (T : Tx K mg) : ∃ fd, FunD K "_law_row" "_law_row" (defArgs s_l_row) (defBody s_l_row) (defScope s_l_row) [] [] (fAd K ("_law_row", none)) fd := T.says.def_ 40 (d := d_l_row) rfl
theorem fd_l_rows {K : PySem.W.Frag} {mg : Str → Option Value} (T : Tx K mg) : ∃ fd, FunD K "_law_rows" "_law_rows" (defArgs s_l_rows) (defBody s_l_rows) (defScope s_l_rows) [] [] (fAd K ("_law_rows", none)) fd := T.says.def_ 41 (d := d_l_rows) rfl
theorem fd_l_scaled {K : PySem.W.Frag} {mg : Str → Option Value} (T : Tx K mg) : ∃ fd, FunD K "_law_scaled" "_law_scaled" (defArgs s_l_scaled) (defBody s_l_scaled) (defScope s_l_scaled) [] [] (fAd K ("_law_scaled", none)) fd := T.says.def_ 42 (d := d_l_scaled) rfl
theorem fd_l_share {K : PySem.W.Frag} {mg : Str → Option Value} (T : Tx K mg) : ∃ fd, FunD K "_law_share" "_law_share" (defArgs s_l_share) (defBody s_l_share) (defScope s_l_share) [] [] (fAd K ("_law_share", none)) fd := T.says.def_ 43 (d := d_l_share) rfl
theorem fd_l_size {K : PySem.W.Frag} {mg : Str → Option Value} (T : Tx K mg) : ∃ fd, FunD K "_law_size" "_law_size" (defArgs s_l_size) (defBody s_l_size) (defScope s_l_size) [] [] (fAd K ("_law_size", none)) fd := T.says.def_ 44 (d := d_l_size) rfl
theorem fd_l_solved {K : PySem.W.Frag} {mg : Str → Option Value} (T : Tx K mg) : ∃ fd, FunD K "_law_solved" "_law_solved" (defArgs s_l_solved) (defBody s_l_solved) (defScope s_l_solved) [] [] (fAd K ("_law_solved", none)) fd := T.says.def_ 45 (d := d_l_solved) rfl
theorem fd_l_summed {K : PySem.W.Frag} {mg : Str → Option Value} (T : Tx K mg) : ∃ fd, FunD K "_law_summed" "_law_summed" (defArgs s_l_summed) (defBody s_l_summed) (defScope s_l_summed) [] [] (fAd K ("_law_summed", none)) fd := T.says.def_ 46 (d := d_l_summed) rfl
theorem fd_l_times {K : PySem.W.Frag} {mg : Str → Option Value} (T : Tx K mg) : ∃ fd, FunD K "_law_times" "_law_times" (defArgs s_l_times) (defBody s_l_times) (defScope s_l_times) [] [] (fAd K ("_law_times", none)) fd := T.says.def_ 47 (d := d_l_times) rfl
theorem fd_l_unit {K : PySem.W.Frag} {mg : Str → Option Value} (T : Tx K mg) : ∃ fd, FunD K "_law_unit" "_law_unit" (defArgs s_l_unit) (defBody s_l_unit) (defScope s_l_unit) [] [] (fAd K ("_law_unit", none)) fd := T.says.def_ 48 (d := d_l_unit) rfl
theorem fd_l_whole {K : PySem.W.Frag} {mg : Str → Option Value} (T : Tx K mg) : ∃ fd, FunD K "_law_whole" "_law_whole" (defArgs s_l_whole) (defBody s_l_whole) (defScope s_l_whole) [] [] (fAd K ("_law_whole", none)) fd := T.says.def_ 49 (d := d_l_whole) rfl
theorem fd_l_why {K : PySem.W.Frag} {mg : Str → Option Value} (T : Tx K mg) : ∃ fd, FunD K "_law_why" "_law_why" (defArgs s_l_why) (defBody s_l_why) (defScope s_l_why) [] [] (fAd K ("_law_why", none)) fd := T.says.def_ 50 (d := d_l_why) rfl
theorem fd_l_words {K : PySem.W.Frag} {mg : Str → Option Value} (T : Tx K mg) : ∃ fd, FunD K "_law_words" "_law_words" (defArgs s_l_words) (defBody s_l_words) (defScope s_l_words) [] [] (fAd K ("_law_words", none)) fd := T.says.def_ 51 (d := d_l_words) rfl
theorem fd_law {K : PySem.W.Frag} {mg : Str → Option Value} (T : Tx K mg) : ∃ fd, FunD K "law" "law" (defArgs s_law) (defBody s_law) (defScope s_law) [] [] (fAd K ("law", none)) fd := T.says.def_ 52 (d := d_law) rfl
theorem exb_at {K : PySem.W.Frag} {mg : Str → Option Value} (T : Tx K mg) (k : Nat) {b : Bool} (h : (exL K)[k]? = some b) : b = true := List.all_eq_true.mp (Bool.and_eq_true_iff.mp (Bool.and_eq_true_iff.mp T.exb).2).2 b (List.mem_of_getElem? h)
theorem bx_excIn {K : PySem.W.Frag} {mg : Str → Option Value} (T : Tx K mg) : PySem.W.excIn K (ga K "BadRow") [.type "ValueError", .type "Exception", .type "BaseException", .type "object"] "ValueError.__new__" = true := exb_at T 0 rfl
theorem bx_keep {K : PySem.W.Frag} {mg : Str → Option Value} (T : Tx K mg) : PySem.W.keepIn K (.ref (ga K "BadRow")) = true := exb_at T 1 rfl
theorem bx_sub {K : PySem.W.Frag} {mg : Str → Option Value} (T : Tx K mg) : PySem.W.subIn K (.ref (ga K "BadRow")) (.type "BaseException") = some true := beq_iff_eq.mp (exb_at T 2 rfl)
theorem bx_typ {K : PySem.W.Frag} {mg : Str → Option Value} (T : Tx K mg) : PySem.W.typeIn K (.ref (ga K "BadRow")) = some (.type "type") := beq_iff_eq.mp (exb_at T 3 rfl)
theorem bx_ga {K : PySem.W.Frag} {mg : Str → Option Value} (T : Tx K mg) : PySem.W.findIn K (.ref (ga K "BadRow")) "__getattribute__" = some (some (.builtin "BaseException.__getattribute__")) := beq_iff_eq.mp (exb_at T 4 rfl)
theorem bx_gat {K : PySem.W.Frag} {mg : Str → Option Value} (T : Tx K mg) : PySem.W.findIn K (.ref (ga K "BadRow")) "__getattr__" = some none := beq_iff_eq.mp (exb_at T 5 rfl)
theorem bx_hd {K : PySem.W.Frag} {mg : Str → Option Value} (T : Tx K mg) : PySem.W.hasDictIn K (ga K "BadRow") = true := exb_at T 6 rfl
theorem bx_cl {K : PySem.W.Frag} {mg : Str → Option Value} (T : Tx K mg) : PySem.W.findIn K (.ref (ga K "BadRow")) "__class__" = some (some (.builtin "object.__class__")) := beq_iff_eq.mp (exb_at T 7 rfl)
theorem bx_sp {K : PySem.W.Frag} {mg : Str → Option Value} (T : Tx K mg) : PySem.W.specialIn K (.builtin "object.__class__") "__get__" = some (some (.builtin "getset_descriptor.__get__")) := beq_iff_eq.mp (exb_at T 8 rfl)
theorem bx_tk {K : PySem.W.Frag} {mg : Str → Option Value} (T : Tx K mg) : PySem.W.takesIn K (.builtin "object.__class__") = some true := beq_iff_eq.mp (exb_at T 9 rfl)
theorem bx_mro {K : PySem.W.Frag} {mg : Str → Option Value} (T : Tx K mg) : PySem.W.mroIn K (ga K "BadRow") (.type "object") = some true := beq_iff_eq.mp (exb_at T 10 rfl)
theorem bx_x_NoHouse {K : PySem.W.Frag} {mg : Str → Option Value} (T : Tx K mg) : PySem.W.exmOne K (.ref (ga K "BadRow")) (.ref (ga K "NoHouse")) = some false := beq_iff_eq.mp (exb_at T 11 rfl)
theorem bx_x_NoLine {K : PySem.W.Frag} {mg : Str → Option Value} (T : Tx K mg) : PySem.W.exmOne K (.ref (ga K "BadRow")) (.ref (ga K "NoLine")) = some false := beq_iff_eq.mp (exb_at T 12 rfl)
theorem bx_x_InUse {K : PySem.W.Frag} {mg : Str → Option Value} (T : Tx K mg) : PySem.W.exmOne K (.ref (ga K "BadRow")) (.ref (ga K "InUse")) = some false := beq_iff_eq.mp (exb_at T 13 rfl)
theorem bx_x_BadText {K : PySem.W.Frag} {mg : Str → Option Value} (T : Tx K mg) : PySem.W.exmOne K (.ref (ga K "BadRow")) (.ref (ga K "BadText")) = some false := beq_iff_eq.mp (exb_at T 14 rfl)
theorem bx_x_Heavy {K : PySem.W.Frag} {mg : Str → Option Value} (T : Tx K mg) : PySem.W.exmOne K (.ref (ga K "BadRow")) (.ref (ga K "Heavy")) = some false := beq_iff_eq.mp (exb_at T 15 rfl)
theorem bx_x_any {K : PySem.W.Frag} {mg : Str → Option Value} (T : Tx K mg) : PySem.W.exmAny K (.ref (ga K "BadRow")) [.ref (ga K "MingleError"), .ref (ga K "Missing"), .ref (ga K "Busy"), .ref (ga K "NoShare")] = some true := beq_iff_eq.mp (exb_at T 16 rfl)
theorem bx_k_BadSize {K : PySem.W.Frag} {mg : Str → Option Value} (T : Tx K mg) : PySem.W.kitOne K (.ref (ga K "BadRow")) (.ref (ga K "BadSize")) = some false := beq_iff_eq.mp (exb_at T 17 rfl)
theorem bx_k_BadNumber {K : PySem.W.Frag} {mg : Str → Option Value} (T : Tx K mg) : PySem.W.kitOne K (.ref (ga K "BadRow")) (.ref (ga K "BadNumber")) = some false := beq_iff_eq.mp (exb_at T 18 rfl)
theorem bx_k_BadRow {K : PySem.W.Frag} {mg : Str → Option Value} (T : Tx K mg) : PySem.W.kitOne K (.ref (ga K "BadRow")) (.ref (ga K "BadRow")) = some true := beq_iff_eq.mp (exb_at T 19 rfl)
theorem bx_k_BadName {K : PySem.W.Frag} {mg : Str → Option Value} (T : Tx K mg) : PySem.W.kitOne K (.ref (ga K "BadRow")) (.ref (ga K "BadName")) = some false := beq_iff_eq.mp (exb_at T 20 rfl)
theorem bx_k_BadLine {K : PySem.W.Frag} {mg : Str → Option Value} (T : Tx K mg) : PySem.W.kitOne K (.ref (ga K "BadRow")) (.ref (ga K "BadLine")) = some false := beq_iff_eq.mp (exb_at T 21 rfl)
theorem bx_k_BadHearers {K : PySem.W.Frag} {mg : Str → Option Value} (T : Tx K mg) : PySem.W.kitOne K (.ref (ga K "BadRow")) (.ref (ga K "BadHearers")) = some false := beq_iff_eq.mp (exb_at T 22 rfl)
theorem bx_k_BadLoss {K : PySem.W.Frag} {mg : Str → Option Value} (T : Tx K mg) : PySem.W.kitOne K (.ref (ga K "BadRow")) (.ref (ga K "BadLoss")) = some false := beq_iff_eq.mp (exb_at T 23 rfl)
theorem bx_k_BadPlan {K : PySem.W.Frag} {mg : Str → Option Value} (T : Tx K mg) : PySem.W.kitOne K (.ref (ga K "BadRow")) (.ref (ga K "BadPlan")) = some false := beq_iff_eq.mp (exb_at T 24 rfl)
theorem bx_k_BadDeed {K : PySem.W.Frag} {mg : Str → Option Value} (T : Tx K mg) : PySem.W.kitOne K (.ref (ga K "BadRow")) (.ref (ga K "BadDeed")) = some false := beq_iff_eq.mp (exb_at T 25 rfl)
theorem bx_k_BadText {K : PySem.W.Frag} {mg : Str → Option Value} (T : Tx K mg) : PySem.W.kitOne K (.ref (ga K "BadRow")) (.ref (ga K "BadText")) = some false := beq_iff_eq.mp (exb_at T 26 rfl)
theorem bx_k_Ringed {K : PySem.W.Frag} {mg : Str → Option Value} (T : Tx K mg) : PySem.W.kitOne K (.ref (ga K "BadRow")) (.ref (ga K "Ringed")) = some false := beq_iff_eq.mp (exb_at T 27 rfl)
theorem bx_k_Short {K : PySem.W.Frag} {mg : Str → Option Value} (T : Tx K mg) : PySem.W.kitOne K (.ref (ga K "BadRow")) (.ref (ga K "Short")) = some false := beq_iff_eq.mp (exb_at T 28 rfl)
theorem bx_k_Narrow {K : PySem.W.Frag} {mg : Str → Option Value} (T : Tx K mg) : PySem.W.kitOne K (.ref (ga K "BadRow")) (.ref (ga K "Narrow")) = some false := beq_iff_eq.mp (exb_at T 29 rfl)
theorem bx_k_Heavy {K : PySem.W.Frag} {mg : Str → Option Value} (T : Tx K mg) : PySem.W.kitOne K (.ref (ga K "BadRow")) (.ref (ga K "Heavy")) = some false := beq_iff_eq.mp (exb_at T 30 rfl)
theorem bx_k_Unsolved {K : PySem.W.Frag} {mg : Str → Option Value} (T : Tx K mg) : PySem.W.kitOne K (.ref (ga K "BadRow")) (.ref (ga K "Unsolved")) = some false := beq_iff_eq.mp (exb_at T 31 rfl)
theorem bx_k_NoHouse {K : PySem.W.Frag} {mg : Str → Option Value} (T : Tx K mg) : PySem.W.kitOne K (.ref (ga K "BadRow")) (.ref (ga K "NoHouse")) = some false := beq_iff_eq.mp (exb_at T 32 rfl)
theorem bx_k_NoLine {K : PySem.W.Frag} {mg : Str → Option Value} (T : Tx K mg) : PySem.W.kitOne K (.ref (ga K "BadRow")) (.ref (ga K "NoLine")) = some false := beq_iff_eq.mp (exb_at T 33 rfl)
theorem bx_k_Taken {K : PySem.W.Frag} {mg : Str → Option Value} (T : Tx K mg) : PySem.W.kitOne K (.ref (ga K "BadRow")) (.ref (ga K "Taken")) = some false := beq_iff_eq.mp (exb_at T 34 rfl)
theorem bx_k_Full {K : PySem.W.Frag} {mg : Str → Option Value} (T : Tx K mg) : PySem.W.kitOne K (.ref (ga K "BadRow")) (.ref (ga K "Full")) = some false := beq_iff_eq.mp (exb_at T 35 rfl)
theorem bx_k_InUse {K : PySem.W.Frag} {mg : Str → Option Value} (T : Tx K mg) : PySem.W.kitOne K (.ref (ga K "BadRow")) (.ref (ga K "InUse")) = some false := beq_iff_eq.mp (exb_at T 36 rfl)
theorem bx_k_Told {K : PySem.W.Frag} {mg : Str → Option Value} (T : Tx K mg) : PySem.W.kitOne K (.ref (ga K "BadRow")) (.ref (ga K "Told")) = some false := beq_iff_eq.mp (exb_at T 37 rfl)
theorem bx_k_NothingLeft {K : PySem.W.Frag} {mg : Str → Option Value} (T : Tx K mg) : PySem.W.kitOne K (.ref (ga K "BadRow")) (.ref (ga K "NothingLeft")) = some false := beq_iff_eq.mp (exb_at T 38 rfl)
theorem bx_k_NoShare {K : PySem.W.Frag} {mg : Str → Option Value} (T : Tx K mg) : PySem.W.kitOne K (.ref (ga K "BadRow")) (.ref (ga K "NoShare")) = some false := beq_iff_eq.mp (exb_at T 39 rfl)
theorem bx_tabs {K : PySem.W.Frag} {mg : Str → Option Value} (T : Tx K mg) : (cT K ("law", none)).2 ≠ (cT K ("Span", some "put")).2 := fun e => by
  have h := exb_at T 40 rfl
  rw [e, beq_self_eq_true] at h
  cases h
theorem sc_grown : FnScope ["one", "many", "found", "turn"] ["one", "many"] (defScope s_grown) := ⟨rfl, rfl, rfl, by decide +kernel, rfl, by decide +kernel, by decide +kernel⟩
theorem sc_Field_init : FnScope ["self", "size", "base"] ["self", "size"] (defScope s_Field_init) := ⟨rfl, rfl, rfl, by decide +kernel, rfl, by decide +kernel, by decide +kernel⟩
theorem sc_Field_size : FnScope ["self"] ["self"] (defScope s_Field_size) := ⟨rfl, rfl, rfl, by decide +kernel, rfl, by decide +kernel, by decide +kernel⟩
theorem sc_Field_has : FnScope ["self", "one"] ["self", "one"] (defScope s_Field_has) := ⟨rfl, rfl, rfl, by decide +kernel, rfl, by decide +kernel, by decide +kernel⟩
theorem sc_Field_need : FnScope ["self", "one"] ["self", "one"] (defScope s_Field_need) := ⟨rfl, rfl, rfl, by decide +kernel, rfl, by decide +kernel, by decide +kernel⟩
theorem sc_Field_figures : FnScope ["self", "one", "found", "place", "figure"] ["self", "one"] (defScope s_Field_figures) := ⟨rfl, rfl, rfl, by decide +kernel, rfl, by decide +kernel, by decide +kernel⟩
theorem sc_Field_composed : FnScope ["self", "figures", "found", "figure"] ["self", "figures"] (defScope s_Field_composed) := ⟨rfl, rfl, rfl, by decide +kernel, rfl, by decide +kernel, by decide +kernel⟩
theorem sc_Field_added : FnScope ["self", "one", "other", "sign", "figures", "at", "left"] ["self", "one", "other", "sign"] (defScope s_Field_added) := ⟨rfl, rfl, rfl, by decide +kernel, rfl, by decide +kernel, by decide +kernel⟩
theorem sc_Field_less : FnScope ["self", "one", "other"] ["self", "one", "other"] (defScope s_Field_less) := ⟨rfl, rfl, rfl, by decide +kernel, rfl, by decide +kernel, by decide +kernel⟩
theorem sc_Field_product : FnScope ["self", "one", "other", "long", "at", "left", "to", "right", "rule", "figure"] ["self", "one", "other"] (defScope s_Field_product) := ⟨rfl, rfl, rfl, by decide +kernel, rfl, by decide +kernel, by decide +kernel⟩
theorem sc_Field_inverse : FnScope ["self", "one", "other"] ["self", "one"] (defScope s_Field_inverse) := ⟨rfl, rfl, rfl, by decide +kernel, rfl, by decide +kernel, by decide +kernel⟩
theorem sc_Field_needs_row : FnScope ["self", "row", "width", "one"] ["self", "row", "width"] (defScope s_Field_needs_row) := ⟨rfl, rfl, rfl, by decide +kernel, rfl, by decide +kernel, by decide +kernel⟩
theorem sc_Field_scaled : FnScope ["self", "row", "share", "one"] ["self", "row", "share"] (defScope s_Field_scaled) := ⟨rfl, rfl, rfl, by decide +kernel, rfl, by decide +kernel, by decide +kernel⟩
theorem sc_Field_joined : FnScope ["self", "row", "other", "sign", "one", "two"] ["self", "row", "other", "sign"] (defScope s_Field_joined) := ⟨rfl, rfl, rfl, by decide +kernel, rfl, by decide +kernel, by decide +kernel⟩
theorem sc_Field_along : FnScope ["self", "row", "other", "found", "one", "two"] ["self", "row", "other"] (defScope s_Field_along) := ⟨rfl, rfl, rfl, by decide +kernel, rfl, by decide +kernel, by decide +kernel⟩
theorem sc_first_place : FnScope ["row", "places", "at", "one"] ["row"] (defScope s_first_place) := ⟨rfl, rfl, rfl, by decide +kernel, rfl, by decide +kernel, by decide +kernel⟩
theorem sc_Span_init : FnScope ["self", "field", "width", "rows", "row"] ["self", "field", "width", "rows"] (defScope s_Span_init) := ⟨rfl, rfl, rfl, by decide +kernel, rfl, by decide +kernel, by decide +kernel⟩
theorem sc_Span_len : FnScope ["self"] ["self"] (defScope s_Span_len) := ⟨rfl, rfl, rfl, by decide +kernel, rfl, by decide +kernel, by decide +kernel⟩
theorem sc_Span_lowered : FnScope ["self", "row", "parts", "place", "kept", "shares", "share"] ["self", "row"] (defScope s_Span_lowered) := ⟨rfl, rfl, rfl, by decide +kernel, rfl, by decide +kernel, by decide +kernel⟩
theorem sc_Span_put : FnScope ["self", "row", "left", "parts", "place", "share", "own", "fresh", "found", "at", "kept", "shares", "part"] ["self", "row"] (defScope s_Span_put) := ⟨rfl, rfl, rfl, by decide +kernel, rfl, by decide +kernel, by decide +kernel⟩
theorem sc_need_words : FnScope ["field", "words", "letters", "word"] ["field", "words", "letters"] (defScope s_need_words) := ⟨rfl, rfl, rfl, by decide +kernel, rfl, by decide +kernel, by decide +kernel⟩
theorem sc_checked : FnScope ["field", "words", "key", "word"] ["field", "words", "key"] (defScope s_checked) := ⟨rfl, rfl, rfl, by decide +kernel, rfl, by decide +kernel, by decide +kernel⟩
theorem sc_Guard_init : FnScope ["self", "field", "words", "keys", "width", "key"] ["self", "field", "words", "keys"] (defScope s_Guard_init) := ⟨rfl, rfl, rfl, by decide +kernel, rfl, by decide +kernel, by decide +kernel⟩
theorem sc_Guard_lets : FnScope ["self", "row", "check"] ["self", "row"] (defScope s_Guard_lets) := ⟨rfl, rfl, rfl, by decide +kernel, rfl, by decide +kernel, by decide +kernel⟩
theorem sc_Guard_checks : FnScope ["self"] ["self"] (defScope s_Guard_checks) := ⟨rfl, rfl, rfl, by decide +kernel, rfl, by decide +kernel, by decide +kernel⟩
theorem sc_Guard_room : FnScope ["self"] ["self"] (defScope s_Guard_room) := ⟨rfl, rfl, rfl, by decide +kernel, rfl, by decide +kernel, by decide +kernel⟩
theorem sc_l_added : FnScope ["_law_big", "_law_one", "_law_other", "_law_root_here", "_law_found", "_law_worth", "_law_place"] ["_law_big", "_law_one", "_law_other"] (defScope s_l_added) := ⟨rfl, rfl, rfl, by decide +kernel, rfl, by decide +kernel, by decide +kernel⟩
theorem sc_l_alike : FnScope ["_law_found", "_law_due", "_law_name", "_law_at"] ["_law_found", "_law_due"] (defScope s_l_alike) := ⟨rfl, rfl, rfl, by decide +kernel, rfl, by decide +kernel, by decide +kernel⟩
theorem sc_l_all_rows : FnScope ["_law_tally", "_law_big", "_law_found", "_law_at", "_law_longer", "_law_row_here", "_law_one"] ["_law_tally", "_law_big"] (defScope s_l_all_rows) := ⟨rfl, rfl, rfl, by decide +kernel, rfl, by decide +kernel, by decide +kernel⟩
theorem sc_l_along : FnScope ["_law_big", "_law_row_here", "_law_other", "_law_found", "_law_at"] ["_law_big", "_law_row_here", "_law_other"] (defScope s_l_along) := ⟨rfl, rfl, rfl, by decide +kernel, rfl, by decide +kernel, by decide +kernel⟩
theorem sc_l_bag : FnScope ["_law_script", "_law_cells", "_law_salt", "_law_one"] ["_law_script"] (defScope s_l_bag) := ⟨rfl, rfl, rfl, by decide +kernel, rfl, by decide +kernel, by decide +kernel⟩
theorem sc_l_blend : FnScope ["_law_big", "_law_lot", "_law_shares", "_law_broad", "_law_found", "_law_at"] ["_law_big", "_law_lot", "_law_shares", "_law_broad"] (defScope s_l_blend) := ⟨rfl, rfl, rfl, by decide +kernel, rfl, by decide +kernel, by decide +kernel⟩
theorem sc_l_in : FnScope ["_law_big", "_law_lot", "_law_row_here"] ["_law_big", "_law_lot", "_law_row_here"] (defScope s_l_in) := ⟨rfl, rfl, rfl, by decide +kernel, rfl, by decide +kernel, by decide +kernel⟩
theorem sc_l_kind : FnScope ["_law_e", "_law_marks", "_law_word", "_law_so"] ["_law_e"] (defScope s_l_kind) := ⟨rfl, rfl, rfl, by decide +kernel, rfl, by decide +kernel, by decide +kernel⟩
theorem sc_l_less : FnScope ["_law_big", "_law_one", "_law_other", "_law_left"] ["_law_big", "_law_one", "_law_other"] (defScope s_l_less) := ⟨rfl, rfl, rfl, by decide +kernel, rfl, by decide +kernel, by decide +kernel⟩
theorem sc_l_pull : FnScope ["_law_bag_here", "_law_tally", "_law_cell", "_law_grain", "_law_drawn"] ["_law_bag_here", "_law_tally"] (defScope s_l_pull) := ⟨rfl, rfl, rfl, by decide +kernel, rfl, by decide +kernel, by decide +kernel⟩
theorem sc_l_raised : FnScope ["_law_big", "_law_one", "_law_root_here", "_law_found", "_law_turn"] ["_law_big", "_law_one"] (defScope s_l_raised) := ⟨rfl, rfl, rfl, by decide +kernel, rfl, by decide +kernel, by decide +kernel⟩
theorem sc_l_rank : FnScope ["_law_big", "_law_lot"] ["_law_big", "_law_lot"] (defScope s_l_rank) := ⟨rfl, rfl, rfl, by decide +kernel, rfl, by decide +kernel, by decide +kernel⟩
theorem sc_l_room_so : FnScope ["_law_bag_here", "_law_big", "_law_said", "_law_keys", "_law_due", "_law_guard", "_law_tally", "_law_broad", "_law_whole_here", "_law_rank_here", "_law_at", "_law_lot", "_law_some", "_law_room", "_law_let", "_law_k", "_law_row_here", "_law_check"] ["_law_bag_here", "_law_big", "_law_said", "_law_keys", "_law_due", "_law_guard"] (defScope s_l_room_so) := ⟨rfl, rfl, rfl, by decide +kernel, rfl, by decide +kernel, by decide +kernel⟩
theorem sc_l_root : FnScope ["_law_big"] ["_law_big"] (defScope s_l_root) := ⟨rfl, rfl, rfl, by decide +kernel, rfl, by decide +kernel, by decide +kernel⟩
theorem sc_l_row : FnScope ["_law_bag_here", "_law_big", "_law_broad", "_law_way", "_law_at"] ["_law_bag_here", "_law_big", "_law_broad"] (defScope s_l_row) := ⟨rfl, rfl, rfl, by decide +kernel, rfl, by decide +kernel, by decide +kernel⟩
theorem sc_l_rows : FnScope ["_law_bag_here", "_law_big", "_law_broad", "_law_tally", "_law_found", "_law_turn", "_law_row_here", "_law_shares", "_law_one"] ["_law_bag_here", "_law_big", "_law_broad", "_law_tally"] (defScope s_l_rows) := ⟨rfl, rfl, rfl, by decide +kernel, rfl, by decide +kernel, by decide +kernel⟩
theorem sc_l_scaled : FnScope ["_law_big", "_law_row_here", "_law_share_here", "_law_one"] ["_law_big", "_law_row_here", "_law_share_here"] (defScope s_l_scaled) := ⟨rfl, rfl, rfl, by decide +kernel, rfl, by decide +kernel, by decide +kernel⟩
theorem sc_l_share : FnScope ["_law_big", "_law_one", "_law_other"] ["_law_big", "_law_one"] (defScope s_l_share) := ⟨rfl, rfl, rfl, by decide +kernel, rfl, by decide +kernel, by decide +kernel⟩
theorem sc_l_size : FnScope ["_law_bag_here"] ["_law_bag_here"] (defScope s_l_size) := ⟨rfl, rfl, rfl, by decide +kernel, rfl, by decide +kernel, by decide +kernel⟩
theorem sc_l_solved : FnScope ["_law_big", "_law_lot", "_law_left", "_law_found", "_law_turn", "_law_first", "_law_at", "_law_lower", "_law_row_here", "_law_place"] ["_law_big", "_law_lot"] (defScope s_l_solved) := ⟨rfl, rfl, rfl, by decide +kernel, rfl, by decide +kernel, by decide +kernel⟩
theorem sc_l_summed : FnScope ["_law_big", "_law_row_here", "_law_other", "_law_at"] ["_law_big", "_law_row_here", "_law_other"] (defScope s_l_summed) := ⟨rfl, rfl, rfl, by decide +kernel, rfl, by decide +kernel, by decide +kernel⟩
theorem sc_l_times : FnScope ["_law_big", "_law_one", "_law_other", "_law_root_here", "_law_found", "_law_place", "_law_turn"] ["_law_big", "_law_one", "_law_other"] (defScope s_l_times) := ⟨rfl, rfl, rfl, by decide +kernel, rfl, by decide +kernel, by decide +kernel⟩
theorem sc_l_unit : FnScope ["_law_at", "_law_broad"] ["_law_at", "_law_broad"] (defScope s_l_unit) := ⟨rfl, rfl, rfl, by decide +kernel, rfl, by decide +kernel, by decide +kernel⟩
theorem sc_l_whole : FnScope ["_law_one"] ["_law_one"] (defScope s_l_whole) := ⟨rfl, rfl, rfl, by decide +kernel, rfl, by decide +kernel, by decide +kernel⟩
theorem sc_l_why : FnScope ["_law_ask", "_law_told", "_law_word", "_law_e"] ["_law_ask"] (defScope s_l_why) := ⟨rfl, rfl, rfl, by decide +kernel, rfl, by decide +kernel, by decide +kernel⟩
theorem sc_l_words : FnScope ["_law_bag_here", "_law_big", "_law_tally", "_law_broad", "_law_k", "_law_at"] ["_law_bag_here", "_law_big", "_law_tally", "_law_broad"] (defScope s_l_words) := ⟨rfl, rfl, rfl, by decide +kernel, rfl, by decide +kernel, by decide +kernel⟩
theorem sc_law : FnScope ["_law_script", "_law_bag_here", "_law_turn", "_law_tally", "_law_handed", "_law_due", "_law_lot", "_law_words_here", "_law_big", "_law_broad", "_law_guard", "_law_keys", "_law_row_here", "_law_said", "_law_key", "_law_at", "_law_one", "_law_word"] ["_law_script"] (defScope s_law) := ⟨rfl, rfl, rfl, by decide +kernel, rfl, by decide +kernel, by decide +kernel⟩
end KT
/-! ## Head -/
set_option Elab.async false
set_option linter.all false
set_option maxRecDepth 100000
set_option maxHeartbeats 0
namespace KT
open PySem PySem.Spec PyProof.Rows L2 He
theorem runF (w : World) : HandSHeadRun.RunEq R (PySem.W.view R.prog [70]) hk ob 9000 loose (w.withFollow "special-get-raises" false) := by intro os; kernel_rfl
theorem runT (w : World) : HandSHeadRun.RunEq R (PySem.W.view R.prog [70]) hk ob 9000 loose (w.withFollow "special-get-raises" true) := by intro os; kernel_rfl
theorem run (w : World) : HandSHeadRun.RunEq R (PySem.W.view R.prog [70]) hk ob 9000 loose w :=
  PySem.W.byRow2 "special-get-raises" (P := fun w => HandSHeadRun.RunEq R (PySem.W.view R.prog [70]) hk ob 9000 loose w) runF runT w

end KT
/-! ## Fields -/
namespace KM
/-! ### the ten fields -/
def sizes : List Nat := [2, 3, 4, 5, 7, 8, 9, 11, 13, 16]
def table : Nat → Nat
  | 4 => 2625168384
  | 8 => 2821848294356612419217921029917578219971947684264937521152
  | 9 => 134933521601014739983835492958995385744646755219336662194622111016280497100512
  | 16 => 116196760129267793630862849262464326346044543732748708940920453221664288556434379745879494961270582141731748813355742142288220638766218855867759359510984593843506004200114943278699875244065120512813025380665946106619127097398772031257643617143689515450995722003729973585221105779229319991106539050771048038400
  | _ => 0
def addN (q a b : Nat) : Nat := match q with
  | 4 => Nat.xor a b
  | 8 => Nat.xor a b
  | 16 => Nat.xor a b
  | 9 => (a + b) % 3 + 3 * ((a / 3 + b / 3) % 3)
  | q => (a + b) % q
def mulN (q a b : Nat) : Nat := match table q with
  | 0 => a * b % q
  | t => t / q ^ (a * q + b) % q
def negN (q a : Nat) : Nat := ((List.range q).filter fun b => addN q a b == 0).headD 0
def invN (q a : Nat) : Nat := ((List.range q).filter fun b => mulN q a b == 1).headD 0
def ax1 (q : Nat) : Bool := (List.range q).all fun a => Nat.blt (negN q a) q && Nat.blt (invN q a) q && addN q 0 a == a && addN q (negN q a) a == 0 && mulN q 1 a == a && (a == 0 || mulN q (invN q a) a == 1)
def ax2 (q : Nat) : Bool := (List.range q).all fun a => (List.range q).all fun b => Nat.blt (addN q a b) q && Nat.blt (mulN q a b) q && addN q a b == addN q b a && mulN q a b == mulN q b a
def ax3 (q : Nat) : Bool := (List.range q).all fun a => (List.range q).all fun b => (List.range q).all fun c =>
  addN q (addN q a b) c == addN q a (addN q b c) && mulN q (mulN q a b) c == mulN q a (mulN q b c) && mulN q a (addN q b c) == addN q (mulN q a b) (mulN q a c)
set_option maxRecDepth 100000 in
theorem ax_ok : (sizes.all fun q => Nat.ble 2 q && ax1 q && ax2 q && ax3 q) = true := by decide +kernel
end KM
/-! ## FieldI -/
namespace KM
/-! ### the program's numbers, as it reckons them -/
def prN : Nat → Nat
  | 4 => 2 | 8 => 2 | 16 => 2 | 9 => 3 | q => q
def plN : Nat → Nat
  | 4 => 2 | 8 => 3 | 16 => 4 | 9 => 2 | _ => 1
def figsI (p : Int) (n : Nat) (x : Int) : List Int := (List.range n).map fun k => x / p ^ k % p
def compI (p : Int) (l : List Int) : Int := l.foldr (fun f acc => acc * p + f % p) 0
def addI (q : Nat) (a b s : Int) : Int := if plN q = 1 then (a + s * b) % (prN q : Int) else
  compI (prN q) ((figsI (prN q) (plN q) a).zipWith (fun l r => l + s * r) (figsI (prN q) (plN q) b))
theorem sizes_pr : ∀ q ∈ sizes, 2 ≤ prN q ∧ prN q ≤ 13 ∧ 1 ≤ plN q ∧ plN q ≤ 4 ∧ q ≤ 16 ∧ 2 ≤ q ∧ prN q ^ plN q = q ∧ (plN q = 1 → prN q = q) := by decide
def addOk (q : Nat) : Bool := (List.range q).all fun a => (List.range q).all fun b => addI q a b 1 == ((addN q a b : Nat) : Int) && addI q a b (-1) == ((addN q a (negN q b) : Nat) : Int)
set_option maxRecDepth 100000 in
theorem add_ok : (sizes.all addOk) = true := by decide +kernel
end KM
/-! ## FieldM -/
namespace KM
/-! ### Field.product, as it reckons -/
def rule : Nat → List Int
  | 4 => [1, 1] | 8 => [1, 1, 0] | 9 => [2, 0] | 16 => [1, 1, 0, 0] | _ => []
def up (L : List Int) (n : Nat) (x : Int) : List Int := L.set n (L.getD n 0 + x)
def step1 (B : List Int) (L : List Int) (p : Int × Nat) : List Int := B.zipIdx.foldl (fun L r => up L (p.2 + r.2) (p.1 * r.1)) L
def step2i (n k : Nat) (L : List Int) (r : Int × Nat) : List Int := up L (2 * n - 1 - k - n + r.2) (L.getD (2 * n - 1 - k) 0 * r.1)
def step2 (n : Nat) (R : List Int) (L : List Int) (k : Nat) : List Int := (R.zipIdx.foldl (step2i n k) L).set (2 * n - 1 - k) 0
def long1 (q : Nat) (a b : Int) : List Int := (figsI (prN q) (plN q) a).zipIdx.foldl (step1 (figsI (prN q) (plN q) b)) (List.replicate (2 * plN q) 0)
def long2 (q : Nat) (a b : Int) : List Int := (List.range (plN q)).foldl (step2 (plN q) (rule q)) (long1 q a b)
def mulI (q : Nat) (a b : Int) : Int := if plN q = 1 then a * b % (prN q : Int) else compI (prN q) ((long2 q a b).take (plN q))
def mulOk (q : Nat) : Bool := (List.range q).all fun a => (List.range q).all fun b => mulI q a b == ((mulN q a b : Nat) : Int)
set_option maxRecDepth 100000 in
theorem mul_ok : (sizes.all mulOk) = true := by decide +kernel
theorem up_len {L : List Int} {n : Nat} {x : Int} : (up L n x).length = L.length := by simp [up]
theorem step1_len {B : List Int} : ∀ {L : List Int} {p : Int × Nat}, (step1 B L p).length = L.length := by
  intro L p
  unfold step1
  have : ∀ (l : List (Int × Nat)) (L : List Int), (l.foldl (fun L r => up L (p.2 + r.2) (p.1 * r.1)) L).length = L.length := by
    intro l
    induction l with
    | nil => intro L; rfl
    | cons r l ih => intro L; rw [List.foldl_cons, ih, up_len]
  exact this _ _
theorem fold_len {α : Type} {f : List Int → α → List Int} (h : ∀ L x, (f L x).length = L.length) : ∀ (l : List α) (L : List Int), (l.foldl f L).length = L.length
  | [], L => rfl
  | x :: l, L => by rw [List.foldl_cons, fold_len h l, h]
theorem step2_len {n k : Nat} {R L : List Int} : (step2 n R L k).length = L.length := by
  unfold step2
  rw [List.length_set, fold_len (fun L r => by unfold step2i; exact up_len)]
theorem long1_len (q : Nat) (a b : Int) : (long1 q a b).length = 2 * plN q := by
  unfold long1
  rw [fold_len (fun L x => step1_len), List.length_replicate]
theorem long2_len (q : Nat) (a b : Int) : (long2 q a b).length = 2 * plN q := by
  unfold long2
  rw [fold_len (fun L x => step2_len), long1_len]
end KM
/-! ## FieldR -/
namespace KM
def rngOk (q : Nat) : Bool := (List.range q).all fun a => (List.range q).all fun b => let x := addI q a b 1; let y := addI q a b (-1); let z := mulI q a b; decide (0 ≤ x ∧ x < q ∧ 0 ≤ y ∧ y < q ∧ 0 ≤ z ∧ z < q)
set_option maxRecDepth 100000 in
theorem rng_ok : (sizes.all rngOk) = true := by decide +kernel
def invOk (q : Nat) : Bool := (List.range q).all fun a => a == 0 || (((List.range (q - 1)).filter fun k => decide (mulI q a (1 + (k : Nat)) = 1)).head?).isSome
set_option maxRecDepth 100000 in
theorem inv_ok : (sizes.all invOk) = true := by decide +kernel
theorem rng_at {q : Nat} (hq : q ∈ sizes) {a b : Int} (ha : 0 ≤ a ∧ a < q) (hb : 0 ≤ b ∧ b < q) : (0 ≤ addI q a b 1 ∧ addI q a b 1 < q) ∧ (0 ≤ addI q a b (-1) ∧ addI q a b (-1) < q) ∧ (0 ≤ mulI q a b ∧ mulI q a b < q) := by
  have h := List.all_eq_true.mp rng_ok q hq
  have h1 := List.all_eq_true.mp h a.toNat (List.mem_range.mpr (by omega))
  have h2 := List.all_eq_true.mp h1 b.toNat (List.mem_range.mpr (by omega))
  have h3 := of_decide_eq_true h2
  rw [show ((a.toNat : Nat) : Int) = a by omega, show ((b.toNat : Nat) : Int) = b by omega] at h3
  exact ⟨⟨h3.1, h3.2.1⟩, ⟨h3.2.2.1, h3.2.2.2.1⟩, h3.2.2.2.2⟩
theorem inv_at {q : Nat} (hq : q ∈ sizes) {a : Int} (ha : 0 < a ∧ a < q) : ∃ r, ((List.range (q - 1)).filter fun k => decide (mulI q a (1 + (k : Nat)) = 1)).head? = some r := by
  have h := List.all_eq_true.mp inv_ok q hq
  have h1 := List.all_eq_true.mp h a.toNat (List.mem_range.mpr (by omega))
  rw [show ((a.toNat : Nat) : Int) = a by omega] at h1
  have h2 : (a.toNat == 0) = false := by
    rw [beq_eq_false_iff_ne]; omega
  rw [h2, Bool.false_or] at h1
  exact Option.isSome_iff_exists.mp h1
end KM
/-! ## FieldL -/
namespace KM
/-! ### the law's arithmetic, as it reckons -/
def ladS (p : Int) (s : Int × Int × Int × Int) : Int × Int × Int × Int := (s.1 + (s.2.2.1 + s.2.2.2) % p * s.2.1, s.2.1 * p, s.2.2.1 / p, s.2.2.2 / p)
def ladK (p a b : Int) : Nat → Int × Int × Int × Int
  | 0 => (0, 1, a, b)
  | k + 1 => ladS p (ladK p a b k)
def ladI (q : Nat) (a b : Int) : Int := (ladK (prN q) a b 4).1
def bump (q : Nat) : Int := match q with | 4 => 3 | 8 => 3 | 9 => 2 | 16 => 3 | _ => 0
def rsK (q : Nat) (a : Int) : Nat → Int
  | 0 => a * prN q % q
  | k + 1 => addI q (rsK q a k) (bump q) 1
def rsI (q : Nat) (a : Int) : Int := rsK q a (a * prN q / q).toNat
def tmA (q : Nat) (f a : Int) : Nat → Int
  | 0 => f
  | k + 1 => addI q (tmA q f a k) a 1
def tmK (q : Nat) (a b : Int) : Nat → Int × Int × Int
  | 0 => (0, b, a)
  | k + 1 => let s := tmK q a b k; (tmA q s.1 s.2.2 (s.2.1 % prN q).toNat, s.2.1 / prN q, rsI q s.2.2)
def tmI (q : Nat) (a b : Int) : Int := if (prN q : Int) = q then a * b % q else (tmK q a b 4).1
def lawOk (q : Nat) : Bool := (List.range q).all fun a => decide (0 ≤ rsI q a ∧ rsI q a < q) && (decide (prN q = q) || (List.range (((a : Nat) : Int) * prN q / q).toNat).all fun k => decide (0 ≤ rsK q a k ∧ rsK q a k < q)) && (List.range q).all fun b => (ladI q a b == addI q a b 1) && (tmI q a b == mulI q a b)
set_option maxRecDepth 100000 in
theorem law_ok : (sizes.all lawOk) = true := by decide +kernel
end KM
/-! ## FieldN -/
namespace KM
def lessOk (q : Nat) : Bool := (List.range q).all fun x => decide (((List.range q).filter fun k => decide (addI q (k : Nat) x 1 = 0)).head? = some (addI q 0 x (-1)).toNat)
def shrOk (q : Nat) : Bool := (List.range q).all fun a => a == 0 || (match ((List.range q).filter fun k => decide (mulI q a (k : Nat) = 1)).head?, ((List.range (q - 1)).filter fun k => decide (mulI q a (1 + (k : Nat)) = 1)).head? with
  | some x, some y => x == 1 + y
  | _, _ => false)
set_option maxRecDepth 100000 in
theorem less_ok : (sizes.all fun q => lessOk q && shrOk q) = true := by decide +kernel
end KM
/-! ## J1 -/
set_option Elab.async false
set_option linter.all false
set_option maxRecDepth 100000
set_option maxHeartbeats 4000000
/-! A small layer over HandS: frozen objects (F) and owned ones; predicates of values. -/
namespace J
open PySem L2

def Ext (H H' : Hp) : Prop := ∀ a o, H a = some o → H' a = some o
theorem Ext.refl (H : Hp) : Ext H H := fun _ _ h => h
theorem Ext.trans {H H1 H2 : Hp} (a : Ext H H1) (b : Ext H1 H2) : Ext H H2 := fun x o h => b x o (a x o h)
theorem Ext.new {H : Hp} {p : Addr} {o : HO} (h : H p = none) : Ext H (upd H p o) := fun a u e => by
  rw [upd_ne (ne_of_none e h)]
  exact e
theorem Ext.back {H H' : Hp} {p : Addr} (e : Ext H H') (h : H' p = none) : H p = none := by
  cases h1 : H p with
  | none => rfl
  | some o => rw [e p o h1] at h; cases h
theorem Ext.both {H H' : Hp} {p : Addr} {o : HO} (e : Ext H H') (h : H' p = none) : Ext (upd H p o) (upd H' p o) := fun a u q => by
  by_cases ha : a = p
  · subst ha; rw [upd_same] at q ⊢; exact q
  · rw [upd_ne ha] at q ⊢; exact e a u q
theorem Ext.rd {H H' : Hp} {a : Addr} {u : HO} (e : Ext H H') (h : Rd H a u) : Rd H' a u := by
  rcases h with h | ⟨o, h⟩
  · exact Or.inl (e a _ h)
  · exact Or.inr ⟨o, e a _ h⟩
theorem Ext.l {K : PySem.W.Frag} {H H' : Hp} {a : Addr} {xs : List V} (e : Ext H H') (h : SqL K H a xs) : SqL K H' a xs := by
  rcases h with h | h
  · exact Or.inl (e.rd h)
  · exact Or.inr h
theorem Ext.t {K : PySem.W.Frag} {H H' : Hp} {a : Addr} {xs : List V} (e : Ext H H') (h : SqT K H a xs) : SqT K H' a xs := by
  rcases h with h | h
  · exact Or.inl (e.rd h)
  · exact Or.inr h

/-- what is said of a value, in the frozen heap -/
structure Pr where
  p : Hp → V → Prop
  mono : ∀ {F F' : Hp} {v : V}, Ext F F' → p F v → p F' v
/-- an owned object: its address, what is said of it -/
structure Ow where
  a : Addr
  φ : Hp → HO → Prop
  mono : ∀ {F F' : Hp} {o : HO}, Ext F F' → φ F o → φ F' o

structure Good (w : List Ow) (F H : Hp) : Prop where
  ex : Ext F H
  ow : ∀ e ∈ w, F e.a = none ∧ ∃ o, H e.a = some o ∧ e.φ F o
  nd : (w.map (·.a)).Nodup
structure Step (w w' : List Ow) (F H F' H' : Hp) : Prop where
  exF : Ext F F'
  good : Good w' F' H'
  keep : ∀ a o, H a = some o → F a = none → (∀ e ∈ w, e.a ≠ a) → H' a = some o ∧ F' a = none
  adr : ∀ e' ∈ w', (∃ e ∈ w, e.a = e'.a) ∨ H e'.a = none
  sm : ∀ a o, H a = some o → ∃ o', H' a = some o'
theorem Step.refl {w : List Ow} {F H : Hp} (g : Good w F H) : Step w w F H F H :=
  ⟨Ext.refl F, g, fun _ _ h f _ => ⟨h, f⟩, fun e he => .inl ⟨e, he, rfl⟩, fun _ o h => ⟨o, h⟩⟩
theorem Step.trans {w w1 w2 : List Ow} {F H F1 H1 F2 H2 : Hp} (a : Step w w1 F H F1 H1) (b : Step w1 w2 F1 H1 F2 H2) : Step w w2 F H F2 H2 := by
  refine ⟨a.exF.trans b.exF, b.good, fun c o h f n => ?_, fun e he => ?_, fun c o h => ?_⟩
  · obtain ⟨h1, f1⟩ := a.keep c o h f n
    refine b.keep c o h1 f1 fun e he q => ?_
    rcases a.adr e he with ⟨e', he', z⟩ | z
    · exact n e' he' (z.trans q)
    · rw [q, h] at z; cases z
  · rcases b.adr e he with ⟨e', he', z⟩ | z
    · rcases a.adr e' he' with ⟨e2, he2, z2⟩ | z2
      · exact .inl ⟨e2, he2, z2.trans z⟩
      · exact .inr (by rw [← z]; exact z2)
    · refine .inr ?_
      cases q : H e.a with
      | none => rfl
      | some o =>
        obtain ⟨o', q'⟩ := a.sm _ o q
        rw [z] at q'; cases q'
  · obtain ⟨o', h'⟩ := a.sm c o h
    exact b.sm c o' h'
theorem Good.mem_ne {w : List Ow} {F H : Hp} (g : Good w F H) {p : Addr} (h : H p = none) : ∀ e ∈ w, e.a ≠ p := fun e he q => by
  obtain ⟨_, o, z, _⟩ := g.ow e he
  rw [q, h] at z; cases z
/-- a new frozen object -/
theorem Step.alloc {w : List Ow} {F H : Hp} {p : Addr} {o : HO} (g : Good w F H) (h : H p = none) : Step w w F H (upd F p o) (upd H p o) := by
  have hF := g.ex.back h
  have ne := g.mem_ne h
  refine ⟨Ext.new hF, ⟨g.ex.both h, fun e he => ?_, g.nd⟩, fun a u q f n => ?_, fun e he => .inl ⟨e, he, rfl⟩, fun a u q => ⟨u, Ext.new h a u q⟩⟩
  · obtain ⟨h1, u, h2, h3⟩ := g.ow e he
    exact ⟨by rw [upd_ne (ne e he)]; exact h1, u, by rw [upd_ne (ne e he)]; exact h2, e.mono (Ext.new hF) h3⟩
  · have hne : a ≠ p := fun z => by rw [z, h] at q; cases q
    exact ⟨by rw [upd_ne hne]; exact q, by rw [upd_ne hne]; exact f⟩
/-- a new owned object -/
theorem Step.own {w : List Ow} {F H : Hp} {e : Ow} {o : HO} (g : Good w F H) (h : H e.a = none) (q : e.φ F o) : Step w (w ++ [e]) F H F (upd H e.a o) := by
  have hF := g.ex.back h
  have ne := g.mem_ne h
  have gx : Ext F (upd H e.a o) := fun a u z => by rw [upd_ne (ne_of_none z hF)]; exact g.ex a u z
  refine ⟨Ext.refl F, ⟨gx, fun e' he => ?_, ?_⟩, fun a u q f n => ?_, fun e' he => ?_, fun a u q => ⟨u, Ext.new h a u q⟩⟩
  · rcases List.mem_append.mp he with he | he
    · obtain ⟨h1, u, h2, h3⟩ := g.ow e' he
      exact ⟨h1, u, by rw [upd_ne (ne e' he)]; exact h2, h3⟩
    · have : e' = e := by simpa using he
      subst this
      exact ⟨hF, o, upd_same, q⟩
  · rw [List.map_append, List.nodup_append]
    refine ⟨g.nd, by simp, fun a ha b hb => ?_⟩
    obtain ⟨e', he', rfl⟩ := List.mem_map.mp ha
    have : b = e.a := by simpa using hb
    subst this
    exact ne e' he'
  · have hne : a ≠ e.a := fun z => by rw [z, h] at q; cases q
    exact ⟨by rw [upd_ne hne]; exact q, f⟩
  · rcases List.mem_append.mp he with he | he
    · exact .inl ⟨e', he, rfl⟩
    · have : e' = e := by simpa using he
      subst this
      exact .inr h
/-- an owned object is written -/
theorem Step.write {w1 w2 : List Ow} {e e' : Ow} {F H : Hp} {o : HO} (g : Good (w1 ++ e :: w2) F H) (ha : e'.a = e.a) (q : e'.φ F o) : Step (w1 ++ e :: w2) (w1 ++ e' :: w2) F H F (upd H e.a o) := by
  have nd := g.nd
  rw [List.map_append, List.map_cons] at nd
  have hmap : ((w1 ++ e' :: w2).map (·.a)) = (w1 ++ e :: w2).map (·.a) := by simp [ha]
  obtain ⟨hF, u0, hu0, _⟩ := g.ow e (by simp)
  have gx : Ext F (upd H e.a o) := fun a u z => by rw [upd_ne (ne_of_none z hF)]; exact g.ex a u z
  have apart : ∀ d, d ∈ w1 ∨ d ∈ w2 → d.a ≠ e.a := fun d hd z => by
    have h1 := List.nodup_append.mp nd
    rcases hd with hd | hd
    · exact h1.2.2 d.a (List.mem_map_of_mem hd) e.a (by simp) z
    · have h2 := (List.nodup_cons.mp h1.2.1).1
      exact h2 (by rw [← z]; exact List.mem_map_of_mem hd)
  refine ⟨Ext.refl F, ⟨gx, fun d hd => ?_, by rw [hmap]; exact g.nd⟩, fun a u q f n => ?_, fun d hd => ?_, fun a u q => ?_⟩
  · have hd' : d ∈ w1 ∨ d = e' ∨ d ∈ w2 := by simpa using hd
    rcases hd' with hd | hd | hd
    · obtain ⟨h1, u, h2, h3⟩ := g.ow d (by simp [hd])
      exact ⟨h1, u, by rw [upd_ne (apart d (.inl hd))]; exact h2, h3⟩
    · subst hd
      rw [ha]
      exact ⟨hF, o, upd_same, q⟩
    · obtain ⟨h1, u, h2, h3⟩ := g.ow d (by simp [hd])
      exact ⟨h1, u, by rw [upd_ne (apart d (.inr hd))]; exact h2, h3⟩
  · have hne : a ≠ e.a := fun z => n e (by simp) z.symm
    exact ⟨by rw [upd_ne hne]; exact q, f⟩
  · have hd' : d ∈ w1 ∨ d = e' ∨ d ∈ w2 := by simpa using hd
    rcases hd' with hd | hd | hd
    · exact .inl ⟨d, by simp [hd], rfl⟩
    · subst hd
      exact .inl ⟨e, by simp, ha.symm⟩
    · exact .inl ⟨d, by simp [hd], rfl⟩
  · by_cases hae : a = e.a
    · subst hae; exact ⟨o, upd_same⟩
    · exact ⟨u, by rw [upd_ne hae]; exact q⟩
/-- an owned object is frozen -/
theorem Step.freeze {w1 w2 : List Ow} {e : Ow} {F H : Hp} {o : HO} (g : Good (w1 ++ e :: w2) F H) (ho : H e.a = some o) : Step (w1 ++ e :: w2) (w1 ++ w2) F H (upd F e.a o) H := by
  have nd := g.nd
  rw [List.map_append, List.map_cons] at nd
  obtain ⟨hF, u0, hu0, _⟩ := g.ow e (by simp)
  have apart : ∀ d, d ∈ w1 ∨ d ∈ w2 → d.a ≠ e.a := fun d hd z => by
    have h1 := List.nodup_append.mp nd
    rcases hd with hd | hd
    · exact h1.2.2 d.a (List.mem_map_of_mem hd) e.a (by simp) z
    · have h2 := (List.nodup_cons.mp h1.2.1).1
      exact h2 (by rw [← z]; exact List.mem_map_of_mem hd)
  have sub : ((w1 ++ w2).map (·.a)).Nodup := by
    refine List.Nodup.sublist ?_ g.nd
    rw [List.map_append, List.map_append]
    exact List.Sublist.append (List.Sublist.refl _) (List.Sublist.map _ (List.sublist_cons_self e w2))
  refine ⟨Ext.new hF, ⟨fun a u z => ?_, fun d hd => ?_, sub⟩, fun a u q f n => ?_, fun d hd => ?_, fun a u q => ⟨u, q⟩⟩
  · by_cases hae : a = e.a
    · subst hae; rw [upd_same] at z; cases z; exact ho
    · rw [upd_ne hae] at z; exact g.ex a u z
  · have hd' : d ∈ w1 ∨ d ∈ w2 := by simpa using hd
    obtain ⟨h1, u, h2, h3⟩ := g.ow d (by rcases hd' with z | z <;> simp [z])
    exact ⟨by rw [upd_ne (apart d hd')]; exact h1, u, h2, d.mono (Ext.new hF) h3⟩
  · have hne : a ≠ e.a := fun z => n e (by simp) z.symm
    exact ⟨q, by rw [upd_ne hne]; exact f⟩
  · have hd' : d ∈ w1 ∨ d ∈ w2 := by simpa using hd
    exact .inl ⟨d, by rcases hd' with z | z <;> simp [z], rfl⟩
/-- an owned object is forgotten -/
theorem Step.forget {w1 w2 : List Ow} {e : Ow} {F H : Hp} (g : Good (w1 ++ e :: w2) F H) : Good (w1 ++ w2) F H := by
  refine ⟨g.ex, fun d hd => g.ow d ?_, ?_⟩
  · have hd' : d ∈ w1 ∨ d ∈ w2 := by simpa using hd
    rcases hd' with z | z <;> simp [z]
  · refine List.Nodup.sublist ?_ g.nd
    rw [List.map_append, List.map_append]
    exact List.Sublist.append (List.Sublist.refl _) (List.Sublist.map _ (List.sublist_cons_self e w2))
theorem Good.front {w r : List Ow} {F H : Hp} (g : Good (w ++ r) F H) : Good w F H :=
  ⟨g.ex, fun e he => g.ow e (by simp [he]), by have := g.nd; rw [List.map_append] at this; exact (List.nodup_append.mp this).1⟩
/-- the frame -/
theorem Step.frame {w w' r : List Ow} {F H F' H' : Hp} (s : Step w w' F H F' H') (g : Good (w ++ r) F H) : Step (w ++ r) (w' ++ r) F H F' H' := by
  have nd := g.nd
  rw [List.map_append] at nd
  have h1 := List.nodup_append.mp nd
  have rk : ∀ e ∈ r, ∃ o, H e.a = some o ∧ H' e.a = some o ∧ F' e.a = none ∧ e.φ F o := fun e he => by
    obtain ⟨f, o, ho, q⟩ := g.ow e (by simp [he])
    obtain ⟨a, b⟩ := s.keep e.a o ho f fun d hd z => h1.2.2 d.a (List.mem_map_of_mem hd) e.a (List.mem_map_of_mem he) z
    exact ⟨o, ho, a, b, q⟩
  refine ⟨s.exF, ⟨s.good.ex, fun e he => ?_, ?_⟩, fun a o h f n => s.keep a o h f fun e he => n e (by simp [he]), fun e he => ?_, s.sm⟩
  · rcases List.mem_append.mp he with he | he
    · exact s.good.ow e he
    · obtain ⟨o, _, a, b, q⟩ := rk e he
      exact ⟨b, o, a, e.mono s.exF q⟩
  · rw [List.map_append, List.nodup_append]
    refine ⟨s.good.nd, h1.2.1, fun a ha b hb z => ?_⟩
    obtain ⟨e, he, rfl⟩ := List.mem_map.mp ha
    obtain ⟨d, hd, rfl⟩ := List.mem_map.mp hb
    obtain ⟨o, ho, _, _, _⟩ := rk d hd
    rcases s.adr e he with ⟨e', he', q⟩ | q
    · exact h1.2.2 e'.a (List.mem_map_of_mem he') d.a hb (q.trans z)
    · rw [z, ho] at q; cases q
  · rcases List.mem_append.mp he with he | he
    · rcases s.adr e he with ⟨e', he', q⟩ | q
      · exact .inl ⟨e', by simp [he'], q⟩
      · exact .inr q
    · exact .inl ⟨e, by simp [he], rfl⟩

/-! ### predicates -/
inductive All2 (F : Hp) : List Pr → List V → Prop
  | nil : All2 F [] []
  | cons {P : Pr} {v : V} {ps : List Pr} {vs : List V} : P.p F v → All2 F ps vs → All2 F (P :: ps) (v :: vs)
theorem All2.mono {F F' : Hp} (e : Ext F F') : ∀ {ps : List Pr} {vs : List V}, All2 F ps vs → All2 F' ps vs
  | _, _, .nil => .nil
  | _, _, .cons (P := P) h t => .cons (P.mono e h) (All2.mono e t)
theorem All2.len {F : Hp} : ∀ {ps : List Pr} {vs : List V}, All2 F ps vs → ps.length = vs.length
  | _, _, .nil => rfl
  | _, _, .cons _ t => congrArg Nat.succ t.len
theorem All2.get {F : Hp} : ∀ {ps : List Pr} {vs : List V} {i : Nat} {P : Pr}, All2 F ps vs → ps[i]? = some P → ∃ v, vs[i]? = some v ∧ P.p F v
  | _, _, 0, P, .cons h _, e => by
    have e : some _ = some P := e
    cases e
    exact ⟨_, rfl, h⟩
  | _, _, i + 1, P, .cons _ t, e => t.get (i := i) e
theorem All2.getV {F : Hp} : ∀ {ps : List Pr} {vs : List V} {i : Nat} {v : V}, All2 F ps vs → vs[i]? = some v → ∃ P, ps[i]? = some P ∧ P.p F v
  | _, _, 0, v, .cons h _, e => by
    have e : some _ = some v := e
    cases e
    exact ⟨_, rfl, h⟩
  | _, _, i + 1, v, .cons _ t, e => t.getV (i := i) e
theorem All2.append {F : Hp} : ∀ {ps qs : List Pr} {vs ws : List V}, All2 F ps vs → All2 F qs ws → All2 F (ps ++ qs) (vs ++ ws)
  | _, _, _, _, .nil, h => h
  | _, _, _, _, .cons h t, h' => .cons h (t.append h')
theorem All2.drop {F : Hp} : ∀ {ps : List Pr} {vs : List V} (n : Nat), All2 F ps vs → All2 F (ps.drop n) (vs.drop n)
  | _, _, 0, h => h
  | _, _, _ + 1, .nil => .nil
  | _, _, n + 1, .cons _ t => t.drop n
theorem All2.take {F : Hp} : ∀ {ps : List Pr} {vs : List V} (n : Nat), All2 F ps vs → All2 F (ps.take n) (vs.take n)
  | _, _, 0, _ => .nil
  | _, _, _ + 1, .nil => .nil
  | _, _, n + 1, .cons h t => .cons h (t.take n)
theorem All2.set {F : Hp} {P : Pr} {v : V} (h : P.p F v) : ∀ {ps : List Pr} {vs : List V} (n : Nat), All2 F ps vs → All2 F (ps.set n P) (vs.set n v)
  | _, _, _, .nil => .nil
  | _, _, 0, .cons _ t => .cons h t
  | _, _, n + 1, .cons q t => .cons q (t.set h n)
theorem All2.rep {F : Hp} {P : Pr} {v : V} (h : P.p F v) : ∀ n, All2 F (List.replicate n P) (List.replicate n v)
  | 0 => .nil
  | n + 1 => .cons h (All2.rep h n)
theorem All2.map {F : Hp} {α : Type} {f : α → Pr} {g : α → V} : ∀ {l : List α}, (∀ x ∈ l, (f x).p F (g x)) → All2 F (l.map f) (l.map g)
  | [], _ => .nil
  | x :: l, h => .cons (h x List.mem_cons_self) (All2.map fun y hy => h y (List.mem_cons_of_mem _ hy))

/-- just this value -/
def pV (x : V) : Pr := ⟨fun _ v => v = x, fun _ h => h⟩
abbrev pI (i : Int) : Pr := pV (.int i)
abbrev pB (b : Bool) : Pr := pV (.bl b)
abbrev pN : Pr := pV .non
abbrev pA (a : Addr) : Pr := pV (.ref a)
def pTop : Pr := ⟨fun _ _ => True, fun _ h => h⟩
def pTup (K : PySem.W.Frag) (ps : List Pr) : Pr := ⟨fun F v => ∃ a vs, v = .ref a ∧ SqT K F a vs ∧ All2 F ps vs, fun e ⟨a, vs, h1, h2, h3⟩ => ⟨a, vs, h1, e.t h2, h3.mono e⟩⟩
def pLst (ps : List Pr) : Pr := ⟨fun F v => ∃ a vs, v = .ref a ∧ F a = some (.lst vs) ∧ All2 F ps vs, fun e ⟨a, vs, h1, h2, h3⟩ => ⟨a, vs, h1, e _ _ h2, h3.mono e⟩⟩
/-- a list that is read (the script too) -/
def pSeq (K : PySem.W.Frag) (ps : List Pr) : Pr := ⟨fun F v => ∃ a vs, v = .ref a ∧ SqL K F a vs ∧ All2 F ps vs, fun e ⟨a, vs, h1, h2, h3⟩ => ⟨a, vs, h1, e.l h2, h3.mono e⟩⟩
def pEx {α : Type} (P : α → Pr) : Pr := ⟨fun F v => ∃ x, (P x).p F v, fun e ⟨x, h⟩ => ⟨x, (P x).mono e h⟩⟩
def pAnd (c : Prop) (P : Pr) : Pr := ⟨fun F v => c ∧ P.p F v, fun e h => ⟨h.1, P.mono e h.2⟩⟩
/-- an object of the class at C with these fields, frozen -/
def pIns (C : Addr) (fs : List (Str × Pr)) : Pr :=
  ⟨fun F v => ∃ (a dx : Addr) (gs : List (Str × V)), v = .ref a ∧ F a = some (.ins C dx gs) ∧ gs.map (·.1) = fs.map (·.1) ∧ All2 F (fs.map (·.2)) (gs.map (·.2)), fun {F F' v} e h => by
    obtain ⟨a, dx, gs, h1, h2, h3, h4⟩ := h
    exact ⟨a, dx, gs, h1, e _ _ h2, h3, All2.mono e h4⟩⟩
/-- implication -/
def Pr.le (P Q : Pr) : Prop := ∀ F v, P.p F v → Q.p F v
theorem Pr.le_refl (P : Pr) : P.le P := fun _ _ h => h

abbrev En := List (Option Pr)
/-- slots -/
structure EnvR (ρ : En) (σ : St) (F : Hp) : Prop where
  len : σ.length = ρ.length
  at_ : ∀ (i : Nat) (P : Pr), ρ[i]? = some (some P) → ∃ v, σ[i]? = some (some v) ∧ P.p F v
theorem EnvR.mono {ρ : En} {σ : St} {F F' : Hp} (e : Ext F F') (h : EnvR ρ σ F) : EnvR ρ σ F' :=
  ⟨h.len, fun i P q => let ⟨v, h1, h2⟩ := h.at_ i P q; ⟨v, h1, P.mono e h2⟩⟩
theorem EnvR.set {ρ : En} {σ : St} {F : Hp} {i : Nat} {v : V} {P : Pr} (h : EnvR ρ σ F) (q : P.p F v) : EnvR (ρ.set i (some P)) (σ.set i (some v)) F := by
  refine ⟨by simp [h.len], fun j Q hj => ?_⟩
  by_cases hij : i = j
  · subst hij
    by_cases hl : i < ρ.length
    · rw [List.getElem?_set_self hl] at hj
      cases hj
      exact ⟨v, by rw [List.getElem?_set_self (by rw [h.len]; exact hl)], q⟩
    · rw [List.getElem?_eq_none (by simpa using hl)] at hj
      cases hj
  · rw [List.getElem?_set_ne hij] at hj ⊢
    exact h.at_ j Q hj
/-- weaker slots -/
inductive Sub : En → En → Prop
  | nil : Sub [] []
  | drop {a : Option Pr} {ρ ρ' : En} : Sub ρ ρ' → Sub (a :: ρ) (none :: ρ')
  | keep {P Q : Pr} {ρ ρ' : En} : P.le Q → Sub ρ ρ' → Sub (some P :: ρ) (some Q :: ρ')
theorem Sub.keepV {x y : V} {ρ ρ' : En} (h : x = y) (s : Sub ρ ρ') : Sub (some (pV x) :: ρ) (some (pV y) :: ρ') := by
  subst h
  exact .keep (Pr.le_refl _) s
theorem Sub.refl : ∀ ρ : En, Sub ρ ρ
  | [] => .nil
  | none :: ρ => .drop (Sub.refl ρ)
  | some P :: ρ => .keep (Pr.le_refl P) (Sub.refl ρ)
theorem Sub.len {ρ ρ' : En} (h : Sub ρ ρ') : ρ.length = ρ'.length := by
  induction h with
  | nil => rfl
  | drop _ ih => exact congrArg Nat.succ ih
  | keep _ _ ih => exact congrArg Nat.succ ih
theorem Sub.get {ρ ρ' : En} (h : Sub ρ ρ') : ∀ (i : Nat) (Q : Pr), ρ'[i]? = some (some Q) → ∃ P, ρ[i]? = some (some P) ∧ P.le Q := by
  induction h with
  | nil => intro i Q q; simp at q
  | drop _ ih =>
    intro i Q q
    cases i with
    | zero => simp at q
    | succ i => exact ih i Q q
  | keep hp _ ih =>
    intro i Q q
    cases i with
    | zero => simp at q; subst q; exact ⟨_, rfl, hp⟩
    | succ i => exact ih i Q q
theorem EnvR.sub {ρ ρ' : En} {σ : St} {F : Hp} (h : EnvR ρ σ F) (s : Sub ρ ρ') : EnvR ρ' σ F :=
  ⟨h.len.trans s.len, fun i Q q => by
    obtain ⟨P, h1, h2⟩ := s.get i Q q
    obtain ⟨v, h3, h4⟩ := h.at_ i P h1
    exact ⟨v, h3, h2 F v h4⟩⟩
theorem EnvR.wipe {ρ : En} {σ : St} {F : Hp} (h : EnvR ρ σ F) : ∀ vs : List Nat, EnvR (vs.foldr (fun i r => r.set i none) ρ) (wipe σ vs) F
  | [] => h
  | v :: vs => by
    have ih := EnvR.wipe h vs
    refine ⟨by simp [L2.wipe, ih.len], fun j Q hj => ?_⟩
    have hj : ((vs.foldr (fun i (r : En) => r.set i none) ρ).set v none)[j]? = some (some Q) := hj
    by_cases hij : v = j
    · subst hij
      by_cases hl : v < (vs.foldr (fun i (r : En) => r.set i none) ρ).length
      · rw [List.getElem?_set_self hl] at hj; cases hj
      · rw [List.getElem?_eq_none (by simpa using hl)] at hj; cases hj
    · rw [List.getElem?_set_ne hij] at hj
      show ∃ w, ((L2.wipe σ vs).set v none)[j]? = some (some w) ∧ _
      rw [List.getElem?_set_ne hij]
      exact ih.at_ j Q hj

/-! ### what a reading does -/
/-- an expression: behind it a value of P, the owned ones w' -/
def Ev (ρ : En) (w : List Ow) (t : TE) (P : Pr) (w' : List Ow) : Prop :=
  ∀ σ F H (Q : VK), EnvR ρ σ F → Good w F H → (∀ v F' H', Step w w' F H F' H' → P.p F' v → Q v H') → t σ H Q
/-- an expression that leaves what is owned (as it is said) -/
abbrev Ee (ρ : En) (w : List Ow) (t : TE) (P : Pr) : Prop := Ev ρ w t P w
def Et (ρ : En) (w : List Ow) (t : TT) (b : Bool) : Prop :=
  ∀ σ F H (Q : Bool → Hp → Prop), EnvR ρ σ F → Good w F H → (∀ F' H', Step w w F H F' H' → Q b H') → t σ H Q
def Ea (ρ : En) (w : List Ow) (t : TA) (ps : List Pr) : Prop :=
  ∀ σ F H (Q : List V → Hp → Prop), EnvR ρ σ F → Good w F H → (∀ vs F' H', Step w w F H F' H' → All2 F' ps vs → Q vs H') → t σ H Q
def Es (ρ : En) (w : List Ow) (t : TS) (ρ' : En) (w' : List Ow) : Prop :=
  ∀ σ F H D, EnvR ρ σ F → Good w F H → (∀ σ' F' H', Step w w' F H F' H' → EnvR ρ' σ' F' → D.nx σ' H') → t D σ H
def Er (ρ : En) (w : List Ow) (t : TS) (P : Pr) (w' : List Ow) : Prop :=
  ∀ σ F H D, EnvR ρ σ F → Good w F H → (∀ v F' H', Step w w' F H F' H' → P.p F' v → D.rt v H') → t D σ H
/-- a def's promise holds at these arguments -/
def Tl (sp : Sp) (ps : List Pr) (w : List Ow) (P : Pr) (w' : List Ow) : Prop :=
  ∀ vs F H (Q : VK) E, All2 F ps vs → Good w F H → (∀ v F' H', Step w w' F H F' H' → P.p F' v → Q v H') → sp vs H Q E
section
variable {K : PySem.W.Frag} {ρ ρ' ρ1 : En} {w w' w1 r : List Ow} {t u ta tb tc : TE} {P P' P1 P2 : Pr}
theorem Ev.le (h : Ev ρ w t P w') (q : P.le P') : Ev ρ w t P' w' := fun σ F H Q e g k => h σ F H Q e g fun v F' H' s p => k v F' H' s (q _ _ p)
theorem Ev.is (h : Ev ρ w t P w') (q : P = P') : Ev ρ w t P' w' := q ▸ h
theorem Ev.sub (h : Ev ρ' w t P w') (q : Sub ρ ρ') : Ev ρ w t P w' := fun σ F H Q e g k => h σ F H Q (e.sub q) g k
theorem ee_var {i : Nat} (h : ρ[i]? = some (some P)) : Ee ρ w (tVar i) P := fun σ F H Q e g k => by
  obtain ⟨v, h1, h2⟩ := e.at_ i P h
  exact ⟨v, h1, k v F H (Step.refl g) h2⟩
theorem ee_c {v : V} : Ee ρ w (tC v) (pV v) := fun σ F H Q e g k => k v F H (Step.refl g) rfl
theorem ea_nil : Ea ρ w tNil [] := fun σ F H Q e g k => k [] F H (Step.refl g) .nil
theorem ea_cons {tr : TA} {ps : List Pr} (h : Ee ρ w t P) (hr : Ea ρ w tr ps) : Ea ρ w (tCons t tr) (P :: ps) := fun σ F H Q e g k =>
  h σ F H _ e g fun v F1 H1 s1 p1 => hr σ F1 H1 _ (e.mono s1.exF) s1.good fun vs F2 H2 s2 p2 => k (v :: vs) F2 H2 (s1.trans s2) (.cons (P.mono s2.exF p1) p2)
/-- two-place operators -/
theorem ee_op {r : R2} (ha : Ee ρ w ta P1) (hb : Ee ρ w tb P2) (hr : ∀ x y F H (Q : VK), P1.p F x → P2.p F y → Good w F H → (∀ v F' H', Step w w F H F' H' → P.p F' v → Q v H') → r x y H Q) : Ee ρ w (tOp r ta tb) P := fun σ F H Q e g k =>
  ha σ F H _ e g fun x F1 H1 s1 p1 => hb σ F1 H1 _ (e.mono s1.exF) s1.good fun y F2 H2 s2 p2 =>
    hr x y F2 H2 Q (P1.mono s2.exF p1) p2 s2.good fun v F3 H3 s3 p3 => k v F3 H3 ((s1.trans s2).trans s3) p3
theorem ee_I0 {f : Int → Int → V} {i j : Int} (ha : Ee ρ w ta (pI i)) (hb : Ee ρ w tb (pI j)) : Ee ρ w (tOp (rI0 f) ta tb) (pV (f i j)) :=
  ee_op ha hb fun x y F H Q hx hy g k => ⟨i, j, hx, hy, k _ F H (Step.refl g) rfl⟩
theorem ee_I {C : Int → Int → Prop} {f : Int → Int → V} {i j : Int} (ha : Ee ρ w ta (pI i)) (hb : Ee ρ w tb (pI j)) (hc : C i j) : Ee ρ w (tOp (rI C f) ta tb) (pV (f i j)) :=
  ee_op ha hb fun x y F H Q hx hy g k => ⟨i, j, hx, hy, hc, k _ F H (Step.refl g) rfl⟩
theorem ee_eq {x y : V} (ha : Ee ρ w ta (pV x)) (hb : Ee ρ w tb (pV y)) (hs : scal x y = true) : Ee ρ w (tOp rEq ta tb) (pB (decide (x = y))) :=
  ee_op ha hb fun x' y' F H Q hx hy g k => by
    have hx : x' = x := hx
    have hy : y' = y := hy
    subst hx hy
    exact ⟨hs, k _ F H (Step.refl g) rfl⟩
theorem ee_ne {x y : V} (ha : Ee ρ w ta (pV x)) (hb : Ee ρ w tb (pV y)) (hs : scal x y = true) : Ee ρ w (tOp rNe ta tb) (pB (!decide (x = y))) :=
  ee_op ha hb fun x' y' F H Q hx hy g k => by
    have hx : x' = x := hx
    have hy : y' = y := hy
    subst hx hy
    exact ⟨hs, k _ F H (Step.refl g) rfl⟩
theorem dec_int (i j : Int) : decide (V.int i = V.int j) = decide (i = j) := by
  by_cases h : i = j
  · subst h; simp
  · rw [decide_eq_false h, decide_eq_false fun z => h (V.int.inj z)]
theorem ee_eqI {i j : Int} (ha : Ee ρ w ta (pI i)) (hb : Ee ρ w tb (pI j)) : Ee ρ w (tOp rEq ta tb) (pB (decide (i = j))) := by
  have h := ee_eq ha hb rfl
  rw [dec_int] at h
  exact h
theorem ee_neI {i j : Int} (ha : Ee ρ w ta (pI i)) (hb : Ee ρ w tb (pI j)) : Ee ρ w (tOp rNe ta tb) (pB (!decide (i = j))) := by
  have h := ee_ne ha hb rfl
  rw [dec_int] at h
  exact h
theorem ee_un {f : Int → V} {i : Int} (ha : Ee ρ w ta (pI i)) : Ee ρ w (tUn (rU f) ta) (pV (f i)) := fun σ F H Q e g k =>
  ha σ F H _ e g fun x F1 H1 s1 p1 => ⟨i, p1, k _ F1 H1 s1 rfl⟩
theorem ee_ixT {ps : List Pr} {i : Int} {n : Nat} (ha : Ee ρ w ta (pTup K ps)) (hb : Ee ρ w tb (pI i)) (hi : ixN ps.length i = some n) (hp : ps[n]? = some P) : Ee ρ w (tOp (rIxT K) ta tb) P :=
  ee_op ha hb fun x y F H Q hx hy g k => by
    obtain ⟨a, vs, h1, h2, h3⟩ := hx
    obtain ⟨v, h4, h5⟩ := h3.get hp
    exact ⟨a, vs, i, v, h1, hy, g.ex.t h2, by rw [atI, ← h3.len, hi]; exact h4, k v F H (Step.refl g) h5⟩
theorem ee_ixL {ps : List Pr} {i : Int} {n : Nat} (ha : Ee ρ w ta (pLst ps)) (hb : Ee ρ w tb (pI i)) (hi : ixN ps.length i = some n) (hp : ps[n]? = some P) : Ee ρ w (tOp (rIxL K) ta tb) P :=
  ee_op ha hb fun x y F H Q hx hy g k => by
    obtain ⟨a, vs, h1, h2, h3⟩ := hx
    obtain ⟨v, h4, h5⟩ := h3.get hp
    exact ⟨a, vs, i, v, h1, hy, SqL.of (g.ex _ _ h2), by rw [atI, ← h3.len, hi]; exact h4, k v F H (Step.refl g) h5⟩
theorem ixN_nat {n k : Nat} (h : k < n) : ixN n (k : Int) = some k := by
  unfold ixN
  rw [if_pos (by omega), if_pos (by omega)]
  simp
theorem ee_tup {ta : TA} {ps : List Pr} (h : Ea ρ w ta ps) (hl : ps.length ≤ 1000) : Ee ρ w (tTup ta) (pTup K ps) := fun σ F H Q e g k =>
  h σ F H _ e g fun vs F1 H1 s1 p1 => ⟨Nat.le_trans (by rw [← p1.len]; exact hl) (by decide : 1000 ≤ sizeLine), fun p hp => by
    have s2 := Step.alloc (o := .tup vs) s1.good hp
    exact k _ _ _ (s1.trans s2) ⟨p, vs, rfl, SqT.of upd_same, p1.mono s2.exF⟩⟩
theorem ee_lst {ta : TA} {ps : List Pr} (h : Ea ρ w ta ps) (hl : ps.length ≤ 1000) : Ee ρ w (tLst ta) (pLst ps) := fun σ F H Q e g k =>
  h σ F H _ e g fun vs F1 H1 s1 p1 => ⟨Nat.le_trans (by rw [← p1.len]; exact hl) (by decide : 1000 ≤ sizeLine), fun p hp => by
    have s2 := Step.alloc (o := .lst vs) s1.good hp
    exact k _ _ _ (s1.trans s2) ⟨p, vs, rfl, upd_same, p1.mono s2.exF⟩⟩
/-- what is said of an owned list -/
def oLst (a : Addr) (ps : List Pr) : Ow := ⟨a, fun F o => ∃ vs, o = .lst vs ∧ All2 F ps vs, fun e ⟨vs, h1, h2⟩ => ⟨vs, h1, h2.mono e⟩⟩
/-- calls -/
theorem ev_call {sp : Sp} {dvs : List V} {E : XK} {ta : TA} {ps ds : List Pr} (h : Ea ρ (w ++ r) ta ps) (hd : ∀ F, All2 F ds dvs) (hs : Tl sp (ps ++ ds) w P w') : Ev ρ (w ++ r) (tCall sp dvs E ta) P (w' ++ r) := fun σ F H Q e g k =>
  h σ F H _ e g fun vs F1 H1 s1 p1 => hs _ F1 H1 Q E (p1.append (hd F1)) s1.good.front fun v F2 H2 s2 p2 => k v F2 H2 (s1.trans (s2.frame s1.good)) p2
theorem ee_call {sp : Sp} {E : XK} {ta : TA} {ps : List Pr} (h : Ea ρ w ta ps) (hs : Tl sp ps [] P []) : Ee ρ w (tCall sp [] E ta) P :=
  ev_call (w := []) (r := w) (w' := []) (ds := []) h (fun _ => .nil) (by rw [List.append_nil]; exact hs)
/-- an object's field -/
theorem ee_fld {C : Addr} {f : Str} {fs : List (Str × Pr)} (ha : Ee ρ w ta (pIns C fs)) (c : Cls K C) (n : NoAttr K C f) (hl : fs.lookup f = some P) : Ee ρ w (tFld K ta f) P := fun σ F H Q e g k =>
  ha σ F H _ e g fun x F1 H1 s1 p1 => by
    obtain ⟨a, dx, gs, h1, h2, h3, h4⟩ := p1
    have key : ∀ (fs : List (Str × Pr)) (gs : List (Str × V)), gs.map (·.1) = fs.map (·.1) → All2 F1 (fs.map (·.2)) (gs.map (·.2)) → fs.lookup f = some P → ∃ v, gs.lookup f = some v ∧ P.p F1 v := by
      intro fs
      induction fs with
      | nil => intro gs _ _ h; cases h
      | cons q fs ih =>
        intro gs hk ha hl
        cases gs with
        | nil => cases hk
        | cons z gs =>
          obtain ⟨q1, q2⟩ := q
          obtain ⟨z1, z2⟩ := z
          have hk1 : z1 = q1 := (List.cons.inj hk).1
          have hk2 := (List.cons.inj hk).2
          subst hk1
          cases ha with
          | cons hv hr =>
            rw [List.lookup_cons] at hl ⊢
            cases hb : f == z1 with
            | true =>
              rw [hb] at hl
              cases hl
              exact ⟨z2, rfl, hv⟩
            | false =>
              rw [hb] at hl
              exact ih gs hk2 hr hl
    obtain ⟨v, hv, hp⟩ := key fs gs h3 h4 hl
    exact ⟨a, C, dx, gs, v, h1, s1.good.ex _ _ h2, c, n, hv, k v F1 H1 s1 hp⟩
/-- a method of a frozen object -/
theorem ev_meth {C : Addr} {m : Str} {sp : Sp} {dvs : List V} {E : XK} {ta' : TA} {fs : List (Str × Pr)} {ps ds : List Pr} (ha : Ee ρ (w ++ r) ta (pIns C fs)) (hm : fs.lookup m = none) (h : Ea ρ (w ++ r) ta' ps) (hd : ∀ F, All2 F ds dvs)
    (hs : Tl sp (pIns C fs :: (ps ++ ds)) w P w') : Ev ρ (w ++ r) (tMeth C m sp dvs E ta ta') P (w' ++ r) := fun σ F H Q e g k =>
  ha σ F H _ e g fun x F1 H1 s1 p1 => by
    obtain ⟨a, dx, gs, h1, h2, h3, h4⟩ := id p1
    have hno : gs.lookup m = none := by
      have key : ∀ (fs : List (Str × Pr)) (gs : List (Str × V)), gs.map (·.1) = fs.map (·.1) → fs.lookup m = none → gs.lookup m = none := by
        intro fs
        induction fs with
        | nil => intro gs hk _; cases gs with
          | nil => rfl
          | cons _ _ => cases hk
        | cons q fs ih =>
          intro gs hk hl
          cases gs with
          | nil => rfl
          | cons z gs =>
            obtain ⟨q1, q2⟩ := q
            obtain ⟨z1, z2⟩ := z
            have hk1 : z1 = q1 := (List.cons.inj hk).1
            subst hk1
            rw [List.lookup_cons] at hl ⊢
            cases hb : m == z1 with
            | true => rw [hb] at hl; cases hl
            | false => rw [hb] at hl; exact ih gs (List.cons.inj hk).2 hl
      exact key fs gs h3 hm
    refine ⟨a, dx, gs, h1, s1.good.ex _ _ h2, hno, ?_⟩
    refine h σ F1 H1 _ (e.mono s1.exF) s1.good fun vs F2 H2 s2 p2 => ?_
    exact hs _ F2 H2 Q E (.cons ((pIns C fs).mono s2.exF p1) (p2.append (hd F2))) s2.good.front fun v F3 H3 s3 p3 => k v F3 H3 ((s1.trans s2).trans (s3.frame s2.good)) p3
theorem ee_meth {C : Addr} {m : Str} {sp : Sp} {E : XK} {ta' : TA} {fs : List (Str × Pr)} {ps : List Pr} (ha : Ee ρ w ta (pIns C fs)) (hm : fs.lookup m = none) (h : Ea ρ w ta' ps) (hs : Tl sp (pIns C fs :: ps) [] P []) : Ee ρ w (tMeth C m sp [] E ta ta') P :=
  ev_meth (w := []) (r := w) (w' := []) (ds := []) ha hm h (fun _ => .nil) (by rw [List.append_nil]; exact hs)

/-! ### tests -/
theorem et_test {b : Bool} (h : Ee ρ w t (pB b)) : Et ρ w (tTest t) b := fun σ F H Q e g k => h σ F H _ e g fun v F1 H1 s1 p1 => ⟨b, p1, k F1 H1 s1⟩
theorem et_B {b : Bool} (h : Ee ρ w t (pB b)) : Et ρ w (tB t) b := fun σ F H Q e g k => h σ F H _ e g fun v F1 H1 s1 p1 => ⟨b, p1, k F1 H1 s1⟩
theorem Et.is {tt : TT} {b b' : Bool} (h : Et ρ w tt b) (q : b = b') : Et ρ w tt b' := q ▸ h
theorem et_and {ta tb : TT} {a b : Bool} (h1 : Et ρ w ta a) (h2 : a = true → Et ρ w tb b) : Et ρ w (tAnd ta tb) (a && b) := fun σ F H Q e g k => h1 σ F H _ e g fun F1 H1 s1 => by
  cases a with
  | true =>
    show tb σ H1 Q
    exact h2 rfl σ F1 H1 Q (e.mono s1.exF) s1.good fun F2 H2 s2 => k F2 H2 (s1.trans s2)
  | false =>
    show Q false H1
    exact k F1 H1 s1
theorem et_or {ta tb : TT} {a b : Bool} (h1 : Et ρ w ta a) (h2 : a = false → Et ρ w tb b) : Et ρ w (tOr ta tb) (a || b) := fun σ F H Q e g k => h1 σ F H _ e g fun F1 H1 s1 => by
  cases a with
  | true =>
    show Q true H1
    exact k F1 H1 s1
  | false =>
    show tb σ H1 Q
    exact h2 rfl σ F1 H1 Q (e.mono s1.exF) s1.good fun F2 H2 s2 => k F2 H2 (s1.trans s2)
theorem et_not {tt : TT} {b : Bool} (h : Et ρ w tt b) : Et ρ w (tNot tt) (!b) := fun σ F H Q e g k => h σ F H _ e g fun F1 H1 s1 => k F1 H1 s1
theorem ee_and {a b : Bool} (h1 : Ee ρ w ta (pB a)) (h2 : a = true → Ee ρ w tb (pB b)) : Ee ρ w (tAndV ta tb) (pB (a && b)) := fun σ F H Q e g k => h1 σ F H _ e g fun v F1 H1 s1 p1 => ⟨a, p1, by
  cases a with
  | true =>
    show tb σ H1 Q
    exact h2 rfl σ F1 H1 Q (e.mono s1.exF) s1.good fun v F2 H2 s2 => k v F2 H2 (s1.trans s2)
  | false =>
    show Q (.bl false) H1
    exact k _ F1 H1 s1 rfl⟩
theorem ee_or {a b : Bool} (h1 : Ee ρ w ta (pB a)) (h2 : a = false → Ee ρ w tb (pB b)) : Ee ρ w (tOrV ta tb) (pB (a || b)) := fun σ F H Q e g k => h1 σ F H _ e g fun v F1 H1 s1 p1 => ⟨a, p1, by
  cases a with
  | true =>
    show Q (.bl true) H1
    exact k _ F1 H1 s1 rfl
  | false =>
    show tb σ H1 Q
    exact h2 rfl σ F1 H1 Q (e.mono s1.exF) s1.good fun v F2 H2 s2 => k v F2 H2 (s1.trans s2)⟩
theorem ee_not {a : Bool} (h1 : Ee ρ w ta (pB a)) : Ee ρ w (tNotV ta) (pB (!a)) := fun σ F H Q e g k => h1 σ F H _ e g fun v F1 H1 s1 p1 => ⟨a, p1, k _ F1 H1 s1 rfl⟩
theorem ee_if {tt : TT} {b : Bool} (h : Et ρ w tt b) (h1 : b = true → Ee ρ w ta P) (h2 : b = false → Ee ρ w tb P) : Ee ρ w (tIf tt ta tb) P := fun σ F H Q e g k => h σ F H _ e g fun F1 H1 s1 => by
  cases b with
  | true =>
    show ta σ H1 Q
    exact h1 rfl σ F1 H1 Q (e.mono s1.exF) s1.good fun v F2 H2 s2 => k v F2 H2 (s1.trans s2)
  | false =>
    show tb σ H1 Q
    exact h2 rfl σ F1 H1 Q (e.mono s1.exF) s1.good fun v F2 H2 s2 => k v F2 H2 (s1.trans s2)
/-- a < b < c -/
theorem ee_chain {r r' : R2} {a b : Bool} (ha : Ee ρ w ta P) (hb : Ee ρ w tb P1) (hc : Ee ρ w tc P2)
    (hr : ∀ x y F H (Q : VK), P.p F x → P1.p F y → Good w F H → Q (.bl a) H → r x y H Q) (hr' : ∀ x y F H (Q : VK), P1.p F x → P2.p F y → Good w F H → Q (.bl b) H → r' x y H Q) : Ee ρ w (tChain r r' ta tb tc) (pB (a && b)) := fun σ F H Q e g k =>
  ha σ F H _ e g fun x F1 H1 s1 p1 => hb σ F1 H1 _ (e.mono s1.exF) s1.good fun y F2 H2 s2 p2 => by
    refine hr x y F2 H2 _ (P.mono s2.exF p1) p2 s2.good ⟨a, rfl, ?_⟩
    cases a with
    | true =>
      refine hc σ F2 H2 _ (e.mono (s1.trans s2).exF) s2.good fun z F3 H3 s3 p3 => ?_
      exact hr' y z F3 H3 Q (P1.mono s3.exF p2) p3 s3.good (k _ F3 H3 ((s1.trans s2).trans s3) rfl)
    | false => exact k _ F2 H2 (s1.trans s2) rfl

/-! ### statements -/
variable {s1 s2 tb' : TS} {i : Nat}
theorem Es.sub (h : Es ρ w s1 ρ1 w') (q : Sub ρ1 ρ') : Es ρ w s1 ρ' w' := fun σ F H D e g k => h σ F H D e g fun σ' F' H' s e' => k σ' F' H' s (e'.sub q)
theorem Es.pre (h : Es ρ1 w s1 ρ' w') (q : Sub ρ ρ1) : Es ρ w s1 ρ' w' := fun σ F H D e g k => h σ F H D (e.sub q) g k
theorem Er.pre (h : Er ρ1 w s1 P w') (q : Sub ρ ρ1) : Er ρ w s1 P w' := fun σ F H D e g k => h σ F H D (e.sub q) g k
theorem Er.le (h : Er ρ w s1 P w') (q : P.le P') : Er ρ w s1 P' w' := fun σ F H D e g k => h σ F H D e g fun v F' H' s p => k v F' H' s (q _ _ p)
theorem Er.is (h : Er ρ w s1 P w') (q : P = P') : Er ρ w s1 P' w' := q ▸ h
theorem es_next : Es ρ w tNext ρ w := fun σ F H D e g k => k σ F H (Step.refl g) e
theorem es_seq (h1 : Es ρ w s1 ρ1 w1) (h2 : Es ρ1 w1 s2 ρ' w') : Es ρ w (tSeq s1 s2) ρ' w' := fun σ F H D e g k =>
  h1 σ F H { D with nx := s2 D } e g fun σ1 F1 H1 t1 e1 => h2 σ1 F1 H1 D e1 t1.good fun σ2 F2 H2 t2 e2 => k σ2 F2 H2 (t1.trans t2) e2
theorem er_seq (h1 : Es ρ w s1 ρ1 w1) (h2 : Er ρ1 w1 s2 P w') : Er ρ w (tSeq s1 s2) P w' := fun σ F H D e g k =>
  h1 σ F H { D with nx := s2 D } e g fun σ1 F1 H1 t1 e1 => h2 σ1 F1 H1 D e1 t1.good fun v F2 H2 t2 p2 => k v F2 H2 (t1.trans t2) p2
theorem er_fst (h1 : Er ρ w s1 P w') : Er ρ w (tSeq s1 s2) P w' := fun σ F H D e g k => h1 σ F H { D with nx := s2 D } e g k
theorem es_set (h : Ev ρ w t P w') : Es ρ w (tAsg t (gName i)) (ρ.set i (some P)) w' := fun σ F H D e g k =>
  h σ F H _ e g fun v F1 H1 t1 p1 => k _ F1 H1 t1 ((e.mono t1.exF).set p1)
theorem es_drop (h : Ev ρ w t P w') : Es ρ w (tDrop t) ρ w' := fun σ F H D e g k => h σ F H _ e g fun v F1 H1 t1 p1 => k σ F1 H1 t1 (e.mono t1.exF)
theorem er_ret (h : Ev ρ w t P w') : Er ρ w (tRet t) P w' := fun σ F H D e g k => h σ F H _ e g k
theorem er_retN : Er ρ w tRetN pN w := fun σ F H D e g k => k _ F H (Step.refl g) rfl
theorem es_if {c : TT} {b : Bool} (h : Et ρ w c b) (h1 : b = true → Es ρ w s1 ρ' w') (h2 : b = false → Es ρ w s2 ρ' w') : Es ρ w (tIfS c s1 s2) ρ' w' := fun σ F H D e g k => h σ F H _ e g fun F1 H1 t1 => by
  cases b with
  | true =>
    show s1 D σ H1
    exact h1 rfl σ F1 H1 D (e.mono t1.exF) t1.good fun σ' F2 H2 t2 => k σ' F2 H2 (t1.trans t2)
  | false =>
    show s2 D σ H1
    exact h2 rfl σ F1 H1 D (e.mono t1.exF) t1.good fun σ' F2 H2 t2 => k σ' F2 H2 (t1.trans t2)
theorem er_if {c : TT} {b : Bool} (h : Et ρ w c b) (h1 : b = true → Er ρ w s1 P w') (h2 : b = false → Er ρ w s2 P w') : Er ρ w (tIfS c s1 s2) P w' := fun σ F H D e g k => h σ F H _ e g fun F1 H1 t1 => by
  cases b with
  | true =>
    show s1 D σ H1
    exact h1 rfl σ F1 H1 D (e.mono t1.exF) t1.good fun v F2 H2 t2 => k v F2 H2 (t1.trans t2)
  | false =>
    show s2 D σ H1
    exact h2 rfl σ F1 H1 D (e.mono t1.exF) t1.good fun v F2 H2 t2 => k v F2 H2 (t1.trans t2)
/-- the next value is opened -/
theorem es_ex {α : Type} {Q : α → Pr} {D : Ends} {σ : St} {H : Hp} {F : Hp} (h : Ev ρ w t (pEx Q) w') (e : EnvR ρ σ F) (g : Good w F H)
    (k : ∀ x v F' H', Step w w' F H F' H' → (Q x).p F' v → D.nx (σ.set i (some v)) H') : tAsg t (gName i) D σ H :=
  h σ F H _ e g fun v F1 H1 s1 ⟨x, p1⟩ => k x v F1 H1 s1 p1
/-- x = e, whose value is one of several: the rest for each -/
theorem er_ex {α : Type} {Q : α → Pr} (h : Ev ρ w t (pEx Q) w1) (k : ∀ x, Er (ρ.set i (some (Q x))) w1 s2 P w') : Er ρ w (tSeq (tAsg t (gName i)) s2) P w' := fun σ F H D e g q =>
  h σ F H _ e g fun v F1 H1 t1 ⟨x, p1⟩ => k x _ F1 H1 D ((e.mono t1.exF).set p1) t1.good fun v F2 H2 t2 p2 => q v F2 H2 (t1.trans t2) p2
theorem es_exS {α : Type} {Q : α → Pr} (h : Ev ρ w t (pEx Q) w1) (k : ∀ x, Es (ρ.set i (some (Q x))) w1 s2 ρ' w') : Es ρ w (tSeq (tAsg t (gName i)) s2) ρ' w' := fun σ F H D e g q =>
  h σ F H _ e g fun v F1 H1 t1 ⟨x, p1⟩ => k x _ F1 H1 D ((e.mono t1.exF).set p1) t1.good fun σ2 F2 H2 t2 p2 => q σ2 F2 H2 (t1.trans t2) p2
/-- name op= e -/
theorem es_aug {op : TIp} {x : V} {P2 : Pr} (hi : ρ[i]? = some (some (pV x))) (h : Ee ρ w t P1) (ho : ∀ y F H (Q : VK), P1.p F y → Good w F H → (∀ v, P2.p F v → Q v H) → op x y H Q) : Es ρ w (tAug i t op) (ρ.set i (some P2)) w := fun σ F H D e g k => by
  obtain ⟨v, h1, h2⟩ := e.at_ i _ hi
  have h2 : v = x := h2
  subst h2
  refine ⟨v, h1, h σ F H _ e g fun y F1 H1 t1 p1 => ho y F1 H1 _ p1 t1.good fun z p2 => ?_⟩
  exact k _ F1 H1 t1 ((e.mono t1.exF).set p2)
/-! ### what is walked -/
/-- growth of the frozen part alone -/
structure Grow (F H F' H' : Hp) : Prop where
  st : ∀ w, Good w F H → Step w w F H F' H'
theorem Grow.refl (F H : Hp) : Grow F H F H := ⟨fun _ g => Step.refl g⟩
/-- J yields values of these, one after another -/
def ItOk (J : It) (F : Hp) (ps : List Pr) : Prop := ∀ F1 H1, Ext F F1 → Ext F1 H1 →
  (∀ i P, ps[i]? = some P → J.go i H1 ∧ ∀ x H2, J.yld i H1 x H2 → ∃ F2, Grow F1 H1 F2 H2 ∧ P.p F2 x) ∧ J.stop ps.length H1
def Ei (ρ : En) (w : List Ow) (wi : TI) (ps : List Pr) : Prop :=
  ∀ σ F H (R : It → Hp → Prop), EnvR ρ σ F → Good w F H → (∀ J F' H', Step w w F H F' H' → ItOk J F' ps → R J H') → wi σ H R
def Eg (g : TG) (P : Pr) (ρ ρ' : En) : Prop := ∀ x σ F H (Q : St → Hp → Prop), EnvR ρ σ F → Ext F H → P.p F x → (∀ σ', EnvR ρ' σ' F → Q σ' H) → g x σ H Q
theorem eg_name : Eg (gName i) P ρ (ρ.set i (some P)) := fun x σ F H Q e _ p k => k _ (e.set p)
theorem eg_tup2 {g1 g2 : TG} (h1 : Eg g1 P1 ρ ρ1) (h2 : Eg g2 P2 ρ1 ρ') : Eg (gTup K 2 (gCons g1 (gCons g2 gNil))) (pTup K [P1, P2]) ρ ρ' := fun x σ F H Q e ex p k => by
  obtain ⟨a, vs, rfl, q1, q2⟩ := p
  cases q2 with
  | cons a1 r1 =>
    cases r1 with
    | cons a2 r2 =>
      cases r2
      refine ⟨_, _, rfl, ex.t q1, rfl, _, _, rfl, h1 _ σ F H _ e ex a1 fun σ1 e1 => ?_⟩
      exact ⟨_, _, rfl, h2 _ σ1 F H _ e1 ex a2 fun σ2 e2 => ⟨rfl, k σ2 e2⟩⟩
theorem eg_tup3 {P3 : Pr} {ρ2 : En} {g1 g2 g3 : TG} (h1 : Eg g1 P1 ρ ρ1) (h2 : Eg g2 P2 ρ1 ρ2) (h3 : Eg g3 P3 ρ2 ρ') : Eg (gTup K 3 (gCons g1 (gCons g2 (gCons g3 gNil)))) (pTup K [P1, P2, P3]) ρ ρ' := fun x σ F H Q e ex p k => by
  obtain ⟨a, vs, rfl, q1, q2⟩ := p
  cases q2 with
  | cons a1 r1 =>
    cases r1 with
    | cons a2 r2 =>
      cases r2 with
      | cons a3 r3 =>
        cases r3
        refine ⟨_, _, rfl, ex.t q1, rfl, _, _, rfl, h1 _ σ F H _ e ex a1 fun σ1 e1 => ?_⟩
        exact ⟨_, _, rfl, h2 _ σ1 F H _ e1 ex a2 fun σ2 e2 => ⟨_, _, rfl, h3 _ σ2 F H _ e2 ex a3 fun σ3 e3 => ⟨rfl, k σ3 e3⟩⟩⟩
/-- a, b = e -/
theorem es_asgG {g : TG} (h : Ev ρ w t P w') (hg : ∀ ρ0, ρ0 = ρ → Eg g P ρ0 ρ') : Es ρ w (tAsg t g) ρ' w' := fun σ F H D e gd k =>
  h σ F H _ e gd fun v F1 H1 t1 p1 => hg ρ rfl v σ F1 H1 _ (e.mono t1.exF) t1.good.ex p1 fun σ' e' => k σ' F1 H1 t1 e'
/-- THE LOOP: R the slots, W what is owned ahead of each turn -/
theorem es_for {wi : TI} {g : TG} {ps : List Pr} (R : Nat → En) (W : Nat → List Ow) (hw : W 0 = w) (h0 : Sub ρ (R 0)) (hi : Ei ρ w wi ps)
    (hs : ∀ i P, ps[i]? = some P → ∃ ρx ρy, Eg g P (R i) ρx ∧ Es ρx (W i) tb' ρy (W (i + 1)) ∧ Sub ρy (R (i + 1))) : Es ρ w (tFor wi g tb') (R ps.length) (W ps.length) := fun σ F H D e gd k => by
  subst hw
  refine hi σ F H _ e gd fun J F0 H0 t0 it => ?_
  refine ⟨fun i m σ' H' => m = ps.length - i ∧ i ≤ ps.length ∧ ∃ F', Step (W 0) (W i) F H F' H' ∧ EnvR (R i) σ' F' ∧ Ext F0 F', ⟨ps.length, rfl, Nat.zero_le _, F0, t0, (e.mono t0.exF).sub h0, Ext.refl _⟩, ?_⟩
  rintro i m σ1 H1 ⟨rfl, hil, F1, t1, e1, x1⟩
  obtain ⟨itg, its⟩ := it F1 H1 x1 t1.good.ex
  by_cases hlt : i < ps.length
  · obtain ⟨hgo, hy⟩ := itg i ps[i] (List.getElem?_eq_getElem hlt)
    refine .inr ⟨hgo, fun σ' H' => ∃ F', Step (W 0) (W (i + 1)) F H F' H' ∧ EnvR (R (i + 1)) σ' F' ∧ Ext F0 F', fun σ' H' ⟨F', a, b, c⟩ => ⟨ps.length - (i + 1), by omega, rfl, by omega, F', a, b, c⟩, fun x H2 y => ?_⟩
    obtain ⟨F2, gr, p2⟩ := hy x H2 y
    have t2 := gr.st (W i) t1.good
    obtain ⟨ρx, ρy, hg, hb, hsb⟩ := hs i ps[i] (List.getElem?_eq_getElem hlt)
    refine hg x σ1 F2 H2 _ (e1.mono t2.exF) t2.good.ex p2 fun σ3 e3 => ?_
    refine hb σ3 F2 H2 _ e3 t2.good fun σ4 F4 H4 t4 e4 => ?_
    exact ⟨F4, (t1.trans t2).trans t4, e4.sub hsb, (x1.trans t2.exF).trans t4.exF⟩
  · have ei : i = ps.length := by omega
    subst ei
    exact .inl ⟨its, k σ1 F1 H1 t1 e1⟩
/-- .. items told by a list -/
theorem es_forM {α : Type} {wi : TI} {g : TG} (xs : List α) (f : α → Pr) (R : Nat → En) (W : Nat → List Ow) (hw : W 0 = w) (h0 : Sub ρ (R 0)) (hi : Ei ρ w wi (xs.map f))
    (hs : ∀ i x, xs[i]? = some x → ∃ ρx ρy, Eg g (f x) (R i) ρx ∧ Es ρx (W i) tb' ρy (W (i + 1)) ∧ Sub ρy (R (i + 1))) : Es ρ w (tFor wi g tb') (R xs.length) (W xs.length) := by
  have h := es_for R W hw h0 hi fun i P hP => by
    rw [List.getElem?_map] at hP
    cases e : xs[i]? with
    | none => rw [e] at hP; cases hP
    | some x =>
      rw [e] at hP
      cases hP
      exact hs i x e
  rw [List.length_map] at h
  exact h
/-- .. over a range -/
theorem es_forN {wi : TI} {g : TG} {f : Nat → Pr} (n : Nat) (R : Nat → En) (W : Nat → List Ow) (hw : W 0 = w) (h0 : Sub ρ (R 0)) (hi : Ei ρ w wi ((List.range n).map f))
    (hs : ∀ i, i < n → ∃ ρx ρy, Eg g (f i) (R i) ρx ∧ Es ρx (W i) tb' ρy (W (i + 1)) ∧ Sub ρy (R (i + 1))) : Es ρ w (tFor wi g tb') (R n) (W n) := by
  have h := es_forM (List.range n) f R W hw h0 hi fun i x hx => by
    obtain ⟨h1, h2⟩ := List.getElem?_eq_some_iff.mp hx
    rw [List.getElem_range] at h2
    subst h2
    exact hs i (by simpa using h1)
  rw [List.length_range] at h
  exact h
/-- a list, a tuple, a range -/
theorem ei_list {ps : List Pr} (h : Ee ρ w t (pLst ps)) : Ei ρ w (iList K t) ps := fun σ F H R e g k =>
  h σ F H _ e g fun v F1 H1 t1 ⟨a, vs, h1, h2, h3⟩ => ⟨a, h1, ⟨vs, SqL.of (t1.good.ex _ _ h2)⟩, k _ F1 H1 t1 fun F2 H2 x1 x2 => by
    have hl : H2 a = some (.lst vs) := x2 _ _ (x1 _ _ h2)
    refine ⟨fun i P hP => ?_, ⟨vs, SqL.of hl, Nat.le_of_eq h3.len.symm⟩⟩
    obtain ⟨v, hv, hp⟩ := h3.get hP
    refine ⟨⟨vs, v, SqL.of hl, hv⟩, fun x H3 ⟨e1, e2⟩ => ?_⟩
    subst e1
    have := e2 vs (SqL.of hl)
    rw [hv] at this
    cases this
    exact ⟨F2, Grow.refl _ _, P.mono x1 hp⟩⟩
theorem ei_seq {ps : List Pr} (h : Ee ρ w t (pSeq K ps)) : Ei ρ w (iList K t) ps := fun σ F H R e g k =>
  h σ F H _ e g fun v F1 H1 t1 ⟨a, vs, h1, h2, h3⟩ => ⟨a, h1, ⟨vs, t1.good.ex.l h2⟩, k _ F1 H1 t1 fun F2 H2 x1 x2 => by
    have hl : SqL K H2 a vs := x2.l (x1.l h2)
    refine ⟨fun i P hP => ?_, ⟨vs, hl, Nat.le_of_eq h3.len.symm⟩⟩
    obtain ⟨v, hv, hp⟩ := h3.get hP
    refine ⟨⟨vs, v, hl, hv⟩, fun x H3 ⟨e1, e2⟩ => ?_⟩
    subst e1
    have := e2 vs hl
    rw [hv] at this
    cases this
    exact ⟨F2, Grow.refl _ _, P.mono x1 hp⟩⟩
theorem ei_tup {ps : List Pr} (h : Ee ρ w t (pTup K ps)) : Ei ρ w (iTup K t) ps := fun σ F H R e g k =>
  h σ F H _ e g fun v F1 H1 t1 ⟨a, vs, h1, h2, h3⟩ => ⟨a, h1, ⟨vs, t1.good.ex.t h2⟩, k _ F1 H1 t1 fun F2 H2 x1 x2 => by
    have hl : SqT K H2 a vs := x2.t (x1.t h2)
    refine ⟨fun i P hP => ?_, ⟨vs, hl, Nat.le_of_eq h3.len.symm⟩⟩
    obtain ⟨v, hv, hp⟩ := h3.get hP
    refine ⟨⟨vs, v, hl, hv⟩, fun x H3 ⟨e1, e2⟩ => ?_⟩
    subst e1
    have := e2 vs hl
    rw [hv] at this
    cases this
    exact ⟨F2, Grow.refl _ _, P.mono x1 hp⟩⟩
theorem ei_rng {lo : Int} {n : Nat} {F : Hp} : ItOk (Itr lo n) F ((List.range n).map fun i => pI (lo + (i : Nat))) := fun F2 H2 x1 x2 => by
  refine ⟨fun i P hP => ?_, by show n ≤ _; simp⟩
  have hi : i < n := by
    have := (List.getElem?_eq_some_iff.mp hP).1
    simpa using this
  rw [List.getElem?_map, List.getElem?_range hi] at hP
  have hP : some (pI (lo + (i : Nat))) = some P := hP
  cases hP
  refine ⟨hi, fun x H3 ⟨e1, e2⟩ => ?_⟩
  subst e1
  exact ⟨F2, Grow.refl _ _, e2⟩
theorem ei_rng1 {ta : TA} {n : Nat} (h : Ea ρ w ta [pI (n : Int)]) (hn : n < 100000) : Ei ρ w (iRng1 ta) ((List.range n).map fun i => pI (i : Nat)) := fun σ F H R e g k =>
  h σ F H _ e g fun vs F1 H1 t1 p1 => by
    cases p1 with
    | cons q1 q2 =>
      cases q2
      have q1 : _ = V.int (n : Int) := q1
      refine ⟨(n : Int), by rw [q1], by omega, by omega, k _ F1 H1 t1 ?_⟩
      have z := ei_rng (lo := 0) (n := n) (F := F1)
      simp only [Int.zero_add] at z
      rw [Int.toNat_natCast]
      exact z
theorem ei_rng2 {ta : TA} {lo : Int} {n : Nat} (h : Ea ρ w ta [pI lo, pI (lo + n)]) (hlo : -100000 ≤ lo ∧ lo ≤ 100000) (hn : n < 100000) : Ei ρ w (iRng2 ta) ((List.range n).map fun i => pI (lo + (i : Nat))) := fun σ F H R e g k =>
  h σ F H _ e g fun vs F1 H1 t1 p1 => by
    cases p1 with
    | cons q1 q2 =>
      cases q2 with
      | cons q2 q3 =>
        cases q3
        have q1 : _ = V.int lo := q1
        have q2 : _ = V.int (lo + n) := q2
        refine ⟨lo, lo + n, by rw [q1, q2], ⟨by omega, by omega, by omega, by omega⟩, k _ F1 H1 t1 ?_⟩
        rw [show (lo + (n : Int) - lo).toNat = n by omega]
        exact ei_rng
end
end J
/-! ## J2 -/
set_option Elab.async false
set_option linter.all false
set_option maxRecDepth 100000
set_option maxHeartbeats 4000000
namespace J
open PySem L2
section
variable {K : PySem.W.Frag} {ρ ρ' ρ1 : En} {w w' w1 r : List Ow} {t u ta tb tc : TE} {P P' P1 P2 : Pr} {i : Nat}

/-! ### frames -/
theorem Ev.frame (h : Ev ρ w t P w') : Ev ρ (w ++ r) t P (w' ++ r) := fun σ F H Q e g k => h σ F H Q e g.front fun v F' H' s p => k v F' H' (s.frame g) p
theorem Ee.frame (h : Ee ρ w t P) : Ee ρ (w ++ r) t P := Ev.frame h
theorem Et.frame {tt : TT} {b : Bool} (h : Et ρ w tt b) : Et ρ (w ++ r) tt b := fun σ F H Q e g k => h σ F H Q e g.front fun F' H' s => k F' H' (s.frame g)
theorem Et.sub {tt : TT} {b : Bool} (h : Et ρ' w tt b) (q : Sub ρ ρ') : Et ρ w tt b := fun σ F H Q e g k => h σ F H Q (e.sub q) g k
theorem Es.frame {s1 : TS} (h : Es ρ w s1 ρ' w') : Es ρ (w ++ r) s1 ρ' (w' ++ r) := fun σ F H D e g k => h σ F H D e g.front fun σ' F' H' s e' => k σ' F' H' (s.frame g) e'
theorem Er.frame {s1 : TS} (h : Er ρ w s1 P w') : Er ρ (w ++ r) s1 P (w' ++ r) := fun σ F H D e g k => h σ F H D e g.front fun v F' H' s p => k v F' H' (s.frame g) p

/-! ### comprehensions -/
/-- the target stores within vs alone -/
def Wp (g : TG) (vs : List Nat) : Prop := ∀ x σ H (Q : St → Hp → Prop), g x σ H Q → g x σ H fun σ2 H2 => wipe σ2 vs = wipe σ vs ∧ Q σ2 H2
theorem wipe_set {σ : St} {i : Nat} {x : Option V} : ∀ {vs : List Nat}, i ∈ vs → wipe (σ.set i x) vs = wipe σ vs
  | [], h => by cases h
  | v :: vs, h => by
    show (wipe (σ.set i x) vs).set v none = (wipe σ vs).set v none
    by_cases hv : i ∈ vs
    · rw [wipe_set hv]
    · have hi : i = v := by
        rcases List.mem_cons.mp h with e | e
        · exact e
        · exact absurd e hv
      subst hi
      have key : ∀ ws : List Nat, i ∉ ws → wipe (σ.set i x) ws = (wipe σ ws).set i x := by
        intro ws
        induction ws with
        | nil => intro _; rfl
        | cons a ws ih =>
          intro hn
          simp only [List.mem_cons, not_or] at hn
          show (wipe (σ.set i x) ws).set a none = ((wipe σ ws).set a none).set i x
          rw [ih hn.2, List.set_comm _ _ hn.1]
      rw [key vs hv, List.set_set]
theorem wipe_wipe {σ : St} : ∀ {vs : List Nat}, wipe (wipe σ vs) vs = wipe σ vs := by
  intro vs
  refine List.ext_getElem? fun i => ?_
  have ex : ∀ (σ : St) (ws : List Nat) (i : Nat), (wipe σ ws)[i]? = if i ∈ ws then (σ[i]?).map (fun _ => none) else σ[i]? := by
    intro σ ws
    induction ws with
    | nil => intro i; rfl
    | cons a ws ih =>
      intro i
      show ((wipe σ ws).set a none)[i]? = _
      by_cases ha : a = i
      · subst ha
        rw [if_pos (List.mem_cons_self ..)]
        by_cases hl : a < (wipe σ ws).length
        · rw [List.getElem?_set_self hl]
          rw [wipe_length] at hl
          rw [List.getElem?_eq_getElem hl]
          rfl
        · rw [List.getElem?_eq_none (by simpa using hl)]
          rw [wipe_length] at hl
          rw [List.getElem?_eq_none (by omega)]
          rfl
      · rw [List.getElem?_set_ne ha, ih]
        by_cases hm : i ∈ ws
        · rw [if_pos hm, if_pos (List.mem_cons_of_mem _ hm)]
        · rw [if_neg hm, if_neg (by simp only [List.mem_cons, not_or]; exact ⟨fun z => ha z.symm, hm⟩)]
  rw [ex, ex]
  by_cases hm : i ∈ vs
  · rw [if_pos hm, if_pos hm]
    cases σ[i]? <;> rfl
  · rw [if_neg hm]
theorem wp_name {vs : List Nat} (h : i ∈ vs) : Wp (gName i) vs := fun x σ H Q q => ⟨wipe_set h, q⟩
theorem wp_tup2 {vs : List Nat} {a b n : Nat} (ha : a ∈ vs) (hb : b ∈ vs) : Wp (gTup K n (gCons (gName a) (gCons (gName b) gNil))) vs := fun x σ H Q q => by
  obtain ⟨p, xs, h1, h2, h3, v, rr, h4, v2, r2, h5, h6, h7⟩ := q
  exact ⟨p, xs, h1, h2, h3, v, rr, h4, v2, r2, h5, h6, by rw [wipe_set hb, wipe_set ha], h7⟩
theorem wp_tup3 {vs : List Nat} {a b c n : Nat} (ha : a ∈ vs) (hb : b ∈ vs) (hc : c ∈ vs) : Wp (gTup K n (gCons (gName a) (gCons (gName b) (gCons (gName c) gNil)))) vs := fun x σ H Q q => by
  obtain ⟨p, xs, h1, h2, h3, v, rr, h4, v2, r2, h5, v3, r3, h6, h7, h8⟩ := q
  exact ⟨p, xs, h1, h2, h3, v, rr, h4, v2, r2, h5, v3, r3, h6, h7, by rw [wipe_set hc, wipe_set hb, wipe_set ha], h8⟩
abbrev wipeR (ρ : En) (vs : List Nat) : En := vs.foldr (fun i r => r.set i none) ρ
/-- THE COMPREHENSION -/
theorem ee_lc {α : Type} {wi : TI} {g : TG} {tt : TT} {te : TE} {vs : List Nat} (xs : List α) (f : α → Pr) (bt : α → Bool) (q : α → Pr) (hi : Ei ρ w wi (xs.map f)) (hw : Wp g vs) (hl : xs.length ≤ 100000)
    (he : ∀ x ∈ xs, ∃ ρx, Eg g (f x) (wipeR ρ vs) ρx ∧ Et ρx w tt (bt x) ∧ (bt x = true → Ee ρx w te (q x))) : Ee ρ w (tLc wi g tt te vs) (pLst ((xs.filter bt).map q)) := fun σ F H Q e gd k => by
  refine hi σ F H _ e gd fun J F0 H0 t0 it D hD => ?_
  have acc : ∀ i, ((xs.take i).filter bt).length ≤ 100000 := fun i => Nat.le_trans (List.length_filter_le _ _) (Nat.le_trans (by rw [List.length_take]; omega) hl)
  have stD := Step.own (e := oLst D []) (o := .lst []) t0.good hD ⟨[], rfl, .nil⟩
  refine ⟨fun i m H' => m = xs.length - i ∧ i ≤ xs.length ∧ ∃ F', Step w (w ++ [oLst D (((xs.take i).filter bt).map q)]) F H F' H' ∧ Ext F0 F', ⟨xs.length, rfl, Nat.zero_le _, F0, t0.trans stD, Ext.refl _⟩, ?_⟩
  rintro i m H1 ⟨rfl, hil, F1, t1, x1⟩
  obtain ⟨itg, its⟩ := it F1 H1 x1 t1.good.ex
  by_cases hlt : i < xs.length
  · have hx : xs[i]? = some xs[i] := List.getElem?_eq_getElem hlt
    have htk : xs.take (i + 1) = xs.take i ++ [xs[i]] := by rw [List.take_add_one, hx]; rfl
    obtain ⟨hgo, hy⟩ := itg i (f xs[i]) (by rw [List.getElem?_map, hx]; rfl)
    refine .inr ⟨hgo, fun H' => ∃ F', Step w (w ++ [oLst D (((xs.take (i + 1)).filter bt).map q)]) F H F' H' ∧ Ext F0 F', fun H' ⟨F', a, c⟩ => ⟨xs.length - (i + 1), by omega, rfl, by omega, F', a, c⟩, fun x H2 y => ?_⟩
    obtain ⟨F2, gr, p2⟩ := hy x H2 y
    have t2 := gr.st _ t1.good
    obtain ⟨ρx, hg, ht, hq⟩ := he xs[i] (List.getElem_mem hlt)
    have e2 : EnvR (wipeR ρ vs) (wipe σ vs) F2 := (e.mono (t1.exF.trans t2.exF)).wipe vs
    have h0 := hw x (wipe σ vs) H2 _ (hg x (wipe σ vs) F2 H2 (fun σ2 H2 => tt σ2 H2 fun b H3 => if b = true then te σ2 H3 fun y H4 => ∃ acc, H4 D = some (.lst acc) ∧ acc.length < sizeLine ∧ (∃ F', Step w (w ++ [oLst D (((xs.take (i + 1)).filter bt).map q)]) F H F' (upd H4 D (.lst (acc ++ [y]))) ∧ Ext F0 F') else ∃ F', Step w (w ++ [oLst D (((xs.take (i + 1)).filter bt).map q)]) F H F' H3 ∧ Ext F0 F') e2 t2.good.ex p2 fun σ2 e3 => ?_)
    · rw [wipe_wipe] at h0
      exact h0
    · refine ht.frame σ2 F2 H2 _ e3 t2.good fun F3 H3 t3 => ?_
      cases hb : bt xs[i] with
      | true =>
        rw [if_pos rfl]
        refine (hq hb).frame σ2 F3 H3 _ (e3.mono t3.exF) t3.good fun v F4 H4 t4 p4 => ?_
        obtain ⟨hF, o, ho, accv, eo, ha⟩ := t4.good.ow (oLst D (((xs.take i).filter bt).map q)) (by simp)
        subst eo
        have hlen := ha.len
        rw [List.length_map] at hlen
        have hacc := acc i
        have t5 := Step.write (w1 := w) (w2 := []) (e' := oLst D (((xs.take (i + 1)).filter bt).map q)) (o := .lst (accv ++ [v])) t4.good rfl ⟨_, rfl, by
          rw [htk, List.filter_append, List.map_append]
          refine ha.append ?_
          have e1 : ([xs[i]].filter bt).map q = [q xs[i]] := by simp [hb]
          rw [e1]
          exact .cons p4 .nil⟩
        exact ⟨accv, ho, Nat.lt_of_le_of_lt (by omega : accv.length ≤ 100000) (by decide), F4, (((t1.trans t2).trans t3).trans t4).trans t5, ((x1.trans t2.exF).trans t3.exF).trans t4.exF⟩
      | false =>
        rw [if_neg Bool.false_ne_true]
        have e1 : (xs.take (i + 1)).filter bt = (xs.take i).filter bt := by
          rw [htk, List.filter_append]
          simp [hb]
        rw [e1]
        exact ⟨F3, (t1.trans t2).trans t3, (x1.trans t2.exF).trans t3.exF⟩
  · have ei : i = xs.length := by omega
    subst ei
    rw [List.length_map] at its
    refine .inl ⟨its, ?_⟩
    obtain ⟨hF, o, ho, accv, eo, ha⟩ := t1.good.ow (oLst D (((xs.take xs.length).filter bt).map q)) (by simp)
    subst eo
    have t2 := Step.freeze (w1 := w) (w2 := []) t1.good ho
    rw [List.append_nil] at t2
    refine k _ _ _ (t1.trans t2) ⟨D, accv, rfl, upd_same, ?_⟩
    have := ha.mono t2.exF
    rw [List.take_length] at this
    exact this
theorem et_yes : Et ρ w tYes true := fun σ F H Q e g k => k F H (Step.refl g)
/-- .. without a test -/
theorem ee_lcY {α : Type} {wi : TI} {g : TG} {te : TE} {vs : List Nat} (xs : List α) (f : α → Pr) (q : α → Pr) (hi : Ei ρ w wi (xs.map f)) (hw : Wp g vs) (hl : xs.length ≤ 100000)
    (he : ∀ x ∈ xs, ∃ ρx, Eg g (f x) (wipeR ρ vs) ρx ∧ Ee ρx w te (q x)) : Ee ρ w (tLc wi g tYes te vs) (pLst (xs.map q)) := by
  have h := ee_lc (bt := fun _ => true) xs f q hi hw hl fun x hx => by
    obtain ⟨ρx, h1, h2⟩ := he x hx
    exact ⟨ρx, h1, et_yes, fun _ => h2⟩
  rw [List.filter_eq_self.mpr (fun _ _ => rfl)] at h
  exact h

/-! ### builtins -/
theorem ee_cb {rr : List V → Hp → VK → Prop} {ta : TA} {ps : List Pr} (h : Ea ρ w ta ps) (hr : ∀ vs F H (Q : VK), All2 F ps vs → Good w F H → (∀ v F' H', Step w w F H F' H' → P.p F' v → Q v H') → rr vs H Q) : Ee ρ w (tCB rr ta) P := fun σ F H Q e g k =>
  h σ F H _ e g fun vs F1 H1 s1 p1 => hr vs F1 H1 Q p1 s1.good fun v F2 H2 s2 p2 => k v F2 H2 (s1.trans s2) p2
theorem All2.one {F : Hp} {P : Pr} {vs : List V} (h : All2 F [P] vs) : ∃ v, vs = [v] ∧ P.p F v := by
  cases h with
  | cons a b => cases b; exact ⟨_, rfl, a⟩
theorem All2.two {F : Hp} {P Q : Pr} {vs : List V} (h : All2 F [P, Q] vs) : ∃ v u, vs = [v, u] ∧ P.p F v ∧ Q.p F u := by
  cases h with
  | cons a b => cases b with | cons c d => cases d; exact ⟨_, _, rfl, a, c⟩
theorem All2.vals {F : Hp} {α : Type} {g : α → V} : ∀ {xs : List α} {vs : List V}, All2 F (xs.map fun x => pV (g x)) vs → vs = xs.map g
  | [], _, h => by cases h; rfl
  | x :: xs, _, h => by
    cases h with
    | cons a b =>
      have a : _ = g x := a
      rw [a, b.vals]
      rfl
theorem ee_lenT {ps : List Pr} {n : Int} {ta : TA} (h : Ea ρ w ta [pTup K ps]) (hn : (ps.length : Int) = n) : Ee ρ w (tCB (fun xs H Q => ∃ p ys, xs = [.ref p] ∧ (SqL K H p ys ∨ SqT K H p ys) ∧ Q (.int ys.length) H) ta) (pI n) :=
  ee_cb h fun vs F H Q p g k => by
    obtain ⟨v, rfl, a, ys, rfl, h2, h3⟩ := p.one
    refine ⟨a, ys, rfl, .inr (g.ex.t h2), k _ F H (Step.refl g) ?_⟩
    show V.int _ = V.int _
    rw [← hn, h3.len]
theorem ee_lenL {ps : List Pr} {n : Int} {ta : TA} (h : Ea ρ w ta [pLst ps]) (hn : (ps.length : Int) = n) : Ee ρ w (tCB (fun xs H Q => ∃ p ys, xs = [.ref p] ∧ (SqL K H p ys ∨ SqT K H p ys) ∧ Q (.int ys.length) H) ta) (pI n) :=
  ee_cb h fun vs F H Q p g k => by
    obtain ⟨v, rfl, a, ys, rfl, h2, h3⟩ := p.one
    refine ⟨a, ys, rfl, .inl (SqL.of (g.ex _ _ h2)), k _ F H (Step.refl g) ?_⟩
    show V.int _ = V.int _
    rw [← hn, h3.len]
theorem ee_all {α : Type} {xs : List α} {f : α → Bool} {ta : TA} (h : Ea ρ w ta [pLst (xs.map fun x => pB (f x))]) : Ee ρ w (tCB (rAll K) ta) (pB (xs.all f)) :=
  ee_cb h fun vs F H Q p g k => by
    obtain ⟨v, rfl, a, ys, rfl, h2, h3⟩ := p.one
    have e := h3.vals (g := fun x => V.bl (f x))
    refine ⟨a, xs.map f, rfl, SqL.of (by rw [g.ex _ _ h2, e, List.map_map]; rfl), k _ F H (Step.refl g) ?_⟩
    show V.bl _ = V.bl _
    rw [List.all_map]
    rfl
/-- tuple(a list), list(a list), list(a tuple), list(the script) -/
theorem ee_tupOf {ps : List Pr} {ta : TA} (h : Ea ρ w ta [pLst ps]) : Ee ρ w (tCB (fun xs H Q => ∃ p ys, xs = [.ref p] ∧ ((SqL K H p ys ∧ ∀ l, H l = none → Q (.ref l) (upd H l (.tup ys))) ∨ (SqT K H p ys ∧ Q (.ref p) H))) ta) (pTup K ps) :=
  ee_cb h fun vs F H Q p g k => by
    obtain ⟨v, rfl, a, ys, rfl, h2, h3⟩ := p.one
    refine ⟨a, ys, rfl, .inl ⟨SqL.of (g.ex _ _ h2), fun l hl => ?_⟩⟩
    have s := Step.alloc (o := .tup ys) g hl
    exact k _ _ _ s ⟨l, ys, rfl, SqT.of upd_same, h3.mono s.exF⟩
theorem ee_tupId {ps : List Pr} {ta : TA} (h : Ea ρ w ta [pTup K ps]) : Ee ρ w (tCB (fun xs H Q => ∃ p ys, xs = [.ref p] ∧ ((SqL K H p ys ∧ ∀ l, H l = none → Q (.ref l) (upd H l (.tup ys))) ∨ (SqT K H p ys ∧ Q (.ref p) H))) ta) (pTup K ps) :=
  ee_cb h fun vs F H Q p g k => by
    obtain ⟨v, rfl, a, ys, rfl, h2, h3⟩ := p.one
    exact ⟨a, ys, rfl, .inr ⟨g.ex.t h2, k _ F H (Step.refl g) ⟨a, ys, rfl, h2, h3⟩⟩⟩
theorem ee_listOf {ps : List Pr} {ta : TA} (h : Ea ρ w ta [pLst ps]) : Ee ρ w (tCB (fun xs H Q => ∃ p ys, xs = [.ref p] ∧ (SqL K H p ys ∨ SqT K H p ys) ∧ ∀ l, H l = none → Q (.ref l) (upd H l (.lst ys))) ta) (pLst ps) :=
  ee_cb h fun vs F H Q p g k => by
    obtain ⟨v, rfl, a, ys, rfl, h2, h3⟩ := p.one
    refine ⟨a, ys, rfl, .inl (SqL.of (g.ex _ _ h2)), fun l hl => ?_⟩
    have s := Step.alloc (o := .lst ys) g hl
    exact k _ _ _ s ⟨l, ys, rfl, upd_same, h3.mono s.exF⟩
/-- the new list owned -/
theorem ev_listOwn {ps : List Pr} {ta : TA} (h : Ea ρ w ta [pLst ps]) : ∀ σ F H (Q : VK), EnvR ρ σ F → Good w F H → (∀ a F' H', Step w (w ++ [oLst a ps]) F H F' H' → Q (.ref a) H') →
    (tCB (fun xs H Q => ∃ p ys, xs = [.ref p] ∧ (SqL K H p ys ∨ SqT K H p ys) ∧ ∀ l, H l = none → Q (.ref l) (upd H l (.lst ys))) ta) σ H Q := fun σ F H Q e g k =>
  h σ F H _ e g fun vs F1 H1 s1 p => by
    obtain ⟨v, rfl, a, ys, rfl, h2, h3⟩ := p.one
    refine ⟨a, ys, rfl, .inl (SqL.of (s1.good.ex _ _ h2)), fun l hl => ?_⟩
    exact k l _ _ (s1.trans (Step.own (e := oLst l ps) (o := .lst ys) s1.good hl ⟨ys, rfl, h3⟩))
theorem ee_abs {n : Int} {ta : TA} (h : Ea ρ w ta [pI n]) : Ee ρ w (tCB (fun xs H Q => ∃ i, xs = [.int i] ∧ Q (.int (if i < 0 then -i else i)) H) ta) (pI (if n < 0 then -n else n)) :=
  ee_cb h fun vs F H Q p g k => by
    obtain ⟨v, rfl, h1⟩ := p.one
    have h1 : v = .int n := h1
    subst h1
    exact ⟨n, rfl, k _ F H (Step.refl g) rfl⟩
theorem ee_intB {b : Bool} {ta : TA} (h : Ea ρ w ta [pB b]) : Ee ρ w (tCB (fun xs H Q => (∃ i, xs = [.int i] ∧ Q (.int i) H) ∨ ∃ k, xs = [.bl k] ∧ Q (.int (if k then 1 else 0)) H) ta) (pI (if b then 1 else 0)) :=
  ee_cb h fun vs F H Q p g k => by
    obtain ⟨v, rfl, h1⟩ := p.one
    have h1 : v = .bl b := h1
    subst h1
    exact .inr ⟨b, rfl, k _ F H (Step.refl g) rfl⟩
theorem ee_divmod {i j : Int} {ta : TA} (h : Ea ρ w ta [pI i, pI j]) (hj : CDiv i j) : Ee ρ w (tCB (fun xs H Q => ∃ i j, xs = [.int i, .int j] ∧ CDiv i j ∧ ∀ p, H p = none → Q (.ref p) (upd H p (.tup [.int (i / j), .int (i % j)]))) ta) (pTup K [pI (i / j), pI (i % j)]) :=
  ee_cb h fun vs F H Q p g k => by
    obtain ⟨v, u, rfl, h1, h2⟩ := p.two
    have h1 : v = .int i := h1
    have h2 : u = .int j := h2
    subst h1 h2
    refine ⟨i, j, rfl, hj, fun l hl => ?_⟩
    have s := Step.alloc (o := .tup [.int (i / j), .int (i % j)]) g hl
    exact k _ _ _ s ⟨l, _, rfl, SqT.of upd_same, .cons rfl (.cons rfl .nil)⟩
/-! ### sums of lists, tuples, slices -/
theorem ee_catL {ps qs : List Pr} (ha : Ee ρ w ta (pLst ps)) (hb : Ee ρ w tb (pLst qs)) (hl : ps.length + qs.length ≤ 100000) : Ee ρ w (tOp rCat ta tb) (pLst (ps ++ qs)) :=
  ee_op ha hb fun x y F H Q hx hy g k => by
    obtain ⟨a, vs, rfl, h2, h3⟩ := hx
    obtain ⟨b, us, rfl, h5, h6⟩ := hy
    refine ⟨a, b, vs, us, rfl, rfl, g.ex _ _ h2, g.ex _ _ h5, Nat.le_trans (by rw [← h3.len, ← h6.len]; exact hl) (by decide : 100000 ≤ sizeLine), fun l hl => ?_⟩
    have s := Step.alloc (o := .lst (vs ++ us)) g hl
    exact k _ _ _ s ⟨l, _, rfl, upd_same, (h3.append h6).mono s.exF⟩
theorem ee_repL {ps : List Pr} {n : Nat} (ha : Ee ρ w ta (pLst ps)) (hb : Ee ρ w tb (pI (n : Int))) (hn : n ≤ 1000) (hl : ps.length ≤ 50) : Ee ρ w (tOp rRep ta tb) (pLst (List.replicate n ps).flatten) :=
  ee_op ha hb fun x y F H Q hx hy g k => by
    obtain ⟨a, vs, rfl, h2, h3⟩ := hx
    have hy : y = .int (n : Int) := hy
    subst hy
    have z : vs.length * ((n : Int)).toNat ≤ sizeLine := by
      rw [Int.toNat_natCast, ← h3.len]
      exact Nat.le_trans (Nat.mul_le_mul hl hn) (by decide : 50 * 1000 ≤ sizeLine)
    refine ⟨a, (n : Int), vs, rfl, rfl, g.ex _ _ h2, by omega, by omega, z, fun l hl => ?_⟩
    have s := Step.alloc (o := .lst (List.replicate ((n : Int)).toNat vs).flatten) g hl
    refine k _ _ _ s ⟨l, _, rfl, upd_same, ?_⟩
    rw [Int.toNat_natCast]
    have : ∀ m : Nat, All2 F (List.replicate m ps).flatten (List.replicate m vs).flatten := by
      intro m
      induction m with
      | zero => exact .nil
      | succ m ih => rw [List.replicate_succ, List.replicate_succ, List.flatten_cons, List.flatten_cons]; exact h3.append ih
    exact (this n).mono s.exF
theorem ee_catT {ps qs : List Pr} (ha : Ee ρ w ta (pTup K ps)) (hb : Ee ρ w tb (pTup K qs)) (hl : ps.length + qs.length ≤ 100000) : Ee ρ w (tOp (rCatA K) ta tb) (pTup K (ps ++ qs)) :=
  ee_op ha hb fun x y F H Q hx hy g k => by
    obtain ⟨a, vs, rfl, h2, h3⟩ := hx
    obtain ⟨b, us, rfl, h5, h6⟩ := hy
    refine ⟨a, b, vs, us, rfl, rfl, g.ex.t h2, g.ex.t h5, Nat.le_trans (by rw [← h3.len, ← h6.len]; exact hl) (by decide : 100000 ≤ sizeLine), fun e => ?_, fun _ e => ?_, fun _ _ l hl => ?_⟩
    · subst e
      cases h3
      exact k _ F H (Step.refl g) ⟨b, us, rfl, h5, h6⟩
    · subst e
      cases h6
      exact k _ F H (Step.refl g) ⟨a, vs, rfl, h2, by rw [List.append_nil]; exact h3⟩
    · have s := Step.alloc (o := .tup (vs ++ us)) g hl
      exact k _ _ _ s ⟨l, _, rfl, SqT.of upd_same, (h3.append h6).mono s.exF⟩
/-- parts of a slice -/
def Eo (ρ : En) (w : List Ow) (t : TO) (o : Option Int) : Prop := ∀ σ F H (Q : Option Int → Hp → Prop), EnvR ρ σ F → Good w F H → (∀ F' H', Step w w F H F' H' → Q o H') → t σ H Q
theorem eo_none : Eo ρ w tNoPart none := fun σ F H Q e g k => k F H (Step.refl g)
theorem eo_some {i : Int} (h : Ee ρ w t (pI i)) : Eo ρ w (tPart t) (some i) := fun σ F H Q e g k => h σ F H _ e g fun v F1 H1 s1 p1 => ⟨i, p1, k F1 H1 s1⟩
def cutP (xs : List Pr) (lo hi : Option Int) : List Pr := (xs.drop (HT.sIx xs.length 0 lo)).take (HT.sIx xs.length xs.length hi - HT.sIx xs.length 0 lo)
theorem All2.cut {F : Hp} {ps : List Pr} {vs : List V} (h : All2 F ps vs) (lo hi : Option Int) : All2 F (cutP ps lo hi) (cutV vs lo hi) := by
  unfold cutP cutV
  rw [h.len]
  exact (h.drop _).take _
theorem ee_slT {ps : List Pr} {tl th : TO} {lo hi : Option Int} (ha : Ee ρ w ta (pTup K ps)) (h1 : Eo ρ w tl lo) (h2 : Eo ρ w th hi) : Ee ρ w (tSl (rSlA K) ta tl th) (pTup K (cutP ps lo hi)) := fun σ F H Q e g k =>
  ha σ F H _ e g fun v F1 H1 s1 p1 => h1 σ F1 H1 _ (e.mono s1.exF) s1.good fun F2 H2 s2 => h2 σ F2 H2 _ (e.mono (s1.trans s2).exF) s2.good fun F3 H3 s3 => by
    obtain ⟨a, vs, rfl, q2, q3⟩ := (pTup K ps).mono (s2.trans s3).exF p1
    refine ⟨a, vs, rfl, s3.good.ex.t q2, fun hh => ?_, fun _ l hl => ?_⟩
    · refine k _ F3 H3 ((s1.trans s2).trans s3) ⟨a, vs, rfl, q2, ?_⟩
      have hc := q3.cut lo hi
      have : cutV vs lo hi = vs := by
        unfold cutV
        rw [hh.1, hh.2]
        simp
      rw [this] at hc
      exact hc
    · have s := Step.alloc (o := .tup (cutV vs lo hi)) s3.good hl
      exact k _ _ _ (((s1.trans s2).trans s3).trans s) ⟨l, _, rfl, SqT.of upd_same, (q3.cut lo hi).mono s.exF⟩
theorem ee_slS {ps : List Pr} {tl th : TO} {lo hi : Option Int} (ha : Ee ρ w ta (pSeq K ps)) (h1 : Eo ρ w tl lo) (h2 : Eo ρ w th hi) : Ee ρ w (tSl (rSlL K) ta tl th) (pLst (cutP ps lo hi)) := fun σ F H Q e g k =>
  ha σ F H _ e g fun v F1 H1 s1 p1 => h1 σ F1 H1 _ (e.mono s1.exF) s1.good fun F2 H2 s2 => h2 σ F2 H2 _ (e.mono (s1.trans s2).exF) s2.good fun F3 H3 s3 => by
    obtain ⟨a, vs, rfl, q2, q3⟩ := (pSeq K ps).mono (s2.trans s3).exF p1
    refine ⟨a, vs, rfl, s3.good.ex.l q2, fun l hl => ?_⟩
    have s := Step.alloc (o := .lst (cutV vs lo hi)) s3.good hl
    exact k _ _ _ (((s1.trans s2).trans s3).trans s) ⟨l, _, rfl, upd_same, (q3.cut lo hi).mono s.exF⟩
theorem lst_seq {ps : List Pr} : (pLst ps).le (pSeq K ps) := fun F v ⟨a, vs, h1, h2, h3⟩ => ⟨a, vs, h1, SqL.of h2, h3⟩
theorem ee_slL {ps : List Pr} {tl th : TO} {lo hi : Option Int} (ha : Ee ρ w ta (pLst ps)) (h1 : Eo ρ w tl lo) (h2 : Eo ρ w th hi) : Ee ρ w (tSl (rSlL K) ta tl th) (pLst (cutP ps lo hi)) := ee_slS (ha.le lst_seq) h1 h2
/-! ### owned lists -/
/-- xs = [] -/
theorem es_newOwn {ta : TA} {s2 : TS} {ps : List Pr} {D : Ends} {σ : St} {F H : Hp} (h : Ea ρ w ta ps) (hl : ps.length ≤ 1000) (e : EnvR ρ σ F) (g : Good w F H)
    (k : ∀ a σ' F' H', Step w (w ++ [oLst a ps]) F H F' H' → EnvR (ρ.set i (some (pA a))) σ' F' → D.nx σ' H') : tAsg (tLst ta) (gName i) D σ H :=
  h σ F H _ e g fun vs F1 H1 s1 p1 => ⟨Nat.le_trans (by rw [← p1.len]; exact hl) (by decide : 1000 ≤ sizeLine), fun p hp => by
    have s2 := Step.own (e := oLst p ps) (o := .lst vs) s1.good hp ⟨vs, rfl, p1⟩
    exact k p _ F1 _ (s1.trans s2) ((e.mono (s1.trans s2).exF).set rfl)⟩
theorem er_newOwn {ta : TA} {s2 : TS} {ps : List Pr} (h : Ea ρ w ta ps) (hl : ps.length ≤ 1000) (k : ∀ a, Er (ρ.set i (some (pA a))) (w ++ [oLst a ps]) s2 P w') : Er ρ w (tSeq (tAsg (tLst ta) (gName i)) s2) P w' := fun σ F H D e g q =>
  es_newOwn (s2 := s2) (D := { D with nx := s2 D }) h hl e g fun a σ' F' H' s e' => k a σ' F' H' D e' s.good fun v F2 H2 t2 p2 => q v F2 H2 (s.trans t2) p2
theorem es_newOwnS {ta : TA} {s2 : TS} {ps : List Pr} (h : Ea ρ w ta ps) (hl : ps.length ≤ 1000) (k : ∀ a, Es (ρ.set i (some (pA a))) (w ++ [oLst a ps]) s2 ρ' w') : Es ρ w (tSeq (tAsg (tLst ta) (gName i)) s2) ρ' w' := fun σ F H D e g q =>
  es_newOwn (s2 := s2) (D := { D with nx := s2 D }) h hl e g fun a σ' F' H' s e' => k a σ' F' H' D e' s.good fun σ2 F2 H2 t2 e2 => q σ2 F2 H2 (s.trans t2) e2
/-- a frozen list is what an owned one has become -/
theorem Er.freeze {s1 : TS} {w2 : List Ow} {a : Addr} {ps : List Pr} (hi : ρ[i]? = some (some (pA a))) (h : Er (ρ.set i (some (pLst ps))) (w ++ w2) s1 P w') : Er ρ (w ++ oLst a ps :: w2) s1 P w' := fun σ F H D e g k => by
  obtain ⟨hF, o, ho, vs, rfl, hv⟩ := g.ow (oLst a ps) (by simp)
  have s := Step.freeze g ho
  obtain ⟨v, h1, h2⟩ := e.at_ i _ hi
  have h2 : v = .ref a := h2
  subst h2
  have e' := (e.mono s.exF).set (i := i) (v := .ref a) (P := pLst ps) ⟨a, vs, rfl, upd_same, hv.mono s.exF⟩
  have same : σ.set i (some (.ref a)) = σ := by
    refine List.ext_getElem? fun j => ?_
    by_cases hij : i = j
    · subst hij
      have hl : i < σ.length := (List.getElem?_eq_some_iff.mp h1).1
      rw [List.getElem?_set_self hl, h1]
    · rw [List.getElem?_set_ne hij]
  rw [same] at e'
  exact h σ _ _ D e' s.good fun v F2 H2 t2 p2 => k v F2 H2 (s.trans t2) p2
theorem Es.freeze {s1 : TS} {w2 : List Ow} {a : Addr} {ps : List Pr} (hi : ρ[i]? = some (some (pA a))) (h : Es (ρ.set i (some (pLst ps))) (w ++ w2) s1 ρ' w') : Es ρ (w ++ oLst a ps :: w2) s1 ρ' w' := fun σ F H D e g k => by
  obtain ⟨hF, o, ho, vs, rfl, hv⟩ := g.ow (oLst a ps) (by simp)
  have s := Step.freeze g ho
  obtain ⟨v, h1, h2⟩ := e.at_ i _ hi
  have h2 : v = .ref a := h2
  subst h2
  have e' := (e.mono s.exF).set (i := i) (v := .ref a) (P := pLst ps) ⟨a, vs, rfl, upd_same, hv.mono s.exF⟩
  have same : σ.set i (some (.ref a)) = σ := by
    refine List.ext_getElem? fun j => ?_
    by_cases hij : i = j
    · subst hij
      have hl : i < σ.length := (List.getElem?_eq_some_iff.mp h1).1
      rw [List.getElem?_set_self hl, h1]
    · rw [List.getElem?_set_ne hij]
  rw [same] at e'
  exact h σ _ _ D e' s.good fun σ2 F2 H2 t2 e2 => k σ2 F2 H2 (s.trans t2) e2
/-- xs.append(e) -/
theorem es_append {w2 : List Ow} {a : Addr} {ps : List Pr} (hi : ρ[i]? = some (some (pA a))) (he : Ee ρ (w ++ oLst a ps :: w2) t P) (hl : ps.length ≤ 100000) : Es ρ (w ++ oLst a ps :: w2) (tDrop (tBM K "list" rAppend (tVar i) (tCons t tNil))) ρ (w ++ oLst a (ps ++ [P]) :: w2) := fun σ F H D e g k => by
  obtain ⟨v, h1, h2⟩ := e.at_ i _ hi
  have h2 : v = .ref a := h2
  subst h2
  obtain ⟨hF, o, ho, vs, rfl, hv⟩ := g.ow (oLst a ps) (by simp)
  refine ⟨.ref a, h1, Or.inl ⟨rfl, _, SqL.of ho⟩, he σ F H _ e g fun y F1 H1 s1 p1 => ?_⟩
  obtain ⟨hF1, o1, ho1, vs1, rfl, hv1⟩ := s1.good.ow (oLst a ps) (by simp)
  have s2 := Step.write (w1 := w) (w2 := w2) (e := oLst a ps) (e' := oLst a (ps ++ [P])) (o := .lst (vs1 ++ [y])) s1.good rfl ⟨_, rfl, hv1.append (.cons p1 .nil)⟩
  exact ⟨a, vs1, y, rfl, rfl, ho1, Nat.lt_of_le_of_lt (by rw [← hv1.len]; exact hl) (by decide), k σ F1 _ (s1.trans s2) (e.mono (s1.trans s2).exF)⟩
/-- an owned list read at a place -/
theorem ee_ixO {w2 : List Ow} {a : Addr} {ps : List Pr} {k : Int} {n : Nat} (ha : Ee ρ (w ++ oLst a ps :: w2) ta (pA a)) (hb : Ee ρ (w ++ oLst a ps :: w2) tb (pI k)) (hi : ixN ps.length k = some n) (hp : ps[n]? = some P) : Ee ρ (w ++ oLst a ps :: w2) (tOp (rIxL K) ta tb) P :=
  ee_op ha hb fun x y F H Q hx hy g kk => by
    obtain ⟨hF, o, ho, vs, rfl, hv⟩ := g.ow (oLst a ps) (by simp)
    obtain ⟨v, h4, h5⟩ := hv.get hp
    exact ⟨a, vs, k, v, hx, hy, SqL.of ho, by rw [atI, ← hv.len, hi]; exact h4, kk v F H (Step.refl g) h5⟩
/-- xs[k] = e -/
theorem es_setO {w2 : List Ow} {a : Addr} {ps : List Pr} {k : Int} {n : Nat} (ht : Ee ρ (w ++ oLst a ps :: w2) t P) (ha : Ee ρ (w ++ oLst a ps :: w2) ta (pA a)) (hb : Ee ρ (w ++ oLst a ps :: w2) tb (pI k)) (hi : ixN ps.length k = some n) :
    Es ρ (w ++ oLst a ps :: w2) (tAsg t (gSub ta tb rSetL)) ρ (w ++ oLst a (ps.set n P) :: w2) := fun σ F H D e g kk =>
  ht σ F H _ e g fun v F1 H1 s1 p1 => ha σ F1 H1 _ (e.mono s1.exF) s1.good fun x F2 H2 s2 p2 => hb σ F2 H2 _ (e.mono (s1.trans s2).exF) s2.good fun y F3 H3 s3 p3 => by
    obtain ⟨hF, o, ho, vs, rfl, hv⟩ := s3.good.ow (oLst a ps) (by simp)
    have p1' := P.mono (s2.trans s3).exF p1
    have s4 := Step.write (w1 := w) (w2 := w2) (e := oLst a ps) (e' := oLst a (ps.set n P)) (o := .lst (vs.set n v)) s3.good rfl ⟨_, rfl, hv.set p1' n⟩
    exact ⟨a, vs, k, n, p2, p3, ho, by rw [← hv.len]; exact hi, kk σ F3 _ (((s1.trans s2).trans s3).trans s4) (e.mono (((s1.trans s2).trans s3).trans s4).exF)⟩
end
/-! ### promises -/
def Pm {I : Type} (pre : I → Prop) (ps : I → List Pr) (w : I → List Ow) (P : I → Pr) (w' : I → List Ow) : Sp := fun vs H Q _ => ∃ i F, pre i ∧ All2 F (ps i) vs ∧ Good (w i) F H ∧ ∀ v F' H', Step (w i) (w' i) F H F' H' → (P i).p F' v → Q v H'
theorem tl_pm {I : Type} {pre : I → Prop} {ps : I → List Pr} {w w' : I → List Ow} {P : I → Pr} (i : I) (h : pre i) : Tl (Pm pre ps w P w') (ps i) (w i) (P i) (w' i) := fun vs F H Q E a g k => ⟨i, F, h, a, g, k⟩
def startR (N : List Str) (ps : List Pr) : En := ps.map some ++ List.replicate (N.length - ps.length) none
theorem env_start {N : List Str} {ps : List Pr} {vs : List V} {F : Hp} (h : All2 F ps vs) : EnvR (startR N ps) (L2.start N vs) F := by
  refine ⟨by simp [startR, L2.start, h.len], fun i P hi => ?_⟩
  unfold startR at hi
  unfold L2.start
  by_cases hl : i < ps.length
  · rw [List.getElem?_append_left (by simpa using hl), List.getElem?_map] at hi
    cases e : ps[i]? with
    | none => rw [e] at hi; cases hi
    | some P' =>
      rw [e] at hi
      cases hi
      obtain ⟨v, h1, h2⟩ := h.get e
      exact ⟨v, by rw [List.getElem?_append_left (by rw [List.length_map, ← h.len]; exact hl), List.getElem?_map, h1]; rfl, h2⟩
  · rw [List.getElem?_append_right (by simpa using hl), List.getElem?_replicate] at hi
    split at hi <;> cases hi
/-- a def's body -/
def Eb (ρ : En) (w : List Ow) (t : TS) (P : Pr) (w' : List Ow) : Prop := ∀ σ F H (Q : VK), EnvR ρ σ F → Good w F H → (∀ v F' H', Step w w' F H F' H' → P.p F' v → Q v H') → t { nx := fun _ H' => Q .non H', rt := Q } σ H
theorem Er.eb {ρ : En} {w w' : List Ow} {t : TS} {P : Pr} (h : Er ρ w t P w') : Eb ρ w t P w' := fun σ F H Q e g k => h σ F H _ e g k
theorem Es.eb {ρ ρ' : En} {w w' : List Ow} {t : TS} (h : Es ρ w t ρ' w') : Eb ρ w t pN w' := fun σ F H Q e g k => h σ F H _ e g fun σ' F' H' s _ => k .non F' H' s rfl
section
variable {P : Program} {wd : World} {K : PySem.W.Frag} {mg : Str → Option Value} {base : Heap} {x qual : Str} {params : Arguments} {body : List Stmt} {scope : Scope} {dvs : List V} {kws : List (Str × V)} {f : Addr} {fd : FuncData}
theorem fn_pm {I : Type} {pre : I → Prop} {ps : I → List Pr} {w w' : I → List Ow} {R : I → Pr} {N qs : List Str} {k : Nat} (F : FunD K x qual params body scope dvs kws f fd) (S : FnScope N qs scope) (hl : ∀ i, pre i → (ps i).length = qs.length)
    (hb : ∀ (cdv : Value) (A : Around) (outer : List Env) (s : Shared) (H : Hp) (E : XK), Room k (A.deeper (PyProof.Rows.envOfC qual scope s.heap.objs.size f cdv)) → ∀ i, pre i →
      ∃ t, PSs (cxOf CX0 P wd K mg base N qual scope f cdv A outer s H E).nox body t ∧ Eb (startR N (ps i)) (w i) t (R i) (w' i)) : FnOk P wd K mg base CX0 (k + 1) f fd qs (Pm pre ps w R w') := by
  refine F.ok S (fun vs H Q E h => ?_) (fun cdv A outer s H vs Q E hr h => ?_)
  · obtain ⟨i, Fz, hp, ha, _⟩ := h
    rw [← ha.len]
    exact hl i hp
  · obtain ⟨i, Fz, hp, ha, g, kk⟩ := h
    obtain ⟨t, h1, h2⟩ := hb cdv A outer s H E hr i hp
    exact ⟨t, h1.nox, h2 _ Fz H Q (env_start ha) g kk⟩
end
end J
/-! ## Ctx -/
set_option Elab.async false
set_option linter.all false
set_option maxRecDepth 100000
set_option maxHeartbeats 4000000
namespace J
open PySem L2
/-! ### a def by its promise, as its callers know it -/
structure CallG (P : Program) (w : World) (K : PySem.W.Frag) (mg : Str → Option Value) (base : Heap) (k : Nat) (x : Str) (ps : List Str) (ds : List V) (sp : Sp) : Prop where
  ex : ∃ fd f us, FnOk P w K mg base CX0 k f fd ps sp ∧ mg x = some (.ref f) ∧ PySem.W.keepIn K (.ref f) = true ∧ Binds K fd ps us ∧ Vals ds us
structure CallM (P : Program) (w : World) (K : PySem.W.Frag) (mg : Str → Option Value) (base : Heap) (k : Nat) (C : Addr) (m : Str) (ps : List Str) (ds : List V) (sp : Sp) : Prop where
  ex : ∃ fd f us, FnOk P w K mg base CX0 k f fd ps sp ∧ Meth K C m f ∧ Binds K fd ps us ∧ Vals ds us
/-- an __init__ -/
structure CallI (P : Program) (w : World) (K : PySem.W.Frag) (mg : Str → Option Value) (base : Heap) (k : Nat) (x : Str) (C : Addr) (ps : List Str) (ds : List V) (sp : Sp) : Prop where
  ex : ∃ fd f us, FnOk P w K mg base CX0 k f fd ps sp ∧ mg x = some (.ref C) ∧ Mk K C f ∧ Binds K fd ps us ∧ Vals ds us
section
variable {X : Cx} {k j : Nat} {x m : Str} {ps : List Str} {ds : List V} {sp : Sp} {C : Addr} {p pos apos : Pos} {e o : Expr} {es : List Expr} {t : TA} {ta : TE}
theorem pe_callG (c : CallG X.prog X.w X.K X.mg X.base k x ps ds sp) (hr : Room j X.A) (hg : Gl X x) (ha : PA X (e :: es) t) (hk : k ≤ j := by decide) (hdb : (x == ("__debug__" : Str)) = false := by decide)
    (he : starEach (e :: es) X.env = (false, eval e X.env) :: starEach es X.env := by rfl) (hpl : (backTo pos (starEach es X.env)).any (·.1) = false := by rfl) : PE X (.Call (.Name x p) (e :: es) [] pos) (tCall sp ds E0 t) := by
  obtain ⟨fd, f, us, F, hm, kp, b, hd⟩ := c.ex
  exact pe_call F (hr.mono hk) hg hm kp b hd pass0 ha hdb he hpl
theorem pe_methG {pl : Sem Bool} (he : PE X o ta) (c : Cls X.K C) (M : CallM X.prog X.w X.K X.mg X.base k C m ps ds sp) (hr : Room j X.A) (ha : PA X (e :: es) t) (hk : k ≤ j := by decide)
    (hst : starEach (e :: es) X.env = (false, eval e X.env) :: starEach es X.env := by rfl) (hpl : (backTo pos (starEach es X.env)).any (·.1) = false := by rfl)
    (ht : eval (.Call (.Attribute o m apos) (e :: es) [] pos) X.env = (do
      let ov ← eval o X.env
      standAt apos.atName
      let (f, first) ← holding [ov] (getMethod ov m pl)
      callWith pos f first (backTo pos (starEach (e :: es) X.env)) (backToKw pos (keywordEach [] X.env))) := by rfl) : PE X (.Call (.Attribute o m apos) (e :: es) [] pos) (tMeth C m sp ds E0 ta t) := by
  obtain ⟨fd, f, us, F, hm, b, hd⟩ := M.ex
  exact pe_meth he c hm F (hr.mono hk) b hd pass0 ha hst hpl ht
theorem pe_methG0 {pl : Sem Bool} (he : PE X o ta) (c : Cls X.K C) (M : CallM X.prog X.w X.K X.mg X.base k C m ps ds sp) (hr : Room j X.A) (hk : k ≤ j := by decide)
    (ht : eval (.Call (.Attribute o m apos) [] [] pos) X.env = (do
      let ov ← eval o X.env
      standAt apos.atName
      let (f, first) ← holding [ov] (getMethod ov m pl)
      callWith pos f first (backTo pos (starEach [] X.env)) (backToKw pos (keywordEach [] X.env))) := by rfl) : PE X (.Call (.Attribute o m apos) [] [] pos) (tMeth C m sp ds E0 ta tNil) := by
  obtain ⟨fd, f, us, F, hm, b, hd⟩ := M.ex
  exact pe_meth0 he c hm F (hr.mono hk) b hd pass0 ht
theorem pe_makeG (c : CallI X.prog X.w X.K X.mg X.base k x C ps ds sp) (hr : Room j X.A) (hg : Gl X x) (ha : PA X (e :: es) t) (hk : k + 1 ≤ j := by decide) (hdb : (x == ("__debug__" : Str)) = false := by decide)
    (he : starEach (e :: es) X.env = (false, eval e X.env) :: starEach es X.env := by rfl) (hpl : (backTo pos (starEach es X.env)).any (·.1) = false := by rfl) : PE X (.Call (.Name x p) (e :: es) [] pos) (tMake C sp ds E0 t) := by
  obtain ⟨fd, f, us, F, hm, M, b, hd⟩ := c.ex
  exact pe_make M F (hr.mono hk) hg hm b hd pass0 ha hdb he hpl
end
/-! ### methods of frozen objects, told by their promise -/
/-- the fields of a Field -/
def fdF (q p n : Int) : List (Str × Pr) := [("many", pI q), ("prime", pI p), ("places", pI n)]
theorem ip_mulA {X : Cx} : PIp X .Mult (rI CMul fun i j => .int (i * j)) := iop_mul
end J
/-! ## R1 -/
set_option Elab.async false
set_option linter.all false
set_option maxRecDepth 100000
set_option maxHeartbeats 4000000
namespace R1
open PySem PySem.Spec PyProof.Rows L2
open AutoSeq1 (wpAny_loadPart')
section
variable {X : Cx}
theorem get_list : PGet X (rIxL X.K) := by
  intro pins s σ H x y v u Q I rx ry h
  obtain ⟨p, xs, i, z, rfl, rfl, hq, he, q⟩ := h
  cases rx
  obtain ⟨t, rfl⟩ := ry
  obtain ⟨its, r, pl, hz⟩ := I.list hq
  obtain ⟨j, h1, h2, h3, h4, h5⟩ := atI_get he
  obtain ⟨w, ew, rw'⟩ := r.get h2
  have hl := r.length
  have hn := line63
  have fin : EP X pins σ Q w s := ⟨z, H, I, rw', q⟩
  by_cases h0 : 0 ≤ i
  · have hj : i.toNat = j := by
      rw [seqIndex_of h0 h5] at h1
      exact Option.some.inj h1
    exact wpAny_getItem_list pl.isList h0 (by omega) (by rw [hj]; simpa using ew) fin
  · have hj : (i + (its.toArray.size : Int)).toNat = j := by
      rw [seqIndex_neg (by omega) h4] at h1
      rw [List.size_toArray, ← hl]
      exact Option.some.inj h1
    exact (wpAny_getItem_list_neg (Q := fun r s' => EP X pins σ Q r s') pl.isList (by omega) (by rw [List.size_toArray] <;> omega) (by omega) (by rw [hj]; simpa using ew) fin)

/-! ### any of a tuple of ints -/
def rAnyI (K : PySem.W.Frag) : List V → Hp → VK → Prop := fun vs H Q => ∃ (a : Addr) (ns : List Int), vs = [V.ref a] ∧ SqT K H a (ns.map V.int) ∧ Q (.bl (ns.any (· != 0))) H
theorem iter_tup {prog : Program} {w : World} {A : Around} {E : Value → Shared → Prop} {s : Shared} {l : Addr} {items : Array Value} {Q : Value → Shared → Prop} (hl : s.heap.IsTuple l items)
    (h : ∀ s₂ : Shared, s₂ = { s with heap := s.heap.push { cls := .type "tuple_iterator", data := .fields #[.ref l, .int 0 0] } } →
      (s₂.heap.IsTupleIter s.heap.objs.size l 0 ∧ s₂.heap.IsTuple l items) → l ≠ s.heap.objs.size → Q (.ref s.heap.objs.size) s₂) : wpAny (model prog w) A (pyIter (.ref l)) Q E s := by
  have hlt : l < s.heap.objs.size := by obtain ⟨_, e, _⟩ := hl; exact Heap.lt_size e
  exact wpAny_pyIter_tuple hl (h _ rfl ⟨⟨_, Heap.get?_push_size _ rfl, rfl, rfl⟩, hl.push _⟩ (Nat.ne_of_lt hlt))
theorem truth_ints {prog : Program} {w : World} {A : Around} {ns : List Int} {its : List Value} (r : Vals (ns.map V.int) its) :
    TruthOf prog w A (fun i v => its.toArray[i]? = some v) (fun i => ns.getD i 0 != 0) := fun i v s Q E hv hq => by
  have hv' : its[i]? = some v := by simpa using hv
  have hi : i < its.length := (List.getElem?_eq_some_iff.mp hv').1
  have hl := r.length
  rw [List.length_map] at hl
  have hn : (ns.map V.int)[i]? = some (V.int ns[i]) := by rw [List.getElem?_map, List.getElem?_eq_getElem (by omega)]; rfl
  obtain ⟨u, hu, ru⟩ := r.get hn
  rw [hv'] at hu
  cases hu
  obtain ⟨t, rfl⟩ := ru
  have hg : ns.getD i 0 = ns[i]'(by omega) := by rw [List.getD_eq_getElem?_getD, List.getElem?_eq_getElem (by omega)]; rfl
  have hq' : Q (ns.getD i 0 != 0) s := hq
  rw [hg] at hq'
  exact P.truthy_int hq'
theorem any_rangeI : ∀ ns : List Int, (List.range ns.length).any (fun i => ns.getD i 0 != 0) = ns.any (· != 0)
  | [] => rfl
  | b :: bs => by
    rw [List.length_cons, List.range_succ_eq_map, List.any_cons, List.any_map, List.any_cons, ← any_rangeI bs]
    all_goals rfl
theorem cr_anyI (hc : X.calm = true) : CallR X (.builtin "any") (rAnyI X.K) := by
  intro pins s σ H vs us Q I r h
  obtain ⟨a, ns, rfl, hs, q⟩ := h
  obtain ⟨its, rv, hl, _⟩ := I.tuple hs
  rw [Vals.ref1 r]
  refine call_any_walk (iter_tup (show s.heap.IsTuple a its.toArray from hl) fun s₂ e2 st hne => ?_)
  subst e2
  refine ⟨_, _, _, _, _, _, _, rfl, Walks.tuple (A := X.A.in1) (I.ok.hd hc) _ a hne its.toArray, st, truth_ints rv, fun h' tk hk => ?_⟩
  refine ⟨.bl _, H, I.kept fun b o eo => hk b o (fun hmem => ?_) (Heap.get?_push_of_some _ eo), ?_, q⟩
  · rcases List.mem_cons.mp hmem with e1 | hmem
    · exact absurd (e1 ▸ Heap.lt_size eo) (Nat.lt_irrefl _)
    · cases hmem
  · show Value.bool _ = Value.bool _
    rw [← any_rangeI, List.size_toArray, ← rv.length, List.length_map]
/-! ### tuple * int, any count -/
theorem tuple_mul0 (l : Addr) (items : Array Value) (n : Nat) (dd : Option Addr) (sl : Array (Option Value)) (x : Int) (u : Tok) (c0 : (decide (x < -(2 ^ 63)) || decide (x ≥ 2 ^ 63)) = false) (c1 : (items.isEmpty || x == 1) = false) (c2 : (decide (x ≤ 0) || items.isEmpty) = true) :
    Meets (Builtin.«tuple.__mul__» ⟨[.ref l, .int x u], []⟩) (fun _ R s => s.heap.get? l = some { cls := .type "tuple", dict := dd, data := .seq items n, slots := sl } ∧
      R (.ok (.ret (Value.ref s.heap.objs.size))) { s with heap := s.heap.push { cls := Value.type "tuple", data := Data.seq #[] }, toks := s.toks }) :=
  .of_wp fun prog w A R s h => by
    obtain ⟨hp, g, d, tk, os⟩ := s
    obtain ⟨hl, h⟩ := h
    have f1 := AutoSeq1.idx_int
    wp_walk using wpAny_loadPart' hl
    repeat (first
      | (refine wpAny_ite_false (decide_eq_false (by rw [c0]; exact Bool.false_ne_true)) ?_; wp_walk using wpAny_loadPart' hl)
      | (refine wpAny_ite_false (decide_eq_false (by rw [c1]; exact Bool.false_ne_true)) ?_; wp_walk using wpAny_loadPart' hl)
      | (refine wpAny_ite_true (decide_eq_true c2) ?_; wp_walk using wpAny_loadPart' hl)
      | (refine wpAny_ite_true c2 ?_; wp_walk using wpAny_loadPart' hl))
    exact ⟨_, rfl, h⟩
theorem tuple_mul1 (l : Addr) (items : Array Value) (n : Nat) (dd : Option Addr) (sl : Array (Option Value)) (x : Int) (u : Tok) (c0 : (decide (x < -(2 ^ 63)) || decide (x ≥ 2 ^ 63)) = false) (c1 : (items.isEmpty || x == 1) = true) :
    Meets (Builtin.«tuple.__mul__» ⟨[.ref l, .int x u], []⟩) (fun _ R s => s.heap.get? l = some { cls := .type "tuple", dict := dd, data := .seq items n, slots := sl } ∧
      R (.ok (.ret (Value.ref l))) s) :=
  .of_wp fun prog w A R s h => by
    obtain ⟨hp, g, d, tk, os⟩ := s
    obtain ⟨hl, h⟩ := h
    have f1 := AutoSeq1.idx_int
    wp_walk using wpAny_loadPart' hl
    repeat (first
      | (refine wpAny_ite_false (decide_eq_false (by rw [c0]; exact Bool.false_ne_true)) ?_; wp_walk using wpAny_loadPart' hl)
      | (refine wpAny_ite_true c1 ?_; wp_walk using wpAny_loadPart' hl))
    exact ⟨_, rfl, h⟩
/-- xs * k, xs not empty -/
def rRepTA (K : PySem.W.Frag) : R2 := fun x y H Q => ∃ l k xs, x = .ref l ∧ y = .int k ∧ SqT K H l xs ∧ xs ≠ [] ∧ 0 ≤ k ∧ k ≤ 1000 ∧ xs.length ≤ 1000 ∧ (k = 1 → Q (.ref l) H) ∧ (k ≠ 1 → ∀ p, H p = none → Q (.ref p) (upd H p (.tup (List.replicate k.toNat xs).flatten)))
theorem op_repTA : OpR X (binaryOp .Mult) (rRepTA X.K) := by
  intro pins s σ H x y v u Q I rx ry h
  obtain ⟨l, k, xs, rfl, rfl, hT, hne, h1, h2, hz, q1, q2⟩ := h
  by_cases hbig : 2 ≤ k
  · exact op_repT pins s σ H _ _ v u Q I rx ry ⟨l, k, xs, rfl, rfl, hT, hne, hbig, h2, hz, q2 (by omega)⟩
  cases rx
  obtain ⟨t, rfl⟩ := ry
  obtain ⟨its, r, ⟨⟨cls, dd, data, sl⟩, ho, hc, n, hd⟩, hs⟩ := I.tuple hT
  simp only at hc hd
  subst hc hd
  have hle : its.length = xs.length := r.length.symm
  have hn : its ≠ [] := fun e => hne (by
    rw [e] at hle
    exact List.eq_nil_of_length_eq_zero hle.symm)
  have hi : its.toArray.isEmpty = false := by
    cases its with
    | nil => exact absurd rfl hn
    | cons a b => rfl
  have c0 : (decide (k < -(2 ^ 63)) || decide (k ≥ 2 ^ 63)) = false := by
    rw [decide_eq_false (by omega), decide_eq_false (by omega)] <;> rfl
  by_cases hk : k = 1
  · subst hk
    have c1 : (its.toArray.isEmpty || (1 : Int) == 1) = true := by rw [hi]; rfl
    refine wpAny_binaryOp_repeat_ref (T := "tuple") (U := "int") (by decide) ⟨_, ho, rfl⟩ (fun s' => typeIs_int s' 1 t) noFill_tuple_mul F.fills_int_mul F.slot_int_rmul repeat_tuple F.slot_int_index.lookup
      (call_meets F.slot_int_rmul (typeIs_int s 1 t) F.entry_int_rmul (F.args_int_rmul_2 _ _) (int_rmul_tuple 1 t l its.toArray n dd sl)
        ⟨ho, rfl, ⟨_, ho, rfl⟩, call_meets F.slot_tuple_mul ⟨_, ho, rfl⟩ F.entry_tuple_mul (F.args_tuple_mul_2 _ _) (tuple_mul1 l its.toArray n dd sl 1 t c0 c1) ⟨ho, ?_⟩⟩)
    exact ⟨.ref l, H, I, rfl, q1 rfl⟩
  · have hk0 : k = 0 := by omega
    subst hk0
    have c1 : (its.toArray.isEmpty || (0 : Int) == 1) = false := by rw [hi]; rfl
    refine wpAny_binaryOp_repeat_ref (T := "tuple") (U := "int") (by decide) ⟨_, ho, rfl⟩ (fun s' => typeIs_int s' 0 t) noFill_tuple_mul F.fills_int_mul F.slot_int_rmul repeat_tuple F.slot_int_index.lookup
      (call_meets F.slot_int_rmul (typeIs_int s 0 t) F.entry_int_rmul (F.args_int_rmul_2 _ _) (int_rmul_tuple 0 t l its.toArray n dd sl)
        ⟨ho, rfl, ⟨_, ho, rfl⟩, call_meets F.slot_tuple_mul ⟨_, ho, rfl⟩ F.entry_tuple_mul (F.args_tuple_mul_2 _ _) (tuple_mul0 l its.toArray n dd sl 0 t c0 c1 (by rfl)) ⟨ho, ?_⟩⟩)
    refine ⟨.ref s.heap.objs.size, _, I.laid (t' := s.toks) (o := .tup []) (fun b ob q => Heap.get?_push_of_some _ q) (Nat.le_refl _) ?_, rfl, q2 hk _ (I.hok.fresh (Nat.le_refl _))⟩
    exact ⟨Nat.zero_le _, [], .nil, IsTup.new _ _⟩
end
/-! ### enumerate of a tuple -/
theorem meets_enumT (l : Addr) (items : Array Value) :
    Meets (Builtin.«enumerate.__new__» ⟨[.type "enumerate", .ref l], []⟩) (fun _ R s => s.heap.IsTuple l items ∧
      R (.ok (.ret (.ref (s.heap.push { cls := .type "tuple_iterator", data := .fields #[.ref l, .int 0 0] }).objs.size)))
        { s with heap := (s.heap.push { cls := .type "tuple_iterator", data := .fields #[.ref l, .int 0 0] }).push { cls := .type "enumerate", data := .fields #[.none, .bool false, .ref s.heap.objs.size, rawInt 0, .none, .none] } }) :=
  .of_wp fun prog w A R s h => by
    obtain ⟨hp, g, d, tk, os⟩ := s; obtain ⟨hl, h⟩ := h
    have hsub := sub_enumerate
    have hL : Heap.IsTuple (Shared.heap ⟨hp, g, d, tk, os⟩) l items := hl
    wp_walk using wpAny_pyIter_tuple hL
    refine wpAny_stack_any fun st => wpAny_pure ?_
    split
    · rename_i c _ _ _ _ _
      cases (c == Value.type "enumerate")
      · wp_walk using wpAny_pyIter_tuple hL
        exact ⟨_, rfl, h⟩
      · wp_walk using wpAny_pyIter_tuple hL
        exact ⟨_, rfl, h⟩
    · wp_walk using wpAny_pyIter_tuple hL
      exact ⟨_, rfl, h⟩
section
variable {prog : Program} {w : World} {A : Around} {E : Value → Shared → Prop} {s : Shared}
theorem call_enumT {l : Addr} {items : Array Value} {Q : Value → Shared → Prop} (hL : s.heap.IsTuple l items)
    (h : ∀ h', IsEnum h' (s.heap.objs.size + 1) s.heap.objs.size 0 .none → h'.IsTupleIter s.heap.objs.size l 0 → h'.objs.size = s.heap.objs.size + 2 →
      (∀ b o, s.heap.get? b = some o → h'.get? b = some o) → Q (.ref (s.heap.objs.size + 1)) { s with heap := h' }) :
    wpAny (model prog w) A (call (.type "enumerate") [.ref l]) Q E s := by
  refine callType_new F.called_enumerate (by decide) (F.typeCall_enumerate_1 _) (F.newCall_enumerate_1 _) (fun obj => F.args_object_init_2 obj _) F.entry_enumerate_new
    (meets_enumT l items) ⟨hL, ?_⟩
  have hz : (s.heap.push { cls := .type "tuple_iterator", data := .fields #[.ref l, .int 0 0] }).objs.size = s.heap.objs.size + 1 := Heap.size_push ..
  show _ ∧ _
  rw [hz]
  have he : IsEnum ((s.heap.push { cls := .type "tuple_iterator", data := .fields #[.ref l, .int 0 0] }).push
      { cls := .type "enumerate", data := .fields #[.none, .bool false, .ref s.heap.objs.size, rawInt 0, .none, .none] }) (s.heap.objs.size + 1) s.heap.objs.size 0 .none := by
    have := Heap.get?_push_size (s.heap.push { cls := .type "tuple_iterator", data := .fields #[.ref l, .int 0 0] })
      (o := { cls := .type "enumerate", data := .fields #[.none, .bool false, .ref s.heap.objs.size, rawInt 0, .none, .none] }) rfl
    rw [hz] at this; exact this
  refine ⟨⟨_, he, rfl⟩, h _ he ⟨_, Heap.get?_push_of_some _ (Heap.get?_push_size _ rfl), rfl, rfl⟩ (by rw [Heap.size_push, hz]) fun b o x => Heap.get?_push_of_some _ (Heap.get?_push_of_some _ x)⟩
end
def IteT (K : PySem.W.Frag) (a : Addr) (xs : List V) : It :=
  ⟨fun i H => SqT K H a xs ∧ i < xs.length, fun i H v H' => ∃ T x, v = .ref T ∧ H T = none ∧ H' = upd H T (.tup [.int (i : Nat), x]) ∧ xs[i]? = some x, fun i H => SqT K H a xs ∧ xs.length = i⟩
theorem turn_enumT {P : Program} {w : World} {K : PySem.W.Frag} {elts : List Expr} {kk : Nat} {tpos : Pos} (a e it : Addr) (xs : List V) (hae : a ≠ it) (hea : e ≠ a) :
    Turn P w K (.Tuple elts kk tpos) (IteT K a xs) [e, it] e (fun i h => (∃ old, IsEnum h e it ((i : Nat) : Int) old) ∧ h.IsTupleIter it a i ∧ e ≠ it) where
  mem := by simp
  obj := fun i h st b hb => by
    obtain ⟨⟨old, he⟩, ⟨o, ho, hc, hd⟩, _⟩ := st
    have e' : b = e ∨ b = it := by simpa using hb
    rcases e' with z | z
    · rw [z]; exact ⟨_, he, fun v q => nomatch q⟩
    · rw [z]; exact ⟨o, ho, fun v q => by rw [hd] at q; cases q⟩
  keep := fun i h h' st k => let ⟨⟨old, he⟩, hi, hne⟩ := st; ⟨⟨old, k e (by simp) _ he⟩, hi.at fun o q => k it (by simp) o q, hne⟩
  item := by
    intro X hP hw hK hc i pins s σ H E I hf st hg
    subst hP hw hK
    obtain ⟨⟨old, he⟩, hit, hne⟩ := st
    obtain ⟨hq, hlt⟩ := hg
    have hx : xs[i]? = some xs[i] := List.getElem?_eq_getElem hlt
    generalize xs[i] = x at hx
    obtain ⟨its, rv, p, hz⟩ := I.tuple hq
    obtain ⟨u, hu, ru⟩ := rv.get hx
    have hel : e < s.heap.objs.size := Heap.lt_size he
    have hil : it < s.heap.objs.size := by obtain ⟨_, q, _⟩ := hit; exact Heap.lt_size q
    have hll := rv.length
    refine wpAny_pyNext_enum_itemC (n := its.toArray.size) (Draws.tuple (A := X.A.in1) (I.ok.hd hc) it a hae its.toArray) he ⟨hit, show s.heap.IsTuple a its.toArray from p⟩ (by rw [List.size_toArray, ← hll]; exact hlt) hne (by simp [hne, hea]) fun y h' tk hy ho hs' hT hsz hk => ?_
    have hy : its.toArray[i]? = some y := hy
    have hyu : y = u := by
      have hu' : its.toArray[i]? = some u := by simpa using hu
      rw [hu'] at hy
      exact (Option.some.inj hy).symm
    subst hyu
    refine ⟨_, rfl, wpAny_letOwnedTupleGo_enum (s := { s with heap := h', toks := tk + 1 }) ho fun h'' he' sb => ?_⟩
    have hT2 : h''.get? s.heap.objs.size = some { cls := .type "tuple", data := .seq #[.int i tk, y] } := (sb.2 _ (Nat.ne_of_gt hel)).trans hT
    have new : ObjOk X.prog X.w (upd H s.heap.objs.size (.tup [.int (i : Nat), x])) h'' s.heap.objs.size (.tup [.int (i : Nat), x]) :=
      ⟨by show 2 ≤ sizeLine; decide, [.int i tk, y], .cons ⟨_, rfl⟩ (.cons ru .nil), ⟨_, hT2, rfl, _, rfl⟩⟩
    have I1 : Inv X pins σ (upd H s.heap.objs.size (.tup [.int (i : Nat), x])) { s with heap := h'', toks := tk + 1 } :=
      I.turnedNew (ch := [e, it]) (fun b ob hb q => (sb.2 b (fun z => hb (by simp [z]))).trans (hk b ob (fun z => hb (by simp [z])) (fun z => hb (by simp [z])) q)) hf (Nat.le_refl _) new
    refine ⟨.ref s.heap.objs.size, _, I1, rfl, ⟨_, x, rfl, I.hok.fresh (Nat.le_refl _), rfl, hx⟩, ⟨⟨y, ?_⟩, hs'.1.at fun o q => (sb.2 it (Ne.symm hne)).trans q, hne⟩, fun b hb => ?_⟩
    · have e1 : ((i + 1 : Nat) : Int) = (i : Int) + 1 := by omega
      rw [e1]; exact he'
    · have hb' : b < s.heap.objs.size := by
        have e' : b = e ∨ b = it := by simpa using hb
        rcases e' with z | z
        · rw [z]; exact hel
        · rw [z]; exact hil
      rw [upd_ne (Nat.ne_of_lt hb')]
      exact (hf b hb).1
  done := by
    intro X hP hw hK hc i pins s σ H E I hf st hg
    subst hP hw hK
    obtain ⟨⟨old, he⟩, hit, hne⟩ := st
    obtain ⟨hq, hx⟩ := hg
    obtain ⟨its, rv, p, hz⟩ := I.tuple hq
    obtain ⟨f0, f1, f2, f3, f4, f5⟩ := hf it (by simp)
    have hl := rv.length
    have D := Draws.tuple (prog := X.prog) (w := X.w) (A := X.A.in1) (I.ok.hd hc) it a hae its.toArray
    have hni : i = its.toArray.size := by rw [List.size_toArray, ← hl]; exact hx.symm
    exact wpAny_pyNext_enum_endD D he (hni ▸ ⟨hit, show s.heap.IsTuple a its.toArray from p⟩) fun h' eb => ⟨rfl, I.turned (t' := s.toks) (fun b o hb q => eb b o hb q) f0 f1 f3 f4 f5⟩
  self := fun A i s Q E st h => let ⟨⟨_, he⟩, _⟩ := st; wpAny_pyIter_enum he h
def iEnumT (K : PySem.W.Frag) (ta : TA) : TI := fun σ H R => ta σ H fun vs H1 => ∃ a xs, vs = [.ref a] ∧ SqT K H1 a xs ∧ R (IteT K a xs) H1
theorem pi_enumT {X : Cx} {e : Expr} {ta : TA} {p pos tpos : Pos} {elts : List Expr} {kk : Nat} (hg : Gl X "enumerate") (hm : X.mg "enumerate" = none) (ha : PA X [e] ta) (hs : starEach [e] X.env = [(false, eval e X.env)] := by rfl) :
    PI X (.Tuple elts kk tpos) (.Call (.Name "enumerate" p) [e] [] pos) (iEnumT X.K ta) := by
  refine ⟨fun pins s σ H R I h => ?_⟩
  refine Call_ (ld_blt I hg hm boot_enumerate (PyProof.Rows.callWith_type1 (thn (ha.run pos pins s σ H _ I h) fun us s1 ⟨vs, H1, I1, r1, q1⟩ => ?_) hs rfl))
  obtain ⟨a, xs, ex, hq, q⟩ := q1
  subst ex
  cases r1 with
  | cons r rr =>
    cases rr
    cases r
    obtain ⟨its, rv, p', hz⟩ := I1.tuple hq
    have hal : a < s1.heap.objs.size := by obtain ⟨_, e1, _⟩ := p'; exact Heap.lt_size e1
    refine call_enumT (show s1.heap.IsTuple a its.toArray from p') fun h' he hit hsz hk => wpAny_pyIter_enum he ?_
    have I2 : Inv X pins σ H1 { s1 with heap := h' } := I1.kept (t' := s1.toks) hk
    refine ⟨s1.heap.objs.size + 1, [s1.heap.objs.size + 1, s1.heap.objs.size], _, _, H1, rfl, I2, turn_enumT a (s1.heap.objs.size + 1) s1.heap.objs.size xs (Nat.ne_of_lt hal) (Nat.ne_of_gt (Nat.lt_succ_of_lt hal)), ⟨⟨.none, he⟩, hit, Nat.succ_ne_self _⟩, fun b hb => ?_, q⟩
    have e' : b = s1.heap.objs.size + 1 ∨ b = s1.heap.objs.size := by simpa using hb
    have hle : s1.heap.objs.size ≤ b := by
      rcases e' with z | z
      · rw [z]; exact Nat.le_add_right _ _
      · rw [z]; exact Nat.le_refl _
    exact I1.fpOk hle (I1.hok.fresh hle)
end R1
/-! ## R2 -/
set_option Elab.async false
set_option linter.all false
set_option maxRecDepth 100000
set_option maxHeartbeats 4000000
/-! zip(a, b, strict=True) of two tuples of one length -/
namespace R2z
open PySem PySem.Spec PyProof.Rows L2 RZ
open PySem.Sem (wp)
abbrev IsZs (h : Heap) (z TI TO : Addr) (f0 : Value) : Prop :=
  h.get? z = some { cls := .type "zip", dict := none, data := .fields #[f0, .bool false, .bool true, .ref TI, .ref TO], slots := #[] }
section
variable {prog : Program} {w : World} {A : Around} {E : Value → Shared → Prop} {s : Shared}
theorem nextOrEnd_item {it l : Addr} {i : Nat} {items} {x : Value} {Q : Option Value → Shared → Prop} (hit : s.heap.IsTupleIter it l i)
    (hl : s.heap.IsTuple l items) (hx : items[i]? = some x)
    (hQ : ∀ h', h'.IsTupleIter it l (i + 1) → Heap.SameBut it s.heap h' → Q (some x) { s with heap := h' }) :
    wpAny (model prog w) A (Builtin.SmallTypes.nextOrEnd (.ref it)) Q E s := by
  unfold Builtin.SmallTypes.nextOrEnd
  exact wpAny_bind (wpAny_attempt (nextOf_tuple_item hit hl hx fun h' a b => wpAny_pure (hQ h' a b)))
theorem nextOrEnd_end {it l : Addr} {i : Nat} {items} {Q : Option Value → Shared → Prop} (hh : A.handled = none)
    (hit : s.heap.IsTupleIter it l i) (hl : s.heap.IsTuple l items) (hx : items[i]? = none)
    (hQ : ∀ h', Heap.ExtBut it s.heap h' → Q none { s with heap := h' }) :
    wpAny (model prog w) A (Builtin.SmallTypes.nextOrEnd (.ref it)) Q E s := by
  unfold Builtin.SmallTypes.nextOrEnd
  refine wpAny_bind (wpAny_attempt (nextOf_tuple_end hh hit hl hx fun h' e a he => ?_))
  obtain ⟨o, ho, hc⟩ := he
  refine wpAny_bind (wpAny_isInstance (T := "StopIteration") (b := true) ⟨o, ho, hc⟩ isSubtype_stop ?_)
  exact wpAny_pure (hQ _ a)
theorem zs_item {z TI TO i1 i2 l1 l2 : Addr} {k1 k2 : Nat} {xs ys : Array Value} {x y a b : Value} {Q : Value → Shared → Prop} (D : ZipApart z TI TO i1 i2 l1 l2)
    (hz : IsZs s.heap z TI TO .none) (hTI : IsPair s.heap TI (.ref i1) (.ref i2)) (hTO : IsPair s.heap TO a b)
    (h1 : s.heap.IsTupleIter i1 l1 k1) (h2 : s.heap.IsTupleIter i2 l2 k2) (hl1 : s.heap.IsTuple l1 xs) (hl2 : s.heap.IsTuple l2 ys) (hx : xs[k1]? = some x) (hy : ys[k2]? = some y)
    (hQ : ∀ h', IsZs h' z TI TO (rawInt s.heap.objs.size) → IsPair h' TO x y → h'.IsTupleIter i1 l1 (k1 + 1) → h'.IsTupleIter i2 l2 (k2 + 1) → IsPair h' s.heap.objs.size x y → h'.objs.size = s.heap.objs.size + 1 →
      (∀ c o, c ≠ z → c ≠ TO → c ≠ i1 → c ≠ i2 → s.heap.get? c = some o → h'.get? c = some o) → Q (.ref s.heap.objs.size) { s with heap := h' }) :
    wpAny (model prog w) A (Builtin.«zip.__next__» ⟨[.ref z], []⟩) (fun fin s' => ∃ v, fin = .done (.ret v) ∧ Q v s') E s := by
  show wpAny _ _ (field (.ref z) 2 >>= _) _ _ _
  refine wpAny_bind (wpAny_field hz rfl (x := .bool true) rfl ?_)
  show wpAny _ _ (field (.ref z) 3 >>= _) _ _ _
  refine wpAny_bind (wpAny_field hz rfl (x := .ref TI) rfl ?_)
  refine wpAny_bind (wpAny_seqItems hTI rfl ?_)
  show wpAny _ _ (Builtin.SmallTypes.ownedTupleIsFree (.ref z) >>= _) _ _ _
  refine wpAny_bind ?_
  unfold Builtin.SmallTypes.ownedTupleIsFree
  refine wpAny_bind (wpAny_field hz rfl (x := .none) rfl (wpAny_pure ?_))
  simp only [if_true]
  refine wpAny_bind (wpAny_rule ?_)
  refine wpAny_bind (wpAny_field hz rfl (x := .ref TO) rfl ?_)
  refine wpAny_bind (wpAny_setField_rec hz (by simp) fun h₁ hz₁ hs₁ => ?_)
  replace hz₁ : IsZs h₁ z TI TO .ellipsis := hz₁
  refine wpAny_bind ?_
  simp only [List.zipIdx_cons, List.zipIdx_nil, List.forIn_cons, List.forIn_nil]
  refine wpAny_bind (wpAny_bind (wpAny_onRaise ?_))
  show wpAny _ _ (Builtin.SmallTypes.nextOrEnd (.ref i1)) _ _ _
  refine (nextOrEnd_item (h1.extBut hs₁.extBut D.i1z) (hl1.extBut hs₁.extBut D.l1z) hx fun h₂ h1₂ hs₂ => ?_)
  have hTO₂ : IsPair h₂ TO a b := hs₂.extBut _ _ D.TOi1 (hs₁.extBut _ _ D.TOz hTO)
  refine wpAny_bind (wpAny_seqItems hTO₂ rfl ?_)
  refine wpAny_bind (wpAny_updateSeq_pair hTO₂ fun h₃ hTO₃ hs₃ => ?_)
  replace hTO₃ : IsPair h₃ TO x b := hTO₃
  refine wpAny_bind (wpAny_letGo (wpAny_pure ?_))
  refine wpAny_bind (wpAny_bind (wpAny_onRaise ?_))
  show wpAny _ _ (Builtin.SmallTypes.nextOrEnd (.ref i2)) _ _ _
  refine (nextOrEnd_item (((h2.extBut hs₁.extBut D.i2z).extBut hs₂.extBut D.i12.symm).extBut hs₃.extBut D.TOi2.symm)
    (((hl2.extBut hs₁.extBut D.l2z).extBut hs₂.extBut D.l2i1).extBut hs₃.extBut D.l2TO) hy fun h₄ h2₄ hs₄ => ?_)
  have hTO₄ : IsPair h₄ TO x b := hs₄.extBut _ _ D.TOi2 hTO₃
  refine wpAny_bind (wpAny_seqItems hTO₄ rfl ?_)
  refine wpAny_bind (wpAny_updateSeq_pair hTO₄ fun h₅ hTO₅ hs₅ => ?_)
  replace hTO₅ : IsPair h₅ TO x y := hTO₅
  refine wpAny_bind (wpAny_letGo (wpAny_pure (wpAny_pure ?_)))
  refine wpAny_bind (wpAny_seqItems hTO₅ rfl ?_)
  refine wpAny_bind (wpAny_newTuple ?_)
  have hsz : h₅.objs.size = s.heap.objs.size := by rw [hs₅.1, hs₄.1, hs₃.1, hs₂.1, hs₁.1]
  have hz₅ : IsZs h₅ z TI TO .ellipsis := hs₅.extBut _ _ D.TOz.symm (hs₄.extBut _ _ D.i2z.symm (hs₃.extBut _ _ D.TOz.symm (hs₂.extBut _ _ D.i1z.symm hz₁)))
  have hk₅ : ∀ c o, c ≠ z → c ≠ TO → c ≠ i1 → c ≠ i2 → s.heap.get? c = some o → h₅.get? c = some o := fun c o c1 c2 c3 c4 e =>
    hs₅.extBut _ _ c2 (hs₄.extBut _ _ c4 (hs₃.extBut _ _ c2 (hs₂.extBut _ _ c3 (hs₁.extBut _ _ c1 e))))
  have h1₅ : h₅.IsTupleIter i1 l1 (k1 + 1) := ((h1₂.extBut hs₃.extBut D.TOi1.symm).extBut hs₄.extBut D.i12).extBut hs₅.extBut D.TOi1.symm
  have h2₅ : h₅.IsTupleIter i2 l2 (k2 + 1) := h2₄.extBut hs₅.extBut D.TOi2.symm
  have hzlt : z < h₅.objs.size := Heap.lt_size hz₅
  have hTOlt : TO < h₅.objs.size := Heap.lt_size hTO₅
  show wpAny _ _ (Builtin.SmallTypes.ownedTupleHandOut (.ref z) (.ref h₅.objs.size) >>= _) _ _ _
  refine wpAny_bind ?_
  unfold Builtin.SmallTypes.ownedTupleHandOut
  have hz₆ : IsZs (h₅.push { cls := .type "tuple", data := .seq #[x, y] }) z TI TO .ellipsis := Heap.get?_push_of_some _ hz₅
  refine wpAny_bind (wpAny_setField_rec hz₆ (by simp) fun h₇ hz₇ hs₇ => ?_)
  replace hz₇ : IsZs h₇ z TI TO (rawInt h₅.objs.size) := hz₇
  refine wpAny_setField_rec hz₇ (by simp) fun h₈ hz₈ hs₈ => ?_
  replace hz₈ : IsZs h₈ z TI TO (rawInt h₅.objs.size) := hz₈
  have up : ∀ c o, c ≠ z → h₅.get? c = some o → h₈.get? c = some o := fun c o c1 e => hs₈.extBut _ _ c1 (hs₇.extBut _ _ c1 (Heap.get?_push_of_some _ e))
  have hT₈ : IsPair h₈ h₅.objs.size x y := hs₈.extBut _ _ (Nat.ne_of_gt hzlt) (hs₇.extBut _ _ (Nat.ne_of_gt hzlt) (Heap.get?_push_size _ rfl))
  have hz8 : h₈.objs.size = h₅.objs.size + 1 := by rw [hs₈.1, hs₇.1, Heap.size_push]
  rw [hsz] at hz₈ hT₈ hz8
  refine wpAny_pure ⟨_, rfl, ?_⟩
  show Q (.ref h₅.objs.size) _
  rw [hsz]
  exact hQ h₈ hz₈ (up _ _ D.TOz hTO₅) (h1₅.at fun o e => up _ o D.i1z e) (h2₅.at fun o e => up _ o D.i2z e) hT₈ hz8 fun c o c1 c2 c3 c4 e => up c o c1 (hk₅ c o c1 c2 c3 c4 e)
theorem stop_raise {Q : Fin → Shared → Prop} (hh : A.handled = none) (hE : ∀ h' e, (∀ b o, s.heap.get? b = some o → h'.get? b = some o) → (∃ o, h'.get? e = some o ∧ o.cls = .type "StopIteration") → E (.ref e) { s with heap := h' }) :
    wpAny (model prog w) A (Builtin.SmallTypes.stopIteration) Q E s := by
  unfold Builtin.SmallTypes.stopIteration
  show wpAny _ _ (newExc (.type "StopIteration") [] >>= _) _ _ _
  refine wpAny_bind ?_
  simp only [newExc, newTuple]
  refine wpAny_bind (wpAny_newObj_type ?_ (by size_fits))
  refine wpAny_bind (m := firstArgMember _ _) (wpAny_of_eq (a := Value.none) (by first | rfl | (simp only [firstArgMember]; rfl)) ?_)
  refine wpAny_newObj_type ?_ (by size_fits)
  simp only [raiseNew]
  refine wpAny_bind (wpAny_handled ?_)
  first | rw [show A.in1.handled = none from hh] | rw [hh]
  refine wpAny_bind (wpAny_pure (wpAny_throw ?_))
  exact hE _ _ (fun b o e => Heap.get?_push_of_some _ (Heap.get?_push_of_some _ e)) ⟨_, Heap.get?_push_size _ rfl, rfl⟩
theorem zs_end {z TI TO i1 i2 l1 l2 : Addr} {k1 k2 : Nat} {xs ys : Array Value} {a b : Value} {Q : Fin → Shared → Prop} (hh : A.handled = none) (D : ZipApart z TI TO i1 i2 l1 l2)
    (hz : IsZs s.heap z TI TO .none) (hTI : IsPair s.heap TI (.ref i1) (.ref i2)) (hTO : IsPair s.heap TO a b)
    (h1 : s.heap.IsTupleIter i1 l1 k1) (h2 : s.heap.IsTupleIter i2 l2 k2) (hl1 : s.heap.IsTuple l1 xs) (hl2 : s.heap.IsTuple l2 ys) (hx : xs[k1]? = none) (hy : ys[k2]? = none)
    (hE : ∀ h' e, (∀ c o, c ≠ z → c ≠ TO → c ≠ i1 → c ≠ i2 → s.heap.get? c = some o → h'.get? c = some o) → (∃ o, h'.get? e = some o ∧ o.cls = .type "StopIteration") → E (.ref e) { s with heap := h' }) :
    wpAny (model prog w) A (Builtin.«zip.__next__» ⟨[.ref z], []⟩) Q E s := by
  show wpAny _ _ (field (.ref z) 2 >>= _) _ _ _
  refine wpAny_bind (wpAny_field hz rfl (x := .bool true) rfl ?_)
  show wpAny _ _ (field (.ref z) 3 >>= _) _ _ _
  refine wpAny_bind (wpAny_field hz rfl (x := .ref TI) rfl ?_)
  refine wpAny_bind (wpAny_seqItems hTI rfl ?_)
  show wpAny _ _ (Builtin.SmallTypes.ownedTupleIsFree (.ref z) >>= _) _ _ _
  refine wpAny_bind ?_
  unfold Builtin.SmallTypes.ownedTupleIsFree
  refine wpAny_bind (wpAny_field hz rfl (x := .none) rfl (wpAny_pure ?_))
  simp only [if_true]
  refine wpAny_bind (wpAny_rule ?_)
  refine wpAny_bind (wpAny_field hz rfl (x := .ref TO) rfl ?_)
  refine wpAny_bind (wpAny_setField_rec hz (by simp) fun h₁ hz₁ hs₁ => ?_)
  replace hz₁ : IsZs h₁ z TI TO .ellipsis := hz₁
  refine wpAny_bind ?_
  simp only [List.zipIdx_cons, List.zipIdx_nil, List.forIn_cons, List.forIn_nil]
  refine wpAny_bind (wpAny_bind (wpAny_onRaise ?_))
  show wpAny _ _ (Builtin.SmallTypes.nextOrEnd (.ref i1)) _ _ _
  refine (nextOrEnd_end hh (h1.extBut hs₁.extBut D.i1z) (hl1.extBut hs₁.extBut D.l1z) hx fun h₂ hs₂ => ?_)
  have hz₂ : IsZs h₂ z TI TO .ellipsis := hs₂ _ _ D.i1z.symm hz₁
  refine wpAny_bind (wpAny_setField_rec hz₂ (by simp) fun h₃ _ hs₃ => wpAny_bind ?_)
  show wpAny _ _ (forIn [((Value.ref i2), 1)] _ _ >>= _) _ _ _
  refine wpAny_bind ?_
  simp only [List.forIn_cons, List.forIn_nil]
  refine wpAny_bind (wpAny_bind ?_)
  refine (nextOrEnd_end (l := l2) (i := k2) (items := ys) hh ?_ ?_ hy fun h₄ hs₄ => ?_)
  · exact ((h2.extBut hs₁.extBut D.i2z).at fun o e => hs₂ _ _ D.i12.symm e).extBut hs₃.extBut D.i2z
  · exact ((hl2.extBut hs₁.extBut D.l2z).at fun o e => hs₂ _ _ D.l2i1 e).extBut hs₃.extBut D.l2z
  refine wpAny_ite_false (by decide) (wpAny_pure (wpAny_pure ?_))
  refine wpAny_bind (wpAny_rule ?_)
  exact stop_raise hh fun h₅ e hs₅ he => hE h₅ e (fun c o c1 c2 c3 c4 x => hs₅ _ _ (hs₄ _ _ c4 (hs₃.extBut _ _ c1 (hs₂ _ _ c3 (hs₁.extBut _ _ c1 x))))) he
theorem next_item {z TI TO i1 i2 l1 l2 : Addr} {k1 k2 : Nat} {xs ys : Array Value} {x y a b : Value} {Q : Option Value → Shared → Prop} (D : ZipApart z TI TO i1 i2 l1 l2)
    (hz : IsZs s.heap z TI TO .none) (hTI : IsPair s.heap TI (.ref i1) (.ref i2)) (hTO : IsPair s.heap TO a b)
    (h1 : s.heap.IsTupleIter i1 l1 k1) (h2 : s.heap.IsTupleIter i2 l2 k2) (hl1 : s.heap.IsTuple l1 xs) (hl2 : s.heap.IsTuple l2 ys) (hx : xs[k1]? = some x) (hy : ys[k2]? = some y)
    (hQ : ∀ h', IsZs h' z TI TO (rawInt s.heap.objs.size) → IsPair h' TO x y → h'.IsTupleIter i1 l1 (k1 + 1) → h'.IsTupleIter i2 l2 (k2 + 1) → IsPair h' s.heap.objs.size x y → h'.objs.size = s.heap.objs.size + 1 →
      (∀ c o, c ≠ z → c ≠ TO → c ≠ i1 → c ≠ i2 → s.heap.get? c = some o → h'.get? c = some o) → Q (some (.ref s.heap.objs.size)) { s with heap := h' }) :
    wpAny (model prog w) A (pyNext (.ref z)) Q E s := by
  have hT : s.TypeIs (.ref z) "zip" := ⟨_, hz, rfl⟩
  unfold pyNext
  exact wpAny_bind (wpAny_attempt (wpAny_callSpecial?_slot (name := Str.ofString "__next__") hT F.slot_zip_next
    (wpAny_call_entry F.slot_zip_next hT F.entry_zip_next
      (zs_item D hz hTI hTO h1 h2 hl1 hl2 hx hy fun h' a1 a2 a3 a4 a5 a6 a7 => wpAny_pure (hQ h' a1 a2 a3 a4 a5 a6 a7)) (F.args_zip_next_1 _))))
theorem next_end {z TI TO i1 i2 l1 l2 : Addr} {k1 k2 : Nat} {xs ys : Array Value} {a b : Value} {Q : Option Value → Shared → Prop} (hh : A.handled = none) (D : ZipApart z TI TO i1 i2 l1 l2)
    (hz : IsZs s.heap z TI TO .none) (hTI : IsPair s.heap TI (.ref i1) (.ref i2)) (hTO : IsPair s.heap TO a b)
    (h1 : s.heap.IsTupleIter i1 l1 k1) (h2 : s.heap.IsTupleIter i2 l2 k2) (hl1 : s.heap.IsTuple l1 xs) (hl2 : s.heap.IsTuple l2 ys) (hx : xs[k1]? = none) (hy : ys[k2]? = none)
    (hQ : ∀ h', (∀ c o, c ≠ z → c ≠ TO → c ≠ i1 → c ≠ i2 → s.heap.get? c = some o → h'.get? c = some o) → Q none { s with heap := h' }) : wpAny (model prog w) A (pyNext (.ref z)) Q E s := by
  have hT : s.TypeIs (.ref z) "zip" := ⟨_, hz, rfl⟩
  unfold pyNext
  refine wpAny_bind (wpAny_attempt (wpAny_callSpecial?_slot (name := Str.ofString "__next__") hT F.slot_zip_next
    (wpAny_call_entry F.slot_zip_next hT F.entry_zip_next (zs_end hh D hz hTI hTO h1 h2 hl1 hl2 hx hy fun h' e hk he => ?_) (F.args_zip_next_1 _))))
  obtain ⟨o, ho, hc⟩ := he
  refine wpAny_bind (wpAny_isInstance (T := "StopIteration") (b := true) ⟨o, ho, hc⟩ isSubtype_stop ?_)
  exact wpAny_pure (hQ _ hk)
theorem letgo {elts : List Expr} {x1} {pos : Pos} {z TI TO T : Addr} {Q : Unit → Shared → Prop} (hz : IsZs s.heap z TI TO (rawInt T))
    (hQ : ∀ h', IsZs h' z TI TO .none → Heap.SameBut z s.heap h' → Q () { s with heap := h' }) :
    wpAny (model prog w) A (letOwnedTupleGo (.Tuple elts x1 pos) (.ref z) (.ref T)) Q E s := by
  unfold letOwnedTupleGo
  refine wpAny_bind (wpAny_load hz ?_)
  show wpAny _ _ (if (["enumerate", "zip", "dict_itemiterator", "dict_reverseitemiterator", "odict_iterator", "itertools.zip_longest", "itertools.pairwise"].contains "zip" &&
      (#[rawInt T, .bool false, .bool true, .ref TI, .ref TO] : Array Value)[0]? == some (rawInt T)) = true then _ else _) Q E s
  rw [if_pos (by simp)]
  refine wpAny_bind (wpAny_rule ?_)
  show wpAny _ _ (setField (.ref z) 0 .none) Q E s
  exact wpAny_setField_rec hz (by simp) fun h' hz' hs' => hQ h' hz' hs'
theorem iter_zs {z TI TO : Addr} {f0 : Value} {Q : Value → Shared → Prop} (hz : IsZs s.heap z TI TO f0) (h : Q (.ref z) s) : wpAny (model prog w) A (pyIter (.ref z)) Q E s := by
  have hT : s.TypeIs (.ref z) "zip" := ⟨_, hz, rfl⟩
  refine wpAny_pyIter_slot hT F.slot_zip_iter (wpAny_call_entry F.slot_zip_iter hT F.entry_zip_iter ?_ (F.args_zip_iter_1 _))
  show wpAny _ _ (ret (.ref z)) _ _ s
  exact wpAny_pure ⟨_, rfl, "zip", _, hT, F.slot_zip_next.lookup, h⟩
end
abbrev zsH5 (h : Heap) (l1 l2 : Addr) : Heap := (zipTH4 h l1 l2).push { cls := .type "zip", data := .fields #[.none, .bool false, .bool true, .ref (zipTH2 h l1 l2).objs.size, .ref (zipTH3 h l1 l2).objs.size] }
theorem meets_zs (l1 l2 : Addr) (xs ys : Array Value) :
    Meets (Builtin.«zip.__new__» ⟨[.type "zip", .ref l1, .ref l2], [(Str.ofString "strict", .bool true)]⟩) (fun _ R s => s.heap.IsTuple l1 xs ∧ s.heap.IsTuple l2 ys ∧
      R (.ok (.ret (.ref (zipTH4 s.heap l1 l2).objs.size))) { s with heap := zsH5 s.heap l1 l2 }) :=
  .of_wp fun prog w A R s h => by
    obtain ⟨hp, g, d, tk, os⟩ := s; obtain ⟨hl1, hl2, h⟩ := h
    have hsub := sub_zip
    have hL1 : Heap.IsTuple (Shared.heap ⟨hp, g, d, tk, os⟩) l1 xs := hl1
    have hL2 : Heap.IsTuple (Shared.heap ⟨hp.push { cls := .type "tuple_iterator", data := .fields #[.ref l1, .int 0 0] }, g, d, tk, os⟩) l2 ys := Heap.IsTuple.push hl2 _
    have e2 : (Str.ofString "strict" != ("strict" : Str)) = false := by decide +kernel
    wp_walk using wpAny_pyIter_tuple hL1, wpAny_pyIter_tuple hL2
    exact ⟨_, rfl, h⟩
end R2z
/-! ## R3 -/
set_option Elab.async false
set_option linter.all false
set_option maxRecDepth 100000
set_option maxHeartbeats 4000000
namespace R2z
open PySem PySem.Spec PyProof.Rows L2 RZ
open PySem.Sem (wp)
theorem typeCall_zs (a b c : Value) : checkTypeCall "zip" ⟨[a, b], [(Str.ofString "strict", c)]⟩ = pure () := by kernel_rfl
theorem newCall_zs (a b c : Value) : checkBuiltinCall "zip.__new__" ⟨[.type "zip", a, b], [(Str.ofString "strict", c)]⟩ = pure () := by kernel_rfl
theorem args_zs (obj a b c : Value) : argsOk "object.__init__" ⟨[obj, a, b], [(Str.ofString "strict", c)]⟩ := by unfold argsOk; kernel_rfl
section
variable {prog : Program} {w : World} {A : Around} {E : Value → Shared → Prop} {s : Shared}
theorem call_zs {l1 l2 : Addr} {xs ys : Array Value} {Q : Value → Shared → Prop} (hl1 : s.heap.IsTuple l1 xs) (hl2 : s.heap.IsTuple l2 ys)
    (h : ∀ h', IsZs h' (s.heap.objs.size + 4) (s.heap.objs.size + 2) (s.heap.objs.size + 3) .none → IsPair h' (s.heap.objs.size + 2) (.ref s.heap.objs.size) (.ref (s.heap.objs.size + 1)) →
      IsPair h' (s.heap.objs.size + 3) .none .none → h'.IsTupleIter s.heap.objs.size l1 0 → h'.IsTupleIter (s.heap.objs.size + 1) l2 0 → h'.objs.size = s.heap.objs.size + 5 →
      (∀ c o, s.heap.get? c = some o → h'.get? c = some o) → Q (.ref (s.heap.objs.size + 4)) { s with heap := h' }) :
    wpAny (model prog w) A (call (.type "zip") [.ref l1, .ref l2] [(Str.ofString "strict", .bool true)]) Q E s := by
  refine callType_newKw F.called_zip (by decide) (typeCall_zs _ _ _) (newCall_zs _ _ _) (fun obj => args_zs obj _ _ _) F.entry_zip_new
    (meets_zs l1 l2 xs ys) ⟨hl1, hl2, ?_⟩
  have z1 : (zipTH1 s.heap l1).objs.size = s.heap.objs.size + 1 := Heap.size_push ..
  have z2 : (zipTH2 s.heap l1 l2).objs.size = s.heap.objs.size + 2 := by rw [Heap.size_push, z1]
  have z3 : (zipTH3 s.heap l1 l2).objs.size = s.heap.objs.size + 3 := by rw [Heap.size_push, z2]
  have z4 : (zipTH4 s.heap l1 l2).objs.size = s.heap.objs.size + 4 := by rw [Heap.size_push, z3]
  have z5 : (zsH5 s.heap l1 l2).objs.size = s.heap.objs.size + 5 := by rw [Heap.size_push, z4]
  have g5 : (zsH5 s.heap l1 l2).get? (zipTH4 s.heap l1 l2).objs.size = some _ := Heap.get?_push_size _ rfl
  have g4 : (zsH5 s.heap l1 l2).get? (zipTH3 s.heap l1 l2).objs.size = some _ := Heap.get?_push_of_some _ (Heap.get?_push_size _ rfl)
  have g3 : (zsH5 s.heap l1 l2).get? (zipTH2 s.heap l1 l2).objs.size = some _ := Heap.get?_push_of_some _ (Heap.get?_push_of_some _ (Heap.get?_push_size _ rfl))
  have g2 : (zsH5 s.heap l1 l2).get? (zipTH1 s.heap l1).objs.size = some _ := Heap.get?_push_of_some _ (Heap.get?_push_of_some _ (Heap.get?_push_of_some _ (Heap.get?_push_size _ rfl)))
  have g1 : (zsH5 s.heap l1 l2).get? s.heap.objs.size = some _ := Heap.get?_push_of_some _ (Heap.get?_push_of_some _ (Heap.get?_push_of_some _ (Heap.get?_push_of_some _ (Heap.get?_push_size _ rfl))))
  show _ ∧ _
  rw [z2, z3, z4] at g5
  rw [z1, z2] at g3
  rw [z3] at g4
  rw [z1] at g2
  rw [z4]
  exact ⟨⟨_, g5, rfl⟩, h _ g5 g3 g4 ⟨_, g1, rfl, rfl⟩ ⟨_, g2, rfl, rfl⟩ z5 fun c o x =>
    Heap.get?_push_of_some _ (Heap.get?_push_of_some _ (Heap.get?_push_of_some _ (Heap.get?_push_of_some _ (Heap.get?_push_of_some _ x))))⟩
end
/-- two tuples of n items each: the items in new pairs -/
def ItzS (K : PySem.W.Frag) (a b : Addr) (xs ys : List V) : It :=
  ⟨fun i H => SqT K H a xs ∧ SqT K H b ys ∧ i < xs.length ∧ xs.length = ys.length,
    fun i H v H' => ∃ T x y, v = .ref T ∧ H T = none ∧ H' = upd H T (.tup [x, y]) ∧ xs[i]? = some x ∧ ys[i]? = some y,
    fun i H => SqT K H a xs ∧ SqT K H b ys ∧ xs.length ≤ i ∧ xs.length = ys.length⟩
theorem turn_zs {P : Program} {w : World} {K : PySem.W.Frag} {elts : List Expr} {kk : Nat} {tpos : Pos} {a b z TI TO i1 i2 : Addr} (xs ys : List V) (D : ZipApart z TI TO i1 i2 a b) :
    Turn P w K (.Tuple elts kk tpos) (ItzS K a b xs ys) [z, TI, TO, i1, i2] z (fun i h => IsZs h z TI TO .none ∧ IsPair h TI (.ref i1) (.ref i2) ∧ (∃ x y, IsPair h TO x y) ∧ h.IsTupleIter i1 a i ∧ h.IsTupleIter i2 b i) where
  mem := by simp
  obj := fun i h st c hc => by
    obtain ⟨hz, hTI, ⟨x, y, hTO⟩, ⟨o1, e1, _, d1⟩, ⟨o2, e2, _, d2⟩⟩ := st
    have e' : c = z ∨ c = TI ∨ c = TO ∨ c = i1 ∨ c = i2 := by simpa using hc
    rcases e' with q | q | q | q | q
    · rw [q]; exact ⟨_, hz, fun v q => nomatch q⟩
    · rw [q]; exact ⟨_, hTI, fun v q => nomatch q⟩
    · rw [q]; exact ⟨_, hTO, fun v q => nomatch q⟩
    · rw [q]; exact ⟨o1, e1, fun v q => by rw [d1] at q; cases q⟩
    · rw [q]; exact ⟨o2, e2, fun v q => by rw [d2] at q; cases q⟩
  keep := fun i h h' st k => by
    obtain ⟨hz, hTI, ⟨x, y, hTO⟩, h1, h2⟩ := st
    exact ⟨k z (by simp) _ hz, k TI (by simp) _ hTI, ⟨x, y, k TO (by simp) _ hTO⟩, h1.at fun o q => k i1 (by simp) o q, h2.at fun o q => k i2 (by simp) o q⟩
  item := by
    intro X hP hw hK hc i pins s σ H E I hf st hg
    subst hP hw hK
    obtain ⟨hz, hTI, ⟨x0, y0, hTO⟩, h1, h2⟩ := st
    obtain ⟨hqx, hqy, hi, hlen⟩ := hg
    have hx : xs[i]? = some xs[i] := List.getElem?_eq_getElem hi
    have hi2 : i < ys.length := by omega
    have hy : ys[i]? = some ys[i] := List.getElem?_eq_getElem hi2
    generalize xs[i] = x at hx
    generalize ys[i] = y at hy
    obtain ⟨its, rv, p, _⟩ := I.tuple hqx
    obtain ⟨its2, rv2, p2, _⟩ := I.tuple hqy
    obtain ⟨u, hu, ru⟩ := rv.get hx
    obtain ⟨u2, hu2, ru2⟩ := rv2.get hy
    have hzl : z < s.heap.objs.size := Heap.lt_size hz
    refine next_item D hz hTI hTO h1 h2 p p2 (x := u) (y := u2) (by simpa using hu) (by simpa using hu2) fun h' z' TO' h1' h2' hT hsz hk => ?_
    refine ⟨_, rfl, letgo (s := { s with heap := h' }) z' fun h'' z'' sb => ?_⟩
    have hT2 : h''.get? s.heap.objs.size = some { cls := .type "tuple", data := .seq #[u, u2] } := (sb.2 _ (Nat.ne_of_gt hzl)).trans hT
    have new : ObjOk X.prog X.w (upd H s.heap.objs.size (.tup [x, y])) h'' s.heap.objs.size (.tup [x, y]) :=
      ⟨by show 2 ≤ sizeLine; decide, [u, u2], .cons ru (.cons ru2 .nil), ⟨_, hT2, rfl, _, rfl⟩⟩
    have I1 : Inv X pins σ (upd H s.heap.objs.size (.tup [x, y])) { s with heap := h'' } :=
      I.turnedNew (t' := s.toks) (ch := [z, TI, TO, i1, i2]) (fun c o hb q => (sb.2 c (fun q' => hb (by simp [q']))).trans (hk c o (fun q' => hb (by simp [q'])) (fun q' => hb (by simp [q'])) (fun q' => hb (by simp [q'])) (fun q' => hb (by simp [q'])) q)) hf (Nat.le_refl _) new
    refine ⟨.ref s.heap.objs.size, _, I1, rfl, ⟨_, x, y, rfl, I.hok.fresh (Nat.le_refl _), rfl, hx, hy⟩, ⟨z'', ?_, ⟨u, u2, ?_⟩, ?_, ?_⟩, fun c hcm => ?_⟩
    · exact (sb.2 _ D.TIz).trans (hk _ _ D.TIz D.TITO D.TIi1 D.TIi2 hTI)
    · exact (sb.2 _ D.TOz).trans TO'
    · exact h1'.at fun o q => (sb.2 _ D.i1z).trans q
    · exact h2'.at fun o q => (sb.2 _ D.i2z).trans q
    · have hlt : c < s.heap.objs.size := by
        have e' : c = z ∨ c = TI ∨ c = TO ∨ c = i1 ∨ c = i2 := by simpa using hcm
        rcases e' with q | q | q | q | q
        · rw [q]; exact hzl
        · rw [q]; exact Heap.lt_size hTI
        · rw [q]; exact Heap.lt_size hTO
        · rw [q]; obtain ⟨_, e1, _⟩ := h1; exact Heap.lt_size e1
        · rw [q]; obtain ⟨_, e2, _⟩ := h2; exact Heap.lt_size e2
      rw [upd_ne (Nat.ne_of_lt hlt)]
      exact (hf c hcm).1
  done := by
    intro X hP hw hK hc i pins s σ H E I hf st hg
    subst hP hw hK
    obtain ⟨hz, hTI, ⟨x0, y0, hTO⟩, h1, h2⟩ := st
    obtain ⟨hqx, hqy, hend, hlen⟩ := hg
    obtain ⟨its, rv, p, _⟩ := I.tuple hqx
    obtain ⟨its2, rv2, p2, _⟩ := I.tuple hqy
    have l1 := rv.length
    have l2 := rv2.length
    exact next_end (I.ok.hd hc) D hz hTI hTO h1 h2 p p2 (by simp; omega) (by simp; omega) fun h' hk => ⟨rfl, I.turnedL (t' := s.toks) (ch := [z, TI, TO, i1, i2]) (fun c o hb q =>
      hk c o (fun q' => hb (by simp [q'])) (fun q' => hb (by simp [q'])) (fun q' => hb (by simp [q'])) (fun q' => hb (by simp [q'])) q) hf⟩
  self := fun A i s Q E st h => iter_zs st.1 h
section
variable {M : Model} {A : Around} {E : Value → Shared → Prop} {s : Shared} {env : Env}
theorem callWith_typeKw {pos : Pos} {T : String} {first : List Value} {args : List (Bool × Sem Value)} {keywords : List (Option Str × Sem Value)} {Q : Value → Shared → Prop}
    (hplain : args.any (·.1) = false) (hkw : keywords.any (·.1.isNone) = false)
    (h : wpAny M A (evalArgs (.type T) true args keywords) (fun a s₁ => wpAny M A (call (.type T) (first ++ a.pos) a.kw) Q E s₁) E s) :
    wpAny M A (callWith pos (.type T) first args keywords) Q E s := by
  unfold callWith
  refine wpAny_bind (wpAny_holding (wpAny_mono h (fun a s₁ h₁ => wpAny_bind (wpAny_standAt ?_)) fun _ _ x => x))
  simp only [hplain, hkw, Bool.or_false]
  refine wpAny_bind (wpAny_pure ?_)
  exact wpAny_bind (wpAny_mono h₁ (fun r s₂ hr => wpAny_bind (wpAny_holding (wpAny_point (wpAny_pure hr)))) fun _ _ x => x)
end
def iZs (K : PySem.W.Frag) (ta : TA) : TI := fun σ H R => ta σ H fun vs H1 => ∃ a b xs ys, vs = [.ref a, .ref b] ∧ SqT K H1 a xs ∧ SqT K H1 b ys ∧ R (ItzS K a b xs ys) H1
theorem pi_zipS {X : Cx} {e e2 : Expr} {ta : TA} {p pos tpos p1 p2 : Pos} {elts : List Expr} {kk j : Nat} (hg : Gl X "zip") (hm : X.mg "zip" = none) (ha : PA X [e, e2] ta)
    (hs : starEach [e, e2] X.env = (false, eval e X.env) :: starEach [e2] X.env := by rfl) (hpl : (backTo pos (starEach [e, e2] X.env)).any (·.1) = false := by rfl) :
    PI X (.Tuple elts kk tpos) (.Call (.Name "zip" p) [e, e2] [⟨some "strict", .Constant (.bool true) j p1, p2⟩] pos) (iZs X.K ta) := by
  refine ⟨fun pins s σ H R I h => ?_⟩
  refine wpAny_Call_Name_kw (ld_blt I hg hm PyProof.Rows.boot_zip ?_)
  refine callWith_typeKw hpl rfl ?_
  have ha' := ha.run pos pins s σ H _ I h
  rw [hs] at ha' ⊢
  refine evalArgs_kwB rfl (thn ha' fun us s1 ⟨vs, H1, I1, r1, q1⟩ => ?_)
  refine kws_cons (PySem.wpAny_Constant_bool (kws_nil ?_))
  obtain ⟨a, b, xs, ys, ex, hqx, hqy, q⟩ := q1
  subst ex
  cases r1 with
  | cons r rr =>
    cases rr with
    | cons r' rr =>
      cases rr
      cases r
      cases r'
      have fresh5 : ∀ c, c ∈ [s1.heap.objs.size + 4, s1.heap.objs.size + 2, s1.heap.objs.size + 3, s1.heap.objs.size, s1.heap.objs.size + 1] → FpOk X pins H1 c := fun c hcm => by
        have e' : c = s1.heap.objs.size + 4 ∨ c = s1.heap.objs.size + 2 ∨ c = s1.heap.objs.size + 3 ∨ c = s1.heap.objs.size ∨ c = s1.heap.objs.size + 1 := by simpa using hcm
        have hle : s1.heap.objs.size ≤ c := by
          rcases e' with z | z | z | z | z
          · rw [z]; exact Nat.le_add_right _ _
          · rw [z]; exact Nat.le_add_right _ _
          · rw [z]; exact Nat.le_add_right _ _
          · rw [z]; exact Nat.le_refl _
          · rw [z]; exact Nat.le_add_right _ _
        exact I1.fpOk hle (I1.hok.fresh hle)
      obtain ⟨its, rv, p1, _⟩ := I1.tuple hqx
      obtain ⟨its2, rv2, p2, _⟩ := I1.tuple hqy
      obtain ⟨o1, ho1, _⟩ := id p1
      obtain ⟨o2, ho2, _⟩ := id p2
      refine call_zs (show s1.heap.IsTuple a its.toArray from p1) (show s1.heap.IsTuple b its2.toArray from p2) fun h' hz hTI hTO h1 h2 hsz hk => iter_zs hz ?_
      have I2 : Inv X pins σ H1 { s1 with heap := h' } := I1.kept (t' := s1.toks) hk
      exact ⟨s1.heap.objs.size + 4, [s1.heap.objs.size + 4, s1.heap.objs.size + 2, s1.heap.objs.size + 3, s1.heap.objs.size, s1.heap.objs.size + 1], _, _, H1, rfl, I2, turn_zs xs ys (PySem.W.ktu_apart s1.heap.objs.size a b (Heap.lt_size ho1) (Heap.lt_size ho2)), ⟨hz, hTI, ⟨_, _, hTO⟩, h1, h2⟩, fresh5, q⟩
end R2z
/-! ## R4 -/
set_option Elab.async false
set_option linter.all false
set_option maxRecDepth 100000
set_option maxHeartbeats 4000000
/-! sorted(xs, key=lambda one: one[0]) of tuples -/
namespace R4
open PySem PySem.Spec PyProof.Rows L2 LamX
def allOf (h : Heap) (L : Addr) : List (Addr × Obj) := (List.range h.objs.size).filterMap fun b => if b = L then none else (h.get? b).map fun o => (b, o)
theorem allOf_mem {h : Heap} {L b : Addr} {o : Obj} : (b, o) ∈ allOf h L ↔ b ≠ L ∧ h.get? b = some o := by
  unfold allOf
  rw [List.mem_filterMap]
  constructor
  · rintro ⟨c, hc, e⟩
    split at e
    · cases e
    · rename_i hne
      obtain ⟨u, hu, e2⟩ := Option.map_eq_some_iff.mp e
      cases e2
      exact ⟨hne, hu⟩
  · rintro ⟨hne, e⟩
    exact ⟨b, List.mem_range.mpr (Heap.lt_size e), by rw [if_neg hne, e]; rfl⟩
def hE : Heap := {}
theorem hE_none (a : Addr) : hE.get? a = none := by
  rfl
/-- the names of lambda one: one[0] -/
structure LamOne (sc : Scope) (params : Arguments) : Prop where
  kind : sc.kind = .function
  co : sc.isCoroutine = false
  gen : sc.isGenerator = false
  noc : ∀ y ∈ sc.names, y.2 ≠ .cell
  nof : ∀ y ∈ sc.names, y.2 ≠ .free
  loc : sc.names.lookup ("one" : Str) = some .local
  bind : ∀ (q : Str) (cl : List (Str × Addr)) (pm cv ctv v : Value) (b : Expr), bindArgs (PySem.W.kla_fn "<lambda>" q params b sc cl pm cv ctv) ⟨[v], []⟩ = pure [(("one" : Str), v)]
section
variable {prog : Program} {w : World} {A : Around} {s : Shared}
/-- the lambda called -/
theorem call_one {q : Str} {params : Arguments} {scope : Scope} {cl : List (Str × Addr)} {pm ctv : Value} {c' f t : Addr} {n : Int} {tk : Tok} {items : Array Value} {p1 p2 p3 : Pos} {j : Nat} {Q : Value → Shared → Prop} {E : Value → Shared → Prop}
    (LO : LamOne scope params) (hd : A.depth < recursionLimit) (hf : s.heap.get? f = some (PySem.W.kla_obj "<lambda>" q params (.Subscript (.Name "one" p1) (.Constant (.int 0) j p2) p3) scope cl pm c' ctv)) (hc : s.heap.CodeRec (.ref c') q) (nl : s.heap.NoLimit)
    (ht : IsTup s.heap t items) (h0 : items[0]? = some (.int n tk)) (h : ∀ h' tk', Heap.ExtBut s.heap.objs.size s.heap h' → Q (.int n tk) { s with heap := h', toks := tk' }) :
    wpAny (model prog w) A (call (.ref f) [.ref t]) Q E s := by
  refine wpAny_call ?_
  refine PySem.W.kla_callFunE hd hf rfl LO.co LO.gen rfl hc ?_
  show wpAny _ _ (bindArgs (PySem.W.kla_fn "<lambda>" q params _ scope cl pm (.ref c') ctv) ⟨[.ref t], []⟩) _ _ _
  rw [LO.bind]
  refine wpAny_pure (wpAny_newFunctionEnv LO.noc (fun y hy => ?_) (fun h₁ hns hsb => ⟨nl.fresh _ hsb, ?_⟩) LO.kind)
  · have e : y = (("one" : Str), Value.ref t) := by simpa using hy
    subst e
    exact LO.loc
  · have kp : ∀ b o, s.heap.get? b = some o → h₁.get? b = some o := fun b o e => hsb.extBut b o (Nat.ne_of_lt (Heap.lt_size e)) (Heap.get?_push_of_some _ e)
    refine PySem.W.kla_codeExpr ?_
    refine Subscript_ ?_
    refine wpAny_Name (wpAny_loadName_local LO.kind LO.loc hns (v := .ref t) (by first | rfl | simp) ?_) (by decide)
    refine wpAny_Constant_int ?_
    have htl : IsTup h₁ t items := ht.keeps kp
    have hsz : 0 < items.size := (Array.getElem?_eq_some_iff.mp h0).1
    refine subscriptTail_builtinR (x := .int n tk) htl.typeIs slot_tuple_getitem.lookup (getItem_tuple (j := 0) htl (by decide) (by decide) ?_ h0 ⟨rfl, ?_⟩) rfl
    · exact seqIndex_of (by decide) (by simpa using hsz)
    · exact h _ _ fun b o hb e => kp b o e
end
/-- what the making of a lambda does to what is tracked: nothing, or a new code object that its maker's table at P tells from now on -/
def LamNew (P : Addr) (q : Str) (H H2 : Hp) (c' : Addr) : Prop :=
  (H2 = H ∧ H c' = some (CodeO c' q)) ∨ ∃ ps ps' : Array Value, H c' = none ∧ H P = some (.tbl ps) ∧ H2 = upd (upd H P (.tbl ps')) c' (CodeO c' q) ∧ TriplesOk ps'.toList ∧ ∀ (pos : Pos) (cv : Value), codeAmong pos ps'.toList = some cv → codeAmong pos ps.toList = some cv ∨ cv = .ref c'
theorem LamNew.co {P : Addr} {q : Str} {H H2 : Hp} {c' : Addr} (h : LamNew P q H H2 c') : H2 c' = some (CodeO c' q) := by
  rcases h with ⟨rfl, h⟩ | ⟨ps, ps', _, _, rfl, _⟩
  · exact h
  · exact upd_same
theorem LamNew.ext {P : Addr} {q : Str} {H H2 : Hp} {c' : Addr} (h : LamNew P q H H2 c') {b : Addr} {o : HO} (e : H b = some o) (n : ∀ ps, o ≠ .tbl ps) : H2 b = some o := by
  rcases h with ⟨rfl, _⟩ | ⟨ps, ps', h1, h2, rfl, _⟩
  · exact e
  · rw [upd_ne (ne_of_none e h1), upd_ne (fun z => by rw [z, h2] at e; cases e; exact n ps rfl)]
    exact e
section
variable {X : Cx} {pins : List (Addr × Obj)} {σ : L2.St} {H : Hp} {s : Shared}
theorem lam_make3 {c P : Addr} {params : Arguments} {body : Expr} {scope : Scope} {pos : Pos} {E : Value → Shared → Prop} {Q : Value → Shared → Prop} (I : Inv X pins σ H s) (TB : TabB X.base X.mg c P) (hcode : X.env.code = .ref c)
    (hT : TabS H P (X.env.qual ++ "<lambda>")) (hdef : defaultsOf params X.env = ([], [])) (hfree : ∀ y ∈ scope.names, y.2 = .free → ∃ c, X.env.cells.lookup y.1 = some c)
    (h : ∀ (f c' : Addr) (pm ctv : Value) (H1 : Hp) (s' : Shared), Inv X pins σ H1 s' → LamNew P (X.env.qual ++ "<lambda>") H H1 c' →
      s'.heap.get? f = some (PySem.W.kla_obj "<lambda>" (X.env.qual ++ "<lambda>") params body scope (cloFrom X.env.cells scope.names []) pm c' ctv) → H1 f = none → f ∉ frs X.stack → Q (.ref f) s') :
    wpAny (model X.prog X.w) X.A (eval (.Lambda params body scope pos) X.env) Q E s := by
  obtain ⟨ps, hP, ht, ha⟩ := hT
  refine PySem.W.kla_eval hdef ?_
  have bP : s.heap.BuiltinsAt X.mg P := TB.bm.keeps I.bk
  have hP' : s.heap.get? P = some { cls := .none, data := .fields ps } := I.hok P _ hP
  have nofr : ∀ f, s.heap.objs.size ≤ f → f ∉ frs X.stack := fun f hf z => by
    rcases List.mem_cons.mp (I.stkSub _ z) with e | e
    · have h1 := I.lt
      rw [← e] at h1
      exact Nat.lt_irrefl _ (Nat.lt_of_lt_of_le h1 hf)
    · exact I.nofs hf e
  cases hc : codeAmong pos ps.toList with
  | none =>
    refine PySem.W.kla_makeFunction (mg := X.mg) (c := c) (P := P) (ps := ps) (closure_ok hfree) I.ok.glob (I.mod.glob.keeps I.bk) hcode (TB.code.keeps I.bk) hP' ht hc TB.gP bP fun c' ctv h' tk hx hge hlt hrec htb => ?_
    obtain ⟨c2, oc, vs, t, e2, hoc, hd, hv⟩ := hrec
    cases e2
    have hsz : s.heap.objs.size ≤ h'.objs.size := Nat.le_trans hge (Nat.le_of_lt hlt)
    have nC : H c' = none := I.hok.fresh hge
    have I1 := inv_table (t' := tk) (more := #[rawInt pos.line, rawInt pos.col, .ref c']) (h' := h'.push (PySem.W.kla_obj "<lambda>" (X.env.qual ++ "<lambda>") params body scope (cloFrom X.env.cells scope.names []) ((X.mg "__name__").getD .none) c' ctv)) I hP
      (fun b o hb e => Heap.get?_push_of_some _ (hx b o hb e)) (Heap.get?_push_of_some _ htb) hge ⟨oc, vs, t, Heap.get?_push_of_some _ hoc, hd, hv⟩
    have eL : (ps ++ #[rawInt pos.line, rawInt pos.col, .ref c']).toList = ps.toList ++ [rawInt pos.line, rawInt pos.col, .ref c'] := by simp
    refine h h'.objs.size c' ((X.mg "__name__").getD .none) ctv _ _ I1 (.inr ⟨ps, _, nC, hP, rfl, by rw [eL]; exact PySem.TriplesOk_snoc _ _ _ _ ht, fun p' cv hcv => by rw [eL] at hcv; exact among_app _ ht hcv⟩) (Heap.get?_push_size _ rfl) ?_ (nofr _ hsz)
    · have n1 : h'.objs.size ≠ c' := Nat.ne_of_gt hlt
      have n2 : h'.objs.size ≠ P := Nat.ne_of_gt (Nat.lt_of_lt_of_le (Heap.lt_size hP') hsz)
      rw [upd_ne n1, upd_ne n2]
      exact I.hok.fresh hsz
  | some cv =>
    obtain ⟨c', e, hco⟩ := ha pos cv hc
    subst e
    refine PySem.W.kla_makeFunctionHit (mg := X.mg) (c := c) (P := P) (ps := ps) (closure_ok hfree) I.ok.glob (I.mod.glob.keeps I.bk) hcode (TB.code.keeps I.bk) hP' ht hc bP fun ctv h' tk hx hsz => ?_
    have I1 : Inv X pins σ H { s with heap := h'.push (PySem.W.kla_obj "<lambda>" (X.env.qual ++ "<lambda>") params body scope (cloFrom X.env.cells scope.names []) ((X.mg "__name__").getD .none) c' ctv), toks := tk } := I.kept fun b o e => Heap.get?_push_of_some _ (hx b o e)
    exact h h'.objs.size c' ((X.mg "__name__").getD .none) ctv H _ I1 (.inl ⟨rfl, hco⟩) (Heap.get?_push_size _ rfl) (I.hok.fresh hsz) (nofr _ hsz)
end
section
variable {X : Cx} {pins : List (Addr × Obj)} {σ : L2.St} {H : Hp} {s : Shared}
/-- all but the frame's own namespace is kept, a new list at D -/
theorem inv_sorted {D : Addr} {ys : List V} {its : List Value} {n t' : Nat} {h' : Heap} {m : Str → Option Value} (I : Inv X pins σ H s) (hm : s.heap.Ns X.env.locals m) (hn : h'.Ns X.env.locals m)
    (k : ∀ b o, b ≠ X.env.locals → s.heap.get? b = some o → h'.get? b = some o) (hD : H D = none) (ho : h'.get? D = some { cls := .type "list", data := .seq its.toArray n }) (r : Vals ys its) (hz : ys.length ≤ sizeLine) (hs : s.heap.get? D = none) :
    Inv X pins σ (upd H D (.lst ys)) { s with heap := h', toks := t' } := by
  have nL : ∀ b u, H b = some u → b ≠ X.env.locals := fun b u e z => by rw [z, I.free] at e; cases e
  have neD : ∀ b u, H b = some u → b ≠ D := fun b u e => ne_of_none e hD
  refine I.step (g' := s.gens) (d' := s.drawn) (ch := []) (fun b hb => absurd hb (by simp)) (fun b o hb _ _ e _ => k b o hb e) (fun b o hb _ _ e _ => ⟨o.slots, k b o hb e⟩)
    (fun b o _ e n => ?_) (fun b o _ e => ?_) (fun b xs e => by rw [upd_ne (neD b _ e)]; exact e) (fun b o u e => by rw [upd_ne (neD b _ e)]; exact e) (fun b qs e => ⟨#[], by rw [upd_ne (neD b _ e), e]; simp⟩) (fun m' hm' => ?_) (fun b u e => ?_) I.bare
  · rw [upd_ne (fun z => by rw [z, hs] at e; cases e)]; exact n
  · by_cases hb : b = X.env.locals
    · obtain ⟨o', _, _, q, _⟩ := hn
      exact ⟨o', by rw [hb]; exact q⟩
    · exact ⟨o, k b o hb e⟩
  · have e : m' = m := by
      obtain ⟨o1, es1, ep1, a1, b1, c1, d1⟩ := hm
      obtain ⟨o2, es2, ep2, a2, b2, c2, d2⟩ := hm'
      rw [a1] at a2
      cases a2
      rw [b1] at b2
      cases b2
      funext y
      rw [← d1, ← d2]
    rw [e]
    exact hn
  · by_cases hb : b = D
    · rw [hb, upd_same] at e
      cases e
      rw [hb]
      exact ⟨hz, its, n, r, ho⟩
    · rw [upd_ne hb] at e
      refine (I.hok b u e).stay (fun c v hc q => k c v ?_ q) (fun c q => by rw [upd_ne (neD c _ q)]; exact q) fun c xs q => by rw [upd_ne (neD c _ q)]; exact q
      rcases hc with z | z
      · rw [z]; exact nL b u e
      · exact nL c _ z
/-- the items -/
def FstI (K : PySem.W.Frag) (H : Hp) (xs : List V) (ns : List Int) : Prop := xs.length = ns.length ∧ ∀ (i : Nat) (x : V) (n : Int), xs[i]? = some x → ns[i]? = some n → ∃ (t : Addr) (r : List V), x = .ref t ∧ SqT K H t (.int n :: r)
def tSortK (K : PySem.W.Frag) (P : Addr) (q : Str) (ta : TA) : TE := fun σ H Q => ta σ H fun vs H1 => ∃ a xs ns, vs = [.ref a] ∧ SqL K H1 a xs ∧ FstI K H1 xs ns ∧ TabS H1 P q ∧
  ∀ H2 c', LamNew P q H1 H2 c' → ∀ ys, ys.Perm xs → ∀ p, H2 p = none → Q (.ref p) (upd H2 p (.lst ys))
theorem perm_vals : ∀ {us us' : List Value} {vs : List V}, us'.Perm us → Vals vs us → ∃ vs' : List V, vs'.Perm vs ∧ Vals vs' us' := by
  intro us us' vs p
  induction p generalizing vs with
  | nil => intro h; exact ⟨vs, List.Perm.refl _, h⟩
  | cons x p ih =>
    intro h
    cases h with
    | cons a b =>
      obtain ⟨w, h1, h2⟩ := ih b
      exact ⟨_ :: w, h1.cons _, .cons a h2⟩
  | swap x y l =>
    intro h
    cases h with
    | cons a b => cases b with
      | cons c d => exact ⟨_, List.Perm.swap _ _ _, .cons c (.cons a d)⟩
  | trans p q ih1 ih2 =>
    intro h
    obtain ⟨w, h1, h2⟩ := ih2 h
    obtain ⟨w2, h3, h4⟩ := ih1 h2
    exact ⟨w2, h3.trans h1, h4⟩
theorem pe_sortedLam {c P : Addr} {e : Expr} {ta : TA} {params : Arguments} {scope : Scope} {lpos p kp pos p1 p2 p3 : Pos} {j k : Nat} (hr : Room (k + 3) X.A) (hg : Gl X "sorted") (hmg : X.mg "sorted" = none) (ha : PA X [e] ta) (LO : LamOne scope params)
    (TB : TabB X.base X.mg c P) (hcode : X.env.code = .ref c) (hdef : defaultsOf params X.env = ([], []))
    (hs : backTo pos (starEach [e] X.env) = (false, eval e X.env) :: backTo pos (starEach [] X.env) := by rfl) (hpl : (backTo pos (starEach [e] X.env)).any (·.1) = false := by rfl) :
    PE X (.Call (.Name "sorted" p) [e] [⟨some "key", .Lambda params (.Subscript (.Name "one" p1) (.Constant (.int 0) j p2) p3) scope lpos, kp⟩] pos) (tSortK X.K P (X.env.qual ++ "<lambda>") ta) := by
  refine ⟨fun pins s σ H Q I h => ?_⟩
  refine wpAny_Call_Name_kw (ld_blt (u := .builtin "sorted") I hg hmg (by decide +kernel) ?_)
  refine PyProof.Rows.callWith_kw (thn (ha.run pos pins s σ H _ I h) fun us s1 ⟨vs, H1, I1, r1, q1⟩ => ?_) hs hpl rfl rfl
  obtain ⟨a, xs, ns, rfl, hq, ⟨hlen, hF⟩, hT, q⟩ := q1
  rw [Vals.ref1 r1]
  refine kws_cons (lam_make3 I1 TB hcode hT hdef (fun y hy e => absurd e (LO.nof y hy)) fun f c' pm ctv H2 s2 I2 LN hf hfn hfr => kws_nil ?_)
  have hco := LN.co
  have hq2 : SqL X.K H2 a xs := by
    rcases hq with (hq | ⟨o, hq⟩) | hq
    · exact .inl (.inl (LN.ext hq (by intro ps z; cases z)))
    · exact .inl (.inr ⟨o, LN.ext hq (by intro ps z; cases z)⟩)
    · exact .inr hq
  obtain ⟨its, rv, hl, hz⟩ := I2.list hq2
  obtain ⟨m, hns, _⟩ := id I2.loc
  have hll := rv.length
  obtain ⟨⟨oc, ws, tt, hoc, hdc, hvc⟩, _, _⟩ := I2.hok c' _ hco
  have nLc : c' ≠ X.env.locals := fun z => by rw [z, I2.free] at hco; cases hco
  have nLf : f ≠ X.env.locals := fun z => by
    obtain ⟨o1, es, ep, e1, d1, _⟩ := hns
    rw [← z, hf] at e1
    cases e1
    cases d1
  have FF : Fr hE X.env.locals s2.heap m := ⟨hns, fun b o e => (by rw [hE_none] at e; cases e), Nat.zero_le _⟩
  have NN : News hE X.env.locals s2.heap (allOf s2.heap X.env.locals) := fun pr hp => by
    obtain ⟨b, o⟩ := pr
    obtain ⟨h1, h2⟩ := allOf_mem.mp hp
    exact ⟨h2, h1, hE_none _⟩
  have key : ∀ {own : List (Addr × Obj)} {h : Heap}, News hE X.env.locals h (allOf s2.heap X.env.locals ++ own) → ∀ b o, b ≠ X.env.locals → s2.heap.get? b = some o → h.get? b = some o := fun N b o hb e =>
    (N (b, o) (List.mem_append_left _ (allOf_mem.mpr ⟨hb, e⟩))).1
  refine ksk_sortedAny (kz := ns) (b := false) FF NN (show s2.heap.IsList a its.toArray from hl.isList) (by rw [← hll, hlen]) (by rw [← hll]; exact hz) (ksk_s1 _ _) (fun x => ksk_l1 _ _) (fun x => ksk_t1 f x) (fun i v n hv hn h tk own F' N' => ?_) fun D h' tk out cc F' N' hD ho => ?_
  · have hx : ∃ x, xs[i]? = some x := by
      have := (List.getElem?_eq_some_iff.mp hv).1
      exact ⟨xs[i]'(by omega), List.getElem?_eq_getElem _⟩
    obtain ⟨x, hx⟩ := hx
    obtain ⟨t, r, rfl, hst⟩ := hF i x n hx hn
    obtain ⟨u, hu2, ru⟩ := rv.get hx
    rw [hv] at hu2
    cases hu2
    cases ru
    have hst2 : SqT X.K H2 t (.int n :: r) := by
      rcases hst with (hst | ⟨o, hst⟩) | hst
      · exact .inl (.inl (LN.ext hst (by intro ps z; cases z)))
      · exact .inl (.inr ⟨o, LN.ext hst (by intro ps z; cases z)⟩)
      · exact .inr hst
    obtain ⟨tis, rt, pt, _⟩ := I2.tuple hst2
    cases rt with
    | cons r0 rr =>
      obtain ⟨tok, rfl⟩ := r0
      have nLt : t ≠ X.env.locals := fun z => by
        obtain ⟨o0, e0, c0, n0, d0⟩ := pt
        obtain ⟨o1, es, ep, e1, d1, _⟩ := hns
        rw [← z, e0] at e1
        cases e1
        rw [d0] at d1
        cases d1
      refine call_one (s := { s2 with heap := h, toks := tk }) (n := n) (tk := tok) LO (by have := hr.dp; show X.A.depth < _; omega) (key N' _ _ nLf hf) ⟨c', oc, ws, tt, rfl, key N' _ _ nLc hoc, hdc, hvc⟩ (I2.ok.mod.nolimit.keeps fun b o e => key N' b o (Nat.ne_of_lt (Nat.lt_of_lt_of_le (Heap.lt_size (I2.ok.bs b o e).1) I2.ok.above)) (I2.bs b o e).1) (by
        obtain ⟨o0, e0, rest⟩ := pt
        exact ⟨o0, key N' _ _ nLt e0, rest⟩) rfl fun h2 tk2 hx2 => ?_
      · exact ⟨h2, tk2, tok, rfl, rfl, ⟨F'.ns.extBut hx2 (Nat.ne_of_lt F'.ns.lt), fun b o e => (by rw [hE_none] at e; cases e), Nat.zero_le _⟩, fun pr hp => ⟨hx2 _ _ (Nat.ne_of_lt (Heap.lt_size (N' pr hp).1)) (N' pr hp).1, (N' pr hp).2⟩⟩
  · obtain ⟨ps, hp1, hp2, _⟩ := ho
    have hperm : out.toList.Perm its := by
      rw [hp2]
      refine (hp1.map _).trans ?_
      rw [List.map_snd_zip (by rw [← hll, hlen]; exact Nat.le_refl _)]
    obtain ⟨ys, hy1, hy2⟩ := perm_vals hperm rv
    have hDo := (N' _ (List.mem_cons_self ..)).1
    have hDL := (N' _ (List.mem_cons_self ..)).2.1
    have gone : s2.heap.get? D = none := by
      cases e : s2.heap.get? D with
      | none => rfl
      | some o => exact absurd (hD (D, o) (allOf_mem.mpr ⟨hDL, e⟩)) (Nat.lt_irrefl _)
    have hHD := HOk.gone I2.hok gone
    refine ⟨.ref D, _, inv_sorted I2 hns F'.ns (fun b o hb e => (N' (b, o) (List.mem_cons_of_mem _ (allOf_mem.mpr ⟨hb, e⟩))).1) hHD (its := out.toList) (by rw [Array.toArray_toList]; exact hDo) hy2 (by rw [hy1.length_eq]; exact hz) gone, rfl, q H2 c' LN ys hy1 D hHD⟩
end
end R4
/-! ## Ctx2 -/
set_option Elab.async false
set_option linter.all false
set_option maxRecDepth 100000
set_option maxHeartbeats 4000000
/-! the rules that speak of X.K, told for a K that X's is -/
namespace KX
open PySem L2
section
variable {X : Cx} {K : PySem.W.Frag} {e e2 a b : Expr} {te ta tb : TE} {t : TA} {pos p tpos : Pos} {f : Str} {tg : Expr}
theorem fld (he : PE X e ta) (hb : attributeBase e f X.env (eval e X.env) = eval e X.env) (hK : X.K = K := by rfl) : PE X (.Attribute e f pos) (tFld K ta f) := by subst hK; exact pe_fld he hb
theorem sfld {o value : Expr} {pos' : Pos} {tv : TE} (ha : PE X o ta) (hv : PE X value tv) (hs : swapsWith value (some (.Attribute o f pos')) pos.line X.env = pure false) (hK : X.K = K := by rfl) : PS X (.Assign [.Attribute o f pos'] value pos) (sFld K ta tv f) := by subst hK; exact ps_fld ha hv hs
theorem sfldaug {o value : Expr} {tv : TE} {op : Operator} {rd : V → V → Hp → VK → Prop} (ha : PE X o ta) (hv : PE X value tv) (hop : InOp X op rd) (hK : X.K = K := by rfl) : PS X (.AugAssign (.Attribute o f tpos) op value pos) (sFldAug K ta tv rd f) := by subst hK; exact ps_fldaug ha hv hop
theorem ixL (hK : X.K = K := by rfl) : IxR X (rIxL K) := by subst hK; exact ix_list
theorem ixT (hK : X.K = K := by rfl) : IxR X (rIxT K) := by subst hK; exact ix_tup
theorem getL (hK : X.K = K := by rfl) : PGet X (rIxL K) := by subst hK; exact R1.get_list
theorem catT (hK : X.K = K := by rfl) : OpR X (binaryOp .Add) (rCatA K) := by subst hK; exact op_catA
theorem repT (hK : X.K = K := by rfl) : OpR X (binaryOp .Mult) (R1.rRepTA K) := by subst hK; exact R1.op_repTA
theorem slT (hK : X.K = K := by rfl) : SlR X (rSlA K) := by subst hK; exact sl_tupA
theorem slL (hK : X.K = K := by rfl) : SlR X (rSlL K) := by subst hK; exact sl_list
theorem eqD (hu : X.A.units + 64 < cLine) (hK : X.K = K := by rfl) : OpR X (compareOp .Eq) (rEqD K) := by subst hK; exact op_eqD hu
theorem neD (hu : X.A.units + 64 < cLine) (hK : X.K = K := by rfl) : OpR X (compareOp .NotEq) (rNeD K) := by subst hK; exact op_neD hu
theorem inS (hK : X.K = K := by rfl) : OpR X (compareOp .In) (rIn K false) := by subst hK; exact op_in_seq
theorem notInS (hK : X.K = K := by rfl) : OpR X (compareOp .NotIn) (rIn K true) := by subst hK; exact op_notIn_seq
theorem all (hc : X.calm = true) (hK : X.K = K := by rfl) : CallR X (.builtin "all") (rAll K) := by subst hK; exact cr_all hc
theorem anyI (hc : X.calm = true) (hK : X.K = K := by rfl) : CallR X (.builtin "any") (R1.rAnyI K) := by subst hK; exact R1.cr_anyI hc
theorem len (hK : X.K = K := by rfl) : CallR X (.builtin "len") (fun xs H Q => ∃ p ys, xs = [.ref p] ∧ (SqL K H p ys ∨ SqT K H p ys) ∧ Q (.int ys.length) H) := by subst hK; exact call_len_seq
theorem listOf (hK : X.K = K := by rfl) : CallR X (.type "list") (fun xs H Q => ∃ p ys, xs = [.ref p] ∧ (SqL K H p ys ∨ SqT K H p ys) ∧ ∀ l, H l = none → Q (.ref l) (upd H l (.lst ys))) := by subst hK; exact call_list_of
theorem tupOf (hK : X.K = K := by rfl) : CallR X (.type "tuple") (fun xs H Q => ∃ p ys, xs = [.ref p] ∧ ((SqL K H p ys ∧ ∀ l, H l = none → Q (.ref l) (upd H l (.tup ys))) ∨ (SqT K H p ys ∧ Q (.ref p) H))) := by subst hK; exact call_tuple_of
theorem isi (hK : X.K = K := by rfl) : CallR X (.builtin "isinstance") (rIsi K) := by subst hK; exact call_isi
theorem iL (hl : PE X e te) (hK : X.K = K := by rfl) : PI X tg e (iList K te) := by subst hK; exact pi_list hl
theorem iT (hl : PE X e te) (hK : X.K = K := by rfl) : PI X tg e (iTup K te) := by subst hK; exact pi_tup hl
theorem iE {elts : List Expr} {kk : Nat} (hg : Gl X "enumerate") (hm : X.mg "enumerate" = none) (ha : PA X [e] t) (hs : starEach [e] X.env = [(false, eval e X.env)] := by rfl) (hK : X.K = K := by rfl) : PI X (.Tuple elts kk tpos) (.Call (.Name "enumerate" p) [e] [] pos) (iEnum K t) := by subst hK; exact pi_enum hg hm ha hs
theorem iET {elts : List Expr} {kk : Nat} (hg : Gl X "enumerate") (hm : X.mg "enumerate" = none) (ha : PA X [e] t) (hs : starEach [e] X.env = [(false, eval e X.env)] := by rfl) (hK : X.K = K := by rfl) : PI X (.Tuple elts kk tpos) (.Call (.Name "enumerate" p) [e] [] pos) (R1.iEnumT K t) := by subst hK; exact R1.pi_enumT hg hm ha hs
theorem iZ {elts : List Expr} {kk j : Nat} {p1 p2 : Pos} (hg : Gl X "zip") (hm : X.mg "zip" = none) (ha : PA X [e, e2] t) (hs : starEach [e, e2] X.env = (false, eval e X.env) :: starEach [e2] X.env := by rfl) (hpl : (backTo pos (starEach [e, e2] X.env)).any (·.1) = false := by rfl) (hK : X.K = K := by rfl) :
    PI X (.Tuple elts kk tpos) (.Call (.Name "zip" p) [e, e2] [⟨some "strict", .Constant (.bool true) j p1, p2⟩] pos) (R2z.iZs K t) := by subst hK; exact R2z.pi_zipS hg hm ha hs hpl
theorem iR (hg : Gl X "reversed") (hm : X.mg "reversed" = none) (ha : PA X [e] t) (hs : starEach [e] X.env = [(false, eval e X.env)] := by rfl) (hK : X.K = K := by rfl) : PI X tg (.Call (.Name "reversed" p) [e] [] pos) (iRev K t) := by subst hK; exact pi_reversed hg hm ha hs
theorem gT {es : List Expr} {k : Nat} {ts : TGs} {n : Nat} (hc : X.calm = true) (h : PGs X es ts) (hn : (assignEach es X.env).length = n := by rfl) (hst : (assignEach es X.env).findIdx? (·.1) = none := by rfl) (hK : X.K = K := by rfl) : PG X (.Tuple es k pos) (gTup K n ts) := by subst hK; exact pg_tup hc h hn hst
end
end KX
/-! ## J3 -/
set_option Elab.async false
set_option linter.all false
set_option maxRecDepth 100000
set_option maxHeartbeats 4000000
namespace J
open PySem L2
section
variable {K : PySem.W.Frag} {ρ ρ' ρ1 : En} {w w' w1 w2 r : List Ow} {t u ta tb tc : TE} {P P' P1 P2 : Pr} {i : Nat}

/-! ### comparisons -/
theorem ee_chainI {f g : Int → Int → Bool} {i j k : Int} (ha : Ee ρ w ta (pI i)) (hb : Ee ρ w tb (pI j)) (hc : Ee ρ w tc (pI k)) : Ee ρ w (tChain (rI0 fun i j => .bl (f i j)) (rI0 fun i j => .bl (g i j)) ta tb tc) (pB (f i j && g j k)) :=
  ee_chain ha hb hc (fun x y F H Q hx hy gd q => ⟨i, j, hx, hy, q⟩) (fun x y F H Q hx hy gd q => ⟨j, k, hx, hy, q⟩)
theorem ee_isN {b : Bool} (ha : Ee ρ w ta P) (hd : ∀ F v, P.p F v → decide (v = V.non) = b) : Ee ρ w (tOp (fun x y H Q => y = .non ∧ Q (.bl (decide (x = .non))) H) ta (tC .non)) (pB b) :=
  ee_op ha ee_c fun x y F H Q hx hy g k => ⟨hy, k _ F H (Step.refl g) (congrArg V.bl (hd F x hx))⟩
theorem not_non_ref {K : PySem.W.Frag} {ps : List Pr} : ∀ F v, (pTup K ps).p F v → decide (v = V.non) = false := fun F v ⟨a, vs, e, _⟩ => by rw [e]; rfl
theorem not_non_lst {ps : List Pr} : ∀ F v, (pLst ps).p F v → decide (v = V.non) = false := fun F v ⟨a, vs, e, _⟩ => by rw [e]; rfl
theorem not_non_ins {C : Addr} {fs : List (Str × Pr)} : ∀ F v, (pIns C fs).p F v → decide (v = V.non) = false := fun F v ⟨a, dx, gs, e, _⟩ => by rw [e]; rfl
theorem is_non_V {x : V} : ∀ F v, (pV x).p F v → decide (v = V.non) = decide (x = V.non) := fun F v (e : v = x) => by rw [e]
/-- data -/
def DpOf (K : PySem.W.Frag) (P : Pr) (d : PyData) : Prop := ∀ F H v, Ext F H → P.p F v → Dp K H v d
theorem dp_int {i : Int} : DpOf K (pI i) (.int i) := fun F H v _ (e : v = _) => e ▸ .int i
theorem dp_bl {b : Bool} : DpOf K (pB b) (.bool b) := fun F H v _ (e : v = _) => e ▸ .bl b
theorem dp_non : DpOf K pN .none := fun F H v _ (e : v = _) => e ▸ .non
theorem dp_str {x : Str} : DpOf K (pV (.str x)) (.str x) := fun F H v _ (e : v = _) => e ▸ .str x
inductive DpOfs (K : PySem.W.Frag) : List Pr → List PyData → Prop
  | nil : DpOfs K [] []
  | cons {P : Pr} {d : PyData} {ps : List Pr} {ds : List PyData} : DpOf K P d → DpOfs K ps ds → DpOfs K (P :: ps) (d :: ds)
theorem DpOfs.all {F H : Hp} (e : Ext F H) : ∀ {ps : List Pr} {ds : List PyData} {vs : List V}, DpOfs K ps ds → All2 F ps vs → DpAll K H vs ds
  | _, _, _, .nil, .nil => .nil
  | _, _, _, .cons h t, .cons a b => .cons (h F H _ e a) (DpOfs.all e t b)
theorem DpOfs.map {α : Type} {f : α → Pr} {g : α → PyData} : ∀ {l : List α}, (∀ x ∈ l, DpOf K (f x) (g x)) → DpOfs K (l.map f) (l.map g)
  | [], _ => .nil
  | x :: l, h => .cons (h x List.mem_cons_self) (DpOfs.map fun y hy => h y (List.mem_cons_of_mem _ hy))
theorem dp_tup {ps : List Pr} {ds : List PyData} (h : DpOfs K ps ds) : DpOf K (pTup K ps) (.tuple ds) := fun F H v e ⟨a, vs, h1, h2, h3⟩ => h1 ▸ .tup (e.t h2) (h.all e h3)
theorem dp_lst {ps : List Pr} {ds : List PyData} (h : DpOfs K ps ds) : DpOf K (pLst ps) (.list ds) := fun F H v e ⟨a, vs, h1, h2, h3⟩ => h1 ▸ .lst (SqL.of (e _ _ h2)) (h.all e h3)
theorem ee_eqD {d e : PyData} (ha : Ee ρ w ta P1) (hb : Ee ρ w tb P2) (h1 : DpOf K P1 d) (h2 : DpOf K P2 e) (sd : SeqAt.shaped d = true) (se : SeqAt.shaped e = true) : Ee ρ w (tOp (rEqD K) ta tb) (pB (PyData.eqv d e)) :=
  ee_op ha hb fun x y F H Q hx hy g k => ⟨d, e, h1 F H x g.ex hx, h2 F H y g.ex hy, sd, se, k _ F H (Step.refl g) rfl⟩
theorem ee_neD {d e : PyData} (ha : Ee ρ w ta P1) (hb : Ee ρ w tb P2) (h1 : DpOf K P1 d) (h2 : DpOf K P2 e) (sd : SeqAt.shaped d = true) (se : SeqAt.shaped e = true) : Ee ρ w (tOp (rNeD K) ta tb) (pB (!PyData.eqv d e)) :=
  ee_op ha hb fun x y F H Q hx hy g k => ⟨d, e, h1 F H x g.ex hx, h2 F H y g.ex hy, sd, se, k _ F H (Step.refl g) rfl⟩
/-- rows of ints -/
abbrev pRow (K : PySem.W.Frag) (l : List Int) : Pr := pTup K (l.map pI)
abbrev pRows (K : PySem.W.Frag) (l : List (List Int)) : Pr := pLst (l.map (pRow K))
def dRow (l : List Int) : PyData := .tuple (l.map .int)
def dInts (l : List Int) : PyData := .list (l.map .int)
def dRows (l : List (List Int)) : PyData := .list (l.map dRow)
theorem dp_row {l : List Int} : DpOf K (pRow K l) (dRow l) := dp_tup (DpOfs.map fun _ _ => dp_int)
theorem dp_rows {l : List (List Int)} : DpOf K (pRows K l) (dRows l) := dp_lst (DpOfs.map fun _ _ => dp_row)
theorem dp_ints {l : List Int} : DpOf K (pLst (l.map pI)) (dInts l) := dp_lst (DpOfs.map fun _ _ => dp_int)
theorem lay_ints : ∀ l : List Int, PyData.canLayAll0 (l.map .int) = true
  | [] => by simp [PyData.canLayAll0]
  | i :: l => by simp [PyData.canLayAll0, PyData.canLay0, lay_ints l]
theorem dep_ints : ∀ l : List Int, PyData.depthAll (l.map .int) = 0
  | [] => by simp [PyData.depthAll]
  | i :: l => by simp [PyData.depthAll, PyData.depth, dep_ints l]
theorem lay_rows : ∀ l : List (List Int), PyData.canLayAll0 (l.map dRow) = true
  | [] => by simp [PyData.canLayAll0]
  | i :: l => by simp [PyData.canLayAll0, dRow, PyData.canLay0, lay_rows l, lay_ints]
theorem dep_rows : ∀ l : List (List Int), PyData.depthAll (l.map dRow) ≤ 1
  | [] => by simp [PyData.depthAll]
  | i :: l => by
    have := dep_rows l
    simp only [List.map_cons, PyData.depthAll, dRow, PyData.depth, dep_ints]
    exact Nat.max_le.mpr ⟨Nat.le_refl _, this⟩
theorem sh_row (l : List Int) : SeqAt.shaped (dRow l) = true := by simp [SeqAt.shaped, dRow, PyData.canLay0, PyData.depth, lay_ints, dep_ints]
theorem sh_ints (l : List Int) : SeqAt.shaped (dInts l) = true := by simp [SeqAt.shaped, dInts, PyData.canLay0, PyData.depth, lay_ints, dep_ints]
theorem sh_rows (l : List (List Int)) : SeqAt.shaped (dRows l) = true := by
  have := dep_rows l
  simp [SeqAt.shaped, dRows, PyData.canLay0, PyData.depth, lay_rows]
  omega
theorem eqv_nil {α : Type} {f : α → PyData} (l : List α) : PyData.eqv (.list (l.map f)) (.list []) = l.isEmpty := by
  cases l <;> simp [PyData.eqv, PyData.eqvAll]
theorem ee_neNil {l : List (List Int)} (ha : Ee ρ w ta (pRows K l)) (hb : Ee ρ w tb (pLst [])) : Ee ρ w (tOp (rNeD K) ta tb) (pB (!l.isEmpty)) :=
  (ee_neD ha hb dp_rows (dp_lst .nil) (sh_rows l) (by decide)).is (by rw [dRows, eqv_nil])
theorem ee_eqNil {l : List (List Int)} (ha : Ee ρ w ta (pRows K l)) (hb : Ee ρ w tb (pLst [])) : Ee ρ w (tOp (rEqD K) ta tb) (pB l.isEmpty) :=
  (ee_eqD ha hb dp_rows (dp_lst .nil) (sh_rows l) (by decide)).is (by rw [dRows, eqv_nil])
theorem ee_neNilI {l : List Int} (ha : Ee ρ w ta (pLst (l.map pI))) (hb : Ee ρ w tb (pLst [])) : Ee ρ w (tOp (rNeD K) ta tb) (pB (!l.isEmpty)) :=
  (ee_neD ha hb dp_ints (dp_lst .nil) (sh_ints l) (by decide)).is (by rw [dInts, eqv_nil])
theorem ee_neRows {l : List (List Int)} (ha : Ee ρ w ta (pRows K l)) (hb : Ee ρ w tb (pRows K l)) : Ee ρ w (tOp (rNeD K) ta tb) (pB false) :=
  (ee_neD ha hb dp_rows dp_rows (sh_rows l) (sh_rows l)).is (by rw [SeqAt.eqv_refl _ (SeqAt.canLay_of_shaped (sh_rows l))]; rfl)

theorem Es.is {s1 : TS} {w1 w' : List Ow} (h : Es ρ w s1 ρ' w1) (q : w1 = w') : Es ρ w s1 ρ' w' := q ▸ h
theorem Er.isw {s1 : TS} {w1 w' : List Ow} (h : Er ρ w s1 P w1) (q : w1 = w') : Er ρ w s1 P w' := q ▸ h
/-- if c: return ..; the rest -/
theorem er_ifr {c : TT} {b : Bool} {s1 s2 : TS} (h : Et ρ w c b) (h1 : b = true → Er ρ w s1 P w') (h2 : b = false → Er ρ w s2 P w') : Er ρ w (tSeq (tIfS c s1 tNext) s2) P w' := fun σ F H D e g k => h σ F H _ e g fun F1 H1 t1 => by
  cases b with
  | true =>
    show s1 { D with nx := s2 D } σ H1
    exact h1 rfl σ F1 H1 _ (e.mono t1.exF) t1.good fun v F2 H2 t2 => k v F2 H2 (t1.trans t2)
  | false =>
    show s2 D σ H1
    exact h2 rfl σ F1 H1 D (e.mono t1.exF) t1.good fun v F2 H2 t2 => k v F2 H2 (t1.trans t2)
/-! ### more that is walked -/
theorem Grow.tup {F H : Hp} {T : Addr} {xs : List V} (hT : H T = none) : Grow F H (upd F T (.tup xs)) (upd H T (.tup xs)) := ⟨fun _ g => Step.alloc g hT⟩
theorem ei_enumL {α : Type} {ta : TA} (l : List α) (f : α → Pr) (h : Ea ρ w ta [pLst (l.map f)]) : Ei ρ w (iEnum K ta) (l.zipIdx.map fun p => pTup K [pI ((p.2 : Nat) : Int), f p.1]) := fun σ F H R e g k =>
  h σ F H _ e g fun vs F1 H1 t1 p1 => by
    obtain ⟨v, rfl, a, ys, rfl, h2, h3⟩ := p1.one
    refine ⟨a, ys, rfl, SqL.of (t1.good.ex _ _ h2), k _ F1 H1 t1 fun F2 H2 x1 x2 => ?_⟩
    have hl : H2 a = some (.lst ys) := x2 _ _ (x1 _ _ h2)
    have hlen := h3.len
    rw [List.length_map] at hlen
    refine ⟨fun i P hP => ?_, ⟨ys, SqL.of hl, by rw [List.length_map, List.length_zipIdx, hlen]; exact Nat.le_refl _⟩⟩
    rw [List.getElem?_map, List.getElem?_zipIdx] at hP
    cases hx : l[i]? with
    | none => rw [hx] at hP; cases hP
    | some x =>
      rw [hx] at hP
      have hP : some (pTup K [pI (((0 + i : Nat) : Nat) : Int), f x]) = some P := hP
      rw [Nat.zero_add] at hP
      cases hP
      obtain ⟨v, hv, hp⟩ := h3.get (i := i) (P := f x) (by rw [List.getElem?_map, hx]; rfl)
      refine ⟨⟨ys, v, SqL.of hl, hv⟩, fun y H3 ⟨T, z, e1, e2, e3, e4⟩ => ?_⟩
      subst e1 e3
      have := e4 ys (SqL.of hl)
      rw [hv] at this
      cases this
      have hF := (x2.back e2)
      exact ⟨_, Grow.tup e2, T, _, rfl, SqT.of upd_same, .cons rfl (.cons ((f x).mono (x1.trans (Ext.new hF)) hp) .nil)⟩
theorem ei_enumT {α : Type} {ta : TA} (l : List α) (f : α → Pr) (h : Ea ρ w ta [pTup K (l.map f)]) : Ei ρ w (R1.iEnumT K ta) (l.zipIdx.map fun p => pTup K [pI ((p.2 : Nat) : Int), f p.1]) := fun σ F H R e g k =>
  h σ F H _ e g fun vs F1 H1 t1 p1 => by
    obtain ⟨v, rfl, a, ys, rfl, h2, h3⟩ := p1.one
    refine ⟨a, ys, rfl, t1.good.ex.t h2, k _ F1 H1 t1 fun F2 H2 x1 x2 => ?_⟩
    have hl : SqT K H2 a ys := x2.t (x1.t h2)
    have hlen := h3.len
    rw [List.length_map] at hlen
    refine ⟨fun i P hP => ?_, ⟨hl, by rw [List.length_map, List.length_zipIdx, hlen]⟩⟩
    rw [List.getElem?_map, List.getElem?_zipIdx] at hP
    cases hx : l[i]? with
    | none => rw [hx] at hP; cases hP
    | some x =>
      rw [hx] at hP
      have hP : some (pTup K [pI (((0 + i : Nat) : Nat) : Int), f x]) = some P := hP
      rw [Nat.zero_add] at hP
      cases hP
      obtain ⟨v, hv, hp⟩ := h3.get (i := i) (P := f x) (by rw [List.getElem?_map, hx]; rfl)
      refine ⟨⟨hl, (List.getElem?_eq_some_iff.mp hv).1⟩, fun y H3 ⟨T, z, e1, e2, e3, e4⟩ => ?_⟩
      subst e1 e3
      rw [hv] at e4
      cases e4
      have hF := (x2.back e2)
      exact ⟨_, Grow.tup e2, T, _, rfl, SqT.of upd_same, .cons rfl (.cons ((f x).mono (x1.trans (Ext.new hF)) hp) .nil)⟩
theorem ei_zipS {α β : Type} {ta : TA} (l : List α) (m : List β) (f : α → Pr) (q : β → Pr) (hlm : l.length = m.length) (h : Ea ρ w ta [pTup K (l.map f), pTup K (m.map q)]) : Ei ρ w (R2z.iZs K ta) ((l.zip m).map fun p => pTup K [f p.1, q p.2]) := fun σ F H R e g k =>
  h σ F H _ e g fun vs F1 H1 t1 p1 => by
    obtain ⟨v, v2, rfl, ⟨a, ys, rfl, h2, h3⟩, ⟨b, zs, rfl, h5, h6⟩⟩ := p1.two
    refine ⟨a, b, ys, zs, rfl, t1.good.ex.t h2, t1.good.ex.t h5, k _ F1 H1 t1 fun F2 H2 x1 x2 => ?_⟩
    have hl : SqT K H2 a ys := x2.t (x1.t h2)
    have hl2 : SqT K H2 b zs := x2.t (x1.t h5)
    have hlen := h3.len
    have hlen2 := h6.len
    rw [List.length_map] at hlen hlen2
    refine ⟨fun i P hP => ?_, ⟨hl, hl2, by rw [List.length_map, List.length_zip, hlen, ← hlm, hlen]; exact Nat.le_of_eq (Nat.min_self _).symm, by omega⟩⟩
    rw [List.getElem?_map] at hP
    cases hx : (l.zip m)[i]? with
    | none => rw [hx] at hP; cases hP
    | some x =>
      rw [hx] at hP
      cases hP
      obtain ⟨hx1, hx2⟩ := List.getElem?_zip_eq_some.mp hx
      obtain ⟨v, hv, hp⟩ := h3.get (i := i) (P := f x.1) (by rw [List.getElem?_map, hx1]; rfl)
      obtain ⟨v2, hv2, hp2⟩ := h6.get (i := i) (P := q x.2) (by rw [List.getElem?_map, hx2]; rfl)
      refine ⟨⟨hl, hl2, (List.getElem?_eq_some_iff.mp hv).1, by omega⟩, fun y H3 ⟨T, z, z2, e1, e2, e3, e4, e5⟩ => ?_⟩
      subst e1 e3
      rw [hv] at e4
      cases e4
      rw [hv2] at e5
      cases e5
      have hF := (x2.back e2)
      exact ⟨_, Grow.tup e2, T, _, rfl, SqT.of upd_same, .cons ((f x.1).mono (x1.trans (Ext.new hF)) hp) (.cons ((q x.2).mono (x1.trans (Ext.new hF)) hp2) .nil)⟩
theorem ei_rev {α : Type} {ta : TA} (l : List α) (f : α → Pr) (h : Ea ρ w ta [pLst (l.map f)]) : Ei ρ w (iRev K ta) (l.reverse.map f) := fun σ F H R e g k =>
  h σ F H _ e g fun vs F1 H1 t1 p1 => by
    obtain ⟨v, rfl, a, ys, rfl, h2, h3⟩ := p1.one
    refine ⟨a, ys, rfl, SqL.of (t1.good.ex _ _ h2), k _ F1 H1 t1 fun F2 H2 x1 x2 => ?_⟩
    have hl : H2 a = some (.lst ys) := x2 _ _ (x1 _ _ h2)
    have hlen := h3.len
    rw [List.length_map] at hlen
    refine ⟨fun i P hP => ?_, by show ys.length ≤ _; rw [List.length_map, List.length_reverse, hlen]; exact Nat.le_refl _⟩
    rw [List.getElem?_map] at hP
    cases hx : l.reverse[i]? with
    | none => rw [hx] at hP; cases hP
    | some x =>
      rw [hx] at hP
      cases hP
      have hi : i < l.length := by
        have := (List.getElem?_eq_some_iff.mp hx).1
        rwa [List.length_reverse] at this
      rw [List.getElem?_reverse hi] at hx
      obtain ⟨v, hv, hp⟩ := h3.get (i := l.length - 1 - i) (P := f x) (by rw [List.getElem?_map, hx]; rfl)
      rw [hlen] at hv
      refine ⟨⟨by omega, ys, v, SqL.of hl, hv⟩, fun y H3 ⟨e1, e2⟩ => ?_⟩
      subst e1
      have := e2 ys (SqL.of hl)
      rw [hv] at this
      cases this
      exact ⟨F2, Grow.refl _ _, (f x).mono x1 hp⟩
theorem ei_rngD {ta : TA} {i j : Int} (h : Ea ρ w ta [pI i, pI j, pI (-1)]) (hb : -1000 ≤ i ∧ i ≤ 1000 ∧ -1000 ≤ j ∧ j ≤ 1000) : Ei ρ w (iRng3 ta) ((List.range (i - j).toNat).map fun k => pI (i - (k : Nat))) := fun σ F H R e g k =>
  h σ F H _ e g fun vs F1 H1 t1 p1 => by
    cases p1 with
    | cons q1 p1 => cases p1 with
      | cons q2 p1 => cases p1 with
        | cons q3 p1 =>
          cases p1
          have q1 : _ = V.int i := q1
          have q2 : _ = V.int j := q2
          have q3 : _ = V.int (-1) := q3
          subst q1 q2 q3
          refine ⟨i, j, -1, _, rfl, RgC.neg (by omega) (by omega) (by omega) (by omega), k _ F1 H1 t1 fun F2 H2 x1 x2 => ?_⟩
          refine ⟨fun n P hP => ?_, by show (i - j).toNat ≤ _; rw [List.length_map, List.length_range]; exact Nat.le_refl _⟩
          rw [List.getElem?_map] at hP
          cases hx : (List.range (i - j).toNat)[n]? with
          | none => rw [hx] at hP; cases hP
          | some x =>
            rw [hx] at hP
            cases hP
            obtain ⟨h1, h2⟩ := List.getElem?_eq_some_iff.mp hx
            rw [List.getElem_range] at h2
            subst h2
            rw [List.length_range] at h1
            refine ⟨h1, fun y H3 ⟨e1, e2⟩ => ?_⟩
            subst e1
            refine ⟨F2, Grow.refl _ _, ?_⟩
            show y = V.int _
            rw [e2]
            congr 1
            omega

/-! ### owned ones, weakened and opened -/
structure Ow.Le (e e' : Ow) : Prop where
  a : e'.a = e.a
  imp : ∀ F o, e.φ F o → e'.φ F o
theorem Good.ow_le {e e' : Ow} {F H : Hp} (le : e.Le e') (g : Good (w1 ++ e :: w2) F H) : Good (w1 ++ e' :: w2) F H := by
  have hmap : ((w1 ++ e' :: w2).map (·.a)) = (w1 ++ e :: w2).map (·.a) := by simp [le.a]
  refine ⟨g.ex, fun d hd => ?_, by rw [hmap]; exact g.nd⟩
  have hd' : d ∈ w1 ∨ d = e' ∨ d ∈ w2 := by simpa using hd
  rcases hd' with hd | hd | hd
  · exact g.ow d (by simp [hd])
  · subst hd
    obtain ⟨h1, o, h2, h3⟩ := g.ow e (by simp)
    rw [le.a]
    exact ⟨h1, o, h2, le.imp F o h3⟩
  · exact g.ow d (by simp [hd])
theorem Step.ow_le {e e' : Ow} {F H : Hp} (le : e.Le e') (g : Good (w1 ++ e :: w2) F H) : Step (w1 ++ e :: w2) (w1 ++ e' :: w2) F H F H :=
  ⟨Ext.refl F, g.ow_le le, fun a o h f _ => ⟨h, f⟩, fun d hd => by
    have hd' : d ∈ w1 ∨ d = e' ∨ d ∈ w2 := by simpa using hd
    rcases hd' with hd | hd | hd
    · exact .inl ⟨d, by simp [hd], rfl⟩
    · subst hd; exact .inl ⟨e, by simp, le.a.symm⟩
    · exact .inl ⟨d, by simp [hd], rfl⟩, fun _ o h => ⟨o, h⟩⟩
theorem Es.ow_le {s1 : TS} {e e' : Ow} (h : Es ρ w s1 ρ' (w1 ++ e :: w2)) (le : e.Le e') : Es ρ w s1 ρ' (w1 ++ e' :: w2) := fun σ F H D en g k => h σ F H D en g fun σ' F' H' s en' => k σ' F' H' (s.trans (Step.ow_le le s.good)) en'
theorem Er.ow_le {s1 : TS} {e e' : Ow} (h : Er ρ w s1 P (w1 ++ e :: w2)) (le : e.Le e') : Er ρ w s1 P (w1 ++ e' :: w2) := fun σ F H D en g k => h σ F H D en g fun v F' H' s p => k v F' H' (s.trans (Step.ow_le le s.good)) p
/-- an owned one that is one of several -/
def oEx {α : Type} (a : Addr) (f : α → Ow) (hf : ∀ x, (f x).a = a) (c : α → Prop) : Ow := ⟨a, fun F o => ∃ x, c x ∧ (f x).φ F o, fun e ⟨x, h1, h2⟩ => ⟨x, h1, (f x).mono e h2⟩⟩
theorem oEx_le {α : Type} {a : Addr} {f : α → Ow} {hf : ∀ x, (f x).a = a} {c : α → Prop} (x : α) (h : c x) : (f x).Le (oEx a f hf c) := ⟨(hf x).symm, fun F o q => ⟨x, h, q⟩⟩
theorem Step.open_ {α : Type} {a : Addr} {f : α → Ow} {hf : ∀ x, (f x).a = a} {c : α → Prop} {F H : Hp} (g : Good (w1 ++ oEx a f hf c :: w2) F H) : ∃ x, c x ∧ Step (w1 ++ oEx a f hf c :: w2) (w1 ++ f x :: w2) F H F H := by
  obtain ⟨h1, o, h2, x, hc, h3⟩ := g.ow (oEx a f hf c) (by simp)
  have h2 : H a = some o := h2
  have h1 : F a = none := h1
  have hmap : ((w1 ++ f x :: w2).map (·.a)) = (w1 ++ oEx a f hf c :: w2).map (·.a) := by simp [hf x, oEx]
  refine ⟨x, hc, Ext.refl F, ⟨g.ex, fun d hd => ?_, by rw [hmap]; exact g.nd⟩, fun a o h f _ => ⟨h, f⟩, fun d hd => ?_, fun _ o h => ⟨o, h⟩⟩
  · have hd' : d ∈ w1 ∨ d = f x ∨ d ∈ w2 := by simpa using hd
    rcases hd' with hd | hd | hd
    · exact g.ow d (by simp [hd])
    · subst hd; rw [hf x]; exact ⟨h1, o, h2, h3⟩
    · exact g.ow d (by simp [hd])
  · have hd' : d ∈ w1 ∨ d = f x ∨ d ∈ w2 := by simpa using hd
    rcases hd' with hd | hd | hd
    · exact .inl ⟨d, by simp [hd], rfl⟩
    · subst hd; exact .inl ⟨oEx a f hf c, by simp, (hf x).symm⟩
    · exact .inl ⟨d, by simp [hd], rfl⟩
theorem Er.open_ {α : Type} {a : Addr} {f : α → Ow} {hf : ∀ x, (f x).a = a} {c : α → Prop} {s1 : TS} (h : ∀ x, c x → Er ρ (w1 ++ f x :: w2) s1 P w') : Er ρ (w1 ++ oEx a f hf c :: w2) s1 P w' := fun σ F H D e g k => by
  obtain ⟨x, hc, s⟩ := Step.open_ g
  exact h x hc σ F H D e s.good fun v F' H' s' p => k v F' H' (s.trans s') p
theorem Es.open_ {α : Type} {a : Addr} {f : α → Ow} {hf : ∀ x, (f x).a = a} {c : α → Prop} {s1 : TS} (h : ∀ x, c x → Es ρ (w1 ++ f x :: w2) s1 ρ' w') : Es ρ (w1 ++ oEx a f hf c :: w2) s1 ρ' w' := fun σ F H D e g k => by
  obtain ⟨x, hc, s⟩ := Step.open_ g
  exact h x hc σ F H D e s.good fun σ' F' H' s' p => k σ' F' H' (s.trans s') p

/-! ### owned instances -/
def AllF (F : Hp) (fs : List (Str × Pr)) (gs : List (Str × V)) : Prop := gs.map (·.1) = fs.map (·.1) ∧ All2 F (fs.map (·.2)) (gs.map (·.2))
theorem AllF.mono {F F' : Hp} {fs : List (Str × Pr)} {gs : List (Str × V)} (e : Ext F F') (h : AllF F fs gs) : AllF F' fs gs := ⟨h.1, h.2.mono e⟩
def oIns (a C : Addr) (fs : List (Str × Pr)) : Ow := ⟨a, fun F o => ∃ dx gs, o = .ins C dx gs ∧ AllF F fs gs, fun e ⟨dx, gs, h1, h2⟩ => ⟨dx, gs, h1, h2.mono e⟩⟩
def putP (f : Str) (P : Pr) : List (Str × Pr) → List (Str × Pr)
  | [] => [(f, P)]
  | (g, x) :: r => if g = f then (g, P) :: r else (g, x) :: putP f P r
theorem AllF.put {F : Hp} {f : Str} {P : Pr} {v : V} (hp : P.p F v) : ∀ {fs : List (Str × Pr)} {gs : List (Str × V)}, AllF F fs gs → AllF F (putP f P fs) (putF f v gs)
  | [], [], _ => ⟨rfl, .cons hp .nil⟩
  | [], _ :: _, h => by cases h.1
  | _ :: _, [], h => by cases h.1
  | (g, x) :: fs, (g2, y) :: gs, ⟨h1, h2⟩ => by
    have e : g2 = g := (List.cons.inj h1).1
    subst e
    cases h2 with
    | cons ha hr =>
      have ih := AllF.put hp (f := f) (fs := fs) (gs := gs) ⟨(List.cons.inj h1).2, hr⟩
      unfold putP putF
      by_cases hg : g2 = f
      · rw [if_pos hg, if_pos hg]
        exact ⟨h1, .cons hp hr⟩
      · rw [if_neg hg, if_neg hg]
        exact ⟨by show g2 :: _ = g2 :: _; rw [ih.1], .cons ha ih.2⟩
theorem AllF.get {F : Hp} {f : Str} {P : Pr} : ∀ {fs : List (Str × Pr)} {gs : List (Str × V)}, AllF F fs gs → fs.lookup f = some P → ∃ v, gs.lookup f = some v ∧ P.p F v
  | [], _, _, h => by cases h
  | _ :: _, [], h, _ => by cases h.1
  | (g, x) :: fs, (g2, y) :: gs, ⟨h1, h2⟩, hl => by
    have e : g2 = g := (List.cons.inj h1).1
    subst e
    cases h2 with
    | cons ha hr =>
      rw [List.lookup_cons] at hl ⊢
      cases hb : f == g2 with
      | true =>
        rw [hb] at hl
        cases hl
        exact ⟨y, rfl, ha⟩
      | false =>
        rw [hb] at hl
        exact AllF.get ⟨(List.cons.inj h1).2, hr⟩ hl
theorem AllF.no {F : Hp} {f : Str} : ∀ {fs : List (Str × Pr)} {gs : List (Str × V)}, AllF F fs gs → fs.lookup f = none → gs.lookup f = none
  | [], [], _, _ => rfl
  | [], _ :: _, h, _ => by cases h.1
  | _ :: _, [], h, _ => by cases h.1
  | (g, x) :: fs, (g2, y) :: gs, ⟨h1, h2⟩, hl => by
    have e : g2 = g := (List.cons.inj h1).1
    subst e
    cases h2 with
    | cons ha hr =>
      rw [List.lookup_cons] at hl ⊢
      cases hb : f == g2 with
      | true => rw [hb] at hl; cases hl
      | false =>
        rw [hb] at hl
        exact AllF.no ⟨(List.cons.inj h1).2, hr⟩ hl
theorem AllF.len {F : Hp} {fs : List (Str × Pr)} {gs : List (Str × V)} (h : AllF F fs gs) : gs.length = fs.length := by
  have := congrArg List.length h.1
  simpa using this
/-- self.f = e -/
theorem es_fld {a C : Addr} {f : Str} {fs : List (Str × Pr)} (hv : Ee ρ (w1 ++ oIns a C fs :: w2) tb P) (ha : Ee ρ (w1 ++ oIns a C fs :: w2) ta (pA a)) (c : Cls K C) (n : NoAttr K C f) (hl : fs.length < 900) :
    Es ρ (w1 ++ oIns a C fs :: w2) (sFld K ta tb f) ρ (w1 ++ oIns a C (putP f P fs) :: w2) := fun σ F H D e g k =>
  hv σ F H _ e g fun v F1 H1 s1 p1 => ha σ F1 H1 _ (e.mono s1.exF) s1.good fun x F2 H2 s2 p2 => by
    obtain ⟨hF, o, ho, dx, gs, rfl, hg⟩ := s2.good.ow (oIns a C fs) (by simp)
    have s3 := Step.write (w1 := w1) (w2 := w2) (e := oIns a C fs) (e' := oIns a C (putP f P fs)) (o := .ins C dx (putF f v gs)) s2.good rfl ⟨dx, _, rfl, hg.put (P.mono s2.exF p1)⟩
    exact ⟨a, C, dx, gs, p2, ho, c, n, by rw [hg.len]; omega, k σ F2 _ ((s1.trans s2).trans s3) (e.mono ((s1.trans s2).trans s3).exF)⟩
/-- self.f -/
theorem ee_fldO {a C : Addr} {f : Str} {fs : List (Str × Pr)} (ha : Ee ρ (w1 ++ oIns a C fs :: w2) ta (pA a)) (c : Cls K C) (n : NoAttr K C f) (hl : fs.lookup f = some P) : Ee ρ (w1 ++ oIns a C fs :: w2) (tFld K ta f) P := fun σ F H Q e g k =>
  ha σ F H _ e g fun x F1 H1 s1 p1 => by
    obtain ⟨hF, o, ho, dx, gs, rfl, hg⟩ := s1.good.ow (oIns a C fs) (by simp)
    obtain ⟨v, h1, h2⟩ := hg.get hl
    exact ⟨a, C, dx, gs, v, p1, ho, c, n, h1, k v F1 H1 s1 h2⟩
/-- self.f += e -/
theorem es_fldAug {a C : Addr} {f : Str} {fs : List (Str × Pr)} {i j : Int} (ha : Ee ρ (w1 ++ oIns a C fs :: w2) ta (pA a)) (hv : Ee ρ (w1 ++ oIns a C fs :: w2) tb (pI j)) (c : Cls K C) (n : NoAttr K C f) (hf : fs.lookup f = some (pI i)) (hl : fs.length < 900) :
    Es ρ (w1 ++ oIns a C fs :: w2) (sFldAug K ta tb rAdd f) ρ (w1 ++ oIns a C (putP f (pI (i + j)) fs) :: w2) := fun σ F H D e g k =>
  ha σ F H _ e g fun x F1 H1 s1 p1 => by
    obtain ⟨hF, o, ho, dx, gs, rfl, hg⟩ := s1.good.ow (oIns a C fs) (by simp)
    obtain ⟨v, h1, h2⟩ := hg.get hf
    refine ⟨a, C, dx, gs, v, p1, ho, c, n, h1, hv σ F1 H1 _ (e.mono s1.exF) s1.good fun y F2 H2 s2 p2 => ⟨i, j, h2, p2, ?_⟩⟩
    obtain ⟨hF2, o2, ho2, dx2, gs2, rfl, hg2⟩ := s2.good.ow (oIns a C fs) (by simp)
    have s3 := Step.write (w1 := w1) (w2 := w2) (e := oIns a C fs) (e' := oIns a C (putP f (pI (i + j)) fs)) (o := .ins C dx2 (putF f (.int (i + j)) gs2)) s2.good rfl ⟨dx2, _, rfl, hg2.put rfl⟩
    exact ⟨dx2, gs2, ho2, by rw [hg2.len]; omega, k σ F2 _ ((s1.trans s2).trans s3) (e.mono ((s1.trans s2).trans s3).exF)⟩
/-- self.m(..), self owned -/
theorem ev_methO {a C : Addr} {m : Str} {sp : Sp} {dvs : List V} {E : XK} {ta' : TA} {fs : List (Str × Pr)} {ps ds : List Pr} (ha : Ee ρ (w ++ r) ta (pA a)) (hw : w = w1 ++ oIns a C fs :: w2) (hm : fs.lookup m = none) (h : Ea ρ (w ++ r) ta' ps) (hd : ∀ F, All2 F ds dvs)
    (hs : Tl sp (pA a :: (ps ++ ds)) w P w') : Ev ρ (w ++ r) (tMeth C m sp dvs E ta ta') P (w' ++ r) := fun σ F H Q e g k =>
  ha σ F H _ e g fun x F1 H1 s1 p1 => by
    obtain ⟨hF, o, ho, dx, gs, rfl, hg⟩ := s1.good.ow (oIns a C fs) (by simp [hw])
    refine ⟨a, dx, gs, p1, ho, hg.no hm, ?_⟩
    refine h σ F1 H1 _ (e.mono s1.exF) s1.good fun vs F2 H2 s2 p2 => ?_
    exact hs _ F2 H2 Q E (.cons p1 (p2.append (hd F2))) s2.good.front fun v F3 H3 s3 p3 => k v F3 H3 ((s1.trans s2).trans (s3.frame s2.good)) p3
/-- C(..) -/
theorem ins_new {F H : Hp} {x dx C : Addr} (g : Good w F H) (hx : H x = none) (hd : H dx = none) (hne : dx ≠ x) : Step w (w ++ [oIns x C []]) F H F (upd (upd H dx (.own x)) x (.ins C dx [])) := by
  have hFd := g.ex.back hd
  have ned := g.mem_ne hd
  have g1 : Good w F (upd H dx (.own x)) := ⟨fun a u z => by rw [upd_ne (ne_of_none z hFd)]; exact g.ex a u z, fun e he => by
    obtain ⟨h1, o, h2, h3⟩ := g.ow e he
    exact ⟨h1, o, by rw [upd_ne (ned e he)]; exact h2, h3⟩, g.nd⟩
  have s1 : Step w w F H F (upd H dx (.own x)) := ⟨Ext.refl F, g1, fun a o h f _ => ⟨by rw [upd_ne (ne_of_none h hd)]; exact h, f⟩, fun e he => .inl ⟨e, he, rfl⟩, fun a o h => ⟨o, by rw [upd_ne (ne_of_none h hd)]; exact h⟩⟩
  exact s1.trans (Step.own (e := oIns x C []) (o := .ins C dx []) g1 (show upd H dx (.own x) x = none by rw [upd_ne (Ne.symm hne)]; exact hx) ⟨dx, [], rfl, rfl, .nil⟩)
theorem ev_make {C : Addr} {sp : Sp} {dvs : List V} {E : XK} {ta' : TA} {fs : List (Str × Pr)} {ps ds : List Pr} (h : Ea ρ (w ++ r) ta' ps) (hd : ∀ F, All2 F ds dvs)
    (hs : ∀ x, Tl sp (pA x :: (ps ++ ds)) (w ++ [oIns x C []]) pN (w' ++ [oIns x C fs])) : Ev ρ (w ++ r) (tMake C sp dvs E ta') (pIns C fs) (w' ++ r) := fun σ F H Q e g k =>
  h σ F H _ e g fun vs F1 H1 s1 p1 x dx hx hdx hne => by
    have s2 := ins_new (C := C) s1.good.front hx hdx hne
    have s2' := s2.frame s1.good
    refine hs x _ F1 _ _ E (.cons rfl (p1.append (hd F1))) s2.good fun v F3 H3 s3 p3 => ⟨p3, ?_⟩
    have s3' := s3.frame (r := r) (by
      have := s2'.good
      exact this)
    obtain ⟨hF, o, ho, dx', gs, rfl, hg⟩ := s3.good.ow (oIns x C fs) (by simp)
    have s4 := Step.freeze (w1 := w') (w2 := r) (e := oIns x C fs) (o := .ins C dx' gs) (by have := s3'.good; rwa [List.append_assoc] at this) ho
    have s3'' : Step (w ++ [oIns x C []] ++ r) (w' ++ oIns x C fs :: r) F1 (upd (upd H1 dx (.own x)) x (.ins C dx [])) F3 H3 := by
      have := s3'
      rwa [List.append_assoc w'] at this
    refine k _ _ _ (((s1.trans s2').trans s3'').trans s4) ⟨x, dx', gs, rfl, upd_same, hg.1, hg.2.mono s4.exF⟩
end
end J
/-! ## J4 -/
set_option Elab.async false
set_option linter.all false
set_option maxRecDepth 100000
set_option maxHeartbeats 4000000
namespace J
open PySem L2
section
variable {K : PySem.W.Frag} {ρ ρ' ρ1 : En} {w w' w1 w2 r : List Ow} {t u ta tb tc : TE} {P P' P1 P2 : Pr} {i : Nat}
theorem Ei.is {wi : TI} {ps qs : List Pr} (h : Ei ρ w wi ps) (e : ps = qs) : Ei ρ w wi qs := e ▸ h
theorem ixN_eq {n m : Nat} {k : Int} (h : k = (m : Int)) (hl : m < n) : ixN n k = some m := by subst h; exact ixN_nat hl
/-- xs[k] += e -/
theorem es_augSO {a : Addr} {ps : List Pr} {k : Int} {n : Nat} {x y : Int} (ha : Ee ρ (w1 ++ oLst a ps :: w2) ta (pA a)) (hb : Ee ρ (w1 ++ oLst a ps :: w2) tb (pI k)) (ht : Ee ρ (w1 ++ oLst a ps :: w2) t (pI y)) (hi : ixN ps.length k = some n) (hp : ps[n]? = some (pI x)) :
    Es ρ (w1 ++ oLst a ps :: w2) (tAugS ta tb t (rIxL K) (ipI fun i j => i + j) rSetL) ρ (w1 ++ oLst a (ps.set n (pI (x + y))) :: w2) := fun σ F H D e g kk =>
  ha σ F H _ e g fun o F1 H1 s1 p1 => hb σ F1 H1 _ (e.mono s1.exF) s1.good fun z F2 H2 s2 p2 => by
    have p1 : o = .ref a := p1
    have p2 : z = .int k := p2
    subst p1 p2
    obtain ⟨hF, ob, ho, vs, rfl, hv⟩ := s2.good.ow (oLst a ps) (by simp)
    obtain ⟨v, h4, h5⟩ := hv.get hp
    have h5 : v = .int x := h5
    subst h5
    refine ⟨a, vs, k, .int x, rfl, rfl, SqL.of ho, by rw [atI, ← hv.len, hi]; exact h4, ht σ F2 H2 _ (e.mono (s1.trans s2).exF) s2.good fun yv F3 H3 s3 p3 => ⟨x, y, rfl, p3, ?_⟩⟩
    obtain ⟨hF3, ob3, ho3, vs3, rfl, hv3⟩ := s3.good.ow (oLst a ps) (by simp)
    have s4 := Step.write (w1 := w1) (w2 := w2) (e := oLst a ps) (e' := oLst a (ps.set n (pI (x + y)))) (o := .lst (vs3.set n (.int (x + y)))) s3.good rfl ⟨_, rfl, hv3.set rfl n⟩
    exact ⟨a, vs3, k, n, rfl, rfl, ho3, by rw [← hv3.len]; exact hi, kk σ F3 _ (((s1.trans s2).trans s3).trans s4) (e.mono (((s1.trans s2).trans s3).trans s4).exF)⟩
theorem All2.reps {F : Hp} {ps : List Pr} {vs : List V} (h : All2 F ps vs) : ∀ m : Nat, All2 F (List.replicate m ps).flatten (List.replicate m vs).flatten
  | 0 => .nil
  | m + 1 => by rw [List.replicate_succ, List.replicate_succ, List.flatten_cons, List.flatten_cons]; exact h.append (h.reps m)
/-- xs = ys * n, owned -/
theorem er_newRep {s2 : TS} {ps : List Pr} {n : Nat} (ha : Ee ρ w ta (pLst ps)) (hb : Ee ρ w tb (pI (n : Int))) (hn : n ≤ 1000) (hl : ps.length ≤ 50) (k : ∀ a, Er (ρ.set i (some (pA a))) (w ++ [oLst a (List.replicate n ps).flatten]) s2 P w') :
    Er ρ w (tSeq (tAsg (tOp rRep ta tb) (gName i)) s2) P w' := fun σ F H D e g q =>
  ha σ F H _ e g fun x F1 H1 t1 p1 => hb σ F1 H1 _ (e.mono t1.exF) t1.good fun y F2 H2 t2 p2 => by
    have p1 := (pLst ps).mono t2.exF p1
    obtain ⟨a, vs, rfl, h2, h3⟩ := p1
    have p2 : y = .int (n : Int) := p2
    subst p2
    have z : vs.length * ((n : Int)).toNat ≤ sizeLine := by
      rw [Int.toNat_natCast, ← h3.len]
      exact Nat.le_trans (Nat.mul_le_mul hl hn) (by decide : 50 * 1000 ≤ sizeLine)
    refine ⟨a, (n : Int), vs, rfl, rfl, t2.good.ex _ _ h2, by omega, by omega, z, fun l hl => ?_⟩
    have s3 := Step.own (e := oLst l (List.replicate n ps).flatten) (o := .lst (List.replicate ((n : Int)).toNat vs).flatten) t2.good hl ⟨_, rfl, by rw [Int.toNat_natCast]; exact h3.reps n⟩
    have st := (t1.trans t2).trans s3
    exact k l _ F2 _ D ((e.mono st.exF).set rfl) s3.good fun v F4 H4 t4 p4 => q v F4 H4 (st.trans t4) p4
/-- a tuple's repetition, a tuple not empty -/
theorem ee_repT {ps : List Pr} {n : Nat} {k : Int} (ha : Ee ρ w ta (pTup K ps)) (hb : Ee ρ w tb (pI k)) (hk : k = (n : Int)) (hn : n ≤ 1000) (h0 : ps ≠ []) (hl : ps.length ≤ 50) : Ee ρ w (tOp (R1.rRepTA K) ta tb) (pTup K (List.replicate n ps).flatten) :=
  ee_op ha hb fun x y F H Q hx hy g kk => by
    obtain ⟨a, vs, rfl, h2, h3⟩ := hx
    have hy : y = .int k := hy
    subst hy hk
    refine ⟨a, (n : Int), vs, rfl, rfl, g.ex.t h2, fun e => ?_, by omega, by omega, by rw [← h3.len]; omega, fun h1 => ?_, fun h1 l hl => ?_⟩
    · subst e
      cases h3
      exact h0 rfl
    · have : n = 1 := by omega
      subst this
      exact kk _ F H (Step.refl g) ⟨a, vs, rfl, h2, by simpa using h3⟩
    · have s := Step.alloc (o := .tup (List.replicate ((n : Int)).toNat vs).flatten) g hl
      exact kk _ _ _ s ⟨l, _, rfl, SqT.of upd_same, by rw [Int.toNat_natCast]; exact (h3.reps n).mono s.exF⟩
/-- (x,) * n -/
theorem ee_repT1 {n : Nat} {k : Int} (ha : Ee ρ w ta (pTup K [P])) (hb : Ee ρ w tb (pI k)) (hk : k = (n : Int)) (hn : n ≤ 1000) : Ee ρ w (tOp (R1.rRepTA K) ta tb) (pTup K (List.replicate n P)) := by
  have h := ee_repT ha hb hk hn (by simp) (by simp)
  have e : (List.replicate n [P]).flatten = List.replicate n P := by
    induction n with
    | zero => rfl
    | succ n ih => simp [List.replicate_succ]
  rwa [e] at h
theorem ee_anyI {l : List Int} {ta : TA} (h : Ea ρ w ta [pTup K (l.map pI)]) : Ee ρ w (tCB (R1.rAnyI K) ta) (pB (l.any (· != 0))) :=
  ee_cb h fun vs F H Q p g k => by
    obtain ⟨v, rfl, a, ys, rfl, h2, h3⟩ := p.one
    have e := h3.vals (g := fun x => V.int x)
    exact ⟨a, l, rfl, by rw [e] at h2; exact g.ex.t h2, k _ F H (Step.refl g) rfl⟩
/-- RULES[q] -/
theorem all2_pI {F : Hp} : ∀ l : List Int, All2 F (l.map pI) (l.map V.int)
  | [] => .nil
  | i :: l => .cons rfl (all2_pI l)
theorem ee_map {d : Addr} {kvs : List (Int × List Int)} {q : Int} {l : List Int} (ha : Ee ρ w ta (pA d)) (hb : Ee ρ w tb (pI q)) (hm : (q, l) ∈ kvs) : Ee ρ w (tOp (R5.rMap K d kvs) ta tb) (pTup K (l.map pI)) :=
  ee_op ha hb fun x y F H Q hx hy g k => ⟨(q, l), hm, hx, hy, fun a ha => k _ F H (Step.refl g) ⟨a, _, rfl, ha F, all2_pI l⟩⟩
end
end J
/-! ## J5 -/
set_option Elab.async false
set_option linter.all false
set_option maxRecDepth 100000
set_option maxHeartbeats 1000000
namespace J
open PySem L2 LamX R4
section
variable {K : PySem.W.Frag} {ρ ρ' ρ1 : En} {w w' w1 w2 r : List Ow} {t u ta tb tc : TE} {P P' P1 P2 : Pr} {i : Nat}
/-- a table of code objects -/
def oTab (a : Addr) (q : Str) : Ow := ⟨a, fun F o => ∃ ps : Array Value, o = .tbl ps ∧ TriplesOk ps.toList ∧ ∀ (pos : Pos) (cv : Value), codeAmong pos ps.toList = some cv → ∃ c, cv = .ref c ∧ F c = some (CodeO c q), fun e ⟨ps, h1, h2, h3⟩ => ⟨ps, h1, h2, fun pos cv hc => let ⟨c, e1, e2⟩ := h3 pos cv hc; ⟨c, e1, e _ _ e2⟩⟩⟩
theorem Good.tab {a : Addr} {q : Str} {F H : Hp} (g : Good (w1 ++ oTab a q :: w2) F H) : TabS H a q := by
  obtain ⟨hF, o, ho, ps, rfl, h2, h3⟩ := g.ow (oTab a q) (by simp)
  exact ⟨ps, ho, h2, fun pos cv hc => let ⟨c, e1, e2⟩ := h3 pos cv hc; ⟨c, e1, g.ex _ _ e2⟩⟩
theorem Step.lam {a : Addr} {q : Str} {F H H2 : Hp} {c' : Addr} (g : Good (w1 ++ oTab a q :: w2) F H) (h : LamNew a q H H2 c') : ∃ F2, Step (w1 ++ oTab a q :: w2) (w1 ++ oTab a q :: w2) F H F2 H2 := by
  rcases h with ⟨rfl, hc⟩ | ⟨ps, ps', h1, h2, rfl, h3, h4⟩
  · exact ⟨F, Step.refl g⟩
  · obtain ⟨hF, o, ho, ps0, rfl, h5, h6⟩ := g.ow (oTab a q) (by simp)
    have ho : H a = some (.tbl ps0) := ho
    rw [h2] at ho
    cases ho
    have hca : c' ≠ a := fun z => by rw [z, h2] at h1; cases h1
    have s1 := Step.alloc (o := CodeO c' q) g h1
    have s2 := Step.write (w1 := w1) (w2 := w2) (e := oTab a q) (e' := oTab a q) (o := .tbl ps') s1.good rfl ⟨ps', rfl, h3, fun pos cv hcv => by
      rcases h4 pos cv hcv with z | z
      · obtain ⟨c, e1, e2⟩ := h6 pos cv z
        exact ⟨c, e1, s1.exF _ _ e2⟩
      · exact ⟨c', z, upd_same⟩⟩
    refine ⟨upd F c' (CodeO c' q), ?_⟩
    have e : upd (upd H c' (CodeO c' q)) (oTab a q).a (.tbl ps') = upd (upd H a (.tbl ps')) c' (CodeO c' q) := by
      funext b
      show upd (upd H c' (CodeO c' q)) a (.tbl ps') b = _
      by_cases hb : b = a
      · subst hb
        rw [upd_same, upd_ne (Ne.symm hca), upd_same]
      · rw [upd_ne hb]
        by_cases hb2 : b = c'
        · subst hb2; rw [upd_same, upd_same]
        · rw [upd_ne hb2, upd_ne hb2, upd_ne hb]
    have := s1.trans s2
    rwa [e] at this
theorem all2_perm {α : Type} {f : α → Pr} {F : Hp} : ∀ {ys vs : List V} {xs : List α}, ys.Perm vs → All2 F (xs.map f) vs → ∃ zs : List α, zs.Perm xs ∧ All2 F (zs.map f) ys := by
  intro ys vs xs p
  induction p generalizing xs with
  | nil => intro h; cases xs with
    | nil => exact ⟨[], List.Perm.refl _, .nil⟩
    | cons _ _ => cases h
  | cons x p ih => intro h; cases xs with
    | nil => cases h
    | cons y xs => cases h with
      | cons a b =>
        obtain ⟨z, h1, h2⟩ := ih b
        exact ⟨y :: z, h1.cons _, .cons a h2⟩
  | swap x y l => intro h; cases xs with
    | nil => cases h
    | cons u xs => cases xs with
      | nil => cases h with
        | cons a b => cases b
      | cons v xs => cases h with
        | cons a b => cases b with
          | cons c d => exact ⟨v :: u :: xs, List.Perm.swap _ _ _, .cons c (.cons a d)⟩
  | trans p q ih1 ih2 => intro h
                         obtain ⟨z, h1, h2⟩ := ih2 h
                         obtain ⟨z2, h3, h4⟩ := ih1 h2
                         exact ⟨z2, h3.trans h1, h4⟩
/-- sorted(xs, key=lambda one: one[0]) -/
theorem ev_sort {α : Type} {a : Addr} {q : Str} {xs : List α} {f : α → Pr} (n : α → Int) (rs : α → List Pr) (hf : ∀ x, f x = pTup K (pI (n x) :: rs x)) {ta : TA} (h : Ea ρ (w1 ++ oTab a q :: w2) ta [pLst (xs.map f)]) :
    Ev ρ (w1 ++ oTab a q :: w2) (tSortK K a q ta) (pEx fun zs : { zs : List α // zs.Perm xs } => pLst (zs.1.map f)) (w1 ++ oTab a q :: w2) := fun σ F H Q e g k =>
  h σ F H _ e g fun vs F1 H1 s1 p1 => by
    obtain ⟨v, rfl, l, ys, rfl, h2, h3⟩ := p1.one
    refine ⟨l, ys, xs.map n, rfl, SqL.of (s1.good.ex _ _ h2), ⟨by rw [List.length_map, ← h3.len, List.length_map], fun i x m hx hm => ?_⟩, s1.good.tab, fun H2 c' LN zs hp p hpn => ?_⟩
    · obtain ⟨P, hP, hv⟩ := h3.getV hx
      rw [List.getElem?_map] at hP hm
      cases hxi : xs[i]? with
      | none => rw [hxi] at hP; cases hP
      | some x0 =>
        rw [hxi] at hP hm
        cases hP
        cases hm
        rw [hf] at hv
        obtain ⟨t, us, rfl, q2, q3⟩ := hv
        cases q3 with
        | cons a1 a2 =>
          have a1 : _ = V.int (n x0) := a1
          subst a1
          exact ⟨t, _, rfl, s1.good.ex.t q2⟩
    · obtain ⟨F2, s2⟩ := Step.lam s1.good LN
      obtain ⟨us, hu1, hu2⟩ := all2_perm hp h3
      have s3 := Step.alloc (o := .lst zs) s2.good hpn
      exact k _ _ _ ((s1.trans s2).trans s3) ⟨⟨us, hu1⟩, p, zs, rfl, upd_same, hu2.mono (s2.trans s3).exF⟩
end
end J
/-! ## J6 -/
set_option Elab.async false
set_option linter.all false
set_option maxRecDepth 100000
set_option maxHeartbeats 1000000
namespace J
open PySem L2
section
variable {P : Program} {wd : World} {K : PySem.W.Frag} {mg : Str → Option Value} {base : Heap} {x qual : Str} {params : Arguments} {body : List Stmt} {scope : Scope} {dvs : List V} {kws : List (Str × V)} {fd : FuncData}
/-- .. the code object known -/
theorem fn_pmC {p : He.Defn} {I : Type} {pre : I → Prop} {ps : I → List Pr} {w w' : I → List Ow} {R : I → Pr} {N qs : List Str} {k : Nat} (F : FunD K x qual params body scope dvs kws (He.fAd K p) fd) (S : FnScope N qs scope) (hl : ∀ i, pre i → (ps i).length = qs.length)
    (hb : ∀ (A : Around) (outer : List Env) (s : Shared) (H : Hp) (E : XK), Room k (A.deeper (PyProof.Rows.envOfC qual scope s.heap.objs.size (He.fAd K p) (.ref (He.codeOf K p)))) → ∀ i, pre i →
      ∃ t, PSs (cxOf CX0 P wd K mg base N qual scope (He.fAd K p) (.ref (He.codeOf K p)) A outer s H E).nox body t ∧ Eb (startR N (ps i)) (w i) t (R i) (w' i)) : FnOk P wd K mg base CX0 (k + 1) (He.fAd K p) fd qs (Pm pre ps w R w') := by
  obtain ⟨oc, od, dV, kV, doc, pm, an, cdv, ct, osl, rfl, lk, hcd, _, _⟩ := F.ex
  obtain ⟨c, rfl⟩ := He.codeIn_ref hcd
  have e := He.codeOf_eq lk rfl
  refine fn_of lk hcd S (fun vs H Q E h => ?_) fun A outer s H vs Q E hr h => ?_
  · obtain ⟨i, Fz, hp, ha, _⟩ := h
    rw [← ha.len]
    exact hl i hp
  · obtain ⟨i, Fz, hp, ha, g, kk⟩ := h
    have hb' := hb A outer s H E
    rw [e] at hb'
    obtain ⟨t, h1, h2⟩ := hb' hr i hp
    exact ⟨t, h1.nox, h2 _ Fz H Q (env_start ha) g kk⟩
end
section
variable {K : PySem.W.Frag} {ρ ρ' ρ1 : En} {w w' w1 w2 r : List Ow} {t u ta tb tc : TE} {P P' P1 P2 : Pr} {i : Nat}
/-- pEx weakened inside an instance -/
theorem AllF.le {F : Hp} {f : Str} {P Q : Pr} (hpq : P.p F = Q.p F ∨ ∀ v, P.p F v → Q.p F v) : True := trivial
end
end J
/-! ## R6 -/
set_option Elab.async false
set_option linter.all false
set_option maxRecDepth 100000
set_option maxHeartbeats 1000000
/-! len(o) by an own __len__ -/
namespace R6
open PySem PySem.Spec PyProof.Rows L2 J
def rLenO (C : Addr) (sp : Sp) : List V → Hp → VK → Prop := fun xs H Q => ∃ a dx fs, xs = [.ref a] ∧ H a = some (.ins C dx fs) ∧ sp [.ref a] H (fun v H' => ∃ n : Int, v = .int n ∧ 0 ≤ n ∧ n < 2 ^ 62 ∧ Q (.int n) H') E0
theorem call_lenO {X : Cx} {C : Addr} {sp : Sp} {n : Nat} (M : CallM X.prog X.w X.K X.mg X.base n C "__len__" ["self"] [] sp) (hr : Room (n + 1) X.A) : CallR X (.builtin "len") (rLenO C sp) := by
  intro pins s σ H xs us Q I rv h
  obtain ⟨a, dx, fs, rfl, ha, hsp⟩ := h
  obtain ⟨u, rfl, ru⟩ := rv.one
  cases ru
  obtain ⟨fd, f, ds, FN, hm, bN, hd⟩ := M.ex
  cases hd
  obtain ⟨mA, J, _⟩ := ins_get I.hok ha
  obtain ⟨od, J, _⟩ := J.look
  refine Calls.call_function_entry kind_len plain_len entry_len (args_len1 _) ?_
  unfold Builtin.«len»
  refine wpAny_bind (m := oneArg "len" _) (wpAny_pure ?_)
  have sb : Sub X n X.A.in1 := Sub.in1 (⟨hr, rfl⟩ : Sub X (n + 1) X.A)
  have e0 : Env0 X.prog X.w X.K X.mg X.base X.A.in1 X.stack s H := by
    have e := I.env0
    exact ⟨by rw [sb.fr]; exact e.frames, e.mod, e.bs, e.bsz, e.funs, e.frf, e.hok, e.bare⟩
  refine wpAny_bind (m := callSpecial? (.ref a) (PySem.Str.ofString "__len__")) (PySem.W.special_fn (name := "__len__") (args := []) I.kIn J hm.at_ (beq_iff_eq.mp hm.fn) ?_)
  refine wpAny_call (codeAny_mono (FN.run X.A.in1 X.stack s H ⟨[.ref a], []⟩ [.ref a] [.ref a] _ E0 sb.room e0 (by
    have := bN s [.ref a] I.kIn (by simp)
    simpa using this) (.cons rfl .nil) hsp) fun r s' hq => ?_)
  cases r with
  | error e => exact (show False from hq).elim
  | ok fl =>
    cases fl with
    | ret u =>
      obtain ⟨v, H', I', rv', m, rfl, h0, h1, q⟩ := I.after hq
      obtain ⟨t, rfl⟩ := rv'
      refine wpAny_bind (wpAny_holding (wpAny_pure ?_))
      refine wpAny_bind (wpAny_letGo ?_)
      show wpAny _ _ (if m < 0 then _ else _) _ _ _
      rw [if_neg (by omega)]
      show wpAny _ _ (if m ≥ 2 ^ 63 then _ else _) _ _ _
      rw [if_neg (by omega)]
      exact wpAny_bind (wpAny_mkInt (wpAny_pure ⟨_, rfl, ⟨.int m, H', I'.tok _, ⟨_, rfl⟩, q⟩⟩))
    | next => exact False.elim hq
    | brk => exact False.elim hq
    | cont => exact False.elim hq
end R6
/-! ## J7 -/
set_option Elab.async false
set_option linter.all false
set_option maxRecDepth 100000
set_option maxHeartbeats 1000000
namespace J
open PySem L2
/-- an __init__ called with keywords -/
structure CallK (P : Program) (w : World) (K : PySem.W.Frag) (mg : Str → Option Value) (base : Heap) (k : Nat) (x : Str) (C : Addr) (ps : List Str) (n : Nat) (ks : List Str) (gV : List V → List V → List V) (sp : Sp) : Prop where
  ex : ∃ fd f g, FnOk P w K mg base CX0 k f fd ps sp ∧ mg x = some (.ref C) ∧ Mk K C f ∧ KBn K fd ps (n + 1) ks g gV
section
variable {X : Cx} {k j n : Nat} {x : Str} {ps ks : List Str} {sp : Sp} {C : Addr} {p pos : Pos} {e : Expr} {es : List Expr} {kws : List Keyword} {t tk : TA} {gV : List V → List V → List V}
theorem pe_makeKG (c : CallK X.prog X.w X.K X.mg X.base k x C ps n ks gV sp) (hr : Room j X.A) (hg : Gl X x) (ha : PA X (e :: es) t) (hkw : PK X kws tk) (hk : k + 1 ≤ j := by decide)
    (hall : (backToKw pos (keywordEach kws X.env)).all (·.1.isSome) = true := by rfl) (hks : (backToKw pos (keywordEach kws X.env)).filterMap (·.1) = ks := by rfl) (hdb : (x == ("__debug__" : Str)) = false := by decide)
    (he : starEach (e :: es) X.env = (false, eval e X.env) :: starEach es X.env := by rfl) (hpl : ((backTo pos (starEach (e :: es) X.env)).any (·.1) || (backToKw pos (keywordEach kws X.env)).any (·.1.isNone)) = false := by rfl) :
    PE X (.Call (.Name x p) (e :: es) kws pos) (tMakeK C n ks.length sp gV E0 t tk) := by
  obtain ⟨fd, f, g, F, hm, M, hb⟩ := c.ex
  exact pe_makeK M F (hr.mono hk) hg hm hb pass0 ha hkw hall hks hdb he hpl
end
section
variable {K : PySem.W.Frag} {ρ ρ' ρ1 : En} {w w' w1 w2 r u u' : List Ow} {t ta tb tc : TE} {P P' P1 P2 : Pr} {i : Nat}
theorem ev_makeK {C : Addr} {sp : Sp} {E : XK} {ta' tk : TA} {fs : List (Str × Pr)} {ps zs : List Pr} {n m : Nat} (h : Ea ρ (w ++ r) ta' ps) (hk : Ea ρ (w ++ r) tk zs) (hn : ps.length = n) (hm : zs.length = m)
    (hs : ∀ x, Tl sp (pA x :: (ps ++ zs)) (w ++ [oIns x C []]) pN (w' ++ [oIns x C fs])) : Ev ρ (w ++ r) (tMakeK C n m sp (fun vs zs => vs ++ zs) E ta' tk) (pIns C fs) (w' ++ r) := fun σ F H Q e g k =>
  h σ F H _ e g fun vs F1 H1 s1 p1 => hk σ F1 H1 _ (e.mono s1.exF) s1.good fun us F2 H2 s1' p2 => ⟨by rw [← p1.len, hn], by rw [← p2.len, hm], fun x dx hx hdx hne => by
    have s2 := ins_new (C := C) s1'.good.front hx hdx hne
    have s2' := s2.frame s1'.good
    refine hs x _ F2 _ _ E (.cons rfl ((p1.mono s1'.exF).append p2)) s2.good fun v F3 H3 s3 p3 => ⟨p3, ?_⟩
    have s3' := s3.frame (r := r) s2'.good
    obtain ⟨hF, o, ho, dx', gs, rfl, hg⟩ := s3.good.ow (oIns x C fs) (by simp)
    have s4 := Step.freeze (w1 := w') (w2 := r) (e := oIns x C fs) (o := .ins C dx' gs) (by have := s3'.good; rwa [List.append_assoc] at this) ho
    have s3'' : Step (w ++ [oIns x C []] ++ r) (w' ++ oIns x C fs :: r) F2 (upd (upd H2 dx (.own x)) x (.ins C dx [])) F3 H3 := by
      have := s3'
      rwa [List.append_assoc w'] at this
    exact k _ _ _ ((((s1.trans s1').trans s2').trans s3'').trans s4) ⟨x, dx', gs, rfl, upd_same, hg.1, hg.2.mono s4.exF⟩⟩
/-! ### the owned ones in another order -/
theorem Good.perm {F H : Hp} (g : Good w F H) (p : w.Perm u) : Good u F H := ⟨g.ex, fun e he => g.ow e (p.mem_iff.mpr he), (p.map _).nodup_iff.mp g.nd⟩
theorem Step.perm {F H F' H' : Hp} (s : Step w w' F H F' H') (p : w.Perm u) (p' : w'.Perm u') : Step u u' F H F' H' :=
  ⟨s.exF, s.good.perm p', fun a o h f n => s.keep a o h f fun e he => n e (p.mem_iff.mp he), fun e he => by
    rcases s.adr e (p'.mem_iff.mpr he) with ⟨d, hd, q⟩ | q
    · exact .inl ⟨d, p.mem_iff.mp hd, q⟩
    · exact .inr q, s.sm⟩
theorem Tl.perm {sp : Sp} {ps : List Pr} (h : Tl sp ps w P w') (p : w.Perm u) (p' : w'.Perm u') : Tl sp ps u P u' := fun vs F H Q E a g k => h vs F H Q E a (g.perm p.symm) fun v F' H' s q => k v F' H' (s.perm p p') q
theorem Tl.le {sp : Sp} {ps : List Pr} {R : Pr} (h : Tl sp ps w P w') (q : P.le R) : Tl sp ps w R w' := fun vs F H Q E a g k => h vs F H Q E a g fun v F' H' s p => k v F' H' s (q _ _ p)
theorem Es.ow_of {s1 : TS} (h : Es ρ w s1 ρ' w') (q : ∀ F H, Good w' F H → Step w' u F H F H) : Es ρ w s1 ρ' u := fun σ F H D en g k => h σ F H D en g fun σ' F' H' s en' => k σ' F' H' (s.trans (q F' H' s.good)) en'
/-- len(o) -/
theorem ee_lenO {C : Addr} {sp : Sp} {ta' : TA} {fs : List (Str × Pr)} {α : Type} {n : α → Int} (h : Ea ρ w ta' [pIns C fs]) (hs : Tl sp [pIns C fs] [] (pEx fun x : α => pI (n x)) []) (hn : ∀ x, 0 ≤ n x ∧ n x < 2 ^ 62) : Ee ρ w (tCB (R6.rLenO C sp) ta') (pEx fun x : α => pI (n x)) :=
  ee_cb h fun vs F H Q p g k => by
    obtain ⟨v, rfl, hv⟩ := p.one
    obtain ⟨a, dx, gs, rfl, h2, h3⟩ := id hv
    refine ⟨a, dx, gs, rfl, g.ex _ _ h2, ?_⟩
    refine hs _ F H _ E0 (.cons hv .nil) (Good.front (w := []) (r := w) g) fun v F' H' s q => ?_
    obtain ⟨x, hx⟩ := id q
    have hx : v = .int (n x) := hx
    subst hx
    exact ⟨n x, rfl, (hn x).1, (hn x).2, k _ F' H' (s.frame (w := []) (w' := []) (r := w) g) q⟩
end
end J
/-! ## J8 -/
set_option Elab.async false
set_option linter.all false
set_option maxRecDepth 100000
set_option maxHeartbeats 1000000
namespace J
open PySem L2
section
variable {K : PySem.W.Frag} {ρ ρ' ρ1 : En} {w w' w1 w2 r u u' : List Ow} {t ta tb tc : TE} {P P' P1 P2 : Pr} {i : Nat}
theorem ee_tupC {a : Addr} {l : List Int} (h : ∀ H, SqT K H a (l.map V.int)) : Ee ρ w (tC (.ref a)) (pRow K l) := fun σ F H Q e g k => k _ F H (Step.refl g) ⟨a, _, rfl, h F, all2_pI l⟩
/-- while: n turns -/
theorem es_while {c : TT} {tb' : TS} (n : Nat) (R : Nat → En) (W : Nat → List Ow) (hw : W 0 = w) (h0 : Sub ρ (R 0)) (hc : ∀ k, k < n → Et (R k) (W k) c true) (hs : ∀ k, k < n → ∃ ρy, Es (R k) (W k) tb' ρy (W (k + 1)) ∧ Sub ρy (R (k + 1))) (hd : Et (R n) (W n) c false) : Es ρ w (tWhile c tb') (R n) (W n) := fun σ F H D e gd k => by
  subst hw
  refine ⟨fun m σ' H' => m ≤ n ∧ ∃ F', Step (W 0) (W (n - m)) F H F' H' ∧ EnvR (R (n - m)) σ' F', ⟨n, Nat.le_refl _, F, by rw [Nat.sub_self]; exact Step.refl gd, by rw [Nat.sub_self]; exact e.sub h0⟩, ?_⟩
  rintro m σ1 H1 ⟨hm, F1, t1, e1⟩
  by_cases hz : m = 0
  · subst hz
    refine hd σ1 F1 H1 _ e1 t1.good fun F2 H2 t2 => ?_
    show (if false = true then _ else _)
    rw [if_neg Bool.false_ne_true]
    exact k σ1 F2 H2 (t1.trans t2) (e1.mono t2.exF)
  · have hk : n - m < n := by omega
    have e2 : n - (m - 1) = n - m + 1 := by omega
    refine hc (n - m) hk σ1 F1 H1 _ e1 t1.good fun F2 H2 t2 => ?_
    show (if true = true then _ else _)
    rw [if_pos rfl]
    obtain ⟨ρy, hb, hsb⟩ := hs (n - m) hk
    refine ⟨fun σ' H' => ∃ F', Step (W 0) (W (n - m + 1)) F H F' H' ∧ EnvR (R (n - m + 1)) σ' F', fun σ' H' ⟨F', a, b⟩ => ⟨m - 1, by omega, by omega, F', by rw [e2]; exact a, by rw [e2]; exact b⟩, ?_⟩
    exact hb σ1 F2 H2 _ (e1.mono t2.exF) t2.good fun σ' F' H' s e' => ⟨F', (t1.trans t2).trans s, e'.sub hsb⟩
/-- a dict of int keys -/
def pDict (kvs : List (Key × V)) : Pr := ⟨fun F v => ∃ a, v = .ref a ∧ F a = some (.dK kvs), fun e ⟨a, h1, h2⟩ => ⟨a, h1, e _ _ h2⟩⟩
theorem ee_disp4 {a1 a2 a3 a4 b1 b2 b3 b4 : Int} (hm : mergeK [] [(Sum.inl a1, V.int b1), (Sum.inl a2, V.int b2), (Sum.inl a3, V.int b3), (Sum.inl a4, V.int b4)] = ([(Sum.inl a1, V.int b1), (Sum.inl a2, V.int b2), (Sum.inl a3, V.int b3), (Sum.inl a4, V.int b4)] : List (Key × V))) :
    Ee ρ w (tDisp [(tC (.int a1), tC (.int b1)), (tC (.int a2), tC (.int b2)), (tC (.int a3), tC (.int b3)), (tC (.int a4), tC (.int b4))]) (pDict [(Sum.inl a1, V.int b1), (Sum.inl a2, V.int b2), (Sum.inl a3, V.int b3), (Sum.inl a4, V.int b4)]) := fun σ F H Q e g k p hp => by
  refine ⟨upd_same, [(Sum.inl a1, V.int b1), (Sum.inl a2, V.int b2), (Sum.inl a3, V.int b3), (Sum.inl a4, V.int b4)], rfl, by simp, ?_⟩
  rw [hm, upd_upd]
  have s := Step.alloc (o := .dK [(Sum.inl a1, V.int b1), (Sum.inl a2, V.int b2), (Sum.inl a3, V.int b3), (Sum.inl a4, V.int b4)]) g hp
  exact k _ _ _ s ⟨p, rfl, upd_same⟩
theorem ee_dget2 {kvs : List (Key × V)} {k : Int} {z : V} (ha : Ee ρ w ta (pDict kvs)) (hb : Ee ρ w tb (pI k)) (hc : Ee ρ w tc (pV z)) : Ee ρ w (tDGet2 ta tb tc) (pV ((valV kvs (Sum.inl k)).getD z)) := fun σ F H Q e g kk =>
  ha σ F H _ e g fun v F1 H1 s1 ⟨a, h1, h2⟩ => ⟨a, h1, .inl ⟨kvs, .inl (s1.good.ex _ _ h2)⟩, hb σ F1 H1 _ (e.mono s1.exF) s1.good fun y F2 H2 s2 p2 => hc σ F2 H2 _ (e.mono (s1.trans s2).exF) s2.good fun zv F3 H3 s3 p3 => by
    have p2 : y = .int k := p2
    have p3 : zv = z := p3
    subst p2 p3
    exact ⟨_, .inl ⟨kvs, Sum.inl k, .inl (s3.good.ex _ _ ((s2.trans s3).exF _ _ h2)), rfl, rfl⟩, kk _ F3 H3 ((s1.trans s2).trans s3) rfl⟩⟩
theorem ee_dget {kvs : List (Key × V)} {k : Int} {z : V} (ha : Ee ρ w ta (pDict kvs)) (hb : Ee ρ w tb (pI k)) (hz : valV kvs (Sum.inl k) = some z) : Ee ρ w (tDGet ta tb) (pV z) := fun σ F H Q e g kk =>
  ha σ F H _ e g fun v F1 H1 s1 ⟨a, h1, h2⟩ => hb σ F1 H1 _ (e.mono s1.exF) s1.good fun y F2 H2 s2 p2 => by
    have p2 : y = .int k := p2
    subst p2
    exact ⟨a, z, h1, .inl ⟨kvs, Sum.inl k, .inl (s2.good.ex _ _ (s2.exF _ _ h2)), rfl, hz.symm⟩, kk _ F2 H2 (s1.trans s2) rfl⟩
end
end J
/-! ## J9 -/
set_option Elab.async false
set_option linter.all false
set_option maxRecDepth 100000
set_option maxHeartbeats 1000000
namespace J
open PySem L2
section
variable {K : PySem.W.Frag} {ρ ρ' ρ1 : En} {w w' w1 w2 w3 r u u' : List Ow} {t ta tb tc : TE} {P P' P1 P2 : Pr} {i : Nat}
theorem ee_notIn {l : List Int} {k : Int} (ha : Ee ρ w ta (pI k)) (hb : Ee ρ w tb (pRow K l)) (hk : inV (.int k) (l.map V.int) = true) : Ee ρ w (tOp (rIn K true) ta tb) (pB false) :=
  ee_op ha hb fun x y F H Q hx hy g kk => by
    obtain ⟨a, vs, rfl, h2, h3⟩ := hy
    have e := h3.vals (g := fun x => V.int x)
    subst e
    have hx : x = .int k := hx
    subst hx
    refine ⟨a, _, rfl, .inr (g.ex.t h2), rfl, ?_, ?_⟩
    · rw [List.all_eq_true]
      intro v hv
      obtain ⟨z, _, rfl⟩ := List.mem_map.mp hv
      rfl
    · rw [hk]; exact kk _ F H (Step.refl g) rfl
/-- xs.extend(ys) -/
theorem es_extend {a : Addr} {ps qs : List Pr} (hi : ρ[i]? = some (some (pA a))) (he : Ee ρ (w1 ++ oLst a ps :: w2) t (pLst qs)) (hl : ps.length + qs.length ≤ 100000) : Es ρ (w1 ++ oLst a ps :: w2) (tDrop (tBM K "list" rExtend (tVar i) (tCons t tNil))) ρ (w1 ++ oLst a (ps ++ qs) :: w2) := fun σ F H D e g k => by
  obtain ⟨v, h1, h2⟩ := e.at_ i _ hi
  have h2 : v = .ref a := h2
  subst h2
  obtain ⟨hF, o, ho, vs, rfl, hv⟩ := g.ow (oLst a ps) (by simp)
  refine ⟨.ref a, h1, Or.inl ⟨rfl, _, SqL.of ho⟩, he σ F H _ e g fun y F1 H1 s1 p1 => ?_⟩
  obtain ⟨b, us, rfl, h5, h6⟩ := p1
  obtain ⟨hF1, o1, ho1, vs1, rfl, hv1⟩ := s1.good.ow (oLst a ps) (by simp)
  have s2 := Step.write (w1 := w1) (w2 := w2) (e := oLst a ps) (e' := oLst a (ps ++ qs)) (o := .lst (vs1 ++ us)) s1.good rfl ⟨_, rfl, hv1.append h6⟩
  exact ⟨a, b, vs1, us, rfl, rfl, ho1, s1.good.ex _ _ h5, Nat.le_trans (by rw [← hv1.len, ← h6.len]; exact hl) (by decide : 100000 ≤ sizeLine), k σ F1 _ (s1.trans s2) (e.mono (s1.trans s2).exF)⟩
/-- a statement that falls through or returns -/
def Esr (ρ : En) (w : List Ow) (t : TS) (ρ' : En) (w' : List Ow) (P : Pr) (w2 : List Ow) : Prop :=
  ∀ σ F H D, EnvR ρ σ F → Good w F H → (∀ σ' F' H', Step w w' F H F' H' → EnvR ρ' σ' F' → D.nx σ' H') → (∀ v F' H', Step w w2 F H F' H' → P.p F' v → D.rt v H') → t D σ H
theorem Es.esr {s1 : TS} (h : Es ρ w s1 ρ' w') : Esr ρ w s1 ρ' w' P w2 := fun σ F H D e g k _ => h σ F H D e g k
theorem esr_ifr {c : TT} {b : Bool} {s1 s2 : TS} (h : Et ρ w c b) (h1 : b = true → Er ρ w s1 P w2) (h2 : b = false → Es ρ w s2 ρ' w') : Esr ρ w (tSeq (tIfS c s1 tNext) s2) ρ' w' P w2 := fun σ F H D e g k q => h σ F H _ e g fun F1 H1 t1 => by
  cases b with
  | true =>
    show s1 { D with nx := s2 D } σ H1
    exact h1 rfl σ F1 H1 _ (e.mono t1.exF) t1.good fun v F2 H2 t2 => q v F2 H2 (t1.trans t2)
  | false =>
    show s2 D σ H1
    exact h2 rfl σ F1 H1 D (e.mono t1.exF) t1.good fun σ' F2 H2 t2 => k σ' F2 H2 (t1.trans t2)
theorem er_seqR {s1 s2 : TS} (h1 : Esr ρ w s1 ρ1 w1 P w') (h2 : Er ρ1 w1 s2 P w') : Er ρ w (tSeq s1 s2) P w' := fun σ F H D e g k =>
  h1 σ F H { D with nx := s2 D } e g (fun σ1 F1 H1 t1 e1 => h2 σ1 F1 H1 D e1 t1.good fun v F2 H2 t2 p2 => k v F2 H2 (t1.trans t2) p2) fun v F1 H1 t1 p1 => k v F1 H1 t1 p1
theorem esr_seq {s1 s2 : TS} (h1 : Es ρ w s1 ρ1 w1) (h2 : Esr ρ1 w1 s2 ρ' w' P w2) : Esr ρ w (tSeq s1 s2) ρ' w' P w2 := fun σ F H D e g k q =>
  h1 σ F H { D with nx := s2 D } e g fun σ1 F1 H1 t1 e1 => h2 σ1 F1 H1 D e1 t1.good (fun σ2 F2 H2 t2 e2 => k σ2 F2 H2 (t1.trans t2) e2) fun v F2 H2 t2 p2 => q v F2 H2 (t1.trans t2) p2
theorem esr_seqR {s1 s2 : TS} (h1 : Esr ρ w s1 ρ1 w1 P w2) (h2 : Esr ρ1 w1 s2 ρ' w' P w2) : Esr ρ w (tSeq s1 s2) ρ' w' P w2 := fun σ F H D e g k q =>
  h1 σ F H { D with nx := s2 D } e g (fun σ1 F1 H1 t1 e1 => h2 σ1 F1 H1 D e1 t1.good (fun σ2 F2 H2 t2 e2 => k σ2 F2 H2 (t1.trans t2) e2) fun v F2 H2 t2 p2 => q v F2 H2 (t1.trans t2) p2) fun v F1 H1 t1 p1 => q v F1 H1 t1 p1
theorem esr_if {c : TT} {b : Bool} {s1 s2 : TS} (h : Et ρ w c b) (h1 : b = true → Esr ρ w s1 ρ' w' P w2) (h2 : b = false → Esr ρ w s2 ρ' w' P w2) : Esr ρ w (tIfS c s1 s2) ρ' w' P w2 := fun σ F H D e g k q => h σ F H _ e g fun F1 H1 t1 => by
  cases b with
  | true =>
    show s1 D σ H1
    exact h1 rfl σ F1 H1 D (e.mono t1.exF) t1.good (fun σ' F2 H2 t2 => k σ' F2 H2 (t1.trans t2)) fun v F2 H2 t2 => q v F2 H2 (t1.trans t2)
  | false =>
    show s2 D σ H1
    exact h2 rfl σ F1 H1 D (e.mono t1.exF) t1.good (fun σ' F2 H2 t2 => k σ' F2 H2 (t1.trans t2)) fun v F2 H2 t2 => q v F2 H2 (t1.trans t2)
theorem Er.esr {s1 : TS} (h : Er ρ w s1 P w2) : Esr ρ w s1 ρ' w' P w2 := fun σ F H D e g _ q => h σ F H D e g q
/-- a loop whose body may return, then the rest -/
theorem er_forN {wi : TI} {g : TG} {f : Nat → Pr} {tb' s2 : TS} (n : Nat) (R : Nat → En) (W : Nat → List Ow) (hw : W 0 = w) (h0 : Sub ρ (R 0)) (hi : Ei ρ w wi ((List.range n).map f))
    (hs : ∀ i, i < n → ∃ ρx ρy, Eg g (f i) (R i) ρx ∧ Esr ρx (W i) tb' ρy (W (i + 1)) P w' ∧ Sub ρy (R (i + 1))) (hr : Er (R n) (W n) s2 P w') : Er ρ w (tSeq (tFor wi g tb') s2) P w' := fun σ F H D e gd k => by
  subst hw
  refine hi σ F H _ e gd fun J F0 H0 t0 it => ?_
  refine ⟨fun i m σ' H' => m = n - i ∧ i ≤ n ∧ ∃ F', Step (W 0) (W i) F H F' H' ∧ EnvR (R i) σ' F' ∧ Ext F0 F', ⟨n, rfl, Nat.zero_le _, F0, t0, (e.mono t0.exF).sub h0, Ext.refl _⟩, ?_⟩
  rintro i m σ1 H1 ⟨rfl, hil, F1, t1, e1, x1⟩
  obtain ⟨itg, its⟩ := it F1 H1 x1 t1.good.ex
  by_cases hlt : i < n
  · obtain ⟨hgo, hy⟩ := itg i (f i) (by rw [List.getElem?_map, List.getElem?_range hlt]; rfl)
    refine .inr ⟨hgo, fun σ' H' => ∃ F', Step (W 0) (W (i + 1)) F H F' H' ∧ EnvR (R (i + 1)) σ' F' ∧ Ext F0 F', fun σ' H' ⟨F', a, b, c⟩ => ⟨n - (i + 1), by omega, rfl, by omega, F', a, b, c⟩, fun x H2 y => ?_⟩
    obtain ⟨F2, gr, p2⟩ := hy x H2 y
    have t2 := gr.st (W i) t1.good
    obtain ⟨ρx, ρy, hg, hb, hsb⟩ := hs i hlt
    refine hg x σ1 F2 H2 _ (e1.mono t2.exF) t2.good.ex p2 fun σ3 e3 => ?_
    refine hb σ3 F2 H2 _ e3 t2.good (fun σ4 F4 H4 t4 e4 => ⟨F4, (t1.trans t2).trans t4, e4.sub hsb, (x1.trans t2.exF).trans t4.exF⟩) fun v F4 H4 t4 p4 => ?_
    exact k v F4 H4 ((t1.trans t2).trans t4) p4
  · have ei : i = n := by omega
    subst ei
    rw [List.length_map, List.length_range] at its
    exact .inl ⟨its, hr σ1 F1 H1 D e1 t1.good fun v F4 H4 t4 p4 => k v F4 H4 (t1.trans t4) p4⟩
end
end J
/-! ## W2 -/
set_option Elab.async false
set_option linter.all false
set_option maxRecDepth 100000
set_option maxHeartbeats 4000000
namespace J
open PySem L2 KT
local macro_rules | `(tactic| walk_at "sub") => `(tactic| repeat (first | exact Sub.nil | (with_reducible refine Sub.keep (Pr.le_refl _) ?_) | refine Sub.drop ?_ | refine Sub.keepV (by first | rfl | (simp; done) | omega) ?_ | refine Sub.keep (Pr.le_refl _) ?_))
section
variable {P : Program} {wd : World} {K : PySem.W.Frag} {mg : Str → Option Value} {base : Heap}
/-- a Field -/
abbrev pFd (K : PySem.W.Frag) (q p n : Int) : Pr := pIns (He.ga K "Field") (fdF q p n)
theorem take_fold {α β : Type} {g : β → α → β} {b : β} {l : List α} {i : Nat} {x : α} (h : l[i]? = some x) : (l.take (i + 1)).foldl g b = g ((l.take i).foldl g b) x := by
  rw [List.take_add_one, h, List.foldl_append]
  rfl
def sp_Field_size (K : PySem.W.Frag) : Sp := Pm (I := Int × Int × Int) (fun _ => True) (fun i => [pFd K i.1 i.2.1 i.2.2]) (fun _ => []) (fun i => pI i.1) (fun _ => [])
theorem tl_Field_size {q p n : Int} : Tl (sp_Field_size K) [pFd K q p n] [] (pI q) [] := tl_pm (I := Int × Int × Int) (q, p, n) trivial
abbrev C_Field_size (P : Program) (wd : World) (K : PySem.W.Frag) (mg : Str → Option Value) (base : Heap) : Prop := CallM P wd K mg base 1 (He.ga K "Field") "size" ["self"] [] (sp_Field_size K)
theorem ok_Field_size (T : Tx K mg)  : C_Field_size P wd K mg base := by
  obtain ⟨fd, F⟩ := fd_Field_size T
  have G : FnOk P wd K mg base CX0 1 _ fd ["self"] (sp_Field_size K) := fn_pm F sc_Field_size (fun _ _ => rfl) (fun cdv A outer s H E hr i hi => by
    exact ⟨_, (pss_one (ps_ret (KX.fld (K := K) (pv 0) rfl))), Er.eb (er_ret (ee_fld (ee_var rfl) (cl_Field T) (na_Field_many T) rfl))⟩
)
  exact ⟨fd, _, [], G, me_Field_size T, F.bindsN (fun _ _ _ _ _ _ us hl => match us, hl with | [_], _ => rfl), .nil⟩
def sp_Field_has (K : PySem.W.Frag) : Sp := Pm (I := (Int × Int × Int) × Int) (fun _ => True) (fun i => [pFd K i.1.1 i.1.2.1 i.1.2.2, pI i.2]) (fun _ => []) (fun i => pB (decide (0 ≤ i.2) && decide (i.2 < i.1.1))) (fun _ => [])
theorem tl_Field_has {q p n x : Int} : Tl (sp_Field_has K) [pFd K q p n, pI x] [] (pB (decide (0 ≤ x) && decide (x < q))) [] := tl_pm (I := (Int × Int × Int) × Int) ((q, p, n), x) trivial
abbrev C_Field_has (P : Program) (wd : World) (K : PySem.W.Frag) (mg : Str → Option Value) (base : Heap) : Prop := CallM P wd K mg base 1 (He.ga K "Field") "has" ["self", "one"] [] (sp_Field_has K)
theorem ok_Field_has (T : Tx K mg)  : C_Field_has P wd K mg base := by
  obtain ⟨fd, F⟩ := fd_Field_has T
  have G : FnOk P wd K mg base CX0 1 _ fd ["self", "one"] (sp_Field_has K) := fn_pm F sc_Field_has (fun _ _ => rfl) (fun cdv A outer s H E hr i hi => by
    exact ⟨_, (pss_one (ps_ret (pe_chain op_le op_lt pe_int (pv 1) (KX.fld (K := K) (pv 0) rfl)))), Er.eb (er_ret (ee_chainI (f := fun i j => decide (i ≤ j)) (g := fun i j => decide (i < j)) ee_c (ee_var rfl) (ee_fld (ee_var rfl) (cl_Field T) (na_Field_many T) rfl)))⟩
)
  exact ⟨fd, _, [], G, me_Field_has T, F.bindsN (fun _ _ _ _ _ _ us hl => match us, hl with | [_, _], _ => rfl), .nil⟩
def sp_Field_need (K : PySem.W.Frag) : Sp := Pm (I := (Int × Int × Int) × Int) (fun i => 0 ≤ i.2 ∧ i.2 < i.1.1) (fun i => [pFd K i.1.1 i.1.2.1 i.1.2.2, pI i.2]) (fun _ => []) (fun i => pN) (fun _ => [])
theorem tl_Field_need {q p n x : Int} (h : 0 ≤ x ∧ x < q) : Tl (sp_Field_need K) [pFd K q p n, pI x] [] pN [] := tl_pm (I := (Int × Int × Int) × Int) ((q, p, n), x) h
abbrev C_Field_need (P : Program) (wd : World) (K : PySem.W.Frag) (mg : Str → Option Value) (base : Heap) : Prop := CallM P wd K mg base 2 (He.ga K "Field") "need" ["self", "one"] [] (sp_Field_need K)
theorem ok_Field_need (T : Tx K mg) (c_Field_has : C_Field_has P wd K mg base) : C_Field_need P wd K mg base := by
  obtain ⟨fd, F⟩ := fd_Field_need T
  have G : FnOk P wd K mg base CX0 2 _ fd ["self", "one"] (sp_Field_need K) := fn_pm F sc_Field_need (fun _ _ => rfl) (fun cdv A outer s H E hr i hi => by
    obtain ⟨h0, h1⟩ := hi
    exact ⟨_, (pss_one (ps_if (pt_not (pt_val (pe_methG (pv 0) (cl_Field T) c_Field_has hr (pa_cons (pv 1) pa_nil)))) (pss_one ps_never) pss_nil)), Es.eb (es_if (b := false) (Et.is (et_not (et_B (ee_meth (ee_var rfl) rfl (ea_cons (ee_var rfl) ea_nil) (tl_pm i trivial)))) (by simp [h0, h1])) (fun z => by cases z) (fun _ => es_next))⟩
)
  exact ⟨fd, _, [], G, me_Field_need T, F.bindsN (fun _ _ _ _ _ _ us hl => match us, hl with | [_, _], _ => rfl), .nil⟩
def sp_Field_figures (K : PySem.W.Frag) : Sp := Pm (I := (Int × Int × Nat) × Int) (fun i => 0 < i.1.2.1 ∧ i.1.2.1 < 1000 ∧ i.1.2.2 < 1000) (fun i => [pFd K i.1.1 i.1.2.1 i.1.2.2, pI i.2]) (fun _ => []) (fun i => pLst ((KM.figsI i.1.2.1 i.1.2.2 i.2).map pI)) (fun _ => [])
theorem figs_len (p : Int) (n : Nat) (x : Int) : (KM.figsI p n x).length = n := by simp [KM.figsI]
theorem figs_snoc (p : Int) (n : Nat) (x : Int) : KM.figsI p (n + 1) x = KM.figsI p n x ++ [x / p ^ n % p] := by simp [KM.figsI, List.range_succ]
theorem tl_Field_figures {q p : Int} {n : Nat} {x : Int} (h : 0 < p ∧ p < 1000 ∧ n < 1000) : Tl (sp_Field_figures K) [pFd K q p n, pI x] [] (pLst ((KM.figsI p n x).map pI)) [] := tl_pm (I := (Int × Int × Nat) × Int) ((q, p, n), x) h
abbrev C_Field_figures (P : Program) (wd : World) (K : PySem.W.Frag) (mg : Str → Option Value) (base : Heap) : Prop := CallM P wd K mg base 1 (He.ga K "Field") "figures" ["self", "one"] [] (sp_Field_figures K)
theorem ok_Field_figures (T : Tx K mg)  : C_Field_figures P wd K mg base := by
  obtain ⟨fd, F⟩ := fd_Field_figures T
  have G : FnOk P wd K mg base CX0 1 _ fd ["self", "one"] (sp_Field_figures K) := fn_pm F sc_Field_figures (fun _ _ => rfl) (fun cdv A outer s H E hr i hi => by
    obtain ⟨⟨q, p, n⟩, x⟩ := i
    obtain ⟨h0, h1, h2⟩ : 0 < p ∧ p < 1000 ∧ n < 1000 := hi
    refine ⟨_, (pss_cons (ps_set (i := 2) sc_Field_figures.nd rfl (Or.inl rfl) (pe_lst pa_nil))
      (pss_cons (ps_for PassesOwn.never rfl (pi_range1 (by rfl) (fr_range T) (pa_cons (KX.fld (K := K) (pv 0) rfl) pa_nil)) (pg_name (i := 3) sc_Field_figures.nd rfl (Or.inl rfl)) (pss_cons (ps_asg (pe_callB call_divmod (by rfl) (fr_divmod T) (by decide +kernel) (pa_cons (pv 1) (pa_cons (KX.fld (K := K) (pv 0) rfl) pa_nil))) (KX.gT (K := K) (n := 2) (by rfl) (pgs_cons (pg_name (i := 1) sc_Field_figures.nd rfl (Or.inl rfl)) (pgs_cons (pg_name (i := 4) sc_Field_figures.nd rfl (Or.inl rfl)) pgs_nil))))
      (pss_one (ps_expr (pe_bm PySem.F.plainAttrs_list PySem.F.slot_list_append PySem.F.type_list_append mt_append (pv 2) (pa_cons (pv 4) pa_nil))))))
      (pss_one (ps_ret (pv 2))))), Er.eb (er_newOwn ea_nil (by decide) (fun a => er_seq (es_forN n (fun k => [some (pFd K q p n), some (pI (x / p ^ k)), some (pA a), none, none]) (fun k => [oLst a ((KM.figsI p k x).map pI)]) rfl ?_ (ei_rng1 (n := n) (ea_cons (ee_fld (ee_var rfl) (cl_Field T) (na_Field_places T) rfl) ea_nil) (by omega)) (fun k hk => ?_)) (Er.freeze (i := 2) (w := []) (w2 := []) rfl (er_ret (ee_var rfl)))))⟩
    · rw [show x / p ^ 0 = x by simp]
      walk_at "sub"
    · refine ⟨_, _, eg_name, es_seq (es_asgG (ee_divmod (i := x / p ^ k) (j := p) (ea_cons (ee_var rfl) (ea_cons (ee_fld (ee_var rfl) (cl_Field T) (na_Field_prime T) rfl) ea_nil)) ⟨h0, by omega⟩) (fun _ e => by subst e; exact eg_tup2 eg_name eg_name)) (Es.is (es_append (w := []) (w2 := []) rfl (ee_var rfl) ?_) (by rw [figs_snoc, List.map_append]; rfl)), ?_⟩
      · simp [KM.figsI]; omega
      · rw [show x / p ^ (k + 1) = x / p ^ k / p by rw [Int.pow_succ, Int.ediv_ediv_of_nonneg (Int.pow_nonneg (by omega))]]
        walk_at "sub"
)
  exact ⟨fd, _, [], G, me_Field_figures T, F.bindsN (fun _ _ _ _ _ _ us hl => match us, hl with | [_, _], _ => rfl), .nil⟩
end
end J
/-! ## W3 -/
set_option Elab.async false
set_option linter.all false
set_option maxRecDepth 100000
set_option maxHeartbeats 4000000
namespace J
open PySem L2 KT
local macro_rules | `(tactic| walk_at "sub") => `(tactic| repeat (first | exact Sub.nil | (with_reducible refine Sub.keep (Pr.le_refl _) ?_) | refine Sub.drop ?_ | refine Sub.keepV (by first | rfl | (simp; done) | omega) ?_ | refine Sub.keep (Pr.le_refl _) ?_))
section
variable {P : Program} {wd : World} {K : PySem.W.Frag} {mg : Str → Option Value} {base : Heap}
theorem compI_rev (p : Int) (l : List Int) : KM.compI p l = l.reverse.foldl (fun acc f => acc * p + f % p) 0 := by
  unfold KM.compI
  rw [List.foldl_reverse]
def sp_Field_composed (K : PySem.W.Frag) : Sp := Pm (I := (Int × Int × Int) × List Int) (fun i => 0 < i.1.2.1 ∧ i.1.2.1 < 1000) (fun i => [pFd K i.1.1 i.1.2.1 i.1.2.2, pLst (i.2.map pI)]) (fun _ => []) (fun i => pI (KM.compI i.1.2.1 i.2)) (fun _ => [])
theorem tl_Field_composed {q p n : Int} {l : List Int} (h : 0 < p ∧ p < 1000) : Tl (sp_Field_composed K) [pFd K q p n, pLst (l.map pI)] [] (pI (KM.compI p l)) [] := tl_pm (I := (Int × Int × Int) × List Int) ((q, p, n), l) h
abbrev C_Field_composed (P : Program) (wd : World) (K : PySem.W.Frag) (mg : Str → Option Value) (base : Heap) : Prop := CallM P wd K mg base 1 (He.ga K "Field") "composed" ["self", "figures"] [] (sp_Field_composed K)
theorem ok_Field_composed (T : Tx K mg)  : C_Field_composed P wd K mg base := by
  obtain ⟨fd, F⟩ := fd_Field_composed T
  have G : FnOk P wd K mg base CX0 1 _ fd ["self", "figures"] (sp_Field_composed K) := fn_pm F sc_Field_composed (fun _ _ => rfl) (fun cdv A outer s H E hr i hi => by
    obtain ⟨⟨q, p, n⟩, l⟩ := i
    obtain ⟨h0, h1⟩ : 0 < p ∧ p < 1000 := hi
    refine ⟨_, (pss_cons (ps_set (i := 2) sc_Field_composed.nd rfl (Or.inl rfl) pe_int)
      (pss_cons (ps_for PassesOwn.never rfl (KX.iR (K := K) (by rfl) (fr_reversed T) (pa_cons (pv 1) pa_nil)) (pg_name (i := 3) sc_Field_composed.nd rfl (Or.inl rfl)) (pss_one (ps_set (i := 2) sc_Field_composed.nd rfl (Or.inl rfl) (pe_op op_add (pe_op op_mul (pv 2) (KX.fld (K := K) (pv 0) rfl)) (pe_op op_mod (pv 3) (KX.fld (K := K) (pv 0) rfl))))))
      (pss_one (ps_ret (pv 2))))), Er.eb (er_seq (es_set ee_c) (er_seq (es_forM l.reverse pI (fun k => [some (pFd K q p n), some (pLst (l.map pI)), some (pI ((l.reverse.take k).foldl (fun acc f => acc * p + f % p) 0)), none]) (fun _ => []) rfl (by walk_at "sub") (ei_rev l pI (ea_cons (ee_var rfl) ea_nil)) (fun k x hx => ?_)) ((er_ret (ee_var rfl)).is ?_)))⟩
    · refine ⟨_, _, eg_name, es_set (ee_I0 (ee_I (ee_var rfl) (ee_fld (ee_var rfl) (cl_Field T) (na_Field_prime T) rfl) (.inr ⟨by omega, by omega⟩)) (ee_I (ee_var rfl) (ee_fld (ee_var rfl) (cl_Field T) (na_Field_prime T) rfl) h0)), ?_⟩
      rw [take_fold hx]
      walk_at "sub"
    · rw [List.take_length, compI_rev]
)
  exact ⟨fd, _, [], G, me_Field_composed T, F.bindsN (fun _ _ _ _ _ _ us hl => match us, hl with | [_, _], _ => rfl), .nil⟩
theorem zipIdx_zip (s : Int) (a b : List Int) (h : a.length = b.length) : (a.zipIdx.map fun p => p.1 + s * (b[p.2]?).getD 0) = a.zipWith (fun l r => l + s * r) b := by
  refine List.ext_getElem (by simp [h]) fun i h1 h2 => ?_
  simp only [List.length_map, List.length_zipIdx] at h1
  simp [List.getElem?_eq_getElem (h ▸ h1 : i < b.length)]
def sp_Field_added (K : PySem.W.Frag) : Sp := Pm (I := Nat × Int × Int × Int) (fun i => i.1 ∈ KM.sizes ∧ -1 ≤ i.2.2.2 ∧ i.2.2.2 ≤ 1) (fun i => [pFd K i.1 (KM.prN i.1) (KM.plN i.1), pI i.2.1, pI i.2.2.1, pI i.2.2.2]) (fun _ => []) (fun i => pI (KM.addI i.1 i.2.1 i.2.2.1 i.2.2.2)) (fun _ => [])
theorem tl_Field_added {q : Nat} {a b sg : Int} (h : q ∈ KM.sizes ∧ -1 ≤ sg ∧ sg ≤ 1) : Tl (sp_Field_added K) [pFd K q (KM.prN q) (KM.plN q), pI a, pI b, pI sg] [] (pI (KM.addI q a b sg)) [] := tl_pm (I := Nat × Int × Int × Int) (q, a, b, sg) h
abbrev C_Field_added (P : Program) (wd : World) (K : PySem.W.Frag) (mg : Str → Option Value) (base : Heap) : Prop := CallM P wd K mg base 2 (He.ga K "Field") "added" ["self", "one", "other", "sign"] [] (sp_Field_added K)
theorem ok_Field_added (T : Tx K mg) (c_Field_figures : C_Field_figures P wd K mg base) (c_Field_composed : C_Field_composed P wd K mg base) : C_Field_added P wd K mg base := by
  obtain ⟨fd, F⟩ := fd_Field_added T
  have G : FnOk P wd K mg base CX0 2 _ fd ["self", "one", "other", "sign"] (sp_Field_added K) := fn_pm F sc_Field_added (fun _ _ => rfl) (fun cdv A outer s H E hr i hi => by
    obtain ⟨q, a, b, sg⟩ := i
    obtain ⟨hq, h1, h2⟩ : q ∈ KM.sizes ∧ -1 ≤ sg ∧ sg ≤ 1 := hi
    obtain ⟨p1, p2, p3, p4, _⟩ := KM.sizes_pr q hq
    have hpl : (0 : Int) < KM.prN q ∧ (KM.prN q : Int) < 1000 ∧ KM.plN q < 1000 := ⟨by omega, by omega, by omega⟩
    refine ⟨_, (pss_cons (ps_if (pt_cmpR op_eq (KX.fld (K := K) (pv 0) rfl) pe_int (nomark _)) (pss_one (ps_ret (pe_op op_mod (pe_op op_add (pv 1) (pe_op op_mul (pv 3) (pv 2))) (KX.fld (K := K) (pv 0) rfl)))) pss_nil)
      (pss_cons (ps_set (i := 4) sc_Field_added.nd rfl (Or.inr rfl) (pe_methG (pv 0) (cl_Field T) c_Field_figures hr (pa_cons (pv 2) pa_nil)))
      (pss_one (ps_ret (pe_methG (pv 0) (cl_Field T) c_Field_composed hr (pa_cons (pe_lc (own := [("at", 5), ("left", 6)]) (by rfl) sc_Field_added.nd (KX.iE (K := K) (by rfl) (fr_enumerate T) (pa_cons (pe_methG (pv 0) (cl_Field T) c_Field_figures hr (pa_cons (pv 1) pa_nil)) pa_nil)) (blkOk_by (by kernel_rfl)) (fun _ _ _ _ _ => by exact (KX.gT (K := K) (n := 2) (by rfl) (pgs_cons (pg_name (i := 5) sc_Field_added.nd rfl (Or.inl rfl)) (pgs_cons (pg_name (i := 6) sc_Field_added.nd rfl (Or.inl rfl)) pgs_nil)))) (fun _ _ _ _ _ => pts_nil) (fun _ _ _ _ _ => (pe_op op_add (pv 6) (pe_op op_mul (pv 3) (pe_ix (KX.ixL (K := K)) (pv 4) (pv 5) (fun _ _ => rfl)))))) pa_nil)))))), ?_⟩
    show Eb [some (pFd K q (KM.prN q) (KM.plN q)), some (pI a), some (pI b), some (pI sg), none, none, none] [] _ (pI (KM.addI q a b sg)) []
    refine Er.eb (er_ifr (b := decide (((KM.plN q : Nat) : Int) = 1)) (et_test (ee_eqI (ee_fld (ee_var rfl) (cl_Field T) (na_Field_places T) rfl) ee_c)) (fun hb => ?_) (fun hb => ?_))
    · have hb : KM.plN q = 1 := by have := of_decide_eq_true hb; omega
      refine Er.is (er_ret (ee_I (ee_I0 (ee_var rfl) (ee_I (ee_var rfl) (ee_var rfl) (.inl ⟨by omega, by omega⟩))) (ee_fld (ee_var rfl) (cl_Field T) (na_Field_prime T) rfl) (show (0 : Int) < KM.prN q by omega))) ?_
      show pI _ = pI (KM.addI q a b sg)
      unfold KM.addI
      rw [if_pos hb]
    · have hb : KM.plN q ≠ 1 := by have := of_decide_eq_false hb; omega
      refine er_seq (es_set (ee_meth (ee_var rfl) rfl (ea_cons (ee_var rfl) ea_nil) (tl_Field_figures hpl))) (er_ret ?_)
      refine Ev.is (ee_meth (ee_var rfl) rfl (ea_cons (Ev.is (ee_lcY (vs := [5, 6]) (KM.figsI (KM.prN q) (KM.plN q) a).zipIdx (fun p => pTup K [pI ((p.2 : Nat) : Int), pI p.1]) (fun p => pI (p.1 + sg * ((KM.figsI (KM.prN q) (KM.plN q) b)[p.2]?).getD 0)) (ei_enumL _ pI (ea_cons (ee_meth (ee_var rfl) rfl (ea_cons (ee_var rfl) ea_nil) (tl_Field_figures hpl)) ea_nil)) (wp_tup2 (by simp) (by simp)) (by rw [List.length_zipIdx, figs_len]; omega) (fun p hp => ?_)) ?_) ea_nil) (tl_Field_composed (l := (KM.figsI (KM.prN q) (KM.plN q) a).zipIdx.map fun p => p.1 + sg * ((KM.figsI (KM.prN q) (KM.plN q) b)[p.2]?).getD 0) ⟨by omega, by omega⟩)) ?_
      · refine ⟨_, eg_tup2 eg_name eg_name, ?_⟩
        have hlt : p.2 < (KM.figsI (KM.prN q) (KM.plN q) b).length := by
          have := List.snd_lt_of_mem_zipIdx hp
          rw [figs_len] at this ⊢
          simpa using this
        exact ee_I0 (ee_var rfl) (ee_I (ee_var rfl) (ee_ixL (n := p.2) (P := pI (((KM.figsI (KM.prN q) (KM.plN q) b)[p.2]?).getD 0)) (ee_var rfl) (ee_var rfl) (ixN_nat (by simpa using hlt)) (by rw [List.getElem?_map, List.getElem?_eq_getElem hlt]; rfl)) (.inl ⟨by omega, by omega⟩))
      · rw [List.map_map]; rfl
      · unfold KM.addI
        rw [if_neg hb, zipIdx_zip _ _ _ (by rw [figs_len, figs_len])]
)
  exact ⟨fd, _, [], G, me_Field_added T, F.bindsN (fun _ _ _ _ _ _ us hl => match us, hl with | [_, _, _, _], _ => rfl), .nil⟩
end
end J
/-! ## W4 -/
set_option Elab.async false
set_option linter.all false
set_option maxRecDepth 100000
set_option maxHeartbeats 4000000
namespace J
open PySem L2 KT
local macro_rules | `(tactic| walk_at "sub") => `(tactic| repeat (first | exact Sub.nil | (with_reducible refine Sub.keep (Pr.le_refl _) ?_) | refine Sub.drop ?_ | refine Sub.keepV (by first | rfl | (simp; done) | omega) ?_ | refine Sub.keep (Pr.le_refl _) ?_))
section
variable {P : Program} {wd : World} {K : PySem.W.Frag} {mg : Str → Option Value} {base : Heap}
theorem tl_le {sp : Sp} {ps qs : List Pr} {w w' : List Ow} {Q R : Pr} (h : Tl sp ps w Q w') (e : Q = R) : Tl sp ps w R w' := e ▸ h
/-- a Field of q -/
abbrev pFq (K : PySem.W.Frag) (q : Nat) : Pr := pFd K q (KM.prN q) (KM.plN q)
def sp_Field_less (K : PySem.W.Frag) : Sp := Pm (I := Nat × Int × Int) (fun i => i.1 ∈ KM.sizes ∧ (0 ≤ i.2.1 ∧ i.2.1 < i.1) ∧ (0 ≤ i.2.2 ∧ i.2.2 < i.1)) (fun i => [pFq K i.1, pI i.2.1, pI i.2.2]) (fun _ => []) (fun i => pI (KM.addI i.1 i.2.1 i.2.2 (-1))) (fun _ => [])
theorem tl_Field_less {q : Nat} {a b : Int} (h : q ∈ KM.sizes ∧ (0 ≤ a ∧ a < q) ∧ (0 ≤ b ∧ b < q)) : Tl (sp_Field_less K) [pFq K q, pI a, pI b] [] (pI (KM.addI q a b (-1))) [] := tl_pm (I := Nat × Int × Int) (q, a, b) h
abbrev C_Field_less (P : Program) (wd : World) (K : PySem.W.Frag) (mg : Str → Option Value) (base : Heap) : Prop := CallM P wd K mg base 3 (He.ga K "Field") "less" ["self", "one", "other"] [] (sp_Field_less K)
theorem ok_Field_less (T : Tx K mg) (c_Field_need : C_Field_need P wd K mg base) (c_Field_added : C_Field_added P wd K mg base) : C_Field_less P wd K mg base := by
  obtain ⟨fd, F⟩ := fd_Field_less T
  have G : FnOk P wd K mg base CX0 3 _ fd ["self", "one", "other"] (sp_Field_less K) := fn_pm F sc_Field_less (fun _ _ => rfl) (fun cdv A outer s H E hr i hi => by
    obtain ⟨q, a, b⟩ := i
    obtain ⟨hq, h1, h2⟩ : q ∈ KM.sizes ∧ (0 ≤ a ∧ a < q) ∧ (0 ≤ b ∧ b < q) := hi
    refine ⟨_, (pss_cons (ps_expr (pe_methG (pv 0) (cl_Field T) c_Field_need hr (pa_cons (pv 1) pa_nil)))
      (pss_cons (ps_expr (pe_methG (pv 0) (cl_Field T) c_Field_need hr (pa_cons (pv 2) pa_nil)))
      (pss_one (ps_ret (pe_methG (pv 0) (cl_Field T) c_Field_added hr (pa_cons (pv 1) (pa_cons (pv 2) (pa_cons (pe_un un_neg pe_int) pa_nil)))))))), ?_⟩
    show Eb [some (pFq K q), some (pI a), some (pI b)] [] _ (pI (KM.addI q a b (-1))) []
    exact Er.eb (er_seq (es_drop (ee_meth (ee_var rfl) rfl (ea_cons (ee_var rfl) ea_nil) (tl_Field_need h1))) (er_seq (es_drop (ee_meth (ee_var rfl) rfl (ea_cons (ee_var rfl) ea_nil) (tl_Field_need h2)))
      (er_ret (ee_meth (ee_var rfl) rfl (ea_cons (ee_var rfl) (ea_cons (ee_var rfl) (ea_cons (ee_un ee_c) ea_nil))) (tl_Field_added ⟨hq, by omega, by omega⟩)))))
)
  exact ⟨fd, _, [], G, me_Field_less T, F.bindsN (fun _ _ _ _ _ _ us hl => match us, hl with | [_, _, _], _ => rfl), .nil⟩
theorem getD_pI {L : List Int} {n : Nat} (h : n < L.length) : (L.map pI)[n]? = some (pI (L.getD n 0)) := by
  rw [List.getElem?_map, List.getD_eq_getElem?_getD, List.getElem?_eq_getElem h]; rfl
theorem figs_bd {p : Int} {n : Nat} {x y : Int} (hp : 0 < p) (h : y ∈ KM.figsI p n x) : 0 ≤ y ∧ y < p := by
  obtain ⟨k, _, rfl⟩ := List.mem_map.mp h
  exact ⟨Int.emod_nonneg _ (by omega), Int.emod_lt_of_pos _ hp⟩
theorem cut_to {ps : List Pr} {n : Nat} (h : n ≤ ps.length) : cutP ps none (some (n : Int)) = ps.take n := by
  unfold cutP
  rw [HT.sIx_nat, HT.sIx_none, List.drop_zero, Nat.sub_zero, Nat.min_eq_left h]
theorem rules_mem {q : Nat} (h : q ∈ KM.sizes) (hp : KM.plN q ≠ 1) : ((q : Int), KM.rule q) ∈ KT.rules ∧ (KM.rule q).length = KM.plN q := by
  have : ∀ q ∈ KM.sizes, KM.plN q ≠ 1 → ((q : Int), KM.rule q) ∈ KT.rules ∧ (KM.rule q).length = KM.plN q := by decide
  exact this q h hp
theorem rule_bd {q : Nat} (h : q ∈ KM.sizes) : ∀ x ∈ KM.rule q, 0 ≤ x ∧ x ≤ 2 := by
  have : ∀ q ∈ KM.sizes, ∀ x ∈ KM.rule q, 0 ≤ x ∧ x ≤ 2 := by decide
  exact this q h
def sp_Field_product (K : PySem.W.Frag) : Sp := Pm (I := Nat × Int × Int) (fun i => i.1 ∈ KM.sizes ∧ 0 ≤ i.2.1 ∧ i.2.1 < i.1) (fun i => [pFq K i.1, pI i.2.1, pI i.2.2]) (fun _ => []) (fun i => pI (KM.mulI i.1 i.2.1 i.2.2)) (fun _ => [])
theorem tl_Field_product {q : Nat} {a b : Int} (h : q ∈ KM.sizes ∧ 0 ≤ a ∧ a < q) : Tl (sp_Field_product K) [pFq K q, pI a, pI b] [] (pI (KM.mulI q a b)) [] := tl_pm (I := Nat × Int × Int) (q, a, b) h
abbrev C_Field_product (P : Program) (wd : World) (K : PySem.W.Frag) (mg : Str → Option Value) (base : Heap) : Prop := CallM P wd K mg base 2 (He.ga K "Field") "product" ["self", "one", "other"] [] (sp_Field_product K)
theorem ok_Field_product (T : Tx K mg) (c_Field_composed : C_Field_composed P wd K mg base) (c_Field_figures : C_Field_figures P wd K mg base) : C_Field_product P wd K mg base := by
  obtain ⟨fd, F⟩ := fd_Field_product T
  have G : FnOk P wd K mg base CX0 2 _ fd ["self", "one", "other"] (sp_Field_product K) := fn_pm F sc_Field_product (fun _ _ => rfl) (fun cdv A outer s H E hr i hi => by
    obtain ⟨q, a, b⟩ := i
    obtain ⟨hq, h1⟩ : q ∈ KM.sizes ∧ 0 ≤ a ∧ a < q := hi
    obtain ⟨p1, p2, p3, p4, p5, _⟩ := KM.sizes_pr q hq
    have hpl : (0 : Int) < KM.prN q ∧ (KM.prN q : Int) < 1000 ∧ KM.plN q < 1000 := ⟨by omega, by omega, by omega⟩
    have hR : R5.mapB K "RULES" rules = true := (Bool.and_eq_true_iff.mp (Bool.and_eq_true_iff.mp T.exb).2).1
    refine ⟨_, (pss_cons (ps_if (pt_cmpR op_eq (KX.fld (K := K) (pv 0) rfl) pe_int (nomark _)) (pss_one (ps_ret (pe_op op_mod (pe_op op_mul (pv 1) (pv 2)) (KX.fld (K := K) (pv 0) rfl)))) pss_nil)
      (pss_cons (ps_set (i := 3) sc_Field_product.nd rfl (Or.inl rfl) (pe_op op_rep (pe_lst (pa_cons pe_int pa_nil)) (pe_op op_mul pe_int (KX.fld (K := K) (pv 0) rfl))))
      (pss_cons (ps_for PassesOwn.never rfl (KX.iE (K := K) (by rfl) (fr_enumerate T) (pa_cons (pe_methG (pv 0) (cl_Field T) c_Field_figures hr (pa_cons (pv 1) pa_nil)) pa_nil)) (KX.gT (K := K) (n := 2) (by rfl) (pgs_cons (pg_name (i := 4) sc_Field_product.nd rfl (Or.inl rfl)) (pgs_cons (pg_name (i := 5) sc_Field_product.nd rfl (Or.inl rfl)) pgs_nil))) (pss_one (ps_for PassesOwn.never rfl (KX.iE (K := K) (by rfl) (fr_enumerate T) (pa_cons (pe_methG (pv 0) (cl_Field T) c_Field_figures hr (pa_cons (pv 2) pa_nil)) pa_nil)) (KX.gT (K := K) (n := 2) (by rfl) (pgs_cons (pg_name (i := 6) sc_Field_product.nd rfl (Or.inl rfl)) (pgs_cons (pg_name (i := 7) sc_Field_product.nd rfl (Or.inl rfl)) pgs_nil))) (pss_one (ps_augS (pv 3) (pe_op op_add (pv 4) (pv 6)) (KX.getL (K := K)) (pe_op op_mul (pv 5) (pv 7)) ip_add set_list)))))
      (pss_cons (ps_set (i := 8) sc_Field_product.nd rfl (Or.inl rfl) (pe_ix (R5.ix_map (K := K) hR) (pe_glob (v := V.ref (He.ga K "RULES")) (by rfl) (gl_RULES T) rfl) (KX.fld (K := K) (pv 0) rfl) (fun _ _ => rfl)))
      (pss_cons (ps_for PassesOwn.never rfl (pi_range3 (by rfl) (fr_range T) (pa_cons (pe_op op_sub (pe_op op_mul pe_int (KX.fld (K := K) (pv 0) rfl)) pe_int) (pa_cons (pe_op op_sub (KX.fld (K := K) (pv 0) rfl) pe_int) (pa_cons (pe_un un_neg pe_int) pa_nil)))) (pg_name (i := 4) sc_Field_product.nd rfl (Or.inl rfl)) (pss_cons (ps_for PassesOwn.never rfl (KX.iET (K := K) (by rfl) (fr_enumerate T) (pa_cons (pv 8) pa_nil)) (KX.gT (K := K) (n := 2) (by rfl) (pgs_cons (pg_name (i := 6) sc_Field_product.nd rfl (Or.inl rfl)) (pgs_cons (pg_name (i := 9) sc_Field_product.nd rfl (Or.inl rfl)) pgs_nil))) (pss_one (ps_augS (pv 3) (pe_op op_add (pe_op op_sub (pv 4) (KX.fld (K := K) (pv 0) rfl)) (pv 6)) (KX.getL (K := K)) (pe_op op_mul (pe_ix (KX.ixL (K := K)) (pv 3) (pv 4) (fun _ _ => rfl)) (pv 9)) ip_add set_list)))
      (pss_one (ps_asg pe_int (pg_sub (pv 3) (pv 4) set_list)))))
      (pss_one (ps_ret (pe_methG (pv 0) (cl_Field T) c_Field_composed hr (pa_cons (pe_slice (KX.slL (K := K)) (pv 3) po_none (po_some (KX.fld (K := K) (pv 0) rfl))) pa_nil))))))))), ?_⟩
    show Eb [some (pFq K q), some (pI a), some (pI b), none, none, none, none, none, none, none] [] _ (pI (KM.mulI q a b)) []
    refine Er.eb (er_ifr (b := decide (((KM.plN q : Nat) : Int) = 1)) (et_test (ee_eqI (ee_fld (ee_var rfl) (cl_Field T) (na_Field_places T) rfl) ee_c)) (fun hb => ?_) (fun hb => ?_))
    · have hb : KM.plN q = 1 := by have := of_decide_eq_true hb; omega
      refine Er.is (er_ret (ee_I (ee_I (ee_var rfl) (ee_var rfl) (.inl ⟨by omega, by omega⟩)) (ee_fld (ee_var rfl) (cl_Field T) (na_Field_prime T) rfl) (show (0 : Int) < KM.prN q by omega))) ?_
      unfold KM.mulI
      rw [if_pos hb]
    · have hb : KM.plN q ≠ 1 := by have := of_decide_eq_false hb; omega
      obtain ⟨rm, rl⟩ := rules_mem hq hb
      refine er_newRep (n := 2 * KM.plN q) (ee_lst (ea_cons ee_c ea_nil) (by simp)) (Ev.is (ee_I ee_c (ee_fld (ee_var rfl) (cl_Field T) (na_Field_places T) rfl) (.inl ⟨by omega, by omega⟩)) (by congr 1)) (by omega) (by simp) (fun l => ?_)
      have e0 : (List.replicate (2 * KM.plN q) [pI 0]).flatten = (List.replicate (2 * KM.plN q) (0 : Int)).map pI := by
        generalize 2 * KM.plN q = m
        induction m with
        | zero => rfl
        | succ m ih => rw [List.replicate_succ, List.replicate_succ, List.flatten_cons, List.map_cons, ih]; rfl
      have hrp : ([] : List Ow) ++ [oLst l (List.replicate (2 * KM.plN q) [pI 0]).flatten] = [oLst l ((List.replicate (2 * KM.plN q) (0 : Int)).map pI)] := by rw [e0]; rfl
      rw [hrp]
      let A1 := KM.figsI (KM.prN q) (KM.plN q) a
      let B1 := KM.figsI (KM.prN q) (KM.plN q) b
      have hA1 : A1.length = KM.plN q := figs_len _ _ _
      have hB1 : B1.length = KM.plN q := figs_len _ _ _
      have len1 : ∀ i, ((A1.zipIdx.take i).foldl (KM.step1 B1) (List.replicate (2 * KM.plN q) 0)).length = 2 * KM.plN q := fun i => by
        rw [KM.fold_len (fun L x => KM.step1_len), List.length_replicate]
      refine er_seq (ρ1 := [some (pFq K q), some (pI a), some (pI b), some (pA l), none, none, none, none, none, none]) (w1 := [oLst l ((KM.long1 q a b).map pI)]) ?_ ?_
      · refine Es.is (Es.sub (es_forM A1.zipIdx (fun p => pTup K [pI ((p.2 : Nat) : Int), pI p.1]) (fun _ => [some (pFq K q), some (pI a), some (pI b), some (pA l), none, none, none, none, none, none]) (fun i => [oLst l (((A1.zipIdx.take i).foldl (KM.step1 B1) (List.replicate (2 * KM.plN q) 0)).map pI)]) rfl (by walk_at "sub")
          (ei_enumL A1 pI (ea_cons (ee_meth (ee_var rfl) rfl (ea_cons (ee_var rfl) ea_nil) (tl_Field_figures hpl)) ea_nil)) (fun i p hi => ?_)) (by walk_at "sub")) (by rw [List.take_length]; rfl)
        have hp := List.mem_of_getElem? hi
        have hp2 : p.2 < KM.plN q := by
          have := List.snd_lt_of_mem_zipIdx hp
          rw [hA1] at this
          simpa using this
        have hp1 : 0 ≤ p.1 ∧ p.1 < KM.prN q := figs_bd hpl.1 (List.fst_mem_of_mem_zipIdx hp)
        rw [take_fold hi]
        generalize hL0 : (A1.zipIdx.take i).foldl (KM.step1 B1) (List.replicate (2 * KM.plN q) 0) = L0
        have hlen0 : L0.length = 2 * KM.plN q := by rw [← hL0]; exact len1 i
        have len2 : ∀ k, ((B1.zipIdx.take k).foldl (fun L r => KM.up L (p.2 + r.2) (p.1 * r.1)) L0).length = 2 * KM.plN q := fun k => by
          rw [KM.fold_len (fun L x => KM.up_len), hlen0]
        refine ⟨_, _, eg_tup2 eg_name eg_name, Es.is (es_forM B1.zipIdx (fun p => pTup K [pI ((p.2 : Nat) : Int), pI p.1]) (fun _ => [some (pFq K q), some (pI a), some (pI b), some (pA l), some (pI ((p.2 : Nat) : Int)), some (pI p.1), none, none, none, none]) (fun k => [oLst l (((B1.zipIdx.take k).foldl (fun L r => KM.up L (p.2 + r.2) (p.1 * r.1)) L0).map pI)]) rfl (by walk_at "sub")
          (ei_enumL B1 pI (ea_cons (ee_meth (ee_var rfl) rfl (ea_cons (ee_var rfl) ea_nil) (tl_Field_figures hpl)) ea_nil)) (fun k r hk => ?_)) (by rw [List.take_length]; rfl), by walk_at "sub"⟩
        have hr := List.mem_of_getElem? hk
        have hr2 : r.2 < KM.plN q := by
          have := List.snd_lt_of_mem_zipIdx hr
          rw [hB1] at this
          simpa using this
        have hl2 := len2 k
        rw [take_fold hk]
        generalize (B1.zipIdx.take k).foldl (fun L r => KM.up L (p.2 + r.2) (p.1 * r.1)) L0 = L at hl2
        refine ⟨_, _, eg_tup2 eg_name eg_name, Es.is (es_augSO (w1 := []) (w2 := []) (n := p.2 + r.2) (x := L.getD (p.2 + r.2) 0) (y := p.1 * r.1) (ee_var rfl) (ee_I0 (ee_var rfl) (ee_var rfl)) (ee_I (ee_var rfl) (ee_var rfl) (.inl ⟨by omega, by omega⟩)) (ixN_eq (by omega) (by rw [List.length_map]; omega)) (getD_pI (by omega))) ?_, by walk_at "sub"⟩
        rw [← List.map_set]
        rfl
      · have lenR : (KM.rule q).zipIdx.length = KM.plN q := by rw [List.length_zipIdx, rl]
        have len3 : ∀ k, ((List.range (KM.plN q)).take k |>.foldl (KM.step2 (KM.plN q) (KM.rule q)) (KM.long1 q a b)).length = 2 * KM.plN q := fun k => by
          rw [KM.fold_len (fun L x => KM.step2_len), KM.long1_len]
        refine er_seq (es_set (ee_map (q := (q : Int)) (l := KM.rule q) ee_c (ee_fld (ee_var rfl) (cl_Field T) (na_Field_many T) rfl) rm)) ?_
        refine er_seq (ρ1 := [some (pFq K q), some (pI a), some (pI b), some (pA l), none, none, none, none, none, none]) (w1 := [oLst l ((KM.long2 q a b).map pI)]) ?_ ?_
        · refine Es.is (Es.sub (es_forM (List.range (KM.plN q)) (fun k => pI (2 * (KM.plN q : Int) - 1 - (k : Nat))) (fun _ => [some (pFq K q), some (pI a), some (pI b), some (pA l), none, none, none, none, some (pRow K (KM.rule q)), none]) (fun i => [oLst l ((((List.range (KM.plN q)).take i).foldl (KM.step2 (KM.plN q) (KM.rule q)) (KM.long1 q a b)).map pI)]) rfl (by walk_at "sub") ?_ (fun i k hi => ?_)) (by walk_at "sub")) (by rw [List.take_length]; rfl)
          · refine Ei.is (ei_rngD (i := 2 * (KM.plN q : Int) - 1) (j := (KM.plN q : Int) - 1) (ea_cons (ee_I0 (ee_I ee_c (ee_fld (ee_var rfl) (cl_Field T) (na_Field_places T) rfl) (.inl ⟨by omega, by omega⟩)) ee_c) (ea_cons (ee_I0 (ee_fld (ee_var rfl) (cl_Field T) (na_Field_places T) rfl) ee_c) (ea_cons (ee_un ee_c) ea_nil))) ⟨by omega, by omega, by omega, by omega⟩) ?_
            rw [show (2 * (KM.plN q : Int) - 1 - ((KM.plN q : Int) - 1)).toNat = KM.plN q by omega]
          have hk : k < KM.plN q := List.mem_range.mp (List.mem_of_getElem? hi)
          have hl3 := len3 i
          rw [take_fold hi]
          generalize ((List.range (KM.plN q)).take i).foldl (KM.step2 (KM.plN q) (KM.rule q)) (KM.long1 q a b) = L0 at hl3
          have len4 : ∀ j, (((KM.rule q).zipIdx.take j).foldl (KM.step2i (KM.plN q) k) L0).length = 2 * KM.plN q := fun j => by
            rw [KM.fold_len (fun L r => by unfold KM.step2i; exact KM.up_len), hl3]
          have hat : (2 * (KM.plN q : Int) - 1 - (k : Nat)) = ((2 * KM.plN q - 1 - k : Nat) : Int) := by omega
          refine ⟨_, _, eg_name, es_seq (ρ1 := [some (pFq K q), some (pI a), some (pI b), some (pA l), some (pI (2 * (KM.plN q : Int) - 1 - (k : Nat))), none, none, none, some (pRow K (KM.rule q)), none]) (w1 := [oLst l (((KM.rule q).zipIdx.foldl (KM.step2i (KM.plN q) k) L0).map pI)])
            (Es.is (Es.sub (es_forM (KM.rule q).zipIdx (fun p => pTup K [pI ((p.2 : Nat) : Int), pI p.1]) (fun _ => [some (pFq K q), some (pI a), some (pI b), some (pA l), some (pI (2 * (KM.plN q : Int) - 1 - (k : Nat))), none, none, none, some (pRow K (KM.rule q)), none]) (fun j => [oLst l ((((KM.rule q).zipIdx.take j).foldl (KM.step2i (KM.plN q) k) L0).map pI)]) rfl (by walk_at "sub")
              (ei_enumT (KM.rule q) pI (ea_cons (ee_var rfl) ea_nil)) (fun j r hj => ?_)) (by walk_at "sub")) (by rw [List.take_length]))
            (Es.is (es_setO (w := []) (w2 := []) (n := 2 * KM.plN q - 1 - k) ee_c (ee_var rfl) (ee_var rfl) (ixN_eq hat (by rw [List.length_map, KM.fold_len (fun L r => by unfold KM.step2i; exact KM.up_len)]; omega))) (by rw [← List.map_set]; rfl)), by walk_at "sub"⟩
          have hr := List.mem_of_getElem? hj
          have hr2 : r.2 < KM.plN q := by
            have := List.snd_lt_of_mem_zipIdx hr
            rw [rl] at this
            simpa using this
          have hr1 := rule_bd hq r.1 (List.fst_mem_of_mem_zipIdx hr)
          have hl4 := len4 j
          rw [take_fold hj]
          generalize ((KM.rule q).zipIdx.take j).foldl (KM.step2i (KM.plN q) k) L0 = L at hl4
          refine ⟨_, _, eg_tup2 eg_name eg_name, Es.is (es_augSO (w1 := []) (w2 := []) (n := 2 * KM.plN q - 1 - k - KM.plN q + r.2) (x := L.getD (2 * KM.plN q - 1 - k - KM.plN q + r.2) 0) (y := L.getD (2 * KM.plN q - 1 - k) 0 * r.1) (ee_var rfl)
            (ee_I0 (ee_I0 (ee_var rfl) (ee_fld (ee_var rfl) (cl_Field T) (na_Field_places T) rfl)) (ee_var rfl)) (ee_I (ee_ixO (w := []) (w2 := []) (n := 2 * KM.plN q - 1 - k) (P := pI (L.getD (2 * KM.plN q - 1 - k) 0)) (ee_var rfl) (ee_var rfl) (ixN_eq hat (by rw [List.length_map]; omega)) (getD_pI (by omega))) (ee_var rfl) (.inr ⟨by omega, by omega⟩)) (ixN_eq (by omega) (by rw [List.length_map]; omega)) (getD_pI (by omega))) ?_, by walk_at "sub"⟩
          rw [← List.map_set]
          rfl
        · refine Er.freeze (i := 3) (w := []) (w2 := []) rfl (er_ret (Ev.is (ee_meth (ee_var rfl) rfl (ea_cons (Ev.is (ee_slL (ee_var rfl) eo_none (eo_some (ee_fld (ee_var rfl) (cl_Field T) (na_Field_places T) rfl))) ?_) ea_nil) (tl_Field_composed (l := (KM.long2 q a b).take (KM.plN q)) ⟨hpl.1, hpl.2.1⟩)) ?_))
          · rw [cut_to (by rw [List.length_map, KM.long2_len]; omega), List.map_take]
          · unfold KM.mulI
            rw [if_neg hb]
)
  exact ⟨fd, _, [], G, me_Field_product T, F.bindsN (fun _ _ _ _ _ _ us hl => match us, hl with | [_, _, _], _ => rfl), .nil⟩
end
end J
/-! ## W5 -/
set_option Elab.async false
set_option linter.all false
set_option maxRecDepth 100000
set_option maxHeartbeats 600000
namespace J
open PySem L2 KT
local macro_rules | `(tactic| walk_at "sub") => `(tactic| repeat (first | exact Sub.nil | (with_reducible refine Sub.keep (Pr.le_refl _) ?_) | refine Sub.drop ?_ | refine Sub.keepV (by first | rfl | (simp; done) | omega) ?_ | refine Sub.keep (Pr.le_refl _) ?_))
section
variable {P : Program} {wd : World} {K : PySem.W.Frag} {mg : Str → Option Value} {base : Heap}
theorem all_lc (l : List Int) : (l.map fun x => pB (decide (0 ≤ x) && decide (x < 5))) = l.map fun x => pB (decide (0 ≤ x) && decide (x < 5)) := rfl
/-- entries of a field -/
def In (q : Nat) (l : List Int) : Prop := ∀ x ∈ l, 0 ≤ x ∧ x < q
def sp_Field_inverse (K : PySem.W.Frag) : Sp := Pm (I := Nat × Int × Nat) (fun i => i.1 ∈ KM.sizes ∧ (0 ≤ i.2.1 ∧ i.2.1 < i.1) ∧ ((List.range (i.1 - 1)).filter fun k => decide (KM.mulI i.1 i.2.1 (1 + (k : Nat)) = 1)).head? = some i.2.2) (fun i => [pFq K i.1, pI i.2.1]) (fun _ => []) (fun i => pI (1 + (i.2.2 : Nat))) (fun _ => [])
theorem tl_Field_inverse {q : Nat} {a : Int} {r : Nat} (h : q ∈ KM.sizes ∧ (0 ≤ a ∧ a < q) ∧ ((List.range (q - 1)).filter fun k => decide (KM.mulI q a (1 + (k : Nat)) = 1)).head? = some r) : Tl (sp_Field_inverse K) [pFq K q, pI a] [] (pI (1 + (r : Nat))) [] := tl_pm (I := Nat × Int × Nat) (q, a, r) h
abbrev C_Field_inverse (P : Program) (wd : World) (K : PySem.W.Frag) (mg : Str → Option Value) (base : Heap) : Prop := CallM P wd K mg base 3 (He.ga K "Field") "inverse" ["self", "one"] [] (sp_Field_inverse K)
theorem ok_Field_inverse (T : Tx K mg) (c_Field_product : C_Field_product P wd K mg base) : C_Field_inverse P wd K mg base := by
  obtain ⟨fd, F⟩ := fd_Field_inverse T
  have G : FnOk P wd K mg base CX0 3 _ fd ["self", "one"] (sp_Field_inverse K) := fn_pm F sc_Field_inverse (fun _ _ => rfl) (fun cdv A outer s H E hr i hi => by
    obtain ⟨q, a, r⟩ := i
    obtain ⟨hq, h1, h2⟩ : q ∈ KM.sizes ∧ (0 ≤ a ∧ a < q) ∧ ((List.range (q - 1)).filter fun k => decide (KM.mulI q a (1 + (k : Nat)) = 1)).head? = some r := hi
    obtain ⟨p1, p2, p3, p4, p5, p6, _⟩ := KM.sizes_pr q hq
    refine ⟨_, (pss_one (ps_ret (pe_ix (KX.ixL (K := K)) (pe_lc (own := [("other", 2)]) (by rfl) sc_Field_inverse.nd (pi_range2 (by rfl) (fr_range T) (pa_cons pe_int (pa_cons (KX.fld (K := K) (pv 0) rfl) pa_nil))) (blkOk_by (by kernel_rfl)) (fun _ _ _ _ _ => by exact (pg_name (i := 2) sc_Field_inverse.nd rfl (Or.inl rfl))) (fun _ _ _ _ _ => (pts_one (pt_cmpR op_eq (pe_methG (pv 0) (cl_Field T) c_Field_product hr (pa_cons (pv 1) (pa_cons (pv 2) pa_nil))) pe_int (nomark _)))) (fun _ _ _ _ _ => (pv 2))) pe_int (fun _ _ => rfl)))), ?_⟩
    show Eb [some (pFq K q), some (pI a), none] [] _ (pI (1 + (r : Nat))) []
    refine Er.eb (er_ret (ee_ixL (n := 0) (ee_lc (vs := [2]) (List.range (q - 1)) (fun k => pI (1 + (k : Nat))) (fun k => decide (KM.mulI q a (1 + (k : Nat)) = 1)) (fun k => pI (1 + (k : Nat))) (ei_rng2 (lo := 1) (n := q - 1) (ea_cons ee_c (ea_cons (Ev.is (ee_fld (ee_var rfl) (cl_Field T) (na_Field_many T) rfl) (congrArg pI (show (q : Int) = 1 + ((q - 1 : Nat) : Int) by omega))) ea_nil)) (by omega) (by omega)) (wp_name (by simp)) (by rw [List.length_range]; omega) (fun k hk => ?_)) ee_c ?_ ?_))
    · exact ⟨_, eg_name, et_test (ee_eqI (ee_meth (ee_var rfl) rfl (ea_cons (ee_var rfl) (ea_cons (ee_var rfl) ea_nil)) (tl_Field_product ⟨hq, h1⟩)) ee_c), fun _ => ee_var rfl⟩
    · have hlen : 0 < ((List.range (q - 1)).filter fun k => decide (KM.mulI q a (1 + (k : Nat)) = 1)).length := by
        cases hh : ((List.range (q - 1)).filter fun k => decide (KM.mulI q a (1 + (k : Nat)) = 1)) with
        | nil => rw [hh] at h2; cases h2
        | cons x y => simp
      exact ixN_eq (m := 0) rfl (by rw [List.length_map]; exact hlen)
    · rw [List.getElem?_map, ← List.head?_eq_getElem?, h2]; rfl
)
  exact ⟨fd, _, [], G, me_Field_inverse T, F.bindsN (fun _ _ _ _ _ _ us hl => match us, hl with | [_, _], _ => rfl), .nil⟩
def sp_Field_scaled (K : PySem.W.Frag) : Sp := Pm (I := Nat × List Int × Int) (fun i => i.1 ∈ KM.sizes ∧ In i.1 i.2.1 ∧ i.2.1.length ≤ 1000) (fun i => [pFq K i.1, pRow K i.2.1, pI i.2.2]) (fun _ => []) (fun i => pRow K (i.2.1.map fun x => KM.mulI i.1 x i.2.2)) (fun _ => [])
theorem tl_Field_scaled {q : Nat} {l : List Int} {s : Int} (h : q ∈ KM.sizes ∧ In q l ∧ l.length ≤ 1000) : Tl (sp_Field_scaled K) [pFq K q, pRow K l, pI s] [] (pRow K (l.map fun x => KM.mulI q x s)) [] := tl_pm (I := Nat × List Int × Int) (q, l, s) h
abbrev C_Field_scaled (P : Program) (wd : World) (K : PySem.W.Frag) (mg : Str → Option Value) (base : Heap) : Prop := CallM P wd K mg base 3 (He.ga K "Field") "scaled" ["self", "row", "share"] [] (sp_Field_scaled K)
theorem ok_Field_scaled (T : Tx K mg) (c_Field_product : C_Field_product P wd K mg base) : C_Field_scaled P wd K mg base := by
  obtain ⟨fd, F⟩ := fd_Field_scaled T
  have G : FnOk P wd K mg base CX0 3 _ fd ["self", "row", "share"] (sp_Field_scaled K) := fn_pm F sc_Field_scaled (fun _ _ => rfl) (fun cdv A outer s H E hr i hi => by
    obtain ⟨q, l, sh⟩ := i
    obtain ⟨hq, h1, h2⟩ : q ∈ KM.sizes ∧ In q l ∧ l.length ≤ 1000 := hi
    refine ⟨_, (pss_one (ps_ret (pe_callTy (KX.tupOf (K := K)) (by rfl) (fr_tuple T) (by decide +kernel) (pa_cons (pe_lc (own := [("one", 3)]) (by rfl) sc_Field_scaled.nd (KX.iT (K := K) (pv 1)) (blkOk_by (by kernel_rfl)) (fun _ _ _ _ _ => by exact (pg_name (i := 3) sc_Field_scaled.nd rfl (Or.inl rfl))) (fun _ _ _ _ _ => pts_nil) (fun _ _ _ _ _ => (pe_methG (pv 0) (cl_Field T) c_Field_product hr (pa_cons (pv 3) (pa_cons (pv 2) pa_nil))))) pa_nil)))), ?_⟩
    show Eb [some (pFq K q), some (pRow K l), some (pI sh), none] [] _ (pRow K (l.map fun x => KM.mulI q x sh)) []
    refine Er.eb (er_ret (Ev.is (ee_tupOf (ea_cons (ee_lcY (vs := [3]) l pI (fun x => pI (KM.mulI q x sh)) (ei_tup (ee_var rfl)) (wp_name (by simp)) (by omega) (fun x hx => ?_)) ea_nil)) (by rw [pRow, List.map_map]; rfl)))
    exact ⟨_, eg_name, ee_meth (ee_var rfl) rfl (ea_cons (ee_var rfl) (ea_cons (ee_var rfl) ea_nil)) (tl_Field_product ⟨hq, h1 x hx⟩)⟩
)
  exact ⟨fd, _, [], G, me_Field_scaled T, F.bindsN (fun _ _ _ _ _ _ us hl => match us, hl with | [_, _, _], _ => rfl), .nil⟩
def alongI (q : Nat) (l m : List Int) : Int := (l.zip m).foldl (fun acc p => KM.addI q acc (KM.mulI q p.1 p.2) 1) 0
def sp_Field_along (K : PySem.W.Frag) : Sp := Pm (I := Nat × List Int × List Int) (fun i => i.1 ∈ KM.sizes ∧ In i.1 i.2.1 ∧ i.2.1.length = i.2.2.length) (fun i => [pFq K i.1, pRow K i.2.1, pRow K i.2.2]) (fun _ => []) (fun i => pI (alongI i.1 i.2.1 i.2.2)) (fun _ => [])
theorem tl_Field_along {q : Nat} {l m : List Int} (h : q ∈ KM.sizes ∧ In q l ∧ l.length = m.length) : Tl (sp_Field_along K) [pFq K q, pRow K l, pRow K m] [] (pI (alongI q l m)) [] := tl_pm (I := Nat × List Int × List Int) (q, l, m) h
abbrev C_Field_along (P : Program) (wd : World) (K : PySem.W.Frag) (mg : Str → Option Value) (base : Heap) : Prop := CallM P wd K mg base 3 (He.ga K "Field") "along" ["self", "row", "other"] [] (sp_Field_along K)
theorem ok_Field_along (T : Tx K mg) (c_Field_added : C_Field_added P wd K mg base) (c_Field_product : C_Field_product P wd K mg base) : C_Field_along P wd K mg base := by
  obtain ⟨fd, F⟩ := fd_Field_along T
  have G : FnOk P wd K mg base CX0 3 _ fd ["self", "row", "other"] (sp_Field_along K) := fn_pm F sc_Field_along (fun _ _ => rfl) (fun cdv A outer s H E hr i hi => by
    obtain ⟨q, l, m⟩ := i
    obtain ⟨hq, h1, h2⟩ : q ∈ KM.sizes ∧ In q l ∧ l.length = m.length := hi
    refine ⟨_, (pss_cons (ps_set (i := 3) sc_Field_along.nd rfl (Or.inl rfl) pe_int)
      (pss_cons (ps_for PassesOwn.never rfl (KX.iZ (K := K) (by rfl) (fr_zip T) (pa_cons (pv 1) (pa_cons (pv 2) pa_nil))) (KX.gT (K := K) (n := 2) (by rfl) (pgs_cons (pg_name (i := 4) sc_Field_along.nd rfl (Or.inl rfl)) (pgs_cons (pg_name (i := 5) sc_Field_along.nd rfl (Or.inl rfl)) pgs_nil))) (pss_one (ps_set (i := 3) sc_Field_along.nd rfl (Or.inl rfl) (pe_methG (pv 0) (cl_Field T) c_Field_added hr (pa_cons (pv 3) (pa_cons (pe_methG (pv 0) (cl_Field T) c_Field_product hr (pa_cons (pv 4) (pa_cons (pv 5) pa_nil))) (pa_cons pe_int pa_nil)))))))
      (pss_one (ps_ret (pv 3))))), ?_⟩
    show Eb [some (pFq K q), some (pRow K l), some (pRow K m), none, none, none] [] _ (pI (alongI q l m)) []
    refine Er.eb (er_seq (es_set ee_c) (er_seq (es_forM (l.zip m) (fun p => pTup K [pI p.1, pI p.2]) (fun k => [some (pFq K q), some (pRow K l), some (pRow K m), some (pI (((l.zip m).take k).foldl (fun acc p => KM.addI q acc (KM.mulI q p.1 p.2) 1) 0)), none, none]) (fun _ => []) rfl (by walk_at "sub") (ei_zipS l m pI pI h2 (ea_cons (ee_var rfl) (ea_cons (ee_var rfl) ea_nil))) (fun k p hk => ?_)) (Er.is (er_ret (ee_var rfl)) (by rw [List.take_length]; rfl))))
    have hp := List.mem_of_getElem? hk
    rw [take_fold hk]
    exact ⟨_, _, eg_tup2 eg_name eg_name, es_set (ee_meth (ee_var rfl) rfl (ea_cons (ee_var rfl) (ea_cons (ee_meth (ee_var rfl) rfl (ea_cons (ee_var rfl) (ea_cons (ee_var rfl) ea_nil)) (tl_Field_product ⟨hq, h1 _ (List.of_mem_zip hp).1⟩)) (ea_cons ee_c ea_nil))) (tl_Field_added ⟨hq, by omega, by omega⟩)), by walk_at "sub"⟩
)
  exact ⟨fd, _, [], G, me_Field_along T, F.bindsN (fun _ _ _ _ _ _ us hl => match us, hl with | [_, _, _], _ => rfl), .nil⟩
def fstPl (l : List Int) : V := match (l.zipIdx.filter fun p => !decide (p.1 = 0)) with | p :: _ => .int (p.2 : Nat) | [] => .non
def sp_first_place (K : PySem.W.Frag) : Sp := Pm (I := List Int) (fun i => i.length ≤ 1000) (fun i => [pRow K i]) (fun _ => []) (fun i => pV (fstPl i)) (fun _ => [])
theorem tl_first_place {l : List Int} (h : l.length ≤ 1000) : Tl (sp_first_place K) [pRow K l] [] (pV (fstPl l)) [] := tl_pm (I := List Int) l h
abbrev C_first_place (P : Program) (wd : World) (K : PySem.W.Frag) (mg : Str → Option Value) (base : Heap) : Prop := CallG P wd K mg base 1 "first_place" ["row"] [] (sp_first_place K)
theorem ok_first_place (T : Tx K mg)  : C_first_place P wd K mg base := by
  obtain ⟨fd, F⟩ := fd_first_place T
  have G : FnOk P wd K mg base CX0 1 _ fd ["row"] (sp_first_place K) := fn_pm F sc_first_place (fun _ _ => rfl) (fun cdv A outer s H E hr i hi => by
    have hi : i.length ≤ 1000 := hi
    refine ⟨_, (pss_cons (ps_setLc (i := 1) (own := [("at", 2), ("one", 3)]) (by rfl) sc_first_place.nd rfl rfl (sw_true rfl rfl rfl (by kernel_rfl)) (KX.iET (K := K) (by rfl) (fr_enumerate T) (pa_cons (pv 0) pa_nil)) (blkOk_by (by kernel_rfl)) (fun _ _ _ _ _ => by exact (KX.gT (K := K) (n := 2) (by rfl) (pgs_cons (pg_name (i := 2) sc_first_place.nd rfl (Or.inl rfl)) (pgs_cons (pg_name (i := 3) sc_first_place.nd rfl (Or.inl rfl)) pgs_nil)))) (fun _ _ _ _ _ => (pts_one (pt_cmpR op_ne (pv 3) pe_int (nomark _)))) (fun _ _ _ _ _ => (pv 2)))
      (pss_one (ps_ret (pe_ifExp (pt_cmpR (KX.neD (K := K) hr.units) (pv 1) (pe_lst pa_nil) (nomark _)) (pe_ix (KX.ixL (K := K)) (pv 1) pe_int (fun _ _ => rfl)) pe_non)))), ?_⟩
    show Eb [some (pRow K i), none, none, none] [] _ (pV (fstPl i)) []
    refine Er.eb (er_seq (ρ1 := [some (pRow K i), some (pLst ((i.zipIdx.filter fun p => !decide (p.1 = 0)).map fun p => pI ((p.2 : Nat) : Int))), none, none]) (es_set (ee_lc (vs := [2, 3]) i.zipIdx (fun p => pTup K [pI ((p.2 : Nat) : Int), pI p.1]) (fun p => !decide (p.1 = 0)) (fun p => pI ((p.2 : Nat) : Int)) (ei_enumT i pI (ea_cons (ee_var rfl) ea_nil)) (wp_tup2 (by simp) (by simp)) (by rw [List.length_zipIdx]; omega) (fun p hp => ⟨_, eg_tup2 eg_name eg_name, et_test (ee_neI (ee_var rfl) ee_c), fun _ => ee_var rfl⟩))) ?_)
    refine er_ret (ee_if (b := !(i.zipIdx.filter fun p => !decide (p.1 = 0)).isEmpty) (et_test (Ev.is (ee_neNilI (l := (i.zipIdx.filter fun p => !decide (p.1 = 0)).map fun p => ((p.2 : Nat) : Int)) (Ev.is (ee_var rfl) (by rw [List.map_map]; rfl)) (ee_lst ea_nil (by simp))) (by simp))) (fun hb => ?_) (fun hb => ?_))
    · unfold fstPl
      cases hc : (i.zipIdx.filter fun p => !decide (p.1 = 0)) with
      | nil => rw [hc] at hb; cases hb
      | cons p r => exact ee_ixL (n := 0) (ee_var rfl) ee_c (ixN_eq (m := 0) rfl (by simp)) rfl
    · unfold fstPl
      cases hc : (i.zipIdx.filter fun p => !decide (p.1 = 0)) with
      | nil => exact ee_c
      | cons p r => rw [hc] at hb; cases hb
)
  exact ⟨fd, _, [], G, gl_first_place T, F.kp, F.bindsN (fun _ _ _ _ _ _ us hl => match us, hl with | [_], _ => rfl), .nil⟩
end
end J
/-! ## W6 -/
set_option Elab.async false
set_option linter.all false
set_option maxRecDepth 100000
set_option maxHeartbeats 600000
namespace J
open PySem L2 KT
local macro_rules | `(tactic| walk_at "sub") => `(tactic| repeat (first | exact Sub.nil | (with_reducible refine Sub.keep (Pr.le_refl _) ?_) | refine Sub.drop ?_ | refine Sub.keepV (by first | rfl | (simp; done) | omega) ?_ | refine Sub.keep (Pr.le_refl _) ?_))
section
variable {P : Program} {wd : World} {K : PySem.W.Frag} {mg : Str → Option Value} {base : Heap}
theorem ee_methD {ρ : En} {w : List Ow} {ta : TE} {P : Pr} {C : Addr} {m : Str} {sp : Sp} {E : XK} {ta' : TA} {fs : List (Str × Pr)} {ps : List Pr} {i : Int} (ha : Ee ρ w ta (pIns C fs)) (hm : fs.lookup m = none) (h : Ea ρ w ta' ps) (hs : Tl sp (pIns C fs :: (ps ++ [pI i])) [] P []) : Ee ρ w (tMeth C m sp [V.int i] E ta ta') P :=
  ev_meth (w := []) (r := w) (w' := []) (ds := [pI i]) ha hm h (fun _ => .cons rfl .nil) hs
def joinI (q : Nat) (l m : List Int) (s : Int) : List Int := (l.zip m).map fun p => KM.addI q p.1 p.2 s
def scaleI (q : Nat) (l : List Int) (s : Int) : List Int := l.map fun x => KM.mulI q x s
theorem tl_scale {q : Nat} {l : List Int} {s : Int} (h : q ∈ KM.sizes ∧ In q l ∧ l.length ≤ 1000) : Tl (sp_Field_scaled K) [pFq K q, pRow K l, pI s] [] (pRow K (scaleI q l s)) [] := tl_Field_scaled h
def sp_Field_joined (K : PySem.W.Frag) : Sp := Pm (I := Nat × List Int × List Int × Int) (fun i => i.1 ∈ KM.sizes ∧ i.2.1.length = i.2.2.1.length ∧ i.2.1.length ≤ 1000 ∧ -1 ≤ i.2.2.2 ∧ i.2.2.2 ≤ 1) (fun i => [pFq K i.1, pRow K i.2.1, pRow K i.2.2.1, pI i.2.2.2]) (fun _ => []) (fun i => pRow K (joinI i.1 i.2.1 i.2.2.1 i.2.2.2)) (fun _ => [])
theorem tl_Field_joined {q : Nat} {l m : List Int} {s : Int} (h : q ∈ KM.sizes ∧ l.length = m.length ∧ l.length ≤ 1000 ∧ -1 ≤ s ∧ s ≤ 1) : Tl (sp_Field_joined K) [pFq K q, pRow K l, pRow K m, pI s] [] (pRow K (joinI q l m s)) [] := tl_pm (I := Nat × List Int × List Int × Int) (q, l, m, s) h
abbrev C_Field_joined (P : Program) (wd : World) (K : PySem.W.Frag) (mg : Str → Option Value) (base : Heap) : Prop := CallM P wd K mg base 3 (He.ga K "Field") "joined" ["self", "row", "other", "sign"] [] (sp_Field_joined K)
abbrev C_Field_joinedD (P : Program) (wd : World) (K : PySem.W.Frag) (mg : Str → Option Value) (base : Heap) : Prop := CallM P wd K mg base 3 (He.ga K "Field") "joined" ["self", "row", "other", "sign"] [V.int 1] (sp_Field_joined K)
theorem ok_Field_joined2 (T : Tx K mg) (c_Field_added : C_Field_added P wd K mg base) : C_Field_joined P wd K mg base ∧ C_Field_joinedD P wd K mg base := by
  obtain ⟨fd, F⟩ := fd_Field_joined T
  have G : FnOk P wd K mg base CX0 3 _ fd ["self", "row", "other", "sign"] (sp_Field_joined K) := fn_pm F sc_Field_joined (fun _ _ => rfl) (fun cdv A outer s H E hr i hi => by
    obtain ⟨q, l, m, sg⟩ := i
    obtain ⟨hq, h1, h2, h3, h4⟩ : q ∈ KM.sizes ∧ l.length = m.length ∧ l.length ≤ 1000 ∧ -1 ≤ sg ∧ sg ≤ 1 := hi
    refine ⟨_, (pss_one (ps_ret (pe_callTy (KX.tupOf (K := K)) (by rfl) (fr_tuple T) (by decide +kernel) (pa_cons (pe_lc (own := [("one", 4), ("two", 5)]) (by rfl) sc_Field_joined.nd (KX.iZ (K := K) (by rfl) (fr_zip T) (pa_cons (pv 1) (pa_cons (pv 2) pa_nil))) (blkOk_by (by kernel_rfl)) (fun _ _ _ _ _ => by exact (KX.gT (K := K) (n := 2) (by rfl) (pgs_cons (pg_name (i := 4) sc_Field_joined.nd rfl (Or.inl rfl)) (pgs_cons (pg_name (i := 5) sc_Field_joined.nd rfl (Or.inl rfl)) pgs_nil)))) (fun _ _ _ _ _ => pts_nil) (fun _ _ _ _ _ => (pe_methG (pv 0) (cl_Field T) c_Field_added hr (pa_cons (pv 4) (pa_cons (pv 5) (pa_cons (pv 3) pa_nil)))))) pa_nil)))), ?_⟩
    show Eb [some (pFq K q), some (pRow K l), some (pRow K m), some (pI sg), none, none] [] _ (pRow K (joinI q l m sg)) []
    refine Er.eb (er_ret (Ev.is (ee_tupOf (ea_cons (ee_lcY (vs := [4, 5]) (l.zip m) (fun p => pTup K [pI p.1, pI p.2]) (fun p => pI (KM.addI q p.1 p.2 sg)) (ei_zipS l m pI pI h1 (ea_cons (ee_var rfl) (ea_cons (ee_var rfl) ea_nil))) (wp_tup2 (by simp) (by simp)) (by rw [List.length_zip]; omega) (fun x hx => ?_)) ea_nil)) (by rw [pRow, joinI, List.map_map]; rfl)))
    exact ⟨_, eg_tup2 eg_name eg_name, ee_meth (ee_var rfl) rfl (ea_cons (ee_var rfl) (ea_cons (ee_var rfl) (ea_cons (ee_var rfl) ea_nil))) (tl_Field_added ⟨hq, h3, h4⟩)⟩)
  obtain ⟨u4, v4, b4⟩ := F.binds1 (ps := ["self", "row", "other", "sign"]) 4 1 (by simp) rfl (fun _ _ _ _ _ _ _ us its h1 h2 => match us, its, h1, h2 with | [_, _, _, _], [_], _, _ => ⟨_, rfl, rfl⟩)
  obtain ⟨u3, v3, b3⟩ := F.binds1 (ps := ["self", "row", "other", "sign"]) 3 0 (by simp) rfl (fun _ _ _ _ _ _ _ us its h1 h2 => match us, its, h1, h2 with | [_, _, _], [_], _, _ => ⟨_, rfl, rfl⟩)
  exact ⟨⟨fd, _, u4, G, me_Field_joined T, b4, v4⟩, ⟨fd, _, u3, G, me_Field_joined T, b3, v3⟩⟩
def sp_Field_needs_row (K : PySem.W.Frag) : Sp := Pm (I := Nat × List Int) (fun i => In i.1 i.2 ∧ i.2.length ≤ 1000) (fun i => [pFq K i.1, pRow K i.2, pI (i.2.length : Nat)]) (fun _ => []) (fun i => pN) (fun _ => [])
theorem tl_Field_needs_row {q : Nat} {l : List Int} {n : Int} (h : In q l ∧ l.length ≤ 1000) (hn : n = (l.length : Nat)) : Tl (sp_Field_needs_row K) [pFq K q, pRow K l, pI n] [] pN [] := by
  subst hn
  exact tl_pm (I := Nat × List Int) (q, l) h
abbrev C_Field_needs_row (P : Program) (wd : World) (K : PySem.W.Frag) (mg : Str → Option Value) (base : Heap) : Prop := CallM P wd K mg base 2 (He.ga K "Field") "needs_row" ["self", "row", "width"] [] (sp_Field_needs_row K)
theorem ok_Field_needs_row (T : Tx K mg) (c_Field_has : C_Field_has P wd K mg base) : C_Field_needs_row P wd K mg base := by
  obtain ⟨fd, F⟩ := fd_Field_needs_row T
  have G : FnOk P wd K mg base CX0 2 _ fd ["self", "row", "width"] (sp_Field_needs_row K) := fn_pm F sc_Field_needs_row (fun _ _ => rfl) (fun cdv A outer s H E hr i hi => by
    obtain ⟨q, l⟩ := i
    obtain ⟨h1, h2⟩ : In q l ∧ l.length ≤ 1000 := hi
    refine ⟨_, (pss_one (ps_if (PW.pt (pw_or (pt_cmpR op_ne (pe_callB (KX.len (K := K)) (by rfl) (fr_len T) PySem.boot_len (pa_cons (pv 1) pa_nil)) (pv 2) (nomark _)) (pw_or1 (pt_not (pt_val (pe_callB (KX.all (K := K) rfl) (by rfl) (fr_all T) (by decide +kernel) (pa_cons (pe_lc (own := [("one", 3)]) (by rfl) sc_Field_needs_row.nd (KX.iT (K := K) (pv 1)) (blkOk_by (by kernel_rfl)) (fun _ _ _ _ _ => by exact (pg_name (i := 3) sc_Field_needs_row.nd rfl (Or.inl rfl))) (fun _ _ _ _ _ => pts_nil) (fun _ _ _ _ _ => (pe_methG (pv 0) (cl_Field T) c_Field_has hr (pa_cons (pv 3) pa_nil)))) pa_nil))))))) (pss_one ps_never) pss_nil)), ?_⟩
    show Eb [some (pFq K q), some (pRow K l), some (pI (l.length : Nat)), none] [] _ pN []
    refine Es.eb (es_if (b := false) (Et.is (et_or (a := false) (b := false) (Et.is (et_test (ee_neI (ee_lenT (n := (l.length : Nat)) (ea_cons (ee_var rfl) ea_nil) (by simp)) (ee_var rfl))) (by simp)) (fun _ => Et.is (et_not (et_B (ee_all (f := fun x => decide (0 ≤ x) && decide (x < (q : Int))) (ea_cons (ee_lcY (vs := [3]) l pI (fun x => pB (decide (0 ≤ x) && decide (x < (q : Int)))) (ei_tup (ee_var rfl)) (wp_name (by simp)) (by omega) (fun x hx => ⟨_, eg_name, ee_meth (ee_var rfl) rfl (ea_cons (ee_var rfl) ea_nil) tl_Field_has⟩)) ea_nil)))) ?_)) rfl) (fun z => by cases z) (fun _ => es_next))
    rw [Bool.not_eq_false', List.all_eq_true]
    intro x hx
    obtain ⟨k1, k2⟩ := h1 x hx
    simp [k1, k2]
)
  exact ⟨fd, _, [], G, me_Field_needs_row T, F.bindsN (fun _ _ _ _ _ _ us hl => match us, hl with | [_, _, _], _ => rfl), .nil⟩
end
end J
/-! ## W7 -/
set_option Elab.async false
set_option linter.all false
set_option maxRecDepth 100000
set_option maxHeartbeats 600000
namespace J
open PySem L2 KT
local macro_rules | `(tactic| walk_at "sub") => `(tactic| repeat (first | exact Sub.nil | (with_reducible refine Sub.keep (Pr.le_refl _) ?_) | refine Sub.drop ?_ | refine Sub.keepV (by first | rfl | (simp; done) | omega) ?_ | refine Sub.keep (Pr.le_refl _) ?_))
section
variable {P : Program} {wd : World} {K : PySem.W.Frag} {mg : Str → Option Value} {base : Heap}
/-- place, row, shares -/
abbrev Ld := Nat × List Int × List Int
abbrev pLd (K : PySem.W.Frag) (e : Ld) : Pr := pTup K [pI (e.1 : Nat), pRow K e.2.1, pRow K e.2.2]
theorem join_len {q : Nat} {l m : List Int} {s : Int} (h : l.length = m.length) : (joinI q l m s).length = l.length := by simp [joinI, h]
theorem scale_len {q : Nat} {l : List Int} {s : Int} : (scaleI q l s).length = l.length := by simp [scaleI]
theorem In.join {q : Nat} (hq : q ∈ KM.sizes) {l m : List Int} (h1 : In q l) (h2 : In q m) {s : Int} (hs : s = 1 ∨ s = -1) : In q (joinI q l m s) := fun x hx => by
  obtain ⟨p, hp, rfl⟩ := List.mem_map.mp hx
  have hz := List.of_mem_zip (a := p.1) (b := p.2) hp
  have h := KM.rng_at hq (h1 _ hz.1) (h2 _ hz.2)
  rcases hs with rfl | rfl
  · exact h.1
  · exact h.2.1
theorem In.scale {q : Nat} (hq : q ∈ KM.sizes) {l : List Int} (h1 : In q l) {s : Int} (hs : 0 ≤ s ∧ s < q) : In q (scaleI q l s) := fun x hx => by
  obtain ⟨p, hp, rfl⟩ := List.mem_map.mp hx
  exact (KM.rng_at hq (h1 _ hp) hs).2.2
theorem In.get {q : Nat} {l : List Int} (h1 : In q l) {i : Nat} (hi : i < l.length) : 0 ≤ l.getD i 0 ∧ l.getD i 0 < q := by
  rw [List.getD_eq_getElem?_getD, List.getElem?_eq_getElem hi]
  exact h1 _ (List.getElem_mem hi)
theorem In.app {q : Nat} {l m : List Int} (h1 : In q l) (h2 : In q m) : In q (l ++ m) := fun x hx => (List.mem_append.mp hx).elim (h1 x) (h2 x)
theorem In.rep {q : Nat} (hq : q ∈ KM.sizes) {n : Nat} : In q (List.replicate n 0) := fun x hx => by
  rw [List.eq_of_mem_replicate hx]
  have := (KM.sizes_pr q hq).2.2.2.2.2.1
  omega
def lowStepI (q : Nat) (st : List Int × List Int) (e : Ld) : List Int × List Int := if st.1.getD e.1 0 = 0 then st else (joinI q st.1 (scaleI q e.2.1 (st.1.getD e.1 0)) (-1), joinI q st.2 (scaleI q e.2.2 (st.1.getD e.1 0)) 1)
def lowI (q m : Nat) (L : List Ld) (r : List Int) : List Int × List Int := L.foldl (lowStepI q) (r, List.replicate m 0)
/-- lead rows of n places, m shares -/
def LdOk (q n m : Nat) (e : Ld) : Prop := e.1 < n ∧ (In q e.2.1 ∧ e.2.1.length = n) ∧ In q e.2.2 ∧ e.2.2.length = m
def StOk (q n m : Nat) (st : List Int × List Int) : Prop := (In q st.1 ∧ st.1.length = n) ∧ In q st.2 ∧ st.2.length = m
theorem lowStep_ok {q n m : Nat} (hq : q ∈ KM.sizes) {st : List Int × List Int} {e : Ld} (h : StOk q n m st) (he : LdOk q n m e) : StOk q n m (lowStepI q st e) := by
  unfold lowStepI
  split
  · exact h
  · have hg := h.1.1.get (i := e.1) (by rw [h.1.2]; exact he.1)
    exact ⟨⟨In.join hq h.1.1 (In.scale hq he.2.1.1 hg) (.inr rfl), by rw [join_len (by rw [scale_len, h.1.2, he.2.1.2]), h.1.2]⟩, In.join hq h.2.1 (In.scale hq he.2.2.1 hg) (.inl rfl), by rw [join_len (by rw [scale_len, h.2.2, he.2.2.2]), h.2.2]⟩
theorem fold_ok {q n m : Nat} (hq : q ∈ KM.sizes) : ∀ (L : List Ld) (st : List Int × List Int), StOk q n m st → (∀ e ∈ L, LdOk q n m e) → StOk q n m (L.foldl (lowStepI q) st)
  | [], st, h, _ => h
  | e :: L, st, h, hL => fold_ok hq L _ (lowStep_ok hq h (hL e List.mem_cons_self)) fun e' he' => hL e' (List.mem_cons_of_mem _ he')
theorem low_ok {q n m : Nat} (hq : q ∈ KM.sizes) {L : List Ld} {r : List Int} (hr : In q r ∧ r.length = n) (hL : ∀ e ∈ L, LdOk q n m e) : StOk q n m (lowI q m L r) :=
  fold_ok hq L _ ⟨hr, In.rep hq, by simp⟩ hL
abbrev fdS (K : PySem.W.Frag) (q n m : Nat) (L : List Ld) : List (Str × Pr) := [("field_of", pFq K q), ("width", pI (n : Nat)), ("lead_rows", pLst (L.map (pLd K))), ("many", pI (m : Nat))]
abbrev oSp (K : PySem.W.Frag) (a : Addr) (q n m : Nat) (L : List Ld) : Ow := oIns a (He.ga K "Span") (fdS K q n m L)
structure SpI where
  a : Addr
  q : Nat
  n : Nat
  m : Nat
  L : List Ld
  r : List Int
def SpI.ok (i : SpI) : Prop := i.q ∈ KM.sizes ∧ i.n ≤ 500 ∧ i.m ≤ 500 ∧ i.L.length ≤ 500 ∧ (In i.q i.r ∧ i.r.length = i.n) ∧ ∀ e ∈ i.L, LdOk i.q i.n i.m e
def sp_Span_lowered (K : PySem.W.Frag) : Sp := Pm (I := SpI) SpI.ok (fun i => [pA i.a, pRow K i.r]) (fun i => [oSp K i.a i.q i.n i.m i.L]) (fun i => pTup K [pRow K (lowI i.q i.m i.L i.r).1, pRow K (lowI i.q i.m i.L i.r).2]) (fun i => [oSp K i.a i.q i.n i.m i.L])
theorem tl_Span_lowered {a : Addr} {q n m : Nat} {L : List Ld} {r : List Int} (h : SpI.ok ⟨a, q, n, m, L, r⟩) : Tl (sp_Span_lowered K) [pA a, pRow K r] [oSp K a q n m L] (pTup K [pRow K (lowI q m L r).1, pRow K (lowI q m L r).2]) [oSp K a q n m L] := tl_pm (I := SpI) ⟨a, q, n, m, L, r⟩ h
abbrev C_Span_lowered (P : Program) (wd : World) (K : PySem.W.Frag) (mg : Str → Option Value) (base : Heap) : Prop := CallM P wd K mg base 4 (He.ga K "Span") "lowered" ["self", "row"] [] (sp_Span_lowered K)
theorem ok_Span_lowered (T : Tx K mg) (c_Field_joined : C_Field_joined P wd K mg base) (c_Field_scaled : C_Field_scaled P wd K mg base) (c_Field_joinedD : C_Field_joinedD P wd K mg base) : C_Span_lowered P wd K mg base := by
  obtain ⟨fd, F⟩ := fd_Span_lowered T
  have G : FnOk P wd K mg base CX0 4 _ fd ["self", "row"] (sp_Span_lowered K) := fn_pm F sc_Span_lowered (fun _ _ => rfl) (fun cdv A outer s H E hr i hi => by
    obtain ⟨a, q, n, m, L, r⟩ := i
    obtain ⟨hq, hn, hm, hLl, hrw, hL⟩ : q ∈ KM.sizes ∧ n ≤ 500 ∧ m ≤ 500 ∧ L.length ≤ 500 ∧ (In q r ∧ r.length = n) ∧ ∀ e ∈ L, LdOk q n m e := hi
    refine ⟨_, (pss_cons (ps_set (i := 2) sc_Span_lowered.nd rfl (Or.inl rfl) (pe_op (KX.repT (K := K)) (pe_tup (pa_cons pe_int pa_nil)) (KX.fld (K := K) (pv 0) rfl)))
      (pss_cons (ps_for PassesOwn.never rfl (KX.iL (K := K) (KX.fld (K := K) (pv 0) rfl)) (KX.gT (K := K) (n := 3) (by rfl) (pgs_cons (pg_name (i := 3) sc_Span_lowered.nd rfl (Or.inl rfl)) (pgs_cons (pg_name (i := 4) sc_Span_lowered.nd rfl (Or.inl rfl)) (pgs_cons (pg_name (i := 5) sc_Span_lowered.nd rfl (Or.inl rfl)) pgs_nil)))) (pss_cons (ps_set (i := 6) sc_Span_lowered.nd rfl (Or.inl rfl) (pe_ix (KX.ixT (K := K)) (pv 1) (pv 3) (fun _ _ => rfl)))
      (pss_one (ps_if (pt_cmpR op_ne (pv 6) pe_int (nomark _)) (pss_cons (ps_set (i := 1) sc_Span_lowered.nd rfl (Or.inl rfl) (pe_methG (KX.fld (K := K) (pv 0) rfl) (cl_Field T) c_Field_joined hr (pa_cons (pv 1) (pa_cons (pe_methG (KX.fld (K := K) (pv 0) rfl) (cl_Field T) c_Field_scaled hr (pa_cons (pv 4) (pa_cons (pv 6) pa_nil))) (pa_cons (pe_un un_neg pe_int) pa_nil)))))
      (pss_one (ps_set (i := 2) sc_Span_lowered.nd rfl (Or.inl rfl) (pe_methG (KX.fld (K := K) (pv 0) rfl) (cl_Field T) c_Field_joinedD hr (pa_cons (pv 2) (pa_cons (pe_methG (KX.fld (K := K) (pv 0) rfl) (cl_Field T) c_Field_scaled hr (pa_cons (pv 5) (pa_cons (pv 6) pa_nil))) pa_nil)))))) pss_nil))))
      (pss_one (ps_ret (pe_tup (pa_cons (pv 1) (pa_cons (pv 2) pa_nil))))))), ?_⟩
    show Eb [some (pA a), some (pRow K r), none, none, none, none, none] [oSp K a q n m L] _ (pTup K [pRow K (lowI q m L r).1, pRow K (lowI q m L r).2]) [oSp K a q n m L]
    let st : Nat → List Int × List Int := fun k => (L.take k).foldl (lowStepI q) (r, List.replicate m 0)
    have hst : ∀ k, StOk q n m (st k) := fun k => fold_ok hq _ _ ⟨hrw, In.rep hq, by simp⟩ fun e he => hL e (List.mem_of_mem_take he)
    refine Er.eb (er_seq (ρ1 := [some (pA a), some (pRow K r), some (pRow K (List.replicate m 0)), none, none, none, none]) (es_set (Ev.is (ee_repT1 (n := m) (ee_tup (ea_cons ee_c ea_nil) (by simp)) (ee_fldO (w1 := []) (w2 := []) (ee_var rfl) (cl_Span T) (na_Span_many T) rfl) rfl (by omega)) (by rw [pRow, List.map_replicate]))) (er_seq (es_forM L (pLd K) (fun k => [some (pA a), some (pRow K (st k).1), some (pRow K (st k).2), none, none, none, none]) (fun _ => [oSp K a q n m L]) rfl (by walk_at "sub") (ei_list (ee_fldO (w1 := []) (w2 := []) (ee_var rfl) (cl_Span T) (na_Span_lead_rows T) rfl)) (fun k e he => ?_)) ?_))
    · obtain ⟨h1, h2, h3⟩ := hL e (List.mem_of_getElem? he)
      obtain ⟨k1, k2⟩ := hst k
      have hs : st (k + 1) = lowStepI q (st k) e := take_fold he
      have hg : 0 ≤ (st k).1.getD e.1 0 ∧ (st k).1.getD e.1 0 < q := k1.1.get (by omega)
      rw [hs]
      generalize st k = s0 at k1 k2 hg
      refine ⟨_, _, eg_tup3 eg_name eg_name eg_name, es_seq (es_set (ee_ixT (n := e.1) (P := pI (s0.1.getD e.1 0)) (ee_var rfl) (ee_var rfl) (ixN_nat (by rw [List.length_map]; omega)) (getD_pI (by omega))))
        (es_if (ρ' := [some (pA a), some (pRow K (lowStepI q s0 e).1), some (pRow K (lowStepI q s0 e).2), some (pI (e.1 : Nat)), some (pRow K e.2.1), some (pRow K e.2.2), some (pI (s0.1.getD e.1 0))]) (et_test (ee_neI (ee_var rfl) ee_c)) (fun hb => ?_) (fun hb => ?_)), by walk_at "sub"⟩
      · have hb : ¬ s0.1.getD e.1 0 = 0 := by simpa using hb
        unfold lowStepI
        rw [if_neg hb]
        exact es_seq (es_set (ee_meth (ee_fldO (w1 := []) (w2 := []) (ee_var rfl) (cl_Span T) (na_Span_field_of T) rfl) rfl (ea_cons (ee_var rfl) (ea_cons (ee_meth (ee_fldO (w1 := []) (w2 := []) (ee_var rfl) (cl_Span T) (na_Span_field_of T) rfl) rfl (ea_cons (ee_var rfl) (ea_cons (ee_var rfl) ea_nil)) (tl_scale ⟨hq, h2.1, by omega⟩)) (ea_cons (ee_un ee_c) ea_nil))) (tl_Field_joined ⟨hq, by rw [scale_len]; omega, by omega, by omega, by omega⟩)))
          (es_set (ee_methD (ee_fldO (w1 := []) (w2 := []) (ee_var rfl) (cl_Span T) (na_Span_field_of T) rfl) rfl (ea_cons (ee_var rfl) (ea_cons (ee_meth (ee_fldO (w1 := []) (w2 := []) (ee_var rfl) (cl_Span T) (na_Span_field_of T) rfl) rfl (ea_cons (ee_var rfl) (ea_cons (ee_var rfl) ea_nil)) (tl_scale ⟨hq, h3.1, by omega⟩)) ea_nil)) (tl_Field_joined ⟨hq, by rw [scale_len]; omega, by omega, by omega, by omega⟩)))
      · have hb : s0.1.getD e.1 0 = 0 := by simpa using hb
        have e0 : lowStepI q s0 e = s0 := by unfold lowStepI; rw [if_pos hb]
        rw [e0]
        exact es_next
    · have e1 : st L.length = lowI q m L r := by show (L.take L.length).foldl _ _ = _; rw [List.take_length]; rfl
      rw [e1]
      exact er_ret (ee_tup (ea_cons (ee_var rfl) (ea_cons (ee_var rfl) ea_nil)) (by simp))
)
  exact ⟨fd, _, [], G, me_Span_lowered T, F.bindsN (fun _ _ _ _ _ _ us hl => match us, hl with | [_, _], _ => rfl), .nil⟩
end
end J
/-! ## W8 -/
set_option Elab.async false
set_option linter.all false
set_option maxRecDepth 100000
set_option maxHeartbeats 600000
namespace J
open PySem L2 KT
local macro_rules | `(tactic| walk_at "sub") => `(tactic| repeat (first | exact Sub.nil | (with_reducible refine Sub.keep (Pr.le_refl _) ?_) | refine Sub.drop ?_ | refine Sub.keepV (by first | rfl | (simp; done) | omega) ?_ | refine Sub.keep (Pr.le_refl _) ?_))
section
variable {P : Program} {wd : World} {K : PySem.W.Frag} {mg : Str → Option Value} {base : Heap}
def fstN (l : List Int) : Option Nat := ((l.zipIdx.filter fun p => !decide (p.1 = 0)).head?).map (·.2)
theorem fstPl_none {l : List Int} (h : fstN l = none) : fstPl l = V.non := by
  unfold fstN at h
  unfold fstPl
  cases hc : (l.zipIdx.filter fun p => !decide (p.1 = 0)) with
  | nil => rfl
  | cons p r => rw [hc] at h; cases h
theorem fstPl_some {l : List Int} {p : Nat} (h : fstN l = some p) : fstPl l = V.int (p : Nat) ∧ p < l.length ∧ l.getD p 0 ≠ 0 := by
  unfold fstN at h
  unfold fstPl
  cases hc : (l.zipIdx.filter fun p => !decide (p.1 = 0)) with
  | nil => rw [hc] at h; cases h
  | cons z r =>
    rw [hc] at h
    have h : z.2 = p := Option.some.inj h
    subst h
    have hz : z ∈ l.zipIdx.filter fun p => !decide (p.1 = 0) := by rw [hc]; exact List.mem_cons_self
    obtain ⟨h1, h2⟩ := List.mem_filter.mp hz
    have h3 := List.mk_mem_zipIdx_iff_getElem?.mp (show (z.1, z.2) ∈ l.zipIdx from h1)
    refine ⟨rfl, (List.getElem?_eq_some_iff.mp h3).1, ?_⟩
    rw [List.getD_eq_getElem?_getD, h3]
    simpa using h2
def invI (q : Nat) (a : Int) : Int := match ((List.range (q - 1)).filter fun k => decide (KM.mulI q a (1 + (k : Nat)) = 1)).head? with | some r => 1 + (r : Nat) | none => 0
theorem tl_inv {q : Nat} (hq : q ∈ KM.sizes) {a : Int} (h : 0 < a ∧ a < q) : Tl (sp_Field_inverse K) [pFq K q, pI a] [] (pI (invI q a)) [] ∧ 0 ≤ invI q a ∧ invI q a < q := by
  obtain ⟨r, hr⟩ := KM.inv_at hq h
  have e : invI q a = 1 + (r : Nat) := by unfold invI; rw [hr]
  rw [e]
  have hm : r ∈ List.range (q - 1) := (List.mem_filter.mp (List.mem_of_mem_head? (by rw [hr]; rfl))).1
  have := List.mem_range.mp hm
  exact ⟨tl_Field_inverse ⟨hq, ⟨by omega, h.2⟩, hr⟩, by omega, by omega⟩
def redoI (q p : Nat) (fk fs : List Int) (e : Ld) : Ld := (e.1, joinI q e.2.1 (scaleI q fk (e.2.1.getD p 0)) (-1), joinI q (e.2.2 ++ [0]) (scaleI q fs (e.2.1.getD p 0)) (-1))
def putLI (q m : Nat) (L : List Ld) (lf : List Int × List Int) : List Ld × Nat := match fstN lf.1 with
  | none => (L, m)
  | some p => ((p, scaleI q lf.1 (invI q (lf.1.getD p 0)), scaleI q (joinI q (List.replicate m 0 ++ [1]) (lf.2 ++ [0]) (-1)) (invI q (lf.1.getD p 0))) :: L.map (redoI q p (scaleI q lf.1 (invI q (lf.1.getD p 0))) (scaleI q (joinI q (List.replicate m 0 ++ [1]) (lf.2 ++ [0]) (-1)) (invI q (lf.1.getD p 0)))), m + 1)
def putI (q m : Nat) (L : List Ld) (r : List Int) : List Ld × Nat := putLI q m L (lowI q m L r)
def oPut (K : PySem.W.Frag) (a : Addr) (q n : Nat) (pr : List Ld × Nat) : Ow := oEx (α := List Ld) a (fun M => oSp K a q n pr.2 M) (fun _ => rfl) (fun M => M.Perm pr.1)
abbrev qPut : Str := (("Span.put" : Str) ++ ".<locals>.") ++ "<lambda>"
abbrev tPut (K : PySem.W.Frag) : Addr × Addr := He.cT K ("Span", some "put")
abbrev oTp (K : PySem.W.Frag) : Ow := oTab (tPut K).2 qPut
def sp_Span_put (K : PySem.W.Frag) : Sp := Pm (I := SpI) SpI.ok (fun i => [pA i.a, pRow K i.r]) (fun i => [oSp K i.a i.q i.n i.m i.L, oTp K]) (fun i => pTop) (fun i => [oPut K i.a i.q i.n (putI i.q i.m i.L i.r), oTp K])
theorem tl_Span_put {a : Addr} {q n m : Nat} {L : List Ld} {r : List Int} (h : SpI.ok ⟨a, q, n, m, L, r⟩) : Tl (sp_Span_put K) [pA a, pRow K r] [oSp K a q n m L, oTp K] pTop [oPut K a q n (putI q m L r), oTp K] := tl_pm (I := SpI) ⟨a, q, n, m, L, r⟩ h
abbrev C_Span_put (P : Program) (wd : World) (K : PySem.W.Frag) (mg : Str → Option Value) (base : Heap) : Prop := CallM P wd K mg base 5 (He.ga K "Span") "put" ["self", "row"] [] (sp_Span_put K)
theorem put_many {A B C D E : Pr} : putP "many" E ([("field_of", A), ("width", B), ("lead_rows", C), ("many", D)] : List (Str × Pr)) = ([("field_of", A), ("width", B), ("lead_rows", C), ("many", E)] : List (Str × Pr)) := by
  rw [putP, if_neg (by decide), putP, if_neg (by decide), putP, if_neg (by decide), putP, if_pos rfl]
theorem put_lead {A B C D E : Pr} : putP "lead_rows" E ([("field_of", A), ("width", B), ("lead_rows", C), ("many", D)] : List (Str × Pr)) = ([("field_of", A), ("width", B), ("lead_rows", E), ("many", D)] : List (Str × Pr)) := by
  rw [putP, if_neg (by decide), putP, if_neg (by decide), putP, if_pos rfl]
theorem ok_Span_put (T : Tx K mg) (TBp : LamX.TabB base mg (tPut K).1 (tPut K).2) (c_Field_needs_row : C_Field_needs_row P wd K mg base) (c_Span_lowered : C_Span_lowered P wd K mg base) (c_first_place : C_first_place P wd K mg base) (c_Field_inverse : C_Field_inverse P wd K mg base) (c_Field_joined : C_Field_joined P wd K mg base) (c_Field_scaled : C_Field_scaled P wd K mg base) : C_Span_put P wd K mg base := by
  obtain ⟨fd, F⟩ := fd_Span_put T
  have G : FnOk P wd K mg base CX0 5 _ fd ["self", "row"] (sp_Span_put K) := fn_pmC F sc_Span_put (fun _ _ => rfl) (fun A outer s H E hr i hi => by
    obtain ⟨a, q, n, m, L, r⟩ := i
    obtain ⟨hq, hn, hm, hLl, hrw, hL⟩ : q ∈ KM.sizes ∧ n ≤ 500 ∧ m ≤ 500 ∧ L.length ≤ 500 ∧ (In q r ∧ r.length = n) ∧ ∀ e ∈ L, LdOk q n m e := hi
    refine ⟨_, (pss_cons (ps_expr (pe_methG (KX.fld (K := K) (pv 0) rfl) (cl_Field T) c_Field_needs_row hr (pa_cons (pv 1) (pa_cons (KX.fld (K := K) (pv 0) rfl) pa_nil))))
      (pss_cons (ps_asg (pe_methG (pv 0) (cl_Span T) c_Span_lowered hr (pa_cons (pe_callTy (KX.tupOf (K := K)) (by rfl) (fr_tuple T) (by decide +kernel) (pa_cons (pv 1) pa_nil)) pa_nil)) (KX.gT (K := K) (n := 2) (by rfl) (pgs_cons (pg_name (i := 2) sc_Span_put.nd rfl (Or.inl rfl)) (pgs_cons (pg_name (i := 3) sc_Span_put.nd rfl (Or.inl rfl)) pgs_nil))))
      (pss_cons (ps_set (i := 4) sc_Span_put.nd rfl (Or.inl rfl) (pe_callG c_first_place hr (by rfl) (pa_cons (pv 2) pa_nil)))
      (pss_cons (ps_if (pt_cmpR op_isN (pv 4) pe_non (nomark _)) (pss_one (ps_ret pe_bl)) pss_nil)
      (pss_cons (KX.sfldaug (K := K) (pv 0) pe_int in_add)
      (pss_cons (ps_set (i := 5) sc_Span_put.nd rfl (Or.inl rfl) (pe_methG (KX.fld (K := K) (pv 0) rfl) (cl_Field T) c_Field_inverse hr (pa_cons (pe_ix (KX.ixT (K := K)) (pv 2) (pv 4) (fun _ _ => rfl)) pa_nil)))
      (pss_cons (ps_set (i := 6) sc_Span_put.nd rfl (Or.inl rfl) (pe_methG (KX.fld (K := K) (pv 0) rfl) (cl_Field T) c_Field_joined hr (pa_cons (pe_op (KX.catT (K := K)) (pe_op (KX.repT (K := K)) (pe_tup (pa_cons pe_int pa_nil)) (pe_op op_sub (KX.fld (K := K) (pv 0) rfl) pe_int)) (pe_tup (pa_cons pe_int pa_nil))) (pa_cons (pe_op (KX.catT (K := K)) (pv 3) (pe_tup (pa_cons pe_int pa_nil))) (pa_cons (pe_un un_neg pe_int) pa_nil)))))
      (pss_cons (ps_set (i := 7) sc_Span_put.nd rfl (Or.inl rfl) (pe_tup (pa_cons (pv 4) (pa_cons (pe_methG (KX.fld (K := K) (pv 0) rfl) (cl_Field T) c_Field_scaled hr (pa_cons (pv 2) (pa_cons (pv 5) pa_nil))) (pa_cons (pe_methG (KX.fld (K := K) (pv 0) rfl) (cl_Field T) c_Field_scaled hr (pa_cons (pv 6) (pa_cons (pv 5) pa_nil))) pa_nil)))))
      (pss_cons (ps_set (i := 8) sc_Span_put.nd rfl (Or.inl rfl) (pe_lst (pa_cons (pv 7) pa_nil)))
      (pss_cons (ps_for PassesOwn.never rfl (KX.iL (K := K) (KX.fld (K := K) (pv 0) rfl)) (KX.gT (K := K) (n := 3) (by rfl) (pgs_cons (pg_name (i := 9) sc_Span_put.nd rfl (Or.inl rfl)) (pgs_cons (pg_name (i := 10) sc_Span_put.nd rfl (Or.inl rfl)) (pgs_cons (pg_name (i := 11) sc_Span_put.nd rfl (Or.inl rfl)) pgs_nil)))) (pss_cons (ps_set (i := 12) sc_Span_put.nd rfl (Or.inl rfl) (pe_ix (KX.ixT (K := K)) (pv 10) (pv 4) (fun _ _ => rfl)))
      (pss_one (ps_expr (pe_bm PySem.F.plainAttrs_list PySem.F.slot_list_append PySem.F.type_list_append mt_append (pv 8) (pa_cons (pe_tup (pa_cons (pv 9) (pa_cons (pe_methG (KX.fld (K := K) (pv 0) rfl) (cl_Field T) c_Field_joined hr (pa_cons (pv 10) (pa_cons (pe_methG (KX.fld (K := K) (pv 0) rfl) (cl_Field T) c_Field_scaled hr (pa_cons (pe_ix (KX.ixT (K := K)) (pv 7) pe_int (fun _ _ => rfl)) (pa_cons (pv 12) pa_nil))) (pa_cons (pe_un un_neg pe_int) pa_nil)))) (pa_cons (pe_methG (KX.fld (K := K) (pv 0) rfl) (cl_Field T) c_Field_joined hr (pa_cons (pe_op (KX.catT (K := K)) (pv 11) (pe_tup (pa_cons pe_int pa_nil))) (pa_cons (pe_methG (KX.fld (K := K) (pv 0) rfl) (cl_Field T) c_Field_scaled hr (pa_cons (pe_ix (KX.ixT (K := K)) (pv 7) pe_int (fun _ _ => rfl)) (pa_cons (pv 12) pa_nil))) (pa_cons (pe_un un_neg pe_int) pa_nil)))) pa_nil)))) pa_nil))))))
      (pss_cons (KX.sfld (K := K) (pv 0) (R4.pe_sortedLam (k := 1) hr (by rfl) (fr_sorted T) (pa_cons (pv 8) pa_nil) ⟨rfl, rfl, rfl, by decide +kernel, by decide +kernel, rfl, fun _ _ _ _ _ _ _ => rfl⟩ TBp rfl rfl) rfl)
      (pss_one (ps_ret pe_bl))))))))))))), ?_⟩
    show Eb [some (pA a), some (pRow K r), none, none, none, none, none, none, none, none, none, none, none] [oSp K a q n m L, oTp K] _ pTop [oPut K a q n (putLI q m L (lowI q m L r)), oTp K]
    have hlf := low_ok hq hrw hL
    refine Er.eb (er_seq (es_drop (ee_meth (ee_fldO (w1 := []) (w2 := [oTp K]) (ee_var rfl) (cl_Span T) (na_Span_field_of T) rfl) rfl (ea_cons (ee_var rfl) (ea_cons (ee_fldO (w1 := []) (w2 := [oTp K]) (ee_var rfl) (cl_Span T) (na_Span_width T) rfl) ea_nil)) (tl_Field_needs_row ⟨hrw.1, by omega⟩ (by rw [hrw.2]))))
      (er_seq (w1 := [oSp K a q n m L, oTp K]) (es_asgG (ev_methO (w := [oSp K a q n m L]) (r := [oTp K]) (w1 := []) (w2 := []) (ds := []) (ee_var rfl) rfl rfl (ea_cons (ee_tupId (ea_cons (ee_var rfl) ea_nil)) ea_nil) (fun _ => .nil) (tl_Span_lowered ⟨hq, hn, hm, hLl, hrw, hL⟩)) (fun _ e => by subst e; exact eg_tup2 eg_name eg_name)) ?_))
    generalize lowI q m L r = lf at hlf
    obtain ⟨⟨f1, f2⟩, f3, f4⟩ := hlf
    refine er_seq (es_set (ee_call (ea_cons (ee_var rfl) ea_nil) (tl_first_place (by omega)))) ?_
    cases hfs : fstN lf.1 with
    | none =>
      rw [fstPl_none hfs]
      have e0 : putLI q m L lf = (L, m) := by unfold putLI; rw [hfs]
      rw [e0]
      refine er_ifr (b := true) (Et.is (et_test (ee_isN (ee_var rfl) is_non_V)) rfl) (fun _ => ?_) (fun z => by cases z)
      exact Er.ow_le (w1 := []) (w2 := [oTp K]) (Er.le (er_ret ee_c) (fun _ _ _ => trivial)) (oEx_le (f := fun M => oSp K a q n m M) L (List.Perm.refl _))
    | some p =>
      obtain ⟨g1, g2, g3⟩ := fstPl_some hfs
      rw [g1]
      have hlp := f1.get (i := p) g2
      obtain ⟨hinv, i1, i2⟩ := tl_inv (K := K) hq (a := lf.1.getD p 0) ⟨by omega, hlp.2⟩
      have e0 : putLI q m L lf = ((p, scaleI q lf.1 (invI q (lf.1.getD p 0)), scaleI q (joinI q (List.replicate m 0 ++ [1]) (lf.2 ++ [0]) (-1)) (invI q (lf.1.getD p 0))) :: L.map (redoI q p (scaleI q lf.1 (invI q (lf.1.getD p 0))) (scaleI q (joinI q (List.replicate m 0 ++ [1]) (lf.2 ++ [0]) (-1)) (invI q (lf.1.getD p 0)))), m + 1) := by unfold putLI; rw [hfs]
      rw [e0]
      generalize invI q (lf.1.getD p 0) = sh at hinv i1 i2
      refine er_ifr (b := false) (Et.is (et_test (ee_isN (ee_var rfl) is_non_V)) rfl) (fun z => by cases z) (fun _ => ?_)
      refine er_seq (w1 := [oSp K a q n (m + 1) L, oTp K]) (Es.is (es_fldAug (i := (m : Int)) (w1 := []) (w2 := [oTp K]) (ee_var rfl) ee_c (cl_Span T) (na_Span_many T) rfl (by simp)) (by rw [put_many]; rfl)) ?_
      refine er_seq (es_set (ee_meth (ee_fldO (w1 := []) (w2 := [oTp K]) (ee_var rfl) (cl_Span T) (na_Span_field_of T) rfl) rfl (ea_cons (ee_ixT (n := p) (P := pI (lf.1.getD p 0)) (ee_var rfl) (ee_var rfl) (ixN_nat (by rw [List.length_map]; omega)) (getD_pI (by omega))) ea_nil) hinv)) ?_
      have i1n : In q [1] := fun x hx => by
        have hx : x = 1 := by simpa using hx
        have := (KM.sizes_pr q hq).2.2.2.2.2.1
        omega
      have i0n : In q [0] := fun x hx => by
        have hx : x = 0 := by simpa using hx
        have := (KM.sizes_pr q hq).2.2.2.2.2.1
        omega
      have ho1 : In q (List.replicate m 0 ++ [1]) ∧ (List.replicate m (0 : Int) ++ [1]).length = m + 1 := ⟨In.app (In.rep hq) i1n, by simp⟩
      have ho2 : In q (lf.2 ++ [0]) ∧ (lf.2 ++ [0]).length = m + 1 := ⟨In.app f3 i0n, by simp [f4]⟩
      have how : In q (joinI q (List.replicate m 0 ++ [1]) (lf.2 ++ [0]) (-1)) ∧ (joinI q (List.replicate m 0 ++ [1]) (lf.2 ++ [0]) (-1)).length = m + 1 := ⟨In.join hq ho1.1 ho2.1 (.inr rfl), by rw [join_len (by rw [ho1.2, ho2.2]), ho1.2]⟩
      refine er_seq (ρ1 := [some (pA a), some (pRow K r), some (pRow K lf.1), some (pRow K lf.2), some (pI (p : Nat)), some (pI sh), some (pRow K (joinI q (List.replicate m 0 ++ [1]) (lf.2 ++ [0]) (-1))), none, none, none, none, none, none]) (es_set (ee_meth (ee_fldO (w1 := []) (w2 := [oTp K]) (ee_var rfl) (cl_Span T) (na_Span_field_of T) rfl) rfl (ea_cons (Ev.is (ee_catT (ee_repT1 (n := m) (ee_tup (ea_cons ee_c ea_nil) (by simp)) (ee_I0 (ee_fldO (w1 := []) (w2 := [oTp K]) (ee_var rfl) (cl_Span T) (na_Span_many T) rfl) ee_c) (by omega) (by omega)) (ee_tup (ea_cons ee_c ea_nil) (by simp)) (by simp; omega)) (show pTup K (List.replicate m (pI 0) ++ [pI 1]) = pRow K (List.replicate m 0 ++ [1]) by rw [pRow, List.map_append, List.map_replicate]; rfl)) (ea_cons (Ev.is (ee_catT (ee_var rfl) (ee_tup (ea_cons ee_c ea_nil) (by simp)) (by simp; omega)) (show pTup K (lf.2.map pI ++ [pI 0]) = pRow K (lf.2 ++ [0]) by rw [pRow, List.map_append]; rfl)) (ea_cons (ee_un ee_c) ea_nil))) (tl_Field_joined ⟨hq, by rw [ho1.2, ho2.2], by omega, by omega, by omega⟩))) ?_
      generalize joinI q (List.replicate m 0 ++ [1]) (lf.2 ++ [0]) (-1) = ow at how
      have hfk : In q (scaleI q lf.1 sh) ∧ (scaleI q lf.1 sh).length = n := ⟨In.scale hq f1 ⟨i1, i2⟩, by rw [scale_len, f2]⟩
      have hfs2 : In q (scaleI q ow sh) ∧ (scaleI q ow sh).length = m + 1 := ⟨In.scale hq how.1 ⟨i1, i2⟩, by rw [scale_len, how.2]⟩
      refine er_seq (ρ1 := [some (pA a), some (pRow K r), some (pRow K lf.1), some (pRow K lf.2), some (pI (p : Nat)), some (pI sh), some (pRow K ow), some (pLd K (p, scaleI q lf.1 sh, scaleI q ow sh)), none, none, none, none, none]) (es_set (ee_tup (ea_cons (ee_var rfl) (ea_cons (ee_meth (ee_fldO (w1 := []) (w2 := [oTp K]) (ee_var rfl) (cl_Span T) (na_Span_field_of T) rfl) rfl (ea_cons (ee_var rfl) (ea_cons (ee_var rfl) ea_nil)) (tl_scale ⟨hq, f1, by omega⟩)) (ea_cons (ee_meth (ee_fldO (w1 := []) (w2 := [oTp K]) (ee_var rfl) (cl_Span T) (na_Span_field_of T) rfl) rfl (ea_cons (ee_var rfl) (ea_cons (ee_var rfl) ea_nil)) (tl_scale ⟨hq, how.1, by omega⟩)) ea_nil))) (by simp))) ?_
      generalize scaleI q lf.1 sh = fk at hfk
      generalize scaleI q ow sh = fs at hfs2
      refine er_newOwn (ea_cons (ee_var rfl) ea_nil) (by simp) (fun b => ?_)
      refine er_seq (ρ1 := [some (pA a), some (pRow K r), some (pRow K lf.1), some (pRow K lf.2), some (pI (p : Nat)), some (pI sh), some (pRow K ow), some (pLd K (p, fk, fs)), some (pA b), none, none, none, none]) (w1 := [oSp K a q n (m + 1) L, oTp K, oLst b (((p, fk, fs) :: L.map (redoI q p fk fs)).map (pLd K))]) ?_ ?_
      · refine Es.is (Es.sub (es_forM L (pLd K) (fun _ => [some (pA a), some (pRow K r), some (pRow K lf.1), some (pRow K lf.2), some (pI (p : Nat)), some (pI sh), some (pRow K ow), some (pLd K (p, fk, fs)), some (pA b), none, none, none, none]) (fun k => [oSp K a q n (m + 1) L, oTp K, oLst b (((p, fk, fs) :: (L.take k).map (redoI q p fk fs)).map (pLd K))]) rfl (by walk_at "sub") (ei_list (ee_fldO (w1 := []) (w2 := [oTp K, oLst b [pLd K (p, fk, fs)]]) (ee_var rfl) (cl_Span T) (na_Span_lead_rows T) rfl)) (fun k e he => ?_)) (by walk_at "sub")) (by rw [List.take_length])
        obtain ⟨k1, k2, k3⟩ := hL e (List.mem_of_getElem? he)
        have hg : 0 ≤ e.2.1.getD p 0 ∧ e.2.1.getD p 0 < q := k2.1.get (by omega)
        refine ⟨_, _, eg_tup3 eg_name eg_name eg_name, es_seq (es_set (ee_ixT (n := p) (P := pI (e.2.1.getD p 0)) (ee_var rfl) (ee_var rfl) (ixN_nat (by rw [List.length_map]; omega)) (getD_pI (by omega)))) (Es.is (es_append (w := [oSp K a q n (m + 1) L, oTp K]) (w2 := []) (P := pLd K (redoI q p fk fs e)) rfl (ee_tup (ea_cons (ee_var rfl) (ea_cons
          (ee_meth (ee_fldO (w1 := []) (w2 := [oTp K, oLst b _]) (ee_var rfl) (cl_Span T) (na_Span_field_of T) rfl) rfl (ea_cons (ee_var rfl) (ea_cons (ee_meth (ee_fldO (w1 := []) (w2 := [oTp K, oLst b _]) (ee_var rfl) (cl_Span T) (na_Span_field_of T) rfl) rfl (ea_cons (ee_ixT (n := 1) (P := pRow K fk) (ee_var rfl) ee_c (ixN_eq (m := 1) rfl (by simp)) rfl) (ea_cons (ee_var rfl) ea_nil)) (tl_scale ⟨hq, hfk.1, by omega⟩)) (ea_cons (ee_un ee_c) ea_nil))) (tl_Field_joined ⟨hq, by rw [scale_len]; omega, by omega, by omega, by omega⟩))
          (ea_cons (ee_meth (ee_fldO (w1 := []) (w2 := [oTp K, oLst b _]) (ee_var rfl) (cl_Span T) (na_Span_field_of T) rfl) rfl (ea_cons (Ev.is (ee_catT (ee_var rfl) (ee_tup (ea_cons ee_c ea_nil) (by simp)) (by simp; omega)) (show pTup K (e.2.2.map pI ++ [pI 0]) = pRow K (e.2.2 ++ [0]) by rw [pRow, List.map_append]; rfl)) (ea_cons (ee_meth (ee_fldO (w1 := []) (w2 := [oTp K, oLst b _]) (ee_var rfl) (cl_Span T) (na_Span_field_of T) rfl) rfl (ea_cons (ee_ixT (n := 2) (P := pRow K fs) (ee_var rfl) ee_c (ixN_eq (m := 2) rfl (by simp)) rfl) (ea_cons (ee_var rfl) ea_nil)) (tl_scale ⟨hq, hfs2.1, by omega⟩)) (ea_cons (ee_un ee_c) ea_nil))) (tl_Field_joined ⟨hq, by rw [scale_len, List.length_append]; simp; omega, by rw [List.length_append]; simp; omega, by omega, by omega⟩)) ea_nil))) (by simp)) ?_) ?_), by walk_at "sub"⟩
        · simp; omega
        · rw [List.take_add_one, he]
          simp
      · refine Er.freeze (i := 8) (w := [oSp K a q n (m + 1) L, oTp K]) (w2 := []) rfl ?_
        refine er_seq (w1 := [oIns a (He.ga K "Span") ([("field_of", pFq K q), ("width", pI (n : Nat)), ("lead_rows", pEx fun zs : { zs : List Ld // zs.Perm ((p, fk, fs) :: L.map (redoI q p fk fs)) } => pLst (zs.1.map (pLd K))), ("many", pI ((m + 1 : Nat) : Int))] : List (Str × Pr)), oTp K]) (Es.is (es_fld (w1 := []) (w2 := [oTp K]) (ev_sort (w1 := [oSp K a q n (m + 1) L]) (w2 := []) (xs := (p, fk, fs) :: L.map (redoI q p fk fs)) (f := pLd K) (fun e : Ld => ((e.1 : Nat) : Int)) (fun e : Ld => [pRow K e.2.1, pRow K e.2.2]) (fun _ => rfl) (ea_cons (ee_var rfl) ea_nil)) (ee_var rfl) (cl_Span T) (na_Span_lead_rows T) (by simp)) (by rw [put_lead]; rfl)) ?_
        refine Er.ow_le (w1 := []) (w2 := [oTp K]) (Er.le (er_ret ee_c) (fun _ _ _ => trivial)) ⟨rfl, fun F o h => ?_⟩
        obtain ⟨dx, gs, h1, h2, h3⟩ := h
        generalize hgs : gs.map (·.2) = vs at h3
        cases h3 with
        | cons a1 h3 => cases h3 with
          | cons a2 h3 => cases h3 with
            | cons a3 h3 =>
              obtain ⟨⟨zs, hz⟩, a3⟩ := a3
              exact ⟨zs, hz, dx, gs, h1, h2, by rw [hgs]; exact .cons a1 (.cons a2 (.cons a3 h3))⟩)
  exact ⟨fd, _, [], G, me_Span_put T, F.bindsN (fun _ _ _ _ _ _ us hl => match us, hl with | [_, _], _ => rfl), .nil⟩
end
end J
/-! ## W9 -/
set_option Elab.async false
set_option linter.all false
set_option maxRecDepth 100000
set_option maxHeartbeats 600000
namespace J
open PySem L2 KT
local macro_rules | `(tactic| walk_at "sub") => `(tactic| repeat (first | exact Sub.nil | (with_reducible refine Sub.keep (Pr.le_refl _) ?_) | refine Sub.drop ?_ | refine Sub.keepV (by first | rfl | (simp; done) | omega) ?_ | refine Sub.keep (Pr.le_refl _) ?_))
section
variable {P : Program} {wd : World} {K : PySem.W.Frag} {mg : Str → Option Value} {base : Heap}
inductive PutsTo (q : Nat) : List (List Int) → List Ld → Nat → Prop
  | nil : PutsTo q [] [] 0
  | snoc {rows : List (List Int)} {L : List Ld} {m : Nat} {r : List Int} {M : List Ld} : PutsTo q rows L m → M.Perm (putI q m L r).1 → PutsTo q (rows ++ [r]) M (putI q m L r).2
theorem put_ok {q n m : Nat} (hq : q ∈ KM.sizes) {L : List Ld} {r : List Int} (hr : In q r ∧ r.length = n) (hL : ∀ e ∈ L, LdOk q n m e) :
    (putI q m L r).1.length ≤ L.length + 1 ∧ (putI q m L r).2 ≤ m + 1 ∧ ∀ e ∈ (putI q m L r).1, LdOk q n (putI q m L r).2 e := by
  have hlf := low_ok hq hr hL
  show (putLI q m L (lowI q m L r)).1.length ≤ _ ∧ (putLI q m L (lowI q m L r)).2 ≤ _ ∧ ∀ e ∈ (putLI q m L (lowI q m L r)).1, LdOk q n (putLI q m L (lowI q m L r)).2 e
  generalize lowI q m L r = lf at hlf
  obtain ⟨⟨f1, f2⟩, f3, f4⟩ := hlf
  cases hfs : fstN lf.1 with
  | none =>
    have e0 : putLI q m L lf = (L, m) := by unfold putLI; rw [hfs]
    rw [e0]
    exact ⟨by simp, by simp, hL⟩
  | some p =>
    obtain ⟨g1, g2, g3⟩ := fstPl_some hfs
    have hlp := f1.get (i := p) g2
    obtain ⟨_, i1, i2⟩ := tl_inv (K := []) hq (a := lf.1.getD p 0) ⟨by omega, hlp.2⟩
    have e0 : putLI q m L lf = ((p, scaleI q lf.1 (invI q (lf.1.getD p 0)), scaleI q (joinI q (List.replicate m 0 ++ [1]) (lf.2 ++ [0]) (-1)) (invI q (lf.1.getD p 0))) :: L.map (redoI q p (scaleI q lf.1 (invI q (lf.1.getD p 0))) (scaleI q (joinI q (List.replicate m 0 ++ [1]) (lf.2 ++ [0]) (-1)) (invI q (lf.1.getD p 0)))), m + 1) := by unfold putLI; rw [hfs]
    rw [e0]
    generalize invI q (lf.1.getD p 0) = sh at i1 i2
    have i1n : In q [1] := fun x hx => by
      have hx : x = 1 := by simpa using hx
      have := (KM.sizes_pr q hq).2.2.2.2.2.1
      omega
    have i0n : In q [0] := fun x hx => by
      have hx : x = 0 := by simpa using hx
      have := (KM.sizes_pr q hq).2.2.2.2.2.1
      omega
    have ho1 : In q (List.replicate m 0 ++ [1]) ∧ (List.replicate m (0 : Int) ++ [1]).length = m + 1 := ⟨In.app (In.rep hq) i1n, by simp⟩
    have ho2 : In q (lf.2 ++ [0]) ∧ (lf.2 ++ [0]).length = m + 1 := ⟨In.app f3 i0n, by simp [f4]⟩
    have how : In q (joinI q (List.replicate m 0 ++ [1]) (lf.2 ++ [0]) (-1)) ∧ (joinI q (List.replicate m 0 ++ [1]) (lf.2 ++ [0]) (-1)).length = m + 1 := ⟨In.join hq ho1.1 ho2.1 (.inr rfl), by rw [join_len (by rw [ho1.2, ho2.2]), ho1.2]⟩
    generalize joinI q (List.replicate m 0 ++ [1]) (lf.2 ++ [0]) (-1) = ow at how
    have hfk : In q (scaleI q lf.1 sh) ∧ (scaleI q lf.1 sh).length = n := ⟨In.scale hq f1 ⟨i1, i2⟩, by rw [scale_len, f2]⟩
    have hfs2 : In q (scaleI q ow sh) ∧ (scaleI q ow sh).length = m + 1 := ⟨In.scale hq how.1 ⟨i1, i2⟩, by rw [scale_len, how.2]⟩
    refine ⟨by simp, Nat.le_refl _, fun e he => ?_⟩
    rcases List.mem_cons.mp he with rfl | he
    · exact ⟨by omega, hfk, hfs2⟩
    · obtain ⟨d, hd, rfl⟩ := List.mem_map.mp he
      obtain ⟨k1, k2, k3⟩ := hL d hd
      have hg : 0 ≤ d.2.1.getD p 0 ∧ d.2.1.getD p 0 < q := k2.1.get (by omega)
      have hd2 : In q (d.2.2 ++ [0]) ∧ (d.2.2 ++ [0]).length = m + 1 := ⟨In.app k3.1 i0n, by simp [k3.2]⟩
      exact ⟨k1, ⟨In.join hq k2.1 (In.scale hq hfk.1 hg) (.inr rfl), by show (joinI _ _ _ _).length = n; rw [join_len (by rw [scale_len, k2.2, hfk.2]), k2.2]⟩, In.join hq hd2.1 (In.scale hq hfs2.1 hg) (.inr rfl), by show (joinI _ _ _ _).length = m + 1; rw [join_len (by rw [scale_len, hd2.2, hfs2.2]), hd2.2]⟩
theorem puts_ok {q n : Nat} (hq : q ∈ KM.sizes) {rows : List (List Int)} {L : List Ld} {m : Nat} (h : PutsTo q rows L m) (hr : ∀ r ∈ rows, In q r ∧ r.length = n) : L.length ≤ rows.length ∧ m ≤ rows.length ∧ ∀ e ∈ L, LdOk q n m e := by
  induction h with
  | nil => exact ⟨Nat.le_refl _, Nat.le_refl _, fun e he => by cases he⟩
  | @snoc rows L m r M h p ih =>
    obtain ⟨i1, i2, i3⟩ := ih fun r hr' => hr r (List.mem_append_left _ hr')
    obtain ⟨k1, k2, k3⟩ := put_ok hq (hr r (by simp)) i3
    refine ⟨?_, ?_, fun e he => k3 e (p.mem_iff.mp he)⟩
    · rw [p.length_eq, List.length_append, List.length_singleton]; omega
    · rw [List.length_append, List.length_singleton]; omega
abbrev fdE (K : PySem.W.Frag) (q n : Nat) (rows : List (List Int)) : List (Str × Pr) := [("field_of", pFq K q), ("width", pI (n : Nat)), ("lead_rows", pEx fun z : { z : List Ld × Nat // PutsTo q rows z.1 z.2 } => pLst (z.1.1.map (pLd K))), ("many", pTop)]
abbrev pSpan (K : PySem.W.Frag) (q n : Nat) (rows : List (List Int)) : Pr := pIns (He.ga K "Span") (fdE K q n rows)
def RowsOk (q n : Nat) (rows : List (List Int)) : Prop := ∀ r ∈ rows, In q r ∧ r.length = n
def sp_Span_init (K : PySem.W.Frag) : Sp := Pm (I := Addr × Nat × Nat × List (List Int)) (fun i => i.2.1 ∈ KM.sizes ∧ i.2.2.1 ≤ 500 ∧ i.2.2.2.length ≤ 100 ∧ RowsOk i.2.1 i.2.2.1 i.2.2.2) (fun i => [pA i.1, pFq K i.2.1, pI (i.2.2.1 : Nat), pRows K i.2.2.2]) (fun i => [oTp K, oIns i.1 (He.ga K "Span") []]) (fun i => pN) (fun i => [oTp K, oIns i.1 (He.ga K "Span") (fdE K i.2.1 i.2.2.1 i.2.2.2)])
theorem tl_Span_init {x : Addr} {q n : Nat} {rows : List (List Int)} (h : q ∈ KM.sizes ∧ n ≤ 500 ∧ rows.length ≤ 100 ∧ RowsOk q n rows) : Tl (sp_Span_init K) [pA x, pFq K q, pI (n : Nat), pRows K rows] [oTp K, oIns x (He.ga K "Span") []] pN [oTp K, oIns x (He.ga K "Span") (fdE K q n rows)] := tl_pm (I := Addr × Nat × Nat × List (List Int)) (x, q, n, rows) h
abbrev C_Span_init (P : Program) (wd : World) (K : PySem.W.Frag) (mg : Str → Option Value) (base : Heap) : Prop := CallK P wd K mg base 6 "Span" (He.ga K "Span") ["self", "field", "width", "rows"] 2 ["rows"] (fun vs zs => vs ++ zs) (sp_Span_init K)
theorem put_w {A B : Pr} : putP "width" B ([("field_of", A)] : List (Str × Pr)) = ([("field_of", A), ("width", B)] : List (Str × Pr)) := by
  rw [putP, if_neg (by decide), putP]
theorem put_l {A B C : Pr} : putP "lead_rows" C ([("field_of", A), ("width", B)] : List (Str × Pr)) = ([("field_of", A), ("width", B), ("lead_rows", C)] : List (Str × Pr)) := by
  rw [putP, if_neg (by decide), putP, if_neg (by decide), putP]
theorem put_m {A B C D : Pr} : putP "many" D ([("field_of", A), ("width", B), ("lead_rows", C)] : List (Str × Pr)) = ([("field_of", A), ("width", B), ("lead_rows", C), ("many", D)] : List (Str × Pr)) := by
  rw [putP, if_neg (by decide), putP, if_neg (by decide), putP, if_neg (by decide), putP]
def oPuts (K : PySem.W.Frag) (x : Addr) (q n : Nat) (rows : List (List Int)) : Ow := oEx (α := List Ld × Nat) x (fun z => oSp K x q n z.2 z.1) (fun _ => rfl) (fun z => PutsTo q rows z.1 z.2)
theorem ok_Span_init (T : Tx K mg) (c_Span_put : C_Span_put P wd K mg base) : C_Span_init P wd K mg base := by
  obtain ⟨fd, F⟩ := fd_Span_init T
  have G : FnOk P wd K mg base CX0 6 _ fd ["self", "field", "width", "rows"] (sp_Span_init K) := fn_pm F sc_Span_init (fun _ _ => rfl) (fun cdv A outer s H E hr i hi => by
    obtain ⟨x, q, n, rows⟩ := i
    obtain ⟨hq, hn, hl, hrow⟩ : q ∈ KM.sizes ∧ n ≤ 500 ∧ rows.length ≤ 100 ∧ RowsOk q n rows := hi
    refine ⟨_, (pss_cons (KX.sfld (K := K) (pv 0) (pv 1) rfl)
      (pss_cons (KX.sfld (K := K) (pv 0) (pv 2) rfl)
      (pss_cons (KX.sfld (K := K) (pv 0) (pe_lst pa_nil) rfl)
      (pss_cons (KX.sfld (K := K) (pv 0) pe_int rfl)
      (pss_one (ps_for PassesOwn.never rfl (KX.iL (K := K) (pv 3)) (pg_name (i := 4) sc_Span_init.nd rfl (Or.inl rfl)) (pss_one (ps_expr (pe_methG (pv 0) (cl_Span T) c_Span_put hr (pa_cons (pv 4) pa_nil)))))))))), ?_⟩
    show Eb [some (pA x), some (pFq K q), some (pI (n : Nat)), some (pRows K rows), none] [oTp K, oIns x (He.ga K "Span") []] _ pN [oTp K, oIns x (He.ga K "Span") (fdE K q n rows)]
    refine Es.eb (ρ' := [some (pA x), some (pFq K q), some (pI (n : Nat)), some (pRows K rows), none]) (es_seq (w1 := [oTp K, oIns x (He.ga K "Span") [("field_of", pFq K q)]]) (es_fld (w1 := [oTp K]) (w2 := []) (ee_var rfl) (ee_var rfl) (cl_Span T) (na_Span_field_of T) (by simp))
      (es_seq (w1 := [oTp K, oIns x (He.ga K "Span") [("field_of", pFq K q), ("width", pI (n : Nat))]]) (Es.is (es_fld (w1 := [oTp K]) (w2 := []) (ee_var rfl) (ee_var rfl) (cl_Span T) (na_Span_width T) (by simp)) (by rw [put_w]; rfl))
      (es_seq (w1 := [oTp K, oIns x (He.ga K "Span") [("field_of", pFq K q), ("width", pI (n : Nat)), ("lead_rows", pLst [])]]) (Es.is (es_fld (w1 := [oTp K]) (w2 := []) (ee_lst ea_nil (by simp)) (ee_var rfl) (cl_Span T) (na_Span_lead_rows T) (by simp)) (by rw [put_l]; rfl))
      (es_seq (w1 := [oTp K, oPuts K x q n []]) (Es.ow_le (w1 := [oTp K]) (w2 := []) (Es.is (es_fld (w1 := [oTp K]) (w2 := []) ee_c (ee_var rfl) (cl_Span T) (na_Span_many T) (by simp)) (by rw [put_m]; rfl)) (oEx_le (f := fun z : List Ld × Nat => oSp K x q n z.2 z.1) ([], 0) PutsTo.nil)) ?_))))
    refine Es.ow_le (w1 := [oTp K]) (w2 := []) (Es.is (es_forM rows (pRow K) (fun _ => [some (pA x), some (pFq K q), some (pI (n : Nat)), some (pRows K rows), none]) (fun k => [oTp K, oPuts K x q n (rows.take k)]) rfl (by walk_at "sub") (ei_list (ee_var rfl)) (fun k r hk => ?_)) (by rw [List.take_length]; rfl)) ?_
    · have hr1 := hrow r (List.mem_of_getElem? hk)
      have htk : rows.take (k + 1) = rows.take k ++ [r] := by rw [List.take_add_one, hk]; rfl
      refine ⟨_, [some (pA x), some (pFq K q), some (pI (n : Nat)), some (pRows K rows), some (pRow K r)], eg_name, Es.open_ (w1 := [oTp K]) (w2 := []) (fun z hz => ?_), by walk_at "sub"⟩
      obtain ⟨b1, b2, b3⟩ := puts_ok hq hz (n := n) fun r hr => hrow r (List.mem_of_mem_take hr)
      have hlt : (rows.take k).length ≤ 100 := by rw [List.length_take]; omega
      refine Es.ow_le (w1 := [oTp K]) (w2 := []) (es_drop (ev_methO (w := [oTp K, oSp K x q n z.2 z.1]) (r := []) (w1 := [oTp K]) (w2 := []) (ds := []) (ee_var rfl) rfl rfl (ea_cons (ee_var rfl) ea_nil) (fun _ => .nil) ((tl_Span_put (L := z.1) (m := z.2) ⟨hq, hn, by show z.2 ≤ 500; omega, by show z.1.length ≤ 500; omega, hr1, b3⟩).perm (List.Perm.swap _ _ _) (List.Perm.swap _ _ _)))) ?_
      refine ⟨rfl, fun F o h => ?_⟩
      obtain ⟨M, hM, hφ⟩ := h
      rw [htk]
      exact ⟨(M, (putI q z.2 z.1 r).2), PutsTo.snoc hz hM, hφ⟩
    · refine ⟨rfl, fun F o h => ?_⟩
      obtain ⟨z, hz, dx, gs, h1, h2, h3⟩ := h
      generalize hgs : gs.map (·.2) = vs at h3
      cases h3 with
      | cons a1 h3 => cases h3 with
        | cons a2 h3 => cases h3 with
          | cons a3 h3 => cases h3 with
            | cons a4 h3 =>
              cases h3
              exact ⟨dx, gs, h1, h2, by rw [hgs]; exact .cons a1 (.cons a2 (.cons ⟨⟨z, hz⟩, a3⟩ (.cons trivial .nil)))⟩)
  obtain ⟨mv, hkb⟩ := F.kbinds0 (ps := ["self", "field", "width", "rows"]) 3 ["rows"] [] (fun us _ ws => us ++ ws) (by simp) (by simp) (fun r1 _ r3 => r1.append r3) (fun D doc pm an cdv ct us mv ws h1 h2 h3 => match us, mv, ws, h1, h2, h3 with | [_, _, _], [], [_], _, _, _ => rfl)
  exact ⟨fd, _, _, G, gl_Span T, mk_Span T, hkb⟩
def sp_Span_len (K : PySem.W.Frag) : Sp := Pm (I := Nat × Nat × List (List Int)) (fun _ => True) (fun i => [pSpan K i.1 i.2.1 i.2.2]) (fun _ => []) (fun i => pEx fun z : { z : List Ld × Nat // PutsTo i.1 i.2.2 z.1 z.2 } => pI (z.1.1.length : Nat)) (fun _ => [])
theorem tl_Span_len {q n : Nat} {rows : List (List Int)} : Tl (sp_Span_len K) [pSpan K q n rows] [] (pEx fun z : { z : List Ld × Nat // PutsTo q rows z.1 z.2 } => pI (z.1.1.length : Nat)) [] := tl_pm (I := Nat × Nat × List (List Int)) (q, n, rows) trivial
abbrev C_Span_len (P : Program) (wd : World) (K : PySem.W.Frag) (mg : Str → Option Value) (base : Heap) : Prop := CallM P wd K mg base 1 (He.ga K "Span") "__len__" ["self"] [] (sp_Span_len K)
theorem ok_Span_len (T : Tx K mg)  : C_Span_len P wd K mg base := by
  obtain ⟨fd, F⟩ := fd_Span_len T
  have G : FnOk P wd K mg base CX0 1 _ fd ["self"] (sp_Span_len K) := fn_pm F sc_Span_len (fun _ _ => rfl) (fun cdv A outer s H E hr i hi => by
    obtain ⟨q, n, rows⟩ := i
    refine ⟨_, (pss_one (ps_ret (pe_callB (KX.len (K := K)) (by rfl) (fr_len T) PySem.boot_len (pa_cons (KX.fld (K := K) (pv 0) rfl) pa_nil)))), ?_⟩
    show Eb [some (pSpan K q n rows)] [] _ (pEx fun z : { z : List Ld × Nat // PutsTo q rows z.1 z.2 } => pI (z.1.1.length : Nat)) []
    refine Er.eb (er_ret (ee_cb (ea_cons (ee_fld (ee_var rfl) (cl_Span T) (na_Span_lead_rows T) rfl) ea_nil) fun vs F H Q p g k => ?_))
    obtain ⟨v, rfl, z, a, ys, rfl, h2, h3⟩ := p.one
    refine ⟨a, ys, rfl, .inl (SqL.of (g.ex _ _ h2)), k _ F H (Step.refl g) ⟨z, ?_⟩⟩
    show V.int _ = V.int _
    rw [← h3.len, List.length_map]
)
  exact ⟨fd, _, [], G, me_Span_len T, F.bindsN (fun _ _ _ _ _ _ us hl => match us, hl with | [_], _ => rfl), .nil⟩
end
end J
/-! ## W10 -/
set_option Elab.async false
set_option linter.all false
set_option maxRecDepth 100000
set_option maxHeartbeats 600000
namespace J
open PySem L2 KT
local macro_rules | `(tactic| walk_at "sub") => `(tactic| repeat (first | exact Sub.nil | (with_reducible refine Sub.keep (Pr.le_refl _) ?_) | refine Sub.drop ?_ | refine Sub.keepV (by first | rfl | (simp; done) | omega) ?_ | refine Sub.keep (Pr.le_refl _) ?_))
section
variable {P : Program} {wd : World} {K : PySem.W.Frag} {mg : Str → Option Value} {base : Heap}
theorem along_in {q : Nat} (hq : q ∈ KM.sizes) {l m : List Int} (h1 : In q l) (h2 : In q m) : 0 ≤ alongI q l m ∧ alongI q l m < q := by
  unfold alongI
  have key : ∀ (ps : List (Int × Int)) (acc : Int), (0 ≤ acc ∧ acc < q) → (∀ p ∈ ps, (0 ≤ p.1 ∧ p.1 < q) ∧ (0 ≤ p.2 ∧ p.2 < q)) → 0 ≤ ps.foldl (fun acc p => KM.addI q acc (KM.mulI q p.1 p.2) 1) acc ∧ ps.foldl (fun acc p => KM.addI q acc (KM.mulI q p.1 p.2) 1) acc < q := by
    intro ps
    induction ps with
    | nil => intro acc h _; exact h
    | cons p ps ih =>
      intro acc h hp
      rw [List.foldl_cons]
      obtain ⟨k1, k2⟩ := hp p List.mem_cons_self
      exact ih _ (KM.rng_at hq h (KM.rng_at hq k1 k2).2.2).1 fun r hr => hp r (List.mem_cons_of_mem _ hr)
  refine key _ 0 ⟨by omega, ?_⟩ fun p hp => ?_
  · have := (KM.sizes_pr q hq).2.2.2.2.2.1
    omega
  · have hz := List.of_mem_zip (a := p.1) (b := p.2) hp
    exact ⟨h1 _ hz.1, h2 _ hz.2⟩
def sp_need_words (K : PySem.W.Frag) : Sp := Pm (I := Nat × Nat × List (List Int)) (fun i => i.1 ∈ KM.sizes ∧ (1 ≤ i.2.1 ∧ i.2.1 ≤ 500) ∧ i.2.2 ≠ [] ∧ RowsOk i.1 i.2.1 i.2.2) (fun i => [pFq K i.1, pRows K i.2.2, pI (i.2.2.length : Nat)]) (fun _ => []) (fun i => pI (i.2.1 : Nat)) (fun _ => [])
theorem tl_need_words {q b : Nat} {ws : List (List Int)} (h : q ∈ KM.sizes ∧ (1 ≤ b ∧ b ≤ 500) ∧ ws ≠ [] ∧ RowsOk q b ws) : Tl (sp_need_words K) [pFq K q, pRows K ws, pI (ws.length : Nat)] [] (pI (b : Nat)) [] := tl_pm (I := Nat × Nat × List (List Int)) (q, b, ws) h
abbrev C_need_words (P : Program) (wd : World) (K : PySem.W.Frag) (mg : Str → Option Value) (base : Heap) : Prop := CallG P wd K mg base 3 "need_words" ["field", "words", "letters"] [] (sp_need_words K)
theorem ok_need_words (T : Tx K mg) (c_Field_needs_row : C_Field_needs_row P wd K mg base) : C_need_words P wd K mg base := by
  obtain ⟨fd, F⟩ := fd_need_words T
  have G : FnOk P wd K mg base CX0 3 _ fd ["field", "words", "letters"] (sp_need_words K) := fn_pm F sc_need_words (fun _ _ => rfl) (fun cdv A outer s H E hr i hi => by
    obtain ⟨q, b, ws⟩ := i
    obtain ⟨hq, hb, hne, hws⟩ : q ∈ KM.sizes ∧ (1 ≤ b ∧ b ≤ 500) ∧ ws ≠ [] ∧ RowsOk q b ws := hi
    obtain ⟨w0, rest, rfl⟩ := List.exists_cons_of_ne_nil hne
    have h0 := hws w0 List.mem_cons_self
    refine ⟨_, (pss_cons (ps_if (PW.pt (pw_or (pt_cmpR op_ne (pe_callB (KX.len (K := K)) (by rfl) (fr_len T) PySem.boot_len (pa_cons (pv 1) pa_nil)) (pv 2) (nomark _)) (pw_or (pt_cmpR (KX.eqD (K := K) hr.units) (pv 1) (pe_lst pa_nil) (nomark _)) (pw_or1 (pt_cmpR op_eq (pe_callB (KX.len (K := K)) (by rfl) (fr_len T) PySem.boot_len (pa_cons (pe_ix (KX.ixL (K := K)) (pv 1) pe_int (fun _ _ => rfl)) pa_nil)) pe_int (nomark _)))))) (pss_one ps_never) pss_nil)
      (pss_cons (ps_for PassesOwn.never rfl (KX.iL (K := K) (pv 1)) (pg_name (i := 3) sc_need_words.nd rfl (Or.inl rfl)) (pss_one (ps_expr (pe_methG (pv 0) (cl_Field T) c_Field_needs_row hr (pa_cons (pv 3) (pa_cons (pe_callB (KX.len (K := K)) (by rfl) (fr_len T) PySem.boot_len (pa_cons (pe_ix (KX.ixL (K := K)) (pv 1) pe_int (fun _ _ => rfl)) pa_nil)) pa_nil))))))
      (pss_one (ps_ret (pe_callB (KX.len (K := K)) (by rfl) (fr_len T) PySem.boot_len (pa_cons (pe_ix (KX.ixL (K := K)) (pv 1) pe_int (fun _ _ => rfl)) pa_nil)))))), ?_⟩
    show Eb [some (pFq K q), some (pRows K (w0 :: rest)), some (pI ((w0 :: rest).length : Nat)), none] [] _ (pI (b : Nat)) []
    have len0 : ∀ {ρ : En}, ρ[1]? = some (some (pRows K (w0 :: rest))) → Ee ρ [] (tCB (fun xs H Q => ∃ p ys, xs = [.ref p] ∧ (SqL K H p ys ∨ SqT K H p ys) ∧ Q (.int ys.length) H) (tCons (tOp (rIxL K) (tVar 1) (tC (.int 0))) tNil)) (pI (b : Nat)) := fun h =>
      ee_lenT (ps := w0.map pI) (ea_cons (ee_ixL (n := 0) (P := pRow K w0) (ee_var h) ee_c (ixN_eq (m := 0) rfl (by simp)) rfl) ea_nil) (by rw [List.length_map, h0.2])
    refine Er.eb (er_ifr (b := false) (et_or (a := false) (b := false) (Et.is (et_test (ee_neI (ee_lenL (ea_cons (ee_var rfl) ea_nil) (by rw [List.length_map])) (ee_var rfl))) (by simp)) (fun _ => et_or (a := false) (b := false) (Et.is (et_test (ee_eqNil (ee_var rfl) (ee_lst ea_nil (by simp)))) rfl) (fun _ => Et.is (et_test (ee_eqI (len0 rfl) ee_c)) (by simp; omega)))) (fun z => by cases z) (fun _ => ?_))
    refine er_seq (es_forM (w0 :: rest) (pRow K) (fun _ => [some (pFq K q), some (pRows K (w0 :: rest)), some (pI ((w0 :: rest).length : Nat)), none]) (fun _ => []) rfl (by walk_at "sub") (ei_list (ee_var rfl)) (fun k x hx => ?_)) (er_ret (len0 rfl))
    have hx1 := hws x (List.mem_of_getElem? hx)
    exact ⟨_, [some (pFq K q), some (pRows K (w0 :: rest)), some (pI ((w0 :: rest).length : Nat)), some (pRow K x)], eg_name, es_drop (ee_meth (ee_var rfl) rfl (ea_cons (ee_var rfl) (ea_cons (len0 rfl) ea_nil)) (tl_Field_needs_row ⟨hx1.1, by omega⟩ (by rw [hx1.2]))), by walk_at "sub"⟩
)
  exact ⟨fd, _, [], G, gl_need_words T, F.kp, F.bindsN (fun _ _ _ _ _ _ us hl => match us, hl with | [_, _, _], _ => rfl), .nil⟩
def chkI (q : Nat) (ws : List (List Int)) (k : List Int) : List Int := (ws.map fun w => KM.addI q 0 (alongI q w k) (-1)) ++ k
theorem chk_ok {q t b : Nat} (hq : q ∈ KM.sizes) {ws : List (List Int)} {k : List Int} (hw : RowsOk q b ws) (hk : In q k ∧ k.length = b) : In q (chkI q ws k) ∧ (chkI q ws k).length = ws.length + b := by
  refine ⟨In.app (fun x hx => ?_) hk.1, by simp [chkI, hk.2]⟩
  obtain ⟨w, hw1, rfl⟩ := List.mem_map.mp hx
  have hq1 := (KM.sizes_pr q hq).2.2.2.2.2.1
  exact (KM.rng_at hq ⟨by omega, by omega⟩ (along_in hq (hw w hw1).1 hk.1)).2.1
def sp_checked (K : PySem.W.Frag) : Sp := Pm (I := Nat × Nat × List (List Int) × List Int) (fun i => i.1 ∈ KM.sizes ∧ i.2.1 ≤ 500 ∧ i.2.2.1.length ≤ 100 ∧ RowsOk i.1 i.2.1 i.2.2.1 ∧ In i.1 i.2.2.2 ∧ i.2.2.2.length = i.2.1) (fun i => [pFq K i.1, pRows K i.2.2.1, pRow K i.2.2.2]) (fun _ => []) (fun i => pRow K (chkI i.1 i.2.2.1 i.2.2.2)) (fun _ => [])
theorem tl_checked {q b : Nat} {ws : List (List Int)} {k : List Int} (h : q ∈ KM.sizes ∧ b ≤ 500 ∧ ws.length ≤ 100 ∧ RowsOk q b ws ∧ In q k ∧ k.length = b) : Tl (sp_checked K) [pFq K q, pRows K ws, pRow K k] [] (pRow K (chkI q ws k)) [] := tl_pm (I := Nat × Nat × List (List Int) × List Int) (q, b, ws, k) h
abbrev C_checked (P : Program) (wd : World) (K : PySem.W.Frag) (mg : Str → Option Value) (base : Heap) : Prop := CallG P wd K mg base 4 "checked" ["field", "words", "key"] [] (sp_checked K)
theorem ok_checked (T : Tx K mg) (c_Field_less : C_Field_less P wd K mg base) (c_Field_along : C_Field_along P wd K mg base) : C_checked P wd K mg base := by
  obtain ⟨fd, F⟩ := fd_checked T
  have G : FnOk P wd K mg base CX0 4 _ fd ["field", "words", "key"] (sp_checked K) := fn_pm F sc_checked (fun _ _ => rfl) (fun cdv A outer s H E hr i hi => by
    obtain ⟨q, b, ws, k⟩ := i
    obtain ⟨hq, hb, hwl, hws, hk⟩ : q ∈ KM.sizes ∧ b ≤ 500 ∧ ws.length ≤ 100 ∧ RowsOk q b ws ∧ In q k ∧ k.length = b := hi
    have hq1 := (KM.sizes_pr q hq).2.2.2.2.2.1
    refine ⟨_, (pss_one (ps_ret (pe_op (KX.catT (K := K)) (pe_callTy (KX.tupOf (K := K)) (by rfl) (fr_tuple T) (by decide +kernel) (pa_cons (pe_lc (own := [("word", 3)]) (by rfl) sc_checked.nd (KX.iL (K := K) (pv 1)) (blkOk_by (by kernel_rfl)) (fun _ _ _ _ _ => by exact (pg_name (i := 3) sc_checked.nd rfl (Or.inl rfl))) (fun _ _ _ _ _ => pts_nil) (fun _ _ _ _ _ => (pe_methG (pv 0) (cl_Field T) c_Field_less hr (pa_cons pe_int (pa_cons (pe_methG (pv 0) (cl_Field T) c_Field_along hr (pa_cons (pv 3) (pa_cons (pv 2) pa_nil))) pa_nil))))) pa_nil)) (pe_callTy (KX.tupOf (K := K)) (by rfl) (fr_tuple T) (by decide +kernel) (pa_cons (pv 2) pa_nil))))), ?_⟩
    show Eb [some (pFq K q), some (pRows K ws), some (pRow K k), none] [] _ (pRow K (chkI q ws k)) []
    refine Er.eb (er_ret (Ev.is (ee_catT (ee_tupOf (ea_cons (ee_lcY (vs := [3]) ws (pRow K) (fun w => pI (KM.addI q 0 (alongI q w k) (-1))) (ei_list (ee_var rfl)) (wp_name (by simp)) (by omega) (fun x hx => ?_)) ea_nil)) (ee_tupId (ea_cons (ee_var rfl) ea_nil)) (by rw [List.length_map, List.length_map]; omega)) (by rw [pRow, chkI, List.map_append, List.map_map]; rfl)))
    have hx1 := hws x hx
    exact ⟨_, eg_name, ee_meth (ee_var rfl) rfl (ea_cons ee_c (ea_cons (ee_meth (ee_var rfl) rfl (ea_cons (ee_var rfl) (ea_cons (ee_var rfl) ea_nil)) (tl_Field_along ⟨hq, hx1.1, by omega⟩)) ea_nil)) (tl_Field_less ⟨hq, ⟨by omega, by omega⟩, along_in hq hx1.1 hk.1⟩)⟩
)
  exact ⟨fd, _, [], G, gl_checked T, F.kp, F.bindsN (fun _ _ _ _ _ _ us hl => match us, hl with | [_, _, _], _ => rfl), .nil⟩
abbrev fdG (K : PySem.W.Frag) (q W : Nat) (made : List (List Int)) : List (Str × Pr) := [("field_of", pFq K q), ("width", pI (W : Nat)), ("made", pRows K made)]
abbrev pGuard (K : PySem.W.Frag) (q W : Nat) (made : List (List Int)) : Pr := pIns (He.ga K "Guard") (fdG K q W made)
theorem put_w2 {A B : Pr} : putP "width" B ([("field_of", A)] : List (Str × Pr)) = ([("field_of", A), ("width", B)] : List (Str × Pr)) := put_w
theorem put_md {A B C : Pr} : putP "made" C ([("field_of", A), ("width", B)] : List (Str × Pr)) = ([("field_of", A), ("width", B), ("made", C)] : List (Str × Pr)) := by
  rw [putP, if_neg (by decide), putP, if_neg (by decide), putP]
structure GuI where
  x : Addr
  q : Nat
  b : Nat
  ws : List (List Int)
  ks : List (List Int)
def GuOk (q b : Nat) (ws ks : List (List Int)) : Prop := q ∈ KM.sizes ∧ (1 ≤ b ∧ b ≤ 200) ∧ (ws ≠ [] ∧ ws.length ≤ 100) ∧ ks.length ≤ 100 ∧ RowsOk q b ws ∧ RowsOk q b ks
def sp_Guard_init (K : PySem.W.Frag) : Sp := Pm (I := GuI) (fun i => GuOk i.q i.b i.ws i.ks) (fun i => [pA i.x, pFq K i.q, pRows K i.ws, pRows K i.ks]) (fun i => [oIns i.x (He.ga K "Guard") []]) (fun i => pN) (fun i => [oIns i.x (He.ga K "Guard") (fdG K i.q (i.ws.length + i.b) (i.ks.map (chkI i.q i.ws)))])
theorem tl_Guard_init {x : Addr} {q b : Nat} {ws ks : List (List Int)} (h : GuOk q b ws ks) : Tl (sp_Guard_init K) [pA x, pFq K q, pRows K ws, pRows K ks] [oIns x (He.ga K "Guard") []] pN [oIns x (He.ga K "Guard") (fdG K q (ws.length + b) (ks.map (chkI q ws)))] := tl_pm (I := GuI) ⟨x, q, b, ws, ks⟩ h
abbrev C_Guard_init (P : Program) (wd : World) (K : PySem.W.Frag) (mg : Str → Option Value) (base : Heap) : Prop := CallI P wd K mg base 5 "Guard" (He.ga K "Guard") ["self", "field", "words", "keys"] [] (sp_Guard_init K)
theorem ok_Guard_init (T : Tx K mg) (c_need_words : C_need_words P wd K mg base) (c_Field_needs_row : C_Field_needs_row P wd K mg base) (c_checked : C_checked P wd K mg base) : C_Guard_init P wd K mg base := by
  obtain ⟨fd, F⟩ := fd_Guard_init T
  have G : FnOk P wd K mg base CX0 5 _ fd ["self", "field", "words", "keys"] (sp_Guard_init K) := fn_pm F sc_Guard_init (fun _ _ => rfl) (fun cdv A outer s H E hr i hi => by
    obtain ⟨x, q, b, ws, ks⟩ := i
    obtain ⟨hq, hb, ⟨hne, hwl⟩, hkl, hws, hks⟩ : GuOk q b ws ks := hi
    refine ⟨_, (pss_cons (ps_set (i := 4) sc_Guard_init.nd rfl (Or.inl rfl) (pe_callG c_need_words hr (by rfl) (pa_cons (pv 1) (pa_cons (pv 2) (pa_cons (pe_callB (KX.len (K := K)) (by rfl) (fr_len T) PySem.boot_len (pa_cons (pv 2) pa_nil)) pa_nil)))))
      (pss_cons (ps_for PassesOwn.never rfl (KX.iL (K := K) (pv 3)) (pg_name (i := 5) sc_Guard_init.nd rfl (Or.inl rfl)) (pss_one (ps_expr (pe_methG (pv 1) (cl_Field T) c_Field_needs_row hr (pa_cons (pv 5) (pa_cons (pv 4) pa_nil))))))
      (pss_cons (KX.sfld (K := K) (pv 0) (pv 1) rfl)
      (pss_cons (KX.sfld (K := K) (pv 0) (pe_op op_add (pe_callB (KX.len (K := K)) (by rfl) (fr_len T) PySem.boot_len (pa_cons (pv 2) pa_nil)) (pv 4)) rfl)
      (pss_one (KX.sfld (K := K) (pv 0) (pe_lc (own := [("key", 5)]) (by rfl) sc_Guard_init.nd (KX.iL (K := K) (pv 3)) (blkOk_by (by kernel_rfl)) (fun _ _ _ _ _ => by exact (pg_name (i := 5) sc_Guard_init.nd rfl (Or.inl rfl))) (fun _ _ _ _ _ => pts_nil) (fun _ _ _ _ _ => (pe_callG c_checked hr (by rfl) (pa_cons (pv 1) (pa_cons (pv 2) (pa_cons (pv 5) pa_nil)))))) rfl)))))), ?_⟩
    show Eb [some (pA x), some (pFq K q), some (pRows K ws), some (pRows K ks), none, none] [oIns x (He.ga K "Guard") []] _ pN [oIns x (He.ga K "Guard") (fdG K q (ws.length + b) (ks.map (chkI q ws)))]
    refine Es.eb (ρ' := [some (pA x), some (pFq K q), some (pRows K ws), some (pRows K ks), some (pI (b : Nat)), none]) (es_seq (es_set (Ee.frame (w := []) (ee_call (ea_cons (ee_var rfl) (ea_cons (ee_var rfl) (ea_cons (ee_lenL (ea_cons (ee_var rfl) ea_nil) (by rw [List.length_map])) ea_nil))) (tl_need_words ⟨hq, ⟨hb.1, by omega⟩, hne, hws⟩))))
      (es_seq (es_forM ks (pRow K) (fun _ => [some (pA x), some (pFq K q), some (pRows K ws), some (pRows K ks), some (pI (b : Nat)), none]) (fun _ => [oIns x (He.ga K "Guard") []]) rfl (by walk_at "sub") (ei_list (ee_var rfl)) (fun k y hy => ?_))
      (es_seq (w1 := [oIns x (He.ga K "Guard") [("field_of", pFq K q)]]) (es_fld (w1 := []) (w2 := []) (ee_var rfl) (ee_var rfl) (cl_Guard T) (na_Guard_field_of T) (by simp))
      (es_seq (w1 := [oIns x (He.ga K "Guard") [("field_of", pFq K q), ("width", pI ((ws.length + b : Nat) : Int))]]) (Es.is (es_fld (w1 := []) (w2 := []) (Ev.is (ee_I0 (ee_lenL (ea_cons (ee_var rfl) ea_nil) (by rw [List.length_map])) (ee_var rfl)) (show pI ((ws.length : Int) + (b : Int)) = pI ((ws.length + b : Nat) : Int) by rw [Int.natCast_add])) (ee_var rfl) (cl_Guard T) (na_Guard_width T) (by simp)) (by rw [put_w]; rfl))
      (Es.is (es_fld (w1 := []) (w2 := []) (Ev.is (ee_lcY (vs := [5]) ks (pRow K) (fun k => pRow K (chkI q ws k)) (ei_list (ee_var rfl)) (wp_name (by simp)) (by omega) (fun y hy => ⟨_, eg_name, Ee.frame (w := []) (ee_call (ea_cons (ee_var rfl) (ea_cons (ee_var rfl) (ea_cons (ee_var rfl) ea_nil))) (tl_checked ⟨hq, by omega, hwl, hws, (hks y hy).1, (hks y hy).2⟩))⟩)) (show pLst (ks.map fun k => pRow K (chkI q ws k)) = pRows K (ks.map (chkI q ws)) by rw [pRows, List.map_map]; rfl)) (ee_var rfl) (cl_Guard T) (na_Guard_made T) (by simp)) (by rw [put_md]; rfl))))))
    have hy1 := hks y (List.mem_of_getElem? hy)
    exact ⟨_, [some (pA x), some (pFq K q), some (pRows K ws), some (pRows K ks), some (pI (b : Nat)), some (pRow K y)], eg_name, es_drop (ee_meth (ee_var rfl) rfl (ea_cons (ee_var rfl) (ea_cons (ee_var rfl) ea_nil)) (tl_Field_needs_row ⟨hy1.1, by omega⟩ (by rw [hy1.2]))), by walk_at "sub"⟩
)
  exact ⟨fd, _, [], G, gl_Guard T, mk_Guard T, F.bindsN (fun _ _ _ _ _ _ us hl => match us, hl with | [_, _, _, _], _ => rfl), .nil⟩
def letsI (q : Nat) (made : List (List Int)) (row : List Int) : Bool := made.all fun c => decide (alongI q c row = 0)
def sp_Guard_lets (K : PySem.W.Frag) : Sp := Pm (I := Nat × Nat × List (List Int) × List Int) (fun i => i.1 ∈ KM.sizes ∧ i.2.1 ≤ 500 ∧ i.2.2.1.length ≤ 100 ∧ RowsOk i.1 i.2.1 i.2.2.1 ∧ In i.1 i.2.2.2 ∧ i.2.2.2.length = i.2.1) (fun i => [pGuard K i.1 i.2.1 i.2.2.1, pRow K i.2.2.2]) (fun _ => []) (fun i => pB (letsI i.1 i.2.2.1 i.2.2.2)) (fun _ => [])
theorem tl_Guard_lets {q W : Nat} {made : List (List Int)} {row : List Int} (h : q ∈ KM.sizes ∧ W ≤ 500 ∧ made.length ≤ 100 ∧ RowsOk q W made ∧ In q row ∧ row.length = W) : Tl (sp_Guard_lets K) [pGuard K q W made, pRow K row] [] (pB (letsI q made row)) [] := tl_pm (I := Nat × Nat × List (List Int) × List Int) (q, W, made, row) h
abbrev C_Guard_lets (P : Program) (wd : World) (K : PySem.W.Frag) (mg : Str → Option Value) (base : Heap) : Prop := CallM P wd K mg base 4 (He.ga K "Guard") "lets" ["self", "row"] [] (sp_Guard_lets K)
theorem ok_Guard_lets (T : Tx K mg) (c_Field_needs_row : C_Field_needs_row P wd K mg base) (c_Field_along : C_Field_along P wd K mg base) : C_Guard_lets P wd K mg base := by
  obtain ⟨fd, F⟩ := fd_Guard_lets T
  have G : FnOk P wd K mg base CX0 4 _ fd ["self", "row"] (sp_Guard_lets K) := fn_pm F sc_Guard_lets (fun _ _ => rfl) (fun cdv A outer s H E hr i hi => by
    obtain ⟨q, W, made, row⟩ := i
    obtain ⟨hq, hW, hml, hm, hrw⟩ : q ∈ KM.sizes ∧ W ≤ 500 ∧ made.length ≤ 100 ∧ RowsOk q W made ∧ In q row ∧ row.length = W := hi
    refine ⟨_, (pss_cons (ps_expr (pe_methG (KX.fld (K := K) (pv 0) rfl) (cl_Field T) c_Field_needs_row hr (pa_cons (pv 1) (pa_cons (KX.fld (K := K) (pv 0) rfl) pa_nil))))
      (pss_one (ps_ret (pe_callB (KX.all (K := K) rfl) (by rfl) (fr_all T) (by decide +kernel) (pa_cons (pe_lc (own := [("check", 2)]) (by rfl) sc_Guard_lets.nd (KX.iL (K := K) (KX.fld (K := K) (pv 0) rfl)) (blkOk_by (by kernel_rfl)) (fun _ _ _ _ _ => by exact (pg_name (i := 2) sc_Guard_lets.nd rfl (Or.inl rfl))) (fun _ _ _ _ _ => pts_nil) (fun _ _ _ _ _ => (pe_cmpR op_eq (pe_methG (KX.fld (K := K) (pv 0) rfl) (cl_Field T) c_Field_along hr (pa_cons (pv 2) (pa_cons (pv 1) pa_nil))) pe_int (nomark _)))) pa_nil))))), ?_⟩
    show Eb [some (pGuard K q W made), some (pRow K row), none] [] _ (pB (letsI q made row)) []
    refine Er.eb (er_seq (es_drop (ee_meth (ee_fld (ee_var rfl) (cl_Guard T) (na_Guard_field_of T) rfl) rfl (ea_cons (ee_var rfl) (ea_cons (ee_fld (ee_var rfl) (cl_Guard T) (na_Guard_width T) rfl) ea_nil)) (tl_Field_needs_row ⟨hrw.1, by omega⟩ (by rw [hrw.2]))))
      (er_ret (ee_all (f := fun c => decide (alongI q c row = 0)) (ea_cons (ee_lcY (vs := [2]) made (pRow K) (fun c => pB (decide (alongI q c row = 0))) (ei_list (ee_fld (ee_var rfl) (cl_Guard T) (na_Guard_made T) rfl)) (wp_name (by simp)) (by omega) (fun c hc => ?_)) ea_nil))))
    have hc1 := hm c hc
    exact ⟨_, eg_name, ee_eqI (ee_meth (ee_fld (ee_var rfl) (cl_Guard T) (na_Guard_field_of T) rfl) rfl (ea_cons (ee_var rfl) (ea_cons (ee_var rfl) ea_nil)) (tl_Field_along ⟨hq, hc1.1, by omega⟩)) ee_c⟩
)
  exact ⟨fd, _, [], G, me_Guard_lets T, F.bindsN (fun _ _ _ _ _ _ us hl => match us, hl with | [_, _], _ => rfl), .nil⟩
end
end J
/-! ## W11 -/
set_option Elab.async false
set_option linter.all false
set_option maxRecDepth 100000
set_option maxHeartbeats 600000
namespace J
open PySem L2 KT
local macro_rules | `(tactic| walk_at "sub") => `(tactic| repeat (first | exact Sub.nil | (with_reducible refine Sub.keep (Pr.le_refl _) ?_) | refine Sub.drop ?_ | refine Sub.keepV (by first | rfl | (simp; done) | omega) ?_ | refine Sub.keep (Pr.le_refl _) ?_))
section
variable {P : Program} {wd : World} {K : PySem.W.Frag} {mg : Str → Option Value} {base : Heap}
def sp_grown (K : PySem.W.Frag) : Sp := Pm (I := Int × Nat) (fun i => 0 ≤ i.1 ∧ i.1 < 1000 ∧ i.2 < 1000) (fun i => [pI i.1, pI (i.2 : Int)]) (fun _ => []) (fun i => pI (i.1 ^ i.2)) (fun _ => [])
theorem tl_grown {a : Int} {n : Nat} (h : 0 ≤ a ∧ a < 1000 ∧ n < 1000) : Tl (sp_grown K) [pI a, pI (n : Int)] [] (pI (a ^ n)) [] := tl_pm (I := Int × Nat) (a, n) h
abbrev C_grown (P : Program) (wd : World) (K : PySem.W.Frag) (mg : Str → Option Value) (base : Heap) : Prop := CallG P wd K mg base 1 "grown" ["one", "many"] [] (sp_grown K)
theorem ok_grown (T : Tx K mg)  : C_grown P wd K mg base := by
  obtain ⟨fd, F⟩ := fd_grown T
  have G : FnOk P wd K mg base CX0 1 _ fd ["one", "many"] (sp_grown K) := fn_pm F sc_grown (fun _ _ => rfl) (fun cdv A outer s H E hr i hi => by
    obtain ⟨a, n⟩ := i
    obtain ⟨h0, h1, h2⟩ : 0 ≤ a ∧ a < 1000 ∧ n < 1000 := hi
    refine ⟨_, (pss_cons (ps_set (i := 2) sc_grown.nd rfl (Or.inl rfl) pe_int)
      (pss_cons (ps_for PassesOwn.never rfl (pi_range1 (by rfl) (fr_range T) (pa_cons (pv 1) pa_nil)) (pg_name (i := 3) sc_grown.nd rfl (Or.inl rfl)) (pss_one (ps_aug (i := 2) sc_grown.nd rfl (Or.inl rfl) (pv 0) ip_mulA)))
      (pss_one (ps_ret (pv 2))))), Er.eb (er_seq (es_set ee_c) (er_seq (es_forN n (fun k => [some (pI a), some (pI (n : Int)), some (pI (a ^ k)), none]) (fun _ => []) rfl (by walk_at "sub") (ei_rng1 (n := n) (ea_cons (ee_var rfl) ea_nil) (by omega)) (fun k hk => ?_)) (er_ret (ee_var rfl))))⟩
    refine ⟨_, _, eg_name, es_aug (P2 := pI (a ^ (k + 1))) rfl (ee_var rfl) (fun y F H Q hy g kk => ?_), by walk_at "sub"⟩
    have hy : y = .int a := hy
    subst hy
    exact ⟨a ^ k, a, rfl, rfl, .inr ⟨by omega, by omega⟩, kk _ (congrArg V.int (Int.pow_succ a k).symm)⟩
)
  exact ⟨fd, _, [], G, gl_grown T, F.kp, F.bindsN (fun _ _ _ _ _ _ us hl => match us, hl with | [_, _], _ => rfl), .nil⟩
theorem Tl_ex {α : Type} {sp : Sp} {A : Pr} {f : α → Pr} {R : α → Pr} {w w' : List Ow} (h : ∀ x, Tl sp [A, f x] w (R x) w') : Tl sp [A, pEx f] w (pEx R) w' := fun vs F H Q E a g k => by
  cases a with
  | cons a1 a2 => cases a2 with
    | cons b1 b2 =>
      cases b2
      obtain ⟨x, hx⟩ := b1
      exact h x _ F H Q E (.cons a1 (.cons hx .nil)) g fun v F' H' s p => k v F' H' s ⟨x, p⟩
theorem ee_subEx {α : Type} {ρ : En} {w : List Ow} {ta tb : TE} {i : Int} {f : α → Int} (ha : Ee ρ w ta (pI i)) (hb : Ee ρ w tb (pEx fun x => pI (f x))) : Ee ρ w (tOp (rI0 fun i j => V.int (i - j)) ta tb) (pEx fun x => pI (i - f x)) :=
  ee_op ha hb fun x y F H Q hx hy g k => by
    obtain ⟨z, hz⟩ := hy
    exact ⟨i, f z, hx, hz, k _ F H (Step.refl g) ⟨z, rfl⟩⟩
/-- the room that such a Span leaves -/
abbrev pRoom (q W : Nat) (made : List (List Int)) : Pr := pEx fun z : { z : List Ld × Nat // PutsTo q made z.1 z.2 } => pI ((q : Int) ^ (W - z.1.1.length))
def sp_Guard_room (K : PySem.W.Frag) : Sp := Pm (I := Nat × Nat × List (List Int)) (fun i => i.1 ∈ KM.sizes ∧ i.2.1 ≤ 500 ∧ i.2.2.length ≤ 100 ∧ RowsOk i.1 i.2.1 i.2.2 ∧ ∀ L m, PutsTo i.1 i.2.2 L m → L.length ≤ i.2.1) (fun i => [pGuard K i.1 i.2.1 i.2.2]) (fun _ => [oTp K]) (fun i => pRoom i.1 i.2.1 i.2.2) (fun _ => [oTp K])
theorem tl_Guard_room {q W : Nat} {made : List (List Int)} (h : q ∈ KM.sizes ∧ W ≤ 500 ∧ made.length ≤ 100 ∧ RowsOk q W made ∧ ∀ L m, PutsTo q made L m → L.length ≤ W) : Tl (sp_Guard_room K) [pGuard K q W made] [oTp K] (pRoom q W made) [oTp K] := tl_pm (I := Nat × Nat × List (List Int)) (q, W, made) h
abbrev C_Guard_room (P : Program) (wd : World) (K : PySem.W.Frag) (mg : Str → Option Value) (base : Heap) : Prop := CallM P wd K mg base 8 (He.ga K "Guard") "room" ["self"] [] (sp_Guard_room K)
theorem ok_Guard_room (T : Tx K mg) (c_grown : C_grown P wd K mg base) (c_Field_size : C_Field_size P wd K mg base) (c_Span_len : C_Span_len P wd K mg base) (c_Span_init : C_Span_init P wd K mg base) : C_Guard_room P wd K mg base := by
  obtain ⟨fd, F⟩ := fd_Guard_room T
  have G : FnOk P wd K mg base CX0 8 _ fd ["self"] (sp_Guard_room K) := fn_pm F sc_Guard_room (fun _ _ => rfl) (fun cdv A outer s H E hr i hi => by
    obtain ⟨q, W, made⟩ := i
    obtain ⟨hq, hW, hml, hm, hb⟩ : q ∈ KM.sizes ∧ W ≤ 500 ∧ made.length ≤ 100 ∧ RowsOk q W made ∧ ∀ L m, PutsTo q made L m → L.length ≤ W := hi
    have hq5 := (KM.sizes_pr q hq).2.2.2.2.1
    refine ⟨_, (pss_one (ps_ret (pe_callG c_grown hr (by rfl) (pa_cons (pe_methG0 (KX.fld (K := K) (pv 0) rfl) (cl_Field T) c_Field_size hr) (pa_cons (pe_op op_sub (KX.fld (K := K) (pv 0) rfl) (pe_callB (R6.call_lenO c_Span_len (hr.mono (by decide))) (by rfl) (fr_len T) PySem.boot_len (pa_cons (pe_makeKG c_Span_init hr (by rfl) (pa_cons (KX.fld (K := K) (pv 0) rfl) (pa_cons (KX.fld (K := K) (pv 0) rfl) pa_nil)) (pk_cons (KX.fld (K := K) (pv 0) rfl) pk_nil)) pa_nil))) pa_nil))))), ?_⟩
    show Eb [some (pGuard K q W made)] [oTp K] _ (pRoom q W made) [oTp K]
    refine Er.eb (er_ret (ev_call (w := []) (w' := []) (r := [oTp K]) (ds := []) (ea_cons (ee_meth (ee_fld (ee_var rfl) (cl_Guard T) (na_Guard_field_of T) rfl) rfl ea_nil tl_Field_size) (ea_cons (ee_subEx (α := { z : List Ld × Nat // PutsTo q made z.1 z.2 }) (f := fun z => (z.1.1.length : Nat)) (ee_fld (ee_var rfl) (cl_Guard T) (na_Guard_width T) rfl) (ee_lenO (n := fun z : { z : List Ld × Nat // PutsTo q made z.1 z.2 } => ((z.1.1.length : Nat) : Int)) (fs := fdE K q W made) (ea_cons (ev_makeK (w := [oTp K]) (w' := [oTp K]) (r := []) (n := 2) (m := 1) (ea_cons (ee_fld (ee_var rfl) (cl_Guard T) (na_Guard_field_of T) rfl) (ea_cons (ee_fld (ee_var rfl) (cl_Guard T) (na_Guard_width T) rfl) ea_nil)) (ea_cons (ee_fld (ee_var rfl) (cl_Guard T) (na_Guard_made T) rfl) ea_nil) rfl rfl (fun x => tl_Span_init ⟨hq, hW, hml, hm⟩)) ea_nil) tl_Span_len (fun z => ?_))) ea_nil)) (fun _ => .nil) (Tl_ex fun z => ?_)))
    · have := (puts_ok hq z.2 (n := W) hm).1
      omega
    · have := hb _ _ z.2
      have h := tl_grown (K := K) (a := (q : Int)) (n := W - z.1.1.length) ⟨by omega, by omega, by omega⟩
      rwa [show ((W - z.1.1.length : Nat) : Int) = (W : Int) - (z.1.1.length : Nat) by omega] at h
)
  exact ⟨fd, _, [], G, me_Guard_room T, F.bindsN (fun _ _ _ _ _ _ us hl => match us, hl with | [_], _ => rfl), .nil⟩
/-- checks: a new list -/
def sp_Guard_checks (K : PySem.W.Frag) : Sp := fun vs H Q _ => ∃ (i : Nat × Nat × List (List Int)) (F : Hp), All2 F [pGuard K i.1 i.2.1 i.2.2] vs ∧ Ext F H ∧ ∀ xs l, All2 F (i.2.2.map (pRow K)) xs → H l = none → Q (.ref l) (upd H l (.lst xs))
theorem tl_Guard_checks {q W : Nat} {made : List (List Int)} : Tl (sp_Guard_checks K) [pGuard K q W made] [] (pRows K made) [] := fun vs F H Q E a g k => ⟨(q, W, made), F, a, g.ex, fun xs l hx hl => by
  have s := Step.alloc (o := .lst xs) g hl
  exact k _ _ _ s ⟨l, xs, rfl, upd_same, hx.mono s.exF⟩⟩
abbrev C_Guard_checks (P : Program) (wd : World) (K : PySem.W.Frag) (mg : Str → Option Value) (base : Heap) : Prop := CallM P wd K mg base 1 (He.ga K "Guard") "checks" ["self"] [] (sp_Guard_checks K)
theorem ok_Guard_checks (T : Tx K mg) : C_Guard_checks P wd K mg base := by
  obtain ⟨fd, F⟩ := fd_Guard_checks T
  have G : FnOk P wd K mg base CX0 1 (He.fAd K ("Guard", some "checks")) fd ["self"] (sp_Guard_checks K) := by
    refine F.ok sc_Guard_checks (fun vs H Q E h => ?_) (fun cdv A outer s H vs Q E hr h => ?_)
    · obtain ⟨i, Fz, ha, _⟩ := h
      rw [← ha.len]; rfl
    · obtain ⟨⟨q, W, made⟩, Fz, ha, ex, kk⟩ := h
      have ha : All2 Fz [pGuard K q W made] vs := ha
      refine ⟨_, PSs.nox (pss_one (ps_ret (pe_callTy (KX.listOf (K := K)) (by rfl) (fr_list T) (by decide +kernel) (pa_cons (KX.fld (K := K) (pv 0) rfl) pa_nil)))), ?_⟩
      obtain ⟨v, rfl, a, dx, gs, rfl, h2, h3⟩ := ha.one
      obtain ⟨u, hu, l, ys, rfl, h5, h6⟩ := AllF.get (f := "made") (P := pRows K made) (fs := fdG K q W made) h3 rfl
      exact ⟨_, rfl, a, _, dx, gs, _, rfl, ex _ _ h2, cl_Guard T, na_Guard_made T, hu, l, ys, rfl, .inl (SqL.of (ex _ _ h5)), fun p hp => kk ys p h6 hp⟩
  exact ⟨fd, _, [], G, me_Guard_checks T, F.bindsN (fun _ _ _ _ _ _ us hl => match us, hl with | [_], _ => rfl), .nil⟩
end
end J
/-! ## W12 -/
set_option Elab.async false
set_option linter.all false
set_option maxRecDepth 100000
set_option maxHeartbeats 600000
namespace J
open PySem L2 KT
local macro_rules | `(tactic| walk_at "sub") => `(tactic| repeat (first | exact Sub.nil | (with_reducible refine Sub.keep (Pr.le_refl _) ?_) | refine Sub.drop ?_ | refine Sub.keepV (by first | rfl | (simp; done) | omega) ?_ | refine Sub.keep (Pr.le_refl _) ?_))
section
variable {P : Program} {wd : World} {K : PySem.W.Frag} {mg : Str → Option Value} {base : Heap}
theorem law_at {q : Nat} (hq : q ∈ KM.sizes) {a : Int} (ha : 0 ≤ a ∧ a < q) : (0 ≤ KM.rsI q a ∧ KM.rsI q a < q) ∧ (KM.prN q = q ∨ ∀ k < (a * KM.prN q / q).toNat, 0 ≤ KM.rsK q a k ∧ KM.rsK q a k < q) ∧ ∀ b : Int, 0 ≤ b ∧ b < q → KM.ladI q a b = KM.addI q a b 1 ∧ KM.tmI q a b = KM.mulI q a b := by
  have h := List.all_eq_true.mp KM.law_ok q hq
  have h1 := List.all_eq_true.mp h a.toNat (List.mem_range.mpr (by omega))
  rw [show ((a.toNat : Nat) : Int) = a by omega] at h1
  obtain ⟨h2, h3⟩ := Bool.and_eq_true_iff.mp h1
  obtain ⟨h4, h5⟩ := Bool.and_eq_true_iff.mp h2
  refine ⟨of_decide_eq_true h4, ?_, fun b hb => ?_⟩
  · rcases Bool.or_eq_true_iff.mp h5 with z | z
    · exact .inl (of_decide_eq_true z)
    · exact .inr fun k hk => of_decide_eq_true (List.all_eq_true.mp z k (List.mem_range.mpr hk))
  · have h6 := List.all_eq_true.mp h3 b.toNat (List.mem_range.mpr (by omega))
    rw [show ((b.toNat : Nat) : Int) = b by omega] at h6
    obtain ⟨h7, h8⟩ := Bool.and_eq_true_iff.mp h6
    exact ⟨eq_of_beq h7, eq_of_beq h8⟩
def rootD : List (Key × V) := [(Sum.inl 4, V.int 2), (Sum.inl 8, V.int 2), (Sum.inl 9, V.int 3), (Sum.inl 16, V.int 2)]
def bumpD : List (Key × V) := [(Sum.inl 4, V.int 3), (Sum.inl 8, V.int 3), (Sum.inl 9, V.int 2), (Sum.inl 16, V.int 3)]
theorem root_ok {q : Nat} (hq : q ∈ KM.sizes) : (valV rootD (Sum.inl (q : Int))).getD (V.int q) = V.int (KM.prN q : Nat) := by
  simp only [KM.sizes, List.mem_cons, List.not_mem_nil, or_false] at hq
  rcases hq with rfl | rfl | rfl | rfl | rfl | rfl | rfl | rfl | rfl | rfl <;> rfl
theorem bump_ok {q : Nat} (hq : q ∈ KM.sizes) (hp : KM.prN q ≠ q) : valV bumpD (Sum.inl (q : Int)) = some (V.int (KM.bump q)) ∧ 0 ≤ KM.bump q ∧ KM.bump q < q := by
  simp only [KM.sizes, List.mem_cons, List.not_mem_nil, or_false] at hq
  rcases hq with rfl | rfl | rfl | rfl | rfl | rfl | rfl | rfl | rfl | rfl <;> first | exact ⟨rfl, by decide, by decide⟩ | exact absurd rfl hp
def sp_l_root (K : PySem.W.Frag) : Sp := Pm (I := Nat) (fun i => i ∈ KM.sizes) (fun i => [pI (i : Nat)]) (fun _ => []) (fun i => pI (KM.prN i : Nat)) (fun _ => [])
theorem tl_l_root {q : Nat} (h : q ∈ KM.sizes) : Tl (sp_l_root K) [pI (q : Nat)] [] (pI (KM.prN q : Nat)) [] := tl_pm (I := Nat) q h
abbrev C_l_root (P : Program) (wd : World) (K : PySem.W.Frag) (mg : Str → Option Value) (base : Heap) : Prop := CallG P wd K mg base 1 "_law_root" ["_law_big"] [] (sp_l_root K)
theorem ok_l_root (T : Tx K mg)  : C_l_root P wd K mg base := by
  obtain ⟨fd, F⟩ := fd_l_root T
  have G : FnOk P wd K mg base CX0 1 _ fd ["_law_big"] (sp_l_root K) := fn_pm F sc_l_root (fun _ _ => rfl) (fun cdv A outer s H E hr i hi => by
    have hi : i ∈ KM.sizes := hi
    refine ⟨_, (pss_one (ps_ret (pe_dget2 (hu_of hr) (pe_disp (pps_cons pe_int pe_int (pps_cons pe_int pe_int (pps_cons pe_int pe_int (pps_cons pe_int pe_int pps_nil)))) (by rfl) (by rfl) (fun z => by cases z) (by decide)) (pv 0) (pv 0) (by constructor <;> rfl)))), ?_⟩
    show Eb [some (pI (i : Nat))] [] _ (pI (KM.prN i : Nat)) []
    exact Er.eb (er_ret (Ev.is (ee_dget2 (kvs := rootD) (ee_disp4 (by rfl)) (ee_var rfl) (ee_var rfl)) (congrArg pV (root_ok hi))))
)
  exact ⟨fd, _, [], G, gl_l_root T, F.kp, F.bindsN (fun _ _ _ _ _ _ us hl => match us, hl with | [_], _ => rfl), .nil⟩
def sp_l_added (K : PySem.W.Frag) : Sp := Pm (I := Nat × Int × Int) (fun i => i.1 ∈ KM.sizes ∧ (0 ≤ i.2.1 ∧ i.2.1 < i.1) ∧ (0 ≤ i.2.2 ∧ i.2.2 < i.1)) (fun i => [pI (i.1 : Nat), pI i.2.1, pI i.2.2]) (fun _ => []) (fun i => pI (KM.addI i.1 i.2.1 i.2.2 1)) (fun _ => [])
theorem tl_l_added {q : Nat} {a b : Int} (h : q ∈ KM.sizes ∧ (0 ≤ a ∧ a < q) ∧ (0 ≤ b ∧ b < q)) : Tl (sp_l_added K) [pI (q : Nat), pI a, pI b] [] (pI (KM.addI q a b 1)) [] := tl_pm (I := Nat × Int × Int) (q, a, b) h
abbrev C_l_added (P : Program) (wd : World) (K : PySem.W.Frag) (mg : Str → Option Value) (base : Heap) : Prop := CallG P wd K mg base 2 "_law_added" ["_law_big", "_law_one", "_law_other"] [] (sp_l_added K)
theorem ok_l_added (T : Tx K mg) (c_l_root : C_l_root P wd K mg base) : C_l_added P wd K mg base := by
  obtain ⟨fd, F⟩ := fd_l_added T
  have G : FnOk P wd K mg base CX0 2 _ fd ["_law_big", "_law_one", "_law_other"] (sp_l_added K) := fn_pm F sc_l_added (fun _ _ => rfl) (fun cdv A outer s H E hr i hi => by
    obtain ⟨q, a, b⟩ := i
    obtain ⟨hq, ha, hb⟩ : q ∈ KM.sizes ∧ (0 ≤ a ∧ a < q) ∧ (0 ≤ b ∧ b < q) := hi
    obtain ⟨p1, p2, _⟩ := KM.sizes_pr q hq
    refine ⟨_, (pss_cons (ps_set (i := 3) sc_l_added.nd rfl (Or.inl rfl) (pe_callG c_l_root hr (by rfl) (pa_cons (pv 0) pa_nil)))
      (pss_cons (ps_set (i := 4) sc_l_added.nd rfl (Or.inl rfl) pe_int)
      (pss_cons (ps_set (i := 5) sc_l_added.nd rfl (Or.inl rfl) pe_int)
      (pss_cons (ps_for PassesOwn.never rfl (pi_range1 (by rfl) (fr_range T) (pa_cons pe_int pa_nil)) (pg_name (i := 6) sc_l_added.nd rfl (Or.inl rfl)) (pss_cons (ps_set (i := 4) sc_l_added.nd rfl (Or.inl rfl) (pe_op op_add (pv 4) (pe_op op_mul (pe_op op_mod (pe_op op_add (pv 1) (pv 2)) (pv 3)) (pv 5))))
      (pss_cons (ps_set (i := 1) sc_l_added.nd rfl (Or.inl rfl) (pe_op op_fdiv (pv 1) (pv 3)))
      (pss_cons (ps_set (i := 2) sc_l_added.nd rfl (Or.inl rfl) (pe_op op_fdiv (pv 2) (pv 3)))
      (pss_one (ps_set (i := 5) sc_l_added.nd rfl (Or.inl rfl) (pe_op op_mul (pv 5) (pv 3))))))))
      (pss_one (ps_ret (pv 4))))))), ?_⟩
    show Eb [some (pI (q : Nat)), some (pI a), some (pI b), none, none, none, none] [] _ (pI (KM.addI q a b 1)) []
    let st := KM.ladK (KM.prN q) a b
    refine Er.eb (er_seq (es_set (ee_call (ea_cons (ee_var rfl) ea_nil) (tl_l_root hq))) (er_seq (es_set ee_c) (er_seq (es_set ee_c) (er_seq (es_forN 4 (fun k => [some (pI (q : Nat)), some (pI (st k).2.2.1), some (pI (st k).2.2.2), some (pI (KM.prN q : Nat)), some (pI (st k).1), some (pI (st k).2.1), none]) (fun _ => []) rfl (by walk_at "sub") (ei_rng1 (n := 4) (ea_cons ee_c ea_nil) (by omega)) (fun k hk => ?_)) (Er.is (er_ret (ee_var rfl)) (congrArg pI ((law_at hq ha).2.2 b hb).1))))))
    have hst : st (k + 1) = KM.ladS (KM.prN q) (st k) := rfl
    rw [hst]
    generalize st k = s
    refine ⟨_, _, eg_name, es_seq (es_set (ee_I0 (ee_var rfl) (ee_I (ee_I (ee_I0 (ee_var rfl) (ee_var rfl)) (ee_var rfl) (show (0 : Int) < KM.prN q by omega)) (ee_var rfl) (.inl ?_)))) (es_seq (es_set (ee_I (ee_var rfl) (ee_var rfl) ⟨by omega, by omega⟩)) (es_seq (es_set (ee_I (ee_var rfl) (ee_var rfl) ⟨by omega, by omega⟩)) (es_set (ee_I (ee_var rfl) (ee_var rfl) (.inr ⟨by omega, by omega⟩))))), by walk_at "sub"⟩
    have e1 := Int.emod_nonneg (s.2.2.1 + s.2.2.2) (show (KM.prN q : Int) ≠ 0 by omega)
    have e2 := Int.emod_lt_of_pos (s.2.2.1 + s.2.2.2) (show (0 : Int) < KM.prN q by omega)
    omega
)
  exact ⟨fd, _, [], G, gl_l_added T, F.kp, F.bindsN (fun _ _ _ _ _ _ us hl => match us, hl with | [_, _, _], _ => rfl), .nil⟩
end
end J
/-! ## W13 -/
set_option Elab.async false
set_option linter.all false
set_option maxRecDepth 100000
set_option maxHeartbeats 600000
namespace J
open PySem L2 KT
local macro_rules | `(tactic| walk_at "sub") => `(tactic| repeat (first | exact Sub.nil | (with_reducible refine Sub.keep (Pr.le_refl _) ?_) | refine Sub.drop ?_ | refine Sub.keepV (by first | rfl | (simp; done) | omega) ?_ | refine Sub.keep (Pr.le_refl _) ?_))
section
variable {P : Program} {wd : World} {K : PySem.W.Frag} {mg : Str → Option Value} {base : Heap}
def sp_l_raised (K : PySem.W.Frag) : Sp := Pm (I := Nat × Int) (fun i => i.1 ∈ KM.sizes ∧ KM.prN i.1 ≠ i.1 ∧ (0 ≤ i.2 ∧ i.2 < i.1)) (fun i => [pI (i.1 : Nat), pI i.2]) (fun _ => []) (fun i => pI (KM.rsI i.1 i.2)) (fun _ => [])
theorem tl_l_raised {q : Nat} {a : Int} (h : q ∈ KM.sizes ∧ KM.prN q ≠ q ∧ (0 ≤ a ∧ a < q)) : Tl (sp_l_raised K) [pI (q : Nat), pI a] [] (pI (KM.rsI q a)) [] := tl_pm (I := Nat × Int) (q, a) h
abbrev C_l_raised (P : Program) (wd : World) (K : PySem.W.Frag) (mg : Str → Option Value) (base : Heap) : Prop := CallG P wd K mg base 3 "_law_raised" ["_law_big", "_law_one"] [] (sp_l_raised K)
theorem ok_l_raised (T : Tx K mg) (c_l_root : C_l_root P wd K mg base) (c_l_added : C_l_added P wd K mg base) : C_l_raised P wd K mg base := by
  obtain ⟨fd, F⟩ := fd_l_raised T
  have G : FnOk P wd K mg base CX0 3 _ fd ["_law_big", "_law_one"] (sp_l_raised K) := fn_pm F sc_l_raised (fun _ _ => rfl) (fun cdv A outer s H E hr i hi => by
    obtain ⟨q, a⟩ := i
    obtain ⟨hq, hp, ha⟩ : q ∈ KM.sizes ∧ KM.prN q ≠ q ∧ (0 ≤ a ∧ a < q) := hi
    obtain ⟨p1, p2, _, _, p5, p6, _⟩ := KM.sizes_pr q hq
    have hk : ∀ k < (a * KM.prN q / q).toNat, 0 ≤ KM.rsK q a k ∧ KM.rsK q a k < q := (law_at hq ha).2.1.resolve_left hp
    have hn0 : 0 ≤ a * KM.prN q / (q : Int) := Int.ediv_nonneg (Int.mul_nonneg ha.1 (by omega)) (by omega)
    have hn1 : a * KM.prN q / (q : Int) < 1000 := by
      have h1 : a * KM.prN q ≤ 16 * 13 := Int.mul_le_mul (by omega) (by omega) (by omega) (by omega)
      have h2 : a * KM.prN q / (q : Int) ≤ a * KM.prN q := Int.ediv_le_self _ (Int.mul_nonneg ha.1 (by omega))
      omega
    obtain ⟨b1, b2, b3⟩ := bump_ok hq hp
    refine ⟨_, (pss_cons (ps_set (i := 2) sc_l_raised.nd rfl (Or.inl rfl) (pe_callG c_l_root hr (by rfl) (pa_cons (pv 0) pa_nil)))
      (pss_cons (ps_set (i := 3) sc_l_raised.nd rfl (Or.inl rfl) (pe_op op_mod (pe_op op_mul (pv 1) (pv 2)) (pv 0)))
      (pss_cons (ps_for PassesOwn.never rfl (pi_range1 (by rfl) (fr_range T) (pa_cons (pe_op op_fdiv (pe_op op_mul (pv 1) (pv 2)) (pv 0)) pa_nil)) (pg_name (i := 4) sc_l_raised.nd rfl (Or.inl rfl)) (pss_one (ps_set (i := 3) sc_l_raised.nd rfl (Or.inl rfl) (pe_callG c_l_added hr (by rfl) (pa_cons (pv 0) (pa_cons (pv 3) (pa_cons (pe_dget (hu_of hr) (pe_disp (pps_cons pe_int pe_int (pps_cons pe_int pe_int (pps_cons pe_int pe_int (pps_cons pe_int pe_int pps_nil)))) (by rfl) (by rfl) (fun z => by cases z) (by decide)) (pv 0) (fun _ _ => rfl)) pa_nil)))))))
      (pss_one (ps_ret (pv 3)))))), ?_⟩
    show Eb [some (pI (q : Nat)), some (pI a), none, none, none] [] _ (pI (KM.rsI q a)) []
    refine Er.eb (er_seq (es_set (ee_call (ea_cons (ee_var rfl) ea_nil) (tl_l_root hq))) (er_seq (es_set (ee_I (ee_I (ee_var rfl) (ee_var rfl) (.inl ⟨by omega, by omega⟩)) (ee_var rfl) (show (0 : Int) < q by omega))) (er_seq (es_forN (a * KM.prN q / q).toNat (fun k => [some (pI (q : Nat)), some (pI a), some (pI (KM.prN q : Nat)), some (pI (KM.rsK q a k)), none]) (fun _ => []) rfl (by walk_at "sub") (ei_rng1 (n := (a * KM.prN q / q).toNat) (ea_cons (Ev.is (ee_I (ee_I (ee_var rfl) (ee_var rfl) (.inl ⟨by omega, by omega⟩)) (ee_var rfl) ⟨by omega, by omega⟩) (congrArg pI (show a * (KM.prN q : Int) / (q : Int) = ((a * KM.prN q / q).toNat : Int) by omega))) ea_nil) (by omega)) (fun k hkk => ?_)) (er_ret (ee_var rfl)))))
    exact ⟨_, _, eg_name, es_set (ee_call (ea_cons (ee_var rfl) (ea_cons (ee_var rfl) (ea_cons (ee_dget (kvs := bumpD) (ee_disp4 (by rfl)) (ee_var rfl) b1) ea_nil))) (tl_l_added ⟨hq, hk k hkk, b2, b3⟩)), by walk_at "sub"⟩
)
  exact ⟨fd, _, [], G, gl_l_raised T, F.kp, F.bindsN (fun _ _ _ _ _ _ us hl => match us, hl with | [_, _], _ => rfl), .nil⟩
def sp_l_times (K : PySem.W.Frag) : Sp := Pm (I := Nat × Int × Int) (fun i => i.1 ∈ KM.sizes ∧ (0 ≤ i.2.1 ∧ i.2.1 < i.1) ∧ (0 ≤ i.2.2 ∧ i.2.2 < i.1)) (fun i => [pI (i.1 : Nat), pI i.2.1, pI i.2.2]) (fun _ => []) (fun i => pI (KM.mulI i.1 i.2.1 i.2.2)) (fun _ => [])
theorem tl_l_times {q : Nat} {a b : Int} (h : q ∈ KM.sizes ∧ (0 ≤ a ∧ a < q) ∧ (0 ≤ b ∧ b < q)) : Tl (sp_l_times K) [pI (q : Nat), pI a, pI b] [] (pI (KM.mulI q a b)) [] := tl_pm (I := Nat × Int × Int) (q, a, b) h
theorem tmA_in {q : Nat} (hq : q ∈ KM.sizes) {f a : Int} (hf : 0 ≤ f ∧ f < q) (ha : 0 ≤ a ∧ a < q) : ∀ k, 0 ≤ KM.tmA q f a k ∧ KM.tmA q f a k < q
  | 0 => hf
  | k + 1 => (KM.rng_at hq (tmA_in hq hf ha k) ha).1
theorem tmK_in {q : Nat} (hq : q ∈ KM.sizes) {a b : Int} (ha : 0 ≤ a ∧ a < q) (hb : 0 ≤ b ∧ b < q) : ∀ k, (0 ≤ (KM.tmK q a b k).1 ∧ (KM.tmK q a b k).1 < q) ∧ 0 ≤ (KM.tmK q a b k).2.1 ∧ (0 ≤ (KM.tmK q a b k).2.2 ∧ (KM.tmK q a b k).2.2 < q)
  | 0 => ⟨⟨by show (0 : Int) ≤ 0; omega, by show (0 : Int) < q; omega⟩, hb.1, ha⟩
  | k + 1 => by
    obtain ⟨h1, h2, h3⟩ := tmK_in hq ha hb k
    exact ⟨tmA_in hq h1 h3 _, Int.ediv_nonneg h2 (by omega), (law_at hq h3).1⟩
abbrev C_l_times (P : Program) (wd : World) (K : PySem.W.Frag) (mg : Str → Option Value) (base : Heap) : Prop := CallG P wd K mg base 4 "_law_times" ["_law_big", "_law_one", "_law_other"] [] (sp_l_times K)
theorem ok_l_times (T : Tx K mg) (c_l_root : C_l_root P wd K mg base) (c_l_raised : C_l_raised P wd K mg base) (c_l_added : C_l_added P wd K mg base) : C_l_times P wd K mg base := by
  obtain ⟨fd, F⟩ := fd_l_times T
  have G : FnOk P wd K mg base CX0 4 _ fd ["_law_big", "_law_one", "_law_other"] (sp_l_times K) := fn_pm F sc_l_times (fun _ _ => rfl) (fun cdv A outer s H E hr i hi => by
    obtain ⟨q, a, b⟩ := i
    obtain ⟨hq, ha, hb⟩ : q ∈ KM.sizes ∧ (0 ≤ a ∧ a < q) ∧ (0 ≤ b ∧ b < q) := hi
    obtain ⟨p1, p2, _, _, p5, p6, _⟩ := KM.sizes_pr q hq
    have hm := ((law_at hq ha).2.2 b hb).2
    refine ⟨_, (pss_cons (ps_set (i := 3) sc_l_times.nd rfl (Or.inl rfl) (pe_callG c_l_root hr (by rfl) (pa_cons (pv 0) pa_nil)))
      (pss_cons (ps_if (pt_cmpR op_eq (pv 3) (pv 0) (nomark _)) (pss_one (ps_ret (pe_op op_mod (pe_op op_mul (pv 1) (pv 2)) (pv 0)))) pss_nil)
      (pss_cons (ps_set (i := 4) sc_l_times.nd rfl (Or.inl rfl) pe_int)
      (pss_cons (ps_for PassesOwn.never rfl (pi_range1 (by rfl) (fr_range T) (pa_cons pe_int pa_nil)) (pg_name (i := 5) sc_l_times.nd rfl (Or.inl rfl)) (pss_cons (ps_for PassesOwn.never rfl (pi_range1 (by rfl) (fr_range T) (pa_cons (pe_op op_mod (pv 2) (pv 3)) pa_nil)) (pg_name (i := 6) sc_l_times.nd rfl (Or.inl rfl)) (pss_one (ps_set (i := 4) sc_l_times.nd rfl (Or.inl rfl) (pe_callG c_l_added hr (by rfl) (pa_cons (pv 0) (pa_cons (pv 4) (pa_cons (pv 1) pa_nil)))))))
      (pss_cons (ps_set (i := 2) sc_l_times.nd rfl (Or.inl rfl) (pe_op op_fdiv (pv 2) (pv 3)))
      (pss_one (ps_set (i := 1) sc_l_times.nd rfl (Or.inl rfl) (pe_callG c_l_raised hr (by rfl) (pa_cons (pv 0) (pa_cons (pv 1) pa_nil))))))))
      (pss_one (ps_ret (pv 4))))))), ?_⟩
    show Eb [some (pI (q : Nat)), some (pI a), some (pI b), none, none, none, none] [] _ (pI (KM.mulI q a b)) []
    rw [← hm]
    refine Er.eb (er_seq (es_set (ee_call (ea_cons (ee_var rfl) ea_nil) (tl_l_root hq))) (er_ifr (b := decide ((KM.prN q : Int) = q)) (et_test (ee_eqI (ee_var rfl) (ee_var rfl))) (fun h => ?_) (fun h => ?_)))
    · have h := of_decide_eq_true h
      unfold KM.tmI
      rw [if_pos h]
      exact er_ret (ee_I (ee_I (ee_var rfl) (ee_var rfl) (.inl ⟨by omega, by omega⟩)) (ee_var rfl) (show (0 : Int) < q by omega))
    · have h := of_decide_eq_false h
      have hp : KM.prN q ≠ q := fun z => h (by rw [z])
      unfold KM.tmI
      rw [if_neg h]
      refine er_seq (es_set ee_c) (er_seq (es_forN 4 (fun k => [some (pI (q : Nat)), some (pI (KM.tmK q a b k).2.2), some (pI (KM.tmK q a b k).2.1), some (pI (KM.prN q : Nat)), some (pI (KM.tmK q a b k).1), none, none]) (fun _ => []) rfl (by walk_at "sub") (ei_rng1 (n := 4) (ea_cons ee_c ea_nil) (by omega)) (fun k hk => ?_)) (er_ret (ee_var rfl)))
      obtain ⟨h1, h2, h3⟩ := tmK_in hq ha hb k
      have hst : KM.tmK q a b (k + 1) = (KM.tmA q (KM.tmK q a b k).1 (KM.tmK q a b k).2.2 ((KM.tmK q a b k).2.1 % KM.prN q).toNat, (KM.tmK q a b k).2.1 / KM.prN q, KM.rsI q (KM.tmK q a b k).2.2) := rfl
      rw [hst]
      generalize KM.tmK q a b k = s at h1 h2 h3
      obtain ⟨f, o, c⟩ := s
      have e1 := Int.emod_nonneg o (show (KM.prN q : Int) ≠ 0 by omega)
      have e2 := Int.emod_lt_of_pos o (show (0 : Int) < KM.prN q by omega)
      refine ⟨_, _, eg_name, es_seq (es_forN (o % KM.prN q).toNat (fun j => [some (pI (q : Nat)), some (pI c), some (pI o), some (pI (KM.prN q : Nat)), some (pI (KM.tmA q f c j)), some (pI (k : Nat)), none]) (fun _ => []) rfl (by walk_at "sub") (ei_rng1 (n := (o % KM.prN q).toNat) (ea_cons (Ev.is (ee_I (ee_var rfl) (ee_var rfl) (show (0 : Int) < KM.prN q by omega)) (congrArg pI (show o % (KM.prN q : Int) = ((o % KM.prN q).toNat : Int) by omega))) ea_nil) (by omega)) (fun j hj => ?_)) (es_seq (es_set (ee_I (ee_var rfl) (ee_var rfl) ⟨by omega, by omega⟩)) (es_set (ee_call (ea_cons (ee_var rfl) (ea_cons (ee_var rfl) ea_nil)) (tl_l_raised ⟨hq, hp, h3⟩)))), by walk_at "sub"⟩
      exact ⟨_, _, eg_name, es_set (ee_call (ea_cons (ee_var rfl) (ea_cons (ee_var rfl) (ea_cons (ee_var rfl) ea_nil))) (tl_l_added ⟨hq, tmA_in hq h1 h3 j, h3⟩)), by walk_at "sub"⟩
)
  exact ⟨fd, _, [], G, gl_l_times T, F.kp, F.bindsN (fun _ _ _ _ _ _ us hl => match us, hl with | [_, _, _], _ => rfl), .nil⟩
end
end J
/-! ## W14 -/
set_option Elab.async false
set_option linter.all false
set_option maxRecDepth 100000
set_option maxHeartbeats 600000
namespace J
open PySem L2 KT
local macro_rules | `(tactic| walk_at "sub") => `(tactic| repeat (first | exact Sub.nil | (with_reducible refine Sub.keep (Pr.le_refl _) ?_) | refine Sub.drop ?_ | refine Sub.keepV (by first | rfl | (simp; done) | omega) ?_ | refine Sub.keep (Pr.le_refl _) ?_))
section
variable {P : Program} {wd : World} {K : PySem.W.Frag} {mg : Str → Option Value} {base : Heap}
theorem less_at {q : Nat} (hq : q ∈ KM.sizes) {x : Int} (hx : 0 ≤ x ∧ x < q) : ((List.range q).filter fun k => decide (KM.addI q (k : Nat) x 1 = 0)).head? = some (KM.addI q 0 x (-1)).toNat := by
  have h := (Bool.and_eq_true_iff.mp (List.all_eq_true.mp KM.less_ok q hq)).1
  have h1 := List.all_eq_true.mp h x.toNat (List.mem_range.mpr (by omega))
  rw [show ((x.toNat : Nat) : Int) = x by omega] at h1
  exact of_decide_eq_true h1
theorem shr_at {q : Nat} (hq : q ∈ KM.sizes) {a : Int} (ha : 0 < a ∧ a < q) : ∃ r : Nat, ((List.range q).filter fun k => decide (KM.mulI q a (k : Nat) = 1)).head? = some r ∧ invI q a = r := by
  have h := (Bool.and_eq_true_iff.mp (List.all_eq_true.mp KM.less_ok q hq)).2
  have h1 := List.all_eq_true.mp h a.toNat (List.mem_range.mpr (by omega))
  rw [show ((a.toNat : Nat) : Int) = a by omega] at h1
  have h2 : (a.toNat == 0) = false := by rw [beq_eq_false_iff_ne]; omega
  rw [h2, Bool.false_or] at h1
  unfold invI
  split at h1
  · rename_i x y hx hy
    have e : x = 1 + y := eq_of_beq h1
    exact ⟨x, hx, by rw [hy]; show (1 + (y : Int)) = _; omega⟩
  · cases h1
theorem fst_filter {n : Nat} {bt : Nat → Bool} {r : Nat} (h : ((List.range n).filter bt).head? = some r) : ∃ m, ((List.range n).filter bt) = r :: m ∧ r < n := by
  cases hc : (List.range n).filter bt with
  | nil => rw [hc] at h; cases h
  | cons x m =>
    rw [hc] at h
    cases h
    have : r ∈ (List.range n).filter bt := by rw [hc]; exact List.mem_cons_self
    exact ⟨m, rfl, List.mem_range.mp (List.mem_filter.mp this).1⟩
def sp_l_less (K : PySem.W.Frag) : Sp := Pm (I := Nat × Int) (fun i => i.1 ∈ KM.sizes ∧ (0 ≤ i.2 ∧ i.2 < i.1)) (fun i => [pI (i.1 : Nat), pI 0, pI i.2]) (fun _ => []) (fun i => pI (KM.addI i.1 0 i.2 (-1))) (fun _ => [])
theorem tl_l_less {q : Nat} {a : Int} (h : q ∈ KM.sizes ∧ (0 ≤ a ∧ a < q)) : Tl (sp_l_less K) [pI (q : Nat), pI 0, pI a] [] (pI (KM.addI q 0 a (-1))) [] := tl_pm (I := Nat × Int) (q, a) h
abbrev C_l_less (P : Program) (wd : World) (K : PySem.W.Frag) (mg : Str → Option Value) (base : Heap) : Prop := CallG P wd K mg base 3 "_law_less" ["_law_big", "_law_one", "_law_other"] [] (sp_l_less K)
theorem ok_l_less (T : Tx K mg) (c_l_added : C_l_added P wd K mg base) : C_l_less P wd K mg base := by
  obtain ⟨fd, F⟩ := fd_l_less T
  have G : FnOk P wd K mg base CX0 3 _ fd ["_law_big", "_law_one", "_law_other"] (sp_l_less K) := fn_pm F sc_l_less (fun _ _ => rfl) (fun cdv A outer s H E hr i hi => by
    obtain ⟨q, a⟩ := i
    obtain ⟨hq, ha⟩ : q ∈ KM.sizes ∧ (0 ≤ a ∧ a < q) := hi
    have p5 := (KM.sizes_pr q hq).2.2.2.2.1
    have h0 := less_at hq ha
    have hrn := (KM.rng_at hq (a := 0) ⟨by omega, by omega⟩ ha).2.1
    obtain ⟨m, hm, _⟩ := fst_filter h0
    refine ⟨_, (pss_one (ps_ret (pe_ix (KX.ixL (K := K)) (pe_lc (own := [("_law_left", 3)]) (by rfl) sc_l_less.nd (pi_range1 (by rfl) (fr_range T) (pa_cons (pv 0) pa_nil)) (blkOk_by (by kernel_rfl)) (fun _ _ _ _ _ => by exact (pg_name (i := 3) sc_l_less.nd rfl (Or.inl rfl))) (fun _ _ _ _ _ => (pts_one (pt_cmpR op_eq (pe_callG c_l_added hr (by rfl) (pa_cons (pv 0) (pa_cons (pv 3) (pa_cons (pv 2) pa_nil)))) (pv 1) (nomark _)))) (fun _ _ _ _ _ => (pv 3))) pe_int (fun _ _ => rfl)))), ?_⟩
    show Eb [some (pI (q : Nat)), some (pI 0), some (pI a), none] [] _ (pI (KM.addI q 0 a (-1))) []
    refine Er.eb (er_ret (ee_ixL (n := 0) (ee_lc (vs := [3]) (List.range q) (fun k => pI (k : Nat)) (fun k => decide (KM.addI q (k : Nat) a 1 = 0)) (fun k => pI (k : Nat)) (ei_rng1 (n := q) (ea_cons (ee_var rfl) ea_nil) (by omega)) (wp_name (by simp)) (by rw [List.length_range]; omega) (fun k hk => ?_)) ee_c (ixN_eq (m := 0) rfl (by rw [hm]; simp)) ?_))
    · have hk := List.mem_range.mp hk
      exact ⟨_, eg_name, et_test (ee_eqI (ee_call (ea_cons (ee_var rfl) (ea_cons (ee_var rfl) (ea_cons (ee_var rfl) ea_nil))) (tl_l_added ⟨hq, ⟨by omega, by omega⟩, ha⟩)) (ee_var rfl)), fun _ => ee_var rfl⟩
    · rw [hm]
      show some (pI (((KM.addI q 0 a (-1)).toNat : Nat) : Int)) = some (pI _)
      rw [show (((KM.addI q 0 a (-1)).toNat : Nat) : Int) = KM.addI q 0 a (-1) by omega]
)
  exact ⟨fd, _, [], G, gl_l_less T, F.kp, F.bindsN (fun _ _ _ _ _ _ us hl => match us, hl with | [_, _, _], _ => rfl), .nil⟩
def sp_l_share (K : PySem.W.Frag) : Sp := Pm (I := Nat × Int) (fun i => i.1 ∈ KM.sizes ∧ (0 < i.2 ∧ i.2 < i.1)) (fun i => [pI (i.1 : Nat), pI i.2]) (fun _ => []) (fun i => pI (invI i.1 i.2)) (fun _ => [])
theorem tl_l_share {q : Nat} {a : Int} (h : q ∈ KM.sizes ∧ (0 < a ∧ a < q)) : Tl (sp_l_share K) [pI (q : Nat), pI a] [] (pI (invI q a)) [] := tl_pm (I := Nat × Int) (q, a) h
abbrev C_l_share (P : Program) (wd : World) (K : PySem.W.Frag) (mg : Str → Option Value) (base : Heap) : Prop := CallG P wd K mg base 5 "_law_share" ["_law_big", "_law_one"] [] (sp_l_share K)
theorem ok_l_share (T : Tx K mg) (c_l_times : C_l_times P wd K mg base) : C_l_share P wd K mg base := by
  obtain ⟨fd, F⟩ := fd_l_share T
  have G : FnOk P wd K mg base CX0 5 _ fd ["_law_big", "_law_one"] (sp_l_share K) := fn_pm F sc_l_share (fun _ _ => rfl) (fun cdv A outer s H E hr i hi => by
    obtain ⟨q, a⟩ := i
    obtain ⟨hq, ha⟩ : q ∈ KM.sizes ∧ (0 < a ∧ a < q) := hi
    have p5 := (KM.sizes_pr q hq).2.2.2.2.1
    obtain ⟨r, h0, hrr⟩ := shr_at hq ha
    obtain ⟨m, hm, _⟩ := fst_filter h0
    refine ⟨_, (pss_one (ps_ret (pe_ix (KX.ixL (K := K)) (pe_lc (own := [("_law_other", 2)]) (by rfl) sc_l_share.nd (pi_range1 (by rfl) (fr_range T) (pa_cons (pv 0) pa_nil)) (blkOk_by (by kernel_rfl)) (fun _ _ _ _ _ => by exact (pg_name (i := 2) sc_l_share.nd rfl (Or.inl rfl))) (fun _ _ _ _ _ => (pts_one (pt_cmpR op_eq (pe_callG c_l_times hr (by rfl) (pa_cons (pv 0) (pa_cons (pv 1) (pa_cons (pv 2) pa_nil)))) pe_int (nomark _)))) (fun _ _ _ _ _ => (pv 2))) pe_int (fun _ _ => rfl)))), ?_⟩
    show Eb [some (pI (q : Nat)), some (pI a), none] [] _ (pI (invI q a)) []
    refine Er.eb (er_ret (ee_ixL (n := 0) (ee_lc (vs := [2]) (List.range q) (fun k => pI (k : Nat)) (fun k => decide (KM.mulI q a (k : Nat) = 1)) (fun k => pI (k : Nat)) (ei_rng1 (n := q) (ea_cons (ee_var rfl) ea_nil) (by omega)) (wp_name (by simp)) (by rw [List.length_range]; omega) (fun k hk => ?_)) ee_c (ixN_eq (m := 0) rfl (by rw [hm]; simp)) ?_))
    · have hk := List.mem_range.mp hk
      exact ⟨_, eg_name, et_test (ee_eqI (ee_call (ea_cons (ee_var rfl) (ea_cons (ee_var rfl) (ea_cons (ee_var rfl) ea_nil))) (tl_l_times ⟨hq, ⟨by omega, by omega⟩, ⟨by omega, by omega⟩⟩)) ee_c), fun _ => ee_var rfl⟩
    · rw [hm, hrr]; rfl
)
  exact ⟨fd, _, [], G, gl_l_share T, F.kp, F.bindsN (fun _ _ _ _ _ _ us hl => match us, hl with | [_, _], _ => rfl), .nil⟩
theorem zip_get {l m : List Int} {k : Nat} (h1 : k < l.length) (h2 : k < m.length) : (l.zip m)[k]? = some (l.getD k 0, m.getD k 0) := by
  rw [List.getElem?_eq_getElem (by rw [List.length_zip]; omega), List.getElem_zip, List.getD_eq_getElem?_getD, List.getD_eq_getElem?_getD, List.getElem?_eq_getElem h1, List.getElem?_eq_getElem h2]
  rfl
def alongK (q : Nat) (l m : List Int) (k : Nat) : Int := ((l.zip m).take k).foldl (fun acc p => KM.addI q acc (KM.mulI q p.1 p.2) 1) 0
theorem alongK_in {q : Nat} (hq : q ∈ KM.sizes) {l m : List Int} (h1 : In q l) (h2 : In q m) (k : Nat) : 0 ≤ alongK q l m k ∧ alongK q l m k < q := by
  have h := along_in hq (l := l.take k) (m := m.take k) (fun x hx => h1 x (List.mem_of_mem_take hx)) (fun x hx => h2 x (List.mem_of_mem_take hx))
  unfold alongI at h
  unfold alongK
  rwa [List.zip_eq_zipWith, ← List.take_zipWith, ← List.zip_eq_zipWith] at h
theorem alongK_succ {q : Nat} {l m : List Int} {k : Nat} (h1 : k < l.length) (h2 : k < m.length) : alongK q l m (k + 1) = KM.addI q (alongK q l m k) (KM.mulI q (l.getD k 0) (m.getD k 0)) 1 := by
  unfold alongK
  rw [take_fold (zip_get h1 h2)]
theorem alongK_last {q : Nat} {l m : List Int} (h : l.length = m.length) : alongK q l m l.length = alongI q l m := by
  unfold alongK alongI
  rw [List.take_of_length_le (by rw [List.length_zip]; omega)]
def sp_l_along (K : PySem.W.Frag) : Sp := Pm (I := Nat × List Int × List Int) (fun i => i.1 ∈ KM.sizes ∧ In i.1 i.2.1 ∧ In i.1 i.2.2 ∧ i.2.1.length = i.2.2.length ∧ i.2.1.length ≤ 1000) (fun i => [pI (i.1 : Nat), pRow K i.2.1, pRow K i.2.2]) (fun _ => []) (fun i => pI (alongI i.1 i.2.1 i.2.2)) (fun _ => [])
theorem tl_l_along {q : Nat} {l m : List Int} (h : q ∈ KM.sizes ∧ In q l ∧ In q m ∧ l.length = m.length ∧ l.length ≤ 1000) : Tl (sp_l_along K) [pI (q : Nat), pRow K l, pRow K m] [] (pI (alongI q l m)) [] := tl_pm (I := Nat × List Int × List Int) (q, l, m) h
abbrev C_l_along (P : Program) (wd : World) (K : PySem.W.Frag) (mg : Str → Option Value) (base : Heap) : Prop := CallG P wd K mg base 5 "_law_along" ["_law_big", "_law_row_here", "_law_other"] [] (sp_l_along K)
theorem ok_l_along (T : Tx K mg) (c_l_added : C_l_added P wd K mg base) (c_l_times : C_l_times P wd K mg base) : C_l_along P wd K mg base := by
  obtain ⟨fd, F⟩ := fd_l_along T
  have G : FnOk P wd K mg base CX0 5 _ fd ["_law_big", "_law_row_here", "_law_other"] (sp_l_along K) := fn_pm F sc_l_along (fun _ _ => rfl) (fun cdv A outer s H E hr i hi => by
    obtain ⟨q, l, m⟩ := i
    obtain ⟨hq, h1, h2, h3, h4⟩ : q ∈ KM.sizes ∧ In q l ∧ In q m ∧ l.length = m.length ∧ l.length ≤ 1000 := hi
    have p6 := (KM.sizes_pr q hq).2.2.2.2.2.1
    refine ⟨_, (pss_cons (ps_set (i := 3) sc_l_along.nd rfl (Or.inl rfl) pe_int)
      (pss_cons (ps_for PassesOwn.never rfl (pi_range1 (by rfl) (fr_range T) (pa_cons (pe_callB (KX.len (K := K)) (by rfl) (fr_len T) PySem.boot_len (pa_cons (pv 1) pa_nil)) pa_nil)) (pg_name (i := 4) sc_l_along.nd rfl (Or.inl rfl)) (pss_one (ps_set (i := 3) sc_l_along.nd rfl (Or.inl rfl) (pe_callG c_l_added hr (by rfl) (pa_cons (pv 0) (pa_cons (pv 3) (pa_cons (pe_callG c_l_times hr (by rfl) (pa_cons (pv 0) (pa_cons (pe_ix (KX.ixT (K := K)) (pv 1) (pv 4) (fun _ _ => rfl)) (pa_cons (pe_ix (KX.ixT (K := K)) (pv 2) (pv 4) (fun _ _ => rfl)) pa_nil)))) pa_nil)))))))
      (pss_one (ps_ret (pv 3))))), ?_⟩
    show Eb [some (pI (q : Nat)), some (pRow K l), some (pRow K m), none, none] [] _ (pI (alongI q l m)) []
    refine Er.eb (er_seq (es_set ee_c) (er_seq (es_forN l.length (fun k => [some (pI (q : Nat)), some (pRow K l), some (pRow K m), some (pI (alongK q l m k)), none]) (fun _ => []) rfl (by walk_at "sub") (ei_rng1 (n := l.length) (ea_cons (ee_lenT (ea_cons (ee_var rfl) ea_nil) (by rw [List.length_map])) ea_nil) (by omega)) (fun k hk => ?_)) (Er.is (er_ret (ee_var rfl)) (congrArg pI (alongK_last h3)))))
    have hin := alongK_in hq h1 h2 k
    rw [alongK_succ hk (by omega)]
    generalize alongK q l m k = s0 at hin
    have g1 := h1.get (i := k) hk
    have g2 := h2.get (i := k) (by omega)
    exact ⟨_, _, eg_name, es_set (ee_call (ea_cons (ee_var rfl) (ea_cons (ee_var rfl) (ea_cons (ee_call (ea_cons (ee_var rfl) (ea_cons (ee_ixT (n := k) (P := pI (l.getD k 0)) (ee_var rfl) (ee_var rfl) (ixN_nat (by rw [List.length_map]; omega)) (getD_pI hk)) (ea_cons (ee_ixT (n := k) (P := pI (m.getD k 0)) (ee_var rfl) (ee_var rfl) (ixN_nat (by rw [List.length_map]; omega)) (getD_pI (by omega))) ea_nil))) (tl_l_times ⟨hq, g1, g2⟩)) ea_nil))) (tl_l_added ⟨hq, hin, (KM.rng_at hq g1 g2).2.2⟩)), by walk_at "sub"⟩
)
  exact ⟨fd, _, [], G, gl_l_along T, F.kp, F.bindsN (fun _ _ _ _ _ _ us hl => match us, hl with | [_, _, _], _ => rfl), .nil⟩
def sp_l_scaled (K : PySem.W.Frag) : Sp := Pm (I := Nat × List Int × Int) (fun i => i.1 ∈ KM.sizes ∧ In i.1 i.2.1 ∧ i.2.1.length ≤ 1000 ∧ (0 ≤ i.2.2 ∧ i.2.2 < i.1)) (fun i => [pI (i.1 : Nat), pRow K i.2.1, pI i.2.2]) (fun _ => []) (fun i => pRow K (scaleI i.1 i.2.1 i.2.2)) (fun _ => [])
theorem tl_l_scaled {q : Nat} {l : List Int} {s : Int} (h : q ∈ KM.sizes ∧ In q l ∧ l.length ≤ 1000 ∧ (0 ≤ s ∧ s < q)) : Tl (sp_l_scaled K) [pI (q : Nat), pRow K l, pI s] [] (pRow K (scaleI q l s)) [] := tl_pm (I := Nat × List Int × Int) (q, l, s) h
abbrev C_l_scaled (P : Program) (wd : World) (K : PySem.W.Frag) (mg : Str → Option Value) (base : Heap) : Prop := CallG P wd K mg base 5 "_law_scaled" ["_law_big", "_law_row_here", "_law_share_here"] [] (sp_l_scaled K)
theorem ok_l_scaled (T : Tx K mg) (c_l_times : C_l_times P wd K mg base) : C_l_scaled P wd K mg base := by
  obtain ⟨fd, F⟩ := fd_l_scaled T
  have G : FnOk P wd K mg base CX0 5 _ fd ["_law_big", "_law_row_here", "_law_share_here"] (sp_l_scaled K) := fn_pm F sc_l_scaled (fun _ _ => rfl) (fun cdv A outer s H E hr i hi => by
    obtain ⟨q, l, sh⟩ := i
    obtain ⟨hq, h1, h2, h3⟩ : q ∈ KM.sizes ∧ In q l ∧ l.length ≤ 1000 ∧ (0 ≤ sh ∧ sh < q) := hi
    refine ⟨_, (pss_one (ps_ret (pe_callTy (KX.tupOf (K := K)) (by rfl) (fr_tuple T) (by decide +kernel) (pa_cons (pe_lc (own := [("_law_one", 3)]) (by rfl) sc_l_scaled.nd (KX.iT (K := K) (pv 1)) (blkOk_by (by kernel_rfl)) (fun _ _ _ _ _ => by exact (pg_name (i := 3) sc_l_scaled.nd rfl (Or.inl rfl))) (fun _ _ _ _ _ => pts_nil) (fun _ _ _ _ _ => (pe_callG c_l_times hr (by rfl) (pa_cons (pv 0) (pa_cons (pv 3) (pa_cons (pv 2) pa_nil)))))) pa_nil)))), ?_⟩
    show Eb [some (pI (q : Nat)), some (pRow K l), some (pI sh), none] [] _ (pRow K (scaleI q l sh)) []
    refine Er.eb (er_ret (Ev.is (ee_tupOf (ea_cons (ee_lcY (vs := [3]) l pI (fun x => pI (KM.mulI q x sh)) (ei_tup (ee_var rfl)) (wp_name (by simp)) (by omega) (fun x hx => ?_)) ea_nil)) (by rw [pRow, scaleI, List.map_map]; rfl)))
    exact ⟨_, eg_name, ee_call (ea_cons (ee_var rfl) (ea_cons (ee_var rfl) (ea_cons (ee_var rfl) ea_nil))) (tl_l_times ⟨hq, h1 x hx, h3⟩)⟩
)
  exact ⟨fd, _, [], G, gl_l_scaled T, F.kp, F.bindsN (fun _ _ _ _ _ _ us hl => match us, hl with | [_, _, _], _ => rfl), .nil⟩
theorem join_range {q : Nat} {l m : List Int} {s : Int} (h : l.length = m.length) : joinI q l m s = (List.range l.length).map fun k => KM.addI q (l.getD k 0) (m.getD k 0) s := by
  refine List.ext_getElem? fun k => ?_
  unfold joinI
  rw [List.getElem?_map, List.getElem?_map]
  by_cases hk : k < l.length
  · rw [zip_get hk (by omega), List.getElem?_range hk]; rfl
  · rw [List.getElem?_eq_none (by rw [List.length_zip]; omega), List.getElem?_eq_none (by rw [List.length_range]; omega)]; rfl
def sp_l_summed (K : PySem.W.Frag) : Sp := Pm (I := Nat × List Int × List Int) (fun i => i.1 ∈ KM.sizes ∧ In i.1 i.2.1 ∧ In i.1 i.2.2 ∧ i.2.1.length = i.2.2.length ∧ i.2.1.length ≤ 1000) (fun i => [pI (i.1 : Nat), pRow K i.2.1, pRow K i.2.2]) (fun _ => []) (fun i => pRow K (joinI i.1 i.2.1 i.2.2 1)) (fun _ => [])
theorem tl_l_summed {q : Nat} {l m : List Int} (h : q ∈ KM.sizes ∧ In q l ∧ In q m ∧ l.length = m.length ∧ l.length ≤ 1000) : Tl (sp_l_summed K) [pI (q : Nat), pRow K l, pRow K m] [] (pRow K (joinI q l m 1)) [] := tl_pm (I := Nat × List Int × List Int) (q, l, m) h
abbrev C_l_summed (P : Program) (wd : World) (K : PySem.W.Frag) (mg : Str → Option Value) (base : Heap) : Prop := CallG P wd K mg base 3 "_law_summed" ["_law_big", "_law_row_here", "_law_other"] [] (sp_l_summed K)
theorem ok_l_summed (T : Tx K mg) (c_l_added : C_l_added P wd K mg base) : C_l_summed P wd K mg base := by
  obtain ⟨fd, F⟩ := fd_l_summed T
  have G : FnOk P wd K mg base CX0 3 _ fd ["_law_big", "_law_row_here", "_law_other"] (sp_l_summed K) := fn_pm F sc_l_summed (fun _ _ => rfl) (fun cdv A outer s H E hr i hi => by
    obtain ⟨q, l, m⟩ := i
    obtain ⟨hq, h1, h2, h3, h4⟩ : q ∈ KM.sizes ∧ In q l ∧ In q m ∧ l.length = m.length ∧ l.length ≤ 1000 := hi
    refine ⟨_, (pss_one (ps_ret (pe_callTy (KX.tupOf (K := K)) (by rfl) (fr_tuple T) (by decide +kernel) (pa_cons (pe_lc (own := [("_law_at", 3)]) (by rfl) sc_l_summed.nd (pi_range1 (by rfl) (fr_range T) (pa_cons (pe_callB (KX.len (K := K)) (by rfl) (fr_len T) PySem.boot_len (pa_cons (pv 1) pa_nil)) pa_nil)) (blkOk_by (by kernel_rfl)) (fun _ _ _ _ _ => by exact (pg_name (i := 3) sc_l_summed.nd rfl (Or.inl rfl))) (fun _ _ _ _ _ => pts_nil) (fun _ _ _ _ _ => (pe_callG c_l_added hr (by rfl) (pa_cons (pv 0) (pa_cons (pe_ix (KX.ixT (K := K)) (pv 1) (pv 3) (fun _ _ => rfl)) (pa_cons (pe_ix (KX.ixT (K := K)) (pv 2) (pv 3) (fun _ _ => rfl)) pa_nil)))))) pa_nil)))), ?_⟩
    show Eb [some (pI (q : Nat)), some (pRow K l), some (pRow K m), none] [] _ (pRow K (joinI q l m 1)) []
    refine Er.eb (er_ret (Ev.is (ee_tupOf (ea_cons (ee_lcY (vs := [3]) (List.range l.length) (fun k => pI (k : Nat)) (fun k => pI (KM.addI q (l.getD k 0) (m.getD k 0) 1)) (ei_rng1 (n := l.length) (ea_cons (ee_lenT (ea_cons (ee_var rfl) ea_nil) (by rw [List.length_map])) ea_nil) (by omega)) (wp_name (by simp)) (by rw [List.length_range]; omega) (fun k hk => ?_)) ea_nil)) (by rw [join_range h3, pRow, List.map_map]; rfl)))
    have hk := List.mem_range.mp hk
    exact ⟨_, eg_name, ee_call (ea_cons (ee_var rfl) (ea_cons (ee_ixT (n := k) (P := pI (l.getD k 0)) (ee_var rfl) (ee_var rfl) (ixN_nat (by rw [List.length_map]; omega)) (getD_pI hk)) (ea_cons (ee_ixT (n := k) (P := pI (m.getD k 0)) (ee_var rfl) (ee_var rfl) (ixN_nat (by rw [List.length_map]; omega)) (getD_pI (by omega))) ea_nil))) (tl_l_added ⟨hq, h1.get hk, h2.get (by omega)⟩)⟩
)
  exact ⟨fd, _, [], G, gl_l_summed T, F.kp, F.bindsN (fun _ _ _ _ _ _ us hl => match us, hl with | [_, _, _], _ => rfl), .nil⟩
def blendI (q : Nat) (lot : List (List Int)) (shs : List Int) (n : Nat) : List Int := (lot.zip shs).foldl (fun acc p => joinI q acc (scaleI q p.1 p.2) 1) (List.replicate n 0)
theorem blend_in {q n : Nat} (hq : q ∈ KM.sizes) : ∀ (ps : List (List Int × Int)) (acc : List Int), (In q acc ∧ acc.length = n) → (∀ p ∈ ps, (In q p.1 ∧ p.1.length = n) ∧ (0 ≤ p.2 ∧ p.2 < q)) → In q (ps.foldl (fun acc p => joinI q acc (scaleI q p.1 p.2) 1) acc) ∧ (ps.foldl (fun acc p => joinI q acc (scaleI q p.1 p.2) 1) acc).length = n
  | [], acc, h, _ => h
  | p :: ps, acc, h, hp => by
    obtain ⟨k1, k2⟩ := hp p List.mem_cons_self
    exact blend_in hq ps _ ⟨In.join hq h.1 (In.scale hq k1.1 k2) (.inl rfl), by rw [join_len (by rw [scale_len, h.2, k1.2]), h.2]⟩ fun r hr => hp r (List.mem_cons_of_mem _ hr)
def blendK (q : Nat) (lot : List (List Int)) (shs : List Int) (n k : Nat) : List Int := ((lot.zip shs).take k).foldl (fun acc p => joinI q acc (scaleI q p.1 p.2) 1) (List.replicate n 0)
def sp_l_blend (K : PySem.W.Frag) : Sp := Pm (I := Nat × Nat × List (List Int) × List Int) (fun i => i.1 ∈ KM.sizes ∧ i.2.1 ≤ 500 ∧ RowsOk i.1 i.2.1 i.2.2.1 ∧ i.2.2.1.length ≤ 100 ∧ In i.1 i.2.2.2 ∧ i.2.2.2.length = i.2.2.1.length) (fun i => [pI (i.1 : Nat), pRows K i.2.2.1, pLst (i.2.2.2.map pI), pI (i.2.1 : Nat)]) (fun _ => []) (fun i => pRow K (blendI i.1 i.2.2.1 i.2.2.2 i.2.1)) (fun _ => [])
theorem tl_l_blend {q n : Nat} {lot : List (List Int)} {shs : List Int} (h : q ∈ KM.sizes ∧ n ≤ 500 ∧ RowsOk q n lot ∧ lot.length ≤ 100 ∧ In q shs ∧ shs.length = lot.length) : Tl (sp_l_blend K) [pI (q : Nat), pRows K lot, pLst (shs.map pI), pI (n : Nat)] [] (pRow K (blendI q lot shs n)) [] := tl_pm (I := Nat × Nat × List (List Int) × List Int) (q, n, lot, shs) h
abbrev C_l_blend (P : Program) (wd : World) (K : PySem.W.Frag) (mg : Str → Option Value) (base : Heap) : Prop := CallG P wd K mg base 6 "_law_blend" ["_law_big", "_law_lot", "_law_shares", "_law_broad"] [] (sp_l_blend K)
theorem ok_l_blend (T : Tx K mg) (c_l_summed : C_l_summed P wd K mg base) (c_l_scaled : C_l_scaled P wd K mg base) : C_l_blend P wd K mg base := by
  obtain ⟨fd, F⟩ := fd_l_blend T
  have G : FnOk P wd K mg base CX0 6 _ fd ["_law_big", "_law_lot", "_law_shares", "_law_broad"] (sp_l_blend K) := fn_pm F sc_l_blend (fun _ _ => rfl) (fun cdv A outer s H E hr i hi => by
    obtain ⟨q, n, lot, shs⟩ := i
    obtain ⟨hq, hn, h1, h2, h3, h4⟩ : q ∈ KM.sizes ∧ n ≤ 500 ∧ RowsOk q n lot ∧ lot.length ≤ 100 ∧ In q shs ∧ shs.length = lot.length := hi
    refine ⟨_, (pss_cons (ps_set (i := 4) sc_l_blend.nd rfl (Or.inl rfl) (pe_op (KX.repT (K := K)) (pe_tup (pa_cons pe_int pa_nil)) (pv 3)))
      (pss_cons (ps_for PassesOwn.never rfl (pi_range1 (by rfl) (fr_range T) (pa_cons (pe_callB (KX.len (K := K)) (by rfl) (fr_len T) PySem.boot_len (pa_cons (pv 1) pa_nil)) pa_nil)) (pg_name (i := 5) sc_l_blend.nd rfl (Or.inl rfl)) (pss_one (ps_set (i := 4) sc_l_blend.nd rfl (Or.inl rfl) (pe_callG c_l_summed hr (by rfl) (pa_cons (pv 0) (pa_cons (pv 4) (pa_cons (pe_callG c_l_scaled hr (by rfl) (pa_cons (pv 0) (pa_cons (pe_ix (KX.ixL (K := K)) (pv 1) (pv 5) (fun _ _ => rfl)) (pa_cons (pe_ix (KX.ixL (K := K)) (pv 2) (pv 5) (fun _ _ => rfl)) pa_nil)))) pa_nil)))))))
      (pss_one (ps_ret (pv 4))))), ?_⟩
    show Eb [some (pI (q : Nat)), some (pRows K lot), some (pLst (shs.map pI)), some (pI (n : Nat)), none, none] [] _ (pRow K (blendI q lot shs n)) []
    have hmem : ∀ p ∈ lot.zip shs, (In q p.1 ∧ p.1.length = n) ∧ (0 ≤ p.2 ∧ p.2 < q) := fun p hp => by
      have hz := List.of_mem_zip (a := p.1) (b := p.2) hp
      exact ⟨h1 _ hz.1, h3 _ hz.2⟩
    have hst : ∀ k, In q (blendK q lot shs n k) ∧ (blendK q lot shs n k).length = n := fun k => blend_in hq _ _ ⟨In.rep hq, by simp⟩ fun p hp => hmem p (List.mem_of_mem_take hp)
    have hlast : blendK q lot shs n lot.length = blendI q lot shs n := by
      unfold blendK blendI
      rw [List.take_of_length_le (by rw [List.length_zip]; omega)]
    refine Er.eb (er_seq (ρ1 := [some (pI (q : Nat)), some (pRows K lot), some (pLst (shs.map pI)), some (pI (n : Nat)), some (pRow K (List.replicate n 0)), none]) (es_set (Ev.is (ee_repT1 (n := n) (ee_tup (ea_cons ee_c ea_nil) (by simp)) (ee_var rfl) rfl (by omega)) (by rw [pRow, List.map_replicate]))) (er_seq (es_forN lot.length (fun k => [some (pI (q : Nat)), some (pRows K lot), some (pLst (shs.map pI)), some (pI (n : Nat)), some (pRow K (blendK q lot shs n k)), none]) (fun _ => []) rfl (by walk_at "sub") (ei_rng1 (n := lot.length) (ea_cons (ee_lenL (ea_cons (ee_var rfl) ea_nil) (by rw [List.length_map])) ea_nil) (by omega)) (fun k hk => ?_)) (Er.is (er_ret (ee_var rfl)) (congrArg (pRow K) hlast))))
    have hz : (lot.zip shs)[k]? = some (lot[k], shs[k]'(by omega)) := by rw [List.getElem?_eq_getElem (by rw [List.length_zip]; omega), List.getElem_zip]
    have hs : blendK q lot shs n (k + 1) = joinI q (blendK q lot shs n k) (scaleI q lot[k] (shs[k]'(by omega))) 1 := by unfold blendK; rw [take_fold hz]
    obtain ⟨k1, k2⟩ := hmem _ (List.mem_of_getElem? hz)
    have hin := hst k
    rw [hs]
    generalize blendK q lot shs n k = s0 at hin
    exact ⟨_, _, eg_name, es_set (ee_call (ea_cons (ee_var rfl) (ea_cons (ee_var rfl) (ea_cons (ee_call (ea_cons (ee_var rfl) (ea_cons (ee_ixL (n := k) (P := pRow K lot[k]) (ee_var rfl) (ee_var rfl) (ixN_nat (by rw [List.length_map]; omega)) (by rw [List.getElem?_map, List.getElem?_eq_getElem hk]; rfl)) (ea_cons (ee_ixL (n := k) (P := pI (shs[k]'(by omega))) (ee_var rfl) (ee_var rfl) (ixN_nat (by rw [List.length_map]; omega)) (by rw [List.getElem?_map, List.getElem?_eq_getElem (show k < shs.length by omega)]; rfl)) ea_nil))) (tl_l_scaled ⟨hq, k1.1, by have := k1.2; dsimp only at this; omega, k2⟩)) ea_nil))) (tl_l_summed ⟨hq, hin.1, In.scale hq k1.1 k2, by rw [scale_len, hin.2]; exact k1.2.symm, by omega⟩)), by walk_at "sub"⟩
)
  exact ⟨fd, _, [], G, gl_l_blend T, F.kp, F.bindsN (fun _ _ _ _ _ _ us hl => match us, hl with | [_, _, _, _], _ => rfl), .nil⟩
def unitI (i n : Nat) : List Int := (List.replicate i 0 ++ [1]) ++ List.replicate (n - i - 1) 0
def sp_l_unit (K : PySem.W.Frag) : Sp := Pm (I := Nat × Nat) (fun i => i.1 < i.2 ∧ i.2 ≤ 500) (fun i => [pI (i.1 : Nat), pI (i.2 : Nat)]) (fun _ => []) (fun i => pRow K (unitI i.1 i.2)) (fun _ => [])
theorem tl_l_unit {i n : Nat} (h : i < n ∧ n ≤ 500) : Tl (sp_l_unit K) [pI (i : Nat), pI (n : Nat)] [] (pRow K (unitI i n)) [] := tl_pm (I := Nat × Nat) (i, n) h
abbrev C_l_unit (P : Program) (wd : World) (K : PySem.W.Frag) (mg : Str → Option Value) (base : Heap) : Prop := CallG P wd K mg base 1 "_law_unit" ["_law_at", "_law_broad"] [] (sp_l_unit K)
theorem ok_l_unit (T : Tx K mg)  : C_l_unit P wd K mg base := by
  obtain ⟨fd, F⟩ := fd_l_unit T
  have G : FnOk P wd K mg base CX0 1 _ fd ["_law_at", "_law_broad"] (sp_l_unit K) := fn_pm F sc_l_unit (fun _ _ => rfl) (fun cdv A outer s H E hr i hi => by
    obtain ⟨k, n⟩ := i
    obtain ⟨h1, h2⟩ : k < n ∧ n ≤ 500 := hi
    refine ⟨_, (pss_one (ps_ret (pe_op (KX.catT (K := K)) (pe_op (KX.catT (K := K)) (pe_op (KX.repT (K := K)) (pe_tup (pa_cons pe_int pa_nil)) (pv 0)) (pe_tup (pa_cons pe_int pa_nil))) (pe_op (KX.repT (K := K)) (pe_tup (pa_cons pe_int pa_nil)) (pe_op op_sub (pe_op op_sub (pv 1) (pv 0)) pe_int))))), ?_⟩
    show Eb [some (pI (k : Nat)), some (pI (n : Nat))] [] _ (pRow K (unitI k n)) []
    exact Er.eb (er_ret (Ev.is (ee_catT (ee_catT (ee_repT1 (n := k) (ee_tup (ea_cons ee_c ea_nil) (by simp)) (ee_var rfl) rfl (by omega)) (ee_tup (ea_cons ee_c ea_nil) (by simp)) (by simp; omega)) (ee_repT1 (n := n - k - 1) (ee_tup (ea_cons ee_c ea_nil) (by simp)) (ee_I0 (ee_I0 (ee_var rfl) (ee_var rfl)) ee_c) (by omega) (by omega)) (by simp; omega)) (by rw [pRow, unitI, List.map_append, List.map_append, List.map_replicate, List.map_replicate]; rfl)))
)
  exact ⟨fd, _, [], G, gl_l_unit T, F.kp, F.bindsN (fun _ _ _ _ _ _ us hl => match us, hl with | [_, _], _ => rfl), .nil⟩
end
end J
/-! ## W15 -/
set_option Elab.async false
set_option linter.all false
set_option maxRecDepth 100000
set_option maxHeartbeats 600000
namespace J
open PySem L2 KT
local macro_rules | `(tactic| walk_at "sub") => `(tactic| repeat (first | exact Sub.nil | (with_reducible refine Sub.keep (Pr.le_refl _) ?_) | refine Sub.drop ?_ | refine Sub.keepV (by first | rfl | (simp; done) | omega) ?_ | refine Sub.keep (Pr.le_refl _) ?_))
section
variable {P : Program} {wd : World} {K : PySem.W.Frag} {mg : Str → Option Value} {base : Heap}
theorem put_p {A B : Pr} : putP "prime" B ([("many", A)] : List (Str × Pr)) = ([("many", A), ("prime", B)] : List (Str × Pr)) := by
  rw [putP, if_neg (by decide), putP]
theorem put_pl {A B C : Pr} : putP "places" C ([("many", A), ("prime", B)] : List (Str × Pr)) = ([("many", A), ("prime", B), ("places", C)] : List (Str × Pr)) := by
  rw [putP, if_neg (by decide), putP, if_neg (by decide), putP]
theorem put_pl2 {A B C D : Pr} : putP "places" D ([("many", A), ("prime", B), ("places", C)] : List (Str × Pr)) = ([("many", A), ("prime", B), ("places", D)] : List (Str × Pr)) := by
  rw [putP, if_neg (by decide), putP, if_neg (by decide), putP, if_pos rfl]
theorem size_in {q : Nat} (hq : q ∈ KM.sizes) : inV (.int (q : Int)) (([2, 3, 4, 5, 7, 8, 9, 11, 13, 16] : List Int).map V.int) = true := by
  simp only [KM.sizes, List.mem_cons, List.not_mem_nil, or_false] at hq
  rcases hq with rfl | rfl | rfl | rfl | rfl | rfl | rfl | rfl | rfl | rfl <;> rfl
theorem base_ok {q : Nat} (hq : q ∈ KM.sizes) : ∃ m, (([2, 3, 5, 7, 11, 13] : List Int).filter fun b => decide ((q : Int) % b = 0)) = (KM.prN q : Int) :: m := by
  simp only [KM.sizes, List.mem_cons, List.not_mem_nil, or_false] at hq
  rcases hq with rfl | rfl | rfl | rfl | rfl | rfl | rfl | rfl | rfl | rfl <;> exact ⟨_, rfl⟩
theorem pow_ok {q : Nat} (hq : q ∈ KM.sizes) : (∀ k < KM.plN q - 1, ((KM.prN q : Int) ^ (1 + k) < (q : Int))) ∧ ¬ ((KM.prN q : Int) ^ (1 + (KM.plN q - 1)) < (q : Int)) := by
  have : ∀ q ∈ KM.sizes, (∀ k < KM.plN q - 1, KM.prN q ^ (1 + k) < q) ∧ ¬ (KM.prN q ^ (1 + (KM.plN q - 1)) < q) := by decide
  obtain ⟨h1, h2⟩ := this q hq
  refine ⟨fun k hk => ?_, fun z => h2 ?_⟩
  · have := h1 k hk
    rw [← Int.natCast_pow]; omega
  · rw [← Int.natCast_pow] at z; omega
def sp_Field_init (K : PySem.W.Frag) : Sp := Pm (I := Addr × Nat) (fun i => i.2 ∈ KM.sizes) (fun i => [pA i.1, pI (i.2 : Nat)]) (fun i => [oIns i.1 (He.ga K "Field") []]) (fun _ => pN) (fun i => [oIns i.1 (He.ga K "Field") (fdF i.2 (KM.prN i.2) (KM.plN i.2))])
theorem tl_Field_init {x : Addr} {q : Nat} (h : q ∈ KM.sizes) : Tl (sp_Field_init K) [pA x, pI (q : Nat)] [oIns x (He.ga K "Field") []] pN [oIns x (He.ga K "Field") (fdF q (KM.prN q) (KM.plN q))] := tl_pm (I := Addr × Nat) (x, q) h
abbrev C_Field_init (P : Program) (wd : World) (K : PySem.W.Frag) (mg : Str → Option Value) (base : Heap) : Prop := CallI P wd K mg base 2 "Field" (He.ga K "Field") ["self", "size"] [] (sp_Field_init K)
theorem ok_Field_init (T : Tx K mg) (c_grown : C_grown P wd K mg base) : C_Field_init P wd K mg base := by
  obtain ⟨fd, F⟩ := fd_Field_init T
  have G : FnOk P wd K mg base CX0 2 _ fd ["self", "size"] (sp_Field_init K) := fn_pm F sc_Field_init (fun _ _ => rfl) (fun cdv A outer s H E hr i hi => by
    obtain ⟨x, q⟩ := i
    have hq : q ∈ KM.sizes := hi
    obtain ⟨p1, p2, p3, p4, p5, p6, _⟩ := KM.sizes_pr q hq
    obtain ⟨m, hm⟩ := base_ok hq
    obtain ⟨w1, w2⟩ := pow_ok hq
    have hT := (Bool.and_eq_true_iff.mp T.exb).1
    have hS : ∀ H, SqT K H (He.ga K "SIZES") (([2, 3, 4, 5, 7, 8, 9, 11, 13, 16] : List Int).map V.int) := fun H => He.tupB_ok (Bool.and_eq_true_iff.mp hT).1 H
    have hB : ∀ H, SqT K H (He.ga K "BASES") (([2, 3, 5, 7, 11, 13] : List Int).map V.int) := fun H => He.tupB_ok (Bool.and_eq_true_iff.mp hT).2 H
    refine ⟨_, (pss_cons (ps_if (pt_cmpR (KX.notInS (K := K)) (pv 1) (pe_glob (v := V.ref (He.ga K "SIZES")) (by rfl) (gl_SIZES T) rfl) (by rfl)) (pss_one ps_never) pss_nil)
      (pss_cons (KX.sfld (K := K) (pv 0) (pv 1) rfl)
      (pss_cons (KX.sfld (K := K) (pv 0) (pe_ix (KX.ixL (K := K)) (pe_lc (own := [("base", 2)]) (by rfl) sc_Field_init.nd (KX.iT (K := K) (pe_glob (v := V.ref (He.ga K "BASES")) (by rfl) (gl_BASES T) rfl)) (blkOk_by (by kernel_rfl)) (fun _ _ _ _ _ => by exact (pg_name (i := 2) sc_Field_init.nd rfl (Or.inl rfl))) (fun _ _ _ _ _ => (pts_one (pt_cmpR op_eq (pe_op op_mod (pv 1) (pv 2)) pe_int (nomark _)))) (fun _ _ _ _ _ => (pv 2))) pe_int (fun _ _ => rfl)) rfl)
      (pss_cons (KX.sfld (K := K) (pv 0) pe_int rfl)
      (pss_one (ps_while PassesOwn.never (pt_cmpR op_lt (pe_callG c_grown hr (by rfl) (pa_cons (KX.fld (K := K) (pv 0) rfl) (pa_cons (KX.fld (K := K) (pv 0) rfl) pa_nil))) (pv 1) (nomark _)) (pss_one (KX.sfldaug (K := K) (pv 0) pe_int in_add)))))))), ?_⟩
    show Eb [some (pA x), some (pI (q : Nat)), none] [oIns x (He.ga K "Field") []] _ pN [oIns x (He.ga K "Field") (fdF q (KM.prN q) (KM.plN q))]
    refine Es.eb (ρ' := [some (pA x), some (pI (q : Nat)), none]) (es_seq (ρ1 := [some (pA x), some (pI (q : Nat)), none]) (w1 := [oIns x (He.ga K "Field") []]) (es_if (b := false) (et_test (ee_notIn (ee_var rfl) (ee_tupC hS) (size_in hq))) (fun z => by cases z) (fun _ => es_next))
      (es_seq (w1 := [oIns x (He.ga K "Field") [("many", pI (q : Nat))]]) (es_fld (w1 := []) (w2 := []) (ee_var rfl) (ee_var rfl) (cl_Field T) (na_Field_many T) (by simp))
      (es_seq (w1 := [oIns x (He.ga K "Field") [("many", pI (q : Nat)), ("prime", pI (KM.prN q : Nat))]]) (Es.is (es_fld (w1 := []) (w2 := []) (ee_ixL (n := 0) (P := pI (KM.prN q : Nat)) (ee_lc (vs := [2]) ([2, 3, 5, 7, 11, 13] : List Int) pI (fun b => decide ((q : Int) % b = 0)) pI (ei_tup (ee_tupC hB)) (wp_name (by simp)) (by simp) (fun b hb => ⟨_, eg_name, et_test (ee_eqI (ee_I (ee_var rfl) (ee_var rfl) ?_) ee_c), fun _ => ee_var rfl⟩)) ee_c (ixN_eq (m := 0) rfl (by rw [hm]; simp)) (by rw [hm]; rfl)) (ee_var rfl) (cl_Field T) (na_Field_prime T) (by simp)) (by rw [put_p]; rfl))
      (es_seq (w1 := [oIns x (He.ga K "Field") [("many", pI (q : Nat)), ("prime", pI (KM.prN q : Nat)), ("places", pI 1)]]) (Es.is (es_fld (w1 := []) (w2 := []) ee_c (ee_var rfl) (cl_Field T) (na_Field_places T) (by simp)) (by rw [put_pl]; rfl)) ?_))))
    · show (0 : Int) < b
      have : ∀ b ∈ ([2, 3, 5, 7, 11, 13] : List Int), 0 < b := by decide
      exact this b hb
    · refine Es.is (es_while (KM.plN q - 1) (fun _ => [some (pA x), some (pI (q : Nat)), none]) (fun k => [oIns x (He.ga K "Field") [("many", pI (q : Nat)), ("prime", pI (KM.prN q : Nat)), ("places", pI ((1 + k : Nat) : Int))]]) rfl (by walk_at "sub")
        (fun k hk => Et.is (et_test (ee_I0 (f := fun i j => V.bl (decide (i < j))) (ee_call (ea_cons (ee_fldO (w1 := []) (w2 := []) (ee_var rfl) (cl_Field T) (na_Field_prime T) rfl) (ea_cons (ee_fldO (w1 := []) (w2 := []) (ee_var rfl) (cl_Field T) (na_Field_places T) rfl) ea_nil)) (tl_grown (n := 1 + k) ⟨by omega, by omega, by omega⟩)) (ee_var rfl))) (decide_eq_true (w1 k hk)))
        (fun k hk => ⟨_, Es.is (es_fldAug (i := ((1 + k : Nat) : Int)) (j := 1) (w1 := []) (w2 := []) (ee_var rfl) ee_c (cl_Field T) (na_Field_places T) rfl (by simp)) (by rw [put_pl2, show (((1 + k : Nat) : Int) + 1) = ((1 + (k + 1) : Nat) : Int) by omega]; rfl), by walk_at "sub"⟩)
        (Et.is (et_test (ee_I0 (f := fun i j => V.bl (decide (i < j))) (ee_call (ea_cons (ee_fldO (w1 := []) (w2 := []) (ee_var rfl) (cl_Field T) (na_Field_prime T) rfl) (ea_cons (ee_fldO (w1 := []) (w2 := []) (ee_var rfl) (cl_Field T) (na_Field_places T) rfl) ea_nil)) (tl_grown (n := 1 + (KM.plN q - 1)) ⟨by omega, by omega, by omega⟩)) (ee_var rfl))) (decide_eq_false w2))) ?_
      rw [show 1 + (KM.plN q - 1) = KM.plN q by omega]
      rfl)
  obtain ⟨u2, v2, b2⟩ := F.binds1 (ps := ["self", "size"]) 2 1 (by simp) rfl (fun _ _ _ _ _ _ _ us its h1 h2 => match us, its, h1, h2 with | [_, _], [_], _, _ => ⟨_, rfl, rfl⟩)
  exact ⟨fd, _, u2, G, gl_Field T, mk_Field T, b2, v2⟩
end
end J
/-! ## W16 -/
set_option Elab.async false
set_option linter.all false
set_option maxRecDepth 100000
set_option maxHeartbeats 600000
namespace J
open PySem L2 KT
local macro_rules | `(tactic| walk_at "sub") => `(tactic| repeat (first | exact Sub.nil | (with_reducible refine Sub.keep (Pr.le_refl _) ?_) | refine Sub.drop ?_ | refine Sub.keepV (by first | rfl | (simp; done) | omega) ?_ | refine Sub.keep (Pr.le_refl _) ?_))
section
variable {P : Program} {wd : World} {K : PySem.W.Frag} {mg : Str → Option Value} {base : Heap}
def nzI (l : List Int) : Bool := l.any (· != 0)
def pivI (l : List Int) : Option Nat := ((List.range l.length).filter fun k => !decide (l.getD k 0 = 0)).head?
theorem piv_nz {l : List Int} (h : nzI l = true) : ∃ p m, ((List.range l.length).filter fun k => !decide (l.getD k 0 = 0)) = p :: m ∧ pivI l = some p ∧ p < l.length ∧ l.getD p 0 ≠ 0 := by
  obtain ⟨x, hx, hx0⟩ := List.any_eq_true.mp h
  obtain ⟨k, hk, rfl⟩ := List.getElem_of_mem hx
  have hm : k ∈ (List.range l.length).filter fun k => !decide (l.getD k 0 = 0) := List.mem_filter.mpr ⟨List.mem_range.mpr hk, by
    rw [List.getD_eq_getElem?_getD, List.getElem?_eq_getElem hk]
    simpa using hx0⟩
  cases hc : (List.range l.length).filter fun k => !decide (l.getD k 0 = 0) with
  | nil => rw [hc] at hm; cases hm
  | cons p m =>
    have hp : p ∈ (List.range l.length).filter fun k => !decide (l.getD k 0 = 0) := by rw [hc]; exact List.mem_cons_self
    obtain ⟨h1, h2⟩ := List.mem_filter.mp hp
    exact ⟨p, m, rfl, by unfold pivI; rw [hc]; rfl, List.mem_range.mp h1, by simpa using h2⟩
def clrI (q : Nat) (f : List Int) (p : Nat) (g : List Int) : List Int := joinI q g (scaleI q f (KM.addI q 0 (g.getD p 0) (-1))) 1
def fstI (q : Nat) (f : List Int) (p : Nat) : List Int := scaleI q f (invI q (f.getD p 0))
def solS (q : Nat) (s : List (List Int) × List (List Int)) : List (List Int) × List (List Int) := match s.2 with
  | [] => s
  | f :: L => match pivI f with
    | none => s
    | some p => (s.1 ++ [fstI q f p], (L.map (clrI q (fstI q f p) p)).filter nzI)
def solK (q : Nat) (L : List (List Int)) : Nat → List (List Int) × List (List Int)
  | 0 => ([], L.filter nzI)
  | k + 1 => solS q (solK q L k)
def solvedI (q : Nat) (lot : List (List Int)) : List (List Int) := (solK q lot lot.length).1
theorem solK_stop {q : Nat} {L : List (List Int)} {i : Nat} (h : (solK q L i).2 = []) : ∀ j, (solK q L (i + j)).1 = (solK q L i).1 ∧ (solK q L (i + j)).2 = []
  | 0 => ⟨rfl, h⟩
  | j + 1 => by
    obtain ⟨h1, h2⟩ := solK_stop h j
    have e : solK q L (i + (j + 1)) = solS q (solK q L (i + j)) := rfl
    rw [e]
    unfold solS
    rw [h2]
    exact ⟨h1, h2⟩
def SolOk (q n : Nat) (s : List (List Int) × List (List Int)) : Prop := RowsOk q n s.2 ∧ ∀ r ∈ s.2, nzI r = true
theorem solS_ok {q n : Nat} (hq : q ∈ KM.sizes) {s : List (List Int) × List (List Int)} (h : SolOk q n s) : SolOk q n (solS q s) := by
  unfold solS
  split
  · exact h
  · rename_i f L hs
    split
    · exact h
    · rename_i p hp
      refine ⟨fun r hr => ?_, fun r hr => (List.mem_filter.mp hr).2⟩
      obtain ⟨g, hg, rfl⟩ := List.mem_map.mp (List.mem_filter.mp hr).1
      have hf := h.1 f (by rw [hs]; exact List.mem_cons_self)
      have hg1 := h.1 g (by rw [hs]; exact List.mem_cons_of_mem _ hg)
      obtain ⟨p', m, _, h2, h3, h4⟩ := piv_nz (h.2 f (by rw [hs]; exact List.mem_cons_self))
      rw [h2] at hp
      cases hp
      have hfp := hf.1.get (i := p) h3
      obtain ⟨_, i1, i2⟩ := tl_inv (K := []) hq (a := f.getD p 0) ⟨by omega, hfp.2⟩
      have hf' : In q (fstI q f p) ∧ (fstI q f p).length = n := ⟨In.scale hq hf.1 ⟨i1, i2⟩, by unfold fstI; rw [scale_len, hf.2]⟩
      have hgp := hg1.1.get (i := p) (by rw [hg1.2, ← hf.2]; exact h3)
      have hng := (KM.rng_at hq (a := 0) (b := g.getD p 0) ⟨by omega, by omega⟩ hgp).2.1
      exact ⟨In.join hq hg1.1 (In.scale hq hf'.1 hng) (.inl rfl), by unfold clrI; rw [join_len (by rw [scale_len, hg1.2, hf'.2]), hg1.2]⟩
theorem solK_ok {q n : Nat} (hq : q ∈ KM.sizes) {L : List (List Int)} (h : RowsOk q n L) : ∀ k, SolOk q n (solK q L k)
  | 0 => ⟨fun r hr => h r (List.mem_filter.mp hr).1, fun r hr => (List.mem_filter.mp hr).2⟩
  | k + 1 => solS_ok hq (solK_ok hq h k)
theorem solS_len {q : Nat} {s : List (List Int) × List (List Int)} : (solS q s).1.length ≤ s.1.length + 1 ∧ (solS q s).2.length ≤ s.2.length := by
  unfold solS
  split
  · exact ⟨by omega, Nat.le_refl _⟩
  · rename_i f L hs
    split
    · exact ⟨by omega, Nat.le_refl _⟩
    · refine ⟨by simp, ?_⟩
      rw [hs]
      exact Nat.le_trans (List.length_filter_le _ _) (by simp)
theorem solK_len {q : Nat} {L : List (List Int)} : ∀ k, (solK q L k).1.length ≤ k ∧ (solK q L k).2.length ≤ L.length
  | 0 => ⟨Nat.le_refl _, List.length_filter_le _ _⟩
  | k + 1 => by
    obtain ⟨h1, h2⟩ := solK_len (q := q) (L := L) k
    obtain ⟨h3, h4⟩ := solS_len (q := q) (s := solK q L k)
    exact ⟨by show (solS q _).1.length ≤ _; omega, by show (solS q _).2.length ≤ _; omega⟩
def sp_l_solved (K : PySem.W.Frag) : Sp := Pm (I := Nat × Nat × List (List Int)) (fun i => i.1 ∈ KM.sizes ∧ i.2.1 ≤ 500 ∧ i.2.2.length ≤ 100 ∧ RowsOk i.1 i.2.1 i.2.2) (fun i => [pI (i.1 : Nat), pRows K i.2.2]) (fun _ => []) (fun i => pRows K (solvedI i.1 i.2.2)) (fun _ => [])
theorem tl_l_solved {q n : Nat} {lot : List (List Int)} (h : q ∈ KM.sizes ∧ n ≤ 500 ∧ lot.length ≤ 100 ∧ RowsOk q n lot) : Tl (sp_l_solved K) [pI (q : Nat), pRows K lot] [] (pRows K (solvedI q lot)) [] := tl_pm (I := Nat × Nat × List (List Int)) (q, n, lot) h
abbrev C_l_solved (P : Program) (wd : World) (K : PySem.W.Frag) (mg : Str → Option Value) (base : Heap) : Prop := CallG P wd K mg base 6 "_law_solved" ["_law_big", "_law_lot"] [] (sp_l_solved K)
theorem ok_l_solved (T : Tx K mg) (c_l_scaled : C_l_scaled P wd K mg base) (c_l_share : C_l_share P wd K mg base) (c_l_summed : C_l_summed P wd K mg base) (c_l_less : C_l_less P wd K mg base) : C_l_solved P wd K mg base := by
  obtain ⟨fd, F⟩ := fd_l_solved T
  have G : FnOk P wd K mg base CX0 6 _ fd ["_law_big", "_law_lot"] (sp_l_solved K) := fn_pm F sc_l_solved (fun _ _ => rfl) (fun cdv A outer s H E hr i hi => by
    obtain ⟨q, n, lot⟩ := i
    obtain ⟨hq, hn, hl, hrow⟩ : q ∈ KM.sizes ∧ n ≤ 500 ∧ lot.length ≤ 100 ∧ RowsOk q n lot := hi
    refine ⟨_, (pss_cons (ps_setLc (i := 2) (own := [("_law_row_here", 8)]) (by rfl) sc_l_solved.nd rfl rfl (sw_true rfl rfl rfl (by kernel_rfl)) (KX.iL (K := K) (pv 1)) (blkOk_by (by kernel_rfl)) (fun _ _ _ _ _ => by exact (pg_name (i := 8) sc_l_solved.nd rfl (Or.inl rfl))) (fun _ _ _ _ _ => (pts_one (pt_val (pe_callB (KX.anyI (K := K) rfl) (by rfl) (fr_any T) (by decide +kernel) (pa_cons (pv 8) pa_nil))))) (fun _ _ _ _ _ => (pv 8)))
      (pss_cons (ps_set (i := 3) sc_l_solved.nd rfl (Or.inl rfl) (pe_lst pa_nil))
      (pss_cons (ps_for PassesOwn.never rfl (pi_range1 (by rfl) (fr_range T) (pa_cons (pe_callB (KX.len (K := K)) (by rfl) (fr_len T) PySem.boot_len (pa_cons (pv 1) pa_nil)) pa_nil)) (pg_name (i := 4) sc_l_solved.nd rfl (Or.inl rfl)) (pss_cons (ps_if (pt_cmpR (KX.eqD (K := K) hr.units) (pv 2) (pe_lst pa_nil) (nomark _)) (pss_one (ps_ret (pv 3))) pss_nil)
      (pss_cons (ps_set (i := 5) sc_l_solved.nd rfl (Or.inr rfl) (pe_ix (KX.ixL (K := K)) (pv 2) pe_int (fun _ _ => rfl)))
      (pss_cons (ps_set (i := 6) sc_l_solved.nd rfl (Or.inr rfl) (pe_ix (KX.ixL (K := K)) (pe_lc (own := [("_law_place", 9)]) (by rfl) sc_l_solved.nd (pi_range1 (by rfl) (fr_range T) (pa_cons (pe_callB (KX.len (K := K)) (by rfl) (fr_len T) PySem.boot_len (pa_cons (pv 5) pa_nil)) pa_nil)) (blkOk_by (by kernel_rfl)) (fun _ _ _ _ _ => by exact (pg_name (i := 9) sc_l_solved.nd rfl (Or.inl rfl))) (fun _ _ _ _ _ => (pts_one (pt_cmpR op_ne (pe_ix (KX.ixT (K := K)) (pv 5) (pv 9) (fun _ _ => rfl)) pe_int (nomark _)))) (fun _ _ _ _ _ => (pv 9))) pe_int (fun _ _ => rfl)))
      (pss_cons (ps_set (i := 5) sc_l_solved.nd rfl (Or.inr rfl) (pe_callG c_l_scaled hr (by rfl) (pa_cons (pv 0) (pa_cons (pv 5) (pa_cons (pe_callG c_l_share hr (by rfl) (pa_cons (pv 0) (pa_cons (pe_ix (KX.ixT (K := K)) (pv 5) (pv 6) (fun _ _ => rfl)) pa_nil))) pa_nil)))))
      (pss_cons (ps_expr (pe_bm PySem.F.plainAttrs_list PySem.F.slot_list_append PySem.F.type_list_append mt_append (pv 3) (pa_cons (pv 5) pa_nil)))
      (pss_cons (ps_setLc (i := 7) (own := [("_law_row_here", 8)]) (by rfl) sc_l_solved.nd rfl rfl (sw_true rfl rfl rfl (by kernel_rfl)) (KX.iL (K := K) (pe_slice (KX.slL (K := K)) (pv 2) (po_some pe_int) po_none)) (blkOk_by (by kernel_rfl)) (fun _ _ _ _ _ => by exact (pg_name (i := 8) sc_l_solved.nd rfl (Or.inl rfl))) (fun _ _ _ _ _ => pts_nil) (fun _ _ _ _ _ => (pe_callG c_l_summed hr (by rfl) (pa_cons (pv 0) (pa_cons (pv 8) (pa_cons (pe_callG c_l_scaled hr (by rfl) (pa_cons (pv 0) (pa_cons (pv 5) (pa_cons (pe_callG c_l_less hr (by rfl) (pa_cons (pv 0) (pa_cons pe_int (pa_cons (pe_ix (KX.ixT (K := K)) (pv 8) (pv 6) (fun _ _ => rfl)) pa_nil)))) pa_nil)))) pa_nil))))))
      (pss_one (ps_setLc (i := 2) (own := [("_law_row_here", 8)]) (by rfl) sc_l_solved.nd rfl rfl (sw_true rfl rfl rfl (by kernel_rfl)) (KX.iL (K := K) (pv 7)) (blkOk_by (by kernel_rfl)) (fun _ _ _ _ _ => by exact (pg_name (i := 8) sc_l_solved.nd rfl (Or.inl rfl))) (fun _ _ _ _ _ => (pts_one (pt_val (pe_callB (KX.anyI (K := K) rfl) (by rfl) (fr_any T) (by decide +kernel) (pa_cons (pv 8) pa_nil))))) (fun _ _ _ _ _ => (pv 8)))))))))))
      (pss_one (ps_ret (pv 3)))))), ?_⟩
    show Eb [some (pI (q : Nat)), some (pRows K lot), none, none, none, none, none, none, none, none] [] _ (pRows K (solvedI q lot)) []
    refine Er.eb (er_seq (ρ1 := [some (pI (q : Nat)), some (pRows K lot), some (pRows K (lot.filter nzI)), none, none, none, none, none, none, none]) (es_set (ee_lc (vs := [8]) lot (pRow K) nzI (pRow K) (ei_list (ee_var rfl)) (wp_name (by simp)) (by omega) (fun x hx => ⟨_, eg_name, et_B (ee_anyI (ea_cons (ee_var rfl) ea_nil)), fun _ => ee_var rfl⟩))) (er_newOwn ea_nil (by simp) (fun b => ?_)))
    refine er_forN lot.length (fun k => [some (pI (q : Nat)), some (pRows K lot), some (pRows K (solK q lot k).2), some (pA b), none, none, none, none, none, none]) (fun k => [oLst b ((solK q lot k).1.map (pRow K))]) rfl (by walk_at "sub") (ei_rng1 (n := lot.length) (ea_cons (ee_lenL (ea_cons (ee_var rfl) ea_nil) (by rw [List.length_map])) ea_nil) (by omega)) (fun k hk => ?_) ?_
    · obtain ⟨k1, k2⟩ := solK_ok hq hrow k
      obtain ⟨k3, k4⟩ := solK_len (q := q) (L := lot) k
      have hstop : (solK q lot k).2 = [] → (solK q lot k).1 = solvedI q lot := fun h => by
        have := (solK_stop h (lot.length - k)).1
        rw [show k + (lot.length - k) = lot.length by omega] at this
        exact this.symm
      have hsucc : solK q lot (k + 1) = solS q (solK q lot k) := rfl
      rw [hsucc]
      generalize solK q lot k = st at k1 k2 k3 k4 hstop
      obtain ⟨fd0, lf⟩ := st
      cases lf with
      | nil =>
        refine ⟨_, [some (pI (q : Nat)), some (pRows K lot), some (pRows K (solS q (fd0, [])).2), some (pA b), none, none, none, none, none, none], eg_name, esr_ifr (b := true) (et_test (ee_eqNil (l := []) (ee_var rfl) (ee_lst ea_nil (by simp)))) (fun _ => ?_) (fun z => by cases z), by walk_at "sub"⟩
        refine Er.freeze (i := 3) (w := []) (w2 := []) rfl (Er.is (er_ret (ee_var rfl)) (by rw [← hstop rfl]))
      | cons f L =>
        obtain ⟨p, m, hm, hp, hpl, hp0⟩ := piv_nz (k2 f List.mem_cons_self)
        have hf := k1 f List.mem_cons_self
        have hfp := hf.1.get (i := p) hpl
        obtain ⟨_, i1, i2⟩ := tl_inv (K := K) hq (a := f.getD p 0) ⟨by omega, hfp.2⟩
        have e0 : solS q (fd0, f :: L) = (fd0 ++ [fstI q f p], (L.map (clrI q (fstI q f p) p)).filter nzI) := by unfold solS; dsimp only; rw [hp]
        rw [e0]
        have hf' : In q (fstI q f p) ∧ (fstI q f p).length = n := ⟨In.scale hq hf.1 ⟨i1, i2⟩, by unfold fstI; rw [scale_len, hf.2]⟩
        simp only [List.length_cons] at k4
        refine ⟨_, [some (pI (q : Nat)), some (pRows K lot), some (pRows K ((L.map (clrI q (fstI q f p) p)).filter nzI)), some (pA b), some (pI (k : Nat)), some (pRow K (fstI q f p)), some (pI (p : Nat)), some (pRows K (L.map (clrI q (fstI q f p) p))), none, none], eg_name, esr_ifr (b := false) (et_test (ee_eqNil (l := f :: L) (ee_var rfl) (ee_lst ea_nil (by simp)))) (fun z => by cases z) (fun _ => ?_), by walk_at "sub"⟩
        refine es_seq (es_set (ee_ixL (n := 0) (P := pRow K f) (ee_var rfl) ee_c (ixN_eq (m := 0) rfl (by simp)) rfl)) (es_seq (es_set (ee_ixL (n := 0) (P := pI (p : Nat)) (ee_lc (vs := [9]) (List.range f.length) (fun k => pI (k : Nat)) (fun k => !decide (f.getD k 0 = 0)) (fun k => pI (k : Nat)) (ei_rng1 (n := f.length) (ea_cons (ee_lenT (ea_cons (ee_var rfl) ea_nil) (by rw [List.length_map])) ea_nil) (by omega)) (wp_name (by simp)) (by rw [List.length_range]; omega) (fun j hj => ?_)) ee_c (ixN_eq (m := 0) rfl (by rw [hm]; simp)) (by rw [hm]; rfl)))
          (es_seq (es_set (ee_call (ea_cons (ee_var rfl) (ea_cons (ee_var rfl) (ea_cons (ee_call (ea_cons (ee_var rfl) (ea_cons (ee_ixT (n := p) (P := pI (f.getD p 0)) (ee_var rfl) (ee_var rfl) (ixN_nat (by rw [List.length_map]; omega)) (getD_pI hpl)) ea_nil)) (tl_l_share ⟨hq, by omega, hfp.2⟩)) ea_nil))) (tl_l_scaled ⟨hq, hf.1, by omega, i1, i2⟩)))
          (es_seq (w1 := [oLst b ((fd0 ++ [fstI q f p]).map (pRow K))]) (Es.is (es_append (w := []) (w2 := []) (P := pRow K (fstI q f p)) rfl (ee_var rfl) (by rw [List.length_map]; omega)) (by rw [List.map_append]; rfl))
          (es_seq (es_set (Ev.is (ee_lcY (vs := [8]) L (pRow K) (fun g => pRow K (clrI q (fstI q f p) p g)) (ei_list (Ev.is (ee_slL (lo := some 1) (hi := none) (ee_var rfl) (eo_some ee_c) eo_none) ?_)) (wp_name (by simp)) (by omega) (fun g hg => ?_)) (show pLst (L.map fun g => pRow K (clrI q (fstI q f p) p g)) = pRows K (L.map (clrI q (fstI q f p) p)) by rw [pRows, List.map_map]; rfl)))
          (es_set (ee_lc (vs := [8]) (L.map (clrI q (fstI q f p) p)) (pRow K) nzI (pRow K) (ei_list (ee_var rfl)) (wp_name (by simp)) (by rw [List.length_map]; omega) (fun x hx => ⟨_, eg_name, et_B (ee_anyI (ea_cons (ee_var rfl) ea_nil)), fun _ => ee_var rfl⟩)))))))
        · have hj := List.mem_range.mp hj
          exact ⟨_, eg_name, et_test (ee_neI (ee_ixT (n := j) (P := pI (f.getD j 0)) (ee_var rfl) (ee_var rfl) (ixN_nat (by rw [List.length_map]; omega)) (getD_pI hj)) ee_c), fun _ => ee_var rfl⟩
        · show pLst (cutP (pRow K f :: L.map (pRow K)) (some 1) none) = pLst (L.map (pRow K))
          unfold cutP
          rw [HT.sIx_none, show HT.sIx (pRow K f :: L.map (pRow K)).length 0 (some 1) = min 1 (pRow K f :: L.map (pRow K)).length from HT.sIx_nat _ _ 1]
          simp only [List.length_cons, Nat.min_def]
          rw [if_pos (by omega)]
          simp only [List.drop_succ_cons, List.drop_zero, Nat.add_sub_cancel]
          rw [List.take_of_length_le (Nat.le_refl _)]
        · have hg1 := k1 g (List.mem_cons_of_mem _ hg)
          have hf2 := hf'.2
          have hg2 := hg1.2
          have hgp := hg1.1.get (i := p) (by omega)
          have hng := (KM.rng_at hq (a := 0) (b := g.getD p 0) ⟨by omega, by omega⟩ hgp).2.1
          exact ⟨_, eg_name, ee_call (ea_cons (ee_var rfl) (ea_cons (ee_var rfl) (ea_cons (ee_call (ea_cons (ee_var rfl) (ea_cons (ee_var rfl) (ea_cons (ee_call (ea_cons (ee_var rfl) (ea_cons ee_c (ea_cons (ee_ixT (n := p) (P := pI (g.getD p 0)) (ee_var rfl) (ee_var rfl) (ixN_nat (by rw [List.length_map]; omega)) (getD_pI (by omega))) ea_nil))) (tl_l_less ⟨hq, hgp⟩)) ea_nil))) (tl_l_scaled (l := fstI q f p) ⟨hq, hf'.1, by omega, hng⟩)) ea_nil))) (tl_l_summed (m := scaleI q (fstI q f p) (KM.addI q 0 (g.getD p 0) (-1))) ⟨hq, hg1.1, In.scale hq hf'.1 hng, by rw [scale_len]; omega, by omega⟩)⟩
    · exact Er.freeze (i := 3) (w := []) (w2 := []) rfl (er_ret (ee_var rfl))
)
  exact ⟨fd, _, [], G, gl_l_solved T, F.kp, F.bindsN (fun _ _ _ _ _ _ us hl => match us, hl with | [_, _], _ => rfl), .nil⟩
def sp_l_rank (K : PySem.W.Frag) : Sp := Pm (I := Nat × Nat × List (List Int)) (fun i => i.1 ∈ KM.sizes ∧ i.2.1 ≤ 500 ∧ i.2.2.length ≤ 100 ∧ RowsOk i.1 i.2.1 i.2.2) (fun i => [pI (i.1 : Nat), pRows K i.2.2]) (fun _ => []) (fun i => pI ((solvedI i.1 i.2.2).length : Nat)) (fun _ => [])
theorem tl_l_rank {q n : Nat} {lot : List (List Int)} (h : q ∈ KM.sizes ∧ n ≤ 500 ∧ lot.length ≤ 100 ∧ RowsOk q n lot) : Tl (sp_l_rank K) [pI (q : Nat), pRows K lot] [] (pI ((solvedI q lot).length : Nat)) [] := tl_pm (I := Nat × Nat × List (List Int)) (q, n, lot) h
abbrev C_l_rank (P : Program) (wd : World) (K : PySem.W.Frag) (mg : Str → Option Value) (base : Heap) : Prop := CallG P wd K mg base 7 "_law_rank" ["_law_big", "_law_lot"] [] (sp_l_rank K)
theorem ok_l_rank (T : Tx K mg) (c_l_solved : C_l_solved P wd K mg base) : C_l_rank P wd K mg base := by
  obtain ⟨fd, F⟩ := fd_l_rank T
  have G : FnOk P wd K mg base CX0 7 _ fd ["_law_big", "_law_lot"] (sp_l_rank K) := fn_pm F sc_l_rank (fun _ _ => rfl) (fun cdv A outer s H E hr i hi => by
    obtain ⟨q, n, lot⟩ := i
    have h : q ∈ KM.sizes ∧ n ≤ 500 ∧ lot.length ≤ 100 ∧ RowsOk q n lot := hi
    refine ⟨_, (pss_one (ps_ret (pe_callB (KX.len (K := K)) (by rfl) (fr_len T) PySem.boot_len (pa_cons (pe_callG c_l_solved hr (by rfl) (pa_cons (pv 0) (pa_cons (pv 1) pa_nil))) pa_nil)))), ?_⟩
    show Eb [some (pI (q : Nat)), some (pRows K lot)] [] _ (pI ((solvedI q lot).length : Nat)) []
    exact Er.eb (er_ret (ee_lenL (ps := (solvedI q lot).map (pRow K)) (ea_cons (ee_call (ea_cons (ee_var rfl) (ea_cons (ee_var rfl) ea_nil)) (tl_l_solved h)) ea_nil) (by rw [List.length_map])))
)
  exact ⟨fd, _, [], G, gl_l_rank T, F.kp, F.bindsN (fun _ _ _ _ _ _ us hl => match us, hl with | [_, _], _ => rfl), .nil⟩
def sp_l_in (K : PySem.W.Frag) : Sp := Pm (I := Nat × Nat × List (List Int) × List Int) (fun i => i.1 ∈ KM.sizes ∧ i.2.1 ≤ 500 ∧ i.2.2.1.length ≤ 90 ∧ RowsOk i.1 i.2.1 i.2.2.1 ∧ In i.1 i.2.2.2 ∧ i.2.2.2.length = i.2.1) (fun i => [pI (i.1 : Nat), pRows K i.2.2.1, pRow K i.2.2.2]) (fun _ => []) (fun i => pB (decide (((solvedI i.1 (i.2.2.1 ++ [i.2.2.2])).length : Int) = ((solvedI i.1 i.2.2.1).length : Int)))) (fun _ => [])
theorem tl_l_in {q n : Nat} {lot : List (List Int)} {r : List Int} (h : q ∈ KM.sizes ∧ n ≤ 500 ∧ lot.length ≤ 90 ∧ RowsOk q n lot ∧ In q r ∧ r.length = n) : Tl (sp_l_in K) [pI (q : Nat), pRows K lot, pRow K r] [] (pB (decide (((solvedI q (lot ++ [r])).length : Int) = ((solvedI q lot).length : Int)))) [] := tl_pm (I := Nat × Nat × List (List Int) × List Int) (q, n, lot, r) h
abbrev C_l_in (P : Program) (wd : World) (K : PySem.W.Frag) (mg : Str → Option Value) (base : Heap) : Prop := CallG P wd K mg base 8 "_law_in" ["_law_big", "_law_lot", "_law_row_here"] [] (sp_l_in K)
theorem ok_l_in (T : Tx K mg) (c_l_rank : C_l_rank P wd K mg base) : C_l_in P wd K mg base := by
  obtain ⟨fd, F⟩ := fd_l_in T
  have G : FnOk P wd K mg base CX0 8 _ fd ["_law_big", "_law_lot", "_law_row_here"] (sp_l_in K) := fn_pm F sc_l_in (fun _ _ => rfl) (fun cdv A outer s H E hr i hi => by
    obtain ⟨q, n, lot, r⟩ := i
    obtain ⟨hq, hn, hl, h1, h2⟩ : q ∈ KM.sizes ∧ n ≤ 500 ∧ lot.length ≤ 90 ∧ RowsOk q n lot ∧ In q r ∧ r.length = n := hi
    refine ⟨_, (pss_one (ps_ret (pe_cmpR op_eq (pe_callG c_l_rank hr (by rfl) (pa_cons (pv 0) (pa_cons (pe_op op_cat (pv 1) (pe_lst (pa_cons (pv 2) pa_nil))) pa_nil))) (pe_callG c_l_rank hr (by rfl) (pa_cons (pv 0) (pa_cons (pv 1) pa_nil))) (nomark _)))), ?_⟩
    show Eb [some (pI (q : Nat)), some (pRows K lot), some (pRow K r)] [] _ (pB (decide (((solvedI q (lot ++ [r])).length : Int) = ((solvedI q lot).length : Int)))) []
    exact Er.eb (er_ret (ee_eqI (ee_call (ea_cons (ee_var rfl) (ea_cons (Ev.is (ee_catL (ee_var rfl) (ee_lst (ea_cons (ee_var rfl) ea_nil) (by simp)) (by rw [List.length_map]; simp; omega)) (show pLst (lot.map (pRow K) ++ [pRow K r]) = pRows K (lot ++ [r]) by rw [pRows, List.map_append]; rfl)) ea_nil)) (tl_l_rank (n := n) ⟨hq, hn, by simp; omega, fun x hx => (List.mem_append.mp hx).elim (h1 x) (fun z => by rw [List.mem_singleton.mp z]; exact h2)⟩)) (ee_call (ea_cons (ee_var rfl) (ea_cons (ee_var rfl) ea_nil)) (tl_l_rank ⟨hq, hn, by omega, h1⟩))))
)
  exact ⟨fd, _, [], G, gl_l_in T, F.kp, F.bindsN (fun _ _ _ _ _ _ us hl => match us, hl with | [_, _, _], _ => rfl), .nil⟩
end
end J
/-! ## W17 -/
set_option Elab.async false
set_option linter.all false
set_option maxRecDepth 100000
set_option maxHeartbeats 600000
namespace J
open PySem L2 KT
local macro_rules | `(tactic| walk_at "sub") => `(tactic| repeat (first | exact Sub.nil | (with_reducible refine Sub.keep (Pr.le_refl _) ?_) | refine Sub.drop ?_ | refine Sub.keepV (by first | rfl | (simp; done) | omega) ?_ | refine Sub.keep (Pr.le_refl _) ?_))
section
variable {P : Program} {wd : World} {K : PySem.W.Frag} {mg : Str → Option Value} {base : Heap}
abbrev bagL (a : Addr) (cells : List Int) (z : Int × Int × Int) : Ow := oLst a [pLst (cells.map pI), pI z.1, pI z.2.1, pI z.2.2]
def BagOk (z : Int × Int × Int) : Prop := 0 ≤ z.1 ∧ 0 ≤ z.2.1 ∧ 0 ≤ z.2.2 ∧ z.2.2 < 2147483629
def oBag (a : Addr) (cells : List Int) : Ow := oEx (α := Int × Int × Int) a (bagL a cells) (fun _ => rfl) BagOk
abbrev pBel (t : Nat) : Pr := pEx fun n : { n : Nat // n < t } => pI (n.1 : Nat)
theorem bel_le {t : Nat} {x : Int} (ht : 0 < t) : (pI (x % (t : Int))).le (pBel t) := fun F v (h : v = _) => by
  have e1 := Int.emod_nonneg x (show (t : Int) ≠ 0 by omega)
  have e2 := Int.emod_lt_of_pos x (show (0 : Int) < t by omega)
  refine ⟨⟨(x % (t : Int)).toNat, by omega⟩, ?_⟩
  show v = V.int _
  rw [h]
  exact congrArg V.int (Int.toNat_of_nonneg e1).symm
def sp_l_pull (K : PySem.W.Frag) : Sp := Pm (I := Addr × List Int × Nat) (fun i => 0 < i.2.2 ∧ i.2.2 < 1000) (fun i => [pA i.1, pI (i.2.2 : Nat)]) (fun i => [oBag i.1 i.2.1]) (fun i => pBel i.2.2) (fun i => [oBag i.1 i.2.1])
theorem tl_l_pull {a : Addr} {cells : List Int} {t : Nat} (h : 0 < t ∧ t < 1000) : Tl (sp_l_pull K) [pA a, pI (t : Nat)] [oBag a cells] (pBel t) [oBag a cells] := tl_pm (I := Addr × List Int × Nat) (a, cells, t) h
abbrev C_l_pull (P : Program) (wd : World) (K : PySem.W.Frag) (mg : Str → Option Value) (base : Heap) : Prop := CallG P wd K mg base 1 "_law_pull" ["_law_bag_here", "_law_tally"] [] (sp_l_pull K)
theorem ok_l_pull (T : Tx K mg)  : C_l_pull P wd K mg base := by
  obtain ⟨fd, F⟩ := fd_l_pull T
  have G : FnOk P wd K mg base CX0 1 _ fd ["_law_bag_here", "_law_tally"] (sp_l_pull K) := fn_pm F sc_l_pull (fun _ _ => rfl) (fun cdv A outer s H E hr i hi => by
    obtain ⟨a, cells, t⟩ := i
    obtain ⟨h0, h1⟩ : 0 < t ∧ t < 1000 := hi
    refine ⟨_, (pss_cons (ps_if (pt_cmpR op_eq (pe_ix (KX.ixL (K := K)) (pv 0) pe_int (fun _ _ => rfl)) pe_int (nomark _)) (pss_cons (ps_asg (pe_op op_add (pe_ix (KX.ixL (K := K)) (pv 0) pe_int (fun _ _ => rfl)) pe_int) (pg_sub (pv 0) pe_int set_list))
      (pss_cons (ps_set (i := 2) sc_l_pull.nd rfl (Or.inl rfl) (pe_ifExp (pt_cmpR op_le (pe_ix (KX.ixL (K := K)) (pv 0) pe_int (fun _ _ => rfl)) (pe_callB (KX.len (K := K)) (by rfl) (fr_len T) PySem.boot_len (pa_cons (pe_ix (KX.ixL (K := K)) (pv 0) pe_int (fun _ _ => rfl)) pa_nil)) (nomark _)) (pe_ix (KX.ixL (K := K)) (pe_ix (KX.ixL (K := K)) (pv 0) pe_int (fun _ _ => rfl)) (pe_op op_sub (pe_ix (KX.ixL (K := K)) (pv 0) pe_int (fun _ _ => rfl)) pe_int) (fun _ _ => rfl)) pe_int))
      (pss_cons (ps_if (pt_cmpR op_lt (pe_callB call_abs (by rfl) (fr_abs T) (by decide +kernel) (pa_cons (pv 2) pa_nil)) (pe_op op_pow pe_int pe_int) (nomark _)) (pss_cons (ps_set (i := 3) sc_l_pull.nd rfl (Or.inl rfl) (pe_op op_add (pe_op op_mul (pe_ix (KX.ixL (K := K)) (pv 0) pe_int (fun _ _ => rfl)) pe_int) (pe_op op_mul (pe_op op_mod (pv 2) pe_int) pe_int)))
      (pss_cons (ps_set (i := 3) sc_l_pull.nd rfl (Or.inl rfl) (pe_op op_mod (pe_op op_add (pv 3) (pe_op op_mul (pe_ix (KX.ixL (K := K)) (pv 0) pe_int (fun _ _ => rfl)) pe_int)) pe_int))
      (pss_cons (ps_asg (pe_op op_mod (pe_op op_add (pe_op op_add (pe_op op_mul (pv 3) (pv 3)) (pe_ix (KX.ixL (K := K)) (pv 0) pe_int (fun _ _ => rfl))) pe_int) pe_int) (pg_sub (pv 0) pe_int set_list))
      (pss_one (ps_ret (pe_op op_mod (pe_op op_add (pe_op op_fdiv (pe_ix (KX.ixL (K := K)) (pv 0) pe_int (fun _ _ => rfl)) pe_int) (pe_op op_mul (pe_op op_mod (pe_ix (KX.ixL (K := K)) (pv 0) pe_int (fun _ _ => rfl)) pe_int) pe_int)) (pv 1))))))) pss_nil)
      (pss_one (ps_asg (pe_callB call_abs (by rfl) (fr_abs T) (by decide +kernel) (pa_cons (pv 2) pa_nil)) (pg_sub (pv 0) pe_int set_list)))))) pss_nil)
      (pss_cons (ps_set (i := 4) sc_l_pull.nd rfl (Or.inl rfl) (pe_op op_mod (pe_ix (KX.ixL (K := K)) (pv 0) pe_int (fun _ _ => rfl)) (pv 1)))
      (pss_cons (ps_asg (pe_op op_fdiv (pe_ix (KX.ixL (K := K)) (pv 0) pe_int (fun _ _ => rfl)) (pv 1)) (pg_sub (pv 0) pe_int set_list))
      (pss_one (ps_ret (pv 4)))))), ?_⟩
    show Eb [some (pA a), some (pI (t : Nat)), none, none, none] [oBag a cells] _ (pBel t) [oBag a cells]
    refine Er.eb (Er.open_ (w1 := []) (w2 := []) (fun z hz => ?_))
    obtain ⟨z1, z2, z3⟩ := z
    obtain ⟨b1, b2, b3, b4⟩ := hz
    simp only at b1 b2 b3 b4
    have fin : ∀ (s : Int × Int × Int), BagOk s → ∀ (ρ4 : Option Pr), Er [some (pA a), some (pI (t : Nat)), ρ4, none, none] [bagL a cells s] (tSeq (tAsg (tOp (rI (fun _ j => 0 < j) fun i j => V.int (i % j)) (tOp (rIxL K) (tVar 0) (tC (.int 2))) (tVar 1)) (gName 4)) (tSeq (tAsg (tOp (rI CDiv fun i j => V.int (i / j)) (tOp (rIxL K) (tVar 0) (tC (.int 2))) (tVar 1)) (gSub (tVar 0) (tC (.int 2)) rSetL)) (tRet (tVar 4)))) (pBel t) [oBag a cells] := fun s hs ρ4 => by
      obtain ⟨s1, s2, s3⟩ := s
      obtain ⟨c1, c2, c3, c4⟩ := hs
      simp only at c1 c2 c3 c4
      refine Er.le (Er.ow_le (w1 := []) (w2 := []) (er_seq (es_set (ee_I (ee_ixO (w := []) (w2 := []) (n := 2) (P := pI s2) (ee_var rfl) ee_c (ixN_eq (m := 2) rfl (by simp)) rfl) (ee_var rfl) (show (0 : Int) < t by omega))) (er_seq (es_setO (w := []) (w2 := []) (n := 2) (ee_I (ee_ixO (w := []) (w2 := []) (n := 2) (P := pI s2) (ee_var rfl) ee_c (ixN_eq (m := 2) rfl (by simp)) rfl) (ee_var rfl) ⟨by omega, by omega⟩) (ee_var rfl) ee_c (ixN_eq (m := 2) rfl (by simp))) (er_ret (ee_var rfl)))) (oEx_le (f := bagL a cells) (s1, s2 / t, s3) ⟨c1, Int.ediv_nonneg c2 (by omega), c3, c4⟩)) (bel_le h0)
    refine er_seqR (ρ1 := [some (pA a), some (pI (t : Nat)), none, none, none]) (w1 := [oBag a cells]) (esr_if (b := decide (z2 = 0)) (et_test (ee_eqI (ee_ixO (w := []) (w2 := []) (n := 2) (P := pI z2) (ee_var rfl) ee_c (ixN_eq (m := 2) rfl (by simp)) rfl) ee_c)) (fun hb => ?_) (fun hb => ?_)) (Er.open_ (w1 := []) (w2 := []) (fun s hs => fin s hs none))
    · have hb := of_decide_eq_true hb
      have hcell : ∃ c : Int, Ee [some (pA a), some (pI (t : Nat)), none, none, none] [bagL a cells (z1 + 1, z2, z3)] (tIf (tTest (tOp (rI0 fun i j => V.bl (decide (i ≤ j))) (tOp (rIxL K) (tVar 0) (tC (.int 1))) (tCB (fun xs H Q => ∃ p ys, xs = [.ref p] ∧ (SqL K H p ys ∨ SqT K H p ys) ∧ Q (.int ys.length) H) (tCons (tOp (rIxL K) (tVar 0) (tC (.int 0))) tNil)))) (tOp (rIxL K) (tOp (rIxL K) (tVar 0) (tC (.int 0))) (tOp (rI0 fun i j => V.int (i - j)) (tOp (rIxL K) (tVar 0) (tC (.int 1))) (tC (.int 1)))) (tC (.int 0))) (pI c) := by
        have r0 : Ee [some (pA a), some (pI (t : Nat)), none, none, none] [bagL a cells (z1 + 1, z2, z3)] (tOp (rIxL K) (tVar 0) (tC (.int 0))) (pLst (cells.map pI)) := ee_ixO (w := []) (w2 := []) (n := 0) (ee_var rfl) ee_c (ixN_eq (m := 0) rfl (by simp)) rfl
        have r1 : Ee [some (pA a), some (pI (t : Nat)), none, none, none] [bagL a cells (z1 + 1, z2, z3)] (tOp (rIxL K) (tVar 0) (tC (.int 1))) (pI (z1 + 1)) := ee_ixO (w := []) (w2 := []) (n := 1) (ee_var rfl) ee_c (ixN_eq (m := 1) rfl (by simp)) rfl
        refine ⟨if z1 + 1 ≤ (cells.length : Int) then cells.getD z1.toNat 0 else 0, ee_if (b := decide (z1 + 1 ≤ (cells.length : Int))) (et_test (ee_I0 (f := fun i j => V.bl (decide (i ≤ j))) r1 (ee_lenL (ea_cons r0 ea_nil) (by rw [List.length_map])))) (fun h => ?_) (fun h => ?_)⟩
        · have h := of_decide_eq_true h
          rw [if_pos h]
          exact ee_ixL (n := z1.toNat) r0 (ee_I0 (f := fun i j => V.int (i - j)) r1 ee_c) (ixN_eq (by omega) (by rw [List.length_map]; omega)) (getD_pI (by omega))
        · rw [if_neg (of_decide_eq_false h)]
          exact ee_c
      obtain ⟨c, hc⟩ := hcell
      refine esr_seq (w1 := [bagL a cells (z1 + 1, z2, z3)]) (es_setO (w := []) (w2 := []) (n := 1) (ee_I0 (ee_ixO (w := []) (w2 := []) (n := 1) (P := pI z1) (ee_var rfl) ee_c (ixN_eq (m := 1) rfl (by simp)) rfl) ee_c) (ee_var rfl) ee_c (ixN_eq (m := 1) rfl (by simp))) (esr_seq (es_set hc) ?_)
      refine esr_seqR (ρ1 := [some (pA a), some (pI (t : Nat)), some (pI c), none, none]) (w1 := [bagL a cells (z1 + 1, z2, z3)]) (esr_if (b := decide ((if c < 0 then -c else c) < (10 : Int) ^ (18 : Int).toNat)) (et_test (ee_I0 (f := fun i j => V.bl (decide (i < j))) (ee_abs (ea_cons (ee_var rfl) ea_nil)) (ee_I (f := fun i j => V.int (i ^ j.toNat)) ee_c ee_c ⟨by omega, by omega, by decide⟩))) (fun _ => Er.esr ?_) (fun _ => Es.esr es_next)) (Es.esr ?_)
      · have ix3 : ∀ {ρ : En}, ρ[0]? = some (some (pA a)) → Ee ρ [bagL a cells (z1 + 1, z2, z3)] (tOp (rIxL K) (tVar 0) (tC (.int 3))) (pI z3) := fun h => ee_ixO (w := []) (w2 := []) (n := 3) (ee_var h) ee_c (ixN_eq (m := 3) rfl (by simp)) rfl
        have ix1 : ∀ {ρ : En}, ρ[0]? = some (some (pA a)) → Ee ρ [bagL a cells (z1 + 1, z2, z3)] (tOp (rIxL K) (tVar 0) (tC (.int 1))) (pI (z1 + 1)) := fun h => ee_ixO (w := []) (w2 := []) (n := 1) (ee_var h) ee_c (ixN_eq (m := 1) rfl (by simp)) rfl
        refine er_seq (es_set (ee_I0 (ee_I (ix3 rfl) ee_c (.inr ⟨by omega, by omega⟩)) (ee_I (ee_I (ee_var rfl) ee_c (show (0 : Int) < 2147483587 by omega)) ee_c (.inr ⟨by omega, by omega⟩)))) (er_seq (es_set (ee_I (ee_I0 (ee_var rfl) (ee_I (ix1 rfl) ee_c (.inr ⟨by omega, by omega⟩))) ee_c (show (0 : Int) < 2147483629 by omega))) ?_)
        generalize hgr : (z3 * 48271 + c % 2147483587 * 40503 + (z1 + 1) * 6367) % 2147483629 = gr
        have g1 : 0 ≤ gr ∧ gr < 2147483629 := by omega
        generalize hnw : (gr * gr + z3 + 12345) % 2147483587 = nw
        have n1 : 0 ≤ nw ∧ nw < 2147483587 := by omega
        refine er_seq (w1 := [bagL a cells (z1 + 1, z2, nw)]) (Es.is (es_setO (w := []) (w2 := []) (n := 3) (Ev.is (ee_I (ee_I0 (ee_I0 (ee_I (ee_var rfl) (ee_var rfl) (.inl ⟨by omega, by omega⟩)) (ix3 rfl)) ee_c) ee_c (show (0 : Int) < 2147483587 by omega)) (congrArg pI hnw)) (ee_var rfl) ee_c (ixN_eq (m := 3) rfl (by simp))) rfl) ?_
        have jx3 : ∀ {ρ : En}, ρ[0]? = some (some (pA a)) → Ee ρ [bagL a cells (z1 + 1, z2, nw)] (tOp (rIxL K) (tVar 0) (tC (.int 3))) (pI nw) := fun h => ee_ixO (w := []) (w2 := []) (n := 3) (ee_var h) ee_c (ixN_eq (m := 3) rfl (by simp)) rfl
        exact Er.le (Er.ow_le (w1 := []) (w2 := []) (er_ret (ee_I (ee_I0 (ee_I (jx3 rfl) ee_c ⟨by omega, by omega⟩) (ee_I (ee_I (jx3 rfl) ee_c (show (0 : Int) < 8191 by omega)) ee_c (.inr ⟨by omega, by omega⟩))) (ee_var rfl) (show (0 : Int) < t by omega))) (oEx_le (f := bagL a cells) (z1 + 1, z2, nw) ⟨by show 0 ≤ z1 + 1; omega, b2, n1.1, by show nw < _; omega⟩)) (bel_le h0)
      · refine Es.ow_le (w1 := []) (w2 := []) (Es.sub (es_setO (w := []) (w2 := []) (n := 2) (ee_abs (ea_cons (ee_var rfl) ea_nil)) (ee_var rfl) ee_c (ixN_eq (m := 2) rfl (by simp))) (by walk_at "sub")) (oEx_le (f := bagL a cells) (z1 + 1, (if c < 0 then -c else c), z3) ⟨by show 0 ≤ z1 + 1; omega, by show 0 ≤ (if c < 0 then -c else c); split <;> omega, b3, b4⟩)
    · exact Es.esr (Es.ow_le (w1 := []) (w2 := []) es_next (oEx_le (f := bagL a cells) (z1, z2, z3) ⟨b1, b2, b3, b4⟩))
)
  exact ⟨fd, _, [], G, gl_l_pull T, F.kp, F.bindsN (fun _ _ _ _ _ _ us hl => match us, hl with | [_, _], _ => rfl), .nil⟩
end
end J
/-! ## W18 -/
set_option Elab.async false
set_option linter.all false
set_option maxRecDepth 100000
set_option maxHeartbeats 600000
namespace J
open PySem L2 KT
local macro_rules | `(tactic| walk_at "sub") => `(tactic| repeat (first | exact Sub.nil | (with_reducible refine Sub.keep (Pr.le_refl _) ?_) | refine Sub.drop ?_ | refine Sub.keepV (by first | rfl | (simp; done) | omega) ?_ | refine Sub.keep (Pr.le_refl _) ?_))
section
variable {P : Program} {wd : World} {K : PySem.W.Frag} {mg : Str → Option Value} {base : Heap}
/-- a row of n of the field -/
abbrev pRowN (K : PySem.W.Frag) (q n : Nat) : Pr := pEx fun l : { l : List Int // In q l ∧ l.length = n } => pRow K l.1
theorem all2_bel {α : Type} {q : Nat} {F : Hp} : ∀ {l : List α} {vs : List V}, All2 F (l.map fun _ => pBel q) vs → ∃ xs : List Int, xs.length = l.length ∧ In q xs ∧ vs = xs.map V.int
  | [], _, .nil => ⟨[], rfl, (fun x hx => (List.not_mem_nil hx).elim), rfl⟩
  | _ :: l, _, .cons h t => by
    obtain ⟨⟨n, hn⟩, h⟩ := h
    have h : _ = V.int (n : Nat) := h
    obtain ⟨xs, h1, h2, rfl⟩ := all2_bel (l := l) t
    refine ⟨(n : Int) :: xs, by simp [h1], fun x hx => ?_, by rw [h]; rfl⟩
    rcases List.mem_cons.mp hx with rfl | hx
    · omega
    · exact h2 x hx
theorem tup_bel {q n : Nat} : (pTup K ((List.range n).map fun _ => pBel q)).le (pRowN K q n) := fun F v ⟨a, vs, h1, h2, h3⟩ => by
  obtain ⟨xs, k1, k2, rfl⟩ := all2_bel h3
  exact ⟨⟨xs, k2, by rw [k1, List.length_range]⟩, a, _, h1, h2, all2_pI xs⟩
theorem ee_pull {ρ : En} {a : Addr} {cells : List Int} {t : Nat} {ta : TA} (h : Ea ρ [oBag a cells] ta [pA a, pI (t : Nat)]) (ht : 0 < t ∧ t < 1000) : Ee ρ [oBag a cells] (tCall (sp_l_pull K) [] E0 ta) (pBel t) :=
  ev_call (w := [oBag a cells]) (w' := [oBag a cells]) (r := []) (ds := []) h (fun _ => .nil) (tl_l_pull ht)
theorem ee_addEx {α : Type} {ρ : En} {w : List Ow} {ta tb : TE} {i : Int} {f : α → Int} (ha : Ee ρ w ta (pI i)) (hb : Ee ρ w tb (pEx fun x => pI (f x))) : Ee ρ w (tOp (rI0 fun i j => V.int (i + j)) ta tb) (pEx fun x => pI (i + f x)) :=
  ee_op ha hb fun x y F H Q hx hy g k => by
    obtain ⟨z, hz⟩ := hy
    exact ⟨i, f z, hx, hz, k _ F H (Step.refl g) ⟨z, rfl⟩⟩
theorem row1_le {q n i : Nat} (hq : q ∈ KM.sizes) (hi : i < n) : (pTup K ((List.replicate i (pI 0) ++ [pEx fun x : { m : Nat // m < q - 1 } => pI (1 + (x.1 : Nat))]) ++ List.replicate (n - i - 1) (pI 0))).le (pRowN K q n) := fun F v ⟨a, vs, h1, h2, h3⟩ => by
  have p6 := (KM.sizes_pr q hq).2.2.2.2.2.1
  have split : ∀ {ps qs : List Pr} {vs : List V}, All2 F (ps ++ qs) vs → ∃ xs ys, vs = xs ++ ys ∧ All2 F ps xs ∧ All2 F qs ys := by
    intro ps
    induction ps with
    | nil => intro qs vs h; exact ⟨[], vs, rfl, .nil, h⟩
    | cons p ps ih =>
      intro qs vs h
      cases h with
      | cons a b =>
        obtain ⟨xs, ys, rfl, k1, k2⟩ := ih b
        exact ⟨_ :: xs, ys, rfl, .cons a k1, k2⟩
  obtain ⟨xs, ys, rfl, k1, k2⟩ := split h3
  obtain ⟨us, ws, rfl, k3, k4⟩ := split k1
  cases k4 with
  | cons b c =>
    cases c
    obtain ⟨⟨m, hm⟩, hb⟩ := b
    have hb : _ = V.int (1 + (m : Nat)) := hb
    subst hb
    have rep : ∀ (k : Nat) {us : List V}, All2 F (List.replicate k (pI 0)) us → us = (List.replicate k (0 : Int)).map V.int := by
      intro k
      induction k with
      | zero => intro us h; cases h; rfl
      | succ k ih =>
        intro us h
        rw [List.replicate_succ] at h
        cases h with
        | cons a b =>
          have a : _ = V.int 0 := a
          rw [a, ih b]; rfl
    have e1 := rep _ k3
    have e2 := rep _ k2
    subst e1 e2
    refine ⟨⟨List.replicate i 0 ++ [1 + (m : Int)] ++ List.replicate (n - i - 1) 0, ?_, by simp; omega⟩, a, _, h1, by simpa using h2, ?_⟩
    · refine In.app (In.app (In.rep hq) fun x hx => ?_) (In.rep hq)
      have hx : x = 1 + (m : Int) := by simpa using hx
      omega
    · have := all2_pI (F := F) (List.replicate i 0 ++ [1 + (m : Int)] ++ List.replicate (n - i - 1) 0)
      simpa using this
def sp_l_row (K : PySem.W.Frag) : Sp := Pm (I := Addr × List Int × Nat × Nat) (fun i => i.2.2.1 ∈ KM.sizes ∧ 0 < i.2.2.2 ∧ i.2.2.2 ≤ 500) (fun i => [pA i.1, pI (i.2.2.1 : Nat), pI (i.2.2.2 : Nat)]) (fun i => [oBag i.1 i.2.1]) (fun i => pRowN K i.2.2.1 i.2.2.2) (fun i => [oBag i.1 i.2.1])
theorem tl_l_row {a : Addr} {cells : List Int} {q n : Nat} (h : q ∈ KM.sizes ∧ 0 < n ∧ n ≤ 500) : Tl (sp_l_row K) [pA a, pI (q : Nat), pI (n : Nat)] [oBag a cells] (pRowN K q n) [oBag a cells] := tl_pm (I := Addr × List Int × Nat × Nat) (a, cells, q, n) h
abbrev C_l_row (P : Program) (wd : World) (K : PySem.W.Frag) (mg : Str → Option Value) (base : Heap) : Prop := CallG P wd K mg base 2 "_law_row" ["_law_bag_here", "_law_big", "_law_broad"] [] (sp_l_row K)
theorem ok_l_row (T : Tx K mg) (c_l_pull : C_l_pull P wd K mg base) : C_l_row P wd K mg base := by
  obtain ⟨fd, F⟩ := fd_l_row T
  have G : FnOk P wd K mg base CX0 2 _ fd ["_law_bag_here", "_law_big", "_law_broad"] (sp_l_row K) := fn_pm F sc_l_row (fun _ _ => rfl) (fun cdv A outer s H E hr i hi => by
    obtain ⟨a, cells, q, n⟩ := i
    obtain ⟨hq, h0, h1⟩ : q ∈ KM.sizes ∧ 0 < n ∧ n ≤ 500 := hi
    obtain ⟨_, _, _, _, p5, p6, _⟩ := KM.sizes_pr q hq
    refine ⟨_, (pss_cons (ps_set (i := 3) sc_l_row.nd rfl (Or.inl rfl) (pe_callG c_l_pull hr (by rfl) (pa_cons (pv 0) (pa_cons pe_int pa_nil))))
      (pss_cons (ps_if (pt_cmpR op_eq (pv 3) pe_int (nomark _)) (pss_one (ps_ret (pe_op (KX.repT (K := K)) (pe_tup (pa_cons pe_int pa_nil)) (pv 2)))) pss_nil)
      (pss_cons (ps_if (pt_cmpR op_eq (pv 3) pe_int (nomark _)) (pss_cons (ps_set (i := 4) sc_l_row.nd rfl (Or.inl rfl) (pe_callG c_l_pull hr (by rfl) (pa_cons (pv 0) (pa_cons (pv 2) pa_nil))))
      (pss_one (ps_ret (pe_op (KX.catT (K := K)) (pe_op (KX.catT (K := K)) (pe_op (KX.repT (K := K)) (pe_tup (pa_cons pe_int pa_nil)) (pv 4)) (pe_tup (pa_cons (pe_op op_add pe_int (pe_callG c_l_pull hr (by rfl) (pa_cons (pv 0) (pa_cons (pe_op op_sub (pv 1) pe_int) pa_nil)))) pa_nil))) (pe_op (KX.repT (K := K)) (pe_tup (pa_cons pe_int pa_nil)) (pe_op op_sub (pe_op op_sub (pv 2) (pv 4)) pe_int)))))) pss_nil)
      (pss_one (ps_ret (pe_callTy (KX.tupOf (K := K)) (by rfl) (fr_tuple T) (by decide +kernel) (pa_cons (pe_lc (own := [("_law_at", 4)]) (by rfl) sc_l_row.nd (pi_range1 (by rfl) (fr_range T) (pa_cons (pv 2) pa_nil)) (blkOk_by (by kernel_rfl)) (fun _ _ _ _ _ => by exact (pg_name (i := 4) sc_l_row.nd rfl (Or.inl rfl))) (fun _ _ _ _ _ => pts_nil) (fun _ _ _ _ _ => (pe_callG c_l_pull hr (by rfl) (pa_cons (pv 0) (pa_cons (pv 1) pa_nil))))) pa_nil))))))), ?_⟩
    show Eb [some (pA a), some (pI (q : Nat)), some (pI (n : Nat)), none, none] [oBag a cells] _ (pRowN K q n) [oBag a cells]
    refine Er.eb (er_ex (ee_pull (t := 6) (ea_cons (ee_var rfl) (ea_cons ee_c ea_nil)) ⟨by omega, by omega⟩) (fun x => ?_))
    refine er_ifr (b := decide (((x.1 : Nat) : Int) = 0)) (et_test (ee_eqI (ee_var rfl) ee_c)) (fun _ => ?_) (fun _ => er_ifr (b := decide (((x.1 : Nat) : Int) = 1)) (et_test (ee_eqI (ee_var rfl) ee_c)) (fun _ => ?_) (fun _ => ?_))
    · exact Er.le (er_ret (ee_repT1 (n := n) (ee_tup (ea_cons ee_c ea_nil) (by simp)) (ee_var rfl) rfl (by omega))) (fun F v h => ⟨⟨List.replicate n 0, In.rep hq, by simp⟩, by show (pTup K ((List.replicate n 0).map pI)).p F v; rw [List.map_replicate]; exact h⟩)
    · refine er_ex (ee_pull (t := n) (ea_cons (ee_var rfl) (ea_cons (ee_var rfl) ea_nil)) ⟨h0, by omega⟩) (fun y => ?_)
      obtain ⟨k, hk⟩ := y
      exact Er.le (er_ret (ee_catT (ee_catT (ee_repT1 (n := k) (ee_tup (ea_cons ee_c ea_nil) (by simp)) (ee_var rfl) rfl (by omega)) (ee_tup (ea_cons (ee_addEx ee_c (ee_pull (t := q - 1) (ea_cons (ee_var rfl) (ea_cons (Ev.is (ee_I0 (ee_var rfl) ee_c) (congrArg pI (show (q : Int) - 1 = ((q - 1 : Nat) : Int) by omega))) ea_nil)) ⟨by omega, by omega⟩)) ea_nil) (by simp)) (by simp; omega)) (ee_repT1 (n := n - k - 1) (ee_tup (ea_cons ee_c ea_nil) (by simp)) (Ev.is (ee_I0 (ee_I0 (ee_var rfl) (ee_var rfl)) ee_c) (congrArg pI (show (n : Int) - (k : Nat) - 1 = ((n - k - 1 : Nat) : Int) by omega))) rfl (by omega)) (by simp; omega))) (row1_le hq hk)
    · exact Er.le (er_ret (ee_tupOf (ea_cons (ee_lcY (vs := [4]) (List.range n) (fun k => pI (k : Nat)) (fun _ => pBel q) (ei_rng1 (n := n) (ea_cons (ee_var rfl) ea_nil) (by omega)) (wp_name (by simp)) (by rw [List.length_range]; omega) (fun k hk => ⟨_, eg_name, ee_pull (t := q) (ea_cons (ee_var rfl) (ea_cons (ee_var rfl) ea_nil)) ⟨by omega, by omega⟩⟩)) ea_nil))) tup_bel
)
  exact ⟨fd, _, [], G, gl_l_row T, F.kp, F.bindsN (fun _ _ _ _ _ _ us hl => match us, hl with | [_, _, _], _ => rfl), .nil⟩
end
end J
/-! ## W19 -/
set_option Elab.async false
set_option linter.all false
set_option maxRecDepth 100000
set_option maxHeartbeats 600000
namespace J
open PySem L2 KT
local macro_rules | `(tactic| walk_at "sub") => `(tactic| repeat (first | exact Sub.nil | (with_reducible refine Sub.keep (Pr.le_refl _) ?_) | refine Sub.drop ?_ | refine Sub.keepV (by first | rfl | (simp; done) | omega) ?_ | refine Sub.keep (Pr.le_refl _) ?_))
section
variable {P : Program} {wd : World} {K : PySem.W.Frag} {mg : Str → Option Value} {base : Heap}
/-- a place of a tuple or a list, the place being any below its length -/
theorem ee_ixTx {ρ : En} {w : List Ow} {ta tb : TE} {ps : List Pr} {n : Nat} (ha : Ee ρ w ta (pTup K ps)) (hb : Ee ρ w tb (pBel n)) (hl : n = ps.length) : Ee ρ w (tOp (rIxT K) ta tb) (pEx fun x : { p : Pr // p ∈ ps } => x.1) :=
  ee_op ha hb fun x y F H Q hx hy g k => by
    obtain ⟨a, vs, h1, h2, h3⟩ := hx
    obtain ⟨⟨m, hm⟩, hy⟩ := hy
    have hm2 : m < ps.length := by omega
    obtain ⟨v, h4, h5⟩ := h3.get (List.getElem?_eq_getElem hm2)
    exact ⟨a, vs, (m : Nat), v, h1, hy, g.ex.t h2, by rw [atI, ← h3.len, ixN_nat hm2]; exact h4, k v F H (Step.refl g) ⟨⟨_, List.getElem_mem hm2⟩, h5⟩⟩
theorem ee_ixLx {ρ : En} {w : List Ow} {ta tb : TE} {ps : List Pr} {n : Nat} (ha : Ee ρ w ta (pLst ps)) (hb : Ee ρ w tb (pBel n)) (hl : n = ps.length) : Ee ρ w (tOp (rIxL K) ta tb) (pEx fun x : { p : Pr // p ∈ ps } => x.1) :=
  ee_op ha hb fun x y F H Q hx hy g k => by
    obtain ⟨a, vs, h1, h2, h3⟩ := hx
    obtain ⟨⟨m, hm⟩, hy⟩ := hy
    have hm2 : m < ps.length := by omega
    obtain ⟨v, h4, h5⟩ := h3.get (List.getElem?_eq_getElem hm2)
    exact ⟨a, vs, (m : Nat), v, h1, hy, SqL.of (g.ex _ _ h2), by rw [atI, ← h3.len, ixN_nat hm2]; exact h4, k v F H (Step.refl g) ⟨⟨_, List.getElem_mem hm2⟩, h5⟩⟩
/-- one of the sizes -/
abbrev pSz : Pr := pEx fun q : { q : Nat // q ∈ KM.sizes } => pI (q.1 : Nat)
theorem sz_le : (pEx fun x : { p : Pr // p ∈ ([pI 2, pI 3, pI 4, pI 5, pI 7, pI 8, pI 9, pI 11, pI 13, pI 16] : List Pr) } => x.1).le pSz := fun F v ⟨⟨p, hp⟩, h⟩ => by
  simp only [List.mem_cons, List.not_mem_nil, or_false] at hp
  have mk : ∀ q : Nat, q ∈ KM.sizes → p = pI (q : Nat) → pSz.p F v := fun q hq e => ⟨⟨q, hq⟩, by subst e; exact h⟩
  rcases hp with e | e | e | e | e | e | e | e | e | e
  · exact mk 2 (by decide) e
  · exact mk 3 (by decide) e
  · exact mk 4 (by decide) e
  · exact mk 5 (by decide) e
  · exact mk 7 (by decide) e
  · exact mk 8 (by decide) e
  · exact mk 9 (by decide) e
  · exact mk 11 (by decide) e
  · exact mk 13 (by decide) e
  · exact mk 16 (by decide) e
def sp_l_size (K : PySem.W.Frag) : Sp := Pm (I := Addr × List Int) (fun _ => True) (fun i => [pA i.1]) (fun i => [oBag i.1 i.2]) (fun _ => pSz) (fun i => [oBag i.1 i.2])
theorem tl_l_size {a : Addr} {cells : List Int} : Tl (sp_l_size K) [pA a] [oBag a cells] pSz [oBag a cells] := tl_pm (I := Addr × List Int) (a, cells) trivial
abbrev C_l_size (P : Program) (wd : World) (K : PySem.W.Frag) (mg : Str → Option Value) (base : Heap) : Prop := CallG P wd K mg base 2 "_law_size" ["_law_bag_here"] [] (sp_l_size K)
theorem ok_l_size (T : Tx K mg) (c_l_pull : C_l_pull P wd K mg base) : C_l_size P wd K mg base := by
  obtain ⟨fd, F⟩ := fd_l_size T
  have G : FnOk P wd K mg base CX0 2 _ fd ["_law_bag_here"] (sp_l_size K) := fn_pm F sc_l_size (fun _ _ => rfl) (fun cdv A outer s H E hr i hi => by
    obtain ⟨a, cells⟩ := i
    refine ⟨_, (pss_one (ps_ret (pe_ix (KX.ixT (K := K)) (pe_tup (pa_cons pe_int (pa_cons pe_int (pa_cons pe_int (pa_cons pe_int (pa_cons pe_int (pa_cons pe_int (pa_cons pe_int (pa_cons pe_int (pa_cons pe_int (pa_cons pe_int pa_nil))))))))))) (pe_callG c_l_pull hr (by rfl) (pa_cons (pv 0) (pa_cons pe_int pa_nil))) (fun _ _ => rfl)))), ?_⟩
    show Eb [some (pA a)] [oBag a cells] _ pSz [oBag a cells]
    exact Er.eb (Er.le (er_ret (ee_ixTx (n := 10) (ee_tup (ea_cons ee_c (ea_cons ee_c (ea_cons ee_c (ea_cons ee_c (ea_cons ee_c (ea_cons ee_c (ea_cons ee_c (ea_cons ee_c (ea_cons ee_c (ea_cons ee_c ea_nil)))))))))) (by simp)) (ee_pull (t := 10) (ea_cons (ee_var rfl) (ea_cons ee_c ea_nil)) ⟨by omega, by omega⟩) rfl)) sz_le)
)
  exact ⟨fd, _, [], G, gl_l_size T, F.kp, F.bindsN (fun _ _ _ _ _ _ us hl => match us, hl with | [_], _ => rfl), .nil⟩
/-- m rows of n of the field -/
abbrev pRowsN (K : PySem.W.Frag) (q m n : Nat) : Pr := pEx fun l : { l : List (List Int) // RowsOk q n l ∧ l.length = m } => pRows K l.1
theorem all2_rowN {α : Type} {q n : Nat} {F : Hp} : ∀ {l : List α} {vs : List V}, All2 F (l.map fun _ => pRowN K q n) vs → ∃ xs : List (List Int), xs.length = l.length ∧ RowsOk q n xs ∧ All2 F (xs.map (pRow K)) vs
  | [], _, .nil => ⟨[], rfl, (fun x hx => (List.not_mem_nil hx).elim), .nil⟩
  | _ :: l, _, .cons h t => by
    obtain ⟨⟨r, hr1, hr2⟩, h⟩ := h
    obtain ⟨xs, h1, h2, h3⟩ := all2_rowN (l := l) t
    refine ⟨r :: xs, by simp [h1], fun x hx => ?_, .cons h h3⟩
    rcases List.mem_cons.mp hx with rfl | hx
    · exact ⟨hr1, hr2⟩
    · exact h2 x hx
theorem rows_rowN {α : Type} {q n m : Nat} {l : List α} (h : l.length = m) : (pLst (l.map fun _ => pRowN K q n)).le (pRowsN K q m n) := fun F v ⟨a, vs, h1, h2, h3⟩ => by
  obtain ⟨xs, k1, k2, k3⟩ := all2_rowN h3
  exact ⟨⟨xs, k2, by rw [k1, h]⟩, a, _, h1, h2, k3⟩
def sp_l_words (K : PySem.W.Frag) : Sp := Pm (I := Addr × List Int × Nat × Nat × Nat) (fun i => i.2.2.1 ∈ KM.sizes ∧ i.2.2.2.1 ≤ 500 ∧ i.2.2.2.2 ≤ 500) (fun i => [pA i.1, pI (i.2.2.1 : Nat), pI (i.2.2.2.1 : Nat), pI (i.2.2.2.2 : Nat)]) (fun i => [oBag i.1 i.2.1]) (fun i => pRowsN K i.2.2.1 i.2.2.2.1 i.2.2.2.2) (fun i => [oBag i.1 i.2.1])
theorem tl_l_words {a : Addr} {cells : List Int} {q m n : Nat} (h : q ∈ KM.sizes ∧ m ≤ 500 ∧ n ≤ 500) : Tl (sp_l_words K) [pA a, pI (q : Nat), pI (m : Nat), pI (n : Nat)] [oBag a cells] (pRowsN K q m n) [oBag a cells] := tl_pm (I := Addr × List Int × Nat × Nat × Nat) (a, cells, q, m, n) h
abbrev C_l_words (P : Program) (wd : World) (K : PySem.W.Frag) (mg : Str → Option Value) (base : Heap) : Prop := CallG P wd K mg base 2 "_law_words" ["_law_bag_here", "_law_big", "_law_tally", "_law_broad"] [] (sp_l_words K)
theorem ok_l_words (T : Tx K mg) (c_l_pull : C_l_pull P wd K mg base) : C_l_words P wd K mg base := by
  obtain ⟨fd, F⟩ := fd_l_words T
  have G : FnOk P wd K mg base CX0 2 _ fd ["_law_bag_here", "_law_big", "_law_tally", "_law_broad"] (sp_l_words K) := fn_pm F sc_l_words (fun _ _ => rfl) (fun cdv A outer s H E hr i hi => by
    obtain ⟨a, cells, q, m, n⟩ := i
    obtain ⟨hq, h0, h1⟩ : q ∈ KM.sizes ∧ m ≤ 500 ∧ n ≤ 500 := hi
    obtain ⟨_, _, _, _, p5, p6, _⟩ := KM.sizes_pr q hq
    refine ⟨_, (pss_one (ps_ret (pe_lc (own := [("_law_k", 4)]) (by rfl) sc_l_words.nd (pi_range1 (by rfl) (fr_range T) (pa_cons (pv 2) pa_nil)) (blkOk_by (by kernel_rfl)) (fun _ _ _ _ _ => by exact (pg_name (i := 4) sc_l_words.nd rfl (Or.inl rfl))) (fun _ _ _ _ _ => pts_nil) (fun _ _ _ _ _ => (pe_callTy (KX.tupOf (K := K)) (by rfl) (fr_tuple T) (by decide +kernel) (pa_cons (pe_lc (own := [("_law_at", 5)]) (by rfl) sc_l_words.nd (pi_range1 (by rfl) (fr_range T) (pa_cons (pv 3) pa_nil)) (blkOk_by (by kernel_rfl)) (fun _ _ _ _ _ => by exact (pg_name (i := 5) sc_l_words.nd rfl (Or.inl rfl))) (fun _ _ _ _ _ => pts_nil) (fun _ _ _ _ _ => (pe_callG c_l_pull hr (by rfl) (pa_cons (pv 0) (pa_cons (pv 1) pa_nil))))) pa_nil)))))), ?_⟩
    show Eb [some (pA a), some (pI (q : Nat)), some (pI (m : Nat)), some (pI (n : Nat)), none, none] [oBag a cells] _ (pRowsN K q m n) [oBag a cells]
    exact Er.eb (Er.le (er_ret (ee_lcY (vs := [4]) (List.range m) (fun k => pI (k : Nat)) (fun _ => pRowN K q n) (ei_rng1 (n := m) (ea_cons (ee_var rfl) ea_nil) (by omega)) (wp_name (by simp)) (by rw [List.length_range]; omega) (fun k hk => ⟨_, eg_name, Ev.le (ee_tupOf (ea_cons (ee_lcY (vs := [5]) (List.range n) (fun k => pI (k : Nat)) (fun _ => pBel q) (ei_rng1 (n := n) (ea_cons (ee_var rfl) ea_nil) (by omega)) (wp_name (by simp)) (by rw [List.length_range]; omega) (fun k hk => ⟨_, eg_name, ee_pull (t := q) (ea_cons (ee_var rfl) (ea_cons (ee_var rfl) ea_nil)) ⟨by omega, by omega⟩⟩)) ea_nil)) tup_bel⟩))) (rows_rowN List.length_range))
)
  exact ⟨fd, _, [], G, gl_l_words T, F.kp, F.bindsN (fun _ _ _ _ _ _ us hl => match us, hl with | [_, _, _, _], _ => rfl), .nil⟩
end
end J
/-! ## J10 -/
set_option Elab.async false
set_option linter.all false
set_option maxRecDepth 100000
set_option maxHeartbeats 1000000
namespace J
open PySem L2
section
variable {K : PySem.W.Frag} {ρ ρ' ρ1 : En} {w w' w1 w2 w3 r u u' : List Ow} {t ta tb tc : TE} {P P' P1 P2 : Pr} {i : Nat}
/-- walked over, what is owned standing -/
def ItOkG (w : List Ow) (J : It) (F : Hp) (ps : List Pr) : Prop := ∀ r F1 H1, Ext F F1 → Good (w ++ r) F1 H1 →
  (∀ i P, ps[i]? = some P → J.go i H1 ∧ ∀ x H2, J.yld i H1 x H2 → ∃ F2, Grow F1 H1 F2 H2 ∧ P.p F2 x) ∧ J.stop ps.length H1
def EiG (ρ : En) (w : List Ow) (wi : TI) (ps : List Pr) : Prop :=
  ∀ σ F H (R : It → Hp → Prop), EnvR ρ σ F → Good w F H → (∀ J F' H', Step w w F H F' H' → ItOkG w J F' ps → R J H') → wi σ H R
theorem ei_listO {a : Addr} {ps : List Pr} (h : Ee ρ (w1 ++ oLst a ps :: w2) t (pA a)) : EiG ρ (w1 ++ oLst a ps :: w2) (iList K t) ps := fun σ F H R e g k =>
  h σ F H _ e g fun v F1 H1 t1 (hv : v = .ref a) => by
    obtain ⟨_, o, ho, vs, rfl, ha⟩ := t1.good.ow (oLst a ps) (by simp)
    refine ⟨a, hv, ⟨vs, SqL.of ho⟩, k _ F1 H1 t1 fun r F2 H2 x1 g2 => ?_⟩
    obtain ⟨_, o2, ho2, vs2, rfl, h3⟩ := g2.ow (oLst a ps) (by simp)
    have hl : H2 a = some (.lst vs2) := ho2
    refine ⟨fun i P hP => ?_, ⟨vs2, SqL.of hl, Nat.le_of_eq h3.len.symm⟩⟩
    obtain ⟨v, hv, hp⟩ := h3.get hP
    refine ⟨⟨vs2, v, SqL.of hl, hv⟩, fun x H3 ⟨e1, e2⟩ => ?_⟩
    subst e1
    have := e2 vs2 (SqL.of hl)
    rw [hv] at this
    cases this
    exact ⟨F2, Grow.refl _ _, hp⟩
/-- the comprehension, over what is owned -/
theorem ee_lcG {α : Type} {wi : TI} {g : TG} {tt : TT} {te : TE} {vs : List Nat} (xs : List α) (f : α → Pr) (bt : α → Bool) (q : α → Pr) (hi : EiG ρ w wi (xs.map f)) (hw : Wp g vs) (hl : xs.length ≤ 100000)
    (he : ∀ x ∈ xs, ∃ ρx, Eg g (f x) (wipeR ρ vs) ρx ∧ Et ρx w tt (bt x) ∧ (bt x = true → Ee ρx w te (q x))) : Ee ρ w (tLc wi g tt te vs) (pLst ((xs.filter bt).map q)) := fun σ F H Q e gd k => by
  refine hi σ F H _ e gd fun J F0 H0 t0 it D hD => ?_
  have acc : ∀ i, ((xs.take i).filter bt).length ≤ 100000 := fun i => Nat.le_trans (List.length_filter_le _ _) (Nat.le_trans (by rw [List.length_take]; omega) hl)
  have stD := Step.own (e := oLst D []) (o := .lst []) t0.good hD ⟨[], rfl, .nil⟩
  refine ⟨fun i m H' => m = xs.length - i ∧ i ≤ xs.length ∧ ∃ F', Step w (w ++ [oLst D (((xs.take i).filter bt).map q)]) F H F' H' ∧ Ext F0 F', ⟨xs.length, rfl, Nat.zero_le _, F0, t0.trans stD, Ext.refl _⟩, ?_⟩
  rintro i m H1 ⟨rfl, hil, F1, t1, x1⟩
  obtain ⟨itg, its⟩ := it _ F1 H1 x1 t1.good
  by_cases hlt : i < xs.length
  · have hx : xs[i]? = some xs[i] := List.getElem?_eq_getElem hlt
    have htk : xs.take (i + 1) = xs.take i ++ [xs[i]] := by rw [List.take_add_one, hx]; rfl
    obtain ⟨hgo, hy⟩ := itg i (f xs[i]) (by rw [List.getElem?_map, hx]; rfl)
    refine .inr ⟨hgo, fun H' => ∃ F', Step w (w ++ [oLst D (((xs.take (i + 1)).filter bt).map q)]) F H F' H' ∧ Ext F0 F', fun H' ⟨F', a, c⟩ => ⟨xs.length - (i + 1), by omega, rfl, by omega, F', a, c⟩, fun x H2 y => ?_⟩
    obtain ⟨F2, gr, p2⟩ := hy x H2 y
    have t2 := gr.st _ t1.good
    obtain ⟨ρx, hg, ht, hq⟩ := he xs[i] (List.getElem_mem hlt)
    have e2 : EnvR (wipeR ρ vs) (wipe σ vs) F2 := (e.mono (t1.exF.trans t2.exF)).wipe vs
    have h0 := hw x (wipe σ vs) H2 _ (hg x (wipe σ vs) F2 H2 (fun σ2 H2 => tt σ2 H2 fun b H3 => if b = true then te σ2 H3 fun y H4 => ∃ acc, H4 D = some (.lst acc) ∧ acc.length < sizeLine ∧ (∃ F', Step w (w ++ [oLst D (((xs.take (i + 1)).filter bt).map q)]) F H F' (upd H4 D (.lst (acc ++ [y]))) ∧ Ext F0 F') else ∃ F', Step w (w ++ [oLst D (((xs.take (i + 1)).filter bt).map q)]) F H F' H3 ∧ Ext F0 F') e2 t2.good.ex p2 fun σ2 e3 => ?_)
    · rw [wipe_wipe] at h0
      exact h0
    · refine ht.frame σ2 F2 H2 _ e3 t2.good fun F3 H3 t3 => ?_
      cases hb : bt xs[i] with
      | true =>
        rw [if_pos rfl]
        refine (hq hb).frame σ2 F3 H3 _ (e3.mono t3.exF) t3.good fun v F4 H4 t4 p4 => ?_
        obtain ⟨hF, o, ho, accv, eo, ha⟩ := t4.good.ow (oLst D (((xs.take i).filter bt).map q)) (by simp)
        subst eo
        have hlen := ha.len
        rw [List.length_map] at hlen
        have hacc := acc i
        have t5 := Step.write (w1 := w) (w2 := []) (e' := oLst D (((xs.take (i + 1)).filter bt).map q)) (o := .lst (accv ++ [v])) t4.good rfl ⟨_, rfl, by
          rw [htk, List.filter_append, List.map_append]
          refine ha.append ?_
          have e1 : ([xs[i]].filter bt).map q = [q xs[i]] := by simp [hb]
          rw [e1]
          exact .cons p4 .nil⟩
        exact ⟨accv, ho, Nat.lt_of_le_of_lt (by omega : accv.length ≤ 100000) (by decide), F4, (((t1.trans t2).trans t3).trans t4).trans t5, ((x1.trans t2.exF).trans t3.exF).trans t4.exF⟩
      | false =>
        rw [if_neg Bool.false_ne_true]
        have e1 : (xs.take (i + 1)).filter bt = (xs.take i).filter bt := by
          rw [htk, List.filter_append]
          simp [hb]
        rw [e1]
        exact ⟨F3, (t1.trans t2).trans t3, (x1.trans t2.exF).trans t3.exF⟩
  · have ei : i = xs.length := by omega
    subst ei
    rw [List.length_map] at its
    refine .inl ⟨its, ?_⟩
    obtain ⟨hF, o, ho, accv, eo, ha⟩ := t1.good.ow (oLst D (((xs.take xs.length).filter bt).map q)) (by simp)
    subst eo
    have t2 := Step.freeze (w1 := w) (w2 := []) t1.good ho
    rw [List.append_nil] at t2
    refine k _ _ _ (t1.trans t2) ⟨D, accv, rfl, upd_same, ?_⟩
    have := ha.mono t2.exF
    rw [List.take_length] at this
    exact this
theorem ee_lcGY {α : Type} {wi : TI} {g : TG} {te : TE} {vs : List Nat} (xs : List α) (f : α → Pr) (q : α → Pr) (hi : EiG ρ w wi (xs.map f)) (hw : Wp g vs) (hl : xs.length ≤ 100000)
    (he : ∀ x ∈ xs, ∃ ρx, Eg g (f x) (wipeR ρ vs) ρx ∧ Ee ρx w te (q x)) : Ee ρ w (tLc wi g tYes te vs) (pLst (xs.map q)) := by
  have h := ee_lcG (bt := fun _ => true) xs f q hi hw hl fun x hx => by
    obtain ⟨ρx, h1, h2⟩ := he x hx
    exact ⟨ρx, h1, et_yes, fun _ => h2⟩
  rw [List.filter_eq_self.mpr (fun _ _ => rfl)] at h
  exact h
/-- a list that is owned, against a list of data -/
theorem ee_neDO {a : Addr} {ps : List Pr} {ds : List PyData} {e : PyData} (ha : Ee ρ (w1 ++ oLst a ps :: w2) ta (pA a)) (hb : Ee ρ (w1 ++ oLst a ps :: w2) tb P2) (h1 : DpOfs K ps ds) (h2 : DpOf K P2 e) (sd : SeqAt.shaped (.list ds) = true) (se : SeqAt.shaped e = true) : Ee ρ (w1 ++ oLst a ps :: w2) (tOp (rNeD K) ta tb) (pB (!PyData.eqv (.list ds) e)) :=
  ee_op ha hb fun x y F H Q hx hy g k => by
    obtain ⟨_, o, ho, vs, rfl, h3⟩ := g.ow (oLst a ps) (by simp)
    have hx : x = .ref a := hx
    exact ⟨.list ds, e, hx ▸ .lst (SqL.of ho) (h1.all g.ex h3), h2 F H y g.ex hy, sd, se, k _ F H (Step.refl g) rfl⟩
theorem ee_neNilO {a : Addr} {l : List (List Int)} (ha : Ee ρ (w1 ++ oLst a (l.map (pRow K)) :: w2) ta (pA a)) (hb : Ee ρ (w1 ++ oLst a (l.map (pRow K)) :: w2) tb (pLst [])) : Ee ρ (w1 ++ oLst a (l.map (pRow K)) :: w2) (tOp (rNeD K) ta tb) (pB (!l.isEmpty)) :=
  (ee_neDO (e := .list []) ha hb (DpOfs.map fun _ _ => dp_row) (dp_lst .nil) (sh_rows l) (by rfl)).is (by rw [show PyData.eqv (.list (l.map dRow)) (.list []) = l.isEmpty from eqv_nil l])
theorem ee_lenLO {a : Addr} {ps : List Pr} {n : Int} {ta : TA} (h : Ea ρ (w1 ++ oLst a ps :: w2) ta [pA a]) (hn : (ps.length : Int) = n) : Ee ρ (w1 ++ oLst a ps :: w2) (tCB (fun xs H Q => ∃ p ys, xs = [.ref p] ∧ (SqL K H p ys ∨ SqT K H p ys) ∧ Q (.int ys.length) H) ta) (pI n) :=
  ee_cb h fun vs F H Q p g k => by
    obtain ⟨v, rfl, hv⟩ := p.one
    have hv : v = .ref a := hv
    obtain ⟨_, o, ho, ys, rfl, h3⟩ := g.ow (oLst a ps) (by simp)
    exact ⟨a, ys, by rw [hv], .inl (SqL.of ho), k _ F H (Step.refl g) (by show V.int _ = V.int n; rw [← hn, h3.len])⟩
/-- a test that may say either -/
def Etx (ρ : En) (w : List Ow) (t : TT) : Prop := ∀ σ F H (Q : Bool → Hp → Prop), EnvR ρ σ F → Good w F H → (∀ b F' H', Step w w F H F' H' → Q b H') → t σ H Q
theorem Et.x {tt : TT} {b : Bool} (h : Et ρ w tt b) : Etx ρ w tt := fun σ F H Q e g k => h σ F H _ e g fun F1 H1 s1 => k b F1 H1 s1
theorem etx_test {α : Type} {f : α → Bool} (h : Ee ρ w t (pEx fun x => pB (f x))) : Etx ρ w (tTest t) := fun σ F H Q e g k => h σ F H _ e g fun v F1 H1 s1 ⟨x, p1⟩ => ⟨f x, p1, k _ F1 H1 s1⟩
theorem etx_and {ta tb : TT} (h1 : Etx ρ w ta) (h2 : Etx ρ w tb) : Etx ρ w (tAnd ta tb) := fun σ F H Q e g k => h1 σ F H _ e g fun a F1 H1 s1 => by
  cases a with
  | true => exact h2 σ F1 H1 _ (e.mono s1.exF) s1.good fun b F2 H2 s2 => k b F2 H2 (s1.trans s2)
  | false => exact k false F1 H1 s1
theorem es_ifx {c : TT} {s1 s2 : TS} (h : Etx ρ w c) (h1 : Es ρ w s1 ρ' w') (h2 : Es ρ w s2 ρ' w') : Es ρ w (tIfS c s1 s2) ρ' w' := fun σ F H D e g k => h σ F H _ e g fun b F1 H1 t1 => by
  cases b with
  | true => exact h1 σ F1 H1 D (e.mono t1.exF) t1.good fun σ' F' H' s e' => k σ' F' H' (t1.trans s) e'
  | false => exact h2 σ F1 H1 D (e.mono t1.exF) t1.good fun σ' F' H' s e' => k σ' F' H' (t1.trans s) e'
theorem ee_eqX {α : Type} {f : α → Int} {j : Int} (ha : Ee ρ w ta (pEx fun x => pI (f x))) (hb : Ee ρ w tb (pI j)) : Ee ρ w (tOp rEq ta tb) (pEx fun x => pB (decide (f x = j))) :=
  ee_op ha hb fun x' y' F H Q hx hy g k => by
    obtain ⟨x, hx⟩ := hx
    have hx : x' = V.int (f x) := hx
    have hy : y' = V.int j := hy
    subst hx hy
    exact ⟨rfl, k _ F H (Step.refl g) ⟨x, by show V.bl _ = V.bl _; rw [dec_int]⟩⟩
end
end J
/-! ## W20 -/
set_option Elab.async false
set_option linter.all false
set_option maxRecDepth 100000
set_option maxHeartbeats 600000
namespace J
open PySem L2 KT
local macro_rules | `(tactic| walk_at "sub") => `(tactic| repeat (first | exact Sub.nil | (with_reducible refine Sub.keep (Pr.le_refl _) ?_) | refine Sub.drop ?_ | refine Sub.keepV (by first | rfl | (simp; done) | omega) ?_ | refine Sub.keep (Pr.le_refl _) ?_))
section
variable {P : Program} {wd : World} {K : PySem.W.Frag} {mg : Str → Option Value} {base : Heap}
/-- a place of a tuple or a list, the place being any below its length -/
theorem Er.ow_in {ρ : En} {w1 w2 w' : List Ow} {P : Pr} {s1 : TS} {e e' : Ow} (h : Er ρ (w1 ++ e' :: w2) s1 P w') (le : e.Le e') : Er ρ (w1 ++ e :: w2) s1 P w' := fun σ F H D en g k => h σ F H D en (g.ow_le le) fun v F' H' s p => k v F' H' ((Step.ow_le le g).trans s) p
theorem ee_pullR {ρ : En} {r : List Ow} {a : Addr} {cells : List Int} {t : Nat} {ta : TA} (h : Ea ρ (oBag a cells :: r) ta [pA a, pI (t : Nat)]) (ht : 0 < t ∧ t < 1000) : Ee ρ (oBag a cells :: r) (tCall (sp_l_pull K) [] E0 ta) (pBel t) :=
  ev_call (w := [oBag a cells]) (w' := [oBag a cells]) (r := r) (ds := []) h (fun _ => .nil) (tl_l_pull ht)
theorem ee_rowR {ρ : En} {r : List Ow} {a : Addr} {cells : List Int} {q n : Nat} {ta : TA} (h : Ea ρ (oBag a cells :: r) ta [pA a, pI (q : Nat), pI (n : Nat)]) (hq : q ∈ KM.sizes ∧ 0 < n ∧ n ≤ 500) : Ee ρ (oBag a cells :: r) (tCall (sp_l_row K) [] E0 ta) (pRowN K q n) :=
  ev_call (w := [oBag a cells]) (w' := [oBag a cells]) (r := r) (ds := []) h (fun _ => .nil) (tl_l_row hq)
theorem blendI_in {q n : Nat} {lot : List (List Int)} {shs : List Int} (hq : q ∈ KM.sizes) (h1 : RowsOk q n lot) (h3 : In q shs) : In q (blendI q lot shs n) ∧ (blendI q lot shs n).length = n :=
  blend_in hq _ _ ⟨In.rep hq, by simp⟩ fun p hp => by
    have hz := List.of_mem_zip (a := p.1) (b := p.2) hp
    exact ⟨h1 _ hz.1, h3 _ hz.2⟩
/-- the mix of rows that stand in an owned list -/
def sp_l_blendO (K : PySem.W.Frag) : Sp := Pm (I := (Nat × Nat × List (List Int) × List Int) × Addr × List Ow) (fun i => i.1.1 ∈ KM.sizes ∧ i.1.2.1 ≤ 500 ∧ RowsOk i.1.1 i.1.2.1 i.1.2.2.1 ∧ i.1.2.2.1.length ≤ 100 ∧ In i.1.1 i.1.2.2.2 ∧ i.1.2.2.2.length = i.1.2.2.1.length) (fun i => [pI (i.1.1 : Nat), pA i.2.1, pLst (i.1.2.2.2.map pI), pI (i.1.2.1 : Nat)]) (fun i => i.2.2 ++ [oLst i.2.1 (i.1.2.2.1.map (pRow K))]) (fun i => pRow K (blendI i.1.1 i.1.2.2.1 i.1.2.2.2 i.1.2.1)) (fun i => i.2.2 ++ [oLst i.2.1 (i.1.2.2.1.map (pRow K))])
theorem tl_l_blendO {q n : Nat} {lot : List (List Int)} {shs : List Int} {a : Addr} {r : List Ow} (h : q ∈ KM.sizes ∧ n ≤ 500 ∧ RowsOk q n lot ∧ lot.length ≤ 100 ∧ In q shs ∧ shs.length = lot.length) : Tl (sp_l_blendO K) [pI (q : Nat), pA a, pLst (shs.map pI), pI (n : Nat)] (r ++ [oLst a (lot.map (pRow K))]) (pRow K (blendI q lot shs n)) (r ++ [oLst a (lot.map (pRow K))]) := tl_pm (I := (Nat × Nat × List (List Int) × List Int) × Addr × List Ow) ((q, n, lot, shs), a, r) h
abbrev C_l_blendO (P : Program) (wd : World) (K : PySem.W.Frag) (mg : Str → Option Value) (base : Heap) : Prop := CallG P wd K mg base 6 "_law_blend" ["_law_big", "_law_lot", "_law_shares", "_law_broad"] [] (sp_l_blendO K)
theorem ok_l_blendO (T : Tx K mg) (c_l_summed : C_l_summed P wd K mg base) (c_l_scaled : C_l_scaled P wd K mg base) : C_l_blendO P wd K mg base := by
  obtain ⟨fd, F⟩ := fd_l_blend T
  have G : FnOk P wd K mg base CX0 6 _ fd ["_law_big", "_law_lot", "_law_shares", "_law_broad"] (sp_l_blendO K) := fn_pm F sc_l_blend (fun _ _ => rfl) (fun cdv A outer s H E hr i hi => by
    obtain ⟨⟨q, n, lot, shs⟩, a, r⟩ := i
    obtain ⟨hq, hn, h1, h2, h3, h4⟩ : q ∈ KM.sizes ∧ n ≤ 500 ∧ RowsOk q n lot ∧ lot.length ≤ 100 ∧ In q shs ∧ shs.length = lot.length := hi
    refine ⟨_, (pss_cons (ps_set (i := 4) sc_l_blend.nd rfl (Or.inl rfl) (pe_op (KX.repT (K := K)) (pe_tup (pa_cons pe_int pa_nil)) (pv 3)))
      (pss_cons (ps_for PassesOwn.never rfl (pi_range1 (by rfl) (fr_range T) (pa_cons (pe_callB (KX.len (K := K)) (by rfl) (fr_len T) PySem.boot_len (pa_cons (pv 1) pa_nil)) pa_nil)) (pg_name (i := 5) sc_l_blend.nd rfl (Or.inl rfl)) (pss_one (ps_set (i := 4) sc_l_blend.nd rfl (Or.inl rfl) (pe_callG c_l_summed hr (by rfl) (pa_cons (pv 0) (pa_cons (pv 4) (pa_cons (pe_callG c_l_scaled hr (by rfl) (pa_cons (pv 0) (pa_cons (pe_ix (KX.ixL (K := K)) (pv 1) (pv 5) (fun _ _ => rfl)) (pa_cons (pe_ix (KX.ixL (K := K)) (pv 2) (pv 5) (fun _ _ => rfl)) pa_nil)))) pa_nil)))))))
      (pss_one (ps_ret (pv 4))))), ?_⟩
    show Eb [some (pI (q : Nat)), some (pA a), some (pLst (shs.map pI)), some (pI (n : Nat)), none, none] (r ++ oLst a (lot.map (pRow K)) :: []) _ (pRow K (blendI q lot shs n)) (r ++ oLst a (lot.map (pRow K)) :: [])
    have hmem : ∀ p ∈ lot.zip shs, (In q p.1 ∧ p.1.length = n) ∧ (0 ≤ p.2 ∧ p.2 < q) := fun p hp => by
      have hz := List.of_mem_zip (a := p.1) (b := p.2) hp
      exact ⟨h1 _ hz.1, h3 _ hz.2⟩
    have hst : ∀ k, In q (blendK q lot shs n k) ∧ (blendK q lot shs n k).length = n := fun k => blend_in hq _ _ ⟨In.rep hq, by simp⟩ fun p hp => hmem p (List.mem_of_mem_take hp)
    have hlast : blendK q lot shs n lot.length = blendI q lot shs n := by
      unfold blendK blendI
      rw [List.take_of_length_le (by rw [List.length_zip]; omega)]
    refine Er.eb (er_seq (ρ1 := [some (pI (q : Nat)), some (pA a), some (pLst (shs.map pI)), some (pI (n : Nat)), some (pRow K (List.replicate n 0)), none]) (es_set (Ev.is (ee_repT1 (n := n) (ee_tup (ea_cons ee_c ea_nil) (by simp)) (ee_var rfl) rfl (by omega)) (by rw [pRow, List.map_replicate]))) (er_seq (es_forN lot.length (fun k => [some (pI (q : Nat)), some (pA a), some (pLst (shs.map pI)), some (pI (n : Nat)), some (pRow K (blendK q lot shs n k)), none]) (fun _ => r ++ oLst a (lot.map (pRow K)) :: []) rfl (by walk_at "sub") (ei_rng1 (n := lot.length) (ea_cons (ee_lenLO (ea_cons (ee_var rfl) ea_nil) (by rw [List.length_map])) ea_nil) (by omega)) (fun k hk => ?_)) (Er.is (er_ret (ee_var rfl)) (congrArg (pRow K) hlast))))
    have hz : (lot.zip shs)[k]? = some (lot[k], shs[k]'(by omega)) := by rw [List.getElem?_eq_getElem (by rw [List.length_zip]; omega), List.getElem_zip]
    have hs : blendK q lot shs n (k + 1) = joinI q (blendK q lot shs n k) (scaleI q lot[k] (shs[k]'(by omega))) 1 := by unfold blendK; rw [take_fold hz]
    obtain ⟨k1, k2⟩ := hmem _ (List.mem_of_getElem? hz)
    have hin := hst k
    rw [hs]
    generalize blendK q lot shs n k = s0 at hin
    exact ⟨_, _, eg_name, es_set (ee_call (ea_cons (ee_var rfl) (ea_cons (ee_var rfl) (ea_cons (ee_call (ea_cons (ee_var rfl) (ea_cons (ee_ixO (n := k) (P := pRow K lot[k]) (ee_var rfl) (ee_var rfl) (ixN_nat (by rw [List.length_map]; omega)) (by rw [List.getElem?_map, List.getElem?_eq_getElem hk]; rfl)) (ea_cons (ee_ixL (n := k) (P := pI (shs[k]'(by omega))) (ee_var rfl) (ee_var rfl) (ixN_nat (by rw [List.length_map]; omega)) (by rw [List.getElem?_map, List.getElem?_eq_getElem (show k < shs.length by omega)]; rfl)) ea_nil))) (tl_l_scaled ⟨hq, k1.1, by have := k1.2; dsimp only at this; omega, k2⟩)) ea_nil))) (tl_l_summed ⟨hq, hin.1, In.scale hq k1.1 k2, by rw [scale_len, hin.2]; exact k1.2.symm, by omega⟩)), by walk_at "sub"⟩
)
  exact ⟨fd, _, [], G, gl_l_blend T, F.kp, F.bindsN (fun _ _ _ _ _ _ us hl => match us, hl with | [_, _, _, _], _ => rfl), .nil⟩
def oRows (K : PySem.W.Frag) (q n : Nat) (a : Addr) (k : Nat) : Ow := oEx (α := List (List Int)) a (fun l => oLst a (l.map (pRow K))) (fun _ => rfl) (fun l => RowsOk q n l ∧ l.length = k)
theorem shs_le {α : Type} {q : Nat} {l : List α} : (pLst (l.map fun _ => pBel q)).le (pEx fun s : { s : List Int // In q s ∧ s.length = l.length } => pLst (s.1.map pI)) := fun F v ⟨a, vs, h1, h2, h3⟩ => by
  obtain ⟨xs, k1, k2, rfl⟩ := all2_bel h3
  exact ⟨⟨xs, k2, k1⟩, a, _, h1, h2, all2_pI xs⟩
theorem rows_more {q n k : Nat} {a : Addr} {l : List (List Int)} (hl : RowsOk q n l ∧ l.length = k) : (oLst a (l.map (pRow K) ++ [pRowN K q n])).Le (oRows K q n a (k + 1)) := ⟨rfl, fun F o ⟨vs, h1, h2⟩ => by
  have split : ∀ {ps qs : List Pr} {vs : List V}, All2 F (ps ++ qs) vs → ∃ xs ys, vs = xs ++ ys ∧ All2 F ps xs ∧ All2 F qs ys := by
    intro ps
    induction ps with
    | nil => intro qs vs h; exact ⟨[], vs, rfl, .nil, h⟩
    | cons p ps ih =>
      intro qs vs h
      cases h with
      | cons a b =>
        obtain ⟨xs, ys, rfl, k1, k2⟩ := ih b
        exact ⟨_ :: xs, ys, rfl, .cons a k1, k2⟩
  obtain ⟨xs, ys, rfl, k1, k2⟩ := split h2
  cases k2 with
  | cons b c =>
    cases c
    obtain ⟨⟨r, r1, r2⟩, b⟩ := b
    refine ⟨l ++ [r], ⟨fun x hx => ?_, by simp [hl.2]⟩, _, h1, ?_⟩
    · rcases List.mem_append.mp hx with hx | hx
      · exact hl.1 x hx
      · have hx : x = r := by simpa using hx
        subst hx
        exact ⟨r1, r2⟩
    · rw [List.map_append]
      exact k1.append (.cons b .nil)⟩
def sp_l_rows (K : PySem.W.Frag) : Sp := Pm (I := Addr × List Int × Nat × Nat × Nat) (fun i => i.2.2.1 ∈ KM.sizes ∧ (0 < i.2.2.2.1 ∧ i.2.2.2.1 ≤ 500) ∧ i.2.2.2.2 ≤ 50) (fun i => [pA i.1, pI (i.2.2.1 : Nat), pI (i.2.2.2.1 : Nat), pI (i.2.2.2.2 : Nat)]) (fun i => [oBag i.1 i.2.1]) (fun i => pRowsN K i.2.2.1 i.2.2.2.2 i.2.2.2.1) (fun i => [oBag i.1 i.2.1])
theorem tl_l_rows {a : Addr} {cells : List Int} {q n m : Nat} (h : q ∈ KM.sizes ∧ (0 < n ∧ n ≤ 500) ∧ m ≤ 50) : Tl (sp_l_rows K) [pA a, pI (q : Nat), pI (n : Nat), pI (m : Nat)] [oBag a cells] (pRowsN K q m n) [oBag a cells] := tl_pm (I := Addr × List Int × Nat × Nat × Nat) (a, cells, q, n, m) h
abbrev C_l_rows (P : Program) (wd : World) (K : PySem.W.Frag) (mg : Str → Option Value) (base : Heap) : Prop := CallG P wd K mg base 7 "_law_rows" ["_law_bag_here", "_law_big", "_law_broad", "_law_tally"] [] (sp_l_rows K)
theorem ok_l_rows (T : Tx K mg) (c_l_row : C_l_row P wd K mg base) (c_l_blendO : C_l_blendO P wd K mg base) (c_l_pull : C_l_pull P wd K mg base) : C_l_rows P wd K mg base := by
  obtain ⟨fd, F⟩ := fd_l_rows T
  have G : FnOk P wd K mg base CX0 7 _ fd ["_law_bag_here", "_law_big", "_law_broad", "_law_tally"] (sp_l_rows K) := fn_pm F sc_l_rows (fun _ _ => rfl) (fun cdv A outer s H E hr i hi => by
    obtain ⟨b, cells, q, n, m⟩ := i
    obtain ⟨hq, ⟨h0, h1⟩, h2⟩ : q ∈ KM.sizes ∧ (0 < n ∧ n ≤ 500) ∧ m ≤ 50 := hi
    obtain ⟨_, _, _, _, p5, p6, _⟩ := KM.sizes_pr q hq
    refine ⟨_, (pss_cons (ps_set (i := 4) sc_l_rows.nd rfl (Or.inl rfl) (pe_lst pa_nil))
      (pss_cons (ps_for PassesOwn.never rfl (pi_range1 (by rfl) (fr_range T) (pa_cons (pv 3) pa_nil)) (pg_name (i := 5) sc_l_rows.nd rfl (Or.inl rfl)) (pss_cons (ps_set (i := 6) sc_l_rows.nd rfl (Or.inl rfl) (pe_callG c_l_row hr (by rfl) (pa_cons (pv 0) (pa_cons (pv 1) (pa_cons (pv 2) pa_nil)))))
      (pss_cons (ps_if (PW.pt (pw_and (pt_cmpR (KX.neD (K := K) hr.units) (pv 4) (pe_lst pa_nil) (nomark _)) (pw_and1 (pt_cmpR op_eq (pe_callG c_l_pull hr (by rfl) (pa_cons (pv 0) (pa_cons pe_int pa_nil))) pe_int (nomark _))))) (pss_cons (ps_setLc (i := 7) (own := [("_law_one", 8)]) (by rfl) sc_l_rows.nd rfl rfl (sw_true rfl rfl rfl (by kernel_rfl)) (KX.iL (K := K) (pv 4)) (blkOk_by (by kernel_rfl)) (fun _ _ _ _ _ => by exact (pg_name (i := 8) sc_l_rows.nd rfl (Or.inl rfl))) (fun _ _ _ _ _ => pts_nil) (fun _ _ _ _ _ => (pe_callG c_l_pull hr (by rfl) (pa_cons (pv 0) (pa_cons (pv 1) pa_nil)))))
      (pss_one (ps_set (i := 6) sc_l_rows.nd rfl (Or.inl rfl) (pe_callG c_l_blendO hr (by rfl) (pa_cons (pv 1) (pa_cons (pv 4) (pa_cons (pv 7) (pa_cons (pv 2) pa_nil)))))))) pss_nil)
      (pss_one (ps_expr (pe_bm PySem.F.plainAttrs_list PySem.F.slot_list_append PySem.F.type_list_append mt_append (pv 4) (pa_cons (pv 6) pa_nil)))))))
      (pss_one (ps_ret (pv 4))))), ?_⟩
    show Eb [some (pA b), some (pI (q : Nat)), some (pI (n : Nat)), some (pI (m : Nat)), none, none, none, none, none] [oBag b cells] _ (pRowsN K q m n) [oBag b cells]
    refine Er.eb (er_newOwn ea_nil (by simp) (fun a => Er.ow_in (w1 := [oBag b cells]) (w2 := []) (e' := oRows K q n a 0) (er_seq (es_forN m (fun k => [some (pA b), some (pI (q : Nat)), some (pI (n : Nat)), some (pI (m : Nat)), some (pA a), none, none, none, none]) (fun k => [oBag b cells, oRows K q n a k]) rfl (by walk_at "sub") (ei_rng1 (n := m) (ea_cons (ee_var rfl) ea_nil) (by omega)) (fun k hk => ?_)) (Er.open_ (w1 := [oBag b cells]) (w2 := []) (fun l hl => Er.freeze (i := 4) (w := [oBag b cells]) (w2 := []) rfl (Er.le (er_ret (ee_var rfl)) (fun F v h => ⟨⟨l, hl⟩, h⟩))))) (oEx_le (f := fun l : List (List Int) => oLst a (l.map (pRow K))) [] ⟨fun x hx => (List.not_mem_nil hx).elim, rfl⟩)))
    refine ⟨_, [some (pA b), some (pI (q : Nat)), some (pI (n : Nat)), some (pI (m : Nat)), some (pA a), none, some (pRowN K q n), none, none], eg_name, Es.open_ (w1 := [oBag b cells]) (w2 := []) (fun l hl => ?_), by walk_at "sub"⟩
    have hl2 := hl.2
    refine es_seq (ρ1 := [some (pA b), some (pI (q : Nat)), some (pI (n : Nat)), some (pI (m : Nat)), some (pA a), some (pI (k : Nat)), some (pRowN K q n), none, none]) (w1 := [oBag b cells, oLst a (l.map (pRow K))]) (es_set (ee_rowR (ea_cons (ee_var rfl) (ea_cons (ee_var rfl) (ea_cons (ee_var rfl) ea_nil))) ⟨hq, h0, h1⟩)) ?_
    refine es_seq (ρ1 := [some (pA b), some (pI (q : Nat)), some (pI (n : Nat)), some (pI (m : Nat)), some (pA a), none, some (pRowN K q n), none, none]) (w1 := [oBag b cells, oLst a (l.map (pRow K))]) (es_ifx (etx_and (Et.x (et_test (ee_neNilO (w1 := [oBag b cells]) (w2 := []) (ee_var rfl) (ee_lst ea_nil (by simp))))) (etx_test (ee_eqX (ee_pullR (t := 3) (ea_cons (ee_var rfl) (ea_cons ee_c ea_nil)) ⟨by omega, by omega⟩) ee_c))) ?_ (Es.sub es_next (by walk_at "sub"))) (Es.ow_le (w1 := [oBag b cells]) (w2 := []) (es_append (w := [oBag b cells]) (w2 := []) (i := 4) rfl (ee_var rfl) (by rw [List.length_map]; omega)) (rows_more hl))
    refine es_exS (Ev.le (ee_lcGY (vs := [8]) l (pRow K) (fun _ => pBel q) (ei_listO (w1 := [oBag b cells]) (w2 := []) (ee_var rfl)) (wp_name (by simp)) (by omega) (fun x hx => ⟨_, eg_name, ee_pullR (t := q) (ea_cons (ee_var rfl) (ea_cons (ee_var rfl) ea_nil)) ⟨by omega, by omega⟩⟩)) shs_le) (fun s => ?_)
    obtain ⟨s, s1, s2⟩ := s
    refine Es.sub (es_set (Ev.le (ev_call (w := [oBag b cells, oLst a (l.map (pRow K))]) (w' := [oBag b cells, oLst a (l.map (pRow K))]) (r := []) (ds := []) (ea_cons (ee_var rfl) (ea_cons (ee_var rfl) (ea_cons (ee_var rfl) (ea_cons (ee_var rfl) ea_nil)))) (fun _ => .nil) (tl_l_blendO (r := [oBag b cells]) ⟨hq, h1, hl.1, by omega, s1, s2⟩)) (fun F v h => (⟨⟨_, blendI_in hq hl.1 s1⟩, h⟩ : (pRowN K q n).p F v)))) (by walk_at "sub")
)
  exact ⟨fd, _, [], G, gl_l_rows T, F.kp, F.bindsN (fun _ _ _ _ _ _ us hl => match us, hl with | [_, _, _, _], _ => rfl), .nil⟩
end
end J
/-! ## W21 -/
set_option Elab.async false
set_option linter.all false
set_option maxRecDepth 100000
set_option maxHeartbeats 600000
namespace J
open PySem L2 KT
local macro_rules | `(tactic| walk_at "sub") => `(tactic| repeat (first | exact Sub.nil | (with_reducible refine Sub.keep (Pr.le_refl _) ?_) | refine Sub.drop ?_ | refine Sub.keepV (by first | rfl | (simp; done) | omega) ?_ | refine Sub.keep (Pr.le_refl _) ?_))
section
variable {P : Program} {wd : World} {K : PySem.W.Frag} {mg : Str → Option Value} {base : Heap}
/-- a place of a tuple or a list, the place being any below its length -/
theorem EnvR.openV {α : Type} {ρ : En} {σ : St} {F : Hp} {i : Nat} {Q : α → Pr} (e : EnvR ρ σ F) (hi : ρ[i]? = some (some (pEx Q))) : ∃ x, EnvR (ρ.set i (some (Q x))) σ F := by
  obtain ⟨v, h1, x, h2⟩ := e.at_ i _ hi
  have hl : i < ρ.length := (List.getElem?_eq_some_iff.mp hi).1
  refine ⟨x, by rw [List.length_set]; exact e.len, fun j P hj => ?_⟩
  by_cases hij : i = j
  · subst hij
    rw [List.getElem?_set_self hl] at hj
    cases hj
    exact ⟨v, h1, h2⟩
  · rw [List.getElem?_set_ne hij] at hj
    exact e.at_ j P hj
theorem Es.openV {α : Type} {ρ ρ' : En} {w w' : List Ow} {s1 : TS} {i : Nat} {Q : α → Pr} (hi : ρ[i]? = some (some (pEx Q))) (h : ∀ x, Es (ρ.set i (some (Q x))) w s1 ρ' w') : Es ρ w s1 ρ' w' := fun σ F H D e g k => by
  obtain ⟨x, e⟩ := e.openV hi
  exact h x σ F H D e g k
theorem Er.openV {α : Type} {ρ : En} {w w' : List Ow} {P : Pr} {s1 : TS} {i : Nat} {Q : α → Pr} (hi : ρ[i]? = some (some (pEx Q))) (h : ∀ x, Er (ρ.set i (some (Q x))) w s1 P w') : Er ρ w s1 P w' := fun σ F H D e g k => by
  obtain ⟨x, e⟩ := e.openV hi
  exact h x σ F H D e g k
/-- a def that gives a new list, owned by its caller -/
def Ebn (ρ : En) (w : List Ow) (t : TS) (c : Addr → Ow → Prop) : Prop := ∀ σ F H (Q : VK), EnvR ρ σ F → Good w F H → (∀ a o F' H', c a o → Step w (w ++ [o]) F H F' H' → Q (.ref a) H') → t { nx := fun _ H' => Q .non H', rt := Q } σ H
theorem Ebn.go {ρ : En} {w : List Ow} {t : TS} {c : Addr → Ow → Prop} {σ : St} {F H : Hp} {Q : VK} (h : Ebn ρ w t c) (e : EnvR ρ σ F) (g : Good w F H) (k : ∀ a o F' H', c a o → Step w (w ++ [o]) F H F' H' → Q (.ref a) H') : t { nx := fun _ H' => Q .non H', rt := Q } σ H := h σ F H Q e g k
theorem Ebn.openV {α : Type} {ρ : En} {w : List Ow} {t : TS} {c : Addr → Ow → Prop} {i : Nat} {Q : α → Pr} (hi : ρ[i]? = some (some (pEx Q))) (h : ∀ x, Ebn (ρ.set i (some (Q x))) w t c) : Ebn ρ w t c := fun σ F H Q' e g k => by
  obtain ⟨x, e⟩ := e.openV hi
  exact h x σ F H Q' e g k
theorem ebn_seq {ρ ρ1 : En} {w : List Ow} {s1 s2 : TS} {c : Addr → Ow → Prop} (h1 : Es ρ w s1 ρ1 w) (h2 : Ebn ρ1 w s2 c) : Ebn ρ w (tSeq s1 s2) c := fun σ F H Q e g k =>
  h1 σ F H { nx := s2 { nx := fun _ H' => Q .non H', rt := Q }, rt := Q } e g fun σ1 F1 H1 t1 e1 => h2 σ1 F1 H1 Q e1 t1.good fun a o F' H' hc s => k a o F' H' hc (t1.trans s)
theorem ebn_ret {ρ : En} {w : List Ow} {ta : TA} {ps : List Pr} {c : Addr → Ow → Prop} (h : Ea ρ w ta ps) (hl : ps.length ≤ 1000) (hc : ∀ a, ∃ o, c a o ∧ (oLst a ps).Le o) : Ebn ρ w (tRet (tLst ta)) c := fun σ F H Q e g k =>
  h σ F H _ e g fun vs F1 H1 s1 p1 => ⟨Nat.le_trans (by rw [← p1.len]; exact hl) (by decide : 1000 ≤ sizeLine), fun p hp => by
    have s2 := Step.own (e := oLst p ps) (o := .lst vs) s1.good hp ⟨vs, rfl, p1⟩
    obtain ⟨o, h1, h2⟩ := hc p
    exact k p o F1 _ h1 ((s1.trans s2).trans (Step.ow_le (w1 := w) (w2 := []) h2 s2.good))⟩
theorem cut_map {α : Type} {f : α → Pr} (l : List α) (lo hi : Option Int) : ∃ m : List α, m.length ≤ l.length ∧ cutP (l.map f) lo hi = m.map f := by
  unfold cutP
  generalize HT.sIx (l.map f).length 0 lo = x
  generalize HT.sIx (l.map f).length (l.map f).length hi = y
  exact ⟨(l.drop x).take (y - x), by rw [List.length_take, List.length_drop]; omega, by rw [List.map_take, List.map_drop]⟩
abbrev pSalt : Pr := pEx fun z : { z : Int // 0 ≤ z ∧ z < 2147483629 } => pI z.1
def sp_l_bag (K : PySem.W.Frag) : Sp := fun vs H Q _ => ∃ (l : List Int) (F : Hp), l.length ≤ 100 ∧ All2 F [pSeq K (l.map pI)] vs ∧ Good [] F H ∧ ∀ b cells F' H', Step [] [oBag b cells] F H F' H' → Q (.ref b) H'
abbrev C_l_bag (P : Program) (wd : World) (K : PySem.W.Frag) (mg : Str → Option Value) (base : Heap) : Prop := CallG P wd K mg base 1 "_law_bag" ["_law_script"] [] (sp_l_bag K)
theorem ok_l_bag (T : Tx K mg) : C_l_bag P wd K mg base := by
  obtain ⟨fd, F⟩ := fd_l_bag T
  have G : FnOk P wd K mg base CX0 1 (He.fAd K ("_law_bag", none)) fd ["_law_script"] (sp_l_bag K) := by
    refine F.ok sc_l_bag (fun vs H Q E h => ?_) (fun cdv A outer s H vs Q E hr h => ?_)
    · obtain ⟨l, Fz, _, ha, _⟩ := h
      rw [← ha.len]; rfl
    · obtain ⟨l, Fz, hlen, ha, g, kk⟩ := h
      refine ⟨_, PSs.nox (pss_cons (ps_set (i := 1) sc_l_bag.nd rfl (Or.inl rfl) (pe_callTy (KX.listOf (K := K)) (by rfl) (fr_list T) (by decide +kernel) (pa_cons (pe_slice (KX.slL (K := K)) (pv 0) po_none (po_some pe_int)) pa_nil)))
      (pss_cons (ps_set (i := 2) sc_l_bag.nd rfl (Or.inl rfl) (pe_op op_add pe_int (pe_callB (KX.len (K := K)) (by rfl) (fr_len T) PySem.boot_len (pa_cons (pv 1) pa_nil))))
      (pss_cons (ps_for PassesOwn.never rfl (KX.iL (K := K) (pv 1)) (pg_name (i := 3) sc_l_bag.nd rfl (Or.inl rfl)) (pss_one (ps_set (i := 2) sc_l_bag.nd rfl (Or.inl rfl) (pe_op op_mod (pe_op op_add (pe_op op_add (pe_op op_mul (pv 2) pe_int) (pe_op op_mod (pe_callB call_abs (by rfl) (fr_abs T) (by decide +kernel) (pa_cons (pv 3) pa_nil)) pe_int)) (pe_op op_mul pe_int (pe_callTy call_int1 (by rfl) (fr_int T) (by decide +kernel) (pa_cons (pe_cmpR op_lt (pv 3) pe_int (nomark _)) pa_nil)))) pe_int))))
      (pss_one (ps_ret (pe_lst (pa_cons (pv 1) (pa_cons pe_int (pa_cons pe_int (pa_cons (pv 2) pa_nil)))))))))), ?_⟩
      refine Ebn.go (ρ := [some (pSeq K (l.map pI)), none, none, none]) (w := []) (c := fun b o => ∃ cells, o = oBag b cells) ?_ (env_start (N := ["_law_script", "_law_cells", "_law_salt", "_law_one"]) ha) g fun b o F' H' ⟨cells, hc⟩ s => by subst hc; exact kk b cells F' H' s
      obtain ⟨m, hm, hcut⟩ := cut_map (f := pI) l none (some 63)
      refine ebn_seq (ρ1 := [some (pSeq K (l.map pI)), some (pLst (m.map pI)), none, none]) (es_set (ee_listOf (ea_cons (Ev.is (ee_slS (ee_var rfl) eo_none (eo_some ee_c)) (congrArg pLst hcut)) ea_nil))) ?_
      refine ebn_seq (ρ1 := [some (pSeq K (l.map pI)), some (pLst (m.map pI)), some pSalt, none]) (es_set (Ev.le (ee_I0 (f := fun i j => V.int (i + j)) ee_c (ee_lenL (n := (m.length : Int)) (ea_cons (ee_var rfl) ea_nil) (by rw [List.length_map]))) (fun F v h => ⟨⟨7 + (m.length : Int), by omega, by omega⟩, h⟩))) ?_
      refine ebn_seq (ρ1 := [some (pSeq K (l.map pI)), some (pLst (m.map pI)), some pSalt, none]) (es_forM m pI (fun _ => [some (pSeq K (l.map pI)), some (pLst (m.map pI)), some pSalt, none]) (fun _ => []) rfl (Sub.refl _) (ei_list (ee_var rfl)) (fun k x hx => ⟨_, [some (pSeq K (l.map pI)), some (pLst (m.map pI)), some pSalt, some (pI x)], eg_name, Es.openV (i := 2) rfl (fun z => ?_), by walk_at "sub"⟩)) ?_
      · obtain ⟨z, z1, z2⟩ := z
        refine es_set (Ev.le (ee_I (ee_I0 (ee_I0 (ee_I (ee_var rfl) ee_c (.inr ⟨by omega, by omega⟩)) (ee_I (ee_abs (ea_cons (ee_var rfl) ea_nil)) ee_c (show (0 : Int) < 2147483563 by omega))) (ee_I ee_c (ee_intB (b := decide (x < 0)) (ea_cons (ee_I0 (f := fun i j => V.bl (decide (i < j))) (ee_var rfl) ee_c) ea_nil)) (.inr ⟨by split <;> omega, by split <;> omega⟩))) ee_c (show (0 : Int) < 2147483629 by omega)) (fun F v h => ⟨⟨_, ?_, ?_⟩, h⟩))
        · exact Int.emod_nonneg _ (by omega)
        · exact Int.emod_lt_of_pos _ (by omega)
      · exact Ebn.openV (i := 2) rfl (fun z => ebn_ret (ea_cons (ee_var rfl) (ea_cons ee_c (ea_cons ee_c (ea_cons (ee_var rfl) ea_nil)))) (by simp) (fun b => ⟨oBag b m, ⟨m, rfl⟩, oEx_le (f := bagL b m) (0, 0, z.1) ⟨Int.le_refl _, Int.le_refl _, z.2⟩⟩))
  exact ⟨fd, _, [], G, gl_l_bag T, F.kp, F.bindsN (fun _ _ _ _ _ _ us hl => match us, hl with | [_], _ => rfl), .nil⟩
end
end J
/-! ## W22 -/
set_option Elab.async false
set_option linter.all false
set_option maxRecDepth 100000
set_option maxHeartbeats 600000
namespace J
open PySem L2 KT
local macro_rules | `(tactic| walk_at "sub") => `(tactic| repeat (first | exact Sub.nil | (with_reducible refine Sub.keep (Pr.le_refl _) ?_) | refine Sub.drop ?_ | refine Sub.keepV (by first | rfl | (simp; done) | omega) ?_ | refine Sub.keep (Pr.le_refl _) ?_))
section
variable {P : Program} {wd : World} {K : PySem.W.Frag} {mg : Str → Option Value} {base : Heap}
/-- a row with one more place -/
def extI (q : Nat) (v : List Int) : List (List Int) := (List.range q).map fun c : Nat => v ++ [(c : Int)]
/-- all rows of n of the field -/
def vecsI (q : Nat) : Nat → List (List Int)
  | 0 => [[]]
  | n + 1 => (vecsI q n).flatMap (extI q)
def extK (q : Nat) (l : List (List Int)) (j : Nat) : List (List Int) := (l.take j).flatMap (extI q)
theorem extK_len {q : Nat} {l : List (List Int)} {j : Nat} : (extK q l j).length ≤ l.length * q := by
  have h : ∀ m : List (List Int), (m.flatMap (extI q)).length = m.length * q := fun m => by
    induction m with
    | nil => simp
    | cons x m ih => rw [List.flatMap_cons, List.length_append, ih, extI, List.length_map, List.length_range, List.length_cons, Nat.succ_mul, Nat.add_comm]
  unfold extK
  rw [h]
  exact Nat.mul_le_mul_right _ (by rw [List.length_take]; omega)
theorem extK_succ {q : Nat} {l : List (List Int)} {j : Nat} {x : List Int} (h : l[j]? = some x) : extK q l (j + 1) = extK q l j ++ extI q x := by
  unfold extK
  rw [List.take_add_one, h, List.flatMap_append]
  simp
theorem vecsI_len {q n : Nat} (hq : q ≤ 3) : (vecsI q n).length ≤ 3 ^ n := by
  induction n with
  | zero => simp [vecsI]
  | succ n ih =>
    have h : vecsI q (n + 1) = extK q (vecsI q n) (vecsI q n).length := by unfold extK; rw [List.take_length]; rfl
    rw [h, Nat.pow_succ]
    exact Nat.le_trans extK_len (Nat.mul_le_mul ih hq)
theorem vecsI_mem {q n : Nat} : ∀ v ∈ vecsI q n, In q v ∧ v.length = n := by
  induction n with
  | zero =>
    intro v hv
    have hv : v = [] := by simpa [vecsI] using hv
    subst hv
    exact ⟨fun x hx => (List.not_mem_nil hx).elim, rfl⟩
  | succ n ih =>
    intro v hv
    obtain ⟨u, hu, hv⟩ := List.mem_flatMap.mp (show v ∈ (vecsI q n).flatMap (extI q) from hv)
    obtain ⟨c, hc, rfl⟩ := List.mem_map.mp (show v ∈ (List.range q).map fun c : Nat => u ++ [(c : Int)] from hv)
    obtain ⟨h1, h2⟩ := ih u hu
    have hc := List.mem_range.mp hc
    refine ⟨In.app h1 fun x hx => ?_, by simp [h2]⟩
    have hx : x = (c : Int) := by simpa using hx
    omega
def sp_l_all_rows (K : PySem.W.Frag) : Sp := Pm (I := Nat × Nat) (fun i => i.1 ≤ 6 ∧ i.2 ≤ 3) (fun i => [pI (i.1 : Nat), pI (i.2 : Nat)]) (fun _ => []) (fun i => pRows K (vecsI i.2 i.1)) (fun _ => [])
theorem tl_l_all_rows {n q : Nat} (h : n ≤ 6 ∧ q ≤ 3) : Tl (sp_l_all_rows K) [pI (n : Nat), pI (q : Nat)] [] (pRows K (vecsI q n)) [] := tl_pm (I := Nat × Nat) (n, q) h
abbrev C_l_all_rows (P : Program) (wd : World) (K : PySem.W.Frag) (mg : Str → Option Value) (base : Heap) : Prop := CallG P wd K mg base 1 "_law_all_rows" ["_law_tally", "_law_big"] [] (sp_l_all_rows K)
theorem ok_l_all_rows (T : Tx K mg)  : C_l_all_rows P wd K mg base := by
  obtain ⟨fd, F⟩ := fd_l_all_rows T
  have G : FnOk P wd K mg base CX0 1 _ fd ["_law_tally", "_law_big"] (sp_l_all_rows K) := fn_pm F sc_l_all_rows (fun _ _ => rfl) (fun cdv A outer s H E hr i hi => by
    obtain ⟨n, q⟩ := i
    obtain ⟨h1, h2⟩ : n ≤ 6 ∧ q ≤ 3 := hi
    refine ⟨_, (pss_cons (ps_set (i := 2) sc_l_all_rows.nd rfl (Or.inl rfl) (pe_lst (pa_cons (pe_tup pa_nil) pa_nil)))
      (pss_cons (ps_for PassesOwn.never rfl (pi_range1 (by rfl) (fr_range T) (pa_cons (pv 0) pa_nil)) (pg_name (i := 3) sc_l_all_rows.nd rfl (Or.inl rfl)) (pss_cons (ps_set (i := 4) sc_l_all_rows.nd rfl (Or.inl rfl) (pe_lst pa_nil))
      (pss_cons (ps_for PassesOwn.never rfl (KX.iL (K := K) (pv 2)) (pg_name (i := 5) sc_l_all_rows.nd rfl (Or.inr rfl)) (pss_one (ps_expr (pe_bm PySem.F.plainAttrs_list PySem.F.slot_list_extend PySem.F.type_list_extend mt_extend (pv 4) (pa_cons (pe_lc (own := [("_law_one", 6)]) (by rfl) sc_l_all_rows.nd (pi_range1 (by rfl) (fr_range T) (pa_cons (pv 1) pa_nil)) (blkOk_by (by kernel_rfl)) (fun _ _ _ _ _ => by exact (pg_name (i := 6) sc_l_all_rows.nd rfl (Or.inl rfl))) (fun _ _ _ _ _ => pts_nil) (fun _ _ _ _ _ => (pe_op (KX.catT (K := K)) (pv 5) (pe_tup (pa_cons (pv 6) pa_nil))))) pa_nil)))))
      (pss_one (ps_set (i := 2) sc_l_all_rows.nd rfl (Or.inl rfl) (pv 4))))))
      (pss_one (ps_ret (pv 2))))), ?_⟩
    show Eb [some (pI (n : Nat)), some (pI (q : Nat)), none, none, none, none, none] [] _ (pRows K (vecsI q n)) []
    refine Er.eb (er_seq (ρ1 := [some (pI (n : Nat)), some (pI (q : Nat)), some (pRows K (vecsI q 0)), none, none, none, none]) (es_set (Ev.is (ee_lst (ea_cons (ee_tup (K := K) ea_nil (by simp)) ea_nil) (by simp)) rfl)) (er_seq (es_forN n (fun k => [some (pI (n : Nat)), some (pI (q : Nat)), some (pRows K (vecsI q k)), none, none, none, none]) (fun _ => []) rfl (Sub.refl _) (ei_rng1 (n := n) (ea_cons (ee_var rfl) ea_nil) (by omega)) (fun k hk => ?_)) (er_ret (ee_var rfl))))
    have hlen : (vecsI q k).length ≤ 729 := Nat.le_trans (vecsI_len h2) (Nat.le_trans (Nat.pow_le_pow_right (by omega) (show k ≤ 6 by omega)) (by decide))
    have hlast : extK q (vecsI q k) (vecsI q k).length = vecsI q (k + 1) := by unfold extK; rw [List.take_length]; rfl
    have hmem := @vecsI_mem q k
    rw [← hlast]
    generalize vecsI q k = l at hlen hmem
    have hex : ∀ j, (extK q l j).length ≤ 2187 := fun j => Nat.le_trans extK_len (Nat.le_trans (Nat.mul_le_mul hlen h2) (by decide))
    refine ⟨_, [some (pI (n : Nat)), some (pI (q : Nat)), some (pRows K (extK q l l.length)), none, none, none, none], eg_name, es_newOwnS ea_nil (by simp) (fun a => es_seq (ρ1 := [some (pI (n : Nat)), some (pI (q : Nat)), some (pRows K l), none, some (pA a), none, none]) (w1 := [oLst a ((extK q l l.length).map (pRow K))]) (es_forM l (pRow K) (fun _ => [some (pI (n : Nat)), some (pI (q : Nat)), some (pRows K l), none, some (pA a), none, none]) (fun j => [oLst a ((extK q l j).map (pRow K))]) rfl (by walk_at "sub") (ei_list (ee_var rfl)) (fun j x hx => ?_)) (Es.freeze (i := 4) (w := []) (w2 := []) rfl (Es.sub (es_set (ee_var rfl)) (by walk_at "sub")))), Sub.refl _⟩
    have hxl := (hmem x (List.mem_of_getElem? hx)).2
    refine ⟨_, [some (pI (n : Nat)), some (pI (q : Nat)), some (pRows K l), none, some (pA a), some (pRow K x), none], eg_name, Es.is (es_extend (w1 := []) (w2 := []) (i := 4) (qs := (extI q x).map (pRow K)) rfl (Ev.is (ee_lcY (vs := [6]) (List.range q) (fun c => pI (c : Nat)) (fun c => pRow K (x ++ [(c : Int)])) (ei_rng1 (n := q) (ea_cons (ee_var rfl) ea_nil) (by omega)) (wp_name (by simp)) (by rw [List.length_range]; omega) (fun c hc => ⟨_, eg_name, Ev.is (ee_catT (ee_var rfl) (ee_tup (ea_cons (ee_var rfl) ea_nil) (by simp)) (by rw [List.length_map, hxl]; simp; omega)) (by rw [pRow, List.map_append]; rfl)⟩)) (by rw [extI, List.map_map]; rfl)) (by have := hex j; rw [List.length_map, List.length_map, extI, List.length_map, List.length_range]; omega)) (by rw [extK_succ hx, List.map_append]; rfl), by walk_at "sub"⟩
)
  exact ⟨fd, _, [], G, gl_l_all_rows T, F.kp, F.bindsN (fun _ _ _ _ _ _ us hl => match us, hl with | [_, _], _ => rfl), .nil⟩
end
end J
/-! ## J11 -/
set_option Elab.async false
set_option linter.all false
set_option maxRecDepth 100000
set_option maxHeartbeats 1000000
namespace J
open PySem L2
section
variable {K : PySem.W.Frag} {ρ ρ' ρ1 : En} {w w' w1 w2 w3 r u u' : List Ow} {t ta tb tc : TE} {P P' P1 P2 : Pr} {i : Nat}
/-! ### isinstance, by what is said of the value -/
def TyP (K : PySem.W.Frag) (P : Pr) (t : Value) : Prop := ∀ F H v, Ext F H → P.p F v → TyX K H v t
theorem ty_int {i : Int} : TyP K (pI i) (.type "int") := fun F H v e (h : v = .int i) => h ▸ .base (.int i)
theorem ty_bl {b : Bool} : TyP K (pB b) (.type "bool") := fun F H v e (h : v = .bl b) => h ▸ .base (.bl b)
theorem ty_tup {ps : List Pr} : TyP K (pTup K ps) (.type "tuple") := fun F H v e ⟨a, vs, h1, h2, _⟩ => by
  subst h1
  rcases e.t h2 with (h | ⟨o, h⟩) | ⟨o, its, n, h, c, _⟩
  · exact .base (.tup h)
  · exact .fTuple h
  · exact .kTuple h c
theorem ty_lst {ps : List Pr} : TyP K (pLst ps) (.type "list") := fun F H v e ⟨a, vs, h1, h2, _⟩ => by
  subst h1
  exact .base (.lst (e _ _ h2))
theorem ee_isi {t : Value} {n : String} {b : Bool} {ta : TE} (ha : Ee ρ w ta P) (hT : TyP K P t) (hk : PySem.W.kitOne K t (.type n) = some b) : Ee ρ w (tCB (rIsi K) (tCons ta (tCons (tC (.ty n)) tNil))) (pB b) :=
  ee_cb (ea_cons ha (ea_cons ee_c ea_nil)) fun vs F H Q p g k => by
    obtain ⟨v, u, rfl, h1, h2⟩ := p.two
    have h2 : u = .ty n := h2
    subst h2
    exact ⟨v, _, t, .type n, b, rfl, .ty n, hT F H v g.ex h1, hk, k _ F H (Step.refl g) rfl⟩
theorem kit_ii : PySem.W.kitOne K (.type "int") (.type "int") = some true := by rfl
theorem kit_ib : PySem.W.kitOne K (.type "int") (.type "bool") = some false := by rfl
theorem kit_bb : PySem.W.kitOne K (.type "bool") (.type "bool") = some true := by rfl
theorem kit_tb : PySem.W.kitOne K (.type "tuple") (.type "bool") = some false := by rfl
theorem kit_ti : PySem.W.kitOne K (.type "tuple") (.type "int") = some false := by rfl
theorem kit_ts : PySem.W.kitOne K (.type "tuple") (.type "str") = some false := by rfl
theorem kit_td : PySem.W.kitOne K (.type "tuple") (.type "dict") = some false := by rfl
theorem kit_tl : PySem.W.kitOne K (.type "tuple") (.type "list") = some false := by rfl
theorem kit_tt : PySem.W.kitOne K (.type "tuple") (.type "tuple") = some true := by rfl
theorem kit_lb : PySem.W.kitOne K (.type "list") (.type "bool") = some false := by rfl
theorem kit_li : PySem.W.kitOne K (.type "list") (.type "int") = some false := by rfl
theorem kit_ls : PySem.W.kitOne K (.type "list") (.type "str") = some false := by rfl
theorem kit_ld : PySem.W.kitOne K (.type "list") (.type "dict") = some false := by rfl
theorem kit_ll : PySem.W.kitOne K (.type "list") (.type "list") = some true := by rfl
theorem kit_lt : PySem.W.kitOne K (.type "list") (.type "tuple") = some false := by rfl
end
end J
/-! ## W23 -/
set_option Elab.async false
set_option linter.all false
set_option maxRecDepth 100000
set_option maxHeartbeats 600000
namespace J
open PySem L2 KT
local macro_rules | `(tactic| walk_at "sub") => `(tactic| repeat (first | exact Sub.nil | (with_reducible refine Sub.keep (Pr.le_refl _) ?_) | refine Sub.drop ?_ | refine Sub.keepV (by first | rfl | (simp; done) | omega) ?_ | refine Sub.keep (Pr.le_refl _) ?_))
section
variable {P : Program} {wd : World} {K : PySem.W.Frag} {mg : Str → Option Value} {base : Heap}
def sp_l_whole (K : PySem.W.Frag) : Sp := Pm (I := Int) (fun _ => True) (fun i => [pI i]) (fun _ => []) (fun _ => pB true) (fun _ => [])
theorem tl_l_whole {i : Int} : Tl (sp_l_whole K) [pI i] [] (pB true) [] := tl_pm (I := Int) i trivial
abbrev C_l_whole (P : Program) (wd : World) (K : PySem.W.Frag) (mg : Str → Option Value) (base : Heap) : Prop := CallG P wd K mg base 1 "_law_whole" ["_law_one"] [] (sp_l_whole K)
theorem ok_l_whole (T : Tx K mg)  : C_l_whole P wd K mg base := by
  obtain ⟨fd, F⟩ := fd_l_whole T
  have G : FnOk P wd K mg base CX0 1 _ fd ["_law_one"] (sp_l_whole K) := fn_pm F sc_l_whole (fun _ _ => rfl) (fun cdv A outer s H E hr i hi => by
    refine ⟨_, (pss_one (ps_ret (pe_and (pe_callB (KX.isi (K := K)) (by rfl) (fr_isinstance T) (by decide +kernel) (pa_cons (pv 0) (pa_cons (pe_bltn (v := .ty "int") (u := .type "int") (by rfl) (fr_int T) (by decide +kernel) rfl) pa_nil))) (pe_one (pe_not (pe_callB (KX.isi (K := K)) (by rfl) (fr_isinstance T) (by decide +kernel) (pa_cons (pv 0) (pa_cons (pe_bltn (v := .ty "bool") (u := .type "bool") (by rfl) (fr_bool T) (by decide +kernel) rfl) pa_nil)))))))), ?_⟩
    show Eb [some (pI i)] [] _ (pB true) []
    exact Er.eb (er_ret (ee_and (a := true) (b := true) (ee_isi (ee_var rfl) ty_int kit_ii) (fun _ => ee_not (a := false) (ee_isi (ee_var rfl) ty_int kit_ib))))
)
  exact ⟨fd, _, [], G, gl_l_whole T, F.kp, F.bindsN (fun _ _ _ _ _ _ us hl => match us, hl with | [_], _ => rfl), .nil⟩
end
end J
/-! ## W24 -/
set_option Elab.async false
set_option linter.all false
set_option maxRecDepth 100000
set_option maxHeartbeats 600000
namespace J
open PySem L2 KT
local macro_rules | `(tactic| walk_at "sub") => `(tactic| repeat (first | exact Sub.nil | (with_reducible refine Sub.keep (Pr.le_refl _) ?_) | refine Sub.drop ?_ | refine Sub.keepV (by first | rfl | (simp; done) | omega) ?_ | refine Sub.keep (Pr.le_refl _) ?_))
section
variable {P : Program} {wd : World} {K : PySem.W.Frag} {mg : Str → Option Value} {base : Heap}
theorem non_of {P : Pr} (h : ∀ F v, P.p F v → v ≠ V.non) : ∀ F v, P.p F v → decide (v = V.non) = false := fun F v q => decide_eq_false (h F v q)
theorem non_i {i : Int} : ∀ F v, (pI i).p F v → decide (v = V.non) = false := non_of fun F v (h : v = .int i) e => by rw [h] at e; cases e
theorem non_b {b : Bool} : ∀ F v, (pB b).p F v → decide (v = V.non) = false := non_of fun F v (h : v = .bl b) e => by rw [h] at e; cases e
abbrev C_l_alikeF (P : Program) (wd : World) (K : PySem.W.Frag) (mg : Str → Option Value) (base : Heap) : Prop := CallG P wd K mg base 1 "_law_alike" ["_law_found", "_law_due"] [] (fun _ _ _ _ => False)
theorem ok_l_alikeF (T : Tx K mg) : C_l_alikeF P wd K mg base := by
  obtain ⟨fd, F⟩ := fd_l_alike T
  have G : FnOk P wd K mg base CX0 1 (He.fAd K ("_law_alike", none)) fd ["_law_found", "_law_due"] (fun _ _ _ _ => False) := F.ok sc_l_alike (fun vs H Q E h => h.elim) (fun cdv A outer s H vs Q E hr h => h.elim)
  exact ⟨fd, _, [], G, gl_l_alike T, F.kp, F.bindsN (fun _ _ _ _ _ _ us hl => match us, hl with | [_, _], _ => rfl), .nil⟩
def sp_l_alike0 (K : PySem.W.Frag) : Sp := Pm (I := (Int × Int) ⊕ (Bool × Bool)) (fun _ => True) (fun i => i.elim (fun p => [pI p.1, pI p.2]) (fun p => [pB p.1, pB p.2])) (fun _ => []) (fun i => i.elim (fun p => pB (decide (p.1 = p.2))) (fun p => pB (decide (p.1 = p.2)))) (fun _ => [])
theorem tl_l_alikeI {i j : Int} : Tl (sp_l_alike0 K) [pI i, pI j] [] (pB (decide (i = j))) [] := tl_pm (I := (Int × Int) ⊕ (Bool × Bool)) (.inl (i, j)) trivial
theorem tl_l_alikeB {i j : Bool} : Tl (sp_l_alike0 K) [pB i, pB j] [] (pB (decide (i = j))) [] := tl_pm (I := (Int × Int) ⊕ (Bool × Bool)) (.inr (i, j)) trivial
abbrev C_l_alike0 (P : Program) (wd : World) (K : PySem.W.Frag) (mg : Str → Option Value) (base : Heap) : Prop := CallG P wd K mg base 2 "_law_alike" ["_law_found", "_law_due"] [] (sp_l_alike0 K)
theorem ok_l_alike0 (T : Tx K mg) (c_l_whole : C_l_whole P wd K mg base) (c_l_alike : C_l_alikeF P wd K mg base) : C_l_alike0 P wd K mg base := by
  obtain ⟨fd, F⟩ := fd_l_alike T
  have G : FnOk P wd K mg base CX0 2 _ fd ["_law_found", "_law_due"] (sp_l_alike0 K) := fn_pm F sc_l_alike (fun i _ => by cases i <;> rfl) (fun cdv A outer s H E hr i hi => by
    refine ⟨_, (pss_cons (ps_if (PW.pt (pw_or (pt_cmpR op_isN (pv 1) pe_non (nomark _)) (pw_or1 (pt_cmpR op_isN (pv 0) pe_non (nomark _))))) (pss_one (ps_ret (pe_and (pe_cmpR op_isN (pv 0) pe_non (nomark _)) (pe_one (pe_cmpR op_isN (pv 1) pe_non (nomark _)))))) pss_nil)
      (pss_cons (ps_if (pt_val (pe_callB (KX.isi (K := K)) (by rfl) (fr_isinstance T) (by decide +kernel) (pa_cons (pv 1) (pa_cons (pe_bltn (v := .ty "bool") (u := .type "bool") (by rfl) (fr_bool T) (by decide +kernel) rfl) pa_nil)))) (pss_one (ps_ret (pe_and (pe_callB (KX.isi (K := K)) (by rfl) (fr_isinstance T) (by decide +kernel) (pa_cons (pv 0) (pa_cons (pe_bltn (v := .ty "bool") (u := .type "bool") (by rfl) (fr_bool T) (by decide +kernel) rfl) pa_nil))) (pe_one (pe_cmpR op_eq (pv 0) (pv 1) (nomark _)))))) pss_nil)
      (pss_cons (ps_if (pt_val (pe_callB (KX.isi (K := K)) (by rfl) (fr_isinstance T) (by decide +kernel) (pa_cons (pv 1) (pa_cons (pe_bltn (v := .ty "int") (u := .type "int") (by rfl) (fr_int T) (by decide +kernel) rfl) pa_nil)))) (pss_one (ps_ret (pe_and (pe_callG c_l_whole hr (by rfl) (pa_cons (pv 0) pa_nil)) (pe_one (pe_cmpR op_eq (pv 0) (pv 1) (nomark _)))))) pss_nil)
      (pss_cons (ps_if (pt_val (pe_callB (KX.isi (K := K)) (by rfl) (fr_isinstance T) (by decide +kernel) (pa_cons (pv 1) (pa_cons (pe_bltn (v := .ty "str") (u := .type "str") (by rfl) (fr_str T) (by decide +kernel) rfl) pa_nil)))) (pss_one (ps_ret (pe_and (pe_callB (KX.isi (K := K)) (by rfl) (fr_isinstance T) (by decide +kernel) (pa_cons (pv 0) (pa_cons (pe_bltn (v := .ty "str") (u := .type "str") (by rfl) (fr_str T) (by decide +kernel) rfl) pa_nil))) (pe_one (pe_cmpR op_eq (pv 0) (pv 1) (nomark _)))))) pss_nil)
      (pss_cons (ps_if (pt_val (pe_callB (KX.isi (K := K)) (by rfl) (fr_isinstance T) (by decide +kernel) (pa_cons (pv 1) (pa_cons (pe_bltn (v := .ty "dict") (u := .type "dict") (by rfl) (fr_dict T) (by decide +kernel) rfl) pa_nil)))) pss_never pss_nil)
      (pss_cons (ps_if (PW.pt (pw_or (pt_cmpR op_ne (pe_callB (KX.isi (K := K)) (by rfl) (fr_isinstance T) (by decide +kernel) (pa_cons (pv 1) (pa_cons (pe_bltn (v := .ty "list") (u := .type "list") (by rfl) (fr_list T) (by decide +kernel) rfl) pa_nil))) (pe_callB (KX.isi (K := K)) (by rfl) (fr_isinstance T) (by decide +kernel) (pa_cons (pv 0) (pa_cons (pe_bltn (v := .ty "list") (u := .type "list") (by rfl) (fr_list T) (by decide +kernel) rfl) pa_nil))) (nomark _)) (pw_or1 (pt_cmpR op_ne (pe_callB (KX.isi (K := K)) (by rfl) (fr_isinstance T) (by decide +kernel) (pa_cons (pv 1) (pa_cons (pe_bltn (v := .ty "tuple") (u := .type "tuple") (by rfl) (fr_tuple T) (by decide +kernel) rfl) pa_nil))) (pe_callB (KX.isi (K := K)) (by rfl) (fr_isinstance T) (by decide +kernel) (pa_cons (pv 0) (pa_cons (pe_bltn (v := .ty "tuple") (u := .type "tuple") (by rfl) (fr_tuple T) (by decide +kernel) rfl) pa_nil))) (nomark _))))) (pss_one (ps_ret pe_bl)) pss_nil)
      (pss_one (ps_ret (pe_and (pe_cmpR op_eq (pe_callB (KX.len (K := K)) (by rfl) (fr_len T) PySem.boot_len (pa_cons (pv 0) pa_nil)) (pe_callB (KX.len (K := K)) (by rfl) (fr_len T) PySem.boot_len (pa_cons (pv 1) pa_nil)) (nomark _)) (pe_one (pe_callB (KX.all (K := K) rfl) (by rfl) (fr_all T) (by decide +kernel) (pa_cons (pe_lc (own := [("_law_at", 3)]) (by rfl) sc_l_alike.nd (pi_range1 (by rfl) (fr_range T) (pa_cons (pe_callB (KX.len (K := K)) (by rfl) (fr_len T) PySem.boot_len (pa_cons (pv 1) pa_nil)) pa_nil)) (blkOk_by (by kernel_rfl)) (fun _ _ _ _ _ => by exact (pg_name (i := 3) sc_l_alike.nd rfl (Or.inl rfl))) (fun _ _ _ _ _ => pts_nil) (fun _ _ _ _ _ => (pe_callG c_l_alike hr (by rfl) (pa_cons (pe_ix (KX.ixL (K := K)) (pv 0) (pv 3) (fun _ _ => rfl)) (pa_cons (pe_ix (KX.ixL (K := K)) (pv 1) (pv 3) (fun _ _ => rfl)) pa_nil))))) pa_nil)))))))))))), ?_⟩
    cases i with
    | inl p =>
      obtain ⟨i, j⟩ := p
      show Eb [some (pI i), some (pI j), none, none] [] _ (pB (decide (i = j))) []
      refine Er.eb (er_ifr (b := false) (et_or (a := false) (b := false) (et_test (ee_isN (ee_var rfl) non_i)) (fun _ => et_test (ee_isN (ee_var rfl) non_i))) (fun h => nomatch h) (fun _ => ?_))
      refine er_ifr (b := false) (et_test (ee_isi (ee_var rfl) ty_int kit_ib)) (fun h => nomatch h) (fun _ => ?_)
      exact er_ifr (b := true) (et_test (ee_isi (ee_var rfl) ty_int kit_ii)) (fun _ => Er.is (er_ret (ee_and (a := true) (ee_call (ea_cons (ee_var rfl) ea_nil) tl_l_whole) (fun _ => ee_eqI (ee_var rfl) (ee_var rfl)))) (congrArg pB (Bool.true_and _))) (fun h => nomatch h)
    | inr p =>
      obtain ⟨i, j⟩ := p
      show Eb [some (pB i), some (pB j), none, none] [] _ (pB (decide (i = j))) []
      refine Er.eb (er_ifr (b := false) (et_or (a := false) (b := false) (et_test (ee_isN (ee_var rfl) non_b)) (fun _ => et_test (ee_isN (ee_var rfl) non_b))) (fun h => nomatch h) (fun _ => ?_))
      exact er_ifr (b := true) (et_test (ee_isi (ee_var rfl) ty_bl kit_bb)) (fun _ => Er.is (er_ret (ee_and (a := true) (ee_isi (ee_var rfl) ty_bl kit_bb) (fun _ => ee_eq (ee_var rfl) (ee_var rfl) rfl))) (congrArg pB (by cases i <;> cases j <;> rfl))) (fun h => nomatch h))
  exact ⟨fd, _, [], G, gl_l_alike T, F.kp, F.bindsN (fun _ _ _ _ _ _ us hl => match us, hl with | [_, _], _ => rfl), .nil⟩
end
end J
/-! ## W25 -/
set_option Elab.async false
set_option linter.all false
set_option maxRecDepth 100000
set_option maxHeartbeats 600000
namespace J
open PySem L2 KT
local macro_rules | `(tactic| walk_at "sub") => `(tactic| repeat (first | exact Sub.nil | (with_reducible refine Sub.keep (Pr.le_refl _) ?_) | refine Sub.drop ?_ | refine Sub.keepV (by first | rfl | (simp; done) | omega) ?_ | refine Sub.keep (Pr.le_refl _) ?_))
section
variable {P : Program} {wd : World} {K : PySem.W.Frag} {mg : Str → Option Value} {base : Heap}
theorem all_eq {α : Type} [DecidableEq α] (d : α) {l m : List α} : (decide ((l.length : Int) = (m.length : Int)) && (List.range m.length).all fun k => decide (l.getD k d = m.getD k d)) = decide (l = m) := by
  rw [Bool.eq_iff_iff, Bool.and_eq_true, decide_eq_true_iff, List.all_eq_true, decide_eq_true_iff]
  constructor
  · rintro ⟨h1, h2⟩
    refine List.ext_getElem (by omega) fun k hk1 hk2 => ?_
    have h3 := of_decide_eq_true (h2 k (List.mem_range.mpr hk2))
    rw [List.getD_eq_getElem?_getD, List.getD_eq_getElem?_getD, List.getElem?_eq_getElem hk1, List.getElem?_eq_getElem hk2] at h3
    exact h3
  · rintro rfl
    exact ⟨rfl, fun _ _ => decide_eq_true rfl⟩
def sp_l_alike1 (K : PySem.W.Frag) : Sp := Pm (I := List Int × List Int) (fun i => i.1.length ≤ 1000 ∧ i.2.length ≤ 1000) (fun i => [pRow K i.1, pRow K i.2]) (fun _ => []) (fun i => pB (decide (i.1 = i.2))) (fun _ => [])
theorem tl_l_alike1 {l m : List Int} (h : l.length ≤ 1000 ∧ m.length ≤ 1000) : Tl (sp_l_alike1 K) [pRow K l, pRow K m] [] (pB (decide (l = m))) [] := tl_pm (I := List Int × List Int) (l, m) h
abbrev C_l_alike1 (P : Program) (wd : World) (K : PySem.W.Frag) (mg : Str → Option Value) (base : Heap) : Prop := CallG P wd K mg base 3 "_law_alike" ["_law_found", "_law_due"] [] (sp_l_alike1 K)
theorem ok_l_alike1 (T : Tx K mg) (c_l_whole : C_l_whole P wd K mg base) (c_l_alike : C_l_alike0 P wd K mg base) : C_l_alike1 P wd K mg base := by
  obtain ⟨fd, F⟩ := fd_l_alike T
  have G : FnOk P wd K mg base CX0 3 _ fd ["_law_found", "_law_due"] (sp_l_alike1 K) := fn_pm F sc_l_alike (fun _ _ => rfl) (fun cdv A outer s H E hr i hi => by
    obtain ⟨l, m⟩ := i
    obtain ⟨hl, hm⟩ : l.length ≤ 1000 ∧ m.length ≤ 1000 := hi
    refine ⟨_, (pss_cons (ps_if (PW.pt (pw_or (pt_cmpR op_isN (pv 1) pe_non (nomark _)) (pw_or1 (pt_cmpR op_isN (pv 0) pe_non (nomark _))))) (pss_one (ps_ret (pe_and (pe_cmpR op_isN (pv 0) pe_non (nomark _)) (pe_one (pe_cmpR op_isN (pv 1) pe_non (nomark _)))))) pss_nil)
      (pss_cons (ps_if (pt_val (pe_callB (KX.isi (K := K)) (by rfl) (fr_isinstance T) (by decide +kernel) (pa_cons (pv 1) (pa_cons (pe_bltn (v := .ty "bool") (u := .type "bool") (by rfl) (fr_bool T) (by decide +kernel) rfl) pa_nil)))) (pss_one (ps_ret (pe_and (pe_callB (KX.isi (K := K)) (by rfl) (fr_isinstance T) (by decide +kernel) (pa_cons (pv 0) (pa_cons (pe_bltn (v := .ty "bool") (u := .type "bool") (by rfl) (fr_bool T) (by decide +kernel) rfl) pa_nil))) (pe_one (pe_cmpR op_eq (pv 0) (pv 1) (nomark _)))))) pss_nil)
      (pss_cons (ps_if (pt_val (pe_callB (KX.isi (K := K)) (by rfl) (fr_isinstance T) (by decide +kernel) (pa_cons (pv 1) (pa_cons (pe_bltn (v := .ty "int") (u := .type "int") (by rfl) (fr_int T) (by decide +kernel) rfl) pa_nil)))) (pss_one (ps_ret (pe_and (pe_callG c_l_whole hr (by rfl) (pa_cons (pv 0) pa_nil)) (pe_one (pe_cmpR op_eq (pv 0) (pv 1) (nomark _)))))) pss_nil)
      (pss_cons (ps_if (pt_val (pe_callB (KX.isi (K := K)) (by rfl) (fr_isinstance T) (by decide +kernel) (pa_cons (pv 1) (pa_cons (pe_bltn (v := .ty "str") (u := .type "str") (by rfl) (fr_str T) (by decide +kernel) rfl) pa_nil)))) (pss_one (ps_ret (pe_and (pe_callB (KX.isi (K := K)) (by rfl) (fr_isinstance T) (by decide +kernel) (pa_cons (pv 0) (pa_cons (pe_bltn (v := .ty "str") (u := .type "str") (by rfl) (fr_str T) (by decide +kernel) rfl) pa_nil))) (pe_one (pe_cmpR op_eq (pv 0) (pv 1) (nomark _)))))) pss_nil)
      (pss_cons (ps_if (pt_val (pe_callB (KX.isi (K := K)) (by rfl) (fr_isinstance T) (by decide +kernel) (pa_cons (pv 1) (pa_cons (pe_bltn (v := .ty "dict") (u := .type "dict") (by rfl) (fr_dict T) (by decide +kernel) rfl) pa_nil)))) pss_never pss_nil)
      (pss_cons (ps_if (PW.pt (pw_or (pt_cmpR op_ne (pe_callB (KX.isi (K := K)) (by rfl) (fr_isinstance T) (by decide +kernel) (pa_cons (pv 1) (pa_cons (pe_bltn (v := .ty "list") (u := .type "list") (by rfl) (fr_list T) (by decide +kernel) rfl) pa_nil))) (pe_callB (KX.isi (K := K)) (by rfl) (fr_isinstance T) (by decide +kernel) (pa_cons (pv 0) (pa_cons (pe_bltn (v := .ty "list") (u := .type "list") (by rfl) (fr_list T) (by decide +kernel) rfl) pa_nil))) (nomark _)) (pw_or1 (pt_cmpR op_ne (pe_callB (KX.isi (K := K)) (by rfl) (fr_isinstance T) (by decide +kernel) (pa_cons (pv 1) (pa_cons (pe_bltn (v := .ty "tuple") (u := .type "tuple") (by rfl) (fr_tuple T) (by decide +kernel) rfl) pa_nil))) (pe_callB (KX.isi (K := K)) (by rfl) (fr_isinstance T) (by decide +kernel) (pa_cons (pv 0) (pa_cons (pe_bltn (v := .ty "tuple") (u := .type "tuple") (by rfl) (fr_tuple T) (by decide +kernel) rfl) pa_nil))) (nomark _))))) (pss_one (ps_ret pe_bl)) pss_nil)
      (pss_one (ps_ret (pe_and (pe_cmpR op_eq (pe_callB (KX.len (K := K)) (by rfl) (fr_len T) PySem.boot_len (pa_cons (pv 0) pa_nil)) (pe_callB (KX.len (K := K)) (by rfl) (fr_len T) PySem.boot_len (pa_cons (pv 1) pa_nil)) (nomark _)) (pe_one (pe_callB (KX.all (K := K) rfl) (by rfl) (fr_all T) (by decide +kernel) (pa_cons (pe_lc (own := [("_law_at", 3)]) (by rfl) sc_l_alike.nd (pi_range1 (by rfl) (fr_range T) (pa_cons (pe_callB (KX.len (K := K)) (by rfl) (fr_len T) PySem.boot_len (pa_cons (pv 1) pa_nil)) pa_nil)) (blkOk_by (by kernel_rfl)) (fun _ _ _ _ _ => by exact (pg_name (i := 3) sc_l_alike.nd rfl (Or.inl rfl))) (fun _ _ _ _ _ => pts_nil) (fun _ _ _ _ _ => (pe_callG c_l_alike hr (by rfl) (pa_cons (pe_ix (KX.ixT (K := K)) (pv 0) (pv 3) (fun _ _ => rfl)) (pa_cons (pe_ix (KX.ixT (K := K)) (pv 1) (pv 3) (fun _ _ => rfl)) pa_nil))))) pa_nil)))))))))))), ?_⟩
    show Eb [some (pRow K l), some (pRow K m), none, none] [] _ (pB (decide (l = m))) []
    refine Er.eb (er_ifr (b := false) (et_or (a := false) (b := false) (et_test (ee_isN (ee_var rfl) not_non_ref)) (fun _ => et_test (ee_isN (ee_var rfl) not_non_ref))) (fun h => nomatch h) (fun _ => ?_))
    refine er_ifr (b := false) (et_test (ee_isi (ee_var rfl) ty_tup kit_tb)) (fun h => nomatch h) (fun _ => ?_)
    refine er_ifr (b := false) (et_test (ee_isi (ee_var rfl) ty_tup kit_ti)) (fun h => nomatch h) (fun _ => ?_)
    refine er_ifr (b := false) (et_test (ee_isi (ee_var rfl) ty_tup kit_ts)) (fun h => nomatch h) (fun _ => ?_)
    refine er_ifr (b := false) (et_test (ee_isi (ee_var rfl) ty_tup kit_td)) (fun h => nomatch h) (fun _ => ?_)
    refine er_ifr (b := false) (et_or (a := false) (b := false) (et_test (Ev.is (ee_ne (ee_isi (ee_var rfl) ty_tup kit_tl) (ee_isi (ee_var rfl) ty_tup kit_tl) rfl) (congrArg pB (by simp)))) (fun _ => et_test (Ev.is (ee_ne (ee_isi (ee_var rfl) ty_tup kit_tt) (ee_isi (ee_var rfl) ty_tup kit_tt) rfl) (congrArg pB (by simp))))) (fun h => nomatch h) (fun _ => ?_)
    refine Er.is (er_ret (ee_and (a := decide ((l.length : Int) = (m.length : Int))) (b := (List.range m.length).all fun k => decide (l.getD k 0 = m.getD k 0)) (ee_eqI (ee_lenT (ea_cons (ee_var rfl) ea_nil) (by rw [List.length_map])) (ee_lenT (ea_cons (ee_var rfl) ea_nil) (by rw [List.length_map]))) (fun h => ?_))) (congrArg pB (all_eq 0))
    have h := of_decide_eq_true h
    refine ee_all (ea_cons (ee_lcY (vs := [3]) (List.range m.length) (fun k => pI (k : Nat)) (fun k => pB (decide (l.getD k 0 = m.getD k 0))) (ei_rng1 (n := m.length) (ea_cons (ee_lenT (ea_cons (ee_var rfl) ea_nil) (by rw [List.length_map])) ea_nil) (by omega)) (wp_name (by simp)) (by rw [List.length_range]; omega) (fun k hk => ?_)) ea_nil)
    have hk := List.mem_range.mp hk
    exact ⟨_, eg_name, ee_call (ea_cons (ee_ixT (n := k) (P := pI (l.getD k 0)) (ee_var rfl) (ee_var rfl) (ixN_nat (by rw [List.length_map]; omega)) (getD_pI (by omega))) (ea_cons (ee_ixT (n := k) (P := pI (m.getD k 0)) (ee_var rfl) (ee_var rfl) (ixN_nat (by rw [List.length_map]; omega)) (getD_pI hk)) ea_nil)) tl_l_alikeI⟩)
  exact ⟨fd, _, [], G, gl_l_alike T, F.kp, F.bindsN (fun _ _ _ _ _ _ us hl => match us, hl with | [_, _], _ => rfl), .nil⟩
theorem getD_row {L : List (List Int)} {k : Nat} (hk : k < L.length) : (L.map (pRow K))[k]? = some (pRow K (L.getD k [])) := by
  rw [List.getElem?_map, List.getElem?_eq_getElem hk, List.getD_eq_getElem?_getD, List.getElem?_eq_getElem hk]; rfl
theorem getD_mem {L : List (List Int)} {k : Nat} (hk : k < L.length) : L.getD k [] ∈ L := by
  rw [List.getD_eq_getElem?_getD, List.getElem?_eq_getElem hk]; exact List.getElem_mem hk
def sp_l_alike2 (K : PySem.W.Frag) : Sp := Pm (I := List (List Int) × List (List Int)) (fun i => (i.1.length ≤ 1000 ∧ ∀ r ∈ i.1, r.length ≤ 1000) ∧ (i.2.length ≤ 1000 ∧ ∀ r ∈ i.2, r.length ≤ 1000)) (fun i => [pRows K i.1, pRows K i.2]) (fun _ => []) (fun i => pB (decide (i.1 = i.2))) (fun _ => [])
theorem tl_l_alike2 {l m : List (List Int)} (h : (l.length ≤ 1000 ∧ ∀ r ∈ l, r.length ≤ 1000) ∧ (m.length ≤ 1000 ∧ ∀ r ∈ m, r.length ≤ 1000)) : Tl (sp_l_alike2 K) [pRows K l, pRows K m] [] (pB (decide (l = m))) [] := tl_pm (I := List (List Int) × List (List Int)) (l, m) h
abbrev C_l_alike2 (P : Program) (wd : World) (K : PySem.W.Frag) (mg : Str → Option Value) (base : Heap) : Prop := CallG P wd K mg base 4 "_law_alike" ["_law_found", "_law_due"] [] (sp_l_alike2 K)
theorem ok_l_alike2 (T : Tx K mg) (c_l_whole : C_l_whole P wd K mg base) (c_l_alike : C_l_alike1 P wd K mg base) : C_l_alike2 P wd K mg base := by
  obtain ⟨fd, F⟩ := fd_l_alike T
  have G : FnOk P wd K mg base CX0 4 _ fd ["_law_found", "_law_due"] (sp_l_alike2 K) := fn_pm F sc_l_alike (fun _ _ => rfl) (fun cdv A outer s H E hr i hi => by
    obtain ⟨l, m⟩ := i
    obtain ⟨⟨hl, hl2⟩, hm, hm2⟩ : (l.length ≤ 1000 ∧ ∀ r ∈ l, r.length ≤ 1000) ∧ (m.length ≤ 1000 ∧ ∀ r ∈ m, r.length ≤ 1000) := hi
    refine ⟨_, (pss_cons (ps_if (PW.pt (pw_or (pt_cmpR op_isN (pv 1) pe_non (nomark _)) (pw_or1 (pt_cmpR op_isN (pv 0) pe_non (nomark _))))) (pss_one (ps_ret (pe_and (pe_cmpR op_isN (pv 0) pe_non (nomark _)) (pe_one (pe_cmpR op_isN (pv 1) pe_non (nomark _)))))) pss_nil)
      (pss_cons (ps_if (pt_val (pe_callB (KX.isi (K := K)) (by rfl) (fr_isinstance T) (by decide +kernel) (pa_cons (pv 1) (pa_cons (pe_bltn (v := .ty "bool") (u := .type "bool") (by rfl) (fr_bool T) (by decide +kernel) rfl) pa_nil)))) (pss_one (ps_ret (pe_and (pe_callB (KX.isi (K := K)) (by rfl) (fr_isinstance T) (by decide +kernel) (pa_cons (pv 0) (pa_cons (pe_bltn (v := .ty "bool") (u := .type "bool") (by rfl) (fr_bool T) (by decide +kernel) rfl) pa_nil))) (pe_one (pe_cmpR op_eq (pv 0) (pv 1) (nomark _)))))) pss_nil)
      (pss_cons (ps_if (pt_val (pe_callB (KX.isi (K := K)) (by rfl) (fr_isinstance T) (by decide +kernel) (pa_cons (pv 1) (pa_cons (pe_bltn (v := .ty "int") (u := .type "int") (by rfl) (fr_int T) (by decide +kernel) rfl) pa_nil)))) (pss_one (ps_ret (pe_and (pe_callG c_l_whole hr (by rfl) (pa_cons (pv 0) pa_nil)) (pe_one (pe_cmpR op_eq (pv 0) (pv 1) (nomark _)))))) pss_nil)
      (pss_cons (ps_if (pt_val (pe_callB (KX.isi (K := K)) (by rfl) (fr_isinstance T) (by decide +kernel) (pa_cons (pv 1) (pa_cons (pe_bltn (v := .ty "str") (u := .type "str") (by rfl) (fr_str T) (by decide +kernel) rfl) pa_nil)))) (pss_one (ps_ret (pe_and (pe_callB (KX.isi (K := K)) (by rfl) (fr_isinstance T) (by decide +kernel) (pa_cons (pv 0) (pa_cons (pe_bltn (v := .ty "str") (u := .type "str") (by rfl) (fr_str T) (by decide +kernel) rfl) pa_nil))) (pe_one (pe_cmpR op_eq (pv 0) (pv 1) (nomark _)))))) pss_nil)
      (pss_cons (ps_if (pt_val (pe_callB (KX.isi (K := K)) (by rfl) (fr_isinstance T) (by decide +kernel) (pa_cons (pv 1) (pa_cons (pe_bltn (v := .ty "dict") (u := .type "dict") (by rfl) (fr_dict T) (by decide +kernel) rfl) pa_nil)))) pss_never pss_nil)
      (pss_cons (ps_if (PW.pt (pw_or (pt_cmpR op_ne (pe_callB (KX.isi (K := K)) (by rfl) (fr_isinstance T) (by decide +kernel) (pa_cons (pv 1) (pa_cons (pe_bltn (v := .ty "list") (u := .type "list") (by rfl) (fr_list T) (by decide +kernel) rfl) pa_nil))) (pe_callB (KX.isi (K := K)) (by rfl) (fr_isinstance T) (by decide +kernel) (pa_cons (pv 0) (pa_cons (pe_bltn (v := .ty "list") (u := .type "list") (by rfl) (fr_list T) (by decide +kernel) rfl) pa_nil))) (nomark _)) (pw_or1 (pt_cmpR op_ne (pe_callB (KX.isi (K := K)) (by rfl) (fr_isinstance T) (by decide +kernel) (pa_cons (pv 1) (pa_cons (pe_bltn (v := .ty "tuple") (u := .type "tuple") (by rfl) (fr_tuple T) (by decide +kernel) rfl) pa_nil))) (pe_callB (KX.isi (K := K)) (by rfl) (fr_isinstance T) (by decide +kernel) (pa_cons (pv 0) (pa_cons (pe_bltn (v := .ty "tuple") (u := .type "tuple") (by rfl) (fr_tuple T) (by decide +kernel) rfl) pa_nil))) (nomark _))))) (pss_one (ps_ret pe_bl)) pss_nil)
      (pss_one (ps_ret (pe_and (pe_cmpR op_eq (pe_callB (KX.len (K := K)) (by rfl) (fr_len T) PySem.boot_len (pa_cons (pv 0) pa_nil)) (pe_callB (KX.len (K := K)) (by rfl) (fr_len T) PySem.boot_len (pa_cons (pv 1) pa_nil)) (nomark _)) (pe_one (pe_callB (KX.all (K := K) rfl) (by rfl) (fr_all T) (by decide +kernel) (pa_cons (pe_lc (own := [("_law_at", 3)]) (by rfl) sc_l_alike.nd (pi_range1 (by rfl) (fr_range T) (pa_cons (pe_callB (KX.len (K := K)) (by rfl) (fr_len T) PySem.boot_len (pa_cons (pv 1) pa_nil)) pa_nil)) (blkOk_by (by kernel_rfl)) (fun _ _ _ _ _ => by exact (pg_name (i := 3) sc_l_alike.nd rfl (Or.inl rfl))) (fun _ _ _ _ _ => pts_nil) (fun _ _ _ _ _ => (pe_callG c_l_alike hr (by rfl) (pa_cons (pe_ix (KX.ixL (K := K)) (pv 0) (pv 3) (fun _ _ => rfl)) (pa_cons (pe_ix (KX.ixL (K := K)) (pv 1) (pv 3) (fun _ _ => rfl)) pa_nil))))) pa_nil)))))))))))), ?_⟩
    show Eb [some (pRows K l), some (pRows K m), none, none] [] _ (pB (decide (l = m))) []
    refine Er.eb (er_ifr (b := false) (et_or (a := false) (b := false) (et_test (ee_isN (ee_var rfl) not_non_lst)) (fun _ => et_test (ee_isN (ee_var rfl) not_non_lst))) (fun h => nomatch h) (fun _ => ?_))
    refine er_ifr (b := false) (et_test (ee_isi (ee_var rfl) ty_lst kit_lb)) (fun h => nomatch h) (fun _ => ?_)
    refine er_ifr (b := false) (et_test (ee_isi (ee_var rfl) ty_lst kit_li)) (fun h => nomatch h) (fun _ => ?_)
    refine er_ifr (b := false) (et_test (ee_isi (ee_var rfl) ty_lst kit_ls)) (fun h => nomatch h) (fun _ => ?_)
    refine er_ifr (b := false) (et_test (ee_isi (ee_var rfl) ty_lst kit_ld)) (fun h => nomatch h) (fun _ => ?_)
    refine er_ifr (b := false) (et_or (a := false) (b := false) (et_test (Ev.is (ee_ne (ee_isi (ee_var rfl) ty_lst kit_ll) (ee_isi (ee_var rfl) ty_lst kit_ll) rfl) (congrArg pB (by simp)))) (fun _ => et_test (Ev.is (ee_ne (ee_isi (ee_var rfl) ty_lst kit_lt) (ee_isi (ee_var rfl) ty_lst kit_lt) rfl) (congrArg pB (by simp))))) (fun h => nomatch h) (fun _ => ?_)
    refine Er.is (er_ret (ee_and (a := decide ((l.length : Int) = (m.length : Int))) (b := (List.range m.length).all fun k => decide (l.getD k [] = m.getD k [])) (ee_eqI (ee_lenL (ea_cons (ee_var rfl) ea_nil) (by rw [List.length_map])) (ee_lenL (ea_cons (ee_var rfl) ea_nil) (by rw [List.length_map]))) (fun h => ?_))) (congrArg pB (all_eq []))
    have h := of_decide_eq_true h
    refine ee_all (ea_cons (ee_lcY (vs := [3]) (List.range m.length) (fun k => pI (k : Nat)) (fun k => pB (decide (l.getD k [] = m.getD k []))) (ei_rng1 (n := m.length) (ea_cons (ee_lenL (ea_cons (ee_var rfl) ea_nil) (by rw [List.length_map])) ea_nil) (by omega)) (wp_name (by simp)) (by rw [List.length_range]; omega) (fun k hk => ?_)) ea_nil)
    have hk := List.mem_range.mp hk
    exact ⟨_, eg_name, ee_call (ea_cons (ee_ixL (n := k) (P := pRow K (l.getD k [])) (ee_var rfl) (ee_var rfl) (ixN_nat (by rw [List.length_map]; omega)) (getD_row (by omega))) (ea_cons (ee_ixL (n := k) (P := pRow K (m.getD k [])) (ee_var rfl) (ee_var rfl) (ixN_nat (by rw [List.length_map]; omega)) (getD_row hk)) ea_nil)) (tl_l_alike1 ⟨hl2 _ (getD_mem (by omega)), hm2 _ (getD_mem hk)⟩)⟩)
  exact ⟨fd, _, [], G, gl_l_alike T, F.kp, F.bindsN (fun _ _ _ _ _ _ us hl => match us, hl with | [_, _], _ => rfl), .nil⟩
end
end J
/-! ## W26 -/
set_option Elab.async false
set_option linter.all false
set_option maxRecDepth 100000
set_option maxHeartbeats 600000
namespace J
open PySem L2 KT
local macro_rules | `(tactic| walk_at "sub") => `(tactic| repeat (first | exact Sub.nil | (with_reducible refine Sub.keep (Pr.le_refl _) ?_) | refine Sub.drop ?_ | refine Sub.keepV (by first | rfl | (simp; done) | omega) ?_ | refine Sub.keep (Pr.le_refl _) ?_))
section
variable {P : Program} {wd : World} {K : PySem.W.Frag} {mg : Str → Option Value} {base : Heap}
/-- the mixed rows of the units: unit of k, then the word -/
def lotI (said : List (List Int)) (t : Nat) : List (List Int) := (List.range t).map fun k => unitI k t ++ said.getD k []
def rankI (q : Nat) (lot : List (List Int)) : Nat := (solvedI q lot).length
/-- what the walk of room_so wants to know -/
structure RoomOk (q t b : Nat) (said keys due : List (List Int)) : Prop where
  hq : q ∈ KM.sizes
  ht : 1 ≤ t ∧ t ≤ 2
  hb : 1 ≤ b ∧ b ≤ 3
  sl : said.length = t
  sr : RowsOk q b said
  kl : keys.length ≤ 5
  kr : RowsOk q b keys
  dl : due.length ≤ 5
  dr : RowsOk q (t + b) due
  rk : rankI q keys ≤ b
  puts : ∀ L m, PutsTo q due L m → L.length = rankI q keys
  count : q < 4 → ((vecsI q (t + b)).filter (letsI q due)).length = q ^ (t + b - rankI q keys)
  full : rankI q keys < b ∨ ∀ r, In q r → r.length = t + b → letsI q due r = true → rankI q (lotI said t ++ [r]) = rankI q (lotI said t)
end
end J
/-! ## W27 -/
set_option Elab.async false
set_option linter.all false
set_option maxRecDepth 100000
set_option maxHeartbeats 600000
namespace J
open PySem L2 KT
local macro_rules | `(tactic| walk_at "sub") => `(tactic| repeat (first | exact Sub.nil | (with_reducible refine Sub.keep (Pr.le_refl _) ?_) | refine Sub.drop ?_ | refine Sub.keepV (by first | rfl | (simp; done) | omega) ?_ | refine Sub.keep (Pr.le_refl _) ?_))
section
variable {P : Program} {wd : World} {K : PySem.W.Frag} {mg : Str → Option Value} {base : Heap}
/-- owned objects in another order -/
theorem Ev.perm {ρ : En} {w w' u u' : List Ow} {t : TE} {P : Pr} (h : Ev ρ w t P w') (p : w.Perm u) (p' : w'.Perm u') : Ev ρ u t P u' := fun σ F H Q e g k => h σ F H Q e (g.perm p.symm) fun v F' H' s q => k v F' H' (s.perm p p') q
theorem vecsI_rows {q n : Nat} : RowsOk q n (vecsI q n) := fun r hr => vecsI_mem r hr
theorem lot_ok {q t b : Nat} {said : List (List Int)} (hq : q ∈ KM.sizes) (hl : said.length = t) (hs : RowsOk q b said) : RowsOk q (t + b) (lotI said t) := fun r hr => by
  obtain ⟨k, hk, rfl⟩ := List.mem_map.mp hr
  have hk := List.mem_range.mp hk
  have h2 := hs _ (getD_mem (L := said) (k := k) (by omega))
  have p6 := (KM.sizes_pr q hq).2.2.2.2.2.1
  refine ⟨In.app ?_ h2.1, by rw [List.length_append, h2.2]; simp [unitI]; omega⟩
  exact In.app (In.app (In.rep hq) fun x hx => by have hx : x = 1 := by simpa using hx
                                                  omega) (In.rep hq)
structure RoI where
  a : Addr
  cells : List Int
  q : Nat
  t : Nat
  b : Nat
  said : List (List Int)
  keys : List (List Int)
  due : List (List Int)
def sp_l_room_so (K : PySem.W.Frag) : Sp := Pm (I := RoI) (fun i => RoomOk i.q i.t i.b i.said i.keys i.due) (fun i => [pA i.a, pI (i.q : Nat), pRows K i.said, pRows K i.keys, pRows K i.due, pGuard K i.q (i.t + i.b) i.due]) (fun i => [oBag i.a i.cells, oTp K]) (fun i => pB true) (fun i => [oBag i.a i.cells, oTp K])
theorem tl_l_room_so {a : Addr} {cells : List Int} {q t b : Nat} {said keys due : List (List Int)} (h : RoomOk q t b said keys due) : Tl (sp_l_room_so K) [pA a, pI (q : Nat), pRows K said, pRows K keys, pRows K due, pGuard K q (t + b) due] [oBag a cells, oTp K] (pB true) [oBag a cells, oTp K] := tl_pm (I := RoI) ⟨a, cells, q, t, b, said, keys, due⟩ h
abbrev C_l_room_so (P : Program) (wd : World) (K : PySem.W.Frag) (mg : Str → Option Value) (base : Heap) : Prop := CallG P wd K mg base 9 "_law_room_so" ["_law_bag_here", "_law_big", "_law_said", "_law_keys", "_law_due", "_law_guard"] [] (sp_l_room_so K)
theorem ok_l_room_so (T : Tx K mg) (c_l_rank : C_l_rank P wd K mg base) (c_l_row : C_l_row P wd K mg base) (c_l_alike0 : C_l_alike0 P wd K mg base) (c_l_all_rows : C_l_all_rows P wd K mg base) (c_l_unit : C_l_unit P wd K mg base) (c_Guard_room : C_Guard_room P wd K mg base) (c_Guard_lets : C_Guard_lets P wd K mg base) (c_l_in : C_l_in P wd K mg base) (c_l_along : C_l_along P wd K mg base) : C_l_room_so P wd K mg base := by
  obtain ⟨fd, F⟩ := fd_l_room_so T
  have G : FnOk P wd K mg base CX0 9 _ fd ["_law_bag_here", "_law_big", "_law_said", "_law_keys", "_law_due", "_law_guard"] (sp_l_room_so K) := fn_pm F sc_l_room_so (fun _ _ => rfl) (fun cdv A outer s H E hr i hi => by
    obtain ⟨a, cells, q, t, b, said, keys, due⟩ := i
    obtain ⟨hq, ⟨ht1, ht2⟩, ⟨hb1, hb2⟩, hsl, hsr, hkl, hkr, hdl, hdr, hrk, hputs, hcount, hfull⟩ : RoomOk q t b said keys due := hi
    have p5 := (KM.sizes_pr q hq).2.2.2.2.1
    have p6 := (KM.sizes_pr q hq).2.2.2.2.2.1
    have hlot := lot_ok hq hsl hsr
    have hll : (lotI said t).length = t := by simp [lotI]
    refine ⟨_, (pss_cons (ps_asg (pe_tup (pa_cons (pe_callB (KX.len (K := K)) (by rfl) (fr_len T) PySem.boot_len (pa_cons (pv 2) pa_nil)) (pa_cons (pe_callB (KX.len (K := K)) (by rfl) (fr_len T) PySem.boot_len (pa_cons (pe_ix (KX.ixL (K := K)) (pv 2) pe_int (fun _ _ => rfl)) pa_nil)) pa_nil))) (KX.gT (K := K) (n := 2) (by rfl) (pgs_cons (pg_name (i := 6) sc_l_room_so.nd rfl (Or.inr rfl)) (pgs_cons (pg_name (i := 7) sc_l_room_so.nd rfl (Or.inl rfl)) pgs_nil))))
      (pss_cons (ps_set (i := 8) sc_l_room_so.nd rfl (Or.inr rfl) (pe_op op_add (pv 6) (pv 7)))
      (pss_cons (ps_set (i := 9) sc_l_room_so.nd rfl (Or.inl rfl) (pe_callG c_l_rank hr (by rfl) (pa_cons (pv 1) (pa_cons (pv 3) pa_nil))))
      (pss_cons (ps_set (i := 11) sc_l_room_so.nd rfl (Or.inr rfl) (pe_lc (own := [("_law_at", 10)]) (by rfl) sc_l_room_so.nd (pi_range1 (by rfl) (fr_range T) (pa_cons (pv 6) pa_nil)) (blkOk_by (by kernel_rfl)) (fun _ _ _ _ _ => by exact (pg_name (i := 10) sc_l_room_so.nd rfl (Or.inl rfl))) (fun _ _ _ _ _ => pts_nil) (fun _ _ _ _ _ => (pe_op (KX.catT (K := K)) (pe_callG c_l_unit hr (by rfl) (pa_cons (pv 10) (pa_cons (pv 6) pa_nil))) (pe_ix (KX.ixL (K := K)) (pv 2) (pv 10) (fun _ _ => rfl))))))
      (pss_cons (ps_setLc (i := 12) (own := [("_law_k", 15)]) (by rfl) sc_l_room_so.nd rfl rfl (sw_true rfl rfl rfl (by kernel_rfl)) (pi_range1 (by rfl) (fr_range T) (pa_cons pe_int pa_nil)) (blkOk_by (by kernel_rfl)) (fun _ _ _ _ _ => by exact (pg_name (i := 15) sc_l_room_so.nd rfl (Or.inl rfl))) (fun _ _ _ _ _ => pts_nil) (fun _ _ _ _ _ => (pe_callG c_l_row hr (by rfl) (pa_cons (pv 0) (pa_cons (pv 1) (pa_cons (pv 8) pa_nil))))))
      (pss_cons (ps_set (i := 13) sc_l_room_so.nd rfl (Or.inl rfl) pe_int)
      (pss_cons (ps_for PassesOwn.never rfl (pi_range1 (by rfl) (fr_range T) (pa_cons (pe_op op_sub (pv 8) (pv 9)) pa_nil)) (pg_name (i := 10) sc_l_room_so.nd rfl (Or.inl rfl)) (pss_one (ps_set (i := 13) sc_l_room_so.nd rfl (Or.inl rfl) (pe_op op_mul (pv 13) (pv 1)))))
      (pss_cons (ps_if (pt_not (pt_val (pe_callG c_l_alike0 hr (by rfl) (pa_cons (pe_methG0 (pv 5) (cl_Guard T) c_Guard_room hr) (pa_cons (pv 13) pa_nil))))) (pss_one (ps_ret pe_bl)) pss_nil)
      (pss_cons (ps_if (pt_cmpR op_lt (pv 1) pe_int (nomark _)) (pss_one (ps_set (i := 12) sc_l_room_so.nd rfl (Or.inl rfl) (pe_callG c_l_all_rows hr (by rfl) (pa_cons (pv 8) (pa_cons (pv 1) pa_nil))))) pss_nil)
      (pss_cons (ps_setLc (i := 14) (own := [("_law_row_here", 16)]) (by rfl) sc_l_room_so.nd rfl rfl (sw_true rfl rfl rfl (by kernel_rfl)) (KX.iL (K := K) (pv 12)) (blkOk_by (by kernel_rfl)) (fun _ _ _ _ _ => by exact (pg_name (i := 16) sc_l_room_so.nd rfl (Or.inl rfl))) (fun _ _ _ _ _ => (pts_one (pt_val (pe_methG (pv 5) (cl_Guard T) c_Guard_lets hr (pa_cons (pv 16) pa_nil))))) (fun _ _ _ _ _ => (pv 16)))
      (pss_cons (ps_if (pt_cmpR (KX.neD (K := K) hr.units) (pv 14) (pe_lc (own := [("_law_row_here", 16)]) (by rfl) sc_l_room_so.nd (KX.iL (K := K) (pv 12)) (blkOk_by (by kernel_rfl)) (fun _ _ _ _ _ => by exact (pg_name (i := 16) sc_l_room_so.nd rfl (Or.inr rfl))) (fun _ _ _ _ _ => (pts_one (pt_val (pe_callB (KX.all (K := K) rfl) (by rfl) (fr_all T) (by decide +kernel) (pa_cons (pe_lc (own := [("_law_check", 17)]) (by rfl) sc_l_room_so.nd (KX.iL (K := K) (pv 4)) (blkOk_by (by kernel_rfl)) (fun _ _ _ _ _ => by exact (pg_name (i := 17) sc_l_room_so.nd rfl (Or.inl rfl))) (fun _ _ _ _ _ => pts_nil) (fun _ _ _ _ _ => (pe_cmpR op_eq (pe_callG c_l_along hr (by rfl) (pa_cons (pv 1) (pa_cons (pv 17) (pa_cons (pv 16) pa_nil)))) pe_int (nomark _)))) pa_nil))))) (fun _ _ _ _ _ => (pv 16))) (nomark _)) (pss_one (ps_ret pe_bl)) pss_nil)
      (pss_cons (ps_if (PW.pt (pw_and (pt_cmpR op_lt (pv 1) pe_int (nomark _)) (pw_and1 (pt_cmpR op_ne (pe_callB (KX.len (K := K)) (by rfl) (fr_len T) PySem.boot_len (pa_cons (pv 14) pa_nil)) (pv 13) (nomark _))))) (pss_one (ps_ret pe_bl)) pss_nil)
      (pss_one (ps_ret (pe_or (pe_cmpR op_lt (pv 9) (pv 7) (nomark _)) (pe_one (pe_callB (KX.all (K := K) rfl) (by rfl) (fr_all T) (by decide +kernel) (pa_cons (pe_lc (own := [("_law_row_here", 16)]) (by rfl) sc_l_room_so.nd (KX.iL (K := K) (pv 14)) (blkOk_by (by kernel_rfl)) (fun _ _ _ _ _ => by exact (pg_name (i := 16) sc_l_room_so.nd rfl (Or.inl rfl))) (fun _ _ _ _ _ => pts_nil) (fun _ _ _ _ _ => (pe_callG c_l_in hr (by rfl) (pa_cons (pv 1) (pa_cons (pv 11) (pa_cons (pv 16) pa_nil)))))) pa_nil)))))))))))))))))), ?_⟩
    show Eb [some (pA a), some (pI (q : Nat)), some (pRows K said), some (pRows K keys), some (pRows K due), some (pGuard K q (t + b) due), none, none, none, none, none, none, none, none, none, none, none, none] [oBag a cells, oTp K] _ (pB true) [oBag a cells, oTp K]
    refine Er.eb (er_seq (ρ1 := [some (pA a), some (pI (q : Nat)), some (pRows K said), some (pRows K keys), some (pRows K due), some (pGuard K q (t + b) due), some (pI (t : Nat)), some (pI (b : Nat)), none, none, none, none, none, none, none, none, none, none]) (w1 := [oBag a cells, oTp K]) (es_asgG (ee_tup (ea_cons (ee_lenL (n := (t : Int)) (ea_cons (ee_var rfl) ea_nil) (by rw [List.length_map, hsl])) (ea_cons (ee_lenT (ps := (said.getD 0 []).map pI) (n := (b : Int)) (ea_cons (ee_ixL (n := 0) (P := pRow K (said.getD 0 [])) (ee_var rfl) ee_c (ixN_eq (m := 0) rfl (by rw [List.length_map]; omega)) (getD_row (by omega))) ea_nil) (by rw [List.length_map, (hsr _ (getD_mem (k := 0) (by omega))).2])) ea_nil)) (by simp)) (fun _ e => by subst e; exact eg_tup2 eg_name eg_name)) ?_)
    refine er_seq (ρ1 := [some (pA a), some (pI (q : Nat)), some (pRows K said), some (pRows K keys), some (pRows K due), some (pGuard K q (t + b) due), some (pI (t : Nat)), some (pI (b : Nat)), some (pI ((t + b : Nat) : Int)), none, none, none, none, none, none, none, none, none]) (w1 := [oBag a cells, oTp K]) (es_set (Ev.is (ee_I0 (ee_var rfl) (ee_var rfl)) (congrArg pI (show (t : Int) + (b : Int) = ((t + b : Nat) : Int) by omega)))) ?_
    refine er_seq (ρ1 := [some (pA a), some (pI (q : Nat)), some (pRows K said), some (pRows K keys), some (pRows K due), some (pGuard K q (t + b) due), some (pI (t : Nat)), some (pI (b : Nat)), some (pI ((t + b : Nat) : Int)), some (pI (rankI q keys : Nat)), none, none, none, none, none, none, none, none]) (w1 := [oBag a cells, oTp K]) (es_set (ee_call (ea_cons (ee_var rfl) (ea_cons (ee_var rfl) ea_nil)) (tl_l_rank (n := b) ⟨hq, by omega, by omega, hkr⟩))) ?_
    refine er_seq (ρ1 := [some (pA a), some (pI (q : Nat)), some (pRows K said), some (pRows K keys), some (pRows K due), some (pGuard K q (t + b) due), some (pI (t : Nat)), some (pI (b : Nat)), some (pI ((t + b : Nat) : Int)), some (pI (rankI q keys : Nat)), none, some (pRows K (lotI said t)), none, none, none, none, none, none]) (w1 := [oBag a cells, oTp K]) (es_set (Ev.is (ee_lcY (vs := [10]) (List.range t) (fun k => pI (k : Nat)) (fun k => pRow K (unitI k t ++ said.getD k [])) (ei_rng1 (n := t) (ea_cons (ee_var rfl) ea_nil) (by omega)) (wp_name (by simp)) (by rw [List.length_range]; omega) (fun k hk => ?_)) (by rw [pRows, lotI, List.map_map]; rfl))) ?_
    · have hk := List.mem_range.mp hk
      have hsk := hsr _ (getD_mem (L := said) (k := k) (by omega))
      exact ⟨_, eg_name, Ev.is (ee_catT (ee_call (ea_cons (ee_var rfl) (ea_cons (ee_var rfl) ea_nil)) (tl_l_unit ⟨hk, by omega⟩)) (ee_ixL (n := k) (P := pRow K (said.getD k [])) (ee_var rfl) (ee_var rfl) (ixN_nat (by rw [List.length_map]; omega)) (getD_row (by omega))) (by rw [List.length_map, List.length_map, hsk.2]; simp [unitI]; omega)) (show pTup K ((unitI k t).map pI ++ (said.getD k []).map pI) = pTup K ((unitI k t ++ said.getD k []).map pI) by rw [List.map_append])⟩
    refine er_ex (Ev.le (ee_lcY (vs := [15]) (List.range 20) (fun k => pI (k : Nat)) (fun _ => pRowN K q (t + b)) (ei_rng1 (n := 20) (ea_cons ee_c ea_nil) (by omega)) (wp_name (by simp)) (by simp) (fun k hk => ⟨_, eg_name, ee_rowR (ea_cons (ee_var rfl) (ea_cons (ee_var rfl) (ea_cons (ee_var rfl) ea_nil))) ⟨hq, by omega, by omega⟩⟩)) (rows_rowN (m := 20) (by simp))) (fun l => ?_)
    obtain ⟨l, hl, hl20⟩ := l
    obtain ⟨sm, hs1, hs2⟩ : ∃ sm : List (List Int), (q < 4 → sm = vecsI q (t + b)) ∧ (¬ q < 4 → sm = l) := by
      by_cases h : q < 4
      · exact ⟨_, fun _ => rfl, fun z => absurd h z⟩
      · exact ⟨l, fun z => absurd z h, fun _ => rfl⟩
    have hsm : RowsOk q (t + b) sm ∧ sm.length ≤ 1000 := by
      by_cases h : q < 4
      · rw [hs1 h]
        exact ⟨vecsI_rows, Nat.le_trans (vecsI_len (by omega)) (Nat.le_trans (Nat.pow_le_pow_right (by omega) (show t + b ≤ 5 by omega)) (by decide))⟩
      · rw [hs2 h]
        exact ⟨hl, by omega⟩
    have hsl := hsm.2
    refine er_seq (ρ1 := [some (pA a), some (pI (q : Nat)), some (pRows K said), some (pRows K keys), some (pRows K due), some (pGuard K q (t + b) due), some (pI (t : Nat)), some (pI (b : Nat)), some (pI ((t + b : Nat) : Int)), some (pI (rankI q keys : Nat)), none, some (pRows K (lotI said t)), some (pRows K l), some (pI ((q : Int) ^ 0)), none, none, none, none]) (w1 := [oBag a cells, oTp K]) (es_set (Ev.is ee_c (by simp))) ?_
    refine er_seq (es_forN (t + b - rankI q keys) (fun k => [some (pA a), some (pI (q : Nat)), some (pRows K said), some (pRows K keys), some (pRows K due), some (pGuard K q (t + b) due), some (pI (t : Nat)), some (pI (b : Nat)), some (pI ((t + b : Nat) : Int)), some (pI (rankI q keys : Nat)), none, some (pRows K (lotI said t)), some (pRows K l), some (pI ((q : Int) ^ k)), none, none, none, none]) (fun _ => [oBag a cells, oTp K]) rfl (by walk_at "sub") (ei_rng1 (n := t + b - rankI q keys) (ea_cons (Ev.is (ee_I0 (ee_var rfl) (ee_var rfl)) (congrArg pI (show ((t + b : Nat) : Int) - ((rankI q keys : Nat) : Int) = ((t + b - rankI q keys : Nat) : Int) by omega))) ea_nil) (by omega)) (fun k hk => ⟨_, _, eg_name, es_set (Ev.is (ee_I (ee_var rfl) (ee_var rfl) (.inr ⟨by omega, by omega⟩)) (congrArg pI (Int.pow_succ (q : Int) k).symm)), by walk_at "sub"⟩)) ?_
    refine er_ifr (b := false) (et_not (b := true) (et_test (Ev.is (ee_call (ea_cons (Ev.le (P' := pI ((q : Int) ^ (t + b - rankI q keys))) (Ev.perm (ev_meth (w := [oTp K]) (w' := [oTp K]) (r := [oBag a cells]) (ds := []) (ee_var rfl) rfl ea_nil (fun _ => .nil) (tl_Guard_room ⟨hq, by omega, by omega, hdr, fun L m h => by rw [hputs L m h]; omega⟩)) (List.Perm.swap _ _ _) (List.Perm.swap _ _ _)) (fun F v ⟨z, hz⟩ => by have hz : (pI ((q : Int) ^ (t + b - z.1.1.length))).p F v := hz; rw [hputs _ _ z.2] at hz; exact hz)) (ea_cons (ee_var rfl) ea_nil)) tl_l_alikeI) (by simp)))) (fun h => nomatch h) (fun _ => ?_)
    refine er_seq (ρ1 := [some (pA a), some (pI (q : Nat)), some (pRows K said), some (pRows K keys), some (pRows K due), some (pGuard K q (t + b) due), some (pI (t : Nat)), some (pI (b : Nat)), some (pI ((t + b : Nat) : Int)), some (pI (rankI q keys : Nat)), none, some (pRows K (lotI said t)), some (pRows K sm), some (pI ((q : Int) ^ (t + b - rankI q keys))), none, none, none, none]) (w1 := [oBag a cells, oTp K]) (es_if (b := decide ((q : Int) < 4)) (et_test (ee_I0 (f := fun i j => V.bl (decide (i < j))) (ee_var rfl) ee_c)) (fun h => ?_) (fun h => ?_)) ?_
    · have h := of_decide_eq_true h
      rw [hs1 (by omega)]
      exact es_set (ee_call (ea_cons (ee_var rfl) (ea_cons (ee_var rfl) ea_nil)) (tl_l_all_rows ⟨by omega, by omega⟩))
    · have h := of_decide_eq_false h
      rw [hs2 (by omega)]
      exact es_next
    refine er_seq (ρ1 := [some (pA a), some (pI (q : Nat)), some (pRows K said), some (pRows K keys), some (pRows K due), some (pGuard K q (t + b) due), some (pI (t : Nat)), some (pI (b : Nat)), some (pI ((t + b : Nat) : Int)), some (pI (rankI q keys : Nat)), none, some (pRows K (lotI said t)), some (pRows K sm), some (pI ((q : Int) ^ (t + b - rankI q keys))), some (pRows K (sm.filter (letsI q due))), none, none, none]) (w1 := [oBag a cells, oTp K]) (es_set (ee_lc (vs := [16]) sm (pRow K) (letsI q due) (pRow K) (ei_list (ee_var rfl)) (wp_name (by simp)) (by omega) (fun x hx => ⟨_, eg_name, et_test (ee_meth (ee_var rfl) rfl (ea_cons (ee_var rfl) ea_nil) (tl_Guard_lets ⟨hq, by omega, by omega, hdr, (hsm.1 x hx).1, (hsm.1 x hx).2⟩)), fun _ => ee_var rfl⟩))) ?_
    refine er_ifr (b := false) (et_test (ee_neRows (l := sm.filter (letsI q due)) (ee_var rfl) (ee_lc (vs := [16]) sm (pRow K) (letsI q due) (pRow K) (ei_list (ee_var rfl)) (wp_name (by simp)) (by omega) (fun x hx => ⟨_, eg_name, et_test (ee_all (f := fun c => decide (alongI q c x = 0)) (ea_cons (ee_lcY (vs := [17]) due (pRow K) (fun c => pB (decide (alongI q c x = 0))) (ei_list (ee_var rfl)) (wp_name (by simp)) (by omega) (fun c hc => ?_)) ea_nil)), fun _ => ee_var rfl⟩)))) (fun h => nomatch h) (fun _ => ?_)
    · have h1 := hdr c hc
      have h2 := hsm.1 x hx
      exact ⟨_, eg_name, ee_eqI (ee_call (ea_cons (ee_var rfl) (ea_cons (ee_var rfl) (ea_cons (ee_var rfl) ea_nil))) (tl_l_along ⟨hq, h1.1, h2.1, by rw [h1.2, h2.2], by rw [h1.2]; omega⟩)) ee_c⟩
    refine er_ifr (b := false) ?_ (fun h => nomatch h) (fun _ => ?_)
    · by_cases h : q < 4
      · refine et_and (a := true) (b := false) (et_test (Ev.is (ee_I0 (f := fun i j => V.bl (decide (i < j))) (ee_var rfl) ee_c) (congrArg pB (decide_eq_true (by omega))))) (fun _ => et_test (Ev.is (ee_neI (ee_lenL (n := (q : Int) ^ (t + b - rankI q keys)) (ea_cons (ee_var rfl) ea_nil) ?_) (ee_var rfl)) (by simp)))
        rw [List.length_map, hs1 h, hcount h]
        simp
      · exact et_and (a := false) (b := false) (et_test (Ev.is (ee_I0 (f := fun i j => V.bl (decide (i < j))) (ee_var rfl) ee_c) (congrArg pB (decide_eq_false (by omega))))) (fun h => nomatch h)
    by_cases h : rankI q keys < b
    · exact er_ret (ee_or (a := true) (b := true) (Ev.is (ee_I0 (f := fun i j => V.bl (decide (i < j))) (ee_var rfl) (ee_var rfl)) (congrArg pB (decide_eq_true (by omega)))) (fun h => nomatch h))
    · have hf := hfull.resolve_left h
      refine er_ret (ee_or (a := false) (b := true) (Ev.is (ee_I0 (f := fun i j => V.bl (decide (i < j))) (ee_var rfl) (ee_var rfl)) (congrArg pB (decide_eq_false (by omega)))) (fun _ => Ev.is (ee_all (xs := sm.filter (letsI q due)) (f := fun r => decide (((solvedI q (lotI said t ++ [r])).length : Int) = ((solvedI q (lotI said t)).length : Int))) (ea_cons (ee_lcY (vs := [16]) (sm.filter (letsI q due)) (pRow K) (fun r => pB (decide (((solvedI q (lotI said t ++ [r])).length : Int) = ((solvedI q (lotI said t)).length : Int)))) (ei_list (ee_var rfl)) (wp_name (by simp)) (by have := List.length_filter_le (letsI q due) sm; omega) (fun r hr => ?_)) ea_nil)) (congrArg pB (List.all_eq_true.mpr fun r hr => ?_))))
      · have h2 := hsm.1 r (List.mem_filter.mp hr).1
        exact ⟨_, eg_name, ee_call (ea_cons (ee_var rfl) (ea_cons (ee_var rfl) (ea_cons (ee_var rfl) ea_nil))) (tl_l_in (n := t + b) ⟨hq, by omega, by omega, hlot, h2.1, h2.2⟩)⟩
      · obtain ⟨h1, h2⟩ := List.mem_filter.mp hr
        have h3 := hsm.1 r h1
        exact decide_eq_true (congrArg (fun n : Nat => (n : Int)) (hf r h3.1 h3.2 h2))
)
  exact ⟨fd, _, [], G, gl_l_room_so T, F.kp, F.bindsN (fun _ _ _ _ _ _ us hl => match us, hl with | [_, _, _, _, _, _], _ => rfl), .nil⟩
end
end J
/-! ## J12 -/
set_option Elab.async false
set_option linter.all false
set_option maxRecDepth 100000
set_option maxHeartbeats 1000000
namespace J
open PySem L2
/-! ### what raises -/
section
variable {K : PySem.W.Frag} {ρ ρ' ρ1 : En} {w w' w1 w2 w3 r u u' : List Ow} {t ta tb tc : TE} {P P' P1 P2 : Pr} {i : Nat} {E : XK} {B : Addr}
def Xe (ρ : En) (w : List Ow) (t : TE) (w' : List Ow) (E : XK) (B : Addr) : Prop := ∀ σ F H (Q : VK), EnvR ρ σ F → Good w F H → (∀ F' H', Step w w' F H F' H' → E (.ref B) none H') → t σ H Q
def Xs (ρ : En) (w : List Ow) (t : TS) (w' : List Ow) (E : XK) (B : Addr) : Prop := ∀ σ F H (D : Ends), EnvR ρ σ F → Good w F H → (∀ F' H', Step w w' F H F' H' → E (.ref B) none H') → t D σ H
/-- the promise to raise -/
def Px {I : Type} (pre : I → Prop) (ps : I → List Pr) (w w' : I → List Ow) (B : Addr) : Sp := fun vs H _ E => ∃ i F, pre i ∧ All2 F (ps i) vs ∧ Good (w i) F H ∧ ∀ F' H', Step (w i) (w' i) F H F' H' → E (.ref B) none H'
def Tlx (sp : Sp) (ps : List Pr) (w w' : List Ow) (B : Addr) : Prop := ∀ vs F H (Q : VK) (E : XK), All2 F ps vs → Good w F H → (∀ F' H', Step w w' F H F' H' → E (.ref B) none H') → sp vs H Q E
theorem tlx_px {I : Type} {pre : I → Prop} {ps : I → List Pr} {w w' : I → List Ow} (i : I) (h : pre i) : Tlx (Px pre ps w w' B) (ps i) (w i) (w' i) B := fun vs F H Q E a g k => ⟨i, F, h, a, g, k⟩
def orSp (a b : Sp) : Sp := fun vs H Q E => a vs H Q E ∨ b vs H Q E
theorem Tl.inl {a b : Sp} {ps : List Pr} (h : Tl a ps w P w') : Tl (orSp a b) ps w P w' := fun vs F H Q E x g k => .inl (h vs F H Q E x g k)
theorem Tlx.inr {a b : Sp} {ps : List Pr} (h : Tlx b ps w w' B) : Tlx (orSp a b) ps w w' B := fun vs F H Q E x g k => .inr (h vs F H Q E x g k)
theorem xs_raise : Xs ρ w (fun _ _ H => E (.ref B) none H) w E B := fun σ F H D e g k => k F H (Step.refl g)
theorem xs_drop (h : Xe ρ w t w' E B) : Xs ρ w (tDrop t) w' E B := fun σ F H D e g k => h σ F H _ e g k
theorem xs_fst {s1 s2 : TS} (h : Xs ρ w s1 w' E B) : Xs ρ w (tSeq s1 s2) w' E B := fun σ F H D e g k => h σ F H _ e g k
theorem xs_seq {s1 s2 : TS} (h1 : Es ρ w s1 ρ1 w1) (h2 : Xs ρ1 w1 s2 w' E B) : Xs ρ w (tSeq s1 s2) w' E B := fun σ F H D e g k =>
  h1 σ F H { D with nx := s2 D } e g fun σ1 F1 H1 t1 e1 => h2 σ1 F1 H1 D e1 t1.good fun F2 H2 t2 => k F2 H2 (t1.trans t2)
theorem xs_if {c : TT} {s1 s2 : TS} (h : Et ρ w c true) (h1 : Xs ρ w s1 w' E B) : Xs ρ w (tIfS c s1 s2) w' E B := fun σ F H D e g k => h σ F H _ e g fun F1 H1 t1 =>
  h1 σ F1 H1 D (e.mono t1.exF) t1.good fun F2 H2 t2 => k F2 H2 (t1.trans t2)
/-- a loop one of whose turns raises -/
theorem xs_for {wi : TI} {g : TG} {tb' : TS} {ps : List Pr} (n : Nat) (R : Nat → En) (W : Nat → List Ow) (hw : W 0 = w) (h0 : Sub ρ (R 0)) (hi : Ei ρ w wi ps) (hn : n < ps.length)
    (hs : ∀ i P, i < n → ps[i]? = some P → ∃ ρx ρy, Eg g P (R i) ρx ∧ Es ρx (W i) tb' ρy (W (i + 1)) ∧ Sub ρy (R (i + 1))) (hx : ∃ ρx, Eg g ps[n] (R n) ρx ∧ Xs ρx (W n) tb' w' E B) : Xs ρ w (tFor wi g tb') w' E B := fun σ F H D e gd k => by
  subst hw
  refine hi σ F H _ e gd fun J F0 H0 t0 it => ?_
  refine ⟨fun i m σ' H' => m = n - i ∧ i ≤ n ∧ ∃ F', Step (W 0) (W i) F H F' H' ∧ EnvR (R i) σ' F' ∧ Ext F0 F', ⟨n, rfl, Nat.zero_le _, F0, t0, (e.mono t0.exF).sub h0, Ext.refl _⟩, ?_⟩
  rintro i m σ1 H1 ⟨rfl, hil, F1, t1, e1, x1⟩
  obtain ⟨itg, its⟩ := it F1 H1 x1 t1.good.ex
  by_cases hlt : i < n
  · obtain ⟨hgo, hy⟩ := itg i ps[i] (List.getElem?_eq_getElem (by omega))
    refine .inr ⟨hgo, fun σ' H' => ∃ F', Step (W 0) (W (i + 1)) F H F' H' ∧ EnvR (R (i + 1)) σ' F' ∧ Ext F0 F', fun σ' H' ⟨F', a, b, c⟩ => ⟨n - (i + 1), by omega, rfl, by omega, F', a, b, c⟩, fun x H2 y => ?_⟩
    obtain ⟨F2, gr, p2⟩ := hy x H2 y
    have t2 := gr.st (W i) t1.good
    obtain ⟨ρx, ρy, hg, hb, hsb⟩ := hs i ps[i] hlt (List.getElem?_eq_getElem (by omega))
    refine hg x σ1 F2 H2 _ (e1.mono t2.exF) t2.good.ex p2 fun σ3 e3 => ?_
    exact hb σ3 F2 H2 _ e3 t2.good fun σ4 F4 H4 t4 e4 => ⟨F4, (t1.trans t2).trans t4, e4.sub hsb, (x1.trans t2.exF).trans t4.exF⟩
  · have ei : i = n := by omega
    subst ei
    obtain ⟨hgo, hy⟩ := itg i ps[i] (List.getElem?_eq_getElem hn)
    refine .inr ⟨hgo, fun _ _ => False, fun _ _ z => z.elim, fun x H2 y => ?_⟩
    obtain ⟨F2, gr, p2⟩ := hy x H2 y
    have t2 := gr.st (W i) t1.good
    obtain ⟨ρx, hg, hb⟩ := hx
    refine hg x σ1 F2 H2 _ (e1.mono t2.exF) t2.good.ex p2 fun σ3 e3 => ?_
    exact hb σ3 F2 H2 _ e3 t2.good fun F4 H4 t4 => k F4 H4 ((t1.trans t2).trans t4)
theorem look_none {m : Str} : ∀ (fs : List (Str × Pr)) (gs : List (Str × V)), gs.map (·.1) = fs.map (·.1) → fs.lookup m = none → gs.lookup m = none
  | [], [], _, _ => rfl
  | [], _ :: _, h, _ => by cases h
  | _ :: _, [], h, _ => by cases h
  | (f, p) :: fs, (g, v) :: gs, h, hl => by
    have h1 : g = f := (List.cons.inj h).1
    have h2 := (List.cons.inj h).2
    subst h1
    rw [List.lookup_cons] at hl ⊢
    cases hb : m == g with
    | true => rw [hb] at hl; cases hl
    | false => rw [hb] at hl; exact look_none fs gs h2 hl
theorem xe_meth {C : Addr} {m : Str} {sp : Sp} {ta' : TA} {fs : List (Str × Pr)} {ps : List Pr} (ha : Ee ρ w ta (pIns C fs)) (hm : fs.lookup m = none) (h : Ea ρ w ta' ps) (hs : Tlx sp (pIns C fs :: ps) [] [] B) : Xe ρ w (tMeth C m sp [] E ta ta') w E B := fun σ F H Q e g k =>
  ha σ F H _ e g fun x F1 H1 s1 p1 => by
    obtain ⟨a, dx, gs, h1, h2, h3, h4⟩ := id p1
    refine ⟨a, dx, gs, h1, s1.good.ex _ _ h2, look_none fs gs h3 hm, ?_⟩
    refine h σ F1 H1 _ (e.mono s1.exF) s1.good fun vs F2 H2 s2 p2 => ?_
    rw [List.append_nil]
    refine hs _ F2 H2 Q E (.cons ((pIns C fs).mono s2.exF p1) p2) (Good.front (w := []) (r := w) s2.good) fun F3 H3 s3 => ?_
    exact k F3 H3 ((s1.trans s2).trans (s3.frame (r := w) s2.good))
theorem Step.forget_ {w1 w2 : List Ow} {e : Ow} {F H : Hp} (g : Good (w1 ++ e :: w2) F H) : Step (w1 ++ e :: w2) (w1 ++ w2) F H F H :=
  ⟨Ext.refl F, Step.forget g, fun a o h f _ => ⟨h, f⟩, fun d hd => .inl ⟨d, by have hd' : d ∈ w1 ∨ d ∈ w2 := by simpa using hd
                                                                               rcases hd' with z | z <;> simp [z], rfl⟩, fun a o h => ⟨o, h⟩⟩
theorem xe_make {C : Addr} {sp : Sp} {ta' : TA} {ps : List Pr} (h : Ea ρ w ta' ps) (hs : ∀ x, ∃ o, Tlx sp (pA x :: ps) [oIns x C []] [o] B) : Xe ρ w (tMake C sp [] E ta') w E B := fun σ F H Q e g k =>
  h σ F H _ e g fun vs F1 H1 s1 p1 x dx hx hdx hne => by
    have s2 := ins_new (C := C) (Good.front (w := []) (r := w) s1.good) hx hdx hne
    have s2' := s2.frame (r := w) s1.good
    obtain ⟨o, ho⟩ := hs x
    rw [List.append_nil]
    refine ho _ F1 _ _ E (.cons rfl p1) s2.good fun F3 H3 s3 => ?_
    have s3' := s3.frame (r := w) s2'.good
    exact k F3 H3 (((s1.trans s2').trans s3').trans (Step.forget_ (w1 := []) (w2 := w) s3'.good))
end
section
variable {P : Program} {wd : World} {K : PySem.W.Frag} {mg : Str → Option Value} {base : Heap} {x qual : Str} {params : Arguments} {body : List Stmt} {scope : Scope} {dvs : List V} {kws : List (Str × V)} {f : Addr} {fd : FuncData}
theorem fn_px {I : Type} {pre : I → Prop} {ps : I → List Pr} {w w' : I → List Ow} {B : Addr} {N qs : List Str} {k : Nat} (F : FunD K x qual params body scope dvs kws f fd) (S : FnScope N qs scope) (hl : ∀ i, pre i → (ps i).length = qs.length)
    (hb : ∀ (cdv : Value) (A : Around) (outer : List Env) (s : Shared) (H : Hp) (E : XK), Room k (A.deeper (PyProof.Rows.envOfC qual scope s.heap.objs.size f cdv)) → ∀ i, pre i →
      ∃ t, PSs (cxOf (L2N.CX P wd) P wd K mg base N qual scope f cdv A outer s H E) body t ∧ Xs (startR N (ps i)) (w i) t (w' i) E B) : FnOk P wd K mg base (L2N.CX P wd) (k + 1) f fd qs (Px pre ps w w' B) := by
  refine F.ok S (fun vs H Q E h => ?_) (fun cdv A outer s H vs Q E hr h => ?_)
  · obtain ⟨i, Fz, hp, ha, _⟩ := h
    rw [← ha.len]
    exact hl i hp
  · obtain ⟨i, Fz, hp, ha, g, kk⟩ := h
    obtain ⟨t, h1, h2⟩ := hb cdv A outer s H E hr i hp
    exact ⟨t, h1, h2 _ Fz H _ (env_start ha) g kk⟩
theorem FnOk.orX {CX : CXT} {k : Nat} {qs : List Str} {a b : Sp} (h1 : FnOk P wd K mg base CX0 k f fd qs a) (h2 : FnOk P wd K mg base CX k f fd qs b) : FnOk P wd K mg base CX k f fd qs (orSp a b) := by
  refine ⟨fun vs H Q E h => h.elim (h1.len vs H Q E) (h2.len vs H Q E), fun A outer s H args us vs Q E hr e hb hv h => ?_⟩
  rcases h with h | h
  · refine codeAny_mono (h1.run A outer s H args us vs Q E hr e hb hv h) fun r s' hq => ?_
    cases r with
    | error e => exact (show False from hq).elim
    | ok fl => cases fl <;> exact hq
  · exact h2.run A outer s H args us vs Q E hr e hb hv h
end
/-- a method that may raise -/
structure CallMX (P : Program) (w : World) (K : PySem.W.Frag) (mg : Str → Option Value) (base : Heap) (k : Nat) (C : Addr) (m : Str) (ps : List Str) (sp : Sp) : Prop where
  ex : ∃ fd f, FnOk P w K mg base (L2N.CX P w) k f fd ps sp ∧ Meth K C m f ∧ Binds K fd ps []
structure CallIX (P : Program) (w : World) (K : PySem.W.Frag) (mg : Str → Option Value) (base : Heap) (k : Nat) (x : Str) (C : Addr) (ps : List Str) (sp : Sp) : Prop where
  ex : ∃ fd f, FnOk P w K mg base (L2N.CX P w) k f fd ps sp ∧ mg x = some (.ref C) ∧ Mk K C f ∧ Binds K fd ps []
section
variable {X : Cx} {k j : Nat} {x m : Str} {ps : List Str} {sp : Sp} {C : Addr} {p pos apos : Pos} {e o : Expr} {es : List Expr} {t : TA} {ta : TE} {E : XK}
theorem pe_methX {pl : Sem Bool} (he : PE X o ta) (c : Cls X.K C) (M : CallMX X.prog X.w X.K X.mg X.base k C m ps sp) (hr : Room j X.A) (hx : Passes (L2N.CX X.prog X.w) X E) (ha : PA X (e :: es) t) (hk : k ≤ j := by decide)
    (hst : starEach (e :: es) X.env = (false, eval e X.env) :: starEach es X.env := by rfl) (hpl : (backTo pos (starEach es X.env)).any (·.1) = false := by rfl)
    (ht : eval (.Call (.Attribute o m apos) (e :: es) [] pos) X.env = (do
      let ov ← eval o X.env
      standAt apos.atName
      let (f, first) ← holding [ov] (getMethod ov m pl)
      callWith pos f first (backTo pos (starEach (e :: es) X.env)) (backToKw pos (keywordEach [] X.env))) := by rfl) : PE X (.Call (.Attribute o m apos) (e :: es) [] pos) (tMeth C m sp [] E ta t) := by
  obtain ⟨fd, f, F, hm, b⟩ := M.ex
  exact pe_meth he c hm F (hr.mono hk) b .nil hx ha hst hpl ht
theorem pe_makeX (c : CallIX X.prog X.w X.K X.mg X.base k x C ps sp) (hr : Room j X.A) (hg : Gl X x) (hx : Passes (L2N.CX X.prog X.w) X E) (ha : PA X (e :: es) t) (hk : k + 1 ≤ j := by decide) (hdb : (x == ("__debug__" : Str)) = false := by decide)
    (he : starEach (e :: es) X.env = (false, eval e X.env) :: starEach es X.env := by rfl) (hpl : (backTo pos (starEach es X.env)).any (·.1) = false := by rfl) : PE X (.Call (.Name x p) (e :: es) [] pos) (tMake C sp [] E t) := by
  obtain ⟨fd, f, F, hm, M, b⟩ := c.ex
  exact pe_make M F (hr.mono hk) hg hm b .nil hx ha hdb he hpl
/-- X(), an own exception without own __init__ -/
theorem pmk_own0 {bmB : List Value} {B newId initId : String} (F : ExcBaseFacts B newId initId bmB) (q : PySem.W.excIn X.K C bmB newId = true) (gC : X.mg x = some (.ref C)) (kC : PySem.W.keepIn X.K (.ref C) = true) (r : Raises X (.ref C)) (hg : Gl X x)
    (hdb : (x == ("__debug__" : Str)) = false := by decide) : L2N.PMk X (.Call (.Name x p) [] [] pos) (fun _ H Q => Q (.ref C) none H) := by
  intro pins s σ H Q I h
  refine wpAny_Call_Name_kw (ld_glob I hg gC ?_ hdb)
  refine PySem.W.callWith_K0 I.kIn kC ?_
  obtain ⟨bm, N, nm, qn, bs, hdct, sn, sub, ab, col, dd, k0, k1, k2, k3, k5, mN, hC, hN, hni, T⟩ := exc_obj I.kIn q
  exact wpAny_call_exc_subT F T hC hN hni (fun h' e hm => L2N.mk_of I hm r h (I.hok.gone hm.new))
end
end J
/-! ## W28 -/
set_option Elab.async false
set_option linter.all false
set_option maxRecDepth 100000
set_option maxHeartbeats 600000
namespace J
open PySem L2 KT
local macro_rules | `(tactic| walk_at "sub") => `(tactic| repeat (first | exact Sub.nil | (with_reducible refine Sub.keep (Pr.le_refl _) ?_) | refine Sub.drop ?_ | refine Sub.keepV (by first | rfl | (simp; done) | omega) ?_ | refine Sub.keep (Pr.le_refl _) ?_))
section
variable {P : Program} {wd : World} {K : PySem.W.Frag} {mg : Str → Option Value} {base : Heap}
/-- a row of another length is refused -/
def sp_needsP (K : PySem.W.Frag) : Sp := Px (I := Nat × List Int × Nat) (fun i => i.2.1.length ≠ i.2.2 ∧ i.2.1.length ≤ 1000) (fun i => [pFq K i.1, pRow K i.2.1, pI (i.2.2 : Nat)]) (fun _ => []) (fun _ => []) (He.ga K "BadRow")
theorem tl_needsP {q n : Nat} {l : List Int} (h : l.length ≠ n ∧ l.length ≤ 1000) : Tlx (sp_needsP K) [pFq K q, pRow K l, pI (n : Nat)] [] [] (He.ga K "BadRow") := tlx_px (I := Nat × List Int × Nat) (q, l, n) h
abbrev C_Field_needs_rowX (P : Program) (wd : World) (K : PySem.W.Frag) (mg : Str → Option Value) (base : Heap) : Prop := CallMX P wd K mg base 2 (He.ga K "Field") "needs_row" ["self", "row", "width"] (orSp (sp_Field_needs_row K) (sp_needsP K))
theorem ok_Field_needs_rowX (T : Tx K mg) (c_Field_has : C_Field_has P wd K mg base) : C_Field_needs_rowX P wd K mg base := by
  obtain ⟨fd, F⟩ := fd_Field_needs_row T
  have G : FnOk P wd K mg base CX0 2 _ fd ["self", "row", "width"] (sp_Field_needs_row K) := fn_pm F sc_Field_needs_row (fun _ _ => rfl) (fun cdv A outer s H E hr i hi => by
    obtain ⟨q, l⟩ := i
    obtain ⟨h1, h2⟩ : In q l ∧ l.length ≤ 1000 := hi
    refine ⟨_, (pss_one (ps_if (PW.pt (pw_or (pt_cmpR op_ne (pe_callB (KX.len (K := K)) (by rfl) (fr_len T) PySem.boot_len (pa_cons (pv 1) pa_nil)) (pv 2) (nomark _)) (pw_or1 (pt_not (pt_val (pe_callB (KX.all (K := K) rfl) (by rfl) (fr_all T) (by decide +kernel) (pa_cons (pe_lc (own := [("one", 3)]) (by rfl) sc_Field_needs_row.nd (KX.iT (K := K) (pv 1)) (blkOk_by (by kernel_rfl)) (fun _ _ _ _ _ => by exact (pg_name (i := 3) sc_Field_needs_row.nd rfl (Or.inl rfl))) (fun _ _ _ _ _ => pts_nil) (fun _ _ _ _ _ => (pe_methG (pv 0) (cl_Field T) c_Field_has hr (pa_cons (pv 3) pa_nil)))) pa_nil))))))) (pss_one ps_never) pss_nil)), ?_⟩
    show Eb [some (pFq K q), some (pRow K l), some (pI (l.length : Nat)), none] [] _ pN []
    refine Es.eb (es_if (b := false) (Et.is (et_or (a := false) (b := false) (Et.is (et_test (ee_neI (ee_lenT (n := (l.length : Nat)) (ea_cons (ee_var rfl) ea_nil) (by simp)) (ee_var rfl))) (by simp)) (fun _ => Et.is (et_not (et_B (ee_all (f := fun x => decide (0 ≤ x) && decide (x < (q : Int))) (ea_cons (ee_lcY (vs := [3]) l pI (fun x => pB (decide (0 ≤ x) && decide (x < (q : Int)))) (ei_tup (ee_var rfl)) (wp_name (by simp)) (by omega) (fun x hx => ⟨_, eg_name, ee_meth (ee_var rfl) rfl (ea_cons (ee_var rfl) ea_nil) tl_Field_has⟩)) ea_nil)))) ?_)) rfl) (fun z => by cases z) (fun _ => es_next))
    rw [Bool.not_eq_false', List.all_eq_true]
    intro x hx
    obtain ⟨k1, k2⟩ := h1 x hx
    simp [k1, k2])
  have GX : FnOk P wd K mg base (L2N.CX P wd) 2 _ fd ["self", "row", "width"] (sp_needsP K) := fn_px F sc_Field_needs_row (fun _ _ => rfl) (fun cdv A outer s H E hr i hi => by
    obtain ⟨q, l, n⟩ := i
    obtain ⟨h1, h2⟩ : l.length ≠ n ∧ l.length ≤ 1000 := hi
    refine ⟨_, (pss_one (ps_if (PW.pt (pw_or (pt_cmpR op_ne (pe_callB (KX.len (K := K)) (by rfl) (fr_len T) PySem.boot_len (pa_cons (pv 1) pa_nil)) (pv 2) (nomark _)) (pw_or1 (pt_not (pt_val (pe_callB (KX.all (K := K) rfl) (by rfl) (fr_all T) (by decide +kernel) (pa_cons (pe_lc (own := [("one", 3)]) (by rfl) sc_Field_needs_row.nd (KX.iT (K := K) (pv 1)) (blkOk_by (by kernel_rfl)) (fun _ _ _ _ _ => by exact (pg_name (i := 3) sc_Field_needs_row.nd rfl (Or.inl rfl))) (fun _ _ _ _ _ => pts_nil) (fun _ _ _ _ _ => (pe_methG (pv 0) (cl_Field T) c_Field_has hr (pa_cons (pv 3) pa_nil)))) pa_nil))))))) (pss_one (L2N.ps_raise rfl (L2N.takes_of rfl rfl rfl rfl) (pmk_own0 PySem.F.excBase_ValueError (bx_excIn T) (gl_BadRow T) (bx_keep T) (raises_own (bx_sub T) (bx_typ T)) rfl))) pss_nil)), ?_⟩
    show Xs [some (pFq K q), some (pRow K l), some (pI (n : Nat)), none] [] _ [] E (He.ga K "BadRow")
    exact xs_if (Et.is (et_or (a := true) (b := true) (Et.is (et_test (ee_neI (ee_lenT (n := (l.length : Nat)) (ea_cons (ee_var rfl) ea_nil) (by simp)) (ee_var rfl))) (by simp; omega)) (fun z => nomatch z)) rfl) xs_raise)
  exact ⟨fd, _, FnOk.orX G GX, me_Field_needs_row T, F.bindsN (fun _ _ _ _ _ _ us hl => match us, hl with | [_, _, _], _ => rfl)⟩
def sp_letsP (K : PySem.W.Frag) : Sp := Px (I := Nat × Nat × List (List Int) × List Int) (fun i => i.2.2.2.length ≠ i.2.1 ∧ i.2.2.2.length ≤ 1000) (fun i => [pGuard K i.1 i.2.1 i.2.2.1, pRow K i.2.2.2]) (fun _ => []) (fun _ => []) (He.ga K "BadRow")
theorem tl_letsP {q W : Nat} {made : List (List Int)} {row : List Int} (h : row.length ≠ W ∧ row.length ≤ 1000) : Tlx (sp_letsP K) [pGuard K q W made, pRow K row] [] [] (He.ga K "BadRow") := tlx_px (I := Nat × Nat × List (List Int) × List Int) (q, W, made, row) h
abbrev C_Guard_letsX (P : Program) (wd : World) (K : PySem.W.Frag) (mg : Str → Option Value) (base : Heap) : Prop := CallMX P wd K mg base 4 (He.ga K "Guard") "lets" ["self", "row"] (sp_letsP K)
theorem ok_Guard_letsX (T : Tx K mg) (c_Field_needs_rowX : C_Field_needs_rowX P wd K mg base) (c_Field_along : C_Field_along P wd K mg base) : C_Guard_letsX P wd K mg base := by
  obtain ⟨fd, F⟩ := fd_Guard_lets T
  have GX : FnOk P wd K mg base (L2N.CX P wd) 4 _ fd ["self", "row"] (sp_letsP K) := fn_px F sc_Guard_lets (fun _ _ => rfl) (fun cdv A outer s H E hr i hi => by
    obtain ⟨q, W, made, row⟩ := i
    obtain ⟨h1, h2⟩ : row.length ≠ W ∧ row.length ≤ 1000 := hi
    refine ⟨_, (pss_cons (ps_expr (pe_methX (KX.fld (K := K) (pv 0) rfl) (cl_Field T) c_Field_needs_rowX hr (L2N.passes_call (L2N.takes_of rfl rfl rfl rfl) (fun _ _ _ _ z => z)) (pa_cons (pv 1) (pa_cons (KX.fld (K := K) (pv 0) rfl) pa_nil))))
      (pss_one (ps_ret (pe_callB (KX.all (K := K) rfl) (by rfl) (fr_all T) (by decide +kernel) (pa_cons (pe_lc (own := [("check", 2)]) (by rfl) sc_Guard_lets.nd (KX.iL (K := K) (KX.fld (K := K) (pv 0) rfl)) (blkOk_by (by kernel_rfl)) (fun _ _ _ _ _ => by exact (pg_name (i := 2) sc_Guard_lets.nd rfl (Or.inl rfl))) (fun _ _ _ _ _ => pts_nil) (fun _ _ _ _ _ => (pe_cmpR op_eq (pe_methG (KX.fld (K := K) (pv 0) rfl) (cl_Field T) c_Field_along hr (pa_cons (pv 2) (pa_cons (pv 1) pa_nil))) pe_int (nomark _)))) pa_nil))))), ?_⟩
    show Xs [some (pGuard K q W made), some (pRow K row), none] [] _ [] E (He.ga K "BadRow")
    exact xs_fst (xs_drop (xe_meth (ee_fld (ee_var rfl) (cl_Guard T) (na_Guard_field_of T) rfl) rfl (ea_cons (ee_var rfl) (ea_cons (ee_fld (ee_var rfl) (cl_Guard T) (na_Guard_width T) rfl) ea_nil)) (Tlx.inr (tl_needsP ⟨h1, h2⟩)))))
  exact ⟨fd, _, GX, me_Guard_lets T, F.bindsN (fun _ _ _ _ _ _ us hl => match us, hl with | [_, _], _ => rfl)⟩
def sp_initP (K : PySem.W.Frag) : Sp := Px (I := GuI × List Int) (fun i => GuOk i.1.q i.1.b i.1.ws i.1.ks ∧ i.2.length ≠ i.1.b ∧ i.2.length ≤ 1000) (fun i => [pA i.1.x, pFq K i.1.q, pRows K i.1.ws, pRows K (i.1.ks ++ [i.2])]) (fun i => [oIns i.1.x (He.ga K "Guard") []]) (fun i => [oIns i.1.x (He.ga K "Guard") []]) (He.ga K "BadRow")
theorem tl_initP {x : Addr} {q b : Nat} {ws ks : List (List Int)} {bad : List Int} (h : GuOk q b ws ks ∧ bad.length ≠ b ∧ bad.length ≤ 1000) : Tlx (sp_initP K) [pA x, pFq K q, pRows K ws, pRows K (ks ++ [bad])] [oIns x (He.ga K "Guard") []] [oIns x (He.ga K "Guard") []] (He.ga K "BadRow") := tlx_px (I := GuI × List Int) (⟨x, q, b, ws, ks⟩, bad) h
abbrev C_Guard_initX (P : Program) (wd : World) (K : PySem.W.Frag) (mg : Str → Option Value) (base : Heap) : Prop := CallIX P wd K mg base 5 "Guard" (He.ga K "Guard") ["self", "field", "words", "keys"] (sp_initP K)
theorem ok_Guard_initX (T : Tx K mg) (c_need_words : C_need_words P wd K mg base) (c_Field_needs_rowX : C_Field_needs_rowX P wd K mg base) (c_checked : C_checked P wd K mg base) : C_Guard_initX P wd K mg base := by
  obtain ⟨fd, F⟩ := fd_Guard_init T
  have GX : FnOk P wd K mg base (L2N.CX P wd) 5 _ fd ["self", "field", "words", "keys"] (sp_initP K) := fn_px F sc_Guard_init (fun _ _ => rfl) (fun cdv A outer s H E hr i hi => by
    obtain ⟨⟨x, q, b, ws, ks⟩, bad⟩ := i
    obtain ⟨⟨hq, hb, ⟨hne, hwl⟩, hkl, hws, hks⟩, hbad, hbl⟩ : GuOk q b ws ks ∧ bad.length ≠ b ∧ bad.length ≤ 1000 := hi
    refine ⟨_, (pss_cons (ps_set (i := 4) sc_Guard_init.nd rfl (Or.inl rfl) (pe_callG c_need_words hr (by rfl) (pa_cons (pv 1) (pa_cons (pv 2) (pa_cons (pe_callB (KX.len (K := K)) (by rfl) (fr_len T) PySem.boot_len (pa_cons (pv 2) pa_nil)) pa_nil)))))
      (pss_cons (ps_for (passes_of rfl) rfl (KX.iL (K := K) (pv 3)) (pg_name (i := 5) sc_Guard_init.nd rfl (Or.inl rfl)) (pss_one (ps_expr (pe_methX (pv 1) (cl_Field T) c_Field_needs_rowX hr (L2N.passes_call (L2N.takes_of rfl rfl rfl rfl) (fun _ _ _ _ z => z)) (pa_cons (pv 5) (pa_cons (pv 4) pa_nil))))))
      (pss_cons (KX.sfld (K := K) (pv 0) (pv 1) rfl)
      (pss_cons (KX.sfld (K := K) (pv 0) (pe_op op_add (pe_callB (KX.len (K := K)) (by rfl) (fr_len T) PySem.boot_len (pa_cons (pv 2) pa_nil)) (pv 4)) rfl)
      (pss_one (KX.sfld (K := K) (pv 0) (pe_lc (own := [("key", 5)]) (by rfl) sc_Guard_init.nd (KX.iL (K := K) (pv 3)) (blkOk_by (by kernel_rfl)) (fun _ _ _ _ _ => by exact (pg_name (i := 5) sc_Guard_init.nd rfl (Or.inl rfl))) (fun _ _ _ _ _ => pts_nil) (fun _ _ _ _ _ => (pe_callG c_checked hr (by rfl) (pa_cons (pv 1) (pa_cons (pv 2) (pa_cons (pv 5) pa_nil)))))) rfl)))))), ?_⟩
    show Xs [some (pA x), some (pFq K q), some (pRows K ws), some (pRows K (ks ++ [bad])), none, none] [oIns x (He.ga K "Guard") []] _ [oIns x (He.ga K "Guard") []] E (He.ga K "BadRow")
    refine xs_seq (ρ1 := [some (pA x), some (pFq K q), some (pRows K ws), some (pRows K (ks ++ [bad])), some (pI (b : Nat)), none]) (w1 := [oIns x (He.ga K "Guard") []]) (es_set (Ee.frame (w := []) (ee_call (ea_cons (ee_var rfl) (ea_cons (ee_var rfl) (ea_cons (ee_lenL (ea_cons (ee_var rfl) ea_nil) (by rw [List.length_map])) ea_nil))) (tl_need_words ⟨hq, ⟨hb.1, by omega⟩, hne, hws⟩)))) (xs_fst ?_)
    refine xs_for ks.length (fun _ => [some (pA x), some (pFq K q), some (pRows K ws), some (pRows K (ks ++ [bad])), some (pI (b : Nat)), none]) (fun _ => [oIns x (He.ga K "Guard") []]) rfl (Sub.refl _) (ei_list (ee_var rfl)) (by simp) (fun i R hi hR => ?_) ?_
    · rw [List.getElem?_map, List.getElem?_append_left hi] at hR
      rw [List.getElem?_eq_getElem hi] at hR
      cases hR
      have hy1 := hks ks[i] (List.getElem_mem hi)
      exact ⟨_, [some (pA x), some (pFq K q), some (pRows K ws), some (pRows K (ks ++ [bad])), some (pI (b : Nat)), some (pRow K ks[i])], eg_name, es_drop (ee_meth (ee_var rfl) rfl (ea_cons (ee_var rfl) (ea_cons (ee_var rfl) ea_nil)) (Tl.inl (tl_Field_needs_row ⟨hy1.1, by omega⟩ (by rw [hy1.2])))), by walk_at "sub"⟩
    · have e : ((ks ++ [bad]).map (pRow K))[ks.length]'(by simp) = pRow K bad := by simp
      rw [e]
      exact ⟨_, eg_name, xs_drop (xe_meth (ee_var rfl) rfl (ea_cons (ee_var rfl) (ea_cons (ee_var rfl) ea_nil)) (Tlx.inr (tl_needsP ⟨hbad, hbl⟩)))⟩)
  exact ⟨fd, _, GX, gl_Guard T, mk_Guard T, F.bindsN (fun _ _ _ _ _ _ us hl => match us, hl with | [_, _, _, _], _ => rfl)⟩
end
end J
/-! ## R7 -/
set_option Elab.async false
set_option linter.all false
set_option maxRecDepth 100000
set_option maxHeartbeats 2000000
/-! what an except suite calls: the ends of iterators while an exception is handled -/
namespace R7
open PySem PySem.Spec PyProof.Rows HotX
section
variable {prog : Program} {w : World} {A : Around} {E : Value → Shared → Prop} {s : Shared}
theorem list_end_hot {it l x1 : Addr} {i : Nat} {items : Array Value} {Q : Option Value → Shared → Prop} (hot : HotAt A x1 s.heap) (hne : x1 ≠ it) (hit : s.heap.IsListIter it l i) (hl : s.heap.IsList l items) (hx : items[i]? = none)
    (hQ : ∀ h', Heap.ExtBut it s.heap h' → Q none { s with heap := h' }) : wpAny (model prog w) A (pyNext (.ref it)) Q E s := by
  obtain ⟨o, ho, hc, hd⟩ := id hit
  obtain ⟨ol, hol, _, nl, hdl⟩ := hl
  obtain ⟨hh, o1, vs1, h1, d1, c1⟩ := hot
  unfold pyNext
  refine wpAny_bind (wpAny_attempt (wpAny_callSpecial?_slot (name := Str.ofString "__next__") hit.typeIs slot_listiter_next
    (wpAny_call_entry slot_listiter_next hit.typeIs entry_listiter_next ?_ (args_listiter_next _))))
  show wpAny _ _ (field (.ref it) 0 >>= _) _ _ s
  refine wpAny_bind (wpAny_field ho hd (x := .ref l) rfl ?_)
  show wpAny _ _ (if (Value.ref l == Value.none) = true then _ else _) _ _ s
  rw [if_neg (show ¬ ((Value.ref l == Value.none) = true) from Bool.false_ne_true)]
  show wpAny _ _ (field (.ref it) 1 >>= _) _ _ s
  refine wpAny_bind (wpAny_field ho hd (x := .int i 0) rfl ?_)
  show wpAny _ _ (seqItems? (.ref l) >>= _) _ _ s
  refine wpAny_bind (wpAny_seqItems hol hdl ?_)
  simp only [Int.toNat_natCast, hx]
  refine wpAny_bind (wpAny_rule (wpAny_bind (wpAny_setField ho hd (by simp) ?_)))
  show wpAny _ _ (newExc (.type "StopIteration") [] >>= _) _ _ _
  refine wpAny_bind ?_
  simp only [newExc, newTuple]
  refine wpAny_bind (wpAny_newObj_type ?_ (by size_fits))
  refine wpAny_bind (m := firstArgMember _ _) (wpAny_of_eq (a := Value.none) (by first | rfl | (simp only [firstArgMember]; rfl)) ?_)
  refine wpAny_newObj_type ?_ (by size_fits)
  have k1 := (Heap.get?_update_other (h := s.heap) (a := it) (b := x1) (Obj.mapFields (·.setIfInBounds 0 Value.none)) hne.symm).trans h1
  refine raiseNew_hot ⟨hh, o1, vs1, Heap.get?_push_of_some _ (Heap.get?_push_of_some _ k1), d1, c1⟩ (Nat.ne_of_lt (Heap.lt_size (Heap.get?_push_of_some _ k1))) (Heap.get?_push_size _ rfl) rfl (by first | (simp; done) | (simp; omega)) ?_
  refine wpAny_bind (wpAny_isInstance (T := "StopIteration") (b := true) ⟨_, Heap.get?_update_self _ (Heap.get?_push_size _ rfl) rfl, rfl⟩ isSubtype_stop ?_)
  refine wpAny_pure (hQ _ fun b o hb e => ?_)
  have e1 := (Heap.get?_update_other (h := s.heap) (a := it) (b := b) (Obj.mapFields (·.setIfInBounds 0 Value.none)) hb.symm).trans e
  rw [Heap.get?_update_other _ _ (Nat.ne_of_gt (Heap.lt_size (Heap.get?_push_of_some _ e1)))]
  exact Heap.get?_push_of_some _ (Heap.get?_push_of_some _ e1)
theorem tuple_end_hot {it t x1 : Addr} {i : Nat} {items : Array Value} {Q : Option Value → Shared → Prop} (hot : HotAt A x1 s.heap) (hne : x1 ≠ it) (hit : IsTupIter s.heap it t i) (ht : IsTup s.heap t items) (hx : items[i]? = none)
    (hQ : ∀ h', Heap.ExtBut it s.heap h' → Q none { s with heap := h' }) : wpAny (model prog w) A (pyNext (.ref it)) Q E s := by
  obtain ⟨o, ho, hc, hd⟩ := id hit
  obtain ⟨ol, hol, _, nl, hdl⟩ := ht
  obtain ⟨hh, o1, vs1, h1, d1, c1⟩ := hot
  unfold pyNext
  refine wpAny_bind (wpAny_attempt (wpAny_callSpecial?_slot (name := Str.ofString "__next__") hit.typeIs slot_tupleiter_next
    (wpAny_call_entry slot_tupleiter_next hit.typeIs entry_tupleiter_next ?_ (args_tupleiter_next _))))
  show wpAny _ _ (field (.ref it) 0 >>= _) _ _ s
  refine wpAny_bind (wpAny_field ho hd (x := .ref t) rfl ?_)
  show wpAny _ _ (if (Value.ref t == Value.none) = true then _ else _) _ _ s
  rw [if_neg (show ¬ ((Value.ref t == Value.none) = true) from Bool.false_ne_true)]
  show wpAny _ _ (field (.ref it) 1 >>= _) _ _ s
  refine wpAny_bind (wpAny_field ho hd (x := .int i 0) rfl ?_)
  show wpAny _ _ (seqItems? (.ref t) >>= _) _ _ s
  refine wpAny_bind (wpAny_seqItems hol hdl ?_)
  simp only [Int.toNat_natCast, hx]
  refine wpAny_bind (wpAny_rule (wpAny_bind (wpAny_setField ho hd (by simp) ?_)))
  show wpAny _ _ (newExc (.type "StopIteration") [] >>= _) _ _ _
  refine wpAny_bind ?_
  simp only [newExc, newTuple]
  refine wpAny_bind (wpAny_newObj_type ?_ (by size_fits))
  refine wpAny_bind (m := firstArgMember _ _) (wpAny_of_eq (a := Value.none) (by first | rfl | (simp only [firstArgMember]; rfl)) ?_)
  refine wpAny_newObj_type ?_ (by size_fits)
  have k1 := (Heap.get?_update_other (h := s.heap) (a := it) (b := x1) (Obj.mapFields (·.setIfInBounds 0 Value.none)) hne.symm).trans h1
  refine raiseNew_hot ⟨hh, o1, vs1, Heap.get?_push_of_some _ (Heap.get?_push_of_some _ k1), d1, c1⟩ (Nat.ne_of_lt (Heap.lt_size (Heap.get?_push_of_some _ k1))) (Heap.get?_push_size _ rfl) rfl (by first | (simp; done) | (simp; omega)) ?_
  refine wpAny_bind (wpAny_isInstance (T := "StopIteration") (b := true) ⟨_, Heap.get?_update_self _ (Heap.get?_push_size _ rfl) rfl, rfl⟩ isSubtype_stop ?_)
  refine wpAny_pure (hQ _ fun b o hb e => ?_)
  have e1 := (Heap.get?_update_other (h := s.heap) (a := it) (b := b) (Obj.mapFields (·.setIfInBounds 0 Value.none)) hb.symm).trans e
  rw [Heap.get?_update_other _ _ (Nat.ne_of_gt (Heap.lt_size (Heap.get?_push_of_some _ e1)))]
  exact Heap.get?_push_of_some _ (Heap.get?_push_of_some _ e1)
theorem assign_tuple_hot {env : Env} {elts : List Expr} {x0} {pos : Pos} {t x1 : Addr} {items : Array Value} {Q : Unit → Shared → Prop} (hot : HotAt A x1 s.heap) (ht : IsTup s.heap t items)
    (hn : (assignEach elts env).length = items.size) (hstar : (assignEach elts env).findIdx? (·.1) = none)
    (h : ∀ h', Heap.ExtBut s.heap.objs.size s.heap h' → wpAny (model prog w) A (assignInOrder ((assignEach elts env).map (·.2)) items.toList) Q E { s with heap := h' }) :
    wpAny (model prog w) A (assign (.Tuple elts x0 pos) env (.ref t)) Q E s := by
  rw [assign_Tuple]
  refine wpAny_bind (wpAny_standAt ?_)
  have hlt : t ≠ s.heap.objs.size := by obtain ⟨o, ho, _⟩ := ht; exact Nat.ne_of_lt (Heap.lt_size ho)
  obtain ⟨hh, o1, vs1, h1, d1, c1⟩ := hot
  have hlx := Heap.lt_size h1
  unfold unpack
  rw [hn, hstar]
  refine wpAny_bind (wpAny_holding ?_)
  unfold unpackItems
  refine wpAny_bind ?_
  unfold notIterableAtAll
  refine wpAny_bind (wpAny_specialOf ht.typeIs slot_tuple_iter.lookup ?_)
  refine wpAny_pure ?_
  simp only [Bool.false_eq_true, if_false]
  refine wpAny_bind (wpAny_holding (iter_tuple ht ?_))
  refine wpAny_bind (wpAny_holding (draw_tuple hlt items.size 0 _ _ ⟨_, Heap.get?_push_size _ rfl, rfl, rfl⟩ (ht.push _) (by omega) fun h₁ hit₁ hs₁ => ?_))
  have hall : List.take items.size (List.drop 0 items.toList) = items.toList := by
    rw [List.drop_zero]; exact List.take_of_length_le (by simp)
  rw [hall]
  rw [if_neg (by simp)]
  have ht₁ : IsTup h₁ t items := (ht.push _).extBut hs₁.extBut hlt
  have k1 : h₁.get? x1 = some o1 := hs₁.extBut x1 o1 (Nat.ne_of_lt hlx) (Heap.get?_push_of_some _ h1)
  refine wpAny_bind (wpAny_holding (tuple_end_hot (x1 := x1) ⟨hh, o1, vs1, k1, d1, c1⟩ (Nat.ne_of_lt hlx) hit₁ ht₁ (by simp) fun h₂ he₂ => ?_))
  simp only [Option.isSome_none, Bool.false_eq_true, if_false]
  exact wpAny_pure (h h₂ fun b o hb e => he₂ b o hb (hs₁.extBut b o hb (Heap.get?_push_of_some _ e)))
end
end R7
/-! ## R8 -/
set_option Elab.async false
set_option linter.all false
set_option maxRecDepth 100000
set_option maxHeartbeats 2000000
/-! a comprehension over a list, in a def that an except suite calls -/
namespace R8
open PySem PySem.Spec PyProof.Rows L2 HotX
/-- the exception that is handled stands in the state of the entry -/
def HotS (X : Cx) : Prop := ∃ (x1 : Addr) (o : Obj) (vs : Array Value), X.A.handled = some (.ref x1) ∧ o.data = .fields vs ∧ vs[2]? = some .none ∧ X.s_0.heap.get? x1 = some o ∧ X.H_0 x1 = none ∧ x1 ∉ X.fs ∧ x1 ∉ X.ex
section
variable {X : Cx} {pins : List (Addr × Obj)} {σ : L2.St} {H : Hp} {s : Shared}
theorem HotS.at (c : HotS X) (I : Inv X pins σ H s) : ∃ x1, HotAt X.A x1 s.heap ∧ x1 ∉ X.ex ∧ x1 < X.s_0.heap.objs.size := by
  obtain ⟨x1, o, vs, h1, h2, h3, h4, h5, h6, h7⟩ := c
  exact ⟨x1, ⟨h1, o, vs, I.base.keep x1 o h4 h5 h6 h7, h2, h3⟩, h7, Heap.lt_size h4⟩
theorem pg_tupS {es : List Expr} {k : Nat} {t : TGs} {n : Nat} {pos : Pos} (hc : HotS X) (h : PGs X es t)
    (hn : (assignEach es X.env).length = n := by rfl) (hst : (assignEach es X.env).findIdx? (·.1) = none := by rfl) : PG X (.Tuple es k pos) (gTup X.K n t) := by
  refine ⟨fun pins s σ H v u Q I r hw => ?_⟩
  obtain ⟨a, xs, e1, hq, hl, hw⟩ := hw
  subst e1
  cases r
  obtain ⟨its, rv, ht, hz⟩ := I.tuple hq
  obtain ⟨x1, hot, _⟩ := hc.at I
  refine R7.assign_tuple_hot hot ht (by simp [hn, ← hl, rv.length]) hst fun h' hx => ?_
  have I1 : Inv X pins σ H { s with heap := h' } := I.kept (t' := s.toks) fun b o e => hx b o (Nat.ne_of_lt (Heap.lt_size e)) e
  exact h.run pins _ σ H xs _ Q I1 (by simpa using rv) hw
/-- a turn of the walk over a list -/
theorem item_list {tg : Expr} {a it : Addr} {i : Nat} {E : Value → Shared → Prop} (I : Inv X pins σ H s) (hf : FpOk X pins H it) (st : s.heap.IsListIter it a i) (hg : (Itl X.K a).go i H) :
    wpAny (model X.prog X.w) X.A (pyNext (.ref it)) (fun r s1 => ∃ u, r = some u ∧
      wpAny (model X.prog X.w) X.A (letOwnedTupleGo tg (.ref it) u) (fun _ s2 => ∃ x, Inv X pins σ H s2 ∧ RelV x u ∧ (∀ xs, SqL X.K H a xs → xs[i]? = some x) ∧ s2.heap.IsListIter it a (i + 1)) E s1) E s := by
  obtain ⟨xs, x, hq, hx⟩ := hg
  obtain ⟨its, rv, p, hz⟩ := I.list hq
  obtain ⟨u, hu, ru⟩ := rv.get hx
  obtain ⟨f0, f1, f2, f3, f4, f5⟩ := hf
  refine wpAny_pyNext_list_item st p.isList (x := u) (by simpa using hu) fun h' st' sb => ?_
  have I1 : Inv X pins σ H { s with heap := h' } := I.turned (t' := s.toks) (fun b o hb e => (sb.2 b hb).trans e) f0 f1 f3 f4 f5
  obtain ⟨o, e, c, d⟩ := id st'
  exact ⟨u, rfl, go_of (s := { s with heap := h' }) e c d (by decide) ⟨x, I1, ru, fun ys hy => by rw [I.list_inj hy hq]; exact hx, st'⟩⟩
theorem done_list {a it : Addr} {i : Nat} {E : Value → Shared → Prop} (hc : HotS X) (I : Inv X pins σ H s) (hf : FpOk X pins H it) (st : s.heap.IsListIter it a i) (hg : (Itl X.K a).stop i H) :
    wpAny (model X.prog X.w) X.A (pyNext (.ref it)) (fun r s1 => r = none ∧ Inv X pins σ H s1) E s := by
  obtain ⟨xs, hq, hx⟩ := hg
  obtain ⟨its, rv, p, hz⟩ := I.list hq
  obtain ⟨f0, f1, f2, f3, f4, f5⟩ := hf
  have hl := rv.length
  obtain ⟨x1, hot, hx1, hlt⟩ := hc.at I
  have hne : x1 ≠ it := fun z => by
    subst z
    rcases f3 with z | z
    · exact hx1 z
    · exact absurd hlt (Nat.not_lt.mpr z)
  exact R7.list_end_hot hot hne st p.isList (by simp; omega) fun h' eb => ⟨rfl, I.turned (t' := s.toks) (fun b o hb e => eb b o hb e) f0 f1 f3 f4 f5⟩
/-- [elt for target in iter if ..], iter a list; a pin of the context is the exception that is handled -/
theorem pe_lcS {elt tg iter : Expr} {ifs : List Expr} {scope : Scope} {own : List (Str × Nat)} {pos : Pos} {tl : TE} {g : TG} {tt : TT} {te : TE} (hp : ∃ p ∈ X.pn, L2H.Hot1 X.A p) (hN : X.N.Nodup) (hi : PE X iter tl) (ok : BlkOk X.N X.env.scope scope own)
    (hg : ∀ (s : Shared) (H : Hp) (C : Addr) (cl : List (Str × Addr)) (fp : List Addr), HotS (X.blk s H scope (compEnvC scope cl C X.env) fp) → PG (X.blk s H scope (compEnvC scope cl C X.env) fp) tg g)
    (ht : ∀ (s : Shared) (H : Hp) (C : Addr) (cl : List (Str × Addr)) (fp : List Addr), PTs (X.blk s H scope (compEnvC scope cl C X.env) fp) ifs tt)
    (he : ∀ (s : Shared) (H : Hp) (C : Addr) (cl : List (Str × Addr)) (fp : List Addr), PE (X.blk s H scope (compEnvC scope cl C X.env) fp) elt te) (hs : ∀ x, foldedSetIterable iter X.env x = pure x := by intro _; rfl) :
    PE X (.ListComp elt [⟨tg, iter, ifs, 0⟩] scope pos) (tLc (iList X.K tl) g tt te (own.map (·.2))) := by
  refine ⟨fun pins s σ H Q I h => ?_⟩
  rw [eval_ListComp]
  have hfree : ∀ y ∈ scope.names, y.2 = .free → ∃ c, X.env.cells.lookup y.1 = some c := fun y hy e => by
    rcases ok.free y hy e with k | k
    · exact I.ok.has _ (.inl k)
    · exact I.ok.has _ (.inr k)
  refine wpAny_comprehension_free (use := none) rfl hs (closure_ok hfree) ok.kind (fun y hy e => by rw [ok.uniq y hy, e])
    (thn (hi.run pins s σ H _ I h) fun xv s1 hx => ?_)
  obtain ⟨xV, H2, I1, r1, a, ea, ⟨xs, hq⟩, q⟩ := hx
  subst ea
  cases r1
  obtain ⟨its, rv, pl, hz⟩ := I1.list hq
  refine wpAny_pyIter_list pl.isList ?_
  generalize hit : s1.heap.objs.size = it
  generalize hs2 : ({ s1 with heap := s1.heap.push _ } : Shared) = s2
  have h2 : ∃ o, s2.heap = s1.heap.push o := ⟨_, by rw [← hs2]⟩
  have I2 : Inv X pins σ H2 s2 := by rw [← hs2]; exact I1.kept (t' := s1.toks) fun b o e => Heap.get?_push_of_some _ e
  have st2 : s2.heap.IsListIter it a 0 := by rw [← hs2, ← hit]; exact ⟨_, Heap.get?_push_size _ rfl, rfl, rfl⟩
  have f2 : FpOk X pins H2 it := I1.fpOk (Nat.le_of_eq hit) (I1.hok.fresh (Nat.le_of_eq hit))
  have hlt2 : it < s2.heap.objs.size := by obtain ⟨o, e, _⟩ := st2; exact Heap.lt_size e
  refine wpAny_newObj_type (newEnv_comp ?_) (by show 0 ≤ sizeLine; decide)
  generalize hD : s2.heap.objs.size = D
  have hDn : H2 D = none := I2.hok.fresh (Nat.le_of_eq hD)
  obtain ⟨W, ⟨m0, w0⟩, turn⟩ := q D hDn
  generalize hs3 : ({ s2 with heap := s2.heap.push { cls := .type "list", data := .seq ([] : List Value).toArray } } : Shared) = s3
  have h3 : s3.heap = s2.heap.push { cls := .type "list", data := .seq ([] : List Value).toArray } := by rw [← hs3]
  have I3 : Inv X pins σ (upd H2 D (.lst [])) s3 := by
    rw [← hs3]
    refine I2.laid (t' := s2.toks) (fun b o e => Heap.get?_push_of_some _ e) (Nat.le_of_eq hD) ⟨Nat.zero_le _, [], 0, .nil, ?_⟩
    rw [← hD]
    exact Heap.get?_push_size _ rfl
  have hDit : it ≠ D := by rw [← hD]; exact Nat.ne_of_lt hlt2
  have f3 : FpOk X pins (upd H2 D (.lst [])) it ∧ it < s3.heap.objs.size := ⟨⟨by rw [upd_ne hDit]; exact f2.1, f2.2⟩, by rw [h3, Heap.size_push]; exact Nat.lt_succ_of_lt hlt2⟩
  have st3 : s3.heap.IsListIter it a 0 := st2.at fun o e => by rw [h3]; exact Heap.get?_push_of_some _ e
  have I4 := block_start (fp := [it]) I3 ok hN (fun b hb => by rw [List.mem_singleton.mp hb]; exact f3)
  have hot : ∀ cenv, HotS (X.blk s3 (upd H2 D (.lst [])) scope cenv [it]) := fun cenv => by
    obtain ⟨p, hpm, hh, vs, e1, c1⟩ := hp
    have P1 := I3.pin p (List.mem_append_left _ hpm)
    exact ⟨p.1, p.2, vs, hh, e1, c1, P1.1, P1.2.1, fun hm => (List.mem_cons.mp (I3.stkSub p.1 hm)).elim P1.2.2.1 P1.2.2.2.1, fun z => f3.1.2.2.2.2.2 p (List.mem_append_left _ hpm) (List.mem_singleton.mp z)⟩
  have hotB := hot (compEnvC scope (cellsFrom (s3.heap.objs.size + 1) scope.names (cloFrom X.env.cells scope.names [])) s3.heap.objs.size X.env)
  have pg := hg s3 (upd H2 D (.lst [])) s3.heap.objs.size (cellsFrom (s3.heap.objs.size + 1) scope.names (cloFrom X.env.cells scope.names [])) [it] hotB
  have pt := ht s3 (upd H2 D (.lst [])) s3.heap.objs.size (cellsFrom (s3.heap.objs.size + 1) scope.names (cloFrom X.env.cells scope.names [])) [it]
  have pe := he s3 (upd H2 D (.lst [])) s3.heap.objs.size (cellsFrom (s3.heap.objs.size + 1) scope.names (cloFrom X.env.cells scope.names [])) [it]
  show codeAny _ _ (.compStart (.ListComp elt [⟨tg, iter, ifs, 0⟩] scope pos) 0 (.ref it) (.ref D) (compEnvC scope (cellsFrom (s3.heap.objs.size + 1) scope.names (cloFrom X.env.cells scope.names [])) s3.heap.objs.size X.env)) (compPost (model X.prog X.w) X.A X.xe none (EP X pins σ Q) (.ref D) s3.heap.objs.size) { s3 with heap := pushCells (s3.heap.push { cls := .type "dict", data := .dict #[] }) scope.names }
  generalize hce : compEnvC scope (cellsFrom (s3.heap.objs.size + 1) scope.names (cloFrom X.env.cells scope.names [])) s3.heap.objs.size X.env = ce at I4 pg pt pe hotB ⊢
  have cL : ce.locals = s3.heap.objs.size := by subst hce; rfl
  generalize hH3 : upd H2 D (.lst []) = H3 at I3 I4 pg pt pe hotB w0 f3
  generalize hs4 : ({ s3 with heap := pushCells (s3.heap.push { cls := .type "dict", data := .dict #[] }) scope.names } : Shared) = s4 at I4 ⊢
  have st4 : s4.heap.IsListIter it a 0 := st3.at fun o e => by rw [← hs4]; exact pushCells_keeps _ _ _ _ (Heap.get?_push_of_some _ e)
  have stat : ∀ {σ' : L2.St} {H' : Hp} {s' : Shared}, Inv (X.blk s3 H3 scope ce [it]) [] σ' H' s' → H' it = none → FpOk (X.blk s3 H3 scope ce [it]) [] H' it := fun {σ' H' s'} I' hn =>
    ⟨hn, (I'.ok.exf it (List.mem_singleton.mpr rfl)).1, I'.ok.exfs it (List.mem_singleton.mpr rfl), .inl (List.mem_singleton.mpr rfl), fun x c e => (I'.ok.exf it (List.mem_singleton.mpr rfl)).2 x c e, fun p hp => absurd (show p ∈ ([] : List (Addr × Obj)) ++ [] from hp) (by simp)⟩
  have loop : codeAny (model X.prog X.w) X.A (.compLoop (.ListComp elt [⟨tg, iter, ifs, 0⟩] scope pos) 0 (.ref it) (.ref D) ce) (compPost (model X.prog X.w) X.A X.xe none (EP X pins σ Q) (.ref D) s3.heap.objs.size) s4 := by
    refine compLoop_any (fun n s' => ∃ i H', Inv (X.blk s3 H3 scope ce [it]) [] (wipe σ (own.map (·.2))) H' s' ∧ s'.heap.IsListIter it a i ∧ H' it = none ∧ W i n H') ?_ m0 ⟨0, H3, I4, st4, f3.1.1, w0⟩
    rintro n s5 ⟨i, H5, I5, st5, n5, w5⟩
    rcases turn i n H5 w5 with ⟨stop, qq⟩ | ⟨go, Nx, hNx, step⟩
    · have td := done_list (X := X.blk s3 H3 scope ce [it]) (E := fun _ _ => False) hotB I5 (stat I5 n5) st5 stop
      refine thnF td fun r s6 ⟨hr, I6⟩ => ?_
      subst hr
      have I7 : Inv X pins σ H5 s6 := I3.call' (ch := [it]) I6.os I6.base I6.hok I6.bare fun b hb => by
        rw [List.mem_singleton.mp hb]
        exact ⟨f3.1.2.2.2.1, f3.1.2.1, f3.1.2.2.2.2.1, f3.1.2.2.2.2.2⟩
      have nC : H5 s3.heap.objs.size = none := by
        have z : H5 ce.locals = none := I6.free
        rw [cL] at z
        exact z
      obtain ⟨m, hn, _⟩ := I6.loc
      have hn : s6.heap.Ns ce.locals m := hn
      rw [cL] at hn
      refine ⟨m, hn, fun h'' sb => ?_⟩
      obtain ⟨g0, g1, g2, g3, g4, g5⟩ := I3.fpOk (Nat.le_refl _) nC
      exact ⟨.ref D, H5, I7.turned (t' := s6.toks) (fun b o hb e => (sb.2 b hb).trans e) g0 g1 g3 g4 g5, rfl, qq⟩
    · have ti := item_list (X := X.blk s3 H3 scope ce [it]) (tg := tg) (E := fun _ _ => False) I5 (stat I5 n5) st5 go
      refine thnF ti fun r s6 ⟨u, hr, h6⟩ => ?_
      subst hr
      refine thnF h6 fun _ s7 ⟨x, I7, r7, y7, st7⟩ => ?_
      have hobj : ∀ b ∈ [it], ∃ o, s7.heap.get? b = some o ∧ ∀ v, o.data ≠ .cell v := fun b hb => by
        rw [List.mem_singleton.mp hb]
        obtain ⟨o, e, c, d⟩ := st7
        exact ⟨o, e, fun v z => by rw [d] at z; cases z⟩
      have I7' := I7.pinned (fp := [it]) (fun b hb => by rw [List.mem_singleton.mp hb]; exact stat I7 n5) hobj
      refine thnF (pg.run _ s7 _ H5 x u _ I7' r7 (step x H5 ⟨rfl, y7⟩)) fun _ s8 ⟨σ8, H8, I8, hw8, q8⟩ => ?_
      refine thnF (pt.run _ s8 σ8 H8 _ I8 q8) fun b s9 ⟨H9, I9, q9⟩ => ?_
      have fin : ∀ {s' : Shared} {H' : Hp}, Inv (X.blk s3 H3 scope ce [it]) ([] ++ pinsAt [it] s7.heap) σ8 H' s' → Nx H' → ∃ m, m < n ∧ ∃ i H', Inv (X.blk s3 H3 scope ce [it]) [] (wipe σ (own.map (·.2))) H' s' ∧ s'.heap.IsListIter it a i ∧ H' it = none ∧ W i m H' := fun {s' H'} I' nx => by
        obtain ⟨m', hm, w'⟩ := hNx H' nx
        have pin' : ∀ o, s7.heap.get? it = some o → s'.heap.get? it = some o ∧ H' it = none := fun o e =>
          let z := I'.pin (it, o) (List.mem_append_right _ (List.mem_append_right _ (mem_pinsAt (List.mem_singleton.mpr rfl) e)))
          ⟨z.1, z.2.1⟩
        have hl : (wipe σ (own.map (·.2))).length = σ8.length := by rw [← hw8, wipe_length]
        refine ⟨m', hm, i + 1, H', (I'.unpinned (pins := [])).weak hl (fun j v e => ?_), st7.at fun o e => (pin' o e).1, ?_, w'⟩
        · rw [← hw8] at e
          exact (wipe_some e).1
        · obtain ⟨o, e, _⟩ := hobj it (List.mem_singleton.mpr rfl)
          exact (pin' o e).2
      cases b with
      | false =>
        simp only [Bool.false_eq_true, if_false] at q9 ⊢
        exact fin I9 q9
      | true =>
        simp only [if_true] at q9 ⊢
        refine thnF (pe.run _ s9 σ8 H9 _ I9 q9) fun z s10 ⟨yv, H10, I10, r10, acc, hD10, hz10, nx⟩ => ?_
        exact app_ok (X := X.blk s3 H3 scope ce [it]) I10 hD10 hz10 r10 fun s11 I11 => fin I11 nx
  exact codeAny_compStart_list loop (wpAny_pyIter_listiter st4 loop)
end
end R8
/-! ## R9 -/
set_option Elab.async false
set_option linter.all false
set_option maxRecDepth 100000
set_option maxHeartbeats 2000000
/-! a def that is handed a lambda, tries it and tells the kind of what it raised -/
namespace R9
open PySem PySem.Spec PyProof.Rows L2 LamX R4
/-! ### a def called in an except suite, told of the very state and of the exception -/
theorem run_ofH {CX : CXT} {P : Program} {w : World} {K : PySem.W.Frag} {mg : Str → Option Value} {base : Heap} {k : Nat} {f : Addr} {name qual : Str} {params : Arguments} {body : List Stmt} {scope : Scope} {dV kV doc pm cdv ct oc : Value} {an od : Option Addr}
    {osl : Array (Option Value)} {N ps : List Str} (lk : K.lookup f = some ⟨oc, od, .func (PySem.W.fnOf name qual params body scope dV kV doc pm an cdv ct), osl⟩) (hcd : PySem.W.codeIn K cdv qual = true) (S : FnScope N ps scope)
    {A : Around} {outer : List Env} {s : Shared} {H : Hp} {args : Args} {us : List Value} {vs : List V} {Q : VK} {E : XK} {p : Addr × Obj} (hr : L2H.RoomH (k + 1) A) (hpin : L2H.PinOk outer H s p) (e0 : Env0 P w K mg base A outer s H)
    (hb : BindsTo s (PySem.W.fnOf name qual params body scope dV kV doc pm an cdv ct) args (ps.zip us)) (r : Vals vs us) (hl : vs.length = ps.length)
    (hbody : L2H.RoomH k (A.deeper (envOfC qual scope s.heap.objs.size f cdv)) → ∃ t, PSs (L2H.cxH CX P w K mg base N qual scope f cdv A outer s H E p) body t ∧ t { nx := fun _ H' => Q .non H', rt := Q } (L2.start N vs) H) :
    codeAny (model P w) A (.call (.ref f) args) (CR CX outer P w H s Q E) s := by
  have KX : K.In s.heap := e0.mod.kin.keeps fun b o e => (e0.bs b o e).1
  have lim : s.heap.NoLimit := e0.mod.nolimit.keeps fun b o e => (e0.bs b o e).1
  have hkind : ∀ y ∈ ps.zip us, scope.names.lookup y.1 = some .local ∨ (scope.names.lookup y.1 = some .cell ∧ ((cellsFrom (s.heap.objs.size + 1) scope.names []).lookup y.1).isSome = true) := fun ⟨n, v⟩ hy => by
    rcases S.par n (List.of_mem_zip hy).1 with q | q
    · exact .inl q
    · exact .inr ⟨q, PySem.W.cellsFrom_some _ _ _ (.inl q)⟩
  refine codeAny_call_function hr.depth (KX _ _ lk) rfl S.co S.gen rfl (PySem.W.codeRec_of KX hcd) (hb _ _ _ _ ?_)
  refine wpAny_newFunctionEnv_cells S.kind hkind fun env he s1 x => ?_
  subst he
  refine ⟨lim.keeps x.toInCall.keep, codeAny_func ?_⟩
  obtain ⟨t, ht, hq⟩ := hbody (hr.deeper _)
  have I := L2H.inv_startH (CX := CX) (E := E) (f := f) (cd := cdv) S hpin e0 hl r x
  refine wpAny_mono (ht.run [] s1 (L2.start N vs) H _ I hq) (fun fl s' hs => ?_) fun e s' hs => hs
  cases fl with
  | ret u =>
    obtain ⟨v, σ', H', J, rv, q⟩ := hs
    exact ⟨v, H', J.os, J.bare, J.base, J.hok, rv, q⟩
  | next =>
    obtain ⟨σ', H', J, q⟩ := hs
    exact ⟨V.non, H', J.os, J.bare, J.base, J.hok, rfl, q⟩
  | brk =>
    obtain ⟨_, _, _, q⟩ := hs
    exact False.elim q
  | cont =>
    obtain ⟨_, _, _, q⟩ := hs
    exact False.elim q
section
variable {X : Cx} {a : Addr} {oe : Obj} {pn : List (Addr × Obj)}
/-- x(e), e the exception that the suite holds -/
theorem pe_callE {k : Nat} {x : Str} {g : Addr} {pg : Arguments} {bg : List Stmt} {sg : Scope} {dV kV doc pm cdv ct oc : Value} {an od : Option Addr} {osl : Array (Option Value)} {Ng : List Str} {a0 : Str} {e : Expr} {t : TA} {p pos : Pos} {P : J.Pr}
    (hot : L2H.Hot1 (X.A.mark (some (.ref a))) (a, oe)) (hg : Gl X x) (hm : X.mg x = some (.ref g)) (hk : PySem.W.keepIn X.K (.ref g) = true)
    (lk : X.K.lookup g = some ⟨oc, od, .func (PySem.W.fnOf x x pg bg sg dV kV doc pm an cdv ct), osl⟩) (hcg : PySem.W.codeIn X.K cdv x = true) (hb : Binds X.K (PySem.W.fnOf x x pg bg sg dV kV doc pm an cdv ct) [a0] []) (Sg : FnScope Ng [a0] sg)
    (hr : Room (k + 1) X.A) (ha : PA (X.suite a ((a, oe) :: pn)) [e] t)
    (hbody : ∀ (s : Shared) (H : Hp), ∃ t, PSs (L2H.cxH C8.CX0 X.prog X.w X.K X.mg X.base Ng x sg g cdv (X.A.mark (some (.ref a))) X.stack s H C8.E0 (a, oe)) bg t ∧ J.Eb (J.startR Ng [J.pA a]) [] t P [])
    (hse : starEach [e] X.env = (false, eval e X.env) :: starEach [] X.env := by rfl) (hdb : (x == ("__debug__" : Str)) = false := by decide) :
    PE (X.suite a ((a, oe) :: pn)) (.Call (.Name x p) [e] [] pos) (fun σ H Q => t σ H fun vs H1 => vs = [.ref a] ∧ ∃ F, J.Good [] F H1 ∧ ∀ v F' H', J.Step [] [] F H1 F' H' → P.p F' v → Q v H') := by
  refine ⟨fun pins s σ H Q I h => ?_⟩
  refine wpAny_Call_Name_kw (ld_glob I hg hm ?_ hdb)
  refine PySem.W.callWith_K (h₀ := X.base) I.ok.mod.kin hk (thn (ha.run pos pins s σ H _ I h) fun us s1 ⟨vs, H1, I1, r, ev, F, gd, kk⟩ => ⟨I1.kIn, ?_⟩) hse (by rfl)
  · subst ev
    have P1 := I1.pin (a, oe) (List.mem_append_left _ List.mem_cons_self)
    have hpin : L2H.PinOk X.stack H1 s1 (a, oe) := ⟨P1.1, P1.2.1, fun hm => (List.mem_cons.mp (I1.stkSub a hm)).elim P1.2.2.1 P1.2.2.2.1, P1.2.2.2.2⟩
    have hl : us.length = 1 := by rw [← r.length]; rfl
    have b := hb s1 us I1.kIn (by rw [List.append_nil]; exact hl)
    rw [List.append_nil] at b
    have hrH : L2H.RoomH (k + 1) (X.A.mark (some (.ref a))) := ⟨hr.dp, hr.un⟩
    have rc : codeAny (model X.prog X.w) (X.A.mark (some (.ref a))) (.call (.ref g) ⟨us, []⟩) (CR C8.CX0 X.stack X.prog X.w H1 s1 Q C8.E0) s1 := by
      refine run_ofH lk hcg Sg hrH hpin I1.env0 b r rfl fun hr2 => ?_
      obtain ⟨t, ht, hE⟩ := hbody s1 H1
      exact ⟨t, ht, hE _ F H1 Q (J.env_start (.cons rfl .nil)) gd kk⟩
    refine wpAny_call (codeAny_mono rc fun r' s' hq => ?_)
    cases r' with
    | error e => exact (show False from hq).elim
    | ok fl =>
      cases fl with
      | ret u => exact I1.after hq
      | next => exact False.elim hq
      | brk => exact False.elim hq
      | cont => exact False.elim hq
end
/-- isinstance(e, c), e the exception that is handled, in a def that the suite called -/
theorem call_isH {X : Cx} {a D : Addr} {oe : Obj} (C : ExcC X.K D) (hp : (a, oe) ∈ X.pn) (hz : Zc (.ref D) none oe) (hf : ∃ vs, oe.data = .fields vs) : CallR X (.builtin "isinstance") (rIsE X.K D a) := by
  intro pins s σ H xs us Q I r h
  obtain ⟨c, cv, b, rfl, hcv, e, q⟩ := h
  cases r with
  | cons rx rr =>
    cases rr with
    | cons rt rr =>
      cases rr
      cases rx
      have ec := hcv _ rt
      subst ec
      have hget := (I.pin (a, oe) (List.mem_append_left _ hp)).1
      obtain ⟨vs, hv⟩ := hf
      have J : PySem.W.InstAt s.heap a oe D none := by
        obtain ⟨oc, od, oda, osl⟩ := oe
        obtain ⟨h1, h2⟩ := hz
        dsimp only at h1 h2 hv
        subst h1 h2 hv
        exact ⟨hget, rfl, rfl, trivial⟩
      exact PySem.W.kia_one (PySem.W.handS_kitx_exc C.hg C.hk C.hs C.hd C.ha C.hn C.ht C.hm) I.kIn J e (fun z => nomatch z) fun tk => ⟨.bl b, H, I.kept (t' := tk) fun _ _ z => z, rfl, q⟩
/-! ### the lambda, called in the def that got it -/
/-- the context of the lambda's body -/
def lamCxN (X : Cx) (A : Around) (outer : List Env) (s : Shared) (H : Hp) (E : XK) (scope : Scope) (f c' : Addr) : Cx :=
  (lamCx X A outer s H E scope f c').wish fun e s' => wpAny (model X.prog X.w) (A.deeper (lamEnv X scope s.heap.objs.size f c')) (leaving (lamEnv X scope s.heap.objs.size f c') e) (fun _ s'' => L2N.CX X.prog X.w outer H s E e s'') (fun e' s'' => L2N.CX X.prog X.w outer H s E e' s'') s'
section
variable {X : Cx} {pins : List (Addr × Obj)} {σ : L2.St} {H HZ : Hp} {s s1 : Shared}
theorem pe_actN {Ng : List Str} {qg : Str} {sg : Scope} {g f c' : Addr} {cdg pm ctv : Value} {params : Arguments} {body : Expr} {scope : Scope} {k i : Nat} {a : Str} {pn : List (Addr × Obj)} {xe : Value → Shared → Prop} {W : WX} {tb : XK → TE} {p1 p2 : Pos}
    (I : Inv X pins σ H s) (L : LamS X.env.scope scope) (hf : s.heap.get? f = some (PySem.W.kla_obj "<lambda>" (X.env.qual ++ "<lambda>") params body scope (cloFrom X.env.cells scope.names []) pm c' ctv)) (hfn : H f = none) (hfr : f ∉ frs X.stack)
    (hbind : bindArgs (PySem.W.kla_fn "<lambda>" (X.env.qual ++ "<lambda>") params body scope (cloFrom X.env.cells scope.names []) pm (.ref c') ctv) ⟨[], []⟩ = pure [])
    (tk : L2N.Takes ((cxOf C8.CX0 X.prog X.w X.K X.mg X.base Ng qg sg g cdg X.A X.stack s H C8.E0).tr pn xe) W) (hr : Room (k + 1) (X.A.deeper (envOfC qg sg s.heap.objs.size g cdg)))
    (hbody : ∀ (A : Around) (outer : List Env) (s : Shared) (H : Hp) (E : XK), Room k (A.deeper (lamEnv X scope s.heap.objs.size f c')) → PE (lamCxN X A outer s H E scope f c') body (tb E))
    (hN : Ng[i]? = some a) (hv : Vis sg a) (hd : (a == ("__debug__" : Str)) = false := by decide) (hcd : (a == ("__classdict__" : Str)) = false := by decide) :
    PE ((cxOf C8.CX0 X.prog X.w X.K X.mg X.base Ng qg sg g cdg X.A X.stack s H C8.E0).tr pn xe) (.Call (.Name a p1) [] [] p2)
      (fun σZ HZ Q => σZ[i]? = some (some (.ref f)) ∧ HZ c' = some (CodeO c' (X.env.qual ++ "<lambda>")) ∧ tb (WE W σZ) σ HZ Q) := by
  refine ⟨fun pinsZ sZ σZ HZ Q IZ h => ?_⟩
  obtain ⟨hs, hc, ht⟩ := h
  refine wpAny_Call_Name_kw (thn ((pe_var (pos := p1) (i := i) hN hv hd hcd).run pinsZ sZ σZ HZ (fun v H1 => v = .ref f ∧ H1 = HZ) IZ ⟨.ref f, hs, rfl, rfl⟩) fun u s1 ⟨v, H1, I1, r1, q1⟩ => ?_)
  obtain ⟨ev, eH⟩ := q1
  subst ev
  rw [eH] at I1
  obtain rfl : u = Value.ref f := r1
  have of1 : s1.heap.get? f = some (PySem.W.kla_obj "<lambda>" (X.env.qual ++ "<lambda>") params body scope (cloFrom X.env.cells scope.names []) pm c' ctv) := I1.base.keep f _ hf hfn hfr (fun z => nomatch (show f ∈ ([] : List Addr) from z))
  refine PySem.W.callWith_F0 ⟨_, _, _, _, of1⟩ ?_
  have un : Un (frs X.stack) [] H HZ s.heap s1.heap := I1.base
  obtain ⟨⟨oc, vs, t, hoc, hdc, hvc⟩, _, _⟩ := I1.hok c' _ hc
  have rc : codeAny (model X.prog X.w) (X.A.deeper (envOfC qg sg s.heap.objs.size g cdg)) (.call (.ref f) ⟨[], []⟩) (CR (L2N.CX X.prog X.w) (envOfC qg sg s.heap.objs.size g cdg :: X.stack) X.prog X.w HZ s1 Q (WE W σZ)) s1 := by
    refine PySem.W.kla_callFunE hr.depth of1 rfl L.co L.gen rfl ⟨c', oc, vs, t, rfl, hoc, hdc, hvc⟩ ?_
    rw [hbind]
    refine wpAny_pure (wpAny_newFunctionEnv (fun y hy => (L.own y hy).2) (fun y hy => absurd hy (by simp)) (fun h₁ hns hsb => ⟨I1.nolimit.fresh _ hsb, ?_⟩) L.kind)
    show codeAny _ _ (.expr body (lamEnv X scope s1.heap.objs.size f c')) _ _
    have kp : ∀ b o, s1.heap.get? b = some o → h₁.get? b = some o := fun b o e => hsb.extBut b o (Nat.ne_of_lt (Heap.lt_size e)) (Heap.get?_push_of_some _ e)
    have J : Inv (lamCx X (X.A.deeper (envOfC qg sg s.heap.objs.size g cdg)) (envOfC qg sg s.heap.objs.size g cdg :: X.stack) s1 HZ (WE W σZ) scope f c') [] σ HZ { s1 with heap := h₁, toks := s1.toks + ([] : List (Str × Value)).length } :=
      lam_start2 I L I1.env0 hr.hd un hns kp
    refine PySem.W.kla_codeExpr (wpAny_mono ((hbody _ _ s1 HZ _ (hr.deeper _)).run [] _ _ HZ Q (J.wish _) ht) (fun v s' hq => ?_) fun e s' hq => hq)
    obtain ⟨w', H', J', rv, q⟩ := hq
    exact ⟨w', H', J'.os, J'.bare, J'.base, J'.hok, rv, q⟩
  have hx := L2N.passAt tk σZ
  refine wpAny_call (codeAny_mono rc fun r s' hq => ?_)
  cases r with
  | error e => exact hx pinsZ HZ s1 e s' I1 hq
  | ok fl =>
    cases fl with
    | ret u => exact I1.after hq
    | next => exact False.elim hq
    | brk => exact False.elim hq
    | cont => exact False.elim hq
end
/-- what the def makes of the lambda's reading tl -/
def GivesW (X : Cx) (k : Nat) (Ng : List Str) (x : Str) (sg : Scope) (g : Addr) (cdg : Value) (bg : List Stmt) (a : Str) (q : Str) (TT : (XK → Hp → VK → Prop) → Hp → VK → Prop) : Prop :=
  ∀ (f c' : Addr) (s : Shared) (H : Hp) (Q : VK) (tl : XK → Hp → VK → Prop), Room k (X.A.deeper (envOfC x sg s.heap.objs.size g cdg)) →
    (∀ (W : WX) (pn : List (Addr × Obj)) (xe : Value → Shared → Prop) (p1 p2 : Pos), L2N.Takes ((cxOf C8.CX0 X.prog X.w X.K X.mg X.base Ng x sg g cdg X.A X.stack s H C8.E0).tr pn xe) W →
      PE ((cxOf C8.CX0 X.prog X.w X.K X.mg X.base Ng x sg g cdg X.A X.stack s H C8.E0).tr pn xe) (.Call (.Name a p1) [] [] p2) (fun σZ HZ Q => σZ[0]? = some (some (.ref f)) ∧ HZ c' = some (CodeO c' q) ∧ tl (WE W σZ) HZ Q)) →
    H c' = some (CodeO c' q) → TT tl H Q →
    ∃ t, PSs (cxOf C8.CX0 X.prog X.w X.K X.mg X.base Ng x sg g cdg X.A X.stack s H C8.E0) bg t ∧ t { nx := fun _ H' => Q .non H', rt := Q } (L2.start Ng [.ref f]) H
def tLamW (P : Addr) (q : Str) (TT : (XK → Hp → VK → Prop) → Hp → VK → Prop) (t : XK → TE) : TE := fun σ H Q => TabS H P q ∧ ∀ H1 c', LamNew P q H H1 c' → TT (fun E H' Q' => t E σ H' Q') H1 Q
section
variable {X : Cx}
theorem pe_lamW {TT : (XK → Hp → VK → Prop) → Hp → VK → Prop} {x a : Str} {g c P : Addr} {k j : Nat} {pg : Arguments} {bg : List Stmt} {sg : Scope} {dV kV doc pm cdv ct oc : Value} {an od : Option Addr} {osl : Array (Option Value)} {Ng : List Str}
    {params : Arguments} {body : Expr} {scope : Scope} {t : XK → TE} {p lpos pos : Pos} (hg : Gl X x) (hm : X.mg x = some (.ref g)) (hk : PySem.W.keepIn X.K (.ref g) = true)
    (lk : X.K.lookup g = some ⟨oc, od, .func (PySem.W.fnOf x x pg bg sg dV kV doc pm an cdv ct), osl⟩) (hcg : PySem.W.codeIn X.K cdv x = true) (hb : L2.Binds X.K (PySem.W.fnOf x x pg bg sg dV kV doc pm an cdv ct) [a] []) (Sg : FnScope Ng [a] sg) (hNg : Ng[0]? = some a) (hva : Vis sg a)
    (hG : GivesW X (k + 1) Ng x sg g cdv bg a (X.env.qual ++ "<lambda>") TT)
    (TB : TabB X.base X.mg c P) (hcode : X.env.code = .ref c) (hr : Room (k + 2) X.A) (L : LamS X.env.scope scope) (hdef : defaultsOf params X.env = ([], []))
    (hbind : ∀ (q : Str) (cl : List (Str × Addr)) (pm cv ctv : Value), bindArgs (PySem.W.kla_fn "<lambda>" q params body scope cl pm cv ctv) ⟨[], []⟩ = pure [])
    (hbody : ∀ (A : Around) (outer : List Env) (s : Shared) (H : Hp) (E : XK) (f c' : Addr), Room k (A.deeper (lamEnv X scope s.heap.objs.size f c')) → PE (lamCxN X A outer s H E scope f c') body (t E))
    (hdb : (x == ("__debug__" : Str)) = false := by decide) (hd : (a == ("__debug__" : Str)) = false := by decide) (hcd : (a == ("__classdict__" : Str)) = false := by decide) :
    PE X (.Call (.Name x p) [.Lambda params body scope lpos] [] pos) (tLamW P (X.env.qual ++ "<lambda>") TT t) := by
  refine ⟨fun pins s σ H Q I h => ?_⟩
  obtain ⟨hT, h⟩ := h
  refine wpAny_Call_Name_kw (ld_glob I hg hm ?_ hdb)
  refine PySem.W.callWith_K (h₀ := X.base) I.ok.mod.kin hk ?_ (by rfl) (by rfl)
  show wpAny _ _ (spliced ((false, eval (.Lambda params body scope lpos) X.env) :: backTo pos (starEach [] X.env))) _ _ s
  refine Calls.spliced_cons (lam_make3 I TB hcode hT hdef (L.has I.ok) fun f c' pm' ctv H1 s' I1 LN hf hfn hfr => ?_)
  refine Calls.spliced_nil ⟨I1.kIn, ?_⟩
  have rc : codeAny (model X.prog X.w) X.A (.call (.ref g) ⟨[.ref f], []⟩) (CR C8.CX0 X.stack X.prog X.w H1 s' Q C8.E0) s' := by
    refine run_ofS (N := Ng) (ps := [a]) (us := [.ref f]) (vs := [.ref f]) lk hcg Sg hr I1.env0 (hb s' [.ref f] I1.kIn rfl) (.cons rfl .nil) rfl fun hr' => ?_
    exact hG f c' s' H1 Q (fun E H' Q' => t E σ H' Q') hr' (fun W pn xe p1 p2 tk => pe_actN (i := 0) I1 L hf hfn hfr (hbind _ _ _ _ _) tk hr' (fun A outer s H E hr2 => hbody A outer s H E f c' hr2) hNg hva hd hcd) LN.co (h H1 c' LN)
  refine wpAny_call (codeAny_mono rc fun r s2 hq => ?_)
  cases r with
  | error e => exact (show False from hq).elim
  | ok fl =>
    cases fl with
    | ret u => exact I1.after hq
    | next => exact False.elim hq
    | brk => exact False.elim hq
    | cont => exact False.elim hq
end
end R9
/-! ## R10 -/
set_option Elab.async false
set_option linter.all false
set_option maxRecDepth 100000
set_option maxHeartbeats 2000000
/-! try: body, except x as n: .., except (x1, x2, x3, x4) as n: .. -/
namespace R10
open PySem PySem.Spec PyProof.Rows L2
abbrev endN (i : Nat) (D : Ends) : Ends := { nx := fun σ' H' => D.nx (σ'.set i none) H', rt := D.rt, bk := fun σ' H' => D.bk (σ'.set i none) H', ct := fun σ' H' => D.ct (σ'.set i none) H' }
/-- what the clauses wish: tst tells whether the clause takes the class -/
def wA (i : Nat) (Wout : WX) (D : Ends) : List ((Value → Option Bool) × (Addr → Value → Option Addr → TS)) → WX
  | [] => Wout
  | (tst, ts) :: r => fun cls d σ H => ∃ b, tst cls = some b ∧ (b = true → ∀ a, H a = none → ts a cls d (endN i D) (σ.set i (some (.ref a))) H) ∧ (b = false → wA i Wout D r cls d σ H)
/-- what a clause names -/
inductive Tst (X : Cx) : Expr → (Value → Option Bool) → Prop
  | name {x : Str} {c : Value} {np : Pos} (hc : Names X x c) : Tst X (.Name x np) (fun cls => PySem.W.exmOne X.K cls c)
  | tup {x1 x2 x3 x4 : Str} {c1 c2 c3 c4 : Value} {p1 p2 p3 p4 tp : Pos} {kk : Nat} (h1 : Names X x1 c1) (h2 : Names X x2 c2) (h3 : Names X x3 c3) (h4 : Names X x4 c4) :
    Tst X (.Tuple [.Name x1 p1, .Name x2 p2, .Name x3 p3, .Name x4 p4] kk tp) (fun cls => PySem.W.exmAny X.K cls [c1, c2, c3, c4])
inductive HdsA (X : Cx) (n : Str) : List ExceptHandler → List ((Value → Option Bool) × (Addr → Value → Option Addr → TS)) → Prop
  | nil : HdsA X n [] []
  | cons {e : Expr} {tst : Value → Option Bool} {ts : Addr → Value → Option Addr → TS} {b₀ : Stmt} {suite : List Stmt} {pos' : Pos} {hds : List ExceptHandler} {l : List ((Value → Option Bool) × (Addr → Value → Option Addr → TS))} (ht : Tst X e tst)
      (hsu : ∀ (a : Addr) (oe : Obj) (cls : Value) (d : Option Addr) (pn : List (Addr × Obj)), L2N.Zn cls d oe → (∃ vs, oe.data = .fields vs) → PSs (X.suite a ((a, oe) :: pn)) (b₀ :: suite) (ts a cls d)) (r : HdsA X n hds l) :
      HdsA X n (.ExceptHandler (some e) (some n) (b₀ :: suite) pos' :: hds) ((tst, ts) :: l)
section
variable {X : Cx} {n : Str} {i : Nat} {body : List Stmt} {h₀ : ExceptHandler} {hds : List ExceptHandler} {l : List ((Value → Option Bool) × (Addr → Value → Option Addr → TS))} {pos : Pos} {tb : WX → TS} {Wout : WX}
theorem nm_ok {x : Str} {c : Value} {np : Pos} {a : Addr} {pn : List (Addr × Obj)} {pins : List (Addr × Obj)} {σ : L2.St} {H : Hp} {s : Shared} {Q : Value → Shared → Prop} {E : Value → Shared → Prop} (hc : Names X x c) (S : Inv (X.suite a pn) pins σ H s) (q : Q c s) :
    wpAny (model X.prog X.w) (X.A.mark (some (.ref a))) (eval (.Name x np) X.env) Q E s := by
  obtain ⟨hg, hdbg, hm | ⟨hm, hv, hnn⟩⟩ := hc
  · exact ld_glob (X := X.suite a pn) S hg hm q hdbg
  · exact ld_blt (X := X.suite a pn) S hg hm hv q hnn hdbg
theorem fl_keeps {B : Heap} {l : List Env} {a : Addr} {Z : Obj → Prop} {h h' : Heap} (fl : HandSPX.FlyingZ B l a Z h) (k : ∀ b o, h.get? b = some o → h'.get? b = some o) : HandSPX.FlyingZ B l a Z h' := by
  obtain ⟨k1, k2, k3, oe, vs, T, oT, ts, he, hz, hd, h1, hn, hne, hT, hdT, h3⟩ := fl
  exact ⟨fun b o e => k b o (k1 b o e), k2, k3.of_keeps fun b o e _ => ⟨o, k b o e, rfl⟩, oe, vs, T, oT, ts, k _ _ he, hz, hd, h1, hn, hne, k _ _ hT, hdT, h3⟩
theorem tst_run {e : Expr} {tst : Value → Option Bool} {a : Addr} {pn pins : List (Addr × Obj)} {σ : L2.St} {H : Hp} {s : Shared} {cls : Value} {b : Bool} {R : Bool → Shared → Prop} {E E' : Value → Shared → Prop} (ht : Tst X e tst) (S : Inv (X.suite a pn) pins σ H s)
    (LT : PySem.W.Looks (model X.prog X.w) s.heap (typeOf (.ref a)) cls) (hb : tst cls = some b) (hQ : ∀ h', (∀ b o, s.heap.get? b = some o → h'.get? b = some o) → R b { s with heap := h' }) :
    wpAny (model X.prog X.w) (X.A.mark (some (.ref a))) (eval e X.env) (fun c s₁ => wpAny (model X.prog X.w) (X.A.mark (some (.ref a))) (excMatches (.ref a) c) R E s₁) E' s := by
  cases ht with
  | name hc => exact nm_ok hc S ((PySem.W.exm_one S.kIn LT hb).here (hQ s.heap fun _ _ z => z))
  | @tup x1 x2 x3 x4 c1 c2 c3 c4 p1 p2 p3 p4 tp kk h1 h2 h3 h4 =>
    refine wpAny_Tuple ?_
    refine wpAny_items_cons (nm_ok h1 S ?_)
    refine wpAny_items_cons (nm_ok h2 S ?_)
    refine wpAny_items_cons (nm_ok h3 S ?_)
    refine wpAny_items_cons (nm_ok h4 S ?_)
    refine wpAny_items_nil ⟨by size_fits, ?_⟩
    have kp : ∀ q o, s.heap.get? q = some o → (s.heap.push { cls := .type "tuple", data := .seq [c1, c2, c3, c4].toArray }).get? q = some o := fun _ _ z => Heap.get?_push_of_some _ z
    exact (PySem.W.exm_tup4 (S.kIn.keeps kp) (LT.keeps kp) (Heap.get?_push_size s.heap rfl) hb).here (hQ _ kp)
theorem ps_tryA (hs : X.stack = X.env :: X.outer) (hf : X.env.frame = some X.env.locals) (hN : X.N.Nodup) (hi : X.N[i]? = some n) (hln : X.env.kindOf n = some .local) (tk : L2N.Takes X Wout)
    (hb : ∀ (W : WX) (pn : List (Addr × Obj)) (xe : Value → Shared → Prop), L2N.Takes (X.tr pn xe) W → PassesOwn (model X.prog X.w) X.A X.env xe → PSs (X.tr pn xe) body (tb W))
    (hh : HdsA X n (h₀ :: hds) l) : PS X (.Try body (h₀ :: hds) [] [] pos) (fun D σ H => tb (wA i Wout D l) D σ H) := by
  refine ⟨fun pins s σ H D I h => ?_⟩
  have ok := I.ok
  have hfr : X.A.frames = some (X.env :: X.outer) := by rw [ok.frames, hs]
  have hloc : Loc X.env.scope n := .inl hln
  refine wpAny_Try_except ?_
  refine wpAny_mono ((hb (wA i Wout D l) (X.pn ++ pins) (fun e s₁ => wpAny (model X.prog X.w) X.A (noteFrame e X.env) (fun _ s₂ => wpAny (model X.prog X.w) X.A (setFlight e none) (fun _ s₃ =>
    wpAny (model X.prog X.w) X.A (handleBy e X.env (h₀ :: hds)) (SP X pins D) X.xe s₃) X.xe s₂) X.xe s₁) (fun u s' xx => ?_) PassesOwn.looking).run [] s σ H D (I.toTry _) h) (fun f s1 hsp => ?_) (fun e s1 he => he)
  · obtain ⟨a, B, sI, pins', σ', H', cls, d, rfl, J', nb, up, sky, na, os, ag, w⟩ := xx
    have J : Inv X pins σ' H' sI := J'.ofTry ok
    have sky' : Sky B (X.env :: X.outer) a (L2N.Zn cls d) X.env.locals s'.heap := by rw [← hs]; exact sky
    show wpAny (model X.prog X.w) X.A (noteFrame (.ref a) X.env) _ _ _
    refine L2N.Sky.land L2N.Zn.steady hfr hf sky' fun h3 fl3 up3 => ?_
    obtain ⟨oe3, vs3, he3, hz3, hd3⟩ := fl3.there
    have nfr : a ∉ frs (X.env :: X.outer) := fun hm => by
      obtain ⟨_, o', e', hnf⟩ := fl3.2.2.1.mem hm
      rw [he3] at e'; cases e'
      exact hnf _ hd3
    have nL : a ≠ X.env.locals := fun z => nfr (List.mem_filterMap.mpr ⟨X.env, List.mem_cons_self, by rw [hf, z]⟩)
    have nF : a ∉ X.fs := fun hm => by
      obtain ⟨e, he, q⟩ := List.mem_filterMap.mp hm
      exact nfr (List.mem_filterMap.mpr ⟨e, List.mem_cons_of_mem _ he, q⟩)
    have go : ∀ {hds' : List ExceptHandler} {l' : List ((Value → Option Bool) × (Addr → Value → Option Addr → TS))}, HdsA X n hds' l' → ∀ (h : Heap) (tk' : Nat), HandSPX.FlyingZ B (X.env :: X.outer) a (L2N.Zn cls d) h → s'.heap.UpToSlots h → wA i Wout D l' cls d σ' H' →
        wpAny (model X.prog X.w) X.A (handleBy (.ref a) X.env hds') (SP X pins D) X.xe { s' with heap := h, toks := tk' } := by
      intro hds' l' hk
      induction hk with
      | nil =>
        intro h tk' fl up' w
        refine wpAny_handleBy_nil ?_
        obtain ⟨k1, k2, k3, oe, vs, T, oT, ts', he, hz, hd, h1, hr⟩ := id fl
        unfold PySem.passOn
        refine wpAny_bind (wpAny_field he hd h1 ?_)
        rw [if_neg (show ¬ ((Value.ref T == Value.none) = true) from by simp)]
        have fin : wpAny (model X.prog X.w) X.A (setFlight (.ref a) X.env.frame) (fun _ s4 => wpAny (model X.prog X.w) X.A (throw (.ref a) : Sem Flow) (SP X pins D) X.xe s4) X.xe { s' with heap := h, toks := tk' } := by
          rw [hf]
          refine HandSPX.setFlight_upZ fl fun h4 hh4 up4 => wpAny_throw (tk _ _ ?_)
          exact ⟨a, B, sI, pins, σ', H', cls, d, rfl, J, nb, (up.trans up').trans up4, .inr (.inr (by rw [hs]; exact hh4)), na, os, ag, w⟩
        first
          | exact wpAny_bind (wpAny_pure (wpAny_bind fin))
          | exact wpAny_bind fin
      | @cons e tst ts b₀ suite pos' hds2 l2 ht hsu r ih =>
        intro h tk' fl up' w
        obtain ⟨b, hb1, hyes, hno⟩ := w
        have Jh : Inv X pins σ' H' { s' with heap := h, toks := tk' } := J.landed nb fl.1 (up.trans up') os ag
        obtain ⟨oe, vs, he, hz, hd⟩ := fl.there
        have S := Jh.suite he hd na nL nF
        have LT : PySem.W.Looks (model X.prog X.w) h (typeOf (.ref a)) cls := fun A Q E s k q => wpAny_typeOf_ref (k _ _ he) (by rw [hz.1]; exact q)
        refine wpAny_handleBy_cons (codeAny_handlers_test (tst_run ht S LT hb1 fun h5 k5 => ?_)) (by intro q; cases q)
        have fl5 := fl_keeps fl k5
        have up5 := up'.trans (Heap.UpToSlots.of_keeps k5)
        cases b with
        | true =>
          refine codeAny_handlers_suite_as ?_
          refine HandSPX.lands_againZ fl5 fun h4 fl4 up4 => ?_
          have J4 : Inv X pins σ' H' { s' with heap := h4, toks := tk' } := J.landed nb fl4.1 ((up.trans up5).trans up4) os ag
          obtain ⟨oe4, vs4, he4, hz4, hd4⟩ := fl4.there
          have S4 := J4.suite he4 hd4 na nL nF
          refine store_ok (X := X.suite a ((a, oe4) :: (X.pn ++ pins))) (v := .ref a) S4 hN hi hloc rfl (fun s5 S5 => ?_) (.inr hln)
          refine wpAny_mono ((hsu a oe4 cls d (X.pn ++ pins) hz4 ⟨_, hd4⟩).run [] s5 _ H' _ S5 (hyes rfl a na)) (fun f s6 hsp => ?_) (fun _ _ z => False.elim z)
          have end_ : ∀ {σ6 : L2.St} {H6 : Hp} {Q : Shared → Prop}, Inv (X.suite a ((a, oe4) :: (X.pn ++ pins))) [] σ6 H6 s6 → (∀ s7, Inv X pins (σ6.set i none) H6 s7 → Q s7) →
              wpAny (model X.prog X.w) X.A (do bindName X.env n .none; unbindBehindTheSuite X.env n pos') (fun _ s7 => Q s7) X.xe s6 := fun {σ6 H6 Q} S6 hq => gone_ok (S6.unsuite ok) hN hi hln hq
          cases f with
          | next =>
            obtain ⟨σ6, H6, S6, q6⟩ := hsp
            exact end_ S6 fun s7 J7 => ⟨_, _, J7, q6⟩
          | brk =>
            obtain ⟨σ6, H6, S6, q6⟩ := hsp
            exact end_ S6 fun s7 J7 => ⟨_, _, J7, q6⟩
          | cont =>
            obtain ⟨σ6, H6, S6, q6⟩ := hsp
            exact end_ S6 fun s7 J7 => ⟨_, _, J7, q6⟩
          | ret u =>
            obtain ⟨v6, σ6, H6, S6, r6, q6⟩ := hsp
            exact end_ S6 fun s7 J7 => ⟨_, _, _, J7, r6, q6⟩
        | false =>
          show wpAny _ X.A (handleBy (.ref a) X.env hds2) _ _ _
          exact ih h5 tk' fl5 up5 (hno rfl)
    exact go hh _ _ fl3 up3 w
  · cases f with
    | next =>
      obtain ⟨σ', H', J', q⟩ := hsp
      exact wpAny_execs_nil ⟨σ', H', J'.ofTry ok, q⟩
    | brk =>
      obtain ⟨σ', H', J', q⟩ := hsp
      exact ⟨σ', H', J'.ofTry ok, q⟩
    | cont =>
      obtain ⟨σ', H', J', q⟩ := hsp
      exact ⟨σ', H', J'.ofTry ok, q⟩
    | ret u =>
      obtain ⟨v, σ', H', J', r, q⟩ := hsp
      exact ⟨v, σ', H', J'.ofTry ok, r, q⟩
end
end R10
/-! ## W29 -/
set_option Elab.async false
set_option linter.all false
set_option maxRecDepth 100000
set_option maxHeartbeats 600000
namespace J
open PySem L2 KT
local macro_rules | `(tactic| walk_at "sub") => `(tactic| repeat (first | exact Sub.nil | (with_reducible refine Sub.keep (Pr.le_refl _) ?_) | refine Sub.drop ?_ | refine Sub.keepV (by first | rfl | (simp; done) | omega) ?_ | refine Sub.keep (Pr.le_refl _) ?_))
section
variable {P : Program} {wd : World} {K : PySem.W.Frag} {mg : Str → Option Value} {base : Heap}

/-- the kinds that are told -/
def marksB : List (Str × Bool) := [("BadSize", false), ("BadNumber", false), ("BadRow", true), ("BadName", false), ("BadLine", false), ("BadHearers", false), ("BadLoss", false), ("BadPlan", false), ("BadDeed", false), ("BadText", false), ("Ringed", false), ("Short", false), ("Narrow", false), ("Heavy", false), ("Unsolved", false), ("NoHouse", false), ("NoLine", false), ("Taken", false), ("Full", false), ("InUse", false), ("Told", false), ("NothingLeft", false), ("NoShare", false)]
abbrev mkP (K : PySem.W.Frag) (m : Str × Bool) : Pr := pTup K [pV (.str m.1), pB m.2]
theorem ee_isE {ρ : En} {w : List Ow} {D a : Addr} {n : Addr} {b : Bool} (h : ρ[0]? = some (some (pA a))) (hk : PySem.W.kitOne K (.ref D) (.ref n) = some b) : Ee ρ w (tCB (rIsE K D a) (tCons (tVar 0) (tCons (tC (.ref n)) tNil))) (pB b) :=
  ee_cb (ea_cons (ee_var h) (ea_cons ee_c ea_nil)) fun vs F H Q p g k => by
    obtain ⟨v, u, rfl, h1, h2⟩ := p.two
    have h1 : v = .ref a := h1
    have h2 : u = .ref n := h2
    subst h1 h2
    exact ⟨.ref n, .ref n, b, rfl, fun u r => r, hk, k _ F H (Step.refl g) rfl⟩
theorem mk_ok {ρ : En} {w : List Ow} {D a : Addr} {n : Addr} {x : Str} {b : Bool} (h : ρ[0]? = some (some (pA a))) (hk : PySem.W.kitOne K (.ref D) (.ref n) = some b) : Ee ρ w (tTup (tCons (tC (.str x)) (tCons (tCB (rIsE K D a) (tCons (tVar 0) (tCons (tC (.ref n)) tNil))) tNil))) (mkP K (x, b)) :=
  ee_tup (ea_cons ee_c (ea_cons (ee_isE h hk) ea_nil)) (by simp)
theorem ee_join {ρ : En} {w : List Ow} {to te : TE} {a : Str} {ys : List Str} (h1 : Ee ρ w to (pV (.str a))) (h2 : Ee ρ w te (pLst (ys.map fun y => pV (.str y)))) (hl : (ys.map (·.length)).sum + ys.length * a.length ≤ 16777216) :
    Ee ρ w (tM1 (fun x xs H Q => ∃ a p, ∃ ys : List Str, x = .str a ∧ xs = [.ref p] ∧ (SqL K H p (ys.map V.str) ∨ SqT K H p (ys.map V.str)) ∧ (ys.map (·.length)).sum + ys.length * a.length ≤ 16777216 ∧ Q (.str (Txt.join a ys)) H) to te) (pV (.str (Txt.join a ys))) := fun σ F H Q e g k =>
  h1 σ F H _ e g fun v F1 H1 s1 (hv : v = .str a) => ⟨⟨a, hv⟩, h2 σ F1 H1 _ (e.mono s1.exF) s1.good fun u F2 H2 s2 ⟨p, vs, hu, q1, q2⟩ => by
    have e2 := q2.vals (g := fun y => V.str y)
    subst e2
    exact ⟨a, p, ys, hv, by rw [hu], .inl (SqL.of (s2.good.ex _ _ q1)), hl, k _ F2 H2 (s1.trans s2) rfl⟩⟩
theorem gTS {X : Cx} {es : List Expr} {k : Nat} {t : TGs} {n : Nat} {pos : Pos} (hc : R8.HotS X) (h : PGs X es t) (hn : (assignEach es X.env).length = n := by rfl) (hst : (assignEach es X.env).findIdx? (·.1) = none := by rfl) (hK : X.K = K := by rfl) : PG X (.Tuple es k pos) (gTup K n t) := by subst hK; exact R8.pg_tupS hc h hn hst
theorem excC_B (T : Tx K mg) : ExcC K (He.ga K "BadRow") := ⟨bx_ga T, bx_gat T, bx_sub T, bx_hd T, bx_cl T, bx_sp T, bx_tk T, bx_mro T⟩
theorem kind_body (T : Tx K mg) {oe : Obj} {a : Addr} {A : Around} {cdv : Value} {outer : List Env} {s : Shared} {H : Hp} (hot : L2H.Hot1 A (a, oe)) (hz : L2N.Zn (.ref (He.ga K "BadRow")) none oe) (hf : ∃ vs, oe.data = .fields vs) :
    ∃ t, PSs (L2H.cxH CX0 P wd K mg base ["_law_e", "_law_marks", "_law_word", "_law_so"] "_law_kind" (defScope s_l_kind) (He.fAd K ("_law_kind", none)) cdv A outer s H E0 (a, oe)) (defBody s_l_kind) t ∧ Eb (startR ["_law_e", "_law_marks", "_law_word", "_law_so"] [pA a]) [] t (pV (.str "BadRow")) [] := by
  have HP : ∃ p ∈ (L2H.cxH CX0 P wd K mg base ["_law_e", "_law_marks", "_law_word", "_law_so"] "_law_kind" (defScope s_l_kind) (He.fAd K ("_law_kind", none)) cdv A outer s H E0 (a, oe)).pn, L2H.Hot1 (L2H.cxH CX0 P wd K mg base ["_law_e", "_law_marks", "_law_word", "_law_so"] "_law_kind" (defScope s_l_kind) (He.fAd K ("_law_kind", none)) cdv A outer s H E0 (a, oe)).A p := ⟨(a, oe), List.mem_cons_self, hot.1, hot.2⟩
  have CI := R9.call_isH (X := L2H.cxH CX0 P wd K mg base ["_law_e", "_law_marks", "_law_word", "_law_so"] "_law_kind" (defScope s_l_kind) (He.fAd K ("_law_kind", none)) cdv A outer s H E0 (a, oe)) (D := He.ga K "BadRow") (excC_B T) List.mem_cons_self hz.zc hf
  refine ⟨_, (pss_cons (ps_set (i := 1) sc_l_kind.nd rfl (Or.inl rfl) (pe_lst (pa_cons (pe_tup (pa_cons pe_str (pa_cons (pe_callB CI (by rfl) (fr_isinstance T) (by decide +kernel) (pa_cons (pv 0) (pa_cons (pe_glob (v := V.ref (He.ga K "BadSize")) (by rfl) (gl_BadSize T) rfl) pa_nil))) pa_nil))) (pa_cons (pe_tup (pa_cons pe_str (pa_cons (pe_callB CI (by rfl) (fr_isinstance T) (by decide +kernel) (pa_cons (pv 0) (pa_cons (pe_glob (v := V.ref (He.ga K "BadNumber")) (by rfl) (gl_BadNumber T) rfl) pa_nil))) pa_nil))) pa_nil))))
      (pss_cons (ps_set (i := 1) sc_l_kind.nd rfl (Or.inl rfl) (pe_op op_cat (pv 1) (pe_lst (pa_cons (pe_tup (pa_cons pe_str (pa_cons (pe_callB CI (by rfl) (fr_isinstance T) (by decide +kernel) (pa_cons (pv 0) (pa_cons (pe_glob (v := V.ref (He.ga K "BadRow")) (by rfl) (gl_BadRow T) rfl) pa_nil))) pa_nil))) (pa_cons (pe_tup (pa_cons pe_str (pa_cons (pe_callB CI (by rfl) (fr_isinstance T) (by decide +kernel) (pa_cons (pv 0) (pa_cons (pe_glob (v := V.ref (He.ga K "BadName")) (by rfl) (gl_BadName T) rfl) pa_nil))) pa_nil))) pa_nil)))))
      (pss_cons (ps_set (i := 1) sc_l_kind.nd rfl (Or.inl rfl) (pe_op op_cat (pv 1) (pe_lst (pa_cons (pe_tup (pa_cons pe_str (pa_cons (pe_callB CI (by rfl) (fr_isinstance T) (by decide +kernel) (pa_cons (pv 0) (pa_cons (pe_glob (v := V.ref (He.ga K "BadLine")) (by rfl) (gl_BadLine T) rfl) pa_nil))) pa_nil))) (pa_cons (pe_tup (pa_cons pe_str (pa_cons (pe_callB CI (by rfl) (fr_isinstance T) (by decide +kernel) (pa_cons (pv 0) (pa_cons (pe_glob (v := V.ref (He.ga K "BadHearers")) (by rfl) (gl_BadHearers T) rfl) pa_nil))) pa_nil))) pa_nil)))))
      (pss_cons (ps_set (i := 1) sc_l_kind.nd rfl (Or.inl rfl) (pe_op op_cat (pv 1) (pe_lst (pa_cons (pe_tup (pa_cons pe_str (pa_cons (pe_callB CI (by rfl) (fr_isinstance T) (by decide +kernel) (pa_cons (pv 0) (pa_cons (pe_glob (v := V.ref (He.ga K "BadLoss")) (by rfl) (gl_BadLoss T) rfl) pa_nil))) pa_nil))) (pa_cons (pe_tup (pa_cons pe_str (pa_cons (pe_callB CI (by rfl) (fr_isinstance T) (by decide +kernel) (pa_cons (pv 0) (pa_cons (pe_glob (v := V.ref (He.ga K "BadPlan")) (by rfl) (gl_BadPlan T) rfl) pa_nil))) pa_nil))) pa_nil)))))
      (pss_cons (ps_set (i := 1) sc_l_kind.nd rfl (Or.inl rfl) (pe_op op_cat (pv 1) (pe_lst (pa_cons (pe_tup (pa_cons pe_str (pa_cons (pe_callB CI (by rfl) (fr_isinstance T) (by decide +kernel) (pa_cons (pv 0) (pa_cons (pe_glob (v := V.ref (He.ga K "BadDeed")) (by rfl) (gl_BadDeed T) rfl) pa_nil))) pa_nil))) (pa_cons (pe_tup (pa_cons pe_str (pa_cons (pe_callB CI (by rfl) (fr_isinstance T) (by decide +kernel) (pa_cons (pv 0) (pa_cons (pe_glob (v := V.ref (He.ga K "BadText")) (by rfl) (gl_BadText T) rfl) pa_nil))) pa_nil))) pa_nil)))))
      (pss_cons (ps_set (i := 1) sc_l_kind.nd rfl (Or.inl rfl) (pe_op op_cat (pv 1) (pe_lst (pa_cons (pe_tup (pa_cons pe_str (pa_cons (pe_callB CI (by rfl) (fr_isinstance T) (by decide +kernel) (pa_cons (pv 0) (pa_cons (pe_glob (v := V.ref (He.ga K "Ringed")) (by rfl) (gl_Ringed T) rfl) pa_nil))) pa_nil))) (pa_cons (pe_tup (pa_cons pe_str (pa_cons (pe_callB CI (by rfl) (fr_isinstance T) (by decide +kernel) (pa_cons (pv 0) (pa_cons (pe_glob (v := V.ref (He.ga K "Short")) (by rfl) (gl_Short T) rfl) pa_nil))) pa_nil))) pa_nil)))))
      (pss_cons (ps_set (i := 1) sc_l_kind.nd rfl (Or.inl rfl) (pe_op op_cat (pv 1) (pe_lst (pa_cons (pe_tup (pa_cons pe_str (pa_cons (pe_callB CI (by rfl) (fr_isinstance T) (by decide +kernel) (pa_cons (pv 0) (pa_cons (pe_glob (v := V.ref (He.ga K "Narrow")) (by rfl) (gl_Narrow T) rfl) pa_nil))) pa_nil))) (pa_cons (pe_tup (pa_cons pe_str (pa_cons (pe_callB CI (by rfl) (fr_isinstance T) (by decide +kernel) (pa_cons (pv 0) (pa_cons (pe_glob (v := V.ref (He.ga K "Heavy")) (by rfl) (gl_Heavy T) rfl) pa_nil))) pa_nil))) pa_nil)))))
      (pss_cons (ps_set (i := 1) sc_l_kind.nd rfl (Or.inl rfl) (pe_op op_cat (pv 1) (pe_lst (pa_cons (pe_tup (pa_cons pe_str (pa_cons (pe_callB CI (by rfl) (fr_isinstance T) (by decide +kernel) (pa_cons (pv 0) (pa_cons (pe_glob (v := V.ref (He.ga K "Unsolved")) (by rfl) (gl_Unsolved T) rfl) pa_nil))) pa_nil))) (pa_cons (pe_tup (pa_cons pe_str (pa_cons (pe_callB CI (by rfl) (fr_isinstance T) (by decide +kernel) (pa_cons (pv 0) (pa_cons (pe_glob (v := V.ref (He.ga K "NoHouse")) (by rfl) (gl_NoHouse T) rfl) pa_nil))) pa_nil))) pa_nil)))))
      (pss_cons (ps_set (i := 1) sc_l_kind.nd rfl (Or.inl rfl) (pe_op op_cat (pv 1) (pe_lst (pa_cons (pe_tup (pa_cons pe_str (pa_cons (pe_callB CI (by rfl) (fr_isinstance T) (by decide +kernel) (pa_cons (pv 0) (pa_cons (pe_glob (v := V.ref (He.ga K "NoLine")) (by rfl) (gl_NoLine T) rfl) pa_nil))) pa_nil))) (pa_cons (pe_tup (pa_cons pe_str (pa_cons (pe_callB CI (by rfl) (fr_isinstance T) (by decide +kernel) (pa_cons (pv 0) (pa_cons (pe_glob (v := V.ref (He.ga K "Taken")) (by rfl) (gl_Taken T) rfl) pa_nil))) pa_nil))) (pa_cons (pe_tup (pa_cons pe_str (pa_cons (pe_callB CI (by rfl) (fr_isinstance T) (by decide +kernel) (pa_cons (pv 0) (pa_cons (pe_glob (v := V.ref (He.ga K "Full")) (by rfl) (gl_Full T) rfl) pa_nil))) pa_nil))) pa_nil))))))
      (pss_cons (ps_set (i := 1) sc_l_kind.nd rfl (Or.inl rfl) (pe_op op_cat (pv 1) (pe_lst (pa_cons (pe_tup (pa_cons pe_str (pa_cons (pe_callB CI (by rfl) (fr_isinstance T) (by decide +kernel) (pa_cons (pv 0) (pa_cons (pe_glob (v := V.ref (He.ga K "InUse")) (by rfl) (gl_InUse T) rfl) pa_nil))) pa_nil))) (pa_cons (pe_tup (pa_cons pe_str (pa_cons (pe_callB CI (by rfl) (fr_isinstance T) (by decide +kernel) (pa_cons (pv 0) (pa_cons (pe_glob (v := V.ref (He.ga K "Told")) (by rfl) (gl_Told T) rfl) pa_nil))) pa_nil))) pa_nil)))))
      (pss_cons (ps_set (i := 1) sc_l_kind.nd rfl (Or.inl rfl) (pe_op op_cat (pv 1) (pe_lst (pa_cons (pe_tup (pa_cons pe_str (pa_cons (pe_callB CI (by rfl) (fr_isinstance T) (by decide +kernel) (pa_cons (pv 0) (pa_cons (pe_glob (v := V.ref (He.ga K "NothingLeft")) (by rfl) (gl_NothingLeft T) rfl) pa_nil))) pa_nil))) (pa_cons (pe_tup (pa_cons pe_str (pa_cons (pe_callB CI (by rfl) (fr_isinstance T) (by decide +kernel) (pa_cons (pv 0) (pa_cons (pe_glob (v := V.ref (He.ga K "NoShare")) (by rfl) (gl_NoShare T) rfl) pa_nil))) pa_nil))) pa_nil)))))
      (pss_one (ps_ret (pe_join pe_str (R8.pe_lcS (own := [("_law_word", 2), ("_law_so", 3)]) HP sc_l_kind.nd (pv 1) (blkOk_by (by kernel_rfl)) (fun _ _ _ _ _ hot => by exact (gTS (K := K) (n := 2) hot (pgs_cons (pg_name (i := 2) sc_l_kind.nd rfl (Or.inl rfl)) (pgs_cons (pg_name (i := 3) sc_l_kind.nd rfl (Or.inl rfl)) pgs_nil)))) (fun _ _ _ _ _ => (pts_one (pt_val (pv 3)))) (fun _ _ _ _ _ => (pv 2))))))))))))))))), ?_⟩
  show Eb [some (pA a), none, none, none] [] _ (pV (.str "BadRow")) []
  refine Er.eb (er_seq (es_set (ee_lst (ea_cons (mk_ok rfl (bx_k_BadSize T)) (ea_cons (mk_ok rfl (bx_k_BadNumber T)) ea_nil)) (by simp))) (er_seq (es_set (ee_catL (ee_var rfl) (ee_lst (ea_cons (mk_ok rfl (bx_k_BadRow T)) (ea_cons (mk_ok rfl (bx_k_BadName T)) ea_nil)) (by simp)) (by simp))) (er_seq (es_set (ee_catL (ee_var rfl) (ee_lst (ea_cons (mk_ok rfl (bx_k_BadLine T)) (ea_cons (mk_ok rfl (bx_k_BadHearers T)) ea_nil)) (by simp)) (by simp))) (er_seq (es_set (ee_catL (ee_var rfl) (ee_lst (ea_cons (mk_ok rfl (bx_k_BadLoss T)) (ea_cons (mk_ok rfl (bx_k_BadPlan T)) ea_nil)) (by simp)) (by simp))) (er_seq (es_set (ee_catL (ee_var rfl) (ee_lst (ea_cons (mk_ok rfl (bx_k_BadDeed T)) (ea_cons (mk_ok rfl (bx_k_BadText T)) ea_nil)) (by simp)) (by simp))) (er_seq (es_set (ee_catL (ee_var rfl) (ee_lst (ea_cons (mk_ok rfl (bx_k_Ringed T)) (ea_cons (mk_ok rfl (bx_k_Short T)) ea_nil)) (by simp)) (by simp))) (er_seq (es_set (ee_catL (ee_var rfl) (ee_lst (ea_cons (mk_ok rfl (bx_k_Narrow T)) (ea_cons (mk_ok rfl (bx_k_Heavy T)) ea_nil)) (by simp)) (by simp))) (er_seq (es_set (ee_catL (ee_var rfl) (ee_lst (ea_cons (mk_ok rfl (bx_k_Unsolved T)) (ea_cons (mk_ok rfl (bx_k_NoHouse T)) ea_nil)) (by simp)) (by simp))) (er_seq (es_set (ee_catL (ee_var rfl) (ee_lst (ea_cons (mk_ok rfl (bx_k_NoLine T)) (ea_cons (mk_ok rfl (bx_k_Taken T)) (ea_cons (mk_ok rfl (bx_k_Full T)) ea_nil))) (by simp)) (by simp))) (er_seq (es_set (ee_catL (ee_var rfl) (ee_lst (ea_cons (mk_ok rfl (bx_k_InUse T)) (ea_cons (mk_ok rfl (bx_k_Told T)) ea_nil)) (by simp)) (by simp))) (er_seq (es_set (ee_catL (ee_var rfl) (ee_lst (ea_cons (mk_ok rfl (bx_k_NothingLeft T)) (ea_cons (mk_ok rfl (bx_k_NoShare T)) ea_nil)) (by simp)) (by simp))) (er_ret (Ev.is (ee_join (ys := ["BadRow"]) ee_c (Ev.is (ee_lc (vs := [2, 3]) marksB (mkP K) (fun m => m.2) (fun m => pV (.str m.1)) (ei_list (Ev.is (ee_var rfl) rfl)) (wp_tup2 (by simp) (by simp)) (by decide) (fun m hm => ⟨_, eg_tup2 eg_name eg_name, et_test (ee_var rfl), fun _ => ee_var rfl⟩)) rfl) (by decide)) (congrArg (fun x => pV (.str x)) (by decide +kernel)))))))))))))))
end
end J
/-! ## W30 -/
set_option Elab.async false
set_option linter.all false
set_option maxRecDepth 100000
set_option maxHeartbeats 600000
namespace J
open PySem L2 KT
local macro_rules | `(tactic| walk_at "sub") => `(tactic| repeat (first | exact Sub.nil | (with_reducible refine Sub.keep (Pr.le_refl _) ?_) | refine Sub.drop ?_ | refine Sub.keepV (by first | rfl | (simp; done) | omega) ?_ | refine Sub.keep (Pr.le_refl _) ?_))
section
variable {P : Program} {wd : World} {K : PySem.W.Frag} {mg : Str → Option Value} {base : Heap}
/-- what l_why makes of a lambda that raises -/
def TTw (K : PySem.W.Frag) : (XK → Hp → VK → Prop) → Hp → VK → Prop := fun tl H Q => ∃ (w : List Ow) (F : Hp), Good w F H ∧ (∀ (E : XK) (Q' : VK), (∀ F' H', Step w w F H F' H' → E (.ref (He.ga K "BadRow")) none H') → tl E H Q') ∧
  ∀ v F' H', Step w w F H F' H' → (pTup K [pN, pV (.str "BadRow")]).p F' v → Q v H'
abbrev whyN : List Str := ["_law_ask", "_law_told", "_law_word", "_law_e"]
theorem takesN0 {X : Cx} : L2N.Takes X (fun _ _ _ _ => False) := fun _ _ x => by
  obtain ⟨_, _, _, _, _, _, _, _, _, _, _, _, _, _, _, _, z⟩ := x
  exact z.elim
theorem why_gives {X : Cx} (T : Tx X.K X.mg) {cdv : Value} {q : Str} : R9.GivesW X 2 whyN "_law_why" (defScope s_l_why) (He.fAd X.K ("_law_why", none)) cdv (defBody s_l_why) "_law_ask" q (TTw X.K) := by
  intro f c' s H Q tl hr act hc h
  obtain ⟨fk, Fk⟩ := fd_l_kind T
  have hbk : Binds X.K fk ["_law_e"] [] := Fk.bindsN (fun _ _ _ _ _ _ us hl => match us, hl with | [_], _ => rfl)
  have hkp := Fk.kp
  obtain ⟨oc, od, dV, kV, doc, pm, an, cdk, ct, osl, rfl, lk, hck, _, _⟩ := Fk.ex
  obtain ⟨w, F, g, hE, hQ⟩ := h
  let Z : Cx := cxOf CX0 X.prog X.w X.K X.mg X.base whyN "_law_why" (defScope s_l_why) (He.fAd X.K ("_law_why", none)) cdv X.A X.stack s H E0
  have nm : ∀ {x : Str} {c : Addr}, Gl Z x → (x == ("__debug__" : Str)) = false → X.mg x = some (.ref c) → Names Z x (.ref c) := fun h1 h2 h3 => ⟨h1, h2, .inl h3⟩
  have suite : ∀ (a : Addr) (oe : Obj) (cls : Value) (d : Option Addr) (pn : List (Addr × Obj)), L2N.Zn cls d oe → (∃ vs, oe.data = .fields vs) → ∀ {p1 p2 p3 p4 p5 : Pos},
      PSs (Z.suite a ((a, oe) :: pn)) [.Assign [.Name "_law_word" p1] (.Call (.Name "_law_kind" p2) [.Name "_law_e" p3] [] p4) p5]
        (fun D σ H => (cls = .ref (He.ga X.K "BadRow") ∧ d = none) ∧ tAsg (fun σ H Q => tCons (tVar 3) tNil σ H fun vs H1 => vs = [.ref a] ∧ ∃ F, Good [] F H1 ∧ ∀ v F' H', Step [] [] F H1 F' H' → (pV (.str "BadRow")).p F' v → Q v H') (gName 2) D σ H) := by
    intro a oe cls d pn hz hf p1 p2 p3 p4 p5
    refine ⟨fun pins s' σ H' D I h' => ?_⟩
    obtain ⟨⟨rfl, rfl⟩, h'⟩ := h'
    obtain ⟨vs, hv⟩ := id hf
    have hot : L2H.Hot1 (Z.A.mark (some (.ref a))) (a, oe) := ⟨rfl, vs, hv, hz.2.2 vs hv⟩
    have ps : PSs (Z.suite a ((a, oe) :: pn)) [.Assign [.Name "_law_word" p1] (.Call (.Name "_law_kind" p2) [.Name "_law_e" p3] [] p4) p5] _ := pss_one (ps_set (i := 2) sc_l_why.nd rfl (Or.inl rfl) (R9.pe_callE (X := Z) (a := a) (oe := oe) (pn := pn) (p := p2) (pos := p4) (P := pV (.str "BadRow")) hot (show Gl Z "_law_kind" by rfl) (gl_l_kind T) hkp lk hck hbk sc_l_kind hr
      (pa_cons (pv (X := Z.suite a ((a, oe) :: pn)) 3) pa_nil) (fun s H => kind_body T hot hz hf)))
    exact ps.run pins s' σ H' D I h'
  refine ⟨_, pss_cons (ps_set (X := Z) (i := 1) sc_l_why.nd rfl (Or.inl rfl) pe_non) (pss_cons (ps_set (i := 2) sc_l_why.nd rfl (Or.inl rfl) pe_str) (pss_cons (R10.ps_tryA (X := Z) (n := "_law_e") (i := 3) (Wout := fun _ _ _ _ => False)
      (tb := fun W D σ H => σ[0]? = some (some (.ref f)) ∧ H c' = some (LamX.CodeO c' q) ∧ tl (WE W σ) H (fun v H1 => D.nx (σ.set 1 (some v)) H1))
      rfl rfl sc_l_why.nd rfl rfl takesN0 (fun W pn xe tk _ => ?_)
      (.cons (.name (nm (by rfl) (by decide) (gl_NoHouse T))) (fun a oe cls d pn _ _ => pss_never) (.cons (.name (nm (by rfl) (by decide) (gl_NoLine T))) (fun a oe cls d pn _ _ => pss_never) (.cons (.name (nm (by rfl) (by decide) (gl_InUse T))) (fun a oe cls d pn _ _ => pss_never)
        (.cons (.name (nm (by rfl) (by decide) (gl_BadText T))) (fun a oe cls d pn _ _ => pss_never) (.cons (.name (nm (by rfl) (by decide) (gl_Heavy T))) (fun a oe cls d pn _ _ => pss_never)
          (.cons (.tup (nm (by rfl) (by decide) (gl_MingleError T)) (nm (by rfl) (by decide) (gl_Missing T)) (nm (by rfl) (by decide) (gl_Busy T)) (nm (by rfl) (by decide) (gl_NoShare T))) (fun a oe cls d pn hz hf => suite a oe cls d pn hz hf) .nil)))))))
      (pss_one (ps_ret (pe_tup (pa_cons (pv 1) (pa_cons (pv 2) pa_nil))))))), ?_⟩
  · refine ⟨fun pins s' σ H' D I h' => ?_⟩
    exact (pss_one (ps_set (i := 1) sc_l_why.nd rfl (Or.inl rfl) (act W pn xe _ _ tk))).run pins s' σ H' D I h'
  · show _ ∧ _ ∧ tl _ H _
    refine ⟨rfl, hc, hE _ _ fun F1 H1 s1 => ?_⟩
    refine ⟨false, bx_x_NoHouse T, (fun z => nomatch z), fun _ => ⟨false, bx_x_NoLine T, (fun z => nomatch z), fun _ => ⟨false, bx_x_InUse T, (fun z => nomatch z), fun _ => ⟨false, bx_x_BadText T, (fun z => nomatch z), fun _ => ⟨false, bx_x_Heavy T, (fun z => nomatch z), fun _ => ⟨true, bx_x_any T, (fun _ a ha => ⟨⟨rfl, rfl⟩, ?_⟩), fun z => nomatch z⟩⟩⟩⟩⟩⟩
    refine ⟨.ref a, rfl, rfl, F1, Good.front (w := []) (r := w) s1.good, fun v F2 H2 s2 hv => ?_⟩
    have hv : v = .str "BadRow" := hv
    subst hv
    have s12 := s1.trans (s2.frame (r := w) s1.good)
    refine ee_tup (K := X.K) (ρ := [none, some pN, some (pV (.str "BadRow")), none]) (w := w) (ea_cons (ee_var rfl) (ea_cons (ee_var rfl) ea_nil)) (by simp) [some (.ref f), some .non, some (.str "BadRow"), none] F2 H2 _ ⟨rfl, fun i P hi => ?_⟩ s12.good fun v F3 H3 s3 p3 => hQ v F3 H3 (s12.trans s3) p3
    match i, hi with
    | 1, hi => cases hi; exact ⟨_, rfl, rfl⟩
    | 2, hi => cases hi; exact ⟨_, rfl, rfl⟩
    | 0, hi => cases hi
    | 3, hi => cases hi
    | i + 4, hi => cases hi
end
end J
/-! ## W31 -/
set_option Elab.async false
set_option linter.all false
set_option maxRecDepth 100000
set_option maxHeartbeats 600000
namespace J
open PySem L2 KT
local macro_rules | `(tactic| walk_at "sub") => `(tactic| repeat (first | exact Sub.nil | (with_reducible refine Sub.keep (Pr.le_refl _) ?_) | refine Sub.drop ?_ | refine Sub.keepV (by first | rfl | (simp; done) | omega) ?_ | refine Sub.keep (Pr.le_refl _) ?_))
section
variable {P : Program} {wd : World} {K : PySem.W.Frag} {mg : Str → Option Value} {base : Heap}
theorem es_forG {α : Type} {ρ : En} {w : List Ow} {wi : TI} {g : TG} {tb' : TS} (xs : List α) (f : α → Pr) (R : Nat → En) (h0 : Sub ρ (R 0)) (hi : EiG ρ w wi (xs.map f))
    (hs : ∀ i x, xs[i]? = some x → ∃ ρx ρy, Eg g (f x) (R i) ρx ∧ Es ρx w tb' ρy w ∧ Sub ρy (R (i + 1))) : Es ρ w (tFor wi g tb') (R xs.length) w := fun σ F H D e gd k => by
  refine hi σ F H _ e gd fun J F0 H0 t0 it => ?_
  refine ⟨fun i m σ' H' => m = xs.length - i ∧ i ≤ xs.length ∧ ∃ F', Step w w F H F' H' ∧ EnvR (R i) σ' F' ∧ Ext F0 F', ⟨xs.length, rfl, Nat.zero_le _, F0, t0, (e.mono t0.exF).sub h0, Ext.refl _⟩, ?_⟩
  rintro i m σ1 H1 ⟨rfl, hil, F1, t1, e1, x1⟩
  obtain ⟨itg, its⟩ := it [] F1 H1 x1 (by rw [List.append_nil]; exact t1.good)
  by_cases hlt : i < xs.length
  · obtain ⟨hgo, hy⟩ := itg i (f xs[i]) (by rw [List.getElem?_map, List.getElem?_eq_getElem hlt]; rfl)
    refine .inr ⟨hgo, fun σ' H' => ∃ F', Step w w F H F' H' ∧ EnvR (R (i + 1)) σ' F' ∧ Ext F0 F', fun σ' H' ⟨F', a, b, c⟩ => ⟨xs.length - (i + 1), by omega, rfl, by omega, F', a, b, c⟩, fun x H2 y => ?_⟩
    obtain ⟨F2, gr, p2⟩ := hy x H2 y
    have t2 := gr.st w t1.good
    obtain ⟨ρx, ρy, hg, hb, hsb⟩ := hs i xs[i] (List.getElem?_eq_getElem hlt)
    refine hg x σ1 F2 H2 _ (e1.mono t2.exF) t2.good.ex p2 fun σ3 e3 => ?_
    exact hb σ3 F2 H2 _ e3 t2.good fun σ4 F4 H4 t4 e4 => ⟨F4, (t1.trans t2).trans t4, e4.sub hsb, (x1.trans t2.exF).trans t4.exF⟩
  · have ei : i = xs.length := by omega
    subst ei
    rw [List.length_map] at its
    exact .inl ⟨its, k σ1 F1 H1 t1 e1⟩
theorem ee_eqNilO {ρ : En} {w1 w2 : List Ow} {ta tb : TE} {a : Addr} {l : List (List Int)} (ha : Ee ρ (w1 ++ oLst a (l.map (pRow K)) :: w2) ta (pA a)) (hb : Ee ρ (w1 ++ oLst a (l.map (pRow K)) :: w2) tb (pLst [])) : Ee ρ (w1 ++ oLst a (l.map (pRow K)) :: w2) (tOp (rEqD K) ta tb) (pB l.isEmpty) :=
  ee_op ha hb fun x y F H Q hx hy g k => by
    obtain ⟨_, o, ho, vs, rfl, h3⟩ := g.ow (oLst a (l.map (pRow K))) (by simp)
    have hx : x = .ref a := hx
    exact ⟨.list (l.map dRow), .list [], hx ▸ .lst (SqL.of ho) ((DpOfs.map fun _ _ => dp_row).all g.ex h3), dp_lst .nil F H y g.ex hy, sh_rows l, by rfl, k _ F H (Step.refl g) (by show V.bl _ = V.bl _; rw [show PyData.eqv (.list (l.map dRow)) (.list []) = l.isEmpty from eqv_nil l])⟩
abbrev oRw (K : PySem.W.Frag) (a : Addr) (l : List (List Int)) : Ow := oLst a (l.map (pRow K))
/-- words in an owned list -/
def sp_need_wordsO (K : PySem.W.Frag) : Sp := Pm (I := (Nat × Nat × List (List Int)) × Addr × List Ow) (fun i => i.1.1 ∈ KM.sizes ∧ (1 ≤ i.1.2.1 ∧ i.1.2.1 ≤ 500) ∧ i.1.2.2 ≠ [] ∧ RowsOk i.1.1 i.1.2.1 i.1.2.2) (fun i => [pFq K i.1.1, pA i.2.1, pI (i.1.2.2.length : Nat)]) (fun i => i.2.2 ++ [oRw K i.2.1 i.1.2.2]) (fun i => pI (i.1.2.1 : Nat)) (fun i => i.2.2 ++ [oRw K i.2.1 i.1.2.2])
theorem tl_need_wordsO {q b : Nat} {ws : List (List Int)} {a : Addr} {r : List Ow} (h : q ∈ KM.sizes ∧ (1 ≤ b ∧ b ≤ 500) ∧ ws ≠ [] ∧ RowsOk q b ws) : Tl (sp_need_wordsO K) [pFq K q, pA a, pI (ws.length : Nat)] (r ++ [oRw K a ws]) (pI (b : Nat)) (r ++ [oRw K a ws]) := tl_pm (I := (Nat × Nat × List (List Int)) × Addr × List Ow) ((q, b, ws), a, r) h
abbrev C_need_wordsO (P : Program) (wd : World) (K : PySem.W.Frag) (mg : Str → Option Value) (base : Heap) : Prop := CallG P wd K mg base 3 "need_words" ["field", "words", "letters"] [] (sp_need_wordsO K)
theorem ok_need_wordsO (T : Tx K mg) (c_Field_needs_row : C_Field_needs_row P wd K mg base) : C_need_wordsO P wd K mg base := by
  obtain ⟨fd, F⟩ := fd_need_words T
  have G : FnOk P wd K mg base CX0 3 _ fd ["field", "words", "letters"] (sp_need_wordsO K) := fn_pm F sc_need_words (fun _ _ => rfl) (fun cdv A outer s H E hr i hi => by
    obtain ⟨⟨q, b, ws⟩, a, r⟩ := i
    obtain ⟨hq, hb, hne, hws⟩ : q ∈ KM.sizes ∧ (1 ≤ b ∧ b ≤ 500) ∧ ws ≠ [] ∧ RowsOk q b ws := hi
    obtain ⟨w0, rest, rfl⟩ := List.exists_cons_of_ne_nil hne
    have h0 := hws w0 List.mem_cons_self
    refine ⟨_, (pss_cons (ps_if (PW.pt (pw_or (pt_cmpR op_ne (pe_callB (KX.len (K := K)) (by rfl) (fr_len T) PySem.boot_len (pa_cons (pv 1) pa_nil)) (pv 2) (nomark _)) (pw_or (pt_cmpR (KX.eqD (K := K) hr.units) (pv 1) (pe_lst pa_nil) (nomark _)) (pw_or1 (pt_cmpR op_eq (pe_callB (KX.len (K := K)) (by rfl) (fr_len T) PySem.boot_len (pa_cons (pe_ix (KX.ixL (K := K)) (pv 1) pe_int (fun _ _ => rfl)) pa_nil)) pe_int (nomark _)))))) (pss_one ps_never) pss_nil)
      (pss_cons (ps_for PassesOwn.never rfl (KX.iL (K := K) (pv 1)) (pg_name (i := 3) sc_need_words.nd rfl (Or.inl rfl)) (pss_one (ps_expr (pe_methG (pv 0) (cl_Field T) c_Field_needs_row hr (pa_cons (pv 3) (pa_cons (pe_callB (KX.len (K := K)) (by rfl) (fr_len T) PySem.boot_len (pa_cons (pe_ix (KX.ixL (K := K)) (pv 1) pe_int (fun _ _ => rfl)) pa_nil)) pa_nil))))))
      (pss_one (ps_ret (pe_callB (KX.len (K := K)) (by rfl) (fr_len T) PySem.boot_len (pa_cons (pe_ix (KX.ixL (K := K)) (pv 1) pe_int (fun _ _ => rfl)) pa_nil)))))), ?_⟩
    show Eb [some (pFq K q), some (pA a), some (pI ((w0 :: rest).length : Nat)), none] (r ++ oLst a ((w0 :: rest).map (pRow K)) :: []) _ (pI (b : Nat)) (r ++ oLst a ((w0 :: rest).map (pRow K)) :: [])
    have len0 : ∀ {ρ : En}, ρ[1]? = some (some (pA a)) → Ee ρ (r ++ oLst a ((w0 :: rest).map (pRow K)) :: []) (tCB (fun xs H Q => ∃ p ys, xs = [.ref p] ∧ (SqL K H p ys ∨ SqT K H p ys) ∧ Q (.int ys.length) H) (tCons (tOp (rIxL K) (tVar 1) (tC (.int 0))) tNil)) (pI (b : Nat)) := fun h =>
      ee_lenT (ps := w0.map pI) (ea_cons (ee_ixO (n := 0) (P := pRow K w0) (ee_var h) ee_c (ixN_eq (m := 0) rfl (by simp)) rfl) ea_nil) (by rw [List.length_map, h0.2])
    refine Er.eb (er_ifr (b := false) (et_or (a := false) (b := false) (Et.is (et_test (ee_neI (ee_lenLO (ea_cons (ee_var rfl) ea_nil) (by rw [List.length_map])) (ee_var rfl))) (by simp)) (fun _ => et_or (a := false) (b := false) (Et.is (et_test (ee_eqNilO (l := w0 :: rest) (ee_var rfl) (ee_lst ea_nil (by simp)))) rfl) (fun _ => Et.is (et_test (ee_eqI (len0 rfl) ee_c)) (by simp; omega)))) (fun z => by cases z) (fun _ => ?_))
    refine er_seq (es_forG (w0 :: rest) (pRow K) (fun _ => [some (pFq K q), some (pA a), some (pI ((w0 :: rest).length : Nat)), none]) (by walk_at "sub") (ei_listO (ee_var rfl)) (fun k x hx => ?_)) (er_ret (len0 rfl))
    have hx1 := hws x (List.mem_of_getElem? hx)
    exact ⟨_, [some (pFq K q), some (pA a), some (pI ((w0 :: rest).length : Nat)), some (pRow K x)], eg_name, es_drop (ee_meth (ee_var rfl) rfl (ea_cons (ee_var rfl) (ea_cons (len0 rfl) ea_nil)) (tl_Field_needs_row ⟨hx1.1, by omega⟩ (by rw [hx1.2]))), by walk_at "sub"⟩
)
  exact ⟨fd, _, [], G, gl_need_words T, F.kp, F.bindsN (fun _ _ _ _ _ _ us hl => match us, hl with | [_, _, _], _ => rfl), .nil⟩
def sp_checkedO (K : PySem.W.Frag) : Sp := Pm (I := (Nat × Nat × List (List Int) × List Int) × Addr × List Ow) (fun i => i.1.1 ∈ KM.sizes ∧ i.1.2.1 ≤ 500 ∧ i.1.2.2.1.length ≤ 100 ∧ RowsOk i.1.1 i.1.2.1 i.1.2.2.1 ∧ In i.1.1 i.1.2.2.2 ∧ i.1.2.2.2.length = i.1.2.1) (fun i => [pFq K i.1.1, pA i.2.1, pRow K i.1.2.2.2]) (fun i => i.2.2 ++ [oRw K i.2.1 i.1.2.2.1]) (fun i => pRow K (chkI i.1.1 i.1.2.2.1 i.1.2.2.2)) (fun i => i.2.2 ++ [oRw K i.2.1 i.1.2.2.1])
theorem tl_checkedO {q b : Nat} {ws : List (List Int)} {k : List Int} {a : Addr} {r : List Ow} (h : q ∈ KM.sizes ∧ b ≤ 500 ∧ ws.length ≤ 100 ∧ RowsOk q b ws ∧ In q k ∧ k.length = b) : Tl (sp_checkedO K) [pFq K q, pA a, pRow K k] (r ++ [oRw K a ws]) (pRow K (chkI q ws k)) (r ++ [oRw K a ws]) := tl_pm (I := (Nat × Nat × List (List Int) × List Int) × Addr × List Ow) ((q, b, ws, k), a, r) h
abbrev C_checkedO (P : Program) (wd : World) (K : PySem.W.Frag) (mg : Str → Option Value) (base : Heap) : Prop := CallG P wd K mg base 4 "checked" ["field", "words", "key"] [] (sp_checkedO K)
theorem ok_checkedO (T : Tx K mg) (c_Field_less : C_Field_less P wd K mg base) (c_Field_along : C_Field_along P wd K mg base) : C_checkedO P wd K mg base := by
  obtain ⟨fd, F⟩ := fd_checked T
  have G : FnOk P wd K mg base CX0 4 _ fd ["field", "words", "key"] (sp_checkedO K) := fn_pm F sc_checked (fun _ _ => rfl) (fun cdv A outer s H E hr i hi => by
    obtain ⟨⟨q, b, ws, k⟩, a, r⟩ := i
    obtain ⟨hq, hb, hwl, hws, hk⟩ : q ∈ KM.sizes ∧ b ≤ 500 ∧ ws.length ≤ 100 ∧ RowsOk q b ws ∧ In q k ∧ k.length = b := hi
    have hq1 := (KM.sizes_pr q hq).2.2.2.2.2.1
    refine ⟨_, (pss_one (ps_ret (pe_op (KX.catT (K := K)) (pe_callTy (KX.tupOf (K := K)) (by rfl) (fr_tuple T) (by decide +kernel) (pa_cons (pe_lc (own := [("word", 3)]) (by rfl) sc_checked.nd (KX.iL (K := K) (pv 1)) (blkOk_by (by kernel_rfl)) (fun _ _ _ _ _ => by exact (pg_name (i := 3) sc_checked.nd rfl (Or.inl rfl))) (fun _ _ _ _ _ => pts_nil) (fun _ _ _ _ _ => (pe_methG (pv 0) (cl_Field T) c_Field_less hr (pa_cons pe_int (pa_cons (pe_methG (pv 0) (cl_Field T) c_Field_along hr (pa_cons (pv 3) (pa_cons (pv 2) pa_nil))) pa_nil))))) pa_nil)) (pe_callTy (KX.tupOf (K := K)) (by rfl) (fr_tuple T) (by decide +kernel) (pa_cons (pv 2) pa_nil))))), ?_⟩
    show Eb [some (pFq K q), some (pA a), some (pRow K k), none] (r ++ oLst a (ws.map (pRow K)) :: []) _ (pRow K (chkI q ws k)) (r ++ oLst a (ws.map (pRow K)) :: [])
    refine Er.eb (er_ret (Ev.is (ee_catT (ee_tupOf (ea_cons (ee_lcGY (vs := [3]) ws (pRow K) (fun w => pI (KM.addI q 0 (alongI q w k) (-1))) (ei_listO (ee_var rfl)) (wp_name (by simp)) (by omega) (fun x hx => ?_)) ea_nil)) (ee_tupId (ea_cons (ee_var rfl) ea_nil)) (by rw [List.length_map, List.length_map]; omega)) (by rw [pRow, chkI, List.map_append, List.map_map]; rfl)))
    have hx1 := hws x hx
    exact ⟨_, eg_name, ee_meth (ee_var rfl) rfl (ea_cons ee_c (ea_cons (ee_meth (ee_var rfl) rfl (ea_cons (ee_var rfl) (ea_cons (ee_var rfl) ea_nil)) (tl_Field_along ⟨hq, hx1.1, by omega⟩)) ea_nil)) (tl_Field_less ⟨hq, ⟨by omega, by omega⟩, along_in hq hx1.1 hk.1⟩)⟩
)
  exact ⟨fd, _, [], G, gl_checked T, F.kp, F.bindsN (fun _ _ _ _ _ _ us hl => match us, hl with | [_, _, _], _ => rfl), .nil⟩
def sp_Guard_initO (K : PySem.W.Frag) : Sp := Pm (I := GuI × Addr × Addr) (fun i => GuOk i.1.q i.1.b i.1.ws i.1.ks) (fun i => [pA i.1.x, pFq K i.1.q, pA i.2.1, pA i.2.2]) (fun i => [oRw K i.2.2 i.1.ks, oRw K i.2.1 i.1.ws, oIns i.1.x (He.ga K "Guard") []]) (fun i => pN) (fun i => [oRw K i.2.2 i.1.ks, oRw K i.2.1 i.1.ws, oIns i.1.x (He.ga K "Guard") (fdG K i.1.q (i.1.ws.length + i.1.b) (i.1.ks.map (chkI i.1.q i.1.ws)))])
theorem tl_Guard_initO {x : Addr} {q b : Nat} {ws ks : List (List Int)} {a1 a2 : Addr} (h : GuOk q b ws ks) : Tl (sp_Guard_initO K) [pA x, pFq K q, pA a1, pA a2] [oRw K a2 ks, oRw K a1 ws, oIns x (He.ga K "Guard") []] pN [oRw K a2 ks, oRw K a1 ws, oIns x (He.ga K "Guard") (fdG K q (ws.length + b) (ks.map (chkI q ws)))] := tl_pm (I := GuI × Addr × Addr) (⟨x, q, b, ws, ks⟩, a1, a2) h
abbrev C_Guard_initO (P : Program) (wd : World) (K : PySem.W.Frag) (mg : Str → Option Value) (base : Heap) : Prop := CallI P wd K mg base 5 "Guard" (He.ga K "Guard") ["self", "field", "words", "keys"] [] (sp_Guard_initO K)
theorem ok_Guard_initO (T : Tx K mg) (c_need_words : C_need_wordsO P wd K mg base) (c_Field_needs_row : C_Field_needs_row P wd K mg base) (c_checked : C_checkedO P wd K mg base) : C_Guard_initO P wd K mg base := by
  obtain ⟨fd, F⟩ := fd_Guard_init T
  have G : FnOk P wd K mg base CX0 5 _ fd ["self", "field", "words", "keys"] (sp_Guard_initO K) := fn_pm F sc_Guard_init (fun _ _ => rfl) (fun cdv A outer s H E hr i hi => by
    obtain ⟨⟨x, q, b, ws, ks⟩, a1, a2⟩ := i
    obtain ⟨hq, hb, ⟨hne, hwl⟩, hkl, hws, hks⟩ : GuOk q b ws ks := hi
    refine ⟨_, (pss_cons (ps_set (i := 4) sc_Guard_init.nd rfl (Or.inl rfl) (pe_callG c_need_words hr (by rfl) (pa_cons (pv 1) (pa_cons (pv 2) (pa_cons (pe_callB (KX.len (K := K)) (by rfl) (fr_len T) PySem.boot_len (pa_cons (pv 2) pa_nil)) pa_nil)))))
      (pss_cons (ps_for PassesOwn.never rfl (KX.iL (K := K) (pv 3)) (pg_name (i := 5) sc_Guard_init.nd rfl (Or.inl rfl)) (pss_one (ps_expr (pe_methG (pv 1) (cl_Field T) c_Field_needs_row hr (pa_cons (pv 5) (pa_cons (pv 4) pa_nil))))))
      (pss_cons (KX.sfld (K := K) (pv 0) (pv 1) rfl)
      (pss_cons (KX.sfld (K := K) (pv 0) (pe_op op_add (pe_callB (KX.len (K := K)) (by rfl) (fr_len T) PySem.boot_len (pa_cons (pv 2) pa_nil)) (pv 4)) rfl)
      (pss_one (KX.sfld (K := K) (pv 0) (pe_lc (own := [("key", 5)]) (by rfl) sc_Guard_init.nd (KX.iL (K := K) (pv 3)) (blkOk_by (by kernel_rfl)) (fun _ _ _ _ _ => by exact (pg_name (i := 5) sc_Guard_init.nd rfl (Or.inl rfl))) (fun _ _ _ _ _ => pts_nil) (fun _ _ _ _ _ => (pe_callG c_checked hr (by rfl) (pa_cons (pv 1) (pa_cons (pv 2) (pa_cons (pv 5) pa_nil)))))) rfl)))))), ?_⟩
    show Eb [some (pA x), some (pFq K q), some (pA a1), some (pA a2), none, none] [oRw K a2 ks, oRw K a1 ws, oIns x (He.ga K "Guard") []] _ pN [oRw K a2 ks, oRw K a1 ws, oIns x (He.ga K "Guard") (fdG K q (ws.length + b) (ks.map (chkI q ws)))]
    refine Es.eb (ρ' := [some (pA x), some (pFq K q), some (pA a1), some (pA a2), some (pI (b : Nat)), none]) (es_seq (ρ1 := [some (pA x), some (pFq K q), some (pA a1), some (pA a2), some (pI (b : Nat)), none]) (w1 := [oRw K a2 ks, oRw K a1 ws, oIns x (He.ga K "Guard") []]) (es_set (ev_call (w := [oRw K a2 ks, oRw K a1 ws, oIns x (He.ga K "Guard") []]) (w' := [oRw K a2 ks, oRw K a1 ws, oIns x (He.ga K "Guard") []]) (r := []) (ds := []) (ea_cons (ee_var rfl) (ea_cons (ee_var rfl) (ea_cons (ee_lenLO (w1 := [oRw K a2 ks]) (w2 := [oIns x (He.ga K "Guard") []]) (ps := ws.map (pRow K)) (ea_cons (ee_var rfl) ea_nil) (by rw [List.length_map])) ea_nil))) (fun _ => .nil) ((tl_need_wordsO (r := [oRw K a2 ks, oIns x (He.ga K "Guard") []]) ⟨hq, ⟨hb.1, by omega⟩, hne, hws⟩).perm (List.Perm.cons _ (List.Perm.swap _ _ _)) (List.Perm.cons _ (List.Perm.swap _ _ _)))))
      (es_seq (w1 := [oRw K a2 ks, oRw K a1 ws, oIns x (He.ga K "Guard") []]) (es_forG (w := [oRw K a2 ks, oRw K a1 ws, oIns x (He.ga K "Guard") []]) ks (pRow K) (fun _ => [some (pA x), some (pFq K q), some (pA a1), some (pA a2), some (pI (b : Nat)), none]) (by walk_at "sub") (ei_listO (w1 := []) (w2 := [oRw K a1 ws, oIns x (He.ga K "Guard") []]) (ee_var rfl)) (fun k y hy => ?_))
      (es_seq (w1 := [oRw K a2 ks, oRw K a1 ws, oIns x (He.ga K "Guard") [("field_of", pFq K q)]]) (es_fld (w1 := [oRw K a2 ks, oRw K a1 ws]) (w2 := []) (ee_var rfl) (ee_var rfl) (cl_Guard T) (na_Guard_field_of T) (by simp))
      (es_seq (w1 := [oRw K a2 ks, oRw K a1 ws, oIns x (He.ga K "Guard") [("field_of", pFq K q), ("width", pI ((ws.length + b : Nat) : Int))]]) (Es.is (es_fld (w1 := [oRw K a2 ks, oRw K a1 ws]) (w2 := []) (Ev.is (ee_I0 (ee_lenLO (w1 := [oRw K a2 ks]) (w2 := [oIns x (He.ga K "Guard") [("field_of", pFq K q)]]) (ps := ws.map (pRow K)) (ea_cons (ee_var rfl) ea_nil) (by rw [List.length_map])) (ee_var rfl)) (show pI ((ws.length : Int) + (b : Int)) = pI ((ws.length + b : Nat) : Int) by rw [Int.natCast_add])) (ee_var rfl) (cl_Guard T) (na_Guard_width T) (by simp)) (by rw [put_w]; rfl))
      (Es.is (es_fld (w1 := [oRw K a2 ks, oRw K a1 ws]) (w2 := []) (Ev.is (ee_lcGY (w := [oRw K a2 ks, oRw K a1 ws, oIns x (He.ga K "Guard") [("field_of", pFq K q), ("width", pI ((ws.length + b : Nat) : Int))]]) (vs := [5]) ks (pRow K) (fun k => pRow K (chkI q ws k)) (ei_listO (w1 := []) (w2 := [oRw K a1 ws, oIns x (He.ga K "Guard") [("field_of", pFq K q), ("width", pI ((ws.length + b : Nat) : Int))]]) (ee_var rfl)) (wp_name (by simp)) (by omega) (fun y hy => ⟨_, eg_name, ev_call (w := [oRw K a2 ks, oRw K a1 ws, oIns x (He.ga K "Guard") [("field_of", pFq K q), ("width", pI ((ws.length + b : Nat) : Int))]]) (w' := [oRw K a2 ks, oRw K a1 ws, oIns x (He.ga K "Guard") [("field_of", pFq K q), ("width", pI ((ws.length + b : Nat) : Int))]]) (r := []) (ds := []) (ea_cons (ee_var rfl) (ea_cons (ee_var rfl) (ea_cons (ee_var rfl) ea_nil))) (fun _ => .nil) ((tl_checkedO (r := [oRw K a2 ks, oIns x (He.ga K "Guard") [("field_of", pFq K q), ("width", pI ((ws.length + b : Nat) : Int))]]) ⟨hq, by omega, hwl, hws, (hks y hy).1, (hks y hy).2⟩).perm (List.Perm.cons _ (List.Perm.swap _ _ _)) (List.Perm.cons _ (List.Perm.swap _ _ _)))⟩)) (show pLst (ks.map fun k => pRow K (chkI q ws k)) = pRows K (ks.map (chkI q ws)) by rw [pRows, List.map_map]; rfl)) (ee_var rfl) (cl_Guard T) (na_Guard_made T) (by simp)) (by rw [put_md]; rfl))))))
    have hy1 := hks y (List.mem_of_getElem? hy)
    exact ⟨_, [some (pA x), some (pFq K q), some (pA a1), some (pA a2), some (pI (b : Nat)), some (pRow K y)], eg_name, es_drop (ee_meth (ee_var rfl) rfl (ea_cons (ee_var rfl) (ea_cons (ee_var rfl) ea_nil)) (tl_Field_needs_row ⟨hy1.1, by omega⟩ (by rw [hy1.2]))), by walk_at "sub"⟩
)
  exact ⟨fd, _, [], G, gl_Guard T, mk_Guard T, F.bindsN (fun _ _ _ _ _ _ us hl => match us, hl with | [_, _, _, _], _ => rfl), .nil⟩
end
end J
/-! ## J13 -/
set_option Elab.async false
set_option linter.all false
set_option maxRecDepth 100000
set_option maxHeartbeats 1000000
namespace J
open PySem L2 KT
section
variable {K : PySem.W.Frag} {ρ ρ' ρ1 : En} {w w' w1 w2 w3 r u u' : List Ow} {t ta tb tc : TE} {P P' P1 P2 : Pr} {i j k : Nat} {E : XK} {B : Addr}
theorem All2.exAt {α : Type} {f : α → Pr} {F : Hp} {qs : List Pr} : ∀ {ps : List Pr} {vs : List V}, All2 F (ps ++ pEx f :: qs) vs → ∃ x, All2 F (ps ++ f x :: qs) vs
  | [], _, h => by
    cases h with
    | cons a b =>
      obtain ⟨x, hx⟩ := a
      exact ⟨x, .cons hx b⟩
  | p :: ps, _, h => by
    cases h with
    | cons a b =>
      obtain ⟨x, hx⟩ := All2.exAt b
      exact ⟨x, .cons a hx⟩
theorem Tl.exAt {α : Type} {sp : Sp} {f : α → Pr} (ps qs : List Pr) (h : ∀ x, Tl sp (ps ++ f x :: qs) w P w') : Tl sp (ps ++ pEx f :: qs) w P w' := fun vs F H Q E a g k => by
  obtain ⟨x, hx⟩ := All2.exAt a
  exact h x vs F H Q E hx g k
/-- the relation of list() -/
abbrev rListOf (K : PySem.W.Frag) : List V → Hp → VK → Prop := fun xs H Q => ∃ p ys, xs = [.ref p] ∧ (SqL K H p ys ∨ SqT K H p ys) ∧ ∀ l, H l = none → Q (.ref l) (upd H l (.lst ys))
/-- x = [list(a), list(b)]: two new lists, owned -/
theorem es_two {ta tb : TA} {s2 : TS} {ps qs : List Pr} (h1 : ∀ w, Ea ρ w ta [pLst ps]) (h2 : ∀ w, Ea ρ w tb [pLst qs]) (kk : ∀ a b, Es (ρ.set i (some (pLst [pA a, pA b]))) ((w ++ [oLst a ps]) ++ [oLst b qs]) s2 ρ' w') :
    Es ρ w (tSeq (tAsg (tLst (tCons (tCB (rListOf K) ta) (tCons (tCB (rListOf K) tb) tNil))) (gName i)) s2) ρ' w' := fun σ F H D e g k => by
  show tCB (rListOf K) ta σ H (fun v H1 => tCB (rListOf K) tb σ H1 (fun u H2 => [v, u].length ≤ sizeLine ∧ ∀ p, H2 p = none → s2 D (σ.set i (some (.ref p))) (upd H2 p (.lst [v, u]))))
  refine ev_listOwn (h1 w) σ F H _ e g fun a F1 H1 s1 => ?_
  refine ev_listOwn (h2 (w ++ [oLst a ps])) σ F1 H1 _ (e.mono s1.exF) s1.good fun b F2 H2 s2' => ?_
  refine ⟨by show 2 ≤ sizeLine; decide, fun p hp => ?_⟩
  have s12 := s1.trans s2'
  have s3 := Step.alloc (o := .lst [.ref a, .ref b]) s2'.good hp
  refine kk a b _ _ _ D ((e.mono (s12.trans s3).exF).set ⟨p, _, rfl, upd_same, .cons rfl (.cons rfl .nil)⟩) s3.good fun σ' F' H' s4 e' => k σ' F' H' ((s12.trans s3).trans s4) e'
/-- xs.clear(), xs owned -/
theorem es_clear {a : Addr} {ps : List Pr} (h : Ee ρ (w1 ++ oLst a ps :: w2) t (pA a)) : Es ρ (w1 ++ oLst a ps :: w2) (tDrop (tBM0 K "list" rClear t)) ρ (w1 ++ oLst a [] :: w2) := fun σ F H D e g k =>
  h σ F H _ e g fun v F1 H1 s1 (hv : v = .ref a) => by
    subst hv
    obtain ⟨hF, o, ho, vs, rfl, hvs⟩ := s1.good.ow (oLst a ps) (by simp)
    have s2 := Step.write (w1 := w1) (w2 := w2) (e := oLst a ps) (e' := oLst a []) (o := .lst []) s1.good rfl ⟨_, rfl, .nil⟩
    exact ⟨Or.inl ⟨rfl, _, SqL.of ho⟩, a, vs, rfl, rfl, ho, k σ F1 _ (s1.trans s2) (e.mono (s1.trans s2).exF)⟩
/-- the guard's checks are told as a new list; what is put into it is lost -/
theorem es_told {C : Addr} {m : Str} {q W : Nat} {made : List (List Int)} {x : V} (h : Ee ρ w t (pGuard K q W made)) (hC : C = He.ga K "Guard") (hm : (fdG K q W made).lookup m = none) (hl : made.length ≤ 1000) :
    Es ρ w (tDrop (tBM K "list" rAppend (tMeth C m (sp_Guard_checks K) [] E t tNil) (tCons (tC x) tNil))) ρ w := fun σ F H D e g k =>
  h σ F H _ e g fun v F1 H1 s1 p1 => by
    subst hC
    obtain ⟨a, dx, gs, h1, h2, h3, h4⟩ := id p1
    refine ⟨a, dx, gs, h1, s1.good.ex _ _ h2, look_none _ gs h3 hm, (q, W, made), F1, .cons p1 .nil, s1.good.ex, fun xs l hx hln => ?_⟩
    have s2 := Step.alloc (o := .lst (xs ++ [x])) s1.good hln
    refine ⟨Or.inl ⟨rfl, xs, SqL.of upd_same⟩, l, xs, x, rfl, rfl, upd_same, Nat.lt_of_le_of_lt (by rw [← hx.len, List.length_map]; exact hl) (by decide : 1000 < sizeLine), ?_⟩
    have e2 : upd (upd H1 l (.lst xs)) l (.lst (xs ++ [x])) = upd H1 l (.lst (xs ++ [x])) := by
      funext b
      by_cases hb : b = l
      · subst hb; rw [upd_same, upd_same]
      · rw [upd_ne hb, upd_ne hb, upd_ne hb]
    rw [e2]
    exact k σ _ _ (s1.trans s2) (e.mono (s1.trans s2).exF)
/-- what l_why tells of a lambda that raises -/
theorem ee_lamW {a : Addr} {q : Str} {te : XK → TE} (h : ∀ E, Xe ρ (w1 ++ oTab a q :: w2) (te E) (w1 ++ oTab a q :: w2) E (He.ga K "BadRow")) : Ee ρ (w1 ++ oTab a q :: w2) (R9.tLamW a q (TTw K) te) (pTup K [pN, pV (.str "BadRow")]) := fun σ F H Q e g k =>
  ⟨g.tab, fun H1 c' LN => by
    obtain ⟨F1, s1⟩ := Step.lam g LN
    exact ⟨_, F1, s1.good, fun E Q' kE => h E σ F1 H1 Q' (e.mono s1.exF) s1.good kE, fun v F' H' s p => k v F' H' (s1.trans s) p⟩⟩
/-- the bag is made -/
theorem er_bag {ta : TA} {s2 : TS} {l : List Int} (h : Ea ρ w ta [pSeq K (l.map pI)]) (hl : l.length ≤ 100) (kk : ∀ b cells, Er (ρ.set i (some (pA b))) (oBag b cells :: w) s2 P w') : Er ρ w (tSeq (tAsg (tCall (sp_l_bag K) [] E ta) (gName i)) s2) P w' := fun σ F H D e g k =>
  h σ F H _ e g fun vs F1 H1 s1 p1 => by
    refine ⟨l, F1, hl, by rw [List.append_nil]; exact p1, Good.front (w := []) (r := w) s1.good, fun b cells F2 H2 s2' => ?_⟩
    have s3 := s2'.frame (r := w) s1.good
    exact kk b cells _ F2 H2 D ((e.mono (s1.trans s3).exF).set rfl) s3.good fun v F' H' s4 p4 => k v F' H' ((s1.trans s3).trans s4) p4
theorem Es.forget {s1 : TS} {e : Ow} (h : Es ρ w s1 ρ' (w1 ++ e :: w2)) : Es ρ w s1 ρ' (w1 ++ w2) := h.ow_of fun F H g => Step.forget_ g
end
end J
/-! ## W32 -/
set_option Elab.async false
set_option linter.all false
set_option maxRecDepth 100000
set_option maxHeartbeats 600000
namespace J
open PySem L2 KT
local macro_rules | `(tactic| walk_at "sub") => `(tactic| repeat (first | exact Sub.nil | (with_reducible refine Sub.keep (Pr.le_refl _) ?_) | refine Sub.drop ?_ | refine Sub.keepV (by first | rfl | (simp; done) | omega) ?_ | refine Sub.keep (Pr.le_refl _) ?_))
section
variable {P : Program} {wd : World} {K : PySem.W.Frag} {mg : Str → Option Value} {base : Heap}

/-- what the law's walk wants to know of the plain laws -/
def LawPlain : Prop := ∀ (q t b : Nat) (said keys : List (List Int)), q ∈ KM.sizes → (1 ≤ t ∧ t ≤ 2) → (1 ≤ b ∧ b ≤ 3) → said.length = t → RowsOk q b said → keys.length ≤ 5 → RowsOk q b keys →
  RoomOk q t b said keys (keys.map (chkI q said)) ∧ ∀ s, In q s → s.length = t → letsI q (keys.map (chkI q said)) (blendI q (lotI said t) s (t + b)) = true
abbrev qLaw : Str := (("law" : Str) ++ ".<locals>.") ++ "<lambda>"
abbrev tLaw (K : PySem.W.Frag) : Addr × Addr := He.cT K ("law", none)
abbrev oTl (K : PySem.W.Frag) : Ow := oTab (tLaw K).2 qLaw
abbrev pT2 : Pr := pEx fun t : { t : Nat // 1 ≤ t ∧ t ≤ 2 } => pI (t.1 : Nat)
abbrev pB3 : Pr := pEx fun t : { t : Nat // 1 ≤ t ∧ t ≤ 3 } => pI (t.1 : Nat)
theorem why_givesK {X : Cx} {k : Nat} (T : Tx X.K X.mg) (h : 2 ≤ k) {cdv : Value} {q : Str} : R9.GivesW X k whyN "_law_why" (defScope s_l_why) (He.fAd X.K ("_law_why", none)) cdv (defBody s_l_why) "_law_ask" q (TTw X.K) :=
  fun f c' s H Q tl hr act hc ht => why_gives T f c' s H Q tl (hr.mono h) act hc ht
theorem cut1 {l : List Int} (h : 1 ≤ l.length) : cutP (l.map pI) (some 1) none = (l.drop 1).map pI := by
  unfold cutP
  rw [HT.sIx_none, show HT.sIx (l.map pI).length 0 (some 1) = min 1 (l.map pI).length from HT.sIx_nat _ _ 1, List.length_map, Nat.min_eq_left h, List.take_of_length_le (by simp), List.map_drop]
theorem szp_le : ∀ p ∈ [pSz, pSz, pSz, pSz], p.le pSz := fun p hp F v h => by
  have e : p = pSz := by simpa using hp
  rw [e] at h
  exact h
theorem Er.forget {ρ : En} {w w1 w2 : List Ow} {s1 : TS} {e : Ow} {P : Pr} (h : Er ρ w s1 P (w1 ++ e :: w2)) : Er ρ w s1 P (w1 ++ w2) := fun σ F H D en g k => h σ F H D en g fun v F' H' s p => k v F' H' (s.trans (Step.forget_ s.good)) p
def sp_law (K : PySem.W.Frag) : Sp := Pm (I := List Int) (fun l => l.length ≤ 100) (fun l => [pSeq K (l.map pI)]) (fun _ => [oTp K, oTl K]) (fun _ => pB true) (fun _ => [oTp K, oTl K])
theorem ok_law (T : Tx K mg) (hL : LawPlain) (TBl : LamX.TabB base mg (tLaw K).1 (tLaw K).2) (c_l_bag : C_l_bag P wd K mg base) (c_l_words : C_l_words P wd K mg base) (c_l_rows : C_l_rows P wd K mg base) (c_Guard_init : C_Guard_initO P wd K mg base) (c_l_blend : C_l_blend P wd K mg base) (c_l_pull : C_l_pull P wd K mg base) (c_Field_init : C_Field_init P wd K mg base) (c_l_room_so : C_l_room_so P wd K mg base) (c_l_size : C_l_size P wd K mg base) (c_Guard_checks : C_Guard_checks P wd K mg base) (c_l_unit : C_l_unit P wd K mg base) (c_Guard_lets : C_Guard_lets P wd K mg base) (c_l_less : C_l_less P wd K mg base) (c_l_along : C_l_along P wd K mg base) (c_l_alike0 : C_l_alike0 P wd K mg base) (c_l_alike2 : C_l_alike2 P wd K mg base)
    (c_Guard_letsX : C_Guard_letsX P wd K mg base) (c_Guard_initX : C_Guard_initX P wd K mg base) {fd : FuncData} (F : FunD K "law" "law" (defArgs s_law) (defBody s_law) (defScope s_law) [] [] (He.fAd K ("law", none)) fd) : FnOk P wd K mg base CX0 10 (He.fAd K ("law", none)) fd ["_law_script"] (sp_law K) := by
  obtain ⟨fw, Fw⟩ := fd_l_why T
  have hbW : Binds K fw ["_law_ask"] [] := Fw.bindsN (fun _ _ _ _ _ _ us hl => match us, hl with | [_], _ => rfl)
  have hkW := Fw.kp
  obtain ⟨oc, od, dV, kV, doc, pm, an, cdw, ct, osl, rfl, lkW, hcW, _, _⟩ := Fw.ex
  refine fn_pmC (p := ("law", none)) F sc_law (fun _ _ => rfl) (fun A outer s H E hr l hlen => ?_)
  have hlen : l.length ≤ 100 := hlen
  refine ⟨_, (pss_cons (ps_set (i := 1) sc_law.nd rfl (Or.inr rfl) (pe_callG c_l_bag hr (by rfl) (pa_cons (pv 0) pa_nil)))
      (pss_cons (ps_for PassesOwn.never rfl (pi_range1 (by rfl) (fr_range T) (pa_cons pe_int pa_nil)) (pg_name (i := 2) sc_law.nd rfl (Or.inl rfl)) (pss_cons (ps_set (i := 8) sc_law.nd rfl (Or.inr rfl) (pe_ix (KX.ixL (K := K)) (pe_lst (pa_cons pe_int (pa_cons pe_int (pa_cons pe_int (pa_cons (pe_callG c_l_size hr (by rfl) (pa_cons (pv 1) pa_nil)) pa_nil))))) (pe_callG c_l_pull hr (by rfl) (pa_cons (pv 1) (pa_cons pe_int pa_nil))) (fun _ _ => rfl)))
      (pss_cons (ps_asg (pe_tup (pa_cons (pe_op op_add pe_int (pe_callG c_l_pull hr (by rfl) (pa_cons (pv 1) (pa_cons pe_int pa_nil)))) (pa_cons (pe_op op_add pe_int (pe_callG c_l_pull hr (by rfl) (pa_cons (pv 1) (pa_cons pe_int pa_nil)))) pa_nil))) (KX.gT (K := K) (n := 2) (by rfl) (pgs_cons (pg_name (i := 3) sc_law.nd rfl (Or.inr rfl)) (pgs_cons (pg_name (i := 9) sc_law.nd rfl (Or.inr rfl)) pgs_nil))))
      (pss_cons (ps_set (i := 13) sc_law.nd rfl (Or.inr rfl) (pe_callG c_l_words hr (by rfl) (pa_cons (pv 1) (pa_cons (pv 8) (pa_cons (pv 3) (pa_cons (pv 9) pa_nil))))))
      (pss_cons (ps_set (i := 11) sc_law.nd rfl (Or.inr rfl) (pe_callG c_l_rows hr (by rfl) (pa_cons (pv 1) (pa_cons (pv 8) (pa_cons (pv 9) (pa_cons (pe_callG c_l_pull hr (by rfl) (pa_cons (pv 1) (pa_cons pe_int pa_nil))) pa_nil))))))
      (pss_cons (ps_set (i := 4) sc_law.nd rfl (Or.inl rfl) (pe_lst (pa_cons (pe_callTy (KX.listOf (K := K)) (by rfl) (fr_list T) (by decide +kernel) (pa_cons (pv 13) pa_nil)) (pa_cons (pe_callTy (KX.listOf (K := K)) (by rfl) (fr_list T) (by decide +kernel) (pa_cons (pv 11) pa_nil)) pa_nil))))
      (pss_cons (ps_set (i := 10) sc_law.nd rfl (Or.inr rfl) (pe_makeG c_Guard_init hr (by rfl) (pa_cons (pe_makeG c_Field_init hr (by rfl) (pa_cons (pv 8) pa_nil)) (pa_cons (pe_ix (KX.ixL (K := K)) (pv 4) pe_int (fun _ _ => rfl)) (pa_cons (pe_ix (KX.ixL (K := K)) (pv 4) pe_int (fun _ _ => rfl)) pa_nil)))))
      (pss_cons (ps_expr (pe_bm0 PySem.F.plainAttrs_list PySem.F.slot_list_clear PySem.F.type_list_clear mt_clear (pe_ix (KX.ixL (K := K)) (pv 4) pe_int (fun _ _ => rfl))))
      (pss_cons (ps_expr (pe_bm0 PySem.F.plainAttrs_list PySem.F.slot_list_clear PySem.F.type_list_clear mt_clear (pe_ix (KX.ixL (K := K)) (pv 4) pe_int (fun _ _ => rfl))))
      (pss_cons (ps_setLc (i := 5) (own := [("_law_key", 14)]) (by rfl) sc_law.nd rfl rfl (sw_true rfl rfl rfl (by kernel_rfl)) (KX.iL (K := K) (pv 11)) (blkOk_by (by kernel_rfl)) (fun _ _ _ _ _ => by exact (pg_name (i := 14) sc_law.nd rfl (Or.inr rfl))) (fun _ _ _ _ _ => pts_nil) (fun _ _ _ _ _ => (pe_op (KX.catT (K := K)) (pe_callTy (KX.tupOf (K := K)) (by rfl) (fr_tuple T) (by decide +kernel) (pa_cons (pe_lc (own := [("_law_word", 17)]) (by rfl) sc_law.nd (KX.iL (K := K) (pv 13)) (blkOk_by (by kernel_rfl)) (fun _ _ _ _ _ => by exact (pg_name (i := 17) sc_law.nd rfl (Or.inl rfl))) (fun _ _ _ _ _ => pts_nil) (fun _ _ _ _ _ => (pe_callG c_l_less hr (by rfl) (pa_cons (pv 8) (pa_cons pe_int (pa_cons (pe_callG c_l_along hr (by rfl) (pa_cons (pv 8) (pa_cons (pv 17) (pa_cons (pv 14) pa_nil)))) pa_nil)))))) pa_nil)) (pv 14))))
      (pss_cons (ps_if (pt_not (pt_val (pe_callG c_l_alike2 hr (by rfl) (pa_cons (pe_methG0 (pv 10) (cl_Guard T) c_Guard_checks hr) (pa_cons (pv 5) pa_nil))))) (pss_one (ps_ret pe_bl)) pss_nil)
      (pss_cons (ps_expr (pe_bm PySem.F.plainAttrs_list PySem.F.slot_list_append PySem.F.type_list_append mt_append (pe_methG0 (pv 10) (cl_Guard T) c_Guard_checks hr) (pa_cons pe_int pa_nil)))
      (pss_cons (ps_if (pt_not (pt_val (pe_callG c_l_room_so hr (by rfl) (pa_cons (pv 1) (pa_cons (pv 8) (pa_cons (pv 13) (pa_cons (pv 11) (pa_cons (pv 5) (pa_cons (pv 10) pa_nil))))))))) (pss_one (ps_ret pe_bl)) pss_nil)
      (pss_cons (ps_setLc (i := 6) (own := [("_law_at", 15)]) (by rfl) sc_law.nd rfl rfl (sw_true rfl rfl rfl (by kernel_rfl)) (pi_range1 (by rfl) (fr_range T) (pa_cons (pv 3) pa_nil)) (blkOk_by (by kernel_rfl)) (fun _ _ _ _ _ => by exact (pg_name (i := 15) sc_law.nd rfl (Or.inl rfl))) (fun _ _ _ _ _ => pts_nil) (fun _ _ _ _ _ => (pe_op (KX.catT (K := K)) (pe_callG c_l_unit hr (by rfl) (pa_cons (pv 15) (pa_cons (pv 3) pa_nil))) (pe_ix (KX.ixL (K := K)) (pv 13) (pv 15) (fun _ _ => rfl)))))
      (pss_cons (ps_set (i := 12) sc_law.nd rfl (Or.inr rfl) (pe_callG c_l_blend hr (by rfl) (pa_cons (pv 8) (pa_cons (pv 6) (pa_cons (pe_lc (own := [("_law_one", 16)]) (by rfl) sc_law.nd (KX.iL (K := K) (pv 6)) (blkOk_by (by kernel_rfl)) (fun _ _ _ _ _ => by exact (pg_name (i := 16) sc_law.nd rfl (Or.inl rfl))) (fun _ _ _ _ _ => pts_nil) (fun _ _ _ _ _ => (pe_callG c_l_pull hr (by rfl) (pa_cons (pv 1) (pa_cons (pv 8) pa_nil))))) (pa_cons (pe_op op_add (pv 3) (pv 9)) pa_nil))))))
      (pss_cons (ps_if (pt_not (pt_val (pe_callG c_l_alike0 hr (by rfl) (pa_cons (pe_methG (pv 10) (cl_Guard T) c_Guard_lets hr (pa_cons (pv 12) pa_nil)) (pa_cons pe_bl pa_nil))))) (pss_one (ps_ret pe_bl)) pss_nil)
      (pss_cons (ps_set (i := 7) sc_law.nd rfl (Or.inl rfl) (pe_lst (pa_cons (pe_ix (KX.ixT (K := K)) (R9.pe_lamW (k := 6) (j := 0) (by rfl) (gl_l_why T) hkW lkW hcW hbW sc_l_why rfl (.inl rfl) (why_givesK T (by decide)) TBl rfl (hr.mono (by decide)) (LamX.lamS_by (by kernel_rfl)) rfl (fun _ _ _ _ _ => rfl) (fun A2 o2 s2 H2 E2 f2 c2 hrl => (pe_methX (pv 10) (cl_Guard T) c_Guard_letsX hrl (L2N.passes_call (L2N.takes_of rfl rfl rfl rfl) (fun _ _ _ _ z => z)) (pa_cons (pe_slice (KX.slT (K := K)) (pv 12) (po_some pe_int) po_none) pa_nil)))) pe_int (fun _ _ => rfl)) pa_nil)))
      (pss_cons (ps_expr (pe_bm PySem.F.plainAttrs_list PySem.F.slot_list_append PySem.F.type_list_append mt_append (pv 7) (pa_cons (pe_ix (KX.ixT (K := K)) (R9.pe_lamW (k := 6) (j := 0) (by rfl) (gl_l_why T) hkW lkW hcW hbW sc_l_why rfl (.inl rfl) (why_givesK T (by decide)) TBl rfl (hr.mono (by decide)) (LamX.lamS_by (by kernel_rfl)) rfl (fun _ _ _ _ _ => rfl) (fun A2 o2 s2 H2 E2 f2 c2 hrl => (pe_makeX c_Guard_initX hrl (by rfl) (L2N.passes_call (L2N.takes_of rfl rfl rfl rfl) (fun _ _ _ _ z => z)) (pa_cons (pe_makeG c_Field_init hrl (by rfl) (pa_cons (pv 8) pa_nil)) (pa_cons (pv 13) (pa_cons (pe_op op_cat (pv 11) (pe_lst (pa_cons (pe_op (KX.repT (K := K)) (pe_tup (pa_cons pe_int pa_nil)) (pe_op op_add (pv 9) pe_int)) pa_nil))) pa_nil)))))) pe_int (fun _ _ => rfl)) pa_nil)))
      (pss_one (ps_if (pt_cmpR (KX.neD (K := K) hr.units) (pv 7) (pe_op op_rep (pe_lst (pa_cons pe_str pa_nil)) pe_int) (nomark _)) (pss_one (ps_ret pe_bl)) pss_nil))))))))))))))))))))
      (pss_one (ps_ret pe_bl)))), ?_⟩
  show Eb [some (pSeq K (l.map pI)), none, none, none, none, none, none, none, none, none, none, none, none, none, none, none, none, none] [oTp K, oTl K] _ (pB true) [oTp K, oTl K]
  refine Er.eb (er_bag (i := 1) (ea_cons (ee_var rfl) ea_nil) hlen (fun b cells => Er.forget (w1 := []) (w2 := [oTp K, oTl K]) (e := oBag b cells) ?_))
  refine er_seq (es_forN 2 (fun _ => [some (pSeq K (l.map pI)), some (pA b), none, none, none, none, none, none, none, none, none, none, none, none, none, none, none, none]) (fun _ => [oBag b cells, oTp K, oTl K]) rfl (Sub.refl _) (ei_rng1 (n := 2) (ea_cons ee_c ea_nil) (by omega)) (fun k hk => ⟨_, [some (pSeq K (l.map pI)), some (pA b), none, none, none, none, none, none, none, none, none, none, none, none, none, none, none, none], eg_name, ?_, Sub.refl _⟩)) (er_ret ee_c)
  refine es_exS (i := 8) (Q := fun q : { q : Nat // q ∈ KM.sizes } => pI (q.1 : Nat)) (Ev.le (ee_ixLx (n := 4) (ps := [pSz, pSz, pSz, pSz]) (ee_lst (ea_cons (Ev.le ee_c (fun F v h => ⟨⟨2, by decide⟩, h⟩)) (ea_cons (Ev.le ee_c (fun F v h => ⟨⟨2, by decide⟩, h⟩)) (ea_cons (Ev.le ee_c (fun F v h => ⟨⟨3, by decide⟩, h⟩)) (ea_cons (ev_call (w := [oBag b cells]) (w' := [oBag b cells]) (r := [oTp K, oTl K]) (ds := []) (ea_cons (ee_var rfl) ea_nil) (fun _ => .nil) tl_l_size) ea_nil)))) (by simp)) (ee_pullR (t := 4) (ea_cons (ee_var rfl) (ea_cons ee_c ea_nil)) ⟨by omega, by omega⟩) rfl) (fun F v ⟨p, h⟩ => szp_le p.1 p.2 F v h)) (fun q => ?_)
  obtain ⟨q, hq⟩ := q
  obtain ⟨_, _, _, _, p5, p6, _⟩ := KM.sizes_pr q hq
  refine es_seq (ρ1 := ([some (pSeq K (l.map pI)), some (pA b), none, some pT2, none, none, none, none, some (pI (q : Nat)), some pB3, none, none, none, none, none, none, none, none] : En).set 2 (some (pI (k : Nat)))) (w1 := [oBag b cells, oTp K, oTl K]) (es_asgG (ee_tup (ps := [pT2, pB3]) (ea_cons (Ev.le (ee_addEx ee_c (ee_pullR (t := 2) (ea_cons (ee_var rfl) (ea_cons ee_c ea_nil)) ⟨by omega, by omega⟩)) (fun F v ⟨x, h⟩ => ⟨⟨1 + x.1, by omega⟩, by
    have h : v = V.int (1 + (x.1 : Nat)) := h
    rw [h]
    show V.int (1 + (x.1 : Nat)) = V.int ((1 + x.1 : Nat) : Int)
    exact congrArg V.int (by omega)⟩)) (ea_cons (Ev.le (ee_addEx ee_c (ee_pullR (t := 3) (ea_cons (ee_var rfl) (ea_cons ee_c ea_nil)) ⟨by omega, by omega⟩)) (fun F v ⟨x, h⟩ => ⟨⟨1 + x.1, by omega⟩, by
    have h : v = V.int (1 + (x.1 : Nat)) := h
    rw [h]
    show V.int (1 + (x.1 : Nat)) = V.int ((1 + x.1 : Nat) : Int)
    exact congrArg V.int (by omega)⟩)) ea_nil)) (by simp)) (fun _ e => by subst e; exact eg_tup2 eg_name eg_name)) (Es.openV (i := 3) (Q := fun t : { t : Nat // 1 ≤ t ∧ t ≤ 2 } => pI (t.1 : Nat)) rfl (fun t => Es.openV (i := 9) (Q := fun t : { t : Nat // 1 ≤ t ∧ t ≤ 3 } => pI (t.1 : Nat)) rfl (fun br => ?_)))
  obtain ⟨t, ht⟩ := t
  obtain ⟨br, hbr⟩ := br
  refine Es.pre (ρ1 := [some (pSeq K (l.map pI)), some (pA b), none, some (pI (t : Nat)), none, none, none, none, some (pI (q : Nat)), some (pI (br : Nat)), none, none, none, none, none, none, none, none]) ?_ (by walk_at "sub")
  refine es_exS (i := 13) (ev_call (w := [oBag b cells]) (w' := [oBag b cells]) (r := [oTp K, oTl K]) (ds := []) (ea_cons (ee_var rfl) (ea_cons (ee_var rfl) (ea_cons (ee_var rfl) (ea_cons (ee_var rfl) ea_nil)))) (fun _ => .nil) (tl_l_words ⟨hq, by omega, by omega⟩)) (fun said => ?_)
  obtain ⟨said, hsr, hsl⟩ := said
  subst hsl
  refine es_exS (i := 11) (Q := fun l : { l : List (List Int) // RowsOk q br l ∧ l.length ≤ 5 } => pRows K l.1) (ev_call (w := [oBag b cells]) (w' := [oBag b cells]) (r := [oTp K, oTl K]) (ds := []) (ea_cons (ee_var rfl) (ea_cons (ee_var rfl) (ea_cons (ee_var rfl) (ea_cons (ee_pullR (t := 6) (ea_cons (ee_var rfl) (ea_cons ee_c ea_nil)) ⟨by omega, by omega⟩) ea_nil)))) (fun _ => .nil) (Tl.exAt [pA b, pI (q : Nat), pI (br : Nat)] [] fun m => (tl_l_rows (n := br) (m := m.1) ⟨hq, ⟨by omega, by omega⟩, by omega⟩).le (fun F v ⟨⟨l, h1, h2⟩, h⟩ => ⟨⟨l, h1, by omega⟩, h⟩))) (fun keys => ?_)
  obtain ⟨keys, hkr, hkl⟩ := keys
  obtain ⟨hroom, hmix⟩ := hL q said.length br said keys hq ht hbr rfl hsr hkl hkr
  have hdl := hroom.dl
  have hdr := hroom.dr
  have hlot := lot_ok hq rfl hsr
  have hll : (lotI said said.length).length = said.length := by simp [lotI]
  have hgu : GuOk q br said keys := ⟨hq, ⟨by omega, by omega⟩, ⟨fun z => by rw [z] at ht; simp at ht, by omega⟩, by omega, hsr, hkr⟩
  refine es_two (i := 4) (fun w => ea_cons (ee_var rfl) ea_nil) (fun w => ea_cons (ee_var rfl) ea_nil) (fun a1 a2 => Es.forget (w1 := [oBag b cells, oTp K, oTl K]) (w2 := []) (e := oLst a1 []) (Es.forget (w1 := [oBag b cells, oTp K, oTl K, oLst a1 []]) (w2 := []) (e := oLst a2 []) ?_))
  show Es _ [oBag b cells, oTp K, oTl K, oRw K a1 said, oRw K a2 keys] _ _ _
  refine es_seq (ρ1 := [some (pSeq K (l.map pI)), some (pA b), none, some (pI (said.length : Nat)), some (pLst [pA a1, pA a2]), none, none, none, some (pI (q : Nat)), some (pI (br : Nat)), some (pGuard K q (said.length + br) (keys.map (chkI q said))), some (pRows K keys), none, some (pRows K said), none, none, none, none]) (w1 := [oBag b cells, oTp K, oTl K, oRw K a1 said, oRw K a2 keys]) (Es.sub (es_set (Ev.perm (ev_make (w := [oRw K a1 said, oRw K a2 keys]) (w' := [oRw K a1 said, oRw K a2 keys]) (r := [oBag b cells, oTp K, oTl K]) (ds := []) (ea_cons (ev_make (w := []) (w' := []) (r := [oRw K a1 said, oRw K a2 keys, oBag b cells, oTp K, oTl K]) (ds := []) (ea_cons (ee_var rfl) ea_nil) (fun _ => .nil) (fun x => tl_Field_init hq)) (ea_cons (ee_ixL (n := 0) (P := pA a1) (ee_var rfl) ee_c (ixN_eq (m := 0) rfl (by simp)) rfl) (ea_cons (ee_ixL (n := 1) (P := pA a2) (ee_var rfl) ee_c (ixN_eq (m := 1) rfl (by simp)) rfl) ea_nil))) (fun _ => .nil) (fun x => (tl_Guard_initO (a1 := a1) (a2 := a2) hgu).perm (List.Perm.swap _ _ _) (List.Perm.swap _ _ _))) (List.perm_append_comm (l₁ := [oRw K a1 said, oRw K a2 keys]) (l₂ := [oBag b cells, oTp K, oTl K])) (List.perm_append_comm (l₁ := [oRw K a1 said, oRw K a2 keys]) (l₂ := [oBag b cells, oTp K, oTl K])))) (by walk_at "sub")) ?_
  refine es_seq (w1 := [oBag b cells, oTp K, oTl K, oLst a1 [], oRw K a2 keys]) (es_clear (w1 := [oBag b cells, oTp K, oTl K]) (w2 := [oRw K a2 keys]) (ee_ixL (n := 0) (P := pA a1) (ee_var rfl) ee_c (ixN_eq (m := 0) rfl (by simp)) rfl)) ?_
  refine es_seq (w1 := [oBag b cells, oTp K, oTl K, oLst a1 [], oLst a2 []]) (es_clear (w1 := [oBag b cells, oTp K, oTl K, oLst a1 []]) (w2 := []) (ee_ixL (n := 1) (P := pA a2) (ee_var rfl) ee_c (ixN_eq (m := 1) rfl (by simp)) rfl)) ?_
  refine es_seq (ρ1 := [some (pSeq K (l.map pI)), some (pA b), none, some (pI (said.length : Nat)), some (pLst [pA a1, pA a2]), some (pRows K (keys.map (chkI q said))), none, none, some (pI (q : Nat)), some (pI (br : Nat)), some (pGuard K q (said.length + br) (keys.map (chkI q said))), some (pRows K keys), none, some (pRows K said), none, none, none, none]) (w1 := [oBag b cells, oTp K, oTl K, oLst a1 [], oLst a2 []]) (es_set (Ev.is (ee_lcY (vs := [14]) keys (pRow K) (fun k => pRow K (chkI q said k)) (ei_list (ee_var rfl)) (wp_name (by simp)) (by omega) (fun k hk => ⟨_, eg_name, Ev.is (ee_catT (ee_tupOf (ea_cons (ee_lcY (vs := [17]) said (pRow K) (fun w => pI (KM.addI q 0 (alongI q w k) (-1))) (ei_list (ee_var rfl)) (wp_name (by simp)) (by omega) (fun x hx => ?_)) ea_nil)) (ee_var rfl) (by rw [List.length_map, List.length_map, (hkr k hk).2]; omega)) (by rw [pRow, chkI, List.map_append, List.map_map]; rfl)⟩)) (show pLst (keys.map fun k => pRow K (chkI q said k)) = pRows K (keys.map (chkI q said)) by rw [pRows, List.map_map]; rfl))) ?_
  · have h1 := hsr x hx
    have h2 := hkr k hk
    exact ⟨_, eg_name, ee_call (ea_cons (ee_var rfl) (ea_cons ee_c (ea_cons (ee_call (ea_cons (ee_var rfl) (ea_cons (ee_var rfl) (ea_cons (ee_var rfl) ea_nil))) (tl_l_along ⟨hq, h1.1, h2.1, by rw [h1.2, h2.2], by rw [h1.2]; omega⟩)) ea_nil))) (tl_l_less ⟨hq, along_in hq h1.1 h2.1⟩)⟩
  refine es_seq (es_if (b := false) (et_not (b := true) (et_test (Ev.is (ee_call (ea_cons (ee_meth (ee_var rfl) rfl ea_nil tl_Guard_checks) (ea_cons (ee_var rfl) ea_nil)) (tl_l_alike2 ⟨⟨by omega, fun r hr => by rw [(hdr r hr).2]; omega⟩, by omega, fun r hr => by rw [(hdr r hr).2]; omega⟩)) (by simp)))) (fun h => nomatch h) (fun _ => es_next)) ?_
  refine es_seq (es_told (ee_var rfl) rfl rfl (by omega)) ?_
  refine es_seq (es_if (b := false) (et_not (b := true) (et_test (ev_call (w := [oBag b cells, oTp K]) (w' := [oBag b cells, oTp K]) (r := [oTl K, oLst a1 [], oLst a2 []]) (ds := []) (ea_cons (ee_var rfl) (ea_cons (ee_var rfl) (ea_cons (ee_var rfl) (ea_cons (ee_var rfl) (ea_cons (ee_var rfl) (ea_cons (ee_var rfl) ea_nil)))))) (fun _ => .nil) (tl_l_room_so hroom)))) (fun h => nomatch h) (fun _ => es_next)) ?_
  refine es_seq (ρ1 := [some (pSeq K (l.map pI)), some (pA b), none, some (pI (said.length : Nat)), some (pLst [pA a1, pA a2]), some (pRows K (keys.map (chkI q said))), some (pRows K (lotI said said.length)), none, some (pI (q : Nat)), some (pI (br : Nat)), some (pGuard K q (said.length + br) (keys.map (chkI q said))), some (pRows K keys), none, some (pRows K said), none, none, none, none]) (w1 := [oBag b cells, oTp K, oTl K, oLst a1 [], oLst a2 []]) (es_set (Ev.is (ee_lcY (vs := [15]) (List.range said.length) (fun k => pI (k : Nat)) (fun k => pRow K (unitI k said.length ++ said.getD k [])) (ei_rng1 (n := said.length) (ea_cons (ee_var rfl) ea_nil) (by omega)) (wp_name (by simp)) (by rw [List.length_range]; omega) (fun k hk => ?_)) (by rw [pRows, lotI, List.map_map]; rfl))) ?_
  · have hk := List.mem_range.mp hk
    have hsk := hsr _ (getD_mem (L := said) (k := k) hk)
    exact ⟨_, eg_name, Ev.is (ee_catT (ee_call (ea_cons (ee_var rfl) (ea_cons (ee_var rfl) ea_nil)) (tl_l_unit ⟨hk, by omega⟩)) (ee_ixL (n := k) (P := pRow K (said.getD k [])) (ee_var rfl) (ee_var rfl) (ixN_nat (by rw [List.length_map]; omega)) (getD_row hk)) (by rw [List.length_map, List.length_map, hsk.2]; simp [unitI]; omega)) (show pTup K ((unitI k said.length).map pI ++ (said.getD k []).map pI) = pTup K ((unitI k said.length ++ said.getD k []).map pI) by rw [List.map_append])⟩
  refine es_exS (i := 12) (Q := fun s : { s : List Int // In q s ∧ s.length = (lotI said said.length).length } => pRow K (blendI q (lotI said said.length) s.1 (said.length + br))) (ev_call (w := []) (w' := []) (r := [oBag b cells, oTp K, oTl K, oLst a1 [], oLst a2 []]) (ds := []) (ea_cons (ee_var rfl) (ea_cons (ee_var rfl) (ea_cons (Ev.le (ee_lcY (vs := [16]) (lotI said said.length) (pRow K) (fun _ => pBel q) (ei_list (ee_var rfl)) (wp_name (by simp)) (by omega) (fun x hx => ⟨_, eg_name, ee_pullR (t := q) (ea_cons (ee_var rfl) (ea_cons (ee_var rfl) ea_nil)) ⟨by omega, by omega⟩⟩)) shs_le) (ea_cons (Ev.is (ee_I0 (ee_var rfl) (ee_var rfl)) (congrArg pI (show (said.length : Int) + (br : Int) = ((said.length + br : Nat) : Int) by omega))) ea_nil)))) (fun _ => .nil) (Tl.exAt [pI (q : Nat), pRows K (lotI said said.length)] [pI ((said.length + br : Nat) : Int)] fun s => (tl_l_blend ⟨hq, by omega, hlot, by omega, s.2.1, s.2.2⟩).le (fun F v h => ⟨s, h⟩))) (fun s => ?_)
  obtain ⟨s, hs1, hs2⟩ := s
  have hrow := blendI_in hq hlot hs1
  have hlet := hmix s hs1 (hs2.trans hll)
  generalize blendI q (lotI said said.length) s (said.length + br) = row at hrow hlet
  refine es_seq (es_if (b := false) (et_not (b := true) (et_test (Ev.is (ee_call (ea_cons (ee_meth (ee_var rfl) rfl (ea_cons (ee_var rfl) ea_nil) (tl_Guard_lets ⟨hq, by omega, by omega, hdr, hrow.1, hrow.2⟩)) (ea_cons ee_c ea_nil)) tl_l_alikeB) (by rw [hlet]; rfl)))) (fun h => nomatch h) (fun _ => es_next)) ?_
  refine es_newOwnS (i := 7) (ps := [pV (.str "BadRow")]) (ea_cons (ee_ixT (n := 1) (P := pV (.str "BadRow")) (ee_lamW (w1 := [oBag b cells, oTp K]) (w2 := [oLst a1 [], oLst a2 []]) (fun E => xe_meth (ee_var rfl) rfl (ea_cons (Ev.is (ee_slT (lo := some 1) (hi := none) (ee_var rfl) (eo_some ee_c) eo_none) (congrArg (pTup K) (cut1 (by omega)))) ea_nil) (tl_letsP (row := row.drop 1) ⟨by rw [List.length_drop]; omega, by rw [List.length_drop]; omega⟩))) ee_c (ixN_eq (m := 1) rfl (by simp)) rfl) ea_nil) (by simp) (fun a3 => Es.forget (w1 := [oBag b cells, oTp K, oTl K, oLst a1 [], oLst a2 []]) (w2 := []) (e := oLst a3 [pV (.str "BadRow"), pV (.str "BadRow")]) ?_)
  show Es _ [oBag b cells, oTp K, oTl K, oLst a1 [], oLst a2 [], oLst a3 [pV (.str "BadRow")]] _ _ _
  refine es_seq (w1 := [oBag b cells, oTp K, oTl K, oLst a1 [], oLst a2 [], oLst a3 [pV (.str "BadRow"), pV (.str "BadRow")]]) (es_append (w := [oBag b cells, oTp K, oTl K, oLst a1 [], oLst a2 []]) (w2 := []) (i := 7) (P := pV (.str "BadRow")) rfl (ee_ixT (n := 1) (P := pV (.str "BadRow")) (ee_lamW (w1 := [oBag b cells, oTp K]) (w2 := [oLst a1 [], oLst a2 [], oLst a3 [pV (.str "BadRow")]]) (fun E => xe_make (ea_cons (ev_make (w := []) (w' := []) (r := [oBag b cells, oTp K, oTl K, oLst a1 [], oLst a2 [], oLst a3 [pV (.str "BadRow")]]) (ds := []) (ea_cons (ee_var rfl) ea_nil) (fun _ => .nil) (fun x => tl_Field_init hq)) (ea_cons (ee_var rfl) (ea_cons (Ev.is (ee_catL (ee_var rfl) (ee_lst (ea_cons (ee_repT1 (n := br + 1) (ee_tup (ea_cons ee_c ea_nil) (by simp)) (Ev.is (ee_I0 (ee_var rfl) ee_c) (congrArg pI (show (br : Int) + 1 = ((br + 1 : Nat) : Int) by omega))) rfl (by omega)) ea_nil) (by simp)) (by rw [List.length_map]; simp; omega)) (show pLst (keys.map (pRow K) ++ [pTup K (List.replicate (br + 1) (pI 0))]) = pRows K (keys ++ [List.replicate (br + 1) 0]) by rw [pRows, List.map_append]; simp [pRow])) ea_nil))) (fun x => ⟨_, tl_initP (bad := List.replicate (br + 1) 0) ⟨hgu, by simp, by simp; omega⟩⟩))) ee_c (ixN_eq (m := 1) rfl (by simp)) rfl) (by simp)) ?_
  exact es_if (b := false) (et_test (Ev.is (ee_neDO (w1 := [oBag b cells, oTp K, oTl K, oLst a1 [], oLst a2 []]) (w2 := []) (ps := [pV (.str "BadRow"), pV (.str "BadRow")]) (ds := [.str "BadRow", .str "BadRow"]) (e := .list [.str "BadRow", .str "BadRow"]) (ee_var rfl) (ee_repL (n := 2) (ps := [pV (.str "BadRow")]) (ee_lst (ea_cons ee_c ea_nil) (by simp)) ee_c (by omega) (by simp)) (.cons dp_str (.cons dp_str .nil)) (dp_lst (.cons dp_str (.cons dp_str .nil))) (by decide +kernel) (by decide +kernel)) (congrArg pB (by decide +kernel)))) (fun h => nomatch h) (fun _ => Es.sub es_next (by walk_at "sub"))
end
end J
/-! ## MathA -/
/-! The plain law: vectors over a finite field, echelon lists, counting of null vectors. -/
set_option linter.all false
namespace KM

class Fl (F : Type) extends Zero F, One F, Add F, Mul F, Neg F where
  addC : ∀ a b : F, a + b = b + a
  addA : ∀ a b c : F, a + b + c = a + (b + c)
  zadd : ∀ a : F, 0 + a = a
  nadd : ∀ a : F, -a + a = 0
  mulC : ∀ a b : F, a * b = b * a
  mulA : ∀ a b c : F, a * b * c = a * (b * c)
  omul : ∀ a : F, 1 * a = a
  dist : ∀ a b c : F, a * (b + c) = a * b + a * c
  inv : F → F
  imul : ∀ a : F, a ≠ 0 → inv a * a = 1
  ozne : (1 : F) ≠ 0
  deq : DecidableEq F
  els : List F
  elsN : els.Nodup
  elsA : ∀ a : F, a ∈ els

open Fl
instance (F : Type) [Fl F] : DecidableEq F := Fl.deq
section
variable {F : Type} [Fl F]
abbrev Vec (F : Type) := List F

theorem addz (a : F) : a + 0 = a := by rw [addC, zadd]
theorem addn (a : F) : a + -a = 0 := by rw [addC, nadd]
theorem add_can {a b c : F} (h : a + b = a + c) : b = c := by
  have e : -a + (a + b) = -a + (a + c) := by rw [h]
  rw [← addA, ← addA, nadd, zadd, zadd] at e
  exact e
theorem mulz (a : F) : a * 0 = 0 := by
  have e : a * 0 + a * 0 = a * 0 + 0 := by rw [← dist, zadd, addz]
  exact add_can e
theorem zmul (a : F) : 0 * a = 0 := by rw [mulC, mulz]
theorem mulo (a : F) : a * 1 = a := by rw [mulC, omul]
theorem distR (a b c : F) : (a + b) * c = a * c + b * c := by rw [mulC, dist, mulC c a, mulC c b]
theorem neg_eq {a b : F} (h : a + b = 0) : b = -a := by
  have e : a + b = a + -a := by rw [h, addn]
  exact add_can e
theorem neg_mul (a b : F) : -a * b = -(a * b) := by
  refine neg_eq ?_
  rw [← distR, addn, zmul]
theorem negz : -(0 : F) = 0 := (neg_eq (zadd 0)).symm
theorem negneg (a : F) : - -a = a := (neg_eq (nadd a)).symm
theorem neg_add (a b : F) : -(a + b) = -a + -b := by
  symm
  refine neg_eq ?_
  rw [addA, ← addA b, addC b (-a), addA, addn, addz, addn]
theorem add4 (a b c d : F) : (a + b) + (c + d) = (a + c) + (b + d) := by
  rw [addA, addA, ← addA b, addC b c, addA c]

/-- rows multiplied place by place, summed up -/
def dot : Vec F → Vec F → F
  | a :: x, b :: y => a * b + dot x y
  | _, _ => 0
def vadd : Vec F → Vec F → Vec F
  | a :: x, b :: y => (a + b) :: vadd x y
  | _, _ => []
def smul (c : F) (x : Vec F) : Vec F := x.map (· * c)
def zv (n : Nat) : Vec F := List.replicate n 0

theorem dot_nil (x : Vec F) : dot x [] = 0 := by cases x <;> rfl
theorem nil_dot (x : Vec F) : dot [] x = 0 := rfl
theorem dotC : ∀ x y : Vec F, dot x y = dot y x
  | [], y => by rw [dot_nil]; rfl
  | a :: x, [] => rfl
  | a :: x, b :: y => by show a * b + dot x y = b * a + dot y x; rw [dotC x y, mulC]
theorem vadd_len : ∀ {x y : Vec F}, x.length = y.length → (vadd x y).length = x.length
  | [], [], _ => rfl
  | a :: x, b :: y, h => by
    show (vadd x y).length + 1 = x.length + 1
    rw [vadd_len (Nat.succ.inj h)]
theorem smul_len (c : F) (x : Vec F) : (smul c x).length = x.length := by simp [smul]
theorem dot_smul (c : F) : ∀ x y : Vec F, dot (smul c x) y = c * dot x y
  | [], y => by show (0 : F) = c * 0; rw [mulz]
  | a :: x, [] => by show (0 : F) = c * 0; rw [mulz]
  | a :: x, b :: y => by
    show a * c * b + dot (smul c x) y = c * (a * b + dot x y)
    rw [dot_smul, dist, mulC a c, mulA]
theorem dot_vadd : ∀ {x x' y : Vec F}, x.length = x'.length → dot (vadd x x') y = dot x y + dot x' y
  | [], [], y, _ => by show (0 : F) = 0 + 0; rw [zadd]
  | a :: x, b :: x', [], h => by show (0 : F) = 0 + 0; rw [zadd]
  | a :: x, b :: x', c :: y, h => by
    show (a + b) * c + dot (vadd x x') y = (a * c + dot x y) + (b * c + dot x' y)
    rw [dot_vadd (Nat.succ.inj h), distR, add4]
theorem dot_zv (n : Nat) : ∀ y : Vec F, dot (zv n) y = 0 := by
  induction n with
  | zero => intro y; rfl
  | succ n ih =>
    intro y
    cases y with
    | nil => rfl
    | cons b y =>
      show 0 * b + dot (zv n) y = 0
      rw [ih, zmul, zadd]
theorem dot_app : ∀ {x x' y y' : Vec F}, x.length = x'.length → dot (x ++ y) (x' ++ y') = dot x x' + dot y y'
  | [], [], y, y', _ => by show dot y y' = 0 + dot y y'; rw [zadd]
  | a :: x, b :: x', y, y', h => by
    show a * b + dot (x ++ y) (x' ++ y') = (a * b + dot x x') + dot y y'
    rw [dot_app (Nat.succ.inj h), addA]

/-- the p-th number -/
def at_ (x : Vec F) (p : Nat) : F := x.getD p 0
/-- t more at place p -/
def bumpV (x : Vec F) (p : Nat) (t : F) : Vec F := x.set p (at_ x p + t)
theorem bumpV_len (x : Vec F) (p : Nat) (t : F) : (bumpV x p t).length = x.length := by simp [bumpV]
theorem dot_bumpV : ∀ (g x : Vec F) (p : Nat) (t : F), g.length = x.length → p < x.length → dot g (bumpV x p t) = dot g x + at_ g p * t
  | [], [], p, t, _, hp => absurd hp (Nat.not_lt_zero _)
  | a :: g, b :: x, 0, t, h, hp => by
    show a * (b + t) + dot g x = (a * b + dot g x) + a * t
    rw [dist, addA, addC (a * t), ← addA]
  | a :: g, b :: x, p + 1, t, h, hp => by
    have ih := dot_bumpV g x p t (Nat.succ.inj h) (Nat.lt_of_succ_lt_succ hp)
    show a * b + dot g (bumpV x p t) = (a * b + dot g x) + at_ g p * t
    rw [ih, addA]
theorem at_bumpV_same {x : Vec F} {p : Nat} {t : F} (h : p < x.length) : at_ (bumpV x p t) p = at_ x p + t := by
  simp [at_, bumpV, List.getD, h]
theorem bumpV_bump {x : Vec F} {p : Nat} {t u : F} (h : p < x.length) : bumpV (bumpV x p t) p u = bumpV x p (t + u) := by
  rw [bumpV, at_bumpV_same h, bumpV, bumpV, List.set_set, addA]
theorem bumpV_zero {x : Vec F} {p : Nat} (h : p < x.length) : bumpV x p 0 = x := by
  unfold bumpV
  rw [addz]
  unfold at_
  rw [List.getD_eq_getElem?_getD, List.getElem?_eq_getElem h]
  simp

/-! ### lists without repetition, counted -/
theorem card_le {α β : Type} [DecidableEq β] : ∀ {l : List α} {m : List β} (f : α → β), l.Nodup → (∀ a ∈ l, f a ∈ m) → (∀ a ∈ l, ∀ b ∈ l, f a = f b → a = b) → l.length ≤ m.length
  | [], m, f, _, _, _ => Nat.zero_le _
  | a :: l, m, f, hn, hm, hi => by
    have hn' := List.nodup_cons.mp hn
    have ha : f a ∈ m := hm a List.mem_cons_self
    have ih := card_le (l := l) (m := m.erase (f a)) f hn'.2 (fun b hb => by
      have hb' := hm b (List.mem_cons_of_mem _ hb)
      refine (List.mem_erase_of_ne ?_).mpr hb'
      intro e
      have := hi b (List.mem_cons_of_mem _ hb) a List.mem_cons_self e
      subst this
      exact hn'.1 hb) fun x hx y hy e => hi x (List.mem_cons_of_mem _ hx) y (List.mem_cons_of_mem _ hy) e
    rw [List.length_erase_of_mem ha] at ih
    have : 0 < m.length := List.length_pos_of_mem ha
    simp only [List.length_cons]
    omega

/-- all rows of a width, in the law's order -/
def vecs : Nat → List (Vec F)
  | 0 => [[]]
  | n + 1 => (vecs n).flatMap fun v => els.map fun a => v ++ [a]
theorem mem_vecs : ∀ {n : Nat} {x : Vec F}, x ∈ vecs n ↔ x.length = n
  | 0, x => by simp [vecs]
  | n + 1, x => by
    unfold vecs
    rw [List.mem_flatMap]
    constructor
    · rintro ⟨v, hv, hx⟩
      obtain ⟨a, _, rfl⟩ := List.mem_map.mp hx
      have := mem_vecs.mp hv
      simp [this]
    · intro h
      have hne : x ≠ [] := by intro e; subst e; cases h
      refine ⟨x.dropLast, mem_vecs.mpr (by simp [h]), List.mem_map.mpr ⟨x.getLast hne, elsA _, List.dropLast_concat_getLast hne⟩⟩
theorem nodup_vecs : ∀ n : Nat, (vecs n : List (Vec F)).Nodup
  | 0 => by simp [vecs]
  | n + 1 => by
    unfold vecs
    rw [List.nodup_iff_pairwise_ne, List.pairwise_flatMap]
    refine ⟨fun v hv => ?_, ?_⟩
    · rw [List.pairwise_map]
      exact (elsN (F := F)).imp fun {a b} h e => h (by simpa using e)
    · refine (nodup_vecs n).imp fun {v w} h x hx y hy e => ?_
      obtain ⟨a, _, rfl⟩ := List.mem_map.mp hx
      obtain ⟨b, _, rfl⟩ := List.mem_map.mp hy
      exact h (List.append_inj_left' e rfl)
def card (F : Type) [Fl F] : Nat := (els : List F).length
theorem flatMap_len {α β : Type} {k : Nat} {f : α → List β} : ∀ (l : List α), (∀ a ∈ l, (f a).length = k) → (l.flatMap f).length = l.length * k
  | [], _ => by simp
  | a :: l, h => by
    rw [List.flatMap_cons, List.length_append, h a List.mem_cons_self, flatMap_len l fun b hb => h b (List.mem_cons_of_mem _ hb), List.length_cons, Nat.succ_mul, Nat.add_comm]
theorem len_vecs : ∀ n : Nat, (vecs n : List (Vec F)).length = card F ^ n
  | 0 => rfl
  | n + 1 => by
    unfold vecs
    rw [flatMap_len (k := card F) _ fun v _ => by simp [card], len_vecs n, Nat.pow_succ]
theorem card_two : 2 ≤ card F := by
  have h : ([0, 1] : List F).length ≤ card F := card_le (fun a => a) (by
    rw [List.nodup_cons]
    refine ⟨?_, by simp⟩
    intro h
    simp only [List.mem_cons, List.not_mem_nil, or_false] at h
    exact ozne h.symm) (fun a _ => elsA a) fun _ _ _ _ e => e
  exact h

/-- the rows that with each of L sum up to 0 -/
def Nul (L : List (Vec F)) (x : Vec F) : Prop := ∀ r ∈ L, dot r x = 0
def nulB (L : List (Vec F)) (x : Vec F) : Bool := L.all fun r => dot r x == 0
theorem nulB_iff {L : List (Vec F)} {x : Vec F} : nulB L x = true ↔ Nul L x := by
  simp [nulB, Nul]
def nul (n : Nat) (L : List (Vec F)) : List (Vec F) := (vecs n).filter (nulB L)
theorem mem_nul {n : Nat} {L : List (Vec F)} {x : Vec F} : x ∈ nul n L ↔ x.length = n ∧ Nul L x := by
  unfold nul
  rw [List.mem_filter, mem_vecs, nulB_iff]
theorem nodup_nul (n : Nat) (L : List (Vec F)) : (nul n L).Nodup := (nodup_vecs n).filter _

/-- rows with places, each row 1 at its place, the later ones 0 there -/
def Ech (n : Nat) : List (Vec F) → Prop
  | [] => True
  | f :: B => f.length = n ∧ (∃ p, p < n ∧ at_ f p = 1 ∧ ∀ g ∈ B, at_ g p = 0) ∧ Ech n B
theorem Ech.len {n : Nat} : ∀ {B : List (Vec F)}, Ech n B → ∀ g ∈ B, g.length = n
  | f :: B, h, g, hg => by
    rcases List.mem_cons.mp hg with e | hg
    · rw [e]; exact h.1
    · exact Ech.len h.2.2 g hg

def pairs {α β : Type} (l : List α) (m : List β) : List (α × β) := l.flatMap fun a => m.map fun b => (a, b)
theorem mem_pairs {α β : Type} {l : List α} {m : List β} {a : α} {b : β} : (a, b) ∈ pairs l m ↔ a ∈ l ∧ b ∈ m := by
  simp [pairs]
theorem nodup_pairs {α β : Type} {l : List α} {m : List β} (hl : l.Nodup) (hm : m.Nodup) : (pairs l m).Nodup := by
  unfold pairs
  rw [List.nodup_iff_pairwise_ne, List.pairwise_flatMap]
  refine ⟨fun a _ => ?_, ?_⟩
  · rw [List.pairwise_map]
    exact hm.imp fun {a b} h e => h (Prod.mk.inj e).2
  · refine List.Pairwise.imp (fun {a b} h x hx y hy e => ?_) hl
    obtain ⟨c, _, rfl⟩ := List.mem_map.mp hx
    obtain ⟨d, _, rfl⟩ := List.mem_map.mp hy
    exact h (Prod.mk.inj e).1
theorem len_pairs {α β : Type} (l : List α) (m : List β) : (pairs l m).length = l.length * m.length :=
  flatMap_len _ fun a _ => by simp

theorem nul_step {n : Nat} {f : Vec F} {B : List (Vec F)} (h : Ech n (f :: B)) : card F * (nul n (f :: B)).length = (nul n B).length := by
  obtain ⟨hl, ⟨p, hp, h1, h0⟩, hB⟩ := h
  have hBl := hB.len
  refine Nat.le_antisymm ?_ ?_
  · have := card_le (l := pairs (els : List F) (nul n (f :: B))) (m := nul n B) (fun z => bumpV z.2 p z.1) (nodup_pairs elsN (nodup_nul _ _)) (fun ⟨t, x⟩ hx => ?_) (fun ⟨t, x⟩ hx ⟨u, y⟩ hy e => ?_)
    · rw [len_pairs] at this
      exact this
    · obtain ⟨_, hx⟩ := mem_pairs.mp hx
      obtain ⟨xl, xn⟩ := mem_nul.mp hx
      refine mem_nul.mpr ⟨by rw [bumpV_len]; exact xl, fun g hg => ?_⟩
      show dot g (bumpV x p t) = 0
      rw [dot_bumpV g x p t ((hBl g hg).trans xl.symm) (by rw [xl]; exact hp), h0 g hg, zmul, addz]
      exact xn g (List.mem_cons_of_mem _ hg)
    · obtain ⟨_, hx⟩ := mem_pairs.mp hx
      obtain ⟨_, hy⟩ := mem_pairs.mp hy
      obtain ⟨xl, xn⟩ := mem_nul.mp hx
      obtain ⟨yl, yn⟩ := mem_nul.mp hy
      have e : bumpV x p t = bumpV y p u := e
      have hpx : p < x.length := by rw [xl]; exact hp
      have hpy : p < y.length := by rw [yl]; exact hp
      have ed : dot f (bumpV x p t) = dot f (bumpV y p u) := by rw [e]
      rw [dot_bumpV f x p t (hl.trans xl.symm) hpx, dot_bumpV f y p u (hl.trans yl.symm) hpy, xn f List.mem_cons_self, yn f List.mem_cons_self, h1, zadd, zadd, omul, omul] at ed
      subst ed
      have ex : bumpV (bumpV x p t) p (-t) = bumpV (bumpV y p t) p (-t) := by rw [e]
      rw [bumpV_bump hpx, bumpV_bump hpy, addn, bumpV_zero hpx, bumpV_zero hpy] at ex
      rw [ex]
  · have := card_le (l := nul n B) (m := pairs (els : List F) (nul n (f :: B))) (fun y => (dot f y, bumpV y p (-(dot f y)))) (nodup_nul _ _) (fun y hy => ?_) (fun x hx y hy e => ?_)
    · rw [len_pairs] at this
      exact this
    · obtain ⟨yl, yn⟩ := mem_nul.mp hy
      have hpy : p < y.length := by rw [yl]; exact hp
      refine mem_pairs.mpr ⟨elsA _, mem_nul.mpr ⟨by rw [bumpV_len]; exact yl, fun g hg => ?_⟩⟩
      rcases List.mem_cons.mp hg with eg | hg
      · subst eg
        rw [dot_bumpV _ _ _ _ (hl.trans yl.symm) hpy, h1, omul, addn]
      · rw [dot_bumpV _ _ _ _ ((hBl g hg).trans yl.symm) hpy, h0 g hg, zmul, addz]
        exact yn g hg
    · obtain ⟨xl, _⟩ := mem_nul.mp hx
      obtain ⟨yl, _⟩ := mem_nul.mp hy
      have hpx : p < x.length := by rw [xl]; exact hp
      have hpy : p < y.length := by rw [yl]; exact hp
      have e1 := (Prod.mk.inj e).1
      have e2 := (Prod.mk.inj e).2
      rw [← e1] at e2
      have ex : bumpV (bumpV x p (-(dot f x))) p (dot f x) = bumpV (bumpV y p (-(dot f x))) p (dot f x) := by rw [e2]
      rw [bumpV_bump hpx, bumpV_bump hpy, nadd, bumpV_zero hpx, bumpV_zero hpy] at ex
      exact ex
theorem nul_nil (n : Nat) : (nul n ([] : List (Vec F))).length = card F ^ n := by
  rw [← len_vecs]
  unfold nul
  rw [List.filter_eq_self.mpr]
  intro x _
  rfl
theorem nul_ech {n : Nat} : ∀ {B : List (Vec F)}, Ech n B → card F ^ B.length * (nul n B).length = card F ^ n
  | [], _ => by rw [nul_nil]; simp
  | f :: B, h => by
    have ih := nul_ech (B := B) h.2.2
    have st := nul_step h
    rw [← ih, ← st, List.length_cons, Nat.pow_succ, Nat.mul_assoc]
theorem nul_cong {n : Nat} {L M : List (Vec F)} (h : ∀ x, x.length = n → (Nul L x ↔ Nul M x)) : nul n L = nul n M := by
  unfold nul
  refine List.filter_congr fun x hx => ?_
  have hx := mem_vecs.mp hx
  have e := h x hx
  rw [Bool.eq_iff_iff, nulB_iff, nulB_iff]
  exact e
theorem zv_len (n : Nat) : (zv n : Vec F).length = n := by simp [zv]
theorem nul_pos (n : Nat) (L : List (Vec F)) : 0 < (nul n L).length := by
  refine List.length_pos_of_mem (a := zv n) (mem_nul.mpr ⟨zv_len n, fun r _ => ?_⟩)
  rw [dotC, dot_zv]
theorem pow_inj {a b : Nat} (h : card F ^ a = card F ^ b) : a = b := (Nat.pow_right_inj (card_two (F := F))).mp h
/-- two echelon lists with the same null rows are equally long -/
theorem rank_one {n : Nat} {B C : List (Vec F)} (hB : Ech n B) (hC : Ech n C) (h : ∀ x, x.length = n → (Nul B x ↔ Nul C x)) : B.length = C.length := by
  have e1 := nul_ech hB
  have e2 := nul_ech hC
  rw [nul_cong h, ← e2] at e1
  exact pow_inj (Nat.eq_of_mul_eq_mul_right (nul_pos n C) e1)
end
end KM
namespace KM
open Fl
section
variable {F : Type} [Fl F]

theorem at_vadd : ∀ {x y : Vec F} (p : Nat), x.length = y.length → at_ (vadd x y) p = at_ x p + at_ y p
  | [], [], p, _ => by show (0 : F) = 0 + 0; rw [zadd]
  | a :: x, b :: y, 0, _ => rfl
  | a :: x, b :: y, p + 1, h => at_vadd (x := x) (y := y) p (Nat.succ.inj h)
theorem at_smul (c : F) : ∀ (x : Vec F) (p : Nat), at_ (smul c x) p = at_ x p * c
  | [], p => by show (0 : F) = 0 * c; rw [zmul]
  | a :: x, 0 => rfl
  | a :: x, p + 1 => at_smul c x p
def vneg (x : Vec F) : Vec F := x.map (- ·)
def vsub : Vec F → Vec F → Vec F
  | a :: x, b :: y => (a + -b) :: vsub x y
  | _, _ => []
theorem vsub_eq : ∀ x y : Vec F, vsub x y = vadd x (vneg y)
  | [], y => by cases y <;> rfl
  | a :: x, [] => rfl
  | a :: x, b :: y => by show _ :: vsub x y = _ :: vadd x (vneg y); rw [vsub_eq x y]
theorem vneg_len (x : Vec F) : (vneg x).length = x.length := by simp [vneg]
theorem vsub_len {x y : Vec F} (h : x.length = y.length) : (vsub x y).length = x.length := by
  rw [vsub_eq, vadd_len (by rw [vneg_len]; exact h)]
theorem at_vneg : ∀ (x : Vec F) (p : Nat), at_ (vneg x) p = -(at_ x p)
  | [], p => by show (0 : F) = -0; rw [negz]
  | a :: x, 0 => rfl
  | a :: x, p + 1 => at_vneg x p
theorem at_vsub {x y : Vec F} (p : Nat) (h : x.length = y.length) : at_ (vsub x y) p = at_ x p + -(at_ y p) := by
  rw [vsub_eq, at_vadd p (by rw [vneg_len]; exact h), at_vneg]
theorem dot_vneg : ∀ x y : Vec F, dot (vneg x) y = -(dot x y)
  | [], y => by show (0 : F) = -0; rw [negz]
  | a :: x, [] => by show (0 : F) = -0; rw [negz]
  | a :: x, b :: y => by
    show -a * b + dot (vneg x) y = -(a * b + dot x y)
    rw [dot_vneg x y, neg_add, neg_mul]
theorem dot_vsub {x x' y : Vec F} (h : x.length = x'.length) : dot (vsub x x') y = dot x y + -(dot x' y) := by
  rw [vsub_eq, dot_vadd (by rw [vneg_len]; exact h), dot_vneg]

/-! ### the first place that isn't 0 -/
def pivs (x : Vec F) : List Nat := (List.range x.length).filter fun p => !decide (at_ x p = 0)
def piv (x : Vec F) : Option Nat := (pivs x).head?
def nz (x : Vec F) : Bool := (pivs x) != []
theorem piv_some {x : Vec F} {p : Nat} (h : piv x = some p) : p < x.length ∧ at_ x p ≠ 0 := by
  have hm : p ∈ pivs x := List.mem_of_mem_head? h
  unfold pivs at hm
  rw [List.mem_filter] at hm
  exact ⟨List.mem_range.mp hm.1, by simpa using hm.2⟩
theorem piv_none {x : Vec F} (h : piv x = none) : ∀ p, at_ x p = 0 := by
  intro p
  have hn : pivs x = [] := List.head?_eq_none_iff.mp h
  by_cases hp : p < x.length
  · by_cases e : at_ x p = 0
    · exact e
    · have : p ∈ pivs x := by
        unfold pivs
        rw [List.mem_filter]
        exact ⟨List.mem_range.mpr hp, by simpa using e⟩
      rw [hn] at this
      cases this
  · unfold at_
    rw [List.getD_eq_getElem?_getD, List.getElem?_eq_none (by omega)]
    rfl
theorem dot_zero : ∀ {x y : Vec F}, (∀ p, at_ x p = 0) → dot x y = 0
  | [], y, _ => rfl
  | a :: x, [], _ => rfl
  | a :: x, b :: y, h => by
    have h0 : a = 0 := h 0
    have ih := dot_zero (x := x) (y := y) fun p => h (p + 1)
    show a * b + dot x y = 0
    rw [h0, zmul, ih, zadd]
theorem nz_false {x : Vec F} (h : nz x = false) : piv x = none := by
  unfold nz at h
  have e : pivs x = [] := by simpa using h
  unfold piv
  rw [e]
  rfl
theorem nz_true {x : Vec F} (h : nz x = true) : ∃ p, piv x = some p := by
  unfold nz at h
  unfold piv
  cases e : pivs x with
  | nil => rw [e] at h; simp at h
  | cons p r => exact ⟨p, rfl⟩

/-! ### the law's solving -/
def clear (f : Vec F) (p : Nat) (g : Vec F) : Vec F := vadd g (smul (-(at_ g p)) f)
def solve : Nat → List (Vec F) → List (Vec F)
  | 0, _ => []
  | _ + 1, [] => []
  | k + 1, r :: rs => match piv r with
    | none => []
    | some p => smul (inv (at_ r p)) r :: solve k ((rs.map (clear (smul (inv (at_ r p)) r) p)).filter nz)
def lrank (L : List (Vec F)) : Nat := (solve L.length (L.filter nz)).length
theorem nul_filter {L : List (Vec F)} {x : Vec F} : Nul (L.filter nz) x ↔ Nul L x := by
  constructor
  · intro h r hr
    cases e : nz r with
    | true => exact h r (List.mem_filter.mpr ⟨hr, e⟩)
    | false => exact dot_zero (piv_none (nz_false e))
  · intro h r hr
    exact h r (List.mem_filter.mp hr).1
theorem clear_len {f g : Vec F} {p : Nat} (h : g.length = f.length) : (clear f p g).length = g.length := by
  unfold clear
  rw [vadd_len (by rw [smul_len]; exact h)]
theorem at_clear {f g : Vec F} {p : Nat} (i : Nat) (h : g.length = f.length) : at_ (clear f p g) i = at_ g i + at_ f i * -(at_ g p) := by
  unfold clear
  rw [at_vadd i (by rw [smul_len]; exact h), at_smul]
theorem dot_clear {f g x : Vec F} {p : Nat} (h : g.length = f.length) : dot (clear f p g) x = dot g x + -(at_ g p) * dot f x := by
  unfold clear
  rw [dot_vadd (by rw [smul_len]; exact h), dot_smul]
theorem solve_zero {n p : Nat} : ∀ (k : Nat) (L : List (Vec F)), (∀ g ∈ L, g.length = n) → (∀ g ∈ L, at_ g p = 0) → ∀ g ∈ solve k L, at_ g p = 0
  | 0, _, _, _, g, hg => by cases hg
  | _ + 1, [], _, _, g, hg => by cases hg
  | k + 1, r :: rs, hn, h0, g, hg => by
    unfold solve at hg
    cases e : piv r with
    | none => rw [e] at hg; cases hg
    | some q =>
      rw [e] at hg
      have hr : at_ (smul (inv (at_ r q)) r) p = 0 := by rw [at_smul, h0 r List.mem_cons_self, zmul]
      rcases List.mem_cons.mp hg with e | hg
      · rw [e]; exact hr
      · refine solve_zero k _ (n := n) (fun g hg => ?_) (fun g hg => ?_) g hg
        · obtain ⟨g', hg', rfl⟩ := List.mem_map.mp (List.mem_filter.mp hg).1
          rw [clear_len (by rw [smul_len, hn _ (List.mem_cons_of_mem _ hg'), hn _ List.mem_cons_self])]
          exact hn _ (List.mem_cons_of_mem _ hg')
        · obtain ⟨g', hg', rfl⟩ := List.mem_map.mp (List.mem_filter.mp hg).1
          rw [at_clear p (by rw [smul_len, hn _ (List.mem_cons_of_mem _ hg'), hn _ List.mem_cons_self]), hr, zmul, addz]
          exact h0 _ (List.mem_cons_of_mem _ hg')
theorem solve_ok {n : Nat} : ∀ (k : Nat) (L : List (Vec F)), L.length ≤ k → (∀ g ∈ L, g.length = n) → (∀ g ∈ L, nz g = true) → Ech n (solve k L) ∧ ∀ x, Nul (solve k L) x ↔ Nul L x
  | 0, [], _, _, _ => ⟨trivial, fun x => Iff.rfl⟩
  | 0, _ :: _, h, _, _ => absurd h (Nat.not_succ_le_zero _)
  | _ + 1, [], _, _, _ => ⟨trivial, fun x => Iff.rfl⟩
  | k + 1, r :: rs, hk, hn, hz => by
    obtain ⟨p, hp⟩ := nz_true (hz r List.mem_cons_self)
    obtain ⟨hpl, hp0⟩ := piv_some hp
    unfold solve
    rw [hp]
    show Ech n (smul (inv (at_ r p)) r :: solve k ((rs.map (clear (smul (inv (at_ r p)) r) p)).filter nz)) ∧ ∀ x, Nul (smul (inv (at_ r p)) r :: solve k ((rs.map (clear (smul (inv (at_ r p)) r) p)).filter nz)) x ↔ Nul (r :: rs) x
    have hrl : r.length = n := hn r List.mem_cons_self
    have hfl : (smul (inv (at_ r p)) r).length = n := by rw [smul_len]; exact hrl
    have hf1 : at_ (smul (inv (at_ r p)) r) p = 1 := by rw [at_smul, mulC, imul _ hp0]
    have hrs : ∀ g ∈ rs, g.length = (smul (inv (at_ r p)) r).length := fun g hg => by rw [hfl]; exact hn g (List.mem_cons_of_mem _ hg)
    have hn' : ∀ g ∈ (rs.map (clear (smul (inv (at_ r p)) r) p)).filter nz, g.length = n := fun g hg => by
      obtain ⟨g', hg', rfl⟩ := List.mem_map.mp (List.mem_filter.mp hg).1
      rw [clear_len (hrs g' hg')]
      exact hn _ (List.mem_cons_of_mem _ hg')
    have hz' : ∀ g ∈ (rs.map (clear (smul (inv (at_ r p)) r) p)).filter nz, at_ g p = 0 := fun g hg => by
      obtain ⟨g', hg', rfl⟩ := List.mem_map.mp (List.mem_filter.mp hg).1
      rw [at_clear p (hrs g' hg'), hf1, omul, addn]
    obtain ⟨ih1, ih2⟩ := solve_ok (n := n) k ((rs.map (clear (smul (inv (at_ r p)) r) p)).filter nz) (by
      have h1 := List.length_filter_le nz (rs.map (clear (smul (inv (at_ r p)) r) p))
      rw [List.length_map] at h1
      simp only [List.length_cons] at hk
      omega) hn' fun g hg => (List.mem_filter.mp hg).2
    refine ⟨⟨hfl, ⟨p, by rw [← hrl]; exact hpl, hf1, solve_zero k _ hn' hz'⟩, ih1⟩, fun x => ?_⟩
    have hfx : dot (smul (inv (at_ r p)) r) x = 0 ↔ dot r x = 0 := by
      rw [dot_smul]
      constructor
      · intro h
        have e : at_ r p * (inv (at_ r p) * dot r x) = 0 := by rw [h, mulz]
        rw [← mulA, mulC (at_ r p), imul _ hp0, omul] at e
        exact e
      · intro h
        rw [h, mulz]
    constructor
    · intro h g hg
      have hf0 := h _ List.mem_cons_self
      rcases List.mem_cons.mp hg with e | hg
      · rw [e]; exact hfx.mp hf0
      · have h2 : Nul (solve k ((rs.map (clear (smul (inv (at_ r p)) r) p)).filter nz)) x := fun y hy => h y (List.mem_cons_of_mem _ hy)
        have h3 := nul_filter.mp ((ih2 x).mp h2) _ (List.mem_map_of_mem hg)
        rw [dot_clear (hrs g hg), hf0, mulz, addz] at h3
        exact h3
    · intro h
      have hr0 := h r List.mem_cons_self
      have hf0 := hfx.mpr hr0
      intro y hy
      rcases List.mem_cons.mp hy with e | hy
      · rw [e]; exact hf0
      · refine (ih2 x).mpr (nul_filter.mpr fun z hz => ?_) y hy
        obtain ⟨g, hg, rfl⟩ := List.mem_map.mp hz
        rw [dot_clear (hrs g hg), hf0, mulz, addz]
        exact h g (List.mem_cons_of_mem _ hg)
/-- what the law counts -/
theorem lrank_ok {n : Nat} {L : List (Vec F)} (hn : ∀ g ∈ L, g.length = n) : ∃ B, Ech n B ∧ B.length = lrank L ∧ ∀ x, Nul B x ↔ Nul L x := by
  obtain ⟨h1, h2⟩ := solve_ok (n := n) L.length (L.filter nz) (List.length_filter_le _ _) (fun g hg => hn g (List.mem_filter.mp hg).1) fun g hg => (List.mem_filter.mp hg).2
  exact ⟨_, h1, rfl, fun x => (h2 x).trans nul_filter⟩
theorem lrank_nul {n : Nat} {L : List (Vec F)} (hn : ∀ g ∈ L, g.length = n) : card F ^ lrank L * (nul n L).length = card F ^ n := by
  obtain ⟨B, h1, h2, h3⟩ := lrank_ok hn
  rw [← h2, ← nul_cong fun x _ => h3 x]
  exact nul_ech h1
theorem lrank_le {n : Nat} {L : List (Vec F)} (hn : ∀ g ∈ L, g.length = n) : lrank L ≤ n := by
  have h := lrank_nul hn
  refine (Nat.pow_le_pow_iff_right (card_two (F := F))).mp ?_
  rw [← h]
  exact Nat.le_mul_of_pos_right _ (nul_pos n L)
theorem lrank_one {n : Nat} {L M : List (Vec F)} (hL : ∀ g ∈ L, g.length = n) (hM : ∀ g ∈ M, g.length = n) (h : ∀ x, x.length = n → (Nul L x ↔ Nul M x)) : lrank L = lrank M := by
  have e1 := lrank_nul hL
  have e2 := lrank_nul hM
  rw [nul_cong h, ← e2] at e1
  exact pow_inj (Nat.eq_of_mul_eq_mul_right (nul_pos n M) e1)

/-! ### the program's solving -/
abbrev Lead (F : Type) := Nat × Vec F
def lowS (r : Vec F) (e : Lead F) : Vec F := if at_ r e.1 = 0 then r else vsub r (smul (at_ r e.1) e.2)
def low (L : List (Lead F)) (r : Vec F) : Vec F := L.foldl lowS r
def Apart (e e' : Lead F) : Prop := at_ e.2 e'.1 = 0 ∧ at_ e'.2 e.1 = 0
structure RR (n : Nat) (L : List (Lead F)) : Prop where
  one : ∀ e ∈ L, e.1 < n ∧ e.2.length = n ∧ at_ e.2 e.1 = 1
  two : L.Pairwise Apart
theorem RR.perm {n : Nat} {L M : List (Lead F)} (h : RR n L) (p : L.Perm M) : RR n M :=
  ⟨fun e he => h.one e (p.mem_iff.mpr he), (p.pairwise_iff (R := Apart) fun {a b} (z : Apart a b) => (⟨z.2, z.1⟩ : Apart b a)).mp h.two⟩
theorem RR.ech {n : Nat} : ∀ {L : List (Lead F)}, RR n L → Ech n (L.map (·.2))
  | [], _ => trivial
  | e :: L, h => by
    have h1 := h.one e List.mem_cons_self
    have h2 := List.pairwise_cons.mp h.two
    refine ⟨h1.2.1, ⟨e.1, h1.1, h1.2.2, fun g hg => ?_⟩, RR.ech ⟨fun e' he => h.one e' (List.mem_cons_of_mem _ he), h2.2⟩⟩
    obtain ⟨e', he', rfl⟩ := List.mem_map.mp hg
    exact (h2.1 e' he').2
theorem lowS_len {r : Vec F} {e : Lead F} (h : r.length = e.2.length) : (lowS r e).length = r.length := by
  unfold lowS
  split
  · rfl
  · rw [vsub_len (by rw [smul_len]; exact h)]
theorem at_lowS {r : Vec F} {e : Lead F} (i : Nat) (h : r.length = e.2.length) : at_ (lowS r e) i = at_ r i + -(at_ e.2 i * at_ r e.1) := by
  unfold lowS
  split
  · rename_i h0
    rw [h0, mulz, negz, addz]
  · rw [at_vsub i (by rw [smul_len]; exact h), at_smul]
theorem dot_lowS {r x : Vec F} {e : Lead F} (h : r.length = e.2.length) (h0 : dot e.2 x = 0) : dot (lowS r e) x = dot r x := by
  unfold lowS
  split
  · rfl
  · rw [dot_vsub (by rw [smul_len]; exact h), dot_smul, h0, mulz, negz, addz]
theorem low_len {n : Nat} : ∀ {L : List (Lead F)} {r : Vec F}, (∀ e ∈ L, e.2.length = n) → r.length = n → (low L r).length = n
  | [], r, _, h => h
  | e :: L, r, hL, h => by
    refine low_len (L := L) (r := lowS r e) (fun e' he => hL e' (List.mem_cons_of_mem _ he)) ?_
    rw [lowS_len (by rw [h, hL e List.mem_cons_self])]
    exact h
theorem low_dot {n : Nat} {x : Vec F} : ∀ {L : List (Lead F)} {r : Vec F}, (∀ e ∈ L, e.2.length = n) → r.length = n → (∀ e ∈ L, dot e.2 x = 0) → dot (low L r) x = dot r x
  | [], r, _, _, _ => rfl
  | e :: L, r, hL, h, h0 => by
    have hl : r.length = e.2.length := by rw [h, hL e List.mem_cons_self]
    have ih := low_dot (L := L) (r := lowS r e) (fun e' he => hL e' (List.mem_cons_of_mem _ he)) (by rw [lowS_len hl]; exact h) fun e' he => h0 e' (List.mem_cons_of_mem _ he)
    show dot (low L (lowS r e)) x = dot r x
    rw [ih, dot_lowS hl (h0 e List.mem_cons_self)]
theorem low_keep {n i : Nat} : ∀ {L : List (Lead F)} {r : Vec F}, (∀ e ∈ L, e.2.length = n) → r.length = n → (∀ e ∈ L, at_ e.2 i = 0) → at_ (low L r) i = at_ r i
  | [], r, _, _, _ => rfl
  | e :: L, r, hL, h, h0 => by
    have hl : r.length = e.2.length := by rw [h, hL e List.mem_cons_self]
    have ih := low_keep (L := L) (r := lowS r e) (fun e' he => hL e' (List.mem_cons_of_mem _ he)) (by rw [lowS_len hl]; exact h) fun e' he => h0 e' (List.mem_cons_of_mem _ he)
    show at_ (low L (lowS r e)) i = at_ r i
    rw [ih, at_lowS i hl, h0 e List.mem_cons_self, zmul, negz, addz]
theorem low_zero {n : Nat} : ∀ {L : List (Lead F)} {r : Vec F}, RR n L → r.length = n → ∀ e ∈ L, at_ (low L r) e.1 = 0
  | [], r, _, _, e, he => by cases he
  | d :: L, r, hR, h, e, he => by
    have h1 := hR.one d List.mem_cons_self
    have h2 := List.pairwise_cons.mp hR.two
    have hR' : RR n L := ⟨fun e' he => hR.one e' (List.mem_cons_of_mem _ he), h2.2⟩
    have hl : r.length = d.2.length := by rw [h, h1.2.1]
    have hl' : (lowS r d).length = n := by rw [lowS_len hl]; exact h
    show at_ (low L (lowS r d)) e.1 = 0
    rcases List.mem_cons.mp he with e1 | he
    · subst e1
      rw [low_keep (fun e' he' => (hR'.one e' he').2.1) hl' fun e' he' => (h2.1 e' he').2, at_lowS _ hl, h1.2.2, omul, addn]
    · exact low_zero hR' hl' e he
def redo (p : Nat) (f : Vec F) (e : Lead F) : Lead F := (e.1, vsub e.2 (smul (at_ e.2 p) f))
/-- the rows behind a put, in any order -/
def putL (L : List (Lead F)) (r : Vec F) : List (Lead F) := match piv (low L r) with
  | none => L
  | some p => (p, smul (inv (at_ (low L r) p)) (low L r)) :: L.map (redo p (smul (inv (at_ (low L r) p)) (low L r)))
theorem putL_ok {n : Nat} {L : List (Lead F)} {r : Vec F} (hR : RR n L) (hr : r.length = n) : RR n (putL L r) ∧ ∀ x, Nul ((putL L r).map (·.2)) x ↔ Nul (L.map (·.2)) x ∧ dot r x = 0 := by
  have hLl : ∀ e ∈ L, e.2.length = n := fun e he => (hR.one e he).2.1
  have hll := low_len hLl hr
  unfold putL
  cases e : piv (low L r) with
  | none =>
    refine ⟨hR, fun x => ⟨fun h => ⟨h, ?_⟩, fun h => h.1⟩⟩
    rw [← low_dot hLl hr fun e he => h _ (List.mem_map_of_mem he)]
    exact dot_zero (piv_none e)
  | some p =>
    obtain ⟨hp, hp0⟩ := piv_some e
    rw [hll] at hp
    show RR n ((p, smul (inv (at_ (low L r) p)) (low L r)) :: L.map (redo p (smul (inv (at_ (low L r) p)) (low L r)))) ∧ ∀ x, Nul (((p, smul (inv (at_ (low L r) p)) (low L r)) :: L.map (redo p (smul (inv (at_ (low L r) p)) (low L r)))).map (·.2)) x ↔ Nul (L.map (·.2)) x ∧ dot r x = 0
    generalize hf : smul (inv (at_ (low L r) p)) (low L r) = f
    have hfl : f.length = n := by rw [← hf, smul_len]; exact hll
    have hf1 : at_ f p = 1 := by rw [← hf, at_smul, mulC, imul _ hp0]
    have hf0 : ∀ e ∈ L, at_ f e.1 = 0 := fun e he => by rw [← hf, at_smul, low_zero hR hr e he, zmul]
    have hsl : ∀ e ∈ L, e.2.length = (smul (at_ e.2 p) f).length := fun e he => by rw [smul_len, hfl]; exact hLl e he
    have hfx : ∀ x, dot f x = 0 ↔ dot (low L r) x = 0 := fun x => by
      rw [← hf, dot_smul]
      constructor
      · intro h
        have e : at_ (low L r) p * (inv (at_ (low L r) p) * dot (low L r) x) = 0 := by rw [h, mulz]
        rw [← mulA, mulC (at_ (low L r) p), imul _ hp0, omul] at e
        exact e
      · intro h
        rw [h, mulz]
    have atR : ∀ e ∈ L, ∀ i, at_ (redo p f e).2 i = at_ e.2 i + -(at_ f i * at_ e.2 p) := fun e he i => by
      show at_ (vsub e.2 (smul (at_ e.2 p) f)) i = _
      rw [at_vsub i (hsl e he), at_smul]
    have dotR' : ∀ e ∈ L, ∀ x, dot (redo p f e).2 x = dot e.2 x + -(at_ e.2 p * dot f x) := fun e he x => by
      show dot (vsub e.2 (smul (at_ e.2 p) f)) x = _
      rw [dot_vsub (hsl e he), dot_smul]
    show RR n ((p, f) :: L.map (redo p f)) ∧ ∀ x, Nul (((p, f) :: L.map (redo p f)).map (·.2)) x ↔ Nul (L.map (·.2)) x ∧ dot r x = 0
    refine ⟨⟨fun z hz => ?_, List.pairwise_cons.mpr ⟨fun z hz => ?_, ?_⟩⟩, fun x => ⟨fun h => ?_, fun h z hz => ?_⟩⟩
    · rcases List.mem_cons.mp hz with e | hz
      · subst e
        exact ⟨hp, hfl, hf1⟩
      · obtain ⟨e, he, rfl⟩ := List.mem_map.mp hz
        refine ⟨(hR.one e he).1, ?_, ?_⟩
        · show (vsub e.2 (smul (at_ e.2 p) f)).length = n
          rw [vsub_len (hsl e he)]
          exact hLl e he
        · show at_ (redo p f e).2 e.1 = 1
          rw [atR e he, hf0 e he, zmul, negz, addz]
          exact (hR.one e he).2.2
    · obtain ⟨e, he, rfl⟩ := List.mem_map.mp hz
      refine ⟨hf0 e he, ?_⟩
      show at_ (redo p f e).2 p = 0
      rw [atR e he, hf1, omul, addn]
    · rw [List.pairwise_map]
      refine List.Pairwise.imp_of_mem (fun {a b} ha hb h => ?_) hR.two
      refine ⟨?_, ?_⟩
      · show at_ (redo p f a).2 b.1 = 0
        rw [atR a ha, hf0 b hb, zmul, negz, addz]
        exact h.1
      · show at_ (redo p f b).2 a.1 = 0
        rw [atR b hb, hf0 a ha, zmul, negz, addz]
        exact h.2
    · have hfx0 : dot f x = 0 := h f (by simp)
      have hL0 : Nul (L.map (·.2)) x := fun y hy => by
        obtain ⟨e, he, rfl⟩ := List.mem_map.mp hy
        have h1 : dot (redo p f e).2 x = 0 := h _ (List.mem_map_of_mem (List.mem_cons_of_mem _ (List.mem_map_of_mem he)))
        rw [dotR' e he, hfx0, mulz, negz, addz] at h1
        exact h1
      refine ⟨hL0, ?_⟩
      rw [← low_dot hLl hr fun e he => hL0 _ (List.mem_map_of_mem he)]
      exact (hfx x).mp hfx0
    · have hfx0 : dot f x = 0 := by
        refine (hfx x).mpr ?_
        rw [low_dot hLl hr fun e he => h.1 _ (List.mem_map_of_mem he)]
        exact h.2
      obtain ⟨y, hy, rfl⟩ := List.mem_map.mp hz
      rcases List.mem_cons.mp hy with e | hy
      · subst e
        exact hfx0
      · obtain ⟨e, he, rfl⟩ := List.mem_map.mp hy
        rw [dotR' e he, hfx0, mulz, negz, addz]
        exact h.1 _ (List.mem_map_of_mem he)
/-- what the program holds behind rows: as a relation (the order of the leads is left open) -/
def Spans (n : Nat) (rows : List (Vec F)) (L : List (Lead F)) : Prop := RR n L ∧ ∀ x, Nul (L.map (·.2)) x ↔ Nul rows x
theorem spans_nil (n : Nat) : Spans n ([] : List (Vec F)) [] := ⟨⟨fun _ h => (List.not_mem_nil h).elim, List.Pairwise.nil⟩, fun _ => Iff.rfl⟩
theorem spans_put {n : Nat} {rows : List (Vec F)} {L M : List (Lead F)} {r : Vec F} (h : Spans n rows L) (hr : r.length = n) (p : (putL L r).Perm M) : Spans n (rows ++ [r]) M := by
  obtain ⟨h1, h2⟩ := putL_ok h.1 hr
  refine ⟨h1.perm p, fun x => ?_⟩
  have e : Nul (M.map (·.2)) x ↔ Nul ((putL L r).map (·.2)) x := by
    constructor
    · intro h y hy
      exact h y ((p.map _).mem_iff.mp hy)
    · intro h y hy
      exact h y ((p.map _).mem_iff.mpr hy)
  rw [e, h2 x, h.2 x]
  constructor
  · rintro ⟨a, b⟩ y hy
    rcases List.mem_append.mp hy with hy | hy
    · exact a y hy
    · have : y = r := by simpa using hy
      rw [this]; exact b
  · intro a
    exact ⟨fun y hy => a y (List.mem_append_left _ hy), a r (by simp)⟩
theorem spans_len {n : Nat} {rows : List (Vec F)} {L : List (Lead F)} (h : Spans n rows L) : card F ^ L.length * (nul n rows).length = card F ^ n := by
  have e := nul_ech h.1.ech
  rw [List.length_map, nul_cong fun x _ => h.2 x] at e
  exact e
end
end KM
namespace KM
open Fl
section
variable {F : Type} [Fl F]

/-! ### mixes, checks -/
def mix : Vec F → List (Vec F) → Vec F → Vec F
  | acc, w :: ws, c :: h => mix (vadd acc (smul c w)) ws h
  | acc, _, _ => acc
def chk (ws : List (Vec F)) (k : Vec F) : Vec F := (ws.map fun w => -(dot w k)) ++ k
def unit (n i : Nat) : Vec F := zv i ++ [1] ++ zv (n - i - 1)
def lotOf (ws : List (Vec F)) : List (Vec F) := (List.range ws.length).map fun i => unit ws.length i ++ ws.getD i []

theorem mix_len {n : Nat} : ∀ {ws : List (Vec F)} {acc h : Vec F}, acc.length = n → (∀ w ∈ ws, w.length = n) → (mix acc ws h).length = n
  | [], acc, h, ha, _ => by cases h <;> exact ha
  | w :: ws, acc, [], ha, _ => ha
  | w :: ws, acc, c :: h, ha, hw => by
    have e : acc.length = (smul c w).length := by rw [smul_len, ha, hw w List.mem_cons_self]
    exact mix_len (ws := ws) (acc := vadd acc (smul c w)) (h := h) (by rw [vadd_len e]; exact ha) fun v hv => hw v (List.mem_cons_of_mem _ hv)
theorem dot_mix {n : Nat} {y : Vec F} : ∀ {ws : List (Vec F)} {acc h : Vec F}, acc.length = n → (∀ w ∈ ws, w.length = n) → dot (mix acc ws h) y = dot acc y + dot h (ws.map (dot · y))
  | [], acc, h, _, _ => by
    show dot (mix acc [] h) y = dot acc y + dot h []
    rw [dot_nil, addz]
    cases h <;> rfl
  | w :: ws, acc, [], _, _ => by
    show dot acc y = dot acc y + 0
    rw [addz]
  | w :: ws, acc, c :: h, ha, hw => by
    have e : acc.length = (smul c w).length := by rw [smul_len, ha, hw w List.mem_cons_self]
    have ih := dot_mix (y := y) (ws := ws) (acc := vadd acc (smul c w)) (h := h) (by rw [vadd_len e]; exact ha) fun v hv => hw v (List.mem_cons_of_mem _ hv)
    show dot (mix (vadd acc (smul c w)) ws h) y = dot acc y + (c * dot w y + dot h (ws.map (dot · y)))
    rw [ih, dot_vadd e, dot_smul, addA]
theorem zdot (n : Nat) (y : Vec F) : dot (zv n) y = 0 := dot_zv n y

theorem vneg_dot (x y : Vec F) : dot x (vneg y) = -(dot x y) := by rw [dotC, dot_vneg, dotC]
theorem dot_chk {ws : List (Vec F)} {k h body : Vec F} (hl : h.length = ws.length) : dot (chk ws k) (h ++ body) = -(dot h (ws.map (dot · k))) + dot k body := by
  unfold chk
  rw [dot_app (by rw [List.length_map, hl])]
  have e : (ws.map fun w => -(dot w k)) = vneg (ws.map (dot · k)) := by simp [vneg]
  rw [e, dot_vneg, dotC]
theorem chk_len {ws : List (Vec F)} {k : Vec F} : (chk ws k).length = ws.length + k.length := by simp [chk]

theorem vadd_can : ∀ {x y m : Vec F}, x.length = m.length → y.length = m.length → vadd x m = vadd y m → x = y
  | [], [], _, _, _, _ => rfl
  | [], _ :: _, _, hx, hy, _ => absurd (hx.trans hy.symm) (by simp)
  | _ :: _, [], _, hx, hy, _ => absurd (hx.trans hy.symm) (by simp)
  | a :: x, b :: y, c :: m, hx, hy, h => by
    have h : (a + c) :: vadd x m = (b + c) :: vadd y m := h
    injection h with h1 h2
    rw [addC a, addC b] at h1
    rw [add_can h1, vadd_can (Nat.succ.inj hx) (Nat.succ.inj hy) h2]
theorem vsub_can : ∀ {x y m : Vec F}, x.length = m.length → y.length = m.length → vsub x m = vsub y m → x = y := fun {x y m} hx hy h => by
  rw [vsub_eq, vsub_eq] at h
  exact vadd_can (by rw [vneg_len]; exact hx) (by rw [vneg_len]; exact hy) h

section shear
variable {t b : Nat} {ws keys : List (Vec F)} (ht : ws.length = t) (hw : ∀ w ∈ ws, w.length = b) (hk : ∀ k ∈ keys, k.length = b)
include ht hw hk
theorem shear_le : (vecs t : List (Vec F)).length * (nul b keys).length ≤ (nul (t + b) (keys.map (chk ws))).length := by
  have := card_le (l := pairs (vecs t : List (Vec F)) (nul b keys)) (m := nul (t + b) (keys.map (chk ws))) (fun z => z.1 ++ vadd z.2 (mix (zv b) ws z.1)) (nodup_pairs (nodup_vecs t) (nodup_nul _ _)) (fun ⟨h, v⟩ hz => ?_) fun ⟨h, v⟩ hz ⟨h', v'⟩ hz' e => ?_
  · rw [len_pairs] at this
    exact this
  · obtain ⟨h1, h2⟩ := mem_pairs.mp hz
    have h1 := mem_vecs.mp h1
    obtain ⟨h2, h3⟩ := mem_nul.mp h2
    have hm : (mix (zv b) ws h).length = b := mix_len (zv_len b) hw
    refine mem_nul.mpr ⟨?_, fun r hr => ?_⟩
    · show (h ++ vadd v (mix (zv b) ws h)).length = t + b
      rw [List.length_append, vadd_len (by rw [hm, h2]), h1, h2]
    · obtain ⟨k, hk', rfl⟩ := List.mem_map.mp hr
      show dot (chk ws k) (h ++ vadd v (mix (zv b) ws h)) = 0
      rw [dot_chk (by rw [h1, ht]), dotC k, dot_vadd (by rw [hm, h2]), dot_mix (zv_len b) hw, zdot, zadd, addC (dot v k), ← addA, nadd, zadd, dotC]
      exact h3 k hk'
  · obtain ⟨h1, h2⟩ := mem_pairs.mp hz
    obtain ⟨h1', h2'⟩ := mem_pairs.mp hz'
    have h1 := mem_vecs.mp h1
    have h1' := mem_vecs.mp h1'
    obtain ⟨h2, _⟩ := mem_nul.mp h2
    obtain ⟨h2', _⟩ := mem_nul.mp h2'
    have e : h ++ vadd v (mix (zv b) ws h) = h' ++ vadd v' (mix (zv b) ws h') := e
    obtain ⟨e1, e2⟩ := List.append_inj e (by rw [h1, h1'])
    subst e1
    have hm : (mix (zv b) ws h).length = b := mix_len (zv_len b) hw
    rw [vadd_can (by rw [hm, h2]) (by rw [hm, h2']) e2]
theorem shear_ge : (nul (t + b) (keys.map (chk ws))).length ≤ (vecs t : List (Vec F)).length * (nul b keys).length := by
  have := card_le (l := nul (t + b) (keys.map (chk ws))) (m := pairs (vecs t : List (Vec F)) (nul b keys)) (fun z => (z.take t, vsub (z.drop t) (mix (zv b) ws (z.take t)))) (nodup_nul _ _) (fun z hz => ?_) fun z hz z' hz' e => ?_
  · rw [len_pairs] at this
    exact this
  · obtain ⟨h1, h2⟩ := mem_nul.mp hz
    have hm : (mix (zv b) ws (z.take t)).length = b := mix_len (zv_len b) hw
    have hd : (z.drop t).length = b := by rw [List.length_drop, h1]; omega
    have htk : (z.take t).length = t := by rw [List.length_take, h1]; omega
    refine mem_pairs.mpr ⟨mem_vecs.mpr htk, mem_nul.mpr ⟨by rw [vsub_len (by rw [hm, hd])]; exact hd, fun k hk' => ?_⟩⟩
    have e := h2 _ (List.mem_map_of_mem hk')
    rw [← List.take_append_drop t z, dot_chk (by rw [htk, ht])] at e
    rw [dotC, dot_vsub (by rw [hm, hd]), dot_mix (zv_len b) hw, zdot, zadd, addC, dotC (z.drop t)]
    exact e
  · obtain ⟨h1, _⟩ := mem_nul.mp hz
    obtain ⟨h1', _⟩ := mem_nul.mp hz'
    have e1 : z.take t = z'.take t := (Prod.mk.inj e).1
    have e2 : vsub (z.drop t) (mix (zv b) ws (z.take t)) = vsub (z'.drop t) (mix (zv b) ws (z'.take t)) := (Prod.mk.inj e).2
    rw [← e1] at e2
    have hm : (mix (zv b) ws (z.take t)).length = b := mix_len (zv_len b) hw
    have e3 : z.drop t = z'.drop t := vsub_can (by rw [hm, List.length_drop, h1]; omega) (by rw [hm, List.length_drop, h1']; omega) e2
    rw [← List.take_append_drop t z, ← List.take_append_drop t z', e1, e3]
theorem shear : (nul (t + b) (keys.map (chk ws))).length = card F ^ t * (nul b keys).length := by
  rw [← len_vecs t]
  exact Nat.le_antisymm (shear_ge ht hw hk) (shear_le ht hw hk)
/-- as many are let as the room tells -/
theorem let_len : card F ^ lrank keys * (nul (t + b) (keys.map (chk ws))).length = card F ^ (t + b) := by
  rw [shear ht hw hk, ← Nat.mul_assoc, Nat.mul_comm (card F ^ lrank keys), Nat.mul_assoc, lrank_nul hk, Nat.pow_add]
theorem let_room : (nul (t + b) (keys.map (chk ws))).length = card F ^ (t + b - lrank keys) := by
  have h1 := let_len ht hw hk
  have h2 := lrank_le hk
  have h3 : card F ^ (t + b) = card F ^ lrank keys * card F ^ (t + b - lrank keys) := by
    rw [← Nat.pow_add]
    congr 1
    omega
  rw [h3] at h1
  exact Nat.eq_of_mul_eq_mul_left (Nat.pow_pos (Nat.lt_of_lt_of_le Nat.zero_lt_two card_two)) h1
/-- the program's count is the law's -/
theorem room_len {L : List (Lead F)} (h : Spans (t + b) (keys.map (chk ws)) L) : L.length = lrank keys := by
  have h1 := let_len ht hw hk
  have h2 := spans_len h
  rw [← h2] at h1
  exact (pow_inj (Nat.eq_of_mul_eq_mul_right (nul_pos _ _) h1)).symm
end shear

theorem unit_len {n i : Nat} (h : i < n) : (unit n i : Vec F).length = n := by
  simp [unit, zv]
  omega
theorem unit_dot : ∀ {n i : Nat} {y : Vec F}, i < n → y.length = n → dot (unit n i) y = at_ y i
  | 0, _, _, h, _ => absurd h (Nat.not_lt_zero _)
  | n + 1, 0, b :: y, _, hy => by
    show (1 : F) * b + dot (zv (n + 1 - 0 - 1)) y = b
    rw [zdot, addz, omul]
  | n + 1, i + 1, b :: y, h, hy => by
    have ih := unit_dot (n := n) (i := i) (y := y) (Nat.lt_of_succ_lt_succ h) (Nat.succ.inj hy)
    have e : (unit (n + 1) (i + 1) : Vec F) = 0 :: unit n i := by
      unfold unit
      have : n + 1 - (i + 1) - 1 = n - i - 1 := by omega
      rw [this]
      rfl
    rw [e]
    show 0 * b + dot (unit n i) y = at_ y i
    rw [ih, zmul, zadd]
theorem lot_len {b : Nat} {ws : List (Vec F)} (hw : ∀ w ∈ ws, w.length = b) : ∀ g ∈ lotOf ws, g.length = ws.length + b := fun g hg => by
  unfold lotOf at hg
  obtain ⟨i, hi, rfl⟩ := List.mem_map.mp hg
  have hi := List.mem_range.mp hi
  rw [List.length_append, unit_len hi, List.getD_eq_getElem?_getD, List.getElem?_eq_getElem hi]
  show ws.length + (ws[i]).length = _
  rw [hw _ (List.getElem_mem hi)]
theorem lot_dot {b : Nat} {ws : List (Vec F)} {y1 y2 : Vec F} (hw : ∀ w ∈ ws, w.length = b) (h1 : y1.length = ws.length) : (lotOf ws).map (dot · (y1 ++ y2)) = vadd y1 (ws.map (dot · y2)) := by
  refine List.ext_getElem? fun i => ?_
  unfold lotOf
  rw [List.map_map]
  have vg : ∀ {x y : Vec F} {i : Nat}, (vadd x y)[i]? = match x[i]?, y[i]? with | some a, some b => some (a + b) | _, _ => none := by
    intro x
    induction x with
    | nil => intro y i; cases y <;> simp [vadd]
    | cons a x ih =>
      intro y i
      cases y with
      | nil => cases i <;> simp [vadd]
      | cons c y =>
        cases i with
        | zero => rfl
        | succ i => exact ih (y := y) (i := i)
  rw [vg]
  by_cases hi : i < ws.length
  · have hy : y1[i]? = some (at_ y1 i) := by
      unfold at_
      rw [List.getD_eq_getElem?_getD, List.getElem?_eq_getElem (by rw [h1]; exact hi)]
      rfl
    rw [List.getElem?_map, List.getElem?_range hi, List.getElem?_map, List.getElem?_eq_getElem hi, hy]
    show some (dot (unit ws.length i ++ ws.getD i []) (y1 ++ y2)) = some (at_ y1 i + dot ws[i] y2)
    rw [List.getD_eq_getElem?_getD, List.getElem?_eq_getElem hi, dot_app (by rw [unit_len hi, h1]), unit_dot hi h1]
    rfl
  · rw [List.getElem?_eq_none (by simp; omega), List.getElem?_eq_none (l := y1) (by omega)]
theorem dot_vaddR {x y z : Vec F} (h : y.length = z.length) : dot x (vadd y z) = dot x y + dot x z := by
  rw [dotC, dot_vadd h, dotC y, dotC z]
/-- with keys of full rank just the mixes pass: the law's own words -/
theorem full_in {t b : Nat} {ws keys : List (Vec F)} {z : Vec F} (ht : ws.length = t) (hw : ∀ w ∈ ws, w.length = b) (hk : ∀ k ∈ keys, k.length = b) (hf : lrank keys = b) (hz : z.length = t + b) (hn : Nul (keys.map (chk ws)) z) :
    lrank (lotOf ws ++ [z]) = lrank (lotOf ws) := by
  have hm : (mix (zv b) ws (z.take t)).length = b := mix_len (zv_len b) hw
  have hd : (z.drop t).length = b := by rw [List.length_drop, hz]; omega
  have htk : (z.take t).length = t := by rw [List.length_take, hz]; omega
  have one : (nul b keys).length = 1 := by
    have h1 := lrank_nul hk
    rw [hf] at h1
    have hp : 0 < card F ^ b := Nat.pow_pos (Nat.lt_of_lt_of_le Nat.zero_lt_two card_two)
    exact Nat.eq_of_mul_eq_mul_left hp (by rw [h1, Nat.mul_one])
  have body : z.drop t = mix (zv b) ws (z.take t) := by
    have m1 : vsub (z.drop t) (mix (zv b) ws (z.take t)) ∈ nul b keys := by
      refine mem_nul.mpr ⟨by rw [vsub_len (by rw [hm, hd])]; exact hd, fun k hk' => ?_⟩
      have e := hn _ (List.mem_map_of_mem hk')
      rw [← List.take_append_drop t z, dot_chk (by rw [htk, ht])] at e
      rw [dotC, dot_vsub (by rw [hm, hd]), dot_mix (zv_len b) hw, zdot, zadd, addC, dotC (z.drop t)]
      exact e
    have m2 : (zv b : Vec F) ∈ nul b keys := mem_nul.mpr ⟨zv_len b, fun r _ => by rw [dotC, zdot]⟩
    obtain ⟨q, hq⟩ := List.length_eq_one_iff.mp one
    rw [hq] at m1 m2
    have e1 : vsub (z.drop t) (mix (zv b) ws (z.take t)) = q := by simpa using m1
    have e2 : (zv b : Vec F) = q := by simpa using m2
    have e3 : vsub (mix (zv b) ws (z.take t)) (mix (zv b) ws (z.take t)) = zv b := by
      have : ∀ (x : Vec F), vsub x x = zv x.length := by
        intro x
        induction x with
        | nil => rfl
        | cons a x ih => show (a + -a) :: vsub x x = 0 :: zv x.length; rw [ih, addn]
      rw [this, hm]
    exact vsub_can (by rw [hm, hd]) rfl (by rw [e1, ← e2, e3])
  have hlot : ∀ g ∈ lotOf ws, g.length = t + b := fun g hg => by rw [lot_len hw g hg, ht]
  refine lrank_one (n := t + b) (fun g hg => ?_) hlot fun y hy => ⟨fun h r hr => h r (List.mem_append_left _ hr), fun h r hr => ?_⟩
  · rcases List.mem_append.mp hg with hg | hg
    · exact hlot g hg
    · have : g = z := by simpa using hg
      rw [this]; exact hz
  · rcases List.mem_append.mp hr with hr | hr
    · exact h r hr
    · have : r = z := by simpa using hr
      rw [this]
      have y1 : (y.take t).length = ws.length := by rw [List.length_take, hy, ht]; omega
      have yl : (y.take t).length = (ws.map (dot · (y.drop t))).length := by rw [List.length_map]; exact y1
      have e0 : (lotOf ws).map (dot · y) = vadd (y.take t) (ws.map (dot · (y.drop t))) := by
        rw [← lot_dot hw y1, List.take_append_drop]
      have e1 : dot (z.take t) ((lotOf ws).map (dot · y)) = 0 := by
        have : (lotOf ws).map (dot · y) = zv (lotOf ws).length := by
          refine List.ext_getElem? fun i => ?_
          unfold zv
          by_cases hi : i < (lotOf ws).length
          · rw [List.getElem?_map, List.getElem?_eq_getElem hi, List.getElem?_replicate_of_lt hi]
            show some (dot (lotOf ws)[i] y) = some 0
            rw [h _ (List.getElem_mem hi)]
          · rw [List.getElem?_eq_none (by simp; omega), List.getElem?_eq_none (by simp; omega)]
        rw [this, dotC, zdot]
      rw [e0, dot_vaddR yl] at e1
      rw [← List.take_append_drop t z, ← List.take_append_drop t y, dot_app (by rw [htk, y1, ht]), body, dot_mix (zv_len b) hw, zdot, zadd]
      exact e1
/-- a mix passes -/
theorem mix_pass {t b : Nat} {ws keys : List (Vec F)} {sh : Vec F} (ht : ws.length = t) (hw : ∀ w ∈ ws, w.length = b) (hk : ∀ k ∈ keys, k.length = b) : Nul (keys.map (chk ws)) (mix (zv (t + b)) (lotOf ws) sh) := fun r hr => by
  obtain ⟨k, hk', rfl⟩ := List.mem_map.mp hr
  rw [dotC, dot_mix (zv_len (t + b)) fun g hg => by rw [lot_len hw g hg, ht]]
  have e1 : (ws.map fun w => -(dot w k)).length = ws.length := by simp
  have e : (lotOf ws).map (dot · (chk ws k)) = zv ws.length := by
    unfold chk
    rw [lot_dot hw e1]
    have : ∀ l : List (Vec F), vadd (l.map fun w => -(dot w k)) (l.map (dot · k)) = zv l.length := by
      intro l
      induction l with
      | nil => rfl
      | cons w l ih => show (-(dot w k) + dot w k) :: vadd _ _ = 0 :: zv l.length; rw [ih, nadd]
    exact this ws
  rw [e, zdot, zadd, dotC, zdot]
end
end KM
/-! ## MathL -/
set_option Elab.async false
set_option linter.all false
set_option maxRecDepth 100000
set_option maxHeartbeats 1000000
/-! the program's rows of whole numbers are rows over a field -/
namespace KM
open Fl J
structure Emb (q : Nat) (F : Type) [Fl F] where
  e : F → Int
  inj : ∀ {a b}, e a = e b → a = b
  rng : ∀ a, 0 ≤ e a ∧ e a < q
  sur : ∀ i : Int, 0 ≤ i → i < q → ∃ a, e a = i
  add : ∀ a b, addI q (e a) (e b) 1 = e (a + b)
  sub : ∀ a b, addI q (e a) (e b) (-1) = e (a + -b)
  mul : ∀ a b, mulI q (e a) (e b) = e (a * b)
  zero : e 0 = 0
  one : e 1 = 1
  all : (els : List F).map e = (List.range q).map fun k : Nat => (k : Int)
section
variable {q : Nat} {F : Type} [Fl F] (E : Emb q F)
abbrev Emb.m (x : Vec F) : List Int := x.map E.e
theorem Emb.m_in (x : Vec F) : In q (E.m x) := fun i hi => by
  obtain ⟨a, _, rfl⟩ := List.mem_map.mp hi
  exact E.rng a
theorem Emb.m_sur : ∀ {l : List Int}, In q l → ∃ x : Vec F, E.m x = l
  | [], _ => ⟨[], rfl⟩
  | i :: l, h => by
    obtain ⟨x, hx⟩ := Emb.m_sur (l := l) fun j hj => h j (List.mem_cons_of_mem _ hj)
    obtain ⟨a, ha⟩ := E.sur i (h i List.mem_cons_self).1 (h i List.mem_cons_self).2
    exact ⟨a :: x, by show E.e a :: E.m x = _; rw [ha, hx]⟩
theorem Emb.rows_sur {n : Nat} : ∀ {L : List (List Int)}, RowsOk q n L → ∃ X : List (Vec F), X.map E.m = L ∧ ∀ x ∈ X, x.length = n
  | [], _ => ⟨[], rfl, fun x hx => (List.not_mem_nil hx).elim⟩
  | l :: L, h => by
    obtain ⟨X, h1, h2⟩ := Emb.rows_sur (L := L) fun r hr => h r (List.mem_cons_of_mem _ hr)
    obtain ⟨x, hx⟩ := E.m_sur (h l List.mem_cons_self).1
    refine ⟨x :: X, by rw [List.map_cons, hx, h1], fun y hy => ?_⟩
    rcases List.mem_cons.mp hy with rfl | hy
    · have := (h l List.mem_cons_self).2
      rw [← hx] at this
      simpa using this
    · exact h2 y hy
theorem Emb.m_inj : ∀ {x y : Vec F}, E.m x = E.m y → x = y
  | [], [], _ => rfl
  | [], _ :: _, h => by cases h
  | _ :: _, [], h => by cases h
  | a :: x, b :: y, h => by
    have h1 := E.inj (List.cons.inj h).1
    have h2 := Emb.m_inj (List.cons.inj h).2
    rw [h1, h2]
theorem Emb.z_iff {a : F} : E.e a = 0 ↔ a = 0 := ⟨fun h => E.inj (h.trans E.zero.symm), fun h => by rw [h, E.zero]⟩
theorem Emb.getD (x : Vec F) (p : Nat) : (E.m x).getD p 0 = E.e (at_ x p) := by
  unfold at_
  rw [List.getD_eq_getElem?_getD, List.getD_eq_getElem?_getD, List.getElem?_map]
  cases x[p]? with
  | none => exact E.zero.symm
  | some a => rfl
theorem Emb.join : ∀ x y : Vec F, joinI q (E.m x) (E.m y) 1 = E.m (vadd x y)
  | [], _ => rfl
  | _ :: _, [] => rfl
  | a :: x, b :: y => by
    show addI q (E.e a) (E.e b) 1 :: joinI q (E.m x) (E.m y) 1 = _
    rw [E.add, Emb.join x y]
    rfl
theorem Emb.joinS : ∀ x y : Vec F, joinI q (E.m x) (E.m y) (-1) = E.m (vsub x y)
  | [], _ => rfl
  | _ :: _, [] => rfl
  | a :: x, b :: y => by
    show addI q (E.e a) (E.e b) (-1) :: joinI q (E.m x) (E.m y) (-1) = _
    rw [E.sub, Emb.joinS x y]
    rfl
theorem Emb.scale (x : Vec F) (c : F) : scaleI q (E.m x) (E.e c) = E.m (smul c x) := by
  unfold scaleI smul
  show (x.map E.e).map (fun x => mulI q x (E.e c)) = (x.map (· * c)).map E.e
  rw [List.map_map, List.map_map]
  exact List.map_congr_left fun a _ => E.mul a c
theorem Emb.along (x y : Vec F) : alongI q (E.m x) (E.m y) = E.e (dot x y) := by
  have key : ∀ (x y : Vec F) (acc : F), ((E.m x).zip (E.m y)).foldl (fun acc p => addI q acc (mulI q p.1 p.2) 1) (E.e acc) = E.e (acc + dot x y) := by
    intro x
    induction x with
    | nil => intro y acc; show E.e acc = E.e (acc + 0); rw [addz]
    | cons a x ih =>
      intro y acc
      cases y with
      | nil => show E.e acc = E.e (acc + 0); rw [addz]
      | cons b y =>
        show ((E.m x).zip (E.m y)).foldl _ (addI q (E.e acc) (mulI q (E.e a) (E.e b)) 1) = E.e (acc + (a * b + dot x y))
        rw [E.mul, E.add, ih, addA]
  have h := key x y 0
  rw [E.zero, zadd] at h
  exact h
theorem Emb.piv (x : Vec F) : pivI (E.m x) = KM.piv x := by
  unfold pivI KM.piv pivs
  rw [List.length_map]
  congr 1
  refine List.filter_congr fun k _ => ?_
  rw [E.getD]
  by_cases h : at_ x k = 0
  · rw [decide_eq_true h, decide_eq_true (E.z_iff.mpr h)]
  · rw [decide_eq_false h, decide_eq_false fun z => h (E.z_iff.mp z)]
theorem nzI_piv {l : List Int} : nzI l = (pivI l).isSome := by
  cases h : nzI l with
  | true =>
    obtain ⟨p, m, _, h2, _⟩ := piv_nz h
    rw [h2]; rfl
  | false =>
    cases h2 : pivI l with
    | none => rfl
    | some p =>
      unfold pivI at h2
      have hm : p ∈ (List.range l.length).filter fun k => !decide (l.getD k 0 = 0) := by
        cases hc : (List.range l.length).filter fun k => !decide (l.getD k 0 = 0) with
        | nil => rw [hc] at h2; cases h2
        | cons a m => rw [hc] at h2; cases h2; exact List.mem_cons_self
      obtain ⟨h3, h4⟩ := List.mem_filter.mp hm
      have h3 := List.mem_range.mp h3
      have h5 : nzI l = true := List.any_eq_true.mpr ⟨l[p], List.getElem_mem h3, by
        rw [List.getD_eq_getElem?_getD, List.getElem?_eq_getElem h3] at h4
        simpa using h4⟩
      rw [h] at h5; cases h5
theorem nz_piv {x : Vec F} : nz x = (KM.piv x).isSome := by
  unfold nz KM.piv
  cases pivs x <;> rfl
theorem Emb.nzz (x : Vec F) : nzI (E.m x) = nz x := by rw [nzI_piv, nz_piv, E.piv]
theorem Emb.inv (hq : q ∈ sizes) {a : F} (ha : a ≠ 0) : invI q (E.e a) = E.e (Fl.inv a) := by
  have h0 := E.rng a
  have h1 : E.e a ≠ 0 := fun z => ha (E.z_iff.mp z)
  obtain ⟨r, hr⟩ := inv_at hq (a := E.e a) ⟨by omega, h0.2⟩
  have hm : r ∈ (List.range (q - 1)).filter fun k => decide (mulI q (E.e a) (1 + (k : Nat)) = 1) := by
    cases hc : (List.range (q - 1)).filter fun k => decide (mulI q (E.e a) (1 + (k : Nat)) = 1) with
    | nil => rw [hc] at hr; cases hr
    | cons x m => rw [hc] at hr; cases hr; exact List.mem_cons_self
  obtain ⟨h2, h3⟩ := List.mem_filter.mp hm
  have h2 := List.mem_range.mp h2
  have h3 := of_decide_eq_true h3
  obtain ⟨b, hb⟩ := E.sur (1 + (r : Nat)) (by omega) (by omega)
  have e1 : invI q (E.e a) = E.e b := by
    unfold invI
    rw [hr, hb]
  rw [e1]
  rw [← hb, E.mul, ← E.one] at h3
  have h4 := E.inj h3
  have h5 : Fl.inv a * (a * b) = Fl.inv a := by rw [h4, mulo]
  rw [← mulA, imul a ha, omul] at h5
  rw [h5]
theorem Emb.neg (b : F) : addI q 0 (E.e b) (-1) = E.e (-b) := by
  have h := E.sub 0 b
  rw [E.zero, zadd] at h
  exact h
theorem Emb.clr (f g : Vec F) (p : Nat) : clrI q (E.m f) p (E.m g) = E.m (clear f p g) := by
  unfold clrI clear
  rw [E.getD, E.neg, E.scale, E.join]
theorem Emb.fst (hq : q ∈ sizes) {f : Vec F} {p : Nat} (h : at_ f p ≠ 0) : fstI q (E.m f) p = E.m (smul (Fl.inv (at_ f p)) f) := by
  unfold fstI
  rw [E.getD, E.inv hq h, E.scale]
/-! ### solving -/
def itS (q : Nat) : Nat → List (List Int) × List (List Int) → List (List Int) × List (List Int)
  | 0, s => s
  | k + 1, s => itS q k (solS q s)
theorem itS_succ (q : Nat) : ∀ (k : Nat) (s : List (List Int) × List (List Int)), itS q (k + 1) s = solS q (itS q k s)
  | 0, _ => rfl
  | k + 1, s => itS_succ q k (solS q s)
theorem solK_it {q : Nat} {L : List (List Int)} : ∀ k, solK q L k = itS q k ([], L.filter nzI)
  | 0 => rfl
  | k + 1 => by rw [itS_succ, ← solK_it k]; rfl
theorem itS_nil {q : Nat} : ∀ (k : Nat) (A : List (List Int)), itS q k (A, []) = (A, [])
  | 0, _ => rfl
  | k + 1, A => itS_nil k A
theorem Emb.solve (hq : q ∈ sizes) : ∀ (k : Nat) (A : List (List Int)) (X : List (Vec F)), (∀ x ∈ X, nz x = true) → (itS q k (A, X.map E.m)).1 = A ++ (KM.solve k X).map E.m
  | 0, A, X, _ => by simp [itS, KM.solve]
  | k + 1, A, [], _ => by
    show (itS q k (A, [])).1 = _
    rw [itS_nil]
    simp [KM.solve]
  | k + 1, A, f :: X, h => by
    have hf := h f List.mem_cons_self
    obtain ⟨p, hp⟩ := nz_true hf
    have hp0 := (piv_some hp).2
    have hpI : pivI (E.m f) = some p := by rw [E.piv, hp]
    have e1 : solS q (A, (f :: X).map E.m) = (A ++ [fstI q (E.m f) p], ((X.map E.m).map (clrI q (fstI q (E.m f) p) p)).filter nzI) := by
      unfold solS
      rw [List.map_cons]
      dsimp only
      rw [hpI]
    have e2 : ((X.map E.m).map (clrI q (fstI q (E.m f) p) p)).filter nzI = ((X.map (clear (smul (Fl.inv (at_ f p)) f) p)).filter nz).map E.m := by
      rw [E.fst hq hp0, List.map_map]
      have e3 : (X.map (clrI q (E.m (smul (Fl.inv (at_ f p)) f)) p ∘ E.m)) = (X.map (clear (smul (Fl.inv (at_ f p)) f) p)).map E.m := by
        rw [List.map_map]
        exact List.map_congr_left fun g _ => E.clr _ g p
      rw [e3, List.filter_map]
      congr 1
      exact List.filter_congr fun g _ => E.nzz g
    show (itS q k (solS q (A, (f :: X).map E.m))).1 = _
    rw [e1, e2, Emb.solve hq k _ _ (fun x hx => (List.mem_filter.mp hx).2), E.fst hq hp0]
    have e4 : KM.solve (k + 1) (f :: X) = smul (Fl.inv (at_ f p)) f :: KM.solve k ((X.map (clear (smul (Fl.inv (at_ f p)) f) p)).filter nz) := by
      rw [KM.solve, hp]
    rw [e4, List.append_assoc]
    rfl
theorem Emb.rank (hq : q ∈ sizes) (X : List (Vec F)) : rankI q (X.map E.m) = lrank X := by
  unfold rankI solvedI lrank
  rw [solK_it]
  have e1 : (X.map E.m).filter nzI = (X.filter nz).map E.m := by
    rw [List.filter_map]
    congr 1
    exact List.filter_congr fun g _ => E.nzz g
  rw [e1, E.solve hq _ _ _ (fun x hx => (List.mem_filter.mp hx).2), List.length_map]
  simp
/-! ### the program's span -/
theorem fstN_piv (l : List Int) : fstN l = pivI l := by
  have key : ∀ (l : List Int) (n : Nat), (((l.zipIdx n).filter fun p => !decide (p.1 = 0)).head?).map (·.2) = (((List.range l.length).filter fun k => !decide (l.getD k 0 = 0)).head?).map (· + n) := by
    intro l
    induction l with
    | nil => intro n; rfl
    | cons a l ih =>
      intro n
      rw [List.zipIdx_cons, List.length_cons, List.range_succ_eq_map, List.filter_cons, List.filter_cons]
      by_cases h : a = 0
      · subst h
        simp only [decide_true, Bool.not_true, List.getD_cons_zero, Bool.false_eq_true, if_false]
        rw [ih (n + 1), List.filter_map]
        have e : ((fun k => !decide ((0 :: l).getD k 0 = 0)) ∘ Nat.succ) = fun k => !decide (l.getD k 0 = 0) := by
          funext k
          simp
        rw [e, List.head?_map, Option.map_map]
        congr 1
        funext k
        simp; omega
      · simp [h]
  have h := key l 0
  unfold fstN pivI
  rw [h]
  cases (((List.range l.length).filter fun k => !decide (l.getD k 0 = 0)).head?) <;> rfl
abbrev ky (e : Ld) : Nat × List Int := (e.1, e.2.1)
abbrev Emb.kf (e : Lead F) : Nat × List Int := (e.1, E.m e.2)
theorem Emb.low : ∀ {L : List Ld} {M : List (Lead F)} (st : List Int × List Int) (r : Vec F), L.map ky = M.map E.kf → st.1 = E.m r → (L.foldl (lowStepI q) st).1 = E.m (KM.low M r)
  | [], [], st, r, _, h => h
  | [], _ :: _, _, _, h, _ => by cases h
  | _ :: _, [], _, _, h, _ => by cases h
  | e :: L, d :: M, st, r, h, hs => by
    have h1 := (List.cons.inj h).1
    have h2 := (List.cons.inj h).2
    have e1 : e.1 = d.1 := congrArg Prod.fst h1
    have e2 : e.2.1 = E.m d.2 := congrArg Prod.snd h1
    have hst : (lowStepI q st e).1 = E.m (lowS r d) := by
      unfold lowStepI lowS
      rw [hs, e1, E.getD]
      by_cases hz : at_ r d.1 = 0
      · rw [if_pos (E.z_iff.mpr hz), if_pos hz]
        exact hs
      · rw [if_neg fun z => hz (E.z_iff.mp z), if_neg hz]
        show joinI q (E.m r) (scaleI q e.2.1 (E.e (at_ r d.1))) (-1) = _
        rw [e2, E.scale, E.joinS]
    exact Emb.low (lowStepI q st e) (lowS r d) h2 hst
theorem Emb.put (hq : q ∈ sizes) {L : List Ld} {M : List (Lead F)} {m : Nat} {r : Vec F} (h : L.map ky = M.map E.kf) : (putI q m L (E.m r)).1.map ky = (putL M r).map E.kf := by
  have hl : (lowI q m L (E.m r)).1 = E.m (KM.low M r) := E.low _ r h rfl
  unfold putI putLI putL
  rw [fstN_piv, hl, E.piv]
  cases hp : KM.piv (KM.low M r) with
  | none => exact h
  | some p =>
    have hp0 := (piv_some hp).2
    have e1 : scaleI q (E.m (KM.low M r)) (invI q ((E.m (KM.low M r)).getD p 0)) = E.m (smul (Fl.inv (at_ (KM.low M r) p)) (KM.low M r)) := by rw [E.getD, E.inv hq hp0, E.scale]
    show (p, scaleI q (E.m (KM.low M r)) (invI q ((E.m (KM.low M r)).getD p 0))) :: (L.map _).map ky = (p, E.m (smul (Fl.inv (at_ (KM.low M r) p)) (KM.low M r))) :: (M.map _).map E.kf
    rw [e1]
    congr 1
    rw [List.map_map, List.map_map]
    have key : ∀ {L : List Ld} {M : List (Lead F)} {fs : List Int}, L.map ky = M.map E.kf → L.map (ky ∘ redoI q p (E.m (smul (Fl.inv (at_ (KM.low M r) p)) (KM.low M r))) fs) = L.map (ky ∘ redoI q p (E.m (smul (Fl.inv (at_ (KM.low M r) p)) (KM.low M r))) fs) := fun _ => rfl
    generalize smul (Fl.inv (at_ (KM.low M r) p)) (KM.low M r) = f
    have step : ∀ (L : List Ld) (M : List (Lead F)) (fs : List Int), L.map ky = M.map E.kf → L.map (ky ∘ redoI q p (E.m f) fs) = M.map (E.kf ∘ redo p f) := by
      intro L
      induction L with
      | nil => intro M fs h; cases M with
        | nil => rfl
        | cons _ _ => cases h
      | cons e L ih =>
        intro M fs h
        cases M with
        | nil => cases h
        | cons d M =>
          have h1 := (List.cons.inj h).1
          have h2 := (List.cons.inj h).2
          have e1 : e.1 = d.1 := congrArg Prod.fst h1
          have e2 : e.2.1 = E.m d.2 := congrArg Prod.snd h1
          rw [List.map_cons, List.map_cons, ih M fs h2]
          congr 1
          show (e.1, joinI q e.2.1 (scaleI q (E.m f) (e.2.1.getD p 0)) (-1)) = (d.1, E.m (vsub d.2 (smul (at_ d.2 p) f)))
          rw [e1, e2, E.getD, E.scale, E.joinS]
    exact step L M _ h
theorem perm_map {α β : Type} {f : α → β} {l m : List β} (h : l.Perm m) : ∀ {l' : List α}, m = l'.map f → ∃ k : List α, k.Perm l' ∧ k.map f = l := by
  induction h with
  | nil => intro l' e; cases l' with
    | nil => exact ⟨[], .nil, rfl⟩
    | cons _ _ => cases e
  | cons x p ih =>
    intro l' e
    cases l' with
    | nil => cases e
    | cons a l' =>
      obtain ⟨k, h1, h2⟩ := ih (List.cons.inj e).2
      exact ⟨a :: k, h1.cons a, by rw [List.map_cons, h2, (List.cons.inj e).1]⟩
  | swap x y l =>
    intro l' e
    match l', e with
    | a :: b :: l', e =>
      have e1 := (List.cons.inj e).1
      have e2 := (List.cons.inj (List.cons.inj e).2).1
      have e3 := (List.cons.inj (List.cons.inj e).2).2
      exact ⟨b :: a :: l', List.Perm.swap _ _ _, by rw [List.map_cons, List.map_cons, ← e1, ← e2, ← e3]⟩
  | trans p1 p2 ih1 ih2 =>
    intro l' e
    obtain ⟨k, h1, h2⟩ := ih2 e
    obtain ⟨k2, h3, h4⟩ := ih1 h2.symm
    exact ⟨k2, h3.trans h1, h4⟩
theorem Emb.puts (hq : q ∈ sizes) {n : Nat} {rows : List (List Int)} {L : List Ld} {m : Nat} (h : PutsTo q rows L m) : ∀ {X : List (Vec F)}, rows = X.map E.m → (∀ x ∈ X, x.length = n) → ∃ M : List (Lead F), Spans n X M ∧ L.map ky = M.map E.kf := by
  induction h with
  | nil =>
    intro X e _
    cases X with
    | nil => exact ⟨[], spans_nil n, rfl⟩
    | cons _ _ => cases e
  | @snoc rows L m r M' hp perm ih =>
    intro X e hX
    have hne : X ≠ [] := fun z => by rw [z] at e; simp at e
    obtain ⟨X0, x, rfl⟩ : ∃ X0 x, X = X0 ++ [x] := ⟨X.dropLast, X.getLast hne, (List.dropLast_concat_getLast hne).symm⟩
    rw [List.map_append, List.map_singleton] at e
    obtain ⟨e1, e2⟩ := List.append_inj' e rfl
    have e2 : r = E.m x := (List.cons.inj e2).1
    obtain ⟨M, h1, h2⟩ := ih e1 fun y hy => hX y (List.mem_append_left _ hy)
    subst e2
    have h3 := E.put hq (m := m) (r := x) h2
    have h4 : (M'.map ky).Perm ((putI q m L (E.m x)).1.map ky) := perm.map ky
    obtain ⟨N, h5, h6⟩ := perm_map h4 h3
    exact ⟨N, spans_put h1 (hX x (by simp)) h5.symm, h6.symm⟩
/-! ### checks, lots, mixes -/
theorem Emb.chk (ws : List (Vec F)) (k : Vec F) : chkI q (ws.map E.m) (E.m k) = E.m (KM.chk ws k) := by
  unfold chkI KM.chk
  rw [List.map_map]
  show _ ++ _ = ((ws.map fun w => -(dot w k)) ++ k).map E.e
  rw [List.map_append, List.map_map]
  congr 1
  exact List.map_congr_left fun w _ => by
    show addI q 0 (alongI q (E.m w) (E.m k)) (-1) = E.e (-(dot w k))
    rw [E.along, E.neg]
theorem Emb.chks (ws keys : List (Vec F)) : (keys.map E.m).map (chkI q (ws.map E.m)) = (keys.map (KM.chk ws)).map E.m := by
  rw [List.map_map, List.map_map]
  exact List.map_congr_left fun k _ => E.chk ws k
theorem Emb.unit (i n : Nat) : unitI i n = E.m (KM.unit n i) := by
  unfold unitI KM.unit zv
  simp [Emb.m, List.map_append, List.map_replicate, E.zero, E.one]
theorem Emb.lot (ws : List (Vec F)) : lotI (ws.map E.m) ws.length = (lotOf ws).map E.m := by
  unfold lotI lotOf
  rw [List.map_map]
  refine List.map_congr_left fun i hi => ?_
  have hi := List.mem_range.mp hi
  show unitI i ws.length ++ (ws.map E.m).getD i [] = E.m (KM.unit ws.length i ++ ws.getD i [])
  rw [E.unit, Emb.m, Emb.m, List.map_append]
  congr 1
  rw [List.getD_eq_getElem?_getD, List.getD_eq_getElem?_getD, List.getElem?_map, List.getElem?_eq_getElem hi]
  rfl
theorem Emb.mix (n : Nat) (lot : List (Vec F)) (sh : Vec F) : blendI q (lot.map E.m) (E.m sh) n = E.m (KM.mix (zv n) lot sh) := by
  have key : ∀ (lot : List (Vec F)) (sh acc : Vec F), ((lot.map E.m).zip (E.m sh)).foldl (fun acc p => joinI q acc (scaleI q p.1 p.2) 1) (E.m acc) = E.m (KM.mix acc lot sh) := by
    intro lot
    induction lot with
    | nil => intro sh acc; cases sh <;> rfl
    | cons w lot ih =>
      intro sh acc
      cases sh with
      | nil => rfl
      | cons c sh =>
        show ((lot.map E.m).zip (E.m sh)).foldl _ (joinI q (E.m acc) (scaleI q (E.m w) (E.e c)) 1) = _
        rw [E.scale, E.join, ih]
        rfl
  have h := key lot sh (zv n)
  unfold blendI
  rw [← h]
  congr 1
  simp [zv, Emb.m, E.zero]
theorem Emb.lets (C : List (Vec F)) (x : Vec F) : letsI q (C.map E.m) (E.m x) = nulB C x := by
  unfold letsI nulB
  rw [List.all_map]
  refine congrArg (fun f => C.all f) (funext fun c => ?_)
  show decide (alongI q (E.m c) (E.m x) = 0) = (dot c x == 0)
  rw [E.along, Bool.eq_iff_iff, decide_eq_true_iff, beq_iff_eq]
  exact E.z_iff
theorem Emb.vecs : ∀ n : Nat, vecsI q n = (KM.vecs n : List (Vec F)).map E.m
  | 0 => rfl
  | n + 1 => by
    show (vecsI q n).flatMap (extI q) = ((KM.vecs n).flatMap fun v => els.map fun a => v ++ [a]).map E.m
    rw [Emb.vecs n, List.map_flatMap, List.flatMap_map]
    congr 1
    funext v
    show extI q (E.m v) = (els.map fun a => v ++ [a]).map E.m
    have h := congrArg (fun l : List Int => l.map fun i => E.m v ++ [i]) E.all
    rw [List.map_map, List.map_map] at h
    unfold extI
    rw [List.map_map]
    refine Eq.trans (Eq.trans ?_ h.symm) ?_
    · rfl
    · exact List.map_congr_left fun a _ => by show E.m v ++ [E.e a] = E.m (v ++ [a]); rw [Emb.m, Emb.m, List.map_append]; rfl
theorem Emb.card (E : Emb q F) : KM.card F = q := by
  have h := congrArg List.length E.all
  rw [List.length_map, List.length_map, List.length_range] at h
  exact h
/-- THE PLAIN LAW, for one field -/
theorem Emb.law (E : Emb q F) (hq : q ∈ sizes) {t b : Nat} {said keys : List (List Int)} (ht : 1 ≤ t ∧ t ≤ 2) (hb : 1 ≤ b ∧ b ≤ 3) (hl : said.length = t) (hs : RowsOk q b said) (hkl : keys.length ≤ 5) (hk : RowsOk q b keys) :
    RoomOk q t b said keys (keys.map (chkI q said)) ∧ ∀ s, In q s → s.length = t → letsI q (keys.map (chkI q said)) (blendI q (lotI said t) s (t + b)) = true := by
  have hdr : RowsOk q (t + b) (keys.map (chkI q said)) := fun r hr => by
    obtain ⟨k, hk', rfl⟩ := List.mem_map.mp hr
    have := chk_ok (t := t) hq hs (hk k hk')
    rwa [hl] at this
  obtain ⟨ws, rfl, hw⟩ := E.rows_sur hs
  obtain ⟨ks, rfl, hks⟩ := E.rows_sur hk
  have hwl : ws.length = t := by rw [List.length_map] at hl; exact hl
  have hlot : lotI (ws.map E.m) t = (lotOf ws).map E.m := by rw [← hwl]; exact E.lot ws
  have hrk := E.rank hq ks
  have hch := E.chks ws ks
  have hcl : ∀ x ∈ ks.map (KM.chk ws), x.length = t + b := fun x hx => by
    obtain ⟨k, hk', rfl⟩ := List.mem_map.mp hx
    rw [chk_len, hwl, hks k hk']
  refine ⟨⟨hq, ht, hb, hl, hs, hkl, hk, by rw [List.length_map]; exact hkl, hdr, by rw [hrk]; exact lrank_le hks, fun L m hp => ?_, fun hq4 => ?_, ?_⟩, fun s h1 h2 => ?_⟩
  · obtain ⟨M, h1, h2⟩ := E.puts hq hp hch hcl
    have h3 := room_len hwl hw hks h1
    have h4 := congrArg List.length h2
    rw [List.length_map, List.length_map] at h4
    rw [h4, h3, hrk]
  · rw [E.vecs, List.filter_map, List.length_map]
    have e : (KM.vecs (t + b)).filter (letsI q ((ks.map E.m).map (chkI q (ws.map E.m))) ∘ E.m) = nul (t + b) (ks.map (KM.chk ws)) := by
      unfold nul
      refine List.filter_congr fun x _ => ?_
      show letsI q _ (E.m x) = _
      rw [hch, E.lets]
    rw [e, let_room hwl hw hks, E.card, hrk]
  · by_cases hf : rankI q (ks.map E.m) < b
    · exact .inl hf
    · refine .inr fun r hr hrl hlet => ?_
      obtain ⟨z, rfl⟩ := E.m_sur hr
      have hfull : lrank ks = b := by
        have := lrank_le hks
        rw [hrk] at hf
        omega
      rw [hch, E.lets] at hlet
      have hz : z.length = t + b := by rw [List.length_map] at hrl; exact hrl
      rw [hlot]
      have e : (lotOf ws).map E.m ++ [E.m z] = (lotOf ws ++ [z]).map E.m := by rw [List.map_append]; rfl
      rw [e, E.rank hq, E.rank hq]
      exact full_in hwl hw hks hfull hz (nulB_iff.mp hlet)
  · obtain ⟨sh, rfl⟩ := E.m_sur h1
    rw [hlot, E.mix, hch, E.lets]
    exact nulB_iff.mpr (mix_pass hwl hw hks)
end
end KM
/-! ## MathF -/
set_option Elab.async false
set_option linter.all false
set_option maxRecDepth 100000
set_option maxHeartbeats 1000000
/-! the ten fields -/
namespace KM
open Fl J
theorem axs {q : Nat} (hq : q ∈ sizes) : 2 ≤ q ∧ ax1 q = true ∧ ax2 q = true ∧ ax3 q = true := by
  have h := List.all_eq_true.mp ax_ok q hq
  simp only [Bool.and_eq_true] at h
  exact ⟨Nat.le_of_ble_eq_true h.1.1.1, h.1.1.2, h.1.2, h.2⟩
theorem ax1_at {q : Nat} (hq : q ∈ sizes) {a : Nat} (ha : a < q) : negN q a < q ∧ invN q a < q ∧ addN q 0 a = a ∧ addN q (negN q a) a = 0 ∧ mulN q 1 a = a ∧ (a = 0 ∨ mulN q (invN q a) a = 1) := by
  have h := List.all_eq_true.mp (axs hq).2.1 a (List.mem_range.mpr ha)
  simp only [Bool.and_eq_true, Bool.or_eq_true, beq_iff_eq, Nat.blt_eq] at h
  obtain ⟨⟨⟨⟨⟨h1, h2⟩, h3⟩, h4⟩, h5⟩, h6⟩ := h
  exact ⟨h1, h2, h3, h4, h5, h6⟩
theorem ax2_at {q : Nat} (hq : q ∈ sizes) {a b : Nat} (ha : a < q) (hb : b < q) : addN q a b < q ∧ mulN q a b < q ∧ addN q a b = addN q b a ∧ mulN q a b = mulN q b a := by
  have h := List.all_eq_true.mp (List.all_eq_true.mp (axs hq).2.2.1 a (List.mem_range.mpr ha)) b (List.mem_range.mpr hb)
  simp only [Bool.and_eq_true, beq_iff_eq, Nat.blt_eq] at h
  obtain ⟨⟨⟨h1, h2⟩, h3⟩, h4⟩ := h
  exact ⟨h1, h2, h3, h4⟩
theorem ax3_at {q : Nat} (hq : q ∈ sizes) {a b c : Nat} (ha : a < q) (hb : b < q) (hc : c < q) : addN q (addN q a b) c = addN q a (addN q b c) ∧ mulN q (mulN q a b) c = mulN q a (mulN q b c) ∧ mulN q a (addN q b c) = addN q (mulN q a b) (mulN q a c) := by
  have h := List.all_eq_true.mp (List.all_eq_true.mp (List.all_eq_true.mp (axs hq).2.2.2 a (List.mem_range.mpr ha)) b (List.mem_range.mpr hb)) c (List.mem_range.mpr hc)
  simp only [Bool.and_eq_true, beq_iff_eq] at h
  obtain ⟨⟨h1, h2⟩, h3⟩ := h
  exact ⟨h1, h2, h3⟩
/-- the numbers below q, each once -/
def elsQ (q : Nat) : List (Fin q) := (List.range q).attach.map fun k => ⟨k.1, List.mem_range.mp k.2⟩
theorem elsQ_val (q : Nat) : (elsQ q).map (fun a => a.val) = List.range q := by
  unfold elsQ
  rw [List.map_map]
  exact List.attach_map_subtype_val (List.range q)
theorem elsQ_nodup (q : Nat) : (elsQ q).Nodup := by
  have h : ((elsQ q).map (fun a => a.val)).Nodup := by rw [elsQ_val]; exact List.nodup_range
  exact List.Pairwise.of_map (fun a : Fin q => a.val) (fun a b hab e => hab (by rw [e])) h
theorem elsQ_mem {q : Nat} (a : Fin q) : a ∈ elsQ q := by
  unfold elsQ
  exact List.mem_map.mpr ⟨⟨a.1, List.mem_range.mpr a.2⟩, List.mem_attach _ _, rfl⟩
def flQ {q : Nat} (hq : q ∈ sizes) : Fl (Fin q) where
  zero := ⟨0, by have := (axs hq).1; omega⟩
  one := ⟨1, by have := (axs hq).1; omega⟩
  add a b := ⟨addN q a.1 b.1, (ax2_at hq a.2 b.2).1⟩
  mul a b := ⟨mulN q a.1 b.1, (ax2_at hq a.2 b.2).2.1⟩
  neg a := ⟨negN q a.1, (ax1_at hq a.2).1⟩
  addC a b := Fin.ext (ax2_at hq a.2 b.2).2.2.1
  addA a b c := Fin.ext (ax3_at hq a.2 b.2 c.2).1
  zadd a := Fin.ext (ax1_at hq a.2).2.2.1
  nadd a := Fin.ext (ax1_at hq a.2).2.2.2.1
  mulC a b := Fin.ext (ax2_at hq a.2 b.2).2.2.2
  mulA a b c := Fin.ext (ax3_at hq a.2 b.2 c.2).2.1
  omul a := Fin.ext (ax1_at hq a.2).2.2.2.2.1
  dist a b c := Fin.ext (ax3_at hq a.2 b.2 c.2).2.2
  inv a := ⟨invN q a.1, (ax1_at hq a.2).2.1⟩
  imul a ha := Fin.ext ((ax1_at hq a.2).2.2.2.2.2.resolve_left fun z => ha (Fin.ext z))
  ozne h := by have h : (1 : Nat) = 0 := congrArg Fin.val h; cases h
  deq := inferInstance
  els := elsQ q
  elsN := elsQ_nodup q
  elsA := elsQ_mem
theorem addI_at {q : Nat} (hq : q ∈ sizes) {a b : Nat} (ha : a < q) (hb : b < q) : addI q a b 1 = ((addN q a b : Nat) : Int) ∧ addI q a b (-1) = ((addN q a (negN q b) : Nat) : Int) := by
  have h := List.all_eq_true.mp (List.all_eq_true.mp (List.all_eq_true.mp add_ok q hq) a (List.mem_range.mpr ha)) b (List.mem_range.mpr hb)
  simp only [Bool.and_eq_true, beq_iff_eq] at h
  exact h
theorem mulI_at {q : Nat} (hq : q ∈ sizes) {a b : Nat} (ha : a < q) (hb : b < q) : mulI q a b = ((mulN q a b : Nat) : Int) := by
  have h := List.all_eq_true.mp (List.all_eq_true.mp (List.all_eq_true.mp mul_ok q hq) a (List.mem_range.mpr ha)) b (List.mem_range.mpr hb)
  simp only [beq_iff_eq] at h
  exact h
def embQ {q : Nat} (hq : q ∈ sizes) : @Emb q (Fin q) (flQ hq) :=
  letI := flQ hq
  { e := fun a => (a.val : Int)
    inj := fun {a b} h => Fin.ext (Int.ofNat_inj.mp h)
    rng := fun a => ⟨by omega, by have := a.2; omega⟩
    sur := fun i h0 h1 => ⟨⟨i.toNat, by omega⟩, by show ((i.toNat : Nat) : Int) = i; omega⟩
    add := fun a b => (addI_at hq a.2 b.2).1
    sub := fun a b => (addI_at hq a.2 b.2).2
    mul := fun a b => mulI_at hq a.2 b.2
    zero := rfl
    one := rfl
    all := by
      show (elsQ q).map (fun a => ((a.val : Nat) : Int)) = _
      rw [← elsQ_val, List.map_map]
      rfl }
end KM
namespace J
theorem law_plain : LawPlain := fun q t b said keys hq ht hb hl hs hkl hk => @KM.Emb.law q (Fin q) (KM.flQ hq) (KM.embQ hq) hq t b said keys ht hb hl hs hkl hk
end J
/-! ## W33 -/
set_option Elab.async false
set_option linter.all false
set_option maxRecDepth 100000
set_option maxHeartbeats 600000
namespace J
open PySem L2 KT
local macro_rules | `(tactic| walk_at "sub") => `(tactic| repeat (first | exact Sub.nil | (with_reducible refine Sub.keep (Pr.le_refl _) ?_) | refine Sub.drop ?_ | refine Sub.keepV (by first | rfl | (simp; done) | omega) ?_ | refine Sub.keep (Pr.le_refl _) ?_))
section
variable {P : Program} {wd : World} {K : PySem.W.Frag} {mg : Str → Option Value} {base : Heap}

theorem all_ok (T : Tx K mg) (TBp : LamX.TabB base mg (tPut K).1 (tPut K).2) (TBl : LamX.TabB base mg (tLaw K).1 (tLaw K).2) {fd : FuncData} (F : FunD K "law" "law" (defArgs s_law) (defBody s_law) (defScope s_law) [] [] (He.fAd K ("law", none)) fd) : FnOk P wd K mg base CX0 10 (He.fAd K ("law", none)) fd ["_law_script"] (sp_law K) := by
  have v_Field_size := ok_Field_size (P := P) (wd := wd) (base := base) T 
  have v_Field_has := ok_Field_has (P := P) (wd := wd) (base := base) T 
  have v_Field_need := ok_Field_need (P := P) (wd := wd) (base := base) T v_Field_has
  have v_Field_figures := ok_Field_figures (P := P) (wd := wd) (base := base) T 
  have v_Field_composed := ok_Field_composed (P := P) (wd := wd) (base := base) T 
  have v_Field_added := ok_Field_added (P := P) (wd := wd) (base := base) T v_Field_figures v_Field_composed
  have v_Field_less := ok_Field_less (P := P) (wd := wd) (base := base) T v_Field_need v_Field_added
  have v_Field_product := ok_Field_product (P := P) (wd := wd) (base := base) T v_Field_composed v_Field_figures
  have v_Field_inverse := ok_Field_inverse (P := P) (wd := wd) (base := base) T v_Field_product
  have v_Field_scaled := ok_Field_scaled (P := P) (wd := wd) (base := base) T v_Field_product
  have v_Field_along := ok_Field_along (P := P) (wd := wd) (base := base) T v_Field_added v_Field_product
  have v_first_place := ok_first_place (P := P) (wd := wd) (base := base) T 
  obtain ⟨v_Field_joined, v_Field_joinedD⟩ := ok_Field_joined2 (P := P) (wd := wd) (base := base) T v_Field_added
  have v_Field_needs_row := ok_Field_needs_row (P := P) (wd := wd) (base := base) T v_Field_has
  have v_Span_lowered := ok_Span_lowered (P := P) (wd := wd) (base := base) T v_Field_joined v_Field_scaled v_Field_joinedD
  have v_Span_put := ok_Span_put (P := P) (wd := wd) (base := base) T TBp v_Field_needs_row v_Span_lowered v_first_place v_Field_inverse v_Field_joined v_Field_scaled
  have v_Span_init := ok_Span_init (P := P) (wd := wd) (base := base) T v_Span_put
  have v_Span_len := ok_Span_len (P := P) (wd := wd) (base := base) T 
  have v_need_words := ok_need_words (P := P) (wd := wd) (base := base) T v_Field_needs_row
  have v_checked := ok_checked (P := P) (wd := wd) (base := base) T v_Field_less v_Field_along
  have v_Guard_init := ok_Guard_init (P := P) (wd := wd) (base := base) T v_need_words v_Field_needs_row v_checked
  have v_Guard_lets := ok_Guard_lets (P := P) (wd := wd) (base := base) T v_Field_needs_row v_Field_along
  have v_grown := ok_grown (P := P) (wd := wd) (base := base) T 
  have v_Guard_room := ok_Guard_room (P := P) (wd := wd) (base := base) T v_grown v_Field_size v_Span_len v_Span_init
  have v_Guard_checks := ok_Guard_checks (P := P) (wd := wd) (base := base) T 
  have v_l_root := ok_l_root (P := P) (wd := wd) (base := base) T 
  have v_l_added := ok_l_added (P := P) (wd := wd) (base := base) T v_l_root
  have v_l_raised := ok_l_raised (P := P) (wd := wd) (base := base) T v_l_root v_l_added
  have v_l_times := ok_l_times (P := P) (wd := wd) (base := base) T v_l_root v_l_raised v_l_added
  have v_l_less := ok_l_less (P := P) (wd := wd) (base := base) T v_l_added
  have v_l_share := ok_l_share (P := P) (wd := wd) (base := base) T v_l_times
  have v_l_along := ok_l_along (P := P) (wd := wd) (base := base) T v_l_added v_l_times
  have v_l_scaled := ok_l_scaled (P := P) (wd := wd) (base := base) T v_l_times
  have v_l_summed := ok_l_summed (P := P) (wd := wd) (base := base) T v_l_added
  have v_l_blend := ok_l_blend (P := P) (wd := wd) (base := base) T v_l_summed v_l_scaled
  have v_l_unit := ok_l_unit (P := P) (wd := wd) (base := base) T 
  have v_Field_init := ok_Field_init (P := P) (wd := wd) (base := base) T v_grown
  have v_l_solved := ok_l_solved (P := P) (wd := wd) (base := base) T v_l_scaled v_l_share v_l_summed v_l_less
  have v_l_rank := ok_l_rank (P := P) (wd := wd) (base := base) T v_l_solved
  have v_l_in := ok_l_in (P := P) (wd := wd) (base := base) T v_l_rank
  have v_l_pull := ok_l_pull (P := P) (wd := wd) (base := base) T 
  have v_l_row := ok_l_row (P := P) (wd := wd) (base := base) T v_l_pull
  have v_l_size := ok_l_size (P := P) (wd := wd) (base := base) T v_l_pull
  have v_l_words := ok_l_words (P := P) (wd := wd) (base := base) T v_l_pull
  have v_l_blendO := ok_l_blendO (P := P) (wd := wd) (base := base) T v_l_summed v_l_scaled
  have v_l_rows := ok_l_rows (P := P) (wd := wd) (base := base) T v_l_row v_l_blendO v_l_pull
  have v_l_bag := ok_l_bag (P := P) (wd := wd) (base := base) T 
  have v_l_all_rows := ok_l_all_rows (P := P) (wd := wd) (base := base) T 
  have v_l_whole := ok_l_whole (P := P) (wd := wd) (base := base) T 
  have v_l_alikeF := ok_l_alikeF (P := P) (wd := wd) (base := base) T 
  have v_l_alike0 := ok_l_alike0 (P := P) (wd := wd) (base := base) T v_l_whole v_l_alikeF
  have v_l_alike1 := ok_l_alike1 (P := P) (wd := wd) (base := base) T v_l_whole v_l_alike0
  have v_l_alike2 := ok_l_alike2 (P := P) (wd := wd) (base := base) T v_l_whole v_l_alike1
  have v_l_room_so := ok_l_room_so (P := P) (wd := wd) (base := base) T v_l_rank v_l_row v_l_alike0 v_l_all_rows v_l_unit v_Guard_room v_Guard_lets v_l_in v_l_along
  have v_Field_needs_rowX := ok_Field_needs_rowX (P := P) (wd := wd) (base := base) T v_Field_has
  have v_Guard_letsX := ok_Guard_letsX (P := P) (wd := wd) (base := base) T v_Field_needs_rowX v_Field_along
  have v_Guard_initX := ok_Guard_initX (P := P) (wd := wd) (base := base) T v_need_words v_Field_needs_rowX v_checked
  have v_need_wordsO := ok_need_wordsO (P := P) (wd := wd) (base := base) T v_Field_needs_row
  have v_checkedO := ok_checkedO (P := P) (wd := wd) (base := base) T v_Field_less v_Field_along
  have v_Guard_initO := ok_Guard_initO (P := P) (wd := wd) (base := base) T v_need_wordsO v_Field_needs_row v_checkedO
  exact ok_law T law_plain TBl v_l_bag v_l_words v_l_rows v_Guard_initO v_l_blend v_l_pull v_Field_init v_l_room_so v_l_size v_Guard_checks v_l_unit v_Guard_lets v_l_less v_l_along v_l_alike0 v_l_alike2 v_Guard_letsX v_Guard_initX F
/-- what the head tells is what the walk wants -/
theorem tx_of {w : World} {h : Heap} (X : K.In h) (G : h.Ns mainGlobals mg) (c : He.SaysX fa fn [] tf ex w h K) : Tx K mg := by
  have s : He.SaysD fa fn K := congrArg Prod.fst c.t
  exact ⟨s, fun i x h => He.glo_ok X G (s.fact i (f := .glo x) h), fun i x h => He.free_ok X G (s.fact i (f := .free x) h), c.more⟩
/-- the promise at the start -/
theorem law_starts (T : Tx K mg) {H : Hp} {a : Addr} {ns : List Int} {E : XK} (hl : ns.length ≤ 63) (h1 : H (tPut K).2 = some (.tbl #[])) (h2 : H (tLaw K).2 = some (.tbl #[])) (hS : SqL K H a (ns.map V.int)) : sp_law K [.ref a] H (fun v _ => v = .bl true) E := by
  have hne := bx_tabs T
  have empty : ∀ {q : Str} (F : Hp), ∃ ps : Array Value, (HO.tbl #[]) = .tbl ps ∧ TriplesOk ps.toList ∧ ∀ (pos : Pos) (cv : Value), codeAmong pos ps.toList = some cv → ∃ c, cv = .ref c ∧ F c = some (LamX.CodeO c q) := fun F => ⟨#[], rfl, True.intro, fun pos cv hc => by
    have z : codeAmong pos [] = some cv := hc
    simp [codeAmong] at z⟩
  refine ⟨ns, fun b => if b = (tPut K).2 ∨ b = (tLaw K).2 then none else H b, by show ns.length ≤ 100; omega, .cons ⟨a, ns.map V.int, rfl, ?_, all2_pI ns⟩ .nil, ⟨fun b o e => ?_, fun e he => ?_, ?_⟩, fun v F' H' s p => p⟩
  · have at_ : ∀ {o : HO}, H a = some o → (∀ ps, o ≠ .tbl ps) → (fun b => if b = (tPut K).2 ∨ b = (tLaw K).2 then none else H b) a = some o := fun {o} e n => by
      have n1 : a ≠ (tPut K).2 := fun z => by rw [z, h1] at e; cases e; exact n _ rfl
      have n2 : a ≠ (tLaw K).2 := fun z => by rw [z, h2] at e; cases e; exact n _ rfl
      show (if a = (tPut K).2 ∨ a = (tLaw K).2 then none else H a) = some o
      rw [if_neg fun z => z.elim n1 n2]
      exact e
    rcases hS with (h | ⟨o, h⟩) | h
    · exact .inl (.inl (at_ h fun ps z => by cases z))
    · exact .inl (.inr ⟨o, at_ h fun ps z => by cases z⟩)
    · exact .inr h
  · have e : (if b = (tPut K).2 ∨ b = (tLaw K).2 then none else H b) = some o := e
    split at e
    · cases e
    · exact e
  · rcases List.mem_cons.mp he with rfl | he
    · exact ⟨if_pos (.inl rfl), _, h1, empty _⟩
    · have e : e = oTl K := by simpa using he
      subst e
      exact ⟨if_pos (.inr rfl), _, h2, empty _⟩
  · show [(tPut K).2, (tLaw K).2].Nodup
    simp only [List.nodup_cons, List.mem_singleton, List.not_mem_nil, not_false_eq_true, List.nodup_nil, and_true]
    exact fun z => hne z.symm
end
/-- the end: K is told to be there -/
theorem walk_X {l : PySem.W.OpenLaw} {n k : Nat} {q : Program} {loose : List Str} {XP : (Str → Option Value) → Heap → Prop} {YP : World → Heap → Prop} {d : PySem.DefRec} {CX : World → CXT} {x : Str}
    (hn : l.most = some n) (hn2 : n ≤ sizeLine) (hdf : d.params.defaults = []) (hr : Room k callerA)
    (F : ∀ (w : World) (mg : Str → Option Value) (fa : Addr) (h : Heap), YP w h → h.Ns mainGlobals mg → mg d.name = some (.ref fa) → ∃ K : PySem.W.Frag, K.In h ∧ LamX.LawAtS l w K (CX w) k n x mg fa h)
    (hCX : ∀ (w : World) (H : Hp) (s : Shared) (e : Value) (s' : Shared), CX w [] H s (fun _ _ _ => False) e s' → False) :
    PySem.W.WalkO q loose XP YP l.row.toRowW d [] (fun f vs => PySem.call f vs) := by
  refine Att.attach_callB hn hdf fun w s₀ s₁ mg mb fa o pm cd doc a vs ns G Y ho hd hcd hmg hobj hints hlen hbits hg => ?_
  obtain ⟨K, KX, fd, cs, sp, hT, nT, C, hb, hsp, hF⟩ := F w mg fa _ Y G.T.g hmg
  exact LamX.law_callTs KX G.T.g G.T.b G.T.builtins G.T.nolimit hg hT nT C G.T.bmain hobj hints (Nat.le_trans hlen hn2) hr hF hb (fun H hH hS => hsp H a ns hlen hbits hH hS) fun H e s' => hCX w H s₁ e s'
theorem lawrow_at {K : PySem.W.Frag} {mg : Str → Option Value} {w : World} {h : Heap} {f : Addr} (X : K.In h) (G : h.Ns mainGlobals mg) (hf : mg ("law" : Str) = some (.ref f)) (c : He.SaysX KT.fa KT.fn [] KT.tf KT.ex w h K) :
    LamX.LawAtS PySem.Challenge.rw_mingleway_k40_whole_guards_let_just_thei w K CX0 10 63 "_law_script" mg f h := by
  have T := tx_of X G c
  obtain ⟨fd, FD⟩ := fd_law T
  have hf2 : f = He.fAd K ("law", none) := by
    have e := hf.symm.trans (gl_law T)
    cases e
    rfl
  have mem1 : (("Span", some "put") : He.Defn) ∈ KT.tf := List.mem_cons_of_mem _ List.mem_cons_self
  have mem2 : (("law", none) : He.Defn) ∈ KT.tf := List.mem_cons_self
  subst hf2
  refine ⟨fd, [tPut K, tLaw K], sp_law K, fun p hp => ?_, fun p hp => ?_, fun p hp => ?_, fun s u => ?_, fun H a ns hl hbits hH hS => law_starts T hl (hH _ List.mem_cons_self) (hH _ (List.mem_cons_of_mem _ List.mem_cons_self)) hS, fun base hK hG hT => ?_⟩
  · rcases List.mem_cons.mp hp with rfl | hp
    · exact c.empty _ mem1
    · rw [List.mem_singleton.mp hp]; exact c.empty _ mem2
  · rcases List.mem_cons.mp hp with rfl | hp
    · exact c.out _ mem1
    · rw [List.mem_singleton.mp hp]; exact c.out _ mem2
  · rcases List.mem_cons.mp hp with rfl | hp
    · exact PySem.W.codeHd_of_K X (c.hd _ mem1)
    · rw [List.mem_singleton.mp hp]; exact PySem.W.codeHd_of_K X (c.hd _ mem2)
  · exact FunD.bindsA (ps := ["_law_script"]) FD (fun _ _ _ _ _ _ us hl => match us, hl with | [_], _ => rfl) s [u] rfl
  · exact all_ok T (hT _ List.mem_cons_self) (hT _ (List.mem_cons_of_mem _ List.mem_cons_self)) FD
end J
/-! ## End -/
set_option Elab.async false
set_option linter.all false
set_option maxRecDepth 100000
set_option maxHeartbeats 0
open PySem PySem.W PySem.Calls PyProof.Rows
theorem PySem.Challenge.cw_mingleway_k40_whole_guards_let_just_thei_holds : PySem.Challenge.rw_mingleway_k40_whole_guards_let_just_thei.Holds := by
  w_on; o_law
  refine HandSHeadRun.head_any (r := OpenLaw.row PySem.Challenge.rw_mingleway_k40_whole_guards_let_just_thei) (q := view (OpenLaw.row PySem.Challenge.rw_mingleway_k40_whole_guards_let_just_thei).prog [70]) (H := KT.hk) (ob := KT.ob) (M := 9000) (loose := KT.loose) (d := HandSHeadRun.topDef (OpenLaw.row PySem.Challenge.rw_mingleway_k40_whole_guards_let_just_thei).prog 70) (kwd := []) KT.ob_eq
    (by kernel_rfl) (fun s => by kernel_rfl) KT.run (by kernel_rfl) (by kernel_rfl) (by kernel_rfl) (by rfl) (by first | assumption | decide +kernel) (by decide +kernel) ⟨rfl, rfl, rfl, rfl, rfl, by decide +kernel⟩ ?hw ?hc
  case hw => w_witness2
  case hc =>
    refine J.walk_X (l := PySem.Challenge.rw_mingleway_k40_whole_guards_let_just_thei) (n := 63) (k := 10) (x := "_law_script") (CX := fun _ => C8.CX0) rfl (by decide) (by kernel_rfl) ⟨rfl, by decide, by decide⟩ ?F (fun _ _ _ _ _ z => z)
    intro w mg fa h Y G hmg0
    obtain ⟨K, KX, c⟩ := Y
    have hmg : mg ("law" : PySem.Str) = some (.ref fa) := by
      have e : (HandSHeadRun.topDef (OpenLaw.row PySem.Challenge.rw_mingleway_k40_whole_guards_let_just_thei).prog 70).name = ("law" : PySem.Str) := by kernel_rfl
      rw [← e]
      exact hmg0
    exact ⟨K, KX, J.lawrow_at KX G hmg c⟩
