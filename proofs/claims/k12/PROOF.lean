import PyProof.Rows.All
import Wide.All
import OpenK.AllK
import Wide.FinOn
import HandS.Head0
import HandS.Head1
import HandS.Head2
import HandS.HeadEnd
import HandS.HeadHook1
import HandS.HeadHook2
import HandS.HeadHook3
import HandS.HeadHook4
import HandS.Small
import HandS.Words
import HandS.ForExc
import HandS.Comp
import HandS.Text
import HandS.Wide
import HandS.WideBits
import HandS.IsInst
import HandS.TryMany
import HandS.Lambda
import HandS.EndTab
import HandS.HotCalls
import HandS.ExcIs
import HandS.Style
import HandS.Defaults
import HandS.MakeKwOnly
import HandS.NestedK
import HandS.TupAny
import HandS.HeadNt
import KE.BitLaws
import PySem.Challenge.RW_everyrounding_k12_order_of_numbers
set_option Elab.async false
set_option linter.all false
set_option maxRecDepth 100000
set_option maxHeartbeats 4000000
/-! Ev, part U: what a head's run tells, as Bools over the found part of the heap. -/
namespace Ev
open PySem PySem.Spec PyProof.Rows L2
def kitsC (K : PySem.W.Frag) (i r : Nat) (C : Addr) (cls : List Addr) (n : Nat) : Bool :=
  (List.range n).all fun j => PySem.W.kitOne K (.ref C) (.ref (cls.getD j 0)) == some (decide (j = i) || decide (j = r)) && PySem.W.exmOne K (.ref C) (.ref (cls.getD j 0)) == some (decide (j = i) || decide (j = r))
/-- the module's name x is the flat value v -/
def glB (K : PySem.W.Frag) (x : Str) (v : V) : Bool := match PySem.W.nsIn K mainGlobals x with
  | some (some u) => He.relB v u
  | _ => false
theorem glB_ok {K : PySem.W.Frag} {x : Str} {v : V} (h : glB K x v = true) : ∃ u, PySem.W.nsIn K mainGlobals x = some (some u) ∧ RelV v u := by
  unfold glB at h
  cases e : PySem.W.nsIn K mainGlobals x with
  | none =>
    rw [e] at h
    cases h
  | some o =>
    rw [e] at h
    cases o with
    | none => cases h
    | some u => exact ⟨u, rfl, He.relB_ok h⟩
/-- the code object at c names the table P -/
def tbB (K : PySem.W.Frag) (c P : Addr) : Bool := match K.lookup c with
  | some ⟨_, _, .fields vs, _⟩ => decide (vs[11]? = some (.ref P))
  | _ => false
theorem tbB_ok {K : PySem.W.Frag} {c P : Addr} (h : tbB K c P = true) : ∃ (o : Obj) (vs : Array Value), K.lookup c = some o ∧ o.data = .fields vs ∧ vs[11]? = some (.ref P) := by
  unfold tbB at h
  cases e : K.lookup c with
  | none =>
    rw [e] at h
    cases h
  | some o =>
    obtain ⟨oc, od, dt, osl⟩ := o
    rw [e] at h
    cases dt with
    | fields vs => exact ⟨_, vs, rfl, rfl, of_decide_eq_true h⟩
    | _ => cases h
/-! ### a head's facts over a written list of addresses -/
def obsU (as : List Addr) (fn : List He.DefD) (tf : List He.Defn) (ex : PySem.W.Frag → Bool) (g : Addr → Option Obj) : He.AlD × Bool :=
  (He.obsD [] fn (He.frT g as), ex (He.frT g as) && He.tabsB g tf (He.frT g as))
theorem obsU_says {as : List Addr} {fn : List He.DefD} {tf : List He.Defn} {ex : PySem.W.Frag → Bool} {w : World} {h : Heap} (e : obsU as fn tf ex h.get? = (He.valD fn, true)) : He.SaysX [] fn [] tf ex w h (He.frT h.get? as) := by
  obtain ⟨e1, e2⟩ : He.obsD [] fn (He.frT h.get? as) = He.valD fn ∧ (ex (He.frT h.get? as) && He.tabsB h.get? tf (He.frT h.get? as)) = true := ⟨congrArg Prod.fst e, congrArg Prod.snd e⟩
  rw [Bool.and_eq_true] at e2
  have tab : ∀ p ∈ tf, PySem.W.codeHdIn (He.frT h.get? as) (He.cT (He.frT h.get? as) p).1 (He.cT (He.frT h.get? as) p).2 = true ∧ ∃ o, h.get? (He.cT (He.frT h.get? as) p).2 = some o ∧ He.emptyTab o = true := by
    intro p hp
    have z := List.all_eq_true.mp e2.2 p hp
    rw [Bool.and_eq_true] at z
    refine ⟨z.1, ?_⟩
    generalize h.get? (He.cT (He.frT h.get? as) p).2 = r at z
    match r, z with
    | some o, z => exact ⟨o, rfl, z.2⟩
  constructor
  · show (_, _) = (_, _)
    rw [e1]
    rfl
  · exact e2.1
  · exact fun p hp => (tab p hp).1
  · exact fun p hp => (tab p hp).2.elim fun o z => He.frT_none z.1 z.2
  · exact fun p hp => (tab p hp).2.elim fun o z => z.1.trans (congrArg some (He.emptyTab_eq z.2))
def hookU (as : List Addr) (fn : List He.DefD) (tf : List He.Defn) (ex : PySem.W.Frag → Bool) : PySem.W.Hook where
  α := He.AlD × Bool
  obs := fun s => obsU as fn tf ex s.heap.get?
  val := fun _ => (He.valD fn, true)
  says := fun w h => ∃ K : PySem.W.Frag, K.In h ∧ He.SaysX [] fn [] tf ex w h K
  of := fun _ _ e => ⟨_, He.frT_in, obsU_says e⟩
  keeps := fun w h h' ⟨K, hK, c⟩ k => ⟨K, hK.keeps k, { t := c.t, more := c.more, hd := c.hd, out := c.out, empty := fun p hp => k _ _ (c.empty p hp) }⟩
theorem obsU_eq {as : List Addr} {fn : List He.DefD} {tf : List He.Defn} {ex : PySem.W.Frag → Bool} (s : PySem.W.SharedT) : obsU as fn tf ex (HandSHeadRun.getT s) = (hookU as fn tf ex).obs s.abs := by
  have e : HandSHeadRun.getT s = s.abs.heap.get? := funext (HandSHeadRun.getT_eq s)
  rw [e]
  rfl
theorem map_three {α β γ δ : Type} {o : Option α} {f : α → β} {g : α → γ} {k : α → δ} {x : β} {y : γ} {z : δ} (h1 : o.map f = some x) (h2 : o.map g = some y) (h3 : o.map k = some z) : o.map (fun s => (f s, g s, k s)) = some (x, y, z) := by
  cases o with
  | none => cases h1
  | some s =>
    rw [Option.map_some] at *
    rw [Option.some.inj h1, Option.some.inj h2, Option.some.inj h3]
end Ev

namespace k12
open PySem PySem.Spec PyProof.Rows L2
def top (i : Nat) : Stmt := PySem.Challenge.pw_everyrounding_k12_order_of_numbers.main.body.getD i (.Pass ⟨0, 0, 0, 0⟩)
abbrev s_is_whole : Stmt := top 19
abbrev s_is_number : Stmt := top 22
abbrev s_check_number : Stmt := top 23
abbrev s_nan : Stmt := top 24
abbrev s_kind_of : Stmt := top 25
abbrev s_minus : Stmt := top 26
abbrev s_size : Stmt := top 27
abbrev s_alike : Stmt := top 28
abbrev s_compare_sizes : Stmt := top 30
abbrev s_level : Stmt := top 31
abbrev s_total : Stmt := top 32
abbrev s_compare : Stmt := top 33
abbrev s_least_of : Stmt := top 34
abbrev s_greatest_of : Stmt := top 35
abbrev s__law_store : Stmt := top 37
abbrev s__law_mix : Stmt := top 38
abbrev s__law_wide : Stmt := top 39
abbrev s__law_take : Stmt := top 40
abbrev s__law_edge : Stmt := top 41
abbrev s__law_scaled : Stmt := top 42
abbrev s__law_shuffled : Stmt := top 43
abbrev s__law_no_integer : Stmt := top 44
abbrev s__law_int : Stmt := top 45
abbrev s__law_same : Stmt := top 46
abbrev s__law_names : Stmt := top 48
abbrev s__law_caught : Stmt := top 47
abbrev s__law_alike : Stmt := top 49
abbrev s__law_compare : Stmt := top 50
abbrev s__law_before : Stmt := top 51
abbrev s__law_loose : Stmt := top 52
abbrev s__law_number : Stmt := top 53
abbrev s__law_bad_number : Stmt := top 54
abbrev s__law_gives : Stmt := top 55
abbrev s__law_refuses : Stmt := top 56
abbrev s__law_turned : Stmt := top 57
abbrev s__law_bounded : Stmt := top 58
abbrev s__law_neighbour : Stmt := top 59
abbrev s__law_row : Stmt := top 60
abbrev s__law_word_of : Stmt := top 61
abbrev s__law_pair_right : Stmt := top 62
abbrev s__law_single_right : Stmt := top 63
abbrev s__law_refuses_size : Stmt := top 65
abbrev s__law_wrong : Stmt := top 64
abbrev s_law : Stmt := top 66
end k12

set_option maxHeartbeats 0
namespace k12
open PySem PySem.Spec PyProof.Rows L2
abbrev hR : PySem.W.OpenRow := PySem.W.OpenLaw.row PySem.Challenge.rw_everyrounding_k12_order_of_numbers
def hFn : List He.DefD := [⟨("is_whole", none), "is_whole", "is_whole", defArgs s_is_whole, defBody s_is_whole, defScope s_is_whole, [], []⟩,
  ⟨("is_number", none), "is_number", "is_number", defArgs s_is_number, defBody s_is_number, defScope s_is_number, [], []⟩,
  ⟨("check_number", none), "check_number", "check_number", defArgs s_check_number, defBody s_check_number, defScope s_check_number, [], []⟩,
  ⟨("nan", none), "nan", "nan", defArgs s_nan, defBody s_nan, defScope s_nan, [], []⟩,
  ⟨("kind_of", none), "kind_of", "kind_of", defArgs s_kind_of, defBody s_kind_of, defScope s_kind_of, [], []⟩,
  ⟨("minus", none), "minus", "minus", defArgs s_minus, defBody s_minus, defScope s_minus, [], []⟩,
  ⟨("size", none), "size", "size", defArgs s_size, defBody s_size, defScope s_size, [], []⟩,
  ⟨("alike", none), "alike", "alike", defArgs s_alike, defBody s_alike, defScope s_alike, [], []⟩,
  ⟨("compare_sizes", none), "compare_sizes", "compare_sizes", defArgs s_compare_sizes, defBody s_compare_sizes, defScope s_compare_sizes, [], []⟩,
  ⟨("level", none), "level", "level", defArgs s_level, defBody s_level, defScope s_level, [], []⟩,
  ⟨("total", none), "total", "total", defArgs s_total, defBody s_total, defScope s_total, [], []⟩,
  ⟨("compare", none), "compare", "compare", defArgs s_compare, defBody s_compare, defScope s_compare, [], []⟩,
  ⟨("least_of", none), "least_of", "least_of", defArgs s_least_of, defBody s_least_of, defScope s_least_of, [], []⟩,
  ⟨("greatest_of", none), "greatest_of", "greatest_of", defArgs s_greatest_of, defBody s_greatest_of, defScope s_greatest_of, [], []⟩,
  ⟨("_law_store", none), "_law_store", "_law_store", defArgs s__law_store, defBody s__law_store, defScope s__law_store, [], []⟩,
  ⟨("_law_mix", none), "_law_mix", "_law_mix", defArgs s__law_mix, defBody s__law_mix, defScope s__law_mix, [], []⟩,
  ⟨("_law_wide", none), "_law_wide", "_law_wide", defArgs s__law_wide, defBody s__law_wide, defScope s__law_wide, [], []⟩,
  ⟨("_law_take", none), "_law_take", "_law_take", defArgs s__law_take, defBody s__law_take, defScope s__law_take, [], []⟩,
  ⟨("_law_edge", none), "_law_edge", "_law_edge", defArgs s__law_edge, defBody s__law_edge, defScope s__law_edge, [], []⟩,
  ⟨("_law_scaled", none), "_law_scaled", "_law_scaled", defArgs s__law_scaled, defBody s__law_scaled, defScope s__law_scaled, [], []⟩,
  ⟨("_law_shuffled", none), "_law_shuffled", "_law_shuffled", defArgs s__law_shuffled, defBody s__law_shuffled, defScope s__law_shuffled, [], []⟩,
  ⟨("_law_no_integer", none), "_law_no_integer", "_law_no_integer", defArgs s__law_no_integer, defBody s__law_no_integer, defScope s__law_no_integer, [], []⟩,
  ⟨("_law_int", none), "_law_int", "_law_int", defArgs s__law_int, defBody s__law_int, defScope s__law_int, [], []⟩,
  ⟨("_law_same", none), "_law_same", "_law_same", defArgs s__law_same, defBody s__law_same, defScope s__law_same, [], []⟩,
  ⟨("_law_names", none), "_law_names", "_law_names", defArgs s__law_names, defBody s__law_names, defScope s__law_names, [], []⟩,
  ⟨("_law_caught", none), "_law_caught", "_law_caught", defArgs s__law_caught, defBody s__law_caught, defScope s__law_caught, [], []⟩,
  ⟨("_law_alike", none), "_law_alike", "_law_alike", defArgs s__law_alike, defBody s__law_alike, defScope s__law_alike, [], []⟩,
  ⟨("_law_compare", none), "_law_compare", "_law_compare", defArgs s__law_compare, defBody s__law_compare, defScope s__law_compare, [], []⟩,
  ⟨("_law_before", none), "_law_before", "_law_before", defArgs s__law_before, defBody s__law_before, defScope s__law_before, [], []⟩,
  ⟨("_law_loose", none), "_law_loose", "_law_loose", defArgs s__law_loose, defBody s__law_loose, defScope s__law_loose, [], []⟩,
  ⟨("_law_number", none), "_law_number", "_law_number", defArgs s__law_number, defBody s__law_number, defScope s__law_number, [], []⟩,
  ⟨("_law_bad_number", none), "_law_bad_number", "_law_bad_number", defArgs s__law_bad_number, defBody s__law_bad_number, defScope s__law_bad_number, [], []⟩,
  ⟨("_law_gives", none), "_law_gives", "_law_gives", defArgs s__law_gives, defBody s__law_gives, defScope s__law_gives, [], []⟩,
  ⟨("_law_refuses", none), "_law_refuses", "_law_refuses", defArgs s__law_refuses, defBody s__law_refuses, defScope s__law_refuses, [], []⟩,
  ⟨("_law_turned", none), "_law_turned", "_law_turned", defArgs s__law_turned, defBody s__law_turned, defScope s__law_turned, [], []⟩,
  ⟨("_law_bounded", none), "_law_bounded", "_law_bounded", defArgs s__law_bounded, defBody s__law_bounded, defScope s__law_bounded, [], []⟩,
  ⟨("_law_neighbour", none), "_law_neighbour", "_law_neighbour", defArgs s__law_neighbour, defBody s__law_neighbour, defScope s__law_neighbour, [], []⟩,
  ⟨("_law_row", none), "_law_row", "_law_row", defArgs s__law_row, defBody s__law_row, defScope s__law_row, [], []⟩,
  ⟨("_law_word_of", none), "_law_word_of", "_law_word_of", defArgs s__law_word_of, defBody s__law_word_of, defScope s__law_word_of, [], []⟩,
  ⟨("_law_pair_right", none), "_law_pair_right", "_law_pair_right", defArgs s__law_pair_right, defBody s__law_pair_right, defScope s__law_pair_right, [], []⟩,
  ⟨("_law_single_right", none), "_law_single_right", "_law_single_right", defArgs s__law_single_right, defBody s__law_single_right, defScope s__law_single_right, [], []⟩,
  ⟨("_law_refuses_size", none), "_law_refuses_size", "_law_refuses_size", defArgs s__law_refuses_size, defBody s__law_refuses_size, defScope s__law_refuses_size, [], []⟩,
  ⟨("_law_wrong", none), "_law_wrong", "_law_wrong", defArgs s__law_wrong, defBody s__law_wrong, defScope s__law_wrong, [], []⟩,
  ⟨("law", none), "law", "law", defArgs s_law, defBody s_law, defScope s_law, [], []⟩]
def hTf : List He.Defn := [("_law_pair_right", none), ("_law_refuses_size", none), ("_law_single_right", none), ("_law_wrong", none)]
def hFacts (K : PySem.W.Frag) : List Bool := [He.eqO (PySem.W.nsIn K mainGlobals "Refused") (some (some (.ref (He.ga K "Refused")))),
  He.eqO (PySem.W.nsIn K mainGlobals "BadCount") (some (some (.ref (He.ga K "BadCount")))),
  He.eqO (PySem.W.nsIn K mainGlobals "BadFormat") (some (some (.ref (He.ga K "BadFormat")))),
  He.eqO (PySem.W.nsIn K mainGlobals "BadNumber") (some (some (.ref (He.ga K "BadNumber")))),
  He.eqO (PySem.W.nsIn K mainGlobals "BadExact") (some (some (.ref (He.ga K "BadExact")))),
  He.eqO (PySem.W.nsIn K mainGlobals "BadMode") (some (some (.ref (He.ga K "BadMode")))),
  He.eqO (PySem.W.nsIn K mainGlobals "BadOp") (some (some (.ref (He.ga K "BadOp")))),
  He.eqO (PySem.W.nsIn K mainGlobals "BadText") (some (some (.ref (He.ga K "BadText")))),
  He.eqO (PySem.W.nsIn K mainGlobals "BadCut") (some (some (.ref (He.ga K "BadCut")))),
  He.eqO (PySem.W.nsIn K mainGlobals "BadPlan") (some (some (.ref (He.ga K "BadPlan")))),
  He.eqO (PySem.W.nsIn K mainGlobals "BadChain") (some (some (.ref (He.ga K "BadChain")))),
  He.eqO (PySem.W.nsIn K mainGlobals "BadFamily") (some (some (.ref (He.ga K "BadFamily")))),
  He.eqO (PySem.W.nsIn K mainGlobals "BadSpan") (some (some (.ref (He.ga K "BadSpan")))),
  He.eqO (PySem.W.nsIn K mainGlobals "BadProgram") (some (some (.ref (He.ga K "BadProgram")))),
  He.eqO (PySem.W.nsIn K mainGlobals "BadBox") (some (some (.ref (He.ga K "BadBox")))),
  He.eqO (PySem.W.nsIn K mainGlobals "NotAsked") (some (some (.ref (He.ga K "NotAsked")))),
  He.eqO (PySem.W.nsIn K mainGlobals "TooMany") (some (some (.ref (He.ga K "TooMany")))),
  PySem.W.excIn K (He.ga K "BadNumber") He.veBase "ValueError.__new__",
  PySem.W.keepIn K (.ref (He.ga K "BadNumber")),
  decide (PySem.W.subIn K (.ref (He.ga K "BadNumber")) (.type "BaseException") = some true),
  decide (PySem.W.typeIn K (.ref (He.ga K "BadNumber")) = some (.type "type")),
  He.eqO (PySem.W.findIn K (.ref (He.ga K "BadNumber")) "__getattribute__") (some (some (.builtin "BaseException.__getattribute__"))),
  He.eqO (PySem.W.findIn K (.ref (He.ga K "BadNumber")) "__getattr__") (some none),
  PySem.W.hasDictIn K (He.ga K "BadNumber"),
  He.eqO (PySem.W.findIn K (.ref (He.ga K "BadNumber")) "__class__") (some (some (.builtin "object.__class__"))),
  decide (PySem.W.mroIn K (He.ga K "BadNumber") (.type "object") = some true),
  decide (PySem.W.kitOne K (.ref (He.ga K "BadNumber")) (.type "ValueError") = some true),
  Ev.kitsC K 3 0 (He.ga K "BadNumber") [(He.ga K "Refused"), (He.ga K "BadCount"), (He.ga K "BadFormat"), (He.ga K "BadNumber"), (He.ga K "BadExact"), (He.ga K "BadMode"), (He.ga K "BadOp"), (He.ga K "BadText"), (He.ga K "BadCut"), (He.ga K "BadPlan"), (He.ga K "BadChain"), (He.ga K "BadFamily"), (He.ga K "BadSpan"), (He.ga K "BadProgram"), (He.ga K "BadBox"), (He.ga K "NotAsked"), (He.ga K "TooMany"), (He.ga K "alike"), (He.ga K "compare"), (He.ga K "greatest_of"), (He.ga K "least_of"), (He.ga K "total")] 17,
  He.eqO (PySem.W.specialIn K (.builtin "object.__class__") "__get__") (some (some (.builtin "getset_descriptor.__get__"))),
  decide (PySem.W.takesIn K (.builtin "object.__class__") = some true),
  He.eqO (PySem.W.nsIn K mainGlobals "ValueError") (some none),
  He.eqO (PySem.W.nsIn K mainGlobals "abs") (some none),
  He.eqO (PySem.W.nsIn K mainGlobals "all") (some none),
  He.eqO (PySem.W.nsIn K mainGlobals "bool") (some none),
  He.eqO (PySem.W.nsIn K mainGlobals "int") (some none),
  He.eqO (PySem.W.nsIn K mainGlobals "isinstance") (some none),
  He.eqO (PySem.W.nsIn K mainGlobals "len") (some none),
  He.eqO (PySem.W.nsIn K mainGlobals "list") (some none),
  He.eqO (PySem.W.nsIn K mainGlobals "max") (some none),
  He.eqO (PySem.W.nsIn K mainGlobals "min") (some none),
  He.eqO (PySem.W.nsIn K mainGlobals "range") (some none),
  He.eqO (PySem.W.nsIn K mainGlobals "str") (some none),
  He.eqO (PySem.W.nsIn K mainGlobals "tuple") (some none),
  He.eqO (PySem.W.nsIn K mainGlobals "NAN") (some (some (.ref (He.ga K "NAN")))),
  He.tupB K "NAN" [(.int 0), (.int (-2)), (.int 0)],
  He.eqO (PySem.W.nsIn K mainGlobals "is_whole") (some (some (.ref (He.ga K "is_whole")))),
  He.eqO (PySem.W.nsIn K mainGlobals "is_number") (some (some (.ref (He.ga K "is_number")))),
  He.eqO (PySem.W.nsIn K mainGlobals "check_number") (some (some (.ref (He.ga K "check_number")))),
  He.eqO (PySem.W.nsIn K mainGlobals "nan") (some (some (.ref (He.ga K "nan")))),
  He.eqO (PySem.W.nsIn K mainGlobals "kind_of") (some (some (.ref (He.ga K "kind_of")))),
  He.eqO (PySem.W.nsIn K mainGlobals "minus") (some (some (.ref (He.ga K "minus")))),
  He.eqO (PySem.W.nsIn K mainGlobals "size") (some (some (.ref (He.ga K "size")))),
  He.eqO (PySem.W.nsIn K mainGlobals "alike") (some (some (.ref (He.ga K "alike")))),
  He.eqO (PySem.W.nsIn K mainGlobals "compare_sizes") (some (some (.ref (He.ga K "compare_sizes")))),
  He.eqO (PySem.W.nsIn K mainGlobals "level") (some (some (.ref (He.ga K "level")))),
  He.eqO (PySem.W.nsIn K mainGlobals "total") (some (some (.ref (He.ga K "total")))),
  He.eqO (PySem.W.nsIn K mainGlobals "compare") (some (some (.ref (He.ga K "compare")))),
  He.eqO (PySem.W.nsIn K mainGlobals "least_of") (some (some (.ref (He.ga K "least_of")))),
  He.eqO (PySem.W.nsIn K mainGlobals "greatest_of") (some (some (.ref (He.ga K "greatest_of")))),
  He.eqO (PySem.W.nsIn K mainGlobals "_law_store") (some (some (.ref (He.ga K "_law_store")))),
  He.eqO (PySem.W.nsIn K mainGlobals "_law_mix") (some (some (.ref (He.ga K "_law_mix")))),
  He.eqO (PySem.W.nsIn K mainGlobals "_law_wide") (some (some (.ref (He.ga K "_law_wide")))),
  He.eqO (PySem.W.nsIn K mainGlobals "_law_take") (some (some (.ref (He.ga K "_law_take")))),
  He.eqO (PySem.W.nsIn K mainGlobals "_law_edge") (some (some (.ref (He.ga K "_law_edge")))),
  He.eqO (PySem.W.nsIn K mainGlobals "_law_scaled") (some (some (.ref (He.ga K "_law_scaled")))),
  He.eqO (PySem.W.nsIn K mainGlobals "_law_shuffled") (some (some (.ref (He.ga K "_law_shuffled")))),
  He.eqO (PySem.W.nsIn K mainGlobals "_law_no_integer") (some (some (.ref (He.ga K "_law_no_integer")))),
  He.eqO (PySem.W.nsIn K mainGlobals "_law_int") (some (some (.ref (He.ga K "_law_int")))),
  He.eqO (PySem.W.nsIn K mainGlobals "_law_same") (some (some (.ref (He.ga K "_law_same")))),
  He.eqO (PySem.W.nsIn K mainGlobals "_law_names") (some (some (.ref (He.ga K "_law_names")))),
  He.eqO (PySem.W.nsIn K mainGlobals "_law_caught") (some (some (.ref (He.ga K "_law_caught")))),
  He.eqO (PySem.W.nsIn K mainGlobals "_law_alike") (some (some (.ref (He.ga K "_law_alike")))),
  He.eqO (PySem.W.nsIn K mainGlobals "_law_compare") (some (some (.ref (He.ga K "_law_compare")))),
  He.eqO (PySem.W.nsIn K mainGlobals "_law_before") (some (some (.ref (He.ga K "_law_before")))),
  He.eqO (PySem.W.nsIn K mainGlobals "_law_loose") (some (some (.ref (He.ga K "_law_loose")))),
  He.eqO (PySem.W.nsIn K mainGlobals "_law_number") (some (some (.ref (He.ga K "_law_number")))),
  He.eqO (PySem.W.nsIn K mainGlobals "_law_bad_number") (some (some (.ref (He.ga K "_law_bad_number")))),
  He.eqO (PySem.W.nsIn K mainGlobals "_law_gives") (some (some (.ref (He.ga K "_law_gives")))),
  He.eqO (PySem.W.nsIn K mainGlobals "_law_refuses") (some (some (.ref (He.ga K "_law_refuses")))),
  He.eqO (PySem.W.nsIn K mainGlobals "_law_turned") (some (some (.ref (He.ga K "_law_turned")))),
  He.eqO (PySem.W.nsIn K mainGlobals "_law_bounded") (some (some (.ref (He.ga K "_law_bounded")))),
  He.eqO (PySem.W.nsIn K mainGlobals "_law_neighbour") (some (some (.ref (He.ga K "_law_neighbour")))),
  He.eqO (PySem.W.nsIn K mainGlobals "_law_row") (some (some (.ref (He.ga K "_law_row")))),
  He.eqO (PySem.W.nsIn K mainGlobals "_law_word_of") (some (some (.ref (He.ga K "_law_word_of")))),
  He.eqO (PySem.W.nsIn K mainGlobals "_law_pair_right") (some (some (.ref (He.ga K "_law_pair_right")))),
  He.eqO (PySem.W.nsIn K mainGlobals "_law_single_right") (some (some (.ref (He.ga K "_law_single_right")))),
  He.eqO (PySem.W.nsIn K mainGlobals "_law_refuses_size") (some (some (.ref (He.ga K "_law_refuses_size")))),
  He.eqO (PySem.W.nsIn K mainGlobals "_law_wrong") (some (some (.ref (He.ga K "_law_wrong")))),
  He.eqO (PySem.W.nsIn K mainGlobals "law") (some (some (.ref (He.ga K "law")))),
  Ev.tbB K (He.cT K ("_law_pair_right", none)).1 (He.cT K ("_law_pair_right", none)).2,
  Ev.tbB K (He.cT K ("_law_refuses_size", none)).1 (He.cT K ("_law_refuses_size", none)).2,
  Ev.tbB K (He.cT K ("_law_single_right", none)).1 (He.cT K ("_law_single_right", none)).2,
  Ev.tbB K (He.cT K ("_law_wrong", none)).1 (He.cT K ("_law_wrong", none)).2,
  decide (He.tabOf K (He.codeOf K ("_law_pair_right", none)) ≠ He.tabOf K (He.codeOf K ("_law_refuses_size", none))),
  decide (He.tabOf K (He.codeOf K ("_law_pair_right", none)) ≠ He.tabOf K (He.codeOf K ("_law_single_right", none))),
  decide (He.tabOf K (He.codeOf K ("_law_pair_right", none)) ≠ He.tabOf K (He.codeOf K ("_law_wrong", none))),
  decide (He.tabOf K (He.codeOf K ("_law_refuses_size", none)) ≠ He.tabOf K (He.codeOf K ("_law_single_right", none))),
  decide (He.tabOf K (He.codeOf K ("_law_refuses_size", none)) ≠ He.tabOf K (He.codeOf K ("_law_wrong", none))),
  decide (He.tabOf K (He.codeOf K ("_law_single_right", none)) ≠ He.tabOf K (He.codeOf K ("_law_wrong", none)))]
def hEx (K : PySem.W.Frag) : Bool := (hFacts K).all id
def hAs : List Addr := [0, 3, 6, 23, 36, 48, 60, 72, 84, 96, 115, 127, 139, 151, 163, 175, 194, 206, 218, 237, 24, 37, 49, 61, 73, 85, 97, 116, 128, 140, 152, 164, 176, 195, 207, 219, 238, 113, 192, 235, 245, 247, 253, 255, 260, 262, 267, 269, 274, 276, 281, 283, 288, 290, 295, 297, 302, 304, 309, 311, 316, 318, 323, 325, 330, 332, 337, 339, 342, 344, 349, 351, 356, 358, 363, 365, 370, 372, 377, 379, 382, 384, 389, 391, 396, 398, 403, 405, 410, 412, 415, 417, 422, 424, 429, 431, 436, 438, 443, 445, 450, 452, 457, 459, 464, 466, 471, 473, 478, 480, 485, 487, 492, 494, 499, 501, 506, 508, 513, 515, 520, 522, 527, 529, 534, 536, 541, 543, 25, 112, 191, 234, 246, 254, 261, 268, 275, 282, 289, 296, 303, 310, 317, 324, 331, 338, 343, 350, 357, 364, 371, 378, 383, 390, 397, 404, 411, 416, 423, 430, 437, 444, 451, 458, 465, 472, 479, 486, 493, 500, 507, 514, 521, 528, 535, 542, 22, 35, 47, 59, 71, 83, 95, 114, 126, 138, 150, 162, 174, 193, 205, 217, 236, 248]
abbrev hk : PySem.W.Hook := Ev.hookU hAs hFn hTf hEx
def hOb (s : PySem.W.SharedT) : He.AlD × Bool := Ev.obsU hAs hFn hTf hEx (HandSHeadRun.getT s)
def hN0 : List Str := ["BadBox", "BadChain", "BadCount", "BadCut", "BadExact", "BadFamily", "BadFormat", "BadMode", "BadNumber", "BadOp", "BadPlan", "BadProgram"]
def hN1 : List Str := ["BadSpan", "BadText", "NAN", "NotAsked", "Refused", "TooMany", "_law_alike", "_law_bad_number", "_law_before", "_law_bounded", "_law_caught", "_law_compare"]
def hN2 : List Str := ["_law_edge", "_law_gives", "_law_int", "_law_loose", "_law_mix", "_law_names", "_law_neighbour", "_law_no_integer", "_law_number", "_law_pair_right", "_law_refuses", "_law_refuses_size"]
def hN3 : List Str := ["_law_row", "_law_same", "_law_scaled", "_law_shuffled", "_law_single_right", "_law_store", "_law_take", "_law_turned", "_law_wide", "_law_word_of", "_law_wrong", "alike"]
def hN4 : List Str := ["check_number", "compare", "compare_sizes", "greatest_of", "is_number", "is_whole", "kind_of", "least_of", "level", "minus", "nan", "size"]
def hN5 : List Str := ["total"]
def hNames : List Str := hN0 ++ hN1 ++ hN2 ++ hN3 ++ hN4 ++ hN5
abbrev hV : Program := PySem.W.view hR.prog [66]
open PySem.W HandSHeadRun
theorem hRunA (w : World) (os : OsState) : (HandSHeadRun.endF (HandSHeadRun.stepQ (HandSHeadRun.denQ HandSHeadRun.tabQ) hR.prog w) 20000 hR.prog w os).map (fun s => looksF hR.prog (boot_heap w.params) s.abs) = some true := by kernel_rfl
theorem hRunB (w : World) (os : OsState) : (HandSHeadRun.endF (HandSHeadRun.stepQ (HandSHeadRun.denQ HandSHeadRun.tabQ) hR.prog w) 20000 hR.prog w os).map (fun s => seenQ hV hNames (importedModules hR.prog.main.body) (fun s => xlAt hV [] s && recOk hR.toRowW.records s) s.abs) = some (openGood hV hNames) := by kernel_rfl
theorem hRunC (w : World) (os : OsState) : (HandSHeadRun.endF (HandSHeadRun.stepQ (HandSHeadRun.denQ HandSHeadRun.tabQ) hR.prog w) 20000 hR.prog w os).map hOb = some (He.valD hFn, true) := by kernel_rfl
theorem hRun (w : World) : HandSHeadRun.RunEq hR hV hk hOb 20000 hNames w := fun os => Ev.map_three (hRunA w os) (hRunB w os) (hRunC w os)
end k12

/-! Ev, part A: values as trees (tuples are values), the heap of lists and errors by address, the judgements with their lifts to the hand layer, expressions. -/
namespace Ev
open PySem PySem.Spec PyProof.Rows L2

inductive W where
  | non | bl (b : Bool) | int (i : Int) | str (x : Str) | tup (l : List W) | rol (l : List W) | ref (a : Addr) | ty (n : String)

inductive Ob where
  | lst (l : List W)
  | exc (C : Addr) (p : Option (Str × W))

abbrev Mp := Addr → Option Ob
def put (M : Mp) (a : Addr) (o : Ob) : Mp := fun b => if b = a then some o else M b
theorem put_same {M : Mp} {a : Addr} {o : Ob} : put M a o a = some o := if_pos rfl
theorem put_ne {M : Mp} {a b : Addr} {o : Ob} (h : b ≠ a) : put M a o b = M b := if_neg h
abbrev Tb := List (Addr × Str)
abbrev St' := List (Option W)
abbrev QK := W → Mp → Prop
abbrev EK := Addr → Option (Str × W) → Mp → Prop
abbrev EX := Addr → Option (Str × W) → St' → Mp → Prop
abbrev TL := Mp → QK → EK → Prop
abbrev Lm := Addr → Option TL
abbrev TEW := St' → Mp → QK → EK → Prop
abbrev TTW := St' → Mp → (Bool → Mp → Prop) → EK → Prop
abbrev TAW := St' → Mp → (List W → Mp → Prop) → EK → Prop

/-- a list that stands still: locked, or of the written part -/
def SqF (K : PySem.W.Frag) (H : Hp) (a : Addr) (xs : List V) : Prop := SqL K H a xs ∧ ∀ H' : Hp, (∀ b o u, H b = some (.frz o u) → H' b = some (.frz o u)) → SqL K H' a xs
section
variable (K : PySem.W.Frag) (H : Hp)
mutual
def Rep : W → V → Prop
  | .non, v => v = .non
  | .bl b, v => v = .bl b
  | .int i, v => v = .int i
  | .str x, v => v = .str x
  | .tup ws, v => ∃ a vs, v = .ref a ∧ SqT K H a vs ∧ Reps ws vs
  | .rol ws, v => ∃ a vs, v = .ref a ∧ SqF K H a vs ∧ Reps ws vs
  | .ref a, v => v = .ref a
  | .ty n, v => v = .ty n
def Reps : List W → List V → Prop
  | [], vs => vs = []
  | w :: ws, vs => ∃ v r, vs = v :: r ∧ Rep w v ∧ Reps ws r
end
def RelS : St' → L2.St → Prop
  | [], σ => σ = []
  | w :: τ, σ => ∃ v r, σ = v :: r ∧ (match w with | none => True | some w => ∃ u, v = some u ∧ Rep K H w u) ∧ RelS τ r
def Pl (d : Option Addr) : Option (Str × W) → Prop
  | none => d = none
  | some (n, w) => ∃ dd v, d = some dd ∧ H dd = some (.xd [(n, v)]) ∧ Rep K H w v
def ObR (a : Addr) : Ob → Prop
  | .lst ws => ∃ vs, H a = some (.lst vs) ∧ Reps K H ws vs
  | .exc C p => ∃ oe, H a = some (.frz oe (.ext fun h => ∃ o, h.get? a = some o)) ∧ oe.cls = .ref C ∧ (∃ vs, oe.data = .fields vs ∧ vs[2]? = some .none) ∧ Pl K H oe.dict p
structure RelH (T : Tb) (M : Mp) : Prop where
  obs : ∀ a o, M a = some o → ObR K H a o
  tabs : LamX.Tabs T H
end
structure TK (H H' : Hp) : Prop where
  tups : ∀ b xs, H b = some (.tup xs) → H' b = some (.tup xs)
  frzs : ∀ b o u, H b = some (.frz o u) → H' b = some (.frz o u)
  tbls : ∀ b ps, H b = some (.tbl ps) → ∃ more, H' b = some (.tbl (ps ++ more))
theorem tbl_same {H : Hp} {b : Addr} {ps : Array Value} (h : H b = some (.tbl ps)) : ∃ more, H b = some (.tbl (ps ++ more)) := ⟨#[], by rw [h]; simp⟩
theorem TK.refl (H : Hp) : TK H H := ⟨fun _ _ e => e, fun _ _ _ e => e, fun _ _ e => tbl_same e⟩
theorem TK.trans {H H1 H2 : Hp} (a : TK H H1) (b : TK H1 H2) : TK H H2 := ⟨fun c xs e => b.tups c xs (a.tups c xs e), fun c o u e => b.frzs c o u (a.frzs c o u e), fun c ps e => by
  obtain ⟨m1, e1⟩ := a.tbls c ps e
  obtain ⟨m2, e2⟩ := b.tbls c _ e1
  exact ⟨m1 ++ m2, by rw [e2, Array.append_assoc]⟩⟩
theorem TK.of_un {fs ex : List Addr} {H H' : Hp} {h h' : Heap} (u : Un fs ex H H' h h') : TK H H' := ⟨u.tups, u.frzs, u.tbls⟩

section
variable {K : PySem.W.Frag} {H H' : Hp} {T : Tb} {M : Mp}
theorem SqT.tk {a : Addr} {xs : List V} (k : TK H H') (h : SqT K H a xs) : SqT K H' a xs := by
  rcases h with (h | ⟨o, h⟩) | h
  · exact .inl (.inl (k.tups _ _ h))
  · exact .inl (.inr ⟨o, k.frzs _ _ _ h⟩)
  · exact .inr h
theorem SqF.tk {a : Addr} {xs : List V} (k : TK H H') (h : SqF K H a xs) : SqF K H' a xs := ⟨h.2 H' k.frzs, fun H2 g => h.2 H2 fun b o u e => g b o u (k.frzs b o u e)⟩
mutual
theorem Rep.tk (k : TK H H') : ∀ {w : W} {v : V}, Rep K H w v → Rep K H' w v
  | .non, _, h => by unfold Rep at h ⊢; exact h
  | .bl _, _, h => by unfold Rep at h ⊢; exact h
  | .int _, _, h => by unfold Rep at h ⊢; exact h
  | .str _, _, h => by unfold Rep at h ⊢; exact h
  | .ref _, _, h => by unfold Rep at h ⊢; exact h
  | .ty _, _, h => by unfold Rep at h ⊢; exact h
  | .tup ws, _, h => by
    unfold Rep at h ⊢
    obtain ⟨a, vs, e, q, r⟩ := h
    exact ⟨a, vs, e, SqT.tk k q, Reps.tk k r⟩
  | .rol ws, _, h => by
    unfold Rep at h ⊢
    obtain ⟨a, vs, e, q, r⟩ := h
    exact ⟨a, vs, e, SqF.tk k q, Reps.tk k r⟩
theorem Reps.tk (k : TK H H') : ∀ {ws : List W} {vs : List V}, Reps K H ws vs → Reps K H' ws vs
  | [], _, h => by unfold Reps at h ⊢; exact h
  | w :: ws, _, h => by
    unfold Reps at h ⊢
    obtain ⟨v, r, e, q, rr⟩ := h
    exact ⟨v, r, e, Rep.tk k q, Reps.tk k rr⟩
end
theorem RelS.tk (k : TK H H') : ∀ {τ : St'} {σ : L2.St}, RelS K H τ σ → RelS K H' τ σ
  | [], _, h => by unfold RelS at h ⊢; exact h
  | w :: τ, _, h => by
    unfold RelS at h ⊢
    obtain ⟨v, r, e, q, rr⟩ := h
    refine ⟨v, r, e, ?_, RelS.tk k rr⟩
    cases w with
    | none => trivial
    | some w =>
      obtain ⟨u, e1, q1⟩ := q
      exact ⟨u, e1, Rep.tk k q1⟩
theorem Reps.len : ∀ {ws : List W} {vs : List V}, Reps K H ws vs → vs.length = ws.length
  | [], _, h => by unfold Reps at h; subst h; rfl
  | w :: ws, _, h => by
    unfold Reps at h
    obtain ⟨v, r, e, _, rr⟩ := h
    subst e
    rw [List.length_cons, List.length_cons, Reps.len rr]
theorem Reps.app : ∀ {ws ws' : List W} {vs vs' : List V}, Reps K H ws vs → Reps K H ws' vs' → Reps K H (ws ++ ws') (vs ++ vs')
  | [], _, _, _, h, g => by unfold Reps at h; subst h; exact g
  | w :: ws, _, _, _, h, g => by
    unfold Reps at h
    obtain ⟨v, r, e, q, rr⟩ := h
    subst e
    rw [List.cons_append, List.cons_append]
    unfold Reps
    exact ⟨v, _, rfl, q, Reps.app rr g⟩
theorem Reps.one {w : W} {v : V} (h : Rep K H w v) : Reps K H [w] [v] := by
  unfold Reps
  exact ⟨v, [], rfl, h, by unfold Reps; rfl⟩
theorem Reps.get : ∀ {ws : List W} {vs : List V} {i : Nat} {w : W}, Reps K H ws vs → ws[i]? = some w → ∃ v, vs[i]? = some v ∧ Rep K H w v
  | [], _, _, _, _, e => by simp at e
  | x :: ws, _, 0, w, h, e => by
    unfold Reps at h
    obtain ⟨v, r, e1, q, _⟩ := h
    subst e1
    simp only [List.getElem?_cons_zero, Option.some.injEq] at e ⊢
    subst e
    exact ⟨v, rfl, q⟩
  | x :: ws, _, i + 1, w, h, e => by
    unfold Reps at h
    obtain ⟨v, r, e1, _, rr⟩ := h
    subst e1
    simp only [List.getElem?_cons_succ] at e ⊢
    exact Reps.get rr e
theorem Reps.set : ∀ {ws : List W} {vs : List V} {w : W} {v : V} (i : Nat), Reps K H ws vs → Rep K H w v → Reps K H (ws.set i w) (vs.set i v)
  | [], _, _, _, _, h, _ => by unfold Reps at h; subst h; simp only [List.set_nil]; unfold Reps; rfl
  | x :: ws, _, w, v, 0, h, g => by
    unfold Reps at h
    obtain ⟨y, r, e1, _, rr⟩ := h
    subst e1
    simp only [List.set_cons_zero]
    unfold Reps
    exact ⟨v, r, rfl, g, rr⟩
  | x :: ws, _, w, v, i + 1, h, g => by
    unfold Reps at h
    obtain ⟨y, r, e1, q, rr⟩ := h
    subst e1
    simp only [List.set_cons_succ]
    unfold Reps
    exact ⟨y, _, rfl, q, Reps.set i rr g⟩
theorem RelS.get : ∀ {τ : St'} {σ : L2.St} {i : Nat} {w : W}, RelS K H τ σ → τ[i]? = some (some w) → ∃ v, σ[i]? = some (some v) ∧ Rep K H w v
  | [], _, _, _, _, e => by simp at e
  | x :: τ, _, 0, w, h, e => by
    unfold RelS at h
    obtain ⟨v, r, e1, q, _⟩ := h
    subst e1
    simp only [List.getElem?_cons_zero, Option.some.injEq] at e ⊢
    subst e
    obtain ⟨u, e2, q2⟩ := q
    exact ⟨u, e2, q2⟩
  | x :: τ, _, i + 1, w, h, e => by
    unfold RelS at h
    obtain ⟨v, r, e1, _, rr⟩ := h
    subst e1
    simp only [List.getElem?_cons_succ] at e ⊢
    exact RelS.get rr e
theorem RelS.set : ∀ {τ : St'} {σ : L2.St} {w : W} {v : V} (i : Nat), RelS K H τ σ → Rep K H w v → RelS K H (τ.set i (some w)) (σ.set i (some v))
  | [], _, _, _, _, h, _ => by unfold RelS at h; subst h; simp only [List.set_nil]; unfold RelS; rfl
  | x :: τ, _, w, v, 0, h, g => by
    unfold RelS at h
    obtain ⟨y, r, e1, _, rr⟩ := h
    subst e1
    simp only [List.set_cons_zero]
    unfold RelS
    exact ⟨some v, r, rfl, ⟨v, rfl, g⟩, rr⟩
  | x :: τ, _, w, v, i + 1, h, g => by
    unfold RelS at h
    obtain ⟨y, r, e1, q, rr⟩ := h
    subst e1
    simp only [List.set_cons_succ]
    unfold RelS
    exact ⟨y, _, rfl, q, RelS.set i rr g⟩
theorem RelS.unset : ∀ {τ : St'} {σ : L2.St} (i : Nat), RelS K H τ σ → RelS K H (τ.set i none) (σ.set i none)
  | [], _, _, h => by unfold RelS at h; subst h; simp only [List.set_nil]; unfold RelS; rfl
  | x :: τ, _, 0, h => by
    unfold RelS at h
    obtain ⟨y, r, e1, _, rr⟩ := h
    subst e1
    simp only [List.set_cons_zero]
    unfold RelS
    exact ⟨none, r, rfl, trivial, rr⟩
  | x :: τ, _, i + 1, h => by
    unfold RelS at h
    obtain ⟨y, r, e1, q, rr⟩ := h
    subst e1
    simp only [List.set_cons_succ]
    unfold RelS
    exact ⟨y, _, rfl, q, RelS.unset i rr⟩
theorem RelS.nones : ∀ n : Nat, RelS K H (List.replicate n none) (List.replicate n none)
  | 0 => by unfold RelS; rfl
  | n + 1 => by
    rw [List.replicate_succ, List.replicate_succ]
    unfold RelS
    exact ⟨none, _, rfl, trivial, RelS.nones n⟩
theorem RelS.start : ∀ {ws : List W} {vs : List V} {n : Nat}, Reps K H ws vs → RelS K H (ws.map some ++ List.replicate n none) (vs.map some ++ List.replicate n none)
  | [], _, _, h => by unfold Reps at h; subst h; exact RelS.nones _
  | w :: ws, _, _, h => by
    unfold Reps at h
    obtain ⟨v, r, e, q, rr⟩ := h
    subst e
    rw [List.map_cons, List.map_cons, List.cons_append, List.cons_append]
    unfold RelS
    exact ⟨some v, _, rfl, ⟨v, rfl, q⟩, RelS.start rr⟩
/-- all objects but lists stay -/
def NL (H H' : Hp) : Prop := ∀ b o, H b = some o → (∀ l, o ≠ .lst l) → H' b = some o
theorem NL.tk (n : NL H H') : TK H H' := ⟨fun b xs e => n b _ e (fun _ z => by cases z), fun b o u e => n b _ e (fun _ z => by cases z), fun b ps e => tbl_same (n b _ e (fun _ z => by cases z))⟩
theorem NL.put {a : Addr} {o : HO} (h : H a = none ∨ ∃ l, H a = some (.lst l)) : NL H (upd H a o) := fun b u e n => by
  have ne : b ≠ a := fun z => by
    subst z
    rcases h with h | ⟨l, h⟩
    · rw [h] at e; cases e
    · rw [h] at e; cases e; exact n l rfl
  rw [upd_ne ne]
  exact e
theorem NL.tabs {T : Tb} (n : NL H H') (t : LamX.Tabs T H) : LamX.Tabs T H' := fun p hp => by
  obtain ⟨ps, h1, h2, h3⟩ := t p hp
  refine ⟨ps, n _ _ h1 (fun _ z => by cases z), h2, fun pos cv hc => ?_⟩
  obtain ⟨c, e1, e2⟩ := h3 pos cv hc
  exact ⟨c, e1, n _ _ e2 (fun _ z => by unfold LamX.CodeO at z; cases z)⟩
theorem Pl.nl (n : NL H H') {d : Option Addr} : ∀ {p : Option (Str × W)}, Pl K H d p → Pl K H' d p
  | none, h => h
  | some (m, w), ⟨dd, v, e1, e2, r⟩ => ⟨dd, v, e1, n _ _ e2 (fun _ z => by cases z), Rep.tk n.tk r⟩
theorem ObR.upd {a p : Addr} {o : HO} {ob : Ob} (hp : H p = none ∨ ∃ l, H p = some (.lst l)) (ne : a ≠ p) (h : ObR K H a ob) : ObR K (upd H p o) a ob := by
  have n : NL H (L2.upd H p o) := NL.put hp
  cases ob with
  | lst ws =>
    obtain ⟨vs, e, r⟩ := h
    exact ⟨vs, by rw [upd_ne ne]; exact e, Reps.tk n.tk r⟩
  | exc C q =>
    obtain ⟨oe, e, c, d, pl⟩ := h
    exact ⟨oe, by rw [upd_ne ne]; exact e, c, d, Pl.nl n pl⟩
theorem RelH.putL {p : Addr} {ws : List W} {vs : List V} (h : RelH K H T M) (hp : H p = none ∨ ∃ l, H p = some (.lst l)) (r : Reps K H ws vs) : RelH K (upd H p (.lst vs)) T (put M p (.lst ws)) := by
  have n : NL H (L2.upd H p (.lst vs)) := NL.put hp
  refine ⟨fun a o e => ?_, n.tabs h.tabs⟩
  by_cases hb : a = p
  · subst hb
    rw [put_same] at e
    cases e
    exact ⟨vs, upd_same, Reps.tk n.tk r⟩
  · rw [put_ne hb] at e
    exact (h.obs a o e).upd hp hb
theorem RelH.new {p : Addr} {o : HO} (h : RelH K H T M) (hp : H p = none) : RelH K (upd H p o) T M := by
  have n : NL H (L2.upd H p o) := NL.put (.inl hp)
  refine ⟨fun a ob e => ?_, n.tabs h.tabs⟩
  by_cases hb : a = p
  · subst hb
    cases ob with
    | lst ws => obtain ⟨vs, e1, _⟩ := h.obs a _ e; rw [hp] at e1; cases e1
    | exc C q => obtain ⟨oe, e1, _⟩ := h.obs a _ e; rw [hp] at e1; cases e1
  · exact (h.obs a ob e).upd (.inl hp) hb
end
end Ev

namespace Ev
open PySem PySem.Spec PyProof.Rows L2

/-! ### what lies behind a call -/
def CRv (K : PySem.W.Frag) (T : Tb) (Q : QK) : VK := fun v H' => ∃ w M', Rep K H' w v ∧ RelH K H' T M' ∧ Q w M'
def CRe (K : PySem.W.Frag) (T : Tb) (E : EK) : XK := fun cls d H' => ∃ C p M', cls = .ref C ∧ Pl K H' d p ∧ RelH K H' T M' ∧ E C p M'
/-- the level that a closure's body may use -/
def KK : Nat := 100
/-- a closure of the frames stk that wait at (H, s): wherever it is called above them it does what tl tells -/
structure Clo (P : Program) (w : World) (K : PySem.W.Frag) (mg : Str → Option Value) (base : Heap) (T : Tb) (stk : List Env) (H : Hp) (s : Shared) (f : Addr) (tl : TL) : Prop where
  fn : PySem.W.FnAt f s.heap
  nH : H f = none
  nf : f ∉ frs stk
  run : ∀ (A' : Around) (stk' : List Env) (s' : Shared) (H' : Hp) (M' : Mp) (Q : QK) (E : EK), Un (frs stk) [] H H' s.heap s'.heap → Room KK A' → Env0 P w K mg base A' stk' s' H' → RelH K H' T M' → tl M' Q E →
    codeAny (model P w) A' (.call (.ref f) ⟨[], []⟩) (CR (L2N.CX P w) stk' P w H' s' (CRv K T Q) (CRe K T E)) s'
abbrev SpW := Lm → List W → Mp → QK → EK → Prop
structure FnW (P : Program) (w : World) (K : PySem.W.Frag) (mg : Str → Option Value) (base : Heap) (T : Tb) (k : Nat) (f : Addr) (fd : FuncData) (ps : List Str) (sp : SpW) : Prop where
  run : ∀ (A : Around) (outer : List Env) (s : Shared) (H : Hp) (args : Args) (us : List Value) (vs : List V) (ws : List W) (L : Lm) (M : Mp) (Q : QK) (E : EK), Room k A → Env0 P w K mg base A outer s H → BindsTo s fd args (ps.zip us) → Vals vs us → Reps K H ws vs → RelH K H T M →
    (∀ g tl, L g = some tl → Clo P w K mg base T outer H s g tl) → ws.length = ps.length → sp L ws M Q E → codeAny (model P w) A (.call (.ref f) args) (CR (L2N.CX P w) outer P w H s (CRv K T Q) (CRe K T E)) s

/-! ### a state and its shadow -/
section
variable (T : Tb) (L : Lm) (X : Cx)
def Live : Prop := ∀ f tl, L f = some tl → Clo X.prog X.w X.K X.mg X.base T X.outer X.H_0 X.s_0 f tl
structure SR (H : Hp) (τ : St') (σ : L2.St) (M : Mp) : Prop where
  rs : RelS X.K H τ σ
  rh : RelH X.K H T M
  lv : Live T L X
  ex0 : X.ex = [] ∨ ∀ f, L f = none
def TakesS (H : Hp) (ex : EX) : Prop := L2N.Takes X (fun cls d σ' H' => TK H H' ∧ ∃ C p τ' M', cls = .ref C ∧ Pl X.K H' d p ∧ RelS X.K H' τ' σ' ∧ RelH X.K H' T M' ∧ ex C p τ' M')
def EPW (pins : List (Addr × Obj)) (σ : L2.St) (H : Hp) (Q : QK) (u : Value) (s' : Shared) : Prop := ∃ v H' w M', Inv X pins σ H' s' ∧ RelV v u ∧ TK H H' ∧ Rep X.K H' w v ∧ RelH X.K H' T M' ∧ Q w M'
def ups (H : Hp) (Q : QK) : VK := fun v H' => ∃ w M', TK H H' ∧ Rep X.K H' w v ∧ RelH X.K H' T M' ∧ Q w M'
structure PEW (e : Expr) (t : TEW) : Prop where
  run : ∀ (pins : List (Addr × Obj)) (s : Shared) (σ : L2.St) (H : Hp) (τ : St') (M : Mp) (Q : QK) (ex : EX), Inv X pins σ H s → SR T L X H τ σ M → TakesS T X H ex → t τ M Q (fun C p M' => ex C p τ M') →
    wpAny (model X.prog X.w) X.A (eval e X.env) (EP X pins σ (ups T X H Q)) X.xe s
def upt (H : Hp) (Q : Bool → Mp → Prop) : Bool → Hp → Prop := fun b H' => ∃ M', TK H H' ∧ RelH X.K H' T M' ∧ Q b M'
structure PTW (e : Expr) (t : TTW) : Prop where
  run : ∀ (pins : List (Addr × Obj)) (s : Shared) (σ : L2.St) (H : Hp) (τ : St') (M : Mp) (Q : Bool → Mp → Prop) (ex : EX), Inv X pins σ H s → SR T L X H τ σ M → TakesS T X H ex → t τ M Q (fun C p M' => ex C p τ M') →
    wpAny (model X.prog X.w) X.A (isTrue e X.env (eval e X.env)) (TP X pins σ (upt T X H Q)) X.xe s
def upa (H : Hp) (n : Nat) (Q : List W → Mp → Prop) : List V → Hp → Prop := fun vs H' => ∃ ws M', TK H H' ∧ Reps X.K H' ws vs ∧ RelH X.K H' T M' ∧ ws.length = n ∧ Q ws M'
structure PAW (es : List Expr) (t : TAW) : Prop where
  run : ∀ (pos : Pos) (pins : List (Addr × Obj)) (s : Shared) (σ : L2.St) (H : Hp) (τ : St') (M : Mp) (Q : List W → Mp → Prop) (ex : EX), Inv X pins σ H s → SR T L X H τ σ M → TakesS T X H ex → t τ M Q (fun C p M' => ex C p τ M') →
    wpAny (model X.prog X.w) X.A (spliced (backTo pos (starEach es X.env))) (AP X pins σ (upa T X H es.length Q)) X.xe s
def dnE (t : TEW) : TE := fun σ H Q => ∃ τ M Qw ex, SR T L X H τ σ M ∧ TakesS T X H ex ∧ t τ M Qw (fun C p M' => ex C p τ M') ∧ ∀ v H', ups T X H Qw v H' → Q v H'
def dnT (t : TTW) : TT := fun σ H Q => ∃ τ M Qw ex, SR T L X H τ σ M ∧ TakesS T X H ex ∧ t τ M Qw (fun C p M' => ex C p τ M') ∧ ∀ b H', upt T X H Qw b H' → Q b H'
def dnA (n : Nat) (t : TAW) : TA := fun σ H Q => ∃ τ M Qw ex, SR T L X H τ σ M ∧ TakesS T X H ex ∧ t τ M Qw (fun C p M' => ex C p τ M') ∧ ∀ vs H', upa T X H n Qw vs H' → Q vs H'
end
section
variable {T : Tb} {L : Lm} {X : Cx}
theorem TakesS.on {H H' : Hp} {ex : EX} (t : TakesS T X H ex) (k : TK H H') : TakesS T X H' ex := L2N.Takes.imp t fun _ _ _ _ ⟨k2, z⟩ => ⟨k.trans k2, z⟩
theorem SR.nx {H H' : Hp} {τ : St'} {σ : L2.St} {M M' : Mp} (r : SR T L X H τ σ M) (k : TK H H') (h : RelH X.K H' T M') : SR T L X H' τ σ M' := ⟨r.rs.tk k, h, r.lv, r.ex0⟩
theorem PEW.dn {e : Expr} {t : TEW} (h : PEW T L X e t) : PE X e (dnE T L X t) := by
  refine ⟨fun pins s σ H Q I ⟨τ, M, Qw, ex, r, tk, q, g⟩ => thn (h.run pins s σ H τ M Qw ex I r tk q) fun u s1 hh => ?_⟩
  obtain ⟨v, H', I', rv, z⟩ := hh
  exact ⟨v, H', I', rv, g v H' z⟩
theorem PTW.dn {e : Expr} {t : TTW} (h : PTW T L X e t) : PT X e (dnT T L X t) := by
  refine ⟨fun pins s σ H Q I ⟨τ, M, Qw, ex, r, tk, q, g⟩ => thn (h.run pins s σ H τ M Qw ex I r tk q) fun u s1 hh => ?_⟩
  obtain ⟨H', I', z⟩ := hh
  exact ⟨H', I', g u H' z⟩
theorem PAW.dn {es : List Expr} {t : TAW} (h : PAW T L X es t) : PA X es (dnA T L X es.length t) := by
  refine ⟨fun pos pins s σ H Q I ⟨τ, M, Qw, ex, r, tk, q, g⟩ => thn (h.run pos pins s σ H τ M Qw ex I r tk q) fun u s1 hh => ?_⟩
  obtain ⟨v, H', I', rv, z⟩ := hh
  exact ⟨v, H', I', rv, g v H' z⟩
/-- from a rule of the hand layer -/
theorem PEW.up {e : Expr} {t : TEW} {t' : TE} (h : PE X e t') (g : ∀ (σ : L2.St) (H : Hp) (τ : St') (M : Mp) (Q : QK) (ex : EX), SR T L X H τ σ M → TakesS T X H ex → t τ M Q (fun C p M' => ex C p τ M') → t' σ H (ups T X H Q)) : PEW T L X e t :=
  ⟨fun pins s σ H τ M Q ex I r tk q => h.run pins s σ H _ I (g σ H τ M Q ex r tk q)⟩
theorem PTW.up {e : Expr} {t : TTW} {t' : TT} (h : PT X e t') (g : ∀ (σ : L2.St) (H : Hp) (τ : St') (M : Mp) (Q : Bool → Mp → Prop) (ex : EX), SR T L X H τ σ M → TakesS T X H ex → t τ M Q (fun C p M' => ex C p τ M') → t' σ H (upt T X H Q)) : PTW T L X e t :=
  ⟨fun pins s σ H τ M Q ex I r tk q => h.run pins s σ H _ I (g σ H τ M Q ex r tk q)⟩
theorem PAW.up {es : List Expr} {t : TAW} {t' : TA} (h : PA X es t') (g : ∀ (σ : L2.St) (H : Hp) (τ : St') (M : Mp) (Q : List W → Mp → Prop) (ex : EX), SR T L X H τ σ M → TakesS T X H ex → t τ M Q (fun C p M' => ex C p τ M') → t' σ H (upa T X H es.length Q)) : PAW T L X es t :=
  ⟨fun pos pins s σ H τ M Q ex I r tk q => h.run pos pins s σ H _ I (g σ H τ M Q ex r tk q)⟩
/-- one part evaluated, then on -/
theorem dn1 {σ : L2.St} {H : Hp} {τ : St'} {M : Mp} {ex : EX} {t : TEW} {Qw : QK} {Q : VK} (r : SR T L X H τ σ M) (tk : TakesS T X H ex) (h : t τ M Qw (fun C p M' => ex C p τ M'))
    (g : ∀ (w : W) (M' : Mp) (v : V) (H' : Hp), TK H H' → SR T L X H' τ σ M' → TakesS T X H' ex → Rep X.K H' w v → Qw w M' → Q v H') : dnE T L X t σ H Q :=
  ⟨τ, M, Qw, ex, r, tk, h, fun v H' ⟨w, M', k, rp, rh, q⟩ => g w M' v H' k (r.nx k rh) (tk.on k) rp q⟩
theorem dn1T {σ : L2.St} {H : Hp} {τ : St'} {M : Mp} {ex : EX} {t : TTW} {Qw : Bool → Mp → Prop} {Q : Bool → Hp → Prop} (r : SR T L X H τ σ M) (tk : TakesS T X H ex) (h : t τ M Qw (fun C p M' => ex C p τ M'))
    (g : ∀ (b : Bool) (M' : Mp) (H' : Hp), TK H H' → SR T L X H' τ σ M' → TakesS T X H' ex → Qw b M' → Q b H') : dnT T L X t σ H Q :=
  ⟨τ, M, Qw, ex, r, tk, h, fun b H' ⟨M', k, rh, q⟩ => g b M' H' k (r.nx k rh) (tk.on k) q⟩
theorem dn1A {σ : L2.St} {H : Hp} {τ : St'} {M : Mp} {ex : EX} {n : Nat} {t : TAW} {Qw : List W → Mp → Prop} {Q : List V → Hp → Prop} (r : SR T L X H τ σ M) (tk : TakesS T X H ex) (h : t τ M Qw (fun C p M' => ex C p τ M'))
    (g : ∀ (ws : List W) (M' : Mp) (vs : List V) (H' : Hp), TK H H' → SR T L X H' τ σ M' → TakesS T X H' ex → Reps X.K H' ws vs → ws.length = n → Qw ws M' → Q vs H') : dnA T L X n t σ H Q :=
  ⟨τ, M, Qw, ex, r, tk, h, fun v H' ⟨w, M', k, rp, rh, hl, q⟩ => g w M' v H' k (r.nx k rh) (tk.on k) rp hl q⟩
/-- the end: a value over the same heap -/
theorem upsI {H H' : Hp} {Q : QK} {w : W} {v : V} {M : Mp} (k : TK H H') (rp : Rep X.K H' w v) (rh : RelH X.K H' T M) (q : Q w M) : ups T X H Q v H' := ⟨w, M, k, rp, rh, q⟩

/-! ### names, constants, arguments -/
def tC (w : W) : TEW := fun _ M Q _ => Q w M
def tV (i : Nat) : TEW := fun τ M Q _ => match τ[i]? with | some (some w) => Q w M | _ => False
variable {e a b : Expr} {es : List Expr} {t ta tb : TEW} {pos p : Pos}
theorem w_var (i : Nat) {x : Str} (hN : X.N[i]? = some x) (hv : Vis X.env.scope x) (hd : (x == ("__debug__" : Str)) = false := by decide) (hcd : (x == ("__classdict__" : Str)) = false := by decide) : PEW T L X (.Name x pos) (tV i) := by
  refine .up (pe_var hN hv hd hcd) fun σ H τ M Q ex r tk q => ?_
  unfold tV at q
  split at q
  · rename_i w e
    obtain ⟨v, e1, rp⟩ := r.rs.get e
    exact ⟨v, e1, upsI (TK.refl H) rp r.rh q⟩
  · exact q.elim
theorem w_int {i : Int} {j : Nat} : PEW T L X (.Constant (.int i) j pos) (tC (.int i)) := .up pe_int fun σ H τ M Q ex r tk q => upsI (TK.refl H) (by unfold Rep; rfl) r.rh q
theorem w_bl {i : Bool} {j : Nat} : PEW T L X (.Constant (.bool i) j pos) (tC (.bl i)) := .up pe_bl fun σ H τ M Q ex r tk q => upsI (TK.refl H) (by unfold Rep; rfl) r.rh q
theorem w_str {i : Str} {j : Nat} : PEW T L X (.Constant (.str i) j pos) (tC (.str i)) := .up pe_str fun σ H τ M Q ex r tk q => upsI (TK.refl H) (by unfold Rep; rfl) r.rh q
theorem w_non {j : Nat} : PEW T L X (.Constant .none j pos) (tC .non) := .up pe_non fun σ H τ M Q ex r tk q => upsI (TK.refl H) (by unfold Rep; rfl) r.rh q
/-- a value of the module -/
def GlV (K : PySem.W.Frag) (u : Value) (w : W) : Prop := ∃ v, RelV v u ∧ ∀ H, Rep K H w v
theorem w_glob {x : Str} {u : Value} {w : W} (hg : Gl X x) (hm : X.mg x = some u) (g : GlV X.K u w) (hd : (x == ("__debug__" : Str)) = false := by decide) : PEW T L X (.Name x pos) (tC w) := by
  obtain ⟨v, rv, rp⟩ := g
  exact .up (pe_glob hg hm rv hd) fun σ H τ M Q ex r tk q => upsI (TK.refl H) (rp H) r.rh q
theorem w_bltn {x : Str} {v : V} {u : Value} {w : W} (hg : Gl X x) (hm : X.mg x = none) (hv : bootBuiltins x = some u) (rv : RelV v u) (rp : ∀ H, Rep X.K H w v) (hn : x ≠ "__name__" := by decide) (hd : (x == ("__debug__" : Str)) = false := by decide) : PEW T L X (.Name x pos) (tC w) :=
  .up (pe_bltn hg hm hv rv hn hd) fun σ H τ M Q ex r tk q => upsI (TK.refl H) (rp H) r.rh q
def aNil : TAW := fun _ M Q _ => Q [] M
def aCons (t : TEW) (u : TAW) : TAW := fun τ M Q E => t τ M (fun x M1 => u τ M1 (fun xs M2 => Q (x :: xs) M2) E) E
theorem a_nil : PAW T L X [] aNil := .up pa_nil fun σ H τ M Q ex r tk q => ⟨[], M, TK.refl H, by unfold Reps; rfl, r.rh, rfl, q⟩
theorem a_cons {u : TAW} (h : PEW T L X e t) (g : PAW T L X es u) (hs : starEach (e :: es) X.env = (false, eval e X.env) :: starEach es X.env := by rfl) : PAW T L X (e :: es) (aCons t u) := by
  refine .up (pa_cons h.dn g.dn hs) fun σ H τ M Q ex r tk q => ?_
  refine dn1 r tk q fun w M1 v H1 k1 r1 tk rp1 q1 => ?_
  refine dn1A r1 tk q1 fun ws M2 vs H2 k2 r2 tk rp2 hl q2 => ?_
  exact ⟨w :: ws, M2, k1.trans k2, by unfold Reps; exact ⟨v, vs, rfl, rp1.tk k2, rp2⟩, r2.rh, by rw [List.length_cons, hl]; rfl, q2⟩
theorem line1000 : 1000 ≤ sizeLine := by rw [sizeLine_eq]; decide
def tTup (u : TAW) : TEW := fun τ M Q E => u τ M (fun ws M1 => Q (.tup ws) M1) E
def tLst (u : TAW) : TEW := fun τ M Q E => u τ M (fun ws M1 => ∀ p, M1 p = none → Q (.ref p) (put M1 p (.lst ws))) E
theorem RelH.free {K : PySem.W.Frag} {H : Hp} {M : Mp} {q : Addr} (h : RelH K H T M) (hp : H q = none) : M q = none := by
  cases e : M q with
  | none => rfl
  | some o =>
    have z := h.obs q o e
    cases o with
    | lst ws => obtain ⟨vs, e1, _⟩ := z; rw [hp] at e1; cases e1
    | exc C pl => obtain ⟨oe, e1, _⟩ := z; rw [hp] at e1; cases e1
theorem w_tup {x1 : Nat} {u : TAW} (h : PAW T L X es u) (hl : es.length ≤ 1000 := by decide) : PEW T L X (.Tuple es x1 pos) (tTup u) := by
  refine .up (pe_tup h.dn) fun σ H τ M Q ex r tk q => ?_
  refine dn1A r tk q fun ws M1 vs H1 k1 r1 tk rp1 hn q1 => ⟨?_, fun p hp => ?_⟩
  · rw [rp1.len, hn]
    exact Nat.le_trans hl line1000
  · have n1 : TK H1 (upd H1 p (.tup vs)) := (NL.put (.inl hp)).tk
    exact upsI (k1.trans n1) (by unfold Rep; exact ⟨p, vs, rfl, SqT.of upd_same, rp1.tk n1⟩) (r1.rh.new hp) q1
end
end Ev
namespace Ev
open PySem PySem.Spec PyProof.Rows L2
section
variable {T : Tb} {L : Lm} {X : Cx} {e a b c : Expr} {es : List Expr} {t ta tb tc : TEW} {pos p : Pos}
theorem w_lst {u : TAW} (h : PAW T L X es u) (hl : es.length ≤ 1000 := by decide) : PEW T L X (.List es pos) (tLst u) := by
  refine .up (pe_lst h.dn) fun σ H τ M Q ex r tk q => ?_
  refine dn1A r tk q fun ws M1 vs H1 k1 r1 tk rp1 hn q1 => ⟨?_, fun p hp => ?_⟩
  · rw [rp1.len, hn]
    exact Nat.le_trans hl line1000
  · have n1 : TK H1 (upd H1 p (.lst vs)) := (NL.put (.inl hp)).tk
    exact upsI (k1.trans n1) (by unfold Rep; rfl) (r1.rh.putL (.inl hp) rp1) (q1 p (r1.rh.free hp))

/-! ### operators -/
abbrev RW2 := W → W → Mp → QK → Prop
/-- a rule by values, shadowed -/
def Gl2 (T : Tb) (X : Cx) (r : R2) (rw : RW2) : Prop := ∀ (H : Hp) (M : Mp) (x y : W) (v u : V) (Q : QK), RelH X.K H T M → Rep X.K H x v → Rep X.K H y u → rw x y M Q → r v u H (ups T X H Q)
def tOp (rw : RW2) (ta tb : TEW) : TEW := fun τ M Q E => ta τ M (fun x M1 => tb τ M1 (fun y M2 => rw x y M2 Q) E) E
theorem ups.trans {H H1 : Hp} {Q : QK} {v : V} {H' : Hp} (k : TK H H1) (h : ups T X H1 Q v H') : ups T X H Q v H' := by
  obtain ⟨w, M, k1, rp, rh, q⟩ := h
  exact ⟨w, M, k.trans k1, rp, rh, q⟩
theorem r2_mono {r : R2} {v u : V} {H : Hp} {Q Q' : VK} (ho : ∀ (Q Q' : VK), (∀ z H', Q z H' → Q' z H') → r v u H Q → r v u H Q') (g : ∀ z H', Q z H' → Q' z H') (h : r v u H Q) : r v u H Q' := ho Q Q' g h
/-- both sides, then the rule: for any PE that reads tOp r -/
theorem op_dn {r : R2} {rw : RW2} (gl : Gl2 T X r rw) {σ : L2.St} {H : Hp} {τ : St'} {M : Mp} {Q : QK} {ex : EX} (r0 : SR T L X H τ σ M) (tk : TakesS T X H ex) (q : tOp rw ta tb τ M Q (fun C p M' => ex C p τ M'))
    (mono : ∀ (v u : V) (H : Hp) (Q Q' : VK), (∀ z H', Q z H' → Q' z H') → r v u H Q → r v u H Q') : L2.tOp r (dnE T L X ta) (dnE T L X tb) σ H (ups T X H Q) := by
  refine dn1 r0 tk q fun x M1 v H1 k1 r1 tk rp1 q1 => ?_
  refine dn1 r1 tk q1 fun y M2 u H2 k2 r2 tk rp2 q2 => ?_
  exact mono v u H2 _ _ (fun z H' hz => ups.trans (k1.trans k2) hz) (gl H2 M2 x y v u Q r2.rh (rp1.tk k2) rp2 q2)
def Mono2 (r : R2) : Prop := ∀ (v u : V) (H : Hp) (Q Q' : VK), (∀ z H', Q z H' → Q' z H') → r v u H Q → r v u H Q'
theorem w_bin {op : Operator} {r : R2} {rw : RW2} (ho : OpR X (binaryOp op) r) (gl : Gl2 T X r rw) (mo : Mono2 r) (ha : PEW T L X a ta) (hb : PEW T L X b tb) : PEW T L X (.BinOp a op b pos) (tOp rw ta tb) :=
  .up (pe_op ho ha.dn hb.dn) fun _ _ _ _ _ _ r0 tk q => op_dn gl r0 tk q mo
theorem w_cmp {op : CmpOp} {r : R2} {rw : RW2} (ho : OpR X (compareOp op) r) (gl : Gl2 T X r rw) (mo : Mono2 r) (ha : PEW T L X a ta) (hb : PEW T L X b tb) (hm : behindInMarks op b = false) : PEW T L X (.Compare a [op] [b] pos) (tOp rw ta tb) :=
  .up (pe_cmpR ho ha.dn hb.dn hm) fun _ _ _ _ _ _ r0 tk q => op_dn gl r0 tk q mo
theorem w_ix {r : R2} {rw : RW2} (ho : IxR X r) (gl : Gl2 T X r rw) (mo : Mono2 r) (ha : PEW T L X a ta) (hb : PEW T L X b tb) (hs : PlainIx b) : PEW T L X (.Subscript a b pos) (tOp rw ta tb) :=
  .up (pe_ix ho ha.dn hb.dn hs) fun _ _ _ _ _ _ r0 tk q => op_dn gl r0 tk q mo
theorem mono_or {r r' : R2} (a : Mono2 r) (b : Mono2 r') : Mono2 (fun x y H Q => r x y H Q ∨ r' x y H Q) := fun v u H Q Q' g h => h.elim (fun z => .inl (a v u H Q Q' g z)) fun z => .inr (b v u H Q Q' g z)
theorem mono_I0 {g : Int → Int → V} : Mono2 (rI0 g) := fun _ _ _ _ _ f ⟨i, j, h1, h2, q⟩ => ⟨i, j, h1, h2, f _ _ q⟩
theorem mono_I {C : Int → Int → Prop} {g : Int → Int → V} : Mono2 (rI C g) := fun _ _ _ _ _ f ⟨i, j, h1, h2, c, q⟩ => ⟨i, j, h1, h2, c, f _ _ q⟩

theorem rep_int {K : PySem.W.Frag} {H : Hp} {i : Int} : Rep K H (.int i) (.int i) := by unfold Rep; rfl
theorem rep_bl {K : PySem.W.Frag} {H : Hp} {i : Bool} : Rep K H (.bl i) (.bl i) := by unfold Rep; rfl
theorem rep_str {K : PySem.W.Frag} {H : Hp} {i : Str} : Rep K H (.str i) (.str i) := by unfold Rep; rfl
theorem rep_non {K : PySem.W.Frag} {H : Hp} : Rep K H .non .non := by unfold Rep; rfl
theorem rep_ref {K : PySem.W.Frag} {H : Hp} {q : Addr} : Rep K H (.ref q) (.ref q) := by unfold Rep; rfl
theorem Rep.int {K : PySem.W.Frag} {H : Hp} {i : Int} {v : V} (h : Rep K H (.int i) v) : v = .int i := by unfold Rep at h; exact h
theorem Rep.bl {K : PySem.W.Frag} {H : Hp} {i : Bool} {v : V} (h : Rep K H (.bl i) v) : v = .bl i := by unfold Rep at h; exact h
theorem Rep.str {K : PySem.W.Frag} {H : Hp} {i : Str} {v : V} (h : Rep K H (.str i) v) : v = .str i := by unfold Rep at h; exact h
theorem Rep.non {K : PySem.W.Frag} {H : Hp} {v : V} (h : Rep K H .non v) : v = .non := by unfold Rep at h; exact h
theorem Rep.ref {K : PySem.W.Frag} {H : Hp} {q : Addr} {v : V} (h : Rep K H (.ref q) v) : v = .ref q := by unfold Rep at h; exact h
theorem Rep.ty {K : PySem.W.Frag} {H : Hp} {q : String} {v : V} (h : Rep K H (.ty q) v) : v = .ty q := by unfold Rep at h; exact h
theorem Rep.tup {K : PySem.W.Frag} {H : Hp} {q : List W} {v : V} (h : Rep K H (.tup q) v) : ∃ a vs, v = .ref a ∧ SqT K H a vs ∧ Reps K H q vs := by unfold Rep at h; exact h
theorem Rep.rol {K : PySem.W.Frag} {H : Hp} {q : List W} {v : V} (h : Rep K H (.rol q) v) : ∃ a vs, v = .ref a ∧ SqF K H a vs ∧ Reps K H q vs := by unfold Rep at h; exact h

/-- an operator of two ints -/
def wI (C : Int → Int → Prop) (g : Int → Int → W) : RW2 := fun x y M Q => match x, y with
  | .int i, .int j => C i j ∧ Q (g i j) M
  | _, _ => False
theorem gl_I {C : Int → Int → Prop} {g : Int → Int → V} {gw : Int → Int → W} (hg : ∀ i j K H, Rep K H (gw i j) (g i j)) : Gl2 T X (rI C g) (wI C gw) := by
  intro H M x y v u Q rh rx ry q
  unfold wI at q
  split at q
  · obtain ⟨c, q⟩ := q
    exact ⟨_, _, rx.int, ry.int, c, upsI (TK.refl H) (hg _ _ _ _) rh q⟩
  · exact q.elim
def wI0 (g : Int → Int → W) : RW2 := fun x y M Q => match x, y with
  | .int i, .int j => Q (g i j) M
  | _, _ => False
theorem gl_I0 {g : Int → Int → V} {gw : Int → Int → W} (hg : ∀ i j K H, Rep K H (gw i j) (g i j)) : Gl2 T X (rI0 g) (wI0 gw) := by
  intro H M x y v u Q rh rx ry q
  unfold wI0 at q
  split at q
  · exact ⟨_, _, rx.int, ry.int, upsI (TK.refl H) (hg _ _ _ _) rh q⟩
  · exact q.elim
/-- what a product asks -/
def MulOk (i j : Int) : Prop := CMulX i j
theorem mulOk_of {i j : Int} {a b : Nat} (ha : i.natAbs < 2 ^ a) (hb : j.natAbs < 2 ^ b) (h : a + b ≤ 134217728) : MulOk i j := mulx_ok ha hb h
def ShlOk (i j : Int) : Prop := CShl i j
theorem shlOk_of {i : Int} {j n : Nat} (h : i.natAbs < 2 ^ n) (hn : n + j ≤ 134217728) : ShlOk i (j : Int) := shl_ok h hn
def DivOk (i j : Int) : Prop := j ≠ 0 ∧ Builtin.divisionGoesByPylong i j = false
theorem divOk_small {i j : Int} (h0 : j ≠ 0) (h : j.natAbs < 1073741824) : DivOk i j := ⟨h0, PyProof.noPylong_small h⟩
theorem divOk_wide {i j : Int} (h0 : j ≠ 0) (h : j.natAbs.log2 < 9000) : DivOk i j := ⟨h0, PyProof.noPylong_of_log2 h⟩
theorem op_divW : OpR X (binaryOp .FloorDiv) (rI DivOk fun i j => .int (i.fdiv j)) := opI fun _ _ _ _ _ _ _ hc q => floordiv_int hc.1 q (.inl hc.2)
/-- sums: ints, texts -/
def wAdd : RW2 := fun x y M Q => match x, y with
  | .int i, .int j => Q (.int (i + j)) M
  | .str i, .str j => i.length + j.length ≤ sizeLine ∧ Q (.str (i ++ j)) M
  | .tup xs, .tup ys => xs ≠ [] ∧ xs.length + ys.length ≤ sizeLine ∧ Q (.tup (xs ++ ys)) M
  | .ref a, .ref b => ∃ xs ys, M a = some (.lst xs) ∧ M b = some (.lst ys) ∧ xs.length + ys.length ≤ sizeLine ∧ ∀ p, M p = none → Q (.ref p) (put M p (.lst (xs ++ ys)))
  | _, _ => False
def rAddA (K : PySem.W.Frag) : R2 := fun x y H Q => (∃ i j, x = .int i ∧ y = .int j ∧ Q (.int (i + j)) H) ∨ (∃ i j, x = .str i ∧ y = .str j ∧ i.length + j.length ≤ sizeLine ∧ Q (.str (i ++ j)) H) ∨ rCatT K x y H Q ∨ rCat x y H Q
theorem op_addA : OpR X (binaryOp .Add) (rAddA X.K) := OpR.or op_add (OpR.or op_add_str (OpR.or op_catT op_cat))
theorem mono_addA {K : PySem.W.Frag} : Mono2 (rAddA K) := by
  intro v u H Q Q' f h
  rcases h with ⟨i, j, h1, h2, q⟩ | ⟨i, j, h1, h2, h3, q⟩ | ⟨a, b, xs, ys, h1, h2, h3, h4, h5, h6, q, q2⟩ | ⟨a, b, xs, ys, h1, h2, h3, h4, h5, q⟩
  · exact .inl ⟨i, j, h1, h2, f _ _ q⟩
  · exact .inr (.inl ⟨i, j, h1, h2, h3, f _ _ q⟩)
  · exact .inr (.inr (.inl ⟨a, b, xs, ys, h1, h2, h3, h4, h5, h6, fun e => f _ _ (q e), fun e p hp => f _ _ (q2 e p hp)⟩))
  · exact .inr (.inr (.inr ⟨a, b, xs, ys, h1, h2, h3, h4, h5, fun p hp => f _ _ (q p hp)⟩))
theorem gl_addA : Gl2 T X (rAddA X.K) wAdd := by
  intro H M x y v u Q rh rx ry q
  unfold wAdd at q
  split at q
  · exact .inl ⟨_, _, rx.int, ry.int, upsI (TK.refl H) rep_int rh q⟩
  · exact .inr (.inl ⟨_, _, rx.str, ry.str, q.1, upsI (TK.refl H) rep_str rh q.2⟩)
  · obtain ⟨a, vs, e1, s1, p1⟩ := rx.tup
    obtain ⟨b, us, e2, s2, p2⟩ := ry.tup
    obtain ⟨n0, hl, q⟩ := q
    refine .inr (.inr (.inl ⟨a, b, vs, us, e1, e2, s1, s2, fun z => n0 ?_, by rw [p1.len, p2.len]; exact hl, fun z => ?_, fun z p hp => ?_⟩))
    · have := p1.len
      rw [z] at this
      exact List.eq_nil_of_length_eq_zero this.symm
    · have := p2.len
      rw [z] at this
      have e3 := List.eq_nil_of_length_eq_zero this.symm
      subst e3
      rw [List.append_nil] at q
      exact upsI (TK.refl H) (e1 ▸ rx) rh q
    · have n1 : TK H (upd H p (.tup (vs ++ us))) := (NL.put (.inl hp)).tk
      exact upsI n1 (by unfold Rep; exact ⟨p, _, rfl, SqT.of upd_same, (p1.app p2).tk n1⟩) (rh.new hp) q
  · obtain ⟨xs, ys, h1, h2, h3, q⟩ := q
    obtain ⟨vs, e1, p1⟩ := rh.obs _ _ h1
    obtain ⟨us, e2, p2⟩ := rh.obs _ _ h2
    refine .inr (.inr (.inr ⟨_, _, vs, us, rx.ref, ry.ref, e1, e2, by rw [p1.len, p2.len]; exact h3, fun p hp => ?_⟩))
    exact upsI (NL.put (.inl hp)).tk rep_ref (rh.putL (.inl hp) (p1.app p2)) (q p (rh.free hp))
  · exact q.elim
theorem w_add (ha : PEW T L X a ta) (hb : PEW T L X b tb) : PEW T L X (.BinOp a .Add b pos) (tOp wAdd ta tb) := w_bin op_addA gl_addA mono_addA ha hb
theorem w_sub (ha : PEW T L X a ta) (hb : PEW T L X b tb) : PEW T L X (.BinOp a .Sub b pos) (tOp (wI0 fun i j => .int (i - j)) ta tb) := w_bin op_sub (gl_I0 fun _ _ _ _ => rep_int) mono_I0 ha hb
theorem w_mul (ha : PEW T L X a ta) (hb : PEW T L X b tb) : PEW T L X (.BinOp a .Mult b pos) (tOp (wI MulOk fun i j => .int (i * j)) ta tb) := w_bin op_mulX (gl_I fun _ _ _ _ => rep_int) mono_I ha hb
theorem w_div (ha : PEW T L X a ta) (hb : PEW T L X b tb) : PEW T L X (.BinOp a .FloorDiv b pos) (tOp (wI DivOk fun i j => .int (i.fdiv j)) ta tb) := w_bin op_divW (gl_I fun _ _ _ _ => rep_int) mono_I ha hb
/-- the quotient of wide numbers: the room that it asks is there -/
theorem op_divY {k : Nat} {l : List Env} (hN : X.base.NoSeer) (ht : X.prog.given.tree = none) (hst : X.stack = X.env :: l) (hg : X.env.scope.isGenerator = false) (hc : X.env.scope.isCoroutine = false) (hr : Room k X.A) (hk : 34 ≤ k) : OpR X (binaryOp .FloorDiv) (rI (fun _ j => j ≠ 0) fun i j => .int (i.fdiv j)) := by
  intro pins s σ H x y v u Q I rx ry h
  obtain ⟨i, j, rfl, rfl, h0, q⟩ := h
  obtain ⟨t, rfl⟩ := rx
  obtain ⟨t', rfl⟩ := ry
  have hd : X.A.depth + Builtin.pylongFrames < recursionLimit := by
    have z := hr.dp
    have e : Builtin.pylongFrames = 100 := rfl
    omega
  have sr : SeerAt (model X.prog X.w) X.A s.heap := SeerAt.of (hN.keeps I.bk) ht (I.ok.frames.trans (congrArg some hst)) hg hc I.ok.blt I.ok.glob
  exact floordiv_int h0 ⟨.int (i.fdiv j), H, I.tok _, ⟨_, rfl⟩, q⟩ (.inr (PylongRoom.of I.nolimit hd sr))
theorem w_divY {k : Nat} {l : List Env} (hN : X.base.NoSeer) (ht : X.prog.given.tree = none) (hst : X.stack = X.env :: l) (hg : X.env.scope.isGenerator = false) (hc : X.env.scope.isCoroutine = false) (hr : Room k X.A) (hk : 34 ≤ k) (ha : PEW T L X a ta) (hb : PEW T L X b tb) : PEW T L X (.BinOp a .FloorDiv b pos) (tOp (wI (fun _ j => j ≠ 0) fun i j => .int (i.fdiv j)) ta tb) := w_bin (op_divY hN ht hst hg hc hr hk) (gl_I fun _ _ _ _ => rep_int) mono_I ha hb
theorem w_mod (ha : PEW T L X a ta) (hb : PEW T L X b tb) : PEW T L X (.BinOp a .Mod b pos) (tOp (wI (fun _ j => j ≠ 0) fun i j => .int (i.fmod j)) ta tb) := w_bin op_modN (gl_I fun _ _ _ _ => rep_int) mono_I ha hb
theorem w_pow (ha : PEW T L X a ta) (hb : PEW T L X b tb) : PEW T L X (.BinOp a .Pow b pos) (tOp (wI CPow fun i j => .int (i ^ j.toNat)) ta tb) := w_bin op_pow (gl_I fun _ _ _ _ => rep_int) mono_I ha hb
theorem w_shl (ha : PEW T L X a ta) (hb : PEW T L X b tb) : PEW T L X (.BinOp a .LShift b pos) (tOp (wI ShlOk fun i j => .int (i * 2 ^ j.toNat)) ta tb) := w_bin op_shlW (gl_I fun _ _ _ _ => rep_int) mono_I ha hb
theorem w_shr (ha : PEW T L X a ta) (hb : PEW T L X b tb) : PEW T L X (.BinOp a .RShift b pos) (tOp (wI (fun _ j => 0 ≤ j) fun i j => .int (i / 2 ^ j.toNat)) ta tb) := w_bin op_shr (gl_I fun _ _ _ _ => rep_int) mono_I ha hb
theorem w_and (ha : PEW T L X a ta) (hb : PEW T L X b tb) : PEW T L X (.BinOp a .BitAnd b pos) (tOp (wI0 fun i j => .int (Builtin.bitAnd i j)) ta tb) := w_bin op_and (gl_I0 fun _ _ _ _ => rep_int) mono_I0 ha hb
theorem w_xor (ha : PEW T L X a ta) (hb : PEW T L X b tb) : PEW T L X (.BinOp a .BitXor b pos) (tOp (wI0 fun i j => .int (Builtin.bitXor i j)) ta tb) := w_bin op_xor (gl_I0 fun _ _ _ _ => rep_int) mono_I0 ha hb
theorem w_lt (ha : PEW T L X a ta) (hb : PEW T L X b tb) : PEW T L X (.Compare a [.Lt] [b] pos) (tOp (wI0 fun i j => .bl (decide (i < j))) ta tb) := w_cmp op_lt (gl_I0 fun _ _ _ _ => rep_bl) mono_I0 ha hb (nomark _)
theorem w_le (ha : PEW T L X a ta) (hb : PEW T L X b tb) : PEW T L X (.Compare a [.LtE] [b] pos) (tOp (wI0 fun i j => .bl (decide (i ≤ j))) ta tb) := w_cmp op_le (gl_I0 fun _ _ _ _ => rep_bl) mono_I0 ha hb (nomark _)
theorem w_gt (ha : PEW T L X a ta) (hb : PEW T L X b tb) : PEW T L X (.Compare a [.Gt] [b] pos) (tOp (wI0 fun i j => .bl (decide (j < i))) ta tb) := w_cmp op_gt (gl_I0 fun _ _ _ _ => rep_bl) mono_I0 ha hb (nomark _)
theorem w_ge (ha : PEW T L X a ta) (hb : PEW T L X b tb) : PEW T L X (.Compare a [.GtE] [b] pos) (tOp (wI0 fun i j => .bl (decide (j ≤ i))) ta tb) := w_cmp op_ge (gl_I0 fun _ _ _ _ => rep_bl) mono_I0 ha hb (nomark _)
end
end Ev

namespace Ev
open PySem PySem.Spec PyProof.Rows L2
section
variable {T : Tb} {L : Lm} {X : Cx} {e a b c : Expr} {es rest : List Expr} {t ta tb tc : TEW} {pos p : Pos}
/-! ### == and != of flat values -/
def eqS : W → W → Option Bool
  | .int i, .int j => some (decide (i = j))
  | .str i, .str j => some (decide (i = j))
  | .bl i, .bl j => some (decide (i = j))
  | .non, .non => some true
  | .non, .int _ => some false | .int _, .non => some false | .non, .bl _ => some false | .bl _, .non => some false
  | .non, .str _ => some false | .str _, .non => some false
  | .int _, .str _ => some false | .str _, .int _ => some false | .bl _, .str _ => some false | .str _, .bl _ => some false
  | _, _ => none
def wEq : RW2 := fun x y M Q => match eqS x y with | some b => Q (.bl b) M | none => False
def wNe : RW2 := fun x y M Q => match eqS x y with | some b => Q (.bl (!b)) M | none => False
theorem eqS_scal {H : Hp} {K : PySem.W.Frag} {x y : W} {v u : V} {k : Bool} (rx : Rep K H x v) (ry : Rep K H y u) (h : eqS x y = some k) : scal v u = true ∧ decide (v = u) = k := by
  unfold eqS at h
  split at h <;> first
    | (cases h; rw [rx.int, ry.int]; exact ⟨rfl, by simp⟩)
    | (cases h; rw [rx.str, ry.str]; exact ⟨rfl, by simp⟩)
    | (cases h; rw [rx.bl, ry.bl]; exact ⟨rfl, by simp⟩)
    | (cases h; rw [rx.non, ry.non]; exact ⟨rfl, by simp⟩)
    | (cases h; rw [rx.non, ry.int]; exact ⟨rfl, by simp⟩)
    | (cases h; rw [rx.int, ry.non]; exact ⟨rfl, by simp⟩)
    | (cases h; rw [rx.non, ry.bl]; exact ⟨rfl, by simp⟩)
    | (cases h; rw [rx.bl, ry.non]; exact ⟨rfl, by simp⟩)
    | (cases h; rw [rx.non, ry.str]; exact ⟨rfl, by simp⟩)
    | (cases h; rw [rx.str, ry.non]; exact ⟨rfl, by simp⟩)
    | (cases h; rw [rx.int, ry.str]; exact ⟨rfl, by simp⟩)
    | (cases h; rw [rx.str, ry.int]; exact ⟨rfl, by simp⟩)
    | (cases h; rw [rx.bl, ry.str]; exact ⟨rfl, by simp⟩)
    | (cases h; rw [rx.str, ry.bl]; exact ⟨rfl, by simp⟩)
    | cases h
theorem gl_eq : Gl2 T X rEq wEq := by
  intro H M x y v u Q rh rx ry q
  unfold wEq at q
  split at q
  · rename_i k hk
    obtain ⟨h1, h2⟩ := eqS_scal rx ry hk
    exact ⟨h1, by rw [h2]; exact upsI (TK.refl H) rep_bl rh q⟩
  · exact q.elim
theorem gl_ne : Gl2 T X rNe wNe := by
  intro H M x y v u Q rh rx ry q
  unfold wNe at q
  split at q
  · rename_i k hk
    obtain ⟨h1, h2⟩ := eqS_scal rx ry hk
    exact ⟨h1, by rw [h2]; exact upsI (TK.refl H) rep_bl rh q⟩
  · exact q.elim
theorem mono_eq : Mono2 rEq := fun _ _ _ _ _ f ⟨h, q⟩ => ⟨h, f _ _ q⟩
theorem mono_ne : Mono2 rNe := fun _ _ _ _ _ f ⟨h, q⟩ => ⟨h, f _ _ q⟩
theorem w_eq (ha : PEW T L X a ta) (hb : PEW T L X b tb) : PEW T L X (.Compare a [.Eq] [b] pos) (tOp wEq ta tb) := w_cmp op_eq gl_eq mono_eq ha hb (nomark _)
theorem w_ne (ha : PEW T L X a ta) (hb : PEW T L X b tb) : PEW T L X (.Compare a [.NotEq] [b] pos) (tOp wNe ta tb) := w_cmp op_ne gl_ne mono_ne ha hb (nomark _)
/-! ### is None -/
def isNon : W → Bool | .non => true | _ => false
theorem isNon_rep {K : PySem.W.Frag} {H : Hp} {x : W} {v : V} (r : Rep K H x v) : decide (v = .non) = isNon x := by
  cases x <;> unfold Rep at r <;> first
    | (subst r; simp [isNon])
    | (obtain ⟨_, _, e, _⟩ := r; subst e; simp [isNon])
def tIsN (neg : Bool) (ta : TEW) : TEW := fun τ M Q E => ta τ M (fun x M1 => Q (.bl (if neg then !isNon x else isNon x)) M1) E
theorem w_isN {j : Nat} {p2 : Pos} (ha : PEW T L X a ta) : PEW T L X (.Compare a [.Is] [.Constant .none j p2] pos) (tIsN false ta) := by
  refine .up (pe_cmp (pc_isN ha.dn) (nomark _)) fun σ H τ M Q ex r tk q => ?_
  refine dn1 r tk q fun w M1 v H1 k1 r1 tk rp1 q1 => ?_
  rw [isNon_rep rp1]
  exact upsI k1 rep_bl r1.rh q1
theorem w_notN {j : Nat} {p2 : Pos} (ha : PEW T L X a ta) : PEW T L X (.Compare a [.IsNot] [.Constant .none j p2] pos) (tIsN true ta) := by
  refine .up (pe_cmp (pc_notN ha.dn) (nomark _)) fun σ H τ M Q ex r tk q => ?_
  refine dn1 r tk q fun w M1 v H1 k1 r1 tk rp1 q1 => ?_
  rw [isNon_rep rp1]
  exact upsI k1 rep_bl r1.rh q1
/-! ### in, not in: flat things in a tuple or a list -/
def flatW : W → Bool | .non => true | .bl _ => true | .int _ => true | .str _ => true | _ => false
def eqF : W → W → Bool
  | .non, .non => true
  | .bl i, .bl j => i == j
  | .bl i, .int j => (if i then 1 else 0) == j
  | .int i, .bl j => i == (if j then 1 else 0)
  | .int i, .int j => i == j
  | .str i, .str j => i == j
  | _, _ => false
def inW (x : W) (ws : List W) : Bool := ws.any fun y => eqF y x
theorem flat_rep {K : PySem.W.Frag} {H : Hp} {x : W} {v : V} (r : Rep K H x v) (f : flatW x = true) : flatV v = true := by
  cases x <;> unfold Rep at r <;> first | (subst r; rfl) | cases f
theorem eqF_rep {K : PySem.W.Frag} {H : Hp} {x y : W} {v u : V} (r : Rep K H x v) (s : Rep K H y u) (f : flatW x = true) (g : flatW y = true) : eqV v u = eqF x y := by
  cases x <;> cases y <;> first | (exact absurd (show false = true from f) Bool.false_ne_true) | (exact absurd (show false = true from g) Bool.false_ne_true) | (unfold Rep at r s; subst r; subst s; rfl)
theorem flats_rep {K : PySem.W.Frag} {H : Hp} : ∀ {ws : List W} {vs : List V}, Reps K H ws vs → ws.all flatW = true → vs.all flatV = true
  | [], _, r, _ => by unfold Reps at r; subst r; rfl
  | w :: ws, _, r, f => by
    unfold Reps at r
    obtain ⟨v, vr, e, q, rr⟩ := r
    subst e
    rw [List.all_cons, Bool.and_eq_true] at f ⊢
    exact ⟨flat_rep q f.1, flats_rep rr f.2⟩
theorem inW_rep {K : PySem.W.Frag} {H : Hp} {x : W} {v : V} (rx : Rep K H x v) (fx : flatW x = true) : ∀ {ws : List W} {vs : List V}, Reps K H ws vs → ws.all flatW = true → inV v vs = inW x ws
  | [], _, r, _ => by unfold Reps at r; subst r; rfl
  | w :: ws, _, r, f => by
    unfold Reps at r
    obtain ⟨u, vr, e, q, rr⟩ := r
    subst e
    rw [List.all_cons, Bool.and_eq_true] at f
    have ih := inW_rep rx fx rr f.2
    unfold inV inW at ih ⊢
    rw [List.any_cons, List.any_cons, ih, eqF_rep q rx f.1 fx]
def wIn (neg : Bool) : RW2 := fun x y M Q => match y with
  | .tup ws => flatW x = true ∧ ws.all flatW = true ∧ Q (.bl (if neg then !inW x ws else inW x ws)) M
  | .ref a => ∃ ws, M a = some (.lst ws) ∧ flatW x = true ∧ ws.all flatW = true ∧ Q (.bl (if neg then !inW x ws else inW x ws)) M
  | _ => False
theorem gl_in {neg : Bool} : Gl2 T X (rIn X.K neg) (wIn neg) := by
  intro H M x y v u Q rh rx ry q
  unfold wIn at q
  split at q
  · obtain ⟨f1, f2, q⟩ := q
    obtain ⟨a, vs, e, s, r⟩ := ry.tup
    refine ⟨a, vs, e, .inr s, flat_rep rx f1, flats_rep r f2, ?_⟩
    rw [inW_rep rx f1 r f2]
    exact upsI (TK.refl H) rep_bl rh q
  · obtain ⟨ws, hm, f1, f2, q⟩ := q
    obtain ⟨vs, e, r⟩ := rh.obs _ _ hm
    refine ⟨_, vs, ry.ref, .inl (SqL.of e), flat_rep rx f1, flats_rep r f2, ?_⟩
    rw [inW_rep rx f1 r f2]
    exact upsI (TK.refl H) rep_bl rh q
  · exact q.elim
theorem mono_in {K : PySem.W.Frag} {neg : Bool} : Mono2 (rIn K neg) := fun _ _ _ _ _ f ⟨p, xs, h1, h2, h3, h4, q⟩ => ⟨p, xs, h1, h2, h3, h4, f _ _ q⟩
theorem w_in (ha : PEW T L X a ta) (hb : PEW T L X b tb) (hm : behindInMarks .In b = false := by rfl) : PEW T L X (.Compare a [.In] [b] pos) (tOp (wIn false) ta tb) := w_cmp op_in_seq gl_in mono_in ha hb hm
theorem w_notin (ha : PEW T L X a ta) (hb : PEW T L X b tb) (hm : behindInMarks .NotIn b = false := by rfl) : PEW T L X (.Compare a [.NotIn] [b] pos) (tOp (wIn true) ta tb) := w_cmp op_notIn_seq gl_in mono_in ha hb hm
/-! ### unary -/
def tUn (f : W → Mp → QK → Prop) (ta : TEW) : TEW := fun τ M Q E => ta τ M (fun x M1 => f x M1 Q) E
def wNeg : W → Mp → QK → Prop := fun x M Q => match x with | .int i => Q (.int (-i)) M | _ => False
theorem w_neg (ha : PEW T L X a ta) : PEW T L X (.UnaryOp .USub a pos) (tUn wNeg ta) := by
  refine .up (pe_un un_neg ha.dn) fun σ H τ M Q ex r tk q => ?_
  refine dn1 r tk q fun w M1 v H1 k1 r1 tk rp1 q1 => ?_
  unfold wNeg at q1
  split at q1
  · exact ⟨_, rp1.int, upsI k1 rep_int r1.rh q1⟩
  · exact q1.elim
def wNot : W → Mp → QK → Prop := fun x M Q => match x with | .bl i => Q (.bl (!i)) M | _ => False
theorem w_not (ha : PEW T L X a ta) : PEW T L X (.UnaryOp .Not a pos) (tUn wNot ta) := by
  refine .up (pe_not ha.dn) fun σ H τ M Q ex r tk q => ?_
  refine dn1 r tk q fun w M1 v H1 k1 r1 tk rp1 q1 => ?_
  unfold wNot at q1
  split at q1
  · exact ⟨_, rp1.bl, upsI k1 rep_bl r1.rh q1⟩
  · exact q1.elim
/-! ### tests -/
def qB (te : TEW) : TTW := fun τ M Q E => te τ M (fun x M1 => match x with | .bl k => Q k M1 | _ => False) E
theorem q_val (ha : PEW T L X a ta) (he : ∀ whole, isTrue a X.env whole = (do let v ← whole; standAt a.pos; holding [v] (truthy v)) := by intro _; rfl) : PTW T L X a (qB ta) := by
  refine .up (pt_val ha.dn he) fun σ H τ M Q ex r tk q => ?_
  refine dn1 r tk q fun w M1 v H1 k1 r1 tk rp1 q1 => ?_
  split at q1
  · exact ⟨_, rp1.bl, M1, k1, r1.rh, q1⟩
  · exact q1.elim
/-- a comparison as a test -/
theorem q_cmp {op : CmpOp} {r : R2} {rw : RW2} (ho : OpR X (compareOp op) r) (gl : Gl2 T X r rw) (mo : Mono2 r) (ha : PEW T L X a ta) (hb : PEW T L X b tb) (hm : behindInMarks op b = false) : PTW T L X (.Compare a [op] [b] pos) (qB (tOp rw ta tb)) := by
  refine .up (pt_cmpR ho ha.dn hb.dn hm) fun σ H τ M Q ex r0 tk q => ?_
  show L2.tOp r (dnE T L X ta) (dnE T L X tb) σ H _
  have h := op_dn gl r0 tk q mo
  refine dn1 r0 tk q fun x M1 v H1 k1 r1 tk rp1 q1 => ?_
  refine dn1 r1 tk q1 fun y M2 u H2 k2 r2 tk rp2 q2 => ?_
  refine mo v u H2 _ _ (fun z H' hz => ?_) (gl H2 M2 x y v u _ r2.rh (rp1.tk k2) rp2 q2)
  obtain ⟨w, M', k3, rp, rh, qq⟩ := hz
  split at qq
  · exact ⟨_, rp.bl, M', (k1.trans k2).trans k3, rh, qq⟩
  · exact qq.elim
theorem q_lt (ha : PEW T L X a ta) (hb : PEW T L X b tb) : PTW T L X (.Compare a [.Lt] [b] pos) (qB (tOp (wI0 fun i j => .bl (decide (i < j))) ta tb)) := q_cmp op_lt (gl_I0 fun _ _ _ _ => rep_bl) mono_I0 ha hb (nomark _)
theorem q_le (ha : PEW T L X a ta) (hb : PEW T L X b tb) : PTW T L X (.Compare a [.LtE] [b] pos) (qB (tOp (wI0 fun i j => .bl (decide (i ≤ j))) ta tb)) := q_cmp op_le (gl_I0 fun _ _ _ _ => rep_bl) mono_I0 ha hb (nomark _)
theorem q_gt (ha : PEW T L X a ta) (hb : PEW T L X b tb) : PTW T L X (.Compare a [.Gt] [b] pos) (qB (tOp (wI0 fun i j => .bl (decide (j < i))) ta tb)) := q_cmp op_gt (gl_I0 fun _ _ _ _ => rep_bl) mono_I0 ha hb (nomark _)
theorem q_ge (ha : PEW T L X a ta) (hb : PEW T L X b tb) : PTW T L X (.Compare a [.GtE] [b] pos) (qB (tOp (wI0 fun i j => .bl (decide (j ≤ i))) ta tb)) := q_cmp op_ge (gl_I0 fun _ _ _ _ => rep_bl) mono_I0 ha hb (nomark _)
theorem q_eq (ha : PEW T L X a ta) (hb : PEW T L X b tb) : PTW T L X (.Compare a [.Eq] [b] pos) (qB (tOp wEq ta tb)) := q_cmp op_eq gl_eq mono_eq ha hb (nomark _)
theorem q_ne (ha : PEW T L X a ta) (hb : PEW T L X b tb) : PTW T L X (.Compare a [.NotEq] [b] pos) (qB (tOp wNe ta tb)) := q_cmp op_ne gl_ne mono_ne ha hb (nomark _)
theorem q_in (ha : PEW T L X a ta) (hb : PEW T L X b tb) (hm : behindInMarks .In b = false := by rfl) : PTW T L X (.Compare a [.In] [b] pos) (qB (tOp (wIn false) ta tb)) := q_cmp op_in_seq gl_in mono_in ha hb hm
theorem q_notin (ha : PEW T L X a ta) (hb : PEW T L X b tb) (hm : behindInMarks .NotIn b = false := by rfl) : PTW T L X (.Compare a [.NotIn] [b] pos) (qB (tOp (wIn true) ta tb)) := q_cmp op_notIn_seq gl_in mono_in ha hb hm
theorem q_isN {j : Nat} {p2 : Pos} (ha : PEW T L X a ta) : PTW T L X (.Compare a [.Is] [.Constant .none j p2] pos) (qB (tIsN false ta)) := by
  refine .up (pt_cmp (pc_isN ha.dn) (nomark _)) fun σ H τ M Q ex r tk q => ?_
  refine dn1 r tk q fun w M1 v H1 k1 r1 tk rp1 q1 => ?_
  rw [isNon_rep rp1]
  exact ⟨_, rfl, M1, k1, r1.rh, q1⟩
theorem q_notN {j : Nat} {p2 : Pos} (ha : PEW T L X a ta) : PTW T L X (.Compare a [.IsNot] [.Constant .none j p2] pos) (qB (tIsN true ta)) := by
  refine .up (pt_cmp (pc_notN ha.dn) (nomark _)) fun σ H τ M Q ex r tk q => ?_
  refine dn1 r tk q fun w M1 v H1 k1 r1 tk rp1 q1 => ?_
  rw [isNon_rep rp1]
  exact ⟨_, rfl, M1, k1, r1.rh, q1⟩
def qNot (t : TTW) : TTW := fun τ M Q E => t τ M (fun k M1 => Q (!k) M1) E
theorem q_not {t : TTW} (h : PTW T L X a t) : PTW T L X (.UnaryOp .Not a pos) (qNot t) :=
  .up (pt_not h.dn) fun σ H τ M Q ex r tk q => dn1T r tk q fun k M1 H1 k1 r1 tk q1 => ⟨M1, k1, r1.rh, q1⟩
/-- a chain of tests under and / or -/
structure PWW (T : Tb) (L : Lm) (X : Cx) (e : Expr) (t : TTW) : Prop where
  dn : PW X e (dnT T L X t)
theorem PWW.q {t : TTW} (h : PWW T L X e t) : PTW T L X e t :=
  .up h.dn.pt fun σ H τ M Q ex r tk q => ⟨τ, M, Q, ex, r, tk, q, fun _ _ z => z⟩
theorem upt_trans {H H1 : Hp} {Q : Bool → Mp → Prop} {k : Bool} {H' : Hp} (k1 : TK H H1) (h : upt T X H1 Q k H') : upt T X H Q k H' := by
  obtain ⟨M, k2, rh, q⟩ := h
  exact ⟨M, k1.trans k2, rh, q⟩
def qAnd (t u : TTW) : TTW := fun τ M Q E => t τ M (fun k M1 => if k = true then u τ M1 Q E else Q false M1) E
def qOr (t u : TTW) : TTW := fun τ M Q E => t τ M (fun k M1 => if k = true then Q true M1 else u τ M1 Q E) E
theorem PW.imp {t t' : TT} (h : PW X e t) (g : ∀ σ H Q, t' σ H Q → t σ H Q) : PW X e t' := ⟨fun wh pins s σ H Q I q => h.run wh pins s σ H Q I (g σ H Q q)⟩
theorem q_and1 {t : TTW} (h : PTW T L X a t) : PWW T L X (.BoolOp .And [a] pos) t := ⟨pw_and1 h.dn⟩
theorem q_or1 {t : TTW} (h : PTW T L X a t) : PWW T L X (.BoolOp .Or [a] pos) t := ⟨pw_or1 h.dn⟩
theorem q_and {t u : TTW} (h : PTW T L X a t) (g : PWW T L X (.BoolOp .And (b :: rest) pos) u) : PWW T L X (.BoolOp .And (a :: b :: rest) pos) (qAnd t u) := by
  refine ⟨PW.imp (pw_and h.dn g.dn) fun σ H Q ⟨τ, M, Qw, ex, r, tk, q, f⟩ => ?_⟩
  refine dn1T r tk q fun k M1 H1 k1 r1 tk q1 => ?_
  cases k with
  | true =>
    rw [if_pos rfl] at q1 ⊢
    exact ⟨τ, M1, Qw, ex, r1, tk, q1, fun k2 H2 z => f k2 H2 (upt_trans k1 z)⟩
  | false =>
    rw [if_neg Bool.false_ne_true] at q1 ⊢
    exact f false H1 ⟨M1, k1, r1.rh, q1⟩
theorem q_or {t u : TTW} (h : PTW T L X a t) (g : PWW T L X (.BoolOp .Or (b :: rest) pos) u) : PWW T L X (.BoolOp .Or (a :: b :: rest) pos) (qOr t u) := by
  refine ⟨PW.imp (pw_or h.dn g.dn) fun σ H Q ⟨τ, M, Qw, ex, r, tk, q, f⟩ => ?_⟩
  refine dn1T r tk q fun k M1 H1 k1 r1 tk q1 => ?_
  cases k with
  | true =>
    rw [if_pos rfl] at q1 ⊢
    exact f true H1 ⟨M1, k1, r1.rh, q1⟩
  | false =>
    rw [if_neg Bool.false_ne_true] at q1 ⊢
    exact ⟨τ, M1, Qw, ex, r1, tk, q1, fun k2 H2 z => f k2 H2 (upt_trans k1 z)⟩
/-- and, or as values (bools, but for the last) -/
def vAnd (ta tb : TEW) : TEW := fun τ M Q E => ta τ M (fun x M1 => match x with | .bl k => if k = true then tb τ M1 Q E else Q (.bl false) M1 | _ => False) E
def vOr (ta tb : TEW) : TEW := fun τ M Q E => ta τ M (fun x M1 => match x with | .bl k => if k = true then Q (.bl true) M1 else tb τ M1 Q E | _ => False) E
theorem w_one {op : BoolOp} (h : PEW T L X a ta) : PEW T L X (.BoolOp op [a] pos) ta := .up (pe_one h.dn) fun σ H τ M Q ex r tk q => ⟨τ, M, Q, ex, r, tk, q, fun _ _ z => z⟩
theorem w_andV (ha : PEW T L X a ta) (hb : PEW T L X (.BoolOp .And (b :: rest) pos) tb) : PEW T L X (.BoolOp .And (a :: b :: rest) pos) (vAnd ta tb) := by
  refine .up (pe_and ha.dn hb.dn) fun σ H τ M Q ex r tk q => ?_
  refine dn1 r tk q fun w M1 v H1 k1 r1 tk rp1 q1 => ?_
  split at q1
  · rename_i k
    refine ⟨k, rp1.bl, ?_⟩
    cases k with
    | true =>
      rw [if_pos rfl] at q1 ⊢
      exact ⟨τ, M1, Q, ex, r1, tk, q1, fun v2 H2 z => ups.trans k1 z⟩
    | false =>
      rw [if_neg Bool.false_ne_true] at q1 ⊢
      exact upsI k1 rep_bl r1.rh q1
  · exact q1.elim
theorem w_orV (ha : PEW T L X a ta) (hb : PEW T L X (.BoolOp .Or (b :: rest) pos) tb) : PEW T L X (.BoolOp .Or (a :: b :: rest) pos) (vOr ta tb) := by
  refine .up (pe_or ha.dn hb.dn) fun σ H τ M Q ex r tk q => ?_
  refine dn1 r tk q fun w M1 v H1 k1 r1 tk rp1 q1 => ?_
  split at q1
  · rename_i k
    refine ⟨k, rp1.bl, ?_⟩
    cases k with
    | true =>
      rw [if_pos rfl] at q1 ⊢
      exact upsI k1 rep_bl r1.rh q1
    | false =>
      rw [if_neg Bool.false_ne_true] at q1 ⊢
      exact ⟨τ, M1, Q, ex, r1, tk, q1, fun v2 H2 z => ups.trans k1 z⟩
  · exact q1.elim
def tIfE (t : TTW) (ta tb : TEW) : TEW := fun τ M Q E => t τ M (fun k M1 => if k = true then ta τ M1 Q E else tb τ M1 Q E) E
theorem w_ifE {t : TTW} (hc : PTW T L X c t) (ha : PEW T L X a ta) (hb : PEW T L X b tb) : PEW T L X (.IfExp c a b pos) (tIfE t ta tb) := by
  refine .up (pe_ifExp hc.dn ha.dn hb.dn) fun σ H τ M Q ex r tk q => ?_
  refine dn1T r tk q fun k M1 H1 k1 r1 tk q1 => ?_
  cases k with
  | true =>
    rw [if_pos rfl] at q1 ⊢
    exact ⟨τ, M1, Q, ex, r1, tk, q1, fun v2 H2 z => ups.trans k1 z⟩
  | false =>
    rw [if_neg Bool.false_ne_true] at q1 ⊢
    exact ⟨τ, M1, Q, ex, r1, tk, q1, fun v2 H2 z => ups.trans k1 z⟩
end
end Ev

namespace Ev
open PySem PySem.Spec PyProof.Rows L2
section
variable {T : Tb} {L : Lm} {X : Cx} {e a b c o : Expr} {es rest : List Expr} {t ta tb tc : TEW} {u : TAW} {pos p apos cpos : Pos}
/-! ### built-ins by name -/
abbrev RWC := List W → Mp → QK → Prop
abbrev RC := List V → Hp → VK → Prop
def GlC (T : Tb) (X : Cx) (r : RC) (rw : RWC) : Prop := ∀ (H : Hp) (M : Mp) (ws : List W) (vs : List V) (Q : QK), RelH X.K H T M → Reps X.K H ws vs → rw ws M Q → r vs H (ups T X H Q)
def MonoC (r : RC) : Prop := ∀ (vs : List V) (H : Hp) (Q Q' : VK), (∀ z H', Q z H' → Q' z H') → r vs H Q → r vs H Q'
def tCB (rw : RWC) (t : TAW) : TEW := fun τ M Q E => t τ M (fun ws M1 => rw ws M1 Q) E
theorem cb_dn {r : RC} {rw : RWC} {n : Nat} (gl : GlC T X r rw) (mo : MonoC r) {σ : L2.St} {H : Hp} {τ : St'} {M : Mp} {Q : QK} {ex : EX} (r0 : SR T L X H τ σ M) (tk : TakesS T X H ex) (q : tCB rw u τ M Q (fun C p M' => ex C p τ M')) : L2.tCB r (dnA T L X n u) σ H (ups T X H Q) :=
  dn1A r0 tk q fun ws M1 vs H1 k1 r1 tk rp1 hn q1 => mo vs H1 _ _ (fun z H' hz => ups.trans k1 hz) (gl H1 M1 ws vs Q r1.rh rp1 q1)
theorem w_callB {id : String} {x : Str} {r : RC} {rw : RWC} (hc : CallR X (.builtin id) r) (gl : GlC T X r rw) (mo : MonoC r) (hg : Gl X x) (hm : X.mg x = none) (hv : bootBuiltins x = some (.builtin id)) (ha : PAW T L X (e :: es) u) (hn : x ≠ "__name__" := by decide) (hdb : (x == ("__debug__" : Str)) = false := by decide)
    (he : starEach (e :: es) X.env = (false, eval e X.env) :: starEach es X.env := by rfl) (hpl : (backTo pos (starEach es X.env)).any (·.1) = false := by rfl) : PEW T L X (.Call (.Name x p) (e :: es) [] pos) (tCB rw u) :=
  .up (pe_callB hc hg hm hv ha.dn hn hdb he hpl) fun _ _ _ _ _ _ r0 tk q => cb_dn gl mo r0 tk q
theorem w_callTy {id : String} {x : Str} {r : RC} {rw : RWC} (hc : CallR X (.type id) r) (gl : GlC T X r rw) (mo : MonoC r) (hg : Gl X x) (hm : X.mg x = none) (hv : bootBuiltins x = some (.type id)) (ha : PAW T L X (e :: es) u) (hn : x ≠ "__name__" := by decide) (hdb : (x == ("__debug__" : Str)) = false := by decide)
    (he : starEach (e :: es) X.env = (false, eval e X.env) :: starEach es X.env := by rfl) (hpl : (backTo pos (starEach es X.env)).any (·.1) = false := by rfl) : PEW T L X (.Call (.Name x p) (e :: es) [] pos) (tCB rw u) :=
  .up (pe_callTy hc hg hm hv ha.dn hn hdb he hpl) fun _ _ _ _ _ _ r0 tk q => cb_dn gl mo r0 tk q
theorem Reps.nil {K : PySem.W.Frag} {H : Hp} {vs : List V} (h : Reps K H [] vs) : vs = [] := by unfold Reps at h; exact h
theorem Reps.cons {K : PySem.W.Frag} {H : Hp} {w : W} {ws : List W} {vs : List V} (h : Reps K H (w :: ws) vs) : ∃ v r, vs = v :: r ∧ Rep K H w v ∧ Reps K H ws r := by unfold Reps at h; exact h
theorem Reps.one' {K : PySem.W.Frag} {H : Hp} {w : W} {vs : List V} (h : Reps K H [w] vs) : ∃ v, vs = [v] ∧ Rep K H w v := by
  obtain ⟨v, r, e, q, rr⟩ := h.cons
  have e2 := rr.nil
  subst e2
  exact ⟨v, e, q⟩
theorem Reps.two' {K : PySem.W.Frag} {H : Hp} {w x : W} {vs : List V} (h : Reps K H [w, x] vs) : ∃ v y, vs = [v, y] ∧ Rep K H w v ∧ Rep K H x y := by
  obtain ⟨v, r, e, q, rr⟩ := h.cons
  obtain ⟨y, e2, q2⟩ := rr.one'
  subst e2
  exact ⟨v, y, e, q, q2⟩
/-! len -/
def wLen : RWC := fun ws M Q => match ws with
  | [.tup xs] => Q (.int (xs.length : Int)) M
  | [.ref a] => ∃ xs, M a = some (.lst xs) ∧ Q (.int (xs.length : Int)) M
  | [.str x] => x.length ≤ sizeLine ∧ Q (.int (x.length : Int)) M
  | [.rol xs] => Q (.int (xs.length : Int)) M
  | _ => False
def rLen (K : PySem.W.Frag) : RC := fun xs H Q => ∃ x n, xs = [x] ∧ LenV K x H n ∧ Q (.int n) H
theorem mono_len {K : PySem.W.Frag} : MonoC (rLen K) := fun _ _ _ _ f ⟨x, n, h1, h2, q⟩ => ⟨x, n, h1, h2, f _ _ q⟩
theorem gl_len : GlC T X (rLen X.K) wLen := by
  intro H M ws vs Q rh rp q
  unfold wLen at q
  split at q
  · obtain ⟨v, e, r1⟩ := rp.one'
    obtain ⟨a, us, e2, s, r2⟩ := r1.tup
    subst e2
    exact ⟨_, us.length, e, .inr ⟨us, s, rfl⟩, by rw [r2.len]; exact upsI (TK.refl H) rep_int rh q⟩
  · obtain ⟨v, e, r1⟩ := rp.one'
    obtain ⟨xs, hm, q⟩ := q
    obtain ⟨us, e2, r2⟩ := rh.obs _ _ hm
    have e3 := r1.ref
    subst e3
    exact ⟨_, us.length, e, .inl ⟨us, SqL.of e2, rfl⟩, by rw [r2.len]; exact upsI (TK.refl H) rep_int rh q⟩
  · obtain ⟨v, e, r1⟩ := rp.one'
    have e3 := r1.str
    subst e3
    exact ⟨_, _, e, ⟨q.1, rfl⟩, upsI (TK.refl H) rep_int rh q.2⟩
  · obtain ⟨v, e, r1⟩ := rp.one'
    obtain ⟨a, us, e2, s, r2⟩ := r1.rol
    subst e2
    exact ⟨_, us.length, e, .inl ⟨us, s.1, rfl⟩, by rw [r2.len]; exact upsI (TK.refl H) rep_int rh q⟩
  · exact q.elim
theorem w_len (hg : Gl X "len") (hm : X.mg "len" = none) (ha : PAW T L X (e :: es) u) (he : starEach (e :: es) X.env = (false, eval e X.env) :: starEach es X.env := by rfl) (hpl : (backTo pos (starEach es X.env)).any (·.1) = false := by rfl) :
    PEW T L X (.Call (.Name "len" p) (e :: es) [] pos) (tCB wLen u) := w_callB call_len gl_len mono_len hg hm boot_len ha (by decide) (by decide) he hpl
/-! int of an int or a bool -/
def wInt : RWC := fun ws M Q => match ws with
  | [.int i] => Q (.int i) M
  | [.bl k] => Q (.int (if k then 1 else 0)) M
  | _ => False
def rInt1 : RC := fun xs H Q => (∃ i, xs = [.int i] ∧ Q (.int i) H) ∨ ∃ k, xs = [.bl k] ∧ Q (.int (if k then 1 else 0)) H
theorem mono_int1 : MonoC rInt1 := fun _ _ _ _ f h => h.elim (fun ⟨i, h1, q⟩ => .inl ⟨i, h1, f _ _ q⟩) fun ⟨i, h1, q⟩ => .inr ⟨i, h1, f _ _ q⟩
theorem gl_int1 : GlC T X rInt1 wInt := by
  intro H M ws vs Q rh rp q
  unfold wInt at q
  split at q
  · obtain ⟨v, e, r1⟩ := rp.one'
    rw [r1.int] at e
    exact .inl ⟨_, e, upsI (TK.refl H) rep_int rh q⟩
  · obtain ⟨v, e, r1⟩ := rp.one'
    rw [r1.bl] at e
    exact .inr ⟨_, e, upsI (TK.refl H) rep_int rh q⟩
  · exact q.elim
theorem w_intC (hg : Gl X "int") (hm : X.mg "int" = none) (ha : PAW T L X (e :: es) u) (he : starEach (e :: es) X.env = (false, eval e X.env) :: starEach es X.env := by rfl) (hpl : (backTo pos (starEach es X.env)).any (·.1) = false := by rfl) :
    PEW T L X (.Call (.Name "int" p) (e :: es) [] pos) (tCB wInt u) := w_callTy call_int1 gl_int1 mono_int1 hg hm (by decide +kernel) ha (by decide) (by decide) he hpl
/-! abs, max, min -/
def wAbs : RWC := fun ws M Q => match ws with | [.int i] => Q (.int (if i < 0 then -i else i)) M | _ => False
def wMax : RWC := fun ws M Q => match ws with | [.int i, .int j] => Q (.int (if j > i then j else i)) M | _ => False
def wMin : RWC := fun ws M Q => match ws with | [.int i, .int j] => Q (.int (if j < i then j else i)) M | _ => False
theorem gl_abs : GlC T X (fun xs H Q => ∃ i, xs = [V.int i] ∧ Q (.int (if i < 0 then -i else i)) H) wAbs := by
  intro H M ws vs Q rh rp q
  unfold wAbs at q
  split at q
  · obtain ⟨v, e, r1⟩ := rp.one'
    rw [r1.int] at e
    exact ⟨_, e, upsI (TK.refl H) rep_int rh q⟩
  · exact q.elim
theorem gl_max : GlC T X (fun xs H Q => ∃ i j, xs = [V.int i, V.int j] ∧ Q (.int (if j > i then j else i)) H) wMax := by
  intro H M ws vs Q rh rp q
  unfold wMax at q
  split at q
  · obtain ⟨v, y, e, r1, r2⟩ := rp.two'
    rw [r1.int, r2.int] at e
    exact ⟨_, _, e, upsI (TK.refl H) rep_int rh q⟩
  · exact q.elim
theorem gl_min : GlC T X (fun xs H Q => ∃ i j, xs = [V.int i, V.int j] ∧ Q (.int (if j < i then j else i)) H) wMin := by
  intro H M ws vs Q rh rp q
  unfold wMin at q
  split at q
  · obtain ⟨v, y, e, r1, r2⟩ := rp.two'
    rw [r1.int, r2.int] at e
    exact ⟨_, _, e, upsI (TK.refl H) rep_int rh q⟩
  · exact q.elim
theorem w_abs (hg : Gl X "abs") (hm : X.mg "abs" = none) (ha : PAW T L X (e :: es) u) (he : starEach (e :: es) X.env = (false, eval e X.env) :: starEach es X.env := by rfl) (hpl : (backTo pos (starEach es X.env)).any (·.1) = false := by rfl) :
    PEW T L X (.Call (.Name "abs" p) (e :: es) [] pos) (tCB wAbs u) := w_callB call_abs gl_abs (fun _ _ _ _ f ⟨i, h, q⟩ => ⟨i, h, f _ _ q⟩) hg hm (by decide +kernel) ha (by decide) (by decide) he hpl
theorem w_max (hc : X.calm = true) (hg : Gl X "max") (hm : X.mg "max" = none) (ha : PAW T L X (e :: es) u) (he : starEach (e :: es) X.env = (false, eval e X.env) :: starEach es X.env := by rfl) (hpl : (backTo pos (starEach es X.env)).any (·.1) = false := by rfl) :
    PEW T L X (.Call (.Name "max" p) (e :: es) [] pos) (tCB wMax u) := w_callB (call_max2 hc) gl_max (fun _ _ _ _ f ⟨i, j, h, q⟩ => ⟨i, j, h, f _ _ q⟩) hg hm (by decide +kernel) ha (by decide) (by decide) he hpl
theorem w_min (hc : X.calm = true) (hg : Gl X "min") (hm : X.mg "min" = none) (ha : PAW T L X (e :: es) u) (he : starEach (e :: es) X.env = (false, eval e X.env) :: starEach es X.env := by rfl) (hpl : (backTo pos (starEach es X.env)).any (·.1) = false := by rfl) :
    PEW T L X (.Call (.Name "min" p) (e :: es) [] pos) (tCB wMin u) := w_callB (call_min2 hc) gl_min (fun _ _ _ _ f ⟨i, j, h, q⟩ => ⟨i, j, h, f _ _ q⟩) hg hm (by decide +kernel) ha (by decide) (by decide) he hpl
/-! tuple(list), list(..) -/
def wTuple : RWC := fun ws M Q => match ws with
  | [.ref a] => ∃ xs, M a = some (.lst xs) ∧ Q (.tup xs) M
  | [.tup xs] => Q (.tup xs) M
  | _ => False
def rTuple (K : PySem.W.Frag) : RC := fun xs H Q => ∃ p ys, xs = [.ref p] ∧ ((SqL K H p ys ∧ ∀ l, H l = none → Q (.ref l) (upd H l (.tup ys))) ∨ (SqT K H p ys ∧ Q (.ref p) H))
theorem mono_tuple {K : PySem.W.Frag} : MonoC (rTuple K) := fun _ _ _ _ f ⟨p, ys, h, q⟩ => ⟨p, ys, h, q.elim (fun ⟨s, q⟩ => .inl ⟨s, fun l hl => f _ _ (q l hl)⟩) fun ⟨s, q⟩ => .inr ⟨s, f _ _ q⟩⟩
theorem gl_tuple : GlC T X (rTuple X.K) wTuple := by
  intro H M ws vs Q rh rp q
  unfold wTuple at q
  split at q
  · obtain ⟨v, e, r1⟩ := rp.one'
    obtain ⟨xs, hm, q⟩ := q
    obtain ⟨us, e2, r2⟩ := rh.obs _ _ hm
    rw [r1.ref] at e
    refine ⟨_, us, e, .inl ⟨SqL.of e2, fun l hl => ?_⟩⟩
    have n1 : TK H (upd H l (.tup us)) := (NL.put (.inl hl)).tk
    exact upsI n1 (by unfold Rep; exact ⟨l, us, rfl, SqT.of upd_same, r2.tk n1⟩) (rh.new hl) q
  · obtain ⟨v, e, r1⟩ := rp.one'
    obtain ⟨a, us, e2, s, r2⟩ := r1.tup
    subst e2
    exact ⟨_, us, e, .inr ⟨s, upsI (TK.refl H) r1 rh q⟩⟩
  · exact q.elim
theorem w_tuple (hg : Gl X "tuple") (hm : X.mg "tuple" = none) (ha : PAW T L X (e :: es) u) (he : starEach (e :: es) X.env = (false, eval e X.env) :: starEach es X.env := by rfl) (hpl : (backTo pos (starEach es X.env)).any (·.1) = false := by rfl) :
    PEW T L X (.Call (.Name "tuple" p) (e :: es) [] pos) (tCB wTuple u) := w_callTy call_tuple_of gl_tuple mono_tuple hg hm (by decide +kernel) ha (by decide) (by decide) he hpl
def wList : RWC := fun ws M Q => match ws with
  | [.ref a] => ∃ xs, M a = some (.lst xs) ∧ ∀ q, M q = none → Q (.ref q) (put M q (.lst xs))
  | [.tup xs] => ∀ q, M q = none → Q (.ref q) (put M q (.lst xs))
  | [.rol xs] => ∀ q, M q = none → Q (.ref q) (put M q (.lst xs))
  | _ => False
def rList (K : PySem.W.Frag) : RC := fun xs H Q => ∃ p ys, xs = [.ref p] ∧ (SqL K H p ys ∨ SqT K H p ys) ∧ ∀ l, H l = none → Q (.ref l) (upd H l (.lst ys))
theorem mono_list {K : PySem.W.Frag} : MonoC (rList K) := fun _ _ _ _ f ⟨p, ys, h, s, q⟩ => ⟨p, ys, h, s, fun l hl => f _ _ (q l hl)⟩
theorem gl_list : GlC T X (rList X.K) wList := by
  intro H M ws vs Q rh rp q
  unfold wList at q
  split at q
  · obtain ⟨v, e, r1⟩ := rp.one'
    obtain ⟨xs, hm, q⟩ := q
    obtain ⟨us, e2, r2⟩ := rh.obs _ _ hm
    rw [r1.ref] at e
    exact ⟨_, us, e, .inl (SqL.of e2), fun l hl => upsI (NL.put (.inl hl)).tk rep_ref (rh.putL (.inl hl) r2) (q l (rh.free hl))⟩
  · obtain ⟨v, e, r1⟩ := rp.one'
    obtain ⟨a, us, e2, s, r2⟩ := r1.tup
    subst e2
    exact ⟨_, us, e, .inr s, fun l hl => upsI (NL.put (.inl hl)).tk rep_ref (rh.putL (.inl hl) r2) (q l (rh.free hl))⟩
  · obtain ⟨v, e, r1⟩ := rp.one'
    obtain ⟨a, us, e2, s, r2⟩ := r1.rol
    subst e2
    exact ⟨_, us, e, .inl s.1, fun l hl => upsI (NL.put (.inl hl)).tk rep_ref (rh.putL (.inl hl) r2) (q l (rh.free hl))⟩
  · exact q.elim
theorem w_list (hg : Gl X "list") (hm : X.mg "list" = none) (ha : PAW T L X (e :: es) u) (he : starEach (e :: es) X.env = (false, eval e X.env) :: starEach es X.env := by rfl) (hpl : (backTo pos (starEach es X.env)).any (·.1) = false := by rfl) :
    PEW T L X (.Call (.Name "list" p) (e :: es) [] pos) (tCB wList u) := w_callTy call_list_of gl_list mono_list hg hm (by decide +kernel) ha (by decide) (by decide) he hpl
/-! all, any of a list of bools -/
def blsW : List W → Option (List Bool)
  | [] => some []
  | .bl k :: r => (blsW r).map (k :: ·)
  | _ :: _ => none
theorem blsW_map : ∀ bs : List Bool, blsW (bs.map W.bl) = some bs
  | [] => rfl
  | k :: r => by rw [List.map_cons]; unfold blsW; rw [blsW_map r]; rfl
theorem blsW_rep {K : PySem.W.Frag} {H : Hp} : ∀ {ws : List W} {vs : List V} {bs : List Bool}, Reps K H ws vs → blsW ws = some bs → vs = bs.map V.bl
  | [], _, _, r, h => by
    cases h
    exact r.nil
  | w :: ws, _, bs, r, h => by
    obtain ⟨v, vr, e, q, rr⟩ := r.cons
    subst e
    cases w with
    | bl k =>
      unfold blsW at h
      obtain ⟨bs', h1, h2⟩ := Option.map_eq_some_iff.mp h
      subst h2
      rw [q.bl, blsW_rep rr h1]
      rfl
    | _ => simp [blsW] at h
def wAll (f : List Bool → Bool) : RWC := fun ws M Q => match ws with
  | [.ref a] => ∃ xs bs, M a = some (.lst xs) ∧ blsW xs = some bs ∧ Q (.bl (f bs)) M
  | _ => False
theorem gl_all : GlC T X (rAll X.K) (wAll fun bs => bs.all id) := by
  intro H M ws vs Q rh rp q
  unfold wAll at q
  split at q
  · obtain ⟨v, e, r1⟩ := rp.one'
    obtain ⟨xs, bs, hm, hb, q⟩ := q
    obtain ⟨us, e2, r2⟩ := rh.obs _ _ hm
    rw [r1.ref] at e
    rw [blsW_rep r2 hb] at e2
    exact ⟨_, bs, e, SqL.of e2, upsI (TK.refl H) rep_bl rh q⟩
  · exact q.elim
theorem gl_any : GlC T X (rAny X.K) (wAll fun bs => bs.any id) := by
  intro H M ws vs Q rh rp q
  unfold wAll at q
  split at q
  · obtain ⟨v, e, r1⟩ := rp.one'
    obtain ⟨xs, bs, hm, hb, q⟩ := q
    obtain ⟨us, e2, r2⟩ := rh.obs _ _ hm
    rw [r1.ref] at e
    rw [blsW_rep r2 hb] at e2
    exact ⟨_, bs, e, SqL.of e2, upsI (TK.refl H) rep_bl rh q⟩
  · exact q.elim
theorem w_all (hc : X.calm = true) (hg : Gl X "all") (hm : X.mg "all" = none) (ha : PAW T L X (e :: es) u) (he : starEach (e :: es) X.env = (false, eval e X.env) :: starEach es X.env := by rfl) (hpl : (backTo pos (starEach es X.env)).any (·.1) = false := by rfl) :
    PEW T L X (.Call (.Name "all" p) (e :: es) [] pos) (tCB (wAll fun bs => bs.all id) u) := w_callB (cr_all hc) gl_all (fun _ _ _ _ f ⟨i, j, h, h2, q⟩ => ⟨i, j, h, h2, f _ _ q⟩) hg hm (by decide +kernel) ha (by decide) (by decide) he hpl
theorem w_any (hc : X.calm = true) (hg : Gl X "any") (hm : X.mg "any" = none) (ha : PAW T L X (e :: es) u) (he : starEach (e :: es) X.env = (false, eval e X.env) :: starEach es X.env := by rfl) (hpl : (backTo pos (starEach es X.env)).any (·.1) = false := by rfl) :
    PEW T L X (.Call (.Name "any" p) (e :: es) [] pos) (tCB (wAll fun bs => bs.any id) u) := w_callB (cr_any hc) gl_any (fun _ _ _ _ f ⟨i, j, h, h2, q⟩ => ⟨i, j, h, h2, f _ _ q⟩) hg hm (by decide +kernel) ha (by decide) (by decide) he hpl
/-! isinstance of data -/
def tyS : W → Mp → Option String := fun x M => match x with
  | .non => some "NoneType" | .bl _ => some "bool" | .int _ => some "int" | .str _ => some "str" | .tup _ => some "tuple"
  | .ref a => match M a with | some (.lst _) => some "list" | _ => none
  | _ => none
def isiT (t n : String) : Option Bool :=
  if t = "NoneType" ∨ t = "bool" ∨ t = "int" ∨ t = "str" ∨ t = "tuple" ∨ t = "list" then
    if n = "int" then some (decide (t = "int" ∨ t = "bool")) else if n = "bool" ∨ n = "str" ∨ n = "tuple" ∨ n = "list" ∨ n = "ValueError" then some (decide (t = n)) else none
  else none
theorem isiT_ok {t n : String} {k : Bool} (h : isiT t n = some k) : kitB t n = some k := by
  unfold isiT at h
  split at h
  · rename_i ht
    split at h
    · rename_i hn
      subst hn
      rcases ht with rfl | rfl | rfl | rfl | rfl | rfl <;> (rw [← h]; decide +kernel)
    · split at h
      · rename_i hn
        rcases hn with rfl | rfl | rfl | rfl | rfl <;> rcases ht with rfl | rfl | rfl | rfl | rfl | rfl <;> (rw [← h]; decide +kernel)
      · cases h
  · cases h
theorem tyS_ty {H : Hp} {M : Mp} {x : W} {v : V} {s : String} (rh : RelH X.K H T M) (r : Rep X.K H x v) (h : tyS x M = some s) : TyX X.K H v (.type s) := by
  unfold tyS at h
  split at h
  · cases h; rw [r.non]; exact .base .non
  · cases h; rw [r.bl]; exact .base (.bl _)
  · cases h; rw [r.int]; exact .base (.int _)
  · cases h; rw [r.str]; exact .base (.str _)
  · cases h
    obtain ⟨a, vs, e, s, _⟩ := r.tup
    subst e
    rcases s with (s | ⟨ob, s⟩) | ⟨ob, its, n, s, c, _⟩
    · exact .base (.tup s)
    · exact .fTuple s
    · exact .kTuple s c
  · split at h
    · rename_i hm
      cases h
      obtain ⟨vs, e, _⟩ := rh.obs _ _ hm
      rw [r.ref]
      exact .base (.lst e)
    · cases h
  · cases h
def isiA (t : String) : List W → Option Bool
  | [] => some false
  | .ty n :: r => match isiT t n, isiA t r with | some a, some b => some (a || b) | _, _ => none
  | _ :: _ => none
def wIsi : RWC := fun ws M Q => match ws with
  | [x, .ty n] => match tyS x M with | some s => (match isiT s n with | some k => Q (.bl k) M | none => False) | none => False
  | [x, .tup cs] => match tyS x M with | some s => (match isiA s cs with | some k => Q (.bl k) M | none => False) | none => False
  | _ => False
/-- isinstance(x, any tuple of classes that stands) -/
def rIsiS (K : PySem.W.Frag) : RC := fun xs H Q => ∃ (x : V) (tp : Addr) (cs : List V) (t : Value) (us : List Value) (k : Bool), xs = [x, .ref tp] ∧ SqT K H tp cs ∧ Paired ClsV cs us ∧ TyX K H x t ∧ PySem.W.kitAny K t us = some k ∧ Q (.bl k) H
theorem call_isiS : CallR X (.builtin "isinstance") (rIsiS X.K) := by
  intro pins s σ H xs us Q I r h
  obtain ⟨x, tp, cs, t, cv, k, rfl, hT, pk, ty, hk, q⟩ := h
  obtain ⟨u1, u2, rfl, r1, r2⟩ := vals2 r
  cases (show u2 = Value.ref tp from r2)
  obtain ⟨Z, kx, pz, nx⟩ := kit_of I r1 ty
  obtain ⟨its, rv, ⟨ob, g1, g2, m, g3⟩, _⟩ := I.tuple hT
  have eq := ClsV.all pk rv
  subst eq
  obtain ⟨oc, od, dt, sl⟩ := ob
  simp only at g2 g3
  subst g2 g3
  exact PySem.W.kia_tup kx I.kIn pz g1 hk nx fun tk => ⟨.bl k, H, I.tok tk, rfl, q⟩
def rIsiA (K : PySem.W.Frag) : RC := fun vs H Q => rIsi K vs H Q ∨ rIsiS K vs H Q
theorem call_isiA : CallR X (.builtin "isinstance") (rIsiA X.K) := fun pins s σ H xs us Q I r h => h.elim (fun h => call_isi pins s σ H xs us Q I r h) fun h => call_isiS pins s σ H xs us Q I r h
theorem mono_isiA {K : PySem.W.Frag} : MonoC (rIsiA K) := fun _ _ _ _ f h => h.elim (fun ⟨a, b, c, d, e, h1, h2, h3, h4, q⟩ => .inl ⟨a, b, c, d, e, h1, h2, h3, h4, f _ _ q⟩) fun ⟨a, b, c, d, e, g, h1, h2, h3, h4, h5, q⟩ => .inr ⟨a, b, c, d, e, g, h1, h2, h3, h4, h5, f _ _ q⟩
theorem isiA_ok {K : PySem.W.Frag} {H : Hp} {s : String} : ∀ {cs : List W} {vs : List V} {k : Bool}, Reps K H cs vs → isiA s cs = some k → ∃ us, Paired ClsV vs us ∧ PySem.W.kitAny K (.type s) us = some k
  | [], _, _, r, h => by
    cases h
    rw [r.nil]
    exact ⟨[], .nil, rfl⟩
  | w :: cs, _, k, r, h => by
    obtain ⟨v, vr, e, q, rr⟩ := r.cons
    subst e
    cases w with
    | ty n =>
      unfold isiA at h
      split at h
      · rename_i x y hk hr
        obtain ⟨us, h1, h2⟩ := isiA_ok rr hr
        rw [q.ty]
        refine ⟨.type n :: us, .cons (.ty n) h1, kitAny_cons (kit_ty (isiT_ok hk)) (fun z => ?_) (fun z => ?_)⟩
        · subst z
          rw [h2, ← h, Bool.false_or]
        · subst z
          cases h
          rfl
      · cases h
    | _ => simp [isiA] at h
theorem gl_isi : GlC T X (rIsiA X.K) wIsi := by
  intro H M ws vs Q rh rp q
  unfold wIsi at q
  split at q
  · obtain ⟨v, y, e, r1, r2⟩ := rp.two'
    split at q
    · rename_i s hs
      split at q
      · rename_i k hk
        rw [r2.ty] at e
        exact .inl ⟨_, _, _, _, _, e, .ty _, tyS_ty rh r1 hs, kit_ty (isiT_ok hk), upsI (TK.refl H) rep_bl rh q⟩
      · exact q.elim
    · exact q.elim
  · obtain ⟨v, y, e, r1, r2⟩ := rp.two'
    obtain ⟨a, us, e2, s2, r3⟩ := r2.tup
    subst e2
    split at q
    · rename_i s hs
      split at q
      · rename_i k hk
        obtain ⟨cv, h1, h2⟩ := isiA_ok r3 hk
        exact .inr ⟨_, a, us, _, cv, k, e, s2, h1, tyS_ty rh r1 hs, h2, upsI (TK.refl H) rep_bl rh q⟩
      · exact q.elim
    · exact q.elim
  · exact q.elim
theorem w_isi (hg : Gl X "isinstance") (hm : X.mg "isinstance" = none) (ha : PAW T L X (e :: es) u) (he : starEach (e :: es) X.env = (false, eval e X.env) :: starEach es X.env := by rfl) (hpl : (backTo pos (starEach es X.env)).any (·.1) = false := by rfl) :
    PEW T L X (.Call (.Name "isinstance" p) (e :: es) [] pos) (tCB wIsi u) := w_callB call_isiA gl_isi mono_isiA hg hm (by decide +kernel) ha (by decide) (by decide) he hpl
/-! bit_length -/
def wBits : W → Mp → QK → Prop := fun x M Q => match x with | .int i => Q (.int (Builtin.Int.intBits i : Nat)) M | _ => False
theorem w_bits (ho : PEW T L X o t) (hbase : attributeBase o "bit_length" X.env (eval o X.env) = eval o X.env := by rfl) (hline : (apos.endLine == pos.line) = true := by rfl) : PEW T L X (.Call (.Attribute o "bit_length" apos) [] [] pos) (tUn wBits t) := by
  refine .up (pe_bits ho.dn hbase hline) fun σ H τ M Q ex r tk q => ?_
  refine dn1 r tk q fun w M1 v H1 k1 r1 tk rp1 q1 => ?_
  unfold wBits at q1
  split at q1
  · exact ⟨_, rp1.int, upsI k1 rep_int r1.rh q1⟩
  · exact q1.elim
/-! methods of a list -/
def tMt (f : Addr → List W → Mp → QK → Prop) (to : TEW) (ta : TAW) : TEW := fun τ M Q E => to τ M (fun x M1 => match x with
  | .ref a => (∃ xs, M1 a = some (.lst xs)) ∧ ta τ M1 (fun ws M2 => f a ws M2 Q) E
  | _ => False) E
def wApp : Addr → List W → Mp → QK → Prop := fun a ws M Q => match ws with
  | [y] => ∃ xs, M a = some (.lst xs) ∧ xs.length < sizeLine ∧ Q .non (put M a (.lst (xs ++ [y])))
  | _ => False
def wExt : Addr → List W → Mp → QK → Prop := fun a ws M Q => match ws with
  | [.ref b] => ∃ xs ys, M a = some (.lst xs) ∧ M b = some (.lst ys) ∧ xs.length + ys.length ≤ sizeLine ∧ Q .non (put M a (.lst (xs ++ ys)))
  | _ => False
/-- a method's rule by values, shadowed -/
def GlM (T : Tb) (X : Cx) (r : V → List V → Hp → VK → Prop) (f : Addr → List W → Mp → QK → Prop) : Prop := ∀ (H : Hp) (M : Mp) (a : Addr) (ws : List W) (vs : List V) (Q : QK), RelH X.K H T M → Reps X.K H ws vs → f a ws M Q → r (.ref a) vs H (ups T X H Q)
def MonoM (r : V → List V → Hp → VK → Prop) : Prop := ∀ (x : V) (vs : List V) (H : Hp) (Q Q' : VK), (∀ z H', Q z H' → Q' z H') → r x vs H Q → r x vs H Q'
theorem w_mt {name : Str} {id : String} {r : V → List V → Hp → VK → Prop} {f : Addr → List W → Mp → QK → Prop} (slot : Slot "list" name id) (hty : typeOf (.builtin id) = pure (.type "method_descriptor")) (hm : MtR X id r) (gl : GlM T X r f) (mo : MonoM r) (ho : PEW T L X o t) (ha : PAW T L X (e :: es) u)
    (hbase : attributeBase o name X.env (eval o X.env) = eval o X.env)
    (hfew : ((backTo cpos (starEach (e :: es) X.env)).all (fun x => !x.1) && (backToKw cpos (keywordEach [] X.env)).all (fun x => x.1.isSome) && decide ((e :: es).length + ([] : List Keyword).length + (if ([] : List Keyword).isEmpty then 0 else 1) < 30)) = true)
    (hline : (apos.endLine == cpos.line) = true) (hs : starEach (e :: es) X.env = (false, eval e X.env) :: starEach es X.env) (hplain : (backTo cpos (starEach es X.env)).any (·.1) = false) :
    PEW T L X (.Call (.Attribute o name apos) (e :: es) [] cpos) (tMt f t u) := by
  refine .up (pe_bm PySem.F.plainAttrs_list slot hty hm ho.dn ha.dn hbase hfew hline hs hplain) fun σ H τ M Q ex r0 tk q => ?_
  refine dn1 r0 tk q fun x M1 v H1 k1 r1 tk rp1 q1 => ?_
  split at q1
  · obtain ⟨⟨xs, hm⟩, q1⟩ := q1
    obtain ⟨us, e2, r3⟩ := r1.rh.obs _ _ hm
    rw [rp1.ref]
    refine ⟨.inl ⟨rfl, us, SqL.of e2⟩, dn1A r1 tk q1 fun ws M2 vs H2 k2 r2 tk rp2 hn q2 => ?_⟩
    exact mo _ vs H2 _ _ (fun z H' hz => ups.trans (k1.trans k2) hz) (gl H2 M2 _ ws vs Q r2.rh rp2 q2)
  · exact q1.elim
theorem gl_app : GlM T X rAppend wApp := by
  intro H M a ws vs Q rh rp q
  unfold wApp at q
  split at q
  · obtain ⟨xs, hm, hz, q⟩ := q
    obtain ⟨us, e2, r3⟩ := rh.obs _ _ hm
    obtain ⟨y, e3, r4⟩ := rp.one'
    exact ⟨_, us, y, rfl, e3, e2, by rw [r3.len]; exact hz, upsI (NL.put (.inr ⟨us, e2⟩)).tk rep_non (rh.putL (.inr ⟨us, e2⟩) (r3.app (.one r4))) q⟩
  · exact q.elim
theorem gl_ext : GlM T X rExtend wExt := by
  intro H M a ws vs Q rh rp q
  unfold wExt at q
  split at q
  · obtain ⟨xs, ys, hm, hb, hz, q⟩ := q
    obtain ⟨us, e2, r3⟩ := rh.obs _ _ hm
    obtain ⟨zs, e4, r4⟩ := rh.obs _ _ hb
    obtain ⟨y, e3, r5⟩ := rp.one'
    rw [r5.ref] at e3
    exact ⟨_, _, us, zs, rfl, e3, e2, e4, by rw [r3.len, r4.len]; exact hz, upsI (NL.put (.inr ⟨us, e2⟩)).tk rep_non (rh.putL (.inr ⟨us, e2⟩) (r3.app r4)) q⟩
  · exact q.elim
theorem w_append (ho : PEW T L X o t) (ha : PAW T L X (e :: es) u) (hbase : attributeBase o "append" X.env (eval o X.env) = eval o X.env := by rfl)
    (hfew : ((backTo cpos (starEach (e :: es) X.env)).all (fun x => !x.1) && (backToKw cpos (keywordEach [] X.env)).all (fun x => x.1.isSome) && decide ((e :: es).length + ([] : List Keyword).length + (if ([] : List Keyword).isEmpty then 0 else 1) < 30)) = true := by rfl)
    (hline : (apos.endLine == cpos.line) = true := by rfl) (hs : starEach (e :: es) X.env = (false, eval e X.env) :: starEach es X.env := by rfl) (hplain : (backTo cpos (starEach es X.env)).any (·.1) = false := by rfl) :
    PEW T L X (.Call (.Attribute o "append" apos) (e :: es) [] cpos) (tMt wApp t u) :=
  w_mt PySem.F.slot_list_append PySem.F.type_list_append mt_append gl_app (fun _ _ _ _ _ f ⟨l, xs, y, h1, h2, h3, h4, q⟩ => ⟨l, xs, y, h1, h2, h3, h4, f _ _ q⟩) ho ha hbase hfew hline hs hplain
theorem w_extend (ho : PEW T L X o t) (ha : PAW T L X (e :: es) u) (hbase : attributeBase o "extend" X.env (eval o X.env) = eval o X.env := by rfl)
    (hfew : ((backTo cpos (starEach (e :: es) X.env)).all (fun x => !x.1) && (backToKw cpos (keywordEach [] X.env)).all (fun x => x.1.isSome) && decide ((e :: es).length + ([] : List Keyword).length + (if ([] : List Keyword).isEmpty then 0 else 1) < 30)) = true := by rfl)
    (hline : (apos.endLine == cpos.line) = true := by rfl) (hs : starEach (e :: es) X.env = (false, eval e X.env) :: starEach es X.env := by rfl) (hplain : (backTo cpos (starEach es X.env)).any (·.1) = false := by rfl) :
    PEW T L X (.Call (.Attribute o "extend" apos) (e :: es) [] cpos) (tMt wExt t u) :=
  w_mt PySem.F.slot_list_extend PySem.F.type_list_extend mt_extend gl_ext (fun _ _ _ _ _ f ⟨l, b, xs, y, h1, h2, h3, h4, h5, q⟩ => ⟨l, b, xs, y, h1, h2, h3, h4, h5, f _ _ q⟩) ho ha hbase hfew hline hs hplain
/-! an item -/
def wIx : RW2 := fun x y M Q => match x, y with
  | .tup ws, .int i => (match atI ws i with | some w => Q w M | none => False)
  | .ref a, .int i => ∃ ws, M a = some (.lst ws) ∧ (match atI ws i with | some w => Q w M | none => False)
  | .str z, .int i => z.length ≤ sizeLine ∧ (match atI z.cps.toList i with | some c => Q (.str ⟨#[c]⟩) M | none => False)
  | _, _ => False
theorem atI_rep {K : PySem.W.Frag} {H : Hp} {ws : List W} {vs : List V} {i : Int} {w : W} (r : Reps K H ws vs) (h : atI ws i = some w) : ∃ v, atI vs i = some v ∧ Rep K H w v := by
  unfold atI at h ⊢
  rw [r.len]
  obtain ⟨j, h1, h2⟩ := Option.bind_eq_some_iff.mp h
  obtain ⟨v, e, rp⟩ := r.get h2
  exact ⟨v, Option.bind_eq_some_iff.mpr ⟨j, h1, e⟩, rp⟩
def rIxA (K : PySem.W.Frag) : R2 := fun x y H Q => rIxL K x y H Q ∨ rIxT K x y H Q ∨ rIxS x y H Q
theorem ix_all : IxR X (rIxA X.K) := IxR.or ix_list (IxR.or ix_tup ix_str)
theorem mono_ix {K : PySem.W.Frag} : Mono2 (rIxA K) := by
  intro v u H Q Q' f h
  rcases h with ⟨p, xs, i, v, h1, h2, h3, h4, q⟩ | ⟨p, xs, i, v, h1, h2, h3, h4, q⟩ | ⟨z, i, c, h1, h2, h3, h4, q⟩
  · exact .inl ⟨p, xs, i, v, h1, h2, h3, h4, f _ _ q⟩
  · exact .inr (.inl ⟨p, xs, i, v, h1, h2, h3, h4, f _ _ q⟩)
  · exact .inr (.inr ⟨z, i, c, h1, h2, h3, h4, f _ _ q⟩)
theorem gl_ix : Gl2 T X (rIxA X.K) wIx := by
  intro H M x y v u Q rh rx ry q
  unfold wIx at q
  split at q
  · obtain ⟨a, vs, e1, s1, p1⟩ := rx.tup
    split at q
    · rename_i w hw
      obtain ⟨z, h1, h2⟩ := atI_rep p1 hw
      exact .inr (.inl ⟨a, vs, _, z, e1, ry.int, s1, h1, upsI (TK.refl H) h2 rh q⟩)
    · exact q.elim
  · obtain ⟨ws, hm, q⟩ := q
    obtain ⟨us, e2, r3⟩ := rh.obs _ _ hm
    split at q
    · rename_i w hw
      obtain ⟨z, h1, h2⟩ := atI_rep r3 hw
      exact .inl ⟨_, us, _, z, rx.ref, ry.int, SqL.of e2, h1, upsI (TK.refl H) h2 rh q⟩
    · exact q.elim
  · obtain ⟨hz, q⟩ := q
    split at q
    · rename_i c hc
      exact .inr (.inr ⟨_, _, c, rx.str, ry.int, hz, hc, upsI (TK.refl H) rep_str rh q⟩)
    · exact q.elim
  · exact q.elim
theorem w_item (ha : PEW T L X a ta) (hb : PEW T L X b tb) (hs : PlainIx b := by exact fun _ _ => rfl) : PEW T L X (.Subscript a b pos) (tOp wIx ta tb) := w_ix ix_all gl_ix mono_ix ha hb hs
end
end Ev

namespace Ev
open PySem PySem.Spec PyProof.Rows L2
/-- what is wanted behind a statement -/
structure Out where
  nx : St' → Mp → Prop
  rt : QK
  bk : St' → Mp → Prop := fun _ _ => False
  ct : St' → Mp → Prop := fun _ _ => False
  ex : EX
abbrev TSW := Out → St' → Mp → Prop
section
variable (T : Tb) (L : Lm) (X : Cx)
def upn (H : Hp) (n : St' → Mp → Prop) : L2.St → Hp → Prop := fun σ' H' => ∃ τ' M', TK H H' ∧ RelS X.K H' τ' σ' ∧ RelH X.K H' T M' ∧ n τ' M'
def upS (H : Hp) (D : Out) : Ends := { nx := upn T X H D.nx, rt := ups T X H D.rt, bk := upn T X H D.bk, ct := upn T X H D.ct }
structure EndsLe (A B : Ends) : Prop where
  nx : ∀ σ H, A.nx σ H → B.nx σ H
  rt : ∀ v H, A.rt v H → B.rt v H
  bk : ∀ σ H, A.bk σ H → B.bk σ H
  ct : ∀ σ H, A.ct σ H → B.ct σ H
def dnS (t : TSW) : TS := fun Dh σ H => ∃ τ M D, SR T L X H τ σ M ∧ TakesS T X H D.ex ∧ t D τ M ∧ EndsLe (upS T X H D) Dh
structure PSW (st : Stmt) (t : TSW) : Prop where
  dn : PS X st (dnS T L X t)
structure PSsW (st : List Stmt) (t : TSW) : Prop where
  dn : PSs X st (dnS T L X t)
abbrev TGW := W → St' → Mp → (St' → Mp → Prop) → Prop
abbrev TGsW := List W → St' → Mp → (St' → Mp → Prop) → Prop
def dnG (g : TGW) : TG := fun v σ H Q => ∃ w τ M Qw, SR T L X H τ σ M ∧ Rep X.K H w v ∧ g w τ M Qw ∧ ∀ σ' H', upn T X H Qw σ' H' → Q σ' H'
def dnGs (g : TGsW) : TGs := fun vs σ H Q => ∃ ws τ M Qw, SR T L X H τ σ M ∧ Reps X.K H ws vs ∧ g ws τ M Qw ∧ ∀ σ' H', upn T X H Qw σ' H' → Q σ' H'
structure PGW (e : Expr) (g : TGW) : Prop where
  dn : PG X e (dnG T L X g)
structure PGsW (es : List Expr) (g : TGsW) : Prop where
  dn : PGs X es (dnGs T L X g)
end
section
variable {T : Tb} {L : Lm} {X : Cx} {e a b c o : Expr} {es : List Expr} {st : Stmt} {rest sa sb : List Stmt} {te ta tb to' : TEW} {t u : TSW} {pos p : Pos}
theorem EndsLe.refl (A : Ends) : EndsLe A A := ⟨fun _ _ h => h, fun _ _ h => h, fun _ _ h => h, fun _ _ h => h⟩
theorem upn_trans {H H1 : Hp} {n : St' → Mp → Prop} (k : TK H H1) {σ : L2.St} {H' : Hp} (h : upn T X H1 n σ H') : upn T X H n σ H' := by
  obtain ⟨τ', M', k1, rs, rh, q⟩ := h
  exact ⟨τ', M', k.trans k1, rs, rh, q⟩
theorem EndsLe.tk {H H1 : Hp} {D : Out} {B : Ends} (k : TK H H1) (h : EndsLe (upS T X H D) B) : EndsLe (upS T X H1 D) B :=
  ⟨fun σ H' z => h.nx σ H' (upn_trans k z), fun v H' z => h.rt v H' (ups.trans k z), fun σ H' z => h.bk σ H' (upn_trans k z), fun σ H' z => h.ct σ H' (upn_trans k z)⟩
theorem PS.imp' {t1 t2 : TS} (h : PS X st t1) (g : ∀ D σ H, t2 D σ H → t1 D σ H) : PS X st t2 := ⟨fun pins s σ H D I q => h.run pins s σ H D I (g D σ H q)⟩
theorem PSs.imp' {t1 t2 : TS} (h : PSs X rest t1) (g : ∀ D σ H, t2 D σ H → t1 D σ H) : PSs X rest t2 := ⟨fun pins s σ H D I q => h.run pins s σ H D I (g D σ H q)⟩
theorem SR.to {H H' : Hp} {τ τ' : St'} {σ σ' : L2.St} {M M' : Mp} (r : SR T L X H τ σ M) (rs : RelS X.K H' τ' σ') (rh : RelH X.K H' T M') : SR T L X H' τ' σ' M' := ⟨rs, rh, r.lv, r.ex0⟩
/-! ### blocks -/
def sNext : TSW := fun D τ M => D.nx τ M
def sSeq (t u : TSW) : TSW := fun D τ M => t { D with nx := fun τ' M' => u D τ' M' } τ M
theorem s_nil : PSsW T L X [] sNext := ⟨PSs.imp' pss_nil fun D σ H ⟨τ, M, Dw, r, tk, q, le⟩ => le.nx σ H ⟨τ, M, TK.refl H, r.rs, r.rh, q⟩⟩
theorem s_cons (h1 : PSW T L X st t) (h2 : PSsW T L X rest u) : PSsW T L X (st :: rest) (sSeq t u) := by
  refine ⟨PSs.imp' (pss_cons h1.dn h2.dn) fun Dh σ H ⟨τ, M, D, r, tk, q, le⟩ => ?_⟩
  refine ⟨τ, M, { D with nx := fun τ' M' => u D τ' M' }, r, tk, q, ⟨fun σ' H' ⟨τ', M', k, rs, rh, z⟩ => ?_, le.rt, le.bk, le.ct⟩⟩
  exact ⟨τ', M', D, r.to rs rh, tk.on k, z, le.tk k⟩
theorem s_one (h1 : PSW T L X st t) : PSsW T L X [st] t := ⟨pss_one h1.dn⟩
theorem s_pass : PSW T L X (.Pass pos) sNext := ⟨PS.imp' ps_pass fun D σ H ⟨τ, M, Dw, r, tk, q, le⟩ => le.nx σ H ⟨τ, M, TK.refl H, r.rs, r.rh, q⟩⟩
def sBreak : TSW := fun D τ M => D.bk τ M
def sCont : TSW := fun D τ M => D.ct τ M
theorem s_break : PSW T L X (.Break pos) sBreak := ⟨PS.imp' ps_break fun D σ H ⟨τ, M, Dw, r, tk, q, le⟩ => le.bk σ H ⟨τ, M, TK.refl H, r.rs, r.rh, q⟩⟩
theorem s_cont : PSW T L X (.Continue pos) sCont := ⟨PS.imp' ps_continue fun D σ H ⟨τ, M, Dw, r, tk, q, le⟩ => le.ct σ H ⟨τ, M, TK.refl H, r.rs, r.rh, q⟩⟩
theorem s_doc {x : Str} {j : Nat} {pos' : Pos} : PSW T L X (.Expr (.Constant (.str x) j pos) pos') sNext := ⟨PS.imp' ps_doc fun D σ H ⟨τ, M, Dw, r, tk, q, le⟩ => le.nx σ H ⟨τ, M, TK.refl H, r.rs, r.rh, q⟩⟩
/-- the exceptions' wish of an expression in a statement -/
def sEx (D : Out) (τ : St') : EK := fun C p M' => D.ex C p τ M'
def sDrop (te : TEW) : TSW := fun D τ M => te τ M (fun _ M1 => D.nx τ M1) (sEx D τ)
theorem s_expr (he : PEW T L X e te) (hs : swapsWith e none pos.line X.env = pure false := by rfl) : PSW T L X (.Expr e pos) (sDrop te) := by
  refine ⟨PS.imp' (ps_expr he.dn hs) fun Dh σ H ⟨τ, M, D, r, tk, q, le⟩ => ?_⟩
  exact dn1 r tk q fun w M1 v H1 k1 r1 tk rp1 q1 => le.nx σ H1 ⟨τ, M1, k1, r1.rs, r1.rh, q1⟩
def sRet (te : TEW) : TSW := fun D τ M => te τ M D.rt (sEx D τ)
theorem s_ret (he : PEW T L X e te) : PSW T L X (.Return (some e) pos) (sRet te) := by
  refine ⟨PS.imp' (ps_ret he.dn) fun Dh σ H ⟨τ, M, D, r, tk, q, le⟩ => ?_⟩
  exact dn1 r tk q fun w M1 v H1 k1 r1 tk rp1 q1 => le.rt v H1 ⟨w, M1, k1, rp1, r1.rh, q1⟩
def sRetN : TSW := fun D _ M => D.rt .non M
theorem s_retN : PSW T L X (.Return none pos) sRetN := ⟨PS.imp' ps_retN fun Dh σ H ⟨τ, M, D, r, tk, q, le⟩ => le.rt .non H ⟨.non, M, TK.refl H, rep_non, r.rh, q⟩⟩
def sIf (c : TTW) (t u : TSW) : TSW := fun D τ M => c τ M (fun k M1 => if k = true then t D τ M1 else u D τ M1) (sEx D τ)
theorem s_if {tc : TTW} (hc : PTW T L X c tc) (ha : PSsW T L X sa t) (hb : PSsW T L X sb u) : PSW T L X (.If c sa sb pos) (sIf tc t u) := by
  refine ⟨PS.imp' (ps_if hc.dn ha.dn hb.dn) fun Dh σ H ⟨τ, M, D, r, tk, q, le⟩ => ?_⟩
  refine dn1T r tk q fun k M1 H1 k1 r1 tk q1 => ?_
  cases k with
  | true =>
    rw [if_pos rfl] at q1 ⊢
    exact ⟨τ, M1, D, r1, tk, q1, le.tk k1⟩
  | false =>
    rw [if_neg Bool.false_ne_true] at q1 ⊢
    exact ⟨τ, M1, D, r1, tk, q1, le.tk k1⟩
/-! ### targets -/
def gNm (i : Nat) : TGW := fun w τ M Q => Q (τ.set i (some w)) M
theorem PG.imp' {t1 t2 : TG} (h : PG X e t1) (g : ∀ v σ H Q, t2 v σ H Q → t1 v σ H Q) : PG X e t2 := ⟨fun pins s σ H v u Q I r q => h.run pins s σ H v u Q I r (g v σ H Q q)⟩
theorem PGs.imp' {t1 t2 : TGs} (h : PGs X es t1) (g : ∀ v σ H Q, t2 v σ H Q → t1 v σ H Q) : PGs X es t2 := ⟨fun pins s σ H v u Q I r q => h.run pins s σ H v u Q I r (g v σ H Q q)⟩
theorem g_name (i : Nat) {x : Str} (hN : X.N.Nodup) (hi : X.N[i]? = some x) (hx : Loc X.env.scope x) (hf : X.fn x = true ∨ X.env.scope.names.lookup x = some .local) : PGW T L X (.Name x pos) (gNm i) := by
  refine ⟨PG.imp' (pg_name hN hi hx hf) fun v σ H Q ⟨w, τ, M, Qw, r, rp, g, f⟩ => ?_⟩
  exact f _ H ⟨_, M, TK.refl H, r.rs.set i rp, r.rh, g⟩
def gsNil : TGsW := fun ws τ M Q => ws = [] ∧ Q τ M
def gsCons (g : TGW) (u : TGsW) : TGsW := fun ws τ M Q => match ws with
  | w :: r => g w τ M (fun τ1 M1 => u r τ1 M1 Q)
  | [] => False
theorem gs_nil : PGsW T L X [] gsNil := ⟨PGs.imp' pgs_nil fun vs σ H Q ⟨ws, τ, M, Qw, r, rp, ⟨e, g⟩, f⟩ => by
  subst e
  exact ⟨rp.nil, f σ H ⟨τ, M, TK.refl H, r.rs, r.rh, g⟩⟩⟩
theorem gs_cons {g : TGW} {v : TGsW} (h1 : PGW T L X e g) (h2 : PGsW T L X es v) (hs : (assignEach (e :: es) X.env).map (·.2) = assign e X.env :: (assignEach es X.env).map (·.2) := by rfl) : PGsW T L X (e :: es) (gsCons g v) := by
  refine ⟨PGs.imp' (pgs_cons h1.dn h2.dn hs) fun vs σ H Q ⟨ws, τ, M, Qw, r, rp, g1, f⟩ => ?_⟩
  cases ws with
  | nil => exact g1.elim
  | cons w wr =>
    obtain ⟨y, vr, e1, r1, r2⟩ := rp.cons
    refine ⟨y, vr, e1, w, τ, M, _, r, r1, g1, fun σ1 H1 ⟨τ1, M1, k1, rs1, rh1, q1⟩ => ?_⟩
    exact ⟨wr, τ1, M1, Qw, r.to rs1 rh1, r2.tk k1, q1, fun σ2 H2 z => f σ2 H2 (upn_trans k1 z)⟩
def gTp (n : Nat) (u : TGsW) : TGW := fun w τ M Q => match w with
  | .tup ws => ws.length = n ∧ u ws τ M Q
  | _ => False
theorem g_tup {k : Nat} {v : TGsW} {n : Nat} (hc : X.calm = true) (h : PGsW T L X es v) (hn : (assignEach es X.env).length = n := by rfl) (hst : (assignEach es X.env).findIdx? (·.1) = none := by rfl) : PGW T L X (.Tuple es k pos) (gTp n v) := by
  refine ⟨PG.imp' (pg_tup hc h.dn hn hst) fun vv σ H Q ⟨w, τ, M, Qw, r, rp, g1, f⟩ => ?_⟩
  cases w with
  | tup ws =>
    obtain ⟨hl, g1⟩ := g1
    obtain ⟨a, vs, e1, s1, r1⟩ := rp.tup
    exact ⟨a, vs, e1, s1, by rw [r1.len]; exact hl, ws, τ, M, Qw, r, r1, g1, f⟩
  | _ => exact g1.elim
/-- target = value -/
def sAsg (te : TEW) (g : TGW) : TSW := fun D τ M => te τ M (fun x M1 => g x τ M1 D.nx) (sEx D τ)
theorem s_asg {tg : Expr} {g : TGW} (he : PEW T L X e te) (hg : PGW T L X tg g) (hs : swapsWithSole [tg] e pos.line X.env = pure false := by rfl) (hw : swappedStores [tg] e X.env = pure none := by rfl)
    (h1 : (assignEach [tg] X.env).map (·.2) = [assign tg X.env] := by rfl) : PSW T L X (.Assign [tg] e pos) (sAsg te g) := by
  refine ⟨PS.imp' (ps_asg he.dn hg.dn hs hw h1) fun Dh σ H ⟨τ, M, D, r, tk, q, le⟩ => ?_⟩
  exact dn1 r tk q fun w M1 v H1 k1 r1 tk rp1 q1 => ⟨w, τ, M1, D.nx, r1, rp1, q1, fun σ' H' z => le.nx σ' H' (upn_trans k1 z)⟩
theorem s_set (i : Nat) {x : Str} {pos' : Pos} (hN : X.N.Nodup) (hi : X.N[i]? = some x) (hx : Loc X.env.scope x) (hf : X.fn x = true ∨ X.env.scope.names.lookup x = some .local) (he : PEW T L X e te) (hs : swapsWith e (some (.Name x pos')) pos.line X.env = pure false := by rfl) :
    PSW T L X (.Assign [.Name x pos'] e pos) (sAsg te (gNm i)) := by
  refine ⟨PS.imp' (ps_set hN hi hx he.dn hs hf) fun Dh σ H ⟨τ, M, D, r, tk, q, le⟩ => ?_⟩
  exact dn1 r tk q fun w M1 v H1 k1 r1 tk rp1 q1 => le.nx _ H1 ⟨_, M1, k1, r1.rs.set i rp1, r1.rh, q1⟩
/-- a, b = x, y of plain locals -/
def sPar (i j : Nat) (ta : TAW) : TSW := fun D τ M => ta τ M (fun ws M1 => match ws with | [x, y] => D.nx ((τ.set i (some x)).set j (some y)) M1 | _ => False) (sEx D τ)
theorem s_par (i j : Nat) {x y : Str} {av : TAW} {px py pt : Pos} {kt k2 : Nat} {pt2 : Pos} (hc : X.calm = true) (hN : X.N.Nodup) (hi : X.N[i]? = some x) (hj : X.N[j]? = some y) (hij : i ≠ j) (hx : X.env.scope.names.lookup x = some .local) (hy : X.env.scope.names.lookup y = some .local) (ha : PAW T L X [a, b] av)
    (hw : swappedStores [.Tuple [.Name x px, .Name y py] kt pt] (.Tuple [a, b] k2 pt2) X.env = pure (some [x, y]))
    (hs : swapsWithSole [.Tuple [.Name x px, .Name y py] kt pt] (.Tuple [a, b] k2 pt2) pos.line X.env = pure false := by rfl) : PSW T L X (.Assign [.Tuple [.Name x px, .Name y py] kt pt] (.Tuple [a, b] k2 pt2) pos) (sPar i j av) := by
  refine ⟨PS.imp' (ps_par hc hN hi hj hij hx hy ha.dn hw hs) fun Dh σ H ⟨τ, M, D, r, tk, q, le⟩ => ?_⟩
  refine dn1A r tk q fun ws M1 vs H1 k1 r1 tk rp1 hn q1 => ?_
  split at q1
  · obtain ⟨v, z, e1, p1, p2⟩ := rp1.two'
    exact ⟨v, z, e1, le.nx _ H1 ⟨_, M1, k1, (r1.rs.set i p1).set j p2, r1.rh, q1⟩⟩
  · exact q1.elim
/-- xs[i] = v -/
def gIx (to ti : TEW) (E : EK) : TGW := fun w τ M Q => to τ M (fun x M1 => ti τ M1 (fun y M2 => match x, y with
  | .ref a, .int k => ∃ ws j, M2 a = some (.lst ws) ∧ ixN ws.length k = some j ∧ Q τ (put M2 a (.lst (ws.set j w)))
  | _, _ => False) E) E
def sIx (te to ti : TEW) : TSW := fun D τ M => te τ M (fun w M1 => gIx to ti (sEx D τ) w τ M1 D.nx) (sEx D τ)
theorem s_ix {i : Expr} {ti : TEW} {p2 : Pos} (he : PEW T L X e te) (ho : PEW T L X o to') (hi : PEW T L X i ti)
    (hs : swapsWithSole [.Subscript o i p2] e pos.line X.env = pure false := by rfl) (hw : swappedStores [.Subscript o i p2] e X.env = pure none := by rfl) (h1 : (assignEach [.Subscript o i p2] X.env).map (·.2) = [assign (.Subscript o i p2) X.env] := by rfl)
    (hp : ∀ v, assign (.Subscript o i p2) X.env v = (do
      let ov ← holding [v] (eval o X.env)
      let iv ← holding [v, ov] (eval i X.env)
      standAt p2
      holding [v, ov, iv] (setItem ov iv v)
      release [v, ov, iv] []) := by intro _; rfl) : PSW T L X (.Assign [.Subscript o i p2] e pos) (sIx te to' ti) := by
  refine ⟨PS.imp' (ps_asg he.dn (pg_sub ho.dn hi.dn set_list hp) hs hw h1) fun Dh σ H ⟨τ, M, D, r, tk, q, le⟩ => ?_⟩
  refine dn1 r tk q fun w M1 v H1 k1 r1 tk rp1 q1 => ?_
  refine dn1 r1 tk q1 fun x M2 vx H2 k2 r2 tk rp2 q2 => ?_
  refine dn1 r2 tk q2 fun y M3 vy H3 k3 r3 tk rp3 q3 => ?_
  split at q3
  · obtain ⟨ws, j, hm, hj, q3⟩ := q3
    obtain ⟨us, e2, rr⟩ := r3.rh.obs _ _ hm
    have n1 : TK H3 (upd H3 _ (.lst (us.set j v))) := (NL.put (.inr ⟨us, e2⟩)).tk
    refine ⟨_, us, _, j, rp2.ref, rp3.int, e2, by rw [rr.len]; exact hj, le.nx _ _ ⟨τ, _, ((k1.trans k2).trans k3).trans n1, r3.rs.tk n1, r3.rh.putL (.inr ⟨us, e2⟩) (rr.set j (rp1.tk (k2.trans k3))), q3⟩⟩
  · exact q3.elim
/-- name op= e -/
def sAug (i : Nat) (te : TEW) (rw : RW2) : TSW := fun D τ M => match τ[i]? with
  | some (some x) => te τ M (fun y M1 => rw x y M1 (fun z M2 => D.nx (τ.set i (some z)) M2)) (sEx D τ)
  | _ => False
theorem s_aug (i : Nat) {x : Str} {op : Operator} {r2 : R2} {rw : RW2} {pos' : Pos} (ho : OpR X (inplaceOp op) r2) (gl : Gl2 T X r2 rw) (mo : Mono2 r2) (hN : X.N.Nodup) (hi : X.N[i]? = some x) (hx : Loc X.env.scope x) (hf : X.fn x = true ∨ X.env.scope.names.lookup x = some .local) (he : PEW T L X e te) :
    PSW T L X (.AugAssign (.Name x pos') op e pos) (sAug i te rw) := by
  have hp : PIp X op r2 := fun pins s σ H x y v u Q I r1 r2 h => ho pins s σ H x y v u Q I r1 r2 h
  refine ⟨PS.imp' (ps_aug hN hi hx he.dn hp hf) fun Dh σ H ⟨τ, M, D, r, tk, q, le⟩ => ?_⟩
  unfold sAug at q
  split at q
  · rename_i w hw
    obtain ⟨v, e1, rp⟩ := r.rs.get hw
    refine ⟨v, e1, dn1 r tk q fun y M1 vy H1 k1 r1 tk rp1 q1 => ?_⟩
    refine mo _ _ _ _ _ (fun z H' hz => ?_) (gl H1 M1 w y v vy _ r1.rh (rp.tk k1) rp1 q1)
    obtain ⟨w2, M2, k2, rp2, rh2, q2⟩ := hz
    exact le.nx _ H' ⟨_, M2, k1.trans k2, (r1.rs.tk k2).set i rp2, rh2, q2⟩
  · exact q.elim
/-! ### while -/
def sWhile (c : TTW) (tb : TSW) : TSW := fun D τ M => ∃ I : Nat → St' → Mp → Prop, (∃ m, I m τ M) ∧ ∀ m τ M, I m τ M →
  c τ M (fun k M1 => if k = true then tb { D with nx := fun τ' M' => ∃ m', m' < m ∧ I m' τ' M', ct := fun τ' M' => ∃ m', m' < m ∧ I m' τ' M', bk := D.nx } τ M1 else D.nx τ M1) (sEx D τ)
theorem s_while {tc : TTW} (hp : PassesOwn (model X.prog X.w) X.A X.env X.xe) (hc : PTW T L X c tc) (hb : PSsW T L X sa t) : PSW T L X (.While c sa [] pos) (sWhile tc t) := by
  refine ⟨PS.imp' (ps_while hp hc.dn hb.dn) fun Dh σ H ⟨τ, M, D, r, tk, ⟨Iv, ⟨m0, i0⟩, turn⟩, le⟩ => ?_⟩
  refine ⟨fun m σ' H' => ∃ τ' M', TK H H' ∧ SR T L X H' τ' σ' M' ∧ Iv m τ' M', ⟨m0, τ, M, TK.refl H, r, i0⟩, fun m σ1 H1 ⟨τ1, M1, k1, r1, i1⟩ => ?_⟩
  refine dn1T r1 (tk.on k1) (turn m τ1 M1 i1) fun k M2 H2 k2 r2 tk q2 => ?_
  cases k with
  | true =>
    rw [if_pos rfl] at q2 ⊢
    refine ⟨fun σ3 H3 => ∃ m', m' < m ∧ ∃ τ' M', TK H H3 ∧ SR T L X H3 τ' σ3 M' ∧ Iv m' τ' M', fun σ' H' z => z, τ1, M2, { D with nx := fun τ' M' => ∃ m', m' < m ∧ Iv m' τ' M', ct := fun τ' M' => ∃ m', m' < m ∧ Iv m' τ' M', bk := D.nx }, r2, tk, q2, ?_⟩
    have step : ∀ σ3 H3, upn T X H2 (fun τ' M' => ∃ m', m' < m ∧ Iv m' τ' M') σ3 H3 → ∃ m', m' < m ∧ ∃ τ' M', TK H H3 ∧ SR T L X H3 τ' σ3 M' ∧ Iv m' τ' M' := fun σ3 H3 ⟨τ3, M3, k3, rs3, rh3, m', hm, i3⟩ =>
      ⟨m', hm, τ3, M3, (k1.trans k2).trans k3, r2.to rs3 rh3, i3⟩
    exact ⟨step, fun v H' z => le.rt v H' (ups.trans (k1.trans k2) z), fun σ3 H3 z => le.nx σ3 H3 (upn_trans (k1.trans k2) z), step⟩
  | false =>
    rw [if_neg Bool.false_ne_true] at q2 ⊢
    exact le.nx σ1 H2 ⟨τ1, M2, k1.trans k2, r2.rs, r2.rh, q2⟩
/-! ### for -/
/-- the items one after the other -/
def lpW (g : TGW) (tb : TSW) : List W → TSW
  | [] => fun D τ M => D.nx τ M
  | w :: r => fun D τ M => g w τ M (fun τ1 M1 => tb { D with nx := fun τ' M' => lpW g tb r D τ' M', ct := fun τ' M' => lpW g tb r D τ' M', bk := D.nx } τ1 M1)
/-- the same of a list at an address, that stays as it is -/
def lpL (a : Addr) (all : List W) (g : TGW) (tb : TSW) : List W → TSW
  | [] => fun D τ M => M a = some (.lst all) ∧ D.nx τ M
  | w :: r => fun D τ M => M a = some (.lst all) ∧ g w τ M (fun τ1 M1 => tb { D with nx := fun τ' M' => lpL a all g tb r D τ' M', ct := fun τ' M' => lpL a all g tb r D τ' M', bk := D.nx } τ1 M1)
def sFor (te : TEW) (g : TGW) (tb : TSW) : TSW := fun D τ M => te τ M (fun x M1 => match x with
  | .tup ws => lpW g tb ws D τ M1
  | .rol ws => lpW g tb ws D τ M1
  | .ref a => ∃ ws, M1 a = some (.lst ws) ∧ lpL a ws g tb ws D τ M1
  | _ => False) (sEx D τ)
def iSeq (K : PySem.W.Frag) (tl : TE) : TI := fun σ H R => tl σ H fun x H1 => ∃ a, x = .ref a ∧ (((∃ xs, SqL K H1 a xs) ∧ R (Itl K a) H1) ∨ ((∃ xs, SqT K H1 a xs) ∧ R (Itt K a) H1))
theorem pi_seq {tg l : Expr} {tl : TE} (hl : PE X l tl) : PI X tg l (iSeq X.K tl) := by
  refine ⟨fun pins s σ H R I h => thn (hl.run pins s σ H _ I h) fun v s1 ⟨x, H1, I1, r1, q1⟩ => ?_⟩
  obtain ⟨a, e, q⟩ := q1
  subst e
  cases r1
  have free : ∀ b ∈ [s1.heap.objs.size], FpOk X pins H1 b := fun b hb => by
    rw [List.mem_singleton] at hb
    subst hb
    exact I1.fpOk (Nat.le_refl _) (I1.hok.fresh (Nat.le_refl _))
  rcases q with ⟨⟨xs, hq⟩, q⟩ | ⟨⟨xs, hq⟩, q⟩
  · obtain ⟨its, rv, pl, _⟩ := I1.list hq
    refine wpAny_pyIter_list pl.isList ⟨_, _, _, _, H1, rfl, ?_, turn_list a s1.heap.objs.size, ?_, free, q⟩
    · exact I1.kept (t' := s1.toks) fun b o e => Heap.get?_push_of_some _ e
    · exact ⟨_, Heap.get?_push_size _ rfl, rfl, rfl⟩
  · obtain ⟨its, rv, pt, _⟩ := I1.tuple hq
    refine wpAny_pyIter_tuple (show s1.heap.IsTuple a its.toArray from pt) ⟨_, _, _, _, H1, rfl, ?_, turn_tuple a s1.heap.objs.size, ?_, free, q⟩
    · exact I1.kept (t' := s1.toks) fun b o e => Heap.get?_push_of_some _ e
    · exact ⟨_, Heap.get?_push_size _ rfl, rfl, rfl⟩
theorem get_drop {α : Type} : ∀ {l : List α} {i : Nat} {x : α}, l[i]? = some x → l.drop i = x :: l.drop (i + 1)
  | [], i, x, h => by simp at h
  | a :: l, 0, x, h => by simp only [List.getElem?_cons_zero, Option.some.injEq] at h; subst h; rfl
  | a :: l, i + 1, x, h => by
    simp only [List.getElem?_cons_succ] at h
    rw [List.drop_succ_cons, get_drop h, List.drop_succ_cons]
theorem Reps.at : ∀ {K : PySem.W.Frag} {H : Hp} {ws : List W} {vs : List V} {i : Nat} {v : V}, Reps K H ws vs → vs[i]? = some v → ∃ w, ws[i]? = some w ∧ Rep K H w v := by
  intro K H ws vs i v r h
  have hl := r.len
  have hi : i < ws.length := by
    rw [← hl]
    exact (List.getElem?_eq_some_iff.mp h).1
  obtain ⟨v', e, rp⟩ := r.get (List.getElem?_eq_getElem hi)
  rw [h] at e
  cases e
  exact ⟨ws[i], List.getElem?_eq_getElem hi, rp⟩
/-- the walk over a thing whose items stand -/
theorem for_core {J : It} {g : TGW} {tb : TSW} {D : Out} {Dh : Ends} {σ : L2.St} {H : Hp} {τ : St'} {M : Mp} {n : Nat} {lp : Nat → TSW} (r : SR T L X H τ σ M) (tk : TakesS T X H D.ex) (le : EndsLe (upS T X H D) Dh) (h0 : lp 0 D τ M)
    (hend : ∀ τ M, lp n D τ M → D.nx τ M)
    (hgo : ∀ i (H' : Hp) τ M, i < n → TK H H' → RelH X.K H' T M → lp i D τ M → J.go i H' ∧ ∀ x H2, J.yld i H' x H2 → H2 = H' ∧ ∃ w, Rep X.K H' w x ∧ g w τ M (fun τ1 M1 => tb { D with nx := fun τ' M' => lp (i + 1) D τ' M', ct := fun τ' M' => lp (i + 1) D τ' M', bk := D.nx } τ1 M1))
    (hstop : ∀ (H' : Hp) τ M, TK H H' → RelH X.K H' T M → lp n D τ M → J.stop n H') :
    ∃ Iv : Nat → Nat → L2.St → Hp → Prop, (∃ m, Iv 0 m σ H) ∧ ∀ i m σ H, Iv i m σ H → (J.stop i H ∧ Dh.nx σ H) ∨ (J.go i H ∧ ∃ N : L2.St → Hp → Prop, (∀ σ' H', N σ' H' → ∃ m', m' < m ∧ Iv (i + 1) m' σ' H') ∧ ∀ x H', J.yld i H x H' → dnG T L X g x σ H' fun σ2 H2 => dnS T L X tb { Dh with nx := N, ct := N, bk := Dh.nx } σ2 H2) := by
  refine ⟨fun i m σ' H' => m + i = n ∧ TK H H' ∧ ∃ τ' M', SR T L X H' τ' σ' M' ∧ lp i D τ' M', ⟨n, rfl, TK.refl H, τ, M, r, h0⟩, ?_⟩
  rintro i m σ1 H1 ⟨hm, k1, τ1, M1, r1, l1⟩
  by_cases hi : i < n
  · obtain ⟨go, yl⟩ := hgo i H1 τ1 M1 hi k1 r1.rh l1
    refine .inr ⟨go, fun σ' H' => TK H H' ∧ ∃ τ' M', SR T L X H' τ' σ' M' ∧ lp (i + 1) D τ' M', fun σ' H' ⟨k, z⟩ => ⟨m - 1, by omega, by omega, k, z⟩, fun x H' hy => ?_⟩
    obtain ⟨e, w, rp, gg⟩ := yl x H' hy
    subst e
    refine ⟨w, τ1, M1, _, r1, rp, gg, fun σ2 H2 ⟨τ2, M2, k2, rs2, rh2, q2⟩ => ?_⟩
    refine ⟨τ2, M2, { D with nx := fun τ' M' => lp (i + 1) D τ' M', ct := fun τ' M' => lp (i + 1) D τ' M', bk := D.nx }, r1.to rs2 rh2, tk.on (k1.trans k2), q2, ?_⟩
    have step : ∀ σ3 H3, upn T X H2 (fun τ' M' => lp (i + 1) D τ' M') σ3 H3 → TK H H3 ∧ ∃ τ' M', SR T L X H3 τ' σ3 M' ∧ lp (i + 1) D τ' M' := fun σ3 H3 ⟨τ3, M3, k3, rs3, rh3, q3⟩ =>
      ⟨(k1.trans k2).trans k3, τ3, M3, r1.to rs3 rh3, q3⟩
    exact ⟨step, fun v H3 z => le.rt v H3 (ups.trans (k1.trans k2) z), fun σ3 H3 z => le.nx σ3 H3 (upn_trans (k1.trans k2) z), step⟩
  · have e : i = n := by omega
    subst e
    exact .inl ⟨hstop H1 τ1 M1 k1 r1.rh l1, le.nx σ1 H1 ⟨τ1, M1, k1, r1.rs, r1.rh, hend _ _ l1⟩⟩
theorem lpW_end {g : TGW} {tb : TSW} {ws : List W} {D : Out} {τ : St'} {M : Mp} (h : lpW g tb (ws.drop ws.length) D τ M) : D.nx τ M := by
  rw [List.drop_length] at h
  exact h
theorem EndsLe.dnx {A B : Ends} (h : EndsLe A B) : EndsLe A B := h
theorem s_for {tg : Expr} {g : TGW} (hp : PassesOwn (model X.prog X.w) X.A X.env X.xe) (hc : X.calm = true) (hi : PEW T L X e te) (hg : PGW T L X tg g) (hb : PSsW T L X sa t) (hs : ∀ x, foldedSetIterable e X.env x = pure x := by intro _; rfl) :
    PSW T L X (.For tg e sa [] pos) (sFor te g t) := by
  refine ⟨PS.imp' (ps_for hp hc (pi_seq hi.dn) hg.dn hb.dn hs) fun Dh σ H ⟨τ, M, D, r, tk, q, le⟩ => ?_⟩
  refine dn1 r tk q fun w M1 v H1 k1 r1 tk rp1 q1 => ?_
  split at q1
  · rename_i ws
    obtain ⟨a, vs, e1, s1, r2⟩ := rp1.tup
    refine ⟨a, e1, .inr ⟨⟨vs, s1⟩, ?_⟩⟩
    refine for_core (n := ws.length) (lp := fun i => lpW g t (ws.drop i)) r1 tk (le.tk k1) q1 (fun _ _ z => lpW_end z) (fun i H' τ' M' hi k rh l => ?_) (fun H' τ' M' k rh l => ⟨vs, SqT.tk k s1, by rw [r2.len]; exact Nat.le_refl _⟩)
    have hx : i < vs.length := by rw [r2.len]; exact hi
    refine ⟨⟨vs, vs[i], SqT.tk k s1, List.getElem?_eq_getElem hx⟩, fun x H2 ⟨e2, hy⟩ => ⟨e2, ?_⟩⟩
    obtain ⟨w, hw, rp⟩ := r2.at (hy vs (SqT.tk k s1))
    rw [get_drop hw] at l
    exact ⟨w, rp.tk k, l⟩
  · rename_i ws
    obtain ⟨a, vs, e1, s1, r2⟩ := rp1.rol
    refine ⟨a, e1, .inl ⟨⟨vs, s1.1⟩, ?_⟩⟩
    refine for_core (n := ws.length) (lp := fun i => lpW g t (ws.drop i)) r1 tk (le.tk k1) q1 (fun _ _ z => lpW_end z) (fun i H' τ' M' hi k rh l => ?_) (fun H' τ' M' k rh l => ⟨vs, (s1.tk k).1, by rw [r2.len]; exact Nat.le_refl _⟩)
    have hx : i < vs.length := by rw [r2.len]; exact hi
    refine ⟨⟨vs, vs[i], (s1.tk k).1, List.getElem?_eq_getElem hx⟩, fun x H2 ⟨e2, hy⟩ => ⟨e2, ?_⟩⟩
    obtain ⟨w, hw, rp⟩ := r2.at (hy vs (s1.tk k).1)
    rw [get_drop hw] at l
    exact ⟨w, rp.tk k, l⟩
  · rename_i a
    obtain ⟨ws, hm, q1⟩ := q1
    obtain ⟨vs0, e0, _⟩ := r1.rh.obs _ _ hm
    refine ⟨a, rp1.ref, .inl ⟨⟨vs0, SqL.of e0⟩, ?_⟩⟩
    have at_ : ∀ {l : List W} {τ' : St'} {M' : Mp}, lpL a ws g t l D τ' M' → M' a = some (.lst ws) := fun {l τ' M'} z => by
      cases l with
      | nil => exact z.1
      | cons _ _ => exact z.1
    refine for_core (n := ws.length) (lp := fun i => lpL a ws g t (ws.drop i)) r1 tk (le.tk k1) q1 (fun _ _ z => ?_) (fun i H' τ' M' hi k rh l => ?_) (fun H' τ' M' k rh l => ?_)
    · rw [List.drop_length] at z
      exact z.2
    · obtain ⟨vs, e2, r2⟩ := rh.obs _ _ (at_ l)
      have hx : i < vs.length := by rw [r2.len]; exact hi
      refine ⟨⟨vs, vs[i], SqL.of e2, List.getElem?_eq_getElem hx⟩, fun x H2 ⟨e3, hy⟩ => ⟨e3, ?_⟩⟩
      obtain ⟨w, hw, rp⟩ := r2.at (hy vs (SqL.of e2))
      rw [get_drop hw] at l
      exact ⟨w, rp, l.2⟩
    · obtain ⟨vs, e2, r2⟩ := rh.obs _ _ (at_ l)
      exact ⟨vs, SqL.of e2, by rw [r2.len]; exact Nat.le_refl _⟩
  · exact q1.elim
/-- lo, lo + 1, .. as values -/
def rngW (lo : Int) (n : Nat) : List W := (List.range n).map fun (i : Nat) => .int (lo + (i : Int))
theorem rngW_get {lo : Int} {n i : Nat} (h : i < n) : (rngW lo n)[i]? = some (.int (lo + (i : Int))) := by
  unfold rngW
  rw [List.getElem?_map, List.getElem?_range h]
  rfl
theorem rngW_len {lo : Int} {n : Nat} : (rngW lo n).length = n := by unfold rngW; simp
def sForR (ta : TAW) (g : TGW) (tb : TSW) : TSW := fun D τ M => ta τ M (fun ws M1 => match ws with
  | [.int j] => (-(2 ^ 62) ≤ j ∧ j < 2 ^ 62) ∧ lpW g tb (rngW 0 j.toNat) D τ M1
  | [.int i, .int j] => (-(2 ^ 62) ≤ i ∧ i < 2 ^ 62 ∧ -(2 ^ 62) ≤ j ∧ j < 2 ^ 62) ∧ lpW g tb (rngW i (j - i).toNat) D τ M1
  | _ => False) (sEx D τ)
theorem rng_core {lo : Int} {n : Nat} {g : TGW} {tb : TSW} {D : Out} {Dh : Ends} {σ : L2.St} {H : Hp} {τ : St'} {M : Mp} (r : SR T L X H τ σ M) (tk : TakesS T X H D.ex) (le : EndsLe (upS T X H D) Dh) (h : lpW g tb (rngW lo n) D τ M) :
    ∃ Iv : Nat → Nat → L2.St → Hp → Prop, (∃ m, Iv 0 m σ H) ∧ ∀ i m σ H, Iv i m σ H → ((Itr lo n).stop i H ∧ Dh.nx σ H) ∨ ((Itr lo n).go i H ∧ ∃ N : L2.St → Hp → Prop, (∀ σ' H', N σ' H' → ∃ m', m' < m ∧ Iv (i + 1) m' σ' H') ∧ ∀ x H', (Itr lo n).yld i H x H' → dnG T L X g x σ H' fun σ2 H2 => dnS T L X tb { Dh with nx := N, ct := N, bk := Dh.nx } σ2 H2) := by
  refine for_core (n := n) (lp := fun i => lpW g tb ((rngW lo n).drop i)) r tk le h (fun _ _ z => ?_) (fun i H' τ' M' hi k rh l => ?_) (fun H' τ' M' k rh l => Nat.le_refl n)
  · have e : (rngW lo n).drop n = [] := by
      have := @rngW_len lo n
      exact List.drop_eq_nil_of_le (by omega)
    rw [e] at z
    exact z
  · refine ⟨hi, fun x H2 ⟨e2, hy⟩ => ⟨e2, ?_⟩⟩
    rw [get_drop (rngW_get hi)] at l
    exact ⟨_, by rw [hy]; exact rep_int, l⟩
theorem s_forR1 {tg : Expr} {g : TGW} {ua : TAW} {p2 : Pos} (hp : PassesOwn (model X.prog X.w) X.A X.env X.xe) (hc : X.calm = true) (hgl : Gl X "range") (hm : X.mg "range" = none) (ha : PAW T L X [a] ua) (hg : PGW T L X tg g) (hb : PSsW T L X sa t)
    (hst : starEach [a] X.env = [(false, eval a X.env)] := by rfl) (hs : ∀ x, foldedSetIterable (.Call (.Name "range" p) [a] [] p2) X.env x = pure x := by intro _; rfl) :
    PSW T L X (.For tg (.Call (.Name "range" p) [a] [] p2) sa [] pos) (sForR ua g t) := by
  refine ⟨PS.imp' (ps_for hp hc (pi_range1 hgl hm ha.dn hst) hg.dn hb.dn hs) fun Dh σ H ⟨τ, M, D, r, tk, q, le⟩ => ?_⟩
  refine dn1A r tk q fun ws M1 vs H1 k1 r1 tk rp1 hn q1 => ?_
  split at q1
  · obtain ⟨v, e, r2⟩ := rp1.one'
    rw [r2.int] at e
    exact ⟨_, e, q1.1.1, q1.1.2, rng_core r1 tk (le.tk k1) q1.2⟩
  · cases hn
  · exact q1.elim
theorem s_forR2 {tg : Expr} {g : TGW} {ua : TAW} {p2 : Pos} (hp : PassesOwn (model X.prog X.w) X.A X.env X.xe) (hc : X.calm = true) (hgl : Gl X "range") (hm : X.mg "range" = none) (ha : PAW T L X [a, b] ua) (hg : PGW T L X tg g) (hb : PSsW T L X sa t)
    (hst : starEach [a, b] X.env = [(false, eval a X.env), (false, eval b X.env)] := by rfl) (hst2 : starEach [b] X.env = [(false, eval b X.env)] := by rfl) (hs : ∀ x, foldedSetIterable (.Call (.Name "range" p) [a, b] [] p2) X.env x = pure x := by intro _; rfl) :
    PSW T L X (.For tg (.Call (.Name "range" p) [a, b] [] p2) sa [] pos) (sForR ua g t) := by
  refine ⟨PS.imp' (ps_for hp hc (pi_range2 hgl hm ha.dn hst hst2) hg.dn hb.dn hs) fun Dh σ H ⟨τ, M, D, r, tk, q, le⟩ => ?_⟩
  refine dn1A r tk q fun ws M1 vs H1 k1 r1 tk rp1 hn q1 => ?_
  split at q1
  · cases hn
  · obtain ⟨v, y, e, r2, r3⟩ := rp1.two'
    rw [r2.int, r3.int] at e
    exact ⟨_, _, e, q1.1, rng_core r1 tk (le.tk k1) q1.2⟩
  · exact q1.elim
end
end Ev

namespace Ev
open PySem PySem.Spec PyProof.Rows L2
/-! ### comprehensions: one clause over a name, where nothing is raised -/
def L0 : Lm := fun _ => none
section
variable {T : Tb} {X : Cx}
def dnE0 (K : PySem.W.Frag) (T : Tb) (t : TEW) : TE := fun σ H Q => ∃ τ M Qw, RelS K H τ σ ∧ RelH K H T M ∧ t τ M Qw (fun _ _ _ => False) ∧ ∀ v H' w M', TK H H' → Rep K H' w v → RelH K H' T M' → Qw w M' → Q v H'
def dnT0 (K : PySem.W.Frag) (T : Tb) (t : TTW) : TT := fun σ H Q => ∃ τ M Qw, RelS K H τ σ ∧ RelH K H T M ∧ t τ M Qw (fun _ _ _ => False) ∧ ∀ k H' M', TK H H' → RelH K H' T M' → Qw k M' → Q k H'
theorem takesF {H : Hp} : TakesS T X H fun _ _ _ _ => False := fun u s' x => by
  obtain ⟨_, _, _, _, _, _, _, _, _, _, _, _, _, _, _, _, _, C, p, τ, M, _, _, _, _, z⟩ := x
  exact z.elim
theorem live0 : Live T L0 X := fun f tl e => by cases e
theorem PEW.dn0 {e : Expr} {t : TEW} (h : PEW T L0 X e t) : PE X e (dnE0 X.K T t) :=
  ⟨fun pins s σ H Q I ⟨τ, M, Qw, rs, rh, q, g⟩ => h.dn.run pins s σ H Q I ⟨τ, M, Qw, fun _ _ _ _ => False, ⟨rs, rh, live0, .inr fun _ => rfl⟩, takesF, q, fun v H' ⟨w, M', k, rp, rh', qq⟩ => g v H' w M' k rp rh' qq⟩⟩
theorem PTW.dn0 {e : Expr} {t : TTW} (h : PTW T L0 X e t) : PT X e (dnT0 X.K T t) :=
  ⟨fun pins s σ H Q I ⟨τ, M, Qw, rs, rh, q, g⟩ => h.dn.run pins s σ H Q I ⟨τ, M, Qw, fun _ _ _ _ => False, ⟨rs, rh, live0, .inr fun _ => rfl⟩, takesF, q, fun v H' ⟨M', k, rh', qq⟩ => g v H' M' k rh' qq⟩⟩
/-- a clause's tests -/
structure PTsW (T : Tb) (X : Cx) (ifs : List Expr) (t : TTW) : Prop where
  dn : PTs X ifs (dnT0 X.K T t)
def qYes : TTW := fun _ M Q _ => Q true M
theorem PTs.imp' {ifs : List Expr} {t t' : TT} (h : PTs X ifs t) (g : ∀ σ H Q, t' σ H Q → t σ H Q) : PTs X ifs t' := ⟨fun pins s σ H Q I q => h.run pins s σ H Q I (g σ H Q q)⟩
theorem c_nil : PTsW T X [] qYes := ⟨PTs.imp' pts_nil fun σ H Q ⟨τ, M, Qw, rs, rh, q, g⟩ => g true H M (TK.refl H) rh q⟩
theorem c_one {c : Expr} {t : TTW} (h : PTW T L0 X c t) : PTsW T X [c] t := ⟨pts_one h.dn0⟩
/-- the turns: Kp is asked at each (the walked list stands) -/
def cpW (Kp : Mp → Prop) (i : Nat) (tt : TTW) (te : TEW) (D : Addr) (τ : St') (Q : Mp → Prop) : List W → Mp → Prop
  | [], M => Kp M ∧ Q M
  | w :: r, M => Kp M ∧ tt (τ.set i (some w)) M (fun k M1 => if k = true then te (τ.set i (some w)) M1 (fun y M2 => ∃ acc, M2 D = some (.lst acc) ∧ acc.length < sizeLine ∧ cpW Kp i tt te D τ Q r (put M2 D (.lst (acc ++ [y])))) (fun _ _ _ => False)
      else cpW Kp i tt te D τ Q r M1) (fun _ _ _ => False)
theorem cpW_kp {Kp : Mp → Prop} {i : Nat} {tt : TTW} {te : TEW} {D : Addr} {τ : St'} {Q : Mp → Prop} : ∀ {l : List W} {M : Mp}, cpW Kp i tt te D τ Q l M → Kp M
  | [], _, h => h.1
  | _ :: _, _, h => h.1
/-- over a tuple or a list -/
def tLc (i : Nat) (ti : TEW) (tt : TTW) (te : TEW) : TEW := fun τ M Q E => ti τ M (fun x M1 => match x with
  | .tup ws => ∀ D, M1 D = none → cpW (fun _ => True) i tt te D (τ.set i none) (fun M2 => Q (.ref D) M2) ws (put M1 D (.lst []))
  | .rol ws => ∀ D, M1 D = none → cpW (fun _ => True) i tt te D (τ.set i none) (fun M2 => Q (.ref D) M2) ws (put M1 D (.lst []))
  | .ref a => ∃ ws, M1 a = some (.lst ws) ∧ ∀ D, M1 D = none → cpW (fun M' => M' a = some (.lst ws)) i tt te D (τ.set i none) (fun M2 => Q (.ref D) M2) ws (put M1 D (.lst []))
  | _ => False) E
/-- over a range -/
def tLcR (i : Nat) (ta : TAW) (tt : TTW) (te : TEW) : TEW := fun τ M Q E => ta τ M (fun ws M1 => match ws with
  | [.int j] => (-(2 ^ 62) ≤ j ∧ j < 2 ^ 62) ∧ ∀ D, M1 D = none → cpW (fun _ => True) i tt te D (τ.set i none) (fun M2 => Q (.ref D) M2) (rngW 0 j.toNat) (put M1 D (.lst []))
  | [.int l, .int j] => (-(2 ^ 62) ≤ l ∧ l < 2 ^ 62 ∧ -(2 ^ 62) ≤ j ∧ j < 2 ^ 62) ∧ ∀ D, M1 D = none → cpW (fun _ => True) i tt te D (τ.set i none) (fun M2 => Q (.ref D) M2) (rngW l (j - l).toNat) (put M1 D (.lst []))
  | _ => False) E
theorem wipe1 (σ : L2.St) (i : Nat) (y : Option V) : wipe ((wipe σ [i]).set i y) [i] = wipe σ [i] := by
  show ((σ.set i none).set i y).set i none = σ.set i none
  rw [List.set_set, List.set_set]
theorem lc_turns {J : It} {i : Nat} {tt : TTW} {te : TEW} {σ : L2.St} {τ : St'} {H : Hp} {M : Mp} {D : Addr} {Q : QK} {Kp : Mp → Prop} {items : List W} {H00 : Hp} {Qh : VK} (k00 : TK H00 H) (hq : ∀ v H', ups T X H00 Q v H' → Qh v H') (rs : RelS X.K H τ σ) (rh : RelH X.K H T M) (hD : H D = none)
    (h0 : cpW Kp i tt te D (τ.set i none) (fun M2 => Q (.ref D) M2) items (put M D (.lst [])))
    (hgo : ∀ j (H' : Hp) (M' : Mp), j < items.length → TK H H' → RelH X.K H' T M' → Kp M' → J.go j H' ∧ ∀ x H2, J.yld j H' x H2 → H2 = H' ∧ ∃ w, items[j]? = some w ∧ Rep X.K H' w x)
    (hstop : ∀ (H' : Hp) (M' : Mp), TK H H' → RelH X.K H' T M' → Kp M' → J.stop items.length H') :
    ∃ Iv : Nat → Nat → Hp → Prop, (∃ m, Iv 0 m (upd H D (.lst []))) ∧ ∀ j m H', Iv j m H' → (J.stop j H' ∧ Qh (.ref D) H') ∨ (J.go j H' ∧ ∃ Nx : Hp → Prop, (∀ H', Nx H' → ∃ m', m' < m ∧ Iv (j + 1) m' H') ∧
      ∀ x H2, J.yld j H' x H2 → gName i x (wipe σ [i]) H2 fun σ2 H3 => wipe σ2 [i] = wipe σ [i] ∧ dnT0 X.K T tt σ2 H3 fun k H4 => if k = true then dnE0 X.K T te σ2 H4 fun y H5 => ∃ acc, H5 D = some (.lst acc) ∧ acc.length < sizeLine ∧ Nx (upd H5 D (.lst (acc ++ [y]))) else Nx H4) := by
  have kD : TK H (upd H D (.lst [])) := (NL.put (.inl hD)).tk
  have rhD : RelH X.K (upd H D (.lst [])) T (put M D (.lst [])) := rh.putL (.inl hD) (by unfold Reps; rfl)
  refine ⟨fun j m H' => m + j = items.length ∧ TK H H' ∧ ∃ M', RelH X.K H' T M' ∧ cpW Kp i tt te D (τ.set i none) (fun M2 => Q (.ref D) M2) (items.drop j) M', ⟨items.length, rfl, kD, _, rhD, h0⟩, ?_⟩
  rintro j m H' ⟨hm, k1, M', rh', c⟩
  by_cases hj : j < items.length
  · obtain ⟨go, yl⟩ := hgo j H' M' hj k1 rh' (cpW_kp c)
    refine .inr ⟨go, fun H2 => TK H H2 ∧ ∃ M2, RelH X.K H2 T M2 ∧ cpW Kp i tt te D (τ.set i none) (fun M2 => Q (.ref D) M2) (items.drop (j + 1)) M2, fun H2 ⟨k2, z⟩ => ⟨m - 1, by omega, by omega, k2, z⟩, fun x H2 hy => ?_⟩
    obtain ⟨e, w, hw, rp⟩ := yl x H2 hy
    subst e
    rw [get_drop hw] at c
    refine ⟨wipe1 σ i _, ?_⟩
    have rs1 : RelS X.K H2 ((τ.set i none).set i (some w)) ((wipe σ [i]).set i (some x)) := ((rs.tk k1).unset i).set i rp
    refine ⟨_, M', _, rs1, rh', c.2, fun k H4 M4 k4 rh4 q4 => ?_⟩
    cases k with
    | false =>
      rw [if_neg Bool.false_ne_true] at q4 ⊢
      exact ⟨k1.trans k4, M4, rh4, q4⟩
    | true =>
      rw [if_pos rfl] at q4 ⊢
      refine ⟨_, M4, _, rs1.tk k4, rh4, q4, fun y H5 wy M5 k5 rp5 rh5 q5 => ?_⟩
      obtain ⟨acc, hacc, hl, c2⟩ := q5
      obtain ⟨vs, e5, r5⟩ := rh5.obs _ _ hacc
      refine ⟨vs, e5, by rw [r5.len]; exact hl, ?_, _, rh5.putL (.inr ⟨vs, e5⟩) (r5.app (.one rp5)), c2⟩
      exact ((k1.trans k4).trans k5).trans (NL.put (.inr ⟨vs, e5⟩)).tk
  · have e : j = items.length := by omega
    subst e
    rw [List.drop_length] at c
    exact .inl ⟨hstop H' M' k1 rh' c.1, hq _ _ ⟨.ref D, M', k00.trans k1, rep_ref, rh', c.2⟩⟩
end
section
variable {T : Tb} {L : Lm} {X : Cx} {e a b elt iter tg : Expr} {ifs : List Expr} {ti te : TEW} {tt : TTW} {scope : Scope} {pos p : Pos}
theorem lc_seq {σ : L2.St} {H : Hp} {τ : St'} {M : Mp} {Q : QK} {ex : EX} {i : Nat} {Qh : VK} (hq : ∀ v H', ups T X H Q v H' → Qh v H') (r : SR T L X H τ σ M) (tk : TakesS T X H ex) (q : tLc i ti tt te τ M Q (fun C p M' => ex C p τ M')) :
    L2.tLc (iSeq X.K (dnE T L X ti)) (gName i) (dnT0 X.K T tt) (dnE0 X.K T te) [i] σ H Qh := by
  refine dn1 r tk q fun w M1 v H1 k1 r1 tk rp1 q1 => ?_
  have nz : ∀ D, H1 D = none → M1 D = none := fun D hD => r1.rh.free hD
  cases w with
  | tup ws =>
    obtain ⟨a, vs, e1, s1, r2⟩ := rp1.tup
    refine ⟨a, e1, .inr ⟨⟨vs, s1⟩, fun D hD => ?_⟩⟩
    refine lc_turns (items := ws) k1 hq r1.rs r1.rh hD (q1 D (nz D hD)) (fun j H' M' hj k rh kp => ?_) (fun H' M' k rh kp => ⟨vs, SqT.tk k s1, by rw [r2.len]; exact Nat.le_refl _⟩)
    have hx : j < vs.length := by rw [r2.len]; exact hj
    refine ⟨⟨vs, vs[j], SqT.tk k s1, List.getElem?_eq_getElem hx⟩, fun x H2 ⟨e2, hy⟩ => ⟨e2, ?_⟩⟩
    obtain ⟨w, hw, rp⟩ := r2.at (hy vs (SqT.tk k s1))
    exact ⟨w, hw, rp.tk k⟩
  | rol ws =>
    obtain ⟨a, vs, e1, s1, r2⟩ := rp1.rol
    refine ⟨a, e1, .inl ⟨⟨vs, s1.1⟩, fun D hD => ?_⟩⟩
    refine lc_turns (items := ws) k1 hq r1.rs r1.rh hD (q1 D (nz D hD)) (fun j H' M' hj k rh kp => ?_) (fun H' M' k rh kp => ⟨vs, (s1.tk k).1, by rw [r2.len]; exact Nat.le_refl _⟩)
    have hx : j < vs.length := by rw [r2.len]; exact hj
    refine ⟨⟨vs, vs[j], (s1.tk k).1, List.getElem?_eq_getElem hx⟩, fun x H2 ⟨e2, hy⟩ => ⟨e2, ?_⟩⟩
    obtain ⟨w, hw, rp⟩ := r2.at (hy vs (s1.tk k).1)
    exact ⟨w, hw, rp.tk k⟩
  | ref a =>
    have e1 := rp1.ref
    subst e1
    obtain ⟨ws, hm, q1⟩ := q1
    obtain ⟨vs0, e0, _⟩ := r1.rh.obs _ _ hm
    refine ⟨a, rfl, .inl ⟨⟨vs0, SqL.of e0⟩, fun D hD => ?_⟩⟩
    refine lc_turns (items := ws) k1 hq r1.rs r1.rh hD (q1 D (nz D hD)) (fun j H' M' hj k rh kp => ?_) (fun H' M' k rh kp => ?_)
    · obtain ⟨vs, e2, r2⟩ := rh.obs _ _ kp
      have hx : j < vs.length := by rw [r2.len]; exact hj
      refine ⟨⟨vs, vs[j], SqL.of e2, List.getElem?_eq_getElem hx⟩, fun x H2 ⟨e3, hy⟩ => ⟨e3, ?_⟩⟩
      obtain ⟨w, hw, rp⟩ := r2.at (hy vs (SqL.of e2))
      exact ⟨w, hw, rp⟩
    · obtain ⟨vs, e2, r2⟩ := rh.obs _ _ kp
      exact ⟨vs, SqL.of e2, by rw [r2.len]; exact Nat.le_refl _⟩
  | _ => exact q1.elim
theorem lc_rngT {lo : Int} {n : Nat} {σ : L2.St} {H H00 : Hp} {τ : St'} {M : Mp} {Q : QK} {i : Nat} {D : Addr} {Qh : VK} (k00 : TK H00 H) (hq : ∀ v H', ups T X H00 Q v H' → Qh v H') (rs : RelS X.K H τ σ) (rh : RelH X.K H T M) (hD : H D = none)
    (h0 : cpW (fun _ => True) i tt te D (τ.set i none) (fun M2 => Q (.ref D) M2) (rngW lo n) (put M D (.lst []))) :
    ∃ Iv : Nat → Nat → Hp → Prop, (∃ m, Iv 0 m (upd H D (.lst []))) ∧ ∀ j m H', Iv j m H' → ((Itr lo n).stop j H' ∧ Qh (.ref D) H') ∨ ((Itr lo n).go j H' ∧ ∃ Nx : Hp → Prop, (∀ H', Nx H' → ∃ m', m' < m ∧ Iv (j + 1) m' H') ∧
      ∀ x H2, (Itr lo n).yld j H' x H2 → gName i x (wipe σ [i]) H2 fun σ2 H3 => wipe σ2 [i] = wipe σ [i] ∧ dnT0 X.K T tt σ2 H3 fun k H4 => if k = true then dnE0 X.K T te σ2 H4 fun y H5 => ∃ acc, H5 D = some (.lst acc) ∧ acc.length < sizeLine ∧ Nx (upd H5 D (.lst (acc ++ [y]))) else Nx H4) := by
  refine lc_turns (items := rngW lo n) k00 hq rs rh hD h0 (fun j H' M' hj k rh' kp => ?_) (fun H' M' k rh' kp => ?_)
  · rw [rngW_len] at hj
    refine ⟨hj, fun x H2 ⟨e2, hy⟩ => ⟨e2, _, rngW_get hj, by rw [hy]; exact rep_int⟩⟩
  · show n ≤ (rngW lo n).length
    rw [rngW_len]
    exact Nat.le_refl n
theorem lc_rng1 {σ : L2.St} {H : Hp} {τ : St'} {M : Mp} {Q : QK} {ex : EX} {i n : Nat} {ua : TAW} {Qh : VK} (hq : ∀ v H', ups T X H Q v H' → Qh v H') (r : SR T L X H τ σ M) (tk : TakesS T X H ex) (hn1 : n = 1) (q : tLcR i ua tt te τ M Q (fun C p M' => ex C p τ M')) :
    L2.tLc (iRng1 (dnA T L X n ua)) (gName i) (dnT0 X.K T tt) (dnE0 X.K T te) [i] σ H Qh := by
  refine dn1A r tk q fun ws M1 vs H1 k1 r1 tk rp1 hn q1 => ?_
  split at q1
  · obtain ⟨v, e, r2⟩ := rp1.one'
    rw [r2.int] at e
    exact ⟨_, e, q1.1.1, q1.1.2, fun D hD => lc_rngT k1 hq r1.rs r1.rh hD (q1.2 D (r1.rh.free hD))⟩
  · rw [hn1] at hn; cases hn
  · exact q1.elim
theorem lc_rng2 {σ : L2.St} {H : Hp} {τ : St'} {M : Mp} {Q : QK} {ex : EX} {i n : Nat} {ua : TAW} {Qh : VK} (hq : ∀ v H', ups T X H Q v H' → Qh v H') (r : SR T L X H τ σ M) (tk : TakesS T X H ex) (hn1 : n = 2) (q : tLcR i ua tt te τ M Q (fun C p M' => ex C p τ M')) :
    L2.tLc (iRng2 (dnA T L X n ua)) (gName i) (dnT0 X.K T tt) (dnE0 X.K T te) [i] σ H Qh := by
  refine dn1A r tk q fun ws M1 vs H1 k1 r1 tk rp1 hn q1 => ?_
  split at q1
  · rw [hn1] at hn; cases hn
  · obtain ⟨v, y, e, r2, r3⟩ := rp1.two'
    rw [r2.int, r3.int] at e
    exact ⟨_, _, e, q1.1, fun D hD => lc_rngT k1 hq r1.rs r1.rh hD (q1.2 D (r1.rh.free hD))⟩
  · exact q1.elim
/-- the block's parts, in any block of the context -/
structure BkW (T : Tb) (X : Cx) (elt : Expr) (ifs : List Expr) (tt : TTW) (te : TEW) (scope : Scope) : Prop where
  ht : ∀ (s : Shared) (H : Hp) (C : Addr) (cl : List (Str × Addr)) (fp : List Addr), PTsW T (X.blk s H scope (compEnvC scope cl C X.env) fp) ifs tt
  he : ∀ (s : Shared) (H : Hp) (C : Addr) (cl : List (Str × Addr)) (fp : List Addr), PEW T L0 (X.blk s H scope (compEnvC scope cl C X.env) fp) elt te
section
variable {i : Nat} {x : Str} {px : Pos} (hc : X.calm = true) (hN : X.N.Nodup) (ok : BlkOk X.N X.env.scope scope [(x, i)]) (hx : X.N[i]? = some x) (hl : scope.names.lookup x = some .local)
  (bk : BkW T X elt ifs tt te scope)
include hc hN ok hx hl bk
theorem blk_g : ∀ (s : Shared) (H : Hp) (C : Addr) (cl : List (Str × Addr)) (fp : List Addr), PG (X.blk s H scope (compEnvC scope cl C X.env) fp) (.Name x px) (gName i) := fun s H C cl fp => pg_name hN hx (.inl (lookup_relS_keep (by decide) hl)) (.inr (lookup_relS_keep (by decide) hl))
theorem blk_t : ∀ (s : Shared) (H : Hp) (C : Addr) (cl : List (Str × Addr)) (fp : List Addr), PTs (X.blk s H scope (compEnvC scope cl C X.env) fp) ifs (dnT0 X.K T tt) := fun s H C cl fp => (bk.ht s H C cl fp).dn
theorem blk_e : ∀ (s : Shared) (H : Hp) (C : Addr) (cl : List (Str × Addr)) (fp : List Addr), PE (X.blk s H scope (compEnvC scope cl C X.env) fp) elt (dnE0 X.K T te) := fun s H C cl fp => (bk.he s H C cl fp).dn0
theorem w_lc (hi : PEW T L X iter ti) (hs : ∀ y, foldedSetIterable iter X.env y = pure y := by intro _; rfl) : PEW T L X (.ListComp elt [⟨.Name x px, iter, ifs, 0⟩] scope pos) (tLc i ti tt te) :=
  .up (pe_lc (own := [(x, i)]) hc hN (pi_seq hi.dn) ok (blk_g hc hN ok hx hl bk) (blk_t hc hN ok hx hl bk) (blk_e hc hN ok hx hl bk) hs) fun σ H τ M Q ex r tk q => lc_seq (fun _ _ z => z) r tk q
theorem w_lcR1 {ua : TAW} {p2 : Pos} (hgl : Gl X "range") (hm : X.mg "range" = none) (ha : PAW T L X [a] ua) (hst : starEach [a] X.env = [(false, eval a X.env)] := by rfl) (hs : ∀ y, foldedSetIterable (.Call (.Name "range" p) [a] [] p2) X.env y = pure y := by intro _; rfl) :
    PEW T L X (.ListComp elt [⟨.Name x px, .Call (.Name "range" p) [a] [] p2, ifs, 0⟩] scope pos) (tLcR i ua tt te) :=
  .up (pe_lc (own := [(x, i)]) hc hN (pi_range1 hgl hm ha.dn hst) ok (blk_g hc hN ok hx hl bk) (blk_t hc hN ok hx hl bk) (blk_e hc hN ok hx hl bk) hs) fun σ H τ M Q ex r tk q => lc_rng1 (fun _ _ z => z) r tk rfl q
theorem w_lcR2 {ua : TAW} {p2 : Pos} (hgl : Gl X "range") (hm : X.mg "range" = none) (ha : PAW T L X [a, b] ua) (hst : starEach [a, b] X.env = [(false, eval a X.env), (false, eval b X.env)] := by rfl) (hst2 : starEach [b] X.env = [(false, eval b X.env)] := by rfl) (hs : ∀ y, foldedSetIterable (.Call (.Name "range" p) [a, b] [] p2) X.env y = pure y := by intro _; rfl) :
    PEW T L X (.ListComp elt [⟨.Name x px, .Call (.Name "range" p) [a, b] [] p2, ifs, 0⟩] scope pos) (tLcR i ua tt te) :=
  .up (pe_lc (own := [(x, i)]) hc hN (pi_range2 hgl hm ha.dn hst hst2) ok (blk_g hc hN ok hx hl bk) (blk_t hc hN ok hx hl bk) (blk_e hc hN ok hx hl bk) hs) fun σ H τ M Q ex r tk q => lc_rng2 (fun _ _ z => z) r tk rfl q
/-- y = [..] of a local y on one line -/
theorem s_setLc (j : Nat) {y : Str} {py spos : Pos} (hy : X.N[j]? = some y) (hyl : X.env.scope.names.lookup y = some .local) (hsw : swapsWith (.ListComp elt [⟨.Name x px, iter, ifs, 0⟩] scope pos) (some (.Name y py)) spos.line X.env = pure true) (hi : PEW T L X iter ti) (hs : ∀ y, foldedSetIterable iter X.env y = pure y := by intro _; rfl) :
    PSW T L X (.Assign [.Name y py] (.ListComp elt [⟨.Name x px, iter, ifs, 0⟩] scope pos) spos) (sAsg (tLc i ti tt te) (gNm j)) := by
  refine ⟨PS.imp' (ps_setLc (own := [(x, i)]) hc hN hy hyl hsw (pi_seq hi.dn) ok (blk_g hc hN ok hx hl bk) (blk_t hc hN ok hx hl bk) (blk_e hc hN ok hx hl bk) hs) fun Dh σ H ⟨τ, M, D, r, tk, q, le⟩ => ?_⟩
  exact lc_seq (fun v H' ⟨w, M', k, rp, rh, qq⟩ => le.nx _ H' ⟨_, M', k, (r.rs.tk k).set j rp, rh, qq⟩) r tk q
theorem s_setLcR1 (j : Nat) {y : Str} {py spos p2 : Pos} {ua : TAW} (hy : X.N[j]? = some y) (hyl : X.env.scope.names.lookup y = some .local) (hsw : swapsWith (.ListComp elt [⟨.Name x px, .Call (.Name "range" p) [a] [] p2, ifs, 0⟩] scope pos) (some (.Name y py)) spos.line X.env = pure true) (hgl : Gl X "range") (hm : X.mg "range" = none) (ha : PAW T L X [a] ua) (hst : starEach [a] X.env = [(false, eval a X.env)] := by rfl) (hs : ∀ y, foldedSetIterable (.Call (.Name "range" p) [a] [] p2) X.env y = pure y := by intro _; rfl) :
    PSW T L X (.Assign [.Name y py] (.ListComp elt [⟨.Name x px, .Call (.Name "range" p) [a] [] p2, ifs, 0⟩] scope pos) spos) (sAsg (tLcR i ua tt te) (gNm j)) := by
  refine ⟨PS.imp' (ps_setLc (own := [(x, i)]) hc hN hy hyl hsw (pi_range1 hgl hm ha.dn hst) ok (blk_g hc hN ok hx hl bk) (blk_t hc hN ok hx hl bk) (blk_e hc hN ok hx hl bk) hs) fun Dh σ H ⟨τ, M, D, r, tk, q, le⟩ => ?_⟩
  exact lc_rng1 (fun v H' ⟨w, M', k, rp, rh, qq⟩ => le.nx _ H' ⟨_, M', k, (r.rs.tk k).set j rp, rh, qq⟩) r tk rfl q
theorem s_setLcR2 (j : Nat) {y : Str} {py spos p2 : Pos} {ua : TAW} (hy : X.N[j]? = some y) (hyl : X.env.scope.names.lookup y = some .local) (hsw : swapsWith (.ListComp elt [⟨.Name x px, .Call (.Name "range" p) [a, b] [] p2, ifs, 0⟩] scope pos) (some (.Name y py)) spos.line X.env = pure true) (hgl : Gl X "range") (hm : X.mg "range" = none) (ha : PAW T L X [a, b] ua) (hst : starEach [a, b] X.env = [(false, eval a X.env), (false, eval b X.env)] := by rfl) (hst2 : starEach [b] X.env = [(false, eval b X.env)] := by rfl) (hs : ∀ y, foldedSetIterable (.Call (.Name "range" p) [a, b] [] p2) X.env y = pure y := by intro _; rfl) :
    PSW T L X (.Assign [.Name y py] (.ListComp elt [⟨.Name x px, .Call (.Name "range" p) [a, b] [] p2, ifs, 0⟩] scope pos) spos) (sAsg (tLcR i ua tt te) (gNm j)) := by
  refine ⟨PS.imp' (ps_setLc (own := [(x, i)]) hc hN hy hyl hsw (pi_range2 hgl hm ha.dn hst hst2) ok (blk_g hc hN ok hx hl bk) (blk_t hc hN ok hx hl bk) (blk_e hc hN ok hx hl bk) hs) fun Dh σ H ⟨τ, M, D, r, tk, q, le⟩ => ?_⟩
  exact lc_rng2 (fun v H' ⟨w, M', k, rp, rh, qq⟩ => le.nx _ H' ⟨_, M', k, (r.rs.tk k).set j rp, rh, qq⟩) r tk rfl q
end
end
end Ev

namespace Ev
open PySem PySem.Spec PyProof.Rows L2
section
variable {T : Tb} {L : Lm} {X : Cx} {e a b o : Expr} {es : List Expr} {te ta : TEW} {u : TAW} {pos p : Pos}
/-! ### calls of defs -/
/-- what a callee lets out is taken -/
theorem takes_callW {ex : EX} {pins : List (Addr × Obj)} {σ : L2.St} {H : Hp} {s s' : Shared} {τ : St'} {ev : Value} (tk : TakesS T X H ex) (I : Inv X pins σ H s) (rs : RelS X.K H τ σ) (c : L2N.CX X.prog X.w X.stack H s (CRe X.K T fun C p M' => ex C p τ M') ev s') : X.xe ev s' := by
  have c2 : L2N.CX X.prog X.w X.stack H s (fun cls d H' => TK H H' ∧ CRe X.K T (fun C p M' => ex C p τ M') cls d H') ev s' := by
    obtain ⟨a, B, H', cls, d, e, fl, hok, ub, na, os, ag, q⟩ := c
    exact ⟨a, B, H', cls, d, e, fl, hok, ub, na, os, ag, ⟨ub.tups, ub.frzs, ub.tbls⟩, q⟩
  refine tk ev s' (L2N.XE.of_call I (fun cls d H' ⟨k, C, p, M', e, pl, rh, q⟩ => ?_) c2)
  exact ⟨k, C, p, τ, M', e, pl, rs.tk k, rh, q⟩
/-- from the entry of a def to a state of it -/
theorem un_on {pins : List (Addr × Obj)} {σ : L2.St} {H H' : Hp} {s : Shared} {h' : Heap} (I : Inv X pins σ H s) (ex : X.ex = []) (u : Un (frs X.stack) [] H H' s.heap h') : Un (frs X.outer) [] X.H_0 H' X.s_0.heap h' := by
  have ub : Un (frs X.outer) [] X.H_0 H X.s_0.heap s.heap := by
    have z := I.base
    rw [ex] at z
    exact z
  have up : ∀ c ob, X.s_0.heap.get? c = some ob → c ∉ frs X.outer → c ∉ frs X.stack := fun c ob hc nc hm => by
    rcases List.mem_cons.mp (I.stkSub c hm) with z | z
    · have h1 := Heap.lt_size hc
      have h2 := I.ok.above
      rw [z] at h1
      exact Nat.lt_irrefl _ (Nat.lt_of_lt_of_le h1 h2)
    · exact nc z
  refine ⟨fun c ob hc n nf _ => ?_, fun c ob hc n hf _ => ?_, fun c ob hc n _ => ?_, fun c ob hc _ => ?_, fun c xs h => u.tups c xs (ub.tups c xs h), fun c ob xs h => u.frzs c ob xs (ub.frzs c ob xs h), fun c ps h => ?_⟩
  · exact u.keep c ob (ub.keep c ob hc n nf (by simp)) (ub.free c ob hc n (by simp)) (up c ob hc nf) (by simp)
  · obtain ⟨sl, e1⟩ := ub.slot c ob hc n hf (by simp)
    obtain ⟨sl2, e2⟩ := u.any e1 (ub.free c ob hc n (by simp)) (by simp)
    exact ⟨sl2, e2⟩
  · obtain ⟨ob', e1⟩ := ub.there c ob hc (by simp)
    exact u.free c ob' e1 (ub.free c ob hc n (by simp)) (by simp)
  · obtain ⟨ob', e1⟩ := ub.there c ob hc (by simp)
    exact u.there c ob' e1 (by simp)
  · obtain ⟨m1, e1⟩ := ub.tbls c ps h
    obtain ⟨m2, e2⟩ := u.tbls c _ e1
    exact ⟨m1 ++ m2, by rw [e2, Array.append_assoc]⟩
/-- a live closure waits further below -/
theorem live_on {pins : List (Addr × Obj)} {σ : L2.St} {H : Hp} {s : Shared} {τ : St'} {M : Mp} (I : Inv X pins σ H s) (r : SR T L X H τ σ M) : ∀ g tl, L g = some tl → Clo X.prog X.w X.K X.mg X.base T X.stack H s g tl := by
  intro g tl hg
  have ex : X.ex = [] := by
    rcases r.ex0 with z | z
    · exact z
    · rw [z g] at hg; cases hg
  have c := r.lv g tl hg
  have u0 := un_on I ex Un.refl
  obtain ⟨ob, h1, h2, h3, h4⟩ : ∃ ob, X.s_0.heap.get? g = some ob ∧ s.heap.get? g = some ob ∧ H g = none ∧ g ∉ frs X.stack := by
    obtain ⟨nm, q, pa, bd, h1⟩ := c.fn
    have h2 := u0.keep g _ h1 c.nH c.nf (by simp)
    refine ⟨_, h1, h2, u0.free g _ h1 c.nH (by simp), fun hm => ?_⟩
    rcases List.mem_cons.mp (I.stkSub g hm) with z | z
    · have h1 := Heap.lt_size h1
      have h2 := I.ok.above
      rw [z] at h1
      exact Nat.lt_irrefl _ (Nat.lt_of_lt_of_le h1 h2)
    · exact c.nf z
  refine ⟨?_, h3, h4, fun A' stk' s' H' M' Q E u hr e0 rh q => c.run A' stk' s' H' M' Q E (un_on I ex u) hr e0 rh q⟩
  obtain ⟨nm, q, pa, bd, h5⟩ := c.fn
  rw [h1] at h5
  cases h5
  exact ⟨_, _, _, _, h2⟩
/-- the callee runs -/
theorem run_W {k : Nat} {f : Addr} {fd : FuncData} {ps : List Str} {sp : SpW} {ds : List Value} {dvs : List V} {dws : List W} {pins : List (Addr × Obj)} {σ : L2.St} {H : Hp} {s : Shared} {τ : St'} {M : Mp} {Q : QK} {ex : EX} {us : List Value} {vs : List V} {ws : List W}
    (F : FnW X.prog X.w X.K X.mg X.base T k f fd ps sp) (hr : Room k X.A) (hb : Binds X.K fd ps ds) (hd : Vals dvs ds) (hdw : Reps X.K H dws dvs) (I : Inv X pins σ H s) (r : SR T L X H τ σ M) (tk : TakesS T X H ex) (rv : Vals vs us) (rp : Reps X.K H ws vs) (hl : (ws ++ dws).length = ps.length)
    (q : sp L (ws ++ dws) M Q (fun C p M' => ex C p τ M')) : wpAny (model X.prog X.w) X.A (call (.ref f) us) (EP X pins σ (ups T X H Q)) X.xe s := by
  have r2 : Vals (vs ++ dvs) (us ++ ds) := rv.append hd
  have hl2 : (us ++ ds).length = ps.length := by rw [← r2.length, (rp.app hdw).len]; exact hl
  refine wpAny_call (codeAny_mono (F.run X.A X.stack s H ⟨us, []⟩ (us ++ ds) (vs ++ dvs) (ws ++ dws) L M Q _ hr I.env0 (hb s us I.kIn hl2) r2 (rp.app hdw) r.rh (live_on I r) hl q) fun rr s' hq => ?_)
  cases rr with
  | error ev => exact takes_callW tk I r.rs hq
  | ok fl =>
    cases fl with
    | ret x =>
      have hq : CE X.stack X.prog X.w H s (CRv X.K T Q) x s' := hq
      have hq2 : CE X.stack X.prog X.w H s (ups T X H Q) x s' := by
        obtain ⟨v, H', os, bare, un, hok, rl, w, M', h1, h2, h3⟩ := hq
        exact ⟨v, H', os, bare, un, hok, rl, w, M', TK.of_un un, h1, h2, h3⟩
      exact I.after hq2
    | next => exact False.elim hq
    | brk => exact False.elim hq
    | cont => exact False.elim hq
def tFn (sp : SpW) (L : Lm) (dws : List W) (u : TAW) : TEW := fun τ M Q E => u τ M (fun ws M1 => sp L (ws ++ dws) M1 Q E) E
/-- a def of the module as it may be called: its address, how it binds, what it does -/
structure DefW (P : Program) (w : World) (K : PySem.W.Frag) (mg : Str → Option Value) (base : Heap) (T : Tb) (x : Str) (k n : Nat) (sp : SpW) : Prop where
  ex : ∃ (f : Addr) (fd : FuncData) (ps : List Str), mg x = some (.ref f) ∧ PySem.W.keepIn K (.ref f) = true ∧ Binds K fd ps [] ∧ FnW P w K mg base T k f fd ps sp ∧ ps.length = n
theorem w_call {x : Str} {k n : Nat} {sp : SpW} (D : DefW X.prog X.w X.K X.mg X.base T x k n sp) (hr : Room k X.A) (hg : Gl X x) (ha : PAW T L X (e :: es) u) (hn : (e :: es).length = n := by rfl) (hdb : (x == ("__debug__" : Str)) = false := by decide)
    (he : starEach (e :: es) X.env = (false, eval e X.env) :: starEach es X.env := by rfl) (hpl : (backTo pos (starEach es X.env)).any (·.1) = false := by rfl) : PEW T L X (.Call (.Name x p) (e :: es) [] pos) (tFn sp L [] u) := by
  obtain ⟨f, fd, ps, hm, hk, hb, F, hpn⟩ := D.ex
  refine ⟨fun pins s σ H τ M Q ex I r tk q => ?_⟩
  refine wpAny_Call_Name_kw (ld_glob I hg hm ?_ hdb)
  refine PySem.W.callWith_K (h₀ := X.base) I.ok.mod.kin hk (thn (ha.run pos pins s σ H τ M _ ex I r tk q) fun us s1 ⟨vs, H1, I1, rv, ws, M1, k1, rp, rh, hl, q1⟩ => ⟨I1.kIn, ?_⟩) he hpl
  refine thn (run_W (dvs := []) (ds := []) (dws := []) F hr hb .nil (by unfold Reps; rfl) I1 (r.nx k1 rh) (tk.on k1) rv rp ?_ q1) fun v s2 ⟨z, H2, I2, rz, hz⟩ => ⟨z, H2, I2, rz, ups.trans k1 hz⟩
  rw [List.append_nil, hl, hn, hpn]
theorem w_call0 {x : Str} {k : Nat} {sp : SpW} (D : DefW X.prog X.w X.K X.mg X.base T x k 0 sp) (hr : Room k X.A) (hg : Gl X x) (hdb : (x == ("__debug__" : Str)) = false := by decide) : PEW T L X (.Call (.Name x p) [] [] pos) (tFn sp L [] aNil) := by
  obtain ⟨f, fd, ps, hm, hk, hb, F, hpn⟩ := D.ex
  refine ⟨fun pins s σ H τ M Q ex I r tk q => ?_⟩
  refine wpAny_Call_Name_kw (ld_glob I hg hm ?_ hdb)
  exact PySem.W.callWith_K0 I.kIn hk (run_W (ws := []) (vs := []) (us := []) (dvs := []) (ds := []) (dws := []) F hr hb .nil (by unfold Reps; rfl) I r tk .nil (by unfold Reps; rfl) (by rw [hpn]; rfl) q)
/-! ### a def does what its body reads -/
def stW (n : Nat) (ws : List W) : St' := ws.map some ++ List.replicate (n - ws.length) none
def spOf (n : Nat) (t : Lm → TSW) : SpW := fun L ws M Q E => t L { rt := Q, nx := fun _ M' => Q .non M', ex := fun C p _ M' => E C p M' } (stW n ws) M
theorem fnW_of {P : Program} {w : World} {K : PySem.W.Frag} {mg : Str → Option Value} {base : Heap} {x qual : Str} {st : Stmt} {f : Addr} {fd : FuncData} {N ps : List Str} {k : Nat} {t : Lm → TSW} (F : Fun K x qual st f fd) (S : FnScope N ps (defScope st))
    (hbody : ∀ (L : Lm) (cdv : Value) (A : Around) (outer : List Env) (s : Shared) (H : Hp) (E : XK), Room k (A.deeper (envOfC qual (defScope st) s.heap.objs.size f cdv)) → PSsW T L (cxOf (L2N.CX P w) P w K mg base N qual (defScope st) f cdv A outer s H E) (defBody st) (t L)) :
    FnW P w K mg base T (k + 1) f fd ps (spOf N.length t) := by
  obtain ⟨oc, od, kV, doc, pm, an, cdv, ct, osl, rfl, lk, hcd⟩ := F.ex
  refine ⟨fun A outer s H args us vs ws L M Q E hr e0 hb rv rp rh lv hl q => ?_⟩
  refine LamX.run_ofS lk hcd S hr e0 hb rv (by rw [rp.len]; exact hl) fun hr' => ⟨_, (hbody L cdv A outer s H (CRe K T E) hr').dn, ?_⟩
  have hst : RelS K H (stW N.length ws) (L2.start N vs) := by
    unfold stW L2.start
    rw [rp.len]
    exact RelS.start rp
  refine ⟨_, M, { rt := Q, nx := fun _ M' => Q .non M', ex := fun C p _ M' => E C p M' }, ⟨hst, rh, lv, .inl rfl⟩, ?_, q, ⟨fun σ' H' ⟨τ', M', k1, rs, rh', z⟩ => ⟨.non, M', rep_non, rh', z⟩, fun v H' ⟨w', M', k1, rp', rh', z⟩ => ⟨w', M', rp', rh', z⟩, fun _ _ ⟨_, _, _, _, _, z⟩ => z, fun _ _ ⟨_, _, _, _, _, z⟩ => z⟩⟩
  refine (L2N.takes_of rfl rfl rfl rfl).imp fun cls d σ' H' ⟨_, C, p, τ', M', e, pl, rs, rh', z⟩ => ?_
  exact ⟨C, p, M', e, pl, rh', z⟩
/-! ### raise -/
/-- an own class of errors without own __init__ -/
structure ErrC (K : PySem.W.Frag) (C : Addr) : Prop where
  ex : PySem.W.excIn K C [.type "ValueError", .type "Exception", .type "BaseException", .type "object"] "ValueError.__new__" = true
  kp : PySem.W.keepIn K (.ref C) = true
  sb : PySem.W.subIn K (.ref C) (.type "BaseException") = some true
  ty : PySem.W.typeIn K (.ref C) = some (.type "type")
theorem pmk_own0 {C : Addr} {x : Str} (gC : X.mg x = some (.ref C)) (c : ErrC X.K C) (hg : Gl X x) (hdb : (x == ("__debug__" : Str)) = false := by decide) : L2N.PMk X (.Call (.Name x p) [] [] pos) (fun _ H Q => Q (.ref C) none H) := by
  intro pins s σ H Q I h
  refine wpAny_Call_Name_kw (ld_glob I hg gC ?_ hdb)
  refine PySem.W.callWith_K0 I.kIn c.kp ?_
  show wpAny _ _ (call (.ref C) []) _ _ _
  obtain ⟨bm, N, nm, qn, bs, hdct, sn, sub, ab, col, dd, k0, k1, k2, k3, k5, mN, hC, hN, hni, tl⟩ := exc_obj I.kIn c.ex
  refine wpAny_call_exc_subT PySem.F.excBase_ValueError tl hC hN hni (fun h' ee hm => ?_) (Nat.zero_le _)
  exact L2N.mk_of I hm (raises_own c.sb c.ty) h (I.hok.gone hm.new)
def sRaise (C : Addr) : TSW := fun D τ M => D.ex C none τ M
theorem s_raise0 {C : Addr} {x : Str} {pos2 : Pos} (hc : X.calm = true) (gC : X.mg x = some (.ref C)) (c : ErrC X.K C) (hg : Gl X x) (hdb : (x == ("__debug__" : Str)) = false := by decide) : PSW T L X (.Raise (some (.Call (.Name x p) [] [] pos)) none pos2) (sRaise C) := by
  refine ⟨⟨fun pins s σ H Dh I ⟨τ, M, D, r, tk, q, le⟩ => ?_⟩⟩
  exact (L2N.ps_raise hc tk (pmk_own0 gC c hg hdb)).run pins s σ H Dh I ⟨TK.refl H, C, none, τ, M, rfl, rfl, r.rs, r.rh, q⟩
end
end Ev

namespace Ev
open PySem PySem.Spec PyProof.Rows L2 LamX
/-- the context of a lambda's body, with this part's word of errors -/
abbrev lamC (X : Cx) (A : Around) (outer : List Env) (s : Shared) (H : Hp) (E : XK) (scope : Scope) (f c' : Addr) : Cx :=
  (lamCx X A outer s H E scope f c').wish fun e s' => wpAny (model X.prog X.w) (A.deeper (lamEnv X scope s.heap.objs.size f c')) (leaving (lamEnv X scope s.heap.objs.size f c') e) (fun _ s'' => L2N.CX X.prog X.w outer H s E e s'') (fun e' s'' => L2N.CX X.prog X.w outer H s E e' s'') s'
/-! ### a closure is called: x(), x a name of the def -/
section
variable {T : Tb} {L : Lm} {X : Cx} {e a b o : Expr} {es : List Expr} {te ta : TEW} {u : TAW} {pos p : Pos}
def tAct (L : Lm) (i : Nat) : TEW := fun τ M Q E => match τ[i]? with
  | some (some (.ref f)) => (match L f with | some tl => tl M Q E | none => False)
  | _ => False
theorem w_act (i : Nat) {x : Str} (hr : Room KK X.A) (hN : X.N[i]? = some x) (hv : Vis X.env.scope x) (hd : (x == ("__debug__" : Str)) = false := by decide) (hcd : (x == ("__classdict__" : Str)) = false := by decide) : PEW T L X (.Call (.Name x p) [] [] pos) (tAct L i) := by
  refine ⟨fun pins s σ H τ M Q ex I r tk q => ?_⟩
  unfold tAct at q
  split at q
  · rename_i f hf
    split at q
    · rename_i tl hL
      obtain ⟨v, e1, rp⟩ := r.rs.get hf
      have e2 := rp.ref
      subst e2
      refine wpAny_Call_Name_kw (thn ((pe_var (pos := p) (i := i) hN hv hd hcd).run pins s σ H (fun v H1 => v = .ref f ∧ H1 = H) I ⟨_, e1, rfl, rfl⟩) fun uu s1 ⟨v, H1, I1, r1, q1⟩ => ?_)
      obtain ⟨ev, eH⟩ := q1
      subst ev
      rw [eH] at I1
      obtain rfl : uu = Value.ref f := r1
      have c := live_on I1 ⟨r.rs, r.rh, r.lv, r.ex0⟩ f tl hL
      refine PySem.W.callWith_F0 c.fn ?_
      refine wpAny_call (codeAny_mono (c.run X.A X.stack s1 H M Q _ Un.refl hr I1.env0 r.rh q) fun rr s' hq => ?_)
      cases rr with
      | error ev => exact takes_callW tk I1 r.rs hq
      | ok fl =>
        cases fl with
        | ret y =>
          have hq : CE X.stack X.prog X.w H s1 (CRv X.K T Q) y s' := hq
          have hq2 : CE X.stack X.prog X.w H s1 (ups T X H Q) y s' := by
            obtain ⟨v, H', os, bare, un, hok, rl, w, M', h1, h2, h3⟩ := hq
            exact ⟨v, H', os, bare, un, hok, rl, w, M', TK.of_un un, h1, h2, h3⟩
          exact I1.after hq2
        | next => exact False.elim hq
        | brk => exact False.elim hq
        | cont => exact False.elim hq
    · exact q.elim
  · exact q.elim
/-! ### a lambda is made -/
theorem among_more {pos : Pos} {cv : Value} (m : List Value) : ∀ {l : List Value}, TriplesOk l → codeAmong pos l = some cv → codeAmong pos (l ++ m) = some cv := by
  intro l
  fun_induction TriplesOk l with
  | case1 => intro _ h; cases h
  | case2 a t b u x rest ih =>
    intro h1 h2
    simp only [List.cons_append, codeAmong] at h2 ⊢
    split at h2
    · rename_i z
      rw [if_pos z]
      exact h2
    · rename_i z
      rw [if_neg z]
      exact ih h1 h2
  | case3 l h1 h2 => intro h; exact h.elim
/-- the lambda's object f is new, its code object c' stands in the table at P for good -/
theorem lam_made {T : Tb} {pins : List (Addr × Obj)} {σ : L2.St} {H : Hp} {s : Shared} {c P : Addr} {params : Arguments} {body : Expr} {scope : Scope} {E : Value → Shared → Prop} {Q : Value → Shared → Prop} (I : Inv X pins σ H s) (TB : TabB X.base X.mg c P) (hcode : X.env.code = .ref c)
    (hm : (P, X.env.qual ++ "<lambda>") ∈ T) (hu : ∀ p ∈ T, p.1 = P → p.2 = X.env.qual ++ "<lambda>") (hT : Tabs T H) (hdef : defaultsOf params X.env = ([], [])) (hfree : ∀ y ∈ scope.names, y.2 = .free → ∃ c, X.env.cells.lookup y.1 = some c)
    (h : ∀ (f c' : Addr) (pm ctv : Value) (H1 : Hp) (s' : Shared) (ps' : Array Value), Inv X pins σ H1 s' → ExtN H H1 → Tabs T H1 → s'.heap.get? f = some (PySem.W.kla_obj "<lambda>" (X.env.qual ++ "<lambda>") params body scope (cloFrom X.env.cells scope.names []) pm c' ctv) →
      H1 f = none → f ∉ frs X.stack → H1 P = some (.tbl ps') → codeAmong pos ps'.toList = some (.ref c') → TriplesOk ps'.toList → H f = none → TK H H1 → Q (.ref f) s') :
    wpAny (model X.prog X.w) X.A (eval (.Lambda params body scope pos) X.env) Q E s := by
  obtain ⟨ps, hP, trip, all⟩ := hT _ hm
  have tabAt : s.heap.get? P = some { cls := .none, data := .fields ps } := I.hok P _ hP
  have apart : ∀ g, s.heap.objs.size ≤ g → g ∉ frs X.stack := fun g hg z => by
    have z := I.stkSub _ z
    rw [List.mem_cons] at z
    rcases z with z | z
    · have h1 := I.lt
      rw [← z] at h1
      exact absurd (Nat.lt_of_lt_of_le h1 hg) (Nat.lt_irrefl _)
    · exact I.nofs hg z
  refine PySem.W.kla_eval hdef ?_
  have bP : s.heap.BuiltinsAt X.mg P := TB.bm.keeps I.bk
  cases hc : codeAmong pos ps.toList with
  | some cv =>
    obtain ⟨c', ec, hco⟩ := all pos cv hc
    subst ec
    refine PySem.W.kla_makeFunctionHit (mg := X.mg) (c := c) (P := P) (ps := ps) (closure_ok hfree) I.ok.glob (I.mod.glob.keeps I.bk) hcode (TB.code.keeps I.bk) tabAt trip hc bP fun ctv h' tk keep hsz => ?_
    refine h h'.objs.size c' _ ctv H _ ps (I.kept fun b o e => Heap.get?_push_of_some _ (keep b o e)) (ExtN.refl H) hT (Heap.get?_push_size _ rfl) (I.hok.fresh hsz) (apart _ hsz) hP hc trip (I.hok.fresh hsz) (TK.refl H)
  | none =>
    refine PySem.W.kla_makeFunction (mg := X.mg) (c := c) (P := P) (ps := ps) (closure_ok hfree) I.ok.glob (I.mod.glob.keeps I.bk) hcode (TB.code.keeps I.bk) tabAt trip hc TB.gP bP fun c' ctv h' tk keep hge hlt hrec htb => ?_
    obtain ⟨c2, oc, vs, t, e2, hoc, hd, hv⟩ := hrec
    cases e2
    have hsz : s.heap.objs.size ≤ h'.objs.size := Nat.le_of_lt (Nat.lt_of_le_of_lt hge hlt)
    have newC : H c' = none := I.hok.fresh hge
    have ne1 : P ≠ c' := ne_of_none hP newC
    have J := inv_table (t' := tk) (more := #[rawInt pos.line, rawInt pos.col, .ref c']) (h' := h'.push (PySem.W.kla_obj "<lambda>" (X.env.qual ++ "<lambda>") params body scope (cloFrom X.env.cells scope.names []) ((X.mg "__name__").getD .none) c' ctv)) I hP
      (fun b o hb e => Heap.get?_push_of_some _ (keep b o hb e)) (Heap.get?_push_of_some _ htb) hge ⟨oc, vs, t, Heap.get?_push_of_some _ hoc, hd, hv⟩
    have toL : (ps ++ #[rawInt pos.line, rawInt pos.col, .ref c']).toList = ps.toList ++ [rawInt pos.line, rawInt pos.col, .ref c'] := by simp
    have atP : upd (upd H P (.tbl (ps ++ #[rawInt pos.line, rawInt pos.col, .ref c']))) c' (CodeO c' (X.env.qual ++ "<lambda>")) P = some (.tbl (ps ++ #[rawInt pos.line, rawInt pos.col, .ref c'])) := by rw [upd_ne ne1, upd_same]
    have grow : ExtN H (upd (upd H P (.tbl (ps ++ #[rawInt pos.line, rawInt pos.col, .ref c']))) c' (CodeO c' (X.env.qual ++ "<lambda>"))) := fun b o e n => by
      have n1 : b ≠ c' := ne_of_none e newC
      have n2 : b ≠ P := fun z => by
        rw [z, hP] at e
        exact n ps (Option.some.inj e).symm
      rw [upd_ne n1, upd_ne n2]
      exact e
    refine h h'.objs.size c' _ ctv _ _ (ps ++ #[rawInt pos.line, rawInt pos.col, .ref c']) J grow (fun p hp => ?_) (Heap.get?_push_size _ rfl) ?_ (apart _ hsz) atP ?_ ?_ (I.hok.fresh hsz) ?_
    · by_cases hb : p.1 = P
      · rw [hu p hp hb, hb]
        refine ⟨_, atP, by rw [toL]; exact PySem.TriplesOk_snoc _ _ _ _ trip, fun p' cv hcv => ?_⟩
        rw [toL] at hcv
        rcases among_app _ trip hcv with z | z
        · obtain ⟨c0, z1, z2⟩ := all p' cv z
          exact ⟨c0, z1, grow _ _ z2 codeO_ne⟩
        · exact ⟨c', z, upd_same⟩
      · obtain ⟨ps2, b1, b2, b3⟩ := hT p hp
        refine ⟨ps2, ?_, b2, fun p' cv hcv => ?_⟩
        · rw [upd_ne (ne_of_none b1 newC), upd_ne hb]
          exact b1
        · obtain ⟨c0, z1, z2⟩ := b3 p' cv hcv
          exact ⟨c0, z1, grow _ _ z2 codeO_ne⟩
    · have n1 : h'.objs.size ≠ c' := Nat.ne_of_gt hlt
      have n2 : h'.objs.size ≠ P := Nat.ne_of_gt (Nat.lt_of_lt_of_le (Heap.lt_size tabAt) hsz)
      rw [upd_ne n1, upd_ne n2]
      exact I.hok.fresh hsz
    · rw [toL]
      exact codeAmong_snoc _ trip hc
    · rw [toL]
      exact PySem.TriplesOk_snoc _ _ _ _ trip
    · refine ⟨fun b xs e => grow b _ e (fun _ z => by cases z), fun b o u e => grow b _ e (fun _ z => by cases z), fun b qs e => ?_⟩
      by_cases hb : b = P
      · subst hb
        rw [hP] at e
        cases e
        exact ⟨_, atP⟩
      · refine tbl_same ?_
        rw [upd_ne (ne_of_none e newC), upd_ne hb]
        exact e
end
/-- all but tables stays: so what is shadowed stays -/
theorem RelH.extN {K : PySem.W.Frag} {H H1 : Hp} {T : Tb} {M : Mp} (h : RelH K H T M) (x : ExtN H H1) (tk : TK H H1) (t : Tabs T H1) : RelH K H1 T M := by
  refine ⟨fun a o e => ?_, t⟩
  have z := h.obs a o e
  cases o with
  | lst ws =>
    obtain ⟨vs, e1, r⟩ := z
    exact ⟨vs, x _ _ e1 (fun _ z => by cases z), r.tk tk⟩
  | exc C p =>
    obtain ⟨oe, e1, c, d, pl⟩ := z
    refine ⟨oe, x _ _ e1 (fun _ z => by cases z), c, d, ?_⟩
    cases p with
    | none => exact pl
    | some q =>
      obtain ⟨dd, v, e2, e3, r⟩ := pl
      exact ⟨dd, v, e2, x _ _ e3 (fun _ z => by cases z), r.tk tk⟩
def updL (L : Lm) (f : Addr) (tl : TL) : Lm := fun g => if g = f then some tl else L g
theorem updL_same {L : Lm} {f : Addr} {tl : TL} : updL L f tl f = some tl := if_pos rfl
theorem updL_ne {L : Lm} {f g : Addr} {tl : TL} (h : g ≠ f) : updL L f tl g = L g := if_neg h
/-- g(lambda: body, ..): the body is read at the maker's slots -/
def tLam (sp : SpW) (L : Lm) (tb : TEW) (u : TAW) : TEW := fun τ M Q E => ∀ f, M f = none → u τ M (fun ws M1 => sp (updL L f fun M' Q' E' => tb τ M' Q' E') (.ref f :: ws) M1 Q E) E
section
variable {T : Tb} {L : Lm} {X : Cx} {es : List Expr} {u : TAW} {pos p lpos : Pos}
theorem clo_made {pins : List (Addr × Obj)} {σ : L2.St} {H : Hp} {s : Shared} {τ : St'} {P f c' : Addr} {pm ctv : Value} {params : Arguments} {body : Expr} {scope : Scope} {tb : TEW} {ps' : Array Value} (I : Inv X pins σ H s) (rs : RelS X.K H τ σ) (S : LamS X.env.scope scope)
    (hf : s.heap.get? f = some (PySem.W.kla_obj "<lambda>" (X.env.qual ++ "<lambda>") params body scope (cloFrom X.env.cells scope.names []) pm c' ctv)) (nH : H f = none) (nf : f ∉ frs X.stack) (hP : H P = some (.tbl ps')) (hc : codeAmong lpos ps'.toList = some (.ref c')) (hm : (P, X.env.qual ++ "<lambda>") ∈ T) (trip : TriplesOk ps'.toList)
    (hbind : bindArgs (PySem.W.kla_fn "<lambda>" (X.env.qual ++ "<lambda>") params body scope (cloFrom X.env.cells scope.names []) pm (.ref c') ctv) ⟨[], []⟩ = pure [])
    (hbody : ∀ (A : Around) (outer : List Env) (s : Shared) (H : Hp) (E : XK), Room (KK - 1) (A.deeper (lamEnv X scope s.heap.objs.size f c')) → PEW T L0 (lamC X A outer s H E scope f c') body tb) :
    Clo X.prog X.w X.K X.mg X.base T X.stack H s f (fun M' Q' E' => tb τ M' Q' E') := by
  refine ⟨⟨_, _, _, _, hf⟩, nH, nf, fun A' stk' s' H' M' Q E un hr e0 rh q => ?_⟩
  have tk : TK H H' := TK.of_un un
  obtain ⟨more, hP'⟩ := un.tbls _ _ hP
  obtain ⟨ps2, g1, g2, g3⟩ := rh.tabs _ hm
  rw [hP'] at g1
  cases g1
  have hc' : codeAmong lpos (ps' ++ more).toList = some (.ref c') := by
    rw [Array.toList_append]
    exact among_more _ trip hc
  obtain ⟨c2, ec, hco⟩ := g3 lpos _ hc'
  cases ec
  obtain ⟨⟨oc, vs, t, hoc, hdc, hvc⟩, _, _⟩ := e0.hok c' _ hco
  have of1 := un.keep f _ hf nH nf (by simp)
  refine PySem.W.kla_callFunE hr.depth of1 rfl S.co S.gen rfl ⟨c', oc, vs, t, rfl, hoc, hdc, hvc⟩ ?_
  rw [hbind]
  have lim : s'.heap.NoLimit := e0.mod.nolimit.keeps fun b o e => (e0.bs b o e).1
  refine wpAny_pure (wpAny_newFunctionEnv (fun y hy => (S.own y hy).2) (fun y hy => absurd hy (by simp)) (fun h₁ hns hsb => ⟨lim.fresh _ hsb, ?_⟩) S.kind)
  show codeAny _ _ (.expr body (lamEnv X scope s'.heap.objs.size f c')) _ _
  have kp : ∀ b o, s'.heap.get? b = some o → h₁.get? b = some o := fun b o e => hsb.extBut b o (Nat.ne_of_lt (Heap.lt_size e)) (Heap.get?_push_of_some _ e)
  have J : Inv (lamC X A' stk' s' H' (CRe X.K T E) scope f c') [] σ H' { s' with heap := h₁, toks := s'.toks + ([] : List (Str × Value)).length } := (lam_start2 (E := CRe X.K T E) I S e0 hr.hd un hns kp).wish _
  have tkS : TakesS T (lamC X A' stk' s' H' (CRe X.K T E) scope f c') H' (fun C p _ M' => E C p M') :=
    (L2N.takes_of (E := CRe X.K T E) rfl rfl rfl rfl).imp fun cls d σ' H2 ⟨_, C, p, τ', M2, e, pl, rs, rh', z⟩ => ⟨C, p, M2, e, pl, rh', z⟩
  have hk : KK = (KK - 1) + 1 := by decide
  rw [hk] at hr
  refine PySem.W.kla_codeExpr (wpAny_mono ((hbody A' stk' s' H' (CRe X.K T E) (hr.deeper _)).run [] _ σ H' τ M' Q (fun C p _ M' => E C p M') J ⟨rs.tk tk, rh, live0, .inl rfl⟩ tkS q) (fun v s2 hq => ?_) fun ev s2 hq => hq)
  obtain ⟨v', H2, J2, rv, w, M2, _, h1, h2, h3⟩ := hq
  exact ⟨v', H2, J2.os, J2.bare, J2.base, J2.hok, rv, w, M2, h1, h2, h3⟩
theorem w_lam {x : Str} {k n : Nat} {sp : SpW} {c P : Addr} {params : Arguments} {body : Expr} {scope : Scope} {tb : TEW} (D : DefW X.prog X.w X.K X.mg X.base T x k n sp) (hr : Room k X.A) (hg : Gl X x) (ha : PAW T L X es u) (hn : es.length + 1 = n)
    (TB : TabB X.base X.mg c P) (hcode : X.env.code = .ref c) (hm : (P, X.env.qual ++ "<lambda>") ∈ T) (hu : ∀ p ∈ T, p.1 = P → p.2 = X.env.qual ++ "<lambda>") (S : LamS X.env.scope scope) (hdef : defaultsOf params X.env = ([], []))
    (hbind : ∀ (q : Str) (cl : List (Str × Addr)) (pm cv ctv : Value), bindArgs (PySem.W.kla_fn "<lambda>" q params body scope cl pm cv ctv) ⟨[], []⟩ = pure [])
    (hbody : ∀ (A : Around) (outer : List Env) (s : Shared) (H : Hp) (E : XK) (f c' : Addr), Room (KK - 1) (A.deeper (lamEnv X scope s.heap.objs.size f c')) → PEW T L0 (lamC X A outer s H E scope f c') body tb)
    (hdb : (x == ("__debug__" : Str)) = false := by decide)
    (he : starEach (.Lambda params body scope lpos :: es) X.env = (false, eval (.Lambda params body scope lpos) X.env) :: starEach es X.env := by rfl) (hpl : (backTo pos (starEach es X.env)).any (·.1) = false := by rfl) :
    PEW T L X (.Call (.Name x p) (.Lambda params body scope lpos :: es) [] pos) (tLam sp L tb u) := by
  obtain ⟨g, fd, ps, hmg, hk, hb, F, hpn⟩ := D.ex
  refine ⟨fun pins s σ H τ M Q ex I r tk q => ?_⟩
  refine wpAny_Call_Name_kw (ld_glob I hg hmg ?_ hdb)
  refine PySem.W.callWith_K (h₀ := X.base) I.ok.mod.kin hk ?_ he hpl
  rw [he]
  show wpAny _ _ (spliced ((false, eval (.Lambda params body scope lpos) X.env) :: backTo pos (starEach es X.env))) _ _ s
  refine Calls.spliced_cons (lam_made I TB hcode hm hu r.rh.tabs hdef (S.has I.ok) fun f c' pm' ctv H1 s1 ps' I1 eN T1 hf hfn hfr hP hc trip hf0 k1 => ?_)
  have r1 : SR T L X H1 τ σ M := r.nx k1 (r.rh.extN eN k1 T1)
  have fl : f ≠ X.env.locals := fun z => by
    have h1 := I.lt
    obtain ⟨m, hns, _⟩ := I1.loc
    obtain ⟨o, es, ep, ho, hd, _⟩ := hns
    rw [z, ho] at hf
    cases hf
    cases hd
  have ff : f ∉ X.fs := fun z => by
    obtain ⟨en, he2, q2⟩ := List.mem_filterMap.mp z
    rcases I.ok.stk with e | ⟨e, _⟩
    · rw [e] at hfr
      exact hfr z
    · rw [e] at hfr
      exact hfr (List.mem_filterMap.mpr ⟨en, List.mem_cons_of_mem _ he2, q2⟩)
  have I1p : Inv X ((f, PySem.W.kla_obj "<lambda>" (X.env.qual ++ "<lambda>") params body scope (cloFrom X.env.cells scope.names []) pm' c' ctv) :: pins) σ H1 s1 := I1.pins_of fun p hp => by
    rcases List.mem_cons.mp hp with z | z
    · rw [z]
      exact ⟨hf, hfn, fl, ff, fun v y => by cases y⟩
    · exact I1.pin p (List.mem_append_right _ z)
  refine thn (ha.run pos _ s1 σ H1 τ M _ ex I1p r1 (tk.on k1) (q f (r.rh.free hf0))) fun us s2 ⟨vs, H2, I2, rv, ws, M2, k2, rp, rh2, hl, q2⟩ => ⟨I2.kIn, ?_⟩
  have r2 : SR T L X H2 τ σ M2 := r1.nx k2 rh2
  obtain ⟨z1, z2, z3, z4, _⟩ := I2.pin _ (List.mem_append_right _ List.mem_cons_self)
  obtain ⟨more, hP2⟩ := k2.tbls _ _ hP
  have clo : Clo X.prog X.w X.K X.mg X.base T X.stack H2 s2 f (fun M' Q' E' => tb τ M' Q' E') := by
    obtain ⟨ps2, g1, g2, g3⟩ := rh2.tabs _ hm
    rw [hP2] at g1
    cases g1
    exact clo_made I2 r2.rs S z1 z2 hfr hP2 (by rw [Array.toList_append]; exact among_more _ trip hc) hm g2 (hbind _ _ _ _ _) fun A outer s H E hr2 => hbody A outer s H E f c' hr2
  have I3 : Inv X pins σ H2 s2 := I2.pins_of fun p hp => I2.pin p (List.mem_append_right _ (List.mem_cons_of_mem _ hp))
  have hl3 : (us.length + 1) = ps.length := by rw [← rv.length, rp.len, hl, hn, hpn]
  refine wpAny_call (codeAny_mono (F.run X.A X.stack s2 H2 ⟨.ref f :: us, []⟩ (.ref f :: us) (.ref f :: vs) (.ref f :: ws) _ M2 Q _ hr I3.env0 ?_ (.cons rfl rv) (by unfold Reps; exact ⟨_, _, rfl, rep_ref, rp⟩) rh2 (fun g' tl hg' => ?_) (by rw [List.length_cons, hl, hn, hpn]) q2) fun rr s' hq => ?_)
  · have b := hb s2 (.ref f :: us) I3.kIn (by rw [List.append_nil, List.length_cons]; exact hl3)
    rw [List.append_nil] at b
    exact b
  · by_cases hgf : g' = f
    · subst hgf
      rw [updL_same] at hg'
      cases hg'
      exact clo
    · rw [updL_ne hgf] at hg'
      exact live_on I3 r2 g' tl hg'
  · cases rr with
    | error ev => exact takes_callW (tk.on (k1.trans k2)) I3 r2.rs hq
    | ok fl =>
      cases fl with
      | ret y =>
        have hq : CE X.stack X.prog X.w H2 s2 (CRv X.K T Q) y s' := hq
        have hq2 : CE X.stack X.prog X.w H2 s2 (ups T X H Q) y s' := by
          obtain ⟨v, H', os, bare, un, hok, rl, w, M', h1, h2, h3⟩ := hq
          exact ⟨v, H', os, bare, un, hok, rl, w, M', (k1.trans k2).trans (TK.of_un un), h1, h2, h3⟩
        exact I3.after hq2
      | next => exact False.elim hq
      | brk => exact False.elim hq
      | cont => exact False.elim hq
end
end Ev

namespace Ev
open PySem PySem.Spec PyProof.Rows L2
/-- what is known of a caught error's own object -/
abbrev lockO (a : Addr) (oe : Obj) : HO := .frz oe (.ext fun h => ∃ o, h.get? a = some o)
section
variable {X : Cx} {pins : List (Addr × Obj)} {σ : L2.St} {H : Hp} {s : Shared} {a : Addr} {oe : Obj}
theorem lock_ok {P : Program} {w : World} {h : Heap} (ha : h.get? a = some oe) : ObjOk P w (upd H a (lockO a oe)) h a (lockO a oe) :=
  ⟨ha, ⟨oe, ha⟩, ⟨oe, ha⟩, fun h1 h2 ⟨o, e⟩ k => ⟨o, k o e⟩⟩
theorem hok_lock {P : Program} {w : World} {h : Heap} (x : HOk P w H h) (ha : h.get? a = some oe) (hn : H a = none) : HOk P w (upd H a (lockO a oe)) h := fun b u e => by
  by_cases hb : b = a
  · subst hb
    rw [upd_same] at e
    cases e
    exact lock_ok ha
  · rw [upd_ne hb] at e
    refine (x b u e).stay (fun c v _ q => q) (fun c q => ?_) fun c xs q => ?_
    · rw [upd_ne (ne_of_none q hn)]; exact q
    · rw [upd_ne (ne_of_none q hn)]; exact q
/-- into an except suite, the error locked -/
theorem Inv.lock (I : Inv X pins σ H s) (ha : s.heap.get? a = some oe) (hn : H a = none) (h0 : X.s_0.heap.get? a = none) (hp : ∀ p ∈ X.pn ++ pins, p.1 ≠ a) (nL : X.env.locals ≠ a) (hc : ∀ x c, X.env.cells.lookup x = some c → c ≠ a) (nF : a ∉ X.fs) :
    Inv (X.suite a (X.pn ++ pins)) [] σ (upd H a (lockO a oe)) s := by
  have ne0 : ∀ b o, X.s_0.heap.get? b = some o → b ≠ a := fun b o e z => by rw [z, h0] at e; cases e
  refine ⟨I.ok.suite _ _, I.os, I.bare, ⟨fun b o e n hb hx => I.base.keep b o e n hb hx, fun b o e n hb hx => I.base.slot b o e n hb hx, fun b o e n hx => ?_, fun b o e hx => I.base.there b o e hx, fun b xs e => ?_, fun b o u e => ?_, fun b ps e => ?_⟩, I.loc, I.cell, ?_, fun x c e => ?_, fun p hpp => ?_, hok_lock I.hok ha hn, I.len⟩
  · rw [upd_ne (ne0 b o e)]
    exact I.base.free b o e n hx
  · have z := I.base.tups b xs e
    rw [upd_ne (ne_of_none z hn)]
    exact z
  · have z := I.base.frzs b o u e
    rw [upd_ne (ne_of_none z hn)]
    exact z
  · obtain ⟨more, z⟩ := I.base.tbls b ps e
    exact ⟨more, by rw [upd_ne (ne_of_none z hn)]; exact z⟩
  · show upd H a _ X.env.locals = none
    rw [upd_ne nL]
    exact I.free
  · rw [upd_ne (hc x c e)]
    exact I.freeC x c e
  · have hp2 : p ∈ X.pn ++ pins := by
      have z : p ∈ (X.pn ++ pins) ++ ([] : List (Addr × Obj)) := hpp
      rw [List.append_nil] at z
      exact z
    obtain ⟨e1, e2, e3, e4, e5⟩ := I.pin p hp2
    exact ⟨e1, by rw [upd_ne (hp p hp2)]; exact e2, e3, e4, e5⟩
/-- .. and out of it -/
theorem Inv.unlock {pn' : List (Addr × Obj)} (I : Inv (X.suite a (X.pn ++ pins)) pn' σ H s) (ok : X.Ok) : Inv X pins σ H s :=
  ⟨ok, I.os, I.bare, I.base, I.loc, I.cell, I.free, I.freeC, fun p hp => I.pin p (List.mem_append_left _ hp), I.hok, I.len⟩
end
/-- one clause: its class, its slot, what its suite reads at an error of the address -/
abbrev Hd := Addr × Nat × (Addr → TSW)
def unset (i : Nat) (n : St' → Mp → Prop) : St' → Mp → Prop := fun τ M => n (τ.set i none) M
/-- the word of the suite: the name goes at its end, nothing is raised -/
def outH (i : Nat) (D : Out) : Out := { nx := unset i D.nx, rt := D.rt, bk := unset i D.bk, ct := unset i D.ct, ex := fun _ _ _ _ => False }
def wHs (K : PySem.W.Frag) (D : Out) : List Hd → EX
  | [] => D.ex
  | (C, i, ts) :: r => fun Cx p τ M => ∃ b, PySem.W.exmOne K (.ref Cx) (.ref C) = some b ∧ (b = true → ∀ a, M a = none → ts a (outH i D) (τ.set i (some (.ref a))) (put M a (.exc Cx p))) ∧ (b = false → wHs K D r Cx p τ M)
def sTry (K : PySem.W.Frag) (tb : TSW) (hs : List Hd) : TSW := fun D τ M => tb { D with ex := wHs K D hs } τ M
section
variable {T : Tb} {L : Lm} {X : Cx}
inductive HdsW (T : Tb) (L : Lm) (X : Cx) : List ExceptHandler → List Hd → Prop
  | nil : HdsW T L X [] []
  | cons {x n : Str} {C : Addr} {i : Nat} {ts : Addr → TSW} {b₀ : Stmt} {suite : List Stmt} {np pos' : Pos} {hds : List ExceptHandler} {l : List Hd} (hg : Gl X x) (hd : (x == ("__debug__" : Str)) = false) (hm : X.mg x = some (.ref C)) (hi : X.N[i]? = some n) (hln : X.env.kindOf n = some .local)
      (hsu : ∀ (a : Addr) (pn : List (Addr × Obj)), PSsW T L (X.suite a pn) (b₀ :: suite) (ts a)) (r : HdsW T L X hds l) :
      HdsW T L X (.ExceptHandler (some (.Name x np)) (some n) (b₀ :: suite) pos' :: hds) ((C, i, ts) :: l)
theorem takesF' {a : Addr} {pn : List (Addr × Obj)} {H : Hp} : TakesS T (X.suite a pn) H fun _ _ _ _ => False := takesF
theorem s_try {body : List Stmt} {h₀ : ExceptHandler} {hds : List ExceptHandler} {l : List Hd} {pos : Pos} {tb : TSW} (hs : X.stack = X.env :: X.outer) (hf : X.env.frame = some X.env.locals) (hN : X.N.Nodup) (hex : X.ex = [])
    (hb : ∀ (pn : List (Addr × Obj)) (xe : Value → Shared → Prop), PassesOwn (model X.prog X.w) X.A X.env xe → PSsW T L (X.tr pn xe) body tb) (hh : HdsW T L X (h₀ :: hds) l) :
    PSW T L X (.Try body (h₀ :: hds) [] [] pos) (sTry X.K tb l) := by
  refine ⟨⟨fun pins s σ H Dh I ⟨τ, M, D, r, tk, q, le⟩ => ?_⟩⟩
  have ok := I.ok
  have hfr : X.A.frames = some (X.env :: X.outer) := by rw [ok.frames, hs]
  refine wpAny_Try_except ?_
  have rX : SR T L (X.tr (X.pn ++ pins) fun e s₁ => wpAny (model X.prog X.w) X.A (noteFrame e X.env) (fun _ s₂ => wpAny (model X.prog X.w) X.A (setFlight e none) (fun _ s₃ => wpAny (model X.prog X.w) X.A (handleBy e X.env (h₀ :: hds)) (SP X pins Dh) X.xe s₃) X.xe s₂) X.xe s₁) H τ σ M := ⟨r.rs, r.rh, r.lv, r.ex0⟩
  have leX : ∀ (xe : Value → Shared → Prop), EndsLe (upS T (X.tr (X.pn ++ pins) xe) H { D with ex := wHs X.K D l }) Dh := fun xe => ⟨fun σ H z => le.nx σ H z, fun v H z => le.rt v H z, fun σ H z => le.bk σ H z, fun σ H z => le.ct σ H z⟩
  refine wpAny_mono ((hb (X.pn ++ pins) _ PassesOwn.looking).dn.run [] s σ H Dh (I.toTry _) ⟨τ, M, { D with ex := wHs X.K D l }, rX, fun u s' xx => ?_, q, leX _⟩) (fun f s1 hsp => ?_) (fun e s1 he => he)
  · obtain ⟨a, B, sI, pins', σ', H', cls, d, rfl, J', nb, up, sky, na, os, ag, k', Cx, p, τ', M', ec, pl, rs', rh', wd⟩ := xx
    subst ec
    have J : Inv X pins σ' H' sI := J'.ofTry ok
    have sky' : Sky B (X.env :: X.outer) a (L2N.Zn (.ref Cx) d) X.env.locals s'.heap := by rw [← hs]; exact sky
    show wpAny (model X.prog X.w) X.A (noteFrame (.ref a) X.env) _ _ _
    refine L2N.Sky.land L2N.Zn.steady hfr hf sky' fun h3 fl3 up3 => ?_
    have J3 : Inv X pins σ' H' { s' with heap := h3 } := J.landed nb fl3.1 (up.trans up3) os ag
    obtain ⟨oe3, vs3, he3, hz3, hd3⟩ := fl3.there
    have away : a ∉ frs (X.env :: X.outer) := fun hm => by
      obtain ⟨_, o', e', hnf⟩ := fl3.2.2.1.mem hm
      rw [he3] at e'
      cases e'
      exact hnf _ hd3
    have nL : X.env.locals ≠ a := fun z => away (List.mem_filterMap.mpr ⟨X.env, List.mem_cons_self, by rw [hf, z]⟩)
    have nF : a ∉ X.fs := fun hm => by
      obtain ⟨en, e1, e2⟩ := List.mem_filterMap.mp hm
      exact away (List.mem_filterMap.mpr ⟨en, List.mem_cons_of_mem _ e1, e2⟩)
    have sIn : sI.heap.get? a = none := by
      cases e : sI.heap.get? a with
      | none => rfl
      | some o =>
        have z := nb a o e (by rw [hs]; exact away)
        rw [fl3.2.1] at z
        cases z
    have s0n : X.s_0.heap.get? a = none := by
      cases e : X.s_0.heap.get? a with
      | none => rfl
      | some o =>
        obtain ⟨o2, z⟩ := J.base.there a o e (by rw [hex]; simp)
        rw [sIn] at z
        cases z
    have pnA : ∀ p ∈ X.pn ++ pins, p.1 ≠ a := fun p hp z => by
      have y := (J.pin p hp).1
      rw [z, sIn] at y
      cases y
    have cA : ∀ x c, X.env.cells.lookup x = some c → c ≠ a := fun x c e z => by
      obtain ⟨v, o, ho, _⟩ := J.cell x c e
      rw [z, sIn] at ho
      cases ho
    have S3 := Inv.lock J3 he3 na s0n pnA nL cA nF
    have go : ∀ {hds' : List ExceptHandler} {l' : List Hd}, HdsW T L X hds' l' → wHs X.K D l' Cx p τ' M' → wpAny (model X.prog X.w) X.A (handleBy (.ref a) X.env hds') (SP X pins Dh) X.xe { s' with heap := h3 } := by
      intro hds' l' hk
      induction hk with
      | nil =>
        intro w
        refine wpAny_handleBy_nil ?_
        obtain ⟨_, _, _, oe, vs, tr, oT, ts', g1, g2, g3, g4, _⟩ := id fl3
        unfold PySem.passOn
        refine wpAny_bind (wpAny_field g1 g3 g4 ?_)
        rw [if_neg (show ¬ ((Value.ref tr == Value.none) = true) from by simp)]
        have fin : wpAny (model X.prog X.w) X.A (setFlight (.ref a) X.env.frame) (fun _ s4 => wpAny (model X.prog X.w) X.A (throw (.ref a) : Sem Flow) (SP X pins Dh) X.xe s4) X.xe { s' with heap := h3 } := by
          rw [hf]
          refine HandSPX.setFlight_upZ fl3 fun h4 hh4 up4 => wpAny_throw (tk _ _ ?_)
          exact ⟨a, B, sI, pins, σ', H', .ref Cx, d, rfl, J, nb, (up.trans up3).trans up4, .inr (.inr (by rw [hs]; exact hh4)), na, os, ag, k', Cx, p, τ', M', rfl, pl, rs', rh', w⟩
        first
          | exact wpAny_bind (wpAny_pure (wpAny_bind fin))
          | exact wpAny_bind fin
      | @cons x n C i ts b₀ suite np pos' hds2 l2 hg hdb hm hi hln hsu rr ih =>
        intro w
        obtain ⟨b, hb1, hyes, hno⟩ := w
        refine wpAny_handleBy_cons (codeAny_handlers_test ?_) (by intro q; cases q)
        have LT : PySem.W.Looks (model X.prog X.w) h3 (typeOf (.ref a)) (.ref Cx) := fun A Q E s k q => wpAny_typeOf_ref (k _ _ he3) (by rw [hz3.1]; exact q)
        have LM := PySem.W.exm_one (M := model X.prog X.w) (J3.kIn) LT hb1
        have test : ∀ {Q : Value → Shared → Prop} {E : Value → Shared → Prop}, Q (.ref C) { s' with heap := h3 } → wpAny (model X.prog X.w) (X.A.mark (some (.ref a))) (eval (.Name x np) X.env) Q E { s' with heap := h3 } := fun {Q E} q => ld_glob (X := X.suite a (X.pn ++ pins)) S3 hg hm q hdb
        refine test (LM.here ?_)
        cases b with
        | true =>
          refine codeAny_handlers_suite_as ?_
          refine HandSPX.lands_againZ fl3 fun h4 fl4 up4 => ?_
          have J4 : Inv X pins σ' H' { s' with heap := h4 } := J.landed nb fl4.1 ((up.trans up3).trans up4) os ag
          obtain ⟨oe4, vs4, he4, hz4, hd4⟩ := fl4.there
          have S4 := Inv.lock J4 he4 na s0n pnA nL cA nF
          have tk4 : TK H' (upd H' a (lockO a oe4)) := (NL.put (.inl na)).tk
          have rh4 : RelH X.K (upd H' a (lockO a oe4)) T (put M' a (.exc Cx p)) := by
            have base := rh'.new (o := lockO a oe4) na
            refine ⟨fun b o e => ?_, base.tabs⟩
            by_cases hba : b = a
            · subst hba
              rw [put_same] at e
              cases e
              exact ⟨oe4, upd_same, hz4.1, ⟨vs4, hd4, hz4.2.2 vs4 hd4⟩, by rw [hz4.2.1]; exact Pl.nl (NL.put (.inl na)) pl⟩
            · rw [put_ne hba] at e
              exact base.obs b o e
          refine store_ok (X := X.suite a (X.pn ++ pins)) (v := .ref a) S4 hN hi (.inl hln) rfl (fun s5 S5 => ?_) (.inr hln)
          have rs5 : RelS X.K (upd H' a (lockO a oe4)) (τ'.set i (some (.ref a))) (σ'.set i (some (.ref a))) := (rs'.tk tk4).set i rep_ref
          refine wpAny_mono ((hsu a (X.pn ++ pins)).dn.run [] s5 _ _ _ S5 ⟨_, _, outH i D, ⟨rs5, rh4, r.lv, r.ex0⟩, takesF', hyes rfl a (rh'.free na), EndsLe.refl _⟩) (fun f s6 hsp => ?_) (fun _ _ z => False.elim z)
          have endN : ∀ {σ6 : L2.St} {H6 : Hp} {Q : Shared → Prop}, Inv (X.suite a (X.pn ++ pins)) [] σ6 H6 s6 → (∀ s7, Inv X pins (σ6.set i none) H6 s7 → Q s7) → wpAny (model X.prog X.w) X.A (do bindName X.env n .none; unbindBehindTheSuite X.env n pos') (fun _ s7 => Q s7) X.xe s6 := fun {σ6 H6 Q} S6 hq => gone_ok (Inv.unlock S6 ok) hN hi hln hq
          have lift : ∀ {n' : St' → Mp → Prop} {σ6 : L2.St} {H6 : Hp}, upn T (X.suite a (X.pn ++ pins)) (upd H' a (lockO a oe4)) (unset i n') σ6 H6 → upn T X H n' (σ6.set i none) H6 := fun {n' σ6 H6} ⟨τ6, M6, k6, rs6, rh6, q6⟩ => ⟨τ6.set i none, M6, (k'.trans tk4).trans k6, rs6.unset i, rh6, q6⟩
          cases f with
          | next =>
            obtain ⟨σ6, H6, S6, q6⟩ := hsp
            exact endN S6 fun s7 J7 => ⟨_, _, J7, le.nx _ _ (lift q6)⟩
          | brk =>
            obtain ⟨σ6, H6, S6, q6⟩ := hsp
            exact endN S6 fun s7 J7 => ⟨_, _, J7, le.bk _ _ (lift q6)⟩
          | cont =>
            obtain ⟨σ6, H6, S6, q6⟩ := hsp
            exact endN S6 fun s7 J7 => ⟨_, _, J7, le.ct _ _ (lift q6)⟩
          | ret u =>
            obtain ⟨v6, σ6, H6, S6, r6, q6⟩ := hsp
            obtain ⟨w6, M6, k6, rp6, rh6, q6⟩ := q6
            exact endN S6 fun s7 J7 => ⟨_, _, _, J7, r6, le.rt _ _ ⟨w6, M6, (k'.trans tk4).trans k6, rp6, rh6, q6⟩⟩
        | false =>
          show wpAny _ X.A (handleBy (.ref a) X.env hds2) _ _ _
          exact ih (hno rfl)
    exact go hh wd
  · cases f with
    | next =>
      obtain ⟨σ', H', J', q⟩ := hsp
      exact wpAny_execs_nil ⟨σ', H', J'.ofTry ok, q⟩
    | brk =>
      obtain ⟨σ', H', J', q⟩ := hsp
      exact ⟨σ', H', J'.ofTry ok, q⟩
    | cont =>
      obtain ⟨σ', H', J', q⟩ := hsp
      exact ⟨σ', H', J'.ofTry ok, q⟩
    | ret u =>
      obtain ⟨v, σ', H', J', rv, q⟩ := hsp
      exact ⟨v, σ', H', J'.ofTry ok, rv, q⟩
end
end Ev

namespace Ev
open PySem PySem.Spec PyProof.Rows L2
section
variable {prog : Program} {w : World} {A : Around} {E : Value → Shared → Prop} {s : Shared}
/-- a list's iterator at its end, where an error is handled -/
theorem list_end_hot {it l x1 : Addr} {i : Nat} {items : Array Value} {Q : Option Value → Shared → Prop} (hot : HotX.HotAt A x1 s.heap) (st : s.heap.IsListIter it l i) (hl : s.heap.IsList l items) (hx : items[i]? = none)
    (g : ∀ h', (∀ b o, b ≠ it → s.heap.get? b = some o → h'.get? b = some o) → Q none { s with heap := h' }) : wpAny (model prog w) A (pyNext (.ref it)) Q E s := by
  obtain ⟨oi, g1, g2, g3⟩ := id st
  obtain ⟨ol, f1, _, nl, f3⟩ := hl
  obtain ⟨hh, o1, vs1, h1, d1, c1⟩ := hot
  have ne : x1 ≠ it := fun z => by
    rw [z, g1] at h1
    cases h1
    rw [g3] at d1
    cases d1
    cases c1
  unfold pyNext
  refine' wpAny_bind (wpAny_attempt (wpAny_callSpecial?_slot (name := Str.ofString "__next__") st.typeIs slot_listiter_next (wpAny_call_entry slot_listiter_next st.typeIs entry_listiter_next ?_ (args_listiter_next _))))
  show wpAny _ _ (field (.ref it) 0 >>= _) _ _ s
  refine' wpAny_bind (wpAny_field g1 g3 (x := .ref l) rfl ?_)
  show wpAny _ _ (if (Value.ref l == Value.none) = true then _ else _) _ _ s
  refine' (if_neg (show ¬ ((Value.ref l == Value.none) = true) from Bool.false_ne_true)).symm ▸ ?_
  show wpAny _ _ (field (.ref it) 1 >>= _) _ _ s
  refine' wpAny_bind (wpAny_field g1 g3 (x := .int i 0) rfl ?_)
  show wpAny _ _ (seqItems? (.ref l) >>= _) _ _ s
  refine' wpAny_bind (wpAny_seqItems f1 f3 ?_)
  simp only [Int.toNat_natCast, hx]
  refine' wpAny_bind (wpAny_rule (wpAny_bind (wpAny_setField g1 g3 (by simp) ?_)))
  show wpAny _ _ (newExc (.type "StopIteration") [] >>= _) _ _ _
  refine' wpAny_bind ?_
  simp only [newExc, newTuple]
  refine' wpAny_bind (wpAny_newObj_type ?_ (by size_fits))
  refine' wpAny_bind (m := firstArgMember _ _) (wpAny_of_eq (a := Value.none) (by first | rfl | (simp only [firstArgMember]; rfl)) ?_)
  refine' wpAny_newObj_type ?_ (by size_fits)
  have keep : ∀ b o, b ≠ it → s.heap.get? b = some o → (s.heap.update it (Obj.mapFields (·.setIfInBounds 0 .none))).get? b = some o := fun b o nb e => by
    rw [Heap.get?_update_other _ _ (Ne.symm nb)]
    exact e
  refine HotX.raiseNew_hot ⟨hh, o1, vs1, Heap.get?_push_of_some _ (Heap.get?_push_of_some _ (keep x1 o1 ne h1)), d1, c1⟩ (Nat.ne_of_lt (Heap.lt_size (Heap.get?_push_of_some _ (keep x1 o1 ne h1)))) (Heap.get?_push_size _ rfl) rfl (by first | (simp; done) | (simp; omega) | decide) ?_
  refine wpAny_bind (wpAny_isInstance (T := "StopIteration") (b := true) ⟨_, Heap.get?_update_self _ (Heap.get?_push_size _ rfl) rfl, rfl⟩ isSubtype_stop ?_)
  refine wpAny_pure (g _ fun b o nb e => ?_)
  rw [Heap.get?_update_other _ _ (Nat.ne_of_gt (Heap.lt_size (Heap.get?_push_of_some _ (keep b o nb e))))]
  exact Heap.get?_push_of_some _ (Heap.get?_push_of_some _ (keep b o nb e))
end

/-! ### a comprehension over a list, where an error (at a0) is handled -/
/-- the word of each turn: the list stands, the error is known -/
def KpH (a a0 : Addr) (ws : List W) : Mp → Prop := fun M' => M' a = some (.lst ws) ∧ ∃ C p, M' a0 = some (.exc C p)
def tLcH (a0 : Addr) (i : Nat) (ti : TEW) (tt : TTW) (te : TEW) : TEW := fun τ M Q E => ti τ M (fun x M1 => match x with
  | .ref a => ∃ ws, M1 a = some (.lst ws) ∧ ∀ D, M1 D = none → cpW (KpH a a0 ws) i tt te D (τ.set i none) (fun M2 => Q (.ref D) M2) ws (put M1 D (.lst []))
  | _ => False) E
section
variable {T : Tb} {L : Lm} {X : Cx} {elt iter : Expr} {ifs : List Expr} {ti te : TEW} {tt : TTW} {scope : Scope} {pos : Pos}
theorem hot_of {pins : List (Addr × Obj)} {σ : L2.St} {H : Hp} {s : Shared} {M : Mp} {a0 C : Addr} {p : Option (Str × W)} (hA : X.A.handled = some (.ref a0)) (I : Inv X pins σ H s) (rh : RelH X.K H T M) (hm : M a0 = some (.exc C p)) : HotX.HotAt X.A a0 s.heap := by
  obtain ⟨oe, e1, _, ⟨vs, e2, e3⟩, _⟩ := rh.obs _ _ hm
  obtain ⟨e4, _⟩ := I.hok a0 _ e1
  exact ⟨hA, oe, vs, e4, e2, e3⟩
theorem w_lcHot {i : Nat} {x : Str} {px : Pos} {a0 : Addr} (hA : X.A.handled = some (.ref a0)) (hN : X.N.Nodup) (ok : BlkOk X.N X.env.scope scope [(x, i)]) (hx : X.N[i]? = some x) (hl : scope.names.lookup x = some .local) (bk : BkW T X elt ifs tt te scope)
    (hi : PEW T L X iter ti) (hs : ∀ y, foldedSetIterable iter X.env y = pure y := by intro _; rfl) : PEW T L X (.ListComp elt [⟨.Name x px, iter, ifs, 0⟩] scope pos) (tLcH a0 i ti tt te) := by
  refine ⟨fun pins s σ H τ M Q ex I r tk q => ?_⟩
  rw [eval_ListComp]
  have hfree : ∀ y ∈ scope.names, y.2 = .free → ∃ c, X.env.cells.lookup y.1 = some c := fun y hy e => (ok.free y hy e).elim (fun z => I.ok.has _ (.inl z)) fun z => I.ok.has _ (.inr z)
  refine wpAny_comprehension_free (use := none) rfl hs (closure_ok hfree) ok.kind (fun y hy e => by rw [ok.uniq y hy, e]) (thn (hi.run pins s σ H τ M _ ex I r tk q) fun xv s1 hx1 => ?_)
  obtain ⟨v, H1, I1, rv, w, M1, k1, rp, rh1, q1⟩ := hx1
  cases w with
  | ref a =>
    have ev := rp.ref
    subst ev
    obtain rfl : xv = Value.ref a := rv
    obtain ⟨ws, hm, q1⟩ := q1
    obtain ⟨vs0, e0, rr0⟩ := rh1.obs _ _ hm
    obtain ⟨its0, _, pl0, _⟩ := I1.list (SqL.of e0)
    refine wpAny_pyIter_list pl0.isList ?_
    generalize hit : s1.heap.objs.size = it
    generalize hs2 : ({ heap := s1.heap.push { cls := Value.type "list_iterator", data := Data.fields #[Value.ref a, Value.int 0 0] }, gens := s1.gens, drawn := s1.drawn, toks := s1.toks, os := s1.os } : Shared) = s2
    have I2 : Inv X pins σ H1 s2 := by
      rw [← hs2]
      exact I1.kept (t' := s1.toks) fun b o e => Heap.get?_push_of_some _ e
    have st2 : s2.heap.IsListIter it a 0 := by
      rw [← hs2, ← hit]
      exact ⟨_, Heap.get?_push_size _ rfl, rfl, rfl⟩
    have f2 : FpOk X pins H1 it := by
      rw [← hit]
      exact I1.fpOk (Nat.le_refl _) (I1.hok.fresh (Nat.le_refl _))
    refine wpAny_newObj_type (newEnv_comp ?_) (Nat.zero_le _)
    generalize hD : s2.heap.objs.size = D
    have hDn : H1 D = none := I2.hok.fresh (Nat.le_of_eq hD)
    have itD : it ≠ D := by
      obtain ⟨o, e, _⟩ := id st2
      rw [← hD]
      exact Nat.ne_of_lt (Heap.lt_size e)
    have c0 := q1 D (rh1.free hDn)
    generalize hs3 : ({ s2 with heap := s2.heap.push { cls := .type "list", data := .seq ([] : List Value).toArray } } : Shared) = s3
    have I3 : Inv X pins σ (upd H1 D (.lst [])) s3 := by
      rw [← hs3]
      refine I2.laid (t' := s2.toks) (fun b o e => Heap.get?_push_of_some _ e) (Nat.le_of_eq hD) ⟨Nat.zero_le _, [], 0, .nil, ?_⟩
      rw [← hD]
      exact Heap.get?_push_size _ rfl
    have grow3 : ∀ b o, s2.heap.get? b = some o → s3.heap.get? b = some o := fun b o e => by
      rw [← hs3]
      exact Heap.get?_push_of_some _ e
    have rh3 : RelH X.K (upd H1 D (.lst [])) T (put M1 D (.lst [])) := rh1.putL (.inl hDn) (by unfold Reps; rfl)
    have kD : TK H1 (upd H1 D (.lst [])) := (NL.put (.inl hDn)).tk
    have f3 : ∀ b ∈ [it], FpOk X pins (upd H1 D (.lst [])) b ∧ b < s3.heap.objs.size := fun b hb => by
      rw [List.mem_singleton] at hb
      subst hb
      refine ⟨⟨by rw [upd_ne itD]; exact f2.1, f2.2⟩, ?_⟩
      obtain ⟨o, e, _⟩ := id st2
      exact Heap.lt_size (grow3 _ _ e)
    have I4 := block_start I3 ok hN f3
    have st3 : s3.heap.IsListIter it a 0 := st2.at fun o e => grow3 it o e
    show codeAny _ _ (.compStart (.ListComp elt [⟨.Name x px, iter, ifs, 0⟩] scope pos) 0 (.ref it) (.ref D) (compEnvC scope (cellsFrom (s3.heap.objs.size + 1) scope.names (cloFrom X.env.cells scope.names [])) s3.heap.objs.size X.env)) (compPost (model X.prog X.w) X.A X.xe none _ (.ref D) s3.heap.objs.size) { s3 with heap := pushCells (s3.heap.push { cls := .type "dict", data := .dict #[] }) scope.names }
    have pg : PG (X.blk s3 (upd H1 D (.lst [])) scope (compEnvC scope (cellsFrom (s3.heap.objs.size + 1) scope.names (cloFrom X.env.cells scope.names [])) s3.heap.objs.size X.env) [it]) (.Name x px) (gName i) := pg_name hN hx (.inl (lookup_relS_keep (by decide) hl)) (.inr (lookup_relS_keep (by decide) hl))
    have pt := (bk.ht s3 (upd H1 D (.lst [])) s3.heap.objs.size (cellsFrom (s3.heap.objs.size + 1) scope.names (cloFrom X.env.cells scope.names [])) [it]).dn
    have pe := (bk.he s3 (upd H1 D (.lst [])) s3.heap.objs.size (cellsFrom (s3.heap.objs.size + 1) scope.names (cloFrom X.env.cells scope.names [])) [it]).dn0
    generalize hce : compEnvC scope (cellsFrom (s3.heap.objs.size + 1) scope.names (cloFrom X.env.cells scope.names [])) s3.heap.objs.size X.env = ce at I4 pg pt pe ⊢
    have cL : ce.locals = s3.heap.objs.size := by subst hce; rfl
    generalize hH3 : upd H1 D (.lst []) = H3 at I3 I4 pg pt pe rh3 kD f3
    generalize hs4 : ({ s3 with heap := pushCells (s3.heap.push { cls := .type "dict", data := .dict #[] }) scope.names } : Shared) = s4 at I4 ⊢
    have st4 : s4.heap.IsListIter it a 0 := st3.at fun o e => by rw [← hs4]; exact pushCells_keeps _ _ _ _ (Heap.get?_push_of_some _ e)
    -- the iterator stays ours in the block
    have own : ∀ {pn : List (Addr × Obj)} {σ' : L2.St} {H' : Hp} {s' : Shared}, Inv (X.blk s3 H3 scope ce [it]) pn σ' H' s' → H' it = none → it ≠ ce.locals ∧ it ∉ (X.blk s3 H3 scope ce [it]).fs ∧ ∀ y c, ce.cells.lookup y = some c → c ≠ it := fun {pn σ' H' s'} I' hn =>
      ⟨(I'.ok.exf it List.mem_cons_self).1, I'.ok.exfs it List.mem_cons_self, fun y c e => (I'.ok.exf it List.mem_cons_self).2 y c e⟩
    have rs0 : RelS X.K H1 (τ.set i none) (wipe σ [i]) := (r.rs.tk k1).unset i
    have hlen : (wipe σ [i]).length = σ.length := wipe_length _ _
    have loop : codeAny (model X.prog X.w) X.A (.compLoop (.ListComp elt [⟨.Name x px, iter, ifs, 0⟩] scope pos) 0 (.ref it) (.ref D) ce) (compPost (model X.prog X.w) X.A X.xe none (EP X pins σ (ups T X H Q)) (.ref D) s3.heap.objs.size) s4 := by
      refine compLoop_any (fun n s' => ∃ j H' M', n + j = ws.length ∧ Inv (X.blk s3 H3 scope ce [it]) [] (wipe σ [i]) H' s' ∧ s'.heap.IsListIter it a j ∧ H' it = none ∧ TK H1 H' ∧ RelH X.K H' T M' ∧ cpW (KpH a a0 ws) i tt te D (τ.set i none) (fun M2 => Q (.ref D) M2) (ws.drop j) M') ?_ ws.length
        ⟨0, H3, _, rfl, I4, st4, (f3 it List.mem_cons_self).1.1, kD, rh3, c0⟩
      rintro n s5 ⟨j, H5, M5, hnj, I5, st5, n5, k5, rh5, c5⟩
      obtain ⟨hma, C, pe0, hma0⟩ := cpW_kp c5
      obtain ⟨vs5, e5, rr5⟩ := rh5.obs _ _ hma
      obtain ⟨its, rv5, pl5, _⟩ := I5.list (SqL.of e5)
      obtain ⟨o1, o2, o3⟩ := own I5 n5
      have exm : it ∈ (X.blk s3 H3 scope ce [it]).ex := List.mem_cons_self
      by_cases hj : j < ws.length
      · have hjv : j < vs5.length := by rw [rr5.len]; exact hj
        obtain ⟨u, hu, ru⟩ := rv5.get (List.getElem?_eq_getElem hjv)
        obtain ⟨w, hw, rpw⟩ := rr5.at (List.getElem?_eq_getElem hjv)
        rw [get_drop hw] at c5
        refine thnF (wpAny_pyNext_list_item (Q := fun rr s6 => ∃ h', rr = some u ∧ s6 = { s5 with heap := h' } ∧ h'.IsListIter it a (j + 1) ∧ ∀ b o, b ≠ it → s5.heap.get? b = some o → h'.get? b = some o) st5 pl5.isList (by simpa using hu) fun h' st' sb => ⟨h', rfl, rfl, st', fun b o nb e => (sb.2 b nb).trans e⟩) fun rr s6 ⟨h6, e1, e2, st6, kp6⟩ => ?_
        subst e1
        subst e2
        have I6 : Inv (X.blk s3 H3 scope ce [it]) [] (wipe σ [i]) H5 { s5 with heap := h6 } := I5.turned (t' := s5.toks) kp6 n5 o1 (.inl exm) o3 (fun p hp => by cases hp)
        obtain ⟨oi, g1, g2, g3⟩ := id st6
        refine go_of (s := { s5 with heap := h6 }) g1 g2 g3 (by decide) ?_
        have I6p : Inv (X.blk s3 H3 scope ce [it]) [(it, oi)] (wipe σ [i]) H5 { s5 with heap := h6 } := I6.pins_of fun p hp => by
          rw [List.mem_singleton] at hp
          subst hp
          exact ⟨g1, n5, o1, o2, fun v z => by rw [g3] at z; cases z⟩
        refine thnF (pg.run _ _ _ H5 _ u (fun σ8 H8 => σ8 = (wipe σ [i]).set i (some vs5[j]) ∧ H8 = H5) I6p ru ⟨rfl, rfl⟩) fun _ s8 ⟨σ8, H8, I8, e8, e9⟩ => ?_
        subst e8
        subst e9
        have rs8 : RelS X.K H8 ((τ.set i none).set i (some w)) ((wipe σ [i]).set i (some vs5[j])) := (rs0.tk k5).set i rpw
        refine thnF (pt.run _ s8 _ H8 (fun k H9 => ∃ M9, TK H8 H9 ∧ RelH X.K H9 T M9 ∧ (if k = true then te ((τ.set i none).set i (some w)) M9 (fun y M2 => ∃ acc, M2 D = some (.lst acc) ∧ acc.length < sizeLine ∧ cpW (KpH a a0 ws) i tt te D (τ.set i none) (fun M2 => Q (.ref D) M2) (ws.drop (j + 1)) (put M2 D (.lst (acc ++ [y])))) (fun _ _ _ => False) else cpW (KpH a a0 ws) i tt te D (τ.set i none) (fun M2 => Q (.ref D) M2) (ws.drop (j + 1)) M9)) I8 ⟨_, M5, _, rs8, rh5, c5.2, fun k H9 M9 k9 rh9 q9 => ⟨M9, k9, rh9, q9⟩⟩) fun k s9 ⟨H9, I9, M9, k9, rh9, q9⟩ => ?_
        have fin : ∀ {s' : Shared} {H' : Hp} {M' : Mp}, Inv (X.blk s3 H3 scope ce [it]) [(it, oi)] ((wipe σ [i]).set i (some vs5[j])) H' s' → TK H8 H' → RelH X.K H' T M' → cpW (KpH a a0 ws) i tt te D (τ.set i none) (fun M2 => Q (.ref D) M2) (ws.drop (j + 1)) M' →
            ∃ m, m < n ∧ ∃ j H' M', m + j = ws.length ∧ Inv (X.blk s3 H3 scope ce [it]) [] (wipe σ [i]) H' s' ∧ s'.heap.IsListIter it a j ∧ H' it = none ∧ TK H1 H' ∧ RelH X.K H' T M' ∧ cpW (KpH a a0 ws) i tt te D (τ.set i none) (fun M2 => Q (.ref D) M2) (ws.drop j) M' := fun {s' H' M'} I' kk rr cc => by
          obtain ⟨p1, p2, _⟩ := I'.pin (it, oi) (List.mem_append_right _ List.mem_cons_self)
          refine ⟨n - 1, by omega, j + 1, H', M', by omega, ?_, ⟨oi, p1, g2, g3⟩, p2, k5.trans kk, rr, cc⟩
          refine Inv.weak (Inv.pins_of I' fun p hp => by cases hp) (by rw [List.length_set]) fun jj v e => ?_
          have e2 := (wipe_some e).2
          rw [List.getElem?_set_ne (fun z => e2 (by rw [← z]; exact List.mem_cons_self))]
          exact e
        cases k with
        | false =>
          simp only [Bool.false_eq_true, if_false] at q9 ⊢
          exact fin I9 k9 rh9 q9
        | true =>
          simp only [if_true] at q9 ⊢
          refine thnF (pe.run _ s9 _ H9 (fun yv H10 => ∃ y M10, TK H9 H10 ∧ Rep X.K H10 y yv ∧ RelH X.K H10 T M10 ∧ ∃ acc, M10 D = some (.lst acc) ∧ acc.length < sizeLine ∧ cpW (KpH a a0 ws) i tt te D (τ.set i none) (fun M2 => Q (.ref D) M2) (ws.drop (j + 1)) (put M10 D (.lst (acc ++ [y])))) I9 ⟨_, M9, _, rs8.tk k9, rh9, q9, fun yv H10 y M10 k10 rp10 rh10 q10 => ⟨y, M10, k10, rp10, rh10, q10⟩⟩) fun z s10 ⟨yv, H10, I10, r10, y, M10, k10, rp10, rh10, acc, hacc, hz, cc⟩ => ?_
          obtain ⟨va, ea, ra⟩ := rh10.obs _ _ hacc
          refine app_ok (X := X.blk s3 H3 scope ce [it]) I10 ea (by rw [ra.len]; exact hz) r10 fun s11 I11 => ?_
          exact fin I11 ((k9.trans k10).trans (NL.put (.inr ⟨va, ea⟩)).tk) (rh10.putL (.inr ⟨va, ea⟩) (ra.app (.one rp10))) cc
      · have ej : j = ws.length := by
          have : j ≤ ws.length := by omega
          omega
        subst ej
        rw [List.drop_length] at c5
        have hend : its.toArray[ws.length]? = none := by
          have := rv5.length
          have := rr5.len
          simp
          omega
        refine thnF (list_end_hot (Q := fun rr s6 => ∃ h', rr = none ∧ s6 = { s5 with heap := h' } ∧ ∀ b o, b ≠ it → s5.heap.get? b = some o → h'.get? b = some o) (hot_of (X := X.blk s3 H3 scope ce [it]) hA I5 rh5 hma0) st5 pl5.isList hend fun h' kp => ⟨h', rfl, rfl, kp⟩) fun rr s6 ⟨h6, e1, e2, kp6⟩ => ?_
        subst e1
        subst e2
        have I6 : Inv (X.blk s3 H3 scope ce [it]) [] (wipe σ [i]) H5 { s5 with heap := h6 } := I5.turned (t' := s5.toks) kp6 n5 o1 (.inl exm) o3 (fun p hp => by cases hp)
        have fIt := f3 it List.mem_cons_self
        have I7 : Inv X pins σ H5 { s5 with heap := h6 } := I3.call' (ch := [it]) I6.os I6.base I6.hok I6.bare fun b hb => by
          rw [List.mem_singleton] at hb
          subst hb
          exact ⟨fIt.1.2.2.2.1, fIt.1.2.1, fIt.1.2.2.2.2.1, fIt.1.2.2.2.2.2⟩
        have nC : H5 s3.heap.objs.size = none := by
          have z : H5 ce.locals = none := I6.free
          rw [cL] at z
          exact z
        obtain ⟨m, hn, _⟩ := I6.loc
        have hn : Heap.Ns h6 ce.locals m := hn
        rw [cL] at hn
        have fC := I3.fpOk (Nat.le_refl _) nC
        refine ⟨m, hn, fun h8 sb => ?_⟩
        exact ⟨.ref D, H5, I7.turned (t' := s5.toks) (fun b o hb e => (sb.2 b hb).trans e) fC.1 fC.2.1 fC.2.2.2.1 fC.2.2.2.2.1 fC.2.2.2.2.2, rfl, .ref D, M5, k1.trans k5, rep_ref, rh5, c5.2⟩
    exact codeAny_compStart_list loop (wpAny_pyIter_listiter st4 loop)
  | _ => exact q1.elim
end
end Ev

namespace Ev
open PySem PySem.Spec PyProof.Rows L2
/-! ### isinstance, errors included -/
def clsVal : W → Option Value
  | .ref C => some (.ref C)
  | .ty n => some (.type n)
  | _ => none
def wIsiK (K : PySem.W.Frag) : RWC := fun ws M Q => match ws with
  | [.ref a, c] => (match M a with
    | some (.exc D none) => ExcC K D ∧ ∃ cv k, clsVal c = some cv ∧ PySem.W.kitOne K (.ref D) cv = some k ∧ Q (.bl k) M
    | _ => wIsi [.ref a, c] M Q)
  | _ => wIsi ws M Q
section
variable {T : Tb} {L : Lm} {X : Cx} {e : Expr} {es : List Expr} {u : TAW} {pos p : Pos}
def rIsX (K : PySem.W.Frag) : RC := fun xs H Q => ∃ (a D : Addr) (oe : Obj) (c : V) (cv : Value) (k : Bool), xs = [.ref a, c] ∧ H a = some (lockO a oe) ∧ oe.cls = .ref D ∧ oe.dict = none ∧ (∃ vs, oe.data = .fields vs) ∧ ExcC K D ∧ (∀ z, RelV c z → z = cv) ∧ PySem.W.kitOne K (.ref D) cv = some k ∧ Q (.bl k) H
theorem call_isX : CallR X (.builtin "isinstance") (rIsX X.K) := by
  intro pins s σ H xs us Q I r h
  obtain ⟨a, D, oe, c, cv, k, rfl, hH, h1, h2, ⟨vs, h3⟩, c3, hcv, hk, q⟩ := h
  obtain ⟨y, z, rfl, ry, rz⟩ := vals2 r
  cases (show y = Value.ref a from ry)
  have ez := hcv z rz
  subst ez
  obtain ⟨hget, _⟩ := I.hok a _ hH
  have J : PySem.W.InstAt s.heap a oe D none := by
    obtain ⟨oc, od, dt, sl⟩ := oe
    dsimp only at h1 h2 h3
    subst h1 h2 h3
    exact ⟨hget, rfl, rfl, trivial⟩
  exact PySem.W.kia_one (PySem.W.handS_kitx_exc c3.hg c3.hk c3.hs c3.hd c3.ha c3.hn c3.ht c3.hm) I.kIn J hk (fun z => nomatch z) fun t => ⟨.bl k, H, I.kept (t' := t) fun _ _ z => z, rfl, q⟩
def rIsAll (K : PySem.W.Frag) : RC := fun vs H Q => rIsiA K vs H Q ∨ rIsX K vs H Q
theorem call_isAll : CallR X (.builtin "isinstance") (rIsAll X.K) := fun pins s σ H xs us Q I r h => h.elim (fun h => call_isiA pins s σ H xs us Q I r h) fun h => call_isX pins s σ H xs us Q I r h
theorem mono_isAll {K : PySem.W.Frag} : MonoC (rIsAll K) := fun vs H Q Q' f h => h.elim (fun h => .inl (mono_isiA vs H Q Q' f h)) fun ⟨a, D, oe, c, cv, k, h1, h2, h3, h4, h5, h6, h7, h8, q⟩ => .inr ⟨a, D, oe, c, cv, k, h1, h2, h3, h4, h5, h6, h7, h8, f _ _ q⟩
theorem clsVal_rep {K : PySem.W.Frag} {H : Hp} {c : W} {v : V} {cv : Value} (r : Rep K H c v) (h : clsVal c = some cv) : ∀ z, RelV v z → z = cv := fun z rz => by
  unfold clsVal at h
  split at h
  · cases h
    rw [r.ref] at rz
    exact rz
  · cases h
    rw [r.ty] at rz
    exact rz
  · cases h
theorem gl_isAll : GlC T X (rIsAll X.K) (wIsiK X.K) := by
  intro H M ws vs Q rh rp q
  unfold wIsiK at q
  split at q
  · split at q
    · rename_i D hm
      obtain ⟨c3, cv, k, h1, h2, q⟩ := q
      obtain ⟨v, y, e, r1, r2⟩ := rp.two'
      rw [r1.ref] at e
      obtain ⟨oe, g1, g2, ⟨vs2, g3, _⟩, g4⟩ := rh.obs _ _ hm
      exact .inr ⟨_, D, oe, y, cv, k, e, g1, g2, g4, ⟨vs2, g3⟩, c3, clsVal_rep r2 h1, h2, upsI (TK.refl H) rep_bl rh q⟩
    · exact .inl (gl_isi H M _ vs Q rh rp q)
  · exact .inl (gl_isi H M _ vs Q rh rp q)
theorem w_isiK (hg : Gl X "isinstance") (hm : X.mg "isinstance" = none) (ha : PAW T L X (e :: es) u) (he : starEach (e :: es) X.env = (false, eval e X.env) :: starEach es X.env := by rfl) (hpl : (backTo pos (starEach es X.env)).any (·.1) = false := by rfl) :
    PEW T L X (.Call (.Name "isinstance" p) (e :: es) [] pos) (tCB (wIsiK X.K) u) := w_callB call_isAll gl_isAll mono_isAll hg hm (by decide +kernel) ha (by decide) (by decide) he hpl
end
/-! ### defs called where an error is handled; nothing is raised in them -/
abbrev SpH := Addr → List W → Mp → QK → Prop
structure FnHW (P : Program) (w : World) (K : PySem.W.Frag) (mg : Str → Option Value) (base : Heap) (T : Tb) (k : Nat) (f : Addr) (fd : FuncData) (ps : List Str) (sp : SpH) : Prop where
  run : ∀ (A : Around) (outer : List Env) (s : Shared) (H : Hp) (args : Args) (us : List Value) (vs : List V) (ws : List W) (M : Mp) (Q : QK) (a0 : Addr), L2H.RoomH k A → A.handled = some (.ref a0) → Env0 P w K mg base A outer s H → BindsTo s fd args (ps.zip us) → Vals vs us → Reps K H ws vs → RelH K H T M →
    ws.length = ps.length → sp a0 ws M Q → codeAny (model P w) A (.call (.ref f) args) (CR (L2N.CX P w) outer P w H s (CRv K T Q) (fun _ _ _ => False)) s
structure DefHW (P : Program) (w : World) (K : PySem.W.Frag) (mg : Str → Option Value) (base : Heap) (T : Tb) (x : Str) (k n : Nat) (sp : SpH) : Prop where
  ex : ∃ (f : Addr) (fd : FuncData) (ps : List Str), mg x = some (.ref f) ∧ PySem.W.keepIn K (.ref f) = true ∧ Binds K fd ps [] ∧ FnHW P w K mg base T k f fd ps sp ∧ ps.length = n
/-- the context of such a def's body -/
abbrev hotC (P : Program) (w : World) (K : PySem.W.Frag) (mg : Str → Option Value) (base : Heap) (N : List Str) (qual : Str) (scope : Scope) (f : Addr) (cd : Value) (A : Around) (outer : List Env) (s : Shared) (H : Hp) : Cx :=
  { cxOf (L2N.CX P w) P w K mg base N qual scope f cd A outer s H (fun _ _ _ => False) with calm := false, xe := fun _ _ => False }
section
variable {T : Tb} {P : Program} {w : World} {K : PySem.W.Frag} {mg : Str → Option Value} {base : Heap}
theorem inv_startHot {N ps : List Str} {qual : Str} {scope : Scope} {f : Addr} {cd : Value} {A : Around} {outer : List Env} {s s1 : Shared} {H : Hp} {us : List Value} {vs : List V} (S : FnScope N ps scope) (e0 : Env0 P w K mg base A outer s H) (hl : vs.length = ps.length) (r : Vals vs us)
    (x : InCallC s s.heap.objs.size (bindL (envOfC qual scope s.heap.objs.size f cd).kindOf (ps.zip us) fun _ => none) (cellsFrom (s.heap.objs.size + 1) scope.names []) (bindC (envOfC qual scope s.heap.objs.size f cd).kindOf (ps.zip us) fun _ => none) s1) :
    Inv (hotC P w K mg base N qual scope f cd A outer s H) [] (L2.start N vs) H s1 := by
  have e1 : Env0 P w K mg base { A with handled := none } outer s H := ⟨e0.frames, e0.mod, e0.bs, e0.bsz, e0.funs, e0.frf, e0.hok, e0.bare⟩
  have I := inv_start (CX := L2N.CX P w) (E := fun _ _ _ => False) S (A := { A with handled := none }) rfl e1 hl r x
  exact ⟨⟨I.ok.mod, I.ok.kind, I.ok.glob, I.ok.blt, I.ok.above, I.ok.inj, I.ok.has, I.ok.cab, (fun z => Bool.noConfusion (show false = true from z)), Around.frames_deeper e0.frames, I.ok.stk, I.ok.exf, I.ok.bs, I.ok.bsz, I.ok.noex, I.ok.exfs, I.ok.funs, I.ok.frf⟩,
    I.os, I.bare, I.base, I.loc, I.cell, I.free, I.freeC, I.pin, I.hok, I.len⟩
def spHOf (n : Nat) (t : Addr → TSW) : SpH := fun a0 ws M Q => t a0 { rt := Q, nx := fun _ M' => Q .non M', ex := fun _ _ _ _ => False } (stW n ws) M
theorem fnHW_of {x qual : Str} {st : Stmt} {f : Addr} {fd : FuncData} {N ps : List Str} {k : Nat} {t : Addr → TSW} (F : Fun K x qual st f fd) (S : FnScope N ps (defScope st))
    (hbody : ∀ (a0 : Addr) (cdv : Value) (A : Around) (outer : List Env) (s : Shared) (H : Hp), A.handled = some (.ref a0) → L2H.RoomH k (A.deeper (envOfC qual (defScope st) s.heap.objs.size f cdv)) → PSsW T L0 (hotC P w K mg base N qual (defScope st) f cdv A outer s H) (defBody st) (t a0)) :
    FnHW P w K mg base T (k + 1) f fd ps (spHOf N.length t) := by
  obtain ⟨oc, od, kV, doc, pm, an, cdv, ct, osl, rfl, lk, hcd⟩ := F.ex
  refine ⟨fun A outer s H args us vs ws M Q a0 hr hh e0 hb rv rp rh hl q => ?_⟩
  have KX : K.In s.heap := e0.mod.kin.keeps fun b o e => (e0.bs b o e).1
  have lim : s.heap.NoLimit := e0.mod.nolimit.keeps fun b o e => (e0.bs b o e).1
  have kinds : ∀ y ∈ ps.zip us, (defScope st).names.lookup y.1 = some .local ∨ ((defScope st).names.lookup y.1 = some .cell ∧ ((cellsFrom (s.heap.objs.size + 1) (defScope st).names []).lookup y.1).isSome = true) := fun ⟨n, v⟩ hy =>
    (S.par n (List.of_mem_zip hy).1).elim (fun z => .inl z) fun z => .inr ⟨z, PySem.W.cellsFrom_some _ _ _ (.inl z)⟩
  refine codeAny_call_function hr.depth (KX _ _ lk) rfl S.co S.gen rfl (PySem.W.codeRec_of KX hcd) (hb _ _ _ _ ?_)
  refine wpAny_newFunctionEnv_cells S.kind kinds fun env he s1 x => ?_
  subst he
  refine ⟨lim.keeps x.toInCall.keep, codeAny_func ?_⟩
  have hvl : vs.length = ps.length := by rw [rp.len]; exact hl
  have I := inv_startHot (f := f) (cd := cdv) S e0 hvl rv x
  have hst : RelS K H (stW N.length ws) (L2.start N vs) := by
    unfold stW L2.start
    rw [rp.len]
    exact RelS.start rp
  have hB := (hbody a0 cdv A outer s H hh (hr.deeper _)).dn.run [] s1 (L2.start N vs) H { nx := fun _ H' => CRv K T Q .non H', rt := CRv K T Q } I
    ⟨_, M, { rt := Q, nx := fun _ M' => Q .non M', ex := fun _ _ _ _ => False }, ⟨hst, rh, live0, .inl rfl⟩, takesF, q, ⟨fun σ' H' ⟨τ', M', k1, rs, rh', z⟩ => ⟨.non, M', rep_non, rh', z⟩, fun v H' ⟨w', M', k1, rp', rh', z⟩ => ⟨w', M', rp', rh', z⟩, fun _ _ ⟨_, _, _, _, _, z⟩ => z, fun _ _ ⟨_, _, _, _, _, z⟩ => z⟩⟩
  refine wpAny_mono hB (fun fl s' hsp => ?_) fun e s' z => False.elim z
  have fin : ∀ {σ' : L2.St} {H' : Hp} {v : V} {u : Value}, Inv (hotC P w K mg base N qual (defScope st) f cdv A outer s H) [] σ' H' s' → RelV v u → CRv K T Q v H' → CE outer P w H s (CRv K T Q) u s' := fun {σ' H' v u} J r1 q1 => ⟨v, H', J.os, J.bare, J.base, J.hok, r1, q1⟩
  cases fl with
  | ret u =>
    obtain ⟨v, σ', H', J, r1, q1⟩ := hsp
    exact fin J r1 q1
  | next =>
    obtain ⟨σ', H', J, q1⟩ := hsp
    exact fin (v := V.non) (u := Value.none) J rfl q1
  | brk =>
    obtain ⟨_, _, _, z⟩ := hsp
    exact False.elim z
  | cont =>
    obtain ⟨_, _, _, z⟩ := hsp
    exact False.elim z
end
section
variable {T : Tb} {L : Lm} {X : Cx} {e : Expr} {es : List Expr} {u : TAW} {pos p : Pos}
def tFnH (a0 : Addr) (sp : SpH) (u : TAW) : TEW := fun τ M Q E => u τ M (fun ws M1 => sp a0 ws M1 Q) E
theorem w_callH {x : Str} {k n : Nat} {a0 : Addr} {sp : SpH} (D : DefHW X.prog X.w X.K X.mg X.base T x k n sp) (hr : L2H.RoomH k X.A) (hA : X.A.handled = some (.ref a0)) (hg : Gl X x) (ha : PAW T L X (e :: es) u) (hn : (e :: es).length = n := by rfl) (hdb : (x == ("__debug__" : Str)) = false := by decide)
    (he : starEach (e :: es) X.env = (false, eval e X.env) :: starEach es X.env := by rfl) (hpl : (backTo pos (starEach es X.env)).any (·.1) = false := by rfl) : PEW T L X (.Call (.Name x p) (e :: es) [] pos) (tFnH a0 sp u) := by
  obtain ⟨f, fd, ps, hm, hk, hb, F, hpn⟩ := D.ex
  refine ⟨fun pins s σ H τ M Q ex I r tk q => ?_⟩
  refine wpAny_Call_Name_kw (ld_glob I hg hm ?_ hdb)
  refine PySem.W.callWith_K (h₀ := X.base) I.ok.mod.kin hk (thn (ha.run pos pins s σ H τ M _ ex I r tk q) fun us s1 ⟨vs, H1, I1, rv, ws, M1, k1, rp, rh, hl, q1⟩ => ⟨I1.kIn, ?_⟩) he hpl
  have hl2 : us.length = ps.length := by rw [← rv.length, rp.len, hl, hn, hpn]
  have bb := hb s1 us I1.kIn (by rw [List.append_nil]; exact hl2)
  rw [List.append_nil] at bb
  refine wpAny_call (codeAny_mono (F.run X.A X.stack s1 H1 ⟨us, []⟩ us vs ws M1 Q a0 hr hA I1.env0 bb rv rp rh (by rw [hl, hn, hpn]) q1) fun rr s' hq => ?_)
  cases rr with
  | error ev =>
    obtain ⟨_, _, _, _, _, _, _, _, _, _, _, _, z⟩ := (show L2N.CX X.prog X.w X.stack H1 s1 (fun _ _ _ => False) ev s' from hq)
    exact z.elim
  | ok fl =>
    cases fl with
    | ret y =>
      have hq : CE X.stack X.prog X.w H1 s1 (CRv X.K T Q) y s' := hq
      have hq2 : CE X.stack X.prog X.w H1 s1 (ups T X H Q) y s' := by
        obtain ⟨v, H', os, bare, un, hok, rl, w, M', h1, h2, h3⟩ := hq
        exact ⟨v, H', os, bare, un, hok, rl, w, M', k1.trans (TK.of_un un), h1, h2, h3⟩
      exact I1.after hq2
    | next => exact False.elim hq
    | brk => exact False.elim hq
    | cont => exact False.elim hq
end
end Ev
namespace Ev
open PySem PySem.Spec PyProof.Rows L2
/-- the names' addresses: the classes -/
structure Gm where
  K : PySem.W.Frag
  cls : Nat → Addr
  cd : Nat → Addr
  tb : Nat → Addr
section
variable {T : Tb} {L : Lm} {X : Cx} {st : Stmt} {sts : List Stmt} {pos : Pos}
def sNever : TSW := fun _ _ _ => False
theorem s_never : PSsW T L X sts sNever := ⟨PSs.imp' pss_never fun D σ H ⟨_, _, _, _, _, z, _⟩ => z.elim⟩
/-- a name of the module that holds a value -/
def GlN (K : PySem.W.Frag) (mg : Str → Option Value) (x : Str) (w : W) : Prop := ∃ u, mg x = some u ∧ GlV K u w
theorem w_globN {x : Str} {w : W} (hg : Gl X x) (h : GlN X.K X.mg x w) (hd : (x == ("__debug__" : Str)) = false := by decide) : PEW T L X (.Name x pos) (tC w) := by
  obtain ⟨u, hm, g⟩ := h
  exact w_glob hg hm g hd
theorem glN_cls {K : PySem.W.Frag} {mg : Str → Option Value} {x : Str} {C : Addr} (h : mg x = some (.ref C)) : GlN K mg x (.ref C) := ⟨_, h, .ref C, rfl, fun _ => rep_ref⟩
theorem rep_ty {K : PySem.W.Frag} {H : Hp} {n : String} : Rep K H (.ty n) (.ty n) := by unfold Rep; rfl
/-- a tuple of texts of the module -/
theorem glN_tup {K : PySem.W.Frag} {mg : Str → Option Value} {x : Str} {a : Addr} {ws : List W} {vs : List V} {its : Array Value} {n : Nat} {od : Option Addr} {sl : Array (Option Value)} (h : mg x = some (.ref a)) (hk : K.lookup a = some ⟨.type "tuple", od, .seq its n, sl⟩) (hz : its.size ≤ sizeLine) (rv : Vals vs its.toList) (rp : ∀ H, Reps K H ws vs) : GlN K mg x (.tup ws) :=
  ⟨_, h, .ref a, rfl, fun H => by unfold Rep; exact ⟨a, vs, rfl, .inr ⟨_, its, n, hk, rfl, rfl, hz, rv⟩, rp H⟩⟩
theorem roomH_suite {k : Nat} {a : Addr} {pn : List (Addr × Obj)} (h : Room k X.A) : L2H.RoomH k (X.suite a pn).A := ⟨h.dp, h.un⟩
end
end Ev
namespace Ev
open PySem PySem.Spec PyProof.Rows L2
/-- a def of the text whose code object stands at c -/
structure FunC (K : PySem.W.Frag) (x qual : Str) (st : Stmt) (f : Addr) (fd : FuncData) (c : Addr) : Prop where
  ex : ∃ (oc : Value) (od : Option Addr) (kV doc pm : Value) (an : Option Addr) (ct : Value) (osl : Array (Option Value)),
    fd = PySem.W.fnOf x qual (defArgs st) (defBody st) (defScope st) .none kV doc pm an (.ref c) ct ∧ K.lookup f = some ⟨oc, od, .func fd, osl⟩ ∧ PySem.W.codeIn K (.ref c) qual = true
  kp : PySem.W.keepIn K (.ref f) = true
theorem FunC.fn {K : PySem.W.Frag} {x qual : Str} {st : Stmt} {f : Addr} {fd : FuncData} {c : Addr} (F : FunC K x qual st f fd c) : Fun K x qual st f fd := by
  obtain ⟨oc, od, kV, doc, pm, an, ct, osl, e, l, h⟩ := F.ex
  exact ⟨⟨oc, od, kV, doc, pm, an, .ref c, ct, osl, e, l, h⟩, F.kp⟩
theorem fnW_ofC {T : Tb} {P : Program} {w : World} {K : PySem.W.Frag} {mg : Str → Option Value} {base : Heap} {x qual : Str} {st : Stmt} {f c : Addr} {fd : FuncData} {N ps : List Str} {k : Nat} {t : Lm → TSW} (F : FunC K x qual st f fd c) (S : FnScope N ps (defScope st))
    (hbody : ∀ (L : Lm) (A : Around) (outer : List Env) (s : Shared) (H : Hp) (E : XK), Room k (A.deeper (envOfC qual (defScope st) s.heap.objs.size f (.ref c))) → PSsW T L (cxOf (L2N.CX P w) P w K mg base N qual (defScope st) f (.ref c) A outer s H E) (defBody st) (t L)) :
    FnW P w K mg base T (k + 1) f fd ps (spOf N.length t) := by
  obtain ⟨oc, od, kV, doc, pm, an, ct, osl, rfl, lk, hcd⟩ := F.ex
  refine ⟨fun A outer s H args us vs ws L M Q E hr e0 hb rv rp rh lv hl q => ?_⟩
  refine LamX.run_ofS lk hcd S hr e0 hb rv (by rw [rp.len]; exact hl) fun hr' => ⟨_, (hbody L A outer s H (CRe K T E) hr').dn, ?_⟩
  have hst : RelS K H (stW N.length ws) (L2.start N vs) := by
    unfold stW L2.start
    rw [rp.len]
    exact RelS.start rp
  refine ⟨_, M, { rt := Q, nx := fun _ M' => Q .non M', ex := fun C p _ M' => E C p M' }, ⟨hst, rh, lv, .inl rfl⟩, ?_, q, ⟨fun σ' H' ⟨τ', M', k1, rs, rh', z⟩ => ⟨.non, M', rep_non, rh', z⟩, fun v H' ⟨w', M', k1, rp', rh', z⟩ => ⟨w', M', rp', rh', z⟩, fun _ _ ⟨_, _, _, _, _, z⟩ => z, fun _ _ ⟨_, _, _, _, _, z⟩ => z⟩⟩
  refine (L2N.takes_of rfl rfl rfl rfl).imp fun cls d σ' H' ⟨_, C, p, τ', M', e, pl, rs, rh', z⟩ => ?_
  exact ⟨C, p, M', e, pl, rh', z⟩
end Ev

/-! Ev, part L: more constructs: divmod of wide numbers, chains of comparisons. -/
namespace Ev
open PySem PySem.Spec PyProof.Rows L2
section
variable {T : Tb} {L : Lm} {X : Cx} {e a b c : Expr} {es : List Expr} {ta tb tc : TEW} {u : TAW} {pos p : Pos}
/-- divmod: a new tuple; the room that wide numbers ask is there -/
abbrev rDivmod : RC := fun xs H Q => ∃ i j, xs = [V.int i, V.int j] ∧ j ≠ 0 ∧ ∀ p, H p = none → Q (.ref p) (upd H p (.tup [.int (i.fdiv j), .int (i.fmod j)]))
theorem call_divmodY {k : Nat} {l : List Env} (hN : X.base.NoSeer) (ht : X.prog.given.tree = none) (hst : X.stack = X.env :: l) (hg : X.env.scope.isGenerator = false) (hc : X.env.scope.isCoroutine = false) (hr : Room k X.A) (hk : 34 ≤ k) : CallR X (.builtin "divmod") rDivmod := by
  intro pins s σ H xs us Q I r h
  obtain ⟨i, j, rfl, h0, q⟩ := h
  obtain ⟨u, w', rfl, ⟨t, rfl⟩, ⟨t', rfl⟩⟩ := vals2 r
  have hd : X.A.depth + Builtin.pylongFrames < recursionLimit := by
    have z := hr.dp
    have e : Builtin.pylongFrames = 100 := rfl
    omega
  have sr : SeerAt (model X.prog X.w) X.A s.heap := SeerAt.of (hN.keeps I.bk) ht (I.ok.frames.trans (congrArg some hst)) hg hc I.ok.blt I.ok.glob
  refine divmod_int h0 ?_ (.inr (PylongRoom.of I.nolimit hd sr))
  have hn : H s.heap.objs.size = none := I.hok.fresh (Nat.le_refl _)
  refine ⟨.ref s.heap.objs.size, _, ?_, rfl, q _ hn⟩
  refine I.laid (fun b o e => Heap.get?_push_of_some _ e) (Nat.le_refl _) ⟨by simp only [List.length_cons, List.length_nil]; rw [sizeLine_eq]; decide, [.int (i.fdiv j) s.toks, .int (i.fmod j) (s.toks + 1)], .cons ⟨_, rfl⟩ (.cons ⟨_, rfl⟩ .nil), ?_⟩
  exact ⟨_, Heap.get?_push_size s.heap rfl, rfl, 0, rfl⟩
def wDivmod : RWC := fun ws M Q => match ws with
  | [.int i, .int j] => j ≠ 0 ∧ Q (.tup [.int (i.fdiv j), .int (i.fmod j)]) M
  | _ => False
theorem gl_divmod : GlC T X rDivmod wDivmod := by
  intro H M ws vs Q rh rp q
  unfold wDivmod at q
  split at q
  · rename_i i j
    obtain ⟨v, y, e, r1, r2⟩ := rp.two'
    obtain ⟨h0, q⟩ := q
    subst e
    refine ⟨i, j, by rw [r1.int, r2.int], h0, fun p hp => ?_⟩
    have n1 : TK H (upd H p (.tup [V.int (i.fdiv j), V.int (i.fmod j)])) := (NL.put (.inl hp)).tk
    exact upsI n1 (by unfold Rep; exact ⟨p, _, rfl, SqT.of upd_same, by unfold Reps; exact ⟨_, _, rfl, rep_int, Reps.one rep_int⟩⟩) (rh.new hp) q
  · exact q.elim
theorem mono_divmod : MonoC rDivmod := fun _ _ _ _ f ⟨i, j, h1, h2, q⟩ => ⟨i, j, h1, h2, fun p hp => f _ _ (q p hp)⟩
theorem w_divmodY {k : Nat} {l : List Env} (hN : X.base.NoSeer) (ht : X.prog.given.tree = none) (hst : X.stack = X.env :: l) (hgn : X.env.scope.isGenerator = false) (hco : X.env.scope.isCoroutine = false) (hr : Room k X.A) (hk : 34 ≤ k) (hg : Gl X "divmod") (hm : X.mg "divmod" = none) (ha : PAW T L X (e :: es) u) (he : starEach (e :: es) X.env = (false, eval e X.env) :: starEach es X.env := by rfl) (hpl : (backTo pos (starEach es X.env)).any (·.1) = false := by rfl) :
    PEW T L X (.Call (.Name "divmod" p) (e :: es) [] pos) (tCB wDivmod u) := w_callB (call_divmodY hN ht hst hgn hco hr hk) gl_divmod mono_divmod hg hm (by decide +kernel) ha (by decide) (by decide) he hpl
/-! ### a < b < c -/
def chB (x : W) (f : Bool → Prop) : Prop := match x with | .bl k => f k | _ => False
def tChainW (rw rw' : RW2) (ta tb tc : TEW) : TEW := fun τ M Q E => ta τ M (fun x M1 => tb τ M1 (fun y M2 => rw x y M2 (fun z M3 => chB z fun k => if k = true then tc τ M3 (fun w M4 => rw' y w M4 Q) E else Q (.bl false) M3)) E) E
theorem w_chain {op op' : CmpOp} {r r' : R2} {rw rw' : RW2} (ho : OpR X (compareOp op) r) (gl : Gl2 T X r rw) (mo : Mono2 r) (ho' : OpR X (compareOp op') r') (gl' : Gl2 T X r' rw') (mo' : Mono2 r') (ha : PEW T L X a ta) (hb : PEW T L X b tb) (hc : PEW T L X c tc)
    (hm : lastMarks [op, op'] [b, c] = false := by with_unfolding_all rfl) : PEW T L X (.Compare a [op, op'] [b, c] pos) (tChainW rw rw' ta tb tc) := by
  refine .up (pe_chain ho ho' ha.dn hb.dn hc.dn hm) fun σ H τ M Q ex r0 tk q => ?_
  refine dn1 r0 tk q fun x M1 v H1 k1 r1 tk rp1 q1 => ?_
  refine dn1 r1 tk q1 fun y M2 u H2 k2 r2 tk rp2 q2 => ?_
  refine mo v u H2 _ _ (fun z H3 hz => ?_) (gl H2 M2 x y v u _ r2.rh (rp1.tk k2) rp2 q2)
  obtain ⟨w, M3, k3, rp, rh, qq⟩ := hz
  unfold chB at qq
  split at qq
  · rename_i k
    refine ⟨k, rp.bl, ?_⟩
    cases k with
    | true =>
      rw [if_pos rfl] at qq ⊢
      refine dn1 (r2.to (r2.rs.tk k3) rh) (tk.on k3) qq fun w4 M4 v4 H4 k4 r4 tk4 rp4 q4 => ?_
      exact mo' u v4 H4 _ _ (fun z5 H5 hz5 => ups.trans (((k1.trans k2).trans k3).trans k4) hz5) (gl' H4 M4 y w4 u v4 Q r4.rh ((rp2.tk k3).tk k4) rp4 q4)
    | false =>
      rw [if_neg Bool.false_ne_true] at qq ⊢
      exact upsI ((k1.trans k2).trans k3) rep_bl rh qq
  · exact qq.elim
theorem q_chain {op op' : CmpOp} {r r' : R2} {rw rw' : RW2} (ho : OpR X (compareOp op) r) (gl : Gl2 T X r rw) (mo : Mono2 r) (ho' : OpR X (compareOp op') r') (gl' : Gl2 T X r' rw') (mo' : Mono2 r') (ha : PEW T L X a ta) (hb : PEW T L X b tb) (hc : PEW T L X c tc)
    (hm : lastMarks [op, op'] [b, c] = false := by with_unfolding_all rfl) : PTW T L X (.Compare a [op, op'] [b, c] pos) (qB (tChainW rw rw' ta tb tc)) := by
  refine .up (pt_chain ho ho' ha.dn hb.dn hc.dn hm) fun σ H τ M Q ex r0 tk q => ?_
  show L2.tChain r r' (dnE T L X ta) (dnE T L X tb) (dnE T L X tc) σ H _
  refine dn1 r0 tk q fun x M1 v H1 k1 r1 tk rp1 q1 => ?_
  refine dn1 r1 tk q1 fun y M2 u H2 k2 r2 tk rp2 q2 => ?_
  refine mo v u H2 _ _ (fun z H3 hz => ?_) (gl H2 M2 x y v u _ r2.rh (rp1.tk k2) rp2 q2)
  obtain ⟨w, M3, k3, rp, rh, qq⟩ := hz
  unfold chB at qq
  split at qq
  · rename_i k
    refine ⟨k, rp.bl, ?_⟩
    cases k with
    | true =>
      rw [if_pos rfl] at qq ⊢
      refine dn1 (r2.to (r2.rs.tk k3) rh) (tk.on k3) qq fun w4 M4 v4 H4 k4 r4 tk4 rp4 q4 => ?_
      refine mo' u v4 H4 _ _ (fun z5 H5 hz5 => ?_) (gl' H4 M4 y w4 u v4 _ r4.rh ((rp2.tk k3).tk k4) rp4 q4)
      obtain ⟨w5, M5, k5, rp5, rh5, q5⟩ := hz5
      split at q5
      · exact ⟨_, rp5.bl, M5, (((k1.trans k2).trans k3).trans k4).trans k5, rh5, q5⟩
      · exact q5.elim
    | false =>
      rw [if_neg Bool.false_ne_true] at qq ⊢
      exact ⟨false, rfl, M3, (k1.trans k2).trans k3, rh, qq⟩
  · exact qq.elim
theorem w_chLeLe (ha : PEW T L X a ta) (hb : PEW T L X b tb) (hc : PEW T L X c tc) (hm : lastMarks [.LtE, .LtE] [b, c] = false := by with_unfolding_all rfl) : PEW T L X (.Compare a [.LtE, .LtE] [b, c] pos) (tChainW (wI0 fun i j => .bl (decide (i ≤ j))) (wI0 fun i j => .bl (decide (i ≤ j))) ta tb tc) := w_chain op_le (gl_I0 fun _ _ _ _ => rep_bl) mono_I0 op_le (gl_I0 fun _ _ _ _ => rep_bl) mono_I0 ha hb hc hm
theorem w_chLeLt (ha : PEW T L X a ta) (hb : PEW T L X b tb) (hc : PEW T L X c tc) (hm : lastMarks [.LtE, .Lt] [b, c] = false := by with_unfolding_all rfl) : PEW T L X (.Compare a [.LtE, .Lt] [b, c] pos) (tChainW (wI0 fun i j => .bl (decide (i ≤ j))) (wI0 fun i j => .bl (decide (i < j))) ta tb tc) := w_chain op_le (gl_I0 fun _ _ _ _ => rep_bl) mono_I0 op_lt (gl_I0 fun _ _ _ _ => rep_bl) mono_I0 ha hb hc hm
theorem w_chLtLt (ha : PEW T L X a ta) (hb : PEW T L X b tb) (hc : PEW T L X c tc) (hm : lastMarks [.Lt, .Lt] [b, c] = false := by with_unfolding_all rfl) : PEW T L X (.Compare a [.Lt, .Lt] [b, c] pos) (tChainW (wI0 fun i j => .bl (decide (i < j))) (wI0 fun i j => .bl (decide (i < j))) ta tb tc) := w_chain op_lt (gl_I0 fun _ _ _ _ => rep_bl) mono_I0 op_lt (gl_I0 fun _ _ _ _ => rep_bl) mono_I0 ha hb hc hm
theorem w_chLtLe (ha : PEW T L X a ta) (hb : PEW T L X b tb) (hc : PEW T L X c tc) (hm : lastMarks [.Lt, .LtE] [b, c] = false := by with_unfolding_all rfl) : PEW T L X (.Compare a [.Lt, .LtE] [b, c] pos) (tChainW (wI0 fun i j => .bl (decide (i < j))) (wI0 fun i j => .bl (decide (i ≤ j))) ta tb tc) := w_chain op_lt (gl_I0 fun _ _ _ _ => rep_bl) mono_I0 op_le (gl_I0 fun _ _ _ _ => rep_bl) mono_I0 ha hb hc hm
theorem q_chLeLe (ha : PEW T L X a ta) (hb : PEW T L X b tb) (hc : PEW T L X c tc) (hm : lastMarks [.LtE, .LtE] [b, c] = false := by with_unfolding_all rfl) : PTW T L X (.Compare a [.LtE, .LtE] [b, c] pos) (qB (tChainW (wI0 fun i j => .bl (decide (i ≤ j))) (wI0 fun i j => .bl (decide (i ≤ j))) ta tb tc)) := q_chain op_le (gl_I0 fun _ _ _ _ => rep_bl) mono_I0 op_le (gl_I0 fun _ _ _ _ => rep_bl) mono_I0 ha hb hc hm
theorem q_chLeLt (ha : PEW T L X a ta) (hb : PEW T L X b tb) (hc : PEW T L X c tc) (hm : lastMarks [.LtE, .Lt] [b, c] = false := by with_unfolding_all rfl) : PTW T L X (.Compare a [.LtE, .Lt] [b, c] pos) (qB (tChainW (wI0 fun i j => .bl (decide (i ≤ j))) (wI0 fun i j => .bl (decide (i < j))) ta tb tc)) := q_chain op_le (gl_I0 fun _ _ _ _ => rep_bl) mono_I0 op_lt (gl_I0 fun _ _ _ _ => rep_bl) mono_I0 ha hb hc hm
theorem q_chLtLt (ha : PEW T L X a ta) (hb : PEW T L X b tb) (hc : PEW T L X c tc) (hm : lastMarks [.Lt, .Lt] [b, c] = false := by with_unfolding_all rfl) : PTW T L X (.Compare a [.Lt, .Lt] [b, c] pos) (qB (tChainW (wI0 fun i j => .bl (decide (i < j))) (wI0 fun i j => .bl (decide (i < j))) ta tb tc)) := q_chain op_lt (gl_I0 fun _ _ _ _ => rep_bl) mono_I0 op_lt (gl_I0 fun _ _ _ _ => rep_bl) mono_I0 ha hb hc hm
theorem q_chLtLe (ha : PEW T L X a ta) (hb : PEW T L X b tb) (hc : PEW T L X c tc) (hm : lastMarks [.Lt, .LtE] [b, c] = false := by with_unfolding_all rfl) : PTW T L X (.Compare a [.Lt, .LtE] [b, c] pos) (qB (tChainW (wI0 fun i j => .bl (decide (i < j))) (wI0 fun i j => .bl (decide (i ≤ j))) ta tb tc)) := q_chain op_lt (gl_I0 fun _ _ _ _ => rep_bl) mono_I0 op_le (gl_I0 fun _ _ _ _ => rep_bl) mono_I0 ha hb hc hm
/-- a, b, c = x, y, z of plain locals -/
def par3 (i j l : Nat) (τ : St') (ws : List W) (M : Mp) (K : St' → Mp → Prop) : Prop := match ws with | [x, y, z] => K (((τ.set i (some x)).set j (some y)).set l (some z)) M | _ => False
def sPar3 (i j l : Nat) (ta : TAW) : TSW := fun D τ M => ta τ M (fun ws M1 => par3 i j l τ ws M1 D.nx) (sEx D τ)
theorem Reps.three' {K : PySem.W.Frag} {H : Hp} {w x y : W} {vs : List V} (h : Reps K H [w, x, y] vs) : ∃ v u z, vs = [v, u, z] ∧ Rep K H w v ∧ Rep K H x u ∧ Rep K H y z := by
  obtain ⟨v, r, e, p, q⟩ := h.cons
  obtain ⟨u, z, e2, p2, p3⟩ := q.two'
  exact ⟨v, u, z, by rw [e, e2], p, p2, p3⟩
theorem s_par3 (i j l : Nat) {x y z : Str} {av : TAW} {px py pz pt : Pos} {kt k2 : Nat} {pt2 : Pos} (hc : X.calm = true) (hN : X.N.Nodup) (hi : X.N[i]? = some x) (hj : X.N[j]? = some y) (hl : X.N[l]? = some z) (hij : i ≠ j ∧ i ≠ l ∧ j ≠ l) (hx : X.env.scope.names.lookup x = some .local) (hy : X.env.scope.names.lookup y = some .local) (hz : X.env.scope.names.lookup z = some .local) (ha : PAW T L X [a, b, c] av)
    (hw : swappedStores [.Tuple [.Name x px, .Name y py, .Name z pz] kt pt] (.Tuple [a, b, c] k2 pt2) X.env = pure (some [x, y, z]))
    (hs : swapsWithSole [.Tuple [.Name x px, .Name y py, .Name z pz] kt pt] (.Tuple [a, b, c] k2 pt2) pos.line X.env = pure false := by rfl) : PSW T L X (.Assign [.Tuple [.Name x px, .Name y py, .Name z pz] kt pt] (.Tuple [a, b, c] k2 pt2) pos) (sPar3 i j l av) := by
  refine ⟨PS.imp' (ps_par3 hc hN hi hj hl hij.1 hij.2.1 hij.2.2 hx hy hz ha.dn hw hs) fun Dh σ H ⟨τ, M, D, r, tk, q, le⟩ => ?_⟩
  refine dn1A r tk q fun ws M1 vs H1 k1 r1 tk rp1 hn q1 => ?_
  unfold par3 at q1
  split at q1
  · obtain ⟨v1, v2, v3, e1, p1, p2, p3⟩ := rp1.three'
    exact ⟨v1, v2, v3, e1, le.nx _ H1 ⟨_, M1, k1, ((r1.rs.set i p1).set j p2).set l p3, r1.rh, q1⟩⟩
  · exact q1.elim
end
end Ev

/-! Ev, part L2: defs with defaults and keyword-only parameters. -/
namespace Ev
open PySem PySem.Spec PyProof.Rows L2
theorem reps_nil {K : PySem.W.Frag} {H : Hp} : Reps K H [] [] := by unfold Reps; rfl
theorem reps_cons {K : PySem.W.Frag} {H : Hp} {w : W} {v : V} {ws : List W} {vs : List V} (h : Rep K H w v) (g : Reps K H ws vs) : Reps K H (w :: ws) (v :: vs) := by
  unfold Reps
  exact ⟨v, vs, rfl, h, g⟩
theorem Reps.take {K : PySem.W.Frag} {H : Hp} : ∀ {ws : List W} {vs : List V} (n : Nat), Reps K H ws vs → Reps K H (ws.take n) (vs.take n)
  | [], _, n, h => by unfold Reps at h; subst h; simp only [List.take_nil]; unfold Reps; rfl
  | w :: ws, _, 0, h => by simp only [List.take_zero]; unfold Reps; rfl
  | w :: ws, _, n + 1, h => by
    unfold Reps at h
    obtain ⟨v, r, e, q, rr⟩ := h
    subst e
    simp only [List.take_succ_cons]
    unfold Reps
    exact ⟨v, _, rfl, q, Reps.take n rr⟩
theorem Reps.drop {K : PySem.W.Frag} {H : Hp} : ∀ {ws : List W} {vs : List V} (n : Nat), Reps K H ws vs → Reps K H (ws.drop n) (vs.drop n)
  | [], _, n, h => by unfold Reps at h; subst h; simp only [List.drop_nil]; unfold Reps; rfl
  | w :: ws, _, 0, h => by simp only [List.drop_zero]; exact h
  | w :: ws, _, n + 1, h => by
    unfold Reps at h
    obtain ⟨v, r, e, q, rr⟩ := h
    subst e
    simp only [List.drop_succ_cons]
    exact Reps.drop n rr
section
variable {T : Tb} {P : Program} {w : World} {K : PySem.W.Frag} {mg : Str → Option Value} {base : Heap}
theorem fnW_ofD {x qual : Str} {st : Stmt} {f : Addr} {fd : FuncData} {N ps : List Str} {k : Nat} {t : Lm → TSW} {dvs : List V} {kws : List (Str × V)} (F : FunD K x qual (defArgs st) (defBody st) (defScope st) dvs kws f fd) (S : FnScope N ps (defScope st))
    (hbody : ∀ (L : Lm) (cdv : Value) (A : Around) (outer : List Env) (s : Shared) (H : Hp) (E : XK), Room k (A.deeper (envOfC qual (defScope st) s.heap.objs.size f cdv)) → PSsW T L (cxOf (L2N.CX P w) P w K mg base N qual (defScope st) f cdv A outer s H E) (defBody st) (t L)) :
    FnW P w K mg base T (k + 1) f fd ps (spOf N.length t) := by
  obtain ⟨oc, od, dV, kV, doc, pm, an, cdv, ct, osl, rfl, lk, hcd, _, _⟩ := F.ex
  refine ⟨fun A outer s H args us vs ws L M Q E hr e0 hb rv rp rh lv hl q => ?_⟩
  refine LamX.run_ofS lk hcd S hr e0 hb rv (by rw [rp.len]; exact hl) fun hr' => ⟨_, (hbody L cdv A outer s H (CRe K T E) hr').dn, ?_⟩
  have hst : RelS K H (stW N.length ws) (L2.start N vs) := by
    unfold stW L2.start
    rw [rp.len]
    exact RelS.start rp
  refine ⟨_, M, { rt := Q, nx := fun _ M' => Q .non M', ex := fun C p _ M' => E C p M' }, ⟨hst, rh, lv, .inl rfl⟩, ?_, q, ⟨fun σ' H' ⟨τ', M', k1, rs, rh', z⟩ => ⟨.non, M', rep_non, rh', z⟩, fun v H' ⟨w', M', k1, rp', rh', z⟩ => ⟨w', M', rp', rh', z⟩, fun _ _ ⟨_, _, _, _, _, z⟩ => z, fun _ _ ⟨_, _, _, _, _, z⟩ => z⟩⟩
  refine (L2N.takes_of rfl rfl rfl rfl).imp fun cls d σ' H' ⟨_, C, p, τ', M', e, pl, rs, rh', z⟩ => ?_
  exact ⟨C, p, M', e, pl, rh', z⟩
end
/-- a def called by n values, the rest by defaults -/
structure DefPW (P : Program) (w : World) (K : PySem.W.Frag) (mg : Str → Option Value) (base : Heap) (T : Tb) (x : Str) (k n : Nat) (dws : List W) (sp : SpW) : Prop where
  ex : ∃ (f : Addr) (fd : FuncData) (ps : List Str) (ds : List Value) (dvs : List V), mg x = some (.ref f) ∧ PySem.W.keepIn K (.ref f) = true ∧ Binds K fd ps ds ∧ Vals dvs ds ∧ (∀ H, Reps K H dws dvs) ∧ FnW P w K mg base T k f fd ps sp ∧ n + dws.length = ps.length
/-- a def called by n values and the keywords ks; gW puts both in the parameters' order -/
structure DefKW (P : Program) (w : World) (K : PySem.W.Frag) (mg : Str → Option Value) (base : Heap) (T : Tb) (x : Str) (k n : Nat) (ks : List Str) (gW : List W → List W → List W) (sp : SpW) : Prop where
  ex : ∃ (f : Addr) (fd : FuncData) (ps : List Str) (g : List Value → List Value → List Value) (gV : List V → List V → List V), mg x = some (.ref f) ∧ PySem.W.keepIn K (.ref f) = true ∧ KBn K fd ps n ks g gV ∧ FnW P w K mg base T k f fd ps sp ∧
    (∀ H ws vs zs us, Reps K H ws vs → Reps K H zs us → Reps K H (gW ws zs) (gV vs us)) ∧ (∀ ws zs, ws.length = n → zs.length = ks.length → (gW ws zs).length = ps.length)
section
variable {T : Tb} {L : Lm} {X : Cx} {e : Expr} {es : List Expr} {u uk : TAW} {pos p : Pos}
theorem w_callD {x : Str} {k n : Nat} {dws : List W} {sp : SpW} (D : DefPW X.prog X.w X.K X.mg X.base T x k n dws sp) (hr : Room k X.A) (hg : Gl X x) (ha : PAW T L X (e :: es) u) (hn : (e :: es).length = n := by rfl) (hdb : (x == ("__debug__" : Str)) = false := by decide)
    (he : starEach (e :: es) X.env = (false, eval e X.env) :: starEach es X.env := by rfl) (hpl : (backTo pos (starEach es X.env)).any (·.1) = false := by rfl) : PEW T L X (.Call (.Name x p) (e :: es) [] pos) (tFn sp L dws u) := by
  obtain ⟨f, fd, ps, ds, dvs, hm, hk, hb, hd, hdw, F, hpn⟩ := D.ex
  refine ⟨fun pins s σ H τ M Q ex I r tk q => ?_⟩
  refine wpAny_Call_Name_kw (ld_glob I hg hm ?_ hdb)
  refine PySem.W.callWith_K (h₀ := X.base) I.ok.mod.kin hk (thn (ha.run pos pins s σ H τ M _ ex I r tk q) fun us s1 ⟨vs, H1, I1, rv, ws, M1, k1, rp, rh, hl, q1⟩ => ⟨I1.kIn, ?_⟩) he hpl
  refine thn (run_W (dvs := dvs) (ds := ds) (dws := dws) F hr hb hd (hdw H1) I1 (r.nx k1 rh) (tk.on k1) rv rp ?_ q1) fun v s2 ⟨z, H2, I2, rz, hz⟩ => ⟨z, H2, I2, rz, ups.trans k1 hz⟩
  rw [List.length_append, hl, hn, hpn]
/-! keywords -/
structure PKW (T : Tb) (L : Lm) (X : Cx) (kws : List Keyword) (t : TAW) : Prop where
  dn : PK X kws (dnA T L X kws.length t)
theorem PK.imp {kws : List Keyword} {t t' : TA} (h : PK X kws t) (g : ∀ σ H Q, t' σ H Q → t σ H Q) : PK X kws t' := ⟨fun pos pins s σ H Q I q => h.run pos pins s σ H Q I (g σ H Q q)⟩
theorem k_nil : PKW T L X [] aNil := ⟨PK.imp pk_nil fun σ H Q ⟨τ, M, Qw, ex, r, tk, q, f⟩ => f [] H ⟨[], M, TK.refl H, by unfold Reps; rfl, r.rh, rfl, q⟩⟩
theorem k_cons {nm : Option Str} {kpos : Pos} {kws : List Keyword} {te : TEW} {t : TAW} (h : PEW T L X e te) (g : PKW T L X kws t) : PKW T L X (⟨nm, e, kpos⟩ :: kws) (aCons te t) := by
  refine ⟨PK.imp (pk_cons h.dn g.dn) fun σ H Q ⟨τ, M, Qw, ex, r, tk, q, f⟩ => ?_⟩
  refine dn1 r tk q fun w M1 v H1 k1 r1 tk rp1 q1 => ?_
  refine dn1A r1 tk q1 fun ws M2 vs H2 k2 r2 tk rp2 hl q2 => ?_
  exact f _ _ ⟨w :: ws, M2, k1.trans k2, by unfold Reps; exact ⟨v, vs, rfl, rp1.tk k2, rp2⟩, r2.rh, by rw [List.length_cons, hl]; rfl, q2⟩
def tFnK (sp : SpW) (L : Lm) (gW : List W → List W → List W) (u uk : TAW) : TEW := fun τ M Q E => u τ M (fun ws M1 => uk τ M1 (fun zs M2 => sp L (gW ws zs) M2 Q E) E) E
theorem run_WK {k n : Nat} {f : Addr} {fd : FuncData} {ps ks : List Str} {sp : SpW} {g : List Value → List Value → List Value} {gV : List V → List V → List V} {pins : List (Addr × Obj)} {σ : L2.St} {H : Hp} {s : Shared} {τ : St'} {M : Mp} {Q : QK} {ex : EX} {us zs : List Value} {vs vz : List V} {ws' : List W}
    (F : FnW X.prog X.w X.K X.mg X.base T k f fd ps sp) (hr : Room k X.A) (hb : KBn X.K fd ps n ks g gV) (I : Inv X pins σ H s) (r : SR T L X H τ σ M) (tk : TakesS T X H ex) (rv : Vals vs us) (rz : Vals vz zs) (l1 : us.length = n) (l2 : zs.length = ks.length) (rp : Reps X.K H ws' (gV vs vz)) (hl : ws'.length = ps.length)
    (q : sp L ws' M Q (fun C p M' => ex C p τ M')) : wpAny (model X.prog X.w) X.A (call (.ref f) us (ks.zip zs)) (EP X pins σ (ups T X H Q)) X.xe s := by
  refine wpAny_call (codeAny_mono (F.run X.A X.stack s H ⟨us, ks.zip zs⟩ (g us zs) (gV vs vz) ws' L M Q _ hr I.env0 (hb.to s us zs I.kIn l1 l2) (hb.rel rv rz) rp r.rh (live_on I r) hl q) fun rr s' hq => ?_)
  cases rr with
  | error ev => exact takes_callW tk I r.rs hq
  | ok fl =>
    cases fl with
    | ret x =>
      have hq : CE X.stack X.prog X.w H s (CRv X.K T Q) x s' := hq
      have hq2 : CE X.stack X.prog X.w H s (ups T X H Q) x s' := by
        obtain ⟨v, H', os, bare, un, hok, rl, w, M', h1, h2, h3⟩ := hq
        exact ⟨v, H', os, bare, un, hok, rl, w, M', TK.of_un un, h1, h2, h3⟩
      exact I.after hq2
    | next => exact False.elim hq
    | brk => exact False.elim hq
    | cont => exact False.elim hq
theorem w_callK {x : Str} {k n : Nat} {ks : List Str} {gW : List W → List W → List W} {sp : SpW} {kws : List Keyword} (D : DefKW X.prog X.w X.K X.mg X.base T x k n ks gW sp) (hr : Room k X.A) (hg : Gl X x) (ha : PAW T L X (e :: es) u) (hkw : PKW T L X kws uk) (hn : (e :: es).length = n := by rfl) (hkn : kws.length = ks.length := by rfl)
    (hall : (backToKw pos (keywordEach kws X.env)).all (·.1.isSome) = true := by rfl) (hks : (backToKw pos (keywordEach kws X.env)).filterMap (·.1) = ks := by rfl)
    (hdb : (x == ("__debug__" : Str)) = false := by decide) (he : starEach (e :: es) X.env = (false, eval e X.env) :: starEach es X.env := by rfl)
    (hpl : ((backTo pos (starEach (e :: es) X.env)).any (·.1) || (backToKw pos (keywordEach kws X.env)).any (·.1.isNone)) = false := by rfl) : PEW T L X (.Call (.Name x p) (e :: es) kws pos) (tFnK sp L gW u uk) := by
  obtain ⟨f, fd, ps, g, gV, hm, hk, hb, F, hgr, hgl⟩ := D.ex
  refine ⟨fun pins s σ H τ M Q ex I r tk q => ?_⟩
  refine wpAny_Call_Name_kw (ld_glob I hg hm ?_ hdb)
  refine PySem.W.callWith_KW (h₀ := X.base) I.ok.mod.kin hk hall (thn (ha.run pos pins s σ H τ M _ ex I r tk q) fun us s1 ⟨vs, H1, I1, rv, ws, M1, k1, rp, rh, hl, q1⟩ => ?_) hpl he
  have r1 := r.nx k1 rh
  have t1 := tk.on k1
  refine thn (hkw.dn.run pos pins s1 σ H1 _ I1 ⟨τ, M1, _, ex, r1, t1, q1, fun _ _ z => z⟩) fun zs s2 ⟨vz, H2, I2, rz, wz, M2, k2, rpz, rh2, hlz, q2⟩ => ⟨I2.kIn, ?_⟩
  rw [hks]
  have l1 : us.length = n := by rw [← rv.length, rp.len, hl, hn]
  have l2 : zs.length = ks.length := by rw [← rz.length, rpz.len, hlz, hkn]
  refine thn (run_WK F hr hb I2 (r1.nx k2 rh2) (t1.on k2) rv rz l1 l2 (hgr _ _ _ _ _ (rp.tk k2) rpz) (hgl _ _ (by rw [hl, hn]) (by rw [hlz, hkn])) q2) fun v s3 ⟨z, H3, I3, rz3, hz⟩ => ⟨z, H3, I3, rz3, ups.trans (k1.trans k2) hz⟩
end
section
variable {K : PySem.W.Frag} {x qual : Str} {st : Stmt} {f : Addr} {oc dV kV doc pm cdv ct : Value} {od an : Option Addr} {osl : Array (Option Value)} {dvs : List V} {kws : List (Str × V)}
theorem funD_mk (l : K.lookup f = some ⟨oc, od, .func (PySem.W.fnOf x qual (defArgs st) (defBody st) (defScope st) dV kV doc pm an cdv ct), osl⟩) (c : PySem.W.codeIn K cdv qual = true) (k : PySem.W.keepIn K (.ref f) = true) (hd : DflV K dV dvs) (hk : KwdV K kV kws) :
    FunD K x qual (defArgs st) (defBody st) (defScope st) dvs kws f (PySem.W.fnOf x qual (defArgs st) (defBody st) (defScope st) dV kV doc pm an cdv ct) := ⟨⟨oc, od, dV, kV, doc, pm, an, cdv, ct, osl, rfl, l, c, hd, hk⟩, k⟩
theorem dflV_mk {T : Addr} {cl : Value} {od' : Option Addr} {its : List Value} {n : Nat} {sl : Array (Option Value)} (h : dvs ≠ []) (l : K.lookup T = some ⟨cl, od', .seq its.toArray n, sl⟩) (r : Vals dvs its) : DflV K (.ref T) dvs := .inr ⟨h, T, _, its, n, rfl, l, rfl, r⟩
end
/-! ### a <= b <= c <= d -/
section
variable {T : Tb} {L : Lm} {X : Cx} {a b c d : Expr} {ta tb tc td : TE} {pos : Pos}
def hChain3 (r r' r'' : R2) (ta tb tc td : TE) : TE := fun σ H Q => ta σ H fun x H1 => tb σ H1 fun y H2 => r x y H2 fun z H3 => ∃ k, z = .bl k ∧
  (if k = true then tc σ H3 fun w' H4 => r' y w' H4 fun z2 H5 => ∃ k2, z2 = .bl k2 ∧ (if k2 = true then td σ H5 fun w2 H6 => r'' w' w2 H6 Q else Q (.bl false) H5) else Q (.bl false) H3)
theorem pe_chain3 {op op' op'' : CmpOp} {r r' r'' : R2} (ho : OpR X (compareOp op) r) (ho' : OpR X (compareOp op') r') (ho'' : OpR X (compareOp op'') r'') (ha : PE X a ta) (hb : PE X b tb) (hc : PE X c tc) (hd : PE X d td)
    (hm : lastMarks [op, op', op''] [b, c, d] = false := by with_unfolding_all rfl) : PE X (.Compare a [op, op', op''] [b, c, d] pos) (hChain3 r r' r'' ta tb tc td) := by
  refine ⟨fun pins s σ H Q I h => ?_⟩
  refine Compare_chain (thn (ha.run pins s σ H _ I h) fun v s1 ⟨x, H1, I1, r1, q1⟩ => chain_link (thn (hb.run pins s1 σ H1 _ I1 q1) fun u s2 ⟨y, H2, I2, r2, q2⟩ =>
    thn (ho pins s2 σ H2 x y v u _ I2 r1 r2 q2) fun d' s3 ⟨z, H3, I3, r3, k, e, q3⟩ => ?_)) hm
  subst e
  cases r3
  refine wpAny_truthy_bool ?_
  cases k with
  | false => exact ite_ff ⟨.bl false, H3, I3, rfl, q3⟩
  | true =>
    refine ite_tt (chain_link (thn (hc.run pins s3 σ H3 _ I3 q3) fun w' s4 ⟨z', H4, I4, r4, q4⟩ => thn (ho' pins s4 σ H4 y z' u w' _ I4 r2 r4 q4) fun d2 s5 ⟨z5, H5, I5, r5, k2, e2, q5⟩ => ?_))
    subst e2
    cases r5
    refine wpAny_truthy_bool ?_
    cases k2 with
    | false => exact ite_ff ⟨.bl false, H5, I5, rfl, q5⟩
    | true => exact ite_tt (chain_last (thn (hd.run pins s5 σ H5 _ I5 q5) fun w2 s6 ⟨z6, H6, I6, r6, q6⟩ => ho'' pins s6 σ H6 z' z6 w' w2 Q I6 r4 r6 q6))
theorem pt_chain3 {op op' op'' : CmpOp} {r r' r'' : R2} (ho : OpR X (compareOp op) r) (ho' : OpR X (compareOp op') r') (ho'' : OpR X (compareOp op'') r'') (ha : PE X a ta) (hb : PE X b tb) (hc : PE X c tc) (hd : PE X d td)
    (hm : lastMarks [op, op', op''] [b, c, d] = false := by with_unfolding_all rfl) : PT X (.Compare a [op, op', op''] [b, c, d] pos) (tTest (hChain3 r r' r'' ta tb tc td)) := by
  refine ⟨fun pins s σ H Q I h => ?_⟩
  refine isTrue_chain (thn (ha.run pins s σ H _ I h) fun v s1 ⟨x, H1, I1, r1, q1⟩ => test_link (thn (hb.run pins s1 σ H1 _ I1 q1) fun u s2 ⟨y, H2, I2, r2, q2⟩ =>
    thn (ho pins s2 σ H2 x y v u _ I2 r1 r2 q2) fun d' s3 ⟨z, H3, I3, r3, k, e, q3⟩ => ?_)) hm
  subst e
  cases r3
  refine wpAny_truthy_bool ?_
  cases k with
  | false =>
    obtain ⟨k', e', q'⟩ := q3
    cases e'
    exact ite_ff ⟨H3, I3, q'⟩
  | true =>
    refine ite_tt (test_link (thn (hc.run pins s3 σ H3 _ I3 q3) fun w' s4 ⟨z', H4, I4, r4, q4⟩ => thn (ho' pins s4 σ H4 y z' u w' _ I4 r2 r4 q4) fun d2 s5 ⟨z5, H5, I5, r5, k2, e2, q5⟩ => ?_))
    subst e2
    cases r5
    refine wpAny_truthy_bool ?_
    cases k2 with
    | false =>
      obtain ⟨k', e', q'⟩ := q5
      cases e'
      exact ite_ff ⟨H5, I5, q'⟩
    | true =>
      refine ite_tt (test_last (thn (hd.run pins s5 σ H5 _ I5 q5) fun w2 s6 ⟨z6, H6, I6, r6, q6⟩ => thn (ho'' pins s6 σ H6 z' z6 w' w2 _ I6 r4 r6 q6) fun d3 s7 ⟨z7, H7, I7, r7, k3, e3, q7⟩ => ?_))
      subst e3
      cases r7
      exact wpAny_truthy_bool ⟨H7, I7, q7⟩
end
section
variable {T : Tb} {L : Lm} {X : Cx} {a b c d : Expr} {ta tb tc td : TEW} {pos : Pos}
def tChain3W (rw rw' rw'' : RW2) (ta tb tc td : TEW) : TEW := fun τ M Q E => ta τ M (fun x M1 => tb τ M1 (fun y M2 => rw x y M2 (fun z M3 => chB z fun k => if k = true then tc τ M3 (fun w M4 => rw' y w M4 (fun z2 M5 => chB z2 fun k2 => if k2 = true then td τ M5 (fun v M6 => rw'' w v M6 Q) E else Q (.bl false) M5)) E else Q (.bl false) M3)) E) E
abbrev wLe : RW2 := wI0 fun i j => .bl (decide (i ≤ j))
theorem w_chLeLeLe (ha : PEW T L X a ta) (hb : PEW T L X b tb) (hc : PEW T L X c tc) (hd : PEW T L X d td)
    (hm : lastMarks [.LtE, .LtE, .LtE] [b, c, d] = false := by with_unfolding_all rfl) : PEW T L X (.Compare a [.LtE, .LtE, .LtE] [b, c, d] pos) (tChain3W wLe wLe wLe ta tb tc td) := by
  have gl : Gl2 T X (rI0 fun i j => V.bl (decide (i ≤ j))) wLe := gl_I0 fun _ _ _ _ => rep_bl
  have mo : Mono2 (rI0 fun i j => V.bl (decide (i ≤ j))) := mono_I0
  refine .up (pe_chain3 op_le op_le op_le ha.dn hb.dn hc.dn hd.dn hm) fun σ H τ M Q ex r0 tk q => ?_
  refine dn1 r0 tk q fun x M1 v H1 k1 r1 tk rp1 q1 => ?_
  refine dn1 r1 tk q1 fun y M2 u H2 k2 r2 tk rp2 q2 => ?_
  refine mo v u H2 _ _ (fun z H3 hz => ?_) (gl H2 M2 x y v u _ r2.rh (rp1.tk k2) rp2 q2)
  obtain ⟨w, M3, k3, rp, rh, qq⟩ := hz
  unfold chB at qq
  split at qq
  · rename_i k
    refine ⟨k, rp.bl, ?_⟩
    cases k with
    | true =>
      rw [if_pos rfl] at qq ⊢
      refine dn1 (r2.to (r2.rs.tk k3) rh) (tk.on k3) qq fun w4 M4 v4 H4 k4 r4 tk4 rp4 q4 => ?_
      refine mo u v4 H4 _ _ (fun z5 H5 hz5 => ?_) (gl H4 M4 y w4 u v4 _ r4.rh ((rp2.tk k3).tk k4) rp4 q4)
      obtain ⟨w5, M5, k5, rp5, rh5, q5⟩ := hz5
      split at q5
      · rename_i kk
        refine ⟨kk, rp5.bl, ?_⟩
        cases kk with
        | true =>
          rw [if_pos rfl] at q5 ⊢
          refine dn1 (r4.to (r4.rs.tk k5) rh5) (tk4.on k5) q5 fun w6 M6 v6 H6 k6 r6 tk6 rp6 q6 => ?_
          exact mo v4 v6 H6 _ _ (fun z7 H7 hz7 => ups.trans (((((k1.trans k2).trans k3).trans k4).trans k5).trans k6) hz7) (gl H6 M6 w4 w6 v4 v6 Q r6.rh ((rp4.tk k5).tk k6) rp6 q6)
        | false =>
          rw [if_neg Bool.false_ne_true] at q5 ⊢
          exact upsI ((((k1.trans k2).trans k3).trans k4).trans k5) rep_bl rh5 q5
      · exact q5.elim
    | false =>
      rw [if_neg Bool.false_ne_true] at qq ⊢
      exact upsI ((k1.trans k2).trans k3) rep_bl rh qq
  · exact qq.elim
theorem q_chLeLeLe (ha : PEW T L X a ta) (hb : PEW T L X b tb) (hc : PEW T L X c tc) (hd : PEW T L X d td)
    (hm : lastMarks [.LtE, .LtE, .LtE] [b, c, d] = false := by with_unfolding_all rfl) : PTW T L X (.Compare a [.LtE, .LtE, .LtE] [b, c, d] pos) (qB (tChain3W wLe wLe wLe ta tb tc td)) := by
  have gl : Gl2 T X (rI0 fun i j => V.bl (decide (i ≤ j))) wLe := gl_I0 fun _ _ _ _ => rep_bl
  have mo : Mono2 (rI0 fun i j => V.bl (decide (i ≤ j))) := mono_I0
  refine .up (pt_chain3 op_le op_le op_le ha.dn hb.dn hc.dn hd.dn hm) fun σ H τ M Q ex r0 tk q => ?_
  show hChain3 _ _ _ (dnE T L X ta) (dnE T L X tb) (dnE T L X tc) (dnE T L X td) σ H _
  refine dn1 r0 tk q fun x M1 v H1 k1 r1 tk rp1 q1 => ?_
  refine dn1 r1 tk q1 fun y M2 u H2 k2 r2 tk rp2 q2 => ?_
  refine mo v u H2 _ _ (fun z H3 hz => ?_) (gl H2 M2 x y v u _ r2.rh (rp1.tk k2) rp2 q2)
  obtain ⟨w, M3, k3, rp, rh, qq⟩ := hz
  unfold chB at qq
  split at qq
  · rename_i k
    refine ⟨k, rp.bl, ?_⟩
    cases k with
    | true =>
      rw [if_pos rfl] at qq ⊢
      refine dn1 (r2.to (r2.rs.tk k3) rh) (tk.on k3) qq fun w4 M4 v4 H4 k4 r4 tk4 rp4 q4 => ?_
      refine mo u v4 H4 _ _ (fun z5 H5 hz5 => ?_) (gl H4 M4 y w4 u v4 _ r4.rh ((rp2.tk k3).tk k4) rp4 q4)
      obtain ⟨w5, M5, k5, rp5, rh5, q5⟩ := hz5
      split at q5
      · rename_i kk
        refine ⟨kk, rp5.bl, ?_⟩
        cases kk with
        | true =>
          rw [if_pos rfl] at q5 ⊢
          refine dn1 (r4.to (r4.rs.tk k5) rh5) (tk4.on k5) q5 fun w6 M6 v6 H6 k6 r6 tk6 rp6 q6 => ?_
          refine mo v4 v6 H6 _ _ (fun z7 H7 hz7 => ?_) (gl H6 M6 w4 w6 v4 v6 _ r6.rh ((rp4.tk k5).tk k6) rp6 q6)
          obtain ⟨w7, M7, k7, rp7, rh7, q7⟩ := hz7
          split at q7
          · exact ⟨_, rp7.bl, M7, (((((k1.trans k2).trans k3).trans k4).trans k5).trans k6).trans k7, rh7, q7⟩
          · exact q7.elim
        | false =>
          rw [if_neg Bool.false_ne_true] at q5 ⊢
          exact ⟨false, rfl, M5, (((k1.trans k2).trans k3).trans k4).trans k5, rh5, q5⟩
      · exact q5.elim
    | false =>
      rw [if_neg Bool.false_ne_true] at qq ⊢
      exact ⟨false, rfl, M3, (k1.trans k2).trans k3, rh, qq⟩
  · exact qq.elim
end
end Ev

/-! Ev, part L3: == and != of tuples. -/
namespace Ev
open PySem PySem.Spec PyProof.Rows L2
mutual
def toD : W → Option PyData
  | .non => some .none
  | .bl b => some (.bool b)
  | .int i => some (.int i)
  | .str x => some (.str x)
  | .tup l => (toDs l).map .tuple
  | _ => none
def toDs : List W → Option (List PyData)
  | [] => some []
  | w :: r => (toD w).bind fun d => (toDs r).map fun l => d :: l
end
section
variable {K : PySem.W.Frag} {H : Hp}
mutual
theorem toD_rep : ∀ (w : W) (v : V) (d : PyData), Rep K H w v → toD w = some d → Dp K H v d
  | .non, v, d, r, e => by unfold toD at e; cases e; rw [r.non]; exact .non
  | .bl b, v, d, r, e => by unfold toD at e; cases e; rw [r.bl]; exact .bl b
  | .int i, v, d, r, e => by unfold toD at e; cases e; rw [r.int]; exact .int i
  | .str x, v, d, r, e => by unfold toD at e; cases e; rw [r.str]; exact .str x
  | .tup l, v, d, r, e => by
    unfold toD at e
    cases h : toDs l with
    | none => rw [h] at e; cases e
    | some ds =>
      rw [h] at e
      cases e
      obtain ⟨a, vs, rfl, s, rp⟩ := r.tup
      exact .tup s (toDs_rep l vs ds rp h)
  | .rol l, v, d, r, e => by unfold toD at e; cases e
  | .ref a, v, d, r, e => by unfold toD at e; cases e
  | .ty n, v, d, r, e => by unfold toD at e; cases e
theorem toDs_rep : ∀ (l : List W) (vs : List V) (ds : List PyData), Reps K H l vs → toDs l = some ds → DpAll K H vs ds
  | [], vs, ds, r, e => by unfold toDs at e; cases e; rw [r.nil]; exact .nil
  | w :: l, vs, ds, r, e => by
    unfold toDs at e
    cases h : toD w with
    | none => rw [h] at e; cases e
    | some d =>
      rw [h] at e
      cases h2 : toDs l with
      | none => rw [h2] at e; cases e
      | some es =>
        rw [h2] at e
        cases e
        obtain ⟨v, r', rfl, r1, r2⟩ := r.cons
        exact .cons (toD_rep w v d r1 h) (toDs_rep l r' es r2 h2)
end
end
/-- == of flat values or of tuples of them -/
def wEqA : RW2 := fun x y M Q => (match eqS x y with | some b => Q (.bl b) M | none => ∃ d e, toD x = some d ∧ toD y = some e ∧ SeqAt.shaped d = true ∧ SeqAt.shaped e = true ∧ Q (.bl (PyData.eqv d e)) M)
def wNeA : RW2 := fun x y M Q => (match eqS x y with | some b => Q (.bl (!b)) M | none => ∃ d e, toD x = some d ∧ toD y = some e ∧ SeqAt.shaped d = true ∧ SeqAt.shaped e = true ∧ Q (.bl (!PyData.eqv d e)) M)
section
variable {T : Tb} {L : Lm} {X : Cx} {a b : Expr} {ta tb : TEW} {pos : Pos}
abbrev rEqA (K : PySem.W.Frag) : R2 := fun x y H Q => rEq x y H Q ∨ rEqD K x y H Q
abbrev rNeA (K : PySem.W.Frag) : R2 := fun x y H Q => rNe x y H Q ∨ rNeD K x y H Q
theorem mono_eqD {K : PySem.W.Frag} : Mono2 (rEqD K) := fun _ _ _ _ _ f ⟨d, e, h1, h2, h3, h4, q⟩ => ⟨d, e, h1, h2, h3, h4, f _ _ q⟩
theorem mono_neD {K : PySem.W.Frag} : Mono2 (rNeD K) := fun _ _ _ _ _ f ⟨d, e, h1, h2, h3, h4, q⟩ => ⟨d, e, h1, h2, h3, h4, f _ _ q⟩
theorem gl_eqA : Gl2 T X (rEqA X.K) wEqA := by
  intro H M x y v u Q rh rx ry q
  unfold wEqA at q
  split at q
  · rename_i k hk
    obtain ⟨h1, h2⟩ := eqS_scal rx ry hk
    exact .inl ⟨h1, by rw [h2]; exact upsI (TK.refl H) rep_bl rh q⟩
  · obtain ⟨d, e, h1, h2, h3, h4, q⟩ := q
    exact .inr ⟨d, e, toD_rep _ _ _ rx h1, toD_rep _ _ _ ry h2, h3, h4, upsI (TK.refl H) rep_bl rh q⟩
theorem gl_neA : Gl2 T X (rNeA X.K) wNeA := by
  intro H M x y v u Q rh rx ry q
  unfold wNeA at q
  split at q
  · rename_i k hk
    obtain ⟨h1, h2⟩ := eqS_scal rx ry hk
    exact .inl ⟨h1, by rw [h2]; exact upsI (TK.refl H) rep_bl rh q⟩
  · obtain ⟨d, e, h1, h2, h3, h4, q⟩ := q
    exact .inr ⟨d, e, toD_rep _ _ _ rx h1, toD_rep _ _ _ ry h2, h3, h4, upsI (TK.refl H) rep_bl rh q⟩
theorem hu64 {k : Nat} {A : Around} (hr : Room k A) : A.units + 64 < cLine := by have := hr.un; omega
theorem w_eqA {k : Nat} (hr : Room k X.A) (ha : PEW T L X a ta) (hb : PEW T L X b tb) : PEW T L X (.Compare a [.Eq] [b] pos) (tOp wEqA ta tb) := w_cmp (OpR.or op_eq (op_eqD (hu64 hr))) gl_eqA (mono_or mono_eq mono_eqD) ha hb (nomark _)
theorem w_neA {k : Nat} (hr : Room k X.A) (ha : PEW T L X a ta) (hb : PEW T L X b tb) : PEW T L X (.Compare a [.NotEq] [b] pos) (tOp wNeA ta tb) := w_cmp (OpR.or op_ne (op_neD (hu64 hr))) gl_neA (mono_or mono_ne mono_neD) ha hb (nomark _)
theorem q_eqA {k : Nat} (hr : Room k X.A) (ha : PEW T L X a ta) (hb : PEW T L X b tb) : PTW T L X (.Compare a [.Eq] [b] pos) (qB (tOp wEqA ta tb)) := q_cmp (OpR.or op_eq (op_eqD (hu64 hr))) gl_eqA (mono_or mono_eq mono_eqD) ha hb (nomark _)
theorem q_neA {k : Nat} (hr : Room k X.A) (ha : PEW T L X a ta) (hb : PEW T L X b tb) : PTW T L X (.Compare a [.NotEq] [b] pos) (qB (tOp wNeA ta tb)) := q_cmp (OpR.or op_ne (op_neD (hu64 hr))) gl_neA (mono_or mono_ne mono_neD) ha hb (nomark _)
end
section
variable {M : Mp} {Q : QK} {i j : Int} {x y : Str} {p q : Bool}
theorem wEqA_i (h : Q (.bl (decide (i = j))) M) : wEqA (.int i) (.int j) M Q := h
theorem wEqA_s (h : Q (.bl (decide (x = y))) M) : wEqA (.str x) (.str y) M Q := h
theorem wEqA_b (h : Q (.bl (decide (p = q))) M) : wEqA (.bl p) (.bl q) M Q := h
theorem wNeA_i (h : Q (.bl (!decide (i = j))) M) : wNeA (.int i) (.int j) M Q := h
theorem wNeA_s (h : Q (.bl (!decide (x = y))) M) : wNeA (.str x) (.str y) M Q := h
theorem shaped3 {a b c : Int} : SeqAt.shaped (.tuple [.int a, .int b, .int c]) = true := rfl
theorem eqv3 {a b c a' b' c' : Int} : PyData.eqv (.tuple [.int a, .int b, .int c]) (.tuple [.int a', .int b', .int c']) = decide (a = a' ∧ b = b' ∧ c = c') := by
  show ((a == a') && ((b == b') && ((c == c') && true))) = _
  rw [Bool.and_true]
  by_cases h1 : a = a' <;> by_cases h2 : b = b' <;> by_cases h3 : c = c' <;> simp [h1, h2, h3]
theorem wEqA_t3 {a b c a' b' c' : Int} (h : Q (.bl (decide (a = a' ∧ b = b' ∧ c = c'))) M) : wEqA (.tup [.int a, .int b, .int c]) (.tup [.int a', .int b', .int c']) M Q := by
  show ∃ d e, _
  exact ⟨_, _, rfl, rfl, shaped3, shaped3, by rw [eqv3]; exact h⟩
end
end Ev

/-! Ev, part M: plain tools over the readings: bounds of integers, the small map growing, loops by an invariant, comprehensions. No program in sight. -/
namespace Ev
open PySem L2
/-! ### bounds -/
structure Bd (k : Nat) (i : Int) : Prop where
  lt : i.natAbs < 2 ^ k
theorem Bd.mono {a b : Nat} {i : Int} (h : Bd a i) (l : a ≤ b) : Bd b i := ⟨Nat.lt_of_lt_of_le h.lt (Nat.pow_le_pow_right (by decide) l)⟩
theorem Bd.mul {a b : Nat} {i j : Int} (h : Bd a i) (g : Bd b j) : Bd (a + b) (i * j) := by
  refine ⟨?_⟩
  rw [Int.natAbs_mul, Nat.pow_add]
  exact Nat.mul_lt_mul'' h.lt g.lt
theorem Bd.add {a : Nat} {i j : Int} (h : Bd a i) (g : Bd a j) : Bd (a + 1) (i + j) := by
  have h := h.lt
  have g := g.lt
  have := Int.natAbs_add_le i j
  refine ⟨?_⟩
  rw [Nat.pow_succ]
  omega
theorem Bd.sub {a : Nat} {i j : Int} (h : Bd a i) (g : Bd a j) : Bd (a + 1) (i - j) := by
  have h := h.lt
  have g := g.lt
  have : (i - j).natAbs ≤ i.natAbs + j.natAbs := by omega
  refine ⟨?_⟩
  rw [Nat.pow_succ]
  omega
theorem Bd.of_le {k : Nat} {i j : Int} (h : Bd k j) (l : i.natAbs ≤ j.natAbs) : Bd k i := ⟨Nat.lt_of_le_of_lt l h.lt⟩
theorem bd_bits {i : Int} {n : Nat} (h : Builtin.Int.intBits i ≤ n) : Bd n i := by
  refine ⟨?_⟩
  unfold Builtin.Int.intBits at h
  split at h
  · rename_i e
    have : i = 0 := by simpa using e
    subst this
    exact Nat.pow_pos (by decide)
  · rename_i e
    have e0 : i ≠ 0 := by simpa using e
    have e1 : i.natAbs ≠ 0 := by omega
    exact (Nat.log2_lt e1).mp (by omega)
theorem bits_bd {i : Int} {n : Nat} (h : Bd n i) : Builtin.Int.intBits i ≤ n := by
  unfold Builtin.Int.intBits
  split
  · omega
  · rename_i e
    have e0 : i ≠ 0 := by simpa using e
    have e1 : i.natAbs ≠ 0 := by omega
    have := (Nat.log2_lt e1).mpr h.lt
    omega
theorem MulOk.of {a b : Nat} {i j : Int} (h : Bd a i) (g : Bd b j) (l : a + b ≤ 134217728 := by decide) : MulOk i j := mulOk_of h.lt g.lt l
theorem bd31 {i : Int} (h : i.natAbs < 2147483648) : Bd 31 i := ⟨h⟩
theorem bd_pow2 {n : Nat} : Bd (n + 1) (2 ^ n) := by
  refine ⟨?_⟩
  rw [Int.natAbs_pow]
  exact Nat.pow_lt_pow_right (by decide) (Nat.lt_succ_self n)
theorem bd_lt {z : Int} {n : Nat} (h0 : 0 ≤ z) (h : z < 2 ^ n) : Bd n z := ⟨by
  have e : ((z.natAbs : Nat) : Int) < ((2 ^ n : Nat) : Int) := by
    rw [Int.natAbs_of_nonneg h0, Int.natCast_pow]
    exact h
  exact Int.ofNat_lt.mp e⟩
theorem fmod_rng {i j : Int} (h : 0 < j) : 0 ≤ i.fmod j ∧ i.fmod j < j := ⟨Int.fmod_nonneg_of_pos i h, Int.fmod_lt_of_pos i h⟩
theorem fdiv_rng {i j : Int} (h0 : 0 ≤ i) (h : 0 < j) : 0 ≤ i.fdiv j ∧ i.fdiv j ≤ i := by
  rw [Int.fdiv_eq_ediv_of_nonneg i (Int.le_of_lt h)]
  exact ⟨Int.ediv_nonneg h0 (Int.le_of_lt h), Int.ediv_le_self j h0⟩
/-! ### the map grows -/
def Ext (M M' : Mp) : Prop := ∀ a o, M a = some o → M' a = some o
theorem Ext.refl (M : Mp) : Ext M M := fun _ _ e => e
theorem Ext.trans {M M1 M2 : Mp} (a : Ext M M1) (b : Ext M1 M2) : Ext M M2 := fun c o e => b c o (a c o e)
theorem Ext.new {M : Mp} {p : Addr} {o : Ob} (h : M p = none) : Ext M (put M p o) := fun a u e => by
  rw [put_ne (fun z => by rw [z, h] at e; cases e)]
  exact e
/-- all but what stands at s stays, and the head of the list at s -/
structure Fr (s : Addr) (M M' : Mp) : Prop where
  kp : ∀ a, a ≠ s → ∀ o, M a = some o → M' a = some o
  hd : ∀ x r, M s = some (.lst (x :: r)) → ∃ r', M' s = some (.lst (x :: r'))
theorem Fr.refl {s : Addr} (M : Mp) : Fr s M M := ⟨fun _ _ _ e => e, fun _ r e => ⟨r, e⟩⟩
theorem Fr.trans {s : Addr} {M M1 M2 : Mp} (a : Fr s M M1) (b : Fr s M1 M2) : Fr s M M2 := ⟨fun c n o e => b.kp c n o (a.kp c n o e), fun x r e => by
  obtain ⟨r1, e1⟩ := a.hd x r e
  exact b.hd x r1 e1⟩
theorem Ext.fr {s : Addr} {M M' : Mp} (h : Ext M M') : Fr s M M' := ⟨fun a _ o e => h a o e, fun _ r e => ⟨r, h _ _ e⟩⟩
theorem Fr.put {s : Addr} {M : Mp} {x : W} {r r' : List W} (h : M s = some (.lst (x :: r))) : Fr s M (put M s (.lst (x :: r'))) := ⟨fun a n u e => by rw [put_ne n]; exact e, fun y r2 e => by
  rw [h] at e
  cases e
  exact ⟨r', put_same⟩⟩
theorem put_put {M : Mp} {a : Addr} {o o' : Ob} : put (put M a o) a o' = put M a o' := by
  funext b
  unfold put
  split <;> rfl
/-! ### an item of a list at an address -/
section
variable {M : Mp} {Q : QK} {i j : Int} {x y : Str} {k l : Bool}
theorem wAdd_i (h : Q (.int (i + j)) M) : wAdd (.int i) (.int j) M Q := h
theorem wI0_i {g : Int → Int → W} (h : Q (g i j) M) : wI0 g (.int i) (.int j) M Q := h
theorem wI_i {C : Int → Int → Prop} {g : Int → Int → W} (c : C i j) (h : Q (g i j) M) : wI C g (.int i) (.int j) M Q := ⟨c, h⟩
theorem wEq_i (h : Q (.bl (decide (i = j))) M) : wEq (.int i) (.int j) M Q := h
theorem wEq_s (h : Q (.bl (decide (x = y))) M) : wEq (.str x) (.str y) M Q := h
theorem wNe_i (h : Q (.bl (!decide (i = j))) M) : wNe (.int i) (.int j) M Q := h
theorem wInt_i (h : Q (.int i) M) : wInt [.int i] M Q := h
theorem wInt_b (h : Q (.int (if k then 1 else 0)) M) : wInt [.bl k] M Q := h
theorem wAbs_i (h : Q (.int (if i < 0 then -i else i)) M) : wAbs [.int i] M Q := h
theorem wMax_i (h : Q (.int (if j > i then j else i)) M) : wMax [.int i, .int j] M Q := h
theorem wMin_i (h : Q (.int (if j < i then j else i)) M) : wMin [.int i, .int j] M Q := h
theorem wNeg_i (h : Q (.int (-i)) M) : wNeg (.int i) M Q := h
theorem wNot_b (h : Q (.bl (!k)) M) : wNot (.bl k) M Q := h
theorem wBits_i (h : Q (.int (Builtin.Int.intBits i : Nat)) M) : wBits (.int i) M Q := h
end
theorem wIx_ref {M : Mp} {a : Addr} {ws : List W} {i : Int} {w : W} {Q : QK} (h : M a = some (.lst ws)) (e : atI ws i = some w) (q : Q w M) : wIx (.ref a) (.int i) M Q := by
  unfold wIx
  exact ⟨ws, h, by rw [e]; exact q⟩
theorem wIx_tup {M : Mp} {ws : List W} {i : Int} {w : W} {Q : QK} (e : atI ws i = some w) (q : Q w M) : wIx (.tup ws) (.int i) M Q := by
  unfold wIx
  dsimp only
  rw [e]
  exact q
theorem atI_in {α : Type} {ws : List α} {i : Int} (h0 : 0 ≤ i) (h : i < ws.length) : ∃ w, atI ws i = some w ∧ w ∈ ws := by
  have hl : i.toNat < ws.length := by omega
  refine ⟨ws[i.toNat], ?_, List.getElem_mem hl⟩
  unfold atI ixN
  rw [if_pos h0, if_pos h, Option.bind_some]
  exact List.getElem?_eq_getElem hl
theorem wLen_ref {M : Mp} {a : Addr} {ws : List W} {Q : QK} (h : M a = some (.lst ws)) (q : Q (.int (ws.length : Int)) M) : wLen [.ref a] M Q := by
  unfold wLen
  exact ⟨ws, h, q⟩
theorem wApp_ref {M : Mp} {a : Addr} {ws : List W} {y : W} {Q : QK} (h : M a = some (.lst ws)) (l : ws.length < 1000) (q : Q .non (put M a (.lst (ws ++ [y])))) : wApp a [y] M Q := by
  unfold wApp
  exact ⟨ws, h, Nat.lt_of_lt_of_le l line1000, q⟩
theorem wTuple_ref {M : Mp} {a : Addr} {ws : List W} {Q : QK} (h : M a = some (.lst ws)) (q : Q (.tup ws) M) : wTuple [.ref a] M Q := by
  unfold wTuple
  exact ⟨ws, h, q⟩
theorem wIsi_ref {K : PySem.W.Frag} {M : Mp} {a : Addr} {ws : List W} {n : String} {k : Bool} {Q : QK} (h : M a = some (.lst ws)) (e : isiT "list" n = some k) (q : Q (.bl k) M) : wIsiK K [.ref a, .ty n] M Q := by
  unfold wIsiK
  simp only [h]
  unfold wIsi
  simp only [tyS, h, e]
  exact q
/-! ### loops -/
theorem lpW_inv {g : TGW} {tb : TSW} {D : Out} (I : Nat → St' → Mp → Prop) : ∀ (ws : List W) (n : Nat) (τ : St') (M : Mp),
    (∀ j w τ M (k : St' → Mp → Prop), ws[j]? = some w → I (n + j) τ M → (∀ τ' M', I (n + j + 1) τ' M' → k τ' M') → g w τ M (fun τ1 M1 => tb { D with nx := k, ct := k, bk := D.nx } τ1 M1)) →
    (∀ τ M, I (n + ws.length) τ M → D.nx τ M) → I n τ M → lpW g tb ws D τ M
  | [], n, τ, M, _, he, h => he τ M h
  | w :: r, n, τ, M, st, he, h => by
    refine st 0 w τ M _ rfl h fun τ' M' h' => ?_
    refine lpW_inv I r (n + 1) τ' M' (fun j w' τ2 M2 k hj hi hk => ?_) (fun τ2 M2 hi => he τ2 M2 ?_) h'
    · have e : n + 1 + j = n + (j + 1) := by omega
      rw [e] at hi hk
      exact st (j + 1) w' τ2 M2 k (by rw [List.getElem?_cons_succ]; exact hj) hi hk
    · rw [List.length_cons]
      have e : n + 1 + r.length = n + (r.length + 1) := by omega
      rw [e] at hi
      exact hi
theorem lpL_inv {a : Addr} {all : List W} {g : TGW} {tb : TSW} {D : Out} (I : Nat → St' → Mp → Prop) : ∀ (ws : List W) (n : Nat) (τ : St') (M : Mp), (∀ j τ M, I j τ M → M a = some (.lst all)) →
    (∀ j w τ M (k : St' → Mp → Prop), ws[j]? = some w → I (n + j) τ M → (∀ τ' M', I (n + j + 1) τ' M' → k τ' M') → g w τ M (fun τ1 M1 => tb { D with nx := k, ct := k, bk := D.nx } τ1 M1)) →
    (∀ τ M, I (n + ws.length) τ M → D.nx τ M) → I n τ M → lpL a all g tb ws D τ M
  | [], n, τ, M, ha, _, he, h => ⟨ha _ _ _ h, he τ M h⟩
  | w :: r, n, τ, M, ha, st, he, h => by
    refine ⟨ha _ _ _ h, st 0 w τ M _ rfl h fun τ' M' h' => ?_⟩
    refine lpL_inv I r (n + 1) τ' M' ha (fun j w' τ2 M2 k hj hi hk => ?_) (fun τ2 M2 hi => he τ2 M2 ?_) h'
    · have e : n + 1 + j = n + (j + 1) := by omega
      rw [e] at hi hk
      exact st (j + 1) w' τ2 M2 k (by rw [List.getElem?_cons_succ]; exact hj) hi hk
    · rw [List.length_cons]
      have e : n + 1 + r.length = n + (r.length + 1) := by omega
      rw [e] at hi
      exact hi
theorem rngW_at {lo : Int} {n j : Nat} {w : W} (h : (rngW lo n)[j]? = some w) : j < n ∧ w = .int (lo + (j : Int)) := by
  unfold rngW at h
  rw [List.getElem?_map] at h
  cases e : (List.range n)[j]? with
  | none => rw [e] at h; cases h
  | some i =>
    rw [e] at h
    obtain ⟨h1, h2⟩ := List.getElem?_eq_some_iff.mp e
    rw [List.getElem_range] at h2
    subst h2
    cases h
    exact ⟨by rw [List.length_range] at h1; exact h1, rfl⟩
/-! ### comprehensions -/
/-- tests and elements that change nothing -/
theorem cpW_pure {Kp : Mp → Prop} {i : Nat} {tt : TTW} {te : TEW} {D : Addr} {τ : St'} {Q : Mp → Prop} (f : W → Bool) (g : W → W) (hK : ∀ M ws, Kp M → Kp (put M D (.lst ws))) : ∀ (ws : List W) (M : Mp) (acc : List W),
    (∀ w ∈ ws, ∀ M Q E, Kp M → Q (f w) M → tt (τ.set i (some w)) M Q E) → (∀ w ∈ ws, f w = true → ∀ M Q E, Kp M → Q (g w) M → te (τ.set i (some w)) M Q E) →
    M D = some (.lst acc) → acc.length + ws.length ≤ 1000 → Kp M → (∀ M', M' D = some (.lst (acc ++ (ws.filter f).map g)) → (∀ a, a ≠ D → M' a = M a) → Q M') → cpW Kp i tt te D τ Q ws M
  | [], M, acc, _, _, hD, hl, hk, q => ⟨hk, q M (by rw [hD]; simp) fun _ _ => rfl⟩
  | w :: r, M, acc, ht, he, hD, hl, hk, q => by
    rw [List.length_cons] at hl
    refine ⟨hk, ht w (.head _) M _ _ hk ?_⟩
    cases hf : f w with
    | true =>
      rw [if_pos rfl]
      refine he w (.head _) hf M _ _ hk ⟨acc, hD, Nat.lt_of_lt_of_le (by omega) line1000, ?_⟩
      refine cpW_pure f g hK r _ (acc ++ [g w]) (fun w' hw => ht w' (.tail _ hw)) (fun w' hw => he w' (.tail _ hw)) put_same (by rw [List.length_append, List.length_singleton]; omega) (hK _ _ hk) fun M' h1 h2 => q M' ?_ fun a ha => (h2 a ha).trans (put_ne ha)
      rw [h1, List.filter_cons_of_pos hf, List.map_cons, List.append_assoc]
      rfl
    | false =>
      rw [if_neg Bool.false_ne_true]
      refine cpW_pure f g hK r M acc (fun w' hw => ht w' (.tail _ hw)) (fun w' hw => he w' (.tail _ hw)) hD (by omega) hk fun M' h1 h2 => q M' ?_ h2
      rw [h1, List.filter_cons_of_neg (by rw [hf]; exact Bool.false_ne_true)]
/-- elements that may change the map, all kept: J tells the map at each step, P each element -/
theorem cpW_all {i : Nat} {te : TEW} {D : Addr} {τ : St'} {Q : Mp → Prop} (P : W → Prop) (J : Nat → Mp → Prop) (hJ : ∀ n M ws, J n M → J n (put M D (.lst ws))) : ∀ (ws : List W) (n : Nat) (M : Mp) (acc : List W),
    (∀ j w M acc E (Q : QK), ws[j]? = some w → J (n + j) M → M D = some (.lst acc) → (∀ y M', P y → J (n + j + 1) M' → M' D = some (.lst acc) → Q y M') → te (τ.set i (some w)) M Q E) →
    M D = some (.lst acc) → acc.length + ws.length ≤ 1000 → (∀ w ∈ acc, P w) → J n M → (∀ M' ys, M' D = some (.lst ys) → ys.length = acc.length + ws.length → (∀ w ∈ ys, P w) → J (n + ws.length) M' → Q M') → cpW (fun _ => True) i qYes te D τ Q ws M
  | [], n, M, acc, _, hD, hl, hp, hj, q => ⟨trivial, q M acc hD rfl hp hj⟩
  | w :: r, n, M, acc, he, hD, hl, hp, hj, q => by
    rw [List.length_cons] at hl
    refine ⟨trivial, ?_⟩
    show te _ _ _ _
    refine he 0 w M acc _ _ rfl hj hD fun y M1 py j1 d1 => ⟨acc, d1, Nat.lt_of_lt_of_le (by omega) line1000, ?_⟩
    refine cpW_all P J hJ r (n + 1) _ (acc ++ [y]) (fun j w' M2 acc2 E Q2 hw hi hd hk => ?_) put_same (by rw [List.length_append, List.length_singleton]; omega) (fun w' hw => ?_) (hJ _ _ _ j1) fun M' ys h1 h2 h3 h4 => q M' ys h1 ?_ h3 ?_
    · have e : n + 1 + j = n + (j + 1) := by omega
      rw [e] at hi hk
      exact he (j + 1) w' M2 acc2 E Q2 (by rw [List.getElem?_cons_succ]; exact hw) hi hd hk
    · rcases List.mem_append.mp hw with z | z
      · exact hp w' z
      · rw [List.mem_singleton.mp z]
        exact py
    · rw [h2, List.length_append, List.length_singleton, List.length_cons]
      omega
    · rw [List.length_cons]
      have e : n + 1 + r.length = n + (r.length + 1) := by omega
      rw [e] at h4
      exact h4
/-! ### rows of truths -/
def Tru (M : Mp) (r : Addr) (n : Nat) : Prop := M r = some (.lst (List.replicate n (.bl true)))
theorem Tru.app {M : Mp} {r : Addr} {n : Nat} {Q : QK} (h : Tru M r n) (l : n < 1000) (q : ∀ M', Tru M' r (n + 1) → (∀ a, a ≠ r → M' a = M a) → Q .non M') : wApp r [.bl true] M Q :=
  wApp_ref h (by rw [List.length_replicate]; exact l) (q _ (put_same.trans (by rw [List.replicate_succ'])) fun a ha => put_ne ha)
theorem Tru.all {M : Mp} {r : Addr} {n : Nat} {Q : QK} (h : Tru M r n) (q : Q (.bl true) M) : wAll (fun bs => bs.all id) [.ref r] M Q := by
  refine ⟨_, List.replicate n true, h, ?_, ?_⟩
  · rw [show (List.replicate n (W.bl true)) = (List.replicate n true).map W.bl from (List.map_replicate).symm]
    exact blsW_map _
  · dsimp only
    rw [show (List.replicate n true).all id = true from by simp]
    exact q
/-! ### one statement after the other -/
theorem seq_g {t u : TSW} {D : Out} {τ : St'} {M : Mp} (h : ∀ k : St' → Mp → Prop, (k = fun τ' M' => u D τ' M') → t { D with nx := k } τ M) : sSeq t u D τ M := h _ rfl
theorem seq_inv {t u : TSW} {D : Out} {τ : St'} {M : Mp} (P : St' → Mp → Prop) (g : ∀ τ' M', P τ' M' → u D τ' M') (h : ∀ k : St' → Mp → Prop, (∀ τ' M', P τ' M' → k τ' M') → t { D with nx := k } τ M) : sSeq t u D τ M := h _ g
theorem if_g {c : TTW} {t u : TSW} {D : Out} {τ : St'} {M : Mp} (h : ∀ (kt ku : Mp → Prop) (ke : EK), (kt = fun M1 => t D τ M1) → (ku = fun M1 => u D τ M1) → c τ M (fun k M1 => if k = true then kt M1 else ku M1) ke) : sIf c t u D τ M := h _ _ _ rfl rfl
theorem for_i {ta : TAW} {g : TGW} {tb : TSW} {D : Out} {τ : St'} {M : Mp} {j : Int} (hj : ∀ (Q : List W → Mp → Prop) (E : EK), Q [.int j] M → ta τ M Q E) (h1 : -(2 ^ 62) ≤ j ∧ j < 2 ^ 62) (h : lpW g tb (rngW 0 j.toNat) D τ M) : sForR ta g tb D τ M := hj _ _ ⟨h1, h⟩
/-! ### the store of a law's draws -/
structure Sto (M : Mp) (s : Addr) (n : Nat) : Prop where
  ex : ∃ (cs : Addr) (xs : List Int) (i b m c : Int), M s = some (.lst [.ref cs, .int i, .int b, .int m, .int c]) ∧ M cs = some (.lst (xs.map W.int)) ∧ cs ≠ s ∧ (∀ x ∈ xs, Bd 1048576 x) ∧ xs.length ≤ 1000 ∧ (0 ≤ i ∧ i ≤ xs.length) ∧ (0 ≤ b ∧ Bd 1048576 b) ∧ (0 ≤ m ∧ m < 2147483648) ∧ 0 ≤ c ∧ c ≤ n
theorem Sto.mono {M : Mp} {s : Addr} {n k : Nat} (h : Sto M s n) (l : n ≤ k) : Sto M s k := by
  obtain ⟨cs, xs, i, b, m, c, h1, h2, h3, h4, h5, h6, h7, h8, h9, h10⟩ := h.ex
  exact ⟨cs, xs, i, b, m, c, h1, h2, h3, h4, h5, h6, h7, h8, h9, by omega⟩
theorem Sto.keep {M M' : Mp} {s : Addr} {n : Nat} (h : Sto M s n) (e : Ext M M') : Sto M' s n := by
  obtain ⟨cs, xs, i, b, m, c, h1, h2, h3⟩ := h.ex
  exact ⟨cs, xs, i, b, m, c, e _ _ h1, e _ _ h2, h3⟩
theorem Sto.put {M : Mp} {s p : Addr} {n : Nat} {o : Ob} (h : Sto M s n) (hp : M p = none) : Sto (put M p o) s n := h.keep (Ext.new hp)
/-- an address that the store does not use -/
theorem Sto.ne {M : Mp} {s p : Addr} {n : Nat} (h : Sto M s n) (hp : M p = none) : p ≠ s := by
  obtain ⟨cs, xs, i, b, m, c, h1, _⟩ := h.ex
  intro z
  rw [z, h1] at hp
  cases hp
/-- a new list at D beside the store -/
theorem Sto.putD {M1 M : Mp} {s D : Addr} {n k : Nat} {o : Ob} (S1 : Sto M1 s n) (hD : M1 D = none) (f : Fr s M1 M) (S : Sto M s k) : Sto (Ev.put M D o) s k ∧ Fr s M1 (Ev.put M D o) := by
  obtain ⟨cs, xs, i, b, m, c, h1, h2, _⟩ := S1.ex
  have nD : s ≠ D := fun z => by rw [z, hD] at h1; cases h1
  have nC : cs ≠ D := fun z => by rw [z, hD] at h2; cases h2
  refine ⟨?_, fun a na u e => ?_, fun x r e => ?_⟩
  · obtain ⟨cs', xs, i, b, m, c, g1, g2, g3⟩ := S.ex
    obtain ⟨r', e'⟩ := f.hd _ _ h1
    rw [g1] at e'
    cases e'
    exact ⟨cs, xs, i, b, m, c, (put_ne nD).trans g1, (put_ne nC).trans g2, g3⟩
  · rw [put_ne fun z => by rw [z, hD] at e; cases e]
    exact f.kp a na u e
  · obtain ⟨r', e'⟩ := f.hd x r e
    exact ⟨r', (put_ne nD).trans e'⟩
end Ev

/-! Ev, part N: one step at the head of a reading, each a lemma. -/
namespace Ev
open PySem L2
def isB (x : W) (f : Bool → Prop) : Prop := match x with | .bl k => f k | _ => False
theorem isB_i {k : Bool} {f : Bool → Prop} (h : f k) : isB (.bl k) f := h
def isR (x : W) (f : Addr → Prop) : Prop := match x with | .ref a => f a | _ => False
theorem isR_i {a : Addr} {f : Addr → Prop} (h : f a) : isR (.ref a) f := h
section
variable {τ : St'} {M : Mp} {Q : QK} {E : EK} {w : W} {t ta tb te to ti : TEW} {u : TAW} {QA : List W → Mp → Prop} {QB : Bool → Mp → Prop} {i : Nat} {c d : TTW} {L : Lm} {sp : SpW} {A B : Prop}
theorem if_t (h : A) : if (true : Bool) = true then A else B := by rw [if_pos rfl]; exact h
theorem if_f (h : B) : if (false : Bool) = true then A else B := by rw [if_neg Bool.false_ne_true]; exact h
theorem if_y {p : Prop} [Decidable p] (hp : p) (h : A) : if decide p = true then A else B := by rw [if_pos (decide_eq_true hp)]; exact h
theorem if_n {p : Prop} [Decidable p] (hp : ¬ p) (h : B) : if decide p = true then A else B := by rw [if_neg (fun z => hp (of_decide_eq_true z))]; exact h
theorem if_by {p : Prop} [Decidable p] (h1 : p → A) (h2 : ¬ p → B) : if decide p = true then A else B := by
  by_cases hp : p
  · exact if_y hp (h1 hp)
  · exact if_n hp (h2 hp)
theorem tC_i (h : Q w M) : Ev.tC w τ M Q E := h
theorem tV_i (e : τ[i]? = some (some w)) (h : Q w M) : tV i τ M Q E := by
  unfold tV
  rw [e]
  exact h
theorem aNil_i (h : QA [] M) : aNil τ M QA E := h
theorem aCons_i (h : t τ M (fun x M1 => u τ M1 (fun xs M2 => QA (x :: xs) M2) E) E) : aCons t u τ M QA E := h
theorem tTup_i (h : u τ M (fun ws M1 => Q (.tup ws) M1) E) : Ev.tTup u τ M Q E := h
theorem tLst_i (h : u τ M (fun ws M1 => ∀ p, M1 p = none → Q (.ref p) (put M1 p (.lst ws))) E) : Ev.tLst u τ M Q E := h
theorem tOp_i {rw : RW2} (h : ta τ M (fun x M1 => tb τ M1 (fun y M2 => rw x y M2 Q) E) E) : Ev.tOp rw ta tb τ M Q E := h
theorem tUn_i {f : W → Mp → QK → Prop} (h : ta τ M (fun x M1 => f x M1 Q) E) : Ev.tUn f ta τ M Q E := h
theorem tCB_i {rw : RWC} (h : u τ M (fun ws M1 => rw ws M1 Q) E) : Ev.tCB rw u τ M Q E := h
theorem tFn_i (h : u τ M (fun ws M1 => sp L ws M1 Q E) E) : tFn sp L [] u τ M Q E := by
  have e : (fun (ws : List W) (M1 : Mp) => sp L (ws ++ []) M1 Q E) = fun ws M1 => sp L ws M1 Q E := by
    funext ws M1
    rw [List.append_nil]
  unfold tFn
  rw [e]
  exact h
theorem tFnH_i {a0 : Addr} {sp : SpH} (h : u τ M (fun ws M1 => sp a0 ws M1 Q) E) : tFnH a0 sp u τ M Q E := h
theorem tIsNf_i (h : ta τ M (fun x M1 => Q (.bl (isNon x)) M1) E) : Ev.tIsN false ta τ M Q E := h
theorem tIsNt_i (h : ta τ M (fun x M1 => Q (.bl (!isNon x)) M1) E) : Ev.tIsN true ta τ M Q E := h
theorem qB_i (h : t τ M (fun x M1 => isB x fun k => QB k M1) E) : qB t τ M QB E := h
theorem qNot_i (h : c τ M (fun k M1 => QB (!k) M1) E) : qNot c τ M QB E := h
theorem qAnd_i (h : c τ M (fun k M1 => if k = true then d τ M1 QB E else QB false M1) E) : qAnd c d τ M QB E := h
theorem qOr_i (h : c τ M (fun k M1 => if k = true then QB true M1 else d τ M1 QB E) E) : qOr c d τ M QB E := h
theorem vAnd_i (h : ta τ M (fun x M1 => isB x fun k => if k = true then tb τ M1 Q E else Q (.bl false) M1) E) : vAnd ta tb τ M Q E := h
theorem vOr_i (h : ta τ M (fun x M1 => isB x fun k => if k = true then Q (.bl true) M1 else tb τ M1 Q E) E) : vOr ta tb τ M Q E := h
theorem tIfE_i (h : c τ M (fun k M1 => if k = true then ta τ M1 Q E else tb τ M1 Q E) E) : tIfE c ta tb τ M Q E := h
theorem tMt_i {f : Addr → List W → Mp → QK → Prop} (h : to τ M (fun x M1 => isR x fun a => (∃ xs, M1 a = some (.lst xs)) ∧ u τ M1 (fun ws M2 => f a ws M2 Q) E) E) : tMt f to u τ M Q E := h
theorem tAct_i {f : Addr} {tl : TL} (e : τ[i]? = some (some (.ref f))) (hL : L f = some tl) (h : tl M Q E) : tAct L i τ M Q E := by
  unfold tAct
  rw [e]
  dsimp only
  rw [hL]
  exact h
theorem tLam_i (h : ∀ f, M f = none → u τ M (fun ws M1 => sp (updL L f fun M' Q' E' => tb τ M' Q' E') (.ref f :: ws) M1 Q E) E) : tLam sp L tb u τ M Q E := h
end
section
variable {τ : St'} {M : Mp} {nx : St' → Mp → Prop} {rt : QK} {bk ct : St' → Mp → Prop} {ex : EX} {t u : TSW} {te to ti : TEW} {i : Nat} {c : TTW}
theorem sNext_i (h : nx τ M) : sNext ⟨nx, rt, bk, ct, ex⟩ τ M := h
theorem sSeq_i (h : t ⟨fun τ' M' => u ⟨nx, rt, bk, ct, ex⟩ τ' M', rt, bk, ct, ex⟩ τ M) : sSeq t u ⟨nx, rt, bk, ct, ex⟩ τ M := h
theorem sBreak_i (h : bk τ M) : sBreak ⟨nx, rt, bk, ct, ex⟩ τ M := h
theorem sCont_i (h : ct τ M) : sCont ⟨nx, rt, bk, ct, ex⟩ τ M := h
theorem sDrop_i (h : te τ M (fun _ M1 => nx τ M1) (fun C p M' => ex C p τ M')) : sDrop te ⟨nx, rt, bk, ct, ex⟩ τ M := h
theorem sRet_i (h : te τ M rt (fun C p M' => ex C p τ M')) : sRet te ⟨nx, rt, bk, ct, ex⟩ τ M := h
theorem sRetN_i (h : rt .non M) : sRetN ⟨nx, rt, bk, ct, ex⟩ τ M := h
theorem sIf_i (h : c τ M (fun k M1 => if k = true then t ⟨nx, rt, bk, ct, ex⟩ τ M1 else u ⟨nx, rt, bk, ct, ex⟩ τ M1) (fun C p M' => ex C p τ M')) : sIf c t u ⟨nx, rt, bk, ct, ex⟩ τ M := h
theorem sAsg_i (h : te τ M (fun x M1 => nx (τ.set i (some x)) M1) (fun C p M' => ex C p τ M')) : sAsg te (gNm i) ⟨nx, rt, bk, ct, ex⟩ τ M := h
def isRI (x y : W) (f : Addr → Int → Prop) : Prop := match x, y with | .ref a, .int k => f a k | _, _ => False
theorem isRI_i {a : Addr} {k : Int} {f : Addr → Int → Prop} (h : f a k) : isRI (.ref a) (.int k) f := h
def setIx (M : Mp) (a : Addr) (k : Int) (w : W) (P : Mp → Prop) : Prop := ∃ ws j, M a = some (.lst ws) ∧ L2.ixN ws.length k = some j ∧ P (put M a (.lst (ws.set j w)))
theorem sIx_i (h : te τ M (fun w M1 => to τ M1 (fun x M2 => ti τ M2 (fun y M3 => isRI x y fun a k => setIx M3 a k w (nx τ)) (fun C p M' => ex C p τ M')) (fun C p M' => ex C p τ M')) (fun C p M' => ex C p τ M')) : sIx te to ti ⟨nx, rt, bk, ct, ex⟩ τ M := h
theorem setIx_i {a : Addr} {k : Int} {w : W} {P : Mp → Prop} {ws ws' : List W} {j : Nat} (h : M a = some (.lst ws)) (e : L2.ixN ws.length k = some j) (e2 : ws.set j w = ws') (q : P (put M a (.lst ws'))) : setIx M a k w P := ⟨ws, j, h, e, by rw [e2]; exact q⟩
theorem sRaise_i {C : Addr} (h : ex C none τ M) : sRaise C ⟨nx, rt, bk, ct, ex⟩ τ M := h
theorem sForR_i {ta : TAW} {g : TGW} (h : ta τ M (fun ws M1 => ∃ j, ws = [.int j] ∧ (-(2 ^ 62) ≤ j ∧ j < 2 ^ 62) ∧ lpW g t (rngW 0 j.toNat) ⟨nx, rt, bk, ct, ex⟩ τ M1) (fun C p M' => ex C p τ M')) (mono : ∀ (Q Q' : List W → Mp → Prop) (E : EK), (∀ ws M, Q ws M → Q' ws M) → ta τ M Q E → ta τ M Q' E) : sForR ta g t ⟨nx, rt, bk, ct, ex⟩ τ M := by
  refine mono _ _ _ ?_ h
  rintro ws M ⟨j, rfl, h1, h2⟩
  exact ⟨h1, h2⟩
end
/-! ### isinstance of values -/
section
variable {K : PySem.W.Frag} {M : Mp} {Q : QK}
theorem wIsiK_g {x : W} {n s : String} {k : Bool} (hx : ∀ a, x ≠ .ref a) (e1 : tyS x M = some s) (e2 : isiT s n = some k) (h : Q (.bl k) M) : wIsiK K [x, .ty n] M Q := by
  cases x <;> first | exact absurd rfl (hx _) | skip
  all_goals
    unfold wIsiK
    dsimp only
    unfold wIsi
    dsimp only
    rw [e1]
    dsimp only
    rw [e2]
    exact h
theorem wIsiK_gt {x : W} {cs : List W} {s : String} {k : Bool} (hx : ∀ a, x ≠ .ref a) (e1 : tyS x M = some s) (e2 : isiA s cs = some k) (h : Q (.bl k) M) : wIsiK K [x, .tup cs] M Q := by
  cases x <;> first | exact absurd rfl (hx _) | skip
  all_goals
    unfold wIsiK
    dsimp only
    unfold wIsi
    dsimp only
    rw [e1]
    dsimp only
    rw [e2]
    exact h
theorem wIsi_non_int (h : Q (.bl false) M) : wIsiK K [.non, .ty "int"] M Q := wIsiK_g (fun _ => by nofun) rfl (by decide +kernel) h
theorem wIsi_non_bool (h : Q (.bl false) M) : wIsiK K [.non, .ty "bool"] M Q := wIsiK_g (fun _ => by nofun) rfl (by decide +kernel) h
theorem wIsi_non_str (h : Q (.bl false) M) : wIsiK K [.non, .ty "str"] M Q := wIsiK_g (fun _ => by nofun) rfl (by decide +kernel) h
theorem wIsi_non_list (h : Q (.bl false) M) : wIsiK K [.non, .ty "list"] M Q := wIsiK_g (fun _ => by nofun) rfl (by decide +kernel) h
theorem wIsi_non_tuple (h : Q (.bl false) M) : wIsiK K [.non, .ty "tuple"] M Q := wIsiK_g (fun _ => by nofun) rfl (by decide +kernel) h
theorem wIsi_bl_int {b : Bool} (h : Q (.bl true) M) : wIsiK K [(.bl b), .ty "int"] M Q := wIsiK_g (fun _ => by nofun) rfl (by decide +kernel) h
theorem wIsi_bl_bool {b : Bool} (h : Q (.bl true) M) : wIsiK K [(.bl b), .ty "bool"] M Q := wIsiK_g (fun _ => by nofun) rfl (by decide +kernel) h
theorem wIsi_bl_str {b : Bool} (h : Q (.bl false) M) : wIsiK K [(.bl b), .ty "str"] M Q := wIsiK_g (fun _ => by nofun) rfl (by decide +kernel) h
theorem wIsi_bl_list {b : Bool} (h : Q (.bl false) M) : wIsiK K [(.bl b), .ty "list"] M Q := wIsiK_g (fun _ => by nofun) rfl (by decide +kernel) h
theorem wIsi_bl_tuple {b : Bool} (h : Q (.bl false) M) : wIsiK K [(.bl b), .ty "tuple"] M Q := wIsiK_g (fun _ => by nofun) rfl (by decide +kernel) h
theorem wIsi_int_int {z : Int} (h : Q (.bl true) M) : wIsiK K [(.int z), .ty "int"] M Q := wIsiK_g (fun _ => by nofun) rfl (by decide +kernel) h
theorem wIsi_int_bool {z : Int} (h : Q (.bl false) M) : wIsiK K [(.int z), .ty "bool"] M Q := wIsiK_g (fun _ => by nofun) rfl (by decide +kernel) h
theorem wIsi_int_str {z : Int} (h : Q (.bl false) M) : wIsiK K [(.int z), .ty "str"] M Q := wIsiK_g (fun _ => by nofun) rfl (by decide +kernel) h
theorem wIsi_int_list {z : Int} (h : Q (.bl false) M) : wIsiK K [(.int z), .ty "list"] M Q := wIsiK_g (fun _ => by nofun) rfl (by decide +kernel) h
theorem wIsi_int_tuple {z : Int} (h : Q (.bl false) M) : wIsiK K [(.int z), .ty "tuple"] M Q := wIsiK_g (fun _ => by nofun) rfl (by decide +kernel) h
theorem wIsi_str_int {x : Str} (h : Q (.bl false) M) : wIsiK K [(.str x), .ty "int"] M Q := wIsiK_g (fun _ => by nofun) rfl (by decide +kernel) h
theorem wIsi_str_bool {x : Str} (h : Q (.bl false) M) : wIsiK K [(.str x), .ty "bool"] M Q := wIsiK_g (fun _ => by nofun) rfl (by decide +kernel) h
theorem wIsi_str_str {x : Str} (h : Q (.bl true) M) : wIsiK K [(.str x), .ty "str"] M Q := wIsiK_g (fun _ => by nofun) rfl (by decide +kernel) h
theorem wIsi_str_list {x : Str} (h : Q (.bl false) M) : wIsiK K [(.str x), .ty "list"] M Q := wIsiK_g (fun _ => by nofun) rfl (by decide +kernel) h
theorem wIsi_str_tuple {x : Str} (h : Q (.bl false) M) : wIsiK K [(.str x), .ty "tuple"] M Q := wIsiK_g (fun _ => by nofun) rfl (by decide +kernel) h
theorem wIsi_tup_int {l : List W} (h : Q (.bl false) M) : wIsiK K [(.tup l), .ty "int"] M Q := wIsiK_g (fun _ => by nofun) rfl (by decide +kernel) h
theorem wIsi_tup_bool {l : List W} (h : Q (.bl false) M) : wIsiK K [(.tup l), .ty "bool"] M Q := wIsiK_g (fun _ => by nofun) rfl (by decide +kernel) h
theorem wIsi_tup_str {l : List W} (h : Q (.bl false) M) : wIsiK K [(.tup l), .ty "str"] M Q := wIsiK_g (fun _ => by nofun) rfl (by decide +kernel) h
theorem wIsi_tup_list {l : List W} (h : Q (.bl false) M) : wIsiK K [(.tup l), .ty "list"] M Q := wIsiK_g (fun _ => by nofun) rfl (by decide +kernel) h
theorem wIsi_tup_tuple {l : List W} (h : Q (.bl true) M) : wIsiK K [(.tup l), .ty "tuple"] M Q := wIsiK_g (fun _ => by nofun) rfl (by decide +kernel) h
theorem wIsi_lst_int {a : Addr} {ws : List W} (e : M a = some (.lst ws)) (h : Q (.bl false) M) : wIsiK K [.ref a, .ty "int"] M Q := wIsi_ref e (by decide +kernel) h
theorem wIsi_lst_bool {a : Addr} {ws : List W} (e : M a = some (.lst ws)) (h : Q (.bl false) M) : wIsiK K [.ref a, .ty "bool"] M Q := wIsi_ref e (by decide +kernel) h
theorem wIsi_lst_str {a : Addr} {ws : List W} (e : M a = some (.lst ws)) (h : Q (.bl false) M) : wIsiK K [.ref a, .ty "str"] M Q := wIsi_ref e (by decide +kernel) h
theorem wIsi_lst_list {a : Addr} {ws : List W} (e : M a = some (.lst ws)) (h : Q (.bl true) M) : wIsiK K [.ref a, .ty "list"] M Q := wIsi_ref e (by decide +kernel) h
theorem wIsi_lst_tuple {a : Addr} {ws : List W} (e : M a = some (.lst ws)) (h : Q (.bl false) M) : wIsiK K [.ref a, .ty "tuple"] M Q := wIsi_ref e (by decide +kernel) h
theorem wIsi_tup_lt {l : List W} (h : Q (.bl true) M) : wIsiK K [.tup l, .tup [.ty "list", .ty "tuple"]] M Q := wIsiK_gt (fun _ => by nofun) rfl (by decide +kernel) h
end
/-! ### what is no integer -/
def NoInt (s : Addr) (M : Mp) (w : W) : Prop := w = .non ∨ (∃ b, w = .bl b) ∨ (∃ x, w = .str x) ∨ (∃ l, w = .tup l) ∨ ∃ a ws, w = .ref a ∧ a ≠ s ∧ M a = some (.lst ws)
theorem NoInt.fr {s : Addr} {M M' : Mp} {w : W} (h : NoInt s M w) (f : Fr s M M') : NoInt s M' w := by
  rcases h with h | h | h | h | ⟨a, ws, h1, h2, h3⟩
  · exact .inl h
  · exact .inr (.inl h)
  · exact .inr (.inr (.inl h))
  · exact .inr (.inr (.inr (.inl h)))
  · exact .inr (.inr (.inr (.inr ⟨a, ws, h1, h2, f.kp _ h2 _ h3⟩)))
/-- no integer from lo to hi -/
def BadI (s : Addr) (M : Mp) (lo : Int) (hi : Option Int) (w : W) : Prop := NoInt s M w ∨ ∃ z, w = .int z ∧ (z < lo ∨ ∃ h, hi = some h ∧ h < z)
theorem BadI.fr {s : Addr} {M M' : Mp} {lo : Int} {hi : Option Int} {w : W} (h : BadI s M lo hi w) (f : Fr s M M') : BadI s M' lo hi w := h.imp (·.fr f) id
theorem wApp_s {M : Mp} {a : Addr} {ws : List W} {y : W} {Q : QK} (h : M a = some (.lst ws)) (l : ws.length < 1000) (q : ∀ M', M' a = some (.lst (ws ++ [y])) → (∀ b, b ≠ a → M' b = M b) → Q .non M') : wApp a [y] M Q := wApp_ref h l (q _ put_same fun b hb => put_ne hb)
section
variable {K : PySem.W.Frag} {τ : St'} {M : Mp} {nx : St' → Mp → Prop} {rt : QK} {bk ct : St' → Mp → Prop} {ex : EX} {tb : TSW} {hs : List Hd}
theorem sTry_i (h : tb ⟨nx, rt, bk, ct, wHs K ⟨nx, rt, bk, ct, ex⟩ hs⟩ τ M) : sTry K tb hs ⟨nx, rt, bk, ct, ex⟩ τ M := h
theorem hs_no {D : Out} {C Cx : Addr} {i : Nat} {ts : Addr → TSW} {r : List Hd} {p : Option (Str × W)} (e : PySem.W.exmOne K (.ref Cx) (.ref C) = some false) (h : wHs K D r Cx p τ M) : wHs K D ((C, i, ts) :: r) Cx p τ M := ⟨false, e, fun z => Bool.noConfusion z, fun _ => h⟩
theorem hs_yes {C Cx : Addr} {i : Nat} {ts : Addr → TSW} {r : List Hd} {p : Option (Str × W)} (e : PySem.W.exmOne K (.ref Cx) (.ref C) = some true) (h : ∀ a, M a = none → ts a ⟨unset i nx, rt, unset i bk, unset i ct, fun _ _ _ _ => False⟩ (τ.set i (some (.ref a))) (put M a (.exc Cx p))) : wHs K ⟨nx, rt, bk, ct, ex⟩ ((C, i, ts) :: r) Cx p τ M := ⟨true, e, fun _ => h, fun z => Bool.noConfusion z⟩
end
theorem wIn_tup {neg : Bool} {x : W} {ws : List W} {M : Mp} {Q : QK} (f1 : flatW x = true) (f2 : ws.all flatW = true) (h : Q (.bl (if neg then !inW x ws else inW x ws)) M) : wIn neg x (.tup ws) M Q := ⟨f1, f2, h⟩
theorem wIn_refl {neg : Bool} {x : W} {a : Addr} {ws : List W} {M : Mp} {Q : QK} (hM : M a = some (.lst ws)) (f1 : flatW x = true) (f2 : ws.all flatW = true) (h : Q (.bl (if neg then !inW x ws else inW x ws)) M) : wIn neg x (.ref a) M Q := ⟨ws, hM, f1, f2, h⟩
theorem wIx_str {M : Mp} {z : Str} {i : Int} {c : Nat} {Q : QK} (l : z.length ≤ 1000) (e : L2.atI z.cps.toList i = some c) (q : Q (.str ⟨#[c]⟩) M) : wIx (.str z) (.int i) M Q := ⟨Nat.le_trans l line1000, by rw [e]; exact q⟩
theorem Ext.at {M M1 M2 : Mp} {p : Addr} (h : Ext M M1) (hp : M p = none) (f : ∀ a, a ≠ p → M2 a = M1 a) : Ext M M2 := fun b o e => by
  rw [f b fun z => by rw [z, hp] at e; cases e]
  exact h b o e
section
variable {τ : St'} {M : Mp} {nx : St' → Mp → Prop} {rt : QK} {bk ct : St' → Mp → Prop} {ex : EX} {te : TEW} {g : TGW} {tb : TSW} {ta : TAW}
theorem sForT_i {ws : List W} (hte : ∀ (Q : QK) (E : EK), Q (.tup ws) M → te τ M Q E) (h : lpW g tb ws ⟨nx, rt, bk, ct, ex⟩ τ M) : sFor te g tb ⟨nx, rt, bk, ct, ex⟩ τ M := hte _ _ h
theorem sForN_i {n : Nat} {j : Int} (hj : ∀ (Q : List W → Mp → Prop) (E : EK), Q [.int j] M → ta τ M Q E) (e : j = (n : Int)) (hn : n < 2 ^ 62) (h : lpW g tb (rngW 0 n) ⟨nx, rt, bk, ct, ex⟩ τ M) : sForR ta g tb ⟨nx, rt, bk, ct, ex⟩ τ M := for_i hj ⟨by omega, by omega⟩ (by rw [e, Int.toNat_natCast]; exact h)
end
theorem mem_at {ws : List W} {j : Nat} {w : W} (h : ws[j]? = some w) : w ∈ ws := List.mem_of_getElem? h
/-! ### more heads -/
section
variable {τ : St'} {M : Mp} {Q : QK} {E : EK} {A B : Prop} {nx : St' → Mp → Prop} {rt : QK} {bk ct : St' → Mp → Prop} {ex : EX} {te : TEW} {g : TGW} {ta : TAW} {a b c d : W} {i j k l : Nat} {K : St' → Mp → Prop}
theorem if_nt (h : A) : if (!false) = true then A else B := by rw [if_pos (by decide)]; exact h
theorem if_nf (h : B) : if (!true) = true then A else B := by rw [if_neg (by decide)]; exact h
theorem if_ny {p : Prop} [Decidable p] (hp : p) (h : B) : if (!decide p) = true then A else B := by rw [decide_eq_true hp]; exact if_nf h
theorem if_nn {p : Prop} [Decidable p] (hp : ¬ p) (h : A) : if (!decide p) = true then A else B := by rw [decide_eq_false hp]; exact if_nt h
theorem if_nby {p : Prop} [Decidable p] (h1 : p → B) (h2 : ¬ p → A) : if (!decide p) = true then A else B := by
  by_cases hp : p
  · exact if_ny hp (h1 hp)
  · exact if_nn hp (h2 hp)
theorem if_tt {b : Bool} (e : b = true) (h : A) : if b = true then A else B := by rw [if_pos e]; exact h
theorem if_ff {b : Bool} (e : b = false) (h : B) : if b = true then A else B := by rw [e]; exact if_f h
theorem sAsgG_i (h : te τ M (fun x M1 => g x τ M1 nx) (fun C p M' => ex C p τ M')) : sAsg te g ⟨nx, rt, bk, ct, ex⟩ τ M := h
theorem gTp2_i (h : K ((τ.set i (some a)).set j (some b)) M) : gTp 2 (gsCons (gNm i) (gsCons (gNm j) gsNil)) (.tup [a, b]) τ M K := ⟨rfl, rfl, h⟩
theorem gTp3_i (h : K (((τ.set i (some a)).set j (some b)).set k (some c)) M) : gTp 3 (gsCons (gNm i) (gsCons (gNm j) (gsCons (gNm k) gsNil))) (.tup [a, b, c]) τ M K := ⟨rfl, rfl, h⟩
theorem gTp4_i (h : K ((((τ.set i (some a)).set j (some b)).set k (some c)).set l (some d)) M) : gTp 4 (gsCons (gNm i) (gsCons (gNm j) (gsCons (gNm k) (gsCons (gNm l) gsNil)))) (.tup [a, b, c, d]) τ M K := ⟨rfl, rfl, h⟩
theorem gNm_i {w : W} (h : K (τ.set i (some w)) M) : gNm i w τ M K := h
def par2 (i j : Nat) (τ : St') (ws : List W) (M : Mp) (K : St' → Mp → Prop) : Prop := match ws with | [x, y] => K ((τ.set i (some x)).set j (some y)) M | _ => False
theorem par2_i (h : K ((τ.set i (some a)).set j (some b)) M) : par2 i j τ [a, b] M K := h
theorem sPar_i (h : ta τ M (fun ws M1 => par2 i j τ ws M1 nx) (fun C p M' => ex C p τ M')) : sPar i j ta ⟨nx, rt, bk, ct, ex⟩ τ M := h
theorem par3_i (h : K (((τ.set i (some a)).set j (some b)).set k (some c)) M) : par3 i j k τ [a, b, c] M K := h
theorem sPar3_i (h : ta τ M (fun ws M1 => par3 i j k τ ws M1 nx) (fun C p M' => ex C p τ M')) : sPar3 i j k ta ⟨nx, rt, bk, ct, ex⟩ τ M := h
theorem chB_i {q : Bool} {f : Bool → Prop} (h : f q) : chB (.bl q) f := h
theorem tChainW_i {rw rw' : RW2} {ta tb tc : TEW} (h : ta τ M (fun x M1 => tb τ M1 (fun y M2 => rw x y M2 (fun z M3 => chB z fun k => if k = true then tc τ M3 (fun w M4 => rw' y w M4 Q) E else Q (.bl false) M3)) E) E) : tChainW rw rw' ta tb tc τ M Q E := h
theorem if_self {α : Type} [DecidableEq α] {x : α} (h : A) : if decide (x = x) = true then A else B := if_y rfl h
theorem if_nself {α : Type} [DecidableEq α] {x : α} (h : B) : if (!decide (x = x)) = true then A else B := if_ny rfl h
theorem wNe_s {x y : Str} (h : Q (.bl (!decide (x = y))) M) : wNe (.str x) (.str y) M Q := h
theorem wEq_b {x y : Bool} (h : Q (.bl (decide (x = y))) M) : wEq (.bl x) (.bl y) M Q := h
theorem wDivmod_i {i j : Int} (h0 : j ≠ 0) (h : Q (.tup [.int (i.fdiv j), .int (i.fmod j)]) M) : wDivmod [.int i, .int j] M Q := ⟨h0, h⟩
theorem tFnD_i {sp : SpW} {L : Lm} {d : W} {ds : List W} {u : TAW} (h : u τ M (fun ws M1 => sp L (ws ++ d :: ds) M1 Q E) E) : tFn sp L (d :: ds) u τ M Q E := h
theorem tFnK_i {sp : SpW} {L : Lm} {gW : List W → List W → List W} {u uk : TAW} (h : u τ M (fun ws M1 => uk τ M1 (fun zs M2 => sp L (gW ws zs) M2 Q E) E) E) : tFnK sp L gW u uk τ M Q E := h
theorem tChain3W_i {rw rw' rw'' : RW2} {ta tb tc td : TEW} (h : ta τ M (fun x M1 => tb τ M1 (fun y M2 => rw x y M2 (fun z M3 => chB z fun k => if k = true then tc τ M3 (fun w M4 => rw' y w M4 (fun z2 M5 => chB z2 fun k2 => if k2 = true then td τ M5 (fun v M6 => rw'' w v M6 Q) E else Q (.bl false) M5)) E else Q (.bl false) M3)) E) E) : tChain3W rw rw' rw'' ta tb tc td τ M Q E := h
theorem wIx_t0 {r : List W} (h : Q a M) : wIx (.tup (a :: r)) (.int 0) M Q := wIx_tup (by unfold L2.atI L2.ixN; rw [if_pos (by decide), if_pos (by simp only [List.length_cons]; omega)]; rfl) h
theorem wIx_t1 {r : List W} (h : Q b M) : wIx (.tup (a :: b :: r)) (.int 1) M Q := wIx_tup (by unfold L2.atI L2.ixN; rw [if_pos (by decide), if_pos (by simp only [List.length_cons]; omega)]; rfl) h
theorem wIx_t2 {r : List W} (h : Q c M) : wIx (.tup (a :: b :: c :: r)) (.int 2) M Q := wIx_tup (by unfold L2.atI L2.ixN; rw [if_pos (by decide), if_pos (by simp only [List.length_cons]; omega)]; rfl) h
theorem wIx_t3 {r : List W} (h : Q d M) : wIx (.tup (a :: b :: c :: d :: r)) (.int 3) M Q := wIx_tup (by unfold L2.atI L2.ixN; rw [if_pos (by decide), if_pos (by simp only [List.length_cons]; omega)]; rfl) h
theorem wLen_t {ws : List W} (h : Q (.int (ws.length : Int)) M) : wLen [.tup ws] M Q := h
theorem wExt_refl {p q : Addr} {xs ys : List W} (h : M p = some (.lst xs)) (h2 : M q = some (.lst ys)) (l : xs.length + ys.length ≤ 1000) (h3 : Q .non (put M p (.lst (xs ++ ys)))) : wExt p [.ref q] M Q := ⟨xs, ys, h, h2, Nat.le_trans l line1000, h3⟩
end
end Ev

/-! Ev, part O: the end of a law by readings: the base has no seer, so that wide quotients find their room. -/
namespace Ev
open PySem PySem.Spec PyProof.Rows L2
theorem look_app {K ex : PySem.W.Frag} {a : Addr} : (K ++ ex).lookup a = (K.lookup a).or (ex.lookup a) := by
  induction K with
  | nil => simp
  | cons p K ih =>
    obtain ⟨b, o⟩ := p
    simp only [List.cons_append, List.lookup]
    split
    · rfl
    · exact ih
theorem look_mem {a : Addr} {o : Obj} {ex : PySem.W.Frag} (h : ex.lookup a = some o) : (a, o) ∈ ex := by
  induction ex with
  | nil => cases h
  | cons p r ih =>
    obtain ⟨b, u⟩ := p
    rw [List.lookup_cons] at h
    cases e : a == b with
    | true =>
      rw [e] at h
      have e2 : a = b := eq_of_beq e
      have e3 : u = o := Option.some.inj h
      rw [e2, e3]
      exact List.mem_cons_self
    | false =>
      rw [e] at h
      exact List.mem_cons_of_mem _ (ih h)
theorem look_some {a : Addr} {ex : PySem.W.Frag} {o : Obj} (h : (a, o) ∈ ex) : ∃ u, ex.lookup a = some u := by
  induction ex with
  | nil => cases h
  | cons p r ih =>
    obtain ⟨b, u⟩ := p
    rw [List.lookup_cons]
    cases e : a == b with
    | true => exact ⟨u, rfl⟩
    | false =>
      rcases List.mem_cons.mp h with z | z
      · have e2 : a = b := congrArg Prod.fst z
        rw [e2, beq_self_eq_true] at e
        cases e
      · exact ih z
/-- the law's def, from a base without seer -/
def LawEv (l : PySem.W.OpenLaw) (w : World) (K : PySem.W.Frag) (k : Nat) (x : Str) (mg : Str → Option Value) (fa : Addr) (h : Heap) : Prop :=
  ∃ (fd : FuncData) (cs : List (Addr × Addr)) (T : Tb) (sp : SpW), (∀ p ∈ cs, h.get? p.2 = some { cls := .none, data := .fields #[] }) ∧ (∀ p ∈ cs, K.lookup p.2 = none) ∧ (∀ p ∈ cs, PySem.W.CodeHd h p.1 p.2) ∧ (∀ p ∈ T, ∃ c, (c, p.1) ∈ cs) ∧ (∀ (s : Shared) (u : Value), BindsTo s fd ⟨[u], []⟩ [(x, u)]) ∧
    (∀ (M : Mp) (wv : W) (ns : List Int) (Q : QK) (E : EK), (wv = .rol (ns.map W.int) ∨ ∃ a, wv = .ref a ∧ M a = some (.lst (ns.map W.int))) → (∀ z ∈ ns, Bd 1048576 z) → ns.length ≤ 1000 → (∀ M', Q (.bl true) M') → sp (fun _ => none) [wv] M Q E) ∧
    ∀ base : Heap, K.In base → base.Ns mainGlobals mg → base.NoSeer → (∀ p ∈ cs, LamX.TabB base mg p.1 p.2) → FnW l.prog w K mg base T k fa fd [x] sp
theorem reps_ints {K : PySem.W.Frag} {H : Hp} (ns : List Int) : Reps K H (ns.map W.int) (ns.map V.int) := by
  induction ns with
  | nil => rw [List.map_nil, List.map_nil]; exact reps_nil
  | cons z r ih => rw [List.map_cons, List.map_cons]; exact reps_cons rep_int ih
theorem walk_ev {l : PySem.W.OpenLaw} {n k : Nat} {q : Program} {loose : List Str} {XP : (Str → Option Value) → Heap → Prop} {YP : World → Heap → Prop} {d : DefRec} {K : Params → PySem.W.Frag} {x : Str} (hn : l.most = some n) (hn2 : n ≤ 1000) (hdf : d.params.defaults = []) (hr : Room k callerA) (hq : PyProof.Rows.importsNone q = true)
    (hY : ∀ (w : World) (h : Heap), YP w h → (K w.params).In h)
    (F : ∀ (w : World) (mg : Str → Option Value) (fa : Addr) (h : Heap), YP w h → (K w.params).In h → h.Ns mainGlobals mg → mg d.name = some (.ref fa) → LawEv l w (K w.params) k x mg fa h) :
    PySem.W.WalkO q loose XP YP l.row.toRowW d [] (fun f vs => PySem.call f vs) := by
  refine Att.attach_callB hn hdf fun w s₀ s₁ mg mb fa o pm cd doc a vs ns G Y ho hd hcd hmg hobj hints hlen hbits hg => ?_
  have KX := hY w _ Y
  obtain ⟨fd, cs, T, sp, hT, nT, C, hTc, hb, hsp, hF⟩ := F w mg fa _ Y KX G.T.g hmg
  have NS := G.T.seer hq
  obtain ⟨mc, ⟨oc, ec, pc, c1, c2, c3⟩, c4, c5⟩ := NS.statics
  obtain ⟨mm, ⟨om, em, pmm, m1, m2, m3⟩, m4⟩ := NS.mods
  obtain ⟨mi, ⟨oi, ei, pi, i1, i2, i3⟩, i4⟩ := NS.imp
  obtain ⟨mg', bm, ob, ⟨og, eg, pg, g1, g2, g3⟩, b1, b2, b3, b4⟩ := NS.main
  obtain ⟨bm2, ob2, d1, _, d2, _, _, d3⟩ := G.T.bmain
  have hmm : mg' "__builtins__" = mg "__builtins__" := by
    obtain ⟨og2, eg2, pg2, h1, h2, _, h4⟩ := G.T.g
    rw [g1] at h1
    cases h1
    rw [g2] at h2
    cases h2
    exact (g3.2 _).symm.trans (h4 _)
  have ebm : bm = bm2 := by
    rw [hmm, d1] at b1
    cases b1
    rfl
  subst ebm
  rw [b2] at d2
  cases d2
  obtain ⟨ex, hex⟩ : ∃ ex : PySem.W.Frag, ex = [(cStatics, oc), (sysModules, om), (builtinsNs, oi), (mainGlobals, og), (bm, ob)] := ⟨_, rfl⟩
  have exIn : ∀ b u, (b, u) ∈ ex → s₁.heap.get? b = some u := by
    intro b u hb
    rw [hex] at hb
    simp only [List.mem_cons, Prod.mk.injEq, List.not_mem_nil, or_false] at hb
    rcases hb with ⟨rfl, rfl⟩ | ⟨rfl, rfl⟩ | ⟨rfl, rfl⟩ | ⟨rfl, rfl⟩ | ⟨rfl, rfl⟩
    · exact c1
    · exact m1
    · exact i1
    · exact g1
    · exact b2
  have exNo : ∀ b u, (b, u) ∈ ex → (∀ its m, u.data ≠ .seq its m) ∧ u.data ≠ .fields #[] := by
    intro b u hb
    rw [hex] at hb
    simp only [List.mem_cons, Prod.mk.injEq, List.not_mem_nil, or_false] at hb
    rcases hb with ⟨rfl, rfl⟩ | ⟨rfl, rfl⟩ | ⟨rfl, rfl⟩ | ⟨rfl, rfl⟩ | ⟨rfl, rfl⟩
    · rw [c2]; exact ⟨fun _ _ z => (by cases z), fun z => (by cases z)⟩
    · rw [m2]; exact ⟨fun _ _ z => (by cases z), fun z => (by cases z)⟩
    · rw [i2]; exact ⟨fun _ _ z => (by cases z), fun z => (by cases z)⟩
    · rw [g2]; exact ⟨fun _ _ z => (by cases z), fun z => (by cases z)⟩
    · rw [d3]; exact ⟨fun _ _ z => (by cases z), fun z => (by cases z)⟩
  have cases' : ∀ b u, (K w.params ++ ex).lookup b = some u → (K w.params).lookup b = some u ∨ (b, u) ∈ ex := by
    intro b u e
    rw [look_app] at e
    cases hk : (K w.params).lookup b with
    | some u' =>
      rw [hk] at e
      cases e
      exact .inl rfl
    | none =>
      rw [hk] at e
      exact .inr (look_mem e)
  have KX2 : PySem.W.Frag.In (K w.params ++ ex) s₁.heap := fun b u e => (cases' b u e).elim (KX b u) (exIn b u)
  have up : ∀ base : Heap, PySem.W.Frag.In (K w.params ++ ex) base → (K w.params).In base := fun base h b u e => h b u (by rw [look_app, e]; rfl)
  have getE : ∀ base : Heap, PySem.W.Frag.In (K w.params ++ ex) base → ∀ b u, (b, u) ∈ ex → base.get? b = some u := fun base h b u hm => by
    obtain ⟨u', e⟩ := look_some hm
    have e2 : ∃ u2, (K w.params ++ ex).lookup b = some u2 := by
      rw [look_app, e]
      cases (K w.params).lookup b with
      | some v => exact ⟨v, rfl⟩
      | none => exact ⟨u', rfl⟩
    obtain ⟨u2, e2⟩ := e2
    have z := KX2 b u2 e2
    rw [exIn b u hm] at z
    cases z
    exact h b u e2
  have mems : (cStatics, oc) ∈ ex ∧ (sysModules, om) ∈ ex ∧ (builtinsNs, oi) ∈ ex ∧ (mainGlobals, og) ∈ ex ∧ (bm, ob) ∈ ex := by
    rw [hex]
    simp
  have seer : ∀ base : Heap, PySem.W.Frag.In (K w.params ++ ex) base → base.NoSeer := fun base h =>
    ⟨⟨mc, ⟨oc, ec, pc, getE base h _ _ mems.1, c2, c3⟩, c4, c5⟩, ⟨mm, ⟨om, em, pmm, getE base h _ _ mems.2.1, m2, m3⟩, m4⟩, ⟨mi, ⟨oi, ei, pi, getE base h _ _ mems.2.2.1, i2, i3⟩, i4⟩, ⟨mg', bm, ob, ⟨og, eg, pg, getE base h _ _ mems.2.2.2.1, g2, g3⟩, b1, getE base h _ _ mems.2.2.2.2, b3, b4⟩⟩
  have nT2 : ∀ p ∈ cs, (K w.params ++ ex).lookup p.2 = none := fun p hp => by
    cases e : (K w.params ++ ex).lookup p.2 with
    | none => rfl
    | some u =>
      rcases cases' _ _ e with z | z
      · rw [nT p hp] at z
        cases z
      · have z2 := exIn _ _ z
        rw [hT p hp] at z2
        cases z2
        exact absurd rfl (exNo _ _ z).2
  let SP : Sp := fun vs H Q E => (∃ a, vs = [.ref a] ∧ (∀ p ∈ cs, H p.2 = some (.tbl #[])) ∧ SqL (K w.params) H a (ns.map V.int)) ∧ ∀ H', Q (.bl true) H'
  refine LamX.law_callTs (K := K w.params ++ ex) (CX := L2N.CX l.prog w) (sp := SP) (cs := cs) (fd := fd) (x := x) KX2 G.T.g G.T.b G.T.builtins G.T.nolimit hg hT nT2 C G.T.bmain hobj hints (Nat.le_trans hlen (Nat.le_trans hn2 line1000)) hr ?_ hb (fun H hH hS => ⟨⟨a, rfl, hH, ?_⟩, fun _ => rfl⟩) fun H e s' z => ?_
  · intro base hK hG hTB
    have FW := hF base (up base hK) hG (seer base hK) hTB
    refine ⟨fun vs H Q E ⟨⟨a, e, _⟩, _⟩ => (by rw [e]; rfl), fun A outer s H args us vs2 Q E hr e0 hbd rv ⟨⟨a, e, hH, hS⟩, hQ⟩ => ?_⟩
    subst e
    have e0' : Env0 l.prog w (K w.params) mg base A outer s H := ⟨e0.frames, ⟨up base hK, e0.mod.glob, e0.mod.blt, e0.mod.nolimit⟩, e0.bs, e0.bsz, e0.funs, e0.frf, e0.hok, e0.bare⟩
    have tabs : LamX.Tabs T H := fun p hp => by
      obtain ⟨c, hc⟩ := hTc p hp
      exact ⟨#[], hH _ hc, by simp [TriplesOk], fun pos cv z => by simp [codeAmong] at z⟩
    have bds : ∀ z ∈ ns, Bd 1048576 z := fun z hz => bd_bits (hbits z hz)
    have len : ns.length ≤ 1000 := Nat.le_trans hlen hn2
    have fin : ∀ (wv : W) (M : Mp), Rep (K w.params) H wv (.ref a) → RelH (K w.params) H T M → (wv = .rol (ns.map W.int) ∨ ∃ a, wv = .ref a ∧ M a = some (.lst (ns.map W.int))) → codeAny (model l.prog w) A (.call (.ref fa) args) (CR (L2N.CX l.prog w) outer l.prog w H s Q E) s := fun wv M rp rh hw => by
      refine codeAny_mono (FW.run A outer s H args us [.ref a] [wv] (fun _ => none) M (fun w' M' => w' = .bl true) (fun _ _ _ => False) hr e0' hbd rv (reps_cons rp reps_nil) rh (fun g tl z => by cases z) rfl (hsp M wv ns _ _ hw bds len fun _ => rfl)) fun r s' hh => ?_
      cases r with
      | error ev =>
        obtain ⟨a', B, H', cls, dd, _, _, _, _, _, _, _, C', p', M', _, _, _, ff⟩ := hh
        exact False.elim ff
      | ok fl =>
        cases fl with
        | ret u =>
          obtain ⟨v, H', os, bare, un, hok, rl, w', M', h1, h2, h3⟩ := hh
          subst h3
          refine ⟨v, H', os, bare, un, hok, rl, ?_⟩
          rw [h1.bl]
          exact hQ H'
        | next => exact False.elim hh
        | brk => exact False.elim hh
        | cont => exact False.elim hh
    rcases hS with (h1 | ⟨oo, h1⟩) | h1
    · refine fin (.ref a) (put (fun _ => none) a (.lst (ns.map W.int))) rep_ref ⟨fun b o e => ?_, tabs⟩ (.inr ⟨a, rfl, put_same⟩)
      unfold put at e
      split at e
      · rename_i z
        cases e
        rw [z]
        exact ⟨_, h1, reps_ints ns⟩
      · cases e
    · refine fin (.rol (ns.map W.int)) (fun _ => none) (by unfold Rep; exact ⟨a, _, rfl, ⟨.inl (.inr ⟨oo, h1⟩), fun H' hk => .inl (.inr ⟨oo, hk _ _ _ h1⟩)⟩, reps_ints ns⟩) ⟨fun b o e => (by cases e), tabs⟩ (.inl rfl)
    · exact fin (.rol (ns.map W.int)) (fun _ => none) (by unfold Rep; exact ⟨a, _, rfl, ⟨.inr h1, fun H' hk => .inr h1⟩, reps_ints ns⟩) ⟨fun b o e => (by cases e), tabs⟩ (.inl rfl)
  · rcases hS with h1 | ⟨o, its, m, e1, e2, e3, e4, e5, e6⟩
    · exact .inl h1
    · rcases cases' _ _ e1 with z | z
      · exact .inr ⟨o, its, m, z, e2, e3, e4, e5, e6⟩
      · exact absurd e4 ((exNo _ _ z).1 _ _)
  · obtain ⟨a', B, H', cls, dd, _, _, _, _, _, _, _, ff⟩ := z
    exact ff
end Ev

/-! Ev, part P: the facts of the written part, gathered. -/
namespace Ev
open PySem PySem.Spec PyProof.Rows L2
/-- which of the classes an own error is an instance of: itself and the root r -/
def kitsB (K : PySem.W.Frag) (i r : Nat) (C : Addr) (cls : List Addr) (n : Nat) : Bool :=
  (List.range n).all fun j => PySem.W.kitOne K (.ref C) (.ref (cls.getD j 0)) == some (decide (j = i) || decide (j = r)) && PySem.W.exmOne K (.ref C) (.ref (cls.getD j 0)) == some (decide (j = i) || decide (j = r))
theorem kits_at {K : PySem.W.Frag} {i r : Nat} {C : Addr} {cls : List Addr} {n : Nat} (h : kitsB K i r C cls n = true) (j : Nat) (hj : j < n) : (PySem.W.kitOne K (.ref C) (.ref (cls.getD j 0)) == some (decide (j = i) || decide (j = r)) && PySem.W.exmOne K (.ref C) (.ref (cls.getD j 0)) == some (decide (j = i) || decide (j = r))) = true :=
  List.all_eq_true.mp h j (List.mem_range.mpr hj)
theorem kits_one {K : PySem.W.Frag} {i r : Nat} {C : Addr} {cls : List Addr} {n : Nat} (h : kitsB K i r C cls n = true) : ∀ j, j < n → PySem.W.kitOne K (.ref C) (.ref (cls.getD j 0)) = some (decide (j = i) || decide (j = r)) := fun j hj => by
  have z := kits_at h j hj
  rw [Bool.and_eq_true] at z
  exact eq_of_beq z.1
theorem kits_exm {K : PySem.W.Frag} {i r : Nat} {C : Addr} {cls : List Addr} {n : Nat} (h : kitsB K i r C cls n = true) : ∀ j, j < n → PySem.W.exmOne K (.ref C) (.ref (cls.getD j 0)) = some (decide (j = i) || decide (j = r)) := fun j hj => by
  have z := kits_at h j hj
  rw [Bool.and_eq_true] at z
  exact eq_of_beq z.2
theorem funC_mk {K : PySem.W.Frag} {x qual : Str} {st : Stmt} {f c : Addr} {oc : Value} {od an : Option Addr} {osl : Array (Option Value)} {kV doc pm ct : Value} (l : K.lookup f = some ⟨oc, od, .func (PySem.W.fnOf x qual (defArgs st) (defBody st) (defScope st) .none kV doc pm an (.ref c) ct), osl⟩)
    (h : PySem.W.codeIn K (.ref c) qual = true) (k : PySem.W.keepIn K (.ref f) = true) : FunC K x qual st f (PySem.W.fnOf x qual (defArgs st) (defBody st) (defScope st) .none kV doc pm an (.ref c) ct) c := ⟨⟨oc, od, kV, doc, pm, an, ct, osl, rfl, l, h⟩, k⟩
/-- the table that a code object names -/
def TbIn (K : PySem.W.Frag) (c P : Addr) : Prop := ∃ (o : Obj) (vs : Array Value), K.lookup c = some o ∧ o.data = .fields vs ∧ vs[11]? = some (.ref P)
theorem tbIn_mk {K : PySem.W.Frag} {c P : Addr} {cl : Value} {od : Option Addr} {sl : Array (Option Value)} {vs : Array Value} (l : K.lookup c = some ⟨cl, od, .fields vs, sl⟩) (r : vs[11]? = some (.ref P)) : TbIn K c P := ⟨_, vs, l, rfl, r⟩
end Ev

/-! Ev, part X: plain arithmetic: bits, lowest terms, whole roots, places. No program in sight. -/
namespace Ev
open PySem
/-! ### bits -/
theorem sq_nonneg (a : Int) : 0 ≤ a * a := by
  rcases Int.le_total 0 a with z | z
  · exact Int.mul_nonneg z z
  · have := Int.mul_nonneg (show 0 ≤ -a by omega) (show 0 ≤ -a by omega)
    rw [Int.neg_mul_neg] at this
    exact this
theorem bits_pos {i : Int} (h : i ≠ 0) : Builtin.Int.intBits i = i.natAbs.log2 + 1 := by
  unfold Builtin.Int.intBits
  rw [if_neg (by simpa using h)]
theorem bits_rng {i : Int} (h : i ≠ 0) : 2 ^ (Builtin.Int.intBits i - 1) ≤ i.natAbs ∧ i.natAbs < 2 ^ Builtin.Int.intBits i ∧ 1 ≤ Builtin.Int.intBits i := by
  rw [bits_pos h]
  exact ⟨Nat.log2_self_le (by omega), Nat.lt_log2_self, by omega⟩
theorem bits_pow (t : Nat) : Builtin.Int.intBits (2 ^ t) = t + 1 := by
  have h : (2 : Int) ^ t ≠ 0 := Int.ne_of_gt (Int.pow_pos (by decide))
  rw [bits_pos h, Int.natAbs_pow]
  show Nat.log2 (2 ^ t) + 1 = t + 1
  rw [Nat.log2_two_pow]
/-! ### the twos of a number -/
theorem land_even_odd (a b : Nat) : (2 * a) &&& (2 * b + 1) = 2 * (a &&& b) := by
  apply Nat.eq_of_testBit_eq
  intro i
  cases i with
  | zero => simp [Nat.testBit_and, Nat.testBit_zero]
  | succ i =>
    rw [Nat.testBit_and, Nat.testBit_succ, Nat.testBit_succ, Nat.testBit_succ, show 2 * a / 2 = a by omega, show (2 * b + 1) / 2 = b by omega, show 2 * (a &&& b) / 2 = a &&& b by omega, Nat.testBit_and]
theorem land_odd_even (a b : Nat) : (2 * a + 1) &&& (2 * b) = 2 * (a &&& b) := by rw [Nat.and_comm, land_even_odd, Nat.and_comm]
theorem land_pred (t : Nat) : ∀ {m : Nat}, (2 ^ t * (2 * m + 1)) &&& (2 ^ t * (2 * m + 1) - 1) = 2 ^ t * (2 * m) := by
  induction t with
  | zero =>
    intro m
    rw [Nat.pow_zero, Nat.one_mul, Nat.one_mul, show 2 * m + 1 - 1 = 2 * m by omega, land_odd_even, Nat.and_self]
  | succ t ih =>
    intro m
    have hp : 0 < 2 ^ t * (2 * m + 1) := Nat.mul_pos (Nat.pow_pos (by decide)) (by omega)
    have e1 : 2 ^ (t + 1) * (2 * m + 1) = 2 * (2 ^ t * (2 * m + 1)) := by rw [Nat.pow_succ, Nat.mul_comm (2 ^ t) 2, Nat.mul_assoc]
    have e2 : 2 ^ (t + 1) * (2 * m) = 2 * (2 ^ t * (2 * m)) := by rw [Nat.pow_succ, Nat.mul_comm (2 ^ t) 2, Nat.mul_assoc]
    rw [e1, e2, ← ih (m := m)]
    generalize 2 ^ t * (2 * m + 1) = N at hp
    rw [show 2 * N - 1 = 2 * (N - 1) + 1 by omega, land_even_odd]
theorem twos (N : Nat) (h : 0 < N) : ∃ t m, N = 2 ^ t * (2 * m + 1) := by
  induction N using Nat.strongRecOn with
  | ind N ih =>
    by_cases ho : N % 2 = 1
    · exact ⟨0, N / 2, by rw [Nat.pow_zero, Nat.one_mul]; omega⟩
    · obtain ⟨t, m, e⟩ := ih (N / 2) (by omega) (by omega)
      refine ⟨t + 1, m, ?_⟩
      rw [Nat.pow_succ, Nat.mul_comm (2 ^ t) 2, Nat.mul_assoc, ← e]
      omega
theorem and_neg {n : Int} (h : n ≠ 0) : Builtin.bitAnd n (-n) = ((n.natAbs - (n.natAbs &&& (n.natAbs - 1)) : Nat) : Int) := by
  unfold Builtin.bitAnd
  have hl : n.natAbs &&& (n.natAbs - 1) ≤ n.natAbs := Nat.and_le_left
  by_cases hp : 0 ≤ n
  · rw [decide_eq_true hp, decide_eq_false (show ¬ 0 ≤ -n by omega)]
    dsimp only
    have e1 : n.toNat = n.natAbs := by omega
    have e2 : (Builtin.bitNot (-n)).toNat = n.natAbs - 1 := by unfold Builtin.bitNot; omega
    rw [e1, e2]
    omega
  · rw [decide_eq_false hp, decide_eq_true (show 0 ≤ -n by omega)]
    dsimp only
    have e1 : (-n).toNat = n.natAbs := by omega
    have e2 : (Builtin.bitNot n).toNat = n.natAbs - 1 := by unfold Builtin.bitNot; omega
    rw [e1, e2]
    omega
/-- the number of twos in n -/
theorem tt_eq {n : Int} {t m : Nat} (e : n.natAbs = 2 ^ t * (2 * m + 1)) : (Builtin.Int.intBits (Builtin.bitAnd n (-n)) : Int) - 1 = t := by
  have hp : 0 < 2 ^ t := Nat.pow_pos (by decide)
  have h0 : n ≠ 0 := fun z => by
    rw [z] at e
    have : 0 < 2 ^ t * (2 * m + 1) := Nat.mul_pos hp (by omega)
    simp at e
    omega
  rw [and_neg h0, e, land_pred]
  have e2 : 2 ^ t * (2 * m + 1) - 2 ^ t * (2 * m) = 2 ^ t := by rw [Nat.mul_add, Nat.mul_one]; omega
  rw [e2]
  have e3 : ((2 ^ t : Nat) : Int) = 2 ^ t := by rw [Int.natCast_pow]; rfl
  rw [e3, bits_pow]
  omega
/-- d & (d - 1) = 0 tells a power of two -/
theorem pow_of_and {d : Int} (h : 0 < d) (e : Builtin.bitAnd d (d - 1) = 0) : ∃ t : Nat, d.natAbs = 2 ^ t := by
  obtain ⟨t, m, ht⟩ := twos d.natAbs (by omega)
  unfold Builtin.bitAnd at e
  rw [decide_eq_true (show 0 ≤ d by omega), decide_eq_true (show 0 ≤ d - 1 by omega)] at e
  dsimp only at e
  have e1 : d.toNat = d.natAbs := by omega
  have e2 : (d - 1).toNat = d.natAbs - 1 := by omega
  rw [e1, e2, ht, land_pred] at e
  have hp : 0 < 2 ^ t := Nat.pow_pos (by decide)
  have e3 : 2 ^ t * (2 * m) = 0 := by omega
  rcases Nat.mul_eq_zero.mp e3 with z | z
  · omega
  · have : m = 0 := by omega
    subst this
    exact ⟨t, by rw [ht]; omega⟩
/-! ### lowest terms -/
structure Low (n d a b : Int) : Prop where
  b1 : 1 ≤ b
  eq : a * d = n * b
  cop : a.natAbs.gcd b.natAbs = 1
theorem low_unique {n d a b N D s : Int} (h : Low n d a b) (hN : n = N * s) (hD : d = D * s) (s1 : 1 ≤ s) (D1 : 1 ≤ D) (c : N.natAbs.gcd D.natAbs = 1) : a = N ∧ b = D := by
  have b1 := h.b1
  have e : a * D = N * b := by
    have e1 := h.eq
    rw [hN, hD] at e1
    have e2 : (a * D) * s = (N * b) * s := by grind
    exact Int.eq_of_mul_eq_mul_right (by omega) e2
  have e' : a.natAbs * D.natAbs = N.natAbs * b.natAbs := by
    have := congrArg Int.natAbs e
    rw [Int.natAbs_mul, Int.natAbs_mul] at this
    exact this
  have d1 : b.natAbs ∣ D.natAbs := by
    have c' : b.natAbs.Coprime a.natAbs := by rw [Nat.coprime_comm]; exact h.cop
    exact c'.dvd_of_dvd_mul_left ⟨N.natAbs, by rw [e', Nat.mul_comm]⟩
  have d2 : D.natAbs ∣ b.natAbs := by
    have c' : D.natAbs.Coprime N.natAbs := by rw [Nat.coprime_comm]; exact c
    exact c'.dvd_of_dvd_mul_left ⟨a.natAbs, by rw [← e', Nat.mul_comm]⟩
  have eb : b.natAbs = D.natAbs := Nat.dvd_antisymm d1 d2
  have eb2 : b = D := by omega
  refine ⟨?_, eb2⟩
  rw [eb2] at e
  exact Int.eq_of_mul_eq_mul_right (by omega) e
theorem low_zero {d : Int} (h : 1 ≤ d) : Low 0 d 0 1 := ⟨by decide, by omega, by decide⟩
/-- both divided by what divides both -/
theorem Low.up {n d a b s : Int} (h : Low n d a b) : Low (n * s) (d * s) a b := ⟨h.b1, by have := h.eq; grind, h.cop⟩
theorem low_gcd {n d : Int} (hd : 1 ≤ d) : Low n d (n / (Int.gcd n d : Int)) (d / (Int.gcd n d : Int)) := by
  have gp : 0 < Int.gcd n d := Int.gcd_pos_of_ne_zero_right _ (by omega)
  have c1 : (Int.gcd n d : Int) ∣ n := Int.gcd_dvd_left ..
  have c2 : (Int.gcd n d : Int) ∣ d := Int.gcd_dvd_right ..
  refine ⟨?_, ?_, Int.gcd_ediv_gcd_ediv_gcd gp⟩
  · have := Int.le_of_dvd (by omega) c2
    have := Int.ediv_pos_of_pos_of_dvd (show 0 < d by omega) (by omega) c2
    omega
  · obtain ⟨x, hx⟩ := c1
    obtain ⟨y, hy⟩ := c2
    have g0 : (Int.gcd n d : Int) ≠ 0 := by omega
    generalize (Int.gcd n d : Int) = g at hx hy g0
    rw [hx, hy, Int.mul_ediv_cancel_left _ g0, Int.mul_ediv_cancel_left _ g0]
    grind
theorem low_self {n d : Int} (hd : 1 ≤ d) (c : n.natAbs.gcd d.natAbs = 1) : Low n d n d := ⟨hd, by grind, c⟩
theorem cop_odd_pow (k t : Nat) : (2 * k + 1).gcd (2 ^ t) = 1 := by
  have h : Nat.Coprime (2 * k + 1) 2 := by
    show Nat.gcd (2 * k + 1) 2 = 1
    rw [Nat.gcd_comm, Nat.gcd_rec, show (2 * k + 1) % 2 = 1 by omega]
    decide
  exact h.pow_right t
/-- what lowest divides out -/
theorem low_twos {n d : Int} {tn mn td md s : Nat} (en : n.natAbs = 2 ^ tn * (2 * mn + 1)) (ed : d.natAbs = 2 ^ td * (2 * md + 1)) (hd : 1 ≤ d) (hs : s = if td < tn then td else tn) :
    ∃ n' d' : Int, n = n' * 2 ^ s ∧ d = d' * 2 ^ s ∧ 1 ≤ d' ∧ n / 2 ^ s = n' ∧ d / 2 ^ s = d' ∧ (n'.natAbs % 2 = 1 ∨ d'.natAbs % 2 = 1) := by
  have sn : s ≤ tn := by rw [hs]; split <;> omega
  have sd : s ≤ td := by rw [hs]; split <;> omega
  have p0 : (0 : Int) < 2 ^ s := Int.pow_pos (by decide)
  have dn : (2 : Int) ^ s ∣ n := by
    rw [← Int.natAbs_dvd_natAbs, Int.natAbs_pow]
    exact ⟨2 ^ (tn - s) * (2 * mn + 1), by rw [en, ← Nat.mul_assoc]; show _ = 2 ^ s * 2 ^ (tn - s) * _; rw [← Nat.pow_add]; congr 2; omega⟩
  have dd : (2 : Int) ^ s ∣ d := by
    rw [← Int.natAbs_dvd_natAbs, Int.natAbs_pow]
    exact ⟨2 ^ (td - s) * (2 * md + 1), by rw [ed, ← Nat.mul_assoc]; show _ = 2 ^ s * 2 ^ (td - s) * _; rw [← Nat.pow_add]; congr 2; omega⟩
  obtain ⟨x, hx⟩ := dn
  obtain ⟨y, hy⟩ := dd
  have nx : n.natAbs = 2 ^ s * x.natAbs := by rw [hx, Int.natAbs_mul, Int.natAbs_pow]; rfl
  have ny : d.natAbs = 2 ^ s * y.natAbs := by rw [hy, Int.natAbs_mul, Int.natAbs_pow]; rfl
  have ps : 0 < 2 ^ s := Nat.pow_pos (by decide)
  refine ⟨x, y, by rw [hx, Int.mul_comm], by rw [hy, Int.mul_comm], ?_, by rw [hx, Int.mul_ediv_cancel_left _ (by omega)], by rw [hy, Int.mul_ediv_cancel_left _ (by omega)], ?_⟩
  · have : 0 < y := by
      rcases Int.lt_trichotomy y 0 with z | z | z
      · have := Int.mul_neg_of_pos_of_neg p0 z
        omega
      · rw [z] at hy; omega
      · exact z
    omega
  · by_cases hc : td < tn
    · rw [if_pos hc] at hs
      right
      subst hs
      have : y.natAbs = 2 * md + 1 := Nat.eq_of_mul_eq_mul_left ps (by rw [← ny, ed])
      omega
    · rw [if_neg hc] at hs
      left
      subst hs
      have : x.natAbs = 2 * mn + 1 := Nat.eq_of_mul_eq_mul_left ps (by rw [← nx, en])
      omega
theorem low_pow {n d : Int} {t : Nat} (hd : 1 ≤ d) (e : d.natAbs = 2 ^ t) (o : n.natAbs % 2 = 1 ∨ d.natAbs % 2 = 1) : Low n d n d := by
  refine low_self hd ?_
  rcases o with o | o
  · rw [e, show n.natAbs = 2 * (n.natAbs / 2) + 1 by omega]
    exact cop_odd_pow _ _
  · cases t with
    | zero => rw [e, Nat.pow_zero, Nat.gcd_one_right]
    | succ t => rw [e, Nat.pow_succ] at o; omega
theorem gcd_step {a b : Int} (hb : 0 < b) : Int.gcd b (a.fmod b) = Int.gcd a b := by
  rw [Int.fmod_eq_emod_of_nonneg a (by omega), Int.gcd_comm a b]
  have e := Int.mul_ediv_add_emod a b
  have z := Int.gcd_add_mul_left_right b (a % b) (a / b)
  rw [Int.add_comm, e] at z
  exact z.symm
/-! ### the whole root -/
/-- r is the whole root of n -/
def IsRoot (n r : Int) : Prop := 0 ≤ r ∧ r * r ≤ n ∧ n < (r + 1) * (r + 1)
theorem root_over {g n : Int} (hg : 1 ≤ g) (hn : 0 ≤ n) : n < (Int.fdiv (g + Int.fdiv n g) 2 + 1) * (Int.fdiv (g + Int.fdiv n g) 2 + 1) := by
  rw [Int.fdiv_eq_ediv_of_nonneg _ (by decide : (0 : Int) ≤ 2), Int.fdiv_eq_ediv_of_nonneg n (by omega)]
  have q0 : 0 ≤ n / g := Int.ediv_nonneg hn (by omega)
  have e := Int.mul_ediv_add_emod n g
  have m := Int.emod_lt_of_pos n (show 0 < g by omega)
  generalize n / g = q at q0 e
  have h : n < g * (q + 1) := by rw [Int.mul_add, Int.mul_one]; omega
  obtain ⟨b, hb⟩ : ∃ b, b = (g + q) / 2 := ⟨_, rfl⟩
  rw [← hb]
  have h3 := sq_nonneg (g - (q + 1))
  have h4 : (g + q + 1) * (g + q + 1) ≤ (2 * b + 2) * (2 * b + 2) := Int.mul_le_mul (by omega) (by omega) (by omega) (by omega)
  grind
theorem root_stop {g n : Int} (hg : 1 ≤ g) (hn : 0 ≤ n) (h : ¬ Int.fdiv (g + Int.fdiv n g) 2 < g) : g * g ≤ n := by
  rw [Int.fdiv_eq_ediv_of_nonneg _ (by decide : (0 : Int) ≤ 2), Int.fdiv_eq_ediv_of_nonneg n (by omega)] at h
  have e := Int.mul_ediv_add_emod n g
  have m := Int.emod_nonneg n (show g ≠ 0 by omega)
  have hq : g ≤ n / g := by omega
  have := Int.mul_le_mul_of_nonneg_left hq (show 0 ≤ g by omega)
  omega
theorem root_pos {g n : Int} (hg : 1 ≤ g) (hn : 1 ≤ n) : 1 ≤ Int.fdiv (g + Int.fdiv n g) 2 := by
  rw [Int.fdiv_eq_ediv_of_nonneg _ (by decide : (0 : Int) ≤ 2), Int.fdiv_eq_ediv_of_nonneg n (by omega)]
  have q0 : 0 ≤ n / g := Int.ediv_nonneg (by omega) (by omega)
  by_cases h : g = 1
  · subst h
    rw [Int.ediv_one]
    omega
  · omega
theorem root_unique {n r k : Int} (h : IsRoot n r) (k0 : 0 ≤ k) (h1 : k * k ≤ n) (h2 : n < (k + 1) * (k + 1)) : r = k := by
  obtain ⟨r0, r1, r2⟩ := h
  rcases Int.lt_trichotomy r k with z | z | z
  · have := Int.mul_le_mul (show r + 1 ≤ k by omega) (show r + 1 ≤ k by omega) (by omega) (by omega)
    omega
  · exact z
  · have := Int.mul_le_mul (show k + 1 ≤ r by omega) (show k + 1 ≤ r by omega) (by omega) (by omega)
    omega
theorem root_first {n : Int} (h : 2 ≤ n) {j : Nat} (hj : (j : Int) = Int.fdiv ((Builtin.Int.intBits n : Int) + 1) 2) : n < (2 ^ j + 1) * (2 ^ j + 1) := by
  rw [Int.fdiv_eq_ediv_of_nonneg _ (by decide : (0 : Int) ≤ 2)] at hj
  have hb := (bits_rng (show n ≠ 0 by omega)).2.1
  have h2 : Builtin.Int.intBits n ≤ j + j := by omega
  have h3 : n.natAbs < 2 ^ (j + j) := Nat.lt_of_lt_of_le hb (Nat.pow_le_pow_right (by decide) h2)
  rw [Nat.pow_add] at h3
  have h4 : n < (2 : Int) ^ j * 2 ^ j := by
    have e : ((2 ^ j : Nat) : Int) = 2 ^ j := by rw [Int.natCast_pow]; rfl
    rw [← e, ← Int.natCast_mul]
    omega
  have p : (0 : Int) < 2 ^ j := Int.pow_pos (by decide)
  generalize (2 : Int) ^ j = p2 at h4 p
  grind
/-! ### places: k units and a part -/
/-- where of size between point, half: 0 at, 1 below the half, 2 the half, 3 above -/
def whF (size point half : Int) : Int := if size = point then 0 else if size < half then 1 else if size = half then 2 else 3
/-- c is the place of N / D -/
structure Plc (N D c w : Int) : Prop where
  c0 : 0 ≤ c
  lo : c * D ≤ N
  hi : N < (c + 1) * D
  wh : w = whF (2 * N) (2 * c * D) ((2 * c + 1) * D)
/-- c is the place of the root of N / D -/
structure PlcR (N D c w : Int) : Prop where
  c0 : 0 ≤ c
  lo : c * c * D ≤ N
  hi : N < (c + 1) * (c + 1) * D
  wh : w = whF (4 * N) (2 * c * (2 * c) * D) ((2 * c + 1) * (2 * c + 1) * D)
theorem plc_div {N D : Int} (hN : 0 ≤ N) (hD : 1 ≤ D) : Plc N D (N.fdiv D) (whF (2 * N.fmod D) 0 D) := by
  rw [Int.fdiv_eq_ediv_of_nonneg _ (by omega), Int.fmod_eq_emod_of_nonneg _ (by omega)]
  have e := Int.mul_ediv_add_emod N D
  have m0 := Int.emod_nonneg N (show D ≠ 0 by omega)
  have m1 := Int.emod_lt_of_pos N (show 0 < D by omega)
  have q0 : 0 ≤ N / D := Int.ediv_nonneg hN (by omega)
  generalize N / D = q at e q0
  generalize N % D = r at e m0 m1
  subst e
  refine ⟨q0, by grind, by grind, ?_⟩
  unfold whF
  have i1 : (2 * r = 0) ↔ (2 * (D * q + r) = 2 * q * D) := by constructor <;> intro h <;> grind
  have i2 : (2 * r < D) ↔ (2 * (D * q + r) < (2 * q + 1) * D) := by constructor <;> intro h <;> grind
  have i3 : (2 * r = D) ↔ (2 * (D * q + r) = (2 * q + 1) * D) := by constructor <;> intro h <;> grind
  simp only [i1, i2, i3]
theorem plc_root {N D c : Int} (hD : 1 ≤ D) (h : IsRoot (N.fdiv D) c) : PlcR N D c (whF (4 * N) (2 * c * (2 * c) * D) ((2 * c + 1) * (2 * c + 1) * D)) := by
  obtain ⟨c0, c1, c2⟩ := h
  rw [Int.fdiv_eq_ediv_of_nonneg _ (by omega)] at c1 c2
  have e := Int.mul_ediv_add_emod N D
  have m0 := Int.emod_nonneg N (show D ≠ 0 by omega)
  have m1 := Int.emod_lt_of_pos N (show 0 < D by omega)
  generalize N / D = q at e c1 c2
  generalize N % D = r at e m0 m1
  refine ⟨c0, ?_, ?_, rfl⟩
  · have := Int.mul_le_mul_of_nonneg_right c1 (show 0 ≤ D by omega)
    grind
  · have := Int.mul_le_mul_of_nonneg_right (show q + 1 ≤ (c + 1) * (c + 1) by omega) (show 0 ≤ D by omega)
    grind
/-! ### the power of two at or below -/
theorem two_cast (t : Nat) : ((2 ^ t : Nat) : Int) = 2 ^ t := by rw [Int.natCast_pow]; rfl
theorem two_pos (t : Nat) : (0 : Int) < 2 ^ t := Int.pow_pos (by decide)
def PW (n d F : Int) : Prop := d * 2 ^ F.toNat ≤ n * 2 ^ (-F).toNat ∧ n * 2 ^ (-F).toNat < 2 * (d * 2 ^ F.toNat)
theorem pw_bits {n d : Int} (hn : 1 ≤ n) (hd : 1 ≤ d) {P : Int} (hP : P = (Builtin.Int.intBits n : Int) - (Builtin.Int.intBits d : Int)) : n * 2 ^ (-P).toNat < 2 * (d * 2 ^ P.toNat) ∧ d * 2 ^ P.toNat < 2 * (n * 2 ^ (-P).toNat) := by
  obtain ⟨n1, n2, n3⟩ := bits_rng (show n ≠ 0 by omega)
  obtain ⟨d1, d2, d3⟩ := bits_rng (show d ≠ 0 by omega)
  have key : ∀ {x y : Int} {a b e f : Nat}, 1 ≤ x → 1 ≤ y → x.natAbs < 2 ^ a → 2 ^ (b - 1) ≤ y.natAbs → 1 ≤ b → a + f = b + e → x * 2 ^ f < 2 * (y * 2 ^ e) := by
    intro x y a b e f hx hy h1 h2 hb he
    have c1 : x < 2 ^ a := by rw [← two_cast]; omega
    have c2 : (2 : Int) ^ b ≤ 2 * y := by
      obtain ⟨b', rfl⟩ : ∃ b', b = b' + 1 := ⟨b - 1, by omega⟩
      rw [Nat.add_sub_cancel] at h2
      rw [Int.pow_succ, ← two_cast]
      omega
    have c3 : x * 2 ^ f < 2 ^ a * 2 ^ f := Int.mul_lt_mul_of_pos_right c1 (two_pos f)
    have c4 : (2 : Int) ^ b * 2 ^ e ≤ 2 * y * 2 ^ e := Int.mul_le_mul_of_nonneg_right c2 (Int.le_of_lt (two_pos e))
    rw [← Int.pow_add, he, Int.pow_add] at c3
    rw [← Int.mul_assoc]
    exact Int.lt_of_lt_of_le c3 c4
  exact ⟨key hn hd n2 d1 d3 (by omega), key hd hn d2 n1 n3 (by omega)⟩
theorem pw_less {n d P : Int} (h : n * 2 ^ (-P).toNat < d * 2 ^ P.toNat) (h2 : d * 2 ^ P.toNat < 2 * (n * 2 ^ (-P).toNat)) : PW n d (P - 1) := by
  unfold PW
  by_cases hp : 1 ≤ P
  · obtain ⟨e, he⟩ : ∃ e : Nat, P = (e : Int) + 1 := ⟨(P - 1).toNat, by omega⟩
    subst he
    rw [show ((e : Int) + 1 - 1).toNat = e by omega, show (-((e : Int) + 1 - 1)).toNat = 0 by omega, Int.pow_zero, Int.mul_one]
    rw [show ((e : Int) + 1).toNat = e + 1 by omega, show (-((e : Int) + 1)).toNat = 0 by omega, Int.pow_zero, Int.mul_one, Int.pow_succ] at h h2
    constructor <;> grind
  · obtain ⟨f, hf⟩ : ∃ f : Nat, P = -(f : Int) := ⟨(-P).toNat, by omega⟩
    subst hf
    rw [show (-(f : Int) - 1).toNat = 0 by omega, show (-(-(f : Int) - 1)).toNat = f + 1 by omega, Int.pow_zero, Int.mul_one, Int.pow_succ]
    rw [show (-(f : Int)).toNat = 0 by omega, show (- -(f : Int)).toNat = f by omega, Int.pow_zero, Int.mul_one] at h h2
    constructor <;> grind
theorem pw_div {n d F k G : Int} (hn : 1 ≤ n) (hd : 1 ≤ d) (h : PW n d F) (hk : k = 1 ∨ k = 2) (hG : G = F.fdiv k * k) : d * 2 ^ G.toNat ≤ n * 2 ^ (-G).toNat ∧ n * 2 ^ (-G).toNat < d * 2 ^ G.toNat * 2 ^ k.toNat := by
  have base : ∀ j : Nat, 1 ≤ j → d * 2 ^ F.toNat ≤ n * 2 ^ (-F).toNat ∧ n * 2 ^ (-F).toNat < d * 2 ^ F.toNat * 2 ^ j := fun j hj => by
    refine ⟨h.1, Int.lt_of_lt_of_le h.2 ?_⟩
    have c : (2 : Int) ≤ 2 ^ j := by
      obtain ⟨i, rfl⟩ : ∃ i, j = i + 1 := ⟨j - 1, by omega⟩
      have := two_pos i
      rw [Int.pow_succ]
      omega
    have := Int.mul_le_mul_of_nonneg_left c (show 0 ≤ d * 2 ^ F.toNat from Int.mul_nonneg (by omega) (Int.le_of_lt (two_pos _)))
    rw [Int.mul_comm 2]
    exact this
  rcases hk with rfl | rfl
  · have e : G = F := by rw [hG, Int.fdiv_eq_ediv_of_nonneg _ (by decide)]; omega
    rw [e]
    exact base 1 (by decide)
  · rw [Int.fdiv_eq_ediv_of_nonneg _ (by decide)] at hG
    by_cases e : G = F
    · rw [e]
      exact base 2 (by decide)
    · have e2 : F = G + 1 := by omega
      subst e2
      obtain ⟨h1, h2⟩ := h
      by_cases g0 : 0 ≤ G
      · obtain ⟨a, rfl⟩ := Int.eq_ofNat_of_zero_le g0
        rw [show ((a : Int) + 1).toNat = a + 1 by omega, show (-((a : Int) + 1)).toNat = 0 by omega, Int.pow_zero, Int.mul_one, Int.pow_succ] at h1 h2
        rw [show (a : Int).toNat = a by omega, show (-(a : Int)).toNat = 0 by omega, Int.pow_zero, Int.mul_one, show (2 : Int) ^ (2 : Int).toNat = 4 by decide]
        have := Int.mul_pos (show 0 < d by omega) (two_pos a)
        constructor <;> grind
      · obtain ⟨f, rfl⟩ : ∃ f : Nat, G = -((f : Int) + 1) := ⟨(-G - 1).toNat, by omega⟩
        rw [show (-((f : Int) + 1) + 1).toNat = 0 by omega, show (-(-((f : Int) + 1) + 1)).toNat = f by omega, Int.pow_zero, Int.mul_one] at h1 h2
        rw [show (-((f : Int) + 1)).toNat = 0 by omega, show (- -((f : Int) + 1)).toNat = f + 1 by omega, Int.pow_zero, Int.mul_one, Int.pow_succ, show (2 : Int) ^ (2 : Int).toNat = 4 by decide]
        have := Int.mul_pos (show 0 < n by omega) (two_pos f)
        constructor <;> grind
end Ev

/-! Ev, part Y: plain arithmetic of rounding: scales, places of their own power, roots by steps. No program in sight. -/
namespace Ev
open PySem
/-! ### scales -/
theorem sc_le {x y : Int} {a b a' b' : Nat} (h : x * 2 ^ a ≤ y * 2 ^ b) (e : a + b' = a' + b) : x * 2 ^ a' ≤ y * 2 ^ b' := by
  have h1 : x * 2 ^ a * 2 ^ b' ≤ y * 2 ^ b * 2 ^ b' := Int.mul_le_mul_of_nonneg_right h (Int.le_of_lt (two_pos b'))
  rw [Int.mul_assoc, ← Int.pow_add, e, Int.pow_add, ← Int.mul_assoc, Int.mul_assoc y, Int.mul_comm (2 ^ b) (2 ^ b'), ← Int.mul_assoc] at h1
  exact Int.le_of_mul_le_mul_right h1 (two_pos b)
theorem sc_lt {x y : Int} {a b a' b' : Nat} (h : x * 2 ^ a < y * 2 ^ b) (e : a + b' = a' + b) : x * 2 ^ a' < y * 2 ^ b' := by
  have h1 : x * 2 ^ a * 2 ^ b' < y * 2 ^ b * 2 ^ b' := Int.mul_lt_mul_of_pos_right h (two_pos b')
  rw [Int.mul_assoc, ← Int.pow_add, e, Int.pow_add, ← Int.mul_assoc, Int.mul_assoc y, Int.mul_comm (2 ^ b) (2 ^ b'), ← Int.mul_assoc] at h1
  exact Int.lt_of_mul_lt_mul_right h1 (Int.le_of_lt (two_pos b))
theorem pw_unique {n d F F' : Int} (h : PW n d F) (h' : PW n d F') : F = F' := by
  have key : ∀ {F F' : Int}, PW n d F → PW n d F' → ¬ F < F' := by
    intro F F' h h' hl
    have h1 := h.2
    have h2 := h'.1
    rw [Int.mul_comm 2, Int.mul_assoc, ← Int.pow_succ] at h1
    have a1 := sc_lt (a' := (-F').toNat + (F' - F - 1).toNat) (b' := F'.toNat) h1 (by omega)
    rw [Int.pow_add, ← Int.mul_assoc] at a1
    have p := two_pos (F' - F - 1).toNat
    by_cases n0 : 0 ≤ n
    · have a2 : n * 2 ^ (-F').toNat * 1 ≤ n * 2 ^ (-F').toNat * 2 ^ (F' - F - 1).toNat := Int.mul_le_mul_of_nonneg_left (by omega) (Int.mul_nonneg n0 (Int.le_of_lt (two_pos _)))
      omega
    · have d0 : d * 2 ^ F.toNat < 0 := by
        have := h.1
        have q := Int.mul_neg_of_neg_of_pos (show n < 0 by omega) (two_pos (-F).toNat)
        omega
      have := h.2
      have := h.1
      omega
  have h1 := key h h'
  have h2 := key h' h
  omega
theorem plc_unique {N D c w c' w' : Int} (hD : 1 ≤ D) (h : Plc N D c w) (h' : Plc N D c' w') : c = c' ∧ w = w' := by
  have e : c = c' := by
    have key : ∀ {c w c' w' : Int}, Plc N D c w → Plc N D c' w' → ¬ c < c' := by
      intro c w c' w' h h' hl
      have := Int.mul_le_mul_of_nonneg_right (show c + 1 ≤ c' by omega) (show 0 ≤ D by omega)
      have := h.hi
      have := h'.lo
      omega
    have := key h h'
    have := key h' h
    omega
  subst e
  exact ⟨rfl, by rw [h.wh, h'.wh]⟩
theorem plcR_unique {N D c w c' w' : Int} (hD : 1 ≤ D) (h : PlcR N D c w) (h' : PlcR N D c' w') : c = c' ∧ w = w' := by
  have e : c = c' := by
    have key : ∀ {c w c' w' : Int}, PlcR N D c w → PlcR N D c' w' → ¬ c < c' := by
      intro c w c' w' h h' hl
      have c0 := h.c0
      have a := Int.mul_le_mul (show c + 1 ≤ c' by omega) (show c + 1 ≤ c' by omega) (by omega) (by omega)
      have := Int.mul_le_mul_of_nonneg_right a (show 0 ≤ D by omega)
      have := h.hi
      have := h'.lo
      omega
    have := key h h'
    have := key h' h
    omega
  subst e
  exact ⟨rfl, by rw [h.wh, h'.wh]⟩
theorem root_ex (n : Nat) : ∃ r : Int, IsRoot n r := by
  induction n with
  | zero => exact ⟨0, by decide, by decide, by decide⟩
  | succ n ih =>
    obtain ⟨r, r0, h1, h2⟩ := ih
    by_cases h : (r + 1) * (r + 1) ≤ (n : Int) + 1
    · exact ⟨r + 1, by omega, by rw [Int.natCast_add]; exact h, by rw [Int.natCast_add]; grind⟩
    · exact ⟨r, r0, by rw [Int.natCast_add]; omega, by rw [Int.natCast_add]; omega⟩
/-- c units and the part w of one more -/
def PlcE (n d k u c w : Int) : Prop := if k = 1 then Plc ((n.natAbs : Int) * 2 ^ (-(u * k)).toNat) (d * 2 ^ (u * k).toNat) c w else PlcR ((n.natAbs : Int) * 2 ^ (-(u * k)).toNat) (d * 2 ^ (u * k).toNat) c w
theorem plcE_D {d t : Int} (hd : 1 ≤ d) : 1 ≤ d * 2 ^ t.toNat := by
  have := Int.mul_pos (show 0 < d by omega) (two_pos t.toNat)
  omega
theorem plcE_N (n t : Int) : 0 ≤ (n.natAbs : Int) * 2 ^ (-t).toNat := Int.mul_nonneg (by omega) (Int.le_of_lt (two_pos _))
theorem plcE_unique {n d k u c w c' w' : Int} (hd : 1 ≤ d) (h : PlcE n d k u c w) (h' : PlcE n d k u c' w') : c = c' ∧ w = w' := by
  unfold PlcE at h h'
  split at h
  · rename_i hk
    rw [if_pos hk] at h'
    exact plc_unique (plcE_D hd) h h'
  · rename_i hk
    rw [if_neg hk] at h'
    exact plcR_unique (plcE_D hd) h h'
theorem plcE_ex {n d k u : Int} (hd : 1 ≤ d) : ∃ c w, PlcE n d k u c w := by
  unfold PlcE
  by_cases hk : k = 1
  · simp only [if_pos hk]
    exact ⟨_, _, plc_div (plcE_N n _) (plcE_D hd)⟩
  · simp only [if_neg hk]
    have D1 := plcE_D (t := u * k) hd
    obtain ⟨q, hq⟩ := Int.eq_ofNat_of_zero_le (show 0 ≤ Int.fdiv ((n.natAbs : Int) * 2 ^ (-(u * k)).toNat) (d * 2 ^ (u * k).toNat) by rw [Int.fdiv_eq_ediv_of_nonneg _ (by omega)]; exact Int.ediv_nonneg (plcE_N n _) (by omega))
    obtain ⟨r, hr⟩ := root_ex q
    exact ⟨r, _, plc_root D1 (by rw [hq]; exact hr)⟩
theorem PlcE.c0 {n d k u c w : Int} (h : PlcE n d k u c w) : 0 ≤ c := by
  unfold PlcE at h
  split at h
  · exact h.c0
  · exact h.c0
theorem whF_rng (x y z : Int) : 0 ≤ whF x y z ∧ whF x y z ≤ 3 := by
  unfold whF
  split
  · decide
  · split
    · decide
    · split <;> decide
theorem PlcE.w0 {n d k u c w : Int} (h : PlcE n d k u c w) : 0 ≤ w ∧ w ≤ 3 := by
  unfold PlcE at h
  split at h
  · rw [h.wh]; exact whF_rng _ _ _
  · rw [h.wh]; exact whF_rng _ _ _
/-- the count of units lies between the powers of two that the number's own power tells -/
theorem plc_pow {n d F k u c w G : Int} {j : Nat} (hn : n ≠ 0) (hd : 1 ≤ d) (hk : k = 1 ∨ k = 2) (h : PW n.natAbs d F) (hG : G = F.fdiv k) (hc : PlcE n d k u c w) :
    (G - u = j → 2 ^ j ≤ c) ∧ (G + 1 - u ≤ j → c < 2 ^ j) := by
  have n1 : (1 : Int) ≤ n.natAbs := by omega
  obtain ⟨g1, g2⟩ := pw_div (G := G * k) n1 hd h hk (by rw [hG])
  have D1 := plcE_D (t := u * k) hd
  have c0 := hc.c0
  obtain ⟨D, hD⟩ : ∃ D : Int, D = d * 2 ^ (u * k).toNat := ⟨_, rfl⟩
  obtain ⟨N, hN⟩ : ∃ N : Int, N = (n.natAbs : Int) * 2 ^ (-(u * k)).toNat := ⟨_, rfl⟩
  unfold PlcE at hc
  rw [← hD] at D1
  rw [← hD, ← hN] at hc
  have kk : k.toNat = 1 ∧ k = 1 ∨ k.toNat = 2 ∧ k = 2 := by omega
  constructor
  · intro hj
    have low : D * 2 ^ (j * k.toNat) ≤ N := by
      rw [hD, hN, Int.mul_assoc, ← Int.pow_add]
      refine sc_le g1 ?_
      rcases kk with ⟨e1, e2⟩ | ⟨e1, e2⟩ <;> rw [e1] <;> subst e2 <;> omega
    rcases Int.lt_or_le c (2 ^ j) with z | z
    · exfalso
      rcases hk with rfl | rfl
      · rw [if_pos rfl] at hc
        rw [show (1 : Int).toNat = 1 from rfl, Nat.mul_one] at low
        have a := Int.mul_le_mul_of_nonneg_right (show c + 1 ≤ 2 ^ j by omega) (show 0 ≤ D by omega)
        have := hc.hi
        rw [Int.mul_comm] at a
        rw [Int.mul_comm] at a
        have e : D * 2 ^ j = 2 ^ j * D := Int.mul_comm _ _
        omega
      · rw [if_neg (by decide)] at hc
        rw [show (2 : Int).toNat = 2 from rfl, Nat.mul_two, Int.pow_add] at low
        have b := Int.mul_le_mul (show c + 1 ≤ 2 ^ j by omega) (show c + 1 ≤ 2 ^ j by omega) (by omega) (Int.le_of_lt (two_pos j))
        have a := Int.mul_le_mul_of_nonneg_right b (show 0 ≤ D by omega)
        have := hc.hi
        have e : D * (2 ^ j * 2 ^ j) = 2 ^ j * 2 ^ j * D := Int.mul_comm _ _
        omega
    · exact z
  · intro hj
    have up : N < D * 2 ^ (j * k.toNat) := by
      have a : (n.natAbs : Int) * 2 ^ (-(u * k)).toNat * 2 ^ ((j : Int) * k - (G + 1 - u) * k).toNat < d * 2 ^ (u * k).toNat * 2 ^ (j * k.toNat) := by
        rw [Int.mul_assoc, ← Int.pow_add, Int.mul_assoc d, ← Int.pow_add]
        rw [Int.mul_assoc d, ← Int.pow_add] at g2
        refine sc_lt g2 ?_
        rcases kk with ⟨e1, e2⟩ | ⟨e1, e2⟩ <;> rw [e1] <;> subst e2 <;> omega
      rw [← hD, ← hN] at a
      have N0 : 0 ≤ N := by rw [hN]; exact plcE_N n _
      have := Int.mul_le_mul_of_nonneg_left (show 1 ≤ (2 : Int) ^ ((j : Int) * k - (G + 1 - u) * k).toNat by have := two_pos ((j : Int) * k - (G + 1 - u) * k).toNat; omega) N0
      omega
    rcases Int.lt_or_le c (2 ^ j) with z | z
    · exact z
    · exfalso
      rcases hk with rfl | rfl
      · rw [if_pos rfl] at hc
        rw [show (1 : Int).toNat = 1 from rfl, Nat.mul_one] at up
        have a := Int.mul_le_mul_of_nonneg_right z (show 0 ≤ D by omega)
        have := hc.lo
        have e : D * 2 ^ j = 2 ^ j * D := Int.mul_comm _ _
        omega
      · rw [if_neg (by decide)] at hc
        rw [show (2 : Int).toNat = 2 from rfl, Nat.mul_two, Int.pow_add] at up
        have b := Int.mul_le_mul z z (Int.le_of_lt (two_pos j)) c0
        have a := Int.mul_le_mul_of_nonneg_right b (show 0 ≤ D by omega)
        have := hc.lo
        have e : D * (2 ^ j * 2 ^ j) = 2 ^ j * 2 ^ j * D := Int.mul_comm _ _
        omega
theorem plc2' {N D c w : Int} (h : Plc N D c w) : 2 * c * D ≤ 2 * N := by
  have := h.lo
  rw [Int.mul_assoc]
  omega
theorem plcR2' {N D c w : Int} (h : PlcR N D c w) : 2 * c * (2 * c) * D ≤ 4 * N := by
  have := h.lo
  grind
theorem bits_ge {u : Int} {j : Nat} (h : 2 ^ j ≤ u) : j + 1 ≤ Builtin.Int.intBits u := by
  have p := two_pos j
  have h2 := (bits_rng (show u ≠ 0 by omega)).2.1
  have h3 : 2 ^ j < 2 ^ Builtin.Int.intBits u := by
    have : ((2 ^ j : Nat) : Int) ≤ u := by rw [two_cast]; exact h
    omega
  exact (Nat.pow_lt_pow_iff_right (by decide)).mp h3
/-! ### a root by halving steps -/
theorem halve_root {n k s : Int} {j B : Nat} (hs : IsRoot n s) (hk : s < k) (hj : (k - s) * 2 ^ j ≤ 2 ^ B) : (Int.fdiv (k + Int.fdiv n k) 2 - s) * 2 ^ (j + 1) ≤ 2 ^ B := by
  obtain ⟨s0, h1, h2⟩ := hs
  rw [Int.fdiv_eq_ediv_of_nonneg _ (by decide : (0 : Int) ≤ 2), Int.fdiv_eq_ediv_of_nonneg n (by omega)]
  have e := Int.mul_ediv_add_emod n k
  have m := Int.emod_nonneg n (show k ≠ 0 by omega)
  have q : n / k ≤ s := by
    rcases Int.lt_or_le s (n / k) with z | z
    · have a := Int.mul_le_mul (show s + 1 ≤ k by omega) (show s + 1 ≤ n / k by omega) (by omega) (by omega)
      omega
    · exact z
  have h3 : 2 * ((k + n / k) / 2 - s) ≤ k - s := by omega
  rw [Int.pow_succ, Int.mul_comm (2 ^ j) 2, ← Int.mul_assoc, Int.mul_comm _ 2]
  exact Int.le_trans (Int.mul_le_mul_of_nonneg_right h3 (Int.le_of_lt (two_pos j))) hj
theorem root_le {n k s : Int} (hs : IsRoot n s) (k1 : 1 ≤ k) (h : n < (k + 1) * (k + 1)) : s ≤ k := by
  obtain ⟨s0, h1, h2⟩ := hs
  rcases Int.lt_or_le k s with z | z
  · have := Int.mul_le_mul (show k + 1 ≤ s by omega) (show k + 1 ≤ s by omega) (by omega) (by omega)
    omega
  · exact z
end Ev

namespace Ev
open PySem PySem.Spec PyProof.Rows L2
variable {K : PySem.W.Frag} {D : Addr}
def KwdL (K : PySem.W.Frag) (D : Addr) (kws : List (Str × V)) : Prop := ∀ q ∈ kws, ∃ u, PySem.W.nsIn K D q.1 = some (some u) ∧ RelV q.2 u
theorem kwdL_nil : KwdL K D [] := fun q hq => absurd hq (by simp)
theorem kwdL_cons {x : Str} {v : V} {u : Value} {r : List (Str × V)} (h1 : PySem.W.nsIn K D x = some (some u)) (h2 : RelV v u) (h : KwdL K D r) : KwdL K D ((x, v) :: r) := fun q hq => by
  rcases List.mem_cons.mp hq with rfl | hq
  · exact ⟨u, h1, h2⟩
  · exact h q hq
theorem kwd_mk {kws : List (Str × V)} (h : KwdL K D kws) : KwdV K (.ref D) kws := .inr ⟨D, rfl, h⟩
end Ev

namespace Ev
open PySem L2
/-! dyadic numbers: o * 2 ^ e as a fraction -/
def dyN (o e : Int) : Int := o * 2 ^ e.toNat
def dyD (e : Int) : Int := 2 ^ (-e).toNat
theorem dyD_pos (e : Int) : 1 ≤ dyD e := two_pos _
theorem whF_scale {a b c r : Int} (hr : 0 < r) : whF (a * r) (b * r) (c * r) = whF a b c := by
  have e1 : ∀ x y : Int, x * r = y * r ↔ x = y := fun x y => ⟨fun h => Int.eq_of_mul_eq_mul_right (by omega) h, fun h => by rw [h]⟩
  have e2 : ∀ x y : Int, x * r < y * r ↔ x < y := fun x y => ⟨fun h => Int.lt_of_mul_lt_mul_right h (by omega), fun h => Int.mul_lt_mul_of_pos_right h hr⟩
  unfold whF
  simp only [e1, e2]
theorem plc_cross {A B P R c w : Int} (hB : 0 < B) (hR : 0 < R) (e : P * B = A * R) (h : Plc A B c w) : Plc P R c w := by
  obtain ⟨c0, h1, h2, h3⟩ := h
  refine ⟨c0, ?_, ?_, ?_⟩
  · have := Int.mul_le_mul_of_nonneg_right h1 (Int.le_of_lt hR)
    rw [← e] at this
    exact Int.le_of_mul_le_mul_right (by grind : c * R * B ≤ P * B) hB
  · have := Int.mul_lt_mul_of_pos_right h2 hR
    rw [← e] at this
    exact Int.lt_of_mul_lt_mul_right (by grind : P * B < (c + 1) * R * B) (Int.le_of_lt hB)
  · rw [h3, ← whF_scale hR, ← whF_scale (a := 2 * P) hB]
    have a1 : 2 * A * R = 2 * P * B := by grind
    have a2 : 2 * c * B * R = 2 * c * R * B := by grind
    have a3 : (2 * c + 1) * B * R = (2 * c + 1) * R * B := by grind
    rw [a1, a2, a3]
theorem abs_pow (o : Int) (j : Nat) : (((o * 2 ^ j).natAbs : Nat) : Int) = (o.natAbs : Int) * 2 ^ j := by
  rw [Int.natAbs_mul, Int.natCast_mul]
  congr 1
theorem pow_mix {x : Int} {a b c d : Nat} (e : a + b = c + d) : x * 2 ^ a * 2 ^ b = x * 2 ^ c * 2 ^ d := by
  rw [Int.mul_assoc, ← Int.pow_add, e, Int.pow_add, ← Int.mul_assoc]
/-- the place of x * 2 ^ base at u, whole division -/
theorem dy_plc {o e base u c w : Int} {t : Nat} (he : e = base + t) (h : Plc ((o.natAbs : Int) * 2 ^ t * 2 ^ (base - u).toNat) (2 ^ (u - base).toNat) c w) : PlcE (dyN o e) (dyD e) 1 u c w := by
  unfold PlcE
  rw [if_pos rfl, Int.mul_one]
  refine plc_cross (two_pos _) (Int.mul_pos (dyD_pos e) (two_pos _)) ?_ h
  unfold dyN dyD
  rw [abs_pow]
  have e1 : ∀ x : Int, ∀ a b c : Nat, x * 2 ^ a * 2 ^ b * 2 ^ c = x * 2 ^ (a + b + c) := fun x a b c => by rw [Int.pow_add, Int.pow_add]; grind
  have e2 : ∀ x : Int, ∀ a b c d : Nat, x * 2 ^ a * 2 ^ b * (2 ^ c * 2 ^ d) = x * 2 ^ (a + b + c + d) := fun x a b c d => by rw [Int.pow_add, Int.pow_add, Int.pow_add]; grind
  rw [e1, e2]
  congr 2
  omega
theorem dy_pw {o e base : Int} {t : Nat} (ho : o ≠ 0) (he : e = base + t) : PW ((dyN o e).natAbs : Int) (dyD e) ((Builtin.Int.intBits (o * 2 ^ t) : Int) - 1 + base) := by
  have hx : o * 2 ^ t ≠ 0 := Int.mul_ne_zero ho (by have := two_pos t; omega)
  obtain ⟨b1, b2, b3⟩ := bits_rng hx
  generalize Builtin.Int.intBits (o * 2 ^ t) = b at b1 b2 b3
  have c1 : (1 : Int) * 2 ^ (b - 1) ≤ (o.natAbs : Int) * 2 ^ t := by
    rw [Int.one_mul, ← abs_pow, ← two_cast]
    exact Int.ofNat_le.mpr b1
  have c2 : (o.natAbs : Int) * 2 ^ t < 1 * 2 ^ b := by
    rw [Int.one_mul, ← abs_pow, ← two_cast]
    exact Int.ofNat_lt.mpr b2
  obtain ⟨F, hF⟩ : ∃ F : Int, F = (b : Int) - 1 + base := ⟨_, rfl⟩
  rw [← hF]
  unfold PW dyN dyD
  rw [abs_pow, Int.mul_assoc, ← Int.pow_add, ← Int.pow_add]
  constructor
  · have := sc_le (a' := (-e).toNat + F.toNat) (b' := e.toNat + (-F).toNat) c1 (by omega)
    rw [Int.one_mul] at this
    exact this
  · have := sc_lt (a' := e.toNat + (-F).toNat) (b' := (-e).toNat + F.toNat + 1) c2 (by omega)
    rw [Int.one_mul, Int.pow_succ] at this
    omega
end Ev

/-! Ev, part R: defs as values, called by a local name. -/
namespace Ev
open PySem PySem.Spec PyProof.Rows L2
section
variable {P : Program} {w : World} {K : PySem.W.Frag} {mg : Str → Option Value} {base : Heap} {T : Tb}
theorem FnW.mono {k k' : Nat} {f : Addr} {fd : FuncData} {ps : List Str} {sp : SpW} (F : FnW P w K mg base T k f fd ps sp) (l : k ≤ k') : FnW P w K mg base T k' f fd ps sp :=
  ⟨fun A outer s H args us vs ws L M Q E hr e0 hb rv rp rh lv hl q => F.run A outer s H args us vs ws L M Q E (hr.mono l) e0 hb rv rp rh lv hl q⟩
structure AtW (P : Program) (w : World) (K : PySem.W.Frag) (mg : Str → Option Value) (base : Heap) (T : Tb) (k n : Nat) (q : Addr × SpW) : Prop where
  ex : ∃ (fd : FuncData) (ps : List Str), PySem.W.keepIn K (.ref q.1) = true ∧ Binds K fd ps [] ∧ FnW P w K mg base T k q.1 fd ps q.2 ∧ ps.length = n
theorem DefW.at_ {x : Str} {k k' n : Nat} {sp : SpW} {a : Addr} (D : DefW P w K mg base T x k n sp) (h : mg x = some (.ref a)) (l : k ≤ k') : AtW P w K mg base T k' n (a, sp) := by
  obtain ⟨f, fd, ps, hm, hk, hb, F, hpn⟩ := D.ex
  have e : f = a := by
    rw [hm] at h
    cases h
    rfl
  subst e
  exact ⟨fd, ps, hk, hb, F.mono l, hpn⟩
def AllW (P : Program) (w : World) (K : PySem.W.Frag) (mg : Str → Option Value) (base : Heap) (T : Tb) (k n : Nat) (tbl : List (Addr × SpW)) : Prop := ∀ q ∈ tbl, AtW P w K mg base T k n q
theorem at_nil {k n : Nat} : AllW P w K mg base T k n [] := fun q hq => absurd hq (by simp)
theorem at_cons {k n : Nat} {q : Addr × SpW} {r : List (Addr × SpW)} (h : AtW P w K mg base T k n q) (g : AllW P w K mg base T k n r) : AllW P w K mg base T k n (q :: r) := fun p hp => by
  rcases List.mem_cons.mp hp with rfl | hp
  · exact h
  · exact g p hp
structure AtK (P : Program) (w : World) (K : PySem.W.Frag) (mg : Str → Option Value) (base : Heap) (T : Tb) (k n : Nat) (ks : List Str) (q : Addr × (List W → List W → List W) × SpW) : Prop where
  ex : ∃ (fd : FuncData) (ps : List Str) (g : List Value → List Value → List Value) (gV : List V → List V → List V), PySem.W.keepIn K (.ref q.1) = true ∧ KBn K fd ps n ks g gV ∧ FnW P w K mg base T k q.1 fd ps q.2.2 ∧
    (∀ H ws vs zs us, Reps K H ws vs → Reps K H zs us → Reps K H (q.2.1 ws zs) (gV vs us)) ∧ (∀ ws zs, ws.length = n → zs.length = ks.length → (q.2.1 ws zs).length = ps.length)
theorem DefKW.at_ {x : Str} {k k' n : Nat} {ks : List Str} {gW : List W → List W → List W} {sp : SpW} {a : Addr} (D : DefKW P w K mg base T x k n ks gW sp) (h : mg x = some (.ref a)) (l : k ≤ k') : AtK P w K mg base T k' n ks (a, gW, sp) := by
  obtain ⟨f, fd, ps, g, gV, hm, hk, hb, F, hgr, hgl⟩ := D.ex
  have e : f = a := by
    rw [hm] at h
    cases h
    rfl
  subst e
  exact ⟨fd, ps, g, gV, hk, hb, F.mono l, hgr, hgl⟩
def AllK (P : Program) (w : World) (K : PySem.W.Frag) (mg : Str → Option Value) (base : Heap) (T : Tb) (k n : Nat) (ks : List Str) (tbl : List (Addr × (List W → List W → List W) × SpW)) : Prop := ∀ q ∈ tbl, AtK P w K mg base T k n ks q
theorem atk_nil {k n : Nat} {ks : List Str} : AllK P w K mg base T k n ks [] := fun q hq => absurd hq (by simp)
theorem atk_cons {k n : Nat} {ks : List Str} {q : Addr × (List W → List W → List W) × SpW} {r : List (Addr × (List W → List W → List W) × SpW)} (h : AtK P w K mg base T k n ks q) (g : AllK P w K mg base T k n ks r) : AllK P w K mg base T k n ks (q :: r) := fun p hp => by
  rcases List.mem_cons.mp hp with rfl | hp
  · exact h
  · exact g p hp
structure AtP (P : Program) (w : World) (K : PySem.W.Frag) (mg : Str → Option Value) (base : Heap) (T : Tb) (k n : Nat) (q : Addr × List W × SpW) : Prop where
  ex : ∃ (fd : FuncData) (ps : List Str) (ds : List Value) (dvs : List V), PySem.W.keepIn K (.ref q.1) = true ∧ Binds K fd ps ds ∧ Vals dvs ds ∧ (∀ H, Reps K H q.2.1 dvs) ∧ FnW P w K mg base T k q.1 fd ps q.2.2 ∧ n + q.2.1.length = ps.length
theorem DefPW.at_ {x : Str} {k k' n : Nat} {dws : List W} {sp : SpW} {a : Addr} (D : DefPW P w K mg base T x k n dws sp) (h : mg x = some (.ref a)) (l : k ≤ k') : AtP P w K mg base T k' n (a, dws, sp) := by
  obtain ⟨f, fd, ps, ds, dvs, hm, hk, hb, hd, hdw, F, hpn⟩ := D.ex
  have e : f = a := by
    rw [hm] at h
    cases h
    rfl
  subst e
  exact ⟨fd, ps, ds, dvs, hk, hb, hd, hdw, F.mono l, hpn⟩
theorem DefW.atp {x : Str} {k k' n : Nat} {sp : SpW} {a : Addr} (D : DefW P w K mg base T x k n sp) (h : mg x = some (.ref a)) (l : k ≤ k') : AtP P w K mg base T k' n (a, [], sp) := by
  obtain ⟨f, fd, ps, hm, hk, hb, F, hpn⟩ := D.ex
  have e : f = a := by
    rw [hm] at h
    cases h
    rfl
  subst e
  exact ⟨fd, ps, [], [], hk, hb, .nil, fun H => reps_nil, F.mono l, by rw [hpn]; rfl⟩
def AllP (P : Program) (w : World) (K : PySem.W.Frag) (mg : Str → Option Value) (base : Heap) (T : Tb) (k n : Nat) (tbl : List (Addr × List W × SpW)) : Prop := ∀ q ∈ tbl, AtP P w K mg base T k n q
theorem atp_nil {k n : Nat} : AllP P w K mg base T k n [] := fun q hq => absurd hq (by simp)
theorem atp_cons {k n : Nat} {q : Addr × List W × SpW} {r : List (Addr × List W × SpW)} (h : AtP P w K mg base T k n q) (g : AllP P w K mg base T k n r) : AllP P w K mg base T k n (q :: r) := fun p hp => by
  rcases List.mem_cons.mp hp with rfl | hp
  · exact h
  · exact g p hp
end
section
variable {T : Tb} {L : Lm} {X : Cx} {e : Expr} {es : List Expr} {u uk : TAW} {pos p : Pos}
def tFnV (i : Nat) (L : Lm) (tbl : List (Addr × List W × SpW)) (u : TAW) : TEW := fun τ M Q E => ∃ q ∈ tbl, τ[i]? = some (some (.ref q.1)) ∧ u τ M (fun ws M1 => q.2.2 L (ws ++ q.2.1) M1 Q E) E
theorem w_callV (i : Nat) {x : Str} {k n : Nat} {tbl : List (Addr × List W × SpW)} (D : AllP X.prog X.w X.K X.mg X.base T k n tbl) (hr : Room k X.A) (hN : X.N[i]? = some x) (hv : Vis X.env.scope x) (ha : PAW T L X (e :: es) u) (hn : (e :: es).length = n := by rfl) (hd : (x == ("__debug__" : Str)) = false := by decide) (hcd : (x == ("__classdict__" : Str)) = false := by decide)
    (he : starEach (e :: es) X.env = (false, eval e X.env) :: starEach es X.env := by rfl) (hpl : (backTo pos (starEach es X.env)).any (·.1) = false := by rfl) : PEW T L X (.Call (.Name x p) (e :: es) [] pos) (tFnV i L tbl u) := by
  refine ⟨fun pins s σ H τ M Q ex I r tk q => ?_⟩
  obtain ⟨t, ht, hf, q⟩ := q
  obtain ⟨fd, ps, ds, dvs, hk, hb, hdv, hdw, F, hpn⟩ := (D t ht).ex
  obtain ⟨v, e1, rp⟩ := r.rs.get hf
  have e2 := rp.ref
  subst e2
  refine wpAny_Call_Name_kw (thn ((pe_var (pos := p) (i := i) hN hv hd hcd).run pins s σ H (fun v H1 => v = .ref t.1 ∧ H1 = H) I ⟨_, e1, rfl, rfl⟩) fun uu s1 ⟨v, H1, I1, r1, q1⟩ => ?_)
  obtain ⟨ev, eH⟩ := q1
  subst ev
  rw [eH] at I1
  obtain rfl : uu = Value.ref t.1 := r1
  have rr : SR T L X H τ σ M := ⟨r.rs, r.rh, r.lv, r.ex0⟩
  refine PySem.W.callWith_K (h₀ := X.base) I1.ok.mod.kin hk (thn (ha.run pos pins s1 σ H τ M _ ex I1 rr tk q) fun us s2 ⟨vs, H2, I2, rv, ws, M1, k1, rp2, rh, hl, q2⟩ => ⟨I2.kIn, ?_⟩) he hpl
  refine thn (run_W (dvs := dvs) (ds := ds) (dws := t.2.1) F hr hb hdv (hdw H2) I2 (rr.nx k1 rh) (tk.on k1) rv rp2 ?_ q2) fun v s3 ⟨z, H3, I3, rz, hz⟩ => ⟨z, H3, I3, rz, ups.trans k1 hz⟩
  rw [List.length_append, hl, hn, hpn]
def tFnVK (i : Nat) (L : Lm) (tbl : List (Addr × (List W → List W → List W) × SpW)) (u uk : TAW) : TEW := fun τ M Q E => ∃ q ∈ tbl, τ[i]? = some (some (.ref q.1)) ∧ u τ M (fun ws M1 => uk τ M1 (fun zs M2 => q.2.2 L (q.2.1 ws zs) M2 Q E) E) E
theorem w_callVK (i : Nat) {x : Str} {k n : Nat} {ks : List Str} {tbl : List (Addr × (List W → List W → List W) × SpW)} {kws : List Keyword} (D : AllK X.prog X.w X.K X.mg X.base T k n ks tbl) (hr : Room k X.A) (hN : X.N[i]? = some x) (hv : Vis X.env.scope x) (ha : PAW T L X (e :: es) u) (hkw : PKW T L X kws uk) (hn : (e :: es).length = n := by rfl) (hkn : kws.length = ks.length := by rfl)
    (hall : (backToKw pos (keywordEach kws X.env)).all (·.1.isSome) = true := by rfl) (hks : (backToKw pos (keywordEach kws X.env)).filterMap (·.1) = ks := by rfl)
    (hd : (x == ("__debug__" : Str)) = false := by decide) (hcd : (x == ("__classdict__" : Str)) = false := by decide) (he : starEach (e :: es) X.env = (false, eval e X.env) :: starEach es X.env := by rfl)
    (hpl : ((backTo pos (starEach (e :: es) X.env)).any (·.1) || (backToKw pos (keywordEach kws X.env)).any (·.1.isNone)) = false := by rfl) : PEW T L X (.Call (.Name x p) (e :: es) kws pos) (tFnVK i L tbl u uk) := by
  refine ⟨fun pins s σ H τ M Q ex I r tk q => ?_⟩
  obtain ⟨t, ht, hf, q⟩ := q
  obtain ⟨fd, ps, g, gV, hk, hb, F, hgr, hgl⟩ := (D t ht).ex
  obtain ⟨v, e1, rp⟩ := r.rs.get hf
  have e2 := rp.ref
  subst e2
  refine wpAny_Call_Name_kw (thn ((pe_var (pos := p) (i := i) hN hv hd hcd).run pins s σ H (fun v H1 => v = .ref t.1 ∧ H1 = H) I ⟨_, e1, rfl, rfl⟩) fun uu s1 ⟨v, H1, I1, r1, q1⟩ => ?_)
  obtain ⟨ev, eH⟩ := q1
  subst ev
  rw [eH] at I1
  obtain rfl : uu = Value.ref t.1 := r1
  have rr : SR T L X H τ σ M := ⟨r.rs, r.rh, r.lv, r.ex0⟩
  refine PySem.W.callWith_KW (h₀ := X.base) I1.ok.mod.kin hk hall (thn (ha.run pos pins s1 σ H τ M _ ex I1 rr tk q) fun us s2 ⟨vs, H2, I2, rv, ws, M1, k1, rp2, rh, hl, q2⟩ => ?_) hpl he
  have r3 := rr.nx k1 rh
  have t1 := tk.on k1
  refine thn (hkw.dn.run pos pins s2 σ H2 _ I2 ⟨τ, M1, _, ex, r3, t1, q2, fun _ _ z => z⟩) fun zs s3 ⟨vz, H3, I3, rz, wz, M2, k2, rpz, rh2, hlz, q3⟩ => ⟨I3.kIn, ?_⟩
  rw [hks]
  have l1 : us.length = n := by rw [← rv.length, rp2.len, hl, hn]
  have l2 : zs.length = ks.length := by rw [← rz.length, rpz.len, hlz, hkn]
  refine thn (run_WK F hr hb I3 (r3.nx k2 rh2) (t1.on k2) rv rz l1 l2 (hgr _ _ _ _ _ (rp2.tk k2) rpz) (hgl _ _ (by rw [hl, hn]) (by rw [hlz, hkn])) q3) fun v s4 ⟨z, H4, I4, rz4, hz⟩ => ⟨z, H4, I4, rz4, ups.trans (k1.trans k2) hz⟩
end
/-! at the head -/
section
variable {τ : St'} {M : Mp} {Q : QK} {E : EK} {i : Nat} {L : Lm} {u uk : TAW}
theorem tFnV_i {tbl : List (Addr × List W × SpW)} (j : Nat) {q : Addr × List W × SpW} (hj : tbl[j]? = some q) (ht : τ[i]? = some (some (.ref q.1))) (h : u τ M (fun ws M1 => q.2.2 L (ws ++ q.2.1) M1 Q E) E) : tFnV i L tbl u τ M Q E := ⟨q, List.mem_of_getElem? hj, ht, h⟩
theorem tFnVK_i {tbl : List (Addr × (List W → List W → List W) × SpW)} (j : Nat) {q : Addr × (List W → List W → List W) × SpW} (hj : tbl[j]? = some q) (ht : τ[i]? = some (some (.ref q.1))) (h : u τ M (fun ws M1 => uk τ M1 (fun zs M2 => q.2.2 L (q.2.1 ws zs) M2 Q E) E) E) : tFnVK i L tbl u uk τ M Q E := ⟨q, List.mem_of_getElem? hj, ht, h⟩
end
end Ev

/-! Ev, part S: more rules. -/
namespace Ev
open PySem PySem.Spec PyProof.Rows L2
theorem cpW_allK {Kp : Mp → Prop} {i : Nat} {te : TEW} {D : Addr} {τ : St'} {Q : Mp → Prop} (P : W → Prop) (J : Nat → Mp → Prop) (hJ : ∀ n M ws, J n M → J n (put M D (.lst ws))) (hK : ∀ n M, J n M → Kp M) : ∀ (ws : List W) (n : Nat) (M : Mp) (acc : List W),
    (∀ j w M acc E (Q : QK), ws[j]? = some w → J (n + j) M → M D = some (.lst acc) → (∀ y M', P y → J (n + j + 1) M' → M' D = some (.lst acc) → Q y M') → te (τ.set i (some w)) M Q E) →
    M D = some (.lst acc) → acc.length + ws.length ≤ 1000 → (∀ w ∈ acc, P w) → J n M → (∀ M' ys, M' D = some (.lst ys) → ys.length = acc.length + ws.length → (∀ w ∈ ys, P w) → J (n + ws.length) M' → Q M') → cpW Kp i qYes te D τ Q ws M
  | [], n, M, acc, _, hD, hl, hp, hj, q => ⟨hK _ _ hj, q M acc hD rfl hp hj⟩
  | w :: r, n, M, acc, he, hD, hl, hp, hj, q => by
    rw [List.length_cons] at hl
    refine ⟨hK _ _ hj, ?_⟩
    show te _ _ _ _
    refine he 0 w M acc _ _ rfl hj hD fun y M1 py j1 d1 => ⟨acc, d1, Nat.lt_of_lt_of_le (by omega) line1000, ?_⟩
    refine cpW_allK P J hJ hK r (n + 1) _ (acc ++ [y]) (fun j w' M2 acc2 E Q2 hw hi hd hk => ?_) put_same (by rw [List.length_append, List.length_singleton]; omega) (fun w' hw => ?_) (hJ _ _ _ j1) fun M' ys h1 h2 h3 h4 => q M' ys h1 ?_ h3 ?_
    · have e : n + 1 + j = n + (j + 1) := by omega
      rw [e] at hi hk
      exact he (j + 1) w' M2 acc2 E Q2 (by rw [List.getElem?_cons_succ]; exact hw) hi hd hk
    · rcases List.mem_append.mp hw with z | z
      · exact hp w' z
      · rw [List.mem_singleton.mp z]
        exact py
    · rw [h2, List.length_append, List.length_singleton, List.length_cons]
      omega
    · rw [List.length_cons]
      have e : n + 1 + r.length = n + (r.length + 1) := by omega
      rw [e] at h4
      exact h4

section
variable {T : Tb} {L : Lm} {X : Cx} {e o : Expr} {es : List Expr} {t te : TEW} {u uk : TAW} {pos p p2 apos cpos : Pos}
/-! ### a def called without positional values -/
theorem w_callD0 {x : Str} {k : Nat} {dws : List W} {sp : SpW} (D : DefPW X.prog X.w X.K X.mg X.base T x k 0 dws sp) (hr : Room k X.A) (hg : Gl X x) (hdb : (x == ("__debug__" : Str)) = false := by decide) : PEW T L X (.Call (.Name x p) [] [] pos) (tFn sp L dws aNil) := by
  obtain ⟨f, fd, ps, ds, dvs, hm, hk, hb, hd, hdw, F, hpn⟩ := D.ex
  refine ⟨fun pins s σ H τ M Q ex I r tk q => ?_⟩
  refine wpAny_Call_Name_kw (ld_glob I hg hm ?_ hdb)
  exact PySem.W.callWith_K0 I.kIn hk (run_W (ws := []) (vs := []) (us := []) (dvs := dvs) (ds := ds) (dws := dws) F hr hb hd (hdw H) I r tk .nil (by unfold Reps; rfl) (by rw [List.nil_append, ← hpn, Nat.zero_add]) q)
/-! ### pop -/
theorem Reps.erase {K : PySem.W.Frag} {H : Hp} : ∀ {ws : List W} {vs : List V} (n : Nat), Reps K H ws vs → Reps K H (ws.eraseIdx n) (vs.eraseIdx n)
  | [], _, n, h => by unfold Reps at h; subst h; simp only [List.eraseIdx_nil]; unfold Reps; rfl
  | w :: ws, _, 0, h => by
    unfold Reps at h
    obtain ⟨v, r, e, q, rr⟩ := h
    subst e
    simp only [List.eraseIdx_zero, List.tail_cons]
    exact rr
  | w :: ws, _, n + 1, h => by
    unfold Reps at h
    obtain ⟨v, r, e, q, rr⟩ := h
    subst e
    simp only [List.eraseIdx_cons_succ]
    unfold Reps
    exact ⟨v, _, rfl, q, Reps.erase n rr⟩
def wPopAt : Addr → List W → Mp → QK → Prop := fun a ws M Q => match ws with
  | [.int i] => ∃ xs k y, M a = some (.lst xs) ∧ -(2 ^ 63) ≤ i ∧ i < 2 ^ 63 ∧ seqIndex? i xs.length = some k ∧ xs[k]? = some y ∧ Q y (put M a (.lst (xs.eraseIdx k)))
  | _ => False
theorem gl_popAt : GlM T X rPopAt wPopAt := by
  intro H M a ws vs Q rh rp q
  unfold wPopAt at q
  split at q
  · obtain ⟨xs, k, y, hm, h1, h2, h3, h4, q⟩ := q
    obtain ⟨us, e2, r3⟩ := rh.obs _ _ hm
    obtain ⟨i, e3, r4⟩ := rp.one'
    obtain ⟨v, e5, r5⟩ := r3.get h4
    rw [r4.int] at e3
    exact ⟨_, us, _, k, v, rfl, e3, e2, h1, h2, by rw [r3.len]; exact h3, e5, upsI (NL.put (.inr ⟨us, e2⟩)).tk (Rep.tk (NL.put (.inr ⟨us, e2⟩)).tk r5) (rh.putL (.inr ⟨us, e2⟩) (r3.erase k)) q⟩
  · exact q.elim
theorem w_popAt (ho : PEW T L X o t) (ha : PAW T L X (e :: es) u) (hbase : attributeBase o "pop" X.env (eval o X.env) = eval o X.env := by rfl)
    (hfew : ((backTo cpos (starEach (e :: es) X.env)).all (fun x => !x.1) && (backToKw cpos (keywordEach [] X.env)).all (fun x => x.1.isSome) && decide ((e :: es).length + ([] : List Keyword).length + (if ([] : List Keyword).isEmpty then 0 else 1) < 30)) = true := by rfl)
    (hline : (apos.endLine == cpos.line) = true := by rfl) (hs : starEach (e :: es) X.env = (false, eval e X.env) :: starEach es X.env := by rfl) (hplain : (backTo cpos (starEach es X.env)).any (·.1) = false := by rfl) :
    PEW T L X (.Call (.Attribute o "pop" apos) (e :: es) [] cpos) (tMt wPopAt t u) :=
  w_mt PySem.F.slot_list_pop PySem.F.type_list_pop mt_popAt gl_popAt (fun _ _ _ _ _ f ⟨l, xs, i, k, y, h1, h2, h3, h4, h5, h6, h7, q⟩ => ⟨l, xs, i, k, y, h1, h2, h3, h4, h5, h6, h7, f _ _ q⟩) ho ha hbase hfew hline hs hplain
def tMt0 (f : Addr → Mp → QK → Prop) (to : TEW) : TEW := fun τ M Q E => to τ M (fun x M1 => isR x fun a => (∃ xs, M1 a = some (.lst xs)) ∧ f a M1 Q) E
def wPop0 : Addr → Mp → QK → Prop := fun a M Q => ∃ xs y, M a = some (.lst xs) ∧ xs[xs.length - 1]? = some y ∧ Q y (put M a (.lst xs.dropLast))
theorem w_pop0 (ho : PEW T L X o t) (hbase : attributeBase o "pop" X.env (eval o X.env) = eval o X.env := by rfl) (hline : (apos.endLine == cpos.line) = true := by rfl) :
    PEW T L X (.Call (.Attribute o "pop" apos) [] [] cpos) (tMt0 wPop0 t) := by
  refine .up (pe_bm0 PySem.F.plainAttrs_list PySem.F.slot_list_pop PySem.F.type_list_pop mt_pop ho.dn hbase hline) fun σ H τ M Q ex r0 tk q => ?_
  refine dn1 r0 tk q fun x M1 v H1 k1 r1 tk rp1 q1 => ?_
  unfold isR at q1
  split at q1
  · obtain ⟨⟨xs, hm⟩, xs2, y, hm2, hy, q1⟩ := q1
    rw [hm] at hm2
    cases hm2
    obtain ⟨us, e2, r3⟩ := r1.rh.obs _ _ hm
    rw [rp1.ref]
    obtain ⟨v, e5, r5⟩ := r3.get hy
    have nl : NL H1 (upd H1 _ (.lst us.dropLast)) := NL.put (.inr ⟨us, e2⟩)
    refine ⟨.inl ⟨rfl, us, SqL.of e2⟩, _, us, v, rfl, rfl, e2, by rw [r3.len]; exact e5, upsI (k1.trans nl.tk) (Rep.tk nl.tk r5) (r1.rh.putL (.inr ⟨us, e2⟩) ?_) q1⟩
    rw [List.dropLast_eq_take, List.dropLast_eq_take, r3.len]
    exact r3.take _
  · exact q1.elim
/-! ### slices -/
abbrev TOW := St' → Mp → (Option Int → Mp → Prop) → EK → Prop
def pNo : TOW := fun _ M Q _ => Q none M
def pAt (te : TEW) : TOW := fun τ M Q E => te τ M (fun x M1 => ∃ i, x = .int i ∧ Q (some i) M1) E
structure POW (T : Tb) (L : Lm) (X : Cx) (lo : Option Expr) (t : TOW) : Prop where
  ex : ∃ th : TO, PO X lo th ∧ ∀ (σ : L2.St) (H : Hp) (τ : St') (M : Mp) (Q : Option Int → Mp → Prop) (ex : EX) (Qh : Option Int → Hp → Prop), SR T L X H τ σ M → TakesS T X H ex → t τ M Q (fun C p M' => ex C p τ M') →
    (∀ l M1 H1, TK H H1 → SR T L X H1 τ σ M1 → TakesS T X H1 ex → Q l M1 → Qh l H1) → th σ H Qh
theorem p_no : POW T L X none pNo := ⟨_, po_none, fun σ H τ M Q ex Qh r tk q f => f none M H (TK.refl H) r tk q⟩
theorem p_at (h : PEW T L X e te) : POW T L X (some e) (pAt te) := by
  refine ⟨_, po_some h.dn, fun σ H τ M Q ex Qh r tk q f => ?_⟩
  refine dn1 r tk q fun x M1 v H1 k1 r1 tk1 rp1 q1 => ?_
  obtain ⟨i, rfl, q1⟩ := q1
  exact ⟨i, rp1.int, f _ M1 H1 k1 r1 tk1 q1⟩
def cutW (ws : List W) (lo hi : Option Int) : List W := (ws.drop (HT.sIx ws.length 0 lo)).take (HT.sIx ws.length ws.length hi - HT.sIx ws.length 0 lo)
theorem cut_rep {K : PySem.W.Frag} {H : Hp} {ws : List W} {vs : List V} (lo hi : Option Int) (r : Reps K H ws vs) : Reps K H (cutW ws lo hi) (cutV vs lo hi) := by
  unfold cutW cutV
  rw [r.len]
  exact (r.drop _).take _
def wSl (lo hi : Option Int) : W → Mp → QK → Prop := fun x M Q => match x with
  | .tup ws => Q (.tup (cutW ws lo hi)) M
  | .rol ws => ∀ p, M p = none → Q (.ref p) (put M p (.lst (cutW ws lo hi)))
  | .ref a => ∃ ws, M a = some (.lst ws) ∧ ∀ p, M p = none → Q (.ref p) (put M p (.lst (cutW ws lo hi)))
  | .str z => z.length ≤ sizeLine ∧ Q (.str (cutS z lo hi)) M
  | _ => False
def tSlW (te : TEW) (tl th : TOW) : TEW := fun τ M Q E => te τ M (fun x M1 => tl τ M1 (fun l M2 => th τ M2 (fun u M3 => wSl l u x M3 Q) E) E) E
theorem w_slice {lo hi : Option Expr} {tl th : TOW} (he : PEW T L X e te) (hl : POW T L X lo tl) (hh : POW T L X hi th) : PEW T L X (.Subscript e (.Slice lo hi none p2) pos) (tSlW te tl th) := by
  obtain ⟨hl', pl, fl⟩ := hl.ex
  obtain ⟨hh', ph, fh⟩ := hh.ex
  refine .up (pe_slice (SlR.or sl_tupA (SlR.or sl_list sl_str)) he.dn pl ph) fun σ H τ M Q ex r0 tk q => ?_
  refine dn1 r0 tk q fun x M1 v H1 k1 r1 tk rp1 q1 => ?_
  refine fl _ _ _ _ _ _ _ r1 tk q1 fun l M2 H2 k2 r2 tk q2 => ?_
  refine fh _ _ _ _ _ _ _ r2 tk q2 fun u M3 H3 k3 r3 tk q3 => ?_
  have rp := rp1.tk (k2.trans k3)
  have kk := k1.trans (k2.trans k3)
  unfold wSl at q3
  split at q3
  · rename_i _ ws
    obtain ⟨a, vs, e1, s1, p1⟩ := rp.tup
    refine .inl ⟨a, vs, e1, s1, fun hw => ?_, fun hw p hp => ?_⟩
    · have ec : cutW ws l u = ws := by
        unfold cutW
        rw [← p1.len, hw.1, hw.2, p1.len, List.drop_zero, Nat.sub_zero, List.take_length]
      rw [ec] at q3
      exact upsI kk (e1 ▸ rp) r3.rh q3
    · have n1 : TK H3 (upd H3 p (.tup (cutV vs l u))) := (NL.put (.inl hp)).tk
      exact upsI (kk.trans n1) (by unfold Rep; exact ⟨p, _, rfl, SqT.of upd_same, (cut_rep l u p1).tk n1⟩) (r3.rh.new hp) q3
  · obtain ⟨a, vs, e1, s1, p1⟩ := rp.rol
    refine .inr (.inl ⟨a, vs, e1, s1.1, fun p hp => ?_⟩)
    exact upsI (kk.trans (NL.put (.inl hp)).tk) rep_ref (r3.rh.putL (.inl hp) (cut_rep l u p1)) (q3 p (r3.rh.free hp))
  · obtain ⟨ws, hm, q3⟩ := q3
    obtain ⟨vs, e2, p1⟩ := r3.rh.obs _ _ hm
    refine .inr (.inl ⟨_, vs, rp.ref, SqL.of e2, fun p hp => ?_⟩)
    exact upsI (kk.trans (NL.put (.inl hp)).tk) rep_ref (r3.rh.putL (.inl hp) (cut_rep l u p1)) (q3 p (r3.rh.free hp))
  · exact .inr (.inr ⟨_, rp.str, q3.1, upsI kk rep_str r3.rh q3.2⟩)
  · exact q3.elim
/-! ### the sum of ints -/
def wSum : RWC := fun ws M Q => match ws with
  | [.ref a] => ∃ ns : List Int, M a = some (.lst (ns.map W.int)) ∧ Q (.int ns.sum) M
  | [.rol l] => ∃ ns : List Int, l = ns.map W.int ∧ Q (.int ns.sum) M
  | _ => False
theorem ints_rep {K : PySem.W.Frag} {H : Hp} : ∀ {ns : List Int} {vs : List V}, Reps K H (ns.map W.int) vs → vs = ns.map V.int
  | [], _, h => by rw [List.map_nil] at h; exact h.nil
  | n :: ns, _, h => by
    rw [List.map_cons] at h
    obtain ⟨v, r, e, q, rr⟩ := h.cons
    rw [e, q.int, ints_rep rr, List.map_cons]
theorem gl_sum : GlC T X (rSum X.K) wSum := by
  intro H M ws vs Q rh rp q
  unfold wSum at q
  split at q
  · obtain ⟨ns, hm, q⟩ := q
    obtain ⟨us, e2, r3⟩ := rh.obs _ _ hm
    obtain ⟨y, e3, r4⟩ := rp.one'
    rw [r4.ref] at e3
    rw [ints_rep r3] at e2
    exact ⟨_, ns, e3, SqL.of e2, upsI (TK.refl H) rep_int rh q⟩
  · obtain ⟨ns, rfl, q⟩ := q
    obtain ⟨y, e3, r4⟩ := rp.one'
    obtain ⟨a, us, e1, s1, p1⟩ := r4.rol
    rw [ints_rep p1] at s1
    exact ⟨a, ns, by rw [e3, e1], s1.1, upsI (TK.refl H) rep_int rh q⟩
  · exact q.elim
theorem w_sum (hc : X.calm = true) (hg : Gl X "sum") (hm : X.mg "sum" = none) (ha : PAW T L X (e :: es) u) (he : starEach (e :: es) X.env = (false, eval e X.env) :: starEach es X.env := by rfl) (hpl : (backTo pos (starEach es X.env)).any (·.1) = false := by rfl) :
    PEW T L X (.Call (.Name "sum" p) (e :: es) [] pos) (tCB wSum u) := w_callB (cr_sum hc) gl_sum (fun _ _ _ _ f ⟨a, ns, h1, h2, q⟩ => ⟨a, ns, h1, h2, f _ _ q⟩) hg hm rfl ha (he := he) (hpl := hpl)
end
section
variable {τ : St'} {M : Mp} {Q : QK} {E : EK} {te to : TEW} {tl th : TOW} {QO : Option Int → Mp → Prop}
theorem tMt0_i {f : Addr → Mp → QK → Prop} (h : to τ M (fun x M1 => isR x fun a => (∃ xs, M1 a = some (.lst xs)) ∧ f a M1 Q) E) : tMt0 f to τ M Q E := h
theorem tSlW_i (h : te τ M (fun x M1 => tl τ M1 (fun l M2 => th τ M2 (fun u M3 => wSl l u x M3 Q) E) E) E) : tSlW te tl th τ M Q E := h
theorem pNo_i (h : QO none M) : pNo τ M QO E := h
def isI (x : W) (f : Int → Prop) : Prop := ∃ i, x = .int i ∧ f i
theorem isI_i {i : Int} {f : Int → Prop} (h : f i) : isI (.int i) f := ⟨i, rfl, h⟩
theorem pAt_i (h : te τ M (fun x M1 => isI x fun i => QO (some i) M1) E) : pAt te τ M QO E := h
theorem wSl_t {l u : Option Int} {ws : List W} (h : Q (.tup (cutW ws l u)) M) : wSl l u (.tup ws) M Q := h
theorem wSl_l {l u : Option Int} {a : Addr} {ws : List W} (hm : M a = some (.lst ws)) (h : ∀ p, M p = none → Q (.ref p) (put M p (.lst (cutW ws l u)))) : wSl l u (.ref a) M Q := ⟨ws, hm, h⟩
theorem wSum_l {a : Addr} {ns : List Int} (hm : M a = some (.lst (ns.map W.int))) (h : Q (.int ns.sum) M) : wSum [.ref a] M Q := ⟨ns, hm, h⟩
end
end Ev

/-! Ev, part T: the end of a law over a head that is run once. -/
namespace Ev
open PySem PySem.Spec PyProof.Rows L2
theorem walk_evX {l : PySem.W.OpenLaw} {n k : Nat} {q : Program} {loose : List Str} {XP : (Str → Option Value) → Heap → Prop} {YP : World → Heap → Prop} {d : DefRec} {x : Str} (hn : l.most = some n) (hn2 : n ≤ 1000) (hdf : d.params.defaults = []) (hr : Room k callerA) (hq : PyProof.Rows.importsNone q = true)
    (F : ∀ (w : World) (mg : Str → Option Value) (fa : Addr) (h : Heap), YP w h → h.Ns mainGlobals mg → mg d.name = some (.ref fa) → ∃ K : PySem.W.Frag, K.In h ∧ LawEv l w K k x mg fa h) :
    PySem.W.WalkO q loose XP YP l.row.toRowW d [] (fun f vs => PySem.call f vs) := by
  refine Att.attach_callB hn hdf fun w s₀ s₁ mg mb fa o pm cd doc a vs ns G Y ho hd hcd hmg hobj hints hlen hbits hg => ?_
  obtain ⟨K, KX, fd, cs, T, sp, hT, nT, C, hTc, hb, hsp, hF⟩ := F w mg fa _ Y G.T.g hmg
  have NS := G.T.seer hq
  obtain ⟨mc, ⟨oc, ec, pc, c1, c2, c3⟩, c4, c5⟩ := NS.statics
  obtain ⟨mm, ⟨om, em, pmm, m1, m2, m3⟩, m4⟩ := NS.mods
  obtain ⟨mi, ⟨oi, ei, pi, i1, i2, i3⟩, i4⟩ := NS.imp
  obtain ⟨mg', bm, ob, ⟨og, eg, pg, g1, g2, g3⟩, b1, b2, b3, b4⟩ := NS.main
  obtain ⟨bm2, ob2, d1, _, d2, _, _, d3⟩ := G.T.bmain
  have hmm : mg' "__builtins__" = mg "__builtins__" := by
    obtain ⟨og2, eg2, pg2, h1, h2, _, h4⟩ := G.T.g
    rw [g1] at h1
    cases h1
    rw [g2] at h2
    cases h2
    exact (g3.2 _).symm.trans (h4 _)
  have ebm : bm = bm2 := by
    rw [hmm, d1] at b1
    cases b1
    rfl
  subst ebm
  rw [b2] at d2
  cases d2
  obtain ⟨ex, hex⟩ : ∃ ex : PySem.W.Frag, ex = [(cStatics, oc), (sysModules, om), (builtinsNs, oi), (mainGlobals, og), (bm, ob)] := ⟨_, rfl⟩
  have exIn : ∀ b u, (b, u) ∈ ex → s₁.heap.get? b = some u := by
    intro b u hb
    rw [hex] at hb
    simp only [List.mem_cons, Prod.mk.injEq, List.not_mem_nil, or_false] at hb
    rcases hb with ⟨rfl, rfl⟩ | ⟨rfl, rfl⟩ | ⟨rfl, rfl⟩ | ⟨rfl, rfl⟩ | ⟨rfl, rfl⟩
    · exact c1
    · exact m1
    · exact i1
    · exact g1
    · exact b2
  have exNo : ∀ b u, (b, u) ∈ ex → (∀ its m, u.data ≠ .seq its m) ∧ u.data ≠ .fields #[] := by
    intro b u hb
    rw [hex] at hb
    simp only [List.mem_cons, Prod.mk.injEq, List.not_mem_nil, or_false] at hb
    rcases hb with ⟨rfl, rfl⟩ | ⟨rfl, rfl⟩ | ⟨rfl, rfl⟩ | ⟨rfl, rfl⟩ | ⟨rfl, rfl⟩
    · rw [c2]; exact ⟨fun _ _ z => (by cases z), fun z => (by cases z)⟩
    · rw [m2]; exact ⟨fun _ _ z => (by cases z), fun z => (by cases z)⟩
    · rw [i2]; exact ⟨fun _ _ z => (by cases z), fun z => (by cases z)⟩
    · rw [g2]; exact ⟨fun _ _ z => (by cases z), fun z => (by cases z)⟩
    · rw [d3]; exact ⟨fun _ _ z => (by cases z), fun z => (by cases z)⟩
  have cases' : ∀ b u, (K ++ ex).lookup b = some u → K.lookup b = some u ∨ (b, u) ∈ ex := by
    intro b u e
    rw [look_app] at e
    cases hk : K.lookup b with
    | some u' =>
      rw [hk] at e
      cases e
      exact .inl rfl
    | none =>
      rw [hk] at e
      exact .inr (look_mem e)
  have KX2 : PySem.W.Frag.In (K ++ ex) s₁.heap := fun b u e => (cases' b u e).elim (KX b u) (exIn b u)
  have up : ∀ base : Heap, PySem.W.Frag.In (K ++ ex) base → K.In base := fun base h b u e => h b u (by rw [look_app, e]; rfl)
  have getE : ∀ base : Heap, PySem.W.Frag.In (K ++ ex) base → ∀ b u, (b, u) ∈ ex → base.get? b = some u := fun base h b u hm => by
    obtain ⟨u', e⟩ := look_some hm
    have e2 : ∃ u2, (K ++ ex).lookup b = some u2 := by
      rw [look_app, e]
      cases K.lookup b with
      | some v => exact ⟨v, rfl⟩
      | none => exact ⟨u', rfl⟩
    obtain ⟨u2, e2⟩ := e2
    have z := KX2 b u2 e2
    rw [exIn b u hm] at z
    cases z
    exact h b u e2
  have mems : (cStatics, oc) ∈ ex ∧ (sysModules, om) ∈ ex ∧ (builtinsNs, oi) ∈ ex ∧ (mainGlobals, og) ∈ ex ∧ (bm, ob) ∈ ex := by
    rw [hex]
    simp
  have seer : ∀ base : Heap, PySem.W.Frag.In (K ++ ex) base → base.NoSeer := fun base h =>
    ⟨⟨mc, ⟨oc, ec, pc, getE base h _ _ mems.1, c2, c3⟩, c4, c5⟩, ⟨mm, ⟨om, em, pmm, getE base h _ _ mems.2.1, m2, m3⟩, m4⟩, ⟨mi, ⟨oi, ei, pi, getE base h _ _ mems.2.2.1, i2, i3⟩, i4⟩, ⟨mg', bm, ob, ⟨og, eg, pg, getE base h _ _ mems.2.2.2.1, g2, g3⟩, b1, getE base h _ _ mems.2.2.2.2, b3, b4⟩⟩
  have nT2 : ∀ p ∈ cs, (K ++ ex).lookup p.2 = none := fun p hp => by
    cases e : (K ++ ex).lookup p.2 with
    | none => rfl
    | some u =>
      rcases cases' _ _ e with z | z
      · rw [nT p hp] at z
        cases z
      · have z2 := exIn _ _ z
        rw [hT p hp] at z2
        cases z2
        exact absurd rfl (exNo _ _ z).2
  let SP : Sp := fun vs H Q E => (∃ a, vs = [.ref a] ∧ (∀ p ∈ cs, H p.2 = some (.tbl #[])) ∧ SqL K H a (ns.map V.int)) ∧ ∀ H', Q (.bl true) H'
  refine LamX.law_callTs (K := K ++ ex) (CX := L2N.CX l.prog w) (sp := SP) (cs := cs) (fd := fd) (x := x) KX2 G.T.g G.T.b G.T.builtins G.T.nolimit hg hT nT2 C G.T.bmain hobj hints (Nat.le_trans hlen (Nat.le_trans hn2 line1000)) hr ?_ hb (fun H hH hS => ⟨⟨a, rfl, hH, ?_⟩, fun _ => rfl⟩) fun H e s' z => ?_
  · intro base hK hG hTB
    have FW := hF base (up base hK) hG (seer base hK) hTB
    refine ⟨fun vs H Q E ⟨⟨a, e, _⟩, _⟩ => (by rw [e]; rfl), fun A outer s H args us vs2 Q E hr e0 hbd rv ⟨⟨a, e, hH, hS⟩, hQ⟩ => ?_⟩
    subst e
    have e0' : Env0 l.prog w K mg base A outer s H := ⟨e0.frames, ⟨up base hK, e0.mod.glob, e0.mod.blt, e0.mod.nolimit⟩, e0.bs, e0.bsz, e0.funs, e0.frf, e0.hok, e0.bare⟩
    have tabs : LamX.Tabs T H := fun p hp => by
      obtain ⟨c, hc⟩ := hTc p hp
      exact ⟨#[], hH _ hc, by simp [TriplesOk], fun pos cv z => by simp [codeAmong] at z⟩
    have bds : ∀ z ∈ ns, Bd 1048576 z := fun z hz => bd_bits (hbits z hz)
    have len : ns.length ≤ 1000 := Nat.le_trans hlen hn2
    have fin : ∀ (wv : W) (M : Mp), Rep K H wv (.ref a) → RelH K H T M → (wv = .rol (ns.map W.int) ∨ ∃ a, wv = .ref a ∧ M a = some (.lst (ns.map W.int))) → codeAny (model l.prog w) A (.call (.ref fa) args) (CR (L2N.CX l.prog w) outer l.prog w H s Q E) s := fun wv M rp rh hw => by
      refine codeAny_mono (FW.run A outer s H args us [.ref a] [wv] (fun _ => none) M (fun w' M' => w' = .bl true) (fun _ _ _ => False) hr e0' hbd rv (reps_cons rp reps_nil) rh (fun g tl z => by cases z) rfl (hsp M wv ns _ _ hw bds len fun _ => rfl)) fun r s' hh => ?_
      cases r with
      | error ev =>
        obtain ⟨a', B, H', cls, dd, _, _, _, _, _, _, _, C', p', M', _, _, _, ff⟩ := hh
        exact False.elim ff
      | ok fl =>
        cases fl with
        | ret u =>
          obtain ⟨v, H', os, bare, un, hok, rl, w', M', h1, h2, h3⟩ := hh
          subst h3
          refine ⟨v, H', os, bare, un, hok, rl, ?_⟩
          rw [h1.bl]
          exact hQ H'
        | next => exact False.elim hh
        | brk => exact False.elim hh
        | cont => exact False.elim hh
    rcases hS with (h1 | ⟨oo, h1⟩) | h1
    · refine fin (.ref a) (put (fun _ => none) a (.lst (ns.map W.int))) rep_ref ⟨fun b o e => ?_, tabs⟩ (.inr ⟨a, rfl, put_same⟩)
      unfold put at e
      split at e
      · rename_i z
        cases e
        rw [z]
        exact ⟨_, h1, reps_ints ns⟩
      · cases e
    · refine fin (.rol (ns.map W.int)) (fun _ => none) (by unfold Rep; exact ⟨a, _, rfl, ⟨.inl (.inr ⟨oo, h1⟩), fun H' hk => .inl (.inr ⟨oo, hk _ _ _ h1⟩)⟩, reps_ints ns⟩) ⟨fun b o e => (by cases e), tabs⟩ (.inl rfl)
    · exact fin (.rol (ns.map W.int)) (fun _ => none) (by unfold Rep; exact ⟨a, _, rfl, ⟨.inr h1, fun H' hk => .inr h1⟩, reps_ints ns⟩) ⟨fun b o e => (by cases e), tabs⟩ (.inl rfl)
  · rcases hS with h1 | ⟨o, its, m, e1, e2, e3, e4, e5, e6⟩
    · exact .inl h1
    · rcases cases' _ _ e1 with z | z
      · exact .inr ⟨o, its, m, z, e2, e3, e4, e5, e6⟩
      · exact absurd e4 ((exNo _ _ z).1 _ _)
  · obtain ⟨a', B, H', cls, dd, _, _, _, _, _, _, _, ff⟩ := z
    exact ff

theorem funC_of {K : PySem.W.Frag} {x qual : Str} {st : Stmt} {p : He.Defn} {fd : FuncData} {kws : List (Str × V)} (F : FunD K x qual (defArgs st) (defBody st) (defScope st) [] kws (He.fAd K p) fd) : FunC K x qual st (He.fAd K p) fd (He.codeOf K p) := by
  obtain ⟨oc, od, dV, kV, doc, pm, an, cdv, ct, osl, e, l, c, hd, _⟩ := F.ex
  rcases hd with ⟨_, e2⟩ | ⟨e2, _⟩
  · subst e2
    obtain ⟨cc, rfl⟩ := He.codeIn_ref c
    have ec : He.codeOf K p = cc := He.codeOf_eq l (by rw [e]; try rfl)
    rw [ec]
    exact ⟨⟨oc, od, kV, doc, pm, an, ct, osl, e, l, c⟩, F.kp⟩
  · exact absurd rfl e2
end Ev

namespace k12
open PySem L2 Ev
abbrev i_Refused : Nat := 0
abbrev i_BadCount : Nat := 1
abbrev i_BadFormat : Nat := 2
abbrev i_BadNumber : Nat := 3
abbrev i_BadExact : Nat := 4
abbrev i_BadMode : Nat := 5
abbrev i_BadOp : Nat := 6
abbrev i_BadText : Nat := 7
abbrev i_BadCut : Nat := 8
abbrev i_BadPlan : Nat := 9
abbrev i_BadChain : Nat := 10
abbrev i_BadFamily : Nat := 11
abbrev i_BadSpan : Nat := 12
abbrev i_BadProgram : Nat := 13
abbrev i_BadBox : Nat := 14
abbrev i_NotAsked : Nat := 15
abbrev i_TooMany : Nat := 16
abbrev i_alike : Nat := 17
abbrev i_compare : Nat := 18
abbrev i_greatest_of : Nat := 19
abbrev i_least_of : Nat := 20
abbrev i_total : Nat := 21
abbrev i__law_pair_right : Nat := 0
abbrev i__law_refuses_size : Nat := 1
abbrev i__law_single_right : Nat := 2
abbrev i__law_wrong : Nat := 3
def k_NAN : W := (.tup [(.int 0), (.int (-2)), (.int 0)])
def t_is_whole (G : Gm) (L : Lm) : TSW := (sRet (vAnd (tCB (wIsiK G.K) (aCons (tV 0) (aCons (tC (.ty "int")) aNil))) (tUn wNot (tCB (wIsiK G.K) (aCons (tV 0) (aCons (tC (.ty "bool")) aNil))))))
def sp_is_whole (G : Gm) : SpW := spOf 1 (t_is_whole G)
def t_is_number (G : Gm) (L : Lm) : TSW := (sSeq (sIf (qOr (qNot (qB (tCB (wIsiK G.K) (aCons (tV 0) (aCons (tC (.ty "tuple")) aNil))))) (qB (tOp wNe (tCB wLen (aCons (tV 0) aNil)) (tC (.int 3))))) (sRet (tC (.bl false))) sNext) (sSeq (sAsg (tV 0) (gTp 3 (gsCons (gNm 1) (gsCons (gNm 2) (gsCons (gNm 3) gsNil))))) (sSeq (sIf (qNot (qAnd (qB (tFn (sp_is_whole G) L [] (aCons (tV 1) aNil))) (qAnd (qB (tFn (sp_is_whole G) L [] (aCons (tV 2) aNil))) (qB (tFn (sp_is_whole G) L [] (aCons (tV 3) aNil)))))) (sRet (tC (.bl false))) sNext) (sSeq (sIf (qAnd (qB (tOp wNe (tV 1) (tC (.int 0)))) (qB (tOp wNe (tV 1) (tC (.int 1))))) (sRet (tC (.bl false))) sNext) (sSeq (sIf (qB (tOp (wI0 fun i j => .bl (decide (j < i))) (tV 2) (tC (.int 0)))) (sRet (vAnd (tOp wEq (tOp (wI0 fun i j => .int (Builtin.bitAnd i j)) (tV 2) (tC (.int 1))) (tC (.int 1))) (vAnd (tOp (wI0 fun i j => .bl (decide (i ≤ j))) (tUn wBits (tV 2)) (tC (.int 600))) (tChainW (wI0 fun i j => .bl (decide (i ≤ j))) (wI0 fun i j => .bl (decide (i ≤ j))) (tUn wNeg (tC (.int 2000))) (tV 3) (tC (.int 2000)))))) sNext) (sSeq (sIf (qB (tOp wEq (tV 2) (tUn wNeg (tC (.int 2))))) (sRet (vAnd (tOp wEq (tV 1) (tC (.int 0))) (tOp wEq (tV 3) (tC (.int 0))))) sNext) (sRet (vAnd (tOp (wI0 fun i j => .bl (decide (j ≤ i))) (tV 2) (tUn wNeg (tC (.int 1)))) (tOp wEq (tV 3) (tC (.int 0)))))))))))
def sp_is_number (G : Gm) : SpW := spOf 4 (t_is_number G)
def t_check_number (G : Gm) (L : Lm) : TSW := (sIf (qNot (qB (tFn (sp_is_number G) L [] (aCons (tV 0) aNil)))) (sRaise (G.cls i_BadNumber)) sNext)
def sp_check_number (G : Gm) : SpW := spOf 1 (t_check_number G)
def t_nan (G : Gm) (L : Lm) : TSW := (sRet (tC k_NAN))
def sp_nan (G : Gm) : SpW := spOf 0 (t_nan G)
def t_kind_of (G : Gm) (L : Lm) : TSW := (sSeq (sDrop (tFn (sp_check_number G) L [] (aCons (tV 0) aNil))) (sSeq (sIf (qB (tOp (wI0 fun i j => .bl (decide (j < i))) (tOp wIx (tV 0) (tC (.int 1))) (tC (.int 0)))) (sRet (tC (.str "finite"))) sNext) (sSeq (sIf (qB (tOp wEq (tOp wIx (tV 0) (tC (.int 1))) (tC (.int 0)))) (sRet (tC (.str "zero"))) sNext) (sSeq (sIf (qB (tOp wEq (tOp wIx (tV 0) (tC (.int 1))) (tUn wNeg (tC (.int 1))))) (sRet (tC (.str "infinite"))) sNext) (sRet (tC (.str "nan")))))))
def sp_kind_of (G : Gm) : SpW := spOf 1 (t_kind_of G)
def t_minus (G : Gm) (L : Lm) : TSW := (sSeq (sDrop (tFn (sp_check_number G) L [] (aCons (tV 0) aNil))) (sSeq (sIf (qB (tOp wEqA (tV 0) (tC k_NAN))) (sRet (tC k_NAN)) sNext) (sRet (tTup (aCons (tOp (wI0 fun i j => .int (i - j)) (tC (.int 1)) (tOp wIx (tV 0) (tC (.int 0)))) (aCons (tOp wIx (tV 0) (tC (.int 1))) (aCons (tOp wIx (tV 0) (tC (.int 2))) aNil)))))))
def sp_minus (G : Gm) : SpW := spOf 1 (t_minus G)
def t_size (G : Gm) (L : Lm) : TSW := (sSeq (sDrop (tFn (sp_check_number G) L [] (aCons (tV 0) aNil))) (sRet (tTup (aCons (tC (.int 0)) (aCons (tOp wIx (tV 0) (tC (.int 1))) (aCons (tOp wIx (tV 0) (tC (.int 2))) aNil))))))
def sp_size (G : Gm) : SpW := spOf 1 (t_size G)
def t_alike (G : Gm) (L : Lm) : TSW := (sSeq (sDrop (tFn (sp_check_number G) L [] (aCons (tV 0) aNil))) (sSeq (sDrop (tFn (sp_check_number G) L [] (aCons (tV 1) aNil))) (sRet (vOr (tOp wEqA (tV 0) (tV 1)) (vAnd (tOp wEqA (tOp wIx (tV 0) (tC (.int 1))) (tC (.int 0))) (tOp wEqA (tOp wIx (tV 1) (tC (.int 1))) (tC (.int 0))))))))
def sp_alike (G : Gm) : SpW := spOf 2 (t_alike G)
def t_compare_sizes (G : Gm) (L : Lm) : TSW := (sSeq (sAsg (tCB wMin (aCons (tOp wIx (tV 0) (tC (.int 2))) (aCons (tOp wIx (tV 1) (tC (.int 2))) aNil))) (gNm 2)) (sSeq (sAsg (tOp (wI ShlOk fun i j => .int (i * 2 ^ j.toNat)) (tOp wIx (tV 0) (tC (.int 1))) (tOp (wI0 fun i j => .int (i - j)) (tOp wIx (tV 0) (tC (.int 2))) (tV 2))) (gNm 3)) (sSeq (sAsg (tOp (wI ShlOk fun i j => .int (i * 2 ^ j.toNat)) (tOp wIx (tV 1) (tC (.int 1))) (tOp (wI0 fun i j => .int (i - j)) (tOp wIx (tV 1) (tC (.int 2))) (tV 2))) (gNm 4)) (sSeq (sIf (qB (tOp (wI0 fun i j => .bl (decide (i < j))) (tV 3) (tV 4))) (sRet (tUn wNeg (tC (.int 1)))) sNext) (sSeq (sIf (qB (tOp (wI0 fun i j => .bl (decide (j < i))) (tV 3) (tV 4))) (sRet (tC (.int 1))) sNext) (sRet (tC (.int 0))))))))
def sp_compare_sizes (G : Gm) : SpW := spOf 5 (t_compare_sizes G)
def t_level (G : Gm) (L : Lm) : TSW := (sSeq (sAsg (tFn (sp_kind_of G) L [] (aCons (tV 0) aNil)) (gNm 1)) (sSeq (sIf (qB (tOp wEq (tV 1) (tC (.str "nan")))) (sRet (tC (.int 4))) sNext) (sSeq (sAsg (tC (.int 1)) (gNm 2)) (sSeq (sIf (qB (tOp wEq (tV 1) (tC (.str "finite")))) (sAsg (tC (.int 2)) (gNm 2)) sNext) (sSeq (sIf (qB (tOp wEq (tV 1) (tC (.str "infinite")))) (sAsg (tC (.int 3)) (gNm 2)) sNext) (sSeq (sIf (qB (tOp wEq (tOp wIx (tV 0) (tC (.int 0))) (tC (.int 1)))) (sRet (tUn wNeg (tV 2))) sNext) (sRet (tV 2))))))))
def sp_level (G : Gm) : SpW := spOf 3 (t_level G)
def t_total (G : Gm) (L : Lm) : TSW := (sSeq (sDrop (tFn (sp_check_number G) L [] (aCons (tV 0) aNil))) (sSeq (sDrop (tFn (sp_check_number G) L [] (aCons (tV 1) aNil))) (sSeq (sAsg (tFn (sp_level G) L [] (aCons (tV 0) aNil)) (gNm 2)) (sSeq (sAsg (tFn (sp_level G) L [] (aCons (tV 1) aNil)) (gNm 3)) (sSeq (sIf (qB (tOp (wI0 fun i j => .bl (decide (i < j))) (tV 2) (tV 3))) (sRet (tUn wNeg (tC (.int 1)))) sNext) (sSeq (sIf (qB (tOp (wI0 fun i j => .bl (decide (j < i))) (tV 2) (tV 3))) (sRet (tC (.int 1))) sNext) (sSeq (sIf (qB (tOp wEq (tV 2) (tC (.int 2)))) (sRet (tFn (sp_compare_sizes G) L [] (aCons (tV 0) (aCons (tV 1) aNil)))) sNext) (sSeq (sIf (qB (tOp wEq (tV 2) (tUn wNeg (tC (.int 2))))) (sRet (tFn (sp_compare_sizes G) L [] (aCons (tV 1) (aCons (tV 0) aNil)))) sNext) (sRet (tC (.int 0)))))))))))
def sp_total (G : Gm) : SpW := spOf 4 (t_total G)
def t_compare (G : Gm) (L : Lm) : TSW := (sSeq (sDrop (tFn (sp_check_number G) L [] (aCons (tV 0) aNil))) (sSeq (sDrop (tFn (sp_check_number G) L [] (aCons (tV 1) aNil))) (sSeq (sIf (qOr (qB (tOp wEq (tFn (sp_kind_of G) L [] (aCons (tV 0) aNil)) (tC (.str "nan")))) (qB (tOp wEq (tFn (sp_kind_of G) L [] (aCons (tV 1) aNil)) (tC (.str "nan"))))) (sRet (tC (.str "apart"))) sNext) (sSeq (sIf (qB (tFn (sp_alike G) L [] (aCons (tV 0) (aCons (tV 1) aNil)))) (sRet (tC (.str "same"))) sNext) (sSeq (sIf (qB (tOp (wI0 fun i j => .bl (decide (i < j))) (tFn (sp_total G) L [] (aCons (tV 0) (aCons (tV 1) aNil))) (tC (.int 0)))) (sRet (tC (.str "less"))) sNext) (sRet (tC (.str "more"))))))))
def sp_compare (G : Gm) : SpW := spOf 2 (t_compare G)
def t_least_of (G : Gm) (L : Lm) : TSW := (sSeq (sAsg (tFn (sp_total G) L [] (aCons (tV 0) (aCons (tV 1) aNil))) (gNm 2)) (sSeq (sIf (qOr (qB (tOp wEq (tFn (sp_kind_of G) L [] (aCons (tV 0) aNil)) (tC (.str "nan")))) (qB (tOp wEq (tFn (sp_kind_of G) L [] (aCons (tV 1) aNil)) (tC (.str "nan"))))) (sRet (tFn (sp_nan G) L [] aNil)) sNext) (sSeq (sIf (qB (tOp (wI0 fun i j => .bl (decide (i ≤ j))) (tV 2) (tC (.int 0)))) (sRet (tV 0)) sNext) (sRet (tV 1)))))
def sp_least_of (G : Gm) : SpW := spOf 3 (t_least_of G)
def t_greatest_of (G : Gm) (L : Lm) : TSW := (sSeq (sAsg (tFn (sp_total G) L [] (aCons (tV 0) (aCons (tV 1) aNil))) (gNm 2)) (sSeq (sIf (qOr (qB (tOp wEq (tFn (sp_kind_of G) L [] (aCons (tV 0) aNil)) (tC (.str "nan")))) (qB (tOp wEq (tFn (sp_kind_of G) L [] (aCons (tV 1) aNil)) (tC (.str "nan"))))) (sRet (tFn (sp_nan G) L [] aNil)) sNext) (sSeq (sIf (qB (tOp (wI0 fun i j => .bl (decide (j ≤ i))) (tV 2) (tC (.int 0)))) (sRet (tV 0)) sNext) (sRet (tV 1)))))
def sp_greatest_of (G : Gm) : SpW := spOf 3 (t_greatest_of G)
def t__law_store (G : Gm) (L : Lm) : TSW := (sRet (tLst (aCons (tLc 1 (tV 0) qYes (tCB wInt (aCons (tV 1) aNil))) (aCons (tC (.int 0)) (aCons (tC (.int 0)) (aCons (tC (.int 90001)) (aCons (tC (.int 0)) aNil)))))))
def sp__law_store (G : Gm) : SpW := spOf 2 (t__law_store G)
def t__law_mix (G : Gm) (L : Lm) : TSW := (sSeq (sAsg (tOp (wI (fun _ j => j ≠ 0) fun i j => .int (i.fmod j)) (tCB wInt (aCons (tOp wAdd (tOp wAdd (tOp (wI MulOk fun i j => .int (i * j)) (tOp (wI (fun _ j => j ≠ 0) fun i j => .int (i.fmod j)) (tCB wInt (aCons (tV 0) aNil)) (tC (.int 2147483647))) (tC (.int 48271))) (tOp (wI MulOk fun i j => .int (i * j)) (tV 1) (tC (.int 69621)))) (tC (.int 11))) aNil)) (tC (.int 2147483647))) (gNm 2)) (sSeq (sAsg (tOp (wI (fun _ j => j ≠ 0) fun i j => .int (i.fmod j)) (tCB wInt (aCons (tOp wAdd (tOp wAdd (tOp (wI MulOk fun i j => .int (i * j)) (tV 2) (tV 2)) (tOp (wI MulOk fun i j => .int (i * j)) (tV 1) (tC (.int 40692)))) (tC (.int 48611))) aNil)) (tC (.int 2147483629))) (gNm 3)) (sRet (tOp (wI (fun _ j => j ≠ 0) fun i j => .int (i.fmod j)) (tCB wInt (aCons (tOp wAdd (tOp wAdd (tOp (wI MulOk fun i j => .int (i * j)) (tV 3) (tC (.int 16807))) (tOp (wI (fun _ j => j ≠ 0) fun i j => .int (i.fdiv j)) (tV 2) (tC (.int 977)))) (tOp (wI MulOk fun i j => .int (i * j)) (tV 1) (tC (.int 3)))) aNil)) (tC (.int 2147483587))))))
def sp__law_mix (G : Gm) : SpW := spOf 4 (t__law_mix G)
def t__law_wide (G : Gm) (L : Lm) : TSW := (sSeq (sAsg (tFn (sp__law_mix G) L [] (aCons (tV 0) (aCons (tV 1) aNil))) (gNm 3)) (sSeq (sAsg (tC (.int 0)) (gNm 4)) (sSeq (sForR (aCons (tOp wAdd (tOp (wI (fun _ j => j ≠ 0) fun i j => .int (i.fdiv j)) (tUn wBits (tV 2)) (tC (.int 30))) (tC (.int 2))) aNil) (gNm 5) (sSeq (sAsg (tFn (sp__law_mix G) L [] (aCons (tOp wAdd (tV 3) (tOp (wI MulOk fun i j => .int (i * j)) (tV 5) (tC (.int 40503)))) (aCons (tOp wAdd (tV 1) (tV 5)) aNil))) (gNm 3)) (sAsg (tOp wAdd (tOp (wI MulOk fun i j => .int (i * j)) (tV 4) (tC (.int 2147483587))) (tV 3)) (gNm 4)))) (sRet (tOp (wI (fun _ j => j ≠ 0) fun i j => .int (i.fmod j)) (tCB wInt (aCons (tV 4) aNil)) (tV 2))))))
def sp__law_wide (G : Gm) : SpW := spOf 6 (t__law_wide G)
def t__law_take (G : Gm) (L : Lm) : TSW := (sSeq (sIf (qB (tOp (wI0 fun i j => .bl (decide (i < j))) (tV 1) (tC (.int 2)))) (sRet (tC (.int 0))) sNext) (sSeq (sIx (tOp wAdd (tOp wIx (tV 0) (tC (.int 4))) (tC (.int 1))) (tV 0) (tC (.int 4))) (sSeq (sIf (qAnd (qB (tOp wEq (tOp wIx (tV 0) (tC (.int 2))) (tC (.int 0)))) (qB (tOp (wI0 fun i j => .bl (decide (i < j))) (tOp wIx (tV 0) (tC (.int 1))) (tCB wLen (aCons (tOp wIx (tV 0) (tC (.int 0))) aNil))))) (sSeq (sAsg (tOp wIx (tOp wIx (tV 0) (tC (.int 0))) (tOp wIx (tV 0) (tC (.int 1)))) (gNm 2)) (sSeq (sIx (tOp wAdd (tOp wIx (tV 0) (tC (.int 1))) (tC (.int 1))) (tV 0) (tC (.int 1))) (sSeq (sIx (tFn (sp__law_mix G) L [] (aCons (tOp wAdd (tV 2) (tOp wIx (tV 0) (tC (.int 3)))) (aCons (tOp wIx (tV 0) (tC (.int 1))) aNil))) (tV 0) (tC (.int 3))) (sSeq (sIf (qB (tOp (wI0 fun i j => .bl (decide (i < j))) (tCB wAbs (aCons (tV 2) aNil)) (tOp (wI CPow fun i j => .int (i ^ j.toNat)) (tC (.int 10)) (tC (.int 18))))) (sRet (tFn (sp__law_wide G) L [] (aCons (tV 2) (aCons (tOp wIx (tV 0) (tC (.int 4))) (aCons (tV 1) aNil))))) sNext) (sIx (tCB wAbs (aCons (tV 2) aNil)) (tV 0) (tC (.int 2))))))) sNext) (sSeq (sIf (qB (tOp (wI0 fun i j => .bl (decide (j < i))) (tOp wIx (tV 0) (tC (.int 2))) (tC (.int 0)))) (sSeq (sAsg (tOp wIx (tV 0) (tC (.int 2))) (gNm 3)) (sSeq (sIx (tOp (wI (fun _ j => j ≠ 0) fun i j => .int (i.fdiv j)) (tV 3) (tV 1)) (tV 0) (tC (.int 2))) (sRet (tOp (wI (fun _ j => j ≠ 0) fun i j => .int (i.fmod j)) (tCB wInt (aCons (tV 3) aNil)) (tV 1))))) sNext) (sRet (tFn (sp__law_wide G) L [] (aCons (tOp wIx (tV 0) (tC (.int 3))) (aCons (tOp wIx (tV 0) (tC (.int 4))) (aCons (tV 1) aNil)))))))))
def sp__law_take (G : Gm) : SpW := spOf 4 (t__law_take G)
def t__law_edge (G : Gm) (L : Lm) : TSW := (sSeq (sAsg (tFn (sp__law_take G) L [] (aCons (tV 0) (aCons (tC (.int 12)) aNil))) (gNm 3)) (sSeq (sIf (qOr (qB (tOp (wI0 fun i j => .bl (decide (i ≤ j))) (tV 2) (tV 1))) (qB (tOp wEq (tV 3) (tC (.int 0))))) (sRet (tV 1)) sNext) (sSeq (sIf (qB (tOp wEq (tV 3) (tC (.int 1)))) (sRet (tV 2)) sNext) (sSeq (sIf (qB (tOp wEq (tV 3) (tC (.int 2)))) (sRet (tOp wAdd (tV 1) (tC (.int 1)))) sNext) (sSeq (sIf (qB (tOp wEq (tV 3) (tC (.int 3)))) (sRet (tOp (wI0 fun i j => .int (i - j)) (tV 2) (tC (.int 1)))) sNext) (sSeq (sIf (qB (tOp wEq (tV 3) (tC (.int 4)))) (sRet (tCB wMin (aCons (tCB wMax (aCons (tC (.int 0)) (aCons (tV 1) aNil))) (aCons (tV 2) aNil)))) sNext) (sSeq (sIf (qB (tOp (wI0 fun i j => .bl (decide (i < j))) (tV 3) (tC (.int 7)))) (sRet (tCB wMin (aCons (tV 2) (aCons (tOp wAdd (tV 1) (tFn (sp__law_take G) L [] (aCons (tV 0) (aCons (tC (.int 10)) aNil)))) aNil)))) sNext) (sRet (tOp wAdd (tV 1) (tFn (sp__law_take G) L [] (aCons (tV 0) (aCons (tOp wAdd (tOp (wI0 fun i j => .int (i - j)) (tV 2) (tV 1)) (tC (.int 1))) aNil))))))))))))
def sp__law_edge (G : Gm) : SpW := spOf 4 (t__law_edge G)
def t__law_scaled (G : Gm) (L : Lm) : TSW := (sSeq (sAsg (tFn (sp__law_take G) L [] (aCons (tV 0) (aCons (tOp wAdd (tV 1) (tC (.int 1))) aNil))) (gNm 2)) (sSeq (sAsg (tFn (sp__law_take G) L [] (aCons (tV 0) (aCons (tC (.int 8)) aNil))) (gNm 3)) (sSeq (sIf (qB (tOp wEq (tV 3) (tC (.int 0)))) (sRet (tOp (wI0 fun i j => .int (i - j)) (tOp (wI ShlOk fun i j => .int (i * 2 ^ j.toNat)) (tC (.int 1)) (tV 2)) (tC (.int 1)))) sNext) (sSeq (sIf (qAnd (qB (tOp wEq (tV 3) (tC (.int 1)))) (qB (tOp (wI0 fun i j => .bl (decide (i < j))) (tV 2) (tV 1)))) (sRet (tOp (wI ShlOk fun i j => .int (i * 2 ^ j.toNat)) (tC (.int 1)) (tV 2))) sNext) (sSeq (sIf (qAnd (qB (tOp wEq (tV 3) (tC (.int 2)))) (qB (tOp (wI0 fun i j => .bl (decide (j < i))) (tV 2) (tC (.int 1))))) (sRet (tOp (wI0 fun i j => .int (i - j)) (tOp (wI ShlOk fun i j => .int (i * 2 ^ j.toNat)) (tC (.int 1)) (tV 2)) (tC (.int 2)))) sNext) (sRet (tFn (sp__law_take G) L [] (aCons (tV 0) (aCons (tOp (wI ShlOk fun i j => .int (i * 2 ^ j.toNat)) (tC (.int 1)) (tV 2)) aNil)))))))))
def sp__law_scaled (G : Gm) : SpW := spOf 4 (t__law_scaled G)
def t__law_shuffled (G : Gm) (L : Lm) : TSW := (sSeq (sAsg (tLc 5 (tV 1) qYes (tV 5)) (gNm 2)) (sSeq (sAsg (tLst aNil) (gNm 3)) (sSeq (sForR (aCons (tCB wLen (aCons (tV 1) aNil)) aNil) (gNm 4) (sDrop (tMt wApp (tV 3) (aCons (tMt wPopAt (tV 2) (aCons (tFn (sp__law_take G) L [] (aCons (tV 0) (aCons (tCB wLen (aCons (tV 2) aNil)) aNil))) aNil)) aNil)))) (sRet (tV 3)))))
def sp__law_shuffled (G : Gm) : SpW := spOf 6 (t__law_shuffled G)
def t__law_no_integer (G : Gm) (L : Lm) : TSW := (sSeq (sAsg (tLst (aCons (tC .non) (aCons (tC (.bl true)) (aCons (tC (.bl false)) (aCons (tC (.str "0")) (aCons (tC (.str "")) (aCons (tTup (aCons (tC (.int 1)) aNil)) (aCons (tTup aNil) (aCons (tLst (aCons (tC (.int 0)) aNil)) (aCons (tLst aNil) aNil)))))))))) (gNm 1)) (sRet (tOp wIx (tV 1) (tFn (sp__law_take G) L [] (aCons (tV 0) (aCons (tCB wLen (aCons (tV 1) aNil)) aNil))))))
def sp__law_no_integer (G : Gm) : SpW := spOf 2 (t__law_no_integer G)
def t__law_int (G : Gm) (L : Lm) : TSW := (sRet (vAnd (tCB (wIsiK G.K) (aCons (tV 0) (aCons (tC (.ty "int")) aNil))) (tUn wNot (tCB (wIsiK G.K) (aCons (tV 0) (aCons (tC (.ty "bool")) aNil))))))
def sp__law_int (G : Gm) : SpW := spOf 1 (t__law_int G)
def t__law_same (G : Gm) (rec : SpW) (L : Lm) : TSW := (sSeq (sIf (qB (tIsN false (tV 1))) (sRet (tIsN false (tV 0))) sNext) (sSeq (sIf (qB (tCB (wIsiK G.K) (aCons (tV 1) (aCons (tC (.ty "bool")) aNil)))) (sRet (vAnd (tCB (wIsiK G.K) (aCons (tV 0) (aCons (tC (.ty "bool")) aNil))) (tOp wEq (tV 0) (tV 1)))) sNext) (sSeq (sIf (qB (tCB (wIsiK G.K) (aCons (tV 1) (aCons (tC (.ty "int")) aNil)))) (sRet (vAnd (tFn (sp__law_int G) L [] (aCons (tV 0) aNil)) (tOp wEq (tV 0) (tV 1)))) sNext) (sSeq (sIf (qB (tCB (wIsiK G.K) (aCons (tV 1) (aCons (tC (.ty "str")) aNil)))) (sRet (vAnd (tCB (wIsiK G.K) (aCons (tV 0) (aCons (tC (.ty "str")) aNil))) (tOp wEq (tV 0) (tV 1)))) sNext) (sSeq (sIf (qAnd (qB (tCB (wIsiK G.K) (aCons (tV 1) (aCons (tC (.ty "list")) aNil)))) (qNot (qB (tCB (wIsiK G.K) (aCons (tV 0) (aCons (tC (.ty "list")) aNil)))))) (sRet (tC (.bl false))) sNext) (sSeq (sIf (qAnd (qB (tCB (wIsiK G.K) (aCons (tV 1) (aCons (tC (.ty "tuple")) aNil)))) (qNot (qB (tCB (wIsiK G.K) (aCons (tV 0) (aCons (tC (.ty "tuple")) aNil)))))) (sRet (tC (.bl false))) sNext) (sSeq (sIf (qOr (qNot (qB (tCB (wIsiK G.K) (aCons (tV 1) (aCons (tTup (aCons (tC (.ty "list")) (aCons (tC (.ty "tuple")) aNil))) aNil))))) (qB (tOp wNe (tCB wLen (aCons (tV 0) aNil)) (tCB wLen (aCons (tV 1) aNil))))) (sRet (tC (.bl false))) sNext) (sSeq (sForR (aCons (tCB wLen (aCons (tV 1) aNil)) aNil) (gNm 2) (sIf (qNot (qB (tFn rec L [] (aCons (tOp wIx (tV 0) (tV 2)) (aCons (tOp wIx (tV 1) (tV 2)) aNil))))) (sRet (tC (.bl false))) sNext)) (sRet (tC (.bl true)))))))))))
def sp__law_same (G : Gm) : Nat → SpW
  | 0 => fun _ _ _ _ _ => False
  | n + 1 => spOf 3 (t__law_same G (sp__law_same G n))
def t__law_names (G : Gm) (a0 : Addr) : TSW := (sSeq (sAsg (tLst (aCons (tTup (aCons (tC (.str "BadCount")) (aCons (tCB (wIsiK G.K) (aCons (tV 0) (aCons (tC (.ref (G.cls i_BadCount))) aNil))) aNil))) (aCons (tTup (aCons (tC (.str "BadFormat")) (aCons (tCB (wIsiK G.K) (aCons (tV 0) (aCons (tC (.ref (G.cls i_BadFormat))) aNil))) aNil))) aNil))) (gNm 1)) (sSeq (sDrop (tMt wApp (tV 1) (aCons (tTup (aCons (tC (.str "BadNumber")) (aCons (tCB (wIsiK G.K) (aCons (tV 0) (aCons (tC (.ref (G.cls i_BadNumber))) aNil))) aNil))) aNil))) (sSeq (sDrop (tMt wApp (tV 1) (aCons (tTup (aCons (tC (.str "BadExact")) (aCons (tCB (wIsiK G.K) (aCons (tV 0) (aCons (tC (.ref (G.cls i_BadExact))) aNil))) aNil))) aNil))) (sSeq (sDrop (tMt wApp (tV 1) (aCons (tTup (aCons (tC (.str "BadMode")) (aCons (tCB (wIsiK G.K) (aCons (tV 0) (aCons (tC (.ref (G.cls i_BadMode))) aNil))) aNil))) aNil))) (sSeq (sDrop (tMt wApp (tV 1) (aCons (tTup (aCons (tC (.str "BadOp")) (aCons (tCB (wIsiK G.K) (aCons (tV 0) (aCons (tC (.ref (G.cls i_BadOp))) aNil))) aNil))) aNil))) (sSeq (sDrop (tMt wApp (tV 1) (aCons (tTup (aCons (tC (.str "BadText")) (aCons (tCB (wIsiK G.K) (aCons (tV 0) (aCons (tC (.ref (G.cls i_BadText))) aNil))) aNil))) aNil))) (sSeq (sDrop (tMt wApp (tV 1) (aCons (tTup (aCons (tC (.str "BadCut")) (aCons (tCB (wIsiK G.K) (aCons (tV 0) (aCons (tC (.ref (G.cls i_BadCut))) aNil))) aNil))) aNil))) (sSeq (sDrop (tMt wApp (tV 1) (aCons (tTup (aCons (tC (.str "BadPlan")) (aCons (tCB (wIsiK G.K) (aCons (tV 0) (aCons (tC (.ref (G.cls i_BadPlan))) aNil))) aNil))) aNil))) (sSeq (sDrop (tMt wApp (tV 1) (aCons (tTup (aCons (tC (.str "BadChain")) (aCons (tCB (wIsiK G.K) (aCons (tV 0) (aCons (tC (.ref (G.cls i_BadChain))) aNil))) aNil))) aNil))) (sSeq (sDrop (tMt wApp (tV 1) (aCons (tTup (aCons (tC (.str "BadFamily")) (aCons (tCB (wIsiK G.K) (aCons (tV 0) (aCons (tC (.ref (G.cls i_BadFamily))) aNil))) aNil))) aNil))) (sSeq (sDrop (tMt wApp (tV 1) (aCons (tTup (aCons (tC (.str "BadSpan")) (aCons (tCB (wIsiK G.K) (aCons (tV 0) (aCons (tC (.ref (G.cls i_BadSpan))) aNil))) aNil))) aNil))) (sSeq (sDrop (tMt wApp (tV 1) (aCons (tTup (aCons (tC (.str "BadProgram")) (aCons (tCB (wIsiK G.K) (aCons (tV 0) (aCons (tC (.ref (G.cls i_BadProgram))) aNil))) aNil))) aNil))) (sSeq (sDrop (tMt wApp (tV 1) (aCons (tTup (aCons (tC (.str "BadBox")) (aCons (tCB (wIsiK G.K) (aCons (tV 0) (aCons (tC (.ref (G.cls i_BadBox))) aNil))) aNil))) aNil))) (sSeq (sDrop (tMt wApp (tV 1) (aCons (tTup (aCons (tC (.str "NotAsked")) (aCons (tCB (wIsiK G.K) (aCons (tV 0) (aCons (tC (.ref (G.cls i_NotAsked))) aNil))) aNil))) aNil))) (sSeq (sDrop (tMt wApp (tV 1) (aCons (tTup (aCons (tC (.str "TooMany")) (aCons (tCB (wIsiK G.K) (aCons (tV 0) (aCons (tC (.ref (G.cls i_TooMany))) aNil))) aNil))) aNil))) (sSeq (sDrop (tMt wApp (tV 1) (aCons (tTup (aCons (tC (.str "no ValueError")) (aCons (tUn wNot (tCB (wIsiK G.K) (aCons (tV 0) (aCons (tC (.ty "ValueError")) aNil)))) aNil))) aNil))) (sRet (tCB wTuple (aCons (tLcH a0 2 (tV 1) (qB (tOp wIx (tV 2) (tC (.int 1)))) (tOp wIx (tV 2) (tC (.int 0)))) aNil)))))))))))))))))))
def sp__law_names (G : Gm) : SpH := spHOf 3 (t__law_names G)
def t__law_caught (G : Gm) (L : Lm) : TSW := (sSeq (sTry G.K (sAsg (tAct L 0) (gNm 2)) [(G.cls i_BadText, 1, fun a0 => sNever), (G.cls i_BadProgram, 1, fun a0 => sNever), (G.cls i_TooMany, 1, fun a0 => sNever), (G.cls i_Refused, 1, fun a0 => (sRet (tTup (aCons (tC (.str "raised")) (aCons (tFnH a0 (sp__law_names G) (aCons (tV 1) aNil)) (aCons (tC .non) aNil))))))]) (sRet (tTup (aCons (tC (.str "returned")) (aCons (tV 2) aNil)))))
def sp__law_caught (G : Gm) : SpW := spOf 3 (t__law_caught G)
def t__law_alike (G : Gm) (L : Lm) : TSW := (sRet (vOr (tOp wEqA (tV 0) (tV 1)) (vAnd (tOp wEqA (tOp wIx (tV 0) (tC (.int 1))) (tC (.int 0))) (tOp wEqA (tOp wIx (tV 1) (tC (.int 1))) (tC (.int 0))))))
def sp__law_alike (G : Gm) : SpW := spOf 2 (t__law_alike G)
def t__law_compare (G : Gm) (L : Lm) : TSW := (sSeq (sAsg (tOp (wI0 fun i j => .int (i - j)) (tC (.int 1)) (tOp (wI MulOk fun i j => .int (i * j)) (tC (.int 2)) (tOp wIx (tV 0) (tC (.int 0))))) (gNm 2)) (sSeq (sAsg (tOp (wI0 fun i j => .int (i - j)) (tC (.int 1)) (tOp (wI MulOk fun i j => .int (i * j)) (tC (.int 2)) (tOp wIx (tV 1) (tC (.int 0))))) (gNm 3)) (sSeq (sIf (qOr (qB (tOp wEq (tOp wIx (tV 0) (tC (.int 1))) (tUn wNeg (tC (.int 1))))) (qB (tOp wEq (tOp wIx (tV 1) (tC (.int 1))) (tUn wNeg (tC (.int 1)))))) (sSeq (sAsg (tOp (wI MulOk fun i j => .int (i * j)) (tV 2) (tCB wInt (aCons (tOp wEq (tOp wIx (tV 0) (tC (.int 1))) (tUn wNeg (tC (.int 1)))) aNil))) (gNm 2)) (sSeq (sAsg (tOp (wI MulOk fun i j => .int (i * j)) (tV 3) (tCB wInt (aCons (tOp wEq (tOp wIx (tV 1) (tC (.int 1))) (tUn wNeg (tC (.int 1)))) aNil))) (gNm 3)) (sRet (tOp (wI0 fun i j => .int (i - j)) (tCB wInt (aCons (tOp (wI0 fun i j => .bl (decide (j < i))) (tV 2) (tV 3)) aNil)) (tCB wInt (aCons (tOp (wI0 fun i j => .bl (decide (i < j))) (tV 2) (tV 3)) aNil)))))) sNext) (sSeq (sAsg (tCB wMin (aCons (tOp wIx (tV 0) (tC (.int 2))) (aCons (tOp wIx (tV 1) (tC (.int 2))) aNil))) (gNm 4)) (sSeq (sAsg (tOp (wI ShlOk fun i j => .int (i * 2 ^ j.toNat)) (tOp (wI MulOk fun i j => .int (i * j)) (tV 2) (tOp wIx (tV 0) (tC (.int 1)))) (tOp (wI0 fun i j => .int (i - j)) (tOp wIx (tV 0) (tC (.int 2))) (tV 4))) (gNm 2)) (sSeq (sAsg (tOp (wI ShlOk fun i j => .int (i * 2 ^ j.toNat)) (tOp (wI MulOk fun i j => .int (i * j)) (tV 3) (tOp wIx (tV 1) (tC (.int 1)))) (tOp (wI0 fun i j => .int (i - j)) (tOp wIx (tV 1) (tC (.int 2))) (tV 4))) (gNm 3)) (sRet (tOp (wI0 fun i j => .int (i - j)) (tCB wInt (aCons (tOp (wI0 fun i j => .bl (decide (j < i))) (tV 2) (tV 3)) aNil)) (tCB wInt (aCons (tOp (wI0 fun i j => .bl (decide (i < j))) (tV 2) (tV 3)) aNil))))))))))
def sp__law_compare (G : Gm) : SpW := spOf 5 (t__law_compare G)
def t__law_before (G : Gm) (L : Lm) : TSW := (sSeq (sIf (qOr (qB (tOp wEq (tOp wIx (tV 0) (tC (.int 1))) (tUn wNeg (tC (.int 2))))) (qB (tOp wEq (tOp wIx (tV 1) (tC (.int 1))) (tUn wNeg (tC (.int 2)))))) (sRet (tOp (wI0 fun i j => .int (i - j)) (tCB wInt (aCons (tOp wEq (tOp wIx (tV 0) (tC (.int 1))) (tUn wNeg (tC (.int 2)))) aNil)) (tCB wInt (aCons (tOp wEq (tOp wIx (tV 1) (tC (.int 1))) (tUn wNeg (tC (.int 2)))) aNil)))) sNext) (sSeq (sAsg (tFn (sp__law_compare G) L [] (aCons (tV 0) (aCons (tV 1) aNil))) (gNm 2)) (sSeq (sIf (qAnd (qB (tOp wEq (tV 2) (tC (.int 0)))) (qAnd (qB (tOp wEq (tOp wIx (tV 0) (tC (.int 1))) (tC (.int 0)))) (qB (tOp wEq (tOp wIx (tV 1) (tC (.int 1))) (tC (.int 0)))))) (sRet (tOp (wI0 fun i j => .int (i - j)) (tOp wIx (tV 1) (tC (.int 0))) (tOp wIx (tV 0) (tC (.int 0))))) sNext) (sRet (tV 2)))))
def sp__law_before (G : Gm) : SpW := spOf 3 (t__law_before G)
def t__law_loose (G : Gm) (L : Lm) : TSW := (sSeq (sAsg (tFn (sp__law_take G) L [] (aCons (tV 0) (aCons (tC (.int 2)) aNil))) (gNm 3)) (sSeq (sAsg (tOp wAdd (tOp (wI MulOk fun i j => .int (i * j)) (tC (.int 2)) (tFn (sp__law_scaled G) L [] (aCons (tV 0) (aCons (tOp (wI0 fun i j => .int (i - j)) (tV 1) (tC (.int 1))) aNil)))) (tC (.int 1))) (gNm 4)) (sRet (tTup (aCons (tV 3) (aCons (tV 4) (aCons (tFn (sp__law_edge G) L [] (aCons (tV 0) (aCons (tOp (wI0 fun i j => .int (i - j)) (tC (.int 0)) (tV 2)) (aCons (tV 2) aNil)))) aNil)))))))
def sp__law_loose (G : Gm) : SpW := spOf 5 (t__law_loose G)
def t__law_number (G : Gm) (L : Lm) : TSW := (sSeq (sAsg (tFn (sp__law_take G) L [] (aCons (tV 0) (aCons (tC (.int 16)) aNil))) (gNm 1)) (sSeq (sIf (qB (tOp wEq (tV 1) (tC (.int 0)))) (sRet (tTup (aCons (tC (.int 0)) (aCons (tUn wNeg (tC (.int 2))) (aCons (tC (.int 0)) aNil))))) sNext) (sSeq (sIf (qB (tOp wEq (tV 1) (tC (.int 1)))) (sRet (tTup (aCons (tFn (sp__law_take G) L [] (aCons (tV 0) (aCons (tC (.int 2)) aNil))) (aCons (tUn wNeg (tC (.int 1))) (aCons (tC (.int 0)) aNil))))) sNext) (sSeq (sIf (qB (tOp (wI0 fun i j => .bl (decide (i < j))) (tV 1) (tC (.int 4)))) (sRet (tTup (aCons (tFn (sp__law_take G) L [] (aCons (tV 0) (aCons (tC (.int 2)) aNil))) (aCons (tC (.int 0)) (aCons (tC (.int 0)) aNil))))) sNext) (sSeq (sIf (qB (tOp (wI0 fun i j => .bl (decide (i < j))) (tV 1) (tC (.int 10)))) (sRet (tFn (sp__law_loose G) L [] (aCons (tV 0) (aCons (tC (.int 6)) (aCons (tC (.int 6)) aNil))))) sNext) (sSeq (sIf (qB (tOp (wI0 fun i j => .bl (decide (i < j))) (tV 1) (tC (.int 14)))) (sRet (tFn (sp__law_loose G) L [] (aCons (tV 0) (aCons (tC (.int 53)) (aCons (tC (.int 60)) aNil))))) sNext) (sRet (tFn (sp__law_loose G) L [] (aCons (tV 0) (aCons (tC (.int 600)) (aCons (tC (.int 2000)) aNil)))))))))))
def sp__law_number (G : Gm) : SpW := spOf 2 (t__law_number G)
def t__law_bad_number (G : Gm) (L : Lm) : TSW := (sSeq (sAsg (tLst (aCons (tLst (aCons (tOp wIx (tV 1) (tC (.int 0))) (aCons (tOp wIx (tV 1) (tC (.int 1))) (aCons (tOp wIx (tV 1) (tC (.int 2))) aNil)))) (aCons (tTup (aCons (tOp wIx (tV 1) (tC (.int 0))) (aCons (tOp wIx (tV 1) (tC (.int 1))) aNil))) (aCons (tTup (aCons (tOp wIx (tV 1) (tC (.int 0))) (aCons (tOp wIx (tV 1) (tC (.int 1))) (aCons (tOp wIx (tV 1) (tC (.int 2))) (aCons (tC (.int 0)) aNil))))) (aCons (tTup (aCons (tC (.int 2)) (aCons (tOp wIx (tV 1) (tC (.int 1))) (aCons (tOp wIx (tV 1) (tC (.int 2))) aNil)))) aNil))))) (gNm 2)) (sSeq (sDrop (tMt wExt (tV 2) (aCons (tLst (aCons (tTup (aCons (tUn wNeg (tC (.int 1))) (aCons (tOp wIx (tV 1) (tC (.int 1))) (aCons (tOp wIx (tV 1) (tC (.int 2))) aNil)))) (aCons (tTup (aCons (tC (.int 0)) (aCons (tC (.int 0)) (aCons (tC (.int 1)) aNil)))) (aCons (tTup (aCons (tC (.int 1)) (aCons (tC (.int 0)) (aCons (tUn wNeg (tC (.int 2001))) aNil)))) (aCons (tTup (aCons (tC (.int 0)) (aCons (tUn wNeg (tC (.int 1))) (aCons (tC (.int 1)) aNil)))) (aCons (tTup (aCons (tC (.int 1)) (aCons (tUn wNeg (tC (.int 2))) (aCons (tC (.int 0)) aNil)))) (aCons (tTup (aCons (tC (.int 0)) (aCons (tUn wNeg (tC (.int 3))) (aCons (tC (.int 0)) aNil)))) (aCons (tTup (aCons (tC (.int 0)) (aCons (tC (.int 2)) (aCons (tC (.int 0)) aNil)))) aNil)))))))) aNil))) (sSeq (sDrop (tMt wExt (tV 2) (aCons (tLst (aCons (tTup (aCons (tC (.int 1)) (aCons (tC (.int 6)) (aCons (tUn wNeg (tC (.int 1))) aNil)))) (aCons (tTup (aCons (tC (.int 0)) (aCons (tOp wAdd (tOp (wI ShlOk fun i j => .int (i * 2 ^ j.toNat)) (tC (.int 1)) (tC (.int 600))) (tC (.int 1))) (aCons (tC (.int 0)) aNil)))) (aCons (tTup (aCons (tC (.int 0)) (aCons (tC (.int 1)) (aCons (tC (.int 2001)) aNil)))) (aCons (tTup (aCons (tC (.int 0)) (aCons (tC (.int 1)) (aCons (tUn wNeg (tC (.int 2001))) aNil)))) (aCons (tTup (aCons (tC (.int 0)) (aCons (tUn wNeg (tC (.int 5))) (aCons (tC (.int 0)) aNil)))) (aCons (tC .non) (aCons (tC (.str "1p0")) (aCons (tC (.int 1)) (aCons (tC (.int 0)) aNil)))))))))) aNil))) (sSeq (sDrop (tMt wApp (tV 2) (aCons (tTup (aCons (tFn (sp__law_no_integer G) L [] (aCons (tV 0) aNil)) (aCons (tOp wIx (tV 1) (tC (.int 1))) (aCons (tOp wIx (tV 1) (tC (.int 2))) aNil)))) aNil))) (sSeq (sDrop (tMt wApp (tV 2) (aCons (tTup (aCons (tOp wIx (tV 1) (tC (.int 0))) (aCons (tFn (sp__law_no_integer G) L [] (aCons (tV 0) aNil)) (aCons (tOp wIx (tV 1) (tC (.int 2))) aNil)))) aNil))) (sSeq (sDrop (tMt wApp (tV 2) (aCons (tTup (aCons (tOp wIx (tV 1) (tC (.int 0))) (aCons (tOp wIx (tV 1) (tC (.int 1))) (aCons (tFn (sp__law_no_integer G) L [] (aCons (tV 0) aNil)) aNil)))) aNil))) (sSeq (sDrop (tMt wExt (tV 2) (aCons (tLst (aCons (tTup aNil) (aCons (tTup (aCons (tV 1) aNil)) (aCons (tC (.bl true)) (aCons (tTup (aCons (tC (.int 0)) (aCons (tOp (wI ShlOk fun i j => .int (i * 2 ^ j.toNat)) (tC (.int 1)) (tC (.int 600))) (aCons (tC (.int 0)) aNil)))) aNil))))) aNil))) (sRet (tOp wIx (tV 2) (tFn (sp__law_take G) L [] (aCons (tV 0) (aCons (tCB wLen (aCons (tV 2) aNil)) aNil))))))))))))
def sp__law_bad_number (G : Gm) : SpW := spOf 3 (t__law_bad_number G)
def t__law_gives (G : Gm) (L : Lm) : TSW := (sRet (tFn (sp__law_same G 6) L [] (aCons (tFn (sp__law_caught G) L [] (aCons (tV 0) aNil)) (aCons (tTup (aCons (tC (.str "returned")) (aCons (tV 1) aNil))) aNil))))
def sp__law_gives (G : Gm) : SpW := spOf 2 (t__law_gives G)
def t__law_refuses (G : Gm) (L : Lm) : TSW := (sRet (tFn (sp__law_same G 6) L [] (aCons (tFn (sp__law_caught G) L [] (aCons (tV 0) aNil)) (aCons (tTup (aCons (tC (.str "raised")) (aCons (tTup (aCons (tC (.str "BadNumber")) aNil)) (aCons (tC .non) aNil)))) aNil))))
def sp__law_refuses (G : Gm) : SpW := spOf 1 (t__law_refuses G)
def t__law_turned (G : Gm) (L : Lm) : TSW := (sRet (tTup (aCons (tOp (wI0 fun i j => .int (i - j)) (tOp (wI0 fun i j => .int (i - j)) (tC (.int 1)) (tOp wIx (tV 0) (tC (.int 0)))) (tCB wInt (aCons (tOp wEq (tOp wIx (tV 0) (tC (.int 1))) (tUn wNeg (tC (.int 2)))) aNil))) (aCons (tOp wIx (tV 0) (tC (.int 1))) (aCons (tOp wIx (tV 0) (tC (.int 2))) aNil)))))
def sp__law_turned (G : Gm) : SpW := spOf 1 (t__law_turned G)
def t__law_bounded (G : Gm) (L : Lm) : TSW := (sSeq (sIf (qOr (qB (tOp (wI0 fun i j => .bl (decide (j < i))) (tOp (wI (fun _ j => 0 ≤ j) fun i j => .int (i / 2 ^ j.toNat)) (tOp wIx (tV 0) (tC (.int 1))) (tC (.int 600))) (tC (.int 0)))) (qB (tOp (wI0 fun i j => .bl (decide (j < i))) (tCB wAbs (aCons (tOp wIx (tV 0) (tC (.int 2))) aNil)) (tC (.int 2000))))) (sRet (tTup (aCons (tOp wIx (tV 0) (tC (.int 0))) (aCons (tC (.int 1)) (aCons (tC (.int 0)) aNil))))) sNext) (sRet (tV 0)))
def sp__law_bounded (G : Gm) : SpW := spOf 1 (t__law_bounded G)
def t__law_neighbour (G : Gm) (L : Lm) : TSW := (sSeq (sAsg (tV 1) (gTp 3 (gsCons (gNm 4) (gsCons (gNm 5) (gsCons (gNm 6) gsNil))))) (sSeq (sAsg (tFn (sp__law_take G) L [] (aCons (tV 0) (aCons (tC (.int 6)) aNil))) (gNm 2)) (sSeq (sAsg (tFn (sp__law_edge G) L [] (aCons (tV 0) (aCons (tC (.int 1)) (aCons (tC (.int 40)) aNil)))) (gNm 3)) (sSeq (sIf (qB (tOp wEq (tV 2) (tC (.int 0)))) (sRet (tFn (sp__law_bounded G) L [] (aCons (tTup (aCons (tV 4) (aCons (tOp wAdd (tV 5) (tC (.int 2))) (aCons (tV 6) aNil)))) aNil))) sNext) (sSeq (sIf (qB (tOp wEq (tV 2) (tC (.int 1)))) (sRet (tFn (sp__law_bounded G) L [] (aCons (tTup (aCons (tV 4) (aCons (tV 5) (aCons (tOp (wI0 fun i j => .int (i - j)) (tOp wAdd (tV 6) (tC (.int 1))) (tOp (wI MulOk fun i j => .int (i * j)) (tC (.int 2)) (tFn (sp__law_take G) L [] (aCons (tV 0) (aCons (tC (.int 2)) aNil))))) aNil)))) aNil))) sNext) (sSeq (sIf (qB (tOp wEq (tV 2) (tC (.int 2)))) (sRet (tTup (aCons (tOp (wI0 fun i j => .int (i - j)) (tC (.int 1)) (tV 4)) (aCons (tV 5) (aCons (tV 6) aNil))))) sNext) (sSeq (sIf (qB (tOp wEq (tV 2) (tC (.int 3)))) (sRet (tFn (sp__law_bounded G) L [] (aCons (tTup (aCons (tV 4) (aCons (tOp wAdd (tOp (wI ShlOk fun i j => .int (i * 2 ^ j.toNat)) (tV 5) (tV 3)) (tC (.int 1))) (aCons (tOp (wI0 fun i j => .int (i - j)) (tV 6) (tV 3)) aNil)))) aNil))) sNext) (sSeq (sIf (qB (tOp wEq (tV 2) (tC (.int 4)))) (sRet (tFn (sp__law_bounded G) L [] (aCons (tTup (aCons (tV 4) (aCons (tOp (wI0 fun i j => .int (i - j)) (tOp (wI ShlOk fun i j => .int (i * 2 ^ j.toNat)) (tV 5) (tV 3)) (tC (.int 1))) (aCons (tOp (wI0 fun i j => .int (i - j)) (tV 6) (tV 3)) aNil)))) aNil))) sNext) (sRet (tFn (sp__law_bounded G) L [] (aCons (tTup (aCons (tV 4) (aCons (tC (.int 1)) (aCons (tOp (wI0 fun i j => .int (i - j)) (tOp wAdd (tV 6) (tUn wBits (tV 5))) (tFn (sp__law_take G) L [] (aCons (tV 0) (aCons (tC (.int 2)) aNil)))) aNil)))) aNil)))))))))))
def sp__law_neighbour (G : Gm) : SpW := spOf 7 (t__law_neighbour G)
def t__law_row (G : Gm) (L : Lm) : TSW := (sSeq (sAsg (tFn (sp__law_loose G) L [] (aCons (tV 0) (aCons (tOp wIx (tLst (aCons (tC (.int 6)) (aCons (tC (.int 60)) (aCons (tC (.int 600)) aNil)))) (tFn (sp__law_take G) L [] (aCons (tV 0) (aCons (tC (.int 3)) aNil)))) (aCons (tOp wIx (tLst (aCons (tC (.int 6)) (aCons (tC (.int 60)) (aCons (tC (.int 2000)) aNil)))) (tFn (sp__law_take G) L [] (aCons (tV 0) (aCons (tC (.int 3)) aNil)))) aNil)))) (gNm 1)) (sSeq (sAsg (tLst (aCons (tV 1) (aCons (tFn (sp__law_number G) L [] (aCons (tV 0) aNil)) (aCons (tTup (aCons (tC (.int 0)) (aCons (tC (.int 0)) (aCons (tC (.int 0)) aNil)))) (aCons (tTup (aCons (tC (.int 1)) (aCons (tC (.int 0)) (aCons (tC (.int 0)) aNil)))) (aCons (tTup (aCons (tC (.int 0)) (aCons (tUn wNeg (tC (.int 1))) (aCons (tC (.int 0)) aNil)))) (aCons (tTup (aCons (tC (.int 1)) (aCons (tUn wNeg (tC (.int 1))) (aCons (tC (.int 0)) aNil)))) (aCons (tTup (aCons (tC (.int 0)) (aCons (tUn wNeg (tC (.int 2))) (aCons (tC (.int 0)) aNil)))) aNil)))))))) (gNm 2)) (sSeq (sForR (aCons (tC (.int 3)) aNil) (gNm 3) (sDrop (tMt wApp (tV 2) (aCons (tFn (sp__law_neighbour G) L [] (aCons (tV 0) (aCons (tV 1) aNil))) aNil)))) (sRet (tFn (sp__law_shuffled G) L [] (aCons (tV 0) (aCons (tV 2) aNil)))))))
def sp__law_row (G : Gm) : SpW := spOf 4 (t__law_row G)
def t__law_word_of (G : Gm) (L : Lm) : TSW := (sSeq (sIf (qOr (qB (tOp wEq (tOp wIx (tV 0) (tC (.int 1))) (tUn wNeg (tC (.int 2))))) (qB (tOp wEq (tOp wIx (tV 1) (tC (.int 1))) (tUn wNeg (tC (.int 2)))))) (sRet (tC (.str "apart"))) sNext) (sSeq (sIf (qAnd (qB (tOp wEq (tOp wIx (tV 0) (tC (.int 1))) (tC (.int 0)))) (qB (tOp wEq (tOp wIx (tV 1) (tC (.int 1))) (tC (.int 0))))) (sRet (tC (.str "same"))) sNext) (sRet (tOp wIx (tLst (aCons (tC (.str "same")) (aCons (tC (.str "more")) (aCons (tC (.str "less")) aNil)))) (tV 2)))))
def sp__law_word_of (G : Gm) : SpW := spOf 3 (t__law_word_of G)
def t__law_pair_right (G : Gm) (L : Lm) : TSW := (sSeq (sAsg (tFn (sp__law_before G) L [] (aCons (tV 0) (aCons (tV 1) aNil))) (gNm 2)) (sSeq (sPar 4 5 (aCons (tV 0) (aCons (tV 1) aNil))) (sSeq (sIf (qB (tOp (wI0 fun i j => .bl (decide (j < i))) (tV 2) (tC (.int 0)))) (sPar 4 5 (aCons (tV 1) (aCons (tV 0) aNil))) sNext) (sSeq (sIf (qB (tOp wEq (tOp wIx (tV 5) (tC (.int 1))) (tUn wNeg (tC (.int 2))))) (sAsg (tV 5) (gNm 4)) sNext) (sSeq (sAsg (tLst (aCons (tLam (sp__law_gives G) L (tFn (sp_total G) L0 [] (aCons (tV 0) (aCons (tV 1) aNil))) (aCons (tV 2) aNil)) aNil)) (gNm 3)) (sSeq (sDrop (tMt wApp (tV 3) (aCons (tLam (sp__law_gives G) L (tFn (sp_compare G) L0 [] (aCons (tV 0) (aCons (tV 1) aNil))) (aCons (tFn (sp__law_word_of G) L [] (aCons (tV 0) (aCons (tV 1) (aCons (tV 2) aNil)))) aNil)) aNil))) (sSeq (sDrop (tMt wApp (tV 3) (aCons (tLam (sp__law_gives G) L (tFn (sp_least_of G) L0 [] (aCons (tV 0) (aCons (tV 1) aNil))) (aCons (tV 4) aNil)) aNil))) (sSeq (sDrop (tMt wApp (tV 3) (aCons (tLam (sp__law_gives G) L (tFn (sp_greatest_of G) L0 [] (aCons (tV 0) (aCons (tV 1) aNil))) (aCons (tV 5) aNil)) aNil))) (sSeq (sDrop (tMt wApp (tV 3) (aCons (tLam (sp__law_gives G) L (tFn (sp_alike G) L0 [] (aCons (tV 0) (aCons (tV 1) aNil))) (aCons (tFn (sp__law_alike G) L [] (aCons (tV 0) (aCons (tV 1) aNil))) aNil)) aNil))) (sSeq (sIf (qB (tOp wNe (tOp wIx (tV 5) (tC (.int 1))) (tUn wNeg (tC (.int 2))))) (sSeq (sAsg (tFn (sp__law_turned G) L [] (aCons (tV 0) aNil)) (gNm 6)) (sDrop (tMt wApp (tV 3) (aCons (tLam (sp__law_gives G) L (tFn (sp_total G) L0 [] (aCons (tFn (sp__law_turned G) L0 [] (aCons (tV 1) aNil)) (aCons (tV 6) aNil))) (aCons (tV 2) aNil)) aNil)))) sNext) (sRet (tCB (wAll fun bs => bs.all id) (aCons (tV 3) aNil)))))))))))))
def sp__law_pair_right (G : Gm) : SpW := spOf 7 (t__law_pair_right G)
def t__law_single_right (G : Gm) (L : Lm) : TSW := (sSeq (sAsg (tFn (sp__law_turned G) L [] (aCons (tV 0) aNil)) (gNm 1)) (sSeq (sAsg (tLst (aCons (tLam (sp__law_gives G) L (tFn (sp_minus G) L0 [] (aCons (tV 0) aNil)) (aCons (tV 1) aNil)) aNil)) (gNm 2)) (sSeq (sDrop (tMt wApp (tV 2) (aCons (tLam (sp__law_gives G) L (tFn (sp_minus G) L0 [] (aCons (tV 1) aNil)) (aCons (tV 0) aNil)) aNil))) (sSeq (sDrop (tMt wApp (tV 2) (aCons (tLam (sp__law_gives G) L (tFn (sp_size G) L0 [] (aCons (tV 0) aNil)) (aCons (tTup (aCons (tC (.int 0)) (aCons (tOp wIx (tV 0) (tC (.int 1))) (aCons (tOp wIx (tV 0) (tC (.int 2))) aNil)))) aNil)) aNil))) (sSeq (sDrop (tMt wApp (tV 2) (aCons (tLam (sp__law_gives G) L (tFn (sp_size G) L0 [] (aCons (tV 1) aNil)) (aCons (tTup (aCons (tC (.int 0)) (aCons (tOp wIx (tV 0) (tC (.int 1))) (aCons (tOp wIx (tV 0) (tC (.int 2))) aNil)))) aNil)) aNil))) (sRet (tCB (wAll fun bs => bs.all id) (aCons (tV 2) aNil))))))))
def sp__law_single_right (G : Gm) : SpW := spOf 3 (t__law_single_right G)
def t__law_refuses_size (G : Gm) (L : Lm) : TSW := (sRet (tLam (sp__law_refuses G) L (tFn (sp_size G) L0 [] (aCons (tV 0) aNil)) aNil))
def sp__law_refuses_size (G : Gm) : SpW := spOf 1 (t__law_refuses_size G)
def t__law_wrong (G : Gm) (L : Lm) : TSW := (sSeq (sAsg (tFn (sp__law_bad_number G) L [] (aCons (tV 0) (aCons (tV 1) aNil))) (gNm 2)) (sSeq (sAsg (tLst (aCons (vAnd (tLam (sp__law_refuses G) L (tFn (sp_minus G) L0 [] (aCons (tV 2) aNil)) aNil) (tFn (sp__law_refuses_size G) L [] (aCons (tV 2) aNil))) aNil)) (gNm 3)) (sSeq (sFor (tLst (aCons (tC (.ref (G.cls i_total))) (aCons (tC (.ref (G.cls i_compare))) (aCons (tC (.ref (G.cls i_least_of))) (aCons (tC (.ref (G.cls i_greatest_of))) (aCons (tC (.ref (G.cls i_alike))) aNil)))))) (gNm 4) (sSeq (sDrop (tMt wApp (tV 3) (aCons (tLam (sp__law_refuses G) L (tFnV 4 L0 [(G.cls i_alike, [], (sp_alike G)), (G.cls i_compare, [], (sp_compare G)), (G.cls i_greatest_of, [], (sp_greatest_of G)), (G.cls i_least_of, [], (sp_least_of G)), (G.cls i_total, [], (sp_total G))] (aCons (tV 2) (aCons (tV 1) aNil))) aNil) aNil))) (sSeq (sDrop (tMt wApp (tV 3) (aCons (tLam (sp__law_refuses G) L (tFnV 4 L0 [(G.cls i_alike, [], (sp_alike G)), (G.cls i_compare, [], (sp_compare G)), (G.cls i_greatest_of, [], (sp_greatest_of G)), (G.cls i_least_of, [], (sp_least_of G)), (G.cls i_total, [], (sp_total G))] (aCons (tV 1) (aCons (tV 2) aNil))) aNil) aNil))) (sDrop (tMt wApp (tV 3) (aCons (tLam (sp__law_refuses G) L (tFnV 4 L0 [(G.cls i_alike, [], (sp_alike G)), (G.cls i_compare, [], (sp_compare G)), (G.cls i_greatest_of, [], (sp_greatest_of G)), (G.cls i_least_of, [], (sp_least_of G)), (G.cls i_total, [], (sp_total G))] (aCons (tTup (aCons (tC (.int 0)) (aCons (tUn wNeg (tC (.int 2))) (aCons (tC (.int 0)) aNil)))) (aCons (tV 2) aNil))) aNil) aNil)))))) (sSeq (sForR (aCons (tC (.int 2)) aNil) (gNm 5) (sSeq (sDrop (tMt wApp (tV 3) (aCons (tLam (sp__law_gives G) L (tFn (sp_total G) L0 [] (aCons (tTup (aCons (tC (.int 1)) (aCons (tC (.int 1)) (aCons (tC (.int 0)) aNil)))) (aCons (tTup (aCons (tC (.int 0)) (aCons (tC (.int 1)) (aCons (tC (.int 0)) aNil)))) aNil))) (aCons (tUn wNeg (tC (.int 1))) aNil)) aNil))) (sSeq (sDrop (tMt wApp (tV 3) (aCons (tLam (sp__law_refuses G) L (tFn (sp_total G) L0 [] (aCons (tTup (aCons (tC (.bl true)) (aCons (tC (.int 1)) (aCons (tC (.int 0)) aNil)))) (aCons (tTup (aCons (tC (.int 0)) (aCons (tC (.int 1)) (aCons (tC (.int 0)) aNil)))) aNil))) aNil) aNil))) (sSeq (sDrop (tMt wApp (tV 3) (aCons (tLam (sp__law_refuses G) L (tFn (sp_total G) L0 [] (aCons (tTup (aCons (tC (.int 1)) (aCons (tC (.int 1)) (aCons (tC (.int 0)) aNil)))) (aCons (tTup (aCons (tC (.int 0)) (aCons (tC (.bl true)) (aCons (tC (.int 0)) aNil)))) aNil))) aNil) aNil))) (sSeq (sDrop (tMt wApp (tV 3) (aCons (tLam (sp__law_gives G) L (tFn (sp_compare G) L0 [] (aCons (tTup (aCons (tC (.int 1)) (aCons (tC (.int 0)) (aCons (tC (.int 0)) aNil)))) (aCons (tTup (aCons (tC (.int 0)) (aCons (tC (.int 0)) (aCons (tC (.int 0)) aNil)))) aNil))) (aCons (tC (.str "same")) aNil)) aNil))) (sSeq (sDrop (tMt wApp (tV 3) (aCons (tLam (sp__law_refuses G) L (tFn (sp_compare G) L0 [] (aCons (tTup (aCons (tC (.int 1)) (aCons (tC (.int 0)) (aCons (tC (.int 0)) aNil)))) (aCons (tTup (aCons (tC (.bl false)) (aCons (tC (.int 0)) (aCons (tC (.int 0)) aNil)))) aNil))) aNil) aNil))) (sDrop (tMt wApp (tV 3) (aCons (tLam (sp__law_gives G) L (tFn (sp_least_of G) L0 [] (aCons (tTup (aCons (tC (.int 0)) (aCons (tC (.int 0)) (aCons (tC (.int 0)) aNil)))) (aCons (tTup (aCons (tC (.int 1)) (aCons (tC (.int 0)) (aCons (tC (.int 0)) aNil)))) aNil))) (aCons (tTup (aCons (tC (.int 1)) (aCons (tC (.int 0)) (aCons (tC (.int 0)) aNil)))) aNil)) aNil))))))))) (sRet (tCB (wAll fun bs => bs.all id) (aCons (tV 3) aNil)))))))
def sp__law_wrong (G : Gm) : SpW := spOf 6 (t__law_wrong G)
def t_law (G : Gm) (L : Lm) : TSW := (sSeq (sAsg (tFn (sp__law_store G) L [] (aCons (tV 0) aNil)) (gNm 1)) (sSeq (sForR (aCons (tC (.int 2)) aNil) (gNm 2) (sSeq (sAsg (tFn (sp__law_row G) L [] (aCons (tV 1) aNil)) (gNm 3)) (sSeq (sFor (tV 3) (gNm 4) (sSeq (sIf (qNot (qB (tFn (sp__law_single_right G) L [] (aCons (tV 4) aNil)))) (sRet (tC (.bl false))) sNext) (sFor (tV 3) (gNm 5) (sIf (qNot (qB (tFn (sp__law_pair_right G) L [] (aCons (tV 4) (aCons (tV 5) aNil))))) (sRet (tC (.bl false))) sNext)))) (sIf (qNot (qB (tFn (sp__law_wrong G) L [] (aCons (tV 1) (aCons (tOp wIx (tV 3) (tC (.int 0))) aNil))))) (sRet (tC (.bl false))) sNext)))) (sRet (tC (.bl true)))))
def sp_law (G : Gm) : SpW := spOf 6 (t_law G)
end k12

namespace k12
open PySem PySem.Spec PyProof.Rows L2 Ev
structure Fx (P : Program) (w : World) (mg : Str → Option Value) (base : Heap) (T : Tb) (G : Gm) : Prop where
  seer : base.NoSeer
  tree : P.given.tree = none
  c_BadBox : mg "BadBox" = some (.ref (G.cls i_BadBox))
  c_BadChain : mg "BadChain" = some (.ref (G.cls i_BadChain))
  c_BadCount : mg "BadCount" = some (.ref (G.cls i_BadCount))
  c_BadCut : mg "BadCut" = some (.ref (G.cls i_BadCut))
  c_BadExact : mg "BadExact" = some (.ref (G.cls i_BadExact))
  c_BadFamily : mg "BadFamily" = some (.ref (G.cls i_BadFamily))
  c_BadFormat : mg "BadFormat" = some (.ref (G.cls i_BadFormat))
  c_BadMode : mg "BadMode" = some (.ref (G.cls i_BadMode))
  c_BadNumber : mg "BadNumber" = some (.ref (G.cls i_BadNumber))
  c_BadOp : mg "BadOp" = some (.ref (G.cls i_BadOp))
  c_BadPlan : mg "BadPlan" = some (.ref (G.cls i_BadPlan))
  c_BadProgram : mg "BadProgram" = some (.ref (G.cls i_BadProgram))
  c_BadSpan : mg "BadSpan" = some (.ref (G.cls i_BadSpan))
  c_BadText : mg "BadText" = some (.ref (G.cls i_BadText))
  c_NotAsked : mg "NotAsked" = some (.ref (G.cls i_NotAsked))
  c_Refused : mg "Refused" = some (.ref (G.cls i_Refused))
  c_TooMany : mg "TooMany" = some (.ref (G.cls i_TooMany))
  c_alike : mg "alike" = some (.ref (G.cls i_alike))
  c_compare : mg "compare" = some (.ref (G.cls i_compare))
  c_greatest_of : mg "greatest_of" = some (.ref (G.cls i_greatest_of))
  c_least_of : mg "least_of" = some (.ref (G.cls i_least_of))
  c_total : mg "total" = some (.ref (G.cls i_total))
  e_BadNumber : ErrC G.K (G.cls i_BadNumber)
  n_ValueError : mg "ValueError" = none
  n_abs : mg "abs" = none
  n_all : mg "all" = none
  n_bool : mg "bool" = none
  n_int : mg "int" = none
  n_isinstance : mg "isinstance" = none
  n_len : mg "len" = none
  n_list : mg "list" = none
  n_max : mg "max" = none
  n_min : mg "min" = none
  n_range : mg "range" = none
  n_str : mg "str" = none
  n_tuple : mg "tuple" = none
  k_NAN : GlN G.K mg "NAN" k_NAN
  t__law_pair_right : LamX.TabB base mg (G.cd i__law_pair_right) (G.tb i__law_pair_right)
  m__law_pair_right : (G.tb i__law_pair_right, (("_law_pair_right" : Str) ++ ".<locals>.") ++ "<lambda>") ∈ T
  u__law_pair_right : ∀ p ∈ T, p.1 = G.tb i__law_pair_right → p.2 = (("_law_pair_right" : Str) ++ ".<locals>.") ++ "<lambda>"
  t__law_refuses_size : LamX.TabB base mg (G.cd i__law_refuses_size) (G.tb i__law_refuses_size)
  m__law_refuses_size : (G.tb i__law_refuses_size, (("_law_refuses_size" : Str) ++ ".<locals>.") ++ "<lambda>") ∈ T
  u__law_refuses_size : ∀ p ∈ T, p.1 = G.tb i__law_refuses_size → p.2 = (("_law_refuses_size" : Str) ++ ".<locals>.") ++ "<lambda>"
  t__law_single_right : LamX.TabB base mg (G.cd i__law_single_right) (G.tb i__law_single_right)
  m__law_single_right : (G.tb i__law_single_right, (("_law_single_right" : Str) ++ ".<locals>.") ++ "<lambda>") ∈ T
  u__law_single_right : ∀ p ∈ T, p.1 = G.tb i__law_single_right → p.2 = (("_law_single_right" : Str) ++ ".<locals>.") ++ "<lambda>"
  t__law_wrong : LamX.TabB base mg (G.cd i__law_wrong) (G.tb i__law_wrong)
  m__law_wrong : (G.tb i__law_wrong, (("_law_wrong" : Str) ++ ".<locals>.") ++ "<lambda>") ∈ T
  u__law_wrong : ∀ p ∈ T, p.1 = G.tb i__law_wrong → p.2 = (("_law_wrong" : Str) ++ ".<locals>.") ++ "<lambda>"
theorem sc_is_whole : FnScope ["value"] ["value"] (defScope s_is_whole) := ⟨rfl, rfl, rfl, by decide +kernel, rfl, by decide +kernel, by decide +kernel⟩
theorem dw_is_whole {P : Program} {w : World} {mg : Str → Option Value} {base : Heap} {T : Tb} {G : Gm} (Fx : Fx P w mg base T G) {fa : Addr} {fd : FuncData} (F : Fun G.K "is_whole" "is_whole" s_is_whole fa fd) (hm : mg "is_whole" = some (.ref fa)) : DefW P w G.K mg base T "is_whole" 1 1 (sp_is_whole G) := by
  have nd : (["value"] : List Str).Nodup := sc_is_whole.nd
  refine ⟨fa, fd, ["value"], hm, F.kp, F.binds (fun _ _ _ _ _ _ us hl => match us, hl with | [_], _ => rfl), ?_, rfl⟩
  exact fnW_of (N := ["value"]) (ps := ["value"]) (k := 0) (t := t_is_whole G) F sc_is_whole (fun L cdv A outer s H E hr => (s_one (s_ret (w_andV (w_isiK (by rfl) Fx.n_isinstance (a_cons (w_var 0 (by rfl) (by first | exact Or.inl rfl | exact Or.inr (Or.inl rfl) | exact Or.inr (Or.inr rfl))) (a_cons (w_bltn (v := .ty "int") (u := .type "int") (by rfl) Fx.n_int (by decide +kernel) rfl (fun _ => rep_ty)) a_nil))) (w_one (w_not (w_isiK (by rfl) Fx.n_isinstance (a_cons (w_var 0 (by rfl) (by first | exact Or.inl rfl | exact Or.inr (Or.inl rfl) | exact Or.inr (Or.inr rfl))) (a_cons (w_bltn (v := .ty "bool") (u := .type "bool") (by rfl) Fx.n_bool (by decide +kernel) rfl (fun _ => rep_ty)) a_nil)))))))))
theorem sc_is_number : FnScope ["x", "s", "m", "q"] ["x"] (defScope s_is_number) := ⟨rfl, rfl, rfl, by decide +kernel, rfl, by decide +kernel, by decide +kernel⟩
theorem dw_is_number {P : Program} {w : World} {mg : Str → Option Value} {base : Heap} {T : Tb} {G : Gm} (Fx : Fx P w mg base T G) {fa : Addr} {fd : FuncData} (F : Fun G.K "is_number" "is_number" s_is_number fa fd) (hm : mg "is_number" = some (.ref fa)) (D_is_whole : DefW P w G.K mg base T "is_whole" 1 1 (sp_is_whole G)) : DefW P w G.K mg base T "is_number" 2 1 (sp_is_number G) := by
  have nd : (["x", "s", "m", "q"] : List Str).Nodup := sc_is_number.nd
  refine ⟨fa, fd, ["x"], hm, F.kp, F.binds (fun _ _ _ _ _ _ us hl => match us, hl with | [_], _ => rfl), ?_, rfl⟩
  exact fnW_of (N := ["x", "s", "m", "q"]) (ps := ["x"]) (k := 1) (t := t_is_number G) F sc_is_number (fun L cdv A outer s H E hr => (s_cons (s_if ((q_or (q_not (q_val (w_isiK (by rfl) Fx.n_isinstance (a_cons (w_var 0 (by rfl) (by first | exact Or.inl rfl | exact Or.inr (Or.inl rfl) | exact Or.inr (Or.inr rfl))) (a_cons (w_bltn (v := .ty "tuple") (u := .type "tuple") (by rfl) Fx.n_tuple (by decide +kernel) rfl (fun _ => rep_ty)) a_nil))) (by intro _; rfl))) (q_or1 (q_ne (w_len (by rfl) Fx.n_len (a_cons (w_var 0 (by rfl) (by first | exact Or.inl rfl | exact Or.inr (Or.inl rfl) | exact Or.inr (Or.inr rfl))) a_nil)) w_int)))).q (s_one (s_ret w_bl)) s_nil) (s_cons (s_asg (w_var 0 (by rfl) (by first | exact Or.inl rfl | exact Or.inr (Or.inl rfl) | exact Or.inr (Or.inr rfl))) (g_tup (by rfl) (gs_cons (g_name 1 nd (by rfl) (by first | exact Or.inl rfl | exact Or.inr rfl) (.inl rfl)) (gs_cons (g_name 2 nd (by rfl) (by first | exact Or.inl rfl | exact Or.inr rfl) (.inl rfl)) (gs_cons (g_name 3 nd (by rfl) (by first | exact Or.inl rfl | exact Or.inr rfl) (.inl rfl)) gs_nil))))) (s_cons (s_if (q_not ((q_and (q_val (w_call D_is_whole (hr.mono (by first | decide | omega)) (by rfl) (a_cons (w_var 1 (by rfl) (by first | exact Or.inl rfl | exact Or.inr (Or.inl rfl) | exact Or.inr (Or.inr rfl))) a_nil)) (by intro _; rfl)) (q_and (q_val (w_call D_is_whole (hr.mono (by first | decide | omega)) (by rfl) (a_cons (w_var 2 (by rfl) (by first | exact Or.inl rfl | exact Or.inr (Or.inl rfl) | exact Or.inr (Or.inr rfl))) a_nil)) (by intro _; rfl)) (q_and1 (q_val (w_call D_is_whole (hr.mono (by first | decide | omega)) (by rfl) (a_cons (w_var 3 (by rfl) (by first | exact Or.inl rfl | exact Or.inr (Or.inl rfl) | exact Or.inr (Or.inr rfl))) a_nil)) (by intro _; rfl)))))).q) (s_one (s_ret w_bl)) s_nil) (s_cons (s_if ((q_and (q_ne (w_var 1 (by rfl) (by first | exact Or.inl rfl | exact Or.inr (Or.inl rfl) | exact Or.inr (Or.inr rfl))) w_int) (q_and1 (q_ne (w_var 1 (by rfl) (by first | exact Or.inl rfl | exact Or.inr (Or.inl rfl) | exact Or.inr (Or.inr rfl))) w_int)))).q (s_one (s_ret w_bl)) s_nil) (s_cons (s_if (q_gt (w_var 2 (by rfl) (by first | exact Or.inl rfl | exact Or.inr (Or.inl rfl) | exact Or.inr (Or.inr rfl))) w_int) (s_one (s_ret (w_andV (w_eq (w_and (w_var 2 (by rfl) (by first | exact Or.inl rfl | exact Or.inr (Or.inl rfl) | exact Or.inr (Or.inr rfl))) w_int) w_int) (w_andV (w_le (w_bits (w_var 2 (by rfl) (by first | exact Or.inl rfl | exact Or.inr (Or.inl rfl) | exact Or.inr (Or.inr rfl)))) w_int) (w_one (w_chLeLe (w_neg w_int) (w_var 3 (by rfl) (by first | exact Or.inl rfl | exact Or.inr (Or.inl rfl) | exact Or.inr (Or.inr rfl))) w_int)))))) s_nil) (s_cons (s_if (q_eq (w_var 2 (by rfl) (by first | exact Or.inl rfl | exact Or.inr (Or.inl rfl) | exact Or.inr (Or.inr rfl))) (w_neg w_int)) (s_one (s_ret (w_andV (w_eq (w_var 1 (by rfl) (by first | exact Or.inl rfl | exact Or.inr (Or.inl rfl) | exact Or.inr (Or.inr rfl))) w_int) (w_one (w_eq (w_var 3 (by rfl) (by first | exact Or.inl rfl | exact Or.inr (Or.inl rfl) | exact Or.inr (Or.inr rfl))) w_int))))) s_nil) (s_one (s_ret (w_andV (w_ge (w_var 2 (by rfl) (by first | exact Or.inl rfl | exact Or.inr (Or.inl rfl) | exact Or.inr (Or.inr rfl))) (w_neg w_int)) (w_one (w_eq (w_var 3 (by rfl) (by first | exact Or.inl rfl | exact Or.inr (Or.inl rfl) | exact Or.inr (Or.inr rfl))) w_int))))))))))))
theorem sc_check_number : FnScope ["x"] ["x"] (defScope s_check_number) := ⟨rfl, rfl, rfl, by decide +kernel, rfl, by decide +kernel, by decide +kernel⟩
theorem dw_check_number {P : Program} {w : World} {mg : Str → Option Value} {base : Heap} {T : Tb} {G : Gm} (Fx : Fx P w mg base T G) {fa : Addr} {fd : FuncData} (F : Fun G.K "check_number" "check_number" s_check_number fa fd) (hm : mg "check_number" = some (.ref fa)) (D_is_number : DefW P w G.K mg base T "is_number" 2 1 (sp_is_number G)) : DefW P w G.K mg base T "check_number" 3 1 (sp_check_number G) := by
  have nd : (["x"] : List Str).Nodup := sc_check_number.nd
  refine ⟨fa, fd, ["x"], hm, F.kp, F.binds (fun _ _ _ _ _ _ us hl => match us, hl with | [_], _ => rfl), ?_, rfl⟩
  exact fnW_of (N := ["x"]) (ps := ["x"]) (k := 2) (t := t_check_number G) F sc_check_number (fun L cdv A outer s H E hr => (s_one (s_if (q_not (q_val (w_call D_is_number (hr.mono (by first | decide | omega)) (by rfl) (a_cons (w_var 0 (by rfl) (by first | exact Or.inl rfl | exact Or.inr (Or.inl rfl) | exact Or.inr (Or.inr rfl))) a_nil)) (by intro _; rfl))) (s_one (s_raise0 (by rfl) Fx.c_BadNumber Fx.e_BadNumber (by rfl))) s_nil)))
theorem sc_nan : FnScope [] [] (defScope s_nan) := ⟨rfl, rfl, rfl, by decide +kernel, rfl, by decide +kernel, by decide +kernel⟩
theorem dw_nan {P : Program} {w : World} {mg : Str → Option Value} {base : Heap} {T : Tb} {G : Gm} (Fx : Fx P w mg base T G) {fa : Addr} {fd : FuncData} (F : Fun G.K "nan" "nan" s_nan fa fd) (hm : mg "nan" = some (.ref fa)) : DefW P w G.K mg base T "nan" 1 0 (sp_nan G) := by
  have nd : ([] : List Str).Nodup := sc_nan.nd
  refine ⟨fa, fd, [], hm, F.kp, F.binds (fun _ _ _ _ _ _ us hl => match us, hl with | [], _ => rfl), ?_, rfl⟩
  exact fnW_of (N := []) (ps := []) (k := 0) (t := t_nan G) F sc_nan (fun L cdv A outer s H E hr => (s_one (s_ret (w_globN (by rfl) Fx.k_NAN))))
theorem sc_kind_of : FnScope ["x"] ["x"] (defScope s_kind_of) := ⟨rfl, rfl, rfl, by decide +kernel, rfl, by decide +kernel, by decide +kernel⟩
theorem dw_kind_of {P : Program} {w : World} {mg : Str → Option Value} {base : Heap} {T : Tb} {G : Gm} (Fx : Fx P w mg base T G) {fa : Addr} {fd : FuncData} (F : Fun G.K "kind_of" "kind_of" s_kind_of fa fd) (hm : mg "kind_of" = some (.ref fa)) (D_check_number : DefW P w G.K mg base T "check_number" 3 1 (sp_check_number G)) : DefW P w G.K mg base T "kind_of" 4 1 (sp_kind_of G) := by
  have nd : (["x"] : List Str).Nodup := sc_kind_of.nd
  refine ⟨fa, fd, ["x"], hm, F.kp, F.binds (fun _ _ _ _ _ _ us hl => match us, hl with | [_], _ => rfl), ?_, rfl⟩
  exact fnW_of (N := ["x"]) (ps := ["x"]) (k := 3) (t := t_kind_of G) F sc_kind_of (fun L cdv A outer s H E hr => (s_cons (s_expr (w_call D_check_number (hr.mono (by first | decide | omega)) (by rfl) (a_cons (w_var 0 (by rfl) (by first | exact Or.inl rfl | exact Or.inr (Or.inl rfl) | exact Or.inr (Or.inr rfl))) a_nil))) (s_cons (s_if (q_gt (w_item (w_var 0 (by rfl) (by first | exact Or.inl rfl | exact Or.inr (Or.inl rfl) | exact Or.inr (Or.inr rfl))) w_int) w_int) (s_one (s_ret w_str)) s_nil) (s_cons (s_if (q_eq (w_item (w_var 0 (by rfl) (by first | exact Or.inl rfl | exact Or.inr (Or.inl rfl) | exact Or.inr (Or.inr rfl))) w_int) w_int) (s_one (s_ret w_str)) s_nil) (s_cons (s_if (q_eq (w_item (w_var 0 (by rfl) (by first | exact Or.inl rfl | exact Or.inr (Or.inl rfl) | exact Or.inr (Or.inr rfl))) w_int) (w_neg w_int)) (s_one (s_ret w_str)) s_nil) (s_one (s_ret w_str)))))))
theorem sc_minus : FnScope ["x"] ["x"] (defScope s_minus) := ⟨rfl, rfl, rfl, by decide +kernel, rfl, by decide +kernel, by decide +kernel⟩
theorem dw_minus {P : Program} {w : World} {mg : Str → Option Value} {base : Heap} {T : Tb} {G : Gm} (Fx : Fx P w mg base T G) {fa : Addr} {fd : FuncData} (F : Fun G.K "minus" "minus" s_minus fa fd) (hm : mg "minus" = some (.ref fa)) (D_check_number : DefW P w G.K mg base T "check_number" 3 1 (sp_check_number G)) : DefW P w G.K mg base T "minus" 4 1 (sp_minus G) := by
  have nd : (["x"] : List Str).Nodup := sc_minus.nd
  refine ⟨fa, fd, ["x"], hm, F.kp, F.binds (fun _ _ _ _ _ _ us hl => match us, hl with | [_], _ => rfl), ?_, rfl⟩
  exact fnW_of (N := ["x"]) (ps := ["x"]) (k := 3) (t := t_minus G) F sc_minus (fun L cdv A outer s H E hr => (s_cons (s_expr (w_call D_check_number (hr.mono (by first | decide | omega)) (by rfl) (a_cons (w_var 0 (by rfl) (by first | exact Or.inl rfl | exact Or.inr (Or.inl rfl) | exact Or.inr (Or.inr rfl))) a_nil))) (s_cons (s_if (q_eqA hr (w_var 0 (by rfl) (by first | exact Or.inl rfl | exact Or.inr (Or.inl rfl) | exact Or.inr (Or.inr rfl))) (w_globN (by rfl) Fx.k_NAN)) (s_one (s_ret (w_globN (by rfl) Fx.k_NAN))) s_nil) (s_one (s_ret (w_tup (a_cons (w_sub w_int (w_item (w_var 0 (by rfl) (by first | exact Or.inl rfl | exact Or.inr (Or.inl rfl) | exact Or.inr (Or.inr rfl))) w_int)) (a_cons (w_item (w_var 0 (by rfl) (by first | exact Or.inl rfl | exact Or.inr (Or.inl rfl) | exact Or.inr (Or.inr rfl))) w_int) (a_cons (w_item (w_var 0 (by rfl) (by first | exact Or.inl rfl | exact Or.inr (Or.inl rfl) | exact Or.inr (Or.inr rfl))) w_int) a_nil)))))))))
theorem sc_size : FnScope ["x"] ["x"] (defScope s_size) := ⟨rfl, rfl, rfl, by decide +kernel, rfl, by decide +kernel, by decide +kernel⟩
theorem dw_size {P : Program} {w : World} {mg : Str → Option Value} {base : Heap} {T : Tb} {G : Gm} (Fx : Fx P w mg base T G) {fa : Addr} {fd : FuncData} (F : Fun G.K "size" "size" s_size fa fd) (hm : mg "size" = some (.ref fa)) (D_check_number : DefW P w G.K mg base T "check_number" 3 1 (sp_check_number G)) : DefW P w G.K mg base T "size" 4 1 (sp_size G) := by
  have nd : (["x"] : List Str).Nodup := sc_size.nd
  refine ⟨fa, fd, ["x"], hm, F.kp, F.binds (fun _ _ _ _ _ _ us hl => match us, hl with | [_], _ => rfl), ?_, rfl⟩
  exact fnW_of (N := ["x"]) (ps := ["x"]) (k := 3) (t := t_size G) F sc_size (fun L cdv A outer s H E hr => (s_cons (s_expr (w_call D_check_number (hr.mono (by first | decide | omega)) (by rfl) (a_cons (w_var 0 (by rfl) (by first | exact Or.inl rfl | exact Or.inr (Or.inl rfl) | exact Or.inr (Or.inr rfl))) a_nil))) (s_one (s_ret (w_tup (a_cons w_int (a_cons (w_item (w_var 0 (by rfl) (by first | exact Or.inl rfl | exact Or.inr (Or.inl rfl) | exact Or.inr (Or.inr rfl))) w_int) (a_cons (w_item (w_var 0 (by rfl) (by first | exact Or.inl rfl | exact Or.inr (Or.inl rfl) | exact Or.inr (Or.inr rfl))) w_int) a_nil))))))))
theorem sc_alike : FnScope ["x", "y"] ["x", "y"] (defScope s_alike) := ⟨rfl, rfl, rfl, by decide +kernel, rfl, by decide +kernel, by decide +kernel⟩
theorem dw_alike {P : Program} {w : World} {mg : Str → Option Value} {base : Heap} {T : Tb} {G : Gm} (Fx : Fx P w mg base T G) {fa : Addr} {fd : FuncData} (F : Fun G.K "alike" "alike" s_alike fa fd) (hm : mg "alike" = some (.ref fa)) (D_check_number : DefW P w G.K mg base T "check_number" 3 1 (sp_check_number G)) : DefW P w G.K mg base T "alike" 4 2 (sp_alike G) := by
  have nd : (["x", "y"] : List Str).Nodup := sc_alike.nd
  refine ⟨fa, fd, ["x", "y"], hm, F.kp, F.binds (fun _ _ _ _ _ _ us hl => match us, hl with | [_, _], _ => rfl), ?_, rfl⟩
  exact fnW_of (N := ["x", "y"]) (ps := ["x", "y"]) (k := 3) (t := t_alike G) F sc_alike (fun L cdv A outer s H E hr => (s_cons (s_expr (w_call D_check_number (hr.mono (by first | decide | omega)) (by rfl) (a_cons (w_var 0 (by rfl) (by first | exact Or.inl rfl | exact Or.inr (Or.inl rfl) | exact Or.inr (Or.inr rfl))) a_nil))) (s_cons (s_expr (w_call D_check_number (hr.mono (by first | decide | omega)) (by rfl) (a_cons (w_var 1 (by rfl) (by first | exact Or.inl rfl | exact Or.inr (Or.inl rfl) | exact Or.inr (Or.inr rfl))) a_nil))) (s_one (s_ret (w_orV (w_eqA hr (w_var 0 (by rfl) (by first | exact Or.inl rfl | exact Or.inr (Or.inl rfl) | exact Or.inr (Or.inr rfl))) (w_var 1 (by rfl) (by first | exact Or.inl rfl | exact Or.inr (Or.inl rfl) | exact Or.inr (Or.inr rfl)))) (w_one (w_andV (w_eqA hr (w_item (w_var 0 (by rfl) (by first | exact Or.inl rfl | exact Or.inr (Or.inl rfl) | exact Or.inr (Or.inr rfl))) w_int) w_int) (w_one (w_eqA hr (w_item (w_var 1 (by rfl) (by first | exact Or.inl rfl | exact Or.inr (Or.inl rfl) | exact Or.inr (Or.inr rfl))) w_int) w_int))))))))))
theorem sc_compare_sizes : FnScope ["x", "y", "power", "first", "second"] ["x", "y"] (defScope s_compare_sizes) := ⟨rfl, rfl, rfl, by decide +kernel, rfl, by decide +kernel, by decide +kernel⟩
theorem dw_compare_sizes {P : Program} {w : World} {mg : Str → Option Value} {base : Heap} {T : Tb} {G : Gm} (Fx : Fx P w mg base T G) {fa : Addr} {fd : FuncData} (F : Fun G.K "compare_sizes" "compare_sizes" s_compare_sizes fa fd) (hm : mg "compare_sizes" = some (.ref fa)) : DefW P w G.K mg base T "compare_sizes" 1 2 (sp_compare_sizes G) := by
  have nd : (["x", "y", "power", "first", "second"] : List Str).Nodup := sc_compare_sizes.nd
  refine ⟨fa, fd, ["x", "y"], hm, F.kp, F.binds (fun _ _ _ _ _ _ us hl => match us, hl with | [_, _], _ => rfl), ?_, rfl⟩
  exact fnW_of (N := ["x", "y", "power", "first", "second"]) (ps := ["x", "y"]) (k := 0) (t := t_compare_sizes G) F sc_compare_sizes (fun L cdv A outer s H E hr => (s_cons (s_set 2 nd (by rfl) (by first | exact Or.inl rfl | exact Or.inr rfl) (.inl rfl) (w_min (by rfl) (by rfl) Fx.n_min (a_cons (w_item (w_var 0 (by rfl) (by first | exact Or.inl rfl | exact Or.inr (Or.inl rfl) | exact Or.inr (Or.inr rfl))) w_int) (a_cons (w_item (w_var 1 (by rfl) (by first | exact Or.inl rfl | exact Or.inr (Or.inl rfl) | exact Or.inr (Or.inr rfl))) w_int) a_nil)))) (s_cons (s_set 3 nd (by rfl) (by first | exact Or.inl rfl | exact Or.inr rfl) (.inl rfl) (w_shl (w_item (w_var 0 (by rfl) (by first | exact Or.inl rfl | exact Or.inr (Or.inl rfl) | exact Or.inr (Or.inr rfl))) w_int) (w_sub (w_item (w_var 0 (by rfl) (by first | exact Or.inl rfl | exact Or.inr (Or.inl rfl) | exact Or.inr (Or.inr rfl))) w_int) (w_var 2 (by rfl) (by first | exact Or.inl rfl | exact Or.inr (Or.inl rfl) | exact Or.inr (Or.inr rfl)))))) (s_cons (s_set 4 nd (by rfl) (by first | exact Or.inl rfl | exact Or.inr rfl) (.inl rfl) (w_shl (w_item (w_var 1 (by rfl) (by first | exact Or.inl rfl | exact Or.inr (Or.inl rfl) | exact Or.inr (Or.inr rfl))) w_int) (w_sub (w_item (w_var 1 (by rfl) (by first | exact Or.inl rfl | exact Or.inr (Or.inl rfl) | exact Or.inr (Or.inr rfl))) w_int) (w_var 2 (by rfl) (by first | exact Or.inl rfl | exact Or.inr (Or.inl rfl) | exact Or.inr (Or.inr rfl)))))) (s_cons (s_if (q_lt (w_var 3 (by rfl) (by first | exact Or.inl rfl | exact Or.inr (Or.inl rfl) | exact Or.inr (Or.inr rfl))) (w_var 4 (by rfl) (by first | exact Or.inl rfl | exact Or.inr (Or.inl rfl) | exact Or.inr (Or.inr rfl)))) (s_one (s_ret (w_neg w_int))) s_nil) (s_cons (s_if (q_gt (w_var 3 (by rfl) (by first | exact Or.inl rfl | exact Or.inr (Or.inl rfl) | exact Or.inr (Or.inr rfl))) (w_var 4 (by rfl) (by first | exact Or.inl rfl | exact Or.inr (Or.inl rfl) | exact Or.inr (Or.inr rfl)))) (s_one (s_ret w_int)) s_nil) (s_one (s_ret w_int))))))))
theorem sc_level : FnScope ["x", "kind", "height"] ["x"] (defScope s_level) := ⟨rfl, rfl, rfl, by decide +kernel, rfl, by decide +kernel, by decide +kernel⟩
theorem dw_level {P : Program} {w : World} {mg : Str → Option Value} {base : Heap} {T : Tb} {G : Gm} (Fx : Fx P w mg base T G) {fa : Addr} {fd : FuncData} (F : Fun G.K "level" "level" s_level fa fd) (hm : mg "level" = some (.ref fa)) (D_kind_of : DefW P w G.K mg base T "kind_of" 4 1 (sp_kind_of G)) : DefW P w G.K mg base T "level" 5 1 (sp_level G) := by
  have nd : (["x", "kind", "height"] : List Str).Nodup := sc_level.nd
  refine ⟨fa, fd, ["x"], hm, F.kp, F.binds (fun _ _ _ _ _ _ us hl => match us, hl with | [_], _ => rfl), ?_, rfl⟩
  exact fnW_of (N := ["x", "kind", "height"]) (ps := ["x"]) (k := 4) (t := t_level G) F sc_level (fun L cdv A outer s H E hr => (s_cons (s_set 1 nd (by rfl) (by first | exact Or.inl rfl | exact Or.inr rfl) (.inl rfl) (w_call D_kind_of (hr.mono (by first | decide | omega)) (by rfl) (a_cons (w_var 0 (by rfl) (by first | exact Or.inl rfl | exact Or.inr (Or.inl rfl) | exact Or.inr (Or.inr rfl))) a_nil))) (s_cons (s_if (q_eq (w_var 1 (by rfl) (by first | exact Or.inl rfl | exact Or.inr (Or.inl rfl) | exact Or.inr (Or.inr rfl))) w_str) (s_one (s_ret w_int)) s_nil) (s_cons (s_set 2 nd (by rfl) (by first | exact Or.inl rfl | exact Or.inr rfl) (.inl rfl) w_int) (s_cons (s_if (q_eq (w_var 1 (by rfl) (by first | exact Or.inl rfl | exact Or.inr (Or.inl rfl) | exact Or.inr (Or.inr rfl))) w_str) (s_one (s_set 2 nd (by rfl) (by first | exact Or.inl rfl | exact Or.inr rfl) (.inl rfl) w_int)) s_nil) (s_cons (s_if (q_eq (w_var 1 (by rfl) (by first | exact Or.inl rfl | exact Or.inr (Or.inl rfl) | exact Or.inr (Or.inr rfl))) w_str) (s_one (s_set 2 nd (by rfl) (by first | exact Or.inl rfl | exact Or.inr rfl) (.inl rfl) w_int)) s_nil) (s_cons (s_if (q_eq (w_item (w_var 0 (by rfl) (by first | exact Or.inl rfl | exact Or.inr (Or.inl rfl) | exact Or.inr (Or.inr rfl))) w_int) w_int) (s_one (s_ret (w_neg (w_var 2 (by rfl) (by first | exact Or.inl rfl | exact Or.inr (Or.inl rfl) | exact Or.inr (Or.inr rfl)))))) s_nil) (s_one (s_ret (w_var 2 (by rfl) (by first | exact Or.inl rfl | exact Or.inr (Or.inl rfl) | exact Or.inr (Or.inr rfl))))))))))))
theorem sc_total : FnScope ["x", "y", "first", "second"] ["x", "y"] (defScope s_total) := ⟨rfl, rfl, rfl, by decide +kernel, rfl, by decide +kernel, by decide +kernel⟩
theorem dw_total {P : Program} {w : World} {mg : Str → Option Value} {base : Heap} {T : Tb} {G : Gm} (Fx : Fx P w mg base T G) {fa : Addr} {fd : FuncData} (F : Fun G.K "total" "total" s_total fa fd) (hm : mg "total" = some (.ref fa)) (D_check_number : DefW P w G.K mg base T "check_number" 3 1 (sp_check_number G)) (D_compare_sizes : DefW P w G.K mg base T "compare_sizes" 1 2 (sp_compare_sizes G)) (D_level : DefW P w G.K mg base T "level" 5 1 (sp_level G)) : DefW P w G.K mg base T "total" 6 2 (sp_total G) := by
  have nd : (["x", "y", "first", "second"] : List Str).Nodup := sc_total.nd
  refine ⟨fa, fd, ["x", "y"], hm, F.kp, F.binds (fun _ _ _ _ _ _ us hl => match us, hl with | [_, _], _ => rfl), ?_, rfl⟩
  exact fnW_of (N := ["x", "y", "first", "second"]) (ps := ["x", "y"]) (k := 5) (t := t_total G) F sc_total (fun L cdv A outer s H E hr => (s_cons (s_expr (w_call D_check_number (hr.mono (by first | decide | omega)) (by rfl) (a_cons (w_var 0 (by rfl) (by first | exact Or.inl rfl | exact Or.inr (Or.inl rfl) | exact Or.inr (Or.inr rfl))) a_nil))) (s_cons (s_expr (w_call D_check_number (hr.mono (by first | decide | omega)) (by rfl) (a_cons (w_var 1 (by rfl) (by first | exact Or.inl rfl | exact Or.inr (Or.inl rfl) | exact Or.inr (Or.inr rfl))) a_nil))) (s_cons (s_set 2 nd (by rfl) (by first | exact Or.inl rfl | exact Or.inr rfl) (.inl rfl) (w_call D_level (hr.mono (by first | decide | omega)) (by rfl) (a_cons (w_var 0 (by rfl) (by first | exact Or.inl rfl | exact Or.inr (Or.inl rfl) | exact Or.inr (Or.inr rfl))) a_nil))) (s_cons (s_set 3 nd (by rfl) (by first | exact Or.inl rfl | exact Or.inr rfl) (.inl rfl) (w_call D_level (hr.mono (by first | decide | omega)) (by rfl) (a_cons (w_var 1 (by rfl) (by first | exact Or.inl rfl | exact Or.inr (Or.inl rfl) | exact Or.inr (Or.inr rfl))) a_nil))) (s_cons (s_if (q_lt (w_var 2 (by rfl) (by first | exact Or.inl rfl | exact Or.inr (Or.inl rfl) | exact Or.inr (Or.inr rfl))) (w_var 3 (by rfl) (by first | exact Or.inl rfl | exact Or.inr (Or.inl rfl) | exact Or.inr (Or.inr rfl)))) (s_one (s_ret (w_neg w_int))) s_nil) (s_cons (s_if (q_gt (w_var 2 (by rfl) (by first | exact Or.inl rfl | exact Or.inr (Or.inl rfl) | exact Or.inr (Or.inr rfl))) (w_var 3 (by rfl) (by first | exact Or.inl rfl | exact Or.inr (Or.inl rfl) | exact Or.inr (Or.inr rfl)))) (s_one (s_ret w_int)) s_nil) (s_cons (s_if (q_eq (w_var 2 (by rfl) (by first | exact Or.inl rfl | exact Or.inr (Or.inl rfl) | exact Or.inr (Or.inr rfl))) w_int) (s_one (s_ret (w_call D_compare_sizes (hr.mono (by first | decide | omega)) (by rfl) (a_cons (w_var 0 (by rfl) (by first | exact Or.inl rfl | exact Or.inr (Or.inl rfl) | exact Or.inr (Or.inr rfl))) (a_cons (w_var 1 (by rfl) (by first | exact Or.inl rfl | exact Or.inr (Or.inl rfl) | exact Or.inr (Or.inr rfl))) a_nil))))) s_nil) (s_cons (s_if (q_eq (w_var 2 (by rfl) (by first | exact Or.inl rfl | exact Or.inr (Or.inl rfl) | exact Or.inr (Or.inr rfl))) (w_neg w_int)) (s_one (s_ret (w_call D_compare_sizes (hr.mono (by first | decide | omega)) (by rfl) (a_cons (w_var 1 (by rfl) (by first | exact Or.inl rfl | exact Or.inr (Or.inl rfl) | exact Or.inr (Or.inr rfl))) (a_cons (w_var 0 (by rfl) (by first | exact Or.inl rfl | exact Or.inr (Or.inl rfl) | exact Or.inr (Or.inr rfl))) a_nil))))) s_nil) (s_one (s_ret w_int)))))))))))
theorem sc_compare : FnScope ["x", "y"] ["x", "y"] (defScope s_compare) := ⟨rfl, rfl, rfl, by decide +kernel, rfl, by decide +kernel, by decide +kernel⟩
theorem dw_compare {P : Program} {w : World} {mg : Str → Option Value} {base : Heap} {T : Tb} {G : Gm} (Fx : Fx P w mg base T G) {fa : Addr} {fd : FuncData} (F : Fun G.K "compare" "compare" s_compare fa fd) (hm : mg "compare" = some (.ref fa)) (D_check_number : DefW P w G.K mg base T "check_number" 3 1 (sp_check_number G)) (D_kind_of : DefW P w G.K mg base T "kind_of" 4 1 (sp_kind_of G)) (D_alike : DefW P w G.K mg base T "alike" 4 2 (sp_alike G)) (D_total : DefW P w G.K mg base T "total" 6 2 (sp_total G)) : DefW P w G.K mg base T "compare" 7 2 (sp_compare G) := by
  have nd : (["x", "y"] : List Str).Nodup := sc_compare.nd
  refine ⟨fa, fd, ["x", "y"], hm, F.kp, F.binds (fun _ _ _ _ _ _ us hl => match us, hl with | [_, _], _ => rfl), ?_, rfl⟩
  exact fnW_of (N := ["x", "y"]) (ps := ["x", "y"]) (k := 6) (t := t_compare G) F sc_compare (fun L cdv A outer s H E hr => (s_cons (s_expr (w_call D_check_number (hr.mono (by first | decide | omega)) (by rfl) (a_cons (w_var 0 (by rfl) (by first | exact Or.inl rfl | exact Or.inr (Or.inl rfl) | exact Or.inr (Or.inr rfl))) a_nil))) (s_cons (s_expr (w_call D_check_number (hr.mono (by first | decide | omega)) (by rfl) (a_cons (w_var 1 (by rfl) (by first | exact Or.inl rfl | exact Or.inr (Or.inl rfl) | exact Or.inr (Or.inr rfl))) a_nil))) (s_cons (s_if ((q_or (q_eq (w_call D_kind_of (hr.mono (by first | decide | omega)) (by rfl) (a_cons (w_var 0 (by rfl) (by first | exact Or.inl rfl | exact Or.inr (Or.inl rfl) | exact Or.inr (Or.inr rfl))) a_nil)) w_str) (q_or1 (q_eq (w_call D_kind_of (hr.mono (by first | decide | omega)) (by rfl) (a_cons (w_var 1 (by rfl) (by first | exact Or.inl rfl | exact Or.inr (Or.inl rfl) | exact Or.inr (Or.inr rfl))) a_nil)) w_str)))).q (s_one (s_ret w_str)) s_nil) (s_cons (s_if (q_val (w_call D_alike (hr.mono (by first | decide | omega)) (by rfl) (a_cons (w_var 0 (by rfl) (by first | exact Or.inl rfl | exact Or.inr (Or.inl rfl) | exact Or.inr (Or.inr rfl))) (a_cons (w_var 1 (by rfl) (by first | exact Or.inl rfl | exact Or.inr (Or.inl rfl) | exact Or.inr (Or.inr rfl))) a_nil))) (by intro _; rfl)) (s_one (s_ret w_str)) s_nil) (s_cons (s_if (q_lt (w_call D_total (hr.mono (by first | decide | omega)) (by rfl) (a_cons (w_var 0 (by rfl) (by first | exact Or.inl rfl | exact Or.inr (Or.inl rfl) | exact Or.inr (Or.inr rfl))) (a_cons (w_var 1 (by rfl) (by first | exact Or.inl rfl | exact Or.inr (Or.inl rfl) | exact Or.inr (Or.inr rfl))) a_nil))) w_int) (s_one (s_ret w_str)) s_nil) (s_one (s_ret w_str))))))))
theorem sc_least_of : FnScope ["x", "y", "order"] ["x", "y"] (defScope s_least_of) := ⟨rfl, rfl, rfl, by decide +kernel, rfl, by decide +kernel, by decide +kernel⟩
theorem dw_least_of {P : Program} {w : World} {mg : Str → Option Value} {base : Heap} {T : Tb} {G : Gm} (Fx : Fx P w mg base T G) {fa : Addr} {fd : FuncData} (F : Fun G.K "least_of" "least_of" s_least_of fa fd) (hm : mg "least_of" = some (.ref fa)) (D_nan : DefW P w G.K mg base T "nan" 1 0 (sp_nan G)) (D_kind_of : DefW P w G.K mg base T "kind_of" 4 1 (sp_kind_of G)) (D_total : DefW P w G.K mg base T "total" 6 2 (sp_total G)) : DefW P w G.K mg base T "least_of" 7 2 (sp_least_of G) := by
  have nd : (["x", "y", "order"] : List Str).Nodup := sc_least_of.nd
  refine ⟨fa, fd, ["x", "y"], hm, F.kp, F.binds (fun _ _ _ _ _ _ us hl => match us, hl with | [_, _], _ => rfl), ?_, rfl⟩
  exact fnW_of (N := ["x", "y", "order"]) (ps := ["x", "y"]) (k := 6) (t := t_least_of G) F sc_least_of (fun L cdv A outer s H E hr => (s_cons (s_set 2 nd (by rfl) (by first | exact Or.inl rfl | exact Or.inr rfl) (.inl rfl) (w_call D_total (hr.mono (by first | decide | omega)) (by rfl) (a_cons (w_var 0 (by rfl) (by first | exact Or.inl rfl | exact Or.inr (Or.inl rfl) | exact Or.inr (Or.inr rfl))) (a_cons (w_var 1 (by rfl) (by first | exact Or.inl rfl | exact Or.inr (Or.inl rfl) | exact Or.inr (Or.inr rfl))) a_nil)))) (s_cons (s_if ((q_or (q_eq (w_call D_kind_of (hr.mono (by first | decide | omega)) (by rfl) (a_cons (w_var 0 (by rfl) (by first | exact Or.inl rfl | exact Or.inr (Or.inl rfl) | exact Or.inr (Or.inr rfl))) a_nil)) w_str) (q_or1 (q_eq (w_call D_kind_of (hr.mono (by first | decide | omega)) (by rfl) (a_cons (w_var 1 (by rfl) (by first | exact Or.inl rfl | exact Or.inr (Or.inl rfl) | exact Or.inr (Or.inr rfl))) a_nil)) w_str)))).q (s_one (s_ret (w_call0 D_nan (hr.mono (by first | decide | omega)) (by rfl)))) s_nil) (s_cons (s_if (q_le (w_var 2 (by rfl) (by first | exact Or.inl rfl | exact Or.inr (Or.inl rfl) | exact Or.inr (Or.inr rfl))) w_int) (s_one (s_ret (w_var 0 (by rfl) (by first | exact Or.inl rfl | exact Or.inr (Or.inl rfl) | exact Or.inr (Or.inr rfl))))) s_nil) (s_one (s_ret (w_var 1 (by rfl) (by first | exact Or.inl rfl | exact Or.inr (Or.inl rfl) | exact Or.inr (Or.inr rfl)))))))))
theorem sc_greatest_of : FnScope ["x", "y", "order"] ["x", "y"] (defScope s_greatest_of) := ⟨rfl, rfl, rfl, by decide +kernel, rfl, by decide +kernel, by decide +kernel⟩
theorem dw_greatest_of {P : Program} {w : World} {mg : Str → Option Value} {base : Heap} {T : Tb} {G : Gm} (Fx : Fx P w mg base T G) {fa : Addr} {fd : FuncData} (F : Fun G.K "greatest_of" "greatest_of" s_greatest_of fa fd) (hm : mg "greatest_of" = some (.ref fa)) (D_nan : DefW P w G.K mg base T "nan" 1 0 (sp_nan G)) (D_kind_of : DefW P w G.K mg base T "kind_of" 4 1 (sp_kind_of G)) (D_total : DefW P w G.K mg base T "total" 6 2 (sp_total G)) : DefW P w G.K mg base T "greatest_of" 7 2 (sp_greatest_of G) := by
  have nd : (["x", "y", "order"] : List Str).Nodup := sc_greatest_of.nd
  refine ⟨fa, fd, ["x", "y"], hm, F.kp, F.binds (fun _ _ _ _ _ _ us hl => match us, hl with | [_, _], _ => rfl), ?_, rfl⟩
  exact fnW_of (N := ["x", "y", "order"]) (ps := ["x", "y"]) (k := 6) (t := t_greatest_of G) F sc_greatest_of (fun L cdv A outer s H E hr => (s_cons (s_set 2 nd (by rfl) (by first | exact Or.inl rfl | exact Or.inr rfl) (.inl rfl) (w_call D_total (hr.mono (by first | decide | omega)) (by rfl) (a_cons (w_var 0 (by rfl) (by first | exact Or.inl rfl | exact Or.inr (Or.inl rfl) | exact Or.inr (Or.inr rfl))) (a_cons (w_var 1 (by rfl) (by first | exact Or.inl rfl | exact Or.inr (Or.inl rfl) | exact Or.inr (Or.inr rfl))) a_nil)))) (s_cons (s_if ((q_or (q_eq (w_call D_kind_of (hr.mono (by first | decide | omega)) (by rfl) (a_cons (w_var 0 (by rfl) (by first | exact Or.inl rfl | exact Or.inr (Or.inl rfl) | exact Or.inr (Or.inr rfl))) a_nil)) w_str) (q_or1 (q_eq (w_call D_kind_of (hr.mono (by first | decide | omega)) (by rfl) (a_cons (w_var 1 (by rfl) (by first | exact Or.inl rfl | exact Or.inr (Or.inl rfl) | exact Or.inr (Or.inr rfl))) a_nil)) w_str)))).q (s_one (s_ret (w_call0 D_nan (hr.mono (by first | decide | omega)) (by rfl)))) s_nil) (s_cons (s_if (q_ge (w_var 2 (by rfl) (by first | exact Or.inl rfl | exact Or.inr (Or.inl rfl) | exact Or.inr (Or.inr rfl))) w_int) (s_one (s_ret (w_var 0 (by rfl) (by first | exact Or.inl rfl | exact Or.inr (Or.inl rfl) | exact Or.inr (Or.inr rfl))))) s_nil) (s_one (s_ret (w_var 1 (by rfl) (by first | exact Or.inl rfl | exact Or.inr (Or.inl rfl) | exact Or.inr (Or.inr rfl)))))))))
theorem sc__law_store : FnScope ["cells", "given"] ["cells"] (defScope s__law_store) := ⟨rfl, rfl, rfl, by decide +kernel, rfl, by decide +kernel, by decide +kernel⟩
theorem dw__law_store {P : Program} {w : World} {mg : Str → Option Value} {base : Heap} {T : Tb} {G : Gm} (Fx : Fx P w mg base T G) {fa : Addr} {fd : FuncData} (F : Fun G.K "_law_store" "_law_store" s__law_store fa fd) (hm : mg "_law_store" = some (.ref fa)) : DefW P w G.K mg base T "_law_store" 1 1 (sp__law_store G) := by
  have nd : (["cells", "given"] : List Str).Nodup := sc__law_store.nd
  refine ⟨fa, fd, ["cells"], hm, F.kp, F.binds (fun _ _ _ _ _ _ us hl => match us, hl with | [_], _ => rfl), ?_, rfl⟩
  exact fnW_of (N := ["cells", "given"]) (ps := ["cells"]) (k := 0) (t := t__law_store G) F sc__law_store (fun L cdv A outer s H E hr => (s_one (s_ret (w_lst (a_cons (w_lc (i := 1) (by rfl) nd (blkOk_by (N := ["cells", "given"]) (sc := defScope s__law_store) (by decide +kernel)) (by rfl) (by rfl) ⟨fun s H C cl fp => c_nil, fun s H C cl fp => (w_intC (by rfl) Fx.n_int (a_cons (w_var 1 (by rfl) (by first | exact Or.inl rfl | exact Or.inr (Or.inl rfl) | exact Or.inr (Or.inr rfl))) a_nil))⟩ (w_var 0 (by rfl) (by first | exact Or.inl rfl | exact Or.inr (Or.inl rfl) | exact Or.inr (Or.inr rfl)))) (a_cons w_int (a_cons w_int (a_cons w_int (a_cons w_int a_nil)))))))))
theorem sc__law_mix : FnScope ["given", "turn", "first", "second"] ["given", "turn"] (defScope s__law_mix) := ⟨rfl, rfl, rfl, by decide +kernel, rfl, by decide +kernel, by decide +kernel⟩
theorem dw__law_mix {P : Program} {w : World} {mg : Str → Option Value} {base : Heap} {T : Tb} {G : Gm} (Fx : Fx P w mg base T G) {fa : Addr} {fd : FuncData} (F : Fun G.K "_law_mix" "_law_mix" s__law_mix fa fd) (hm : mg "_law_mix" = some (.ref fa)) : DefW P w G.K mg base T "_law_mix" 35 2 (sp__law_mix G) := by
  have nd : (["given", "turn", "first", "second"] : List Str).Nodup := sc__law_mix.nd
  refine ⟨fa, fd, ["given", "turn"], hm, F.kp, F.binds (fun _ _ _ _ _ _ us hl => match us, hl with | [_, _], _ => rfl), ?_, rfl⟩
  exact fnW_of (N := ["given", "turn", "first", "second"]) (ps := ["given", "turn"]) (k := 34) (t := t__law_mix G) F sc__law_mix (fun L cdv A outer s H E hr => (s_cons (s_set 2 nd (by rfl) (by first | exact Or.inl rfl | exact Or.inr rfl) (.inl rfl) (w_mod (w_intC (by rfl) Fx.n_int (a_cons (w_add (w_add (w_mul (w_mod (w_intC (by rfl) Fx.n_int (a_cons (w_var 0 (by rfl) (by first | exact Or.inl rfl | exact Or.inr (Or.inl rfl) | exact Or.inr (Or.inr rfl))) a_nil)) w_int) w_int) (w_mul (w_var 1 (by rfl) (by first | exact Or.inl rfl | exact Or.inr (Or.inl rfl) | exact Or.inr (Or.inr rfl))) w_int)) w_int) a_nil)) w_int)) (s_cons (s_set 3 nd (by rfl) (by first | exact Or.inl rfl | exact Or.inr rfl) (.inl rfl) (w_mod (w_intC (by rfl) Fx.n_int (a_cons (w_add (w_add (w_mul (w_var 2 (by rfl) (by first | exact Or.inl rfl | exact Or.inr (Or.inl rfl) | exact Or.inr (Or.inr rfl))) (w_var 2 (by rfl) (by first | exact Or.inl rfl | exact Or.inr (Or.inl rfl) | exact Or.inr (Or.inr rfl)))) (w_mul (w_var 1 (by rfl) (by first | exact Or.inl rfl | exact Or.inr (Or.inl rfl) | exact Or.inr (Or.inr rfl))) w_int)) w_int) a_nil)) w_int)) (s_one (s_ret (w_mod (w_intC (by rfl) Fx.n_int (a_cons (w_add (w_add (w_mul (w_var 3 (by rfl) (by first | exact Or.inl rfl | exact Or.inr (Or.inl rfl) | exact Or.inr (Or.inr rfl))) w_int) (w_divY Fx.seer Fx.tree (by rfl) (by rfl) (by rfl) hr (by first | decide | omega) (w_var 2 (by rfl) (by first | exact Or.inl rfl | exact Or.inr (Or.inl rfl) | exact Or.inr (Or.inr rfl))) w_int)) (w_mul (w_var 1 (by rfl) (by first | exact Or.inl rfl | exact Or.inr (Or.inl rfl) | exact Or.inr (Or.inr rfl))) w_int)) a_nil)) w_int))))))
theorem sc__law_wide : FnScope ["given", "turn", "bound", "mixed", "joined", "part"] ["given", "turn", "bound"] (defScope s__law_wide) := ⟨rfl, rfl, rfl, by decide +kernel, rfl, by decide +kernel, by decide +kernel⟩
theorem dw__law_wide {P : Program} {w : World} {mg : Str → Option Value} {base : Heap} {T : Tb} {G : Gm} (Fx : Fx P w mg base T G) {fa : Addr} {fd : FuncData} (F : Fun G.K "_law_wide" "_law_wide" s__law_wide fa fd) (hm : mg "_law_wide" = some (.ref fa)) (D__law_mix : DefW P w G.K mg base T "_law_mix" 35 2 (sp__law_mix G)) : DefW P w G.K mg base T "_law_wide" 36 3 (sp__law_wide G) := by
  have nd : (["given", "turn", "bound", "mixed", "joined", "part"] : List Str).Nodup := sc__law_wide.nd
  refine ⟨fa, fd, ["given", "turn", "bound"], hm, F.kp, F.binds (fun _ _ _ _ _ _ us hl => match us, hl with | [_, _, _], _ => rfl), ?_, rfl⟩
  exact fnW_of (N := ["given", "turn", "bound", "mixed", "joined", "part"]) (ps := ["given", "turn", "bound"]) (k := 35) (t := t__law_wide G) F sc__law_wide (fun L cdv A outer s H E hr => (s_cons (s_set 3 nd (by rfl) (by first | exact Or.inl rfl | exact Or.inr rfl) (.inl rfl) (w_call D__law_mix (hr.mono (by first | decide | omega)) (by rfl) (a_cons (w_var 0 (by rfl) (by first | exact Or.inl rfl | exact Or.inr (Or.inl rfl) | exact Or.inr (Or.inr rfl))) (a_cons (w_var 1 (by rfl) (by first | exact Or.inl rfl | exact Or.inr (Or.inl rfl) | exact Or.inr (Or.inr rfl))) a_nil)))) (s_cons (s_set 4 nd (by rfl) (by first | exact Or.inl rfl | exact Or.inr rfl) (.inl rfl) w_int) (s_cons (s_forR1 (passes_of (by rfl)) (by rfl) (by rfl) Fx.n_range (a_cons (w_add (w_divY Fx.seer Fx.tree (by rfl) (by rfl) (by rfl) hr (by first | decide | omega) (w_bits (w_var 2 (by rfl) (by first | exact Or.inl rfl | exact Or.inr (Or.inl rfl) | exact Or.inr (Or.inr rfl)))) w_int) w_int) a_nil) (g_name 5 nd (by rfl) (by first | exact Or.inl rfl | exact Or.inr rfl) (.inl rfl)) (s_cons (s_set 3 nd (by rfl) (by first | exact Or.inl rfl | exact Or.inr rfl) (.inl rfl) (w_call D__law_mix (hr.mono (by first | decide | omega)) (by rfl) (a_cons (w_add (w_var 3 (by rfl) (by first | exact Or.inl rfl | exact Or.inr (Or.inl rfl) | exact Or.inr (Or.inr rfl))) (w_mul (w_var 5 (by rfl) (by first | exact Or.inl rfl | exact Or.inr (Or.inl rfl) | exact Or.inr (Or.inr rfl))) w_int)) (a_cons (w_add (w_var 1 (by rfl) (by first | exact Or.inl rfl | exact Or.inr (Or.inl rfl) | exact Or.inr (Or.inr rfl))) (w_var 5 (by rfl) (by first | exact Or.inl rfl | exact Or.inr (Or.inl rfl) | exact Or.inr (Or.inr rfl)))) a_nil)))) (s_one (s_set 4 nd (by rfl) (by first | exact Or.inl rfl | exact Or.inr rfl) (.inl rfl) (w_add (w_mul (w_var 4 (by rfl) (by first | exact Or.inl rfl | exact Or.inr (Or.inl rfl) | exact Or.inr (Or.inr rfl))) w_int) (w_var 3 (by rfl) (by first | exact Or.inl rfl | exact Or.inr (Or.inl rfl) | exact Or.inr (Or.inr rfl)))))))) (s_one (s_ret (w_mod (w_intC (by rfl) Fx.n_int (a_cons (w_var 4 (by rfl) (by first | exact Or.inl rfl | exact Or.inr (Or.inl rfl) | exact Or.inr (Or.inr rfl))) a_nil)) (w_var 2 (by rfl) (by first | exact Or.inl rfl | exact Or.inr (Or.inl rfl) | exact Or.inr (Or.inr rfl))))))))))
theorem sc__law_take : FnScope ["store", "bound", "given", "left"] ["store", "bound"] (defScope s__law_take) := ⟨rfl, rfl, rfl, by decide +kernel, rfl, by decide +kernel, by decide +kernel⟩
theorem dw__law_take {P : Program} {w : World} {mg : Str → Option Value} {base : Heap} {T : Tb} {G : Gm} (Fx : Fx P w mg base T G) {fa : Addr} {fd : FuncData} (F : Fun G.K "_law_take" "_law_take" s__law_take fa fd) (hm : mg "_law_take" = some (.ref fa)) (D__law_mix : DefW P w G.K mg base T "_law_mix" 35 2 (sp__law_mix G)) (D__law_wide : DefW P w G.K mg base T "_law_wide" 36 3 (sp__law_wide G)) : DefW P w G.K mg base T "_law_take" 37 2 (sp__law_take G) := by
  have nd : (["store", "bound", "given", "left"] : List Str).Nodup := sc__law_take.nd
  refine ⟨fa, fd, ["store", "bound"], hm, F.kp, F.binds (fun _ _ _ _ _ _ us hl => match us, hl with | [_, _], _ => rfl), ?_, rfl⟩
  exact fnW_of (N := ["store", "bound", "given", "left"]) (ps := ["store", "bound"]) (k := 36) (t := t__law_take G) F sc__law_take (fun L cdv A outer s H E hr => (s_cons (s_if (q_lt (w_var 1 (by rfl) (by first | exact Or.inl rfl | exact Or.inr (Or.inl rfl) | exact Or.inr (Or.inr rfl))) w_int) (s_one (s_ret w_int)) s_nil) (s_cons (s_ix (w_add (w_item (w_var 0 (by rfl) (by first | exact Or.inl rfl | exact Or.inr (Or.inl rfl) | exact Or.inr (Or.inr rfl))) w_int) w_int) (w_var 0 (by rfl) (by first | exact Or.inl rfl | exact Or.inr (Or.inl rfl) | exact Or.inr (Or.inr rfl))) w_int) (s_cons (s_if ((q_and (q_eq (w_item (w_var 0 (by rfl) (by first | exact Or.inl rfl | exact Or.inr (Or.inl rfl) | exact Or.inr (Or.inr rfl))) w_int) w_int) (q_and1 (q_lt (w_item (w_var 0 (by rfl) (by first | exact Or.inl rfl | exact Or.inr (Or.inl rfl) | exact Or.inr (Or.inr rfl))) w_int) (w_len (by rfl) Fx.n_len (a_cons (w_item (w_var 0 (by rfl) (by first | exact Or.inl rfl | exact Or.inr (Or.inl rfl) | exact Or.inr (Or.inr rfl))) w_int) a_nil)))))).q (s_cons (s_set 2 nd (by rfl) (by first | exact Or.inl rfl | exact Or.inr rfl) (.inl rfl) (w_item (w_item (w_var 0 (by rfl) (by first | exact Or.inl rfl | exact Or.inr (Or.inl rfl) | exact Or.inr (Or.inr rfl))) w_int) (w_item (w_var 0 (by rfl) (by first | exact Or.inl rfl | exact Or.inr (Or.inl rfl) | exact Or.inr (Or.inr rfl))) w_int))) (s_cons (s_ix (w_add (w_item (w_var 0 (by rfl) (by first | exact Or.inl rfl | exact Or.inr (Or.inl rfl) | exact Or.inr (Or.inr rfl))) w_int) w_int) (w_var 0 (by rfl) (by first | exact Or.inl rfl | exact Or.inr (Or.inl rfl) | exact Or.inr (Or.inr rfl))) w_int) (s_cons (s_ix (w_call D__law_mix (hr.mono (by first | decide | omega)) (by rfl) (a_cons (w_add (w_var 2 (by rfl) (by first | exact Or.inl rfl | exact Or.inr (Or.inl rfl) | exact Or.inr (Or.inr rfl))) (w_item (w_var 0 (by rfl) (by first | exact Or.inl rfl | exact Or.inr (Or.inl rfl) | exact Or.inr (Or.inr rfl))) w_int)) (a_cons (w_item (w_var 0 (by rfl) (by first | exact Or.inl rfl | exact Or.inr (Or.inl rfl) | exact Or.inr (Or.inr rfl))) w_int) a_nil))) (w_var 0 (by rfl) (by first | exact Or.inl rfl | exact Or.inr (Or.inl rfl) | exact Or.inr (Or.inr rfl))) w_int) (s_cons (s_if (q_lt (w_abs (by rfl) Fx.n_abs (a_cons (w_var 2 (by rfl) (by first | exact Or.inl rfl | exact Or.inr (Or.inl rfl) | exact Or.inr (Or.inr rfl))) a_nil)) (w_pow w_int w_int)) (s_one (s_ret (w_call D__law_wide (hr.mono (by first | decide | omega)) (by rfl) (a_cons (w_var 2 (by rfl) (by first | exact Or.inl rfl | exact Or.inr (Or.inl rfl) | exact Or.inr (Or.inr rfl))) (a_cons (w_item (w_var 0 (by rfl) (by first | exact Or.inl rfl | exact Or.inr (Or.inl rfl) | exact Or.inr (Or.inr rfl))) w_int) (a_cons (w_var 1 (by rfl) (by first | exact Or.inl rfl | exact Or.inr (Or.inl rfl) | exact Or.inr (Or.inr rfl))) a_nil)))))) s_nil) (s_one (s_ix (w_abs (by rfl) Fx.n_abs (a_cons (w_var 2 (by rfl) (by first | exact Or.inl rfl | exact Or.inr (Or.inl rfl) | exact Or.inr (Or.inr rfl))) a_nil)) (w_var 0 (by rfl) (by first | exact Or.inl rfl | exact Or.inr (Or.inl rfl) | exact Or.inr (Or.inr rfl))) w_int)))))) s_nil) (s_cons (s_if (q_gt (w_item (w_var 0 (by rfl) (by first | exact Or.inl rfl | exact Or.inr (Or.inl rfl) | exact Or.inr (Or.inr rfl))) w_int) w_int) (s_cons (s_set 3 nd (by rfl) (by first | exact Or.inl rfl | exact Or.inr rfl) (.inl rfl) (w_item (w_var 0 (by rfl) (by first | exact Or.inl rfl | exact Or.inr (Or.inl rfl) | exact Or.inr (Or.inr rfl))) w_int)) (s_cons (s_ix (w_divY Fx.seer Fx.tree (by rfl) (by rfl) (by rfl) hr (by first | decide | omega) (w_var 3 (by rfl) (by first | exact Or.inl rfl | exact Or.inr (Or.inl rfl) | exact Or.inr (Or.inr rfl))) (w_var 1 (by rfl) (by first | exact Or.inl rfl | exact Or.inr (Or.inl rfl) | exact Or.inr (Or.inr rfl)))) (w_var 0 (by rfl) (by first | exact Or.inl rfl | exact Or.inr (Or.inl rfl) | exact Or.inr (Or.inr rfl))) w_int) (s_one (s_ret (w_mod (w_intC (by rfl) Fx.n_int (a_cons (w_var 3 (by rfl) (by first | exact Or.inl rfl | exact Or.inr (Or.inl rfl) | exact Or.inr (Or.inr rfl))) a_nil)) (w_var 1 (by rfl) (by first | exact Or.inl rfl | exact Or.inr (Or.inl rfl) | exact Or.inr (Or.inr rfl)))))))) s_nil) (s_one (s_ret (w_call D__law_wide (hr.mono (by first | decide | omega)) (by rfl) (a_cons (w_item (w_var 0 (by rfl) (by first | exact Or.inl rfl | exact Or.inr (Or.inl rfl) | exact Or.inr (Or.inr rfl))) w_int) (a_cons (w_item (w_var 0 (by rfl) (by first | exact Or.inl rfl | exact Or.inr (Or.inl rfl) | exact Or.inr (Or.inr rfl))) w_int) (a_cons (w_var 1 (by rfl) (by first | exact Or.inl rfl | exact Or.inr (Or.inl rfl) | exact Or.inr (Or.inr rfl))) a_nil)))))))))))
theorem sc__law_edge : FnScope ["store", "low", "high", "kind"] ["store", "low", "high"] (defScope s__law_edge) := ⟨rfl, rfl, rfl, by decide +kernel, rfl, by decide +kernel, by decide +kernel⟩
theorem dw__law_edge {P : Program} {w : World} {mg : Str → Option Value} {base : Heap} {T : Tb} {G : Gm} (Fx : Fx P w mg base T G) {fa : Addr} {fd : FuncData} (F : Fun G.K "_law_edge" "_law_edge" s__law_edge fa fd) (hm : mg "_law_edge" = some (.ref fa)) (D__law_take : DefW P w G.K mg base T "_law_take" 37 2 (sp__law_take G)) : DefW P w G.K mg base T "_law_edge" 38 3 (sp__law_edge G) := by
  have nd : (["store", "low", "high", "kind"] : List Str).Nodup := sc__law_edge.nd
  refine ⟨fa, fd, ["store", "low", "high"], hm, F.kp, F.binds (fun _ _ _ _ _ _ us hl => match us, hl with | [_, _, _], _ => rfl), ?_, rfl⟩
  exact fnW_of (N := ["store", "low", "high", "kind"]) (ps := ["store", "low", "high"]) (k := 37) (t := t__law_edge G) F sc__law_edge (fun L cdv A outer s H E hr => (s_cons (s_set 3 nd (by rfl) (by first | exact Or.inl rfl | exact Or.inr rfl) (.inl rfl) (w_call D__law_take (hr.mono (by first | decide | omega)) (by rfl) (a_cons (w_var 0 (by rfl) (by first | exact Or.inl rfl | exact Or.inr (Or.inl rfl) | exact Or.inr (Or.inr rfl))) (a_cons w_int a_nil)))) (s_cons (s_if ((q_or (q_le (w_var 2 (by rfl) (by first | exact Or.inl rfl | exact Or.inr (Or.inl rfl) | exact Or.inr (Or.inr rfl))) (w_var 1 (by rfl) (by first | exact Or.inl rfl | exact Or.inr (Or.inl rfl) | exact Or.inr (Or.inr rfl)))) (q_or1 (q_eq (w_var 3 (by rfl) (by first | exact Or.inl rfl | exact Or.inr (Or.inl rfl) | exact Or.inr (Or.inr rfl))) w_int)))).q (s_one (s_ret (w_var 1 (by rfl) (by first | exact Or.inl rfl | exact Or.inr (Or.inl rfl) | exact Or.inr (Or.inr rfl))))) s_nil) (s_cons (s_if (q_eq (w_var 3 (by rfl) (by first | exact Or.inl rfl | exact Or.inr (Or.inl rfl) | exact Or.inr (Or.inr rfl))) w_int) (s_one (s_ret (w_var 2 (by rfl) (by first | exact Or.inl rfl | exact Or.inr (Or.inl rfl) | exact Or.inr (Or.inr rfl))))) s_nil) (s_cons (s_if (q_eq (w_var 3 (by rfl) (by first | exact Or.inl rfl | exact Or.inr (Or.inl rfl) | exact Or.inr (Or.inr rfl))) w_int) (s_one (s_ret (w_add (w_var 1 (by rfl) (by first | exact Or.inl rfl | exact Or.inr (Or.inl rfl) | exact Or.inr (Or.inr rfl))) w_int))) s_nil) (s_cons (s_if (q_eq (w_var 3 (by rfl) (by first | exact Or.inl rfl | exact Or.inr (Or.inl rfl) | exact Or.inr (Or.inr rfl))) w_int) (s_one (s_ret (w_sub (w_var 2 (by rfl) (by first | exact Or.inl rfl | exact Or.inr (Or.inl rfl) | exact Or.inr (Or.inr rfl))) w_int))) s_nil) (s_cons (s_if (q_eq (w_var 3 (by rfl) (by first | exact Or.inl rfl | exact Or.inr (Or.inl rfl) | exact Or.inr (Or.inr rfl))) w_int) (s_one (s_ret (w_min (by rfl) (by rfl) Fx.n_min (a_cons (w_max (by rfl) (by rfl) Fx.n_max (a_cons w_int (a_cons (w_var 1 (by rfl) (by first | exact Or.inl rfl | exact Or.inr (Or.inl rfl) | exact Or.inr (Or.inr rfl))) a_nil))) (a_cons (w_var 2 (by rfl) (by first | exact Or.inl rfl | exact Or.inr (Or.inl rfl) | exact Or.inr (Or.inr rfl))) a_nil))))) s_nil) (s_cons (s_if (q_lt (w_var 3 (by rfl) (by first | exact Or.inl rfl | exact Or.inr (Or.inl rfl) | exact Or.inr (Or.inr rfl))) w_int) (s_one (s_ret (w_min (by rfl) (by rfl) Fx.n_min (a_cons (w_var 2 (by rfl) (by first | exact Or.inl rfl | exact Or.inr (Or.inl rfl) | exact Or.inr (Or.inr rfl))) (a_cons (w_add (w_var 1 (by rfl) (by first | exact Or.inl rfl | exact Or.inr (Or.inl rfl) | exact Or.inr (Or.inr rfl))) (w_call D__law_take (hr.mono (by first | decide | omega)) (by rfl) (a_cons (w_var 0 (by rfl) (by first | exact Or.inl rfl | exact Or.inr (Or.inl rfl) | exact Or.inr (Or.inr rfl))) (a_cons w_int a_nil)))) a_nil))))) s_nil) (s_one (s_ret (w_add (w_var 1 (by rfl) (by first | exact Or.inl rfl | exact Or.inr (Or.inl rfl) | exact Or.inr (Or.inr rfl))) (w_call D__law_take (hr.mono (by first | decide | omega)) (by rfl) (a_cons (w_var 0 (by rfl) (by first | exact Or.inl rfl | exact Or.inr (Or.inl rfl) | exact Or.inr (Or.inr rfl))) (a_cons (w_add (w_sub (w_var 2 (by rfl) (by first | exact Or.inl rfl | exact Or.inr (Or.inl rfl) | exact Or.inr (Or.inr rfl))) (w_var 1 (by rfl) (by first | exact Or.inl rfl | exact Or.inr (Or.inl rfl) | exact Or.inr (Or.inr rfl)))) w_int) a_nil))))))))))))))
theorem sc__law_scaled : FnScope ["store", "most", "wide", "kind"] ["store", "most"] (defScope s__law_scaled) := ⟨rfl, rfl, rfl, by decide +kernel, rfl, by decide +kernel, by decide +kernel⟩
theorem dw__law_scaled {P : Program} {w : World} {mg : Str → Option Value} {base : Heap} {T : Tb} {G : Gm} (Fx : Fx P w mg base T G) {fa : Addr} {fd : FuncData} (F : Fun G.K "_law_scaled" "_law_scaled" s__law_scaled fa fd) (hm : mg "_law_scaled" = some (.ref fa)) (D__law_take : DefW P w G.K mg base T "_law_take" 37 2 (sp__law_take G)) : DefW P w G.K mg base T "_law_scaled" 38 2 (sp__law_scaled G) := by
  have nd : (["store", "most", "wide", "kind"] : List Str).Nodup := sc__law_scaled.nd
  refine ⟨fa, fd, ["store", "most"], hm, F.kp, F.binds (fun _ _ _ _ _ _ us hl => match us, hl with | [_, _], _ => rfl), ?_, rfl⟩
  exact fnW_of (N := ["store", "most", "wide", "kind"]) (ps := ["store", "most"]) (k := 37) (t := t__law_scaled G) F sc__law_scaled (fun L cdv A outer s H E hr => (s_cons (s_set 2 nd (by rfl) (by first | exact Or.inl rfl | exact Or.inr rfl) (.inl rfl) (w_call D__law_take (hr.mono (by first | decide | omega)) (by rfl) (a_cons (w_var 0 (by rfl) (by first | exact Or.inl rfl | exact Or.inr (Or.inl rfl) | exact Or.inr (Or.inr rfl))) (a_cons (w_add (w_var 1 (by rfl) (by first | exact Or.inl rfl | exact Or.inr (Or.inl rfl) | exact Or.inr (Or.inr rfl))) w_int) a_nil)))) (s_cons (s_set 3 nd (by rfl) (by first | exact Or.inl rfl | exact Or.inr rfl) (.inl rfl) (w_call D__law_take (hr.mono (by first | decide | omega)) (by rfl) (a_cons (w_var 0 (by rfl) (by first | exact Or.inl rfl | exact Or.inr (Or.inl rfl) | exact Or.inr (Or.inr rfl))) (a_cons w_int a_nil)))) (s_cons (s_if (q_eq (w_var 3 (by rfl) (by first | exact Or.inl rfl | exact Or.inr (Or.inl rfl) | exact Or.inr (Or.inr rfl))) w_int) (s_one (s_ret (w_sub (w_shl w_int (w_var 2 (by rfl) (by first | exact Or.inl rfl | exact Or.inr (Or.inl rfl) | exact Or.inr (Or.inr rfl)))) w_int))) s_nil) (s_cons (s_if ((q_and (q_eq (w_var 3 (by rfl) (by first | exact Or.inl rfl | exact Or.inr (Or.inl rfl) | exact Or.inr (Or.inr rfl))) w_int) (q_and1 (q_lt (w_var 2 (by rfl) (by first | exact Or.inl rfl | exact Or.inr (Or.inl rfl) | exact Or.inr (Or.inr rfl))) (w_var 1 (by rfl) (by first | exact Or.inl rfl | exact Or.inr (Or.inl rfl) | exact Or.inr (Or.inr rfl))))))).q (s_one (s_ret (w_shl w_int (w_var 2 (by rfl) (by first | exact Or.inl rfl | exact Or.inr (Or.inl rfl) | exact Or.inr (Or.inr rfl)))))) s_nil) (s_cons (s_if ((q_and (q_eq (w_var 3 (by rfl) (by first | exact Or.inl rfl | exact Or.inr (Or.inl rfl) | exact Or.inr (Or.inr rfl))) w_int) (q_and1 (q_gt (w_var 2 (by rfl) (by first | exact Or.inl rfl | exact Or.inr (Or.inl rfl) | exact Or.inr (Or.inr rfl))) w_int)))).q (s_one (s_ret (w_sub (w_shl w_int (w_var 2 (by rfl) (by first | exact Or.inl rfl | exact Or.inr (Or.inl rfl) | exact Or.inr (Or.inr rfl)))) w_int))) s_nil) (s_one (s_ret (w_call D__law_take (hr.mono (by first | decide | omega)) (by rfl) (a_cons (w_var 0 (by rfl) (by first | exact Or.inl rfl | exact Or.inr (Or.inl rfl) | exact Or.inr (Or.inr rfl))) (a_cons (w_shl w_int (w_var 2 (by rfl) (by first | exact Or.inl rfl | exact Or.inr (Or.inl rfl) | exact Or.inr (Or.inr rfl)))) a_nil)))))))))))
theorem sc__law_shuffled : FnScope ["store", "row", "left", "mixed", "step", "one"] ["store", "row"] (defScope s__law_shuffled) := ⟨rfl, rfl, rfl, by decide +kernel, rfl, by decide +kernel, by decide +kernel⟩
theorem dw__law_shuffled {P : Program} {w : World} {mg : Str → Option Value} {base : Heap} {T : Tb} {G : Gm} (Fx : Fx P w mg base T G) {fa : Addr} {fd : FuncData} (F : Fun G.K "_law_shuffled" "_law_shuffled" s__law_shuffled fa fd) (hm : mg "_law_shuffled" = some (.ref fa)) (D__law_take : DefW P w G.K mg base T "_law_take" 37 2 (sp__law_take G)) : DefW P w G.K mg base T "_law_shuffled" 38 2 (sp__law_shuffled G) := by
  have nd : (["store", "row", "left", "mixed", "step", "one"] : List Str).Nodup := sc__law_shuffled.nd
  refine ⟨fa, fd, ["store", "row"], hm, F.kp, F.binds (fun _ _ _ _ _ _ us hl => match us, hl with | [_, _], _ => rfl), ?_, rfl⟩
  exact fnW_of (N := ["store", "row", "left", "mixed", "step", "one"]) (ps := ["store", "row"]) (k := 37) (t := t__law_shuffled G) F sc__law_shuffled (fun L cdv A outer s H E hr => (s_cons (s_setLc (i := 5) (by rfl) nd (blkOk_by (N := ["store", "row", "left", "mixed", "step", "one"]) (sc := defScope s__law_shuffled) (by decide +kernel)) (by rfl) (by rfl) ⟨fun s H C cl fp => c_nil, fun s H C cl fp => (w_var 5 (by rfl) (by first | exact Or.inl rfl | exact Or.inr (Or.inl rfl) | exact Or.inr (Or.inr rfl)))⟩ 2 (by rfl) (by rfl) (sw_true (by rfl) (by rfl) (by rfl) (by decide +kernel)) (w_var 1 (by rfl) (by first | exact Or.inl rfl | exact Or.inr (Or.inl rfl) | exact Or.inr (Or.inr rfl)))) (s_cons (s_set 3 nd (by rfl) (by first | exact Or.inl rfl | exact Or.inr rfl) (.inl rfl) (w_lst a_nil)) (s_cons (s_forR1 (passes_of (by rfl)) (by rfl) (by rfl) Fx.n_range (a_cons (w_len (by rfl) Fx.n_len (a_cons (w_var 1 (by rfl) (by first | exact Or.inl rfl | exact Or.inr (Or.inl rfl) | exact Or.inr (Or.inr rfl))) a_nil)) a_nil) (g_name 4 nd (by rfl) (by first | exact Or.inl rfl | exact Or.inr rfl) (.inl rfl)) (s_one (s_expr (w_append (w_var 3 (by rfl) (by first | exact Or.inl rfl | exact Or.inr (Or.inl rfl) | exact Or.inr (Or.inr rfl))) (a_cons (w_popAt (w_var 2 (by rfl) (by first | exact Or.inl rfl | exact Or.inr (Or.inl rfl) | exact Or.inr (Or.inr rfl))) (a_cons (w_call D__law_take (hr.mono (by first | decide | omega)) (by rfl) (a_cons (w_var 0 (by rfl) (by first | exact Or.inl rfl | exact Or.inr (Or.inl rfl) | exact Or.inr (Or.inr rfl))) (a_cons (w_len (by rfl) Fx.n_len (a_cons (w_var 2 (by rfl) (by first | exact Or.inl rfl | exact Or.inr (Or.inl rfl) | exact Or.inr (Or.inr rfl))) a_nil)) a_nil))) a_nil)) a_nil))))) (s_one (s_ret (w_var 3 (by rfl) (by first | exact Or.inl rfl | exact Or.inr (Or.inl rfl) | exact Or.inr (Or.inr rfl)))))))))
theorem sc__law_no_integer : FnScope ["store", "row"] ["store"] (defScope s__law_no_integer) := ⟨rfl, rfl, rfl, by decide +kernel, rfl, by decide +kernel, by decide +kernel⟩
theorem dw__law_no_integer {P : Program} {w : World} {mg : Str → Option Value} {base : Heap} {T : Tb} {G : Gm} (Fx : Fx P w mg base T G) {fa : Addr} {fd : FuncData} (F : Fun G.K "_law_no_integer" "_law_no_integer" s__law_no_integer fa fd) (hm : mg "_law_no_integer" = some (.ref fa)) (D__law_take : DefW P w G.K mg base T "_law_take" 37 2 (sp__law_take G)) : DefW P w G.K mg base T "_law_no_integer" 38 1 (sp__law_no_integer G) := by
  have nd : (["store", "row"] : List Str).Nodup := sc__law_no_integer.nd
  refine ⟨fa, fd, ["store"], hm, F.kp, F.binds (fun _ _ _ _ _ _ us hl => match us, hl with | [_], _ => rfl), ?_, rfl⟩
  exact fnW_of (N := ["store", "row"]) (ps := ["store"]) (k := 37) (t := t__law_no_integer G) F sc__law_no_integer (fun L cdv A outer s H E hr => (s_cons (s_set 1 nd (by rfl) (by first | exact Or.inl rfl | exact Or.inr rfl) (.inl rfl) (w_lst (a_cons w_non (a_cons w_bl (a_cons w_bl (a_cons w_str (a_cons w_str (a_cons (w_tup (a_cons w_int a_nil)) (a_cons (w_tup a_nil) (a_cons (w_lst (a_cons w_int a_nil)) (a_cons (w_lst a_nil) a_nil))))))))))) (s_one (s_ret (w_item (w_var 1 (by rfl) (by first | exact Or.inl rfl | exact Or.inr (Or.inl rfl) | exact Or.inr (Or.inr rfl))) (w_call D__law_take (hr.mono (by first | decide | omega)) (by rfl) (a_cons (w_var 0 (by rfl) (by first | exact Or.inl rfl | exact Or.inr (Or.inl rfl) | exact Or.inr (Or.inr rfl))) (a_cons (w_len (by rfl) Fx.n_len (a_cons (w_var 1 (by rfl) (by first | exact Or.inl rfl | exact Or.inr (Or.inl rfl) | exact Or.inr (Or.inr rfl))) a_nil)) a_nil))))))))
theorem sc__law_int : FnScope ["given"] ["given"] (defScope s__law_int) := ⟨rfl, rfl, rfl, by decide +kernel, rfl, by decide +kernel, by decide +kernel⟩
theorem dw__law_int {P : Program} {w : World} {mg : Str → Option Value} {base : Heap} {T : Tb} {G : Gm} (Fx : Fx P w mg base T G) {fa : Addr} {fd : FuncData} (F : Fun G.K "_law_int" "_law_int" s__law_int fa fd) (hm : mg "_law_int" = some (.ref fa)) : DefW P w G.K mg base T "_law_int" 1 1 (sp__law_int G) := by
  have nd : (["given"] : List Str).Nodup := sc__law_int.nd
  refine ⟨fa, fd, ["given"], hm, F.kp, F.binds (fun _ _ _ _ _ _ us hl => match us, hl with | [_], _ => rfl), ?_, rfl⟩
  exact fnW_of (N := ["given"]) (ps := ["given"]) (k := 0) (t := t__law_int G) F sc__law_int (fun L cdv A outer s H E hr => (s_one (s_ret (w_andV (w_isiK (by rfl) Fx.n_isinstance (a_cons (w_var 0 (by rfl) (by first | exact Or.inl rfl | exact Or.inr (Or.inl rfl) | exact Or.inr (Or.inr rfl))) (a_cons (w_bltn (v := .ty "int") (u := .type "int") (by rfl) Fx.n_int (by decide +kernel) rfl (fun _ => rep_ty)) a_nil))) (w_one (w_not (w_isiK (by rfl) Fx.n_isinstance (a_cons (w_var 0 (by rfl) (by first | exact Or.inl rfl | exact Or.inr (Or.inl rfl) | exact Or.inr (Or.inr rfl))) (a_cons (w_bltn (v := .ty "bool") (u := .type "bool") (by rfl) Fx.n_bool (by decide +kernel) rfl (fun _ => rep_ty)) a_nil)))))))))
theorem sc__law_same : FnScope ["actual", "due", "k"] ["actual", "due"] (defScope s__law_same) := ⟨rfl, rfl, rfl, by decide +kernel, rfl, by decide +kernel, by decide +kernel⟩
theorem dw__law_same {P : Program} {w : World} {mg : Str → Option Value} {base : Heap} {T : Tb} {G : Gm} (Fx : Fx P w mg base T G) {fa : Addr} {fd : FuncData} (F : Fun G.K "_law_same" "_law_same" s__law_same fa fd) (hm : mg "_law_same" = some (.ref fa)) (D__law_int : DefW P w G.K mg base T "_law_int" 1 1 (sp__law_int G)) : ∀ n, DefW P w G.K mg base T "_law_same" (1 + n) 2 (sp__law_same G n) := by
  have nd : (["actual", "due", "k"] : List Str).Nodup := sc__law_same.nd
  intro n
  induction n with
  | zero => exact ⟨fa, fd, ["actual", "due"], hm, F.kp, F.binds (fun _ _ _ _ _ _ us hl => match us, hl with | [_, _], _ => rfl), ⟨fun _ _ _ _ _ _ _ _ _ _ _ _ _ _ _ _ _ _ _ _ z => False.elim z⟩, rfl⟩
  | succ n D_rec =>
    refine ⟨fa, fd, ["actual", "due"], hm, F.kp, F.binds (fun _ _ _ _ _ _ us hl => match us, hl with | [_, _], _ => rfl), ?_, rfl⟩
    exact fnW_of (N := ["actual", "due", "k"]) (ps := ["actual", "due"]) (k := 1 + n) (t := t__law_same G (sp__law_same G n)) F sc__law_same (fun L cdv A outer s H E hr => (s_cons (s_if (q_isN (w_var 1 (by rfl) (by first | exact Or.inl rfl | exact Or.inr (Or.inl rfl) | exact Or.inr (Or.inr rfl)))) (s_one (s_ret (w_isN (w_var 0 (by rfl) (by first | exact Or.inl rfl | exact Or.inr (Or.inl rfl) | exact Or.inr (Or.inr rfl)))))) s_nil) (s_cons (s_if (q_val (w_isiK (by rfl) Fx.n_isinstance (a_cons (w_var 1 (by rfl) (by first | exact Or.inl rfl | exact Or.inr (Or.inl rfl) | exact Or.inr (Or.inr rfl))) (a_cons (w_bltn (v := .ty "bool") (u := .type "bool") (by rfl) Fx.n_bool (by decide +kernel) rfl (fun _ => rep_ty)) a_nil))) (by intro _; rfl)) (s_one (s_ret (w_andV (w_isiK (by rfl) Fx.n_isinstance (a_cons (w_var 0 (by rfl) (by first | exact Or.inl rfl | exact Or.inr (Or.inl rfl) | exact Or.inr (Or.inr rfl))) (a_cons (w_bltn (v := .ty "bool") (u := .type "bool") (by rfl) Fx.n_bool (by decide +kernel) rfl (fun _ => rep_ty)) a_nil))) (w_one (w_eq (w_var 0 (by rfl) (by first | exact Or.inl rfl | exact Or.inr (Or.inl rfl) | exact Or.inr (Or.inr rfl))) (w_var 1 (by rfl) (by first | exact Or.inl rfl | exact Or.inr (Or.inl rfl) | exact Or.inr (Or.inr rfl)))))))) s_nil) (s_cons (s_if (q_val (w_isiK (by rfl) Fx.n_isinstance (a_cons (w_var 1 (by rfl) (by first | exact Or.inl rfl | exact Or.inr (Or.inl rfl) | exact Or.inr (Or.inr rfl))) (a_cons (w_bltn (v := .ty "int") (u := .type "int") (by rfl) Fx.n_int (by decide +kernel) rfl (fun _ => rep_ty)) a_nil))) (by intro _; rfl)) (s_one (s_ret (w_andV (w_call D__law_int (hr.mono (by first | decide | omega)) (by rfl) (a_cons (w_var 0 (by rfl) (by first | exact Or.inl rfl | exact Or.inr (Or.inl rfl) | exact Or.inr (Or.inr rfl))) a_nil)) (w_one (w_eq (w_var 0 (by rfl) (by first | exact Or.inl rfl | exact Or.inr (Or.inl rfl) | exact Or.inr (Or.inr rfl))) (w_var 1 (by rfl) (by first | exact Or.inl rfl | exact Or.inr (Or.inl rfl) | exact Or.inr (Or.inr rfl)))))))) s_nil) (s_cons (s_if (q_val (w_isiK (by rfl) Fx.n_isinstance (a_cons (w_var 1 (by rfl) (by first | exact Or.inl rfl | exact Or.inr (Or.inl rfl) | exact Or.inr (Or.inr rfl))) (a_cons (w_bltn (v := .ty "str") (u := .type "str") (by rfl) Fx.n_str (by decide +kernel) rfl (fun _ => rep_ty)) a_nil))) (by intro _; rfl)) (s_one (s_ret (w_andV (w_isiK (by rfl) Fx.n_isinstance (a_cons (w_var 0 (by rfl) (by first | exact Or.inl rfl | exact Or.inr (Or.inl rfl) | exact Or.inr (Or.inr rfl))) (a_cons (w_bltn (v := .ty "str") (u := .type "str") (by rfl) Fx.n_str (by decide +kernel) rfl (fun _ => rep_ty)) a_nil))) (w_one (w_eq (w_var 0 (by rfl) (by first | exact Or.inl rfl | exact Or.inr (Or.inl rfl) | exact Or.inr (Or.inr rfl))) (w_var 1 (by rfl) (by first | exact Or.inl rfl | exact Or.inr (Or.inl rfl) | exact Or.inr (Or.inr rfl)))))))) s_nil) (s_cons (s_if ((q_and (q_val (w_isiK (by rfl) Fx.n_isinstance (a_cons (w_var 1 (by rfl) (by first | exact Or.inl rfl | exact Or.inr (Or.inl rfl) | exact Or.inr (Or.inr rfl))) (a_cons (w_bltn (v := .ty "list") (u := .type "list") (by rfl) Fx.n_list (by decide +kernel) rfl (fun _ => rep_ty)) a_nil))) (by intro _; rfl)) (q_and1 (q_not (q_val (w_isiK (by rfl) Fx.n_isinstance (a_cons (w_var 0 (by rfl) (by first | exact Or.inl rfl | exact Or.inr (Or.inl rfl) | exact Or.inr (Or.inr rfl))) (a_cons (w_bltn (v := .ty "list") (u := .type "list") (by rfl) Fx.n_list (by decide +kernel) rfl (fun _ => rep_ty)) a_nil))) (by intro _; rfl)))))).q (s_one (s_ret w_bl)) s_nil) (s_cons (s_if ((q_and (q_val (w_isiK (by rfl) Fx.n_isinstance (a_cons (w_var 1 (by rfl) (by first | exact Or.inl rfl | exact Or.inr (Or.inl rfl) | exact Or.inr (Or.inr rfl))) (a_cons (w_bltn (v := .ty "tuple") (u := .type "tuple") (by rfl) Fx.n_tuple (by decide +kernel) rfl (fun _ => rep_ty)) a_nil))) (by intro _; rfl)) (q_and1 (q_not (q_val (w_isiK (by rfl) Fx.n_isinstance (a_cons (w_var 0 (by rfl) (by first | exact Or.inl rfl | exact Or.inr (Or.inl rfl) | exact Or.inr (Or.inr rfl))) (a_cons (w_bltn (v := .ty "tuple") (u := .type "tuple") (by rfl) Fx.n_tuple (by decide +kernel) rfl (fun _ => rep_ty)) a_nil))) (by intro _; rfl)))))).q (s_one (s_ret w_bl)) s_nil) (s_cons (s_if ((q_or (q_not (q_val (w_isiK (by rfl) Fx.n_isinstance (a_cons (w_var 1 (by rfl) (by first | exact Or.inl rfl | exact Or.inr (Or.inl rfl) | exact Or.inr (Or.inr rfl))) (a_cons (w_tup (a_cons (w_bltn (v := .ty "list") (u := .type "list") (by rfl) Fx.n_list (by decide +kernel) rfl (fun _ => rep_ty)) (a_cons (w_bltn (v := .ty "tuple") (u := .type "tuple") (by rfl) Fx.n_tuple (by decide +kernel) rfl (fun _ => rep_ty)) a_nil))) a_nil))) (by intro _; rfl))) (q_or1 (q_ne (w_len (by rfl) Fx.n_len (a_cons (w_var 0 (by rfl) (by first | exact Or.inl rfl | exact Or.inr (Or.inl rfl) | exact Or.inr (Or.inr rfl))) a_nil)) (w_len (by rfl) Fx.n_len (a_cons (w_var 1 (by rfl) (by first | exact Or.inl rfl | exact Or.inr (Or.inl rfl) | exact Or.inr (Or.inr rfl))) a_nil)))))).q (s_one (s_ret w_bl)) s_nil) (s_cons (s_forR1 (passes_of (by rfl)) (by rfl) (by rfl) Fx.n_range (a_cons (w_len (by rfl) Fx.n_len (a_cons (w_var 1 (by rfl) (by first | exact Or.inl rfl | exact Or.inr (Or.inl rfl) | exact Or.inr (Or.inr rfl))) a_nil)) a_nil) (g_name 2 nd (by rfl) (by first | exact Or.inl rfl | exact Or.inr rfl) (.inl rfl)) (s_one (s_if (q_not (q_val (w_call D_rec (hr.mono (by first | decide | omega)) (by rfl) (a_cons (w_item (w_var 0 (by rfl) (by first | exact Or.inl rfl | exact Or.inr (Or.inl rfl) | exact Or.inr (Or.inr rfl))) (w_var 2 (by rfl) (by first | exact Or.inl rfl | exact Or.inr (Or.inl rfl) | exact Or.inr (Or.inr rfl)))) (a_cons (w_item (w_var 1 (by rfl) (by first | exact Or.inl rfl | exact Or.inr (Or.inl rfl) | exact Or.inr (Or.inr rfl))) (w_var 2 (by rfl) (by first | exact Or.inl rfl | exact Or.inr (Or.inl rfl) | exact Or.inr (Or.inr rfl)))) a_nil))) (by intro _; rfl))) (s_one (s_ret w_bl)) s_nil))) (s_one (s_ret w_bl)))))))))))
theorem sc__law_names : FnScope ["error", "row", "one"] ["error"] (defScope s__law_names) := ⟨rfl, rfl, rfl, by decide +kernel, rfl, by decide +kernel, by decide +kernel⟩
theorem dw__law_names {P : Program} {w : World} {mg : Str → Option Value} {base : Heap} {T : Tb} {G : Gm} (Fx : Fx P w mg base T G) {fa : Addr} {fd : FuncData} (F : Fun G.K "_law_names" "_law_names" s__law_names fa fd) (hm : mg "_law_names" = some (.ref fa)) : DefHW P w G.K mg base T "_law_names" 1 1 (sp__law_names G) := by
  have nd : (["error", "row", "one"] : List Str).Nodup := sc__law_names.nd
  refine ⟨fa, fd, ["error"], hm, F.kp, F.binds (fun _ _ _ _ _ _ us hl => match us, hl with | [_], _ => rfl), ?_, rfl⟩
  exact fnHW_of (N := ["error", "row", "one"]) (ps := ["error"]) (k := 0) (t := t__law_names G) F sc__law_names (fun a0 cdv A outer s H hA hr => (s_cons (s_set 1 nd (by rfl) (by first | exact Or.inl rfl | exact Or.inr rfl) (.inl rfl) (w_lst (a_cons (w_tup (a_cons w_str (a_cons (w_isiK (by rfl) Fx.n_isinstance (a_cons (w_var 0 (by rfl) (by first | exact Or.inl rfl | exact Or.inr (Or.inl rfl) | exact Or.inr (Or.inr rfl))) (a_cons (w_globN (by rfl) (glN_cls Fx.c_BadCount)) a_nil))) a_nil))) (a_cons (w_tup (a_cons w_str (a_cons (w_isiK (by rfl) Fx.n_isinstance (a_cons (w_var 0 (by rfl) (by first | exact Or.inl rfl | exact Or.inr (Or.inl rfl) | exact Or.inr (Or.inr rfl))) (a_cons (w_globN (by rfl) (glN_cls Fx.c_BadFormat)) a_nil))) a_nil))) a_nil)))) (s_cons (s_expr (w_append (w_var 1 (by rfl) (by first | exact Or.inl rfl | exact Or.inr (Or.inl rfl) | exact Or.inr (Or.inr rfl))) (a_cons (w_tup (a_cons w_str (a_cons (w_isiK (by rfl) Fx.n_isinstance (a_cons (w_var 0 (by rfl) (by first | exact Or.inl rfl | exact Or.inr (Or.inl rfl) | exact Or.inr (Or.inr rfl))) (a_cons (w_globN (by rfl) (glN_cls Fx.c_BadNumber)) a_nil))) a_nil))) a_nil))) (s_cons (s_expr (w_append (w_var 1 (by rfl) (by first | exact Or.inl rfl | exact Or.inr (Or.inl rfl) | exact Or.inr (Or.inr rfl))) (a_cons (w_tup (a_cons w_str (a_cons (w_isiK (by rfl) Fx.n_isinstance (a_cons (w_var 0 (by rfl) (by first | exact Or.inl rfl | exact Or.inr (Or.inl rfl) | exact Or.inr (Or.inr rfl))) (a_cons (w_globN (by rfl) (glN_cls Fx.c_BadExact)) a_nil))) a_nil))) a_nil))) (s_cons (s_expr (w_append (w_var 1 (by rfl) (by first | exact Or.inl rfl | exact Or.inr (Or.inl rfl) | exact Or.inr (Or.inr rfl))) (a_cons (w_tup (a_cons w_str (a_cons (w_isiK (by rfl) Fx.n_isinstance (a_cons (w_var 0 (by rfl) (by first | exact Or.inl rfl | exact Or.inr (Or.inl rfl) | exact Or.inr (Or.inr rfl))) (a_cons (w_globN (by rfl) (glN_cls Fx.c_BadMode)) a_nil))) a_nil))) a_nil))) (s_cons (s_expr (w_append (w_var 1 (by rfl) (by first | exact Or.inl rfl | exact Or.inr (Or.inl rfl) | exact Or.inr (Or.inr rfl))) (a_cons (w_tup (a_cons w_str (a_cons (w_isiK (by rfl) Fx.n_isinstance (a_cons (w_var 0 (by rfl) (by first | exact Or.inl rfl | exact Or.inr (Or.inl rfl) | exact Or.inr (Or.inr rfl))) (a_cons (w_globN (by rfl) (glN_cls Fx.c_BadOp)) a_nil))) a_nil))) a_nil))) (s_cons (s_expr (w_append (w_var 1 (by rfl) (by first | exact Or.inl rfl | exact Or.inr (Or.inl rfl) | exact Or.inr (Or.inr rfl))) (a_cons (w_tup (a_cons w_str (a_cons (w_isiK (by rfl) Fx.n_isinstance (a_cons (w_var 0 (by rfl) (by first | exact Or.inl rfl | exact Or.inr (Or.inl rfl) | exact Or.inr (Or.inr rfl))) (a_cons (w_globN (by rfl) (glN_cls Fx.c_BadText)) a_nil))) a_nil))) a_nil))) (s_cons (s_expr (w_append (w_var 1 (by rfl) (by first | exact Or.inl rfl | exact Or.inr (Or.inl rfl) | exact Or.inr (Or.inr rfl))) (a_cons (w_tup (a_cons w_str (a_cons (w_isiK (by rfl) Fx.n_isinstance (a_cons (w_var 0 (by rfl) (by first | exact Or.inl rfl | exact Or.inr (Or.inl rfl) | exact Or.inr (Or.inr rfl))) (a_cons (w_globN (by rfl) (glN_cls Fx.c_BadCut)) a_nil))) a_nil))) a_nil))) (s_cons (s_expr (w_append (w_var 1 (by rfl) (by first | exact Or.inl rfl | exact Or.inr (Or.inl rfl) | exact Or.inr (Or.inr rfl))) (a_cons (w_tup (a_cons w_str (a_cons (w_isiK (by rfl) Fx.n_isinstance (a_cons (w_var 0 (by rfl) (by first | exact Or.inl rfl | exact Or.inr (Or.inl rfl) | exact Or.inr (Or.inr rfl))) (a_cons (w_globN (by rfl) (glN_cls Fx.c_BadPlan)) a_nil))) a_nil))) a_nil))) (s_cons (s_expr (w_append (w_var 1 (by rfl) (by first | exact Or.inl rfl | exact Or.inr (Or.inl rfl) | exact Or.inr (Or.inr rfl))) (a_cons (w_tup (a_cons w_str (a_cons (w_isiK (by rfl) Fx.n_isinstance (a_cons (w_var 0 (by rfl) (by first | exact Or.inl rfl | exact Or.inr (Or.inl rfl) | exact Or.inr (Or.inr rfl))) (a_cons (w_globN (by rfl) (glN_cls Fx.c_BadChain)) a_nil))) a_nil))) a_nil))) (s_cons (s_expr (w_append (w_var 1 (by rfl) (by first | exact Or.inl rfl | exact Or.inr (Or.inl rfl) | exact Or.inr (Or.inr rfl))) (a_cons (w_tup (a_cons w_str (a_cons (w_isiK (by rfl) Fx.n_isinstance (a_cons (w_var 0 (by rfl) (by first | exact Or.inl rfl | exact Or.inr (Or.inl rfl) | exact Or.inr (Or.inr rfl))) (a_cons (w_globN (by rfl) (glN_cls Fx.c_BadFamily)) a_nil))) a_nil))) a_nil))) (s_cons (s_expr (w_append (w_var 1 (by rfl) (by first | exact Or.inl rfl | exact Or.inr (Or.inl rfl) | exact Or.inr (Or.inr rfl))) (a_cons (w_tup (a_cons w_str (a_cons (w_isiK (by rfl) Fx.n_isinstance (a_cons (w_var 0 (by rfl) (by first | exact Or.inl rfl | exact Or.inr (Or.inl rfl) | exact Or.inr (Or.inr rfl))) (a_cons (w_globN (by rfl) (glN_cls Fx.c_BadSpan)) a_nil))) a_nil))) a_nil))) (s_cons (s_expr (w_append (w_var 1 (by rfl) (by first | exact Or.inl rfl | exact Or.inr (Or.inl rfl) | exact Or.inr (Or.inr rfl))) (a_cons (w_tup (a_cons w_str (a_cons (w_isiK (by rfl) Fx.n_isinstance (a_cons (w_var 0 (by rfl) (by first | exact Or.inl rfl | exact Or.inr (Or.inl rfl) | exact Or.inr (Or.inr rfl))) (a_cons (w_globN (by rfl) (glN_cls Fx.c_BadProgram)) a_nil))) a_nil))) a_nil))) (s_cons (s_expr (w_append (w_var 1 (by rfl) (by first | exact Or.inl rfl | exact Or.inr (Or.inl rfl) | exact Or.inr (Or.inr rfl))) (a_cons (w_tup (a_cons w_str (a_cons (w_isiK (by rfl) Fx.n_isinstance (a_cons (w_var 0 (by rfl) (by first | exact Or.inl rfl | exact Or.inr (Or.inl rfl) | exact Or.inr (Or.inr rfl))) (a_cons (w_globN (by rfl) (glN_cls Fx.c_BadBox)) a_nil))) a_nil))) a_nil))) (s_cons (s_expr (w_append (w_var 1 (by rfl) (by first | exact Or.inl rfl | exact Or.inr (Or.inl rfl) | exact Or.inr (Or.inr rfl))) (a_cons (w_tup (a_cons w_str (a_cons (w_isiK (by rfl) Fx.n_isinstance (a_cons (w_var 0 (by rfl) (by first | exact Or.inl rfl | exact Or.inr (Or.inl rfl) | exact Or.inr (Or.inr rfl))) (a_cons (w_globN (by rfl) (glN_cls Fx.c_NotAsked)) a_nil))) a_nil))) a_nil))) (s_cons (s_expr (w_append (w_var 1 (by rfl) (by first | exact Or.inl rfl | exact Or.inr (Or.inl rfl) | exact Or.inr (Or.inr rfl))) (a_cons (w_tup (a_cons w_str (a_cons (w_isiK (by rfl) Fx.n_isinstance (a_cons (w_var 0 (by rfl) (by first | exact Or.inl rfl | exact Or.inr (Or.inl rfl) | exact Or.inr (Or.inr rfl))) (a_cons (w_globN (by rfl) (glN_cls Fx.c_TooMany)) a_nil))) a_nil))) a_nil))) (s_cons (s_expr (w_append (w_var 1 (by rfl) (by first | exact Or.inl rfl | exact Or.inr (Or.inl rfl) | exact Or.inr (Or.inr rfl))) (a_cons (w_tup (a_cons w_str (a_cons (w_not (w_isiK (by rfl) Fx.n_isinstance (a_cons (w_var 0 (by rfl) (by first | exact Or.inl rfl | exact Or.inr (Or.inl rfl) | exact Or.inr (Or.inr rfl))) (a_cons (w_bltn (v := .ty "ValueError") (u := .type "ValueError") (by rfl) Fx.n_ValueError (by decide +kernel) rfl (fun _ => rep_ty)) a_nil)))) a_nil))) a_nil))) (s_one (s_ret (w_tuple (by rfl) Fx.n_tuple (a_cons (w_lcHot (i := 2) hA nd (blkOk_by (N := ["error", "row", "one"]) (sc := defScope s__law_names) (by decide +kernel)) (by rfl) (by rfl) ⟨fun s H C cl fp => (c_one (q_val (w_item (w_var 2 (by rfl) (by first | exact Or.inl rfl | exact Or.inr (Or.inl rfl) | exact Or.inr (Or.inr rfl))) w_int) (by intro _; rfl))), fun s H C cl fp => (w_item (w_var 2 (by rfl) (by first | exact Or.inl rfl | exact Or.inr (Or.inl rfl) | exact Or.inr (Or.inr rfl))) w_int)⟩ (w_var 1 (by rfl) (by first | exact Or.inl rfl | exact Or.inr (Or.inl rfl) | exact Or.inr (Or.inr rfl)))) a_nil)))))))))))))))))))))
theorem sc__law_caught : FnScope ["action", "e", "given"] ["action"] (defScope s__law_caught) := ⟨rfl, rfl, rfl, by decide +kernel, rfl, by decide +kernel, by decide +kernel⟩
theorem dw__law_caught {P : Program} {w : World} {mg : Str → Option Value} {base : Heap} {T : Tb} {G : Gm} (Fx : Fx P w mg base T G) {fa : Addr} {fd : FuncData} (F : Fun G.K "_law_caught" "_law_caught" s__law_caught fa fd) (hm : mg "_law_caught" = some (.ref fa)) (D__law_names : DefHW P w G.K mg base T "_law_names" 1 1 (sp__law_names G)) : DefW P w G.K mg base T "_law_caught" 101 1 (sp__law_caught G) := by
  have nd : (["action", "e", "given"] : List Str).Nodup := sc__law_caught.nd
  refine ⟨fa, fd, ["action"], hm, F.kp, F.binds (fun _ _ _ _ _ _ us hl => match us, hl with | [_], _ => rfl), ?_, rfl⟩
  exact fnW_of (N := ["action", "e", "given"]) (ps := ["action"]) (k := 100) (t := t__law_caught G) F sc__law_caught (fun L cdv A outer s H E hr => (s_cons (s_try (by rfl) (by rfl) nd (by rfl) (fun pn xe hpo => (s_one (s_set 2 nd (by rfl) (by first | exact Or.inl rfl | exact Or.inr rfl) (.inl rfl) (w_act 0 (hr.mono (by first | decide | omega)) (by rfl) (by first | exact Or.inl rfl | exact Or.inr (Or.inl rfl) | exact Or.inr (Or.inr rfl)))))) (.cons (by rfl) (by rfl) Fx.c_BadText (i := 1) (by rfl) (by rfl) (fun a0 pn => s_never) (.cons (by rfl) (by rfl) Fx.c_BadProgram (i := 1) (by rfl) (by rfl) (fun a0 pn => s_never) (.cons (by rfl) (by rfl) Fx.c_TooMany (i := 1) (by rfl) (by rfl) (fun a0 pn => s_never) (.cons (by rfl) (by rfl) Fx.c_Refused (i := 1) (by rfl) (by rfl) (fun a0 pn => (s_one (s_ret (w_tup (a_cons w_str (a_cons (w_callH D__law_names (L2H.RoomH.mono (roomH_suite hr) (by first | decide | omega)) (by rfl) (by rfl) (a_cons (w_var 1 (by rfl) (by first | exact Or.inl rfl | exact Or.inr (Or.inl rfl) | exact Or.inr (Or.inr rfl))) a_nil)) (a_cons w_non a_nil))))))) .nil))))) (s_one (s_ret (w_tup (a_cons w_str (a_cons (w_var 2 (by rfl) (by first | exact Or.inl rfl | exact Or.inr (Or.inl rfl) | exact Or.inr (Or.inr rfl))) a_nil)))))))
theorem sc__law_alike : FnScope ["first", "second"] ["first", "second"] (defScope s__law_alike) := ⟨rfl, rfl, rfl, by decide +kernel, rfl, by decide +kernel, by decide +kernel⟩
theorem dw__law_alike {P : Program} {w : World} {mg : Str → Option Value} {base : Heap} {T : Tb} {G : Gm} (Fx : Fx P w mg base T G) {fa : Addr} {fd : FuncData} (F : Fun G.K "_law_alike" "_law_alike" s__law_alike fa fd) (hm : mg "_law_alike" = some (.ref fa)) : DefW P w G.K mg base T "_law_alike" 1 2 (sp__law_alike G) := by
  have nd : (["first", "second"] : List Str).Nodup := sc__law_alike.nd
  refine ⟨fa, fd, ["first", "second"], hm, F.kp, F.binds (fun _ _ _ _ _ _ us hl => match us, hl with | [_, _], _ => rfl), ?_, rfl⟩
  exact fnW_of (N := ["first", "second"]) (ps := ["first", "second"]) (k := 0) (t := t__law_alike G) F sc__law_alike (fun L cdv A outer s H E hr => (s_one (s_ret (w_orV (w_eqA hr (w_var 0 (by rfl) (by first | exact Or.inl rfl | exact Or.inr (Or.inl rfl) | exact Or.inr (Or.inr rfl))) (w_var 1 (by rfl) (by first | exact Or.inl rfl | exact Or.inr (Or.inl rfl) | exact Or.inr (Or.inr rfl)))) (w_one (w_andV (w_eqA hr (w_item (w_var 0 (by rfl) (by first | exact Or.inl rfl | exact Or.inr (Or.inl rfl) | exact Or.inr (Or.inr rfl))) w_int) w_int) (w_one (w_eqA hr (w_item (w_var 1 (by rfl) (by first | exact Or.inl rfl | exact Or.inr (Or.inl rfl) | exact Or.inr (Or.inr rfl))) w_int) w_int))))))))
theorem sc__law_compare : FnScope ["first", "second", "left", "right", "base"] ["first", "second"] (defScope s__law_compare) := ⟨rfl, rfl, rfl, by decide +kernel, rfl, by decide +kernel, by decide +kernel⟩
theorem dw__law_compare {P : Program} {w : World} {mg : Str → Option Value} {base : Heap} {T : Tb} {G : Gm} (Fx : Fx P w mg base T G) {fa : Addr} {fd : FuncData} (F : Fun G.K "_law_compare" "_law_compare" s__law_compare fa fd) (hm : mg "_law_compare" = some (.ref fa)) : DefW P w G.K mg base T "_law_compare" 1 2 (sp__law_compare G) := by
  have nd : (["first", "second", "left", "right", "base"] : List Str).Nodup := sc__law_compare.nd
  refine ⟨fa, fd, ["first", "second"], hm, F.kp, F.binds (fun _ _ _ _ _ _ us hl => match us, hl with | [_, _], _ => rfl), ?_, rfl⟩
  exact fnW_of (N := ["first", "second", "left", "right", "base"]) (ps := ["first", "second"]) (k := 0) (t := t__law_compare G) F sc__law_compare (fun L cdv A outer s H E hr => (s_cons (s_set 2 nd (by rfl) (by first | exact Or.inl rfl | exact Or.inr rfl) (.inl rfl) (w_sub w_int (w_mul w_int (w_item (w_var 0 (by rfl) (by first | exact Or.inl rfl | exact Or.inr (Or.inl rfl) | exact Or.inr (Or.inr rfl))) w_int)))) (s_cons (s_set 3 nd (by rfl) (by first | exact Or.inl rfl | exact Or.inr rfl) (.inl rfl) (w_sub w_int (w_mul w_int (w_item (w_var 1 (by rfl) (by first | exact Or.inl rfl | exact Or.inr (Or.inl rfl) | exact Or.inr (Or.inr rfl))) w_int)))) (s_cons (s_if ((q_or (q_eq (w_item (w_var 0 (by rfl) (by first | exact Or.inl rfl | exact Or.inr (Or.inl rfl) | exact Or.inr (Or.inr rfl))) w_int) (w_neg w_int)) (q_or1 (q_eq (w_item (w_var 1 (by rfl) (by first | exact Or.inl rfl | exact Or.inr (Or.inl rfl) | exact Or.inr (Or.inr rfl))) w_int) (w_neg w_int))))).q (s_cons (s_set 2 nd (by rfl) (by first | exact Or.inl rfl | exact Or.inr rfl) (.inl rfl) (w_mul (w_var 2 (by rfl) (by first | exact Or.inl rfl | exact Or.inr (Or.inl rfl) | exact Or.inr (Or.inr rfl))) (w_intC (by rfl) Fx.n_int (a_cons (w_eq (w_item (w_var 0 (by rfl) (by first | exact Or.inl rfl | exact Or.inr (Or.inl rfl) | exact Or.inr (Or.inr rfl))) w_int) (w_neg w_int)) a_nil)))) (s_cons (s_set 3 nd (by rfl) (by first | exact Or.inl rfl | exact Or.inr rfl) (.inl rfl) (w_mul (w_var 3 (by rfl) (by first | exact Or.inl rfl | exact Or.inr (Or.inl rfl) | exact Or.inr (Or.inr rfl))) (w_intC (by rfl) Fx.n_int (a_cons (w_eq (w_item (w_var 1 (by rfl) (by first | exact Or.inl rfl | exact Or.inr (Or.inl rfl) | exact Or.inr (Or.inr rfl))) w_int) (w_neg w_int)) a_nil)))) (s_one (s_ret (w_sub (w_intC (by rfl) Fx.n_int (a_cons (w_gt (w_var 2 (by rfl) (by first | exact Or.inl rfl | exact Or.inr (Or.inl rfl) | exact Or.inr (Or.inr rfl))) (w_var 3 (by rfl) (by first | exact Or.inl rfl | exact Or.inr (Or.inl rfl) | exact Or.inr (Or.inr rfl)))) a_nil)) (w_intC (by rfl) Fx.n_int (a_cons (w_lt (w_var 2 (by rfl) (by first | exact Or.inl rfl | exact Or.inr (Or.inl rfl) | exact Or.inr (Or.inr rfl))) (w_var 3 (by rfl) (by first | exact Or.inl rfl | exact Or.inr (Or.inl rfl) | exact Or.inr (Or.inr rfl)))) a_nil))))))) s_nil) (s_cons (s_set 4 nd (by rfl) (by first | exact Or.inl rfl | exact Or.inr rfl) (.inl rfl) (w_min (by rfl) (by rfl) Fx.n_min (a_cons (w_item (w_var 0 (by rfl) (by first | exact Or.inl rfl | exact Or.inr (Or.inl rfl) | exact Or.inr (Or.inr rfl))) w_int) (a_cons (w_item (w_var 1 (by rfl) (by first | exact Or.inl rfl | exact Or.inr (Or.inl rfl) | exact Or.inr (Or.inr rfl))) w_int) a_nil)))) (s_cons (s_set 2 nd (by rfl) (by first | exact Or.inl rfl | exact Or.inr rfl) (.inl rfl) (w_shl (w_mul (w_var 2 (by rfl) (by first | exact Or.inl rfl | exact Or.inr (Or.inl rfl) | exact Or.inr (Or.inr rfl))) (w_item (w_var 0 (by rfl) (by first | exact Or.inl rfl | exact Or.inr (Or.inl rfl) | exact Or.inr (Or.inr rfl))) w_int)) (w_sub (w_item (w_var 0 (by rfl) (by first | exact Or.inl rfl | exact Or.inr (Or.inl rfl) | exact Or.inr (Or.inr rfl))) w_int) (w_var 4 (by rfl) (by first | exact Or.inl rfl | exact Or.inr (Or.inl rfl) | exact Or.inr (Or.inr rfl)))))) (s_cons (s_set 3 nd (by rfl) (by first | exact Or.inl rfl | exact Or.inr rfl) (.inl rfl) (w_shl (w_mul (w_var 3 (by rfl) (by first | exact Or.inl rfl | exact Or.inr (Or.inl rfl) | exact Or.inr (Or.inr rfl))) (w_item (w_var 1 (by rfl) (by first | exact Or.inl rfl | exact Or.inr (Or.inl rfl) | exact Or.inr (Or.inr rfl))) w_int)) (w_sub (w_item (w_var 1 (by rfl) (by first | exact Or.inl rfl | exact Or.inr (Or.inl rfl) | exact Or.inr (Or.inr rfl))) w_int) (w_var 4 (by rfl) (by first | exact Or.inl rfl | exact Or.inr (Or.inl rfl) | exact Or.inr (Or.inr rfl)))))) (s_one (s_ret (w_sub (w_intC (by rfl) Fx.n_int (a_cons (w_gt (w_var 2 (by rfl) (by first | exact Or.inl rfl | exact Or.inr (Or.inl rfl) | exact Or.inr (Or.inr rfl))) (w_var 3 (by rfl) (by first | exact Or.inl rfl | exact Or.inr (Or.inl rfl) | exact Or.inr (Or.inr rfl)))) a_nil)) (w_intC (by rfl) Fx.n_int (a_cons (w_lt (w_var 2 (by rfl) (by first | exact Or.inl rfl | exact Or.inr (Or.inl rfl) | exact Or.inr (Or.inr rfl))) (w_var 3 (by rfl) (by first | exact Or.inl rfl | exact Or.inr (Or.inl rfl) | exact Or.inr (Or.inr rfl)))) a_nil))))))))))))
theorem sc__law_before : FnScope ["first", "second", "told"] ["first", "second"] (defScope s__law_before) := ⟨rfl, rfl, rfl, by decide +kernel, rfl, by decide +kernel, by decide +kernel⟩
theorem dw__law_before {P : Program} {w : World} {mg : Str → Option Value} {base : Heap} {T : Tb} {G : Gm} (Fx : Fx P w mg base T G) {fa : Addr} {fd : FuncData} (F : Fun G.K "_law_before" "_law_before" s__law_before fa fd) (hm : mg "_law_before" = some (.ref fa)) (D__law_compare : DefW P w G.K mg base T "_law_compare" 1 2 (sp__law_compare G)) : DefW P w G.K mg base T "_law_before" 2 2 (sp__law_before G) := by
  have nd : (["first", "second", "told"] : List Str).Nodup := sc__law_before.nd
  refine ⟨fa, fd, ["first", "second"], hm, F.kp, F.binds (fun _ _ _ _ _ _ us hl => match us, hl with | [_, _], _ => rfl), ?_, rfl⟩
  exact fnW_of (N := ["first", "second", "told"]) (ps := ["first", "second"]) (k := 1) (t := t__law_before G) F sc__law_before (fun L cdv A outer s H E hr => (s_cons (s_if ((q_or (q_eq (w_item (w_var 0 (by rfl) (by first | exact Or.inl rfl | exact Or.inr (Or.inl rfl) | exact Or.inr (Or.inr rfl))) w_int) (w_neg w_int)) (q_or1 (q_eq (w_item (w_var 1 (by rfl) (by first | exact Or.inl rfl | exact Or.inr (Or.inl rfl) | exact Or.inr (Or.inr rfl))) w_int) (w_neg w_int))))).q (s_one (s_ret (w_sub (w_intC (by rfl) Fx.n_int (a_cons (w_eq (w_item (w_var 0 (by rfl) (by first | exact Or.inl rfl | exact Or.inr (Or.inl rfl) | exact Or.inr (Or.inr rfl))) w_int) (w_neg w_int)) a_nil)) (w_intC (by rfl) Fx.n_int (a_cons (w_eq (w_item (w_var 1 (by rfl) (by first | exact Or.inl rfl | exact Or.inr (Or.inl rfl) | exact Or.inr (Or.inr rfl))) w_int) (w_neg w_int)) a_nil))))) s_nil) (s_cons (s_set 2 nd (by rfl) (by first | exact Or.inl rfl | exact Or.inr rfl) (.inl rfl) (w_call D__law_compare (hr.mono (by first | decide | omega)) (by rfl) (a_cons (w_var 0 (by rfl) (by first | exact Or.inl rfl | exact Or.inr (Or.inl rfl) | exact Or.inr (Or.inr rfl))) (a_cons (w_var 1 (by rfl) (by first | exact Or.inl rfl | exact Or.inr (Or.inl rfl) | exact Or.inr (Or.inr rfl))) a_nil)))) (s_cons (s_if ((q_and (q_eq (w_var 2 (by rfl) (by first | exact Or.inl rfl | exact Or.inr (Or.inl rfl) | exact Or.inr (Or.inr rfl))) w_int) (q_and (q_eq (w_item (w_var 0 (by rfl) (by first | exact Or.inl rfl | exact Or.inr (Or.inl rfl) | exact Or.inr (Or.inr rfl))) w_int) w_int) (q_and1 (q_eq (w_item (w_var 1 (by rfl) (by first | exact Or.inl rfl | exact Or.inr (Or.inl rfl) | exact Or.inr (Or.inr rfl))) w_int) w_int))))).q (s_one (s_ret (w_sub (w_item (w_var 1 (by rfl) (by first | exact Or.inl rfl | exact Or.inr (Or.inl rfl) | exact Or.inr (Or.inr rfl))) w_int) (w_item (w_var 0 (by rfl) (by first | exact Or.inl rfl | exact Or.inr (Or.inl rfl) | exact Or.inr (Or.inr rfl))) w_int)))) s_nil) (s_one (s_ret (w_var 2 (by rfl) (by first | exact Or.inl rfl | exact Or.inr (Or.inl rfl) | exact Or.inr (Or.inr rfl)))))))))
theorem sc__law_loose : FnScope ["store", "most", "reach", "sign", "m"] ["store", "most", "reach"] (defScope s__law_loose) := ⟨rfl, rfl, rfl, by decide +kernel, rfl, by decide +kernel, by decide +kernel⟩
theorem dw__law_loose {P : Program} {w : World} {mg : Str → Option Value} {base : Heap} {T : Tb} {G : Gm} (Fx : Fx P w mg base T G) {fa : Addr} {fd : FuncData} (F : Fun G.K "_law_loose" "_law_loose" s__law_loose fa fd) (hm : mg "_law_loose" = some (.ref fa)) (D__law_take : DefW P w G.K mg base T "_law_take" 37 2 (sp__law_take G)) (D__law_edge : DefW P w G.K mg base T "_law_edge" 38 3 (sp__law_edge G)) (D__law_scaled : DefW P w G.K mg base T "_law_scaled" 38 2 (sp__law_scaled G)) : DefW P w G.K mg base T "_law_loose" 39 3 (sp__law_loose G) := by
  have nd : (["store", "most", "reach", "sign", "m"] : List Str).Nodup := sc__law_loose.nd
  refine ⟨fa, fd, ["store", "most", "reach"], hm, F.kp, F.binds (fun _ _ _ _ _ _ us hl => match us, hl with | [_, _, _], _ => rfl), ?_, rfl⟩
  exact fnW_of (N := ["store", "most", "reach", "sign", "m"]) (ps := ["store", "most", "reach"]) (k := 38) (t := t__law_loose G) F sc__law_loose (fun L cdv A outer s H E hr => (s_cons (s_set 3 nd (by rfl) (by first | exact Or.inl rfl | exact Or.inr rfl) (.inl rfl) (w_call D__law_take (hr.mono (by first | decide | omega)) (by rfl) (a_cons (w_var 0 (by rfl) (by first | exact Or.inl rfl | exact Or.inr (Or.inl rfl) | exact Or.inr (Or.inr rfl))) (a_cons w_int a_nil)))) (s_cons (s_set 4 nd (by rfl) (by first | exact Or.inl rfl | exact Or.inr rfl) (.inl rfl) (w_add (w_mul w_int (w_call D__law_scaled (hr.mono (by first | decide | omega)) (by rfl) (a_cons (w_var 0 (by rfl) (by first | exact Or.inl rfl | exact Or.inr (Or.inl rfl) | exact Or.inr (Or.inr rfl))) (a_cons (w_sub (w_var 1 (by rfl) (by first | exact Or.inl rfl | exact Or.inr (Or.inl rfl) | exact Or.inr (Or.inr rfl))) w_int) a_nil)))) w_int)) (s_one (s_ret (w_tup (a_cons (w_var 3 (by rfl) (by first | exact Or.inl rfl | exact Or.inr (Or.inl rfl) | exact Or.inr (Or.inr rfl))) (a_cons (w_var 4 (by rfl) (by first | exact Or.inl rfl | exact Or.inr (Or.inl rfl) | exact Or.inr (Or.inr rfl))) (a_cons (w_call D__law_edge (hr.mono (by first | decide | omega)) (by rfl) (a_cons (w_var 0 (by rfl) (by first | exact Or.inl rfl | exact Or.inr (Or.inl rfl) | exact Or.inr (Or.inr rfl))) (a_cons (w_sub w_int (w_var 2 (by rfl) (by first | exact Or.inl rfl | exact Or.inr (Or.inl rfl) | exact Or.inr (Or.inr rfl)))) (a_cons (w_var 2 (by rfl) (by first | exact Or.inl rfl | exact Or.inr (Or.inl rfl) | exact Or.inr (Or.inr rfl))) a_nil)))) a_nil)))))))))
theorem sc__law_number : FnScope ["store", "kind"] ["store"] (defScope s__law_number) := ⟨rfl, rfl, rfl, by decide +kernel, rfl, by decide +kernel, by decide +kernel⟩
theorem dw__law_number {P : Program} {w : World} {mg : Str → Option Value} {base : Heap} {T : Tb} {G : Gm} (Fx : Fx P w mg base T G) {fa : Addr} {fd : FuncData} (F : Fun G.K "_law_number" "_law_number" s__law_number fa fd) (hm : mg "_law_number" = some (.ref fa)) (D__law_take : DefW P w G.K mg base T "_law_take" 37 2 (sp__law_take G)) (D__law_loose : DefW P w G.K mg base T "_law_loose" 39 3 (sp__law_loose G)) : DefW P w G.K mg base T "_law_number" 40 1 (sp__law_number G) := by
  have nd : (["store", "kind"] : List Str).Nodup := sc__law_number.nd
  refine ⟨fa, fd, ["store"], hm, F.kp, F.binds (fun _ _ _ _ _ _ us hl => match us, hl with | [_], _ => rfl), ?_, rfl⟩
  exact fnW_of (N := ["store", "kind"]) (ps := ["store"]) (k := 39) (t := t__law_number G) F sc__law_number (fun L cdv A outer s H E hr => (s_cons (s_set 1 nd (by rfl) (by first | exact Or.inl rfl | exact Or.inr rfl) (.inl rfl) (w_call D__law_take (hr.mono (by first | decide | omega)) (by rfl) (a_cons (w_var 0 (by rfl) (by first | exact Or.inl rfl | exact Or.inr (Or.inl rfl) | exact Or.inr (Or.inr rfl))) (a_cons w_int a_nil)))) (s_cons (s_if (q_eq (w_var 1 (by rfl) (by first | exact Or.inl rfl | exact Or.inr (Or.inl rfl) | exact Or.inr (Or.inr rfl))) w_int) (s_one (s_ret (w_tup (a_cons w_int (a_cons (w_neg w_int) (a_cons w_int a_nil)))))) s_nil) (s_cons (s_if (q_eq (w_var 1 (by rfl) (by first | exact Or.inl rfl | exact Or.inr (Or.inl rfl) | exact Or.inr (Or.inr rfl))) w_int) (s_one (s_ret (w_tup (a_cons (w_call D__law_take (hr.mono (by first | decide | omega)) (by rfl) (a_cons (w_var 0 (by rfl) (by first | exact Or.inl rfl | exact Or.inr (Or.inl rfl) | exact Or.inr (Or.inr rfl))) (a_cons w_int a_nil))) (a_cons (w_neg w_int) (a_cons w_int a_nil)))))) s_nil) (s_cons (s_if (q_lt (w_var 1 (by rfl) (by first | exact Or.inl rfl | exact Or.inr (Or.inl rfl) | exact Or.inr (Or.inr rfl))) w_int) (s_one (s_ret (w_tup (a_cons (w_call D__law_take (hr.mono (by first | decide | omega)) (by rfl) (a_cons (w_var 0 (by rfl) (by first | exact Or.inl rfl | exact Or.inr (Or.inl rfl) | exact Or.inr (Or.inr rfl))) (a_cons w_int a_nil))) (a_cons w_int (a_cons w_int a_nil)))))) s_nil) (s_cons (s_if (q_lt (w_var 1 (by rfl) (by first | exact Or.inl rfl | exact Or.inr (Or.inl rfl) | exact Or.inr (Or.inr rfl))) w_int) (s_one (s_ret (w_call D__law_loose (hr.mono (by first | decide | omega)) (by rfl) (a_cons (w_var 0 (by rfl) (by first | exact Or.inl rfl | exact Or.inr (Or.inl rfl) | exact Or.inr (Or.inr rfl))) (a_cons w_int (a_cons w_int a_nil)))))) s_nil) (s_cons (s_if (q_lt (w_var 1 (by rfl) (by first | exact Or.inl rfl | exact Or.inr (Or.inl rfl) | exact Or.inr (Or.inr rfl))) w_int) (s_one (s_ret (w_call D__law_loose (hr.mono (by first | decide | omega)) (by rfl) (a_cons (w_var 0 (by rfl) (by first | exact Or.inl rfl | exact Or.inr (Or.inl rfl) | exact Or.inr (Or.inr rfl))) (a_cons w_int (a_cons w_int a_nil)))))) s_nil) (s_one (s_ret (w_call D__law_loose (hr.mono (by first | decide | omega)) (by rfl) (a_cons (w_var 0 (by rfl) (by first | exact Or.inl rfl | exact Or.inr (Or.inl rfl) | exact Or.inr (Or.inr rfl))) (a_cons w_int (a_cons w_int a_nil)))))))))))))
theorem sc__law_bad_number : FnScope ["store", "held", "row"] ["store", "held"] (defScope s__law_bad_number) := ⟨rfl, rfl, rfl, by decide +kernel, rfl, by decide +kernel, by decide +kernel⟩
theorem dw__law_bad_number {P : Program} {w : World} {mg : Str → Option Value} {base : Heap} {T : Tb} {G : Gm} (Fx : Fx P w mg base T G) {fa : Addr} {fd : FuncData} (F : Fun G.K "_law_bad_number" "_law_bad_number" s__law_bad_number fa fd) (hm : mg "_law_bad_number" = some (.ref fa)) (D__law_take : DefW P w G.K mg base T "_law_take" 37 2 (sp__law_take G)) (D__law_no_integer : DefW P w G.K mg base T "_law_no_integer" 38 1 (sp__law_no_integer G)) : DefW P w G.K mg base T "_law_bad_number" 39 2 (sp__law_bad_number G) := by
  have nd : (["store", "held", "row"] : List Str).Nodup := sc__law_bad_number.nd
  refine ⟨fa, fd, ["store", "held"], hm, F.kp, F.binds (fun _ _ _ _ _ _ us hl => match us, hl with | [_, _], _ => rfl), ?_, rfl⟩
  exact fnW_of (N := ["store", "held", "row"]) (ps := ["store", "held"]) (k := 38) (t := t__law_bad_number G) F sc__law_bad_number (fun L cdv A outer s H E hr => (s_cons (s_set 2 nd (by rfl) (by first | exact Or.inl rfl | exact Or.inr rfl) (.inl rfl) (w_lst (a_cons (w_lst (a_cons (w_item (w_var 1 (by rfl) (by first | exact Or.inl rfl | exact Or.inr (Or.inl rfl) | exact Or.inr (Or.inr rfl))) w_int) (a_cons (w_item (w_var 1 (by rfl) (by first | exact Or.inl rfl | exact Or.inr (Or.inl rfl) | exact Or.inr (Or.inr rfl))) w_int) (a_cons (w_item (w_var 1 (by rfl) (by first | exact Or.inl rfl | exact Or.inr (Or.inl rfl) | exact Or.inr (Or.inr rfl))) w_int) a_nil)))) (a_cons (w_tup (a_cons (w_item (w_var 1 (by rfl) (by first | exact Or.inl rfl | exact Or.inr (Or.inl rfl) | exact Or.inr (Or.inr rfl))) w_int) (a_cons (w_item (w_var 1 (by rfl) (by first | exact Or.inl rfl | exact Or.inr (Or.inl rfl) | exact Or.inr (Or.inr rfl))) w_int) a_nil))) (a_cons (w_tup (a_cons (w_item (w_var 1 (by rfl) (by first | exact Or.inl rfl | exact Or.inr (Or.inl rfl) | exact Or.inr (Or.inr rfl))) w_int) (a_cons (w_item (w_var 1 (by rfl) (by first | exact Or.inl rfl | exact Or.inr (Or.inl rfl) | exact Or.inr (Or.inr rfl))) w_int) (a_cons (w_item (w_var 1 (by rfl) (by first | exact Or.inl rfl | exact Or.inr (Or.inl rfl) | exact Or.inr (Or.inr rfl))) w_int) (a_cons w_int a_nil))))) (a_cons (w_tup (a_cons w_int (a_cons (w_item (w_var 1 (by rfl) (by first | exact Or.inl rfl | exact Or.inr (Or.inl rfl) | exact Or.inr (Or.inr rfl))) w_int) (a_cons (w_item (w_var 1 (by rfl) (by first | exact Or.inl rfl | exact Or.inr (Or.inl rfl) | exact Or.inr (Or.inr rfl))) w_int) a_nil)))) a_nil)))))) (s_cons (s_expr (w_extend (w_var 2 (by rfl) (by first | exact Or.inl rfl | exact Or.inr (Or.inl rfl) | exact Or.inr (Or.inr rfl))) (a_cons (w_lst (a_cons (w_tup (a_cons (w_neg w_int) (a_cons (w_item (w_var 1 (by rfl) (by first | exact Or.inl rfl | exact Or.inr (Or.inl rfl) | exact Or.inr (Or.inr rfl))) w_int) (a_cons (w_item (w_var 1 (by rfl) (by first | exact Or.inl rfl | exact Or.inr (Or.inl rfl) | exact Or.inr (Or.inr rfl))) w_int) a_nil)))) (a_cons (w_tup (a_cons w_int (a_cons w_int (a_cons w_int a_nil)))) (a_cons (w_tup (a_cons w_int (a_cons w_int (a_cons (w_neg w_int) a_nil)))) (a_cons (w_tup (a_cons w_int (a_cons (w_neg w_int) (a_cons w_int a_nil)))) (a_cons (w_tup (a_cons w_int (a_cons (w_neg w_int) (a_cons w_int a_nil)))) (a_cons (w_tup (a_cons w_int (a_cons (w_neg w_int) (a_cons w_int a_nil)))) (a_cons (w_tup (a_cons w_int (a_cons w_int (a_cons w_int a_nil)))) a_nil)))))))) a_nil))) (s_cons (s_expr (w_extend (w_var 2 (by rfl) (by first | exact Or.inl rfl | exact Or.inr (Or.inl rfl) | exact Or.inr (Or.inr rfl))) (a_cons (w_lst (a_cons (w_tup (a_cons w_int (a_cons w_int (a_cons (w_neg w_int) a_nil)))) (a_cons (w_tup (a_cons w_int (a_cons (w_add (w_shl w_int w_int) w_int) (a_cons w_int a_nil)))) (a_cons (w_tup (a_cons w_int (a_cons w_int (a_cons w_int a_nil)))) (a_cons (w_tup (a_cons w_int (a_cons w_int (a_cons (w_neg w_int) a_nil)))) (a_cons (w_tup (a_cons w_int (a_cons (w_neg w_int) (a_cons w_int a_nil)))) (a_cons w_non (a_cons w_str (a_cons w_int (a_cons w_int a_nil)))))))))) a_nil))) (s_cons (s_expr (w_append (w_var 2 (by rfl) (by first | exact Or.inl rfl | exact Or.inr (Or.inl rfl) | exact Or.inr (Or.inr rfl))) (a_cons (w_tup (a_cons (w_call D__law_no_integer (hr.mono (by first | decide | omega)) (by rfl) (a_cons (w_var 0 (by rfl) (by first | exact Or.inl rfl | exact Or.inr (Or.inl rfl) | exact Or.inr (Or.inr rfl))) a_nil)) (a_cons (w_item (w_var 1 (by rfl) (by first | exact Or.inl rfl | exact Or.inr (Or.inl rfl) | exact Or.inr (Or.inr rfl))) w_int) (a_cons (w_item (w_var 1 (by rfl) (by first | exact Or.inl rfl | exact Or.inr (Or.inl rfl) | exact Or.inr (Or.inr rfl))) w_int) a_nil)))) a_nil))) (s_cons (s_expr (w_append (w_var 2 (by rfl) (by first | exact Or.inl rfl | exact Or.inr (Or.inl rfl) | exact Or.inr (Or.inr rfl))) (a_cons (w_tup (a_cons (w_item (w_var 1 (by rfl) (by first | exact Or.inl rfl | exact Or.inr (Or.inl rfl) | exact Or.inr (Or.inr rfl))) w_int) (a_cons (w_call D__law_no_integer (hr.mono (by first | decide | omega)) (by rfl) (a_cons (w_var 0 (by rfl) (by first | exact Or.inl rfl | exact Or.inr (Or.inl rfl) | exact Or.inr (Or.inr rfl))) a_nil)) (a_cons (w_item (w_var 1 (by rfl) (by first | exact Or.inl rfl | exact Or.inr (Or.inl rfl) | exact Or.inr (Or.inr rfl))) w_int) a_nil)))) a_nil))) (s_cons (s_expr (w_append (w_var 2 (by rfl) (by first | exact Or.inl rfl | exact Or.inr (Or.inl rfl) | exact Or.inr (Or.inr rfl))) (a_cons (w_tup (a_cons (w_item (w_var 1 (by rfl) (by first | exact Or.inl rfl | exact Or.inr (Or.inl rfl) | exact Or.inr (Or.inr rfl))) w_int) (a_cons (w_item (w_var 1 (by rfl) (by first | exact Or.inl rfl | exact Or.inr (Or.inl rfl) | exact Or.inr (Or.inr rfl))) w_int) (a_cons (w_call D__law_no_integer (hr.mono (by first | decide | omega)) (by rfl) (a_cons (w_var 0 (by rfl) (by first | exact Or.inl rfl | exact Or.inr (Or.inl rfl) | exact Or.inr (Or.inr rfl))) a_nil)) a_nil)))) a_nil))) (s_cons (s_expr (w_extend (w_var 2 (by rfl) (by first | exact Or.inl rfl | exact Or.inr (Or.inl rfl) | exact Or.inr (Or.inr rfl))) (a_cons (w_lst (a_cons (w_tup a_nil) (a_cons (w_tup (a_cons (w_var 1 (by rfl) (by first | exact Or.inl rfl | exact Or.inr (Or.inl rfl) | exact Or.inr (Or.inr rfl))) a_nil)) (a_cons w_bl (a_cons (w_tup (a_cons w_int (a_cons (w_shl w_int w_int) (a_cons w_int a_nil)))) a_nil))))) a_nil))) (s_one (s_ret (w_item (w_var 2 (by rfl) (by first | exact Or.inl rfl | exact Or.inr (Or.inl rfl) | exact Or.inr (Or.inr rfl))) (w_call D__law_take (hr.mono (by first | decide | omega)) (by rfl) (a_cons (w_var 0 (by rfl) (by first | exact Or.inl rfl | exact Or.inr (Or.inl rfl) | exact Or.inr (Or.inr rfl))) (a_cons (w_len (by rfl) Fx.n_len (a_cons (w_var 2 (by rfl) (by first | exact Or.inl rfl | exact Or.inr (Or.inl rfl) | exact Or.inr (Or.inr rfl))) a_nil)) a_nil))))))))))))))
theorem sc__law_gives : FnScope ["action", "due"] ["action", "due"] (defScope s__law_gives) := ⟨rfl, rfl, rfl, by decide +kernel, rfl, by decide +kernel, by decide +kernel⟩
theorem dw__law_gives {P : Program} {w : World} {mg : Str → Option Value} {base : Heap} {T : Tb} {G : Gm} (Fx : Fx P w mg base T G) {fa : Addr} {fd : FuncData} (F : Fun G.K "_law_gives" "_law_gives" s__law_gives fa fd) (hm : mg "_law_gives" = some (.ref fa)) (D__law_same : DefW P w G.K mg base T "_law_same" 7 2 (sp__law_same G 6)) (D__law_caught : DefW P w G.K mg base T "_law_caught" 101 1 (sp__law_caught G)) : DefW P w G.K mg base T "_law_gives" 102 2 (sp__law_gives G) := by
  have nd : (["action", "due"] : List Str).Nodup := sc__law_gives.nd
  refine ⟨fa, fd, ["action", "due"], hm, F.kp, F.binds (fun _ _ _ _ _ _ us hl => match us, hl with | [_, _], _ => rfl), ?_, rfl⟩
  exact fnW_of (N := ["action", "due"]) (ps := ["action", "due"]) (k := 101) (t := t__law_gives G) F sc__law_gives (fun L cdv A outer s H E hr => (s_one (s_ret (w_call D__law_same (hr.mono (by first | decide | omega)) (by rfl) (a_cons (w_call D__law_caught (hr.mono (by first | decide | omega)) (by rfl) (a_cons (w_var 0 (by rfl) (by first | exact Or.inl rfl | exact Or.inr (Or.inl rfl) | exact Or.inr (Or.inr rfl))) a_nil)) (a_cons (w_tup (a_cons w_str (a_cons (w_var 1 (by rfl) (by first | exact Or.inl rfl | exact Or.inr (Or.inl rfl) | exact Or.inr (Or.inr rfl))) a_nil))) a_nil))))))
theorem sc__law_refuses : FnScope ["action"] ["action"] (defScope s__law_refuses) := ⟨rfl, rfl, rfl, by decide +kernel, rfl, by decide +kernel, by decide +kernel⟩
theorem dw__law_refuses {P : Program} {w : World} {mg : Str → Option Value} {base : Heap} {T : Tb} {G : Gm} (Fx : Fx P w mg base T G) {fa : Addr} {fd : FuncData} (F : Fun G.K "_law_refuses" "_law_refuses" s__law_refuses fa fd) (hm : mg "_law_refuses" = some (.ref fa)) (D__law_same : DefW P w G.K mg base T "_law_same" 7 2 (sp__law_same G 6)) (D__law_caught : DefW P w G.K mg base T "_law_caught" 101 1 (sp__law_caught G)) : DefW P w G.K mg base T "_law_refuses" 102 1 (sp__law_refuses G) := by
  have nd : (["action"] : List Str).Nodup := sc__law_refuses.nd
  refine ⟨fa, fd, ["action"], hm, F.kp, F.binds (fun _ _ _ _ _ _ us hl => match us, hl with | [_], _ => rfl), ?_, rfl⟩
  exact fnW_of (N := ["action"]) (ps := ["action"]) (k := 101) (t := t__law_refuses G) F sc__law_refuses (fun L cdv A outer s H E hr => (s_one (s_ret (w_call D__law_same (hr.mono (by first | decide | omega)) (by rfl) (a_cons (w_call D__law_caught (hr.mono (by first | decide | omega)) (by rfl) (a_cons (w_var 0 (by rfl) (by first | exact Or.inl rfl | exact Or.inr (Or.inl rfl) | exact Or.inr (Or.inr rfl))) a_nil)) (a_cons (w_tup (a_cons w_str (a_cons (w_tup (a_cons w_str a_nil)) (a_cons w_non a_nil)))) a_nil))))))
theorem sc__law_turned : FnScope ["held"] ["held"] (defScope s__law_turned) := ⟨rfl, rfl, rfl, by decide +kernel, rfl, by decide +kernel, by decide +kernel⟩
theorem dw__law_turned {P : Program} {w : World} {mg : Str → Option Value} {base : Heap} {T : Tb} {G : Gm} (Fx : Fx P w mg base T G) {fa : Addr} {fd : FuncData} (F : Fun G.K "_law_turned" "_law_turned" s__law_turned fa fd) (hm : mg "_law_turned" = some (.ref fa)) : DefW P w G.K mg base T "_law_turned" 1 1 (sp__law_turned G) := by
  have nd : (["held"] : List Str).Nodup := sc__law_turned.nd
  refine ⟨fa, fd, ["held"], hm, F.kp, F.binds (fun _ _ _ _ _ _ us hl => match us, hl with | [_], _ => rfl), ?_, rfl⟩
  exact fnW_of (N := ["held"]) (ps := ["held"]) (k := 0) (t := t__law_turned G) F sc__law_turned (fun L cdv A outer s H E hr => (s_one (s_ret (w_tup (a_cons (w_sub (w_sub w_int (w_item (w_var 0 (by rfl) (by first | exact Or.inl rfl | exact Or.inr (Or.inl rfl) | exact Or.inr (Or.inr rfl))) w_int)) (w_intC (by rfl) Fx.n_int (a_cons (w_eq (w_item (w_var 0 (by rfl) (by first | exact Or.inl rfl | exact Or.inr (Or.inl rfl) | exact Or.inr (Or.inr rfl))) w_int) (w_neg w_int)) a_nil))) (a_cons (w_item (w_var 0 (by rfl) (by first | exact Or.inl rfl | exact Or.inr (Or.inl rfl) | exact Or.inr (Or.inr rfl))) w_int) (a_cons (w_item (w_var 0 (by rfl) (by first | exact Or.inl rfl | exact Or.inr (Or.inl rfl) | exact Or.inr (Or.inr rfl))) w_int) a_nil)))))))
theorem sc__law_bounded : FnScope ["held"] ["held"] (defScope s__law_bounded) := ⟨rfl, rfl, rfl, by decide +kernel, rfl, by decide +kernel, by decide +kernel⟩
theorem dw__law_bounded {P : Program} {w : World} {mg : Str → Option Value} {base : Heap} {T : Tb} {G : Gm} (Fx : Fx P w mg base T G) {fa : Addr} {fd : FuncData} (F : Fun G.K "_law_bounded" "_law_bounded" s__law_bounded fa fd) (hm : mg "_law_bounded" = some (.ref fa)) : DefW P w G.K mg base T "_law_bounded" 1 1 (sp__law_bounded G) := by
  have nd : (["held"] : List Str).Nodup := sc__law_bounded.nd
  refine ⟨fa, fd, ["held"], hm, F.kp, F.binds (fun _ _ _ _ _ _ us hl => match us, hl with | [_], _ => rfl), ?_, rfl⟩
  exact fnW_of (N := ["held"]) (ps := ["held"]) (k := 0) (t := t__law_bounded G) F sc__law_bounded (fun L cdv A outer s H E hr => (s_cons (s_if ((q_or (q_gt (w_shr (w_item (w_var 0 (by rfl) (by first | exact Or.inl rfl | exact Or.inr (Or.inl rfl) | exact Or.inr (Or.inr rfl))) w_int) w_int) w_int) (q_or1 (q_gt (w_abs (by rfl) Fx.n_abs (a_cons (w_item (w_var 0 (by rfl) (by first | exact Or.inl rfl | exact Or.inr (Or.inl rfl) | exact Or.inr (Or.inr rfl))) w_int) a_nil)) w_int)))).q (s_one (s_ret (w_tup (a_cons (w_item (w_var 0 (by rfl) (by first | exact Or.inl rfl | exact Or.inr (Or.inl rfl) | exact Or.inr (Or.inr rfl))) w_int) (a_cons w_int (a_cons w_int a_nil)))))) s_nil) (s_one (s_ret (w_var 0 (by rfl) (by first | exact Or.inl rfl | exact Or.inr (Or.inl rfl) | exact Or.inr (Or.inr rfl)))))))
theorem sc__law_neighbour : FnScope ["store", "held", "kind", "more", "sign", "m", "power"] ["store", "held"] (defScope s__law_neighbour) := ⟨rfl, rfl, rfl, by decide +kernel, rfl, by decide +kernel, by decide +kernel⟩
theorem dw__law_neighbour {P : Program} {w : World} {mg : Str → Option Value} {base : Heap} {T : Tb} {G : Gm} (Fx : Fx P w mg base T G) {fa : Addr} {fd : FuncData} (F : Fun G.K "_law_neighbour" "_law_neighbour" s__law_neighbour fa fd) (hm : mg "_law_neighbour" = some (.ref fa)) (D__law_take : DefW P w G.K mg base T "_law_take" 37 2 (sp__law_take G)) (D__law_edge : DefW P w G.K mg base T "_law_edge" 38 3 (sp__law_edge G)) (D__law_bounded : DefW P w G.K mg base T "_law_bounded" 1 1 (sp__law_bounded G)) : DefW P w G.K mg base T "_law_neighbour" 39 2 (sp__law_neighbour G) := by
  have nd : (["store", "held", "kind", "more", "sign", "m", "power"] : List Str).Nodup := sc__law_neighbour.nd
  refine ⟨fa, fd, ["store", "held"], hm, F.kp, F.binds (fun _ _ _ _ _ _ us hl => match us, hl with | [_, _], _ => rfl), ?_, rfl⟩
  exact fnW_of (N := ["store", "held", "kind", "more", "sign", "m", "power"]) (ps := ["store", "held"]) (k := 38) (t := t__law_neighbour G) F sc__law_neighbour (fun L cdv A outer s H E hr => (s_cons (s_asg (w_var 1 (by rfl) (by first | exact Or.inl rfl | exact Or.inr (Or.inl rfl) | exact Or.inr (Or.inr rfl))) (g_tup (by rfl) (gs_cons (g_name 4 nd (by rfl) (by first | exact Or.inl rfl | exact Or.inr rfl) (.inl rfl)) (gs_cons (g_name 5 nd (by rfl) (by first | exact Or.inl rfl | exact Or.inr rfl) (.inl rfl)) (gs_cons (g_name 6 nd (by rfl) (by first | exact Or.inl rfl | exact Or.inr rfl) (.inl rfl)) gs_nil))))) (s_cons (s_set 2 nd (by rfl) (by first | exact Or.inl rfl | exact Or.inr rfl) (.inl rfl) (w_call D__law_take (hr.mono (by first | decide | omega)) (by rfl) (a_cons (w_var 0 (by rfl) (by first | exact Or.inl rfl | exact Or.inr (Or.inl rfl) | exact Or.inr (Or.inr rfl))) (a_cons w_int a_nil)))) (s_cons (s_set 3 nd (by rfl) (by first | exact Or.inl rfl | exact Or.inr rfl) (.inl rfl) (w_call D__law_edge (hr.mono (by first | decide | omega)) (by rfl) (a_cons (w_var 0 (by rfl) (by first | exact Or.inl rfl | exact Or.inr (Or.inl rfl) | exact Or.inr (Or.inr rfl))) (a_cons w_int (a_cons w_int a_nil))))) (s_cons (s_if (q_eq (w_var 2 (by rfl) (by first | exact Or.inl rfl | exact Or.inr (Or.inl rfl) | exact Or.inr (Or.inr rfl))) w_int) (s_one (s_ret (w_call D__law_bounded (hr.mono (by first | decide | omega)) (by rfl) (a_cons (w_tup (a_cons (w_var 4 (by rfl) (by first | exact Or.inl rfl | exact Or.inr (Or.inl rfl) | exact Or.inr (Or.inr rfl))) (a_cons (w_add (w_var 5 (by rfl) (by first | exact Or.inl rfl | exact Or.inr (Or.inl rfl) | exact Or.inr (Or.inr rfl))) w_int) (a_cons (w_var 6 (by rfl) (by first | exact Or.inl rfl | exact Or.inr (Or.inl rfl) | exact Or.inr (Or.inr rfl))) a_nil)))) a_nil)))) s_nil) (s_cons (s_if (q_eq (w_var 2 (by rfl) (by first | exact Or.inl rfl | exact Or.inr (Or.inl rfl) | exact Or.inr (Or.inr rfl))) w_int) (s_one (s_ret (w_call D__law_bounded (hr.mono (by first | decide | omega)) (by rfl) (a_cons (w_tup (a_cons (w_var 4 (by rfl) (by first | exact Or.inl rfl | exact Or.inr (Or.inl rfl) | exact Or.inr (Or.inr rfl))) (a_cons (w_var 5 (by rfl) (by first | exact Or.inl rfl | exact Or.inr (Or.inl rfl) | exact Or.inr (Or.inr rfl))) (a_cons (w_sub (w_add (w_var 6 (by rfl) (by first | exact Or.inl rfl | exact Or.inr (Or.inl rfl) | exact Or.inr (Or.inr rfl))) w_int) (w_mul w_int (w_call D__law_take (hr.mono (by first | decide | omega)) (by rfl) (a_cons (w_var 0 (by rfl) (by first | exact Or.inl rfl | exact Or.inr (Or.inl rfl) | exact Or.inr (Or.inr rfl))) (a_cons w_int a_nil))))) a_nil)))) a_nil)))) s_nil) (s_cons (s_if (q_eq (w_var 2 (by rfl) (by first | exact Or.inl rfl | exact Or.inr (Or.inl rfl) | exact Or.inr (Or.inr rfl))) w_int) (s_one (s_ret (w_tup (a_cons (w_sub w_int (w_var 4 (by rfl) (by first | exact Or.inl rfl | exact Or.inr (Or.inl rfl) | exact Or.inr (Or.inr rfl)))) (a_cons (w_var 5 (by rfl) (by first | exact Or.inl rfl | exact Or.inr (Or.inl rfl) | exact Or.inr (Or.inr rfl))) (a_cons (w_var 6 (by rfl) (by first | exact Or.inl rfl | exact Or.inr (Or.inl rfl) | exact Or.inr (Or.inr rfl))) a_nil)))))) s_nil) (s_cons (s_if (q_eq (w_var 2 (by rfl) (by first | exact Or.inl rfl | exact Or.inr (Or.inl rfl) | exact Or.inr (Or.inr rfl))) w_int) (s_one (s_ret (w_call D__law_bounded (hr.mono (by first | decide | omega)) (by rfl) (a_cons (w_tup (a_cons (w_var 4 (by rfl) (by first | exact Or.inl rfl | exact Or.inr (Or.inl rfl) | exact Or.inr (Or.inr rfl))) (a_cons (w_add (w_shl (w_var 5 (by rfl) (by first | exact Or.inl rfl | exact Or.inr (Or.inl rfl) | exact Or.inr (Or.inr rfl))) (w_var 3 (by rfl) (by first | exact Or.inl rfl | exact Or.inr (Or.inl rfl) | exact Or.inr (Or.inr rfl)))) w_int) (a_cons (w_sub (w_var 6 (by rfl) (by first | exact Or.inl rfl | exact Or.inr (Or.inl rfl) | exact Or.inr (Or.inr rfl))) (w_var 3 (by rfl) (by first | exact Or.inl rfl | exact Or.inr (Or.inl rfl) | exact Or.inr (Or.inr rfl)))) a_nil)))) a_nil)))) s_nil) (s_cons (s_if (q_eq (w_var 2 (by rfl) (by first | exact Or.inl rfl | exact Or.inr (Or.inl rfl) | exact Or.inr (Or.inr rfl))) w_int) (s_one (s_ret (w_call D__law_bounded (hr.mono (by first | decide | omega)) (by rfl) (a_cons (w_tup (a_cons (w_var 4 (by rfl) (by first | exact Or.inl rfl | exact Or.inr (Or.inl rfl) | exact Or.inr (Or.inr rfl))) (a_cons (w_sub (w_shl (w_var 5 (by rfl) (by first | exact Or.inl rfl | exact Or.inr (Or.inl rfl) | exact Or.inr (Or.inr rfl))) (w_var 3 (by rfl) (by first | exact Or.inl rfl | exact Or.inr (Or.inl rfl) | exact Or.inr (Or.inr rfl)))) w_int) (a_cons (w_sub (w_var 6 (by rfl) (by first | exact Or.inl rfl | exact Or.inr (Or.inl rfl) | exact Or.inr (Or.inr rfl))) (w_var 3 (by rfl) (by first | exact Or.inl rfl | exact Or.inr (Or.inl rfl) | exact Or.inr (Or.inr rfl)))) a_nil)))) a_nil)))) s_nil) (s_one (s_ret (w_call D__law_bounded (hr.mono (by first | decide | omega)) (by rfl) (a_cons (w_tup (a_cons (w_var 4 (by rfl) (by first | exact Or.inl rfl | exact Or.inr (Or.inl rfl) | exact Or.inr (Or.inr rfl))) (a_cons w_int (a_cons (w_sub (w_add (w_var 6 (by rfl) (by first | exact Or.inl rfl | exact Or.inr (Or.inl rfl) | exact Or.inr (Or.inr rfl))) (w_bits (w_var 5 (by rfl) (by first | exact Or.inl rfl | exact Or.inr (Or.inl rfl) | exact Or.inr (Or.inr rfl))))) (w_call D__law_take (hr.mono (by first | decide | omega)) (by rfl) (a_cons (w_var 0 (by rfl) (by first | exact Or.inl rfl | exact Or.inr (Or.inl rfl) | exact Or.inr (Or.inr rfl))) (a_cons w_int a_nil)))) a_nil)))) a_nil)))))))))))))
theorem sc__law_row : FnScope ["store", "first", "row", "step"] ["store"] (defScope s__law_row) := ⟨rfl, rfl, rfl, by decide +kernel, rfl, by decide +kernel, by decide +kernel⟩
theorem dw__law_row {P : Program} {w : World} {mg : Str → Option Value} {base : Heap} {T : Tb} {G : Gm} (Fx : Fx P w mg base T G) {fa : Addr} {fd : FuncData} (F : Fun G.K "_law_row" "_law_row" s__law_row fa fd) (hm : mg "_law_row" = some (.ref fa)) (D__law_take : DefW P w G.K mg base T "_law_take" 37 2 (sp__law_take G)) (D__law_shuffled : DefW P w G.K mg base T "_law_shuffled" 38 2 (sp__law_shuffled G)) (D__law_loose : DefW P w G.K mg base T "_law_loose" 39 3 (sp__law_loose G)) (D__law_number : DefW P w G.K mg base T "_law_number" 40 1 (sp__law_number G)) (D__law_neighbour : DefW P w G.K mg base T "_law_neighbour" 39 2 (sp__law_neighbour G)) : DefW P w G.K mg base T "_law_row" 41 1 (sp__law_row G) := by
  have nd : (["store", "first", "row", "step"] : List Str).Nodup := sc__law_row.nd
  refine ⟨fa, fd, ["store"], hm, F.kp, F.binds (fun _ _ _ _ _ _ us hl => match us, hl with | [_], _ => rfl), ?_, rfl⟩
  exact fnW_of (N := ["store", "first", "row", "step"]) (ps := ["store"]) (k := 40) (t := t__law_row G) F sc__law_row (fun L cdv A outer s H E hr => (s_cons (s_set 1 nd (by rfl) (by first | exact Or.inl rfl | exact Or.inr rfl) (.inl rfl) (w_call D__law_loose (hr.mono (by first | decide | omega)) (by rfl) (a_cons (w_var 0 (by rfl) (by first | exact Or.inl rfl | exact Or.inr (Or.inl rfl) | exact Or.inr (Or.inr rfl))) (a_cons (w_item (w_lst (a_cons w_int (a_cons w_int (a_cons w_int a_nil)))) (w_call D__law_take (hr.mono (by first | decide | omega)) (by rfl) (a_cons (w_var 0 (by rfl) (by first | exact Or.inl rfl | exact Or.inr (Or.inl rfl) | exact Or.inr (Or.inr rfl))) (a_cons w_int a_nil)))) (a_cons (w_item (w_lst (a_cons w_int (a_cons w_int (a_cons w_int a_nil)))) (w_call D__law_take (hr.mono (by first | decide | omega)) (by rfl) (a_cons (w_var 0 (by rfl) (by first | exact Or.inl rfl | exact Or.inr (Or.inl rfl) | exact Or.inr (Or.inr rfl))) (a_cons w_int a_nil)))) a_nil))))) (s_cons (s_set 2 nd (by rfl) (by first | exact Or.inl rfl | exact Or.inr rfl) (.inl rfl) (w_lst (a_cons (w_var 1 (by rfl) (by first | exact Or.inl rfl | exact Or.inr (Or.inl rfl) | exact Or.inr (Or.inr rfl))) (a_cons (w_call D__law_number (hr.mono (by first | decide | omega)) (by rfl) (a_cons (w_var 0 (by rfl) (by first | exact Or.inl rfl | exact Or.inr (Or.inl rfl) | exact Or.inr (Or.inr rfl))) a_nil)) (a_cons (w_tup (a_cons w_int (a_cons w_int (a_cons w_int a_nil)))) (a_cons (w_tup (a_cons w_int (a_cons w_int (a_cons w_int a_nil)))) (a_cons (w_tup (a_cons w_int (a_cons (w_neg w_int) (a_cons w_int a_nil)))) (a_cons (w_tup (a_cons w_int (a_cons (w_neg w_int) (a_cons w_int a_nil)))) (a_cons (w_tup (a_cons w_int (a_cons (w_neg w_int) (a_cons w_int a_nil)))) a_nil))))))))) (s_cons (s_forR1 (passes_of (by rfl)) (by rfl) (by rfl) Fx.n_range (a_cons w_int a_nil) (g_name 3 nd (by rfl) (by first | exact Or.inl rfl | exact Or.inr rfl) (.inl rfl)) (s_one (s_expr (w_append (w_var 2 (by rfl) (by first | exact Or.inl rfl | exact Or.inr (Or.inl rfl) | exact Or.inr (Or.inr rfl))) (a_cons (w_call D__law_neighbour (hr.mono (by first | decide | omega)) (by rfl) (a_cons (w_var 0 (by rfl) (by first | exact Or.inl rfl | exact Or.inr (Or.inl rfl) | exact Or.inr (Or.inr rfl))) (a_cons (w_var 1 (by rfl) (by first | exact Or.inl rfl | exact Or.inr (Or.inl rfl) | exact Or.inr (Or.inr rfl))) a_nil))) a_nil))))) (s_one (s_ret (w_call D__law_shuffled (hr.mono (by first | decide | omega)) (by rfl) (a_cons (w_var 0 (by rfl) (by first | exact Or.inl rfl | exact Or.inr (Or.inl rfl) | exact Or.inr (Or.inr rfl))) (a_cons (w_var 2 (by rfl) (by first | exact Or.inl rfl | exact Or.inr (Or.inl rfl) | exact Or.inr (Or.inr rfl))) a_nil)))))))))
theorem sc__law_word_of : FnScope ["first", "second", "order_told"] ["first", "second", "order_told"] (defScope s__law_word_of) := ⟨rfl, rfl, rfl, by decide +kernel, rfl, by decide +kernel, by decide +kernel⟩
theorem dw__law_word_of {P : Program} {w : World} {mg : Str → Option Value} {base : Heap} {T : Tb} {G : Gm} (Fx : Fx P w mg base T G) {fa : Addr} {fd : FuncData} (F : Fun G.K "_law_word_of" "_law_word_of" s__law_word_of fa fd) (hm : mg "_law_word_of" = some (.ref fa)) : DefW P w G.K mg base T "_law_word_of" 1 3 (sp__law_word_of G) := by
  have nd : (["first", "second", "order_told"] : List Str).Nodup := sc__law_word_of.nd
  refine ⟨fa, fd, ["first", "second", "order_told"], hm, F.kp, F.binds (fun _ _ _ _ _ _ us hl => match us, hl with | [_, _, _], _ => rfl), ?_, rfl⟩
  exact fnW_of (N := ["first", "second", "order_told"]) (ps := ["first", "second", "order_told"]) (k := 0) (t := t__law_word_of G) F sc__law_word_of (fun L cdv A outer s H E hr => (s_cons (s_if ((q_or (q_eq (w_item (w_var 0 (by rfl) (by first | exact Or.inl rfl | exact Or.inr (Or.inl rfl) | exact Or.inr (Or.inr rfl))) w_int) (w_neg w_int)) (q_or1 (q_eq (w_item (w_var 1 (by rfl) (by first | exact Or.inl rfl | exact Or.inr (Or.inl rfl) | exact Or.inr (Or.inr rfl))) w_int) (w_neg w_int))))).q (s_one (s_ret w_str)) s_nil) (s_cons (s_if ((q_and (q_eq (w_item (w_var 0 (by rfl) (by first | exact Or.inl rfl | exact Or.inr (Or.inl rfl) | exact Or.inr (Or.inr rfl))) w_int) w_int) (q_and1 (q_eq (w_item (w_var 1 (by rfl) (by first | exact Or.inl rfl | exact Or.inr (Or.inl rfl) | exact Or.inr (Or.inr rfl))) w_int) w_int)))).q (s_one (s_ret w_str)) s_nil) (s_one (s_ret (w_item (w_lst (a_cons w_str (a_cons w_str (a_cons w_str a_nil)))) (w_var 2 (by rfl) (by first | exact Or.inl rfl | exact Or.inr (Or.inl rfl) | exact Or.inr (Or.inr rfl)))))))))
theorem sc__law_pair_right : FnScope ["first", "second", "due", "row", "low", "high", "turned"] ["first", "second"] (defScope s__law_pair_right) := ⟨rfl, rfl, rfl, by decide +kernel, rfl, by decide +kernel, by decide +kernel⟩
theorem dw__law_pair_right {P : Program} {w : World} {mg : Str → Option Value} {base : Heap} {T : Tb} {G : Gm} (Fx : Fx P w mg base T G) {fa : Addr} {fd : FuncData} (F : FunC G.K "_law_pair_right" "_law_pair_right" s__law_pair_right fa fd (G.cd i__law_pair_right)) (hm : mg "_law_pair_right" = some (.ref fa)) (D_alike : DefW P w G.K mg base T "alike" 4 2 (sp_alike G)) (D_total : DefW P w G.K mg base T "total" 6 2 (sp_total G)) (D_compare : DefW P w G.K mg base T "compare" 7 2 (sp_compare G)) (D_least_of : DefW P w G.K mg base T "least_of" 7 2 (sp_least_of G)) (D_greatest_of : DefW P w G.K mg base T "greatest_of" 7 2 (sp_greatest_of G)) (D__law_alike : DefW P w G.K mg base T "_law_alike" 1 2 (sp__law_alike G)) (D__law_before : DefW P w G.K mg base T "_law_before" 2 2 (sp__law_before G)) (D__law_gives : DefW P w G.K mg base T "_law_gives" 102 2 (sp__law_gives G)) (D__law_turned : DefW P w G.K mg base T "_law_turned" 1 1 (sp__law_turned G)) (D__law_word_of : DefW P w G.K mg base T "_law_word_of" 1 3 (sp__law_word_of G)) : DefW P w G.K mg base T "_law_pair_right" 103 2 (sp__law_pair_right G) := by
  have nd : (["first", "second", "due", "row", "low", "high", "turned"] : List Str).Nodup := sc__law_pair_right.nd
  refine ⟨fa, fd, ["first", "second"], hm, F.kp, F.fn.binds (fun _ _ _ _ _ _ us hl => match us, hl with | [_, _], _ => rfl), ?_, rfl⟩
  exact fnW_ofC (N := ["first", "second", "due", "row", "low", "high", "turned"]) (ps := ["first", "second"]) (k := 102) (t := t__law_pair_right G) F sc__law_pair_right (fun L A outer s H E hr => (s_cons (s_set 2 nd (by rfl) (by first | exact Or.inl rfl | exact Or.inr rfl) (.inl rfl) (w_call D__law_before (hr.mono (by first | decide | omega)) (by rfl) (a_cons (w_var 0 (by rfl) (by first | exact Or.inl rfl | exact Or.inr (Or.inl rfl) | exact Or.inr (Or.inr rfl))) (a_cons (w_var 1 (by rfl) (by first | exact Or.inl rfl | exact Or.inr (Or.inl rfl) | exact Or.inr (Or.inr rfl))) a_nil)))) (s_cons (s_par 4 5 (by rfl) nd (by rfl) (by rfl) (by decide) (by rfl) (by rfl) (a_cons (w_var 0 (by rfl) (by first | exact Or.inl rfl | exact Or.inr (Or.inl rfl) | exact Or.inr (Or.inr rfl))) (a_cons (w_var 1 (by rfl) (by first | exact Or.inl rfl | exact Or.inr (Or.inl rfl) | exact Or.inr (Or.inr rfl))) a_nil)) (by rfl)) (s_cons (s_if (q_gt (w_var 2 (by rfl) (by first | exact Or.inl rfl | exact Or.inr (Or.inl rfl) | exact Or.inr (Or.inr rfl))) w_int) (s_one (s_par 4 5 (by rfl) nd (by rfl) (by rfl) (by decide) (by rfl) (by rfl) (a_cons (w_var 1 (by rfl) (by first | exact Or.inl rfl | exact Or.inr (Or.inl rfl) | exact Or.inr (Or.inr rfl))) (a_cons (w_var 0 (by rfl) (by first | exact Or.inl rfl | exact Or.inr (Or.inl rfl) | exact Or.inr (Or.inr rfl))) a_nil)) (by rfl))) s_nil) (s_cons (s_if (q_eq (w_item (w_var 5 (by rfl) (by first | exact Or.inl rfl | exact Or.inr (Or.inl rfl) | exact Or.inr (Or.inr rfl))) w_int) (w_neg w_int)) (s_one (s_set 4 nd (by rfl) (by first | exact Or.inl rfl | exact Or.inr rfl) (.inl rfl) (w_var 5 (by rfl) (by first | exact Or.inl rfl | exact Or.inr (Or.inl rfl) | exact Or.inr (Or.inr rfl))))) s_nil) (s_cons (s_set 3 nd (by rfl) (by first | exact Or.inl rfl | exact Or.inr rfl) (.inl rfl) (w_lst (a_cons (w_lam D__law_gives (hr.mono (by first | decide | omega)) (by rfl) (a_cons (w_var 2 (by rfl) (by first | exact Or.inl rfl | exact Or.inr (Or.inl rfl) | exact Or.inr (Or.inr rfl))) a_nil) (by rfl) Fx.t__law_pair_right (by rfl) Fx.m__law_pair_right Fx.u__law_pair_right (LamX.lamS_by (sc := defScope s__law_pair_right) (by decide +kernel)) (by rfl) (fun _ _ _ _ _ => by rfl) (fun A outer s H E f c' hr2 => (w_call D_total (hr2.mono (by first | decide | omega)) (by rfl) (a_cons (w_var 0 (by rfl) (by first | exact Or.inl rfl | exact Or.inr (Or.inl rfl) | exact Or.inr (Or.inr rfl))) (a_cons (w_var 1 (by rfl) (by first | exact Or.inl rfl | exact Or.inr (Or.inl rfl) | exact Or.inr (Or.inr rfl))) a_nil))))) a_nil))) (s_cons (s_expr (w_append (w_var 3 (by rfl) (by first | exact Or.inl rfl | exact Or.inr (Or.inl rfl) | exact Or.inr (Or.inr rfl))) (a_cons (w_lam D__law_gives (hr.mono (by first | decide | omega)) (by rfl) (a_cons (w_call D__law_word_of (hr.mono (by first | decide | omega)) (by rfl) (a_cons (w_var 0 (by rfl) (by first | exact Or.inl rfl | exact Or.inr (Or.inl rfl) | exact Or.inr (Or.inr rfl))) (a_cons (w_var 1 (by rfl) (by first | exact Or.inl rfl | exact Or.inr (Or.inl rfl) | exact Or.inr (Or.inr rfl))) (a_cons (w_var 2 (by rfl) (by first | exact Or.inl rfl | exact Or.inr (Or.inl rfl) | exact Or.inr (Or.inr rfl))) a_nil)))) a_nil) (by rfl) Fx.t__law_pair_right (by rfl) Fx.m__law_pair_right Fx.u__law_pair_right (LamX.lamS_by (sc := defScope s__law_pair_right) (by decide +kernel)) (by rfl) (fun _ _ _ _ _ => by rfl) (fun A outer s H E f c' hr2 => (w_call D_compare (hr2.mono (by first | decide | omega)) (by rfl) (a_cons (w_var 0 (by rfl) (by first | exact Or.inl rfl | exact Or.inr (Or.inl rfl) | exact Or.inr (Or.inr rfl))) (a_cons (w_var 1 (by rfl) (by first | exact Or.inl rfl | exact Or.inr (Or.inl rfl) | exact Or.inr (Or.inr rfl))) a_nil))))) a_nil))) (s_cons (s_expr (w_append (w_var 3 (by rfl) (by first | exact Or.inl rfl | exact Or.inr (Or.inl rfl) | exact Or.inr (Or.inr rfl))) (a_cons (w_lam D__law_gives (hr.mono (by first | decide | omega)) (by rfl) (a_cons (w_var 4 (by rfl) (by first | exact Or.inl rfl | exact Or.inr (Or.inl rfl) | exact Or.inr (Or.inr rfl))) a_nil) (by rfl) Fx.t__law_pair_right (by rfl) Fx.m__law_pair_right Fx.u__law_pair_right (LamX.lamS_by (sc := defScope s__law_pair_right) (by decide +kernel)) (by rfl) (fun _ _ _ _ _ => by rfl) (fun A outer s H E f c' hr2 => (w_call D_least_of (hr2.mono (by first | decide | omega)) (by rfl) (a_cons (w_var 0 (by rfl) (by first | exact Or.inl rfl | exact Or.inr (Or.inl rfl) | exact Or.inr (Or.inr rfl))) (a_cons (w_var 1 (by rfl) (by first | exact Or.inl rfl | exact Or.inr (Or.inl rfl) | exact Or.inr (Or.inr rfl))) a_nil))))) a_nil))) (s_cons (s_expr (w_append (w_var 3 (by rfl) (by first | exact Or.inl rfl | exact Or.inr (Or.inl rfl) | exact Or.inr (Or.inr rfl))) (a_cons (w_lam D__law_gives (hr.mono (by first | decide | omega)) (by rfl) (a_cons (w_var 5 (by rfl) (by first | exact Or.inl rfl | exact Or.inr (Or.inl rfl) | exact Or.inr (Or.inr rfl))) a_nil) (by rfl) Fx.t__law_pair_right (by rfl) Fx.m__law_pair_right Fx.u__law_pair_right (LamX.lamS_by (sc := defScope s__law_pair_right) (by decide +kernel)) (by rfl) (fun _ _ _ _ _ => by rfl) (fun A outer s H E f c' hr2 => (w_call D_greatest_of (hr2.mono (by first | decide | omega)) (by rfl) (a_cons (w_var 0 (by rfl) (by first | exact Or.inl rfl | exact Or.inr (Or.inl rfl) | exact Or.inr (Or.inr rfl))) (a_cons (w_var 1 (by rfl) (by first | exact Or.inl rfl | exact Or.inr (Or.inl rfl) | exact Or.inr (Or.inr rfl))) a_nil))))) a_nil))) (s_cons (s_expr (w_append (w_var 3 (by rfl) (by first | exact Or.inl rfl | exact Or.inr (Or.inl rfl) | exact Or.inr (Or.inr rfl))) (a_cons (w_lam D__law_gives (hr.mono (by first | decide | omega)) (by rfl) (a_cons (w_call D__law_alike (hr.mono (by first | decide | omega)) (by rfl) (a_cons (w_var 0 (by rfl) (by first | exact Or.inl rfl | exact Or.inr (Or.inl rfl) | exact Or.inr (Or.inr rfl))) (a_cons (w_var 1 (by rfl) (by first | exact Or.inl rfl | exact Or.inr (Or.inl rfl) | exact Or.inr (Or.inr rfl))) a_nil))) a_nil) (by rfl) Fx.t__law_pair_right (by rfl) Fx.m__law_pair_right Fx.u__law_pair_right (LamX.lamS_by (sc := defScope s__law_pair_right) (by decide +kernel)) (by rfl) (fun _ _ _ _ _ => by rfl) (fun A outer s H E f c' hr2 => (w_call D_alike (hr2.mono (by first | decide | omega)) (by rfl) (a_cons (w_var 0 (by rfl) (by first | exact Or.inl rfl | exact Or.inr (Or.inl rfl) | exact Or.inr (Or.inr rfl))) (a_cons (w_var 1 (by rfl) (by first | exact Or.inl rfl | exact Or.inr (Or.inl rfl) | exact Or.inr (Or.inr rfl))) a_nil))))) a_nil))) (s_cons (s_if (q_ne (w_item (w_var 5 (by rfl) (by first | exact Or.inl rfl | exact Or.inr (Or.inl rfl) | exact Or.inr (Or.inr rfl))) w_int) (w_neg w_int)) (s_cons (s_set 6 nd (by rfl) (by first | exact Or.inl rfl | exact Or.inr rfl) (.inl rfl) (w_call D__law_turned (hr.mono (by first | decide | omega)) (by rfl) (a_cons (w_var 0 (by rfl) (by first | exact Or.inl rfl | exact Or.inr (Or.inl rfl) | exact Or.inr (Or.inr rfl))) a_nil))) (s_one (s_expr (w_append (w_var 3 (by rfl) (by first | exact Or.inl rfl | exact Or.inr (Or.inl rfl) | exact Or.inr (Or.inr rfl))) (a_cons (w_lam D__law_gives (hr.mono (by first | decide | omega)) (by rfl) (a_cons (w_var 2 (by rfl) (by first | exact Or.inl rfl | exact Or.inr (Or.inl rfl) | exact Or.inr (Or.inr rfl))) a_nil) (by rfl) Fx.t__law_pair_right (by rfl) Fx.m__law_pair_right Fx.u__law_pair_right (LamX.lamS_by (sc := defScope s__law_pair_right) (by decide +kernel)) (by rfl) (fun _ _ _ _ _ => by rfl) (fun A outer s H E f c' hr2 => (w_call D_total (hr2.mono (by first | decide | omega)) (by rfl) (a_cons (w_call D__law_turned (hr2.mono (by first | decide | omega)) (by rfl) (a_cons (w_var 1 (by rfl) (by first | exact Or.inl rfl | exact Or.inr (Or.inl rfl) | exact Or.inr (Or.inr rfl))) a_nil)) (a_cons (w_var 6 (by rfl) (by first | exact Or.inl rfl | exact Or.inr (Or.inl rfl) | exact Or.inr (Or.inr rfl))) a_nil))))) a_nil))))) s_nil) (s_one (s_ret (w_all (by rfl) (by rfl) Fx.n_all (a_cons (w_var 3 (by rfl) (by first | exact Or.inl rfl | exact Or.inr (Or.inl rfl) | exact Or.inr (Or.inr rfl))) a_nil)))))))))))))))
theorem sc__law_single_right : FnScope ["held", "turned", "row"] ["held"] (defScope s__law_single_right) := ⟨rfl, rfl, rfl, by decide +kernel, rfl, by decide +kernel, by decide +kernel⟩
theorem dw__law_single_right {P : Program} {w : World} {mg : Str → Option Value} {base : Heap} {T : Tb} {G : Gm} (Fx : Fx P w mg base T G) {fa : Addr} {fd : FuncData} (F : FunC G.K "_law_single_right" "_law_single_right" s__law_single_right fa fd (G.cd i__law_single_right)) (hm : mg "_law_single_right" = some (.ref fa)) (D_minus : DefW P w G.K mg base T "minus" 4 1 (sp_minus G)) (D_size : DefW P w G.K mg base T "size" 4 1 (sp_size G)) (D__law_gives : DefW P w G.K mg base T "_law_gives" 102 2 (sp__law_gives G)) (D__law_turned : DefW P w G.K mg base T "_law_turned" 1 1 (sp__law_turned G)) : DefW P w G.K mg base T "_law_single_right" 103 1 (sp__law_single_right G) := by
  have nd : (["held", "turned", "row"] : List Str).Nodup := sc__law_single_right.nd
  refine ⟨fa, fd, ["held"], hm, F.kp, F.fn.binds (fun _ _ _ _ _ _ us hl => match us, hl with | [_], _ => rfl), ?_, rfl⟩
  exact fnW_ofC (N := ["held", "turned", "row"]) (ps := ["held"]) (k := 102) (t := t__law_single_right G) F sc__law_single_right (fun L A outer s H E hr => (s_cons (s_set 1 nd (by rfl) (by first | exact Or.inl rfl | exact Or.inr rfl) (.inl rfl) (w_call D__law_turned (hr.mono (by first | decide | omega)) (by rfl) (a_cons (w_var 0 (by rfl) (by first | exact Or.inl rfl | exact Or.inr (Or.inl rfl) | exact Or.inr (Or.inr rfl))) a_nil))) (s_cons (s_set 2 nd (by rfl) (by first | exact Or.inl rfl | exact Or.inr rfl) (.inl rfl) (w_lst (a_cons (w_lam D__law_gives (hr.mono (by first | decide | omega)) (by rfl) (a_cons (w_var 1 (by rfl) (by first | exact Or.inl rfl | exact Or.inr (Or.inl rfl) | exact Or.inr (Or.inr rfl))) a_nil) (by rfl) Fx.t__law_single_right (by rfl) Fx.m__law_single_right Fx.u__law_single_right (LamX.lamS_by (sc := defScope s__law_single_right) (by decide +kernel)) (by rfl) (fun _ _ _ _ _ => by rfl) (fun A outer s H E f c' hr2 => (w_call D_minus (hr2.mono (by first | decide | omega)) (by rfl) (a_cons (w_var 0 (by rfl) (by first | exact Or.inl rfl | exact Or.inr (Or.inl rfl) | exact Or.inr (Or.inr rfl))) a_nil)))) a_nil))) (s_cons (s_expr (w_append (w_var 2 (by rfl) (by first | exact Or.inl rfl | exact Or.inr (Or.inl rfl) | exact Or.inr (Or.inr rfl))) (a_cons (w_lam D__law_gives (hr.mono (by first | decide | omega)) (by rfl) (a_cons (w_var 0 (by rfl) (by first | exact Or.inl rfl | exact Or.inr (Or.inl rfl) | exact Or.inr (Or.inr rfl))) a_nil) (by rfl) Fx.t__law_single_right (by rfl) Fx.m__law_single_right Fx.u__law_single_right (LamX.lamS_by (sc := defScope s__law_single_right) (by decide +kernel)) (by rfl) (fun _ _ _ _ _ => by rfl) (fun A outer s H E f c' hr2 => (w_call D_minus (hr2.mono (by first | decide | omega)) (by rfl) (a_cons (w_var 1 (by rfl) (by first | exact Or.inl rfl | exact Or.inr (Or.inl rfl) | exact Or.inr (Or.inr rfl))) a_nil)))) a_nil))) (s_cons (s_expr (w_append (w_var 2 (by rfl) (by first | exact Or.inl rfl | exact Or.inr (Or.inl rfl) | exact Or.inr (Or.inr rfl))) (a_cons (w_lam D__law_gives (hr.mono (by first | decide | omega)) (by rfl) (a_cons (w_tup (a_cons w_int (a_cons (w_item (w_var 0 (by rfl) (by first | exact Or.inl rfl | exact Or.inr (Or.inl rfl) | exact Or.inr (Or.inr rfl))) w_int) (a_cons (w_item (w_var 0 (by rfl) (by first | exact Or.inl rfl | exact Or.inr (Or.inl rfl) | exact Or.inr (Or.inr rfl))) w_int) a_nil)))) a_nil) (by rfl) Fx.t__law_single_right (by rfl) Fx.m__law_single_right Fx.u__law_single_right (LamX.lamS_by (sc := defScope s__law_single_right) (by decide +kernel)) (by rfl) (fun _ _ _ _ _ => by rfl) (fun A outer s H E f c' hr2 => (w_call D_size (hr2.mono (by first | decide | omega)) (by rfl) (a_cons (w_var 0 (by rfl) (by first | exact Or.inl rfl | exact Or.inr (Or.inl rfl) | exact Or.inr (Or.inr rfl))) a_nil)))) a_nil))) (s_cons (s_expr (w_append (w_var 2 (by rfl) (by first | exact Or.inl rfl | exact Or.inr (Or.inl rfl) | exact Or.inr (Or.inr rfl))) (a_cons (w_lam D__law_gives (hr.mono (by first | decide | omega)) (by rfl) (a_cons (w_tup (a_cons w_int (a_cons (w_item (w_var 0 (by rfl) (by first | exact Or.inl rfl | exact Or.inr (Or.inl rfl) | exact Or.inr (Or.inr rfl))) w_int) (a_cons (w_item (w_var 0 (by rfl) (by first | exact Or.inl rfl | exact Or.inr (Or.inl rfl) | exact Or.inr (Or.inr rfl))) w_int) a_nil)))) a_nil) (by rfl) Fx.t__law_single_right (by rfl) Fx.m__law_single_right Fx.u__law_single_right (LamX.lamS_by (sc := defScope s__law_single_right) (by decide +kernel)) (by rfl) (fun _ _ _ _ _ => by rfl) (fun A outer s H E f c' hr2 => (w_call D_size (hr2.mono (by first | decide | omega)) (by rfl) (a_cons (w_var 1 (by rfl) (by first | exact Or.inl rfl | exact Or.inr (Or.inl rfl) | exact Or.inr (Or.inr rfl))) a_nil)))) a_nil))) (s_one (s_ret (w_all (by rfl) (by rfl) Fx.n_all (a_cons (w_var 2 (by rfl) (by first | exact Or.inl rfl | exact Or.inr (Or.inl rfl) | exact Or.inr (Or.inr rfl))) a_nil))))))))))
theorem sc__law_refuses_size : FnScope ["bad"] ["bad"] (defScope s__law_refuses_size) := ⟨rfl, rfl, rfl, by decide +kernel, rfl, by decide +kernel, by decide +kernel⟩
theorem dw__law_refuses_size {P : Program} {w : World} {mg : Str → Option Value} {base : Heap} {T : Tb} {G : Gm} (Fx : Fx P w mg base T G) {fa : Addr} {fd : FuncData} (F : FunC G.K "_law_refuses_size" "_law_refuses_size" s__law_refuses_size fa fd (G.cd i__law_refuses_size)) (hm : mg "_law_refuses_size" = some (.ref fa)) (D_size : DefW P w G.K mg base T "size" 4 1 (sp_size G)) (D__law_refuses : DefW P w G.K mg base T "_law_refuses" 102 1 (sp__law_refuses G)) : DefW P w G.K mg base T "_law_refuses_size" 103 1 (sp__law_refuses_size G) := by
  have nd : (["bad"] : List Str).Nodup := sc__law_refuses_size.nd
  refine ⟨fa, fd, ["bad"], hm, F.kp, F.fn.binds (fun _ _ _ _ _ _ us hl => match us, hl with | [_], _ => rfl), ?_, rfl⟩
  exact fnW_ofC (N := ["bad"]) (ps := ["bad"]) (k := 102) (t := t__law_refuses_size G) F sc__law_refuses_size (fun L A outer s H E hr => (s_one (s_ret (w_lam D__law_refuses (hr.mono (by first | decide | omega)) (by rfl) a_nil (by rfl) Fx.t__law_refuses_size (by rfl) Fx.m__law_refuses_size Fx.u__law_refuses_size (LamX.lamS_by (sc := defScope s__law_refuses_size) (by decide +kernel)) (by rfl) (fun _ _ _ _ _ => by rfl) (fun A outer s H E f c' hr2 => (w_call D_size (hr2.mono (by first | decide | omega)) (by rfl) (a_cons (w_var 0 (by rfl) (by first | exact Or.inl rfl | exact Or.inr (Or.inl rfl) | exact Or.inr (Or.inr rfl))) a_nil)))))))
theorem sc__law_wrong : FnScope ["store", "held", "bad", "row", "deed", "again"] ["store", "held"] (defScope s__law_wrong) := ⟨rfl, rfl, rfl, by decide +kernel, rfl, by decide +kernel, by decide +kernel⟩
theorem dw__law_wrong {P : Program} {w : World} {mg : Str → Option Value} {base : Heap} {T : Tb} {G : Gm} (Fx : Fx P w mg base T G) {fa : Addr} {fd : FuncData} (F : FunC G.K "_law_wrong" "_law_wrong" s__law_wrong fa fd (G.cd i__law_wrong)) (hm : mg "_law_wrong" = some (.ref fa)) (D_minus : DefW P w G.K mg base T "minus" 4 1 (sp_minus G)) (D_alike : DefW P w G.K mg base T "alike" 4 2 (sp_alike G)) (D_total : DefW P w G.K mg base T "total" 6 2 (sp_total G)) (D_compare : DefW P w G.K mg base T "compare" 7 2 (sp_compare G)) (D_least_of : DefW P w G.K mg base T "least_of" 7 2 (sp_least_of G)) (D_greatest_of : DefW P w G.K mg base T "greatest_of" 7 2 (sp_greatest_of G)) (D__law_bad_number : DefW P w G.K mg base T "_law_bad_number" 39 2 (sp__law_bad_number G)) (D__law_gives : DefW P w G.K mg base T "_law_gives" 102 2 (sp__law_gives G)) (D__law_refuses : DefW P w G.K mg base T "_law_refuses" 102 1 (sp__law_refuses G)) (D__law_refuses_size : DefW P w G.K mg base T "_law_refuses_size" 103 1 (sp__law_refuses_size G)) : DefW P w G.K mg base T "_law_wrong" 104 2 (sp__law_wrong G) := by
  have nd : (["store", "held", "bad", "row", "deed", "again"] : List Str).Nodup := sc__law_wrong.nd
  refine ⟨fa, fd, ["store", "held"], hm, F.kp, F.fn.binds (fun _ _ _ _ _ _ us hl => match us, hl with | [_, _], _ => rfl), ?_, rfl⟩
  exact fnW_ofC (N := ["store", "held", "bad", "row", "deed", "again"]) (ps := ["store", "held"]) (k := 103) (t := t__law_wrong G) F sc__law_wrong (fun L A outer s H E hr => (s_cons (s_set 2 nd (by rfl) (by first | exact Or.inl rfl | exact Or.inr rfl) (.inl rfl) (w_call D__law_bad_number (hr.mono (by first | decide | omega)) (by rfl) (a_cons (w_var 0 (by rfl) (by first | exact Or.inl rfl | exact Or.inr (Or.inl rfl) | exact Or.inr (Or.inr rfl))) (a_cons (w_var 1 (by rfl) (by first | exact Or.inl rfl | exact Or.inr (Or.inl rfl) | exact Or.inr (Or.inr rfl))) a_nil)))) (s_cons (s_set 3 nd (by rfl) (by first | exact Or.inl rfl | exact Or.inr rfl) (.inl rfl) (w_lst (a_cons (w_andV (w_lam D__law_refuses (hr.mono (by first | decide | omega)) (by rfl) a_nil (by rfl) Fx.t__law_wrong (by rfl) Fx.m__law_wrong Fx.u__law_wrong (LamX.lamS_by (sc := defScope s__law_wrong) (by decide +kernel)) (by rfl) (fun _ _ _ _ _ => by rfl) (fun A outer s H E f c' hr2 => (w_call D_minus (hr2.mono (by first | decide | omega)) (by rfl) (a_cons (w_var 2 (by rfl) (by first | exact Or.inl rfl | exact Or.inr (Or.inl rfl) | exact Or.inr (Or.inr rfl))) a_nil)))) (w_one (w_call D__law_refuses_size (hr.mono (by first | decide | omega)) (by rfl) (a_cons (w_var 2 (by rfl) (by first | exact Or.inl rfl | exact Or.inr (Or.inl rfl) | exact Or.inr (Or.inr rfl))) a_nil)))) a_nil))) (s_cons (s_for (passes_of (by rfl)) (by rfl) (w_lst (a_cons (w_globN (by rfl) (glN_cls Fx.c_total)) (a_cons (w_globN (by rfl) (glN_cls Fx.c_compare)) (a_cons (w_globN (by rfl) (glN_cls Fx.c_least_of)) (a_cons (w_globN (by rfl) (glN_cls Fx.c_greatest_of)) (a_cons (w_globN (by rfl) (glN_cls Fx.c_alike)) a_nil)))))) (g_name 4 nd (by rfl) (by first | exact Or.inl rfl | exact Or.inr rfl) (.inl rfl)) (s_cons (s_expr (w_append (w_var 3 (by rfl) (by first | exact Or.inl rfl | exact Or.inr (Or.inl rfl) | exact Or.inr (Or.inr rfl))) (a_cons (w_lam D__law_refuses (hr.mono (by first | decide | omega)) (by rfl) a_nil (by rfl) Fx.t__law_wrong (by rfl) Fx.m__law_wrong Fx.u__law_wrong (LamX.lamS_by (sc := defScope s__law_wrong) (by decide +kernel)) (by rfl) (fun _ _ _ _ _ => by rfl) (fun A outer s H E f c' hr2 => (w_callV 4 (k := 7) (atp_cons (D_alike.atp Fx.c_alike (by decide)) (atp_cons (D_compare.atp Fx.c_compare (by decide)) (atp_cons (D_greatest_of.atp Fx.c_greatest_of (by decide)) (atp_cons (D_least_of.atp Fx.c_least_of (by decide)) (atp_cons (D_total.atp Fx.c_total (by decide)) atp_nil))))) (hr2.mono (by first | decide | omega)) (by rfl) (by first | exact Or.inl rfl | exact Or.inr (Or.inl rfl) | exact Or.inr (Or.inr rfl)) (a_cons (w_var 2 (by rfl) (by first | exact Or.inl rfl | exact Or.inr (Or.inl rfl) | exact Or.inr (Or.inr rfl))) (a_cons (w_var 1 (by rfl) (by first | exact Or.inl rfl | exact Or.inr (Or.inl rfl) | exact Or.inr (Or.inr rfl))) a_nil))))) a_nil))) (s_cons (s_expr (w_append (w_var 3 (by rfl) (by first | exact Or.inl rfl | exact Or.inr (Or.inl rfl) | exact Or.inr (Or.inr rfl))) (a_cons (w_lam D__law_refuses (hr.mono (by first | decide | omega)) (by rfl) a_nil (by rfl) Fx.t__law_wrong (by rfl) Fx.m__law_wrong Fx.u__law_wrong (LamX.lamS_by (sc := defScope s__law_wrong) (by decide +kernel)) (by rfl) (fun _ _ _ _ _ => by rfl) (fun A outer s H E f c' hr2 => (w_callV 4 (k := 7) (atp_cons (D_alike.atp Fx.c_alike (by decide)) (atp_cons (D_compare.atp Fx.c_compare (by decide)) (atp_cons (D_greatest_of.atp Fx.c_greatest_of (by decide)) (atp_cons (D_least_of.atp Fx.c_least_of (by decide)) (atp_cons (D_total.atp Fx.c_total (by decide)) atp_nil))))) (hr2.mono (by first | decide | omega)) (by rfl) (by first | exact Or.inl rfl | exact Or.inr (Or.inl rfl) | exact Or.inr (Or.inr rfl)) (a_cons (w_var 1 (by rfl) (by first | exact Or.inl rfl | exact Or.inr (Or.inl rfl) | exact Or.inr (Or.inr rfl))) (a_cons (w_var 2 (by rfl) (by first | exact Or.inl rfl | exact Or.inr (Or.inl rfl) | exact Or.inr (Or.inr rfl))) a_nil))))) a_nil))) (s_one (s_expr (w_append (w_var 3 (by rfl) (by first | exact Or.inl rfl | exact Or.inr (Or.inl rfl) | exact Or.inr (Or.inr rfl))) (a_cons (w_lam D__law_refuses (hr.mono (by first | decide | omega)) (by rfl) a_nil (by rfl) Fx.t__law_wrong (by rfl) Fx.m__law_wrong Fx.u__law_wrong (LamX.lamS_by (sc := defScope s__law_wrong) (by decide +kernel)) (by rfl) (fun _ _ _ _ _ => by rfl) (fun A outer s H E f c' hr2 => (w_callV 4 (k := 7) (atp_cons (D_alike.atp Fx.c_alike (by decide)) (atp_cons (D_compare.atp Fx.c_compare (by decide)) (atp_cons (D_greatest_of.atp Fx.c_greatest_of (by decide)) (atp_cons (D_least_of.atp Fx.c_least_of (by decide)) (atp_cons (D_total.atp Fx.c_total (by decide)) atp_nil))))) (hr2.mono (by first | decide | omega)) (by rfl) (by first | exact Or.inl rfl | exact Or.inr (Or.inl rfl) | exact Or.inr (Or.inr rfl)) (a_cons (w_tup (a_cons w_int (a_cons (w_neg w_int) (a_cons w_int a_nil)))) (a_cons (w_var 2 (by rfl) (by first | exact Or.inl rfl | exact Or.inr (Or.inl rfl) | exact Or.inr (Or.inr rfl))) a_nil))))) a_nil))))))) (s_cons (s_forR1 (passes_of (by rfl)) (by rfl) (by rfl) Fx.n_range (a_cons w_int a_nil) (g_name 5 nd (by rfl) (by first | exact Or.inl rfl | exact Or.inr rfl) (.inl rfl)) (s_cons (s_expr (w_append (w_var 3 (by rfl) (by first | exact Or.inl rfl | exact Or.inr (Or.inl rfl) | exact Or.inr (Or.inr rfl))) (a_cons (w_lam D__law_gives (hr.mono (by first | decide | omega)) (by rfl) (a_cons (w_neg w_int) a_nil) (by rfl) Fx.t__law_wrong (by rfl) Fx.m__law_wrong Fx.u__law_wrong (LamX.lamS_by (sc := defScope s__law_wrong) (by decide +kernel)) (by rfl) (fun _ _ _ _ _ => by rfl) (fun A outer s H E f c' hr2 => (w_call D_total (hr2.mono (by first | decide | omega)) (by rfl) (a_cons (w_tup (a_cons w_int (a_cons w_int (a_cons w_int a_nil)))) (a_cons (w_tup (a_cons w_int (a_cons w_int (a_cons w_int a_nil)))) a_nil))))) a_nil))) (s_cons (s_expr (w_append (w_var 3 (by rfl) (by first | exact Or.inl rfl | exact Or.inr (Or.inl rfl) | exact Or.inr (Or.inr rfl))) (a_cons (w_lam D__law_refuses (hr.mono (by first | decide | omega)) (by rfl) a_nil (by rfl) Fx.t__law_wrong (by rfl) Fx.m__law_wrong Fx.u__law_wrong (LamX.lamS_by (sc := defScope s__law_wrong) (by decide +kernel)) (by rfl) (fun _ _ _ _ _ => by rfl) (fun A outer s H E f c' hr2 => (w_call D_total (hr2.mono (by first | decide | omega)) (by rfl) (a_cons (w_tup (a_cons w_bl (a_cons w_int (a_cons w_int a_nil)))) (a_cons (w_tup (a_cons w_int (a_cons w_int (a_cons w_int a_nil)))) a_nil))))) a_nil))) (s_cons (s_expr (w_append (w_var 3 (by rfl) (by first | exact Or.inl rfl | exact Or.inr (Or.inl rfl) | exact Or.inr (Or.inr rfl))) (a_cons (w_lam D__law_refuses (hr.mono (by first | decide | omega)) (by rfl) a_nil (by rfl) Fx.t__law_wrong (by rfl) Fx.m__law_wrong Fx.u__law_wrong (LamX.lamS_by (sc := defScope s__law_wrong) (by decide +kernel)) (by rfl) (fun _ _ _ _ _ => by rfl) (fun A outer s H E f c' hr2 => (w_call D_total (hr2.mono (by first | decide | omega)) (by rfl) (a_cons (w_tup (a_cons w_int (a_cons w_int (a_cons w_int a_nil)))) (a_cons (w_tup (a_cons w_int (a_cons w_bl (a_cons w_int a_nil)))) a_nil))))) a_nil))) (s_cons (s_expr (w_append (w_var 3 (by rfl) (by first | exact Or.inl rfl | exact Or.inr (Or.inl rfl) | exact Or.inr (Or.inr rfl))) (a_cons (w_lam D__law_gives (hr.mono (by first | decide | omega)) (by rfl) (a_cons w_str a_nil) (by rfl) Fx.t__law_wrong (by rfl) Fx.m__law_wrong Fx.u__law_wrong (LamX.lamS_by (sc := defScope s__law_wrong) (by decide +kernel)) (by rfl) (fun _ _ _ _ _ => by rfl) (fun A outer s H E f c' hr2 => (w_call D_compare (hr2.mono (by first | decide | omega)) (by rfl) (a_cons (w_tup (a_cons w_int (a_cons w_int (a_cons w_int a_nil)))) (a_cons (w_tup (a_cons w_int (a_cons w_int (a_cons w_int a_nil)))) a_nil))))) a_nil))) (s_cons (s_expr (w_append (w_var 3 (by rfl) (by first | exact Or.inl rfl | exact Or.inr (Or.inl rfl) | exact Or.inr (Or.inr rfl))) (a_cons (w_lam D__law_refuses (hr.mono (by first | decide | omega)) (by rfl) a_nil (by rfl) Fx.t__law_wrong (by rfl) Fx.m__law_wrong Fx.u__law_wrong (LamX.lamS_by (sc := defScope s__law_wrong) (by decide +kernel)) (by rfl) (fun _ _ _ _ _ => by rfl) (fun A outer s H E f c' hr2 => (w_call D_compare (hr2.mono (by first | decide | omega)) (by rfl) (a_cons (w_tup (a_cons w_int (a_cons w_int (a_cons w_int a_nil)))) (a_cons (w_tup (a_cons w_bl (a_cons w_int (a_cons w_int a_nil)))) a_nil))))) a_nil))) (s_one (s_expr (w_append (w_var 3 (by rfl) (by first | exact Or.inl rfl | exact Or.inr (Or.inl rfl) | exact Or.inr (Or.inr rfl))) (a_cons (w_lam D__law_gives (hr.mono (by first | decide | omega)) (by rfl) (a_cons (w_tup (a_cons w_int (a_cons w_int (a_cons w_int a_nil)))) a_nil) (by rfl) Fx.t__law_wrong (by rfl) Fx.m__law_wrong Fx.u__law_wrong (LamX.lamS_by (sc := defScope s__law_wrong) (by decide +kernel)) (by rfl) (fun _ _ _ _ _ => by rfl) (fun A outer s H E f c' hr2 => (w_call D_least_of (hr2.mono (by first | decide | omega)) (by rfl) (a_cons (w_tup (a_cons w_int (a_cons w_int (a_cons w_int a_nil)))) (a_cons (w_tup (a_cons w_int (a_cons w_int (a_cons w_int a_nil)))) a_nil))))) a_nil)))))))))) (s_one (s_ret (w_all (by rfl) (by rfl) Fx.n_all (a_cons (w_var 3 (by rfl) (by first | exact Or.inl rfl | exact Or.inr (Or.inl rfl) | exact Or.inr (Or.inr rfl))) a_nil)))))))))
theorem sc_law : FnScope ["script", "store", "step", "row", "first", "second"] ["script"] (defScope s_law) := ⟨rfl, rfl, rfl, by decide +kernel, rfl, by decide +kernel, by decide +kernel⟩
theorem dw_law {P : Program} {w : World} {mg : Str → Option Value} {base : Heap} {T : Tb} {G : Gm} (Fx : Fx P w mg base T G) {fa : Addr} {fd : FuncData} (F : Fun G.K "law" "law" s_law fa fd) (hm : mg "law" = some (.ref fa)) (D__law_store : DefW P w G.K mg base T "_law_store" 1 1 (sp__law_store G)) (D__law_row : DefW P w G.K mg base T "_law_row" 41 1 (sp__law_row G)) (D__law_pair_right : DefW P w G.K mg base T "_law_pair_right" 103 2 (sp__law_pair_right G)) (D__law_single_right : DefW P w G.K mg base T "_law_single_right" 103 1 (sp__law_single_right G)) (D__law_wrong : DefW P w G.K mg base T "_law_wrong" 104 2 (sp__law_wrong G)) : DefW P w G.K mg base T "law" 105 1 (sp_law G) := by
  have nd : (["script", "store", "step", "row", "first", "second"] : List Str).Nodup := sc_law.nd
  refine ⟨fa, fd, ["script"], hm, F.kp, F.binds (fun _ _ _ _ _ _ us hl => match us, hl with | [_], _ => rfl), ?_, rfl⟩
  exact fnW_of (N := ["script", "store", "step", "row", "first", "second"]) (ps := ["script"]) (k := 104) (t := t_law G) F sc_law (fun L cdv A outer s H E hr => (s_cons (s_set 1 nd (by rfl) (by first | exact Or.inl rfl | exact Or.inr rfl) (.inl rfl) (w_call D__law_store (hr.mono (by first | decide | omega)) (by rfl) (a_cons (w_var 0 (by rfl) (by first | exact Or.inl rfl | exact Or.inr (Or.inl rfl) | exact Or.inr (Or.inr rfl))) a_nil))) (s_cons (s_forR1 (passes_of (by rfl)) (by rfl) (by rfl) Fx.n_range (a_cons w_int a_nil) (g_name 2 nd (by rfl) (by first | exact Or.inl rfl | exact Or.inr rfl) (.inl rfl)) (s_cons (s_set 3 nd (by rfl) (by first | exact Or.inl rfl | exact Or.inr rfl) (.inl rfl) (w_call D__law_row (hr.mono (by first | decide | omega)) (by rfl) (a_cons (w_var 1 (by rfl) (by first | exact Or.inl rfl | exact Or.inr (Or.inl rfl) | exact Or.inr (Or.inr rfl))) a_nil))) (s_cons (s_for (passes_of (by rfl)) (by rfl) (w_var 3 (by rfl) (by first | exact Or.inl rfl | exact Or.inr (Or.inl rfl) | exact Or.inr (Or.inr rfl))) (g_name 4 nd (by rfl) (by first | exact Or.inl rfl | exact Or.inr rfl) (.inl rfl)) (s_cons (s_if (q_not (q_val (w_call D__law_single_right (hr.mono (by first | decide | omega)) (by rfl) (a_cons (w_var 4 (by rfl) (by first | exact Or.inl rfl | exact Or.inr (Or.inl rfl) | exact Or.inr (Or.inr rfl))) a_nil)) (by intro _; rfl))) (s_one (s_ret w_bl)) s_nil) (s_one (s_for (passes_of (by rfl)) (by rfl) (w_var 3 (by rfl) (by first | exact Or.inl rfl | exact Or.inr (Or.inl rfl) | exact Or.inr (Or.inr rfl))) (g_name 5 nd (by rfl) (by first | exact Or.inl rfl | exact Or.inr rfl) (.inl rfl)) (s_one (s_if (q_not (q_val (w_call D__law_pair_right (hr.mono (by first | decide | omega)) (by rfl) (a_cons (w_var 4 (by rfl) (by first | exact Or.inl rfl | exact Or.inr (Or.inl rfl) | exact Or.inr (Or.inr rfl))) (a_cons (w_var 5 (by rfl) (by first | exact Or.inl rfl | exact Or.inr (Or.inl rfl) | exact Or.inr (Or.inr rfl))) a_nil))) (by intro _; rfl))) (s_one (s_ret w_bl)) s_nil)))))) (s_one (s_if (q_not (q_val (w_call D__law_wrong (hr.mono (by first | decide | omega)) (by rfl) (a_cons (w_var 1 (by rfl) (by first | exact Or.inl rfl | exact Or.inr (Or.inl rfl) | exact Or.inr (Or.inr rfl))) (a_cons (w_item (w_var 3 (by rfl) (by first | exact Or.inl rfl | exact Or.inr (Or.inl rfl) | exact Or.inr (Or.inr rfl))) w_int) a_nil))) (by intro _; rfl))) (s_one (s_ret w_bl)) s_nil))))) (s_one (s_ret w_bl)))))
theorem fw_law {P : Program} {w : World} {mg : Str → Option Value} {base : Heap} {T : Tb} {G : Gm} (Fx : Fx P w mg base T G) {fa : Addr} {fd : FuncData} (F : Fun G.K "law" "law" s_law fa fd) (hm : mg "law" = some (.ref fa)) (D__law_store : DefW P w G.K mg base T "_law_store" 1 1 (sp__law_store G)) (D__law_row : DefW P w G.K mg base T "_law_row" 41 1 (sp__law_row G)) (D__law_pair_right : DefW P w G.K mg base T "_law_pair_right" 103 2 (sp__law_pair_right G)) (D__law_single_right : DefW P w G.K mg base T "_law_single_right" 103 1 (sp__law_single_right G)) (D__law_wrong : DefW P w G.K mg base T "_law_wrong" 104 2 (sp__law_wrong G)) : FnW P w G.K mg base T 105 fa fd ["script"] (sp_law G) := by
  have nd : (["script", "store", "step", "row", "first", "second"] : List Str).Nodup := sc_law.nd
  exact fnW_of (N := ["script", "store", "step", "row", "first", "second"]) (ps := ["script"]) (k := 104) (t := t_law G) F sc_law (fun L cdv A outer s H E hr => (s_cons (s_set 1 nd (by rfl) (by first | exact Or.inl rfl | exact Or.inr rfl) (.inl rfl) (w_call D__law_store (hr.mono (by first | decide | omega)) (by rfl) (a_cons (w_var 0 (by rfl) (by first | exact Or.inl rfl | exact Or.inr (Or.inl rfl) | exact Or.inr (Or.inr rfl))) a_nil))) (s_cons (s_forR1 (passes_of (by rfl)) (by rfl) (by rfl) Fx.n_range (a_cons w_int a_nil) (g_name 2 nd (by rfl) (by first | exact Or.inl rfl | exact Or.inr rfl) (.inl rfl)) (s_cons (s_set 3 nd (by rfl) (by first | exact Or.inl rfl | exact Or.inr rfl) (.inl rfl) (w_call D__law_row (hr.mono (by first | decide | omega)) (by rfl) (a_cons (w_var 1 (by rfl) (by first | exact Or.inl rfl | exact Or.inr (Or.inl rfl) | exact Or.inr (Or.inr rfl))) a_nil))) (s_cons (s_for (passes_of (by rfl)) (by rfl) (w_var 3 (by rfl) (by first | exact Or.inl rfl | exact Or.inr (Or.inl rfl) | exact Or.inr (Or.inr rfl))) (g_name 4 nd (by rfl) (by first | exact Or.inl rfl | exact Or.inr rfl) (.inl rfl)) (s_cons (s_if (q_not (q_val (w_call D__law_single_right (hr.mono (by first | decide | omega)) (by rfl) (a_cons (w_var 4 (by rfl) (by first | exact Or.inl rfl | exact Or.inr (Or.inl rfl) | exact Or.inr (Or.inr rfl))) a_nil)) (by intro _; rfl))) (s_one (s_ret w_bl)) s_nil) (s_one (s_for (passes_of (by rfl)) (by rfl) (w_var 3 (by rfl) (by first | exact Or.inl rfl | exact Or.inr (Or.inl rfl) | exact Or.inr (Or.inr rfl))) (g_name 5 nd (by rfl) (by first | exact Or.inl rfl | exact Or.inr rfl) (.inl rfl)) (s_one (s_if (q_not (q_val (w_call D__law_pair_right (hr.mono (by first | decide | omega)) (by rfl) (a_cons (w_var 4 (by rfl) (by first | exact Or.inl rfl | exact Or.inr (Or.inl rfl) | exact Or.inr (Or.inr rfl))) (a_cons (w_var 5 (by rfl) (by first | exact Or.inl rfl | exact Or.inr (Or.inl rfl) | exact Or.inr (Or.inr rfl))) a_nil))) (by intro _; rfl))) (s_one (s_ret w_bl)) s_nil)))))) (s_one (s_if (q_not (q_val (w_call D__law_wrong (hr.mono (by first | decide | omega)) (by rfl) (a_cons (w_var 1 (by rfl) (by first | exact Or.inl rfl | exact Or.inr (Or.inl rfl) | exact Or.inr (Or.inr rfl))) (a_cons (w_item (w_var 3 (by rfl) (by first | exact Or.inl rfl | exact Or.inr (Or.inl rfl) | exact Or.inr (Or.inr rfl))) w_int) a_nil))) (by intro _; rfl))) (s_one (s_ret w_bl)) s_nil))))) (s_one (s_ret w_bl)))))
end k12

namespace k12
open PySem L2 Ev
local macro_rules | `(tactic| walk_at "evS") => `(tactic| repeat (first | with_reducible refine sSeq_i ?_ | with_reducible refine sAsg_i ?_ | with_reducible refine tV_i rfl ?_ | with_reducible refine tC_i ?_ | with_reducible refine aCons_i ?_ | with_reducible refine aNil_i ?_ | with_reducible refine tOp_i ?_ | with_reducible refine tFn_i ?_ | with_reducible refine tCB_i ?_ | with_reducible refine tTup_i ?_ | with_reducible refine tLst_i ?_ | with_reducible refine tUn_i ?_ | with_reducible refine tIsNf_i ?_ | with_reducible refine tIsNt_i ?_ | with_reducible refine qB_i ?_ | with_reducible refine isB_i ?_ | with_reducible refine qNot_i ?_ | with_reducible refine qAnd_i ?_ | with_reducible refine qOr_i ?_ | with_reducible refine vAnd_i ?_ | with_reducible refine vOr_i ?_ | with_reducible refine tIfE_i ?_ | with_reducible refine tMt_i ?_ | with_reducible refine isR_i ?_ | with_reducible refine sIf_i ?_ | with_reducible refine sRet_i ?_ | with_reducible refine sNext_i ?_ | with_reducible refine sDrop_i ?_ | with_reducible refine sIx_i ?_ | with_reducible refine isRI_i ?_ | with_reducible refine sRaise_i ?_ | with_reducible refine tLam_i fun f hf => ?_ | with_reducible refine sRetN_i ?_ | with_reducible refine if_t ?_ | with_reducible refine if_f ?_ | with_reducible refine wAdd_i ?_ | with_reducible refine wI0_i ?_ | with_reducible refine wEq_i ?_ | with_reducible refine wEq_s ?_ | with_reducible refine wNe_i ?_ | with_reducible refine wInt_i ?_ | with_reducible refine wInt_b ?_ | with_reducible refine wAbs_i ?_ | with_reducible refine wMax_i ?_ | with_reducible refine wMin_i ?_ | with_reducible refine wNeg_i ?_ | with_reducible refine wNot_b ?_ | with_reducible refine wBits_i ?_ | (with_reducible show wIsiK _ _ _ _; first | with_reducible refine wIsi_non_int ?_ | with_reducible refine wIsi_non_bool ?_ | with_reducible refine wIsi_non_str ?_ | with_reducible refine wIsi_non_list ?_ | with_reducible refine wIsi_non_tuple ?_ | with_reducible refine wIsi_bl_int ?_ | with_reducible refine wIsi_bl_bool ?_ | with_reducible refine wIsi_bl_str ?_ | with_reducible refine wIsi_bl_list ?_ | with_reducible refine wIsi_bl_tuple ?_ | with_reducible refine wIsi_int_int ?_ | with_reducible refine wIsi_int_bool ?_ | with_reducible refine wIsi_int_str ?_ | with_reducible refine wIsi_int_list ?_ | with_reducible refine wIsi_int_tuple ?_ | with_reducible refine wIsi_str_int ?_ | with_reducible refine wIsi_str_bool ?_ | with_reducible refine wIsi_str_str ?_ | with_reducible refine wIsi_str_list ?_ | with_reducible refine wIsi_str_tuple ?_ | with_reducible refine wIsi_tup_int ?_ | with_reducible refine wIsi_tup_bool ?_ | with_reducible refine wIsi_tup_str ?_ | with_reducible refine wIsi_tup_list ?_ | with_reducible refine wIsi_tup_tuple ?_ | with_reducible refine wIsi_tup_lt ?_)))
local macro_rules | `(tactic| walk_at "evX") => `(tactic| repeat (first | with_reducible refine sSeq_i ?_ | with_reducible refine sAsg_i ?_ | with_reducible refine tV_i rfl ?_ | with_reducible refine tC_i ?_ | with_reducible refine aCons_i ?_ | with_reducible refine aNil_i ?_ | with_reducible refine tOp_i ?_ | with_reducible refine tFn_i ?_ | with_reducible refine tCB_i ?_ | with_reducible refine tTup_i ?_ | with_reducible refine tLst_i ?_ | with_reducible refine tUn_i ?_ | with_reducible refine tIsNf_i ?_ | with_reducible refine tIsNt_i ?_ | with_reducible refine qB_i ?_ | with_reducible refine isB_i ?_ | with_reducible refine qNot_i ?_ | with_reducible refine qAnd_i ?_ | with_reducible refine qOr_i ?_ | with_reducible refine vAnd_i ?_ | with_reducible refine vOr_i ?_ | with_reducible refine tIfE_i ?_ | with_reducible refine tMt_i ?_ | with_reducible refine isR_i ?_ | with_reducible refine sIf_i ?_ | with_reducible refine sRet_i ?_ | with_reducible refine sNext_i ?_ | with_reducible refine sDrop_i ?_ | with_reducible refine sIx_i ?_ | with_reducible refine isRI_i ?_ | with_reducible refine sRaise_i ?_ | with_reducible refine tLam_i fun f hf => ?_ | with_reducible refine sRetN_i ?_ | with_reducible refine if_t ?_ | with_reducible refine if_f ?_ | with_reducible refine wAdd_i ?_ | with_reducible refine wI0_i ?_ | with_reducible refine wEq_i ?_ | with_reducible refine wEq_s ?_ | with_reducible refine wNe_i ?_ | with_reducible refine wInt_i ?_ | with_reducible refine wInt_b ?_ | with_reducible refine wAbs_i ?_ | with_reducible refine wMax_i ?_ | with_reducible refine wMin_i ?_ | with_reducible refine wNeg_i ?_ | with_reducible refine wNot_b ?_ | with_reducible refine wBits_i ?_ | with_reducible refine if_nt ?_ | with_reducible refine if_nf ?_ | with_reducible refine gTp2_i ?_ | with_reducible refine gTp3_i ?_ | with_reducible refine gTp4_i ?_ | with_reducible refine gNm_i ?_ | with_reducible refine sPar_i ?_ | with_reducible refine par2_i ?_ | with_reducible refine wIx_t0 ?_ | with_reducible refine wIx_t1 ?_ | with_reducible refine wIx_t2 ?_ | with_reducible refine wIx_t3 ?_ | with_reducible refine wLen_t ?_ | with_reducible refine sAsgG_i ?_ | with_reducible refine sPar3_i ?_ | with_reducible refine par3_i ?_ | with_reducible refine tChainW_i ?_ | with_reducible refine chB_i ?_ | with_reducible refine if_self ?_ | with_reducible refine if_nself ?_ | with_reducible refine wNe_s ?_ | with_reducible refine wEq_b ?_ | with_reducible refine tFnD_i ?_ | with_reducible refine tFnK_i ?_ | with_reducible refine tChain3W_i ?_ | with_reducible refine wEqA_i ?_ | with_reducible refine wEqA_s ?_ | with_reducible refine wEqA_b ?_ | with_reducible refine wNeA_i ?_ | with_reducible refine wNeA_s ?_ | with_reducible refine wEqA_t3 ?_ | with_reducible refine tMt0_i ?_ | with_reducible refine tSlW_i ?_ | with_reducible refine pNo_i ?_ | with_reducible refine isI_i ?_ | with_reducible refine pAt_i ?_ | with_reducible refine wSl_t ?_ | (with_reducible show wIsiK _ _ _ _; first | with_reducible refine wIsi_non_int ?_ | with_reducible refine wIsi_non_bool ?_ | with_reducible refine wIsi_non_str ?_ | with_reducible refine wIsi_non_list ?_ | with_reducible refine wIsi_non_tuple ?_ | with_reducible refine wIsi_bl_int ?_ | with_reducible refine wIsi_bl_bool ?_ | with_reducible refine wIsi_bl_str ?_ | with_reducible refine wIsi_bl_list ?_ | with_reducible refine wIsi_bl_tuple ?_ | with_reducible refine wIsi_int_int ?_ | with_reducible refine wIsi_int_bool ?_ | with_reducible refine wIsi_int_str ?_ | with_reducible refine wIsi_int_list ?_ | with_reducible refine wIsi_int_tuple ?_ | with_reducible refine wIsi_str_int ?_ | with_reducible refine wIsi_str_bool ?_ | with_reducible refine wIsi_str_str ?_ | with_reducible refine wIsi_str_list ?_ | with_reducible refine wIsi_str_tuple ?_ | with_reducible refine wIsi_tup_int ?_ | with_reducible refine wIsi_tup_bool ?_ | with_reducible refine wIsi_tup_str ?_ | with_reducible refine wIsi_tup_list ?_ | with_reducible refine wIsi_tup_tuple ?_ | with_reducible refine wIsi_tup_lt ?_)))
local macro_rules | `(tactic| walk_at "evT") => `(tactic| (walk_at "evX"; repeat (first | (with_reducible refine if_y ?h1 ?_; (case h1 => omega); walk_at "evX") | (with_reducible refine if_n ?h1 ?_; (case h1 => omega); walk_at "evX") | (with_reducible refine if_ny ?h1 ?_; (case h1 => omega); walk_at "evX") | (with_reducible refine if_nn ?h1 ?_; (case h1 => omega); walk_at "evX"))))
variable {G : Gm} {L : Lm} {M : Mp} {Q : QK} {E : EK}
theorem nat31 {i j : Int} (h : 0 ≤ i ∧ i < j) (l : j ≤ 2147483648 := by decide) : Bd 31 i := by
  apply bd31
  omega
theorem ok__law_mix {g t : Int} {a b : Nat} (hg : Bd a g) (ht : Bd b t) (hb : b ≤ 100000) (h : ∀ z : Int, 0 ≤ z → z < 2147483587 → Q (.int z) M) : sp__law_mix G L [.int g, .int t] M Q E := by
  show t__law_mix G L _ [some (.int g), some (.int t), none, none] M
  dsimp only [t__law_mix, spOf, stW, sSeq, sAsg, sDrop, sRet, sRetN, sIf, sEx, sNext, gNm, sIx, gIx, Ev.tOp, Ev.tUn, Ev.tCB, aCons, aNil, Ev.tC, tV, Ev.tTup, Ev.tLst, tFn, Ev.tIsN, Ev.isNon, qB, qNot, qAnd, qOr, vAnd, vOr, tIfE, wI, wI0, wAdd, wNeg, wNot, wInt, wAbs, wMax, wMin, wBits, tMt, Ev.wEq, Ev.wNe, Ev.eqS, List.getElem?_cons_zero, List.getElem?_cons_succ, List.set_cons_zero, List.set_cons_succ, List.cons_append, List.nil_append]
  have r0 : 0 ≤ g.fmod 2147483647 ∧ g.fmod 2147483647 < 2147483647 := fmod_rng (by decide)
  refine ⟨by decide, MulOk.of (nat31 r0) (b := 20) (⟨by decide⟩), MulOk.of ht (b := 20) (⟨by decide⟩) (by omega), by decide, ?_⟩
  have r1 := fmod_rng (i := g.fmod 2147483647 * 48271 + t * 69621 + 11) (j := 2147483647) (by decide)
  generalize (g.fmod 2147483647 * 48271 + t * 69621 + 11).fmod 2147483647 = x at r1
  refine ⟨MulOk.of (nat31 r1) (nat31 r1), MulOk.of ht (b := 20) (⟨by decide⟩) (by omega), by decide, ?_⟩
  have r2 := fmod_rng (i := x * x + t * 40692 + 48611) (j := 2147483629) (by decide)
  generalize (x * x + t * 40692 + 48611).fmod 2147483629 = y at r2
  refine ⟨MulOk.of (nat31 r2) (b := 20) (⟨by decide⟩), by decide, MulOk.of ht (b := 20) (⟨by decide⟩) (by omega), by decide, ?_⟩
  have r3 := fmod_rng (i := y * 16807 + x.fdiv 977 + t * 3) (j := 2147483587) (by decide)
  exact h _ r3.1 r3.2
theorem ok__law_wide {g t bd : Int} {a b nb : Nat} (hg : Bd a g) (ht : Bd b t) (hb : b ≤ 90000) (h1 : 1 ≤ bd) (hbd : Bd nb bd) (hnb : nb ≤ 1100000) (h : ∀ z : Int, 0 ≤ z → z < bd → Q (.int z) M) : sp__law_wide G L [.int g, .int t, .int bd] M Q E := by
  show t__law_wide G L _ [some (.int g), some (.int t), some (.int bd), none, none, none] M
  unfold t__law_wide
  refine seq_g fun k hk => ?_
  dsimp only [spOf, stW, sSeq, sAsg, sDrop, sRet, sRetN, sIf, sEx, sNext, gNm, sIx, gIx, Ev.tOp, Ev.tUn, Ev.tCB, aCons, aNil, Ev.tC, tV, Ev.tTup, Ev.tLst, tFn, Ev.tIsN, Ev.isNon, qB, qNot, qAnd, qOr, vAnd, vOr, tIfE, wI, wI0, wAdd, wNeg, wNot, wInt, wAbs, wMax, wMin, wBits, tMt, Ev.wEq, Ev.wNe, Ev.eqS, List.getElem?_cons_zero, List.getElem?_cons_succ, List.set_cons_zero, List.set_cons_succ, List.cons_append, List.nil_append]
  refine ok__law_mix hg ht (by omega) fun m m0 m1 => ?_
  subst hk
  refine seq_g fun k hk => ?_
  dsimp only [spOf, stW, sSeq, sAsg, sDrop, sRet, sRetN, sIf, sEx, sNext, gNm, sIx, gIx, Ev.tOp, Ev.tUn, Ev.tCB, aCons, aNil, Ev.tC, tV, Ev.tTup, Ev.tLst, tFn, Ev.tIsN, Ev.isNon, qB, qNot, qAnd, qOr, vAnd, vOr, tIfE, wI, wI0, wAdd, wNeg, wNot, wInt, wAbs, wMax, wMin, wBits, tMt, Ev.wEq, Ev.wNe, Ev.eqS, List.getElem?_cons_zero, List.getElem?_cons_succ, List.set_cons_zero, List.set_cons_succ, List.cons_append, List.nil_append]
  subst hk
  have hbits := bits_bd hbd
  have hq : 0 ≤ Int.fdiv (Builtin.Int.intBits bd : Nat) 30 ∧ Int.fdiv (Builtin.Int.intBits bd : Nat) 30 ≤ (Builtin.Int.intBits bd : Nat) := fdiv_rng (by omega) (by decide)
  refine seq_inv (fun τ' M' => M' = M ∧ ∃ (m j : Int) (o : Option W), τ' = [some (.int g), some (.int t), some (.int bd), some (.int m), some (.int j), o]) (fun τ' M' hp => ?_) fun k hk => ?_
  · obtain ⟨rfl, m', j', o, rfl⟩ := hp
    dsimp only [spOf, stW, sSeq, sAsg, sDrop, sRet, sRetN, sIf, sEx, sNext, gNm, sIx, gIx, Ev.tOp, Ev.tUn, Ev.tCB, aCons, aNil, Ev.tC, tV, Ev.tTup, Ev.tLst, tFn, Ev.tIsN, Ev.isNon, qB, qNot, qAnd, qOr, vAnd, vOr, tIfE, wI, wI0, wAdd, wNeg, wNot, wInt, wAbs, wMax, wMin, wBits, tMt, Ev.wEq, Ev.wNe, Ev.eqS, List.getElem?_cons_zero, List.getElem?_cons_succ, List.set_cons_zero, List.set_cons_succ, List.cons_append, List.nil_append]
    have r := fmod_rng (i := j') (j := bd) (by omega)
    exact ⟨by omega, h _ r.1 r.2⟩
  · refine for_i (j := Int.fdiv (Builtin.Int.intBits bd : Nat) 30 + 2) (fun Q E q => ?_) (by omega) ?_
    · dsimp only [spOf, stW, sSeq, sAsg, sDrop, sRet, sRetN, sIf, sEx, sNext, gNm, sIx, gIx, Ev.tOp, Ev.tUn, Ev.tCB, aCons, aNil, Ev.tC, tV, Ev.tTup, Ev.tLst, tFn, Ev.tIsN, Ev.isNon, qB, qNot, qAnd, qOr, vAnd, vOr, tIfE, wI, wI0, wAdd, wNeg, wNot, wInt, wAbs, wMax, wMin, wBits, tMt, Ev.wEq, Ev.wNe, Ev.eqS, List.getElem?_cons_zero, List.getElem?_cons_succ, List.set_cons_zero, List.set_cons_succ, List.cons_append, List.nil_append]
      exact ⟨by decide, q⟩
    · generalize Int.fdiv (Builtin.Int.intBits bd : Nat) 30 = fq at hq
      refine lpW_inv (fun n τ' M' => M' = M ∧ ∃ (m j : Int) (o : Option W), τ' = [some (.int g), some (.int t), some (.int bd), some (.int m), some (.int j), o] ∧ (0 ≤ m ∧ m < 2147483587) ∧ Bd (32 * n + 1) j) _ 0 _ _ (fun n w τ' M' k hw hp hk => ?_) (fun τ' M' hp => ?_) ⟨rfl, m, 0, none, rfl, ⟨m0, m1⟩, ⟨by decide⟩⟩
      · obtain ⟨rfl, m', j', o, rfl, mr, bj⟩ := hp
        obtain ⟨hn, rfl⟩ := rngW_at hw
        rw [Nat.zero_add] at hk bj
        have hn2 : (n : Int) < 1100010 := by omega
        have bm : Bd 60 m' := ⟨by omega⟩
        have bn : Bd 21 (0 + (n : Int)) := ⟨by omega⟩
        dsimp only [spOf, stW, sSeq, sAsg, sDrop, sRet, sRetN, sIf, sEx, sNext, gNm, sIx, gIx, Ev.tOp, Ev.tUn, Ev.tCB, aCons, aNil, Ev.tC, tV, Ev.tTup, Ev.tLst, tFn, Ev.tIsN, Ev.isNon, qB, qNot, qAnd, qOr, vAnd, vOr, tIfE, wI, wI0, wAdd, wNeg, wNot, wInt, wAbs, wMax, wMin, wBits, tMt, Ev.wEq, Ev.wNe, Ev.eqS, List.getElem?_cons_zero, List.getElem?_cons_succ, List.set_cons_zero, List.set_cons_succ, List.cons_append, List.nil_append]
        refine ⟨MulOk.of bn (b := 20) (⟨by decide⟩), ?_⟩
        refine ok__law_mix (a := 61) (b := b + 22) ?_ ?_ (by omega) fun x x0 x1 => ?_
        · exact Bd.add bm (Bd.mono (bn.mul (b := 20) (⟨by decide⟩)) (by decide))
        · exact Bd.add (a := b + 21) (ht.mono (by omega)) (bn.mono (by omega))
        · have b32 : Bd 32 (2147483587 : Int) := ⟨by decide⟩
          refine ⟨MulOk.of bj b32 (by omega), hk _ _ ⟨rfl, x, _, _, rfl, ⟨x0, x1⟩, ?_⟩⟩
          have e : 32 * (n + 1) + 1 = (32 * n + 1 + 31) + 1 := by omega
          rw [e]
          have b31 : Bd 31 (2147483587 : Int) := ⟨by decide⟩
          exact Bd.add (bj.mul b31) (Bd.mono (nat31 ⟨x0, x1⟩) (by omega))
      · obtain ⟨rfl, m', j', o, rfl, _⟩ := hp
        exact hk _ _ ⟨rfl, m', j', o, rfl⟩
theorem ok__law_take {s : Addr} {n nb : Nat} {bd : Int} (S : Sto M s n) (hn : n ≤ 1000000) (h1 : 1 ≤ bd) (hb : Bd nb bd) (hnb : nb ≤ 1100000) (h : ∀ z M', 0 ≤ z → z < bd → Sto M' s (n + 1) → Fr s M M' → Q (.int z) M') : sp__law_take G L [.ref s, .int bd] M Q E := by
  obtain ⟨cs, xs, i, b, m, c, hS, hC, hne, hx, hxl, hi, hbb, hm, hc0, hc1⟩ := S.ex
  show t__law_take G L ⟨fun _ M' => Q .non M', Q, fun _ _ => False, fun _ _ => False, fun C p _ M' => E C p M'⟩ [some (.ref s), some (.int bd), none, none] M
  unfold t__law_take
  walk_at "evS"
  refine if_by (fun h2 => ?_) fun h2 => ?_
  · walk_at "evS"
    exact h 0 M (by decide) (by omega) (S.mono (by omega)) (Fr.refl M)
  walk_at "evS"
  refine wIx_ref hS rfl ?_
  walk_at "evS"
  refine setIx_i (ws' := [.ref cs, .int i, .int b, .int m, .int (c + 1)]) hS rfl rfl ?_
  have hS1 : put M s (.lst [.ref cs, .int i, .int b, .int m, .int (c + 1)]) s = some (.lst [.ref cs, .int i, .int b, .int m, .int (c + 1)]) := put_same
  have hf1 : Fr s M (put M s (.lst [.ref cs, .int i, .int b, .int m, .int (c + 1)])) := Fr.put hS
  generalize he : put M s (.lst [.ref cs, .int i, .int b, .int m, .int (c + 1)]) = M1 at hS1 hf1
  have bc : Bd 60 (c + 1) := ⟨by omega⟩
  have bm : Bd 60 m := ⟨by omega⟩
  refine seq_inv (fun τ' M' => ∃ (i b m : Int) (o o' : Option W), τ' = [some (.ref s), some (.int bd), o, o'] ∧ M' s = some (.lst [.ref cs, .int i, .int b, .int m, .int (c + 1)]) ∧ Fr s M M' ∧ (0 ≤ i ∧ i ≤ xs.length) ∧ (0 ≤ b ∧ Bd 1048576 b) ∧ (0 ≤ m ∧ m < 2147483648)) (fun τ' M' hp => ?_) fun k hk => ?_
  · obtain ⟨i, b, m, o, o', rfl, hS2, hf2, hi, hbb, hm⟩ := hp
    have bm : Bd 60 m := ⟨by omega⟩
    walk_at "evS"
    refine wIx_ref hS2 rfl ?_
    walk_at "evS"
    refine if_by (fun h3 => ?_) fun h3 => ?_
    · walk_at "evS"
      refine wIx_ref hS2 rfl ?_
      walk_at "evS"
      refine wI_i (by omega) ?_
      walk_at "evS"
      refine setIx_i hS2 rfl rfl ?_
      walk_at "evS"
      refine wI_i (by omega) ?_
      have r := fmod_rng (i := b) (j := bd) (by omega)
      have r2 := fdiv_rng (i := b) (j := bd) hbb.1 (by omega)
      refine h _ _ r.1 r.2 ⟨cs, xs, i, _, m, c + 1, put_same, ?_, hne, hx, hxl, hi, ⟨r2.1, hbb.2.of_le (by omega)⟩, hm, by omega, by omega⟩ (hf2.trans (Fr.put hS2))
      exact (Fr.put hS2).kp _ hne _ (hf2.kp _ hne _ hC)
    · walk_at "evS"
      refine wIx_ref hS2 rfl ?_
      walk_at "evS"
      refine wIx_ref hS2 rfl ?_
      walk_at "evS"
      refine ok__law_wide bm bc (by decide) h1 hb hnb fun z z0 z1 => h z M' z0 z1 ⟨cs, xs, i, b, m, c + 1, hS2, hf2.kp _ hne _ hC, hne, hx, hxl, hi, hbb, hm, by omega, by omega⟩ hf2
  · walk_at "evS"
    refine wIx_ref hS1 rfl ?_
    walk_at "evS"
    refine if_by (fun h3 => ?_) fun h3 => ?_
    · walk_at "evS"
      refine wIx_ref hS1 rfl ?_
      walk_at "evS"
      refine wIx_ref hS1 rfl ?_
      walk_at "evS"
      have hC1 := hf1.kp _ hne _ hC
      refine wLen_ref hC1 ?_
      walk_at "evS"
      rw [List.length_map]
      refine if_by (fun h4 => ?_) fun h4 => ?_
      · walk_at "evS"
        refine wIx_ref hS1 rfl ?_
        walk_at "evS"
        refine wIx_ref hS1 rfl ?_
        walk_at "evS"
        have hl : i.toNat < xs.length := by omega
        have ea : L2.atI (xs.map W.int) i = some (.int xs[i.toNat]) := by
          unfold L2.atI L2.ixN
          rw [if_pos hi.1, List.length_map, if_pos h4, Option.bind_some, List.getElem?_map, List.getElem?_eq_getElem hl]
          rfl
        have hgx := hx _ (List.getElem_mem hl)
        generalize xs[i.toNat] = gv at ea hgx
        refine wIx_ref hC1 ea ?_
        walk_at "evS"
        refine wIx_ref hS1 rfl ?_
        walk_at "evS"
        refine setIx_i (ws' := [.ref cs, .int (i + 1), .int b, .int m, .int (c + 1)]) hS1 rfl rfl ?_
        have hS2 : put M1 s (.lst [.ref cs, .int (i + 1), .int b, .int m, .int (c + 1)]) s = some (.lst [.ref cs, .int (i + 1), .int b, .int m, .int (c + 1)]) := put_same
        have hf2 : Fr s M (put M1 s (.lst [.ref cs, .int (i + 1), .int b, .int m, .int (c + 1)])) := hf1.trans (Fr.put hS1)
        generalize he2 : put M1 s (.lst [.ref cs, .int (i + 1), .int b, .int m, .int (c + 1)]) = M2 at hS2 hf2
        walk_at "evS"
        refine wIx_ref hS2 rfl ?_
        walk_at "evS"
        refine wIx_ref hS2 rfl ?_
        walk_at "evS"
        refine ok__law_mix (a := 1048577) (b := 60) (Bd.add hgx (bm.mono (by decide))) ⟨by omega⟩ (by decide) fun m' m0 m1 => ?_
        walk_at "evS"
        refine setIx_i (ws' := [.ref cs, .int (i + 1), .int b, .int m', .int (c + 1)]) hS2 rfl rfl ?_
        have hS3 : put M2 s (.lst [.ref cs, .int (i + 1), .int b, .int m', .int (c + 1)]) s = some (.lst [.ref cs, .int (i + 1), .int b, .int m', .int (c + 1)]) := put_same
        have hf3 : Fr s M (put M2 s (.lst [.ref cs, .int (i + 1), .int b, .int m', .int (c + 1)])) := hf2.trans (Fr.put hS2)
        generalize put M2 s (.lst [.ref cs, .int (i + 1), .int b, .int m', .int (c + 1)]) = M3 at hS3 hf3
        walk_at "evS"
        refine wI_i ⟨by decide, by decide, by decide⟩ ?_
        walk_at "evS"
        refine if_by (fun h5 => ?_) fun h5 => ?_
        · walk_at "evS"
          refine wIx_ref hS3 rfl ?_
          walk_at "evS"
          refine ok__law_wide hgx bc (by decide) h1 hb hnb fun z z0 z1 => h z M3 z0 z1 ⟨cs, xs, i + 1, b, m', c + 1, hS3, hf3.kp _ hne _ hC, hne, hx, hxl, ⟨by omega, by omega⟩, hbb, ⟨m0, by omega⟩, by omega, by omega⟩ hf3
        · walk_at "evS"
          refine setIx_i hS3 rfl rfl ?_
          refine hk _ _ ⟨i + 1, _, m', _, _, rfl, put_same, hf3.trans (Fr.put hS3), ⟨by omega, by omega⟩, ⟨?_, ?_⟩, ⟨m0, by omega⟩⟩
          · split <;> omega
          · refine hgx.of_le ?_
            split <;> omega
      · walk_at "evS"
        exact hk _ _ ⟨i, b, m, _, _, rfl, hS1, hf1, hi, hbb, hm⟩
    · walk_at "evS"
      exact hk _ _ ⟨i, b, m, _, _, rfl, hS1, hf1, hi, hbb, hm⟩
theorem ok__law_edge {s : Addr} {n : Nat} {lo hi : Int} (S : Sto M s n) (hn : n + 2 ≤ 1000000) (hle : lo ≤ hi) (bl : Bd 64 lo) (bh : Bd 64 hi) (h : ∀ z M', lo ≤ z → z ≤ hi → Sto M' s (n + 2) → Fr s M M' → Q (.int z) M') : sp__law_edge G L [.ref s, .int lo, .int hi] M Q E := by
  show t__law_edge G L ⟨fun _ M' => Q .non M', Q, fun _ _ => False, fun _ _ => False, fun C p _ M' => E C p M'⟩ [some (.ref s), some (.int lo), some (.int hi), none] M
  unfold t__law_edge
  walk_at "evS"
  refine ok__law_take S (by omega) (by decide) (nb := 20) ⟨by decide⟩ (by decide) fun z M1 z0 z1 S1 f1 => ?_
  walk_at "evS"
  refine if_by (fun h1 => ?_) fun h1 => ?_
  · walk_at "evS"
    exact h lo M1 (by omega) hle (S1.mono (by omega)) f1
  walk_at "evS"
  refine if_by (fun h2 => ?_) fun h2 => ?_
  · walk_at "evS"
    exact h lo M1 (by omega) hle (S1.mono (by omega)) f1
  walk_at "evS"
  refine if_by (fun h2 => ?_) fun h2 => ?_
  · walk_at "evS"
    exact h hi M1 (by omega) (by omega) (S1.mono (by omega)) f1
  walk_at "evS"
  refine if_by (fun h2 => ?_) fun h2 => ?_
  · walk_at "evS"
    exact h _ M1 (by omega) (by omega) (S1.mono (by omega)) f1
  walk_at "evS"
  refine if_by (fun h2 => ?_) fun h2 => ?_
  · walk_at "evS"
    exact h _ M1 (by omega) (by omega) (S1.mono (by omega)) f1
  walk_at "evS"
  refine if_by (fun h2 => ?_) fun h2 => ?_
  · walk_at "evS"
    refine h _ M1 ?_ ?_ (S1.mono (by omega)) f1
    · split <;> split <;> omega
    · split <;> split <;> omega
  walk_at "evS"
  refine if_by (fun h2 => ?_) fun h2 => ?_
  · walk_at "evS"
    refine ok__law_take S1 (by omega) (by decide) (nb := 20) ⟨by decide⟩ (by decide) fun z2 M2 y0 y1 S2 f2 => ?_
    walk_at "evS"
    refine h _ M2 ?_ ?_ S2 (f1.trans f2)
    · split <;> omega
    · split <;> omega
  · walk_at "evS"
    refine ok__law_take S1 (by omega) (by omega) (nb := 66) (Bd.add (a := 65) (bh.sub bl) ⟨by decide⟩) (by decide) fun z2 M2 y0 y1 S2 f2 => ?_
    walk_at "evS"
    exact h _ M2 (by omega) (by omega) S2 (f1.trans f2)
theorem ok__law_scaled {s : Addr} {n most : Nat} (S : Sto M s n) (hn : n + 3 ≤ 1000000) (hm : most ≤ 1000000) (h : ∀ z M', 0 ≤ z → Bd most z → Sto M' s (n + 3) → Fr s M M' → Q (.int z) M') : sp__law_scaled G L [.ref s, .int (most : Int)] M Q E := by
  show t__law_scaled G L ⟨fun _ M' => Q .non M', Q, fun _ _ => False, fun _ _ => False, fun C p _ M' => E C p M'⟩ [some (.ref s), some (.int most), none, none] M
  unfold t__law_scaled
  walk_at "evS"
  refine ok__law_take S (by omega) (by omega) (nb := 64) ⟨by omega⟩ (by decide) fun z M1 z0 z1 S1 f1 => ?_
  walk_at "evS"
  refine ok__law_take S1 (by omega) (by decide) (nb := 20) ⟨by decide⟩ (by decide) fun y M2 y0 y1 S2 f2 => ?_
  obtain ⟨wd, rfl⟩ := Int.eq_ofNat_of_zero_le z0
  have hp : (0 : Int) < 2 ^ wd := Int.pow_pos (by decide)
  have hb : Bd (wd + 1) (2 ^ wd) := bd_pow2
  have hw : wd ≤ most := by omega
  have bl : ∀ {z : Int}, 0 ≤ z → z < 2 ^ wd → Bd most z := fun h0 h1 => (bd_lt h0 h1).mono hw
  have so : ShlOk 1 (wd : Int) := shlOk_of (n := 1) (by decide) (by omega)
  have e1 : (1 : Int) * 2 ^ (wd : Int).toNat = 2 ^ wd := by rw [Int.one_mul, Int.toNat_natCast]
  have e2 : 1 < (wd : Int) → (2 : Int) ≤ 2 ^ wd := fun hw => by
    obtain ⟨k, rfl⟩ : ∃ k, wd = k + 1 := ⟨wd - 1, by omega⟩
    have : (0 : Int) < 2 ^ k := Int.pow_pos (by decide)
    rw [Int.pow_succ]
    omega
  walk_at "evS"
  refine if_by (fun h2 => ?_) fun h2 => ?_
  · walk_at "evS"
    refine wI_i so ?_
    rw [e1]
    walk_at "evS"
    exact h _ M2 (by omega) (bl (by omega) (by omega)) (S2.mono (by omega)) (f1.trans f2)
  walk_at "evS"
  refine if_by (fun h3 => ?_) fun h3 => ?_
  · walk_at "evS"
    refine if_by (fun h4 => ?_) fun h4 => ?_
    · walk_at "evS"
      refine wI_i so ?_
      rw [e1]
      walk_at "evS"
      exact h _ M2 (by omega) (hb.mono (by omega)) (S2.mono (by omega)) (f1.trans f2)
    · walk_at "evS"
      refine if_n (by omega) ?_
      walk_at "evS"
      refine wI_i so ?_
      rw [e1]
      walk_at "evS"
      exact ok__law_take S2 (by omega) (by omega) hb (by omega) fun x M3 x0 x1 S3 f3 => h _ M3 x0 (bl x0 x1) S3 ((f1.trans f2).trans f3)
  · walk_at "evS"
    refine if_by (fun h4 => ?_) fun h4 => ?_
    · walk_at "evS"
      refine if_by (fun h5 => ?_) fun h5 => ?_
      · walk_at "evS"
        refine wI_i so ?_
        rw [e1]
        walk_at "evS"
        have := e2 h5
        exact h _ M2 (by omega) (bl (by omega) (by omega)) (S2.mono (by omega)) (f1.trans f2)
      · walk_at "evS"
        refine wI_i so ?_
        rw [e1]
        walk_at "evS"
        exact ok__law_take S2 (by omega) (by omega) hb (by omega) fun x M3 x0 x1 S3 f3 => h _ M3 x0 (bl x0 x1) S3 ((f1.trans f2).trans f3)
    · walk_at "evS"
      refine wI_i so ?_
      rw [e1]
      walk_at "evS"
      exact ok__law_take S2 (by omega) (by omega) hb (by omega) fun x M3 x0 x1 S3 f3 => h _ M3 x0 (bl x0 x1) S3 ((f1.trans f2).trans f3)
theorem ok__law_no_integer {s : Addr} {n : Nat} (S : Sto M s n) (hn : n + 1 ≤ 1000000) (h : ∀ w M', NoInt s M' w → Sto M' s (n + 1) → Fr s M M' → Q w M') : sp__law_no_integer G L [.ref s] M Q E := by
  show t__law_no_integer G L ⟨fun _ M' => Q .non M', Q, fun _ _ => False, fun _ _ => False, fun C p _ M' => E C p M'⟩ [some (.ref s), none] M
  unfold t__law_no_integer
  walk_at "evS"
  intro p1 q1
  have S1 := S.put (o := .lst [.int 0]) q1
  have f1 : Fr s M (put M p1 (.lst [.int 0])) := (Ext.new q1).fr
  have m1 : put M p1 (.lst [.int 0]) p1 = some (.lst [.int 0]) := put_same
  have n1 := S.ne q1
  generalize put M p1 (.lst [.int 0]) = M1 at S1 f1 m1
  walk_at "evS"
  intro p2 q2
  have S2 := S1.put (o := .lst []) q2
  have e2 : Ext M1 (put M1 p2 (.lst [])) := Ext.new q2
  have f2 : Fr s M (put M1 p2 (.lst [])) := f1.trans (Ext.new q2).fr
  have m2 : put M1 p2 (.lst []) p2 = some (.lst []) := put_same
  have n2 := S1.ne q2
  have m1 := e2 _ _ m1
  generalize put M1 p2 (.lst []) = M2 at S2 f2 m2 m1
  walk_at "evS"
  intro p3 q3
  have S3 := S2.put (o := .lst [.non, .bl true, .bl false, .str "0", .str "", .tup [.int 1], .tup [], .ref p1, .ref p2]) q3
  have e3 : Ext M2 (put M2 p3 (.lst [.non, .bl true, .bl false, .str "0", .str "", .tup [.int 1], .tup [], .ref p1, .ref p2])) := Ext.new q3
  have f3 : Fr s M (put M2 p3 (.lst [.non, .bl true, .bl false, .str "0", .str "", .tup [.int 1], .tup [], .ref p1, .ref p2])) := f2.trans (Ext.new q3).fr
  have m3 : put M2 p3 (.lst [.non, .bl true, .bl false, .str "0", .str "", .tup [.int 1], .tup [], .ref p1, .ref p2]) p3 = some (.lst [.non, .bl true, .bl false, .str "0", .str "", .tup [.int 1], .tup [], .ref p1, .ref p2]) := put_same
  have n3 := S2.ne q3
  have m1 := e3 _ _ m1
  have m2 := e3 _ _ m2
  generalize put M2 p3 (.lst [.non, .bl true, .bl false, .str "0", .str "", .tup [.int 1], .tup [], .ref p1, .ref p2]) = M3 at S3 f3 m3 m1 m2
  walk_at "evS"
  refine wLen_ref m3 ?_
  refine ok__law_take (bd := 9) S3 (by omega) (by decide) (nb := 20) ⟨by decide⟩ (by decide) fun z M4 z0 z1 S4 f4 => ?_
  have m4 := f4.kp _ n3 _ m3
  obtain ⟨w, hw, hm⟩ := atI_in (ws := ([.non, .bl true, .bl false, .str "0", .str "", .tup [.int 1], .tup [], .ref p1, .ref p2] : List W)) z0 z1
  refine wIx_ref m4 hw (h w M4 ?_ S4 (f3.trans f4))
  have k1 := f4.kp _ n1 _ m1
  have k2 := f4.kp _ n2 _ m2
  simp only [List.mem_cons, List.not_mem_nil, or_false] at hm
  rcases hm with rfl | rfl | rfl | rfl | rfl | rfl | rfl | rfl | rfl
  · exact .inl rfl
  · exact .inr (.inl ⟨_, rfl⟩)
  · exact .inr (.inl ⟨_, rfl⟩)
  · exact .inr (.inr (.inl ⟨_, rfl⟩))
  · exact .inr (.inr (.inl ⟨_, rfl⟩))
  · exact .inr (.inr (.inr (.inl ⟨_, rfl⟩)))
  · exact .inr (.inr (.inr (.inl ⟨_, rfl⟩)))
  · exact .inr (.inr (.inr (.inr ⟨_, _, rfl, n1, k1⟩)))
  · exact .inr (.inr (.inr (.inr ⟨_, _, rfl, n2, k2⟩)))
end k12

namespace k12
open PySem L2 Ev
local macro_rules | `(tactic| walk_at "evS") => `(tactic| repeat (first | with_reducible refine sSeq_i ?_ | with_reducible refine sAsg_i ?_ | with_reducible refine tV_i rfl ?_ | with_reducible refine tC_i ?_ | with_reducible refine aCons_i ?_ | with_reducible refine aNil_i ?_ | with_reducible refine tOp_i ?_ | with_reducible refine tFn_i ?_ | with_reducible refine tCB_i ?_ | with_reducible refine tTup_i ?_ | with_reducible refine tLst_i ?_ | with_reducible refine tUn_i ?_ | with_reducible refine tIsNf_i ?_ | with_reducible refine tIsNt_i ?_ | with_reducible refine qB_i ?_ | with_reducible refine isB_i ?_ | with_reducible refine qNot_i ?_ | with_reducible refine qAnd_i ?_ | with_reducible refine qOr_i ?_ | with_reducible refine vAnd_i ?_ | with_reducible refine vOr_i ?_ | with_reducible refine tIfE_i ?_ | with_reducible refine tMt_i ?_ | with_reducible refine isR_i ?_ | with_reducible refine sIf_i ?_ | with_reducible refine sRet_i ?_ | with_reducible refine sNext_i ?_ | with_reducible refine sDrop_i ?_ | with_reducible refine sIx_i ?_ | with_reducible refine isRI_i ?_ | with_reducible refine sRaise_i ?_ | with_reducible refine tLam_i fun f hf => ?_ | with_reducible refine sRetN_i ?_ | with_reducible refine if_t ?_ | with_reducible refine if_f ?_ | with_reducible refine wAdd_i ?_ | with_reducible refine wI0_i ?_ | with_reducible refine wEq_i ?_ | with_reducible refine wEq_s ?_ | with_reducible refine wNe_i ?_ | with_reducible refine wInt_i ?_ | with_reducible refine wInt_b ?_ | with_reducible refine wAbs_i ?_ | with_reducible refine wMax_i ?_ | with_reducible refine wMin_i ?_ | with_reducible refine wNeg_i ?_ | with_reducible refine wNot_b ?_ | with_reducible refine wBits_i ?_ | (with_reducible show wIsiK _ _ _ _; first | with_reducible refine wIsi_non_int ?_ | with_reducible refine wIsi_non_bool ?_ | with_reducible refine wIsi_non_str ?_ | with_reducible refine wIsi_non_list ?_ | with_reducible refine wIsi_non_tuple ?_ | with_reducible refine wIsi_bl_int ?_ | with_reducible refine wIsi_bl_bool ?_ | with_reducible refine wIsi_bl_str ?_ | with_reducible refine wIsi_bl_list ?_ | with_reducible refine wIsi_bl_tuple ?_ | with_reducible refine wIsi_int_int ?_ | with_reducible refine wIsi_int_bool ?_ | with_reducible refine wIsi_int_str ?_ | with_reducible refine wIsi_int_list ?_ | with_reducible refine wIsi_int_tuple ?_ | with_reducible refine wIsi_str_int ?_ | with_reducible refine wIsi_str_bool ?_ | with_reducible refine wIsi_str_str ?_ | with_reducible refine wIsi_str_list ?_ | with_reducible refine wIsi_str_tuple ?_ | with_reducible refine wIsi_tup_int ?_ | with_reducible refine wIsi_tup_bool ?_ | with_reducible refine wIsi_tup_str ?_ | with_reducible refine wIsi_tup_list ?_ | with_reducible refine wIsi_tup_tuple ?_ | with_reducible refine wIsi_tup_lt ?_)))
local macro_rules | `(tactic| walk_at "evX") => `(tactic| repeat (first | with_reducible refine sSeq_i ?_ | with_reducible refine sAsg_i ?_ | with_reducible refine tV_i rfl ?_ | with_reducible refine tC_i ?_ | with_reducible refine aCons_i ?_ | with_reducible refine aNil_i ?_ | with_reducible refine tOp_i ?_ | with_reducible refine tFn_i ?_ | with_reducible refine tCB_i ?_ | with_reducible refine tTup_i ?_ | with_reducible refine tLst_i ?_ | with_reducible refine tUn_i ?_ | with_reducible refine tIsNf_i ?_ | with_reducible refine tIsNt_i ?_ | with_reducible refine qB_i ?_ | with_reducible refine isB_i ?_ | with_reducible refine qNot_i ?_ | with_reducible refine qAnd_i ?_ | with_reducible refine qOr_i ?_ | with_reducible refine vAnd_i ?_ | with_reducible refine vOr_i ?_ | with_reducible refine tIfE_i ?_ | with_reducible refine tMt_i ?_ | with_reducible refine isR_i ?_ | with_reducible refine sIf_i ?_ | with_reducible refine sRet_i ?_ | with_reducible refine sNext_i ?_ | with_reducible refine sDrop_i ?_ | with_reducible refine sIx_i ?_ | with_reducible refine isRI_i ?_ | with_reducible refine sRaise_i ?_ | with_reducible refine tLam_i fun f hf => ?_ | with_reducible refine sRetN_i ?_ | with_reducible refine if_t ?_ | with_reducible refine if_f ?_ | with_reducible refine wAdd_i ?_ | with_reducible refine wI0_i ?_ | with_reducible refine wEq_i ?_ | with_reducible refine wEq_s ?_ | with_reducible refine wNe_i ?_ | with_reducible refine wInt_i ?_ | with_reducible refine wInt_b ?_ | with_reducible refine wAbs_i ?_ | with_reducible refine wMax_i ?_ | with_reducible refine wMin_i ?_ | with_reducible refine wNeg_i ?_ | with_reducible refine wNot_b ?_ | with_reducible refine wBits_i ?_ | with_reducible refine if_nt ?_ | with_reducible refine if_nf ?_ | with_reducible refine gTp2_i ?_ | with_reducible refine gTp3_i ?_ | with_reducible refine gTp4_i ?_ | with_reducible refine gNm_i ?_ | with_reducible refine sPar_i ?_ | with_reducible refine par2_i ?_ | with_reducible refine wIx_t0 ?_ | with_reducible refine wIx_t1 ?_ | with_reducible refine wIx_t2 ?_ | with_reducible refine wIx_t3 ?_ | with_reducible refine wLen_t ?_ | with_reducible refine sAsgG_i ?_ | with_reducible refine sPar3_i ?_ | with_reducible refine par3_i ?_ | with_reducible refine tChainW_i ?_ | with_reducible refine chB_i ?_ | with_reducible refine if_self ?_ | with_reducible refine if_nself ?_ | with_reducible refine wNe_s ?_ | with_reducible refine wEq_b ?_ | with_reducible refine tFnD_i ?_ | with_reducible refine tFnK_i ?_ | with_reducible refine tChain3W_i ?_ | with_reducible refine wEqA_i ?_ | with_reducible refine wEqA_s ?_ | with_reducible refine wEqA_b ?_ | with_reducible refine wNeA_i ?_ | with_reducible refine wNeA_s ?_ | with_reducible refine wEqA_t3 ?_ | with_reducible refine tMt0_i ?_ | with_reducible refine tSlW_i ?_ | with_reducible refine pNo_i ?_ | with_reducible refine isI_i ?_ | with_reducible refine pAt_i ?_ | with_reducible refine wSl_t ?_ | (with_reducible show wIsiK _ _ _ _; first | with_reducible refine wIsi_non_int ?_ | with_reducible refine wIsi_non_bool ?_ | with_reducible refine wIsi_non_str ?_ | with_reducible refine wIsi_non_list ?_ | with_reducible refine wIsi_non_tuple ?_ | with_reducible refine wIsi_bl_int ?_ | with_reducible refine wIsi_bl_bool ?_ | with_reducible refine wIsi_bl_str ?_ | with_reducible refine wIsi_bl_list ?_ | with_reducible refine wIsi_bl_tuple ?_ | with_reducible refine wIsi_int_int ?_ | with_reducible refine wIsi_int_bool ?_ | with_reducible refine wIsi_int_str ?_ | with_reducible refine wIsi_int_list ?_ | with_reducible refine wIsi_int_tuple ?_ | with_reducible refine wIsi_str_int ?_ | with_reducible refine wIsi_str_bool ?_ | with_reducible refine wIsi_str_str ?_ | with_reducible refine wIsi_str_list ?_ | with_reducible refine wIsi_str_tuple ?_ | with_reducible refine wIsi_tup_int ?_ | with_reducible refine wIsi_tup_bool ?_ | with_reducible refine wIsi_tup_str ?_ | with_reducible refine wIsi_tup_list ?_ | with_reducible refine wIsi_tup_tuple ?_ | with_reducible refine wIsi_tup_lt ?_)))
local macro_rules | `(tactic| walk_at "evT") => `(tactic| (walk_at "evX"; repeat (first | (with_reducible refine if_y ?h1 ?_; (case h1 => omega); walk_at "evX") | (with_reducible refine if_n ?h1 ?_; (case h1 => omega); walk_at "evX") | (with_reducible refine if_ny ?h1 ?_; (case h1 => omega); walk_at "evX") | (with_reducible refine if_nn ?h1 ?_; (case h1 => omega); walk_at "evX"))))
variable {G : Gm} {L : Lm} {M : Mp} {Q : QK} {E : EK}
/-! ### _law_same of a thing with itself -/
theorem ok__law_int {z : Int} (h : Q (.bl true) M) : sp__law_int G L [.int z] M Q E := by
  show t__law_int G L ⟨fun _ M' => Q .non M', Q, fun _ _ => False, fun _ _ => False, fun C p _ M' => E C p M'⟩ [some (.int z)] M
  unfold t__law_int
  walk_at "evS"
  exact h
def Same (G : Gm) (n : Nat) (w : W) : Prop := ∀ (L : Lm) (M : Mp) (Q : QK) (E : EK), Q (.bl true) M → sp__law_same G n L [w, w] M Q E
theorem same_non {n : Nat} : Same G (n + 1) .non := fun L M Q E h => by
  show t__law_same G (sp__law_same G n) L ⟨fun _ M' => Q .non M', Q, fun _ _ => False, fun _ _ => False, fun C p _ M' => E C p M'⟩ [some .non, some .non, none] M
  unfold t__law_same
  walk_at "evS"
  refine if_t ?_
  walk_at "evS"
  exact h
theorem same_bl {n : Nat} {b : Bool} : Same G (n + 1) (.bl b) := fun L M Q E h => by
  show t__law_same G (sp__law_same G n) L ⟨fun _ M' => Q .non M', Q, fun _ _ => False, fun _ _ => False, fun C p _ M' => E C p M'⟩ [some (.bl b), some (.bl b), none] M
  unfold t__law_same
  walk_at "evS"
  refine if_f ?_
  walk_at "evS"
  show Q (.bl (decide (b = b))) M
  rw [decide_eq_true rfl]
  exact h
theorem same_int {n : Nat} {z : Int} : Same G (n + 1) (.int z) := fun L M Q E h => by
  show t__law_same G (sp__law_same G n) L ⟨fun _ M' => Q .non M', Q, fun _ _ => False, fun _ _ => False, fun C p _ M' => E C p M'⟩ [some (.int z), some (.int z), none] M
  unfold t__law_same
  walk_at "evS"
  refine if_f ?_
  walk_at "evS"
  refine ok__law_int ?_
  walk_at "evS"
  rw [decide_eq_true rfl]
  exact h
theorem same_str {n : Nat} {x : Str} : Same G (n + 1) (.str x) := fun L M Q E h => by
  show t__law_same G (sp__law_same G n) L ⟨fun _ M' => Q .non M', Q, fun _ _ => False, fun _ _ => False, fun C p _ M' => E C p M'⟩ [some (.str x), some (.str x), none] M
  unfold t__law_same
  walk_at "evS"
  refine if_f ?_
  walk_at "evS"
  rw [decide_eq_true rfl]
  exact h
theorem same_tup {n : Nat} {ws : List W} (hw : ∀ w ∈ ws, Same G n w) (hl : ws.length < 2 ^ 62) : Same G (n + 1) (.tup ws) := fun L M Q E h => by
  show t__law_same G (sp__law_same G n) L ⟨fun _ M' => Q .non M', Q, fun _ _ => False, fun _ _ => False, fun C p _ M' => E C p M'⟩ [some (.tup ws), some (.tup ws), none] M
  unfold t__law_same
  walk_at "evS"
  refine if_f ?_
  walk_at "evS"
  refine if_f ?_
  walk_at "evS"
  show (if (!decide ((ws.length : Int) = ws.length)) = true then _ else _)
  rw [decide_eq_true rfl]
  refine if_f ?_
  walk_at "evS"
  refine for_i (j := (ws.length : Int)) (fun Q E q => ?_) ⟨by omega, by omega⟩ ?_
  · walk_at "evS"
    exact q
  refine lpW_inv (fun _ τ' M' => M' = M ∧ ∃ o, τ' = [some (.tup ws), some (.tup ws), o]) _ 0 _ _ (fun j w τ' M' k hj hp hk => ?_) (fun τ' M' hp => ?_) ⟨rfl, _, rfl⟩
  · obtain ⟨rfl, o, rfl⟩ := hp
    obtain ⟨hn, rfl⟩ := rngW_at hj
    rw [Int.toNat_natCast] at hn
    have ea : L2.atI ws (0 + (j : Int)) = some ws[j] := by
      unfold L2.atI L2.ixN
      rw [if_pos (by omega), if_pos (by omega), Option.bind_some, show (0 + (j : Int)).toNat = j from by omega]
      exact List.getElem?_eq_getElem hn
    show sIf _ _ _ ⟨_, _, _, _, _⟩ [some (.tup ws), some (.tup ws), some (.int (0 + (j : Int)))] _
    walk_at "evS"
    refine wIx_tup ea ?_
    walk_at "evS"
    refine wIx_tup ea ?_
    refine hw _ (List.getElem_mem hn) L _ _ _ ?_
    walk_at "evS"
    refine if_f ?_
    walk_at "evS"
    exact hk _ _ ⟨rfl, _, rfl⟩
  · obtain ⟨rfl, o, rfl⟩ := hp
    walk_at "evS"
    exact h
/-! ### errors by name -/
/-- what is known of an own class of errors, its place i among the named ones -/
structure Nmd (G : Gm) (C : Addr) (i : Nat) : Prop where
  exc : ExcC G.K C
  one : ∀ j, j < 17 → PySem.W.kitOne G.K (.ref C) (.ref (G.cls j)) = some (decide (j = i) || decide (j = i_Refused))
  val : PySem.W.kitOne G.K (.ref C) (.type "ValueError") = some true
  ex : ∀ j, j < 17 → PySem.W.exmOne G.K (.ref C) (.ref (G.cls j)) = some (decide (j = i) || decide (j = i_Refused))
theorem wIsi_exc {a C : Addr} {i j : Nat} {k : Bool} (N : Nmd G C i) (hj : j < 17) (hM : M a = some (.exc C none)) (hk : (decide (j = i) || decide (j = i_Refused)) = k) (h : Q (.bl k) M) : wIsiK G.K [.ref a, .ref (G.cls j)] M Q := by
  unfold wIsiK
  dsimp only
  rw [hM]
  exact ⟨N.exc, _, k, rfl, by rw [← hk]; exact N.one j hj, h⟩
theorem wIsi_val {a C : Addr} {i : Nat} (N : Nmd G C i) (hM : M a = some (.exc C none)) (h : Q (.bl true) M) : wIsiK G.K [.ref a, .ty "ValueError"] M Q := by
  unfold wIsiK
  dsimp only
  rw [hM]
  exact ⟨N.exc, _, true, rfl, N.val, h⟩
theorem app_r {M : Mp} {a : Addr} {ws : List W} {y : W} {Q : QK} (h : M a = some (.lst ws)) (l : ws.length < 1000) (q : ∀ M', M' a = some (.lst (ws ++ [y])) → (∀ b, b ≠ a → M' b = M b) → Q .non M') : (∃ xs, M a = some (.lst xs)) ∧ wApp a [y] M Q := ⟨⟨ws, h⟩, wApp_ref h l (q _ put_same fun b hb => put_ne hb)⟩
def rowN (i : Nat) : List W := [.tup [.str "BadCount", .bl (decide (i_BadCount = i) || decide (i_BadCount = i_Refused))], .tup [.str "BadFormat", .bl (decide (i_BadFormat = i) || decide (i_BadFormat = i_Refused))], .tup [.str "BadNumber", .bl (decide (i_BadNumber = i) || decide (i_BadNumber = i_Refused))], .tup [.str "BadExact", .bl (decide (i_BadExact = i) || decide (i_BadExact = i_Refused))], .tup [.str "BadMode", .bl (decide (i_BadMode = i) || decide (i_BadMode = i_Refused))], .tup [.str "BadOp", .bl (decide (i_BadOp = i) || decide (i_BadOp = i_Refused))], .tup [.str "BadText", .bl (decide (i_BadText = i) || decide (i_BadText = i_Refused))], .tup [.str "BadCut", .bl (decide (i_BadCut = i) || decide (i_BadCut = i_Refused))], .tup [.str "BadPlan", .bl (decide (i_BadPlan = i) || decide (i_BadPlan = i_Refused))], .tup [.str "BadChain", .bl (decide (i_BadChain = i) || decide (i_BadChain = i_Refused))], .tup [.str "BadFamily", .bl (decide (i_BadFamily = i) || decide (i_BadFamily = i_Refused))], .tup [.str "BadSpan", .bl (decide (i_BadSpan = i) || decide (i_BadSpan = i_Refused))], .tup [.str "BadProgram", .bl (decide (i_BadProgram = i) || decide (i_BadProgram = i_Refused))], .tup [.str "BadBox", .bl (decide (i_BadBox = i) || decide (i_BadBox = i_Refused))], .tup [.str "NotAsked", .bl (decide (i_NotAsked = i) || decide (i_NotAsked = i_Refused))], .tup [.str "TooMany", .bl (decide (i_TooMany = i) || decide (i_TooMany = i_Refused))], .tup [.str "no ValueError", .bl (!true)]]
def rowB : W → Bool
  | .tup [_, .bl b] => b
  | _ => false
def rowX : W → W
  | .tup [x, _] => x
  | _ => .non
def nms (i : Nat) : List W := ((rowN i).filter rowB).map rowX
theorem ok__law_names {a0 C : Addr} {i : Nat} (N : Nmd G C i) (h0 : M a0 = some (.exc C none)) (h : ∀ M', Ext M M' → Q (.tup (nms i)) M') : sp__law_names G a0 [.ref a0] M Q := by
  show t__law_names G a0 ⟨fun _ M' => Q .non M', Q, fun _ _ => False, fun _ _ => False, fun _ _ _ _ => False⟩ [some (.ref a0), none, none] M
  unfold t__law_names
  walk_at "evS"
  refine wIsi_exc N (by decide) h0 rfl ?_
  walk_at "evS"
  refine wIsi_exc N (by decide) h0 rfl ?_
  walk_at "evS"
  intro p hp
  have n0 : p ≠ a0 := fun z => by rw [z, h0] at hp; cases hp
  have M0 := M
  have x0 : Ext M (put M p (.lst ((rowN i).take 2))) := Ext.new hp
  have m0 : put M p (.lst ((rowN i).take 2)) p = some (.lst ((rowN i).take 2)) := put_same
  show sSeq _ _ ⟨_, _, _, _, _⟩ [some (.ref a0), some (.ref p), none] (put M p (.lst ((rowN i).take 2)))
  generalize put M p (.lst ((rowN i).take 2)) = M1 at x0 m0
  have h1 := x0 _ _ h0
  refine sSeq_i ?_
  refine sDrop_i ?_
  refine tMt_i ?_
  refine tV_i rfl ?_
  refine isR_i ?_
  refine ⟨⟨_, m0⟩, ?_⟩
  refine aCons_i ?_
  refine tTup_i ?_
  refine aCons_i ?_
  refine tC_i ?_
  refine aCons_i ?_
  refine tCB_i ?_
  refine aCons_i ?_
  refine tV_i rfl ?_
  refine aCons_i ?_
  refine tC_i ?_
  refine aNil_i ?_
  refine wIsi_exc N (by decide) h1 rfl ?_
  refine aNil_i ?_
  refine aNil_i ?_
  refine wApp_s m0 (Nat.lt_of_le_of_lt (Nat.le_of_eq (show _ = (2 : Nat) from rfl)) (by decide)) fun M2 m1 f1 => ?_
  have m1 : M2 p = some (.lst ((rowN i).take 3)) := m1
  have x1 : Ext M M2 := fun b o e => by
    have e1 := x0 b o e
    rw [← e1]
    refine f1 b fun z => ?_
    rw [z, hp] at e
    cases e
  have h2 := x1 _ _ h0
  refine sSeq_i ?_
  refine sDrop_i ?_
  refine tMt_i ?_
  refine tV_i rfl ?_
  refine isR_i ?_
  refine ⟨⟨_, m1⟩, ?_⟩
  refine aCons_i ?_
  refine tTup_i ?_
  refine aCons_i ?_
  refine tC_i ?_
  refine aCons_i ?_
  refine tCB_i ?_
  refine aCons_i ?_
  refine tV_i rfl ?_
  refine aCons_i ?_
  refine tC_i ?_
  refine aNil_i ?_
  refine wIsi_exc N (by decide) h2 rfl ?_
  refine aNil_i ?_
  refine aNil_i ?_
  refine wApp_s m1 (Nat.lt_of_le_of_lt (Nat.le_of_eq (show _ = (3 : Nat) from rfl)) (by decide)) fun M3 m2 f2 => ?_
  have m2 : M3 p = some (.lst ((rowN i).take 4)) := m2
  have x2 : Ext M M3 := fun b o e => by
    have e1 := x1 b o e
    rw [← e1]
    refine f2 b fun z => ?_
    rw [z, hp] at e
    cases e
  have h3 := x2 _ _ h0
  refine sSeq_i ?_
  refine sDrop_i ?_
  refine tMt_i ?_
  refine tV_i rfl ?_
  refine isR_i ?_
  refine ⟨⟨_, m2⟩, ?_⟩
  refine aCons_i ?_
  refine tTup_i ?_
  refine aCons_i ?_
  refine tC_i ?_
  refine aCons_i ?_
  refine tCB_i ?_
  refine aCons_i ?_
  refine tV_i rfl ?_
  refine aCons_i ?_
  refine tC_i ?_
  refine aNil_i ?_
  refine wIsi_exc N (by decide) h3 rfl ?_
  refine aNil_i ?_
  refine aNil_i ?_
  refine wApp_s m2 (Nat.lt_of_le_of_lt (Nat.le_of_eq (show _ = (4 : Nat) from rfl)) (by decide)) fun M4 m3 f3 => ?_
  have m3 : M4 p = some (.lst ((rowN i).take 5)) := m3
  have x3 : Ext M M4 := fun b o e => by
    have e1 := x2 b o e
    rw [← e1]
    refine f3 b fun z => ?_
    rw [z, hp] at e
    cases e
  have h4 := x3 _ _ h0
  refine sSeq_i ?_
  refine sDrop_i ?_
  refine tMt_i ?_
  refine tV_i rfl ?_
  refine isR_i ?_
  refine ⟨⟨_, m3⟩, ?_⟩
  refine aCons_i ?_
  refine tTup_i ?_
  refine aCons_i ?_
  refine tC_i ?_
  refine aCons_i ?_
  refine tCB_i ?_
  refine aCons_i ?_
  refine tV_i rfl ?_
  refine aCons_i ?_
  refine tC_i ?_
  refine aNil_i ?_
  refine wIsi_exc N (by decide) h4 rfl ?_
  refine aNil_i ?_
  refine aNil_i ?_
  refine wApp_s m3 (Nat.lt_of_le_of_lt (Nat.le_of_eq (show _ = (5 : Nat) from rfl)) (by decide)) fun M5 m4 f4 => ?_
  have m4 : M5 p = some (.lst ((rowN i).take 6)) := m4
  have x4 : Ext M M5 := fun b o e => by
    have e1 := x3 b o e
    rw [← e1]
    refine f4 b fun z => ?_
    rw [z, hp] at e
    cases e
  have h5 := x4 _ _ h0
  refine sSeq_i ?_
  refine sDrop_i ?_
  refine tMt_i ?_
  refine tV_i rfl ?_
  refine isR_i ?_
  refine ⟨⟨_, m4⟩, ?_⟩
  refine aCons_i ?_
  refine tTup_i ?_
  refine aCons_i ?_
  refine tC_i ?_
  refine aCons_i ?_
  refine tCB_i ?_
  refine aCons_i ?_
  refine tV_i rfl ?_
  refine aCons_i ?_
  refine tC_i ?_
  refine aNil_i ?_
  refine wIsi_exc N (by decide) h5 rfl ?_
  refine aNil_i ?_
  refine aNil_i ?_
  refine wApp_s m4 (Nat.lt_of_le_of_lt (Nat.le_of_eq (show _ = (6 : Nat) from rfl)) (by decide)) fun M6 m5 f5 => ?_
  have m5 : M6 p = some (.lst ((rowN i).take 7)) := m5
  have x5 : Ext M M6 := fun b o e => by
    have e1 := x4 b o e
    rw [← e1]
    refine f5 b fun z => ?_
    rw [z, hp] at e
    cases e
  have h6 := x5 _ _ h0
  refine sSeq_i ?_
  refine sDrop_i ?_
  refine tMt_i ?_
  refine tV_i rfl ?_
  refine isR_i ?_
  refine ⟨⟨_, m5⟩, ?_⟩
  refine aCons_i ?_
  refine tTup_i ?_
  refine aCons_i ?_
  refine tC_i ?_
  refine aCons_i ?_
  refine tCB_i ?_
  refine aCons_i ?_
  refine tV_i rfl ?_
  refine aCons_i ?_
  refine tC_i ?_
  refine aNil_i ?_
  refine wIsi_exc N (by decide) h6 rfl ?_
  refine aNil_i ?_
  refine aNil_i ?_
  refine wApp_s m5 (Nat.lt_of_le_of_lt (Nat.le_of_eq (show _ = (7 : Nat) from rfl)) (by decide)) fun M7 m6 f6 => ?_
  have m6 : M7 p = some (.lst ((rowN i).take 8)) := m6
  have x6 : Ext M M7 := fun b o e => by
    have e1 := x5 b o e
    rw [← e1]
    refine f6 b fun z => ?_
    rw [z, hp] at e
    cases e
  have h7 := x6 _ _ h0
  refine sSeq_i ?_
  refine sDrop_i ?_
  refine tMt_i ?_
  refine tV_i rfl ?_
  refine isR_i ?_
  refine ⟨⟨_, m6⟩, ?_⟩
  refine aCons_i ?_
  refine tTup_i ?_
  refine aCons_i ?_
  refine tC_i ?_
  refine aCons_i ?_
  refine tCB_i ?_
  refine aCons_i ?_
  refine tV_i rfl ?_
  refine aCons_i ?_
  refine tC_i ?_
  refine aNil_i ?_
  refine wIsi_exc N (by decide) h7 rfl ?_
  refine aNil_i ?_
  refine aNil_i ?_
  refine wApp_s m6 (Nat.lt_of_le_of_lt (Nat.le_of_eq (show _ = (8 : Nat) from rfl)) (by decide)) fun M8 m7 f7 => ?_
  have m7 : M8 p = some (.lst ((rowN i).take 9)) := m7
  have x7 : Ext M M8 := fun b o e => by
    have e1 := x6 b o e
    rw [← e1]
    refine f7 b fun z => ?_
    rw [z, hp] at e
    cases e
  have h8 := x7 _ _ h0
  refine sSeq_i ?_
  refine sDrop_i ?_
  refine tMt_i ?_
  refine tV_i rfl ?_
  refine isR_i ?_
  refine ⟨⟨_, m7⟩, ?_⟩
  refine aCons_i ?_
  refine tTup_i ?_
  refine aCons_i ?_
  refine tC_i ?_
  refine aCons_i ?_
  refine tCB_i ?_
  refine aCons_i ?_
  refine tV_i rfl ?_
  refine aCons_i ?_
  refine tC_i ?_
  refine aNil_i ?_
  refine wIsi_exc N (by decide) h8 rfl ?_
  refine aNil_i ?_
  refine aNil_i ?_
  refine wApp_s m7 (Nat.lt_of_le_of_lt (Nat.le_of_eq (show _ = (9 : Nat) from rfl)) (by decide)) fun M9 m8 f8 => ?_
  have m8 : M9 p = some (.lst ((rowN i).take 10)) := m8
  have x8 : Ext M M9 := fun b o e => by
    have e1 := x7 b o e
    rw [← e1]
    refine f8 b fun z => ?_
    rw [z, hp] at e
    cases e
  have h9 := x8 _ _ h0
  refine sSeq_i ?_
  refine sDrop_i ?_
  refine tMt_i ?_
  refine tV_i rfl ?_
  refine isR_i ?_
  refine ⟨⟨_, m8⟩, ?_⟩
  refine aCons_i ?_
  refine tTup_i ?_
  refine aCons_i ?_
  refine tC_i ?_
  refine aCons_i ?_
  refine tCB_i ?_
  refine aCons_i ?_
  refine tV_i rfl ?_
  refine aCons_i ?_
  refine tC_i ?_
  refine aNil_i ?_
  refine wIsi_exc N (by decide) h9 rfl ?_
  refine aNil_i ?_
  refine aNil_i ?_
  refine wApp_s m8 (Nat.lt_of_le_of_lt (Nat.le_of_eq (show _ = (10 : Nat) from rfl)) (by decide)) fun M10 m9 f9 => ?_
  have m9 : M10 p = some (.lst ((rowN i).take 11)) := m9
  have x9 : Ext M M10 := fun b o e => by
    have e1 := x8 b o e
    rw [← e1]
    refine f9 b fun z => ?_
    rw [z, hp] at e
    cases e
  have h10 := x9 _ _ h0
  refine sSeq_i ?_
  refine sDrop_i ?_
  refine tMt_i ?_
  refine tV_i rfl ?_
  refine isR_i ?_
  refine ⟨⟨_, m9⟩, ?_⟩
  refine aCons_i ?_
  refine tTup_i ?_
  refine aCons_i ?_
  refine tC_i ?_
  refine aCons_i ?_
  refine tCB_i ?_
  refine aCons_i ?_
  refine tV_i rfl ?_
  refine aCons_i ?_
  refine tC_i ?_
  refine aNil_i ?_
  refine wIsi_exc N (by decide) h10 rfl ?_
  refine aNil_i ?_
  refine aNil_i ?_
  refine wApp_s m9 (Nat.lt_of_le_of_lt (Nat.le_of_eq (show _ = (11 : Nat) from rfl)) (by decide)) fun M11 m10 f10 => ?_
  have m10 : M11 p = some (.lst ((rowN i).take 12)) := m10
  have x10 : Ext M M11 := fun b o e => by
    have e1 := x9 b o e
    rw [← e1]
    refine f10 b fun z => ?_
    rw [z, hp] at e
    cases e
  have h11 := x10 _ _ h0
  refine sSeq_i ?_
  refine sDrop_i ?_
  refine tMt_i ?_
  refine tV_i rfl ?_
  refine isR_i ?_
  refine ⟨⟨_, m10⟩, ?_⟩
  refine aCons_i ?_
  refine tTup_i ?_
  refine aCons_i ?_
  refine tC_i ?_
  refine aCons_i ?_
  refine tCB_i ?_
  refine aCons_i ?_
  refine tV_i rfl ?_
  refine aCons_i ?_
  refine tC_i ?_
  refine aNil_i ?_
  refine wIsi_exc N (by decide) h11 rfl ?_
  refine aNil_i ?_
  refine aNil_i ?_
  refine wApp_s m10 (Nat.lt_of_le_of_lt (Nat.le_of_eq (show _ = (12 : Nat) from rfl)) (by decide)) fun M12 m11 f11 => ?_
  have m11 : M12 p = some (.lst ((rowN i).take 13)) := m11
  have x11 : Ext M M12 := fun b o e => by
    have e1 := x10 b o e
    rw [← e1]
    refine f11 b fun z => ?_
    rw [z, hp] at e
    cases e
  have h12 := x11 _ _ h0
  refine sSeq_i ?_
  refine sDrop_i ?_
  refine tMt_i ?_
  refine tV_i rfl ?_
  refine isR_i ?_
  refine ⟨⟨_, m11⟩, ?_⟩
  refine aCons_i ?_
  refine tTup_i ?_
  refine aCons_i ?_
  refine tC_i ?_
  refine aCons_i ?_
  refine tCB_i ?_
  refine aCons_i ?_
  refine tV_i rfl ?_
  refine aCons_i ?_
  refine tC_i ?_
  refine aNil_i ?_
  refine wIsi_exc N (by decide) h12 rfl ?_
  refine aNil_i ?_
  refine aNil_i ?_
  refine wApp_s m11 (Nat.lt_of_le_of_lt (Nat.le_of_eq (show _ = (13 : Nat) from rfl)) (by decide)) fun M13 m12 f12 => ?_
  have m12 : M13 p = some (.lst ((rowN i).take 14)) := m12
  have x12 : Ext M M13 := fun b o e => by
    have e1 := x11 b o e
    rw [← e1]
    refine f12 b fun z => ?_
    rw [z, hp] at e
    cases e
  have h13 := x12 _ _ h0
  refine sSeq_i ?_
  refine sDrop_i ?_
  refine tMt_i ?_
  refine tV_i rfl ?_
  refine isR_i ?_
  refine ⟨⟨_, m12⟩, ?_⟩
  refine aCons_i ?_
  refine tTup_i ?_
  refine aCons_i ?_
  refine tC_i ?_
  refine aCons_i ?_
  refine tCB_i ?_
  refine aCons_i ?_
  refine tV_i rfl ?_
  refine aCons_i ?_
  refine tC_i ?_
  refine aNil_i ?_
  refine wIsi_exc N (by decide) h13 rfl ?_
  refine aNil_i ?_
  refine aNil_i ?_
  refine wApp_s m12 (Nat.lt_of_le_of_lt (Nat.le_of_eq (show _ = (14 : Nat) from rfl)) (by decide)) fun M14 m13 f13 => ?_
  have m13 : M14 p = some (.lst ((rowN i).take 15)) := m13
  have x13 : Ext M M14 := fun b o e => by
    have e1 := x12 b o e
    rw [← e1]
    refine f13 b fun z => ?_
    rw [z, hp] at e
    cases e
  have h14 := x13 _ _ h0
  refine sSeq_i ?_
  refine sDrop_i ?_
  refine tMt_i ?_
  refine tV_i rfl ?_
  refine isR_i ?_
  refine ⟨⟨_, m13⟩, ?_⟩
  refine aCons_i ?_
  refine tTup_i ?_
  refine aCons_i ?_
  refine tC_i ?_
  refine aCons_i ?_
  refine tCB_i ?_
  refine aCons_i ?_
  refine tV_i rfl ?_
  refine aCons_i ?_
  refine tC_i ?_
  refine aNil_i ?_
  refine wIsi_exc N (by decide) h14 rfl ?_
  refine aNil_i ?_
  refine aNil_i ?_
  refine wApp_s m13 (Nat.lt_of_le_of_lt (Nat.le_of_eq (show _ = (15 : Nat) from rfl)) (by decide)) fun M15 m14 f14 => ?_
  have m14 : M15 p = some (.lst ((rowN i).take 16)) := m14
  have x14 : Ext M M15 := fun b o e => by
    have e1 := x13 b o e
    rw [← e1]
    refine f14 b fun z => ?_
    rw [z, hp] at e
    cases e
  have h15 := x14 _ _ h0
  refine sSeq_i ?_
  refine sDrop_i ?_
  refine tMt_i ?_
  refine tV_i rfl ?_
  refine isR_i ?_
  refine ⟨⟨_, m14⟩, ?_⟩
  refine aCons_i ?_
  refine tTup_i ?_
  refine aCons_i ?_
  refine tC_i ?_
  refine aCons_i ?_
  refine tUn_i ?_
  refine tCB_i ?_
  refine aCons_i ?_
  refine tV_i rfl ?_
  refine aCons_i ?_
  refine tC_i ?_
  refine aNil_i ?_
  refine wIsi_val N h15 ?_
  refine wNot_b ?_
  refine aNil_i ?_
  refine aNil_i ?_
  refine wApp_s m14 (Nat.lt_of_le_of_lt (Nat.le_of_eq (show _ = (16 : Nat) from rfl)) (by decide)) fun M16 m15 f15 => ?_
  have m15 : M16 p = some (.lst ((rowN i).take 17)) := m15
  have x15 : Ext M M16 := fun b o e => by
    have e1 := x14 b o e
    rw [← e1]
    refine f15 b fun z => ?_
    rw [z, hp] at e
    cases e
  have h16 := x15 _ _ h0
  walk_at "evS"
  unfold tLcH
  walk_at "evS"
  refine ⟨_, m15, fun D hD => ?_⟩
  have nDp : D ≠ p := fun z => by rw [z, m15] at hD; cases hD
  have nDa : D ≠ a0 := fun z => by rw [z, h16] at hD; cases hD
  refine cpW_pure rowB rowX (fun M' ws ⟨k1, C', p', k2⟩ => ⟨(put_ne (Ne.symm nDp)).trans k1, C', p', (put_ne (Ne.symm nDa)).trans k2⟩) _ _ [] (fun w hw M' Q' E' _ q => ?_) (fun w hw hb M' Q' E' _ q => ?_) put_same (Nat.le_trans (Nat.le_of_eq (show _ = (17 : Nat) from rfl)) (by decide)) ⟨(put_ne (Ne.symm nDp)).trans m15, C, none, (put_ne (Ne.symm nDa)).trans h16⟩ fun M' e1 e2 => ?_
  · have hh : ∃ x b, w = .tup [.str x, .bl b] := by
      simp only [rowN, List.take, List.cons_append, List.nil_append, List.mem_cons, List.not_mem_nil, or_false] at hw
      rcases hw with rfl | rfl | rfl | rfl | rfl | rfl | rfl | rfl | rfl | rfl | rfl | rfl | rfl | rfl | rfl | rfl | rfl <;> exact ⟨_, _, rfl⟩
    obtain ⟨x, b, rfl⟩ := hh
    walk_at "evS"
    refine wIx_tup (i := 1) rfl ?_
    walk_at "evS"
    exact q
  · have hh : ∃ x b, w = .tup [.str x, .bl b] := by
      simp only [rowN, List.take, List.cons_append, List.nil_append, List.mem_cons, List.not_mem_nil, or_false] at hw
      rcases hw with rfl | rfl | rfl | rfl | rfl | rfl | rfl | rfl | rfl | rfl | rfl | rfl | rfl | rfl | rfl | rfl | rfl <;> exact ⟨_, _, rfl⟩
    obtain ⟨x, b, rfl⟩ := hh
    walk_at "evS"
    exact wIx_tup (i := 0) rfl q
  · walk_at "evS"
    refine wTuple_ref e1 (h M' fun b o e => ?_)
    have nb : b ≠ D := fun z => by
      rw [z] at e
      have e3 := x15 _ _ e
      rw [e3] at hD
      cases hD
    rw [e2 b nb]
    exact (put_ne nb).trans (x15 b o e)
/-! ### what is given back, what is refused -/
theorem ok__law_gives {f : Addr} {tl : TL} {w : W} (hL : L f = some tl) (htl : ∀ (Q : QK) (E : EK), (∀ M', Ext M M' → Q w M') → tl M Q E) (hw : Same G 5 w) (h : ∀ M', Ext M M' → Q (.bl true) M') : sp__law_gives G L [.ref f, w] M Q E := by
  show t__law_gives G L ⟨fun _ M' => Q .non M', Q, fun _ _ => False, fun _ _ => False, fun C p _ M' => E C p M'⟩ [some (.ref f), some w] M
  unfold t__law_gives
  walk_at "evS"
  show t__law_caught G L ⟨fun _ M' => _, _, fun _ _ => False, fun _ _ => False, fun C p _ M' => E C p M'⟩ [some (.ref f), none, none] M
  unfold t__law_caught
  walk_at "evS"
  refine sTry_i ?_
  walk_at "evS"
  refine tAct_i rfl hL ?_
  refine htl _ _ fun M' x => ?_
  walk_at "evS"
  refine same_tup (n := 5) (ws := [.str "returned", w]) (fun y hy => ?_) (show (2 : Nat) < 2 ^ 62 by decide) L M' _ _ (h M' x)
  simp only [List.mem_cons, List.not_mem_nil, or_false] at hy
  rcases hy with rfl | rfl
  · exact same_str
  · exact hw
theorem caught_ok {f : Addr} {tl : TL} {P : W → Prop} (hL : L f = some tl) (htl : ∀ (Q : QK) (E : EK), (∀ w M', P w → Ext M M' → Q w M') → tl M Q E) (h : ∀ w M', P w → Ext M M' → Q (.tup [.str "returned", w]) M') : sp__law_caught G L [.ref f] M Q E := by
  show t__law_caught G L ⟨fun _ M' => _, _, fun _ _ => False, fun _ _ => False, fun C p _ M' => E C p M'⟩ [some (.ref f), none, none] M
  unfold t__law_caught
  walk_at "evS"
  refine sTry_i ?_
  walk_at "evS"
  refine tAct_i rfl hL ?_
  refine htl _ _ fun w M' hw x => ?_
  walk_at "evS"
  exact h w M' hw x
theorem caught_no {f C : Addr} {i : Nat} {tl : TL} {x : Str} (hL : L f = some tl) (htl : ∀ (Q : QK) (E : EK), (∀ M', Ext M M' → E C none M') → tl M Q E) (N : Nmd G C i) (hx : nms i = [.str x]) (hi : i ≠ i_BadText ∧ i ≠ i_BadProgram ∧ i ≠ i_TooMany) (h : ∀ M', Ext M M' → Q (.tup [.str "raised", .tup [.str x], .non]) M') : sp__law_caught G L [.ref f] M Q E := by
  show t__law_caught G L ⟨fun _ M' => _, _, fun _ _ => False, fun _ _ => False, fun C p _ M' => E C p M'⟩ [some (.ref f), none, none] M
  unfold t__law_caught
  walk_at "evS"
  refine sTry_i ?_
  walk_at "evS"
  refine tAct_i rfl hL ?_
  refine htl _ _ fun M' y => ?_
  have no : ∀ j, j < 17 → j ≠ i → j ≠ i_Refused → PySem.W.exmOne G.K (.ref C) (.ref (G.cls j)) = some false := fun j hj h1 h2 => by
    rw [N.ex j hj, decide_eq_false h1, decide_eq_false h2]
    rfl
  refine hs_no (no _ (by decide) (Ne.symm hi.1) (by decide)) ?_
  refine hs_no (no _ (by decide) (Ne.symm hi.2.1) (by decide)) ?_
  refine hs_no (no _ (by decide) (Ne.symm hi.2.2) (by decide)) ?_
  refine hs_yes ?_ fun a ha => ?_
  · rw [N.ex _ (by decide), decide_eq_true (p := i_Refused = i_Refused) rfl, Bool.or_true]
  walk_at "evS"
  refine tFnH_i ?_
  walk_at "evS"
  refine ok__law_names N put_same fun M2 y2 => ?_
  walk_at "evS"
  rw [hx]
  exact h M2 (y.trans ((Ext.new ha).trans y2))
theorem same_raised {x : Str} : Same G 6 (.tup [.str "raised", .tup [.str x], .non]) := by
  refine same_tup (n := 5) (ws := [.str "raised", .tup [.str x], .non]) (fun z hz => ?_) (show (3 : Nat) < 2 ^ 62 by decide)
  simp only [List.mem_cons, List.not_mem_nil, or_false] at hz
  rcases hz with rfl | rfl | rfl
  · exact same_str
  · refine same_tup (n := 4) (fun z hz => ?_) (show (1 : Nat) < 2 ^ 62 by decide)
    rw [List.mem_singleton.mp hz]
    exact same_str
  · exact same_non
theorem ok__law_refuses {f : Addr} {tl : TL} (hL : L f = some tl) (htl : ∀ (Q : QK) (E : EK), (∀ M', Ext M M' → E (G.cls i_BadNumber) none M') → tl M Q E) (N : Nmd G (G.cls i_BadNumber) i_BadNumber) (h : ∀ M', Ext M M' → Q (.bl true) M') : sp__law_refuses G L [.ref f] M Q E := by
  show t__law_refuses G L ⟨fun _ M' => Q .non M', Q, fun _ _ => False, fun _ _ => False, fun C p _ M' => E C p M'⟩ [some (.ref f)] M
  unfold t__law_refuses
  walk_at "evS"
  refine caught_no hL htl N (show nms i_BadNumber = [.str "BadNumber"] from rfl) (by decide) fun M2 y => ?_
  walk_at "evS"
  exact same_raised L M2 _ _ (h M2 y)
end k12

namespace k12
open PySem L2 Ev
local macro_rules | `(tactic| walk_at "evS") => `(tactic| repeat (first | with_reducible refine sSeq_i ?_ | with_reducible refine sAsg_i ?_ | with_reducible refine tV_i rfl ?_ | with_reducible refine tC_i ?_ | with_reducible refine aCons_i ?_ | with_reducible refine aNil_i ?_ | with_reducible refine tOp_i ?_ | with_reducible refine tFn_i ?_ | with_reducible refine tCB_i ?_ | with_reducible refine tTup_i ?_ | with_reducible refine tLst_i ?_ | with_reducible refine tUn_i ?_ | with_reducible refine tIsNf_i ?_ | with_reducible refine tIsNt_i ?_ | with_reducible refine qB_i ?_ | with_reducible refine isB_i ?_ | with_reducible refine qNot_i ?_ | with_reducible refine qAnd_i ?_ | with_reducible refine qOr_i ?_ | with_reducible refine vAnd_i ?_ | with_reducible refine vOr_i ?_ | with_reducible refine tIfE_i ?_ | with_reducible refine tMt_i ?_ | with_reducible refine isR_i ?_ | with_reducible refine sIf_i ?_ | with_reducible refine sRet_i ?_ | with_reducible refine sNext_i ?_ | with_reducible refine sDrop_i ?_ | with_reducible refine sIx_i ?_ | with_reducible refine isRI_i ?_ | with_reducible refine sRaise_i ?_ | with_reducible refine tLam_i fun f hf => ?_ | with_reducible refine sRetN_i ?_ | with_reducible refine if_t ?_ | with_reducible refine if_f ?_ | with_reducible refine wAdd_i ?_ | with_reducible refine wI0_i ?_ | with_reducible refine wEq_i ?_ | with_reducible refine wEq_s ?_ | with_reducible refine wNe_i ?_ | with_reducible refine wInt_i ?_ | with_reducible refine wInt_b ?_ | with_reducible refine wAbs_i ?_ | with_reducible refine wMax_i ?_ | with_reducible refine wMin_i ?_ | with_reducible refine wNeg_i ?_ | with_reducible refine wNot_b ?_ | with_reducible refine wBits_i ?_ | (with_reducible show wIsiK _ _ _ _; first | with_reducible refine wIsi_non_int ?_ | with_reducible refine wIsi_non_bool ?_ | with_reducible refine wIsi_non_str ?_ | with_reducible refine wIsi_non_list ?_ | with_reducible refine wIsi_non_tuple ?_ | with_reducible refine wIsi_bl_int ?_ | with_reducible refine wIsi_bl_bool ?_ | with_reducible refine wIsi_bl_str ?_ | with_reducible refine wIsi_bl_list ?_ | with_reducible refine wIsi_bl_tuple ?_ | with_reducible refine wIsi_int_int ?_ | with_reducible refine wIsi_int_bool ?_ | with_reducible refine wIsi_int_str ?_ | with_reducible refine wIsi_int_list ?_ | with_reducible refine wIsi_int_tuple ?_ | with_reducible refine wIsi_str_int ?_ | with_reducible refine wIsi_str_bool ?_ | with_reducible refine wIsi_str_str ?_ | with_reducible refine wIsi_str_list ?_ | with_reducible refine wIsi_str_tuple ?_ | with_reducible refine wIsi_tup_int ?_ | with_reducible refine wIsi_tup_bool ?_ | with_reducible refine wIsi_tup_str ?_ | with_reducible refine wIsi_tup_list ?_ | with_reducible refine wIsi_tup_tuple ?_ | with_reducible refine wIsi_tup_lt ?_)))
local macro_rules | `(tactic| walk_at "evX") => `(tactic| repeat (first | with_reducible refine sSeq_i ?_ | with_reducible refine sAsg_i ?_ | with_reducible refine tV_i rfl ?_ | with_reducible refine tC_i ?_ | with_reducible refine aCons_i ?_ | with_reducible refine aNil_i ?_ | with_reducible refine tOp_i ?_ | with_reducible refine tFn_i ?_ | with_reducible refine tCB_i ?_ | with_reducible refine tTup_i ?_ | with_reducible refine tLst_i ?_ | with_reducible refine tUn_i ?_ | with_reducible refine tIsNf_i ?_ | with_reducible refine tIsNt_i ?_ | with_reducible refine qB_i ?_ | with_reducible refine isB_i ?_ | with_reducible refine qNot_i ?_ | with_reducible refine qAnd_i ?_ | with_reducible refine qOr_i ?_ | with_reducible refine vAnd_i ?_ | with_reducible refine vOr_i ?_ | with_reducible refine tIfE_i ?_ | with_reducible refine tMt_i ?_ | with_reducible refine isR_i ?_ | with_reducible refine sIf_i ?_ | with_reducible refine sRet_i ?_ | with_reducible refine sNext_i ?_ | with_reducible refine sDrop_i ?_ | with_reducible refine sIx_i ?_ | with_reducible refine isRI_i ?_ | with_reducible refine sRaise_i ?_ | with_reducible refine tLam_i fun f hf => ?_ | with_reducible refine sRetN_i ?_ | with_reducible refine if_t ?_ | with_reducible refine if_f ?_ | with_reducible refine wAdd_i ?_ | with_reducible refine wI0_i ?_ | with_reducible refine wEq_i ?_ | with_reducible refine wEq_s ?_ | with_reducible refine wNe_i ?_ | with_reducible refine wInt_i ?_ | with_reducible refine wInt_b ?_ | with_reducible refine wAbs_i ?_ | with_reducible refine wMax_i ?_ | with_reducible refine wMin_i ?_ | with_reducible refine wNeg_i ?_ | with_reducible refine wNot_b ?_ | with_reducible refine wBits_i ?_ | with_reducible refine if_nt ?_ | with_reducible refine if_nf ?_ | with_reducible refine gTp2_i ?_ | with_reducible refine gTp3_i ?_ | with_reducible refine gTp4_i ?_ | with_reducible refine gNm_i ?_ | with_reducible refine sPar_i ?_ | with_reducible refine par2_i ?_ | with_reducible refine wIx_t0 ?_ | with_reducible refine wIx_t1 ?_ | with_reducible refine wIx_t2 ?_ | with_reducible refine wIx_t3 ?_ | with_reducible refine wLen_t ?_ | with_reducible refine sAsgG_i ?_ | with_reducible refine sPar3_i ?_ | with_reducible refine par3_i ?_ | with_reducible refine tChainW_i ?_ | with_reducible refine chB_i ?_ | with_reducible refine if_self ?_ | with_reducible refine if_nself ?_ | with_reducible refine wNe_s ?_ | with_reducible refine wEq_b ?_ | with_reducible refine tFnD_i ?_ | with_reducible refine tFnK_i ?_ | with_reducible refine tChain3W_i ?_ | with_reducible refine wEqA_i ?_ | with_reducible refine wEqA_s ?_ | with_reducible refine wEqA_b ?_ | with_reducible refine wNeA_i ?_ | with_reducible refine wNeA_s ?_ | with_reducible refine wEqA_t3 ?_ | with_reducible refine tMt0_i ?_ | with_reducible refine tSlW_i ?_ | with_reducible refine pNo_i ?_ | with_reducible refine isI_i ?_ | with_reducible refine pAt_i ?_ | with_reducible refine wSl_t ?_ | (with_reducible show wIsiK _ _ _ _; first | with_reducible refine wIsi_non_int ?_ | with_reducible refine wIsi_non_bool ?_ | with_reducible refine wIsi_non_str ?_ | with_reducible refine wIsi_non_list ?_ | with_reducible refine wIsi_non_tuple ?_ | with_reducible refine wIsi_bl_int ?_ | with_reducible refine wIsi_bl_bool ?_ | with_reducible refine wIsi_bl_str ?_ | with_reducible refine wIsi_bl_list ?_ | with_reducible refine wIsi_bl_tuple ?_ | with_reducible refine wIsi_int_int ?_ | with_reducible refine wIsi_int_bool ?_ | with_reducible refine wIsi_int_str ?_ | with_reducible refine wIsi_int_list ?_ | with_reducible refine wIsi_int_tuple ?_ | with_reducible refine wIsi_str_int ?_ | with_reducible refine wIsi_str_bool ?_ | with_reducible refine wIsi_str_str ?_ | with_reducible refine wIsi_str_list ?_ | with_reducible refine wIsi_str_tuple ?_ | with_reducible refine wIsi_tup_int ?_ | with_reducible refine wIsi_tup_bool ?_ | with_reducible refine wIsi_tup_str ?_ | with_reducible refine wIsi_tup_list ?_ | with_reducible refine wIsi_tup_tuple ?_ | with_reducible refine wIsi_tup_lt ?_)))
local macro_rules | `(tactic| walk_at "evT") => `(tactic| (walk_at "evX"; repeat (first | (with_reducible refine if_y ?h1 ?_; (case h1 => omega); walk_at "evX") | (with_reducible refine if_n ?h1 ?_; (case h1 => omega); walk_at "evX") | (with_reducible refine if_ny ?h1 ?_; (case h1 => omega); walk_at "evX") | (with_reducible refine if_nn ?h1 ?_; (case h1 => omega); walk_at "evX"))))
variable {G : Gm} {L : Lm} {M M0 : Mp} {Q : QK} {E : EK} {s : Addr} {n : Nat}
/-! ### the store, and what stands beside it, behind draws -/
structure SF (M0 M : Mp) (s : Addr) (n : Nat) : Prop where
  st : Sto M s n
  fr : Fr s M0 M
theorem SF.start (h : Sto M s n) : SF M M s n := ⟨h, Fr.refl M⟩
theorem SF.mono {k : Nat} (h : SF M0 M s n) (l : n ≤ k) : SF M0 M s k := ⟨h.st.mono l, h.fr⟩
theorem SF.keep {M' : Mp} (h : SF M0 M s n) (e : Ext M M') : SF M0 M' s n := ⟨h.st.keep e, h.fr.trans e.fr⟩
theorem SF.put {p : Addr} {o : Ob} (h : SF M0 M s n) (hp : M p = none) : SF M0 (Ev.put M p o) s n := h.keep (Ext.new hp)
theorem SF.ne {p : Addr} (h : SF M0 M s n) (hp : M p = none) : p ≠ s := h.st.ne hp
theorem SF.kp {p : Addr} {o : Ob} (h : SF M0 M s n) (hp : p ≠ s) (e : M0 p = some o) : M p = some o := h.fr.kp p hp o e
theorem SF.then {M1 : Mp} {k : Nat} (h : SF M0 M s n) (g : SF M M1 s k) : SF M0 M1 s k := ⟨g.st, h.fr.trans g.fr⟩
theorem take_f {nb : Nat} {bd : Int} (S : SF M0 M s n) (hn : n ≤ 1000000) (h1 : 1 ≤ bd) (hb : Bd nb bd) (hnb : nb ≤ 1100000) (h : ∀ z M', 0 ≤ z → z < bd → SF M0 M' s (n + 1) → Q (.int z) M') : sp__law_take G L [.ref s, .int bd] M Q E :=
  ok__law_take S.st hn h1 hb hnb fun z M' z0 z1 S' f' => h z M' z0 z1 ⟨S', S.fr.trans f'⟩
theorem take_c {bd : Int} (S : SF M0 M s n) (hn : n ≤ 1000000) (h1 : 1 ≤ bd ∧ bd < 1048576) (h : ∀ z M', 0 ≤ z → z < bd → SF M0 M' s (n + 1) → Q (.int z) M') : sp__law_take G L [.ref s, .int bd] M Q E :=
  take_f (nb := 20) S hn h1.1 ⟨by omega⟩ (by decide) h
theorem edge_f {lo hi : Int} (S : SF M0 M s n) (hn : n + 2 ≤ 1000000) (hle : lo ≤ hi) (b : -4611686018427387904 < lo ∧ hi < 4611686018427387904) (h : ∀ z M', lo ≤ z → z ≤ hi → SF M0 M' s (n + 2) → Q (.int z) M') : sp__law_edge G L [.ref s, .int lo, .int hi] M Q E :=
  ok__law_edge S.st hn hle ⟨by omega⟩ ⟨by omega⟩ fun z M' z0 z1 S' f' => h z M' z0 z1 ⟨S', S.fr.trans f'⟩
theorem scaled_f {most : Nat} (S : SF M0 M s n) (hn : n + 3 ≤ 1000000) (hm : most ≤ 1000000) (h : ∀ z M', 0 ≤ z → Bd most z → SF M0 M' s (n + 3) → Q (.int z) M') : sp__law_scaled G L [.ref s, .int (most : Int)] M Q E :=
  ok__law_scaled S.st hn hm fun z M' z0 z1 S' f' => h z M' z0 z1 ⟨S', S.fr.trans f'⟩
theorem noint_f (S : SF M0 M s n) (hn : n + 1 ≤ 1000000) (h : ∀ w M', NoInt s M' w → SF M0 M' s (n + 1) → Q w M') : sp__law_no_integer G L [.ref s] M Q E :=
  ok__law_no_integer S.st hn fun w M' hw S' f' => h w M' hw ⟨S', S.fr.trans f'⟩
/-- lists stay lists -/
def LS (s : Addr) (M M' : Mp) : Prop := ∀ a, a ≠ s → ∀ ws, M a = some (.lst ws) → ∃ ws', M' a = some (.lst ws')
theorem LS.refl (M : Mp) : LS s M M := fun _ _ ws e => ⟨ws, e⟩
theorem LS.trans {M1 M2 : Mp} (a : LS s M M1) (b : LS s M1 M2) : LS s M M2 := fun c n ws e => by
  obtain ⟨w1, e1⟩ := a c n ws e
  exact b c n w1 e1
theorem LS.of_fr {M' : Mp} (f : Fr s M M') : LS s M M' := fun a n ws e => ⟨ws, f.kp a n _ e⟩
theorem SF.ls (h : SF M0 M s n) : LS s M0 M := LS.of_fr h.fr
theorem LS.put {p : Addr} {ws : List W} : LS s M (Ev.put M p (.lst ws)) := fun a _ us e => by
  by_cases h : a = p
  · exact ⟨ws, by rw [h]; exact put_same⟩
  · exact ⟨us, (put_ne h).trans e⟩
theorem NoIntLs {M' : Mp} {w : W} (h : NoInt s M w) (f : LS s M M') : NoInt s M' w := by
  rcases h with h | h | h | h | ⟨a, ws, h1, h2, h3⟩
  · exact .inl h
  · exact .inr (.inl h)
  · exact .inr (.inr (.inl h))
  · exact .inr (.inr (.inr (.inl h)))
  · obtain ⟨ws', e⟩ := f a h2 ws h3
    exact .inr (.inr (.inr (.inr ⟨a, ws', h1, h2, e⟩)))
/-- an own list at p, beside the store, made over Mb -/
structure SL (Mb M : Mp) (s p : Addr) (n : Nat) (ws : List W) : Prop where
  b : ∃ k, Sto Mb s k
  np : Mb p = none
  sf : SF Mb M s n
  at_ : M p = some (.lst ws)
section
variable {Mb M' : Mp} {p q : Addr} {ws ws' : List W} {o : Ob} {k : Nat}
theorem SL.new (S : Sto M s n) (hp : M p = none) : SL M (Ev.put M p (.lst ws)) s p n ws := ⟨⟨n, S⟩, hp, (SF.start S).put hp, put_same⟩
theorem SL.ne (h : SL Mb M s p n ws) : p ≠ s := by
  obtain ⟨k, S⟩ := h.b
  exact S.ne h.np
theorem SL.upd (h : SL Mb M s p n ws) (ws' : List W) : SL Mb (Ev.put M p (.lst ws')) s p n ws' := by
  obtain ⟨k, S⟩ := h.b
  obtain ⟨T, f⟩ := Sto.putD (o := .lst ws') S h.np h.sf.fr h.sf.st
  exact ⟨⟨k, S⟩, h.np, ⟨T, f⟩, put_same⟩
theorem SL.draw (h : SL Mb M s p n ws) (S : SF M M' s k) : SL Mb M' s p k ws := ⟨h.b, h.np, h.sf.then S, S.kp h.ne h.at_⟩
theorem SL.put (h : SL Mb M s p n ws) (hq : M q = none) : SL Mb (Ev.put M q o) s p n ws := h.draw ((SF.start h.sf.st).put hq)
theorem SL.start (h : SL Mb M s p n ws) : SF M M s n := SF.start h.sf.st
theorem SL.app {y : W} (h : SL Mb M s p n ws) (l : ws.length < 1000) (q : ∀ M', SL Mb M' s p n (ws ++ [y]) → (∀ b, b ≠ p → M' b = M b) → LS s M M' → Q .non M') : wApp p [y] M Q :=
  wApp_ref h.at_ l (q _ (h.upd _) (fun b hb => put_ne hb) LS.put)
theorem SL.ext {ys : List W} (h : SL Mb M s p n ws) (hq : M q = some (.lst ys)) (l : ws.length + ys.length ≤ 1000) (g : ∀ M', SL Mb M' s p n (ws ++ ys) → (∀ b, b ≠ p → M' b = M b) → LS s M M' → Q .non M') : wExt p [.ref q] M Q :=
  wExt_refl h.at_ hq l (g _ (h.upd _) (fun b hb => put_ne hb) LS.put)
end
/-! ### a row of truths behind which M is kept -/
structure Row (M : Mp) (r : Addr) (n : Nat) (M' : Mp) : Prop where
  fr : M r = none
  ext : Ext M M'
  tru : Tru M' r n
theorem Row.ex {M M' M2 : Mp} {r : Addr} {n : Nat} (h : Row M r n M') (x : Ext M' M2) : Row M r n M2 := ⟨h.fr, h.ext.trans x, x _ _ h.tru⟩
theorem Row.app {M M' : Mp} {r : Addr} {n : Nat} {Q : QK} (h : Row M r n M') (l : n < 1000) (q : ∀ M2, Row M r (n + 1) M2 → Q .non M2) : wApp r [.bl true] M' Q :=
  h.tru.app l fun M2 t f => q M2 ⟨h.fr, h.ext.at h.fr f, t⟩
theorem Row.new {M M' : Mp} {p : Addr} (x : Ext M M') (hp : M' p = none) : Row M p 1 (put M' p (.lst [.bl true])) := by
  refine ⟨?_, x.trans (Ext.new hp), put_same⟩
  cases e : M p with
  | none => rfl
  | some o =>
    rw [x _ _ e] at hp
    cases hp
theorem Row.lst {M M' : Mp} {r : Addr} {n : Nat} (h : Row M r n M') : ∃ xs, M' r = some (.lst xs) := ⟨_, h.tru⟩
theorem ints_all {xs : List Int} (w : W) (h : w ∈ xs.map W.int) : ∃ z, w = .int z := by
  obtain ⟨z, _, rfl⟩ := List.mem_map.mp h
  exact ⟨z, rfl⟩
theorem Sto.mk0 {M : Mp} {D p : Addr} {xs : List Int} (hD : M D = some (.lst (xs.map W.int))) (hp : M p = none) (hx : ∀ x ∈ xs, Bd 1048576 x) (hl : xs.length ≤ 1000) : Sto (put M p (.lst [.ref D, .int 0, .int 0, .int 90001, .int 0])) p 0 := by
  have n : D ≠ p := fun z => by rw [z, hp] at hD; cases hD
  exact ⟨D, xs, 0, 0, 90001, 0, put_same, (put_ne n).trans hD, n, hx, hl, ⟨by decide, by omega⟩, ⟨by decide, (Bd.mono (a := 1) ⟨by decide⟩ (by decide) : Bd 1048576 0)⟩, ⟨by decide, by decide⟩, by decide, by decide⟩
theorem ok__law_store {xs : List Int} {w : W} (hw : w = .rol (xs.map W.int) ∨ ∃ a, w = .ref a ∧ M a = some (.lst (xs.map W.int))) (hx : ∀ x ∈ xs, Bd 1048576 x) (hl : xs.length ≤ 1000) (h : ∀ s M', Sto M' s 0 → Q (.ref s) M') : sp__law_store G L [w] M Q E := by
  show t__law_store G L ⟨fun _ M' => Q .non M', Q, fun _ _ => False, fun _ _ => False, fun C p _ M' => E C p M'⟩ [some w, none] M
  unfold t__law_store
  have fl : ((xs.map W.int).filter fun _ => true).map (fun w => w) = xs.map W.int := by rw [List.map_id', List.filter_eq_self.mpr fun _ _ => rfl]
  walk_at "evS"
  unfold Ev.tLc
  rcases hw with rfl | ⟨a, rfl, hM⟩
  · walk_at "evS"
    show ∀ D, M D = none → cpW _ _ _ _ _ _ _ (xs.map W.int) _
    intro D hD
    refine cpW_pure (fun _ => true) (fun w => w) (fun _ _ _ => trivial) _ _ [] (fun w hw M' Q' E' _ q => q) (fun w hw _ M' Q' E' _ q => ?_) put_same (by rw [List.length_map]; exact Nat.le_trans (Nat.le_of_eq (Nat.zero_add _)) hl) trivial fun M' e1 e2 => ?_
    · obtain ⟨z, rfl⟩ := ints_all w hw
      walk_at "evS"
      exact q
    · rw [List.nil_append, fl] at e1
      walk_at "evS"
      intro p hp
      walk_at "evS"
      exact h p _ (Sto.mk0 e1 hp hx hl)
  · walk_at "evS"
    refine ⟨_, hM, fun D hD => ?_⟩
    have nD : a ≠ D := fun z => by rw [z, hD] at hM; cases hM
    refine cpW_pure (fun _ => true) (fun w => w) (fun _ _ k => (put_ne nD).trans k) _ _ [] (fun w hw M' Q' E' _ q => q) (fun w hw _ M' Q' E' _ q => ?_) put_same (by rw [List.length_map]; exact Nat.le_trans (Nat.le_of_eq (Nat.zero_add _)) hl) ((put_ne nD).trans hM) fun M' e1 e2 => ?_
    · obtain ⟨z, rfl⟩ := ints_all w hw
      walk_at "evS"
      exact q
    · rw [List.nil_append, fl] at e1
      walk_at "evS"
      intro p hp
      walk_at "evS"
      exact h p _ (Sto.mk0 e1 hp hx hl)
theorem nx_inv {t : TSW} {nx : St' → Mp → Prop} {rt : QK} {bk ct : St' → Mp → Prop} {ex : EX} {τ : St'} {M : Mp} (P : St' → Mp → Prop) (g : ∀ τ' M', P τ' M' → nx τ' M') (h : ∀ k : St' → Mp → Prop, (∀ τ' M', P τ' M' → k τ' M') → t ⟨k, rt, bk, ct, ex⟩ τ M) : t ⟨nx, rt, bk, ct, ex⟩ τ M := h _ g
/-! ### shifts -/
theorem shl_int {i j : Int} {k : Nat} (hj : 0 ≤ j) (h : Bd k i) (hn : k + j.toNat ≤ 134217728) : ShlOk i j := by
  obtain ⟨m, rfl⟩ := Int.eq_ofNat_of_zero_le hj
  rw [Int.toNat_natCast] at hn
  exact shlOk_of h.lt hn
theorem bd_shl {i : Int} {k m : Nat} (h : Bd k i) : Bd (k + m) (i * 2 ^ m) := by
  refine ⟨?_⟩
  rw [Int.natAbs_mul, Int.natAbs_pow, Nat.pow_add]
  exact Nat.mul_lt_mul_of_pos_right h.lt (Nat.pow_pos (by decide))
theorem pow2_pos (m : Nat) : (0 : Int) < 2 ^ m := Int.pow_pos (by decide)
end k12

namespace k12
open PySem L2 Ev
variable {G : Gm} {L : Lm} {M M0 : Mp} {Q : QK} {E : EK} {s : Addr}
/-! ### the package: places -/
def hiW : Option Int → W
  | none => .non
  | some h => .int h
/-! exact numbers -/
structure Exq (n d k : Int) : Prop where
  d1 : 1 ≤ d
  bn : Bd 12000 n
  bd : Bd 12000 d
  k12 : k = 1 ∨ k = 2
  n0 : k = 2 → 0 ≤ n
abbrev exW (n d k : Int) : W := .tup [.int n, .int d, .int k]
theorem bits_iff {i : Int} : Builtin.Int.intBits i ≤ 12000 ↔ Bd 12000 i := ⟨bd_bits, bits_bd⟩
/-- what is no exact number -/
def BadX (s : Addr) (M : Mp) (w : W) : Prop :=
  (w = .non ∨ (∃ b, w = .bl b) ∨ (∃ z, w = .int z) ∨ (∃ x, w = .str x) ∨ ∃ a ws, w = .ref a ∧ a ≠ s ∧ M a = some (.lst ws)) ∨ (∃ l, w = .tup l ∧ l.length ≠ 3) ∨
    ∃ a b c, w = .tup [a, b, c] ∧ ((NoInt s M a ∨ ∃ n, a = .int n ∧ (NoInt s M b ∨ ∃ d, b = .int d ∧ (d < 1 ∨ ¬ Bd 12000 n ∨ ¬ Bd 12000 d))) ∨
      ∃ n d, a = .int n ∧ b = .int d ∧ (1 ≤ d ∧ Bd 12000 n ∧ Bd 12000 d) ∧ (NoInt s M c ∨ ∃ k, c = .int k ∧ (k < 1 ∨ 2 < k ∨ (k = 2 ∧ n < 0))))
theorem BadX.fr {s : Addr} {M M' : Mp} {w : W} (h : BadX s M w) (f : Fr s M M') : BadX s M' w := by
  rcases h with h | h | ⟨a, b, c, e, h⟩
  · refine .inl ?_
    rcases h with h | h | h | h | ⟨a, ws, h1, h2, h3⟩
    · exact .inl h
    · exact .inr (.inl h)
    · exact .inr (.inr (.inl h))
    · exact .inr (.inr (.inr (.inl h)))
    · exact .inr (.inr (.inr (.inr ⟨a, ws, h1, h2, f.kp _ h2 _ h3⟩)))
  · exact .inr (.inl h)
  · refine .inr (.inr ⟨a, b, c, e, ?_⟩)
    rcases h with h | ⟨n, d, ea, eb, hv, hc⟩
    · exact .inl (h.imp (·.fr f) fun ⟨n, e, h⟩ => ⟨n, e, h.imp (·.fr f) id⟩)
    · exact .inr ⟨n, d, ea, eb, hv, hc.imp (·.fr f) id⟩
theorem absI (n : Int) : (if n < 0 then -n else n) = (n.natAbs : Int) := by split <;> omega
theorem bd_sqrt {c : Int} {m : Nat} (h : Bd (m + m) (c * c)) : Bd m c := by
  have h := h.lt
  rw [Int.natAbs_mul, Nat.pow_add] at h
  refine ⟨?_⟩
  rcases Nat.lt_or_ge c.natAbs (2 ^ m) with z | z
  · exact z
  · exact absurd h (Nat.not_lt.mpr (Nat.mul_le_mul z z))
end k12

namespace k12
open PySem L2 Ev
variable {G : Gm} {L : Lm} {M M0 : Mp} {Q : QK} {E : EK} {s : Addr} {n : Nat}
/-! ### draws of exact numbers -/
/-- an exact number, bounded -/
structure Exb (B : Nat) (n d k : Int) : Prop where
  d1 : 1 ≤ d
  bn : Bd B n
  bd : Bd B d
  k12 : k = 1 ∨ k = 2
  n0 : k = 2 → 0 ≤ n
theorem Exb.q {B : Nat} {n d k : Int} (h : Exb B n d k) (l : B ≤ 12000 := by decide) : Exq n d k := ⟨h.d1, h.bn.mono l, h.bd.mono l, h.k12, h.n0⟩
theorem bd_1 {z : Int} (h : z.natAbs ≤ 1) : Bd 1 z := ⟨by omega⟩
theorem bd_abs {B : Nat} {z : Int} (h : Bd B z) : Bd B (if z < 0 then -z else z) := h.of_le (by split <;> omega)
theorem abs0 (z : Int) : 0 ≤ (if z < 0 then -z else z) := by split <;> omega
theorem big : ¬ Bd 12000 (1 * 2 ^ (12000 : Int).toNat) := fun h => by
  have z := h.lt
  rw [Int.one_mul, Int.natAbs_pow] at z
  exact absurd z (Nat.lt_irrefl _)
theorem big' : ¬ Bd 12000 (0 - 1 * 2 ^ (12000 : Int).toNat) := fun h => big (h.of_le (by omega))
end k12

namespace k12
open PySem L2 Ev
variable {G : Gm} {L : Lm} {M M0 : Mp} {Q : QK} {E : EK} {s : Addr} {n : Nat}
/-! ### modes -/
def six : List Str := ["even", "away", "zero", "up", "down", "odd"]
def modesW : List W := [.str "even", .str "away", .str "zero", .str "up", .str "down", .str "odd"]
def mirF (m : Str) : Str := if m = "up" then "down" else if m = "down" then "up" else m
theorem six_in : ∀ m ∈ six, inW (.str m) modesW = true ∧ inW (.str (mirF m)) modesW = true ∧ mirF (mirF m) = m := by decide +kernel
def BadM (s : Addr) (M : Mp) (w : W) : Prop := (w = .non ∨ (∃ b, w = .bl b) ∨ (∃ z, w = .int z) ∨ (∃ l, w = .tup l) ∨ ∃ a ws, w = .ref a ∧ a ≠ s ∧ M a = some (.lst ws)) ∨ ∃ x, w = .str x ∧ inW (.str x) modesW = false
theorem BadM.fr {s : Addr} {M M' : Mp} {w : W} (h : BadM s M w) (f : Fr s M M') : BadM s M' w := h.imp (fun h => by
  rcases h with h | h | h | h | ⟨a, ws, h1, h2, h3⟩
  · exact .inl h
  · exact .inr (.inl h)
  · exact .inr (.inr (.inl h))
  · exact .inr (.inr (.inr (.inl h)))
  · exact .inr (.inr (.inr (.inr ⟨a, ws, h1, h2, f.kp _ h2 _ h3⟩)))) id
/-! ### which of the two -/
def sbF (m : Str) (s p w : Int) : Bool := if m = "even" ∧ w = 2 then decide (p = 0) else if m = "even" ∨ m = "away" then decide (w = 1) else if m = "up" then decide (s = 1) else if m = "down" then decide (s = 0) else if m = "odd" then decide (p = 1) else true
def stepB (m : Str) (s p w : Int) : Bool := !(decide (w = 0) || sbF m s p w)
def chF (m : Str) (s k w : Int) : Int := if stepB m s (k.fmod 2) w = true then k + 1 else k
theorem six_at {j : Nat} {w : W} (h : modesW[j]? = some w) : ∃ m, m ∈ six ∧ w = .str m := by
  have := mem_at h
  simp only [modesW, List.mem_cons, List.not_mem_nil, or_false] at this
  rcases this with rfl | rfl | rfl | rfl | rfl | rfl <;> exact ⟨_, by decide +kernel, rfl⟩
end k12

namespace k12
open PySem L2 Ev
local macro_rules | `(tactic| walk_at "evS") => `(tactic| repeat (first | with_reducible refine sSeq_i ?_ | with_reducible refine sAsg_i ?_ | with_reducible refine tV_i rfl ?_ | with_reducible refine tC_i ?_ | with_reducible refine aCons_i ?_ | with_reducible refine aNil_i ?_ | with_reducible refine tOp_i ?_ | with_reducible refine tFn_i ?_ | with_reducible refine tCB_i ?_ | with_reducible refine tTup_i ?_ | with_reducible refine tLst_i ?_ | with_reducible refine tUn_i ?_ | with_reducible refine tIsNf_i ?_ | with_reducible refine tIsNt_i ?_ | with_reducible refine qB_i ?_ | with_reducible refine isB_i ?_ | with_reducible refine qNot_i ?_ | with_reducible refine qAnd_i ?_ | with_reducible refine qOr_i ?_ | with_reducible refine vAnd_i ?_ | with_reducible refine vOr_i ?_ | with_reducible refine tIfE_i ?_ | with_reducible refine tMt_i ?_ | with_reducible refine isR_i ?_ | with_reducible refine sIf_i ?_ | with_reducible refine sRet_i ?_ | with_reducible refine sNext_i ?_ | with_reducible refine sDrop_i ?_ | with_reducible refine sIx_i ?_ | with_reducible refine isRI_i ?_ | with_reducible refine sRaise_i ?_ | with_reducible refine tLam_i fun f hf => ?_ | with_reducible refine sRetN_i ?_ | with_reducible refine if_t ?_ | with_reducible refine if_f ?_ | with_reducible refine wAdd_i ?_ | with_reducible refine wI0_i ?_ | with_reducible refine wEq_i ?_ | with_reducible refine wEq_s ?_ | with_reducible refine wNe_i ?_ | with_reducible refine wInt_i ?_ | with_reducible refine wInt_b ?_ | with_reducible refine wAbs_i ?_ | with_reducible refine wMax_i ?_ | with_reducible refine wMin_i ?_ | with_reducible refine wNeg_i ?_ | with_reducible refine wNot_b ?_ | with_reducible refine wBits_i ?_ | (with_reducible show wIsiK _ _ _ _; first | with_reducible refine wIsi_non_int ?_ | with_reducible refine wIsi_non_bool ?_ | with_reducible refine wIsi_non_str ?_ | with_reducible refine wIsi_non_list ?_ | with_reducible refine wIsi_non_tuple ?_ | with_reducible refine wIsi_bl_int ?_ | with_reducible refine wIsi_bl_bool ?_ | with_reducible refine wIsi_bl_str ?_ | with_reducible refine wIsi_bl_list ?_ | with_reducible refine wIsi_bl_tuple ?_ | with_reducible refine wIsi_int_int ?_ | with_reducible refine wIsi_int_bool ?_ | with_reducible refine wIsi_int_str ?_ | with_reducible refine wIsi_int_list ?_ | with_reducible refine wIsi_int_tuple ?_ | with_reducible refine wIsi_str_int ?_ | with_reducible refine wIsi_str_bool ?_ | with_reducible refine wIsi_str_str ?_ | with_reducible refine wIsi_str_list ?_ | with_reducible refine wIsi_str_tuple ?_ | with_reducible refine wIsi_tup_int ?_ | with_reducible refine wIsi_tup_bool ?_ | with_reducible refine wIsi_tup_str ?_ | with_reducible refine wIsi_tup_list ?_ | with_reducible refine wIsi_tup_tuple ?_ | with_reducible refine wIsi_tup_lt ?_)))
local macro_rules | `(tactic| walk_at "evX") => `(tactic| repeat (first | with_reducible refine sSeq_i ?_ | with_reducible refine sAsg_i ?_ | with_reducible refine tV_i rfl ?_ | with_reducible refine tC_i ?_ | with_reducible refine aCons_i ?_ | with_reducible refine aNil_i ?_ | with_reducible refine tOp_i ?_ | with_reducible refine tFn_i ?_ | with_reducible refine tCB_i ?_ | with_reducible refine tTup_i ?_ | with_reducible refine tLst_i ?_ | with_reducible refine tUn_i ?_ | with_reducible refine tIsNf_i ?_ | with_reducible refine tIsNt_i ?_ | with_reducible refine qB_i ?_ | with_reducible refine isB_i ?_ | with_reducible refine qNot_i ?_ | with_reducible refine qAnd_i ?_ | with_reducible refine qOr_i ?_ | with_reducible refine vAnd_i ?_ | with_reducible refine vOr_i ?_ | with_reducible refine tIfE_i ?_ | with_reducible refine tMt_i ?_ | with_reducible refine isR_i ?_ | with_reducible refine sIf_i ?_ | with_reducible refine sRet_i ?_ | with_reducible refine sNext_i ?_ | with_reducible refine sDrop_i ?_ | with_reducible refine sIx_i ?_ | with_reducible refine isRI_i ?_ | with_reducible refine sRaise_i ?_ | with_reducible refine tLam_i fun f hf => ?_ | with_reducible refine sRetN_i ?_ | with_reducible refine if_t ?_ | with_reducible refine if_f ?_ | with_reducible refine wAdd_i ?_ | with_reducible refine wI0_i ?_ | with_reducible refine wEq_i ?_ | with_reducible refine wEq_s ?_ | with_reducible refine wNe_i ?_ | with_reducible refine wInt_i ?_ | with_reducible refine wInt_b ?_ | with_reducible refine wAbs_i ?_ | with_reducible refine wMax_i ?_ | with_reducible refine wMin_i ?_ | with_reducible refine wNeg_i ?_ | with_reducible refine wNot_b ?_ | with_reducible refine wBits_i ?_ | with_reducible refine if_nt ?_ | with_reducible refine if_nf ?_ | with_reducible refine gTp2_i ?_ | with_reducible refine gTp3_i ?_ | with_reducible refine gTp4_i ?_ | with_reducible refine gNm_i ?_ | with_reducible refine sPar_i ?_ | with_reducible refine par2_i ?_ | with_reducible refine wIx_t0 ?_ | with_reducible refine wIx_t1 ?_ | with_reducible refine wIx_t2 ?_ | with_reducible refine wIx_t3 ?_ | with_reducible refine wLen_t ?_ | with_reducible refine sAsgG_i ?_ | with_reducible refine sPar3_i ?_ | with_reducible refine par3_i ?_ | with_reducible refine tChainW_i ?_ | with_reducible refine chB_i ?_ | with_reducible refine if_self ?_ | with_reducible refine if_nself ?_ | with_reducible refine wNe_s ?_ | with_reducible refine wEq_b ?_ | with_reducible refine tFnD_i ?_ | with_reducible refine tFnK_i ?_ | with_reducible refine tChain3W_i ?_ | with_reducible refine wEqA_i ?_ | with_reducible refine wEqA_s ?_ | with_reducible refine wEqA_b ?_ | with_reducible refine wNeA_i ?_ | with_reducible refine wNeA_s ?_ | with_reducible refine wEqA_t3 ?_ | with_reducible refine tMt0_i ?_ | with_reducible refine tSlW_i ?_ | with_reducible refine pNo_i ?_ | with_reducible refine isI_i ?_ | with_reducible refine pAt_i ?_ | with_reducible refine wSl_t ?_ | (with_reducible show wIsiK _ _ _ _; first | with_reducible refine wIsi_non_int ?_ | with_reducible refine wIsi_non_bool ?_ | with_reducible refine wIsi_non_str ?_ | with_reducible refine wIsi_non_list ?_ | with_reducible refine wIsi_non_tuple ?_ | with_reducible refine wIsi_bl_int ?_ | with_reducible refine wIsi_bl_bool ?_ | with_reducible refine wIsi_bl_str ?_ | with_reducible refine wIsi_bl_list ?_ | with_reducible refine wIsi_bl_tuple ?_ | with_reducible refine wIsi_int_int ?_ | with_reducible refine wIsi_int_bool ?_ | with_reducible refine wIsi_int_str ?_ | with_reducible refine wIsi_int_list ?_ | with_reducible refine wIsi_int_tuple ?_ | with_reducible refine wIsi_str_int ?_ | with_reducible refine wIsi_str_bool ?_ | with_reducible refine wIsi_str_str ?_ | with_reducible refine wIsi_str_list ?_ | with_reducible refine wIsi_str_tuple ?_ | with_reducible refine wIsi_tup_int ?_ | with_reducible refine wIsi_tup_bool ?_ | with_reducible refine wIsi_tup_str ?_ | with_reducible refine wIsi_tup_list ?_ | with_reducible refine wIsi_tup_tuple ?_ | with_reducible refine wIsi_tup_lt ?_)))
local macro_rules | `(tactic| walk_at "evT") => `(tactic| (walk_at "evX"; repeat (first | (with_reducible refine if_y ?h1 ?_; (case h1 => omega); walk_at "evX") | (with_reducible refine if_n ?h1 ?_; (case h1 => omega); walk_at "evX") | (with_reducible refine if_ny ?h1 ?_; (case h1 => omega); walk_at "evX") | (with_reducible refine if_nn ?h1 ?_; (case h1 => omega); walk_at "evX"))))
variable {G : Gm} {L : Lm} {M M0 : Mp} {Q : QK} {E : EK} {s : Addr} {n : Nat}
/-! ### formats -/
theorem ok_is_whole {z : Int} (h : Q (.bl true) M) : sp_is_whole G L [.int z] M Q E := by
  show t_is_whole G L ⟨fun _ M' => Q .non M', Q, fun _ _ => False, fun _ _ => False, fun C p _ M' => E C p M'⟩ [some (.int z)] M
  unfold t_is_whole
  walk_at "evX"
  exact h
theorem no_is_whole {w : W} (hb : NoInt s M w) (h : Q (.bl false) M) : sp_is_whole G L [w] M Q E := by
  show t_is_whole G L ⟨fun _ M' => Q .non M', Q, fun _ _ => False, fun _ _ => False, fun C p _ M' => E C p M'⟩ [some w] M
  unfold t_is_whole
  rcases hb with rfl | ⟨b, rfl⟩ | ⟨x, rfl⟩ | ⟨l, rfl⟩ | ⟨a, ws, rfl, _, hM⟩
  · walk_at "evS"
    exact h
  · walk_at "evS"
    exact h
  · walk_at "evS"
    exact h
  · walk_at "evS"
    exact h
  · walk_at "evS"
    refine wIsi_lst_int hM ?_
    walk_at "evS"
    exact h
structure Shp (p lo hi : Int) : Prop where
  p1 : 2 ≤ p
  p2 : p ≤ 140
  l1 : -600 ≤ lo
  lh : lo ≤ hi
  h1 : hi ≤ 600
abbrev shW (p lo hi : Int) : W := .tup [.int p, .int lo, .int hi]
def BadF (s : Addr) (M : Mp) (w : W) : Prop :=
  (w = .non ∨ (∃ b, w = .bl b) ∨ (∃ z, w = .int z) ∨ (∃ x, w = .str x) ∨ ∃ a ws, w = .ref a ∧ a ≠ s ∧ M a = some (.lst ws)) ∨ (∃ l, w = .tup l ∧ l.length ≠ 3) ∨
    ∃ a b c, w = .tup [a, b, c] ∧ (NoInt s M a ∨ ∃ p, a = .int p ∧ (NoInt s M b ∨ ∃ lo, b = .int lo ∧ (NoInt s M c ∨ ∃ hi, c = .int hi ∧ ¬ Shp p lo hi)))
theorem BadF.ls {M M' : Mp} {w : W} (h : BadF s M w) (f : LS s M M') : BadF s M' w := by
  rcases h with h | h | ⟨a, b, c, e, h⟩
  · refine .inl ?_
    rcases h with h | h | h | h | ⟨a, ws, h1, h2, h3⟩
    · exact .inl h
    · exact .inr (.inl h)
    · exact .inr (.inr (.inl h))
    · exact .inr (.inr (.inr (.inl h)))
    · obtain ⟨ws', e⟩ := f a h2 ws h3
      exact .inr (.inr (.inr (.inr ⟨a, ws', h1, h2, e⟩)))
  · exact .inr (.inl h)
  · refine .inr (.inr ⟨a, b, c, e, ?_⟩)
    exact h.imp (NoIntLs · f) fun ⟨p, e, h⟩ => ⟨p, e, h.imp (NoIntLs · f) fun ⟨lo, e, h⟩ => ⟨lo, e, h.imp (NoIntLs · f) id⟩⟩
theorem hf2_pos (p : Int) : (0 : Int) < 2 ^ p.toNat := two_pos _
end k12

namespace k12
open PySem L2 Ev
local macro_rules | `(tactic| walk_at "evS") => `(tactic| repeat (first | with_reducible refine sSeq_i ?_ | with_reducible refine sAsg_i ?_ | with_reducible refine tV_i rfl ?_ | with_reducible refine tC_i ?_ | with_reducible refine aCons_i ?_ | with_reducible refine aNil_i ?_ | with_reducible refine tOp_i ?_ | with_reducible refine tFn_i ?_ | with_reducible refine tCB_i ?_ | with_reducible refine tTup_i ?_ | with_reducible refine tLst_i ?_ | with_reducible refine tUn_i ?_ | with_reducible refine tIsNf_i ?_ | with_reducible refine tIsNt_i ?_ | with_reducible refine qB_i ?_ | with_reducible refine isB_i ?_ | with_reducible refine qNot_i ?_ | with_reducible refine qAnd_i ?_ | with_reducible refine qOr_i ?_ | with_reducible refine vAnd_i ?_ | with_reducible refine vOr_i ?_ | with_reducible refine tIfE_i ?_ | with_reducible refine tMt_i ?_ | with_reducible refine isR_i ?_ | with_reducible refine sIf_i ?_ | with_reducible refine sRet_i ?_ | with_reducible refine sNext_i ?_ | with_reducible refine sDrop_i ?_ | with_reducible refine sIx_i ?_ | with_reducible refine isRI_i ?_ | with_reducible refine sRaise_i ?_ | with_reducible refine tLam_i fun f hf => ?_ | with_reducible refine sRetN_i ?_ | with_reducible refine if_t ?_ | with_reducible refine if_f ?_ | with_reducible refine wAdd_i ?_ | with_reducible refine wI0_i ?_ | with_reducible refine wEq_i ?_ | with_reducible refine wEq_s ?_ | with_reducible refine wNe_i ?_ | with_reducible refine wInt_i ?_ | with_reducible refine wInt_b ?_ | with_reducible refine wAbs_i ?_ | with_reducible refine wMax_i ?_ | with_reducible refine wMin_i ?_ | with_reducible refine wNeg_i ?_ | with_reducible refine wNot_b ?_ | with_reducible refine wBits_i ?_ | (with_reducible show wIsiK _ _ _ _; first | with_reducible refine wIsi_non_int ?_ | with_reducible refine wIsi_non_bool ?_ | with_reducible refine wIsi_non_str ?_ | with_reducible refine wIsi_non_list ?_ | with_reducible refine wIsi_non_tuple ?_ | with_reducible refine wIsi_bl_int ?_ | with_reducible refine wIsi_bl_bool ?_ | with_reducible refine wIsi_bl_str ?_ | with_reducible refine wIsi_bl_list ?_ | with_reducible refine wIsi_bl_tuple ?_ | with_reducible refine wIsi_int_int ?_ | with_reducible refine wIsi_int_bool ?_ | with_reducible refine wIsi_int_str ?_ | with_reducible refine wIsi_int_list ?_ | with_reducible refine wIsi_int_tuple ?_ | with_reducible refine wIsi_str_int ?_ | with_reducible refine wIsi_str_bool ?_ | with_reducible refine wIsi_str_str ?_ | with_reducible refine wIsi_str_list ?_ | with_reducible refine wIsi_str_tuple ?_ | with_reducible refine wIsi_tup_int ?_ | with_reducible refine wIsi_tup_bool ?_ | with_reducible refine wIsi_tup_str ?_ | with_reducible refine wIsi_tup_list ?_ | with_reducible refine wIsi_tup_tuple ?_ | with_reducible refine wIsi_tup_lt ?_)))
local macro_rules | `(tactic| walk_at "evX") => `(tactic| repeat (first | with_reducible refine sSeq_i ?_ | with_reducible refine sAsg_i ?_ | with_reducible refine tV_i rfl ?_ | with_reducible refine tC_i ?_ | with_reducible refine aCons_i ?_ | with_reducible refine aNil_i ?_ | with_reducible refine tOp_i ?_ | with_reducible refine tFn_i ?_ | with_reducible refine tCB_i ?_ | with_reducible refine tTup_i ?_ | with_reducible refine tLst_i ?_ | with_reducible refine tUn_i ?_ | with_reducible refine tIsNf_i ?_ | with_reducible refine tIsNt_i ?_ | with_reducible refine qB_i ?_ | with_reducible refine isB_i ?_ | with_reducible refine qNot_i ?_ | with_reducible refine qAnd_i ?_ | with_reducible refine qOr_i ?_ | with_reducible refine vAnd_i ?_ | with_reducible refine vOr_i ?_ | with_reducible refine tIfE_i ?_ | with_reducible refine tMt_i ?_ | with_reducible refine isR_i ?_ | with_reducible refine sIf_i ?_ | with_reducible refine sRet_i ?_ | with_reducible refine sNext_i ?_ | with_reducible refine sDrop_i ?_ | with_reducible refine sIx_i ?_ | with_reducible refine isRI_i ?_ | with_reducible refine sRaise_i ?_ | with_reducible refine tLam_i fun f hf => ?_ | with_reducible refine sRetN_i ?_ | with_reducible refine if_t ?_ | with_reducible refine if_f ?_ | with_reducible refine wAdd_i ?_ | with_reducible refine wI0_i ?_ | with_reducible refine wEq_i ?_ | with_reducible refine wEq_s ?_ | with_reducible refine wNe_i ?_ | with_reducible refine wInt_i ?_ | with_reducible refine wInt_b ?_ | with_reducible refine wAbs_i ?_ | with_reducible refine wMax_i ?_ | with_reducible refine wMin_i ?_ | with_reducible refine wNeg_i ?_ | with_reducible refine wNot_b ?_ | with_reducible refine wBits_i ?_ | with_reducible refine if_nt ?_ | with_reducible refine if_nf ?_ | with_reducible refine gTp2_i ?_ | with_reducible refine gTp3_i ?_ | with_reducible refine gTp4_i ?_ | with_reducible refine gNm_i ?_ | with_reducible refine sPar_i ?_ | with_reducible refine par2_i ?_ | with_reducible refine wIx_t0 ?_ | with_reducible refine wIx_t1 ?_ | with_reducible refine wIx_t2 ?_ | with_reducible refine wIx_t3 ?_ | with_reducible refine wLen_t ?_ | with_reducible refine sAsgG_i ?_ | with_reducible refine sPar3_i ?_ | with_reducible refine par3_i ?_ | with_reducible refine tChainW_i ?_ | with_reducible refine chB_i ?_ | with_reducible refine if_self ?_ | with_reducible refine if_nself ?_ | with_reducible refine wNe_s ?_ | with_reducible refine wEq_b ?_ | with_reducible refine tFnD_i ?_ | with_reducible refine tFnK_i ?_ | with_reducible refine tChain3W_i ?_ | with_reducible refine wEqA_i ?_ | with_reducible refine wEqA_s ?_ | with_reducible refine wEqA_b ?_ | with_reducible refine wNeA_i ?_ | with_reducible refine wNeA_s ?_ | with_reducible refine wEqA_t3 ?_ | with_reducible refine tMt0_i ?_ | with_reducible refine tSlW_i ?_ | with_reducible refine pNo_i ?_ | with_reducible refine isI_i ?_ | with_reducible refine pAt_i ?_ | with_reducible refine wSl_t ?_ | (with_reducible show wIsiK _ _ _ _; first | with_reducible refine wIsi_non_int ?_ | with_reducible refine wIsi_non_bool ?_ | with_reducible refine wIsi_non_str ?_ | with_reducible refine wIsi_non_list ?_ | with_reducible refine wIsi_non_tuple ?_ | with_reducible refine wIsi_bl_int ?_ | with_reducible refine wIsi_bl_bool ?_ | with_reducible refine wIsi_bl_str ?_ | with_reducible refine wIsi_bl_list ?_ | with_reducible refine wIsi_bl_tuple ?_ | with_reducible refine wIsi_int_int ?_ | with_reducible refine wIsi_int_bool ?_ | with_reducible refine wIsi_int_str ?_ | with_reducible refine wIsi_int_list ?_ | with_reducible refine wIsi_int_tuple ?_ | with_reducible refine wIsi_str_int ?_ | with_reducible refine wIsi_str_bool ?_ | with_reducible refine wIsi_str_str ?_ | with_reducible refine wIsi_str_list ?_ | with_reducible refine wIsi_str_tuple ?_ | with_reducible refine wIsi_tup_int ?_ | with_reducible refine wIsi_tup_bool ?_ | with_reducible refine wIsi_tup_str ?_ | with_reducible refine wIsi_tup_list ?_ | with_reducible refine wIsi_tup_tuple ?_ | with_reducible refine wIsi_tup_lt ?_)))
local macro_rules | `(tactic| walk_at "evT") => `(tactic| (walk_at "evX"; repeat (first | (with_reducible refine if_y ?h1 ?_; (case h1 => omega); walk_at "evX") | (with_reducible refine if_n ?h1 ?_; (case h1 => omega); walk_at "evX") | (with_reducible refine if_ny ?h1 ?_; (case h1 => omega); walk_at "evX") | (with_reducible refine if_nn ?h1 ?_; (case h1 => omega); walk_at "evX"))))
variable {G : Gm} {L : Lm} {M M0 : Mp} {Q : QK} {E : EK} {s : Addr} {n : Nat}
/-! ### numbers -/
structure IsNum (s m q : Int) : Prop where
  s01 : s = 0 ∨ s = 1
  mq : (0 < m ∧ m % 2 = 1 ∧ Bd 600 m ∧ -2000 ≤ q ∧ q ≤ 2000) ∨ (m = -2 ∧ s = 0 ∧ q = 0) ∨ ((m = -1 ∨ m = 0) ∧ q = 0)
abbrev nuW (s m q : Int) : W := .tup [.int s, .int m, .int q]
theorem ok_is_number {s m q : Int} (X : IsNum s m q) (h : Q (.bl true) M) : sp_is_number G L [nuW s m q] M Q E := by
  show t_is_number G L ⟨fun _ M' => Q .non M', Q, fun _ _ => False, fun _ _ => False, fun C p _ M' => E C p M'⟩ [some (.tup [.int s, .int m, .int q]), none, none, none] M
  unfold t_is_number
  obtain ⟨x1, x2⟩ := X
  walk_at "evX"
  refine if_ny rfl ?_
  walk_at "evX"
  refine ok_is_whole ?_
  walk_at "evX"
  refine ok_is_whole ?_
  walk_at "evX"
  refine ok_is_whole ?_
  have fin : ∀ (h1 : 0 < m) (h2 : m % 2 = 1), Builtin.bitAnd m 1 = 1 := fun _ h2 => by rw [PyProof.Rows.bitAnd_m1]; exact h2
  rcases x2 with ⟨h1, h2, h3, h4, h5⟩ | ⟨rfl, rfl, rfl⟩ | ⟨h1, rfl⟩
  · have bb := bits_bd h3
    have hb := fin h1 h2
    rcases x1 with rfl | rfl
    · walk_at "evT"
      rw [decide_eq_true h5]
      exact h
    · walk_at "evT"
      rw [decide_eq_true h5]
      exact h
  · walk_at "evT"
    exact h
  · rcases x1 with rfl | rfl
    · walk_at "evT"
      exact h
    · walk_at "evT"
      exact h
theorem ok_check_number {s m q : Int} (X : IsNum s m q) (h : Q .non M) : sp_check_number G L [nuW s m q] M Q E := by
  show t_check_number G L ⟨fun _ M' => Q .non M', Q, fun _ _ => False, fun _ _ => False, fun C p _ M' => E C p M'⟩ [some (nuW s m q)] M
  unfold t_check_number
  walk_at "evX"
  refine ok_is_number X ?_
  walk_at "evX"
  exact h
/-- how many twos stand in m -/
def ttF (m : Int) : Nat := ((Builtin.Int.intBits (Builtin.bitAnd m (-m)) : Int) - 1).toNat
/-- the number s * m * 2 ^ q by its odd part -/
def oddW (s m q : Int) : W := if m = 0 then nuW s 0 0 else nuW s (m / 2 ^ ttF m) (q + ttF m)
theorem ttF_ok {m : Int} (h : 0 < m) {b : Nat} (hb : Bd b m) : ((Builtin.Int.intBits (Builtin.bitAnd m (-m)) : Int) - 1 = ttF m) ∧ 0 < m / 2 ^ ttF m ∧ (m / 2 ^ ttF m) % 2 = 1 ∧ Bd b (m / 2 ^ ttF m) ∧ ttF m < b := by
  obtain ⟨t, a, ht⟩ := twos m.natAbs (by omega)
  have e := tt_eq ht
  have et : ttF m = t := by unfold ttF; omega
  rw [et]
  have p := two_pos t
  have em : m = 2 ^ t * (2 * (a : Int) + 1) := by
    have : (m.natAbs : Int) = ((2 ^ t * (2 * a + 1) : Nat) : Int) := congrArg _ ht
    rw [Int.natCast_mul, two_cast, Int.natCast_add, Int.natCast_mul] at this
    have e2 : (m.natAbs : Int) = m := by omega
    rw [← e2]
    exact this
  have ed : m / 2 ^ t = 2 * (a : Int) + 1 := by rw [em]; exact Int.mul_ediv_cancel_left _ (by omega)
  have le : m / 2 ^ t ≤ m := Int.ediv_le_self _ (by omega)
  refine ⟨e, by omega, by omega, hb.of_le (by omega), ?_⟩
  have hl := hb.lt
  have h2 : 2 ^ t ≤ m.natAbs := by rw [ht]; exact Nat.le_mul_of_pos_right _ (by omega)
  exact (Nat.pow_lt_pow_iff_right (by decide)).mp (Nat.lt_of_le_of_lt h2 hl)
theorem ok_minus {s m q : Int} (X : IsNum s m q) (hn : m ≠ -2) (h : Q (nuW (1 - s) m q) M) : sp_minus G L [nuW s m q] M Q E := by
  show t_minus G L ⟨fun _ M' => Q .non M', Q, fun _ _ => False, fun _ _ => False, fun C p _ M' => E C p M'⟩ [some (nuW s m q)] M
  unfold t_minus
  walk_at "evX"
  refine ok_check_number X ?_
  walk_at "evX"
  show wEqA (.tup [.int s, .int m, .int q]) (.tup [.int 0, .int (-2), .int 0]) _ _
  walk_at "evX"
  refine if_n (fun z => hn z.2.1) ?_
  walk_at "evX"
  exact h
end k12

namespace k12
open PySem L2 Ev
local macro_rules | `(tactic| walk_at "evS") => `(tactic| repeat (first | with_reducible refine sSeq_i ?_ | with_reducible refine sAsg_i ?_ | with_reducible refine tV_i rfl ?_ | with_reducible refine tC_i ?_ | with_reducible refine aCons_i ?_ | with_reducible refine aNil_i ?_ | with_reducible refine tOp_i ?_ | with_reducible refine tFn_i ?_ | with_reducible refine tCB_i ?_ | with_reducible refine tTup_i ?_ | with_reducible refine tLst_i ?_ | with_reducible refine tUn_i ?_ | with_reducible refine tIsNf_i ?_ | with_reducible refine tIsNt_i ?_ | with_reducible refine qB_i ?_ | with_reducible refine isB_i ?_ | with_reducible refine qNot_i ?_ | with_reducible refine qAnd_i ?_ | with_reducible refine qOr_i ?_ | with_reducible refine vAnd_i ?_ | with_reducible refine vOr_i ?_ | with_reducible refine tIfE_i ?_ | with_reducible refine tMt_i ?_ | with_reducible refine isR_i ?_ | with_reducible refine sIf_i ?_ | with_reducible refine sRet_i ?_ | with_reducible refine sNext_i ?_ | with_reducible refine sDrop_i ?_ | with_reducible refine sIx_i ?_ | with_reducible refine isRI_i ?_ | with_reducible refine sRaise_i ?_ | with_reducible refine tLam_i fun f hf => ?_ | with_reducible refine sRetN_i ?_ | with_reducible refine if_t ?_ | with_reducible refine if_f ?_ | with_reducible refine wAdd_i ?_ | with_reducible refine wI0_i ?_ | with_reducible refine wEq_i ?_ | with_reducible refine wEq_s ?_ | with_reducible refine wNe_i ?_ | with_reducible refine wInt_i ?_ | with_reducible refine wInt_b ?_ | with_reducible refine wAbs_i ?_ | with_reducible refine wMax_i ?_ | with_reducible refine wMin_i ?_ | with_reducible refine wNeg_i ?_ | with_reducible refine wNot_b ?_ | with_reducible refine wBits_i ?_ | (with_reducible show wIsiK _ _ _ _; first | with_reducible refine wIsi_non_int ?_ | with_reducible refine wIsi_non_bool ?_ | with_reducible refine wIsi_non_str ?_ | with_reducible refine wIsi_non_list ?_ | with_reducible refine wIsi_non_tuple ?_ | with_reducible refine wIsi_bl_int ?_ | with_reducible refine wIsi_bl_bool ?_ | with_reducible refine wIsi_bl_str ?_ | with_reducible refine wIsi_bl_list ?_ | with_reducible refine wIsi_bl_tuple ?_ | with_reducible refine wIsi_int_int ?_ | with_reducible refine wIsi_int_bool ?_ | with_reducible refine wIsi_int_str ?_ | with_reducible refine wIsi_int_list ?_ | with_reducible refine wIsi_int_tuple ?_ | with_reducible refine wIsi_str_int ?_ | with_reducible refine wIsi_str_bool ?_ | with_reducible refine wIsi_str_str ?_ | with_reducible refine wIsi_str_list ?_ | with_reducible refine wIsi_str_tuple ?_ | with_reducible refine wIsi_tup_int ?_ | with_reducible refine wIsi_tup_bool ?_ | with_reducible refine wIsi_tup_str ?_ | with_reducible refine wIsi_tup_list ?_ | with_reducible refine wIsi_tup_tuple ?_ | with_reducible refine wIsi_tup_lt ?_)))
local macro_rules | `(tactic| walk_at "evX") => `(tactic| repeat (first | with_reducible refine sSeq_i ?_ | with_reducible refine sAsg_i ?_ | with_reducible refine tV_i rfl ?_ | with_reducible refine tC_i ?_ | with_reducible refine aCons_i ?_ | with_reducible refine aNil_i ?_ | with_reducible refine tOp_i ?_ | with_reducible refine tFn_i ?_ | with_reducible refine tCB_i ?_ | with_reducible refine tTup_i ?_ | with_reducible refine tLst_i ?_ | with_reducible refine tUn_i ?_ | with_reducible refine tIsNf_i ?_ | with_reducible refine tIsNt_i ?_ | with_reducible refine qB_i ?_ | with_reducible refine isB_i ?_ | with_reducible refine qNot_i ?_ | with_reducible refine qAnd_i ?_ | with_reducible refine qOr_i ?_ | with_reducible refine vAnd_i ?_ | with_reducible refine vOr_i ?_ | with_reducible refine tIfE_i ?_ | with_reducible refine tMt_i ?_ | with_reducible refine isR_i ?_ | with_reducible refine sIf_i ?_ | with_reducible refine sRet_i ?_ | with_reducible refine sNext_i ?_ | with_reducible refine sDrop_i ?_ | with_reducible refine sIx_i ?_ | with_reducible refine isRI_i ?_ | with_reducible refine sRaise_i ?_ | with_reducible refine tLam_i fun f hf => ?_ | with_reducible refine sRetN_i ?_ | with_reducible refine if_t ?_ | with_reducible refine if_f ?_ | with_reducible refine wAdd_i ?_ | with_reducible refine wI0_i ?_ | with_reducible refine wEq_i ?_ | with_reducible refine wEq_s ?_ | with_reducible refine wNe_i ?_ | with_reducible refine wInt_i ?_ | with_reducible refine wInt_b ?_ | with_reducible refine wAbs_i ?_ | with_reducible refine wMax_i ?_ | with_reducible refine wMin_i ?_ | with_reducible refine wNeg_i ?_ | with_reducible refine wNot_b ?_ | with_reducible refine wBits_i ?_ | with_reducible refine if_nt ?_ | with_reducible refine if_nf ?_ | with_reducible refine gTp2_i ?_ | with_reducible refine gTp3_i ?_ | with_reducible refine gTp4_i ?_ | with_reducible refine gNm_i ?_ | with_reducible refine sPar_i ?_ | with_reducible refine par2_i ?_ | with_reducible refine wIx_t0 ?_ | with_reducible refine wIx_t1 ?_ | with_reducible refine wIx_t2 ?_ | with_reducible refine wIx_t3 ?_ | with_reducible refine wLen_t ?_ | with_reducible refine sAsgG_i ?_ | with_reducible refine sPar3_i ?_ | with_reducible refine par3_i ?_ | with_reducible refine tChainW_i ?_ | with_reducible refine chB_i ?_ | with_reducible refine if_self ?_ | with_reducible refine if_nself ?_ | with_reducible refine wNe_s ?_ | with_reducible refine wEq_b ?_ | with_reducible refine tFnD_i ?_ | with_reducible refine tFnK_i ?_ | with_reducible refine tChain3W_i ?_ | with_reducible refine wEqA_i ?_ | with_reducible refine wEqA_s ?_ | with_reducible refine wEqA_b ?_ | with_reducible refine wNeA_i ?_ | with_reducible refine wNeA_s ?_ | with_reducible refine wEqA_t3 ?_ | with_reducible refine tMt0_i ?_ | with_reducible refine tSlW_i ?_ | with_reducible refine pNo_i ?_ | with_reducible refine isI_i ?_ | with_reducible refine pAt_i ?_ | with_reducible refine wSl_t ?_ | (with_reducible show wIsiK _ _ _ _; first | with_reducible refine wIsi_non_int ?_ | with_reducible refine wIsi_non_bool ?_ | with_reducible refine wIsi_non_str ?_ | with_reducible refine wIsi_non_list ?_ | with_reducible refine wIsi_non_tuple ?_ | with_reducible refine wIsi_bl_int ?_ | with_reducible refine wIsi_bl_bool ?_ | with_reducible refine wIsi_bl_str ?_ | with_reducible refine wIsi_bl_list ?_ | with_reducible refine wIsi_bl_tuple ?_ | with_reducible refine wIsi_int_int ?_ | with_reducible refine wIsi_int_bool ?_ | with_reducible refine wIsi_int_str ?_ | with_reducible refine wIsi_int_list ?_ | with_reducible refine wIsi_int_tuple ?_ | with_reducible refine wIsi_str_int ?_ | with_reducible refine wIsi_str_bool ?_ | with_reducible refine wIsi_str_str ?_ | with_reducible refine wIsi_str_list ?_ | with_reducible refine wIsi_str_tuple ?_ | with_reducible refine wIsi_tup_int ?_ | with_reducible refine wIsi_tup_bool ?_ | with_reducible refine wIsi_tup_str ?_ | with_reducible refine wIsi_tup_list ?_ | with_reducible refine wIsi_tup_tuple ?_ | with_reducible refine wIsi_tup_lt ?_)))
local macro_rules | `(tactic| walk_at "evT") => `(tactic| (walk_at "evX"; repeat (first | (with_reducible refine if_y ?h1 ?_; (case h1 => omega); walk_at "evX") | (with_reducible refine if_n ?h1 ?_; (case h1 => omega); walk_at "evX") | (with_reducible refine if_ny ?h1 ?_; (case h1 => omega); walk_at "evX") | (with_reducible refine if_nn ?h1 ?_; (case h1 => omega); walk_at "evX"))))
variable {G : Gm} {L : Lm} {M M0 : Mp} {Q : QK} {E : EK} {s : Addr} {n : Nat}
/-! ### draws of formats and of exact numbers near their places -/
def hf (p : Int) : Int := 2 ^ (p - 1).toNat
theorem hf_pos (p : Int) : 0 < hf p := pow2_pos _
theorem hf_bd {p : Int} (h : p ≤ 140) : Bd 140 (hf p) := (bd_pow2 (n := (p - 1).toNat)).mono (by omega)
theorem hf_two {p : Int} (h : 2 ≤ p) : 2 ≤ hf p := by
  obtain ⟨k, hk⟩ : ∃ k, (p - 1).toNat = k + 1 := ⟨(p - 1).toNat - 1, by omega⟩
  have := pow2_pos k
  unfold hf
  rw [hk, Int.pow_succ]
  omega
theorem hf_shl {p : Int} (h1 : 2 ≤ p) (h2 : p ≤ 140) {Q : QK} (h : Q (.int (hf p)) M) : wI ShlOk (fun i j => .int (i * 2 ^ j.toNat)) (.int 1) (.int (p - 1)) M Q := by
  refine wI_i (shl_int (k := 1) (by omega) ⟨by decide⟩ (by omega)) ?_
  rw [Int.one_mul]
  exact h
theorem exact_tail {a b : Int} (a0 : 0 ≤ a) (b1 : 1 ≤ b) (ba : Bd 2000 a) (bb : Bd 2000 b) (S : SF M0 M s n) (hn : n + 3 ≤ 1000000) {x1 x2 : Option W} (h : ∀ a b k M', Exb 4001 a b k → SF M0 M' s (n + 3) → Q (exW a b k) M') :
    (sSeq (sAsg (Ev.tOp wAdd (Ev.tC (.int 1)) (Ev.tOp (wI MulOk fun i j => .int (i * j)) (tFn (sp__law_take G) L [] (aCons (tV 0) (aCons (Ev.tC (.int 3)) aNil))) (tFn (sp__law_take G) L [] (aCons (tV 0) (aCons (Ev.tC (.int 4)) aNil))))) (gNm 3)) (sSeq (sIf (qB (Ev.tOp wEq (tFn (sp__law_take G) L [] (aCons (tV 0) (aCons (Ev.tC (.int 2)) aNil))) (Ev.tC (.int 1)))) (sAsg (Ev.tOp (wI0 fun i j => .int (i - j)) (Ev.tC (.int 0)) (tV 4)) (gNm 4)) sNext) (sRet (Ev.tTup (aCons (Ev.tOp (wI MulOk fun i j => .int (i * j)) (tV 4) (tV 3)) (aCons (Ev.tOp (wI MulOk fun i j => .int (i * j)) (tV 5) (tV 3)) (aCons (Ev.tC (.int 1)) aNil)))))))
      ⟨fun _ M' => Q .non M', Q, fun _ _ => False, fun _ _ => False, fun C p _ M' => E C p M'⟩ [some (.ref s), x1, x2, none, some (.int a), some (.int b)] M := by
  walk_at "evX"
  refine take_c S (by omega) (by decide) fun y M1 y0 y1 S1 => ?_
  walk_at "evX"
  refine take_c S1 (by omega) (by decide) fun x M2 x0 x1 S2 => ?_
  walk_at "evX"
  refine wI_i (MulOk.of (a := 20) (b := 20) ⟨by omega⟩ ⟨by omega⟩) ?_
  have m0 : 0 ≤ y * x := Int.mul_nonneg y0 x0
  have m1 : y * x ≤ 2 * 3 := Int.mul_le_mul (by omega) (by omega) x0 (by decide)
  generalize y * x = m at m0 m1
  walk_at "evX"
  have bm : Bd 4 (1 + m) := ⟨by omega⟩
  have bdm : 1 ≤ b * (1 + m) := by have := Int.mul_pos (show 0 < b by omega) (show 0 < 1 + m by omega); omega
  refine take_c S2 (by omega) (by decide) fun z M3 z0 z1 S3 => ?_
  walk_at "evX"
  refine if_by (fun h2 => ?_) fun h2 => ?_
  · walk_at "evX"
    have ba' : Bd 2000 (0 - a) := ba.of_le (by omega)
    refine wI_i (MulOk.of ba' bm) ?_
    walk_at "evX"
    refine wI_i (MulOk.of bb bm) ?_
    walk_at "evX"
    exact h _ _ _ M3 ⟨bdm, (ba'.mul bm).mono (by decide), (bb.mul bm).mono (by decide), .inl rfl, fun z => by omega⟩ S3
  · walk_at "evX"
    refine wI_i (MulOk.of ba bm) ?_
    walk_at "evX"
    refine wI_i (MulOk.of bb bm) ?_
    walk_at "evX"
    exact h _ _ _ M3 ⟨bdm, (ba.mul bm).mono (by decide), (bb.mul bm).mono (by decide), .inl rfl, fun z => by omega⟩ S3
/-- an item of a new list, drawn -/
theorem pickL {ws : List W} {l : Int} (S : SF M0 M s n) (hn : n + 1 ≤ 1000000) {p : Addr} (hp : M p = none) (hl : l = (ws.length : Int)) (h1 : 1 ≤ l ∧ l < 1048576) (h : ∀ w M', w ∈ ws → SF M0 M' s (n + 1) → (∀ a, a ≠ s → a ≠ p → ∀ o, M a = some o → M' a = some o) → Q w M') :
    sp__law_take G L [.ref s, .int l] (put M p (.lst ws)) (fun y M2 => wIx (.ref p) y M2 Q) E := by
  have m0 := put_same (M := M) (a := p) (o := .lst ws)
  have n0 := S.ne hp
  have S0 := S.put (o := .lst ws) hp
  refine take_c (SF.start S0.st) (by omega) h1 fun y M2 y0 y1 S2 => ?_
  obtain ⟨w, ew, hw⟩ := atI_in (ws := ws) (i := y) y0 (by omega)
  refine wIx_ref (S2.kp n0 m0) ew (h w M2 hw (S0.then S2) fun a ha hb o e => S2.kp ha ((put_ne hb).trans e))
/-- a row of truths beside the store -/
structure TR (Mb M : Mp) (s p : Addr) (n c : Nat) : Prop where
  sl : SL Mb M s p n (List.replicate c (.bl true))
section
variable {Mb M' : Mp} {p : Addr} {c k : Nat}
theorem TR.new (S : Sto M s n) (hp : M p = none) : TR M (Ev.put M p (.lst [])) s p n 0 := ⟨SL.new (ws := []) S hp⟩
theorem TR.start (h : TR Mb M s p n c) : SF M M s n := h.sl.start
theorem TR.draw (h : TR Mb M s p n c) (S : SF M M' s k) : TR Mb M' s p k c := ⟨h.sl.draw S⟩
theorem TR.keep (h : TR Mb M s p n c) (x : Ext M M') : TR Mb M' s p n c := h.draw (h.start.keep x)
theorem TR.mono (h : TR Mb M s p n c) (l : n ≤ k) : TR Mb M s p k c := ⟨⟨h.sl.b, h.sl.np, h.sl.sf.mono l, h.sl.at_⟩⟩
theorem TR.lst (h : TR Mb M s p n c) : ∃ xs, M p = some (.lst xs) := ⟨_, h.sl.at_⟩
theorem TR.app (h : TR Mb M s p n c) (l : c < 1000) (q : ∀ M', TR Mb M' s p n (c + 1) → (∀ b, b ≠ p → M' b = M b) → LS s M M' → Q .non M') : wApp p [.bl true] M Q :=
  h.sl.app (by rw [List.length_replicate]; exact l) fun M' T f g => q M' ⟨by rw [List.replicate_succ']; exact T⟩ f g
theorem TR.all (h : TR Mb M s p n c) (q : Q (.bl true) M) : wAll (fun bs => bs.all id) [.ref p] M Q := Tru.all (n := c) h.sl.at_ q
end
end k12

namespace k12
open PySem L2 Ev
variable {G : Gm} {L : Lm} {M M0 : Mp} {Q : QK} {E : EK} {s : Addr} {n : Nat}
/-! ### rounding once -/
abbrev ovf : W := .tup [.str "overflow", .str "inexact"]
def ovT (m : Str) (s : Int) : Prop := m = "zero" ∨ m = "odd" ∨ (m = "up" ∧ s = 1) ∨ (m = "down" ∧ s = 0)
instance (m : Str) (s : Int) : Decidable (ovT m s) := by unfold ovT; exact inferInstance
def ovW (p hi : Int) (m : Str) (s : Int) : W := if ovT m s then .tup [nuW s (2 ^ p.toNat - 1) hi, ovf] else .tup [nuW s (-1) 0, ovf]
def flW (w F lo p : Int) : W := if 0 < w then (if F < lo + p - 1 then .tup [.str "underflow", .str "inexact"] else .tup [.str "inexact"]) else .tup []
def unF (F p lo : Int) : Int := if lo > F - p + 1 then lo else F - p + 1
def sbit (n : Int) : Int := if n < 0 then 1 else 0
theorem sbit01 (n : Int) : sbit n = 0 ∨ sbit n = 1 := by unfold sbit; split <;> omega
def rdW (p lo hi : Int) (m : Str) (s F c w : Int) : W :=
  if hi + p < Builtin.Int.intBits (chF m s c w) + unF F p lo then ovW p hi m s else .tup [oddW s (chF m s c w) (unF F p lo), flW w F lo p]
/-- r is n / d (its root, k = 2) rounded by m into the format p, lo, hi; s the sign bit -/
def Rnd (p lo hi : Int) (m : Str) (s n d k : Int) (r : W) : Prop := ∃ F c w, PW n.natAbs d F ∧ PlcE n d k (unF (F.fdiv k) p lo) c w ∧ r = rdW p lo hi m s (F.fdiv k) c w
def RndA (p lo hi : Int) (m : Str) (ts n d k : Int) (r : W) : Prop := (n = 0 ∧ r = .tup [nuW ts 0 0, .tup []]) ∨ (n ≠ 0 ∧ Rnd p lo hi m (sbit n) n d k r)
theorem Rnd.unique {p lo hi : Int} {m : Str} {s n d k : Int} {r r' : W} (hd : 1 ≤ d) (h : Rnd p lo hi m s n d k r) (h' : Rnd p lo hi m s n d k r') : r = r' := by
  obtain ⟨F, c, w, h1, h2, rfl⟩ := h
  obtain ⟨F', c', w', g1, g2, rfl⟩ := h'
  have e := pw_unique h1 g1
  subst e
  obtain ⟨rfl, rfl⟩ := plcE_unique hd h2 g2
  rfl
theorem RndA.unique {p lo hi : Int} {m : Str} {ts n d k : Int} {r r' : W} (hd : 1 ≤ d) (h : RndA p lo hi m ts n d k r) (h' : RndA p lo hi m ts n d k r') : r = r' := by
  rcases h with ⟨h1, h2⟩ | ⟨h1, h2⟩ <;> rcases h' with ⟨g1, g2⟩ | ⟨g1, g2⟩
  · rw [h2, g2]
  · exact absurd h1 g1
  · exact absurd g1 h1
  · exact h2.unique hd g2
theorem same_nu {j : Nat} {s m q : Int} : Same G (j + 2) (nuW s m q) := by
  refine same_tup (n := j + 1) (fun w hw => ?_) (show (3 : Nat) < 2 ^ 62 by decide)
  simp only [List.mem_cons, List.not_mem_nil, or_false] at hw
  rcases hw with rfl | rfl | rfl <;> exact same_int
theorem same_odd {j : Nat} {s m q : Int} : Same G (j + 2) (oddW s m q) := by
  unfold oddW
  split <;> exact same_nu
theorem same_two {j : Nat} {a b : W} (ha : Same G j a) (hb : Same G j b) : Same G (j + 1) (.tup [a, b]) := by
  refine same_tup (fun w hw => ?_) (show (2 : Nat) < 2 ^ 62 by decide)
  simp only [List.mem_cons, List.not_mem_nil, or_false] at hw
  rcases hw with rfl | rfl
  · exact ha
  · exact hb
theorem same_fl2 {j : Nat} {x y : Str} : Same G (j + 2) (.tup [.str x, .str y]) := same_two same_str same_str
theorem same_fl1 {j : Nat} {x : Str} : Same G (j + 2) (.tup [.str x]) := by
  refine same_tup (n := j + 1) (fun w hw => ?_) (show (1 : Nat) < 2 ^ 62 by decide)
  rw [List.mem_singleton.mp hw]
  exact same_str
theorem same_fl0 {j : Nat} : Same G (j + 1) (.tup []) := same_tup (fun w hw => absurd hw (by simp)) (by decide)
theorem RndA.same {p lo hi : Int} {m : Str} {ts n d k : Int} {r : W} (h : RndA p lo hi m ts n d k r) : Same G 5 r := by
  rcases h with ⟨_, rfl⟩ | ⟨_, F, c, w, _, _, rfl⟩
  · exact same_two same_nu same_fl0
  · unfold rdW
    split
    · unfold ovW
      split
      · exact same_two same_nu same_fl2
      · exact same_two same_nu same_fl2
    · refine same_two same_odd ?_
      unfold flW
      split
      · split
        · exact same_fl2
        · exact same_fl1
      · exact same_fl0
theorem chF_rng (m : Str) (s k w : Int) : k ≤ chF m s k w ∧ chF m s k w ≤ k + 1 := by
  unfold chF
  split <;> omega
theorem unF_le {F p lo : Int} : lo ≤ unF F p lo ∧ F - p + 1 ≤ unF F p lo := by unfold unF; split <;> omega
/-- a power beyond the format overflows -/
theorem rd_over {p lo hi : Int} (X : Shp p lo hi) {m : Str} {s n d k F c w : Int} (hn : n ≠ 0) (hd : 1 ≤ d) (hk : k = 1 ∨ k = 2) (h1 : PW n.natAbs d F) (hc : PlcE n d k (unF (F.fdiv k) p lo) c w) (ho : hi + p ≤ F.fdiv k) : rdW p lo hi m s (F.fdiv k) c w = ovW p hi m s := by
  have x1 := X.p1
  have x4 := X.lh
  have e : unF (F.fdiv k) p lo = F.fdiv k - p + 1 := by unfold unF; rw [if_neg (by omega)]
  have c1 := (plc_pow (j := (p - 1).toNat) hn hd hk h1 rfl hc).1 (by rw [e]; omega)
  have b := bits_ge (Int.le_trans c1 (chF_rng m s c w).1)
  unfold rdW
  rw [if_pos (by rw [e]; omega)]
theorem six_in2 {m : Str} (hm : m ∈ six) : inW (.str m) modesW = true := (six_in m hm).1
end k12

namespace k12
open PySem L2 Ev
variable {G : Gm} {L : Lm} {M M0 : Mp} {Q : QK} {E : EK} {s : Addr} {n : Nat}
theorem qint {a b : Int} (e : a = b) (h : Q (.int a) M) : Q (.int b) M := by rw [← e]; exact h
/-! ### the law's own rounding -/
theorem wh_sum {a b c : Int} (h1 : b ≤ a) (h2 : b < c) : ((if decide (b < a) = true then 1 else 0) + (if decide (c ≤ a) = true then 1 else 0) + (if decide (c < a) = true then 1 else 0) : Int) = whF a b c := by
  unfold whF
  by_cases e1 : a = b
  · rw [if_pos e1, decide_eq_false (show ¬ b < a by omega), decide_eq_false (show ¬ c ≤ a by omega), decide_eq_false (show ¬ c < a by omega)]; rfl
  · rw [if_neg e1, decide_eq_true (show b < a by omega)]
    by_cases e2 : a < c
    · rw [if_pos e2, decide_eq_false (show ¬ c ≤ a by omega), decide_eq_false (show ¬ c < a by omega)]; rfl
    · rw [if_neg e2, decide_eq_true (show c ≤ a by omega)]
      by_cases e3 : a = c
      · rw [if_pos e3, decide_eq_false (show ¬ c < a by omega)]; rfl
      · rw [if_neg e3, decide_eq_true (show c < a by omega)]; rfl
theorem step_six {s p w : Int} (hs : s = 0 ∨ s = 1) (hp : p = 0 ∨ p = 1) (hw : w = 0 ∨ w = 1 ∨ w = 2 ∨ w = 3) :
    stepB "even" s p w = decide (w = 3 ∨ (w = 2 ∧ p = 1)) ∧ stepB "away" s p w = decide (1 < w) ∧ (w ≠ 0 → stepB "odd" s p w = decide (p = 0)) ∧ (w ≠ 0 → stepB "up" s p w = decide (s = 0)) ∧ (w ≠ 0 → stepB "down" s p w = decide (s = 1)) ∧ stepB "zero" s p w = false := by
  rcases hp with rfl | rfl <;> rcases hw with rfl | rfl | rfl | rfl <;> rcases hs with rfl | rfl <;> decide +kernel
theorem listat3 {M : Mp} {a : Addr} {x y z : W} {i : Int} (h : M a = some (.lst [x, y, z])) {Q : QK} (hi : 0 ≤ i ∧ i ≤ 2) (q : Q (if i = 0 then x else if i = 1 then y else z) M) : wIx (.ref a) (.int i) M Q := by
  have : i = 0 ∨ i = 1 ∨ i = 2 := by omega
  rcases this with rfl | rfl | rfl
  · exact wIx_ref (w := x) h rfl (by rwa [if_pos rfl] at q)
  · exact wIx_ref (w := y) h rfl (by rwa [if_neg (by decide), if_pos rfl] at q)
  · exact wIx_ref (w := z) h rfl (by rwa [if_neg (by decide), if_neg (by decide)] at q)
end k12

namespace k12
open PySem L2 Ev
local macro_rules | `(tactic| walk_at "evS") => `(tactic| repeat (first | with_reducible refine sSeq_i ?_ | with_reducible refine sAsg_i ?_ | with_reducible refine tV_i rfl ?_ | with_reducible refine tC_i ?_ | with_reducible refine aCons_i ?_ | with_reducible refine aNil_i ?_ | with_reducible refine tOp_i ?_ | with_reducible refine tFn_i ?_ | with_reducible refine tCB_i ?_ | with_reducible refine tTup_i ?_ | with_reducible refine tLst_i ?_ | with_reducible refine tUn_i ?_ | with_reducible refine tIsNf_i ?_ | with_reducible refine tIsNt_i ?_ | with_reducible refine qB_i ?_ | with_reducible refine isB_i ?_ | with_reducible refine qNot_i ?_ | with_reducible refine qAnd_i ?_ | with_reducible refine qOr_i ?_ | with_reducible refine vAnd_i ?_ | with_reducible refine vOr_i ?_ | with_reducible refine tIfE_i ?_ | with_reducible refine tMt_i ?_ | with_reducible refine isR_i ?_ | with_reducible refine sIf_i ?_ | with_reducible refine sRet_i ?_ | with_reducible refine sNext_i ?_ | with_reducible refine sDrop_i ?_ | with_reducible refine sIx_i ?_ | with_reducible refine isRI_i ?_ | with_reducible refine sRaise_i ?_ | with_reducible refine tLam_i fun f hf => ?_ | with_reducible refine sRetN_i ?_ | with_reducible refine if_t ?_ | with_reducible refine if_f ?_ | with_reducible refine wAdd_i ?_ | with_reducible refine wI0_i ?_ | with_reducible refine wEq_i ?_ | with_reducible refine wEq_s ?_ | with_reducible refine wNe_i ?_ | with_reducible refine wInt_i ?_ | with_reducible refine wInt_b ?_ | with_reducible refine wAbs_i ?_ | with_reducible refine wMax_i ?_ | with_reducible refine wMin_i ?_ | with_reducible refine wNeg_i ?_ | with_reducible refine wNot_b ?_ | with_reducible refine wBits_i ?_ | (with_reducible show wIsiK _ _ _ _; first | with_reducible refine wIsi_non_int ?_ | with_reducible refine wIsi_non_bool ?_ | with_reducible refine wIsi_non_str ?_ | with_reducible refine wIsi_non_list ?_ | with_reducible refine wIsi_non_tuple ?_ | with_reducible refine wIsi_bl_int ?_ | with_reducible refine wIsi_bl_bool ?_ | with_reducible refine wIsi_bl_str ?_ | with_reducible refine wIsi_bl_list ?_ | with_reducible refine wIsi_bl_tuple ?_ | with_reducible refine wIsi_int_int ?_ | with_reducible refine wIsi_int_bool ?_ | with_reducible refine wIsi_int_str ?_ | with_reducible refine wIsi_int_list ?_ | with_reducible refine wIsi_int_tuple ?_ | with_reducible refine wIsi_str_int ?_ | with_reducible refine wIsi_str_bool ?_ | with_reducible refine wIsi_str_str ?_ | with_reducible refine wIsi_str_list ?_ | with_reducible refine wIsi_str_tuple ?_ | with_reducible refine wIsi_tup_int ?_ | with_reducible refine wIsi_tup_bool ?_ | with_reducible refine wIsi_tup_str ?_ | with_reducible refine wIsi_tup_list ?_ | with_reducible refine wIsi_tup_tuple ?_ | with_reducible refine wIsi_tup_lt ?_)))
local macro_rules | `(tactic| walk_at "evX") => `(tactic| repeat (first | with_reducible refine sSeq_i ?_ | with_reducible refine sAsg_i ?_ | with_reducible refine tV_i rfl ?_ | with_reducible refine tC_i ?_ | with_reducible refine aCons_i ?_ | with_reducible refine aNil_i ?_ | with_reducible refine tOp_i ?_ | with_reducible refine tFn_i ?_ | with_reducible refine tCB_i ?_ | with_reducible refine tTup_i ?_ | with_reducible refine tLst_i ?_ | with_reducible refine tUn_i ?_ | with_reducible refine tIsNf_i ?_ | with_reducible refine tIsNt_i ?_ | with_reducible refine qB_i ?_ | with_reducible refine isB_i ?_ | with_reducible refine qNot_i ?_ | with_reducible refine qAnd_i ?_ | with_reducible refine qOr_i ?_ | with_reducible refine vAnd_i ?_ | with_reducible refine vOr_i ?_ | with_reducible refine tIfE_i ?_ | with_reducible refine tMt_i ?_ | with_reducible refine isR_i ?_ | with_reducible refine sIf_i ?_ | with_reducible refine sRet_i ?_ | with_reducible refine sNext_i ?_ | with_reducible refine sDrop_i ?_ | with_reducible refine sIx_i ?_ | with_reducible refine isRI_i ?_ | with_reducible refine sRaise_i ?_ | with_reducible refine tLam_i fun f hf => ?_ | with_reducible refine sRetN_i ?_ | with_reducible refine if_t ?_ | with_reducible refine if_f ?_ | with_reducible refine wAdd_i ?_ | with_reducible refine wI0_i ?_ | with_reducible refine wEq_i ?_ | with_reducible refine wEq_s ?_ | with_reducible refine wNe_i ?_ | with_reducible refine wInt_i ?_ | with_reducible refine wInt_b ?_ | with_reducible refine wAbs_i ?_ | with_reducible refine wMax_i ?_ | with_reducible refine wMin_i ?_ | with_reducible refine wNeg_i ?_ | with_reducible refine wNot_b ?_ | with_reducible refine wBits_i ?_ | with_reducible refine if_nt ?_ | with_reducible refine if_nf ?_ | with_reducible refine gTp2_i ?_ | with_reducible refine gTp3_i ?_ | with_reducible refine gTp4_i ?_ | with_reducible refine gNm_i ?_ | with_reducible refine sPar_i ?_ | with_reducible refine par2_i ?_ | with_reducible refine wIx_t0 ?_ | with_reducible refine wIx_t1 ?_ | with_reducible refine wIx_t2 ?_ | with_reducible refine wIx_t3 ?_ | with_reducible refine wLen_t ?_ | with_reducible refine sAsgG_i ?_ | with_reducible refine sPar3_i ?_ | with_reducible refine par3_i ?_ | with_reducible refine tChainW_i ?_ | with_reducible refine chB_i ?_ | with_reducible refine if_self ?_ | with_reducible refine if_nself ?_ | with_reducible refine wNe_s ?_ | with_reducible refine wEq_b ?_ | with_reducible refine tFnD_i ?_ | with_reducible refine tFnK_i ?_ | with_reducible refine tChain3W_i ?_ | with_reducible refine wEqA_i ?_ | with_reducible refine wEqA_s ?_ | with_reducible refine wEqA_b ?_ | with_reducible refine wNeA_i ?_ | with_reducible refine wNeA_s ?_ | with_reducible refine wEqA_t3 ?_ | with_reducible refine tMt0_i ?_ | with_reducible refine tSlW_i ?_ | with_reducible refine pNo_i ?_ | with_reducible refine isI_i ?_ | with_reducible refine pAt_i ?_ | with_reducible refine wSl_t ?_ | (with_reducible show wIsiK _ _ _ _; first | with_reducible refine wIsi_non_int ?_ | with_reducible refine wIsi_non_bool ?_ | with_reducible refine wIsi_non_str ?_ | with_reducible refine wIsi_non_list ?_ | with_reducible refine wIsi_non_tuple ?_ | with_reducible refine wIsi_bl_int ?_ | with_reducible refine wIsi_bl_bool ?_ | with_reducible refine wIsi_bl_str ?_ | with_reducible refine wIsi_bl_list ?_ | with_reducible refine wIsi_bl_tuple ?_ | with_reducible refine wIsi_int_int ?_ | with_reducible refine wIsi_int_bool ?_ | with_reducible refine wIsi_int_str ?_ | with_reducible refine wIsi_int_list ?_ | with_reducible refine wIsi_int_tuple ?_ | with_reducible refine wIsi_str_int ?_ | with_reducible refine wIsi_str_bool ?_ | with_reducible refine wIsi_str_str ?_ | with_reducible refine wIsi_str_list ?_ | with_reducible refine wIsi_str_tuple ?_ | with_reducible refine wIsi_tup_int ?_ | with_reducible refine wIsi_tup_bool ?_ | with_reducible refine wIsi_tup_str ?_ | with_reducible refine wIsi_tup_list ?_ | with_reducible refine wIsi_tup_tuple ?_ | with_reducible refine wIsi_tup_lt ?_)))
local macro_rules | `(tactic| walk_at "evT") => `(tactic| (walk_at "evX"; repeat (first | (with_reducible refine if_y ?h1 ?_; (case h1 => omega); walk_at "evX") | (with_reducible refine if_n ?h1 ?_; (case h1 => omega); walk_at "evX") | (with_reducible refine if_ny ?h1 ?_; (case h1 => omega); walk_at "evX") | (with_reducible refine if_nn ?h1 ?_; (case h1 => omega); walk_at "evX"))))
variable {G : Gm} {L : Lm} {M M0 : Mp} {Q : QK} {E : EK} {s : Addr} {n : Nat}
theorem is_number_ints {a b c : Int} (h : ∀ k : Bool, (k = true ↔ IsNum a b c) → Q (.bl k) M) : sp_is_number G L [nuW a b c] M Q E := by
  show t_is_number G L ⟨fun _ M' => Q .non M', Q, fun _ _ => False, fun _ _ => False, fun C p _ M' => E C p M'⟩ [some (.tup [.int a, .int b, .int c]), none, none, none] M
  unfold t_is_number
  walk_at "evX"
  refine if_ny rfl ?_
  walk_at "evX"
  refine ok_is_whole ?_
  walk_at "evX"
  refine ok_is_whole ?_
  walk_at "evX"
  refine ok_is_whole ?_
  have hf : ¬ IsNum a b c → Q (.bl false) M := fun z => h false ⟨fun y => absurd y (by decide), fun y => absurd y z⟩
  have ht : IsNum a b c → Q (.bl true) M := fun z => h true ⟨fun _ => z, fun _ => rfl⟩
  by_cases s01 : a = 0 ∨ a = 1
  rotate_left
  · walk_at "evT"
    exact hf fun z => s01 z.s01
  have hb : Builtin.bitAnd b 1 = b % 2 := PyProof.Rows.bitAnd_m1 b
  have go : (sSeq (sIf (qB (Ev.tOp (wI0 fun i j => .bl (decide (j < i))) (tV 2) (Ev.tC (.int 0)))) (sRet (vAnd (Ev.tOp Ev.wEq (Ev.tOp (wI0 fun i j => .int (Builtin.bitAnd i j)) (tV 2) (Ev.tC (.int 1))) (Ev.tC (.int 1))) (vAnd (Ev.tOp (wI0 fun i j => .bl (decide (i ≤ j))) (Ev.tUn wBits (tV 2)) (Ev.tC (.int 600))) (tChainW (wI0 fun i j => .bl (decide (i ≤ j))) (wI0 fun i j => .bl (decide (i ≤ j))) (Ev.tUn wNeg (Ev.tC (.int 2000))) (tV 3) (Ev.tC (.int 2000)))))) sNext) (sSeq (sIf (qB (Ev.tOp Ev.wEq (tV 2) (Ev.tUn wNeg (Ev.tC (.int 2))))) (sRet (vAnd (Ev.tOp Ev.wEq (tV 1) (Ev.tC (.int 0))) (Ev.tOp Ev.wEq (tV 3) (Ev.tC (.int 0))))) sNext) (sRet (vAnd (Ev.tOp (wI0 fun i j => .bl (decide (j ≤ i))) (tV 2) (Ev.tUn wNeg (Ev.tC (.int 1)))) (Ev.tOp Ev.wEq (tV 3) (Ev.tC (.int 0))))))) ⟨fun _ M' => Q .non M', Q, fun _ _ => False, fun _ _ => False, fun C p _ M' => E C p M'⟩ [some (.tup [.int a, .int b, .int c]), some (.int a), some (.int b), some (.int c)] M := by
    walk_at "evX"
    refine if_by (fun h1 => ?_) fun h1 => ?_
    · walk_at "evX"
      refine if_by (fun h2 => ?_) fun h2 => ?_
      · walk_at "evX"
        refine if_by (fun h3 => ?_) fun h3 => ?_
        · walk_at "evX"
          refine if_by (fun h4 => ?_) fun h4 => ?_
          · walk_at "evX"
            by_cases h5 : c ≤ 2000
            · rw [decide_eq_true h5]
              exact ht ⟨s01, .inl ⟨h1, by omega, bd_bits (by omega), h4, h5⟩⟩
            · rw [decide_eq_false h5]
              exact hf fun z => by rcases z.mq with ⟨_, _, _, _, z⟩ | ⟨z, _⟩ | ⟨z, _⟩ <;> omega
          · walk_at "evX"
            exact hf fun z => by rcases z.mq with ⟨_, _, _, z, _⟩ | ⟨z, _⟩ | ⟨z, _⟩ <;> omega
        · walk_at "evX"
          exact hf fun z => by
            rcases z.mq with ⟨_, _, z, _, _⟩ | ⟨z, _⟩ | ⟨z, _⟩
            · have := bits_bd z
              omega
            · omega
            · omega
      · walk_at "evX"
        exact hf fun z => by rcases z.mq with ⟨_, z, _, _, _⟩ | ⟨z, _⟩ | ⟨z, _⟩ <;> omega
    · walk_at "evX"
      refine if_by (fun h2 => ?_) fun h2 => ?_
      · walk_at "evX"
        refine if_by (fun h3 => ?_) fun h3 => ?_
        · walk_at "evX"
          by_cases h5 : c = 0
          · rw [decide_eq_true h5]
            exact ht ⟨s01, .inr (.inl ⟨h2, h3, h5⟩)⟩
          · rw [decide_eq_false h5]
            exact hf fun z => by rcases z.mq with ⟨z, _⟩ | ⟨_, _, z⟩ | ⟨_, z⟩ <;> omega
        · walk_at "evX"
          exact hf fun z => by rcases z.mq with ⟨z, _⟩ | ⟨_, z, _⟩ | ⟨z, _⟩ <;> omega
      · walk_at "evX"
        refine if_by (fun h3 => ?_) fun h3 => ?_
        · walk_at "evX"
          by_cases h5 : c = 0
          · rw [decide_eq_true h5]
            exact ht ⟨s01, .inr (.inr ⟨by omega, h5⟩)⟩
          · rw [decide_eq_false h5]
            exact hf fun z => by rcases z.mq with ⟨z, _⟩ | ⟨_, _, z⟩ | ⟨_, z⟩ <;> omega
        · walk_at "evX"
          exact hf fun z => by rcases z.mq with ⟨z, _⟩ | ⟨z, _, _⟩ | ⟨z, _⟩ <;> omega
  rcases s01 with rfl | rfl
  · refine isB_i ?_
    refine if_nf ?_
    refine sNext_i ?_
    refine sSeq_i ?_
    refine sIf_i ?_
    refine qAnd_i ?_
    refine qB_i ?_
    refine tOp_i ?_
    refine tV_i rfl ?_
    refine tC_i ?_
    refine wNe_i ?_
    refine isB_i ?_
    refine if_ny rfl ?_
    refine if_f ?_
    refine sNext_i ?_
    exact go
  · refine isB_i ?_
    refine if_nf ?_
    refine sNext_i ?_
    refine sSeq_i ?_
    refine sIf_i ?_
    refine qAnd_i ?_
    refine qB_i ?_
    refine tOp_i ?_
    refine tV_i rfl ?_
    refine tC_i ?_
    refine wNe_i ?_
    refine isB_i ?_
    refine if_nn (by decide) ?_
    refine qB_i ?_
    refine tOp_i ?_
    refine tV_i rfl ?_
    refine tC_i ?_
    refine wNe_i ?_
    refine isB_i ?_
    refine if_ny rfl ?_
    refine sNext_i ?_
    exact go
/-- what is no number -/
def BadN (s : Addr) (M : Mp) (w : W) : Prop :=
  (w = .non ∨ (∃ b, w = .bl b) ∨ (∃ z, w = .int z) ∨ (∃ x, w = .str x) ∨ ∃ a ws, w = .ref a ∧ a ≠ s ∧ M a = some (.lst ws)) ∨ (∃ l, w = .tup l ∧ l.length ≠ 3) ∨
    ∃ a b c, w = .tup [a, b, c] ∧ (NoInt s M a ∨ ∃ p, a = .int p ∧ (NoInt s M b ∨ ∃ lo, b = .int lo ∧ (NoInt s M c ∨ ∃ hi, c = .int hi ∧ ¬ IsNum p lo hi)))
theorem BadN.ls {M M' : Mp} {w : W} (h : BadN s M w) (f : LS s M M') : BadN s M' w := by
  rcases h with h | h | ⟨a, b, c, e, h⟩
  · refine .inl ?_
    rcases h with h | h | h | h | ⟨a, ws, h1, h2, h3⟩
    · exact .inl h
    · exact .inr (.inl h)
    · exact .inr (.inr (.inl h))
    · exact .inr (.inr (.inr (.inl h)))
    · obtain ⟨ws', e⟩ := f a h2 ws h3
      exact .inr (.inr (.inr (.inr ⟨a, ws', h1, h2, e⟩)))
  · exact .inr (.inl h)
  · refine .inr (.inr ⟨a, b, c, e, ?_⟩)
    exact h.imp (NoIntLs · f) fun ⟨p, e, h⟩ => ⟨p, e, h.imp (NoIntLs · f) fun ⟨lo, e, h⟩ => ⟨lo, e, h.imp (NoIntLs · f) id⟩⟩
theorem no_is_number {w : W} (hb : BadN s M w) (h : Q (.bl false) M) : sp_is_number G L [w] M Q E := by
  rcases hb with hb | hb | ⟨a, b, c, rfl, hb⟩
  · show t_is_number G L ⟨fun _ M' => Q .non M', Q, fun _ _ => False, fun _ _ => False, fun C p _ M' => E C p M'⟩ [some w, none, none, none] M
    unfold t_is_number
    rcases hb with rfl | ⟨b, rfl⟩ | ⟨z, rfl⟩ | ⟨x, rfl⟩ | ⟨a, ws, rfl, _, hM⟩
    · walk_at "evX"
      exact h
    · walk_at "evX"
      exact h
    · walk_at "evX"
      exact h
    · walk_at "evX"
      exact h
    · walk_at "evX"
      refine wIsi_lst_tuple hM ?_
      walk_at "evX"
      exact h
  · obtain ⟨l, rfl, hl⟩ := hb
    show t_is_number G L ⟨fun _ M' => Q .non M', Q, fun _ _ => False, fun _ _ => False, fun C p _ M' => E C p M'⟩ [some (.tup l), none, none, none] M
    unfold t_is_number
    walk_at "evX"
    refine if_nn (by omega) ?_
    walk_at "evX"
    exact h
  · rcases hb with hb | ⟨p, rfl, hb | ⟨lo, rfl, hb | ⟨hi, rfl, hb⟩⟩⟩
    · show t_is_number G L ⟨fun _ M' => Q .non M', Q, fun _ _ => False, fun _ _ => False, fun C p _ M' => E C p M'⟩ [some (.tup [a, b, c]), none, none, none] M
      unfold t_is_number
      walk_at "evX"
      refine if_ny rfl ?_
      walk_at "evX"
      refine no_is_whole hb ?_
      walk_at "evX"
      exact h
    · show t_is_number G L ⟨fun _ M' => Q .non M', Q, fun _ _ => False, fun _ _ => False, fun C p _ M' => E C p M'⟩ [some (.tup [.int p, b, c]), none, none, none] M
      unfold t_is_number
      walk_at "evX"
      refine if_ny rfl ?_
      walk_at "evX"
      refine ok_is_whole ?_
      walk_at "evX"
      refine no_is_whole hb ?_
      walk_at "evX"
      exact h
    · show t_is_number G L ⟨fun _ M' => Q .non M', Q, fun _ _ => False, fun _ _ => False, fun C p _ M' => E C p M'⟩ [some (.tup [.int p, .int lo, c]), none, none, none] M
      unfold t_is_number
      walk_at "evX"
      refine if_ny rfl ?_
      walk_at "evX"
      refine ok_is_whole ?_
      walk_at "evX"
      refine ok_is_whole ?_
      walk_at "evX"
      refine no_is_whole hb ?_
      walk_at "evX"
      exact h
    · refine is_number_ints fun k hk => ?_
      cases k
      · exact h
      · exact absurd (hk.mp rfl) hb
theorem no_check_number {w : W} (hb : BadN s M w) (h : E (G.cls i_BadNumber) none M) : sp_check_number G L [w] M Q E := by
  show t_check_number G L ⟨fun _ M' => Q .non M', Q, fun _ _ => False, fun _ _ => False, fun C p _ M' => E C p M'⟩ [some w] M
  unfold t_check_number
  walk_at "evX"
  refine no_is_number hb ?_
  walk_at "evX"
  exact h
def kindS (m : Int) : Str := if 0 < m then "finite" else if m = 0 then "zero" else if m = -1 then "infinite" else "nan"
theorem ok_kind_of {a b c : Int} (X : IsNum a b c) (h : Q (.str (kindS b)) M) : sp_kind_of G L [nuW a b c] M Q E := by
  show t_kind_of G L ⟨fun _ M' => Q .non M', Q, fun _ _ => False, fun _ _ => False, fun C p _ M' => E C p M'⟩ [some (nuW a b c)] M
  unfold t_kind_of
  unfold kindS at h
  walk_at "evX"
  refine ok_check_number X ?_
  walk_at "evX"
  refine if_by (fun h1 => ?_) fun h1 => ?_
  · rw [if_pos h1] at h
    walk_at "evX"
    exact h
  rw [if_neg h1] at h
  walk_at "evX"
  refine if_by (fun h2 => ?_) fun h2 => ?_
  · rw [if_pos h2] at h
    walk_at "evX"
    exact h
  rw [if_neg h2] at h
  walk_at "evX"
  refine if_by (fun h3 => ?_) fun h3 => ?_
  · rw [if_pos h3] at h
    walk_at "evX"
    exact h
  rw [if_neg h3] at h
  walk_at "evX"
  exact h
def sgD (a b : Int) : Int := if a = 1 then -b else b
theorem ok_nan (h : Q (nuW 0 (-2) 0) M) : sp_nan G L [] M Q E := by
  show t_nan G L ⟨fun _ M' => Q .non M', Q, fun _ _ => False, fun _ _ => False, fun C p _ M' => E C p M'⟩ [] M
  unfold t_nan
  walk_at "evX"
  exact h
theorem ok__law_loose {most : Nat} {reach : Int} (S : SF M0 M s n) (hn : n + 6 ≤ 1000000) (hm : 1 ≤ most ∧ most ≤ 600) (hr : 0 ≤ reach ∧ reach ≤ 2000) (h : ∀ a b c M', IsNum a b c → 0 < b → Bd most b → SF M0 M' s (n + 6) → Q (nuW a b c) M') : sp__law_loose G L [.ref s, .int (most : Int), .int reach] M Q E := by
  show t__law_loose G L ⟨fun _ M' => Q .non M', Q, fun _ _ => False, fun _ _ => False, fun C p _ M' => E C p M'⟩ [some (.ref s), some (.int (most : Int)), some (.int reach), none, none] M
  unfold t__law_loose
  walk_at "evX"
  refine take_c S (by omega) (by decide) fun a M1 a0 a1 S1 => ?_
  walk_at "evX"
  rw [show ((most : Int) - 1) = ((most - 1 : Nat) : Int) by omega]
  refine scaled_f S1 (by omega) (by omega) fun z M2 z0 bz S2 => ?_
  walk_at "evX"
  have b2 : Bd 2 (2 : Int) := ⟨by decide⟩
  refine wI_i (MulOk.of b2 (bz.mono (show most - 1 ≤ 600 by omega))) ?_
  walk_at "evX"
  rw [Int.zero_sub]
  refine edge_f S2 (by omega) (by omega) (by omega) fun c M3 c0 c1 S3 => ?_
  walk_at "evX"
  have hz := bz.lt
  have bb : Bd most (2 * z + 1) := by
    refine bd_lt (by omega) ?_
    obtain ⟨j, hj⟩ : ∃ j, most = j + 1 := ⟨most - 1, by omega⟩
    rw [hj] at hz ⊢
    rw [Int.pow_succ]
    have e : (2 : Int) ^ j = ((2 ^ j : Nat) : Int) := (two_cast j).symm
    rw [e]
    simp only [Nat.add_sub_cancel] at hz
    omega
  exact h _ _ _ M3 ⟨by omega, .inl ⟨by omega, by omega, bb.mono hm.2, by omega, by omega⟩⟩ (by omega) bb (S3.mono (by omega))
theorem ok__law_number (S : SF M0 M s n) (hn : n + 7 ≤ 1000000) (h : ∀ a b c M', IsNum a b c → SF M0 M' s (n + 7) → Q (nuW a b c) M') : sp__law_number G L [.ref s] M Q E := by
  show t__law_number G L ⟨fun _ M' => Q .non M', Q, fun _ _ => False, fun _ _ => False, fun C p _ M' => E C p M'⟩ [some (.ref s), none] M
  unfold t__law_number
  walk_at "evX"
  refine take_c S (by omega) (by decide) fun a M1 a0 a1 S1 => ?_
  walk_at "evX"
  refine if_by (fun h1 => ?_) fun h1 => ?_
  · walk_at "evX"
    exact h _ _ _ M1 ⟨.inl rfl, .inr (.inl ⟨rfl, rfl, rfl⟩)⟩ (S1.mono (by omega))
  walk_at "evX"
  refine if_by (fun h1 => ?_) fun h1 => ?_
  · walk_at "evX"
    refine take_c S1 (by omega) (by decide) fun x M2 x0 x1 S2 => ?_
    walk_at "evX"
    exact h _ _ _ M2 ⟨by omega, .inr (.inr ⟨.inl rfl, rfl⟩)⟩ (S2.mono (by omega))
  walk_at "evX"
  refine if_by (fun h1 => ?_) fun h1 => ?_
  · walk_at "evX"
    refine take_c S1 (by omega) (by decide) fun x M2 x0 x1 S2 => ?_
    walk_at "evX"
    exact h _ _ _ M2 ⟨by omega, .inr (.inr ⟨.inr rfl, rfl⟩)⟩ (S2.mono (by omega))
  walk_at "evX"
  refine if_by (fun h1 => ?_) fun h1 => ?_
  · walk_at "evX"
    refine ok__law_loose (most := 6) S1 (by omega) (by decide) (by decide) fun a b c M2 X _ _ S2 => ?_
    walk_at "evX"
    exact h _ _ _ M2 X (S2.mono (by omega))
  walk_at "evX"
  refine if_by (fun h1 => ?_) fun h1 => ?_
  · walk_at "evX"
    refine ok__law_loose (most := 53) S1 (by omega) (by decide) (by decide) fun a b c M2 X _ _ S2 => ?_
    walk_at "evX"
    exact h _ _ _ M2 X (S2.mono (by omega))
  · walk_at "evX"
    refine ok__law_loose (most := 600) S1 (by omega) (by decide) (by decide) fun a b c M2 X _ _ S2 => ?_
    walk_at "evX"
    exact h _ _ _ M2 X (S2.mono (by omega))
end k12

namespace k12
open PySem L2 Ev
variable {G : Gm} {L : Lm} {M M0 : Mp} {Q : QK} {E : EK} {s : Addr} {n : Nat}
theorem dyN_sbit {o e n : Int} {t : Nat} (eo : n = o * 2 ^ t) : sbit (dyN o e) = sbit n := by
  have e1 : ∀ j : Nat, o * 2 ^ j < 0 ↔ o < 0 := fun j => by
    have p := two_pos j
    constructor
    · intro z
      rcases Int.lt_or_le o 0 with y | y
      · exact y
      · have := Int.mul_nonneg y (Int.le_of_lt p)
        omega
    · intro z
      exact Int.mul_neg_of_neg_of_pos z p
  unfold sbit dyN
  rw [eo]
  simp only [e1]
theorem dy_split {n : Int} (h : n ≠ 0) : ∃ (o : Int) (t : Nat), n = o * 2 ^ t ∧ o % 2 = 1 ∧ (Builtin.Int.intBits (Builtin.bitAnd n (-n)) : Int) - 1 = t ∧ t < Builtin.Int.intBits n := by
  obtain ⟨t, a, ht⟩ := twos n.natAbs (by omega)
  have e := tt_eq ht
  have em : (n.natAbs : Int) = (2 * (a : Int) + 1) * 2 ^ t := by
    rw [ht, Int.natCast_mul, two_cast, Int.natCast_add, Int.natCast_mul, Int.mul_comm]
    rfl
  have lt : t < Builtin.Int.intBits n := by
    have b := (bits_rng h).2.1
    have : 2 ^ t ≤ n.natAbs := by rw [ht]; exact Nat.le_mul_of_pos_right _ (by omega)
    exact (Nat.pow_lt_pow_iff_right (by decide)).mp (Nat.lt_of_le_of_lt this b)
  rcases Int.lt_or_le n 0 with z | z
  · refine ⟨-(2 * (a : Int) + 1), t, ?_, by omega, e, lt⟩
    rw [Int.neg_mul, ← em]
    omega
  · refine ⟨2 * (a : Int) + 1, t, ?_, by omega, e, lt⟩
    rw [← em]
    omega
theorem wh_sum2 {a b c : Int} (h1 : b ≤ a) (h2 : b < c) : ((if decide (b < a) = true then 1 else 0) + (if decide (c ≤ a) = true then 1 else 0) + (if decide (c < a) = true then 1 else 0) : Int) = whF a b c := by
  unfold whF
  by_cases e1 : a = b
  · rw [if_pos e1, decide_eq_false (show ¬ b < a by omega), decide_eq_false (show ¬ c ≤ a by omega), decide_eq_false (show ¬ c < a by omega)]; rfl
  · rw [if_neg e1, decide_eq_true (show b < a by omega)]
    by_cases e2 : a < c
    · rw [if_pos e2, decide_eq_false (show ¬ c ≤ a by omega), decide_eq_false (show ¬ c < a by omega)]; rfl
    · rw [if_neg e2, decide_eq_true (show c ≤ a by omega)]
      by_cases e3 : a = c
      · rw [if_pos e3, decide_eq_false (show ¬ c < a by omega)]; rfl
      · rw [if_neg e3, decide_eq_true (show c < a by omega)]; rfl
end k12

namespace k12
open PySem L2 Ev
variable {G : Gm} {L : Lm} {M M0 : Mp} {Q : QK} {E : EK} {s : Addr} {n : Nat}
theorem dy_unique {o o' : Int} {t t' : Nat} (e : o * 2 ^ t = o' * 2 ^ t') (h : o % 2 = 1) (h' : o' % 2 = 1) : o = o' ∧ t = t' := by
  have key : ∀ {o o' : Int} {t t' : Nat}, o * 2 ^ t = o' * 2 ^ t' → o % 2 = 1 → ¬ t < t' := fun {o o' t t'} e h lt => by
    obtain ⟨j, hj⟩ : ∃ j, t' = t + 1 + j := ⟨t' - t - 1, by omega⟩
    have e2 : o * 2 ^ t = o' * 2 ^ j * 2 * 2 ^ t := by rw [e, hj, Int.pow_add, Int.pow_add]; grind
    have e3 := Int.eq_of_mul_eq_mul_right (by have := two_pos t; omega) e2
    omega
  have et : t = t' := by
    rcases Nat.lt_trichotomy t t' with z | z | z
    · exact absurd z (key e h)
    · exact z
    · exact absurd z (key e.symm h')
  subst et
  exact ⟨Int.eq_of_mul_eq_mul_right (by have := two_pos t; omega) e, rfl⟩
def lowF (a b : Int) : Int := if a ≤ b then a else b
theorem lowF_le (a b : Int) : lowF a b ≤ a ∧ lowF a b ≤ b ∧ (lowF a b = a ∨ lowF a b = b) := by unfold lowF; split <;> omega
def totF (N P z c : Int) : Int := N * 2 ^ (P - lowF P c).toNat + z * 2 ^ (c - lowF P c).toNat
def zsF (m : Str) (s N a : Int) : Int := if N = 0 ∧ s = a then s else if m = "down" then 1 else 0
theorem zsF01 {m : Str} {s N a : Int} (h : s = 0 ∨ s = 1) : zsF m s N a = 0 ∨ zsF m s N a = 1 := by
  unfold zsF
  split
  · exact h
  · split
    · exact .inr rfl
    · exact .inl rfl
/-- the total N * 2 ^ P + z * 2 ^ c, rounded once -/
def Tot (p lo hi : Int) (m : Str) (zs N P z c : Int) (r : W) : Prop :=
  (totF N P z c = 0 ∧ r = .tup [nuW zs 0 0, .tup []]) ∨ (totF N P z c ≠ 0 ∧ ∃ (o : Int) (t : Nat), totF N P z c = o * 2 ^ t ∧ o % 2 = 1 ∧ Rnd p lo hi m (sbit (totF N P z c)) (dyN o (lowF P c + t)) (dyD (lowF P c + t)) 1 r)
theorem Tot.unique {p lo hi : Int} {m : Str} {zs N P z c : Int} {r r' : W} (h : Tot p lo hi m zs N P z c r) (h' : Tot p lo hi m zs N P z c r') : r = r' := by
  rcases h with ⟨h1, h2⟩ | ⟨h1, o, t, e, ho, h2⟩ <;> rcases h' with ⟨g1, g2⟩ | ⟨g1, o', t', e', ho', g2⟩
  · rw [h2, g2]
  · exact absurd h1 g1
  · exact absurd g1 h1
  · obtain ⟨rfl, rfl⟩ := dy_unique (e.symm.trans e') ho ho'
    exact h2.unique (dyD_pos _) g2
theorem Rnd.rndA {p lo hi : Int} {m : Str} {n d k : Int} {r : W} (hn : n ≠ 0) (h : Rnd p lo hi m (sbit n) n d k r) : RndA p lo hi m 0 n d k r := .inr ⟨hn, h⟩
theorem same_rnd {p lo hi : Int} {m : Str} {s n d k : Int} {r : W} (h : Rnd p lo hi m s n d k r) : Same G 5 r := by
  obtain ⟨F, c, w, _, _, rfl⟩ := h
  unfold rdW
  split
  · unfold ovW
    split
    · exact same_two same_nu same_fl2
    · exact same_two same_nu same_fl2
  · refine same_two same_odd ?_
    unfold flW
    split
    · split
      · exact same_fl2
      · exact same_fl1
    · exact same_fl0
theorem Tot.same {p lo hi : Int} {m : Str} {zs N P z c : Int} {r : W} (h : Tot p lo hi m zs N P z c r) : Same G 5 r := by
  rcases h with ⟨_, rfl⟩ | ⟨_, o, t, _, _, h⟩
  · exact same_two same_nu same_fl0
  · exact same_rnd h
theorem dyD_bd {e : Int} {B : Nat} (h : -e < B ∧ 0 < B) : Bd B (dyD e) := (bd_pow2 (n := (-e).toNat)).mono (by omega)
theorem pow_mono' {a b : Nat} (h : a ≤ b) : (2 : Int) ^ a ≤ 2 ^ b := by
  rw [← two_cast, ← two_cast]
  exact Int.ofNat_le.mpr (Nat.pow_le_pow_right (by decide) h)
theorem dyN_bd {n o q : Int} {t B C : Nat} (en : n = o * 2 ^ t) (bn : Bd B n) (hq : q ≤ C) : Bd (B + C) (dyN o (q + t)) := by
  have h1 : Bd (B + C) (n * 2 ^ C) := bd_shl bn
  refine h1.of_le ?_
  unfold dyN
  rw [en, Int.mul_assoc, ← Int.pow_add]
  have a := abs_pow o (q + (t : Int)).toNat
  have b := abs_pow o (t + C)
  have c := Int.mul_le_mul_of_nonneg_left (pow_mono' (show (q + (t : Int)).toNat ≤ t + C by omega)) (show 0 ≤ (o.natAbs : Int) by omega)
  omega
theorem tot_bd {N P z c : Int} {B1 B2 J : Nat} (b1 : Bd B1 N) (b2 : Bd B2 z) (hd : P - c ≤ J ∧ c - P ≤ J) : Bd (B1 + B2 + J + 1) (totF N P z c) := by
  have l := lowF_le P c
  unfold totF
  have x1 : Bd (B1 + (P - lowF P c).toNat) (N * 2 ^ (P - lowF P c).toNat) := bd_shl b1
  have x2 : Bd (B2 + (c - lowF P c).toNat) (z * 2 ^ (c - lowF P c).toNat) := bd_shl b2
  exact Bd.add (x1.mono (by omega)) (x2.mono (by omega))
end k12

namespace k12
open PySem L2 Ev
variable {G : Gm} {L : Lm} {M M0 : Mp} {Q : QK} {E : EK} {s : Addr} {n : Nat}
def kinds4 : List Str := ["finite", "zero", "infinite", "nan"]
theorem in_kinds : ∀ x ∈ kinds4, ∀ a ∈ kinds4, ∀ b ∈ kinds4, inW (.str x) [.str a, .str b] = decide (a = x ∨ b = x) := by decide +kernel
theorem kindS_mem {b : Int} : kindS b ∈ kinds4 := by
  unfold kindS
  split
  · decide
  split
  · decide
  split
  · decide
  · decide
theorem num_m {a b c : Int} (Y : IsNum a b c) : b = -2 ∨ b = -1 ∨ b = 0 ∨ 0 < b := by
  rcases Y.mq with z | z | z <;> omega
theorem num_bd {a b c : Int} (Y : IsNum a b c) : Bd 600 b := by
  rcases Y.mq with z | z | z
  · exact z.2.2.1
  · exact (show Bd 2 b from ⟨by omega⟩).mono (by decide)
  · exact (show Bd 1 b from ⟨by omega⟩).mono (by decide)
theorem num_q {a b c : Int} (Y : IsNum a b c) : -2000 ≤ c ∧ c ≤ 2000 := by
  rcases Y.mq with z | z | z
  · exact z.2.2.2
  · omega
  · omega
theorem kindS_iff {a b c : Int} (Y : IsNum a b c) : (kindS b = "nan" ↔ b = -2) ∧ (kindS b = "infinite" ↔ b = -1) ∧ (kindS b = "zero" ↔ b = 0) ∧ (kindS b = "finite" ↔ 0 < b) := by
  rcases num_m Y with rfl | rfl | rfl | z
  · decide +kernel
  · decide +kernel
  · decide +kernel
  · have e : kindS b = "finite" := by unfold kindS; rw [if_pos z]
    rw [e]
    refine ⟨⟨fun h => absurd h (by decide +kernel), fun h => by omega⟩, ⟨fun h => absurd h (by decide +kernel), fun h => by omega⟩, ⟨fun h => absurd h (by decide +kernel), fun h => by omega⟩, ⟨fun _ => z, fun _ => rfl⟩⟩
theorem sgD_bd {a b c : Int} (Y : IsNum a b c) : Bd 600 (sgD a b) := (num_bd Y).of_le (by unfold sgD; split <;> omega)
theorem sgD_zero {a b : Int} : sgD a b = 0 ↔ b = 0 := by unfold sgD; split <;> omega
def nanR (fl : List W) : W := .tup [nuW 0 (-2) 0, .tup fl]
theorem xor01 {a b : Int} (h : a = 0 ∨ a = 1) (h' : b = 0 ∨ b = 1) : (Builtin.bitXor a b = 0 ∨ Builtin.bitXor a b = 1) ∧ Builtin.bitXor a b = Builtin.bitXor b a := by
  rcases h with rfl | rfl <;> rcases h' with rfl | rfl <;> decide +kernel
theorem ok_finite_num {a b c : Int} (Y : IsNum a b c) : (b < 0 ↔ b = -2 ∨ b = -1) := by
  rcases num_m Y with z | z | z | z <;> omega
def InfS (a1 b1 c1 a2 b2 c2 : Int) : W := if b1 = -1 ∧ b2 = -1 ∧ a1 ≠ a2 then nanR [.str "invalid"] else if b1 = -1 then .tup [nuW a1 b1 c1, .tup []] else .tup [nuW a2 b2 c2, .tup []]
/-- the answer of muladd -/
def MA (p lo hi : Int) (m : Str) (a1 b1 c1 a2 b2 c2 a3 b3 c3 : Int) (r : W) : Prop :=
  if b1 = -2 ∨ b2 = -2 ∨ b3 = -2 then r = nanR []
  else if (b1 = 0 ∨ b2 = 0) ∧ (b1 = -1 ∨ b2 = -1) then r = nanR [.str "invalid"]
  else if b1 = -1 ∨ b2 = -1 then r = InfS (Builtin.bitXor a1 a2) (-1) 0 a3 b3 c3
  else if b3 = -1 then r = .tup [nuW a3 b3 c3, .tup []]
  else Tot p lo hi m (zsF m (Builtin.bitXor a1 a2) (sgD a1 b1 * sgD a2 b2) a3) (sgD a1 b1 * sgD a2 b2) (c1 + c2) (sgD a3 b3) c3 r
end k12

namespace k12
open PySem L2 Ev
local macro_rules | `(tactic| walk_at "evS") => `(tactic| repeat (first | with_reducible refine sSeq_i ?_ | with_reducible refine sAsg_i ?_ | with_reducible refine tV_i rfl ?_ | with_reducible refine tC_i ?_ | with_reducible refine aCons_i ?_ | with_reducible refine aNil_i ?_ | with_reducible refine tOp_i ?_ | with_reducible refine tFn_i ?_ | with_reducible refine tCB_i ?_ | with_reducible refine tTup_i ?_ | with_reducible refine tLst_i ?_ | with_reducible refine tUn_i ?_ | with_reducible refine tIsNf_i ?_ | with_reducible refine tIsNt_i ?_ | with_reducible refine qB_i ?_ | with_reducible refine isB_i ?_ | with_reducible refine qNot_i ?_ | with_reducible refine qAnd_i ?_ | with_reducible refine qOr_i ?_ | with_reducible refine vAnd_i ?_ | with_reducible refine vOr_i ?_ | with_reducible refine tIfE_i ?_ | with_reducible refine tMt_i ?_ | with_reducible refine isR_i ?_ | with_reducible refine sIf_i ?_ | with_reducible refine sRet_i ?_ | with_reducible refine sNext_i ?_ | with_reducible refine sDrop_i ?_ | with_reducible refine sIx_i ?_ | with_reducible refine isRI_i ?_ | with_reducible refine sRaise_i ?_ | with_reducible refine tLam_i fun f hf => ?_ | with_reducible refine sRetN_i ?_ | with_reducible refine if_t ?_ | with_reducible refine if_f ?_ | with_reducible refine wAdd_i ?_ | with_reducible refine wI0_i ?_ | with_reducible refine wEq_i ?_ | with_reducible refine wEq_s ?_ | with_reducible refine wNe_i ?_ | with_reducible refine wInt_i ?_ | with_reducible refine wInt_b ?_ | with_reducible refine wAbs_i ?_ | with_reducible refine wMax_i ?_ | with_reducible refine wMin_i ?_ | with_reducible refine wNeg_i ?_ | with_reducible refine wNot_b ?_ | with_reducible refine wBits_i ?_ | (with_reducible show wIsiK _ _ _ _; first | with_reducible refine wIsi_non_int ?_ | with_reducible refine wIsi_non_bool ?_ | with_reducible refine wIsi_non_str ?_ | with_reducible refine wIsi_non_list ?_ | with_reducible refine wIsi_non_tuple ?_ | with_reducible refine wIsi_bl_int ?_ | with_reducible refine wIsi_bl_bool ?_ | with_reducible refine wIsi_bl_str ?_ | with_reducible refine wIsi_bl_list ?_ | with_reducible refine wIsi_bl_tuple ?_ | with_reducible refine wIsi_int_int ?_ | with_reducible refine wIsi_int_bool ?_ | with_reducible refine wIsi_int_str ?_ | with_reducible refine wIsi_int_list ?_ | with_reducible refine wIsi_int_tuple ?_ | with_reducible refine wIsi_str_int ?_ | with_reducible refine wIsi_str_bool ?_ | with_reducible refine wIsi_str_str ?_ | with_reducible refine wIsi_str_list ?_ | with_reducible refine wIsi_str_tuple ?_ | with_reducible refine wIsi_tup_int ?_ | with_reducible refine wIsi_tup_bool ?_ | with_reducible refine wIsi_tup_str ?_ | with_reducible refine wIsi_tup_list ?_ | with_reducible refine wIsi_tup_tuple ?_ | with_reducible refine wIsi_tup_lt ?_)))
local macro_rules | `(tactic| walk_at "evX") => `(tactic| repeat (first | with_reducible refine sSeq_i ?_ | with_reducible refine sAsg_i ?_ | with_reducible refine tV_i rfl ?_ | with_reducible refine tC_i ?_ | with_reducible refine aCons_i ?_ | with_reducible refine aNil_i ?_ | with_reducible refine tOp_i ?_ | with_reducible refine tFn_i ?_ | with_reducible refine tCB_i ?_ | with_reducible refine tTup_i ?_ | with_reducible refine tLst_i ?_ | with_reducible refine tUn_i ?_ | with_reducible refine tIsNf_i ?_ | with_reducible refine tIsNt_i ?_ | with_reducible refine qB_i ?_ | with_reducible refine isB_i ?_ | with_reducible refine qNot_i ?_ | with_reducible refine qAnd_i ?_ | with_reducible refine qOr_i ?_ | with_reducible refine vAnd_i ?_ | with_reducible refine vOr_i ?_ | with_reducible refine tIfE_i ?_ | with_reducible refine tMt_i ?_ | with_reducible refine isR_i ?_ | with_reducible refine sIf_i ?_ | with_reducible refine sRet_i ?_ | with_reducible refine sNext_i ?_ | with_reducible refine sDrop_i ?_ | with_reducible refine sIx_i ?_ | with_reducible refine isRI_i ?_ | with_reducible refine sRaise_i ?_ | with_reducible refine tLam_i fun f hf => ?_ | with_reducible refine sRetN_i ?_ | with_reducible refine if_t ?_ | with_reducible refine if_f ?_ | with_reducible refine wAdd_i ?_ | with_reducible refine wI0_i ?_ | with_reducible refine wEq_i ?_ | with_reducible refine wEq_s ?_ | with_reducible refine wNe_i ?_ | with_reducible refine wInt_i ?_ | with_reducible refine wInt_b ?_ | with_reducible refine wAbs_i ?_ | with_reducible refine wMax_i ?_ | with_reducible refine wMin_i ?_ | with_reducible refine wNeg_i ?_ | with_reducible refine wNot_b ?_ | with_reducible refine wBits_i ?_ | with_reducible refine if_nt ?_ | with_reducible refine if_nf ?_ | with_reducible refine gTp2_i ?_ | with_reducible refine gTp3_i ?_ | with_reducible refine gTp4_i ?_ | with_reducible refine gNm_i ?_ | with_reducible refine sPar_i ?_ | with_reducible refine par2_i ?_ | with_reducible refine wIx_t0 ?_ | with_reducible refine wIx_t1 ?_ | with_reducible refine wIx_t2 ?_ | with_reducible refine wIx_t3 ?_ | with_reducible refine wLen_t ?_ | with_reducible refine sAsgG_i ?_ | with_reducible refine sPar3_i ?_ | with_reducible refine par3_i ?_ | with_reducible refine tChainW_i ?_ | with_reducible refine chB_i ?_ | with_reducible refine if_self ?_ | with_reducible refine if_nself ?_ | with_reducible refine wNe_s ?_ | with_reducible refine wEq_b ?_ | with_reducible refine tFnD_i ?_ | with_reducible refine tFnK_i ?_ | with_reducible refine tChain3W_i ?_ | with_reducible refine wEqA_i ?_ | with_reducible refine wEqA_s ?_ | with_reducible refine wEqA_b ?_ | with_reducible refine wNeA_i ?_ | with_reducible refine wNeA_s ?_ | with_reducible refine wEqA_t3 ?_ | with_reducible refine tMt0_i ?_ | with_reducible refine tSlW_i ?_ | with_reducible refine pNo_i ?_ | with_reducible refine isI_i ?_ | with_reducible refine pAt_i ?_ | with_reducible refine wSl_t ?_ | (with_reducible show wIsiK _ _ _ _; first | with_reducible refine wIsi_non_int ?_ | with_reducible refine wIsi_non_bool ?_ | with_reducible refine wIsi_non_str ?_ | with_reducible refine wIsi_non_list ?_ | with_reducible refine wIsi_non_tuple ?_ | with_reducible refine wIsi_bl_int ?_ | with_reducible refine wIsi_bl_bool ?_ | with_reducible refine wIsi_bl_str ?_ | with_reducible refine wIsi_bl_list ?_ | with_reducible refine wIsi_bl_tuple ?_ | with_reducible refine wIsi_int_int ?_ | with_reducible refine wIsi_int_bool ?_ | with_reducible refine wIsi_int_str ?_ | with_reducible refine wIsi_int_list ?_ | with_reducible refine wIsi_int_tuple ?_ | with_reducible refine wIsi_str_int ?_ | with_reducible refine wIsi_str_bool ?_ | with_reducible refine wIsi_str_str ?_ | with_reducible refine wIsi_str_list ?_ | with_reducible refine wIsi_str_tuple ?_ | with_reducible refine wIsi_tup_int ?_ | with_reducible refine wIsi_tup_bool ?_ | with_reducible refine wIsi_tup_str ?_ | with_reducible refine wIsi_tup_list ?_ | with_reducible refine wIsi_tup_tuple ?_ | with_reducible refine wIsi_tup_lt ?_)))
local macro_rules | `(tactic| walk_at "evT") => `(tactic| (walk_at "evX"; repeat (first | (with_reducible refine if_y ?h1 ?_; (case h1 => omega); walk_at "evX") | (with_reducible refine if_n ?h1 ?_; (case h1 => omega); walk_at "evX") | (with_reducible refine if_ny ?h1 ?_; (case h1 => omega); walk_at "evX") | (with_reducible refine if_nn ?h1 ?_; (case h1 => omega); walk_at "evX"))))
variable {G : Gm} {L : Lm} {M M0 : Mp} {Q : QK} {E : EK} {s : Addr} {n : Nat}
theorem edge_big {s : Addr} {n eb : Nat} {lo hi : Int} (le : eb ≤ 1000000) (S : Sto M s n) (hn : n + 2 ≤ 1000000) (hle : lo ≤ hi) (bl : Bd eb lo) (bh : Bd eb hi) (h : ∀ z M', lo ≤ z → z ≤ hi → Sto M' s (n + 2) → Fr s M M' → Q (.int z) M') : sp__law_edge G L [.ref s, .int lo, .int hi] M Q E := by
  show t__law_edge G L ⟨fun _ M' => Q .non M', Q, fun _ _ => False, fun _ _ => False, fun C p _ M' => E C p M'⟩ [some (.ref s), some (.int lo), some (.int hi), none] M
  unfold t__law_edge
  walk_at "evX"
  refine ok__law_take S (by omega) (by decide) (nb := 20) ⟨by decide⟩ (by decide) fun z M1 z0 z1 S1 f1 => ?_
  walk_at "evX"
  refine if_by (fun h1 => ?_) fun h1 => ?_
  · walk_at "evX"
    exact h lo M1 (by omega) hle (S1.mono (by omega)) f1
  walk_at "evX"
  refine if_by (fun h2 => ?_) fun h2 => ?_
  · walk_at "evX"
    exact h lo M1 (by omega) hle (S1.mono (by omega)) f1
  walk_at "evX"
  refine if_by (fun h2 => ?_) fun h2 => ?_
  · walk_at "evX"
    exact h hi M1 (by omega) (by omega) (S1.mono (by omega)) f1
  walk_at "evX"
  refine if_by (fun h2 => ?_) fun h2 => ?_
  · walk_at "evX"
    exact h _ M1 (by omega) (by omega) (S1.mono (by omega)) f1
  walk_at "evX"
  refine if_by (fun h2 => ?_) fun h2 => ?_
  · walk_at "evX"
    exact h _ M1 (by omega) (by omega) (S1.mono (by omega)) f1
  walk_at "evX"
  refine if_by (fun h2 => ?_) fun h2 => ?_
  · walk_at "evX"
    refine h _ M1 ?_ ?_ (S1.mono (by omega)) f1
    · split <;> split <;> omega
    · split <;> split <;> omega
  walk_at "evX"
  refine if_by (fun h2 => ?_) fun h2 => ?_
  · walk_at "evX"
    refine ok__law_take S1 (by omega) (by decide) (nb := 20) ⟨by decide⟩ (by decide) fun z2 M2 y0 y1 S2 f2 => ?_
    walk_at "evX"
    refine h _ M2 ?_ ?_ S2 (f1.trans f2)
    · split <;> omega
    · split <;> omega
  · walk_at "evX"
    refine ok__law_take S1 (by omega) (by omega) (nb := eb + 2) ((Bd.add (bh.sub bl) (Bd.mono (a := 1) ⟨by decide⟩ (by omega)) : Bd (eb + 1 + 1) _)) (by omega) fun z2 M2 y0 y1 S2 f2 => ?_
    walk_at "evX"
    exact h _ M2 (by omega) (by omega) S2 (f1.trans f2)
theorem edge_bf {eb : Nat} {lo hi : Int} (le : eb ≤ 1000000) (S : SF M0 M s n) (hn : n + 2 ≤ 1000000) (hle : lo ≤ hi) (bl : Bd eb lo) (bh : Bd eb hi) (h : ∀ z M', lo ≤ z → z ≤ hi → SF M0 M' s (n + 2) → Q (.int z) M') : sp__law_edge G L [.ref s, .int lo, .int hi] M Q E :=
  edge_big le S.st hn hle bl bh fun z M' z0 z1 S' f' => h z M' z0 z1 ⟨S', S.fr.trans f'⟩
theorem big600 : ¬ Bd 600 (1 * 2 ^ (600 : Int).toNat) := fun h => by
  have := h.lt
  have e : ((1 : Int) * 2 ^ (600 : Int).toNat).natAbs = 2 ^ 600 := by decide +kernel
  rw [e] at this
  exact absurd this (Nat.lt_irrefl _)
theorem big600' : ¬ Bd 600 (1 * 2 ^ (600 : Int).toNat + 1) := fun h => big600 (h.of_le (by decide +kernel))
theorem ok__law_bad_number {a b c : Int} (X : IsNum a b c) (S : SF M0 M s n) (hn : n + 4 ≤ 1000000) (h : ∀ w M', BadN s M' w → SF M0 M' s (n + 4) → Q w M') : sp__law_bad_number G L [.ref s, nuW a b c] M Q E := by
  show t__law_bad_number G L ⟨fun _ M' => Q .non M', Q, fun _ _ => False, fun _ _ => False, fun C p _ M' => E C p M'⟩ [some (.ref s), some (nuW a b c), none] M
  unfold t__law_bad_number
  have so : ShlOk 1 600 := shl_int (k := 1) (by decide) ⟨by decide⟩ (by decide)
  walk_at "evX"
  intro p2 q2
  have m2 := put_same (M := M) (a := p2) (o := .lst [.int a, .int b, .int c])
  have n2 := S.ne q2
  have S1 := S.put (o := .lst [.int a, .int b, .int c]) q2
  generalize put M p2 (.lst [.int a, .int b, .int c]) = M1 at S1 m2
  walk_at "evX"
  intro q hq
  have n21 : p2 ≠ q := fun z => by rw [← z, m2] at hq; cases hq
  obtain ⟨l1, hl1⟩ : ∃ l : List W, l = [.ref p2, .tup [.int a, .int b], .tup [.int a, .int b, .int c, .int 0], .tup [.int 2, .int b, .int c]] := ⟨_, rfl⟩
  rw [← hl1]
  have c1 : l1.length = 4 := by rw [hl1]; rfl
  have T := SL.new (ws := l1) S1.st hq
  have m2 := (Ext.new (o := .lst l1) hq) _ _ m2
  generalize put M1 q (.lst l1) = M2 at T m2
  walk_at "evX"
  refine ⟨⟨_, T.at_⟩, ?_⟩
  walk_at "evX"
  intro p3 q3
  obtain ⟨l3, hl3⟩ : ∃ l : List W, l = [.tup [.int (-1), .int b, .int c], .tup [.int 0, .int 0, .int 1], .tup [.int 1, .int 0, .int (-2001)], .tup [.int 0, .int (-1), .int 1], .tup [.int 1, .int (-2), .int 0], .tup [.int 0, .int (-3), .int 0], .tup [.int 0, .int 2, .int 0]] := ⟨_, rfl⟩
  rw [← hl3]
  have c3 : l3.length = 7 := by rw [hl3]; rfl
  have k3 := put_same (M := M2) (a := p3) (o := .lst l3)
  have T := T.put (o := .lst l3) q3
  have m2 := (Ext.new (o := .lst l3) q3) _ _ m2
  generalize put M2 p3 (.lst l3) = M3 at T k3 m2
  walk_at "evX"
  refine T.ext k3 (by omega) fun M4 T f g => ?_
  have m2 := (f _ n21).trans m2
  clear k3
  walk_at "evX"
  refine ⟨⟨_, T.at_⟩, ?_⟩
  walk_at "evX"
  refine wI_i so ?_
  walk_at "evX"
  intro p4 q4
  obtain ⟨l4, hl4⟩ : ∃ l : List W, l = [.tup [.int 1, .int 6, .int (-1)], .tup [.int 0, .int (1 * 2 ^ (600 : Int).toNat + 1), .int 0], .tup [.int 0, .int 1, .int 2001], .tup [.int 0, .int 1, .int (-2001)], .tup [.int 0, .int (-5), .int 0], .non, .str "1p0", .int 1, .int 0] := ⟨_, rfl⟩
  rw [← hl4]
  have c4 : l4.length = 9 := by rw [hl4]; rfl
  have k4 := put_same (M := M4) (a := p4) (o := .lst l4)
  have T := T.put (o := .lst l4) q4
  have m2 := (Ext.new (o := .lst l4) q4) _ _ m2
  generalize put M4 p4 (.lst l4) = M5 at T k4 m2
  walk_at "evX"
  refine T.ext k4 (by simp only [List.length_append, List.length_cons, List.length_nil, c1, c3, c4]; omega) fun M6 T f g => ?_
  have m2 := (f _ n21).trans m2
  clear k4
  walk_at "evX"
  refine ⟨⟨_, T.at_⟩, ?_⟩
  walk_at "evX"
  refine noint_f T.start (by omega) fun w1 M7 hw1 S7 => ?_
  have T := T.draw S7
  have m2 := S7.kp n2 m2
  walk_at "evX"
  refine T.app (by simp only [List.length_append, List.length_cons, List.length_nil, c1, c3, c4]; omega) fun M8 T f g => ?_
  have m2 := (f _ n21).trans m2
  have hw1 := NoIntLs hw1 g
  walk_at "evX"
  refine ⟨⟨_, T.at_⟩, ?_⟩
  walk_at "evX"
  refine noint_f T.start (by omega) fun w2 M9 hw2 S9 => ?_
  have T := T.draw S9
  have m2 := S9.kp n2 m2
  have hw1 := NoIntLs hw1 S9.ls
  walk_at "evX"
  refine T.app (by simp only [List.length_append, List.length_cons, List.length_nil, c1, c3, c4]; omega) fun M10 T f g => ?_
  have m2 := (f _ n21).trans m2
  have hw1 := NoIntLs hw1 g
  have hw2 := NoIntLs hw2 g
  walk_at "evX"
  refine ⟨⟨_, T.at_⟩, ?_⟩
  walk_at "evX"
  refine noint_f T.start (by omega) fun w3 M11 hw3 S11 => ?_
  have T := T.draw S11
  have m2 := S11.kp n2 m2
  have hw1 := NoIntLs hw1 S11.ls
  have hw2 := NoIntLs hw2 S11.ls
  walk_at "evX"
  refine T.app (by simp only [List.length_append, List.length_cons, List.length_nil, c1, c3, c4]; omega) fun M12 T f g => ?_
  have m2 := (f _ n21).trans m2
  have hw1 := NoIntLs hw1 g
  have hw2 := NoIntLs hw2 g
  have hw3 := NoIntLs hw3 g
  walk_at "evX"
  refine ⟨⟨_, T.at_⟩, ?_⟩
  walk_at "evX"
  refine wI_i so ?_
  walk_at "evX"
  intro p5 q5
  obtain ⟨l5, hl5⟩ : ∃ l : List W, l = [.tup [], .tup [nuW a b c], .bl true, .tup [.int 0, .int (1 * 2 ^ (600 : Int).toNat), .int 0]] := ⟨_, rfl⟩
  rw [← hl5]
  have c5 : l5.length = 4 := by rw [hl5]; rfl
  have k5 := put_same (M := M12) (a := p5) (o := .lst l5)
  have T := T.put (o := .lst l5) q5
  have m2 := (Ext.new (o := .lst l5) q5) _ _ m2
  have g3 : LS s M12 (put M12 p5 (.lst l5)) := LS.put
  have hw1 := NoIntLs hw1 g3
  have hw2 := NoIntLs hw2 g3
  have hw3 := NoIntLs hw3 g3
  clear g3
  generalize put M12 p5 (.lst l5) = M13 at T k5 m2 hw1 hw2 hw3
  walk_at "evX"
  refine T.ext k5 (by simp only [List.length_append, List.length_cons, List.length_nil, c1, c3, c4, c5]; omega) fun M14 T f g => ?_
  have m2 := (f _ n21).trans m2
  have hw1 := NoIntLs hw1 g
  have hw2 := NoIntLs hw2 g
  have hw3 := NoIntLs hw3 g
  clear k5
  generalize hl6 : l1 ++ l3 ++ l4 ++ [.tup [w1, .int b, .int c]] ++ [.tup [.int a, w2, .int c]] ++ [.tup [.int a, .int b, w3]] ++ l5 = l6 at T
  have c6 : l6.length = 27 := by rw [← hl6]; simp only [List.length_append, List.length_cons, List.length_nil, c1, c3, c4, c5]
  walk_at "evX"
  refine wLen_ref T.at_ ?_
  rw [c6]
  refine take_c (bd := 27) T.start (by omega) (by decide) fun y M15 y0 y1 S15 => ?_
  have TD := T.draw S15
  have kD := S15.kp n2 m2
  have hw1 := NoIntLs hw1 S15.ls
  have hw2 := NoIntLs hw2 S15.ls
  have hw3 := NoIntLs hw3 S15.ls
  obtain ⟨w, ew, hw⟩ := atI_in (ws := l6) (i := y) y0 (by rw [c6]; exact y1)
  refine wIx_ref TD.at_ ew (h w M15 ?_ ((S1.then TD.sf).mono (by omega)))
  rw [← hl6, hl1, hl3, hl4, hl5] at hw
  have nv : ∀ {a b c : Int}, ¬ IsNum a b c → BadN s M15 (.tup [.int a, .int b, .int c]) := fun hz => .inr (.inr ⟨_, _, _, rfl, .inr ⟨_, rfl, .inr ⟨_, rfl, .inr ⟨_, rfl, hz⟩⟩⟩⟩)
  have ns : ∀ {a b c : Int}, ¬ (a = 0 ∨ a = 1) → ¬ IsNum a b c := fun hz Y => hz Y.s01
  have nm : ∀ {a b c : Int}, b ≤ 0 → ¬ (b = -2 ∧ a = 0 ∧ c = 0) → ¬ ((b = -1 ∨ b = 0) ∧ c = 0) → ¬ IsNum a b c := fun h1 h2 h3 Y => by
    rcases Y.mq with z | z | z
    · omega
    · exact h2 z
    · exact h3 z
  have np : ∀ {a b c : Int}, 0 < b → ¬ (b % 2 = 1 ∧ Bd 600 b ∧ -2000 ≤ c ∧ c ≤ 2000) → ¬ IsNum a b c := fun h1 h2 Y => by
    rcases Y.mq with z | z | z
    · exact h2 z.2
    · omega
    · omega
  have e600 : (0 : Int) < 2 ^ (600 : Int).toNat := two_pos _
  simp only [List.mem_append, List.mem_cons, List.not_mem_nil, or_false] at hw
  rcases hw with (((((( rfl | rfl | rfl | rfl) | (rfl | rfl | rfl | rfl | rfl | rfl | rfl)) | (rfl | rfl | rfl | rfl | rfl | rfl | rfl | rfl | rfl)) | rfl) | rfl) | rfl) | (rfl | rfl | rfl | rfl)
  · exact .inl (.inr (.inr (.inr (.inr ⟨_, _, rfl, n2, kD⟩))))
  · exact .inr (.inl ⟨_, rfl, by simp only [List.length_cons, List.length_nil]; omega⟩)
  · exact .inr (.inl ⟨_, rfl, by simp only [List.length_cons, List.length_nil]; omega⟩)
  · exact nv (ns (by decide))
  · exact nv (ns (by decide))
  · exact nv (nm (by decide) (by decide) (by decide))
  · exact nv (nm (by decide) (by decide) (by decide))
  · exact nv (nm (by decide) (by decide) (by decide))
  · exact nv (nm (by decide) (by decide) (by decide))
  · exact nv (nm (by decide) (by decide) (by decide))
  · exact nv (np (by decide) (by omega))
  · exact nv (np (by decide) (by omega))
  · exact nv (np (by omega) (fun z => big600' z.2.1))
  · exact nv (np (by decide) (by omega))
  · exact nv (np (by decide) (by omega))
  · exact nv (nm (by decide) (by decide) (by decide))
  · exact .inl (.inl rfl)
  · exact .inl (.inr (.inr (.inr (.inl ⟨_, rfl⟩))))
  · exact .inl (.inr (.inr (.inl ⟨_, rfl⟩)))
  · exact .inl (.inr (.inr (.inl ⟨_, rfl⟩)))
  · exact .inr (.inr ⟨_, _, _, rfl, .inl hw1⟩)
  · exact .inr (.inr ⟨_, _, _, rfl, .inr ⟨_, rfl, .inl hw2⟩⟩)
  · exact .inr (.inr ⟨_, _, _, rfl, .inr ⟨_, rfl, .inr ⟨_, rfl, .inl hw3⟩⟩⟩)
  · exact .inr (.inl ⟨_, rfl, by simp only [List.length_nil]; omega⟩)
  · exact .inr (.inl ⟨_, rfl, by simp only [List.length_cons, List.length_nil]; omega⟩)
  · exact .inl (.inr (.inl ⟨_, rfl⟩))
  · exact nv (np (by omega) (fun z => big600 z.2.1))
theorem sg_eq {a b : Int} (h : a = 0 ∨ a = 1) : (1 - 2 * a) * b = sgD a b := by
  unfold sgD
  rcases h with rfl | rfl
  · rw [if_neg (by decide)]
    omega
  · rw [if_pos rfl]
    omega
end k12

namespace k12
open PySem L2 Ev
variable {G : Gm} {L : Lm} {M M0 : Mp} {Q : QK} {E : EK} {s : Addr} {n : Nat}
theorem if_inv {c : Bool} {t u : TSW} {nx : St' → Mp → Prop} {rt : QK} {bk ct : St' → Mp → Prop} {ex : EX} {τ σ : St'} {M N : Mp} (P : St' → Mp → Prop) (g : ∀ τ' M', P τ' M' → nx τ' M') (h : ∀ k : St' → Mp → Prop, (∀ τ' M', P τ' M' → k τ' M') → if c = true then t ⟨k, rt, bk, ct, ex⟩ τ M else u ⟨k, rt, bk, ct, ex⟩ σ N) : if c = true then t ⟨nx, rt, bk, ct, ex⟩ τ M else u ⟨nx, rt, bk, ct, ex⟩ σ N := h _ g
def EP (N P : Int) (r : W) : Prop := (N = 0 ∧ r = exW 0 1 1) ∨ (N ≠ 0 ∧ ∃ (o : Int) (t : Nat), N = o * 2 ^ t ∧ o % 2 = 1 ∧ r = exW (dyN o (P + t)) (dyD (P + t)) 1)
theorem EP.unique {N P : Int} {r r' : W} (h : EP N P r) (h' : EP N P r') : r = r' := by
  rcases h with ⟨h1, h2⟩ | ⟨h1, o, t, e, ho, h2⟩ <;> rcases h' with ⟨g1, g2⟩ | ⟨g1, o', t', e', ho', g2⟩
  · rw [h2, g2]
  · exact absurd h1 g1
  · exact absurd g1 h1
  · obtain ⟨rfl, rfl⟩ := dy_unique (e.symm.trans e') ho ho'
    rw [h2, g2]
theorem ttF_mul {m : Int} (h : 0 < m) : m / 2 ^ ttF m * 2 ^ ttF m = m := by
  obtain ⟨t, a, ht⟩ := twos m.natAbs (by omega)
  have e := tt_eq ht
  have et : ttF m = t := by unfold ttF; omega
  rw [et]
  have p := two_pos t
  have em : m = (2 * (a : Int) + 1) * 2 ^ t := by
    have : (m.natAbs : Int) = ((2 ^ t * (2 * a + 1) : Nat) : Int) := congrArg _ ht
    rw [Int.natCast_mul, two_cast, Int.natCast_add, Int.natCast_mul, Int.mul_comm] at this
    have e2 : (m.natAbs : Int) = m := by omega
    rw [← e2]
    exact this
  have ed : m / 2 ^ t = 2 * (a : Int) + 1 := by rw [em]; exact Int.mul_ediv_cancel _ (by omega)
  rw [ed, ← em]
theorem same_ex {a b c : Int} : Same G 5 (exW a b c) := by
  refine same_tup (n := 4) (fun w hw => ?_) (show (3 : Nat) < 2 ^ 62 by decide)
  simp only [List.mem_cons, List.not_mem_nil, or_false] at hw
  rcases hw with rfl | rfl | rfl <;> exact same_int
theorem EP.same {N P : Int} {r : W} (h : EP N P r) : Same G 5 r := by
  rcases h with ⟨_, rfl⟩ | ⟨_, o, t, _, _, rfl⟩ <;> exact same_ex
theorem same_nan0 : Same G 5 (nanR []) := same_two same_nu same_fl0
theorem same_nan1 : Same G 5 (nanR [.str "invalid"]) := same_two same_nu same_fl1
theorem m_even : ("even" : Str) ∈ six := by decide
theorem ynan : IsNum 0 (-2) 0 := ⟨.inl rfl, .inr (.inl ⟨rfl, rfl, rfl⟩)⟩
theorem y010 : IsNum 0 1 0 := ⟨.inl rfl, .inl ⟨by decide, by decide, Bd.mono (a := 1) ⟨by decide⟩ (by decide), by decide, by decide⟩⟩
end k12

namespace k12
open PySem L2 Ev
local macro_rules | `(tactic| walk_at "evS") => `(tactic| repeat (first | with_reducible refine sSeq_i ?_ | with_reducible refine sAsg_i ?_ | with_reducible refine tV_i rfl ?_ | with_reducible refine tC_i ?_ | with_reducible refine aCons_i ?_ | with_reducible refine aNil_i ?_ | with_reducible refine tOp_i ?_ | with_reducible refine tFn_i ?_ | with_reducible refine tCB_i ?_ | with_reducible refine tTup_i ?_ | with_reducible refine tLst_i ?_ | with_reducible refine tUn_i ?_ | with_reducible refine tIsNf_i ?_ | with_reducible refine tIsNt_i ?_ | with_reducible refine qB_i ?_ | with_reducible refine isB_i ?_ | with_reducible refine qNot_i ?_ | with_reducible refine qAnd_i ?_ | with_reducible refine qOr_i ?_ | with_reducible refine vAnd_i ?_ | with_reducible refine vOr_i ?_ | with_reducible refine tIfE_i ?_ | with_reducible refine tMt_i ?_ | with_reducible refine isR_i ?_ | with_reducible refine sIf_i ?_ | with_reducible refine sRet_i ?_ | with_reducible refine sNext_i ?_ | with_reducible refine sDrop_i ?_ | with_reducible refine sIx_i ?_ | with_reducible refine isRI_i ?_ | with_reducible refine sRaise_i ?_ | with_reducible refine tLam_i fun f hf => ?_ | with_reducible refine sRetN_i ?_ | with_reducible refine if_t ?_ | with_reducible refine if_f ?_ | with_reducible refine wAdd_i ?_ | with_reducible refine wI0_i ?_ | with_reducible refine wEq_i ?_ | with_reducible refine wEq_s ?_ | with_reducible refine wNe_i ?_ | with_reducible refine wInt_i ?_ | with_reducible refine wInt_b ?_ | with_reducible refine wAbs_i ?_ | with_reducible refine wMax_i ?_ | with_reducible refine wMin_i ?_ | with_reducible refine wNeg_i ?_ | with_reducible refine wNot_b ?_ | with_reducible refine wBits_i ?_ | (with_reducible show wIsiK _ _ _ _; first | with_reducible refine wIsi_non_int ?_ | with_reducible refine wIsi_non_bool ?_ | with_reducible refine wIsi_non_str ?_ | with_reducible refine wIsi_non_list ?_ | with_reducible refine wIsi_non_tuple ?_ | with_reducible refine wIsi_bl_int ?_ | with_reducible refine wIsi_bl_bool ?_ | with_reducible refine wIsi_bl_str ?_ | with_reducible refine wIsi_bl_list ?_ | with_reducible refine wIsi_bl_tuple ?_ | with_reducible refine wIsi_int_int ?_ | with_reducible refine wIsi_int_bool ?_ | with_reducible refine wIsi_int_str ?_ | with_reducible refine wIsi_int_list ?_ | with_reducible refine wIsi_int_tuple ?_ | with_reducible refine wIsi_str_int ?_ | with_reducible refine wIsi_str_bool ?_ | with_reducible refine wIsi_str_str ?_ | with_reducible refine wIsi_str_list ?_ | with_reducible refine wIsi_str_tuple ?_ | with_reducible refine wIsi_tup_int ?_ | with_reducible refine wIsi_tup_bool ?_ | with_reducible refine wIsi_tup_str ?_ | with_reducible refine wIsi_tup_list ?_ | with_reducible refine wIsi_tup_tuple ?_ | with_reducible refine wIsi_tup_lt ?_)))
local macro_rules | `(tactic| walk_at "evX") => `(tactic| repeat (first | with_reducible refine sSeq_i ?_ | with_reducible refine sAsg_i ?_ | with_reducible refine tV_i rfl ?_ | with_reducible refine tC_i ?_ | with_reducible refine aCons_i ?_ | with_reducible refine aNil_i ?_ | with_reducible refine tOp_i ?_ | with_reducible refine tFn_i ?_ | with_reducible refine tCB_i ?_ | with_reducible refine tTup_i ?_ | with_reducible refine tLst_i ?_ | with_reducible refine tUn_i ?_ | with_reducible refine tIsNf_i ?_ | with_reducible refine tIsNt_i ?_ | with_reducible refine qB_i ?_ | with_reducible refine isB_i ?_ | with_reducible refine qNot_i ?_ | with_reducible refine qAnd_i ?_ | with_reducible refine qOr_i ?_ | with_reducible refine vAnd_i ?_ | with_reducible refine vOr_i ?_ | with_reducible refine tIfE_i ?_ | with_reducible refine tMt_i ?_ | with_reducible refine isR_i ?_ | with_reducible refine sIf_i ?_ | with_reducible refine sRet_i ?_ | with_reducible refine sNext_i ?_ | with_reducible refine sDrop_i ?_ | with_reducible refine sIx_i ?_ | with_reducible refine isRI_i ?_ | with_reducible refine sRaise_i ?_ | with_reducible refine tLam_i fun f hf => ?_ | with_reducible refine sRetN_i ?_ | with_reducible refine if_t ?_ | with_reducible refine if_f ?_ | with_reducible refine wAdd_i ?_ | with_reducible refine wI0_i ?_ | with_reducible refine wEq_i ?_ | with_reducible refine wEq_s ?_ | with_reducible refine wNe_i ?_ | with_reducible refine wInt_i ?_ | with_reducible refine wInt_b ?_ | with_reducible refine wAbs_i ?_ | with_reducible refine wMax_i ?_ | with_reducible refine wMin_i ?_ | with_reducible refine wNeg_i ?_ | with_reducible refine wNot_b ?_ | with_reducible refine wBits_i ?_ | with_reducible refine if_nt ?_ | with_reducible refine if_nf ?_ | with_reducible refine gTp2_i ?_ | with_reducible refine gTp3_i ?_ | with_reducible refine gTp4_i ?_ | with_reducible refine gNm_i ?_ | with_reducible refine sPar_i ?_ | with_reducible refine par2_i ?_ | with_reducible refine wIx_t0 ?_ | with_reducible refine wIx_t1 ?_ | with_reducible refine wIx_t2 ?_ | with_reducible refine wIx_t3 ?_ | with_reducible refine wLen_t ?_ | with_reducible refine sAsgG_i ?_ | with_reducible refine sPar3_i ?_ | with_reducible refine par3_i ?_ | with_reducible refine tChainW_i ?_ | with_reducible refine chB_i ?_ | with_reducible refine if_self ?_ | with_reducible refine if_nself ?_ | with_reducible refine wNe_s ?_ | with_reducible refine wEq_b ?_ | with_reducible refine tFnD_i ?_ | with_reducible refine tFnK_i ?_ | with_reducible refine tChain3W_i ?_ | with_reducible refine wEqA_i ?_ | with_reducible refine wEqA_s ?_ | with_reducible refine wEqA_b ?_ | with_reducible refine wNeA_i ?_ | with_reducible refine wNeA_s ?_ | with_reducible refine wEqA_t3 ?_ | with_reducible refine tMt0_i ?_ | with_reducible refine tSlW_i ?_ | with_reducible refine pNo_i ?_ | with_reducible refine isI_i ?_ | with_reducible refine pAt_i ?_ | with_reducible refine wSl_t ?_ | (with_reducible show wIsiK _ _ _ _; first | with_reducible refine wIsi_non_int ?_ | with_reducible refine wIsi_non_bool ?_ | with_reducible refine wIsi_non_str ?_ | with_reducible refine wIsi_non_list ?_ | with_reducible refine wIsi_non_tuple ?_ | with_reducible refine wIsi_bl_int ?_ | with_reducible refine wIsi_bl_bool ?_ | with_reducible refine wIsi_bl_str ?_ | with_reducible refine wIsi_bl_list ?_ | with_reducible refine wIsi_bl_tuple ?_ | with_reducible refine wIsi_int_int ?_ | with_reducible refine wIsi_int_bool ?_ | with_reducible refine wIsi_int_str ?_ | with_reducible refine wIsi_int_list ?_ | with_reducible refine wIsi_int_tuple ?_ | with_reducible refine wIsi_str_int ?_ | with_reducible refine wIsi_str_bool ?_ | with_reducible refine wIsi_str_str ?_ | with_reducible refine wIsi_str_list ?_ | with_reducible refine wIsi_str_tuple ?_ | with_reducible refine wIsi_tup_int ?_ | with_reducible refine wIsi_tup_bool ?_ | with_reducible refine wIsi_tup_str ?_ | with_reducible refine wIsi_tup_list ?_ | with_reducible refine wIsi_tup_tuple ?_ | with_reducible refine wIsi_tup_lt ?_)))
local macro_rules | `(tactic| walk_at "evT") => `(tactic| (walk_at "evX"; repeat (first | (with_reducible refine if_y ?h1 ?_; (case h1 => omega); walk_at "evX") | (with_reducible refine if_n ?h1 ?_; (case h1 => omega); walk_at "evX") | (with_reducible refine if_ny ?h1 ?_; (case h1 => omega); walk_at "evX") | (with_reducible refine if_nn ?h1 ?_; (case h1 => omega); walk_at "evX"))))
variable {G : Gm} {L : Lm} {M M0 : Mp} {Q : QK} {E : EK} {s : Addr} {n : Nat}
def tA (a b : Int) : Int := 1 - a - (if b = -2 then 1 else 0)
theorem tA_num {a b c : Int} (Y : IsNum a b c) : IsNum (tA a b) b c ∧ tA (tA a b) b = a := by
  have h := Y.s01
  have h2 := Y.mq
  unfold tA
  refine ⟨⟨?_, ?_⟩, ?_⟩
  · split <;> omega
  · rcases h2 with z | z | z
    · exact .inl z
    · refine .inr (.inl ⟨z.1, ?_, z.2.2⟩)
      rw [if_pos z.1]
      omega
    · exact .inr (.inr z)
  · split <;> omega
theorem ok_minus_t {a b c : Int} (Y : IsNum a b c) (h : Q (nuW (tA a b) b c) M) : sp_minus G L [nuW a b c] M Q E := by
  by_cases z : b = -2
  · have e : a = 0 ∧ c = 0 := by
      rcases Y.mq with y | y | y <;> omega
    subst z
    obtain ⟨rfl, rfl⟩ := e
    show t_minus G L ⟨fun _ M' => Q .non M', Q, fun _ _ => False, fun _ _ => False, fun C p _ M' => E C p M'⟩ [some (nuW 0 (-2) 0)] M
    unfold t_minus
    walk_at "evX"
    refine ok_check_number Y ?_
    walk_at "evX"
    show wEqA (.tup [.int 0, .int (-2), .int 0]) (.tup [.int 0, .int (-2), .int 0]) _ _
    walk_at "evX"
    refine if_y ⟨rfl, rfl, rfl⟩ ?_
    walk_at "evX"
    exact h
  · refine ok_minus Y z ?_
    have e : tA a b = 1 - a := by unfold tA; rw [if_neg z]; omega
    rw [e] at h
    exact h
theorem ok__law_turned {a b c : Int} (h : Q (nuW (tA a b) b c) M) : sp__law_turned G L [nuW a b c] M Q E := by
  show t__law_turned G L ⟨fun _ M' => Q .non M', Q, fun _ _ => False, fun _ _ => False, fun C p _ M' => E C p M'⟩ [some (nuW a b c)] M
  unfold t__law_turned
  have e : (if decide (b = -2) = true then 1 else 0 : Int) = (if b = -2 then 1 else 0) := by simp only [decide_eq_true_eq]
  walk_at "evX"
  rw [e]
  exact h
/-- the answer of add -/
def SumA (p lo hi : Int) (m : Str) (a1 b1 c1 a2 b2 c2 : Int) (r : W) : Prop :=
  if b1 = -2 ∨ b2 = -2 then r = nanR []
  else if b1 = -1 ∨ b2 = -1 then r = InfS a1 b1 c1 a2 b2 c2
  else Tot p lo hi m (zsF m a1 (sgD a1 b1) a2) (sgD a1 b1) c1 (sgD a2 b2) c2 r
theorem SumA.unique {p lo hi : Int} {m : Str} {a1 b1 c1 a2 b2 c2 : Int} {r r' : W} (h : SumA p lo hi m a1 b1 c1 a2 b2 c2 r) (h' : SumA p lo hi m a1 b1 c1 a2 b2 c2 r') : r = r' := by
  unfold SumA at h h'
  split at h
  · rw [if_pos (by assumption)] at h'
    rw [h, h']
  rename_i z1
  rw [if_neg z1] at h'
  split at h
  · rw [if_pos (by assumption)] at h'
    rw [h, h']
  rename_i z2
  rw [if_neg z2] at h'
  exact h.unique h'
theorem same_inf {a1 b1 c1 a2 b2 c2 : Int} : Same G 5 (InfS a1 b1 c1 a2 b2 c2) := by
  unfold InfS
  split
  · exact same_nan1
  split
  · exact same_two same_nu same_fl0
  · exact same_two same_nu same_fl0
theorem SumA.same {p lo hi : Int} {m : Str} {a1 b1 c1 a2 b2 c2 : Int} {r : W} (h : SumA p lo hi m a1 b1 c1 a2 b2 c2 r) : Same G 5 r := by
  unfold SumA at h
  split at h
  · rw [h]
    exact same_nan0
  split at h
  · rw [h]
    exact same_inf
  · exact h.same
theorem totF_comm (N P z c : Int) : totF z c N P = totF N P z c ∧ lowF c P = lowF P c := by
  have e : lowF c P = lowF P c := by unfold lowF; split <;> split <;> omega
  refine ⟨?_, e⟩
  unfold totF
  rw [e, Int.add_comm]
theorem tot_zero {N P z c : Int} (h : totF N P z c = 0) : N = 0 ↔ z = 0 := by
  unfold totF at h
  have p1 := two_pos (P - lowF P c).toNat
  have p2 := two_pos (c - lowF P c).toNat
  constructor
  · intro e
    rw [e, Int.zero_mul, Int.zero_add] at h
    rcases Int.mul_eq_zero.mp h with y | y
    · exact y
    · omega
  · intro e
    rw [e, Int.zero_mul, Int.add_zero] at h
    rcases Int.mul_eq_zero.mp h with y | y
    · exact y
    · omega
theorem InfS.symm {a1 b1 c1 a2 b2 c2 : Int} (Y1 : IsNum a1 b1 c1) (Y2 : IsNum a2 b2 c2) (h : b1 = -1 ∨ b2 = -1) : InfS a2 b2 c2 a1 b1 c1 = InfS a1 b1 c1 a2 b2 c2 := by
  have z1 : b1 = -1 → c1 = 0 := fun e => by rcases Y1.mq with y | y | y <;> omega
  have z2 : b2 = -1 → c2 = 0 := fun e => by rcases Y2.mq with y | y | y <;> omega
  unfold InfS
  by_cases e1 : b1 = -1
  · by_cases e2 : b2 = -1
    · by_cases e3 : a1 = a2
      · rw [if_neg (fun y => y.2.2 e3.symm), if_pos e2, if_neg (fun y => y.2.2 e3), if_pos e1, z1 e1, z2 e2, e1, e2, e3]
      · rw [if_pos ⟨e2, e1, fun y => e3 y.symm⟩, if_pos ⟨e1, e2, e3⟩]
    · rw [if_neg (fun y => e2 y.1), if_neg e2, if_neg (fun y => e2 y.2.1), if_pos e1]
  · have e2 : b2 = -1 := by omega
    rw [if_neg (fun y => e1 y.2.1), if_pos e2, if_neg (fun y => e1 y.1), if_neg e1]
theorem SumA.symm {p lo hi : Int} {m : Str} {a1 b1 c1 a2 b2 c2 : Int} {r : W} (Y1 : IsNum a1 b1 c1) (Y2 : IsNum a2 b2 c2) (h : SumA p lo hi m a1 b1 c1 a2 b2 c2 r) : SumA p lo hi m a2 b2 c2 a1 b1 c1 r := by
  unfold SumA at h ⊢
  by_cases z1 : b1 = -2 ∨ b2 = -2
  · rw [if_pos z1] at h
    rw [if_pos z1.symm]
    exact h
  rw [if_neg z1] at h
  rw [if_neg (fun y => z1 y.symm)]
  by_cases z2 : b1 = -1 ∨ b2 = -1
  · rw [if_pos z2] at h
    rw [if_pos z2.symm, InfS.symm Y1 Y2 z2]
    exact h
  rw [if_neg z2] at h
  rw [if_neg (fun y => z2 y.symm)]
  obtain ⟨e1, e2⟩ := totF_comm (sgD a1 b1) c1 (sgD a2 b2) c2
  unfold Tot at h ⊢
  rw [e1, e2]
  rcases h with ⟨h1, h2⟩ | h
  · refine .inl ⟨h1, ?_⟩
    rw [h2]
    have e := tot_zero h1
    have ez : zsF m a2 (sgD a2 b2) a1 = zsF m a1 (sgD a1 b1) a2 := by
      unfold zsF
      by_cases y : sgD a1 b1 = 0 ∧ a1 = a2
      · rw [if_pos y, if_pos ⟨e.mp y.1, y.2.symm⟩]
        exact y.2.symm
      · rw [if_neg y, if_neg (fun z => y ⟨e.mpr z.1, z.2.symm⟩)]
    rw [ez]
  · exact .inr h
end k12

namespace k12
open PySem L2 Ev
variable {G : Gm} {L : Lm} {M M0 : Mp} {Q : QK} {E : EK} {s : Addr} {n : Nat}
theorem pw_cross {n d n' d' F : Int} (hd : 0 < d) (hd' : 0 < d') (e : n * d' = n' * d) (h : Ev.PW n d F) : Ev.PW n' d' F := by
  obtain ⟨h1, h2⟩ := h
  constructor
  · have := Int.mul_le_mul_of_nonneg_right h1 (Int.le_of_lt hd')
    exact Int.le_of_mul_le_mul_right (by grind : d' * 2 ^ F.toNat * d ≤ n' * 2 ^ (-F).toNat * d) hd
  · have := Int.mul_lt_mul_of_pos_right h2 hd'
    exact Int.lt_of_mul_lt_mul_right (by grind : n' * 2 ^ (-F).toNat * d < 2 * (d' * 2 ^ F.toNat) * d) (Int.le_of_lt hd)
theorem plcR_cross {A B P R c w : Int} (hB : 0 < B) (hR : 0 < R) (e : P * B = A * R) (h : PlcR A B c w) : PlcR P R c w := by
  obtain ⟨c0, h1, h2, h3⟩ := h
  refine ⟨c0, ?_, ?_, ?_⟩
  · have := Int.mul_le_mul_of_nonneg_right h1 (Int.le_of_lt hR)
    rw [← e] at this
    exact Int.le_of_mul_le_mul_right (by grind : c * c * R * B ≤ P * B) hB
  · have := Int.mul_lt_mul_of_pos_right h2 hR
    rw [← e] at this
    exact Int.lt_of_mul_lt_mul_right (by grind : P * B < (c + 1) * (c + 1) * R * B) (Int.le_of_lt hB)
  · rw [h3, ← whF_scale hR, ← whF_scale (a := 4 * P) hB]
    have a1 : 4 * A * R = 4 * P * B := by grind
    have a2 : 2 * c * (2 * c) * B * R = 2 * c * (2 * c) * R * B := by grind
    have a3 : (2 * c + 1) * (2 * c + 1) * B * R = (2 * c + 1) * (2 * c + 1) * R * B := by grind
    rw [a1, a2, a3]
theorem plcE_cross {n d n' d' k u c w : Int} (hd : 0 < d) (hd' : 0 < d') (e : (n.natAbs : Int) * d' = (n'.natAbs : Int) * d) (h : PlcE n d k u c w) : PlcE n' d' k u c w := by
  unfold PlcE at h ⊢
  have p1 := two_pos (u * k).toNat
  have e2 : (n'.natAbs : Int) * 2 ^ (-(u * k)).toNat * (d * 2 ^ (u * k).toNat) = (n.natAbs : Int) * 2 ^ (-(u * k)).toNat * (d' * 2 ^ (u * k).toNat) := by grind
  split at h
  · rw [if_pos (by assumption)]
    exact plc_cross (Int.mul_pos hd p1) (Int.mul_pos hd' p1) e2 h
  · rw [if_neg (by assumption)]
    exact plcR_cross (Int.mul_pos hd p1) (Int.mul_pos hd' p1) e2 h
theorem rnd_cross {p lo hi : Int} {m : Str} {s n d n' d' k : Int} {r : W} (hd : 0 < d) (hd' : 0 < d') (e : (n.natAbs : Int) * d' = (n'.natAbs : Int) * d) (h : Rnd p lo hi m s n d k r) : Rnd p lo hi m s n' d' k r := by
  obtain ⟨F, c, w, h1, h2, h3⟩ := h
  exact ⟨F, c, w, pw_cross hd hd' e h1, plcE_cross hd hd' e h2, h3⟩
def fN (m q : Int) : Int := m * 2 ^ q.toNat
def fD (m q : Int) : Int := m * 2 ^ (-q).toNat
theorem fN_pos {m q : Int} (h : 0 < m) : 0 < fN m q := Int.mul_pos h (two_pos _)
theorem fD_pos {m q : Int} (h : 0 < m) : 0 < fD m q := Int.mul_pos h (two_pos _)
theorem dy_cross {o P m : Int} {t : Nat} (e : (o.natAbs : Int) * 2 ^ t = m) : ((dyN o (P + t)).natAbs : Int) * fD 1 P = fN m P * dyD (P + t) := by
  unfold dyN dyD fN fD
  rw [abs_pow, ← e]
  have e1 : ∀ x : Int, ∀ a b : Nat, x * 2 ^ a * (1 * 2 ^ b) = x * 2 ^ (a + b) := fun x a b => by rw [Int.pow_add]; grind
  have e2 : ∀ x : Int, ∀ a b c : Nat, x * 2 ^ a * 2 ^ b * 2 ^ c = x * 2 ^ (a + b + c) := fun x a b c => by rw [Int.pow_add, Int.pow_add]; grind
  rw [e1, e2]
  congr 2
  omega
theorem sgD_abs {a b : Int} (h : 0 ≤ b) : ((sgD a b).natAbs : Int) = b := by unfold sgD; split <;> omega
theorem sbit_sg {a b : Int} (h : a = 0 ∨ a = 1) (hb : 0 < b) : sbit (sgD a b) = a := by
  unfold sbit sgD
  rcases h with rfl | rfl
  · have e : (if (0 : Int) = 1 then -b else b) = b := if_neg (by decide)
    rw [e, if_neg (by omega)]
  · have e : (if (1 : Int) = 1 then -b else b) = -b := if_pos rfl
    rw [e, if_pos (by omega)]
theorem sg_mul {a1 b1 a2 b2 : Int} (h1 : a1 = 0 ∨ a1 = 1) (h2 : a2 = 0 ∨ a2 = 1) : sgD a1 b1 * sgD a2 b2 = sgD (Builtin.bitXor a1 a2) (b1 * b2) := by
  unfold sgD
  rcases h1 with rfl | rfl <;> rcases h2 with rfl | rfl
  · rw [if_neg (by decide), if_neg (by decide), if_neg (by decide +kernel)]
  · rw [if_neg (by decide), if_pos rfl, if_pos (by decide +kernel), Int.mul_neg]
  · rw [if_pos rfl, if_neg (by decide), if_pos (by decide +kernel), Int.neg_mul]
  · rw [if_pos rfl, if_pos rfl, if_neg (by decide +kernel), Int.neg_mul_neg]
theorem sg_div {a1 b1 a2 : Int} (h1 : a1 = 0 ∨ a1 = 1) (h2 : a2 = 0 ∨ a2 = 1) : (if a2 = 0 then sgD a1 b1 else -(sgD a1 b1)) = sgD (Builtin.bitXor a1 a2) b1 := by
  unfold sgD
  rcases h1 with rfl | rfl <;> rcases h2 with rfl | rfl
  · rw [if_pos rfl, if_neg (by decide), if_neg (by decide +kernel)]
  · rw [if_neg (by decide), if_neg (by decide), if_pos (by decide +kernel)]
  · rw [if_pos rfl, if_pos rfl, if_pos (by decide +kernel)]
  · rw [if_neg (by decide), if_pos rfl, if_neg (by decide +kernel), Int.neg_neg]
def MulA (p lo hi : Int) (m : Str) (a1 b1 c1 a2 b2 c2 : Int) (r : W) : Prop :=
  if b1 = -2 ∨ b2 = -2 then r = nanR []
  else if (b1 = 0 ∨ b2 = 0) ∧ (b1 = -1 ∨ b2 = -1) then r = nanR [.str "invalid"]
  else if b1 = -1 ∨ b2 = -1 then r = .tup [nuW (Builtin.bitXor a1 a2) (-1) 0, .tup []]
  else if b1 = 0 ∨ b2 = 0 then r = .tup [nuW (Builtin.bitXor a1 a2) 0 0, .tup []]
  else Rnd p lo hi m (Builtin.bitXor a1 a2) (fN (b1 * b2) (c1 + c2)) (fD 1 (c1 + c2)) 1 r
def DivA (p lo hi : Int) (m : Str) (a1 b1 c1 a2 b2 c2 : Int) (r : W) : Prop :=
  if b1 = -2 ∨ b2 = -2 then r = nanR []
  else if b1 < 1 ∧ b1 = b2 then r = nanR [.str "invalid"]
  else if b1 = -1 then r = .tup [nuW (Builtin.bitXor a1 a2) (-1) 0, .tup []]
  else if b2 = 0 then r = .tup [nuW (Builtin.bitXor a1 a2) (-1) 0, .tup [.str "divzero"]]
  else if b1 = 0 ∨ b2 = -1 then r = .tup [nuW (Builtin.bitXor a1 a2) 0 0, .tup []]
  else Rnd p lo hi m (Builtin.bitXor a1 a2) (fN b1 (c1 - c2)) (fD b2 (c1 - c2)) 1 r
def RootA (p lo hi : Int) (m : Str) (a b c : Int) (r : W) : Prop :=
  if b = 0 ∨ b = -2 ∨ (a = 0 ∧ b = -1) then r = .tup [nuW a b c, .tup []]
  else if a = 1 then r = nanR [.str "invalid"]
  else Rnd p lo hi m 0 (fN b c) (fD 1 c) 2 r
theorem MulA.unique {p lo hi : Int} {m : Str} {a1 b1 c1 a2 b2 c2 : Int} {r r' : W} (h : MulA p lo hi m a1 b1 c1 a2 b2 c2 r) (h' : MulA p lo hi m a1 b1 c1 a2 b2 c2 r') : r = r' := by
  unfold MulA at h h'
  split at h
  · rw [if_pos (by assumption)] at h'
    rw [h, h']
  rename_i z0
  rw [if_neg z0] at h'
  split at h
  · rw [if_pos (by assumption)] at h'
    rw [h, h']
  rename_i z1
  rw [if_neg z1] at h'
  split at h
  · rw [if_pos (by assumption)] at h'
    rw [h, h']
  rename_i z2
  rw [if_neg z2] at h'
  split at h
  · rw [if_pos (by assumption)] at h'
    rw [h, h']
  rename_i z3
  rw [if_neg z3] at h'
  exact h.unique (fD_pos (by decide)) h'
theorem DivA.unique {p lo hi : Int} {m : Str} {a1 b1 c1 a2 b2 c2 : Int} {r r' : W} (Y2 : IsNum a2 b2 c2) (h : DivA p lo hi m a1 b1 c1 a2 b2 c2 r) (h' : DivA p lo hi m a1 b1 c1 a2 b2 c2 r') : r = r' := by
  unfold DivA at h h'
  split at h
  · rw [if_pos (by assumption)] at h'
    rw [h, h']
  rename_i z0
  rw [if_neg z0] at h'
  split at h
  · rw [if_pos (by assumption)] at h'
    rw [h, h']
  rename_i z1
  rw [if_neg z1] at h'
  split at h
  · rw [if_pos (by assumption)] at h'
    rw [h, h']
  rename_i z2
  rw [if_neg z2] at h'
  split at h
  · rw [if_pos (by assumption)] at h'
    rw [h, h']
  rename_i z3
  rw [if_neg z3] at h'
  split at h
  · rw [if_pos (by assumption)] at h'
    rw [h, h']
  rename_i z4
  rw [if_neg z4] at h'
  exact h.unique (fD_pos (by have := num_m Y2; omega)) h'
theorem RootA.unique {p lo hi : Int} {m : Str} {a b c : Int} {r r' : W} (h : RootA p lo hi m a b c r) (h' : RootA p lo hi m a b c r') : r = r' := by
  unfold RootA at h h'
  split at h
  · rw [if_pos (by assumption)] at h'
    rw [h, h']
  rename_i z0
  rw [if_neg z0] at h'
  split at h
  · rw [if_pos (by assumption)] at h'
    rw [h, h']
  rename_i z1
  rw [if_neg z1] at h'
  exact h.unique (fD_pos (by decide)) h'
theorem MulA.same {p lo hi : Int} {m : Str} {a1 b1 c1 a2 b2 c2 : Int} {r : W} (h : MulA p lo hi m a1 b1 c1 a2 b2 c2 r) : Same G 5 r := by
  unfold MulA at h
  split at h
  · rw [h]
    exact same_nan0
  split at h
  · rw [h]
    exact same_nan1
  split at h
  · rw [h]
    exact same_two same_nu same_fl0
  split at h
  · rw [h]
    exact same_two same_nu same_fl0
  exact same_rnd h
theorem DivA.same {p lo hi : Int} {m : Str} {a1 b1 c1 a2 b2 c2 : Int} {r : W} (h : DivA p lo hi m a1 b1 c1 a2 b2 c2 r) : Same G 5 r := by
  unfold DivA at h
  split at h
  · rw [h]
    exact same_nan0
  split at h
  · rw [h]
    exact same_nan1
  split at h
  · rw [h]
    exact same_two same_nu same_fl0
  split at h
  · rw [h]
    exact same_two same_nu same_fl1
  split at h
  · rw [h]
    exact same_two same_nu same_fl0
  exact same_rnd h
theorem RootA.same {p lo hi : Int} {m : Str} {a b c : Int} {r : W} (h : RootA p lo hi m a b c r) : Same G 5 r := by
  unfold RootA at h
  split at h
  · rw [h]
    exact same_two same_nu same_fl0
  split at h
  · rw [h]
    exact same_nan1
  exact same_rnd h
theorem MulA.symm {p lo hi : Int} {m : Str} {a1 b1 c1 a2 b2 c2 : Int} {r : W} (Y1 : IsNum a1 b1 c1) (Y2 : IsNum a2 b2 c2) (h : MulA p lo hi m a1 b1 c1 a2 b2 c2 r) : MulA p lo hi m a2 b2 c2 a1 b1 c1 r := by
  unfold MulA at h ⊢
  rw [← (xor01 Y1.s01 Y2.s01).2, Int.mul_comm b2, Int.add_comm c2]
  have e1 : (b2 = -2 ∨ b1 = -2) ↔ (b1 = -2 ∨ b2 = -2) := by omega
  have e2 : (b2 = 0 ∨ b1 = 0) ↔ (b1 = 0 ∨ b2 = 0) := by omega
  have e3 : (b2 = -1 ∨ b1 = -1) ↔ (b1 = -1 ∨ b2 = -1) := by omega
  simp only [e1, e2, e3]
  exact h
theorem ex011 : Exq 0 1 1 := ⟨by decide, (show Bd 1 (0 : Int) from ⟨by decide⟩).mono (by decide), (show Bd 1 (1 : Int) from ⟨by decide⟩).mono (by decide), .inl rfl, fun _ => by decide⟩
def QA (xr b1 b2 q : Int) (w : W) : Prop := ∃ A B : Int, w = exW (fN A q) (fD B q) 1 ∧ Low (sgD xr b1) b2 A B ∧ A.natAbs ≤ (sgD xr b1).natAbs ∧ B ≤ b2
end k12

namespace k12
open PySem L2 Ev
variable {G : Gm} {L : Lm} {M M0 : Mp} {Q : QK} {E : EK} {s : Addr} {n : Nat}
theorem nonum {a b c : Int} {s : Addr} (h : ¬ IsNum a b c) : BadN s M (nuW a b c) := .inr (.inr ⟨_, _, _, rfl, .inr ⟨_, rfl, .inr ⟨_, rfl, .inr ⟨_, rfl, h⟩⟩⟩⟩)
def srW (a1 b1 c1 b2 : Int) : W := if b1 = -2 ∨ b2 = -2 then nanR [] else if b1 = -1 ∨ b2 = 0 then nanR [.str "invalid"] else if b2 = -1 ∨ b1 = 0 then .tup [nuW a1 b1 c1, .tup []] else .non
theorem srW_non {a1 b1 c1 b2 : Int} (h : 0 < b1 ∧ 0 < b2) : srW a1 b1 c1 b2 = .non := by
  unfold srW
  rw [if_neg (by omega), if_neg (by omega), if_neg (by omega)]
theorem srW_no {a1 b1 c1 a2 b2 c2 : Int} (Y1 : IsNum a1 b1 c1) (Y2 : IsNum a2 b2 c2) (h : ¬ (0 < b1 ∧ 0 < b2)) : Ev.isNon (srW a1 b1 c1 b2) = false := by
  have m1 := num_m Y1
  have m2 := num_m Y2
  unfold srW
  split
  · rfl
  split
  · rfl
  split
  · rfl
  · omega
def dvD (b c P : Int) : Int := b * 2 ^ (c - P).toNat
theorem dvD_pos {b c P : Int} (h : 0 < b) : 0 < dvD b c P := Int.mul_pos h (two_pos _)
theorem min_low (c1 c2 : Int) : (if c2 < c1 then c2 else c1) = lowF c1 c2 := by unfold lowF; split <;> split <;> omega
abbrev rsUp (cut D V : Int) : Prop := cut = 0 ∧ (V < 2 * D.fmod V ∨ (2 * D.fmod V = V ∧ (D.fdiv V).fmod 2 = 1))
def rsS (cut a D V : Int) : Int := if rsUp cut D V then 1 - a else a
def rsM (cut D V : Int) : Int := if rsUp cut D V then V - D.fmod V else D.fmod V
def rsN (cut b1 c1 b2 c2 : Int) : Int := rsM cut (dvD b1 c1 (lowF c1 c2)) (dvD b2 c2 (lowF c1 c2))
def rsG (cut a1 b1 c1 b2 c2 : Int) : Int := rsS cut a1 (dvD b1 c1 (lowF c1 c2)) (dvD b2 c2 (lowF c1 c2))
abbrev rsFit (cut b1 c1 b2 c2 : Int) : Prop := rsN cut b1 c1 b2 c2 = 0 ∨ lowF c1 c2 + ttF (rsN cut b1 c1 b2 c2) ≤ 2000
def rsW (cut a1 b1 c1 b2 c2 : Int) : W := .tup [oddW (rsG cut a1 b1 c1 b2 c2) (rsN cut b1 c1 b2 c2) (lowF c1 c2), .tup []]
theorem rsS01 {cut a D V : Int} (h : a = 0 ∨ a = 1) : rsS cut a D V = 0 ∨ rsS cut a D V = 1 := by
  unfold rsS
  split <;> omega
theorem rsN_ok {cut a1 b1 c1 a2 b2 c2 : Int} (Y1 : IsNum a1 b1 c1) (Y2 : IsNum a2 b2 c2) (p1 : 0 < b1) (p2 : 0 < b2) : 0 ≤ rsN cut b1 c1 b2 c2 ∧ Bd 600 (rsN cut b1 c1 b2 c2) := by
  have ll := lowF_le c1 c2
  unfold rsN rsM
  have vp := dvD_pos (c := c2) (P := lowF c1 c2) p2
  have dp := dvD_pos (c := c1) (P := lowF c1 c2) p1
  have e1 : lowF c1 c2 = c1 → dvD b1 c1 (lowF c1 c2) = b1 := fun e => by
    rw [e]
    unfold dvD
    rw [Int.sub_self]
    exact Int.mul_one _
  have e2 : lowF c1 c2 = c2 → dvD b2 c2 (lowF c1 c2) = b2 := fun e => by
    rw [e]
    unfold dvD
    rw [Int.sub_self]
    exact Int.mul_one _
  generalize dvD b1 c1 (lowF c1 c2) = D at *
  generalize dvD b2 c2 (lowF c1 c2) = V at *
  have r := fmod_rng (i := D) vp
  have rd : D.fmod V ≤ D := by
    rw [Int.fmod_eq_emod_of_nonneg _ (by omega)]
    have := Int.mul_ediv_add_emod D V
    have := Int.mul_nonneg (show 0 ≤ V by omega) (Int.ediv_nonneg (show 0 ≤ D by omega) (show 0 ≤ V by omega))
    omega
  rcases ll.2.2 with z | z
  · have := e1 z
    split
    · exact ⟨by omega, (num_bd Y1).of_le (by omega)⟩
    · exact ⟨by omega, (num_bd Y1).of_le (by omega)⟩
  · have := e2 z
    split
    · exact ⟨by omega, (num_bd Y2).of_le (by omega)⟩
    · exact ⟨by omega, (num_bd Y2).of_le (by omega)⟩
/-! ### rounding to integers -/
def whC (m : Str) (a b c : Int) : Int := chF m a (b / 2 ^ (-c).toNat) (whF (2 * (b % 2 ^ (-c).toNat)) 0 (2 ^ (-c).toNat))
def whoW (m : Str) (a b c : Int) : W := if b < 1 ∨ 0 ≤ c then .tup [nuW a b c, .tup []] else .tup [oddW a (whC m a b c) 0, .tup [.str "inexact"]]
theorem chF_0 {m : Str} {a k : Int} : chF m a k 0 = k := by
  unfold chF stepB
  rw [decide_eq_true (p := (0 : Int) = 0) rfl]
  rfl
theorem odd_rest {b c : Int} (o : b % 2 = 1) (hc : c < 0) : b % 2 ^ (-c).toNat ≠ 0 := fun z => by
  obtain ⟨j, hj⟩ : ∃ j, (-c).toNat = j + 1 := ⟨(-c).toNat - 1, by omega⟩
  rw [hj, Int.pow_succ] at z
  have d := Int.dvd_of_emod_eq_zero z
  have d2 : (2 : Int) ∣ b := Int.dvd_trans ⟨2 ^ j, Int.mul_comm _ _⟩ d
  omega
theorem whC_bd {a b c : Int} (m : Str) (Y : IsNum a b c) (p : 0 < b) (hc : c < 0) : 0 ≤ whC m a b c ∧ Bd 600 (whC m a b c) := by
  have r := chF_rng m a (b / 2 ^ (-c).toNat) (whF (2 * (b % 2 ^ (-c).toNat)) 0 (2 ^ (-c).toNat))
  have q0 : 0 ≤ b / 2 ^ (-c).toNat := Int.ediv_nonneg (by omega) (Int.le_of_lt (two_pos _))
  have q1 : b / 2 ^ (-c).toNat ≤ b / 2 := by
    obtain ⟨j, hj⟩ : ∃ j, (-c).toNat = j + 1 := ⟨(-c).toNat - 1, by omega⟩
    rw [hj, Int.pow_succ, Int.mul_comm, ← Int.ediv_ediv_of_nonneg (by decide)]
    exact Int.ediv_le_self _ (by omega)
  have o : b % 2 = 1 := by rcases Y.mq with z | z | z <;> omega
  unfold whC
  exact ⟨by omega, (num_bd Y).of_le (by omega)⟩
end k12

namespace k12
open PySem L2 Ev
variable {G : Gm} {L : Lm} {M M0 : Mp} {Q : QK} {E : EK} {s : Addr} {n : Nat}
theorem gcd_pos {a b : Int} (h : 1 ≤ b) : 1 ≤ (Int.gcd a b : Int) := by
  have : 0 < Int.gcd a b := Nat.gcd_pos_of_pos_right _ (by omega)
  omega
theorem low_uniq {n d a b a' b' : Int} (hd : 1 ≤ d) (h : Low n d a b) (h' : Low n d a' b') : a = a' ∧ b = b' := by
  obtain ⟨g1, g2⟩ := low_gcd (n := n) hd |> fun l => (⟨l.b1, l.cop⟩ : _ ∧ _)
  have g := gcd_pos (a := n) hd
  have dn : (Int.gcd n d : Int) ∣ n := Int.gcd_dvd_left _ _
  have dd : (Int.gcd n d : Int) ∣ d := Int.gcd_dvd_right _ _
  have en : n = n / (Int.gcd n d : Int) * (Int.gcd n d : Int) := (Int.ediv_mul_cancel dn).symm
  have ed : d = d / (Int.gcd n d : Int) * (Int.gcd n d : Int) := (Int.ediv_mul_cancel dd).symm
  obtain ⟨r1, r2⟩ := low_unique h en ed g g1 g2
  obtain ⟨r3, r4⟩ := low_unique h' en ed g g1 g2
  exact ⟨r1.trans r3.symm, r2.trans r4.symm⟩
/-- lowest terms of a dyadic quotient of odd numbers -/
theorem low_dy {x b2 A B q : Int} (o1 : x % 2 = 1) (o2 : b2 % 2 = 1) (p2 : 0 < b2) (l : Low x b2 A B) : Low (dyN x q) (dyD q * b2) (fN A q) (fD B q) := by
  have g := gcd_pos (a := x) (show 1 ≤ b2 by omega)
  have dn : (Int.gcd x b2 : Int) ∣ x := Int.gcd_dvd_left _ _
  have dd : (Int.gcd x b2 : Int) ∣ b2 := Int.gcd_dvd_right _ _
  have en : x = x / (Int.gcd x b2 : Int) * (Int.gcd x b2 : Int) := (Int.ediv_mul_cancel dn).symm
  have ed : b2 = b2 / (Int.gcd x b2 : Int) * (Int.gcd x b2 : Int) := (Int.ediv_mul_cancel dd).symm
  obtain ⟨r1, r2⟩ := low_uniq (show 1 ≤ b2 by omega) l (low_gcd (n := x) (show 1 ≤ b2 by omega))
  rw [← r1] at en
  rw [← r2] at ed
  have oA : A % 2 = 1 := by
    rcases Int.emod_two_eq A with z | z
    · have d2 : (2 : Int) ∣ x := by rw [en]; exact Int.dvd_mul_of_dvd_left (Int.dvd_of_emod_eq_zero z)
      omega
    · exact z
  have oB : B % 2 = 1 := by
    rcases Int.emod_two_eq B with z | z
    · have d2 : (2 : Int) ∣ b2 := by rw [ed]; exact Int.dvd_mul_of_dvd_left (Int.dvd_of_emod_eq_zero z)
      omega
    · exact z
  have b1 := l.b1
  have p := two_pos (-q).toNat
  refine ⟨by unfold fD; have := Int.mul_pos (show 0 < B by omega) p; omega, ?_, ?_⟩
  · have e := l.eq
    unfold fN fD dyN dyD
    grind
  · unfold fN fD
    rw [Int.natAbs_mul, Int.natAbs_mul, Int.natAbs_pow, Int.natAbs_pow]
    have c := l.cop
    rcases Int.le_total 0 q with z | z
    · rw [show (-q).toNat = 0 by omega, Nat.pow_zero, Nat.mul_one]
      refine Nat.Coprime.mul_left (show Nat.Coprime _ _ from c) ?_
      rw [Nat.coprime_comm]
      have := cop_odd_pow (B.natAbs / 2) q.toNat
      rw [show 2 * (B.natAbs / 2) + 1 = B.natAbs by omega] at this
      exact this
    · rw [show q.toNat = 0 by omega, Nat.pow_zero, Nat.mul_one]
      refine Nat.Coprime.mul_right (show Nat.Coprime _ _ from c) ?_
      have := cop_odd_pow (A.natAbs / 2) (-q).toNat
      rw [show 2 * (A.natAbs / 2) + 1 = A.natAbs by omega] at this
      exact this
end k12

namespace k12
open PySem L2 Ev
local macro_rules | `(tactic| walk_at "evS") => `(tactic| repeat (first | with_reducible refine sSeq_i ?_ | with_reducible refine sAsg_i ?_ | with_reducible refine tV_i rfl ?_ | with_reducible refine tC_i ?_ | with_reducible refine aCons_i ?_ | with_reducible refine aNil_i ?_ | with_reducible refine tOp_i ?_ | with_reducible refine tFn_i ?_ | with_reducible refine tCB_i ?_ | with_reducible refine tTup_i ?_ | with_reducible refine tLst_i ?_ | with_reducible refine tUn_i ?_ | with_reducible refine tIsNf_i ?_ | with_reducible refine tIsNt_i ?_ | with_reducible refine qB_i ?_ | with_reducible refine isB_i ?_ | with_reducible refine qNot_i ?_ | with_reducible refine qAnd_i ?_ | with_reducible refine qOr_i ?_ | with_reducible refine vAnd_i ?_ | with_reducible refine vOr_i ?_ | with_reducible refine tIfE_i ?_ | with_reducible refine tMt_i ?_ | with_reducible refine isR_i ?_ | with_reducible refine sIf_i ?_ | with_reducible refine sRet_i ?_ | with_reducible refine sNext_i ?_ | with_reducible refine sDrop_i ?_ | with_reducible refine sIx_i ?_ | with_reducible refine isRI_i ?_ | with_reducible refine sRaise_i ?_ | with_reducible refine tLam_i fun f hf => ?_ | with_reducible refine sRetN_i ?_ | with_reducible refine if_t ?_ | with_reducible refine if_f ?_ | with_reducible refine wAdd_i ?_ | with_reducible refine wI0_i ?_ | with_reducible refine wEq_i ?_ | with_reducible refine wEq_s ?_ | with_reducible refine wNe_i ?_ | with_reducible refine wInt_i ?_ | with_reducible refine wInt_b ?_ | with_reducible refine wAbs_i ?_ | with_reducible refine wMax_i ?_ | with_reducible refine wMin_i ?_ | with_reducible refine wNeg_i ?_ | with_reducible refine wNot_b ?_ | with_reducible refine wBits_i ?_ | (with_reducible show wIsiK _ _ _ _; first | with_reducible refine wIsi_non_int ?_ | with_reducible refine wIsi_non_bool ?_ | with_reducible refine wIsi_non_str ?_ | with_reducible refine wIsi_non_list ?_ | with_reducible refine wIsi_non_tuple ?_ | with_reducible refine wIsi_bl_int ?_ | with_reducible refine wIsi_bl_bool ?_ | with_reducible refine wIsi_bl_str ?_ | with_reducible refine wIsi_bl_list ?_ | with_reducible refine wIsi_bl_tuple ?_ | with_reducible refine wIsi_int_int ?_ | with_reducible refine wIsi_int_bool ?_ | with_reducible refine wIsi_int_str ?_ | with_reducible refine wIsi_int_list ?_ | with_reducible refine wIsi_int_tuple ?_ | with_reducible refine wIsi_str_int ?_ | with_reducible refine wIsi_str_bool ?_ | with_reducible refine wIsi_str_str ?_ | with_reducible refine wIsi_str_list ?_ | with_reducible refine wIsi_str_tuple ?_ | with_reducible refine wIsi_tup_int ?_ | with_reducible refine wIsi_tup_bool ?_ | with_reducible refine wIsi_tup_str ?_ | with_reducible refine wIsi_tup_list ?_ | with_reducible refine wIsi_tup_tuple ?_ | with_reducible refine wIsi_tup_lt ?_)))
local macro_rules | `(tactic| walk_at "evX") => `(tactic| repeat (first | with_reducible refine sSeq_i ?_ | with_reducible refine sAsg_i ?_ | with_reducible refine tV_i rfl ?_ | with_reducible refine tC_i ?_ | with_reducible refine aCons_i ?_ | with_reducible refine aNil_i ?_ | with_reducible refine tOp_i ?_ | with_reducible refine tFn_i ?_ | with_reducible refine tCB_i ?_ | with_reducible refine tTup_i ?_ | with_reducible refine tLst_i ?_ | with_reducible refine tUn_i ?_ | with_reducible refine tIsNf_i ?_ | with_reducible refine tIsNt_i ?_ | with_reducible refine qB_i ?_ | with_reducible refine isB_i ?_ | with_reducible refine qNot_i ?_ | with_reducible refine qAnd_i ?_ | with_reducible refine qOr_i ?_ | with_reducible refine vAnd_i ?_ | with_reducible refine vOr_i ?_ | with_reducible refine tIfE_i ?_ | with_reducible refine tMt_i ?_ | with_reducible refine isR_i ?_ | with_reducible refine sIf_i ?_ | with_reducible refine sRet_i ?_ | with_reducible refine sNext_i ?_ | with_reducible refine sDrop_i ?_ | with_reducible refine sIx_i ?_ | with_reducible refine isRI_i ?_ | with_reducible refine sRaise_i ?_ | with_reducible refine tLam_i fun f hf => ?_ | with_reducible refine sRetN_i ?_ | with_reducible refine if_t ?_ | with_reducible refine if_f ?_ | with_reducible refine wAdd_i ?_ | with_reducible refine wI0_i ?_ | with_reducible refine wEq_i ?_ | with_reducible refine wEq_s ?_ | with_reducible refine wNe_i ?_ | with_reducible refine wInt_i ?_ | with_reducible refine wInt_b ?_ | with_reducible refine wAbs_i ?_ | with_reducible refine wMax_i ?_ | with_reducible refine wMin_i ?_ | with_reducible refine wNeg_i ?_ | with_reducible refine wNot_b ?_ | with_reducible refine wBits_i ?_ | with_reducible refine if_nt ?_ | with_reducible refine if_nf ?_ | with_reducible refine gTp2_i ?_ | with_reducible refine gTp3_i ?_ | with_reducible refine gTp4_i ?_ | with_reducible refine gNm_i ?_ | with_reducible refine sPar_i ?_ | with_reducible refine par2_i ?_ | with_reducible refine wIx_t0 ?_ | with_reducible refine wIx_t1 ?_ | with_reducible refine wIx_t2 ?_ | with_reducible refine wIx_t3 ?_ | with_reducible refine wLen_t ?_ | with_reducible refine sAsgG_i ?_ | with_reducible refine sPar3_i ?_ | with_reducible refine par3_i ?_ | with_reducible refine tChainW_i ?_ | with_reducible refine chB_i ?_ | with_reducible refine if_self ?_ | with_reducible refine if_nself ?_ | with_reducible refine wNe_s ?_ | with_reducible refine wEq_b ?_ | with_reducible refine tFnD_i ?_ | with_reducible refine tFnK_i ?_ | with_reducible refine tChain3W_i ?_ | with_reducible refine wEqA_i ?_ | with_reducible refine wEqA_s ?_ | with_reducible refine wEqA_b ?_ | with_reducible refine wNeA_i ?_ | with_reducible refine wNeA_s ?_ | with_reducible refine wEqA_t3 ?_ | with_reducible refine tMt0_i ?_ | with_reducible refine tSlW_i ?_ | with_reducible refine pNo_i ?_ | with_reducible refine isI_i ?_ | with_reducible refine pAt_i ?_ | with_reducible refine wSl_t ?_ | (with_reducible show wIsiK _ _ _ _; first | with_reducible refine wIsi_non_int ?_ | with_reducible refine wIsi_non_bool ?_ | with_reducible refine wIsi_non_str ?_ | with_reducible refine wIsi_non_list ?_ | with_reducible refine wIsi_non_tuple ?_ | with_reducible refine wIsi_bl_int ?_ | with_reducible refine wIsi_bl_bool ?_ | with_reducible refine wIsi_bl_str ?_ | with_reducible refine wIsi_bl_list ?_ | with_reducible refine wIsi_bl_tuple ?_ | with_reducible refine wIsi_int_int ?_ | with_reducible refine wIsi_int_bool ?_ | with_reducible refine wIsi_int_str ?_ | with_reducible refine wIsi_int_list ?_ | with_reducible refine wIsi_int_tuple ?_ | with_reducible refine wIsi_str_int ?_ | with_reducible refine wIsi_str_bool ?_ | with_reducible refine wIsi_str_str ?_ | with_reducible refine wIsi_str_list ?_ | with_reducible refine wIsi_str_tuple ?_ | with_reducible refine wIsi_tup_int ?_ | with_reducible refine wIsi_tup_bool ?_ | with_reducible refine wIsi_tup_str ?_ | with_reducible refine wIsi_tup_list ?_ | with_reducible refine wIsi_tup_tuple ?_ | with_reducible refine wIsi_tup_lt ?_)))
local macro_rules | `(tactic| walk_at "evT") => `(tactic| (walk_at "evX"; repeat (first | (with_reducible refine if_y ?h1 ?_; (case h1 => omega); walk_at "evX") | (with_reducible refine if_n ?h1 ?_; (case h1 => omega); walk_at "evX") | (with_reducible refine if_ny ?h1 ?_; (case h1 => omega); walk_at "evX") | (with_reducible refine if_nn ?h1 ?_; (case h1 => omega); walk_at "evX"))))
local macro_rules | `(tactic| walk_at "evW") => `(tactic| (walk_at "evX"; repeat ((first | with_reducible refine ok_is_whole ?_ | with_reducible refine ok__law_int ?_ | with_reducible refine ok_check_number (by assumption) ?_ | with_reducible refine ok_check_mode (six_in2 (by assumption)) ?_ | with_reducible refine ok_kind_of (by assumption) ?_ | with_reducible refine ok_nan ?_); walk_at "evX")))
variable {G : Gm} {L : Lm} {M M0 : Mp} {Q : QK} {E : EK} {s : Addr} {n : Nat}
/-! ### the order of numbers -/
def cmpF (x y : Int) : Int := if x < y then -1 else if y < x then 1 else 0
theorem lowF_comm (a b : Int) : lowF a b = lowF b a := by unfold lowF; split <;> split <;> omega
def levI (a b : Int) : Int := if b = -2 then 4 else if a = 1 then (if b = -1 then -3 else if b = 0 then -1 else -2) else (if b = -1 then 3 else if b = 0 then 1 else 2)
def totI (a1 b1 a2 b2 D V : Int) : Int := if levI a1 b1 < levI a2 b2 then -1 else if levI a2 b2 < levI a1 b1 then 1 else if levI a1 b1 = 2 then cmpF D V else if levI a1 b1 = -2 then cmpF V D else 0
def ordI (a1 b1 c1 a2 b2 c2 : Int) : Int := totI a1 b1 a2 b2 (dvD b1 c1 (lowF c1 c2)) (dvD b2 c2 (lowF c1 c2))
theorem ok_compare_sizes {a1 b1 c1 a2 b2 c2 : Int} (Y1 : IsNum a1 b1 c1) (Y2 : IsNum a2 b2 c2) (h : Q (.int (cmpF (dvD b1 c1 (lowF c1 c2)) (dvD b2 c2 (lowF c1 c2)))) M) : sp_compare_sizes G L [nuW a1 b1 c1, nuW a2 b2 c2] M Q E := by
  show t_compare_sizes G L ⟨fun _ M' => Q .non M', Q, fun _ _ => False, fun _ _ => False, fun C p _ M' => E C p M'⟩ [some (nuW a1 b1 c1), some (nuW a2 b2 c2), none, none, none] M
  unfold t_compare_sizes
  have q1 := num_q Y1
  have q2 := num_q Y2
  have ll := lowF_le c1 c2
  walk_at "evW"
  rw [min_low]
  refine wI_i (shl_int (by omega) (num_bd Y1) (by omega)) ?_
  walk_at "evW"
  refine wI_i (shl_int (by omega) (num_bd Y2) (by omega)) ?_
  walk_at "evW"
  unfold cmpF dvD at h
  refine if_by (fun h1 => ?_) fun h1 => ?_
  all_goals walk_at "evW"
  · rw [if_pos h1] at h
    exact h
  rw [if_neg h1] at h
  refine if_by (fun h2 => ?_) fun h2 => ?_
  all_goals walk_at "evW"
  · rw [if_pos h2] at h
    exact h
  rw [if_neg h2] at h
  exact h
theorem ok_level {a b c : Int} (Y : IsNum a b c) (h : Q (.int (levI a b)) M) : sp_level G L [nuW a b c] M Q E := by
  show t_level G L ⟨fun _ M' => Q .non M', Q, fun _ _ => False, fun _ _ => False, fun C p _ M' => E C p M'⟩ [some (nuW a b c), none, none] M
  unfold t_level
  obtain ⟨kn, ki, kz, kf⟩ := kindS_iff Y
  have m := num_m Y
  walk_at "evW"
  unfold levI at h
  refine if_by (fun h1 => ?_) fun h1 => ?_
  all_goals walk_at "evW"
  · rw [if_pos (kn.mp h1)] at h
    exact h
  rw [kn] at h1
  rw [if_neg h1] at h
  refine if_by (fun h2 => ?_) fun h2 => ?_
  all_goals walk_at "evW"
  · rw [kf] at h2
    refine if_n (fun z => absurd (ki.mp z) (by omega)) ?_
    walk_at "evW"
    refine if_by (fun h3 => ?_) fun h3 => ?_
    all_goals walk_at "evW"
    · rw [if_pos h3, if_neg (by omega), if_neg (by omega)] at h
      exact h
    · rw [if_neg h3, if_neg (by omega), if_neg (by omega)] at h
      exact h
  · rw [kf] at h2
    refine if_by (fun h4 => ?_) fun h4 => ?_
    all_goals walk_at "evW"
    · rw [ki] at h4
      refine if_by (fun h3 => ?_) fun h3 => ?_
      all_goals walk_at "evW"
      · rw [if_pos h3, if_pos h4] at h
        exact h
      · rw [if_neg h3, if_pos h4] at h
        exact h
    · rw [ki] at h4
      refine if_by (fun h3 => ?_) fun h3 => ?_
      all_goals walk_at "evW"
      · rw [if_pos h3, if_neg h4, if_pos (by omega)] at h
        exact h
      · rw [if_neg h3, if_neg h4, if_pos (by omega)] at h
        exact h
theorem ok_total {a1 b1 c1 a2 b2 c2 : Int} (Y1 : IsNum a1 b1 c1) (Y2 : IsNum a2 b2 c2) (h : Q (.int (ordI a1 b1 c1 a2 b2 c2)) M) : sp_total G L [nuW a1 b1 c1, nuW a2 b2 c2] M Q E := by
  show t_total G L ⟨fun _ M' => Q .non M', Q, fun _ _ => False, fun _ _ => False, fun C p _ M' => E C p M'⟩ [some (nuW a1 b1 c1), some (nuW a2 b2 c2), none, none] M
  unfold t_total
  unfold ordI totI at h
  walk_at "evW"
  refine ok_level Y1 ?_
  walk_at "evW"
  refine ok_level Y2 ?_
  walk_at "evW"
  refine if_by (fun h1 => ?_) fun h1 => ?_
  all_goals walk_at "evW"
  · rw [if_pos h1] at h
    exact h
  rw [if_neg h1] at h
  refine if_by (fun h2 => ?_) fun h2 => ?_
  all_goals walk_at "evW"
  · rw [if_pos h2] at h
    exact h
  rw [if_neg h2] at h
  refine if_by (fun h3 => ?_) fun h3 => ?_
  all_goals walk_at "evW"
  · rw [if_pos h3] at h
    exact ok_compare_sizes Y1 Y2 h
  rw [if_neg h3] at h
  refine if_by (fun h4 => ?_) fun h4 => ?_
  all_goals walk_at "evW"
  · rw [if_pos h4, lowF_comm] at h
    exact ok_compare_sizes Y2 Y1 h
  rw [if_neg h4] at h
  exact h
/-- what is compared -/
theorem dv_sg {a b c : Int} (Y : IsNum a b c) (P : Int) : (0 < b → 0 < dvD b c P) ∧ (b = 0 → dvD b c P = 0) := ⟨fun h => dvD_pos h, fun h => by unfold dvD; rw [h, Int.zero_mul]⟩
theorem cmpF_0 {x y : Int} : cmpF x y = 0 ↔ x = y := by
  unfold cmpF
  constructor
  · intro h
    split at h
    · omega
    · split at h <;> omega
  · intro h
    rw [if_neg (by omega), if_neg (by omega)]
theorem dv_eq {a1 b1 c1 a2 b2 c2 : Int} (Y1 : IsNum a1 b1 c1) (Y2 : IsNum a2 b2 c2) (p1 : 0 < b1) (p2 : 0 < b2) (e : dvD b1 c1 (lowF c1 c2) = dvD b2 c2 (lowF c1 c2)) : b1 = b2 ∧ c1 = c2 := by
  have o1 : b1 % 2 = 1 := by rcases Y1.mq with y | y | y <;> omega
  have o2 : b2 % 2 = 1 := by rcases Y2.mq with y | y | y <;> omega
  have ll := lowF_le c1 c2
  obtain ⟨r1, r2⟩ := dy_unique e o1 o2
  exact ⟨r1, by omega⟩
/-- zero only for equal ones -/
theorem ord_0 {a1 b1 c1 a2 b2 c2 : Int} (Y1 : IsNum a1 b1 c1) (Y2 : IsNum a2 b2 c2) (h : ordI a1 b1 c1 a2 b2 c2 = 0) : a1 = a2 ∧ b1 = b2 ∧ c1 = c2 := by
  have key : levI a1 b1 = levI a2 b2 ∧ (levI a1 b1 = 2 ∨ levI a1 b1 = -2 → dvD b1 c1 (lowF c1 c2) = dvD b2 c2 (lowF c1 c2)) := by
    unfold ordI totI at h
    split at h
    · omega
    split at h
    · omega
    split at h
    · exact ⟨by omega, fun _ => cmpF_0.mp h⟩
    split at h
    · exact ⟨by omega, fun _ => (cmpF_0.mp h).symm⟩
    · exact ⟨by omega, fun z => by omega⟩
  obtain ⟨k1, k2⟩ := key
  have s1 := Y1.s01
  have s2 := Y2.s01
  have m1 := num_m Y1
  have m2 := num_m Y2
  by_cases z : 0 < b1 ∧ 0 < b2
  · have el : levI a1 b1 = 2 ∨ levI a1 b1 = -2 := by
      unfold levI
      rw [if_neg (by omega)]
      split
      · rw [if_neg (by omega), if_neg (by omega)]
        exact .inr rfl
      · rw [if_neg (by omega), if_neg (by omega)]
        exact .inl rfl
    obtain ⟨r1, r2⟩ := dv_eq Y1 Y2 z.1 z.2 (k2 el)
    refine ⟨?_, r1, r2⟩
    unfold levI at k1
    rw [if_neg (show ¬ b1 = -2 by omega), if_neg (show ¬ b2 = -2 by omega), if_neg (show ¬ b1 = -1 by omega), if_neg (show ¬ b1 = 0 by omega), if_neg (show ¬ b2 = -1 by omega), if_neg (show ¬ b2 = 0 by omega), if_neg (show ¬ b1 = -1 by omega), if_neg (show ¬ b1 = 0 by omega), if_neg (show ¬ b2 = -1 by omega), if_neg (show ¬ b2 = 0 by omega)] at k1
    split at k1 <;> split at k1 <;> omega
  · have eb : a1 = a2 ∧ b1 = b2 := by
      clear k2 h
      have t1 := Y1.mq
      have t2 := Y2.mq
      unfold levI at k1
      rcases m1 with rfl | rfl | rfl | p1 <;> rcases m2 with rfl | rfl | rfl | p2
      all_goals repeat' (first | omega | split at k1)
    have c1z : c1 = 0 ∧ c2 = 0 := by
      have t1 := Y1.mq
      have t2 := Y2.mq
      omega
    exact ⟨eb.1, eb.2, by omega⟩
theorem no_total_1 {x y : W} (hb : BadN s M x) (h : E (G.cls i_BadNumber) none M) : sp_total G L [x, y] M Q E := by
  show t_total G L ⟨fun _ M' => Q .non M', Q, fun _ _ => False, fun _ _ => False, fun C p _ M' => E C p M'⟩ [some (x), some (y), none, none] M
  unfold t_total
  walk_at "evW"
  exact no_check_number hb h
theorem no_total_2 {a b c : Int} {y : W} (Y : IsNum a b c) (hb : BadN s M y) (h : E (G.cls i_BadNumber) none M) : sp_total G L [nuW a b c, y] M Q E := by
  show t_total G L ⟨fun _ M' => Q .non M', Q, fun _ _ => False, fun _ _ => False, fun C p _ M' => E C p M'⟩ [some (nuW a b c), some (y), none, none] M
  unfold t_total
  walk_at "evW"
  exact no_check_number hb h
/-! ### alike -/
theorem wEqA_n {a1 b1 c1 a2 b2 c2 : Int} (h : Q (.bl (decide (a1 = a2 ∧ b1 = b2 ∧ c1 = c2))) M) : wEqA (nuW a1 b1 c1) (nuW a2 b2 c2) M Q := wEqA_t3 h
abbrev alk (a1 b1 c1 a2 b2 c2 : Int) : Prop := (a1 = a2 ∧ b1 = b2 ∧ c1 = c2) ∨ (b1 = 0 ∧ b2 = 0)
theorem ok_alike {a1 b1 c1 a2 b2 c2 : Int} (Y1 : IsNum a1 b1 c1) (Y2 : IsNum a2 b2 c2) (h : Q (.bl (decide (alk a1 b1 c1 a2 b2 c2))) M) : sp_alike G L [nuW a1 b1 c1, nuW a2 b2 c2] M Q E := by
  show t_alike G L ⟨fun _ M' => Q .non M', Q, fun _ _ => False, fun _ _ => False, fun C p _ M' => E C p M'⟩ [some (nuW a1 b1 c1), some (nuW a2 b2 c2)] M
  unfold t_alike
  walk_at "evW"
  try (refine wEqA_n ?_)
  walk_at "evW"
  refine if_by (fun h1 => ?_) fun h1 => ?_
  all_goals walk_at "evW"
  · rw [decide_eq_true (Or.inl h1)] at h
    exact h
  refine if_by (fun h2 => ?_) fun h2 => ?_
  all_goals walk_at "evW"
  · rw [show decide (alk a1 b1 c1 a2 b2 c2) = decide (b2 = 0) from decide_eq_decide.mpr ⟨fun z => z.elim (fun y => absurd y h1) (·.2), fun z => .inr ⟨h2, z⟩⟩] at h
    exact h
  · rw [decide_eq_false (fun z => z.elim h1 fun y => h2 y.1)] at h
    exact h
theorem no_alike_1 {x y : W} (hb : BadN s M x) (h : E (G.cls i_BadNumber) none M) : sp_alike G L [x, y] M Q E := by
  show t_alike G L ⟨fun _ M' => Q .non M', Q, fun _ _ => False, fun _ _ => False, fun C p _ M' => E C p M'⟩ [some (x), some (y)] M
  unfold t_alike
  walk_at "evW"
  exact no_check_number hb h
theorem no_alike_2 {a b c : Int} {y : W} (Y : IsNum a b c) (hb : BadN s M y) (h : E (G.cls i_BadNumber) none M) : sp_alike G L [nuW a b c, y] M Q E := by
  show t_alike G L ⟨fun _ M' => Q .non M', Q, fun _ _ => False, fun _ _ => False, fun C p _ M' => E C p M'⟩ [some (nuW a b c), some (y)] M
  unfold t_alike
  walk_at "evW"
  exact no_check_number hb h
def wrdF (a1 b1 c1 a2 b2 c2 : Int) : Str := if b1 = -2 ∨ b2 = -2 then "apart" else if alk a1 b1 c1 a2 b2 c2 then "same" else if ordI a1 b1 c1 a2 b2 c2 < 0 then "less" else "more"
theorem ok_compare {a1 b1 c1 a2 b2 c2 : Int} (Y1 : IsNum a1 b1 c1) (Y2 : IsNum a2 b2 c2) (h : Q (.str (wrdF a1 b1 c1 a2 b2 c2)) M) : sp_compare G L [nuW a1 b1 c1, nuW a2 b2 c2] M Q E := by
  show t_compare G L ⟨fun _ M' => Q .non M', Q, fun _ _ => False, fun _ _ => False, fun C p _ M' => E C p M'⟩ [some (nuW a1 b1 c1), some (nuW a2 b2 c2)] M
  unfold t_compare
  obtain ⟨kn1, _, _, _⟩ := kindS_iff Y1
  obtain ⟨kn2, _, _, _⟩ := kindS_iff Y2
  unfold wrdF at h
  walk_at "evW"
  refine if_by (fun h1 => ?_) fun h1 => ?_
  all_goals walk_at "evW"
  · rw [if_pos (.inl (kn1.mp h1))] at h
    exact h
  rw [kn1] at h1
  refine if_by (fun h2 => ?_) fun h2 => ?_
  all_goals walk_at "evW"
  · rw [if_pos (.inr (kn2.mp h2))] at h
    exact h
  rw [kn2] at h2
  rw [if_neg (by omega)] at h
  refine ok_alike Y1 Y2 ?_
  walk_at "evW"
  refine if_by (fun h3 => ?_) fun h3 => ?_
  all_goals walk_at "evW"
  · rw [if_pos h3] at h
    exact h
  rw [if_neg h3] at h
  refine ok_total Y1 Y2 ?_
  walk_at "evW"
  refine if_by (fun h4 => ?_) fun h4 => ?_
  all_goals walk_at "evW"
  · rw [if_pos h4] at h
    exact h
  rw [if_neg h4] at h
  exact h
theorem no_compare_1 {x y : W} (hb : BadN s M x) (h : E (G.cls i_BadNumber) none M) : sp_compare G L [x, y] M Q E := by
  show t_compare G L ⟨fun _ M' => Q .non M', Q, fun _ _ => False, fun _ _ => False, fun C p _ M' => E C p M'⟩ [some (x), some (y)] M
  unfold t_compare
  walk_at "evW"
  exact no_check_number hb h
theorem no_compare_2 {a b c : Int} {y : W} (Y : IsNum a b c) (hb : BadN s M y) (h : E (G.cls i_BadNumber) none M) : sp_compare G L [nuW a b c, y] M Q E := by
  show t_compare G L ⟨fun _ M' => Q .non M', Q, fun _ _ => False, fun _ _ => False, fun C p _ M' => E C p M'⟩ [some (nuW a b c), some (y)] M
  unfold t_compare
  walk_at "evW"
  exact no_check_number hb h
theorem nan_eq {a b c : Int} (Y : IsNum a b c) (z : b = -2) : nuW 0 (-2) 0 = nuW a b c := by
  have : a = 0 ∧ c = 0 := by rcases Y.mq with y | y | y <;> omega
  rw [z, this.1, this.2]
def lstW (a1 b1 c1 a2 b2 c2 : Int) : W := if b1 = -2 ∨ b2 = -2 then nuW 0 (-2) 0 else if ordI a1 b1 c1 a2 b2 c2 ≤ 0 then nuW a1 b1 c1 else nuW a2 b2 c2
def grtW (a1 b1 c1 a2 b2 c2 : Int) : W := if b1 = -2 ∨ b2 = -2 then nuW 0 (-2) 0 else if 0 ≤ ordI a1 b1 c1 a2 b2 c2 then nuW a1 b1 c1 else nuW a2 b2 c2
theorem ok_least_of {a1 b1 c1 a2 b2 c2 : Int} (Y1 : IsNum a1 b1 c1) (Y2 : IsNum a2 b2 c2) (h : Q (lstW a1 b1 c1 a2 b2 c2) M) : sp_least_of G L [nuW a1 b1 c1, nuW a2 b2 c2] M Q E := by
  show t_least_of G L ⟨fun _ M' => Q .non M', Q, fun _ _ => False, fun _ _ => False, fun C p _ M' => E C p M'⟩ [some (nuW a1 b1 c1), some (nuW a2 b2 c2), none] M
  unfold t_least_of
  obtain ⟨kn1, _, _, _⟩ := kindS_iff Y1
  obtain ⟨kn2, _, _, _⟩ := kindS_iff Y2
  unfold lstW at h
  walk_at "evW"
  refine ok_total Y1 Y2 ?_
  walk_at "evW"
  refine if_by (fun h1 => ?_) fun h1 => ?_
  all_goals walk_at "evW"
  · rw [if_pos (.inl (kn1.mp h1))] at h
    exact h
  rw [kn1] at h1
  refine if_by (fun h2 => ?_) fun h2 => ?_
  all_goals walk_at "evW"
  · rw [if_pos (.inr (kn2.mp h2))] at h
    exact h
  rw [kn2] at h2
  rw [if_neg (by omega)] at h
  refine if_by (fun h3 => ?_) fun h3 => ?_
  all_goals walk_at "evW"
  · rw [if_pos h3] at h
    exact h
  rw [if_neg h3] at h
  exact h
theorem ok_greatest_of {a1 b1 c1 a2 b2 c2 : Int} (Y1 : IsNum a1 b1 c1) (Y2 : IsNum a2 b2 c2) (h : Q (grtW a1 b1 c1 a2 b2 c2) M) : sp_greatest_of G L [nuW a1 b1 c1, nuW a2 b2 c2] M Q E := by
  show t_greatest_of G L ⟨fun _ M' => Q .non M', Q, fun _ _ => False, fun _ _ => False, fun C p _ M' => E C p M'⟩ [some (nuW a1 b1 c1), some (nuW a2 b2 c2), none] M
  unfold t_greatest_of
  obtain ⟨kn1, _, _, _⟩ := kindS_iff Y1
  obtain ⟨kn2, _, _, _⟩ := kindS_iff Y2
  unfold grtW at h
  walk_at "evW"
  refine ok_total Y1 Y2 ?_
  walk_at "evW"
  refine if_by (fun h1 => ?_) fun h1 => ?_
  all_goals walk_at "evW"
  · rw [if_pos (.inl (kn1.mp h1))] at h
    exact h
  rw [kn1] at h1
  refine if_by (fun h2 => ?_) fun h2 => ?_
  all_goals walk_at "evW"
  · rw [if_pos (.inr (kn2.mp h2))] at h
    exact h
  rw [kn2] at h2
  rw [if_neg (by omega)] at h
  refine if_by (fun h3 => ?_) fun h3 => ?_
  all_goals walk_at "evW"
  · rw [if_pos h3] at h
    exact h
  rw [if_neg h3] at h
  exact h
theorem no_least_of_1 {x y : W} (hb : BadN s M x) (h : E (G.cls i_BadNumber) none M) : sp_least_of G L [x, y] M Q E := by
  show t_least_of G L ⟨fun _ M' => Q .non M', Q, fun _ _ => False, fun _ _ => False, fun C p _ M' => E C p M'⟩ [some (x), some (y), none] M
  unfold t_least_of
  walk_at "evW"
  exact no_total_1 hb h
theorem no_least_of_2 {a b c : Int} {y : W} (Y : IsNum a b c) (hb : BadN s M y) (h : E (G.cls i_BadNumber) none M) : sp_least_of G L [nuW a b c, y] M Q E := by
  show t_least_of G L ⟨fun _ M' => Q .non M', Q, fun _ _ => False, fun _ _ => False, fun C p _ M' => E C p M'⟩ [some (nuW a b c), some (y), none] M
  unfold t_least_of
  walk_at "evW"
  exact no_total_2 Y hb h
theorem no_greatest_of_1 {x y : W} (hb : BadN s M x) (h : E (G.cls i_BadNumber) none M) : sp_greatest_of G L [x, y] M Q E := by
  show t_greatest_of G L ⟨fun _ M' => Q .non M', Q, fun _ _ => False, fun _ _ => False, fun C p _ M' => E C p M'⟩ [some (x), some (y), none] M
  unfold t_greatest_of
  walk_at "evW"
  exact no_total_1 hb h
theorem no_greatest_of_2 {a b c : Int} {y : W} (Y : IsNum a b c) (hb : BadN s M y) (h : E (G.cls i_BadNumber) none M) : sp_greatest_of G L [nuW a b c, y] M Q E := by
  show t_greatest_of G L ⟨fun _ M' => Q .non M', Q, fun _ _ => False, fun _ _ => False, fun C p _ M' => E C p M'⟩ [some (nuW a b c), some (y), none] M
  unfold t_greatest_of
  walk_at "evW"
  exact no_total_2 Y hb h
theorem ok_size {a b c : Int} (Y : IsNum a b c) (h : Q (nuW 0 b c) M) : sp_size G L [nuW a b c] M Q E := by
  show t_size G L ⟨fun _ M' => Q .non M', Q, fun _ _ => False, fun _ _ => False, fun C p _ M' => E C p M'⟩ [some (nuW a b c)] M
  unfold t_size
  walk_at "evW"
  exact h
theorem no_size {x : W} (hb : BadN s M x) (h : E (G.cls i_BadNumber) none M) : sp_size G L [x] M Q E := by
  show t_size G L ⟨fun _ M' => Q .non M', Q, fun _ _ => False, fun _ _ => False, fun C p _ M' => E C p M'⟩ [some (x)] M
  unfold t_size
  walk_at "evW"
  exact no_check_number hb h
theorem no_minus {x : W} (hb : BadN s M x) (h : E (G.cls i_BadNumber) none M) : sp_minus G L [x] M Q E := by
  show t_minus G L ⟨fun _ M' => Q .non M', Q, fun _ _ => False, fun _ _ => False, fun C p _ M' => E C p M'⟩ [some (x)] M
  unfold t_minus
  walk_at "evW"
  exact no_check_number hb h
end k12

namespace k12
open PySem L2 Ev
local macro_rules | `(tactic| walk_at "evS") => `(tactic| repeat (first | with_reducible refine sSeq_i ?_ | with_reducible refine sAsg_i ?_ | with_reducible refine tV_i rfl ?_ | with_reducible refine tC_i ?_ | with_reducible refine aCons_i ?_ | with_reducible refine aNil_i ?_ | with_reducible refine tOp_i ?_ | with_reducible refine tFn_i ?_ | with_reducible refine tCB_i ?_ | with_reducible refine tTup_i ?_ | with_reducible refine tLst_i ?_ | with_reducible refine tUn_i ?_ | with_reducible refine tIsNf_i ?_ | with_reducible refine tIsNt_i ?_ | with_reducible refine qB_i ?_ | with_reducible refine isB_i ?_ | with_reducible refine qNot_i ?_ | with_reducible refine qAnd_i ?_ | with_reducible refine qOr_i ?_ | with_reducible refine vAnd_i ?_ | with_reducible refine vOr_i ?_ | with_reducible refine tIfE_i ?_ | with_reducible refine tMt_i ?_ | with_reducible refine isR_i ?_ | with_reducible refine sIf_i ?_ | with_reducible refine sRet_i ?_ | with_reducible refine sNext_i ?_ | with_reducible refine sDrop_i ?_ | with_reducible refine sIx_i ?_ | with_reducible refine isRI_i ?_ | with_reducible refine sRaise_i ?_ | with_reducible refine tLam_i fun f hf => ?_ | with_reducible refine sRetN_i ?_ | with_reducible refine if_t ?_ | with_reducible refine if_f ?_ | with_reducible refine wAdd_i ?_ | with_reducible refine wI0_i ?_ | with_reducible refine wEq_i ?_ | with_reducible refine wEq_s ?_ | with_reducible refine wNe_i ?_ | with_reducible refine wInt_i ?_ | with_reducible refine wInt_b ?_ | with_reducible refine wAbs_i ?_ | with_reducible refine wMax_i ?_ | with_reducible refine wMin_i ?_ | with_reducible refine wNeg_i ?_ | with_reducible refine wNot_b ?_ | with_reducible refine wBits_i ?_ | (with_reducible show wIsiK _ _ _ _; first | with_reducible refine wIsi_non_int ?_ | with_reducible refine wIsi_non_bool ?_ | with_reducible refine wIsi_non_str ?_ | with_reducible refine wIsi_non_list ?_ | with_reducible refine wIsi_non_tuple ?_ | with_reducible refine wIsi_bl_int ?_ | with_reducible refine wIsi_bl_bool ?_ | with_reducible refine wIsi_bl_str ?_ | with_reducible refine wIsi_bl_list ?_ | with_reducible refine wIsi_bl_tuple ?_ | with_reducible refine wIsi_int_int ?_ | with_reducible refine wIsi_int_bool ?_ | with_reducible refine wIsi_int_str ?_ | with_reducible refine wIsi_int_list ?_ | with_reducible refine wIsi_int_tuple ?_ | with_reducible refine wIsi_str_int ?_ | with_reducible refine wIsi_str_bool ?_ | with_reducible refine wIsi_str_str ?_ | with_reducible refine wIsi_str_list ?_ | with_reducible refine wIsi_str_tuple ?_ | with_reducible refine wIsi_tup_int ?_ | with_reducible refine wIsi_tup_bool ?_ | with_reducible refine wIsi_tup_str ?_ | with_reducible refine wIsi_tup_list ?_ | with_reducible refine wIsi_tup_tuple ?_ | with_reducible refine wIsi_tup_lt ?_)))
local macro_rules | `(tactic| walk_at "evX") => `(tactic| repeat (first | with_reducible refine sSeq_i ?_ | with_reducible refine sAsg_i ?_ | with_reducible refine tV_i rfl ?_ | with_reducible refine tC_i ?_ | with_reducible refine aCons_i ?_ | with_reducible refine aNil_i ?_ | with_reducible refine tOp_i ?_ | with_reducible refine tFn_i ?_ | with_reducible refine tCB_i ?_ | with_reducible refine tTup_i ?_ | with_reducible refine tLst_i ?_ | with_reducible refine tUn_i ?_ | with_reducible refine tIsNf_i ?_ | with_reducible refine tIsNt_i ?_ | with_reducible refine qB_i ?_ | with_reducible refine isB_i ?_ | with_reducible refine qNot_i ?_ | with_reducible refine qAnd_i ?_ | with_reducible refine qOr_i ?_ | with_reducible refine vAnd_i ?_ | with_reducible refine vOr_i ?_ | with_reducible refine tIfE_i ?_ | with_reducible refine tMt_i ?_ | with_reducible refine isR_i ?_ | with_reducible refine sIf_i ?_ | with_reducible refine sRet_i ?_ | with_reducible refine sNext_i ?_ | with_reducible refine sDrop_i ?_ | with_reducible refine sIx_i ?_ | with_reducible refine isRI_i ?_ | with_reducible refine sRaise_i ?_ | with_reducible refine tLam_i fun f hf => ?_ | with_reducible refine sRetN_i ?_ | with_reducible refine if_t ?_ | with_reducible refine if_f ?_ | with_reducible refine wAdd_i ?_ | with_reducible refine wI0_i ?_ | with_reducible refine wEq_i ?_ | with_reducible refine wEq_s ?_ | with_reducible refine wNe_i ?_ | with_reducible refine wInt_i ?_ | with_reducible refine wInt_b ?_ | with_reducible refine wAbs_i ?_ | with_reducible refine wMax_i ?_ | with_reducible refine wMin_i ?_ | with_reducible refine wNeg_i ?_ | with_reducible refine wNot_b ?_ | with_reducible refine wBits_i ?_ | with_reducible refine if_nt ?_ | with_reducible refine if_nf ?_ | with_reducible refine gTp2_i ?_ | with_reducible refine gTp3_i ?_ | with_reducible refine gTp4_i ?_ | with_reducible refine gNm_i ?_ | with_reducible refine sPar_i ?_ | with_reducible refine par2_i ?_ | with_reducible refine wIx_t0 ?_ | with_reducible refine wIx_t1 ?_ | with_reducible refine wIx_t2 ?_ | with_reducible refine wIx_t3 ?_ | with_reducible refine wLen_t ?_ | with_reducible refine sAsgG_i ?_ | with_reducible refine sPar3_i ?_ | with_reducible refine par3_i ?_ | with_reducible refine tChainW_i ?_ | with_reducible refine chB_i ?_ | with_reducible refine if_self ?_ | with_reducible refine if_nself ?_ | with_reducible refine wNe_s ?_ | with_reducible refine wEq_b ?_ | with_reducible refine tFnD_i ?_ | with_reducible refine tFnK_i ?_ | with_reducible refine tChain3W_i ?_ | with_reducible refine wEqA_i ?_ | with_reducible refine wEqA_s ?_ | with_reducible refine wEqA_b ?_ | with_reducible refine wNeA_i ?_ | with_reducible refine wNeA_s ?_ | with_reducible refine wEqA_t3 ?_ | with_reducible refine tMt0_i ?_ | with_reducible refine tSlW_i ?_ | with_reducible refine pNo_i ?_ | with_reducible refine isI_i ?_ | with_reducible refine pAt_i ?_ | with_reducible refine wSl_t ?_ | (with_reducible show wIsiK _ _ _ _; first | with_reducible refine wIsi_non_int ?_ | with_reducible refine wIsi_non_bool ?_ | with_reducible refine wIsi_non_str ?_ | with_reducible refine wIsi_non_list ?_ | with_reducible refine wIsi_non_tuple ?_ | with_reducible refine wIsi_bl_int ?_ | with_reducible refine wIsi_bl_bool ?_ | with_reducible refine wIsi_bl_str ?_ | with_reducible refine wIsi_bl_list ?_ | with_reducible refine wIsi_bl_tuple ?_ | with_reducible refine wIsi_int_int ?_ | with_reducible refine wIsi_int_bool ?_ | with_reducible refine wIsi_int_str ?_ | with_reducible refine wIsi_int_list ?_ | with_reducible refine wIsi_int_tuple ?_ | with_reducible refine wIsi_str_int ?_ | with_reducible refine wIsi_str_bool ?_ | with_reducible refine wIsi_str_str ?_ | with_reducible refine wIsi_str_list ?_ | with_reducible refine wIsi_str_tuple ?_ | with_reducible refine wIsi_tup_int ?_ | with_reducible refine wIsi_tup_bool ?_ | with_reducible refine wIsi_tup_str ?_ | with_reducible refine wIsi_tup_list ?_ | with_reducible refine wIsi_tup_tuple ?_ | with_reducible refine wIsi_tup_lt ?_)))
local macro_rules | `(tactic| walk_at "evT") => `(tactic| (walk_at "evX"; repeat (first | (with_reducible refine if_y ?h1 ?_; (case h1 => omega); walk_at "evX") | (with_reducible refine if_n ?h1 ?_; (case h1 => omega); walk_at "evX") | (with_reducible refine if_ny ?h1 ?_; (case h1 => omega); walk_at "evX") | (with_reducible refine if_nn ?h1 ?_; (case h1 => omega); walk_at "evX"))))
local macro_rules | `(tactic| walk_at "evW") => `(tactic| (walk_at "evX"; repeat ((first | with_reducible refine ok_is_whole ?_ | with_reducible refine ok__law_int ?_ | with_reducible refine ok_check_number (by assumption) ?_ | with_reducible refine ok_check_mode (six_in2 (by assumption)) ?_ | with_reducible refine ok_kind_of (by assumption) ?_ | with_reducible refine ok_nan ?_); walk_at "evX")))
variable {G : Gm} {L : Lm} {M M0 : Mp} {Q : QK} {E : EK} {s : Addr} {n : Nat}
structure ErrF (G : Gm) : Prop where
  number : Nmd G (G.cls i_BadNumber) i_BadNumber
theorem nm_number : nms i_BadNumber = [.str "BadNumber"] := rfl
/-! ### the law's own order -/
def sg2 (l r : Int) : Int := (if r < l then 1 else 0) - (if l < r then 1 else 0)
def lawX (a1 b1 a2 b2 D V : Int) : Int := if b1 = -1 ∨ b2 = -1 then sg2 ((1 - 2 * a1) * (if b1 = -1 then 1 else 0)) ((1 - 2 * a2) * (if b2 = -1 then 1 else 0)) else sg2 ((1 - 2 * a1) * D) ((1 - 2 * a2) * V)
def befX (a1 b1 a2 b2 D V : Int) : Int := if b1 = -2 ∨ b2 = -2 then (if b1 = -2 then 1 else 0) - (if b2 = -2 then 1 else 0) else if lawX a1 b1 a2 b2 D V = 0 ∧ b1 = 0 ∧ b2 = 0 then a2 - a1 else lawX a1 b1 a2 b2 D V
theorem bef_tot {a1 b1 a2 b2 D V : Int} (s1 : a1 = 0 ∨ a1 = 1) (s2 : a2 = 0 ∨ a2 = 1) (m1 : b1 = -2 ∨ b1 = -1 ∨ b1 = 0 ∨ 0 < b1) (m2 : b2 = -2 ∨ b2 = -1 ∨ b2 = 0 ∨ 0 < b2) (n1 : b1 = -2 → a1 = 0) (n2 : b2 = -2 → a2 = 0) (d1 : 0 < b1 → 0 < D) (d2 : b1 = 0 → D = 0) (v1 : 0 < b2 → 0 < V) (v2 : b2 = 0 → V = 0) : befX a1 b1 a2 b2 D V = totI a1 b1 a2 b2 D V := by
  unfold befX lawX sg2 totI levI cmpF
  rcases s1 with rfl | rfl <;> rcases s2 with rfl | rfl <;> rcases m1 with rfl | rfl | rfl | m1 <;> rcases m2 with rfl | rfl | rfl | m2
  all_goals repeat' (first | omega | split)
theorem tot_turn {a1 b1 a2 b2 D V : Int} (s1 : a1 = 0 ∨ a1 = 1) (s2 : a2 = 0 ∨ a2 = 1) (m1 : b1 = -1 ∨ b1 = 0 ∨ 0 < b1) (m2 : b2 = -1 ∨ b2 = 0 ∨ 0 < b2) : totI (1 - a2) b2 (1 - a1) b1 V D = totI a1 b1 a2 b2 D V := by
  unfold totI levI cmpF
  rcases s1 with rfl | rfl <;> rcases s2 with rfl | rfl <;> rcases m1 with rfl | rfl | m1 <;> rcases m2 with rfl | rfl | m2
  all_goals repeat' (first | omega | split)
theorem ord_rng {a1 b1 c1 a2 b2 c2 : Int} : ordI a1 b1 c1 a2 b2 c2 = -1 ∨ ordI a1 b1 c1 a2 b2 c2 = 0 ∨ ordI a1 b1 c1 a2 b2 c2 = 1 := by
  unfold ordI totI cmpF
  generalize dvD b1 c1 (lowF c1 c2) = D
  generalize dvD b2 c2 (lowF c1 c2) = V
  repeat' (first | omega | split)
theorem ord_same {a b c : Int} : ordI a b c a b c = 0 := by
  unfold ordI totI cmpF
  generalize dvD b c (lowF c c) = D
  repeat' (first | omega | split)
theorem ord_nan1 {b1 a1 c1 a2 b2 c2 : Int} (h : b1 = -2) (h2 : ¬ b2 = -2) : ordI a1 b1 c1 a2 b2 c2 = 1 := by
  unfold ordI totI levI cmpF
  generalize dvD b1 c1 (lowF c1 c2) = D
  generalize dvD b2 c2 (lowF c1 c2) = V
  repeat' (first | omega | split)
theorem ord_nan2 {b1 a1 c1 a2 b2 c2 : Int} (h : ¬ b1 = -2) (h2 : b2 = -2) : ordI a1 b1 c1 a2 b2 c2 = -1 := by
  unfold ordI totI levI cmpF
  generalize dvD b1 c1 (lowF c1 c2) = D
  generalize dvD b2 c2 (lowF c1 c2) = V
  repeat' (first | omega | split)
theorem dec01 {p : Prop} [Decidable p] : (if decide p = true then (1 : Int) else 0) = if p then 1 else 0 := by simp only [decide_eq_true_eq]
theorem ok__law_compare {a1 b1 c1 a2 b2 c2 : Int} (Y1 : IsNum a1 b1 c1) (Y2 : IsNum a2 b2 c2) (h : Q (.int (lawX a1 b1 a2 b2 (dvD b1 c1 (lowF c1 c2)) (dvD b2 c2 (lowF c1 c2)))) M) : sp__law_compare G L [nuW a1 b1 c1, nuW a2 b2 c2] M Q E := by
  show t__law_compare G L ⟨fun _ M' => Q .non M', Q, fun _ _ => False, fun _ _ => False, fun C p _ M' => E C p M'⟩ [some (nuW a1 b1 c1), some (nuW a2 b2 c2), none, none, none] M
  unfold t__law_compare
  have q1 := num_q Y1
  have q2 := num_q Y2
  have ll := lowF_le c1 c2
  have s1 := Y1.s01
  have s2 := Y2.s01
  have B2 : Bd 2 (2 : Int) := ⟨by decide⟩
  have ba1 : Bd 1 a1 := ⟨by omega⟩
  have ba2 : Bd 1 a2 := ⟨by omega⟩
  have bs1 : Bd 1 (1 - 2 * a1) := ⟨by omega⟩
  have bs2 : Bd 1 (1 - 2 * a2) := ⟨by omega⟩
  have b01 : ∀ p : Prop, ∀ [Decidable p], Bd 1 (if decide p = true then (1 : Int) else 0) := fun p _ => ⟨by split <;> decide⟩
  unfold lawX sg2 at h
  walk_at "evW"
  refine wI_i (MulOk.of B2 ba1 (by decide)) ?_
  walk_at "evW"
  refine wI_i (MulOk.of B2 ba2 (by decide)) ?_
  walk_at "evW"
  have inf : b1 = -1 ∨ b2 = -1 → (sSeq (sAsg (Ev.tOp (wI MulOk fun i j => .int (i * j)) (tV 2) (Ev.tCB wInt (aCons (Ev.tOp Ev.wEq (Ev.tOp wIx (tV 0) (Ev.tC (.int 1))) (Ev.tUn wNeg (Ev.tC (.int 1)))) aNil))) (gNm 2)) (sSeq (sAsg (Ev.tOp (wI MulOk fun i j => .int (i * j)) (tV 3) (Ev.tCB wInt (aCons (Ev.tOp Ev.wEq (Ev.tOp wIx (tV 1) (Ev.tC (.int 1))) (Ev.tUn wNeg (Ev.tC (.int 1)))) aNil))) (gNm 3)) (sRet (Ev.tOp (wI0 fun i j => .int (i - j)) (Ev.tCB wInt (aCons (Ev.tOp (wI0 fun i j => .bl (decide (j < i))) (tV 2) (tV 3)) aNil)) (Ev.tCB wInt (aCons (Ev.tOp (wI0 fun i j => .bl (decide (i < j))) (tV 2) (tV 3)) aNil)))))) ⟨fun _ _ => True, Q, fun _ _ => False, fun _ _ => False, fun C p _ M' => E C p M'⟩ [some (nuW a1 b1 c1), some (nuW a2 b2 c2), some (.int (1 - 2 * a1)), some (.int (1 - 2 * a2)), none] M := fun z => by
    rw [if_pos z] at h
    walk_at "evW"
    refine wI_i (MulOk.of bs1 (b01 _) (by decide)) ?_
    walk_at "evW"
    refine wI_i (MulOk.of bs2 (b01 _) (by decide)) ?_
    walk_at "evW"
    simp only [dec01]
    exact h
  refine if_by (fun h1 => ?_) fun h1 => ?_
  all_goals walk_at "evW"
  · exact inf (.inl h1)
  refine if_by (fun h2 => ?_) fun h2 => ?_
  all_goals walk_at "evW"
  · exact inf (.inr h2)
  clear inf
  rw [if_neg (by omega)] at h
  rw [min_low]
  refine wI_i (MulOk.of bs1 (num_bd Y1) (by decide)) ?_
  walk_at "evW"
  refine wI_i (shl_int (by omega) (Bd.mul bs1 (num_bd Y1)) (by omega)) ?_
  walk_at "evW"
  refine wI_i (MulOk.of bs2 (num_bd Y2) (by decide)) ?_
  walk_at "evW"
  refine wI_i (shl_int (by omega) (Bd.mul bs2 (num_bd Y2)) (by omega)) ?_
  walk_at "evW"
  simp only [dec01]
  unfold dvD at h
  simp only [Int.mul_assoc]
  exact h
theorem ok__law_before {a1 b1 c1 a2 b2 c2 : Int} (Y1 : IsNum a1 b1 c1) (Y2 : IsNum a2 b2 c2) (h : Q (.int (ordI a1 b1 c1 a2 b2 c2)) M) : sp__law_before G L [nuW a1 b1 c1, nuW a2 b2 c2] M Q E := by
  show t__law_before G L ⟨fun _ M' => Q .non M', Q, fun _ _ => False, fun _ _ => False, fun C p _ M' => E C p M'⟩ [some (nuW a1 b1 c1), some (nuW a2 b2 c2), none] M
  unfold t__law_before
  have n1 : b1 = -2 → a1 = 0 := fun z => by rcases Y1.mq with y | y | y <;> omega
  have n2 : b2 = -2 → a2 = 0 := fun z => by rcases Y2.mq with y | y | y <;> omega
  have d1 := dv_sg Y1 (lowF c1 c2)
  have d2 := dv_sg Y2 (lowF c1 c2)
  unfold ordI at h
  rw [← bef_tot Y1.s01 Y2.s01 (num_m Y1) (num_m Y2) n1 n2 d1.1 d1.2 d2.1 d2.2] at h
  unfold befX at h
  walk_at "evW"
  refine if_by (fun h1 => ?_) fun h1 => ?_
  all_goals walk_at "evW"
  · rw [if_pos (.inl h1)] at h
    simp only [dec01]
    exact h
  refine if_by (fun h2 => ?_) fun h2 => ?_
  all_goals walk_at "evW"
  · rw [if_pos (.inr h2)] at h
    simp only [dec01]
    exact h
  rw [if_neg (by omega)] at h
  refine ok__law_compare Y1 Y2 ?_
  walk_at "evW"
  generalize lawX a1 b1 a2 b2 (dvD b1 c1 (lowF c1 c2)) (dvD b2 c2 (lowF c1 c2)) = X at h ⊢
  refine if_by (fun h3 => ?_) fun h3 => ?_
  all_goals walk_at "evW"
  · refine if_by (fun h4 => ?_) fun h4 => ?_
    all_goals walk_at "evW"
    · refine if_by (fun h5 => ?_) fun h5 => ?_
      all_goals walk_at "evW"
      · rw [if_pos ⟨h3, h4, h5⟩] at h
        exact h
      · rw [if_neg (fun z => h5 z.2.2)] at h
        exact h
    · rw [if_neg (fun z => h4 z.2.1)] at h
      exact h
  · rw [if_neg (fun z => h3 z.1)] at h
    exact h
theorem ok__law_alike {a1 b1 c1 a2 b2 c2 : Int} (h : Q (.bl (decide (alk a1 b1 c1 a2 b2 c2))) M) : sp__law_alike G L [nuW a1 b1 c1, nuW a2 b2 c2] M Q E := by
  show t__law_alike G L ⟨fun _ M' => Q .non M', Q, fun _ _ => False, fun _ _ => False, fun C p _ M' => E C p M'⟩ [some (nuW a1 b1 c1), some (nuW a2 b2 c2)] M
  unfold t__law_alike
  walk_at "evW"
  try (refine wEqA_n ?_)
  walk_at "evW"
  refine if_by (fun h1 => ?_) fun h1 => ?_
  all_goals walk_at "evW"
  · rw [decide_eq_true (Or.inl h1)] at h
    exact h
  refine if_by (fun h2 => ?_) fun h2 => ?_
  all_goals walk_at "evW"
  · rw [show decide (alk a1 b1 c1 a2 b2 c2) = decide (b2 = 0) from decide_eq_decide.mpr ⟨fun z => z.elim (fun y => absurd y h1) (·.2), fun z => .inr ⟨h2, z⟩⟩] at h
    exact h
  · rw [decide_eq_false (fun z => z.elim h1 fun y => h2 y.1)] at h
    exact h
theorem ok__law_word_of {a1 b1 c1 a2 b2 c2 : Int} (Y1 : IsNum a1 b1 c1) (Y2 : IsNum a2 b2 c2) (h : ∀ M', Ext M M' → Q (.str (wrdF a1 b1 c1 a2 b2 c2)) M') : sp__law_word_of G L [nuW a1 b1 c1, nuW a2 b2 c2, .int (ordI a1 b1 c1 a2 b2 c2)] M Q E := by
  show t__law_word_of G L ⟨fun _ M' => Q .non M', Q, fun _ _ => False, fun _ _ => False, fun C p _ M' => E C p M'⟩ [some (nuW a1 b1 c1), some (nuW a2 b2 c2), some (.int (ordI a1 b1 c1 a2 b2 c2))] M
  unfold t__law_word_of
  unfold wrdF at h
  walk_at "evW"
  refine if_by (fun h1 => ?_) fun h1 => ?_
  all_goals walk_at "evW"
  · simp only [if_pos (show b1 = -2 ∨ b2 = -2 from .inl h1)] at h
    exact h M (Ext.refl M)
  refine if_by (fun h2 => ?_) fun h2 => ?_
  all_goals walk_at "evW"
  · simp only [if_pos (show b1 = -2 ∨ b2 = -2 from .inr h2)] at h
    exact h M (Ext.refl M)
  simp only [if_neg (show ¬ (b1 = -2 ∨ b2 = -2) by omega)] at h
  have fin : ¬ (b1 = 0 ∧ b2 = 0) → (sRet (Ev.tOp wIx (Ev.tLst (aCons (Ev.tC (.str "same")) (aCons (Ev.tC (.str "more")) (aCons (Ev.tC (.str "less")) aNil)))) (tV 2))) ⟨fun _ _ => True, Q, fun _ _ => False, fun _ _ => False, fun C p _ M' => E C p M'⟩ [some (nuW a1 b1 c1), some (nuW a2 b2 c2), some (.int (ordI a1 b1 c1 a2 b2 c2))] M := fun nz => by
    walk_at "evW"
    intro p hp
    walk_at "evW"
    have x := Ext.new (o := .lst [.str "same", .str "more", .str "less"]) hp
    rcases ord_rng (a1 := a1) (b1 := b1) (c1 := c1) (a2 := a2) (b2 := b2) (c2 := c2) with e | e | e
    · have na : ¬ alk a1 b1 c1 a2 b2 c2 := fun z => z.elim (fun ⟨y1, y2, y3⟩ => by
        subst y1 y2 y3
        rw [ord_same] at e
        omega) nz
      simp only [if_neg na, if_pos (show ordI a1 b1 c1 a2 b2 c2 < 0 by omega)] at h
      rw [e]
      exact wIx_ref put_same rfl (h _ x)
    · have na : alk a1 b1 c1 a2 b2 c2 := .inl (ord_0 Y1 Y2 e)
      simp only [if_pos na] at h
      rw [e]
      exact wIx_ref put_same rfl (h _ x)
    · have na : ¬ alk a1 b1 c1 a2 b2 c2 := fun z => z.elim (fun ⟨y1, y2, y3⟩ => by
        subst y1 y2 y3
        rw [ord_same] at e
        omega) nz
      simp only [if_neg na, if_neg (show ¬ ordI a1 b1 c1 a2 b2 c2 < 0 by omega)] at h
      rw [e]
      exact wIx_ref put_same rfl (h _ x)
  refine if_by (fun h3 => ?_) fun h3 => ?_
  · walk_at "evX"
    refine if_by (fun h4 => ?_) fun h4 => ?_
    · walk_at "evX"
      simp only [if_pos (show alk a1 b1 c1 a2 b2 c2 from .inr ⟨h3, h4⟩)] at h
      exact h M (Ext.refl M)
    · exact fin fun z => h4 z.2
  · exact fin fun z => h3 z.1
/-! ### the draws -/
theorem ok__law_bounded {a b c : Int} (Y : (a = 0 ∨ a = 1) ∧ 0 < b ∧ b % 2 = 1) (h : ∀ a b c, IsNum a b c → Q (nuW a b c) M) : sp__law_bounded G L [nuW a b c] M Q E := by
  show t__law_bounded G L ⟨fun _ M' => Q .non M', Q, fun _ _ => False, fun _ _ => False, fun C p _ M' => E C p M'⟩ [some (nuW a b c)] M
  unfold t__law_bounded
  have one : IsNum a 1 0 := ⟨Y.1, .inl ⟨by decide, by decide, Bd.mono (a := 1) ⟨by decide⟩ (by decide), by decide, by decide⟩⟩
  walk_at "evW"
  refine wI_i (by decide) ?_
  walk_at "evW"
  refine if_by (fun h1 => ?_) fun h1 => ?_
  all_goals walk_at "evW"
  · exact h _ _ _ one
  refine if_by (fun h2 => ?_) fun h2 => ?_
  all_goals walk_at "evW"
  · exact h _ _ _ one
  · rw [absI] at h2
    refine h _ _ _ ⟨Y.1, .inl ⟨Y.2.1, Y.2.2, bd_lt (by omega) ?_, by omega, by omega⟩⟩
    have p6 := two_pos (600 : Int).toNat
    have d0 := Int.ediv_nonneg (show 0 ≤ b by omega) (Int.le_of_lt p6)
    have d1 := Int.emod_add_mul_ediv b (2 ^ (600 : Int).toNat)
    have d2 := Int.emod_lt_of_pos b p6
    have d3 : b / 2 ^ (600 : Int).toNat = 0 := by omega
    rw [d3, Int.mul_zero] at d1
    have d4 : (2 : Int) ^ (600 : Int).toNat = 2 ^ 600 := rfl
    omega
theorem ev_shl {b : Int} {k : Int} (h : 1 ≤ k) : ∃ z, b * 2 ^ k.toNat = 2 * z := by
  obtain ⟨j, hj⟩ : ∃ j, k.toNat = j + 1 := ⟨k.toNat - 1, by omega⟩
  exact ⟨b * 2 ^ j, by rw [hj, Int.pow_succ]; grind⟩
theorem ok__law_neighbour {a b c : Int} (Y : IsNum a b c) (p : 0 < b) (S : SF M0 M s n) (hn : n + 5 ≤ 1000000) (h : ∀ a b c M', IsNum a b c → SF M0 M' s (n + 5) → Q (nuW a b c) M') : sp__law_neighbour G L [.ref s, nuW a b c] M Q E := by
  show t__law_neighbour G L ⟨fun _ M' => Q .non M', Q, fun _ _ => False, fun _ _ => False, fun C p _ M' => E C p M'⟩ [some (.ref s), some (nuW a b c), none, none, none, none, none] M
  unfold t__law_neighbour
  have q1 := num_q Y
  have o : b % 2 = 1 := by rcases Y.mq with y | y | y <;> omega
  have s1 := Y.s01
  walk_at "evW"
  refine take_c S (by omega) (by decide) fun kd M1 k0 k1 S1 => ?_
  walk_at "evW"
  refine edge_f S1 (by omega) (by decide) (by decide) fun e M2 e0 e1 S2 => ?_
  walk_at "evW"
  refine if_by (fun h0 => ?_) fun h0 => ?_
  all_goals walk_at "evW"
  · refine ok__law_bounded ⟨s1, by omega, by omega⟩ fun a' b' c' Y' => h _ _ _ M2 Y' (S2.mono (by omega))
  refine if_by (fun h1 => ?_) fun h1 => ?_
  all_goals walk_at "evW"
  · refine take_c S2 (by omega) (by decide) fun x M3 x0 x1 S3 => ?_
    walk_at "evW"
    refine wI_i (MulOk.of (a := 2) (b := 1) ⟨by decide⟩ ⟨by omega⟩) ?_
    walk_at "evW"
    refine ok__law_bounded ⟨s1, by omega, by omega⟩ fun a' b' c' Y' => h _ _ _ M3 Y' (S3.mono (by omega))
  refine if_by (fun h2 => ?_) fun h2 => ?_
  all_goals walk_at "evW"
  · exact h _ _ _ M2 ⟨by omega, .inl ⟨p, o, num_bd Y, by omega, by omega⟩⟩ (S2.mono (by omega))
  have pj := two_pos e.toNat
  have bp := Int.mul_pos p pj
  obtain ⟨z, hz⟩ := ev_shl (b := b) (k := e) (by omega)
  refine if_by (fun h3 => ?_) fun h3 => ?_
  all_goals walk_at "evW"
  · refine wI_i (shl_int (by omega) (num_bd Y) (by omega)) ?_
    walk_at "evW"
    refine ok__law_bounded ⟨s1, by omega, by omega⟩ fun a' b' c' Y' => h _ _ _ M2 Y' (S2.mono (by omega))
  refine if_by (fun h4 => ?_) fun h4 => ?_
  all_goals walk_at "evW"
  · refine wI_i (shl_int (by omega) (num_bd Y) (by omega)) ?_
    walk_at "evW"
    refine ok__law_bounded ⟨s1, by omega, by omega⟩ fun a' b' c' Y' => h _ _ _ M2 Y' (S2.mono (by omega))
  refine take_c S2 (by omega) (by decide) fun x M3 x0 x1 S3 => ?_
  walk_at "evW"
  refine ok__law_bounded ⟨s1, by omega, by decide⟩ fun a' b' c' Y' => h _ _ _ M3 Y' (S3.mono (by omega))
end k12

namespace k12
open PySem L2 Ev
local macro_rules | `(tactic| walk_at "evS") => `(tactic| repeat (first | with_reducible refine sSeq_i ?_ | with_reducible refine sAsg_i ?_ | with_reducible refine tV_i rfl ?_ | with_reducible refine tC_i ?_ | with_reducible refine aCons_i ?_ | with_reducible refine aNil_i ?_ | with_reducible refine tOp_i ?_ | with_reducible refine tFn_i ?_ | with_reducible refine tCB_i ?_ | with_reducible refine tTup_i ?_ | with_reducible refine tLst_i ?_ | with_reducible refine tUn_i ?_ | with_reducible refine tIsNf_i ?_ | with_reducible refine tIsNt_i ?_ | with_reducible refine qB_i ?_ | with_reducible refine isB_i ?_ | with_reducible refine qNot_i ?_ | with_reducible refine qAnd_i ?_ | with_reducible refine qOr_i ?_ | with_reducible refine vAnd_i ?_ | with_reducible refine vOr_i ?_ | with_reducible refine tIfE_i ?_ | with_reducible refine tMt_i ?_ | with_reducible refine isR_i ?_ | with_reducible refine sIf_i ?_ | with_reducible refine sRet_i ?_ | with_reducible refine sNext_i ?_ | with_reducible refine sDrop_i ?_ | with_reducible refine sIx_i ?_ | with_reducible refine isRI_i ?_ | with_reducible refine sRaise_i ?_ | with_reducible refine tLam_i fun f hf => ?_ | with_reducible refine sRetN_i ?_ | with_reducible refine if_t ?_ | with_reducible refine if_f ?_ | with_reducible refine wAdd_i ?_ | with_reducible refine wI0_i ?_ | with_reducible refine wEq_i ?_ | with_reducible refine wEq_s ?_ | with_reducible refine wNe_i ?_ | with_reducible refine wInt_i ?_ | with_reducible refine wInt_b ?_ | with_reducible refine wAbs_i ?_ | with_reducible refine wMax_i ?_ | with_reducible refine wMin_i ?_ | with_reducible refine wNeg_i ?_ | with_reducible refine wNot_b ?_ | with_reducible refine wBits_i ?_ | (with_reducible show wIsiK _ _ _ _; first | with_reducible refine wIsi_non_int ?_ | with_reducible refine wIsi_non_bool ?_ | with_reducible refine wIsi_non_str ?_ | with_reducible refine wIsi_non_list ?_ | with_reducible refine wIsi_non_tuple ?_ | with_reducible refine wIsi_bl_int ?_ | with_reducible refine wIsi_bl_bool ?_ | with_reducible refine wIsi_bl_str ?_ | with_reducible refine wIsi_bl_list ?_ | with_reducible refine wIsi_bl_tuple ?_ | with_reducible refine wIsi_int_int ?_ | with_reducible refine wIsi_int_bool ?_ | with_reducible refine wIsi_int_str ?_ | with_reducible refine wIsi_int_list ?_ | with_reducible refine wIsi_int_tuple ?_ | with_reducible refine wIsi_str_int ?_ | with_reducible refine wIsi_str_bool ?_ | with_reducible refine wIsi_str_str ?_ | with_reducible refine wIsi_str_list ?_ | with_reducible refine wIsi_str_tuple ?_ | with_reducible refine wIsi_tup_int ?_ | with_reducible refine wIsi_tup_bool ?_ | with_reducible refine wIsi_tup_str ?_ | with_reducible refine wIsi_tup_list ?_ | with_reducible refine wIsi_tup_tuple ?_ | with_reducible refine wIsi_tup_lt ?_)))
local macro_rules | `(tactic| walk_at "evX") => `(tactic| repeat (first | with_reducible refine sSeq_i ?_ | with_reducible refine sAsg_i ?_ | with_reducible refine tV_i rfl ?_ | with_reducible refine tC_i ?_ | with_reducible refine aCons_i ?_ | with_reducible refine aNil_i ?_ | with_reducible refine tOp_i ?_ | with_reducible refine tFn_i ?_ | with_reducible refine tCB_i ?_ | with_reducible refine tTup_i ?_ | with_reducible refine tLst_i ?_ | with_reducible refine tUn_i ?_ | with_reducible refine tIsNf_i ?_ | with_reducible refine tIsNt_i ?_ | with_reducible refine qB_i ?_ | with_reducible refine isB_i ?_ | with_reducible refine qNot_i ?_ | with_reducible refine qAnd_i ?_ | with_reducible refine qOr_i ?_ | with_reducible refine vAnd_i ?_ | with_reducible refine vOr_i ?_ | with_reducible refine tIfE_i ?_ | with_reducible refine tMt_i ?_ | with_reducible refine isR_i ?_ | with_reducible refine sIf_i ?_ | with_reducible refine sRet_i ?_ | with_reducible refine sNext_i ?_ | with_reducible refine sDrop_i ?_ | with_reducible refine sIx_i ?_ | with_reducible refine isRI_i ?_ | with_reducible refine sRaise_i ?_ | with_reducible refine tLam_i fun f hf => ?_ | with_reducible refine sRetN_i ?_ | with_reducible refine if_t ?_ | with_reducible refine if_f ?_ | with_reducible refine wAdd_i ?_ | with_reducible refine wI0_i ?_ | with_reducible refine wEq_i ?_ | with_reducible refine wEq_s ?_ | with_reducible refine wNe_i ?_ | with_reducible refine wInt_i ?_ | with_reducible refine wInt_b ?_ | with_reducible refine wAbs_i ?_ | with_reducible refine wMax_i ?_ | with_reducible refine wMin_i ?_ | with_reducible refine wNeg_i ?_ | with_reducible refine wNot_b ?_ | with_reducible refine wBits_i ?_ | with_reducible refine if_nt ?_ | with_reducible refine if_nf ?_ | with_reducible refine gTp2_i ?_ | with_reducible refine gTp3_i ?_ | with_reducible refine gTp4_i ?_ | with_reducible refine gNm_i ?_ | with_reducible refine sPar_i ?_ | with_reducible refine par2_i ?_ | with_reducible refine wIx_t0 ?_ | with_reducible refine wIx_t1 ?_ | with_reducible refine wIx_t2 ?_ | with_reducible refine wIx_t3 ?_ | with_reducible refine wLen_t ?_ | with_reducible refine sAsgG_i ?_ | with_reducible refine sPar3_i ?_ | with_reducible refine par3_i ?_ | with_reducible refine tChainW_i ?_ | with_reducible refine chB_i ?_ | with_reducible refine if_self ?_ | with_reducible refine if_nself ?_ | with_reducible refine wNe_s ?_ | with_reducible refine wEq_b ?_ | with_reducible refine tFnD_i ?_ | with_reducible refine tFnK_i ?_ | with_reducible refine tChain3W_i ?_ | with_reducible refine wEqA_i ?_ | with_reducible refine wEqA_s ?_ | with_reducible refine wEqA_b ?_ | with_reducible refine wNeA_i ?_ | with_reducible refine wNeA_s ?_ | with_reducible refine wEqA_t3 ?_ | with_reducible refine tMt0_i ?_ | with_reducible refine tSlW_i ?_ | with_reducible refine pNo_i ?_ | with_reducible refine isI_i ?_ | with_reducible refine pAt_i ?_ | with_reducible refine wSl_t ?_ | (with_reducible show wIsiK _ _ _ _; first | with_reducible refine wIsi_non_int ?_ | with_reducible refine wIsi_non_bool ?_ | with_reducible refine wIsi_non_str ?_ | with_reducible refine wIsi_non_list ?_ | with_reducible refine wIsi_non_tuple ?_ | with_reducible refine wIsi_bl_int ?_ | with_reducible refine wIsi_bl_bool ?_ | with_reducible refine wIsi_bl_str ?_ | with_reducible refine wIsi_bl_list ?_ | with_reducible refine wIsi_bl_tuple ?_ | with_reducible refine wIsi_int_int ?_ | with_reducible refine wIsi_int_bool ?_ | with_reducible refine wIsi_int_str ?_ | with_reducible refine wIsi_int_list ?_ | with_reducible refine wIsi_int_tuple ?_ | with_reducible refine wIsi_str_int ?_ | with_reducible refine wIsi_str_bool ?_ | with_reducible refine wIsi_str_str ?_ | with_reducible refine wIsi_str_list ?_ | with_reducible refine wIsi_str_tuple ?_ | with_reducible refine wIsi_tup_int ?_ | with_reducible refine wIsi_tup_bool ?_ | with_reducible refine wIsi_tup_str ?_ | with_reducible refine wIsi_tup_list ?_ | with_reducible refine wIsi_tup_tuple ?_ | with_reducible refine wIsi_tup_lt ?_)))
local macro_rules | `(tactic| walk_at "evT") => `(tactic| (walk_at "evX"; repeat (first | (with_reducible refine if_y ?h1 ?_; (case h1 => omega); walk_at "evX") | (with_reducible refine if_n ?h1 ?_; (case h1 => omega); walk_at "evX") | (with_reducible refine if_ny ?h1 ?_; (case h1 => omega); walk_at "evX") | (with_reducible refine if_nn ?h1 ?_; (case h1 => omega); walk_at "evX"))))
variable {G : Gm} {L : Lm} {M M0 : Mp} {Q : QK} {E : EK} {s : Addr} {n : Nat}
/-- two own lists beside the store, made over Mb -/
structure TwoL (Mb M : Mp) (s p q : Addr) (n : Nat) (us vs : List W) : Prop where
  b : ∃ k, Sto Mb s k
  np : Mb p = none
  nq : Mb q = none
  ne : p ≠ q
  sf : SF Mb M s n
  ap : M p = some (.lst us)
  aq : M q = some (.lst vs)
theorem fr_none {M M' : Mp} {s p : Addr} {k : Nat} (S : Sto M s k) (f : Fr s M M') (h : M' p = none) : M p = none := by
  cases e : M p with
  | none => rfl
  | some o =>
    by_cases z : p = s
    · obtain ⟨cs, xs, i, b, m, c, h1, _⟩ := S.ex
      obtain ⟨r, e2⟩ := f.hd _ _ h1
      rw [z] at h
      rw [h] at e2
      cases e2
    · rw [f.kp p z o e] at h
      cases h
section
variable {Mb M' : Mp} {p q : Addr} {us vs ws : List W} {k : Nat}
theorem TwoL.new (T : SL Mb M s p n us) (hq : M q = none) : TwoL Mb (Ev.put M q (.lst vs)) s p q n us vs := by
  obtain ⟨k, S⟩ := T.b
  have ne : p ≠ q := fun z => by
    rw [← z, T.at_] at hq
    cases hq
  exact ⟨⟨k, S⟩, T.np, fr_none S T.sf.fr hq, ne, T.sf.put hq, (put_ne ne).trans T.at_, put_same⟩
theorem TwoL.nps (T : TwoL Mb M s p q n us vs) : p ≠ s := by
  obtain ⟨k, S⟩ := T.b
  exact S.ne T.np
theorem TwoL.nqs (T : TwoL Mb M s p q n us vs) : q ≠ s := by
  obtain ⟨k, S⟩ := T.b
  exact S.ne T.nq
theorem TwoL.setp (T : TwoL Mb M s p q n us vs) (ws : List W) : TwoL Mb (Ev.put M p (.lst ws)) s p q n ws vs := by
  obtain ⟨k, S⟩ := T.b
  obtain ⟨S2, f⟩ := Sto.putD (o := .lst ws) S T.np T.sf.fr T.sf.st
  exact ⟨⟨k, S⟩, T.np, T.nq, T.ne, ⟨S2, f⟩, put_same, (put_ne (Ne.symm T.ne)).trans T.aq⟩
theorem TwoL.setq (T : TwoL Mb M s p q n us vs) (ws : List W) : TwoL Mb (Ev.put M q (.lst ws)) s p q n us ws := by
  obtain ⟨k, S⟩ := T.b
  obtain ⟨S2, f⟩ := Sto.putD (o := .lst ws) S T.nq T.sf.fr T.sf.st
  exact ⟨⟨k, S⟩, T.np, T.nq, T.ne, ⟨S2, f⟩, (put_ne T.ne).trans T.ap, put_same⟩
theorem TwoL.draw (T : TwoL Mb M s p q n us vs) (S : SF M M' s k) : TwoL Mb M' s p q k us vs := ⟨T.b, T.np, T.nq, T.ne, T.sf.then S, S.kp T.nps T.ap, S.kp T.nqs T.aq⟩
theorem TwoL.start (T : TwoL Mb M s p q n us vs) : SF M M s n := SF.start T.sf.st
end
theorem wPopAt_i {M : Mp} {a : Addr} {xs : List W} {i : Int} {Q : QK} (h : M a = some (.lst xs)) (h0 : 0 ≤ i) (h1 : i < xs.length) (hl : xs.length ≤ 1000) (q : ∀ y, y ∈ xs → Q y (Ev.put M a (.lst (xs.eraseIdx i.toNat)))) : wPopAt a [.int i] M Q := by
  have hk : i.toNat < xs.length := by omega
  refine ⟨xs, i.toNat, xs[i.toNat], h, by omega, by omega, ?_, List.getElem?_eq_getElem hk, q _ (List.getElem_mem hk)⟩
  refine (L2.ixN_seq ?_).1
  unfold L2.ixN
  rw [if_pos h0, if_pos h1]
theorem ok__law_shuffled {ws : List W} {p : Addr} (S : SF M0 M s n) (hn : n + ws.length ≤ 1000000) (hl : ws.length ≤ 900) (hp : M p = some (.lst ws)) (hps : p ≠ s) (h : ∀ q ys M', SF M M' s (n + ws.length) → M q = none → M' q = some (.lst ys) → ys.length = ws.length → (∀ w ∈ ys, w ∈ ws) → Q (.ref q) M') : sp__law_shuffled G L [.ref s, .ref p] M Q E := by
  show t__law_shuffled G L ⟨fun _ M' => Q .non M', Q, fun _ _ => False, fun _ _ => False, fun C p _ M' => E C p M'⟩ [some (.ref s), some (.ref p), none, none, none, none] M
  unfold t__law_shuffled
  walk_at "evX"
  unfold Ev.tLc
  refine ⟨_, hp, fun D hD => ?_⟩
  have nD : p ≠ D := fun z => by
    rw [← z, hp] at hD
    cases hD
  have TD : SL M (Ev.put M D (.lst [])) s D n [] := SL.new S.st hD
  refine cpW_pure (fun _ => true) (fun w => w) (fun _ _ k => (put_ne nD).trans k) _ _ [] (fun w hw M' Q' E' _ q => q) (fun w hw _ M' Q' E' _ q => ?_) put_same (by rw [List.length_nil]; omega) ((put_ne nD).trans hp) fun M1 e1 e2 => ?_
  · walk_at "evX"
    exact q
  have fl : (ws.filter fun _ => true).map (fun w => w) = ws := by rw [List.map_id', List.filter_eq_self.mpr fun _ _ => rfl]
  rw [List.nil_append, fl] at e1
  have T1 : SL M M1 s D n ws := by
    have ex : M1 = Ev.put M D (.lst ws) := by
      funext b
      by_cases z : b = D
      · rw [z, e1, put_same]
      · rw [e2 b z, put_ne z, put_ne z]
    rw [ex]
    exact SL.new S.st hD
  walk_at "evX"
  intro q hq
  have T := TwoL.new (vs := []) T1 hq
  have hp1 : (Ev.put M1 q (.lst [])) p = some (.lst ws) := T.sf.kp hps hp
  have hMq : M q = none := T.nq
  refine seq_inv (fun τ' M' => (∃ us vs, TwoL M M' s D q (n + ws.length) us vs ∧ vs.length = ws.length ∧ ∀ w ∈ vs, w ∈ ws) ∧ ∃ o4, τ' = [some (.ref s), some (.ref p), some (.ref D), some (.ref q), o4, none]) (fun τ' M' hq => ?_) fun kb hkb => ?_
  · obtain ⟨⟨us, vs, T, lv, hv⟩, o4, rfl⟩ := hq
    walk_at "evX"
    exact h q vs M' T.sf hMq T.aq lv hv
  refine sForN_i (n := ws.length) (j := (ws.length : Int)) (fun Q E q => ?_) rfl (by omega) ?_
  · walk_at "evX"
    exact wLen_ref hp1 q
  refine lpW_inv (fun j τ' M' => (∃ us vs, TwoL M M' s D q (n + j) us vs ∧ us.length + j = ws.length ∧ vs.length = j ∧ (∀ w ∈ us, w ∈ ws) ∧ ∀ w ∈ vs, w ∈ ws) ∧ ∃ o4, τ' = [some (.ref s), some (.ref p), some (.ref D), some (.ref q), o4, none]) _ 0 _ _ (fun j v τ' M' kd hj hq hkd => ?_) (fun τ' M' hq => ?_) ⟨⟨ws, [], T, by omega, rfl, fun w hw => hw, fun w hw => absurd hw (by simp)⟩, _, rfl⟩
  rotate_left
  · obtain ⟨⟨us, vs, T, lu, lv, hu, hv⟩, o4, rfl⟩ := hq
    rw [rngW_len] at T lu lv
    exact hkb _ _ ⟨⟨us, vs, by rw [Nat.zero_add] at T; exact T, by omega, hv⟩, _, rfl⟩
  clear T hp1
  obtain ⟨⟨us, vs, T, lu, lv, hu, hv⟩, o4, rfl⟩ := hq
  obtain ⟨hj2, rfl⟩ := rngW_at hj
  rw [Nat.zero_add] at T lu lv hkd
  show sDrop _ ⟨_, _, _, _, _⟩ [some (.ref s), some (.ref p), some (.ref D), some (.ref q), some (.int (0 + (j : Int))), none] M'
  walk_at "evX"
  refine ⟨⟨_, T.aq⟩, ?_⟩
  walk_at "evX"
  refine ⟨⟨_, T.ap⟩, ?_⟩
  walk_at "evX"
  refine wLen_ref T.ap ?_
  refine take_c T.start (by omega) (by omega) fun y M2 y0 y1 S2 => ?_
  have T := T.draw S2
  walk_at "evX"
  refine wPopAt_i T.ap y0 y1 (by omega) fun w hw => ?_
  have T := T.setp (us.eraseIdx y.toNat)
  walk_at "evX"
  refine wApp_ref T.aq (by omega) ?_
  have T := T.setq (vs ++ [w])
  refine hkd _ _ ⟨⟨_, _, T, ?_, ?_, fun z hz => hu z (List.mem_of_mem_eraseIdx hz), fun z hz => ?_⟩, _, rfl⟩
  · rw [List.length_eraseIdx, if_pos (by omega)]
    omega
  · rw [List.length_append, List.length_singleton, lv]
  · rcases List.mem_append.mp hz with y | y
    · exact hv z y
    · rw [List.mem_singleton.mp y]
      exact hu w hw
end k12

namespace k12
open PySem L2 Ev
local macro_rules | `(tactic| walk_at "evS") => `(tactic| repeat (first | with_reducible refine sSeq_i ?_ | with_reducible refine sAsg_i ?_ | with_reducible refine tV_i rfl ?_ | with_reducible refine tC_i ?_ | with_reducible refine aCons_i ?_ | with_reducible refine aNil_i ?_ | with_reducible refine tOp_i ?_ | with_reducible refine tFn_i ?_ | with_reducible refine tCB_i ?_ | with_reducible refine tTup_i ?_ | with_reducible refine tLst_i ?_ | with_reducible refine tUn_i ?_ | with_reducible refine tIsNf_i ?_ | with_reducible refine tIsNt_i ?_ | with_reducible refine qB_i ?_ | with_reducible refine isB_i ?_ | with_reducible refine qNot_i ?_ | with_reducible refine qAnd_i ?_ | with_reducible refine qOr_i ?_ | with_reducible refine vAnd_i ?_ | with_reducible refine vOr_i ?_ | with_reducible refine tIfE_i ?_ | with_reducible refine tMt_i ?_ | with_reducible refine isR_i ?_ | with_reducible refine sIf_i ?_ | with_reducible refine sRet_i ?_ | with_reducible refine sNext_i ?_ | with_reducible refine sDrop_i ?_ | with_reducible refine sIx_i ?_ | with_reducible refine isRI_i ?_ | with_reducible refine sRaise_i ?_ | with_reducible refine tLam_i fun f hf => ?_ | with_reducible refine sRetN_i ?_ | with_reducible refine if_t ?_ | with_reducible refine if_f ?_ | with_reducible refine wAdd_i ?_ | with_reducible refine wI0_i ?_ | with_reducible refine wEq_i ?_ | with_reducible refine wEq_s ?_ | with_reducible refine wNe_i ?_ | with_reducible refine wInt_i ?_ | with_reducible refine wInt_b ?_ | with_reducible refine wAbs_i ?_ | with_reducible refine wMax_i ?_ | with_reducible refine wMin_i ?_ | with_reducible refine wNeg_i ?_ | with_reducible refine wNot_b ?_ | with_reducible refine wBits_i ?_ | (with_reducible show wIsiK _ _ _ _; first | with_reducible refine wIsi_non_int ?_ | with_reducible refine wIsi_non_bool ?_ | with_reducible refine wIsi_non_str ?_ | with_reducible refine wIsi_non_list ?_ | with_reducible refine wIsi_non_tuple ?_ | with_reducible refine wIsi_bl_int ?_ | with_reducible refine wIsi_bl_bool ?_ | with_reducible refine wIsi_bl_str ?_ | with_reducible refine wIsi_bl_list ?_ | with_reducible refine wIsi_bl_tuple ?_ | with_reducible refine wIsi_int_int ?_ | with_reducible refine wIsi_int_bool ?_ | with_reducible refine wIsi_int_str ?_ | with_reducible refine wIsi_int_list ?_ | with_reducible refine wIsi_int_tuple ?_ | with_reducible refine wIsi_str_int ?_ | with_reducible refine wIsi_str_bool ?_ | with_reducible refine wIsi_str_str ?_ | with_reducible refine wIsi_str_list ?_ | with_reducible refine wIsi_str_tuple ?_ | with_reducible refine wIsi_tup_int ?_ | with_reducible refine wIsi_tup_bool ?_ | with_reducible refine wIsi_tup_str ?_ | with_reducible refine wIsi_tup_list ?_ | with_reducible refine wIsi_tup_tuple ?_ | with_reducible refine wIsi_tup_lt ?_)))
local macro_rules | `(tactic| walk_at "evX") => `(tactic| repeat (first | with_reducible refine sSeq_i ?_ | with_reducible refine sAsg_i ?_ | with_reducible refine tV_i rfl ?_ | with_reducible refine tC_i ?_ | with_reducible refine aCons_i ?_ | with_reducible refine aNil_i ?_ | with_reducible refine tOp_i ?_ | with_reducible refine tFn_i ?_ | with_reducible refine tCB_i ?_ | with_reducible refine tTup_i ?_ | with_reducible refine tLst_i ?_ | with_reducible refine tUn_i ?_ | with_reducible refine tIsNf_i ?_ | with_reducible refine tIsNt_i ?_ | with_reducible refine qB_i ?_ | with_reducible refine isB_i ?_ | with_reducible refine qNot_i ?_ | with_reducible refine qAnd_i ?_ | with_reducible refine qOr_i ?_ | with_reducible refine vAnd_i ?_ | with_reducible refine vOr_i ?_ | with_reducible refine tIfE_i ?_ | with_reducible refine tMt_i ?_ | with_reducible refine isR_i ?_ | with_reducible refine sIf_i ?_ | with_reducible refine sRet_i ?_ | with_reducible refine sNext_i ?_ | with_reducible refine sDrop_i ?_ | with_reducible refine sIx_i ?_ | with_reducible refine isRI_i ?_ | with_reducible refine sRaise_i ?_ | with_reducible refine tLam_i fun f hf => ?_ | with_reducible refine sRetN_i ?_ | with_reducible refine if_t ?_ | with_reducible refine if_f ?_ | with_reducible refine wAdd_i ?_ | with_reducible refine wI0_i ?_ | with_reducible refine wEq_i ?_ | with_reducible refine wEq_s ?_ | with_reducible refine wNe_i ?_ | with_reducible refine wInt_i ?_ | with_reducible refine wInt_b ?_ | with_reducible refine wAbs_i ?_ | with_reducible refine wMax_i ?_ | with_reducible refine wMin_i ?_ | with_reducible refine wNeg_i ?_ | with_reducible refine wNot_b ?_ | with_reducible refine wBits_i ?_ | with_reducible refine if_nt ?_ | with_reducible refine if_nf ?_ | with_reducible refine gTp2_i ?_ | with_reducible refine gTp3_i ?_ | with_reducible refine gTp4_i ?_ | with_reducible refine gNm_i ?_ | with_reducible refine sPar_i ?_ | with_reducible refine par2_i ?_ | with_reducible refine wIx_t0 ?_ | with_reducible refine wIx_t1 ?_ | with_reducible refine wIx_t2 ?_ | with_reducible refine wIx_t3 ?_ | with_reducible refine wLen_t ?_ | with_reducible refine sAsgG_i ?_ | with_reducible refine sPar3_i ?_ | with_reducible refine par3_i ?_ | with_reducible refine tChainW_i ?_ | with_reducible refine chB_i ?_ | with_reducible refine if_self ?_ | with_reducible refine if_nself ?_ | with_reducible refine wNe_s ?_ | with_reducible refine wEq_b ?_ | with_reducible refine tFnD_i ?_ | with_reducible refine tFnK_i ?_ | with_reducible refine tChain3W_i ?_ | with_reducible refine wEqA_i ?_ | with_reducible refine wEqA_s ?_ | with_reducible refine wEqA_b ?_ | with_reducible refine wNeA_i ?_ | with_reducible refine wNeA_s ?_ | with_reducible refine wEqA_t3 ?_ | with_reducible refine tMt0_i ?_ | with_reducible refine tSlW_i ?_ | with_reducible refine pNo_i ?_ | with_reducible refine isI_i ?_ | with_reducible refine pAt_i ?_ | with_reducible refine wSl_t ?_ | (with_reducible show wIsiK _ _ _ _; first | with_reducible refine wIsi_non_int ?_ | with_reducible refine wIsi_non_bool ?_ | with_reducible refine wIsi_non_str ?_ | with_reducible refine wIsi_non_list ?_ | with_reducible refine wIsi_non_tuple ?_ | with_reducible refine wIsi_bl_int ?_ | with_reducible refine wIsi_bl_bool ?_ | with_reducible refine wIsi_bl_str ?_ | with_reducible refine wIsi_bl_list ?_ | with_reducible refine wIsi_bl_tuple ?_ | with_reducible refine wIsi_int_int ?_ | with_reducible refine wIsi_int_bool ?_ | with_reducible refine wIsi_int_str ?_ | with_reducible refine wIsi_int_list ?_ | with_reducible refine wIsi_int_tuple ?_ | with_reducible refine wIsi_str_int ?_ | with_reducible refine wIsi_str_bool ?_ | with_reducible refine wIsi_str_str ?_ | with_reducible refine wIsi_str_list ?_ | with_reducible refine wIsi_str_tuple ?_ | with_reducible refine wIsi_tup_int ?_ | with_reducible refine wIsi_tup_bool ?_ | with_reducible refine wIsi_tup_str ?_ | with_reducible refine wIsi_tup_list ?_ | with_reducible refine wIsi_tup_tuple ?_ | with_reducible refine wIsi_tup_lt ?_)))
local macro_rules | `(tactic| walk_at "evT") => `(tactic| (walk_at "evX"; repeat (first | (with_reducible refine if_y ?h1 ?_; (case h1 => omega); walk_at "evX") | (with_reducible refine if_n ?h1 ?_; (case h1 => omega); walk_at "evX") | (with_reducible refine if_ny ?h1 ?_; (case h1 => omega); walk_at "evX") | (with_reducible refine if_nn ?h1 ?_; (case h1 => omega); walk_at "evX"))))
local macro_rules | `(tactic| walk_at "evW") => `(tactic| (walk_at "evX"; repeat ((first | with_reducible refine ok_is_whole ?_ | with_reducible refine ok__law_int ?_ | with_reducible refine ok_check_number (by assumption) ?_ | with_reducible refine ok_check_mode (six_in2 (by assumption)) ?_ | with_reducible refine ok_kind_of (by assumption) ?_ | with_reducible refine ok_nan ?_); walk_at "evX")))
variable {G : Gm} {L : Lm} {M M0 : Mp} {Q : QK} {E : EK} {s : Addr} {n : Nat}
def numw (w : W) : Prop := ∃ a b c, w = nuW a b c ∧ IsNum a b c
theorem z00 : IsNum 0 0 0 := ⟨.inl rfl, .inr (.inr ⟨.inr rfl, rfl⟩)⟩
theorem z10 : IsNum 1 0 0 := ⟨.inr rfl, .inr (.inr ⟨.inr rfl, rfl⟩)⟩
theorem y110 : IsNum 1 1 0 := ⟨.inr rfl, .inl ⟨by decide, by decide, Bd.mono (a := 1) ⟨by decide⟩ (by decide), by decide, by decide⟩⟩
theorem ok__law_row (S : SF M0 M s n) (hn : n + 60 ≤ 1000000) (h : ∀ q ys M', SF M0 M' s (n + 60) → M' q = some (.lst ys) → q ≠ s → ys.length = 10 → (∀ w ∈ ys, numw w) → Q (.ref q) M') : sp__law_row G L [.ref s] M Q E := by
  show t__law_row G L ⟨fun _ M' => Q .non M', Q, fun _ _ => False, fun _ _ => False, fun C p _ M' => E C p M'⟩ [some (.ref s), none, none, none] M
  unfold t__law_row
  walk_at "evW"
  intro p1 hp1
  walk_at "evW"
  refine pickL S (by omega) hp1 rfl (by decide) fun w M3 hw S3 _ => ?_
  have hm : ∃ z : Nat, w = .int (z : Int) ∧ 1 ≤ z ∧ z ≤ 600 := by
    simp only [List.mem_cons, List.not_mem_nil, or_false] at hw
    rcases hw with rfl | rfl | rfl
    · exact ⟨6, rfl, by decide⟩
    · exact ⟨60, rfl, by decide⟩
    · exact ⟨600, rfl, by decide⟩
  obtain ⟨z, rfl, z1, z9⟩ := hm
  walk_at "evW"
  intro p2 hp2
  walk_at "evW"
  refine pickL S3 (by omega) hp2 rfl (by decide) fun w M4 hw S4 _ => ?_
  have hm : ∃ y : Int, w = .int y ∧ 0 ≤ y ∧ y ≤ 2000 := by
    simp only [List.mem_cons, List.not_mem_nil, or_false] at hw
    rcases hw with rfl | rfl | rfl
    · exact ⟨_, rfl, by decide, by decide⟩
    · exact ⟨_, rfl, by decide, by decide⟩
    · exact ⟨_, rfl, by decide, by decide⟩
  obtain ⟨y, rfl, y0, y9⟩ := hm
  walk_at "evW"
  refine ok__law_loose S4 (by omega) (by omega) (by omega) fun a b c M5 Y p bb S5 => ?_
  walk_at "evW"
  refine ok__law_number S5 (by omega) fun a2 b2 c2 M6 Y2 S6 => ?_
  walk_at "evW"
  intro q hq
  obtain ⟨r0, hr0⟩ : ∃ l : List W, l = [nuW a b c, nuW a2 b2 c2, nuW 0 0 0, nuW 1 0 0, nuW 0 (-1) 0, nuW 1 (-1) 0, nuW 0 (-2) 0] := ⟨_, rfl⟩
  rw [← hr0]
  have l0 : r0.length = 7 := by rw [hr0]; rfl
  have n0 : ∀ w ∈ r0, numw w := fun w hw => by
    rw [hr0] at hw
    simp only [List.mem_cons, List.not_mem_nil, or_false] at hw
    rcases hw with rfl | rfl | rfl | rfl | rfl | rfl | rfl
    · exact ⟨_, _, _, rfl, Y⟩
    · exact ⟨_, _, _, rfl, Y2⟩
    · exact ⟨_, _, _, rfl, z00⟩
    · exact ⟨_, _, _, rfl, z10⟩
    · exact ⟨_, _, _, rfl, .inl rfl, .inr (.inr ⟨.inl rfl, rfl⟩)⟩
    · exact ⟨_, _, _, rfl, .inr rfl, .inr (.inr ⟨.inl rfl, rfl⟩)⟩
    · exact ⟨_, _, _, rfl, ynan⟩
  clear hr0
  have T := SL.new (ws := r0) S6.st hq
  refine seq_inv (fun τ' M' => (∃ ws, SL M6 M' s q (n + 40) ws ∧ ws.length = 10 ∧ ∀ w ∈ ws, numw w) ∧ ∃ o3, τ' = [some (.ref s), some (nuW a b c), some (.ref q), o3]) (fun τ' M' hq => ?_) fun kb hkb => ?_
  · obtain ⟨⟨ws, T, lw, hw⟩, o3, rfl⟩ := hq
    walk_at "evW"
    refine ok__law_shuffled T.start (by omega) (by omega) T.at_ T.ne fun q2 ys M8 S8 hn2 h2 ly hy => ?_
    refine h q2 ys M8 (((S6.then T.sf).then S8).mono (by omega)) h2 (T.sf.st.ne hn2) (by omega) fun w hw2 => hw w (hy w hw2)
  refine sForN_i (n := 3) (fun Q E q => ?_) rfl (by decide) ?_
  · walk_at "evW"
    exact q
  refine lpW_inv (fun j τ' M' => (∃ ws, SL M6 M' s q (n + 22 + 5 * j) ws ∧ ws.length = 7 + j ∧ ∀ w ∈ ws, numw w) ∧ ∃ o3, τ' = [some (.ref s), some (nuW a b c), some (.ref q), o3]) _ 0 _ _ (fun j v τ' M' kd hj hq hkd => ?_) (fun τ' M' hq => ?_) ⟨⟨r0, ⟨T.b, T.np, T.sf.mono (by omega), T.at_⟩, l0, n0⟩, _, rfl⟩
  rotate_left
  · obtain ⟨⟨ws, T, lw, hw⟩, o3, rfl⟩ := hq
    rw [rngW_len] at T lw
    exact hkb _ _ ⟨⟨ws, ⟨T.b, T.np, T.sf.mono (by omega), T.at_⟩, lw, hw⟩, _, rfl⟩
  clear T
  obtain ⟨⟨ws, T, lw, hw⟩, o3, rfl⟩ := hq
  obtain ⟨hj2, rfl⟩ := rngW_at hj
  rw [Nat.zero_add] at T lw hkd
  show sDrop _ ⟨_, _, _, _, _⟩ [some (.ref s), some (nuW a b c), some (.ref q), some (.int (0 + (j : Int)))] M'
  walk_at "evW"
  refine ⟨⟨_, T.at_⟩, ?_⟩
  walk_at "evW"
  refine ok__law_neighbour Y p T.start (by omega) fun a3 b3 c3 M7 Y3 S7 => ?_
  have T := T.draw S7
  walk_at "evW"
  refine T.app (by omega) fun M8 T _ _ => ?_
  refine hkd _ _ ⟨⟨_, ⟨T.b, T.np, T.sf.mono (by omega), T.at_⟩, ?_, fun w hw2 => ?_⟩, _, rfl⟩
  · rw [List.length_append, List.length_singleton, lw]
    omega
  · rcases List.mem_append.mp hw2 with y | y
    · exact hw w y
    · rw [List.mem_singleton.mp y]
      exact ⟨_, _, _, rfl, Y3⟩
/-- the lesser, the greater by the law -/
theorem high_ok {a1 b1 c1 a2 b2 c2 : Int} (Y1 : IsNum a1 b1 c1) (Y2 : IsNum a2 b2 c2) : grtW a1 b1 c1 a2 b2 c2 = (if 0 < ordI a1 b1 c1 a2 b2 c2 then nuW a1 b1 c1 else nuW a2 b2 c2) := by
  unfold grtW
  by_cases n1 : b1 = -2
  · rw [if_pos (.inl n1)]
    by_cases n2 : b2 = -2
    · split
      · exact nan_eq Y1 n1
      · exact nan_eq Y2 n2
    · rw [ord_nan1 n1 n2, if_pos (by decide), nan_eq Y1 n1]
  · by_cases n2 : b2 = -2
    · rw [if_pos (.inr n2), ord_nan2 n1 n2, if_neg (by decide), nan_eq Y2 n2]
    · rw [if_neg (by omega)]
      by_cases z : ordI a1 b1 c1 a2 b2 c2 = 0
      · obtain ⟨e1, e2, e3⟩ := ord_0 Y1 Y2 z
        rw [if_pos (by omega), if_neg (by omega), e1, e2, e3]
      · by_cases y : 0 < ordI a1 b1 c1 a2 b2 c2
        · rw [if_pos y, if_pos (by omega)]
        · rw [if_neg y, if_neg (by omega)]
theorem low_ok {a1 b1 c1 a2 b2 c2 : Int} (Y1 : IsNum a1 b1 c1) (Y2 : IsNum a2 b2 c2) (n1 : ¬ b1 = -2) (n2 : ¬ b2 = -2) : lstW a1 b1 c1 a2 b2 c2 = (if 0 < ordI a1 b1 c1 a2 b2 c2 then nuW a2 b2 c2 else nuW a1 b1 c1) := by
  unfold lstW
  rw [if_neg (by omega)]
  by_cases y : 0 < ordI a1 b1 c1 a2 b2 c2
  · rw [if_pos y, if_neg (by omega)]
  · rw [if_neg y, if_pos (by omega)]
theorem pair_tail {a1 b1 c1 a2 b2 c2 a3 b3 c3 : Int} (Y1 : IsNum a1 b1 c1) (Y2 : IsNum a2 b2 c2) {lw : W} (Y3 : IsNum a3 b3 c3) (el : lw = lstW a1 b1 c1 a2 b2 c2) (eh : nuW a3 b3 c3 = grtW a1 b1 c1 a2 b2 c2) (hn : b3 = -2 ↔ (b1 = -2 ∨ b2 = -2)) (h : ∀ M', Ext M M' → Q (.bl true) M') :
    (sSeq (sAsg (Ev.tLst (aCons (tLam (sp__law_gives G) L (tFn (sp_total G) L0 [] (aCons (tV 0) (aCons (tV 1) aNil))) (aCons (tV 2) aNil)) aNil)) (gNm 3)) (sSeq (sDrop (tMt wApp (tV 3) (aCons (tLam (sp__law_gives G) L (tFn (sp_compare G) L0 [] (aCons (tV 0) (aCons (tV 1) aNil))) (aCons (tFn (sp__law_word_of G) L [] (aCons (tV 0) (aCons (tV 1) (aCons (tV 2) aNil)))) aNil)) aNil))) (sSeq (sDrop (tMt wApp (tV 3) (aCons (tLam (sp__law_gives G) L (tFn (sp_least_of G) L0 [] (aCons (tV 0) (aCons (tV 1) aNil))) (aCons (tV 4) aNil)) aNil))) (sSeq (sDrop (tMt wApp (tV 3) (aCons (tLam (sp__law_gives G) L (tFn (sp_greatest_of G) L0 [] (aCons (tV 0) (aCons (tV 1) aNil))) (aCons (tV 5) aNil)) aNil))) (sSeq (sDrop (tMt wApp (tV 3) (aCons (tLam (sp__law_gives G) L (tFn (sp_alike G) L0 [] (aCons (tV 0) (aCons (tV 1) aNil))) (aCons (tFn (sp__law_alike G) L [] (aCons (tV 0) (aCons (tV 1) aNil))) aNil)) aNil))) (sSeq (sIf (qB (Ev.tOp Ev.wNe (Ev.tOp wIx (tV 5) (Ev.tC (.int 1))) (Ev.tUn wNeg (Ev.tC (.int 2))))) (sSeq (sAsg (tFn (sp__law_turned G) L [] (aCons (tV 0) aNil)) (gNm 6)) (sDrop (tMt wApp (tV 3) (aCons (tLam (sp__law_gives G) L (tFn (sp_total G) L0 [] (aCons (tFn (sp__law_turned G) L0 [] (aCons (tV 1) aNil)) (aCons (tV 6) aNil))) (aCons (tV 2) aNil)) aNil)))) sNext) (sRet (Ev.tCB (wAll fun bs => bs.all id) (aCons (tV 3) aNil))))))))) ⟨fun _ M' => Q .non M', Q, fun _ _ => False, fun _ _ => False, fun C p _ M' => E C p M'⟩ [some (nuW a1 b1 c1), some (nuW a2 b2 c2), some (.int (ordI a1 b1 c1 a2 b2 c2)), none, some lw, some (nuW a3 b3 c3), none] M := by
  walk_at "evW"
  refine ok__law_gives updL_same (fun Q E q => ?_) same_int fun N1 z1 => ?_
  · walk_at "evW"
    exact ok_total Y1 Y2 (q _ (Ext.refl _))
  walk_at "evW"
  intro q hq
  have R := Row.new z1 hq
  generalize put N1 q (.lst [.bl true]) = N2 at R
  walk_at "evW"
  refine ⟨R.lst, ?_⟩
  walk_at "evW"
  refine ok__law_word_of Y1 Y2 fun N3 z3 => ?_
  walk_at "evW"
  refine ok__law_gives updL_same (fun Q E q => ?_) same_str fun N4 z4 => ?_
  · walk_at "evW"
    exact ok_compare Y1 Y2 (q _ (Ext.refl _))
  walk_at "evW"
  refine (R.ex (z3.trans z4)).app (by decide) fun N5 R => ?_
  walk_at "evW"
  refine ⟨R.lst, ?_⟩
  walk_at "evW"
  refine ok__law_gives updL_same (fun Q E q => ?_) (w := lw) (by rw [el]; unfold lstW; split <;> first | exact same_nu | (split <;> exact same_nu)) fun N4 z4 => ?_
  · walk_at "evW"
    refine ok_least_of Y1 Y2 ?_
    rw [← el]
    exact q _ (Ext.refl _)
  walk_at "evW"
  refine (R.ex z4).app (by decide) fun N5 R => ?_
  walk_at "evW"
  refine ⟨R.lst, ?_⟩
  walk_at "evW"
  refine ok__law_gives updL_same (fun Q E q => ?_) (w := nuW a3 b3 c3) same_nu fun N4 z4 => ?_
  · walk_at "evW"
    refine ok_greatest_of Y1 Y2 ?_
    rw [← eh]
    exact q _ (Ext.refl _)
  walk_at "evW"
  refine (R.ex z4).app (by decide) fun N5 R => ?_
  walk_at "evW"
  refine ⟨R.lst, ?_⟩
  walk_at "evW"
  refine ok__law_alike ?_
  walk_at "evW"
  refine ok__law_gives updL_same (fun Q E q => ?_) same_bl fun N4 z4 => ?_
  · walk_at "evW"
    exact ok_alike Y1 Y2 (q _ (Ext.refl _))
  walk_at "evW"
  refine (R.ex z4).app (by decide) fun N5 R => ?_
  walk_at "evW"
  refine if_nby (fun h1 => ?_) fun h1 => ?_
  · walk_at "evW"
    exact R.tru.all (h N5 R.ext)
  walk_at "evW"
  refine ok__law_turned ?_
  walk_at "evW"
  refine ⟨R.lst, ?_⟩
  walk_at "evW"
  refine ok__law_gives updL_same (fun Q E q => ?_) same_int fun N4 z4 => ?_
  · walk_at "evW"
    refine ok__law_turned ?_
    walk_at "evW"
    refine ok_total (tA_num Y2).1 (tA_num Y1).1 ?_
    have n1 : ¬ b1 = -2 := fun z => h1 (hn.mpr (.inl z))
    have n2 : ¬ b2 = -2 := fun z => h1 (hn.mpr (.inr z))
    have e1 : tA a1 b1 = 1 - a1 := by unfold tA; rw [if_neg n1]; omega
    have e2 : tA a2 b2 = 1 - a2 := by unfold tA; rw [if_neg n2]; omega
    have m1 := num_m Y1
    have m2 := num_m Y2
    have e : ordI (tA a2 b2) b2 c2 (tA a1 b1) b1 c1 = ordI a1 b1 c1 a2 b2 c2 := by
      rw [e1, e2]
      unfold ordI
      rw [lowF_comm c2 c1]
      exact tot_turn Y1.s01 Y2.s01 (by omega) (by omega)
    rw [e]
    exact q _ (Ext.refl _)
  walk_at "evW"
  refine (R.ex z4).app (by decide) fun N5 R => ?_
  walk_at "evW"
  exact R.tru.all (h N5 R.ext)
theorem ok__law_pair_right {a1 b1 c1 a2 b2 c2 : Int} (Y1 : IsNum a1 b1 c1) (Y2 : IsNum a2 b2 c2) (h : ∀ M', Ext M M' → Q (.bl true) M') : sp__law_pair_right G L [nuW a1 b1 c1, nuW a2 b2 c2] M Q E := by
  show t__law_pair_right G L ⟨fun _ M' => Q .non M', Q, fun _ _ => False, fun _ _ => False, fun C p _ M' => E C p M'⟩ [some (nuW a1 b1 c1), some (nuW a2 b2 c2), none, none, none, none, none] M
  unfold t__law_pair_right
  have eh := high_ok Y1 Y2
  have el := low_ok Y1 Y2
  walk_at "evX"
  refine ok__law_before Y1 Y2 ?_
  walk_at "evX"
  refine if_by (fun h1 => ?_) fun h1 => ?_
  · rw [if_pos h1] at eh
    have nz : b1 = -2 ↔ (b1 = -2 ∨ b2 = -2) := ⟨.inl, fun z => z.elim id fun z2 => by
      by_cases z1 : b1 = -2
      · exact z1
      · rw [ord_nan2 z1 z2] at h1
        omega⟩
    walk_at "evX"
    refine if_by (fun h2 => ?_) fun h2 => ?_
    · refine sAsg_i ?_
      refine tV_i rfl ?_
      exact pair_tail Y1 Y2 Y1 (by unfold lstW; rw [if_pos (.inl h2)]; exact (nan_eq Y1 h2).symm) eh.symm nz h
    · refine sNext_i ?_
      have n2 : ¬ b2 = -2 := fun z => h2 (nz.mpr (.inr z))
      have el := el h2 n2
      rw [if_pos h1] at el
      exact pair_tail Y1 Y2 Y1 el.symm eh.symm nz h
  · rw [if_neg h1] at eh
    have nz : b2 = -2 ↔ (b1 = -2 ∨ b2 = -2) := ⟨.inr, fun z => z.elim (fun z1 => by
      by_cases z2 : b2 = -2
      · exact z2
      · rw [ord_nan1 z1 z2] at h1
        omega) id⟩
    walk_at "evX"
    refine if_by (fun h2 => ?_) fun h2 => ?_
    · refine sAsg_i ?_
      refine tV_i rfl ?_
      exact pair_tail Y1 Y2 Y2 (by unfold lstW; rw [if_pos (.inr h2)]; exact (nan_eq Y2 h2).symm) eh.symm nz h
    · refine sNext_i ?_
      have n1 : ¬ b1 = -2 := fun z => h2 (nz.mpr (.inl z))
      have el := el n1 h2
      rw [if_neg h1] at el
      exact pair_tail Y1 Y2 Y2 el.symm eh.symm nz h
theorem ok__law_single_right {a b c : Int} (Y : IsNum a b c) (h : ∀ M', Ext M M' → Q (.bl true) M') : sp__law_single_right G L [nuW a b c] M Q E := by
  show t__law_single_right G L ⟨fun _ M' => Q .non M', Q, fun _ _ => False, fun _ _ => False, fun C p _ M' => E C p M'⟩ [some (nuW a b c), none, none] M
  unfold t__law_single_right
  obtain ⟨Y2, tt⟩ := tA_num Y
  walk_at "evW"
  refine ok__law_turned ?_
  walk_at "evW"
  refine ok__law_gives updL_same (fun Q E q => ?_) same_nu fun N1 z1 => ?_
  · walk_at "evW"
    exact ok_minus_t Y (q _ (Ext.refl _))
  walk_at "evW"
  intro q hq
  have R := Row.new z1 hq
  generalize put N1 q (.lst [.bl true]) = N2 at R
  walk_at "evW"
  refine ⟨R.lst, ?_⟩
  walk_at "evW"
  refine ok__law_gives updL_same (fun Q E q => ?_) (w := nuW a b c) same_nu fun N4 z4 => ?_
  · walk_at "evW"
    refine ok_minus_t Y2 ?_
    rw [tt]
    exact q _ (Ext.refl _)
  walk_at "evW"
  refine (R.ex z4).app (by decide) fun N5 R => ?_
  walk_at "evW"
  refine ⟨R.lst, ?_⟩
  walk_at "evW"
  refine ok__law_gives updL_same (fun Q E q => ?_) (w := nuW 0 b c) same_nu fun N4 z4 => ?_
  · walk_at "evW"
    exact ok_size Y (q _ (Ext.refl _))
  walk_at "evW"
  refine (R.ex z4).app (by decide) fun N5 R => ?_
  walk_at "evW"
  refine ⟨R.lst, ?_⟩
  walk_at "evW"
  refine ok__law_gives updL_same (fun Q E q => ?_) (w := nuW 0 b c) same_nu fun N4 z4 => ?_
  · walk_at "evW"
    exact ok_size Y2 (q _ (Ext.refl _))
  walk_at "evW"
  refine (R.ex z4).app (by decide) fun N5 R => ?_
  walk_at "evW"
  exact R.tru.all (h N5 R.ext)
theorem ok__law_refuses_size (F : ErrF G) {x : W} (hb : BadN s M x) (h : ∀ M', Ext M M' → Q (.bl true) M') : sp__law_refuses_size G L [x] M Q E := by
  show t__law_refuses_size G L ⟨fun _ M' => Q .non M', Q, fun _ _ => False, fun _ _ => False, fun C p _ M' => E C p M'⟩ [some (x)] M
  unfold t__law_refuses_size
  walk_at "evW"
  refine ok__law_refuses updL_same (fun Q E q => ?_) F.number h
  walk_at "evW"
  exact no_size hb (q _ (Ext.refl _))
def dTbl (G : Gm) : List (Addr × List W × SpW) := [(G.cls i_alike, [], (sp_alike G)), (G.cls i_compare, [], (sp_compare G)), (G.cls i_greatest_of, [], (sp_greatest_of G)), (G.cls i_least_of, [], (sp_least_of G)), (G.cls i_total, [], (sp_total G))]
abbrev dRow (G : Gm) : List W := [.ref (G.cls i_total), .ref (G.cls i_compare), .ref (G.cls i_least_of), .ref (G.cls i_greatest_of), .ref (G.cls i_alike)]
theorem deed_at {w : W} (h : w ∈ dRow G) : ∃ (j : Nat) (D : Addr) (sp : SpW), w = .ref D ∧ (dTbl G)[j]? = some (D, [], sp) ∧ (∀ {M : Mp} {Q : QK} {E : EK} {x y : W}, BadN s M x → E (G.cls i_BadNumber) none M → sp L0 [x, y] M Q E) ∧ ∀ {M : Mp} {Q : QK} {E : EK} {a b c : Int} {y : W}, IsNum a b c → BadN s M y → E (G.cls i_BadNumber) none M → sp L0 [nuW a b c, y] M Q E := by
  simp only [dRow, List.mem_cons, List.not_mem_nil, or_false] at h
  rcases h with rfl | rfl | rfl | rfl | rfl
  · exact ⟨4, _, _, rfl, rfl, fun hb h => no_total_1 hb h, fun Y hb h => no_total_2 Y hb h⟩
  · exact ⟨1, _, _, rfl, rfl, fun hb h => no_compare_1 hb h, fun Y hb h => no_compare_2 Y hb h⟩
  · exact ⟨3, _, _, rfl, rfl, fun hb h => no_least_of_1 hb h, fun Y hb h => no_least_of_2 Y hb h⟩
  · exact ⟨2, _, _, rfl, rfl, fun hb h => no_greatest_of_1 hb h, fun Y hb h => no_greatest_of_2 Y hb h⟩
  · exact ⟨0, _, _, rfl, rfl, fun hb h => no_alike_1 hb h, fun Y hb h => no_alike_2 Y hb h⟩
theorem ok__law_wrong (F : ErrF G) {a b c : Int} (Y : IsNum a b c) (S : SF M0 M s n) (hn : n + 20 ≤ 1000000) (h : ∀ M', SF M0 M' s (n + 20) → Q (.bl true) M') : sp__law_wrong G L [.ref s, nuW a b c] M Q E := by
  show t__law_wrong G L ⟨fun _ M' => Q .non M', Q, fun _ _ => False, fun _ _ => False, fun C p _ M' => E C p M'⟩ [some (.ref s), some (nuW a b c), none, none, none, none] M
  unfold t__law_wrong
  walk_at "evW"
  refine ok__law_bad_number Y (SF.start S.st) (by omega) fun off M2 ho S2 => ?_
  have S2 := S.then S2
  walk_at "evW"
  refine ok__law_refuses updL_same (fun Q E q => ?_) F.number fun N1 z1 => ?_
  · walk_at "evW"
    exact no_minus ho (q _ (Ext.refl _))
  have ho := ho.ls (LS.of_fr z1.fr)
  walk_at "evW"
  refine ok__law_refuses_size F ho fun N2 z2 => ?_
  have ho := ho.ls (LS.of_fr z2.fr)
  have S3 := (S2.keep z1).keep z2
  walk_at "evW"
  intro p1 hp1
  have T : TR N2 (put N2 p1 (.lst [.bl true])) s p1 _ 1 := ⟨SL.new (ws := List.replicate 1 (.bl true)) S3.st hp1⟩
  generalize put N2 p1 (.lst [.bl true]) = N at T
  refine seq_inv (fun τ' M' => TR N2 M' s p1 (n + 4) 16 ∧ ∃ o4, τ' = [some (.ref s), some (nuW a b c), some off, some (.ref p1), o4, none]) (fun τ' M' hq => ?_) fun kb hkb => ?_
  · clear T
    obtain ⟨T, o4, rfl⟩ := hq
    refine seq_inv (fun τ' M' => TR N2 M' s p1 (n + 4) 28 ∧ ∃ o5, τ' = [some (.ref s), some (nuW a b c), some off, some (.ref p1), o4, o5]) (fun τ' M' hq => ?_) fun kb hkb => ?_
    · obtain ⟨T, o5, rfl⟩ := hq
      walk_at "evW"
      exact T.all (h _ ((S3.then T.sl.sf).mono (by omega)))
    refine sForN_i (n := 2) (fun Q E q => ?_) rfl (by decide) ?_
    · walk_at "evW"
      exact q
    refine lpW_inv (fun j τ' M' => TR N2 M' s p1 (n + 4) (16 + 6 * j) ∧ ∃ o5, τ' = [some (.ref s), some (nuW a b c), some off, some (.ref p1), o4, o5]) _ 0 _ _ (fun j v τ' M' kd hj hq hkd => ?_) (fun τ' M' hq => ?_) ⟨T, _, rfl⟩
    rotate_left
    · obtain ⟨T, o5, rfl⟩ := hq
      rw [rngW_len] at T
      exact hkb _ _ ⟨T, _, rfl⟩
    clear T
    obtain ⟨T, o5, rfl⟩ := hq
    obtain ⟨hj2, rfl⟩ := rngW_at hj
    rw [Nat.zero_add] at T hkd
    have e3 : 16 + 6 * (j + 1) = 16 + 6 * j + 1 + 1 + 1 + 1 + 1 + 1 := by omega
    rw [e3] at hkd
    show sSeq _ _ ⟨_, _, _, _, _⟩ [some (.ref s), some (nuW a b c), some off, some (.ref p1), o4, some (.int (0 + (j : Int)))] M'
    walk_at "evW"
    refine ⟨T.lst, ?_⟩
    walk_at "evW"
    refine ok__law_gives updL_same (fun Q E q => ?_) (w := .int (-1)) same_int fun N z1 => ?_
    · walk_at "evW"
      refine ok_total y110 y010 ?_
      rw [show ordI 1 1 0 0 1 0 = -1 by decide +kernel]
      exact q _ (Ext.refl _)
    have T := T.keep z1
    walk_at "evW"
    refine T.app (by omega) fun N T f _ => ?_
    walk_at "evW"
    refine ⟨T.lst, ?_⟩
    walk_at "evW"
    refine ok__law_refuses updL_same (fun Q E q => ?_) F.number fun N z1 => ?_
    · walk_at "evW"
      exact no_total_1 (s := s) (.inr (.inr ⟨_, _, _, rfl, .inl (.inr (.inl ⟨_, rfl⟩))⟩)) (q _ (Ext.refl _))
    have T := T.keep z1
    walk_at "evW"
    refine T.app (by omega) fun N T f _ => ?_
    walk_at "evW"
    refine ⟨T.lst, ?_⟩
    walk_at "evW"
    refine ok__law_refuses updL_same (fun Q E q => ?_) F.number fun N z1 => ?_
    · walk_at "evW"
      exact no_total_2 (s := s) y110 (.inr (.inr ⟨_, _, _, rfl, .inr ⟨_, rfl, .inl (.inr (.inl ⟨_, rfl⟩))⟩⟩)) (q _ (Ext.refl _))
    have T := T.keep z1
    walk_at "evW"
    refine T.app (by omega) fun N T f _ => ?_
    walk_at "evW"
    refine ⟨T.lst, ?_⟩
    walk_at "evW"
    refine ok__law_gives updL_same (fun Q E q => ?_) (w := .str "same") same_str fun N z1 => ?_
    · walk_at "evW"
      refine ok_compare z10 z00 ?_
      rw [show wrdF 1 0 0 0 0 0 = "same" by unfold wrdF; rw [if_neg (by decide), if_pos (.inr ⟨rfl, rfl⟩)]]
      exact q _ (Ext.refl _)
    have T := T.keep z1
    walk_at "evW"
    refine T.app (by omega) fun N T f _ => ?_
    walk_at "evW"
    refine ⟨T.lst, ?_⟩
    walk_at "evW"
    refine ok__law_refuses updL_same (fun Q E q => ?_) F.number fun N z1 => ?_
    · walk_at "evW"
      exact no_compare_2 (s := s) z10 (.inr (.inr ⟨_, _, _, rfl, .inl (.inr (.inl ⟨_, rfl⟩))⟩)) (q _ (Ext.refl _))
    have T := T.keep z1
    walk_at "evW"
    refine T.app (by omega) fun N T f _ => ?_
    walk_at "evW"
    refine ⟨T.lst, ?_⟩
    walk_at "evW"
    refine ok__law_gives updL_same (fun Q E q => ?_) (w := nuW 1 0 0) same_nu fun N z1 => ?_
    · walk_at "evW"
      refine ok_least_of z00 z10 ?_
      have e : lstW 0 0 0 1 0 0 = nuW 1 0 0 := by
        unfold lstW
        rw [if_neg (by decide), if_neg (by decide +kernel)]
      rw [e]
      exact q _ (Ext.refl _)
    have T := T.keep z1
    walk_at "evW"
    refine T.app (by omega) fun N T f _ => ?_
    exact hkd _ _ ⟨T, _, rfl⟩
  show (Ev.tLst _) [some (.ref s), some (nuW a b c), some off, some (.ref p1), none, none] _ _ _
  walk_at "evX"
  intro q hq
  have qp : q ≠ p1 := fun z => by
    rw [z, T.sl.at_] at hq
    cases hq
  have kq := put_same (M := N) (a := q) (o := .lst (dRow G))
  have T := T.keep (Ext.new (o := .lst (dRow G)) hq)
  show ∃ ws, put N q (.lst (dRow G)) q = some (.lst ws) ∧ _
  generalize put N q (.lst (dRow G)) = N4 at T kq
  refine ⟨_, kq, ?_⟩
  refine lpL_inv (fun j τ' M' => (M' q = some (.lst (dRow G)) ∧ TR N2 M' s p1 (n + 4) (1 + 3 * j)) ∧ ∃ o4, τ' = [some (.ref s), some (nuW a b c), some off, some (.ref p1), o4, none]) _ 0 _ _ (fun _ _ _ hi => hi.1.1) (fun j v τ' M' kd hj hq hkd => ?_) (fun τ' M' hq => ?_) ⟨⟨kq, T⟩, _, rfl⟩
  rotate_left
  · obtain ⟨⟨_, T⟩, o4, rfl⟩ := hq
    exact hkb _ _ ⟨T, _, rfl⟩
  clear T kq
  obtain ⟨⟨kq, T⟩, o4, rfl⟩ := hq
  have hj2 : j < 5 := (List.getElem?_eq_some_iff.mp hj).1
  rw [Nat.zero_add] at T hkd
  have e4 : 1 + 3 * (j + 1) = 1 + 3 * j + 1 + 1 + 1 := by omega
  rw [e4] at hkd
  obtain ⟨i, D, sp, rfl, hi, no1, no2⟩ := deed_at (s := s) (mem_at hj)
  show sSeq _ _ ⟨_, _, _, _, _⟩ [some (.ref s), some (nuW a b c), some off, some (.ref p1), some (.ref D), none] M'
  walk_at "evW"
  refine ⟨T.lst, ?_⟩
  walk_at "evW"
  refine ok__law_refuses updL_same (fun Q E q => ?_) F.number fun N z1 => ?_
  · walk_at "evW"
    refine tFnV_i i hi rfl ?_
    walk_at "evW"
    exact no1 (ho.ls T.sl.sf.ls) (q _ (Ext.refl _))
  have T := T.keep z1
  have kq := z1 _ _ kq
  walk_at "evW"
  refine T.app (by omega) fun N T f _ => ?_
  have kq := (f _ qp).trans kq
  walk_at "evW"
  refine ⟨T.lst, ?_⟩
  walk_at "evW"
  refine ok__law_refuses updL_same (fun Q E q => ?_) F.number fun N z1 => ?_
  · walk_at "evW"
    refine tFnV_i i hi rfl ?_
    walk_at "evW"
    exact no2 Y (ho.ls T.sl.sf.ls) (q _ (Ext.refl _))
  have T := T.keep z1
  have kq := z1 _ _ kq
  walk_at "evW"
  refine T.app (by omega) fun N T f _ => ?_
  have kq := (f _ qp).trans kq
  walk_at "evW"
  refine ⟨T.lst, ?_⟩
  walk_at "evW"
  refine ok__law_refuses updL_same (fun Q E q => ?_) F.number fun N z1 => ?_
  · walk_at "evW"
    refine tFnV_i i hi rfl ?_
    walk_at "evW"
    exact no2 ynan (ho.ls T.sl.sf.ls) (q _ (Ext.refl _))
  have T := T.keep z1
  have kq := z1 _ _ kq
  walk_at "evW"
  refine T.app (by omega) fun N T f _ => ?_
  have kq := (f _ qp).trans kq
  exact hkd _ _ ⟨⟨kq, T⟩, _, rfl⟩
theorem ok_law (F : ErrF G) {xs : List Int} {w : W} (hw : w = .rol (xs.map W.int) ∨ ∃ a, w = .ref a ∧ M a = some (.lst (xs.map W.int))) (hx : ∀ x ∈ xs, Bd 1048576 x) (hl : xs.length ≤ 1000) (h : ∀ M', Q (.bl true) M') : sp_law G L [w] M Q E := by
  show t_law G L ⟨fun _ M' => Q .non M', Q, fun _ _ => False, fun _ _ => False, fun C p _ M' => E C p M'⟩ [some (w), none, none, none, none, none] M
  unfold t_law
  walk_at "evX"
  refine ok__law_store hw hx hl fun s M1 S1 => ?_
  refine seq_inv (fun τ' M' => ∃ o2 o3 o4 o5, τ' = [some w, some (.ref s), o2, o3, o4, o5]) (fun τ' M' hq => ?_) fun kb hkb => ?_
  · obtain ⟨o2, o3, o4, o5, rfl⟩ := hq
    walk_at "evX"
    exact h M'
  refine sForN_i (n := 2) (fun Q E q => ?_) rfl (by decide) ?_
  · walk_at "evX"
    exact q
  refine lpW_inv (fun j τ' M' => ∃ o2 o3 o4 o5, SF M1 M' s (100 * j) ∧ τ' = [some w, some (.ref s), o2, o3, o4, o5]) _ 0 _ _ (fun j v τ' M' kd hj hq hkd => ?_) (fun τ' M' hq => ?_) ⟨_, _, _, _, SF.start S1, rfl⟩
  rotate_left
  · obtain ⟨o2, o3, o4, o5, S, rfl⟩ := hq
    exact hkb _ _ ⟨_, _, _, _, rfl⟩
  obtain ⟨o2, o3, o4, o5, S, rfl⟩ := hq
  obtain ⟨hj2, rfl⟩ := rngW_at hj
  rw [Nat.zero_add] at S hkd
  show sSeq _ _ ⟨_, _, _, _, _⟩ [some w, some (.ref s), some (.int (0 + (j : Int))), o3, o4, o5] M'
  walk_at "evX"
  refine ok__law_row S (by omega) fun q ys M2 S2 kq nq ly hy => ?_
  refine seq_inv (fun τ' N => Ext M2 N ∧ ∃ o4 o5, τ' = [some w, some (.ref s), some (.int (0 + (j : Int))), some (.ref q), o4, o5]) (fun τ' M' hq => ?_) fun kb hkb => ?_
  · obtain ⟨x, o4, o5, rfl⟩ := hq
    walk_at "evX"
    obtain ⟨v, ev, hv⟩ := atI_in (ws := ys) (i := 0) (by decide) (by omega)
    refine wIx_ref (x _ _ kq) ev ?_
    obtain ⟨a, b, c, rfl, Y⟩ := hy v hv
    walk_at "evX"
    refine ok__law_wrong F Y (S2.keep x) (by omega) fun M5 S5 => ?_
    walk_at "evX"
    exact hkd _ _ ⟨_, _, _, _, S5.mono (by omega), rfl⟩
  refine ⟨_, kq, ?_⟩
  refine lpL_inv (fun _ τ' N => Ext M2 N ∧ ∃ o4 o5, τ' = [some w, some (.ref s), some (.int (0 + (j : Int))), some (.ref q), o4, o5]) _ 0 _ _ (fun _ _ _ hi => hi.1 _ _ kq) (fun j2 v τ' N kd2 hj2 hq hkd2 => ?_) (fun τ' N hq => hkb _ _ hq) ⟨Ext.refl _, _, _, rfl⟩
  obtain ⟨x, o4, o5, rfl⟩ := hq
  obtain ⟨a, b, c, rfl, Y⟩ := hy v (mem_at hj2)
  show sSeq _ _ ⟨_, _, _, _, _⟩ [some w, some (.ref s), some (.int (0 + (j : Int))), some (.ref q), some (nuW a b c), o5] N
  walk_at "evX"
  refine ok__law_single_right Y fun N2 x2 => ?_
  have x := x.trans x2
  refine isB_i ?_
  refine if_nf ?_
  refine sNext_i ?_
  show sFor _ _ _ ⟨_, _, _, _, _⟩ [some w, some (.ref s), some (.int (0 + (j : Int))), some (.ref q), some (nuW a b c), o5] N2
  refine ⟨_, x _ _ kq, ?_⟩
  refine lpL_inv (fun _ τ' N => Ext M2 N ∧ ∃ o5, τ' = [some w, some (.ref s), some (.int (0 + (j : Int))), some (.ref q), some (nuW a b c), o5]) _ 0 _ _ (fun _ _ _ hi => hi.1 _ _ kq) (fun j3 v τ' N kd3 hj3 hq hkd3 => ?_) (fun τ' N hq => ?_) ⟨x, _, rfl⟩
  rotate_left
  · obtain ⟨x, o5, rfl⟩ := hq
    exact hkd2 _ _ ⟨x, _, _, rfl⟩
  clear x
  obtain ⟨x, o5, rfl⟩ := hq
  obtain ⟨a2, b2, c2, rfl, Y2⟩ := hy v (mem_at hj3)
  show sIf _ _ _ ⟨_, _, _, _, _⟩ [some w, some (.ref s), some (.int (0 + (j : Int))), some (.ref q), some (nuW a b c), some (nuW a2 b2 c2)] N
  walk_at "evX"
  refine ok__law_pair_right Y Y2 fun N3 x3 => ?_
  walk_at "evX"
  exact hkd3 _ _ ⟨x.trans x3, _, rfl⟩
end k12

namespace k12
open PySem PySem.Spec PyProof.Rows L2 Ev
def k_NAN_v : List V := [(.int 0), (.int (-2)), (.int 0)]
theorem all_mk {w : World} {K : PySem.W.Frag} {h : Heap} {mg : Str → Option Value} {fa : Addr} {C0 : Addr} {C1 : Addr} {C2 : Addr} {C3 : Addr} {C4 : Addr} {C5 : Addr} {C6 : Addr} {C7 : Addr} {C8 : Addr} {C9 : Addr} {C10 : Addr} {C11 : Addr} {C12 : Addr} {C13 : Addr} {C14 : Addr} {C15 : Addr} {C16 : Addr} {a_NAN : Addr} {f_is_whole : Addr} {fd_is_whole : FuncData} {f_is_number : Addr} {fd_is_number : FuncData} {f_check_number : Addr} {fd_check_number : FuncData} {f_nan : Addr} {fd_nan : FuncData} {f_kind_of : Addr} {fd_kind_of : FuncData} {f_minus : Addr} {fd_minus : FuncData} {f_size : Addr} {fd_size : FuncData} {f_alike : Addr} {fd_alike : FuncData} {f_compare_sizes : Addr} {fd_compare_sizes : FuncData} {f_level : Addr} {fd_level : FuncData} {f_total : Addr} {fd_total : FuncData} {f_compare : Addr} {fd_compare : FuncData} {f_least_of : Addr} {fd_least_of : FuncData} {f_greatest_of : Addr} {fd_greatest_of : FuncData} {f__law_store : Addr} {fd__law_store : FuncData} {f__law_mix : Addr} {fd__law_mix : FuncData} {f__law_wide : Addr} {fd__law_wide : FuncData} {f__law_take : Addr} {fd__law_take : FuncData} {f__law_edge : Addr} {fd__law_edge : FuncData} {f__law_scaled : Addr} {fd__law_scaled : FuncData} {f__law_shuffled : Addr} {fd__law_shuffled : FuncData} {f__law_no_integer : Addr} {fd__law_no_integer : FuncData} {f__law_int : Addr} {fd__law_int : FuncData} {f__law_same : Addr} {fd__law_same : FuncData} {f__law_names : Addr} {fd__law_names : FuncData} {f__law_caught : Addr} {fd__law_caught : FuncData} {f__law_alike : Addr} {fd__law_alike : FuncData} {f__law_compare : Addr} {fd__law_compare : FuncData} {f__law_before : Addr} {fd__law_before : FuncData} {f__law_loose : Addr} {fd__law_loose : FuncData} {f__law_number : Addr} {fd__law_number : FuncData} {f__law_bad_number : Addr} {fd__law_bad_number : FuncData} {f__law_gives : Addr} {fd__law_gives : FuncData} {f__law_refuses : Addr} {fd__law_refuses : FuncData} {f__law_turned : Addr} {fd__law_turned : FuncData} {f__law_bounded : Addr} {fd__law_bounded : FuncData} {f__law_neighbour : Addr} {fd__law_neighbour : FuncData} {f__law_row : Addr} {fd__law_row : FuncData} {f__law_word_of : Addr} {fd__law_word_of : FuncData} {f__law_pair_right : Addr} {fd__law_pair_right : FuncData} {c__law_pair_right : Addr} {f__law_single_right : Addr} {fd__law_single_right : FuncData} {c__law_single_right : Addr} {f__law_refuses_size : Addr} {fd__law_refuses_size : FuncData} {c__law_refuses_size : Addr} {f__law_wrong : Addr} {fd__law_wrong : FuncData} {c__law_wrong : Addr} {f_law : Addr} {fd_law : FuncData} {P__law_pair_right : Addr} {P__law_refuses_size : Addr} {P__law_single_right : Addr} {P__law_wrong : Addr} (X : K.In h) (N : h.Ns mainGlobals mg) (hmg : mg "law" = some (.ref fa))
  (ac0 : PySem.W.nsIn K mainGlobals "Refused" = some (some (.ref C0)))
  (ac1 : PySem.W.nsIn K mainGlobals "BadCount" = some (some (.ref C1)))
  (ac2 : PySem.W.nsIn K mainGlobals "BadFormat" = some (some (.ref C2)))
  (ac3 : PySem.W.nsIn K mainGlobals "BadNumber" = some (some (.ref C3)))
  (ac4 : PySem.W.nsIn K mainGlobals "BadExact" = some (some (.ref C4)))
  (ac5 : PySem.W.nsIn K mainGlobals "BadMode" = some (some (.ref C5)))
  (ac6 : PySem.W.nsIn K mainGlobals "BadOp" = some (some (.ref C6)))
  (ac7 : PySem.W.nsIn K mainGlobals "BadText" = some (some (.ref C7)))
  (ac8 : PySem.W.nsIn K mainGlobals "BadCut" = some (some (.ref C8)))
  (ac9 : PySem.W.nsIn K mainGlobals "BadPlan" = some (some (.ref C9)))
  (ac10 : PySem.W.nsIn K mainGlobals "BadChain" = some (some (.ref C10)))
  (ac11 : PySem.W.nsIn K mainGlobals "BadFamily" = some (some (.ref C11)))
  (ac12 : PySem.W.nsIn K mainGlobals "BadSpan" = some (some (.ref C12)))
  (ac13 : PySem.W.nsIn K mainGlobals "BadProgram" = some (some (.ref C13)))
  (ac14 : PySem.W.nsIn K mainGlobals "BadBox" = some (some (.ref C14)))
  (ac15 : PySem.W.nsIn K mainGlobals "NotAsked" = some (some (.ref C15)))
  (ac16 : PySem.W.nsIn K mainGlobals "TooMany" = some (some (.ref C16)))
  (ex_BadNumber : PySem.W.excIn K C3 [.type "ValueError", .type "Exception", .type "BaseException", .type "object"] "ValueError.__new__" = true)
  (ek_BadNumber : PySem.W.keepIn K (.ref C3) = true)
  (es_BadNumber : PySem.W.subIn K (.ref C3) (.type "BaseException") = some true)
  (et_BadNumber : PySem.W.typeIn K (.ref C3) = some (.type "type"))
  (xg_BadNumber : PySem.W.findIn K (.ref C3) "__getattribute__" = some (some (.builtin "BaseException.__getattribute__")))
  (xk_BadNumber : PySem.W.findIn K (.ref C3) "__getattr__" = some none)
  (xd_BadNumber : PySem.W.hasDictIn K C3 = true)
  (xa_BadNumber : PySem.W.findIn K (.ref C3) "__class__" = some (some (.builtin "object.__class__")))
  (xm_BadNumber : PySem.W.mroIn K C3 (.type "object") = some true)
  (kv_BadNumber : PySem.W.kitOne K (.ref C3) (.type "ValueError") = some true)
  (kt_BadNumber : kitsB K 3 0 C3 [C0, C1, C2, C3, C4, C5, C6, C7, C8, C9, C10, C11, C12, C13, C14, C15, C16, f_alike, f_compare, f_greatest_of, f_least_of, f_total] 17 = true)
  (xn : PySem.W.specialIn K (.builtin "object.__class__") "__get__" = some (some (.builtin "getset_descriptor.__get__")))
  (xt : PySem.W.takesIn K (.builtin "object.__class__") = some true)
  (b_ValueError : PySem.W.nsIn K mainGlobals "ValueError" = some none)
  (b_abs : PySem.W.nsIn K mainGlobals "abs" = some none)
  (b_all : PySem.W.nsIn K mainGlobals "all" = some none)
  (b_bool : PySem.W.nsIn K mainGlobals "bool" = some none)
  (b_int : PySem.W.nsIn K mainGlobals "int" = some none)
  (b_isinstance : PySem.W.nsIn K mainGlobals "isinstance" = some none)
  (b_len : PySem.W.nsIn K mainGlobals "len" = some none)
  (b_list : PySem.W.nsIn K mainGlobals "list" = some none)
  (b_max : PySem.W.nsIn K mainGlobals "max" = some none)
  (b_min : PySem.W.nsIn K mainGlobals "min" = some none)
  (b_range : PySem.W.nsIn K mainGlobals "range" = some none)
  (b_str : PySem.W.nsIn K mainGlobals "str" = some none)
  (b_tuple : PySem.W.nsIn K mainGlobals "tuple" = some none)
  (m_NAN : PySem.W.nsIn K mainGlobals "NAN" = some (some (.ref a_NAN)))
  (g_NAN : ∀ mg : Str → Option Value, mg "NAN" = some (.ref a_NAN) → GlN K mg "NAN" k_NAN)
  (a_is_whole : PySem.W.nsIn K mainGlobals "is_whole" = some (some (.ref f_is_whole)))
  (F_is_whole : Fun K "is_whole" "is_whole" s_is_whole f_is_whole fd_is_whole)
  (a_is_number : PySem.W.nsIn K mainGlobals "is_number" = some (some (.ref f_is_number)))
  (F_is_number : Fun K "is_number" "is_number" s_is_number f_is_number fd_is_number)
  (a_check_number : PySem.W.nsIn K mainGlobals "check_number" = some (some (.ref f_check_number)))
  (F_check_number : Fun K "check_number" "check_number" s_check_number f_check_number fd_check_number)
  (a_nan : PySem.W.nsIn K mainGlobals "nan" = some (some (.ref f_nan)))
  (F_nan : Fun K "nan" "nan" s_nan f_nan fd_nan)
  (a_kind_of : PySem.W.nsIn K mainGlobals "kind_of" = some (some (.ref f_kind_of)))
  (F_kind_of : Fun K "kind_of" "kind_of" s_kind_of f_kind_of fd_kind_of)
  (a_minus : PySem.W.nsIn K mainGlobals "minus" = some (some (.ref f_minus)))
  (F_minus : Fun K "minus" "minus" s_minus f_minus fd_minus)
  (a_size : PySem.W.nsIn K mainGlobals "size" = some (some (.ref f_size)))
  (F_size : Fun K "size" "size" s_size f_size fd_size)
  (a_alike : PySem.W.nsIn K mainGlobals "alike" = some (some (.ref f_alike)))
  (F_alike : Fun K "alike" "alike" s_alike f_alike fd_alike)
  (a_compare_sizes : PySem.W.nsIn K mainGlobals "compare_sizes" = some (some (.ref f_compare_sizes)))
  (F_compare_sizes : Fun K "compare_sizes" "compare_sizes" s_compare_sizes f_compare_sizes fd_compare_sizes)
  (a_level : PySem.W.nsIn K mainGlobals "level" = some (some (.ref f_level)))
  (F_level : Fun K "level" "level" s_level f_level fd_level)
  (a_total : PySem.W.nsIn K mainGlobals "total" = some (some (.ref f_total)))
  (F_total : Fun K "total" "total" s_total f_total fd_total)
  (a_compare : PySem.W.nsIn K mainGlobals "compare" = some (some (.ref f_compare)))
  (F_compare : Fun K "compare" "compare" s_compare f_compare fd_compare)
  (a_least_of : PySem.W.nsIn K mainGlobals "least_of" = some (some (.ref f_least_of)))
  (F_least_of : Fun K "least_of" "least_of" s_least_of f_least_of fd_least_of)
  (a_greatest_of : PySem.W.nsIn K mainGlobals "greatest_of" = some (some (.ref f_greatest_of)))
  (F_greatest_of : Fun K "greatest_of" "greatest_of" s_greatest_of f_greatest_of fd_greatest_of)
  (a__law_store : PySem.W.nsIn K mainGlobals "_law_store" = some (some (.ref f__law_store)))
  (F__law_store : Fun K "_law_store" "_law_store" s__law_store f__law_store fd__law_store)
  (a__law_mix : PySem.W.nsIn K mainGlobals "_law_mix" = some (some (.ref f__law_mix)))
  (F__law_mix : Fun K "_law_mix" "_law_mix" s__law_mix f__law_mix fd__law_mix)
  (a__law_wide : PySem.W.nsIn K mainGlobals "_law_wide" = some (some (.ref f__law_wide)))
  (F__law_wide : Fun K "_law_wide" "_law_wide" s__law_wide f__law_wide fd__law_wide)
  (a__law_take : PySem.W.nsIn K mainGlobals "_law_take" = some (some (.ref f__law_take)))
  (F__law_take : Fun K "_law_take" "_law_take" s__law_take f__law_take fd__law_take)
  (a__law_edge : PySem.W.nsIn K mainGlobals "_law_edge" = some (some (.ref f__law_edge)))
  (F__law_edge : Fun K "_law_edge" "_law_edge" s__law_edge f__law_edge fd__law_edge)
  (a__law_scaled : PySem.W.nsIn K mainGlobals "_law_scaled" = some (some (.ref f__law_scaled)))
  (F__law_scaled : Fun K "_law_scaled" "_law_scaled" s__law_scaled f__law_scaled fd__law_scaled)
  (a__law_shuffled : PySem.W.nsIn K mainGlobals "_law_shuffled" = some (some (.ref f__law_shuffled)))
  (F__law_shuffled : Fun K "_law_shuffled" "_law_shuffled" s__law_shuffled f__law_shuffled fd__law_shuffled)
  (a__law_no_integer : PySem.W.nsIn K mainGlobals "_law_no_integer" = some (some (.ref f__law_no_integer)))
  (F__law_no_integer : Fun K "_law_no_integer" "_law_no_integer" s__law_no_integer f__law_no_integer fd__law_no_integer)
  (a__law_int : PySem.W.nsIn K mainGlobals "_law_int" = some (some (.ref f__law_int)))
  (F__law_int : Fun K "_law_int" "_law_int" s__law_int f__law_int fd__law_int)
  (a__law_same : PySem.W.nsIn K mainGlobals "_law_same" = some (some (.ref f__law_same)))
  (F__law_same : Fun K "_law_same" "_law_same" s__law_same f__law_same fd__law_same)
  (a__law_names : PySem.W.nsIn K mainGlobals "_law_names" = some (some (.ref f__law_names)))
  (F__law_names : Fun K "_law_names" "_law_names" s__law_names f__law_names fd__law_names)
  (a__law_caught : PySem.W.nsIn K mainGlobals "_law_caught" = some (some (.ref f__law_caught)))
  (F__law_caught : Fun K "_law_caught" "_law_caught" s__law_caught f__law_caught fd__law_caught)
  (a__law_alike : PySem.W.nsIn K mainGlobals "_law_alike" = some (some (.ref f__law_alike)))
  (F__law_alike : Fun K "_law_alike" "_law_alike" s__law_alike f__law_alike fd__law_alike)
  (a__law_compare : PySem.W.nsIn K mainGlobals "_law_compare" = some (some (.ref f__law_compare)))
  (F__law_compare : Fun K "_law_compare" "_law_compare" s__law_compare f__law_compare fd__law_compare)
  (a__law_before : PySem.W.nsIn K mainGlobals "_law_before" = some (some (.ref f__law_before)))
  (F__law_before : Fun K "_law_before" "_law_before" s__law_before f__law_before fd__law_before)
  (a__law_loose : PySem.W.nsIn K mainGlobals "_law_loose" = some (some (.ref f__law_loose)))
  (F__law_loose : Fun K "_law_loose" "_law_loose" s__law_loose f__law_loose fd__law_loose)
  (a__law_number : PySem.W.nsIn K mainGlobals "_law_number" = some (some (.ref f__law_number)))
  (F__law_number : Fun K "_law_number" "_law_number" s__law_number f__law_number fd__law_number)
  (a__law_bad_number : PySem.W.nsIn K mainGlobals "_law_bad_number" = some (some (.ref f__law_bad_number)))
  (F__law_bad_number : Fun K "_law_bad_number" "_law_bad_number" s__law_bad_number f__law_bad_number fd__law_bad_number)
  (a__law_gives : PySem.W.nsIn K mainGlobals "_law_gives" = some (some (.ref f__law_gives)))
  (F__law_gives : Fun K "_law_gives" "_law_gives" s__law_gives f__law_gives fd__law_gives)
  (a__law_refuses : PySem.W.nsIn K mainGlobals "_law_refuses" = some (some (.ref f__law_refuses)))
  (F__law_refuses : Fun K "_law_refuses" "_law_refuses" s__law_refuses f__law_refuses fd__law_refuses)
  (a__law_turned : PySem.W.nsIn K mainGlobals "_law_turned" = some (some (.ref f__law_turned)))
  (F__law_turned : Fun K "_law_turned" "_law_turned" s__law_turned f__law_turned fd__law_turned)
  (a__law_bounded : PySem.W.nsIn K mainGlobals "_law_bounded" = some (some (.ref f__law_bounded)))
  (F__law_bounded : Fun K "_law_bounded" "_law_bounded" s__law_bounded f__law_bounded fd__law_bounded)
  (a__law_neighbour : PySem.W.nsIn K mainGlobals "_law_neighbour" = some (some (.ref f__law_neighbour)))
  (F__law_neighbour : Fun K "_law_neighbour" "_law_neighbour" s__law_neighbour f__law_neighbour fd__law_neighbour)
  (a__law_row : PySem.W.nsIn K mainGlobals "_law_row" = some (some (.ref f__law_row)))
  (F__law_row : Fun K "_law_row" "_law_row" s__law_row f__law_row fd__law_row)
  (a__law_word_of : PySem.W.nsIn K mainGlobals "_law_word_of" = some (some (.ref f__law_word_of)))
  (F__law_word_of : Fun K "_law_word_of" "_law_word_of" s__law_word_of f__law_word_of fd__law_word_of)
  (a__law_pair_right : PySem.W.nsIn K mainGlobals "_law_pair_right" = some (some (.ref f__law_pair_right)))
  (F__law_pair_right : FunC K "_law_pair_right" "_law_pair_right" s__law_pair_right f__law_pair_right fd__law_pair_right c__law_pair_right)
  (a__law_single_right : PySem.W.nsIn K mainGlobals "_law_single_right" = some (some (.ref f__law_single_right)))
  (F__law_single_right : FunC K "_law_single_right" "_law_single_right" s__law_single_right f__law_single_right fd__law_single_right c__law_single_right)
  (a__law_refuses_size : PySem.W.nsIn K mainGlobals "_law_refuses_size" = some (some (.ref f__law_refuses_size)))
  (F__law_refuses_size : FunC K "_law_refuses_size" "_law_refuses_size" s__law_refuses_size f__law_refuses_size fd__law_refuses_size c__law_refuses_size)
  (a__law_wrong : PySem.W.nsIn K mainGlobals "_law_wrong" = some (some (.ref f__law_wrong)))
  (F__law_wrong : FunC K "_law_wrong" "_law_wrong" s__law_wrong f__law_wrong fd__law_wrong c__law_wrong)
  (a_law : PySem.W.nsIn K mainGlobals "law" = some (some (.ref f_law)))
  (F_law : Fun K "law" "law" s_law f_law fd_law)
  (tb__law_pair_right : TbIn K c__law_pair_right P__law_pair_right)
  (th__law_pair_right : PySem.W.codeHdIn K c__law_pair_right P__law_pair_right = true)
  (tn__law_pair_right : K.lookup P__law_pair_right = none)
  (tg__law_pair_right : h.get? P__law_pair_right = some (PySem.W.tabObj #[]))
  (tb__law_refuses_size : TbIn K c__law_refuses_size P__law_refuses_size)
  (th__law_refuses_size : PySem.W.codeHdIn K c__law_refuses_size P__law_refuses_size = true)
  (tn__law_refuses_size : K.lookup P__law_refuses_size = none)
  (tg__law_refuses_size : h.get? P__law_refuses_size = some (PySem.W.tabObj #[]))
  (tb__law_single_right : TbIn K c__law_single_right P__law_single_right)
  (th__law_single_right : PySem.W.codeHdIn K c__law_single_right P__law_single_right = true)
  (tn__law_single_right : K.lookup P__law_single_right = none)
  (tg__law_single_right : h.get? P__law_single_right = some (PySem.W.tabObj #[]))
  (tb__law_wrong : TbIn K c__law_wrong P__law_wrong)
  (th__law_wrong : PySem.W.codeHdIn K c__law_wrong P__law_wrong = true)
  (tn__law_wrong : K.lookup P__law_wrong = none)
  (tg__law_wrong : h.get? P__law_wrong = some (PySem.W.tabObj #[]))
  (ne_0_1 : P__law_pair_right ≠ P__law_refuses_size)
  (ne_0_2 : P__law_pair_right ≠ P__law_single_right)
  (ne_0_3 : P__law_pair_right ≠ P__law_wrong)
  (ne_1_2 : P__law_refuses_size ≠ P__law_single_right)
  (ne_1_3 : P__law_refuses_size ≠ P__law_wrong)
  (ne_2_3 : P__law_single_right ≠ P__law_wrong) :
  LawEv PySem.Challenge.rw_everyrounding_k12_order_of_numbers w K 105 "script" mg fa h := by
  have efa := hmg.symm.trans (PySem.W.mg_of X N a_law)
  cases efa
  let T : Tb := [(P__law_pair_right, (("_law_pair_right" : Str) ++ ".<locals>.") ++ "<lambda>"), (P__law_refuses_size, (("_law_refuses_size" : Str) ++ ".<locals>.") ++ "<lambda>"), (P__law_single_right, (("_law_single_right" : Str) ++ ".<locals>.") ++ "<lambda>"), (P__law_wrong, (("_law_wrong" : Str) ++ ".<locals>.") ++ "<lambda>")]
  let cs : List (Addr × Addr) := [(c__law_pair_right, P__law_pair_right), (c__law_refuses_size, P__law_refuses_size), (c__law_single_right, P__law_single_right), (c__law_wrong, P__law_wrong)]
  let G : Gm := { K := K, cls := fun n => ([C0, C1, C2, C3, C4, C5, C6, C7, C8, C9, C10, C11, C12, C13, C14, C15, C16, f_alike, f_compare, f_greatest_of, f_least_of, f_total] : List Addr).getD n 0, cd := fun n => ([c__law_pair_right, c__law_refuses_size, c__law_single_right, c__law_wrong] : List Addr).getD n 0, tb := fun n => ([P__law_pair_right, P__law_refuses_size, P__law_single_right, P__law_wrong] : List Addr).getD n 0 }
  refine ⟨fd_law, cs, T, sp_law G, ?_, ?_, ?_, ?_, ?_, ?_, ?_⟩
  · intro p hp
    simp only [cs, List.mem_cons, List.not_mem_nil, or_false] at hp
    rcases hp with rfl | rfl | rfl | rfl
    · exact tg__law_pair_right
    · exact tg__law_refuses_size
    · exact tg__law_single_right
    · exact tg__law_wrong
  · intro p hp
    simp only [cs, List.mem_cons, List.not_mem_nil, or_false] at hp
    rcases hp with rfl | rfl | rfl | rfl
    · exact tn__law_pair_right
    · exact tn__law_refuses_size
    · exact tn__law_single_right
    · exact tn__law_wrong
  · intro p hp
    simp only [cs, List.mem_cons, List.not_mem_nil, or_false] at hp
    rcases hp with rfl | rfl | rfl | rfl
    · exact PySem.W.codeHd_of_K X th__law_pair_right
    · exact PySem.W.codeHd_of_K X th__law_refuses_size
    · exact PySem.W.codeHd_of_K X th__law_single_right
    · exact PySem.W.codeHd_of_K X th__law_wrong
  · intro p hp
    simp only [T, List.mem_cons, List.not_mem_nil, or_false] at hp
    rcases hp with rfl | rfl | rfl | rfl
    · exact ⟨c__law_pair_right, by simp [cs]⟩
    · exact ⟨c__law_refuses_size, by simp [cs]⟩
    · exact ⟨c__law_single_right, by simp [cs]⟩
    · exact ⟨c__law_wrong, by simp [cs]⟩
  · obtain ⟨oc, od, kV, doc, pm, an, cdv, ct, osl, rfl, lk, hcd⟩ := F_law.ex
    exact fun s u => .of_eq rfl
  · intro M wv ns Q E hw hx hl hq
    exact ok_law (G := G) ⟨⟨⟨xg_BadNumber, xk_BadNumber, es_BadNumber, xd_BadNumber, xa_BadNumber, xn, xt, xm_BadNumber⟩, kits_one kt_BadNumber, kv_BadNumber, kits_exm kt_BadNumber⟩⟩ hw hx hl hq
  · intro base hK hN hS hTB
    have Fx : Fx PySem.Challenge.rw_everyrounding_k12_order_of_numbers.prog w mg base T G := ⟨(hS),
      (rfl),
      (PySem.W.mg_of X N ac14),
      (PySem.W.mg_of X N ac10),
      (PySem.W.mg_of X N ac1),
      (PySem.W.mg_of X N ac8),
      (PySem.W.mg_of X N ac4),
      (PySem.W.mg_of X N ac11),
      (PySem.W.mg_of X N ac2),
      (PySem.W.mg_of X N ac5),
      (PySem.W.mg_of X N ac3),
      (PySem.W.mg_of X N ac6),
      (PySem.W.mg_of X N ac9),
      (PySem.W.mg_of X N ac13),
      (PySem.W.mg_of X N ac12),
      (PySem.W.mg_of X N ac7),
      (PySem.W.mg_of X N ac15),
      (PySem.W.mg_of X N ac0),
      (PySem.W.mg_of X N ac16),
      (PySem.W.mg_of X N a_alike),
      (PySem.W.mg_of X N a_compare),
      (PySem.W.mg_of X N a_greatest_of),
      (PySem.W.mg_of X N a_least_of),
      (PySem.W.mg_of X N a_total),
      (⟨ex_BadNumber, ek_BadNumber, es_BadNumber, et_BadNumber⟩),
      (PySem.W.mg_none_of X N b_ValueError),
      (PySem.W.mg_none_of X N b_abs),
      (PySem.W.mg_none_of X N b_all),
      (PySem.W.mg_none_of X N b_bool),
      (PySem.W.mg_none_of X N b_int),
      (PySem.W.mg_none_of X N b_isinstance),
      (PySem.W.mg_none_of X N b_len),
      (PySem.W.mg_none_of X N b_list),
      (PySem.W.mg_none_of X N b_max),
      (PySem.W.mg_none_of X N b_min),
      (PySem.W.mg_none_of X N b_range),
      (PySem.W.mg_none_of X N b_str),
      (PySem.W.mg_none_of X N b_tuple),
      (g_NAN mg (PySem.W.mg_of X N m_NAN)),
      (hTB (c__law_pair_right, P__law_pair_right) (by simp [cs])),
      (by simp [T, G]),
      (fun p hp e => by
      simp only [T, List.mem_cons, List.not_mem_nil, or_false] at hp
      rcases hp with rfl | rfl | rfl | rfl
      · rfl
      · exact absurd e.symm ne_0_1
      · exact absurd e.symm ne_0_2
      · exact absurd e.symm ne_0_3),
      (hTB (c__law_refuses_size, P__law_refuses_size) (by simp [cs])),
      (by simp [T, G]),
      (fun p hp e => by
      simp only [T, List.mem_cons, List.not_mem_nil, or_false] at hp
      rcases hp with rfl | rfl | rfl | rfl
      · exact absurd e ne_0_1
      · rfl
      · exact absurd e.symm ne_1_2
      · exact absurd e.symm ne_1_3),
      (hTB (c__law_single_right, P__law_single_right) (by simp [cs])),
      (by simp [T, G]),
      (fun p hp e => by
      simp only [T, List.mem_cons, List.not_mem_nil, or_false] at hp
      rcases hp with rfl | rfl | rfl | rfl
      · exact absurd e ne_0_2
      · exact absurd e ne_1_2
      · rfl
      · exact absurd e.symm ne_2_3),
      (hTB (c__law_wrong, P__law_wrong) (by simp [cs])),
      (by simp [T, G]),
      (fun p hp e => by
      simp only [T, List.mem_cons, List.not_mem_nil, or_false] at hp
      rcases hp with rfl | rfl | rfl | rfl
      · exact absurd e ne_0_3
      · exact absurd e ne_1_3
      · exact absurd e ne_2_3
      · rfl)⟩
    have D_is_whole := dw_is_whole (T := T) Fx F_is_whole (PySem.W.mg_of X N a_is_whole) 
    have D_is_number := dw_is_number (T := T) Fx F_is_number (PySem.W.mg_of X N a_is_number) D_is_whole
    have D_check_number := dw_check_number (T := T) Fx F_check_number (PySem.W.mg_of X N a_check_number) D_is_number
    have D_nan := dw_nan (T := T) Fx F_nan (PySem.W.mg_of X N a_nan) 
    have D_kind_of := dw_kind_of (T := T) Fx F_kind_of (PySem.W.mg_of X N a_kind_of) D_check_number
    have D_minus := dw_minus (T := T) Fx F_minus (PySem.W.mg_of X N a_minus) D_check_number
    have D_size := dw_size (T := T) Fx F_size (PySem.W.mg_of X N a_size) D_check_number
    have D_alike := dw_alike (T := T) Fx F_alike (PySem.W.mg_of X N a_alike) D_check_number
    have D_compare_sizes := dw_compare_sizes (T := T) Fx F_compare_sizes (PySem.W.mg_of X N a_compare_sizes) 
    have D_level := dw_level (T := T) Fx F_level (PySem.W.mg_of X N a_level) D_kind_of
    have D_total := dw_total (T := T) Fx F_total (PySem.W.mg_of X N a_total) D_check_number D_compare_sizes D_level
    have D_compare := dw_compare (T := T) Fx F_compare (PySem.W.mg_of X N a_compare) D_check_number D_kind_of D_alike D_total
    have D_least_of := dw_least_of (T := T) Fx F_least_of (PySem.W.mg_of X N a_least_of) D_nan D_kind_of D_total
    have D_greatest_of := dw_greatest_of (T := T) Fx F_greatest_of (PySem.W.mg_of X N a_greatest_of) D_nan D_kind_of D_total
    have D__law_store := dw__law_store (T := T) Fx F__law_store (PySem.W.mg_of X N a__law_store) 
    have D__law_mix := dw__law_mix (T := T) Fx F__law_mix (PySem.W.mg_of X N a__law_mix) 
    have D__law_wide := dw__law_wide (T := T) Fx F__law_wide (PySem.W.mg_of X N a__law_wide) D__law_mix
    have D__law_take := dw__law_take (T := T) Fx F__law_take (PySem.W.mg_of X N a__law_take) D__law_mix D__law_wide
    have D__law_edge := dw__law_edge (T := T) Fx F__law_edge (PySem.W.mg_of X N a__law_edge) D__law_take
    have D__law_scaled := dw__law_scaled (T := T) Fx F__law_scaled (PySem.W.mg_of X N a__law_scaled) D__law_take
    have D__law_shuffled := dw__law_shuffled (T := T) Fx F__law_shuffled (PySem.W.mg_of X N a__law_shuffled) D__law_take
    have D__law_no_integer := dw__law_no_integer (T := T) Fx F__law_no_integer (PySem.W.mg_of X N a__law_no_integer) D__law_take
    have D__law_int := dw__law_int (T := T) Fx F__law_int (PySem.W.mg_of X N a__law_int) 
    have D__law_same := dw__law_same (T := T) Fx F__law_same (PySem.W.mg_of X N a__law_same) D__law_int
    have D__law_names := dw__law_names (T := T) Fx F__law_names (PySem.W.mg_of X N a__law_names) 
    have D__law_caught := dw__law_caught (T := T) Fx F__law_caught (PySem.W.mg_of X N a__law_caught) D__law_names
    have D__law_alike := dw__law_alike (T := T) Fx F__law_alike (PySem.W.mg_of X N a__law_alike) 
    have D__law_compare := dw__law_compare (T := T) Fx F__law_compare (PySem.W.mg_of X N a__law_compare) 
    have D__law_before := dw__law_before (T := T) Fx F__law_before (PySem.W.mg_of X N a__law_before) D__law_compare
    have D__law_loose := dw__law_loose (T := T) Fx F__law_loose (PySem.W.mg_of X N a__law_loose) D__law_take D__law_edge D__law_scaled
    have D__law_number := dw__law_number (T := T) Fx F__law_number (PySem.W.mg_of X N a__law_number) D__law_take D__law_loose
    have D__law_bad_number := dw__law_bad_number (T := T) Fx F__law_bad_number (PySem.W.mg_of X N a__law_bad_number) D__law_take D__law_no_integer
    have D__law_gives := dw__law_gives (T := T) Fx F__law_gives (PySem.W.mg_of X N a__law_gives) (D__law_same 6) D__law_caught
    have D__law_refuses := dw__law_refuses (T := T) Fx F__law_refuses (PySem.W.mg_of X N a__law_refuses) (D__law_same 6) D__law_caught
    have D__law_turned := dw__law_turned (T := T) Fx F__law_turned (PySem.W.mg_of X N a__law_turned) 
    have D__law_bounded := dw__law_bounded (T := T) Fx F__law_bounded (PySem.W.mg_of X N a__law_bounded) 
    have D__law_neighbour := dw__law_neighbour (T := T) Fx F__law_neighbour (PySem.W.mg_of X N a__law_neighbour) D__law_take D__law_edge D__law_bounded
    have D__law_row := dw__law_row (T := T) Fx F__law_row (PySem.W.mg_of X N a__law_row) D__law_take D__law_shuffled D__law_loose D__law_number D__law_neighbour
    have D__law_word_of := dw__law_word_of (T := T) Fx F__law_word_of (PySem.W.mg_of X N a__law_word_of) 
    have D__law_pair_right := dw__law_pair_right (T := T) Fx F__law_pair_right (PySem.W.mg_of X N a__law_pair_right) D_alike D_total D_compare D_least_of D_greatest_of D__law_alike D__law_before D__law_gives D__law_turned D__law_word_of
    have D__law_single_right := dw__law_single_right (T := T) Fx F__law_single_right (PySem.W.mg_of X N a__law_single_right) D_minus D_size D__law_gives D__law_turned
    have D__law_refuses_size := dw__law_refuses_size (T := T) Fx F__law_refuses_size (PySem.W.mg_of X N a__law_refuses_size) D_size D__law_refuses
    have D__law_wrong := dw__law_wrong (T := T) Fx F__law_wrong (PySem.W.mg_of X N a__law_wrong) D_minus D_alike D_total D_compare D_least_of D_greatest_of D__law_bad_number D__law_gives D__law_refuses D__law_refuses_size
    exact fw_law (T := T) Fx F_law (PySem.W.mg_of X N a_law) D__law_store D__law_row D__law_pair_right D__law_single_right D__law_wrong
theorem hF {w : World} {h : Heap} {K : PySem.W.Frag} (S : He.SaysX [] hFn [] hTf hEx w h K) (i : Nat) {b : Bool} (hb : (hFacts K)[i]? = some b := by rfl) : b = true := List.all_eq_true.mp S.more b (List.mem_of_getElem? hb)
theorem law_ev {w : World} {K : PySem.W.Frag} {h : Heap} {mg : Str → Option Value} {fa : Addr} (X : K.In h) (N : h.Ns mainGlobals mg) (hmg : mg "law" = some (.ref fa)) (S : He.SaysX [] hFn [] hTf hEx w h K) : LawEv PySem.Challenge.rw_everyrounding_k12_order_of_numbers w K 105 "script" mg fa h := by
  obtain ⟨fd_is_whole, FD_is_whole⟩ := He.SaysD.def_ S.t.d 0
  obtain ⟨fd_is_number, FD_is_number⟩ := He.SaysD.def_ S.t.d 1
  obtain ⟨fd_check_number, FD_check_number⟩ := He.SaysD.def_ S.t.d 2
  obtain ⟨fd_nan, FD_nan⟩ := He.SaysD.def_ S.t.d 3
  obtain ⟨fd_kind_of, FD_kind_of⟩ := He.SaysD.def_ S.t.d 4
  obtain ⟨fd_minus, FD_minus⟩ := He.SaysD.def_ S.t.d 5
  obtain ⟨fd_size, FD_size⟩ := He.SaysD.def_ S.t.d 6
  obtain ⟨fd_alike, FD_alike⟩ := He.SaysD.def_ S.t.d 7
  obtain ⟨fd_compare_sizes, FD_compare_sizes⟩ := He.SaysD.def_ S.t.d 8
  obtain ⟨fd_level, FD_level⟩ := He.SaysD.def_ S.t.d 9
  obtain ⟨fd_total, FD_total⟩ := He.SaysD.def_ S.t.d 10
  obtain ⟨fd_compare, FD_compare⟩ := He.SaysD.def_ S.t.d 11
  obtain ⟨fd_least_of, FD_least_of⟩ := He.SaysD.def_ S.t.d 12
  obtain ⟨fd_greatest_of, FD_greatest_of⟩ := He.SaysD.def_ S.t.d 13
  obtain ⟨fd__law_store, FD__law_store⟩ := He.SaysD.def_ S.t.d 14
  obtain ⟨fd__law_mix, FD__law_mix⟩ := He.SaysD.def_ S.t.d 15
  obtain ⟨fd__law_wide, FD__law_wide⟩ := He.SaysD.def_ S.t.d 16
  obtain ⟨fd__law_take, FD__law_take⟩ := He.SaysD.def_ S.t.d 17
  obtain ⟨fd__law_edge, FD__law_edge⟩ := He.SaysD.def_ S.t.d 18
  obtain ⟨fd__law_scaled, FD__law_scaled⟩ := He.SaysD.def_ S.t.d 19
  obtain ⟨fd__law_shuffled, FD__law_shuffled⟩ := He.SaysD.def_ S.t.d 20
  obtain ⟨fd__law_no_integer, FD__law_no_integer⟩ := He.SaysD.def_ S.t.d 21
  obtain ⟨fd__law_int, FD__law_int⟩ := He.SaysD.def_ S.t.d 22
  obtain ⟨fd__law_same, FD__law_same⟩ := He.SaysD.def_ S.t.d 23
  obtain ⟨fd__law_names, FD__law_names⟩ := He.SaysD.def_ S.t.d 24
  obtain ⟨fd__law_caught, FD__law_caught⟩ := He.SaysD.def_ S.t.d 25
  obtain ⟨fd__law_alike, FD__law_alike⟩ := He.SaysD.def_ S.t.d 26
  obtain ⟨fd__law_compare, FD__law_compare⟩ := He.SaysD.def_ S.t.d 27
  obtain ⟨fd__law_before, FD__law_before⟩ := He.SaysD.def_ S.t.d 28
  obtain ⟨fd__law_loose, FD__law_loose⟩ := He.SaysD.def_ S.t.d 29
  obtain ⟨fd__law_number, FD__law_number⟩ := He.SaysD.def_ S.t.d 30
  obtain ⟨fd__law_bad_number, FD__law_bad_number⟩ := He.SaysD.def_ S.t.d 31
  obtain ⟨fd__law_gives, FD__law_gives⟩ := He.SaysD.def_ S.t.d 32
  obtain ⟨fd__law_refuses, FD__law_refuses⟩ := He.SaysD.def_ S.t.d 33
  obtain ⟨fd__law_turned, FD__law_turned⟩ := He.SaysD.def_ S.t.d 34
  obtain ⟨fd__law_bounded, FD__law_bounded⟩ := He.SaysD.def_ S.t.d 35
  obtain ⟨fd__law_neighbour, FD__law_neighbour⟩ := He.SaysD.def_ S.t.d 36
  obtain ⟨fd__law_row, FD__law_row⟩ := He.SaysD.def_ S.t.d 37
  obtain ⟨fd__law_word_of, FD__law_word_of⟩ := He.SaysD.def_ S.t.d 38
  obtain ⟨fd__law_pair_right, FD__law_pair_right⟩ := He.SaysD.def_ S.t.d 39
  obtain ⟨fd__law_single_right, FD__law_single_right⟩ := He.SaysD.def_ S.t.d 40
  obtain ⟨fd__law_refuses_size, FD__law_refuses_size⟩ := He.SaysD.def_ S.t.d 41
  obtain ⟨fd__law_wrong, FD__law_wrong⟩ := He.SaysD.def_ S.t.d 42
  obtain ⟨fd_law, FD_law⟩ := He.SaysD.def_ S.t.d 43
  exact all_mk X N hmg (He.eqO_ok (k12.hF S 0)) (He.eqO_ok (k12.hF S 1)) (He.eqO_ok (k12.hF S 2)) (He.eqO_ok (k12.hF S 3)) (He.eqO_ok (k12.hF S 4)) (He.eqO_ok (k12.hF S 5)) (He.eqO_ok (k12.hF S 6)) (He.eqO_ok (k12.hF S 7)) (He.eqO_ok (k12.hF S 8)) (He.eqO_ok (k12.hF S 9)) (He.eqO_ok (k12.hF S 10)) (He.eqO_ok (k12.hF S 11)) (He.eqO_ok (k12.hF S 12)) (He.eqO_ok (k12.hF S 13)) (He.eqO_ok (k12.hF S 14)) (He.eqO_ok (k12.hF S 15)) (He.eqO_ok (k12.hF S 16)) (k12.hF S 17) (k12.hF S 18) (of_decide_eq_true (k12.hF S 19)) (of_decide_eq_true (k12.hF S 20)) (He.eqO_ok (k12.hF S 21)) (He.eqO_ok (k12.hF S 22)) (k12.hF S 23) (He.eqO_ok (k12.hF S 24)) (of_decide_eq_true (k12.hF S 25)) (of_decide_eq_true (k12.hF S 26)) (k12.hF S 27) (He.eqO_ok (k12.hF S 28)) (of_decide_eq_true (k12.hF S 29)) (He.eqO_ok (k12.hF S 30)) (He.eqO_ok (k12.hF S 31)) (He.eqO_ok (k12.hF S 32)) (He.eqO_ok (k12.hF S 33)) (He.eqO_ok (k12.hF S 34)) (He.eqO_ok (k12.hF S 35)) (He.eqO_ok (k12.hF S 36)) (He.eqO_ok (k12.hF S 37)) (He.eqO_ok (k12.hF S 38)) (He.eqO_ok (k12.hF S 39)) (He.eqO_ok (k12.hF S 40)) (He.eqO_ok (k12.hF S 41)) (He.eqO_ok (k12.hF S 42)) (He.eqO_ok (k12.hF S 43)) (fun mg hm => ⟨_, hm, .ref _, rfl, fun H => by unfold Ev.Rep; exact ⟨_, _, rfl, He.tupB_ok (k12.hF S 44) H, (Ev.reps_cons Ev.rep_int (Ev.reps_cons Ev.rep_int (Ev.reps_cons Ev.rep_int Ev.reps_nil)))⟩⟩) (He.eqO_ok (k12.hF S 45)) (He5.fun_of FD_is_whole) (He.eqO_ok (k12.hF S 46)) (He5.fun_of FD_is_number) (He.eqO_ok (k12.hF S 47)) (He5.fun_of FD_check_number) (He.eqO_ok (k12.hF S 48)) (He5.fun_of FD_nan) (He.eqO_ok (k12.hF S 49)) (He5.fun_of FD_kind_of) (He.eqO_ok (k12.hF S 50)) (He5.fun_of FD_minus) (He.eqO_ok (k12.hF S 51)) (He5.fun_of FD_size) (He.eqO_ok (k12.hF S 52)) (He5.fun_of FD_alike) (He.eqO_ok (k12.hF S 53)) (He5.fun_of FD_compare_sizes) (He.eqO_ok (k12.hF S 54)) (He5.fun_of FD_level) (He.eqO_ok (k12.hF S 55)) (He5.fun_of FD_total) (He.eqO_ok (k12.hF S 56)) (He5.fun_of FD_compare) (He.eqO_ok (k12.hF S 57)) (He5.fun_of FD_least_of) (He.eqO_ok (k12.hF S 58)) (He5.fun_of FD_greatest_of) (He.eqO_ok (k12.hF S 59)) (He5.fun_of FD__law_store) (He.eqO_ok (k12.hF S 60)) (He5.fun_of FD__law_mix) (He.eqO_ok (k12.hF S 61)) (He5.fun_of FD__law_wide) (He.eqO_ok (k12.hF S 62)) (He5.fun_of FD__law_take) (He.eqO_ok (k12.hF S 63)) (He5.fun_of FD__law_edge) (He.eqO_ok (k12.hF S 64)) (He5.fun_of FD__law_scaled) (He.eqO_ok (k12.hF S 65)) (He5.fun_of FD__law_shuffled) (He.eqO_ok (k12.hF S 66)) (He5.fun_of FD__law_no_integer) (He.eqO_ok (k12.hF S 67)) (He5.fun_of FD__law_int) (He.eqO_ok (k12.hF S 68)) (He5.fun_of FD__law_same) (He.eqO_ok (k12.hF S 69)) (He5.fun_of FD__law_names) (He.eqO_ok (k12.hF S 70)) (He5.fun_of FD__law_caught) (He.eqO_ok (k12.hF S 71)) (He5.fun_of FD__law_alike) (He.eqO_ok (k12.hF S 72)) (He5.fun_of FD__law_compare) (He.eqO_ok (k12.hF S 73)) (He5.fun_of FD__law_before) (He.eqO_ok (k12.hF S 74)) (He5.fun_of FD__law_loose) (He.eqO_ok (k12.hF S 75)) (He5.fun_of FD__law_number) (He.eqO_ok (k12.hF S 76)) (He5.fun_of FD__law_bad_number) (He.eqO_ok (k12.hF S 77)) (He5.fun_of FD__law_gives) (He.eqO_ok (k12.hF S 78)) (He5.fun_of FD__law_refuses) (He.eqO_ok (k12.hF S 79)) (He5.fun_of FD__law_turned) (He.eqO_ok (k12.hF S 80)) (He5.fun_of FD__law_bounded) (He.eqO_ok (k12.hF S 81)) (He5.fun_of FD__law_neighbour) (He.eqO_ok (k12.hF S 82)) (He5.fun_of FD__law_row) (He.eqO_ok (k12.hF S 83)) (He5.fun_of FD__law_word_of) (He.eqO_ok (k12.hF S 84)) (Ev.funC_of (p := ("_law_pair_right", none)) FD__law_pair_right) (He.eqO_ok (k12.hF S 85)) (Ev.funC_of (p := ("_law_single_right", none)) FD__law_single_right) (He.eqO_ok (k12.hF S 86)) (Ev.funC_of (p := ("_law_refuses_size", none)) FD__law_refuses_size) (He.eqO_ok (k12.hF S 87)) (Ev.funC_of (p := ("_law_wrong", none)) FD__law_wrong) (He.eqO_ok (k12.hF S 88)) (He5.fun_of FD_law) (Ev.tbB_ok (k12.hF S 89)) (S.hd ("_law_pair_right", none) (List.mem_of_getElem? (i := 0) rfl)) (S.out ("_law_pair_right", none) (List.mem_of_getElem? (i := 0) rfl)) (S.empty ("_law_pair_right", none) (List.mem_of_getElem? (i := 0) rfl)) (Ev.tbB_ok (k12.hF S 90)) (S.hd ("_law_refuses_size", none) (List.mem_of_getElem? (i := 1) rfl)) (S.out ("_law_refuses_size", none) (List.mem_of_getElem? (i := 1) rfl)) (S.empty ("_law_refuses_size", none) (List.mem_of_getElem? (i := 1) rfl)) (Ev.tbB_ok (k12.hF S 91)) (S.hd ("_law_single_right", none) (List.mem_of_getElem? (i := 2) rfl)) (S.out ("_law_single_right", none) (List.mem_of_getElem? (i := 2) rfl)) (S.empty ("_law_single_right", none) (List.mem_of_getElem? (i := 2) rfl)) (Ev.tbB_ok (k12.hF S 92)) (S.hd ("_law_wrong", none) (List.mem_of_getElem? (i := 3) rfl)) (S.out ("_law_wrong", none) (List.mem_of_getElem? (i := 3) rfl)) (S.empty ("_law_wrong", none) (List.mem_of_getElem? (i := 3) rfl)) (of_decide_eq_true (k12.hF S 93)) (of_decide_eq_true (k12.hF S 94)) (of_decide_eq_true (k12.hF S 95)) (of_decide_eq_true (k12.hF S 96)) (of_decide_eq_true (k12.hF S 97)) (of_decide_eq_true (k12.hF S 98))
end k12

open PySem PySem.W PyProof.Rows
set_option maxHeartbeats 8000000
theorem PySem.Challenge.cw_everyrounding_k12_order_of_numbers_holds : PySem.Challenge.rw_everyrounding_k12_order_of_numbers.Holds := by
  w_on; o_law
  refine HandSHeadRun.head_any (r := k12.hR) (q := k12.hV) (H := k12.hk) (ob := k12.hOb) (loose := k12.hNames) (kwd := []) (fun s => Ev.obsU_eq s) (by kernel_rfl) (fun s => by kernel_rfl) k12.hRun (by rfl) (by rfl) (by rfl) (by rfl) (by first | assumption | decide +kernel) (by decide +kernel) ⟨rfl, rfl, rfl, rfl, rfl, by decide +kernel⟩ ?hw ?hc
  case hw => w_witness2
  case hc =>
    exact Ev.walk_evX (l := PySem.Challenge.rw_everyrounding_k12_order_of_numbers) (n := 63) (k := 105) (x := "script") rfl (by decide) rfl ⟨rfl, by decide, by decide⟩ (by decide +kernel) fun w mg fa h Y N hmg => Y.elim fun K Z => ⟨K, Z.1, k12.law_ev Z.1 N hmg Z.2⟩
#print axioms PySem.Challenge.cw_everyrounding_k12_order_of_numbers_holds

